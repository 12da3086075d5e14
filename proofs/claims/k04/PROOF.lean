import PyProof.Rows.All
import Wide.All
import OpenK.AllK
import Wide.FinOn
import HandS.ForMost
import HandS.ForExc
import HandS.Lambda
import HandS.HotCalls
import HandS.ExcSuper
import HandS.ExcIs
import HandS.TryMany
import HandS.ExcField
import HandS.Zip
import HandS.Wide
import HandS.IsInst
import HandS.Deep
import HandS.Strs
import HandS.Flow
import HandS.Style
import HandS.EndTab
import HandS.FStr
import HandS.TupAny
import HandS.NoneIn
import KE.GoesEnum
import HandS.Defaults
import HandS.HeadHook2
import HandS.HeadEnd
import HandS.WordsDict
import HandS.HeadWalk
import HandS.HeadHook4
import HandS.Head2
import HandS.ExcBuiltin
import HandS.TupSets
import HandS.Conv
import HandS.TupMul
import HandS.DictComp
import HandS.TupLen
import KE.KDictPairs
import PySem.Challenge.RW_newnumbers_k04_ways_of_thirty_figures
set_option Elab.async false
set_option linter.all false
set_option maxRecDepth 100000
set_option maxHeartbeats 0
namespace PF
open PySem PySem.Spec PyProof.Rows L2
abbrev St := L2.St

/-! ## data, slots, outcomes (kt: a tuple among the module's constants) -/
inductive D where
  | non | bl (b : Bool) | int (i : Int) | str (s : Str)
  | tup (ds : List D) | lst (ds : List D) | kt (ds : List D)
  | dK (kvs : List (Key × D)) | dT (kvs : List (List Key × D))
  | ob (C : Addr) (fs : List (Str × D))
  | vv (v : V)
/-- a name's slot: nothing known; data that is never changed; data of its own (io: handed in, and handed back) -/
inductive Sl where
  | un | fz (d : D) | ow (io : Bool) (d : D)
abbrev En := List Sl
/-- what an expression hands on: data, a new object that nobody else has, or the name of an own one -/
inductive Op where
  | val (d : D) | fresh (d : D) | slot (i : Nat)
inductive Res (α : Type) where
  | ok (a : α) (en : En) | exc (c : Str) (pl : Option D) (en : En) | stuck
/-- how a statement ends -/
inductive Fl where
  | nx | bk | ct | rt (o : Op)
abbrev ER := Res Op
abbrev TR := Res Bool
abbrev AR := Res (List Op)
abbrev IR := Res (List D)
abbrev SR := Res Fl
def Res.bind {α β : Type} (r : Res α) (k : α → En → Res β) : Res β := match r with
  | .ok a en => k a en
  | .exc c pl en => .exc c pl en
  | .stuck => .stuck
/-- a call's end: whether the answer is a new object, the answer, the parameters' slots behind it -/
inductive FR where
  | ok (fr : Bool) (d : D) (outs : List Sl) | exc (c : Str) (pl : Option D) (outs : List Sl) | stuck
abbrev EF := En → ER
abbrev TF := En → TR
abbrev AF := En → AR
abbrev IF := En → IR
abbrev SF := En → SR
abbrev FS := List Sl → FR

/-! ## how data lies in a heap -/
section
variable (K : PySem.W.Frag) (G : Hp)
mutual
inductive Rep : D → V → Prop
  | non : Rep .non .non
  | bl (b : Bool) : Rep (.bl b) (.bl b)
  | int (i : Int) : Rep (.int i) (.int i)
  | str (s : Str) : Rep (.str s) (.str s)
  | tup {a : Addr} {ds : List D} {xs : List V} : G a = some (.tup xs) → RepL ds xs → Rep (.tup ds) (.ref a)
  | kt {a : Addr} {ds : List D} {xs : List V} : SqT K G a xs → RepL ds xs → Rep (.kt ds) (.ref a)
  | lst {a : Addr} {ds : List D} {xs : List V} : SqL K G a xs → RepL ds xs → Rep (.lst ds) (.ref a)
  | dK {a : Addr} {ds : List (Key × D)} {kvs : List (Key × V)} : G a = some (.dK kvs) → RepK ds kvs → Rep (.dK ds) (.ref a)
  | dT {a : Addr} {ds : List (List Key × D)} {kvs : List (List Key × V)} : G a = some (.dT kvs) → RepT ds kvs → Rep (.dT ds) (.ref a)
  | ob {a C dx : Addr} {ds : List (Str × D)} {fs : List (Str × V)} : G a = some (.ins C dx fs) → RepF ds fs → Rep (.ob C ds) (.ref a)
  | vv (v : V) : Rep (.vv v) v
inductive RepL : List D → List V → Prop
  | nil : RepL [] []
  | cons {d : D} {v : V} {ds : List D} {vs : List V} : Rep d v → RepL ds vs → RepL (d :: ds) (v :: vs)
inductive RepK : List (Key × D) → List (Key × V) → Prop
  | nil : RepK [] []
  | cons {k : Key} {d : D} {v : V} {ds : List (Key × D)} {vs : List (Key × V)} : Rep d v → RepK ds vs → RepK ((k, d) :: ds) ((k, v) :: vs)
inductive RepT : List (List Key × D) → List (List Key × V) → Prop
  | nil : RepT [] []
  | cons {k : List Key} {d : D} {v : V} {ds : List (List Key × D)} {vs : List (List Key × V)} : Rep d v → RepT ds vs → RepT ((k, d) :: ds) ((k, v) :: vs)
inductive RepF : List (Str × D) → List (Str × V) → Prop
  | nil : RepF [] []
  | cons {k : Str} {d : D} {v : V} {ds : List (Str × D)} {vs : List (Str × V)} : Rep d v → RepF ds vs → RepF ((k, d) :: ds) ((k, v) :: vs)
end
/-- an object's content as data -/
inductive RepO : D → HO → Prop
  | lst {ds : List D} {xs : List V} : RepL K G ds xs → RepO (.lst ds) (.lst xs)
  | dK {ds : List (Key × D)} {kvs : List (Key × V)} : RepK K G ds kvs → RepO (.dK ds) (.dK kvs)
  | dT {ds : List (List Key × D)} {kvs : List (List Key × V)} : RepT K G ds kvs → RepO (.dT ds) (.dT kvs)
  | ob {C dx : Addr} {ds : List (Str × D)} {fs : List (Str × V)} : RepF K G ds fs → RepO (.ob C ds) (.ins C dx fs)
end

def NoTb (o : HO) : Prop := ∀ ps, o ≠ .tbl ps
def Sub (G H : Hp) : Prop := ∀ b o, G b = some o → H b = some o
/-- nothing of ours stands at p -/
def Hn (H : Hp) (p : Addr) : Prop := ∀ o, H p = some o → ∃ ps, o = .tbl ps
theorem Hn.of {H : Hp} {p : Addr} (h : H p = none) : Hn H p := fun o e => by rw [h] at e; cases e
theorem Sub.refl (G : Hp) : Sub G G := fun _ _ h => h
theorem Sub.trans {G H I : Hp} (a : Sub G H) (b : Sub H I) : Sub G I := fun x o h => b x o (a x o h)
theorem Sub.rd {G H : Hp} (e : Sub G H) {a : Addr} {u : HO} (h : Rd G a u) : Rd H a u := by
  rcases h with h | ⟨o, h⟩
  · exact Or.inl (e a _ h)
  · exact Or.inr ⟨o, e a _ h⟩
theorem Sub.l {K : PySem.W.Frag} {G H : Hp} (e : Sub G H) {a : Addr} {xs : List V} (h : SqL K G a xs) : SqL K H a xs := by
  rcases h with h | h
  · exact Or.inl (e.rd h)
  · exact Or.inr h
theorem Sub.t {K : PySem.W.Frag} {G H : Hp} (e : Sub G H) {a : Addr} {xs : List V} (h : SqT K G a xs) : SqT K H a xs := by
  rcases h with h | h
  · exact Or.inl (e.rd h)
  · exact Or.inr h
theorem Sub.new {G : Hp} {p : Addr} {o : HO} (h : G p = none) : Sub G (upd G p o) := fun a u e => by
  rw [upd_ne (ne_of_none e h)]
  exact e
theorem Sub.none {G H : Hp} (e : Sub G H) {p : Addr} (h : H p = none) : G p = none := by
  cases q : G p with
  | none => rfl
  | some o =>
    rw [e p o q] at h
    cases h
section
variable {K : PySem.W.Frag} {G H : Hp}
mutual
theorem Rep.mono (e : Sub G H) : ∀ {d : D} {v : V}, Rep K G d v → Rep K H d v
  | _, _, .non => .non
  | _, _, .bl b => .bl b
  | _, _, .int i => .int i
  | _, _, .str s => .str s
  | _, _, .tup h r => .tup (e _ _ h) (RepL.mono e r)
  | _, _, .kt h r => .kt (e.t h) (RepL.mono e r)
  | _, _, .lst h r => .lst (e.l h) (RepL.mono e r)
  | _, _, .dK h r => .dK (e _ _ h) (RepK.mono e r)
  | _, _, .dT h r => .dT (e _ _ h) (RepT.mono e r)
  | _, _, .ob h r => .ob (e _ _ h) (RepF.mono e r)
  | _, _, .vv v => .vv v
theorem RepL.mono (e : Sub G H) : ∀ {ds : List D} {vs : List V}, RepL K G ds vs → RepL K H ds vs
  | _, _, .nil => .nil
  | _, _, .cons h r => .cons (Rep.mono e h) (RepL.mono e r)
theorem RepK.mono (e : Sub G H) : ∀ {ds : List (Key × D)} {vs : List (Key × V)}, RepK K G ds vs → RepK K H ds vs
  | _, _, .nil => .nil
  | _, _, .cons h r => .cons (Rep.mono e h) (RepK.mono e r)
theorem RepT.mono (e : Sub G H) : ∀ {ds : List (List Key × D)} {vs : List (List Key × V)}, RepT K G ds vs → RepT K H ds vs
  | _, _, .nil => .nil
  | _, _, .cons h r => .cons (Rep.mono e h) (RepT.mono e r)
theorem RepF.mono (e : Sub G H) : ∀ {ds : List (Str × D)} {vs : List (Str × V)}, RepF K G ds vs → RepF K H ds vs
  | _, _, .nil => .nil
  | _, _, .cons h r => .cons (Rep.mono e h) (RepF.mono e r)
end
theorem RepO.mono (e : Sub G H) {d : D} {o : HO} (h : RepO K G d o) : RepO K H d o := by
  cases h with
  | lst r => exact .lst (r.mono e)
  | dK r => exact .dK (r.mono e)
  | dT r => exact .dT (r.mono e)
  | ob r => exact .ob (r.mono e)
theorem RepO.notb {d : D} {o : HO} (h : RepO K G d o) : NoTb o := by
  intro ps e
  cases h <;> cases e
theorem RepO.noext {d : D} {o : HO} (h : RepO K G d o) : ∀ φ, o ≠ .ext φ := by
  intro ps e
  cases h <;> cases e
/-- an object's content, frozen where it stands -/
theorem RepO.rep {d : D} {o : HO} {p : Addr} (hp : G p = some o) (h : RepO K G d o) : Rep K G d (.ref p) := by
  cases h with
  | lst r => exact .lst (SqL.of hp) r
  | dK r => exact .dK hp r
  | dT r => exact .dT hp r
  | ob r => exact .ob hp r
theorem RepL.len {ds : List D} {vs : List V} (h : RepL K G ds vs) : ds.length = vs.length := by
  match h with
  | .nil => rfl
  | .cons _ r => simp [RepL.len r]
theorem RepL.get {ds : List D} {vs : List V} (h : RepL K G ds vs) : ∀ {i : Nat} {d : D}, ds[i]? = some d → ∃ v, vs[i]? = some v ∧ Rep K G d v := by
  match h with
  | .nil => intro i d e; simp at e
  | .cons h r =>
    intro i d e
    cases i with
    | zero => simp at e; subst e; exact ⟨_, rfl, h⟩
    | succ i => simpa using RepL.get r (by simpa using e)
theorem RepL.getV {ds : List D} {vs : List V} (h : RepL K G ds vs) : ∀ {i : Nat} {v : V}, vs[i]? = some v → ∃ d, ds[i]? = some d ∧ Rep K G d v := by
  match h with
  | .nil => intro i d e; simp at e
  | .cons h r =>
    intro i d e
    cases i with
    | zero => simp at e; subst e; exact ⟨_, rfl, h⟩
    | succ i => simpa using RepL.getV r (by simpa using e)
theorem RepL.app {ds es : List D} {vs ws : List V} (h : RepL K G ds vs) (k : RepL K G es ws) : RepL K G (ds ++ es) (vs ++ ws) := by
  match h with
  | .nil => exact k
  | .cons h r => exact .cons h (RepL.app r k)
theorem RepL.take {ds : List D} {vs : List V} (h : RepL K G ds vs) : ∀ n, RepL K G (ds.take n) (vs.take n) := by
  match h with
  | .nil => intro n; simpa using RepL.nil
  | .cons h r =>
    intro n
    cases n with
    | zero => exact .nil
    | succ n => exact .cons h (RepL.take r n)
theorem RepL.drop {ds : List D} {vs : List V} (h : RepL K G ds vs) : ∀ n, RepL K G (ds.drop n) (vs.drop n) := by
  match h with
  | .nil => intro n; simpa using RepL.nil
  | .cons h r =>
    intro n
    cases n with
    | zero => exact .cons h r
    | succ n => exact RepL.drop r n
theorem RepL.set {ds : List D} {vs : List V} (h : RepL K G ds vs) {d : D} {v : V} (q : Rep K G d v) : ∀ n, RepL K G (ds.set n d) (vs.set n v) := by
  match h with
  | .nil => intro n; simpa using RepL.nil
  | .cons h r =>
    intro n
    cases n with
    | zero => exact .cons q r
    | succ n => exact .cons h (RepL.set r q n)
theorem RepL.rev {ds : List D} {vs : List V} (h : RepL K G ds vs) : RepL K G ds.reverse vs.reverse := by
  match h with
  | .nil => exact .nil
  | .cons h r => simpa using RepL.app (RepL.rev r) (.cons h .nil)
theorem RepL.ints {ns : List Int} {vs : List V} (h : RepL K G (ns.map D.int) vs) : vs = ns.map V.int := by
  induction ns generalizing vs with
  | nil => cases h; rfl
  | cons n ns ih =>
    cases h with
    | cons h r =>
      cases h
      rw [ih r]
      rfl
theorem RepL.ofInts : ∀ (ns : List Int), RepL K G (ns.map D.int) (ns.map V.int)
  | [] => .nil
  | n :: ns => .cons (.int n) (RepL.ofInts ns)
theorem RepL.bls {ns : List Bool} {vs : List V} (h : RepL K G (ns.map D.bl) vs) : vs = ns.map V.bl := by
  induction ns generalizing vs with
  | nil => cases h; rfl
  | cons n ns ih =>
    cases h with
    | cons h r =>
      cases h
      rw [ih r]
      rfl
end

/-! ## the state -/
def HF (K : PySem.W.Frag) (H : Hp) : Prop := (∀ a xs, SqL K H a xs → xs.length ≤ sizeLine) ∧ ∀ a xs, SqT K H a xs → xs.length ≤ sizeLine
/-- an object of one's own at p -/
def OwnAt (K : PySem.W.Frag) (G H : Hp) (p : Addr) (d : D) : Prop := G p = none ∧ ∃ o, H p = some o ∧ RepO K G d o
def SlOk (K : PySem.W.Frag) (G H : Hp) (x : Option (Option V)) : Sl → Prop
  | .un => True
  | .fz d => ∃ v, x = some (some v) ∧ Rep K G d v
  | .ow _ d => ∃ p, x = some (some (.ref p)) ∧ OwnAt K G H p d
def own (σ : St) (en : En) (p : Addr) : Prop := ∃ (i : Nat) (b : Bool) (d : D), en[i]? = some (.ow b d) ∧ σ[i]? = some (some (.ref p))
structure Rel (K : PySem.W.Frag) (T : List (Addr × Str)) (G : Hp) (σ : St) (H : Hp) (en : En) : Prop where
  sub : Sub G H
  gt : ∀ b o, G b = some o → NoTb o
  tabs : LamX.Tabs T H
  hf : HF K H
  len : σ.length = en.length
  at_ : ∀ (i : Nat) (s : Sl), en[i]? = some s → SlOk K G H σ[i]? s
  sep : ∀ (i j : Nat) (b c : Bool) (d e : D) (p : Addr), en[i]? = some (.ow b d) → en[j]? = some (.ow c e) → σ[i]? = some (some (.ref p)) → σ[j]? = some (some (.ref p)) → i = j
/-- what is left as it was -/
structure Fr (G H : Hp) (O : Addr → Prop) (G' H' : Hp) (O' : Addr → Prop) : Prop where
  keep : ∀ b o, H b = some o → NoTb o → ¬ O b → H' b = some o ∧ G' b = G b
  new : ∀ p, O' p → O p ∨ Hn H p
theorem Fr.refl {G H : Hp} {O : Addr → Prop} : Fr G H O G H O := ⟨fun _ _ h _ _ => ⟨h, rfl⟩, fun _ h => .inl h⟩
theorem Fr.trans {G H G1 H1 G2 H2 : Hp} {O O1 O2 : Addr → Prop} (a : Fr G H O G1 H1 O1) (b : Fr G1 H1 O1 G2 H2 O2) : Fr G H O G2 H2 O2 where
  keep := fun x o h n no => by
    obtain ⟨h1, g1⟩ := a.keep x o h n no
    have no1 : ¬ O1 x := fun z => by
      rcases a.new x z with q | q
      · exact no q
      · obtain ⟨ps, e⟩ := q o h
        exact n ps e
    obtain ⟨h2, g2⟩ := b.keep x o h1 n no1
    exact ⟨h2, g2.trans g1⟩
  new := fun p h => by
    rcases b.new p h with q | q
    · exact a.new p q
    · refine (Classical.em (O p)).imp id fun no o e => ?_
      refine Classical.byContradiction fun n => ?_
      have nt : NoTb o := fun ps z => n ⟨ps, z⟩
      obtain ⟨h1, _⟩ := a.keep p o e nt no
      obtain ⟨ps, z⟩ := q o h1
      exact nt ps z
theorem Fr.sub {G H G' H' : Hp} {O O' : Addr → Prop} (a : Fr G H O G' H' O') (s : Sub G H) (gt : ∀ b o, G b = some o → NoTb o) (hO : ∀ p, O p → G p = none) : Sub G G' := fun b o e => by
  have no : ¬ O b := fun z => by rw [hO b z] at e; cases e
  rw [(a.keep b o (s b o e) (gt b o e) no).2]
  exact e
theorem Fr.weak {G H G' H' : Hp} {O O' O1 : Addr → Prop} (a : Fr G H O G' H' O') (h : ∀ p, O1 p → O' p) : Fr G H O G' H' O1 := ⟨a.keep, fun p q => a.new p (h p q)⟩
/-- what an op is -/
def RelO (K : PySem.W.Frag) (G H : Hp) (σ : St) (en : En) : Op → V → Prop
  | .val d, v => Rep K G d v
  | .fresh d, v => ∃ p, v = .ref p ∧ OwnAt K G H p d ∧ ¬ own σ en p
  | .slot i, v => σ[i]? = some (some v)
def frO : Op → V → Addr → Prop
  | .fresh _, v, p => v = .ref p
  | _, _, _ => False
theorem own_none {K : PySem.W.Frag} {T : List (Addr × Str)} {G H : Hp} {σ : St} {en : En} (R : Rel K T G σ H en) {p : Addr} (h : own σ en p) : G p = none := by
  obtain ⟨i, b, d, e, q⟩ := h
  obtain ⟨p', h1, h2, _⟩ := R.at_ i _ e
  rw [q] at h1
  cases h1
  exact h2
theorem own_some {K : PySem.W.Frag} {T : List (Addr × Str)} {G H : Hp} {σ : St} {en : En} (R : Rel K T G σ H en) {p : Addr} (h : own σ en p) : ∃ o, H p = some o ∧ NoTb o := by
  obtain ⟨i, b, d, e, q⟩ := h
  obtain ⟨p', h1, _, o, h3, h4⟩ := R.at_ i _ e
  rw [q] at h1
  cases h1
  exact ⟨o, h3, h4.notb⟩
/-- own slots that were handed in stay so -/
def IoK (en en' : En) : Prop := ∀ (i : Nat) (d : D), en[i]? = some (.ow true d) → ∃ d' : D, en'[i]? = some (.ow true d')
theorem IoK.refl (en : En) : IoK en en := fun i d h => ⟨d, h⟩
theorem IoK.trans {a b c : En} (h : IoK a b) (k : IoK b c) : IoK a c := fun i d e => by
  obtain ⟨d', e'⟩ := h i d e
  exact k i d' e'
/-- the same, with where they stand -/
def IoS (σ : St) (en : En) (σ' : St) (en' : En) : Prop := ∀ (i : Nat) (d : D), en[i]? = some (.ow true d) → (∃ d' : D, en'[i]? = some (.ow true d')) ∧ σ'[i]? = σ[i]?
theorem IoS.refl (σ : St) (en : En) : IoS σ en σ en := fun i d h => ⟨⟨d, h⟩, rfl⟩
theorem IoS.trans {σ σ1 σ2 : St} {a b c : En} (h : IoS σ a σ1 b) (k : IoS σ1 b σ2 c) : IoS σ a σ2 c := fun i d e => by
  obtain ⟨⟨d', e'⟩, q⟩ := h i d e
  obtain ⟨x, q'⟩ := k i d' e'
  exact ⟨x, q'.trans q⟩
theorem IoK.s {σ : St} {a b : En} (h : IoK a b) : IoS σ a σ b := fun i d e => ⟨h i d e, rfl⟩
end PF
namespace PF
open PySem PySem.Spec PyProof.Rows L2
abbrev SZ : Nat := 16777216
theorem sz_eq : sizeLine = SZ := sizeLine_eq

/-! ## readings by functions -/
def PlOk (K : PySem.W.Frag) (G H : Hp) : Option D → Option Addr → Prop
  | none, d => d = none
  | some x, d => ∃ dd v, d = some dd ∧ H dd = some (.xd [(("line" : Str), v)]) ∧ Rep K G x v
section
variable (K : PySem.W.Frag) (mg : Str → Option Value) (T : List (Addr × Str)) (W : WX)
def ExcP (G : Hp) (σ : St) (H : Hp) (en : En) (c : Str) (pl : Option D) (en' : En) : Prop :=
  ∀ H' G' C d, mg c = some (.ref C) → Rel K T G' σ H' en' → Fr G H (own σ en) G' H' (own σ en') → IoK en en' → PlOk K G' H' pl d → W (.ref C) d σ H'
def okE (G : Hp) (σ : St) (H : Hp) (en : En) (Q : VK) (o : Op) (en' : En) : Prop :=
  ∀ (v : V) (H' G' : Hp), Rel K T G' σ H' en' → RelO K G' H' σ en' o v → Fr G H (own σ en) G' H' (fun p => own σ en' p ∨ frO o v p) → IoK en en' → Q v H'
def PostR {α : Type} (A : α → En → Prop) (Ex : Str → Option D → En → Prop) : Res α → Prop
  | .ok a en' => A a en'
  | .exc c pl en' => Ex c pl en'
  | .stuck => False
def PostE (G : Hp) (σ : St) (H : Hp) (en : En) (Q : VK) : ER → Prop := PostR (okE K T G σ H en Q) (ExcP K mg T W G σ H en)
def tE (f : EF) : TE := fun σ H Q => ∃ G en, Rel K T G σ H en ∧ PostE K mg T W G σ H en Q (f en)
def okT {β : Type} (G : Hp) (σ : St) (H : Hp) (en : En) (Q : β → Hp → Prop) (b : β) (en' : En) : Prop :=
  ∀ H' G', Rel K T G' σ H' en' → Fr G H (own σ en) G' H' (own σ en') → IoK en en' → Q b H'
def PostT {β : Type} (G : Hp) (σ : St) (H : Hp) (en : En) (Q : β → Hp → Prop) : Res β → Prop := PostR (okT K T G σ H en Q) (ExcP K mg T W G σ H en)
def tT (f : TF) : TT := fun σ H Q => ∃ G en, Rel K T G σ H en ∧ PostT K mg T W G σ H en Q (f en)
inductive RelOs (G H : Hp) (σ : St) (en : En) : List Op → List V → Prop
  | nil : RelOs G H σ en [] []
  | cons {o : Op} {v : V} {os : List Op} {vs : List V} : (∀ d, o ≠ .fresh d) → RelO K G H σ en o v → RelOs G H σ en os vs → RelOs G H σ en (o :: os) (v :: vs)
def okA (G : Hp) (σ : St) (H : Hp) (en : En) (Q : List V → Hp → Prop) (os : List Op) (en' : En) : Prop :=
  ∀ vs H' G', Rel K T G' σ H' en' → RelOs K G' H' σ en' os vs → Fr G H (own σ en) G' H' (own σ en') → IoK en en' → Q vs H'
def PostA (G : Hp) (σ : St) (H : Hp) (en : En) (Q : List V → Hp → Prop) : AR → Prop := PostR (okA K T G σ H en Q) (ExcP K mg T W G σ H en)
def tA (f : AF) : TA := fun σ H Q => ∃ G en, Rel K T G σ H en ∧ PostA K mg T W G σ H en Q (f en)
end
abbrev DE (X : Cx) (T : List (Addr × Str)) (W : WX) (e : Expr) (f : EF) : Prop := PE X e (tE X.K X.mg T W f)
abbrev DT (X : Cx) (T : List (Addr × Str)) (W : WX) (e : Expr) (f : TF) : Prop := PT X e (tT X.K X.mg T W f)
abbrev DW (X : Cx) (T : List (Addr × Str)) (W : WX) (e : Expr) (f : TF) : Prop := PW X e (tT X.K X.mg T W f)
abbrev DA (X : Cx) (T : List (Addr × Str)) (W : WX) (es : List Expr) (f : AF) : Prop := PA X es (tA X.K X.mg T W f)

theorem hf_of {X : Cx} {pins : List (Addr × Obj)} {σ : St} {H : Hp} {s : Shared} (I : Inv X pins σ H s) : HF X.K H :=
  ⟨fun a xs h => (I.list h).elim fun _ q => q.2.2, fun a xs h => (I.tuple h).elim fun _ q => q.2.2⟩
section
variable {X : Cx} {T : List (Addr × Str)} {W : WX}
theorem pe_of {e : Expr} {t0 t : TE} (h : PE X e t0) (imp : ∀ σ H Q, HF X.K H → t σ H Q → t0 σ H (fun v H1 => HF X.K H1 → Q v H1)) : PE X e t :=
  ⟨fun pins s σ H Q I h' => thn (h.run pins s σ H _ I (imp σ H Q (hf_of I) h')) fun u s1 ⟨v, H1, I1, r, q⟩ => ⟨v, H1, I1, r, q (hf_of I1)⟩⟩
theorem pt_of {e : Expr} {t0 t : TT} (h : PT X e t0) (imp : ∀ σ H Q, HF X.K H → t σ H Q → t0 σ H (fun v H1 => HF X.K H1 → Q v H1)) : PT X e t :=
  ⟨fun pins s σ H Q I h' => thn (h.run pins s σ H _ I (imp σ H Q (hf_of I) h')) fun u s1 ⟨H1, I1, q⟩ => ⟨H1, I1, q (hf_of I1)⟩⟩
theorem pw_of {e : Expr} {t0 t : TT} (h : PW X e t0) (imp : ∀ σ H Q, HF X.K H → t σ H Q → t0 σ H (fun v H1 => HF X.K H1 → Q v H1)) : PW X e t :=
  ⟨fun wh pins s σ H Q I h' => thn (h.run wh pins s σ H _ I (imp σ H Q (hf_of I) h')) fun u s1 ⟨H1, I1, q⟩ => ⟨H1, I1, q (hf_of I1)⟩⟩
theorem pa_of {es : List Expr} {t0 t : TA} (h : PA X es t0) (imp : ∀ σ H Q, HF X.K H → t σ H Q → t0 σ H (fun v H1 => HF X.K H1 → Q v H1)) : PA X es t :=
  ⟨fun pos pins s σ H Q I h' => thn (h.run pos pins s σ H _ I (imp σ H Q (hf_of I) h')) fun u s1 ⟨v, H1, I1, r, q⟩ => ⟨v, H1, I1, r, q (hf_of I1)⟩⟩
end

/-! ## steps of the state -/
section
variable {K : PySem.W.Frag} {mg : Str → Option Value} {T : List (Addr × Str)} {W : WX} {G H G' H' : Hp} {σ : St} {en en' : En}
theorem tabs_ext (t : LamX.Tabs T H) (e : Sub H H') : LamX.Tabs T H' := t.ext e
/-- an object that is neither a table nor a code object is written -/
theorem tabs_mut {p : Addr} {o u : HO} (t : LamX.Tabs T H) (hp : H p = some o) (n : NoTb o) (x : ∀ φ, o ≠ .ext φ) : LamX.Tabs T (upd H p u) := fun q hq => by
  obtain ⟨ps, h1, h2, h3⟩ := t q hq
  have e1 : q.1 ≠ p := fun z => by
    rw [z, hp] at h1
    exact n ps (Option.some.inj h1)
  refine ⟨ps, by rw [upd_ne e1]; exact h1, h2, fun pos cv hc => ?_⟩
  obtain ⟨c, e2, e3⟩ := h3 pos cv hc
  have e4 : c ≠ p := fun z => by
    rw [z, hp] at e3
    exact x _ (Option.some.inj e3)
  exact ⟨c, e2, by rw [upd_ne e4]; exact e3⟩
theorem SlOk.mono {x : Option (Option V)} {s : Sl} (h : SlOk K G H x s) (e : Sub G G') (n : ∀ p d b, s = .ow b d → x = some (some (.ref p)) → G' p = none ∧ ∀ o, H p = some o → H' p = some o) : SlOk K G' H' x s := by
  cases s with
  | un => trivial
  | fz d =>
    obtain ⟨v, h1, h2⟩ := h
    exact ⟨v, h1, h2.mono e⟩
  | ow b d =>
    obtain ⟨p, h1, _, o, h3, h4⟩ := h
    obtain ⟨g, k⟩ := n p d b rfl h1
    exact ⟨p, h1, g, o, k o h3, h4.mono e⟩
/-- a new object at p, in G too, or not -/
theorem Rel.new {p : Addr} {o : HO} (R : Rel K T G σ H en) (hp : H p = none) (n : NoTb o) (hf : HF K (upd H p o)) : Rel K T (upd G p o) σ (upd H p o) en where
  sub := fun b u e => by
    by_cases hb : b = p
    · subst hb
      rw [upd_same] at e ⊢
      exact e
    · rw [upd_ne hb] at e ⊢
      exact R.sub b u e
  gt := fun b u e => by
    by_cases hb : b = p
    · subst hb
      rw [upd_same] at e
      cases e
      exact n
    · rw [upd_ne hb] at e
      exact R.gt b u e
  tabs := tabs_ext R.tabs (Sub.new hp)
  hf := hf
  len := R.len
  at_ := fun i s e => (R.at_ i s e).mono (Sub.new (R.sub.none hp)) fun q d b es ex => by
    have w : own σ en q := ⟨i, b, d, by rw [e, es], ex⟩
    obtain ⟨u, h1, _⟩ := own_some R w
    have ne : q ≠ p := ne_of_none h1 hp
    exact ⟨by rw [upd_ne ne]; exact own_none R w, fun o' h' => by rw [upd_ne ne]; exact h'⟩
  sep := R.sep
theorem Rel.newf {p : Addr} {o : HO} (R : Rel K T G σ H en) (hp : H p = none) (hf : HF K (upd H p o)) : Rel K T G σ (upd H p o) en where
  sub := R.sub.trans (Sub.new hp)
  gt := R.gt
  tabs := tabs_ext R.tabs (Sub.new hp)
  hf := hf
  len := R.len
  at_ := fun i s e => (R.at_ i s e).mono (Sub.refl G) fun q d b es ex => by
    have w : own σ en q := ⟨i, b, d, by rw [e, es], ex⟩
    obtain ⟨u, h1, _⟩ := own_some R w
    have ne : q ≠ p := ne_of_none h1 hp
    exact ⟨own_none R w, fun o' h' => by rw [upd_ne ne]; exact h'⟩
  sep := R.sep
theorem Fr.lay {p : Addr} {o : HO} {O : Addr → Prop} (hp : H p = none) (hg : G p = none) : Fr G H O (upd G p o) (upd H p o) O :=
  ⟨fun b u e _ _ => by
    have ne : b ≠ p := ne_of_none e hp
    rw [upd_ne ne, upd_ne ne]
    exact ⟨e, rfl⟩, fun _ h => .inl h⟩
theorem Fr.layf {p : Addr} {o : HO} {O : Addr → Prop} (hp : H p = none) : Fr G H O G (upd H p o) (fun q => O q ∨ q = p) :=
  ⟨fun b u e _ _ => by
    have ne : b ≠ p := ne_of_none e hp
    rw [upd_ne ne]
    exact ⟨e, rfl⟩, fun q h => h.imp id fun z => by rw [z]; exact Hn.of hp⟩
/-- an own object outside the slots is frozen -/
theorem Rel.frz {p : Addr} {o : HO} (R : Rel K T G σ H en) (hp : H p = some o) (hg : G p = none) (n : NoTb o) (no : ¬ own σ en p) : Rel K T (upd G p o) σ H en where
  sub := fun b u e => by
    by_cases hb : b = p
    · subst hb
      rw [upd_same] at e
      cases e
      exact hp
    · rw [upd_ne hb] at e
      exact R.sub b u e
  gt := fun b u e => by
    by_cases hb : b = p
    · subst hb
      rw [upd_same] at e
      cases e
      exact n
    · rw [upd_ne hb] at e
      exact R.gt b u e
  tabs := R.tabs
  hf := R.hf
  len := R.len
  at_ := fun i s e => (R.at_ i s e).mono (Sub.new hg) fun q d b es ex => by
    have w : own σ en q := ⟨i, b, d, by rw [e, es], ex⟩
    have ne : q ≠ p := fun z => no (z ▸ w)
    exact ⟨by rw [upd_ne ne]; exact own_none R w, fun o' h' => h'⟩
  sep := R.sep
theorem Fr.frz {p : Addr} {o : HO} {O : Addr → Prop} (hO : O p) : Fr G H O (upd G p o) H O :=
  ⟨fun b u e _ no => by
    have ne : b ≠ p := fun z => no (z ▸ hO)
    rw [upd_ne ne]
    exact ⟨e, rfl⟩, fun _ h => .inl h⟩
/-- fresh is frozen -/
def settle (r : ER) : ER := match r with
  | .ok (.fresh d) en => .ok (.val d) en
  | r => r
theorem settle_nf {r : ER} {d : D} {en1 : En} : settle r ≠ .ok (.fresh d) en1 := by
  intro e
  cases r with
  | ok o en' => cases o <;> cases e
  | exc c pl en' => cases e
  | stuck => cases e
theorem PostR.mono {α : Type} {A A' : α → En → Prop} {Ex Ex' : Str → Option D → En → Prop} {r : Res α} (h : PostR A Ex r) (k : ∀ a e, r = .ok a e → A a e → A' a e) (x : ∀ c p e, Ex c p e → Ex' c p e) : PostR A' Ex' r := by
  cases r with
  | ok a en' => exact k _ _ rfl h
  | exc c pl en' => exact x _ _ _ h
  | stuck => exact h
theorem PostE.mono {Q Q' : VK} {r : ER} (h : PostE K mg T W G σ H en Q r) (k : ∀ v H, Q v H → Q' v H) : PostE K mg T W G σ H en Q' r :=
  PostR.mono h (fun _ _ _ q v H' G' R' ho fr io => k _ _ (q v H' G' R' ho fr io)) fun _ _ _ z => z
theorem PostT.mono {β : Type} {Q Q' : β → Hp → Prop} {r : Res β} (h : PostT K mg T W G σ H en Q r) (k : ∀ v H, Q v H → Q' v H) : PostT K mg T W G σ H en Q' r :=
  PostR.mono h (fun _ _ _ q H' G' R' fr io => k _ _ (q H' G' R' fr io)) fun _ _ _ z => z
theorem PostA.mono {Q Q' : List V → Hp → Prop} {r : AR} (h : PostA K mg T W G σ H en Q r) (k : ∀ v H, Q v H → Q' v H) : PostA K mg T W G σ H en Q' r :=
  PostR.mono h (fun _ _ _ q vs H' G' R' ho fr io => k _ _ (q vs H' G' R' ho fr io)) fun _ _ _ z => z
theorem settle_post {Q : VK} {r : ER} (h : PostE K mg T W G σ H en Q (settle r)) : PostE K mg T W G σ H en Q r := by
  cases r with
  | ok o en' =>
    cases o with
    | fresh d =>
      intro v H' G' R ho fr io
      obtain ⟨p, rfl, ⟨hg, o, hp, r⟩, no⟩ := ho
      refine h (.ref p) H' (upd G' p o) (R.frz hp hg r.notb no) ((r.mono (Sub.new hg)).rep upd_same) ?_ io
      refine ⟨fun b u e n nO => ?_, fun q hq => ?_⟩
      · have k := fr.keep b u e n nO
        have ne : b ≠ p := fun z => by
          rcases fr.new p (.inr rfl) with z' | z'
          · exact nO (z ▸ z')
          · obtain ⟨ps, e'⟩ := z' u (z ▸ e)
            exact n ps e'
        rw [upd_ne ne]
        exact k
      · rcases hq with hq | hq
        · exact fr.new q (.inl hq)
        · exact hq.elim
    | _ => exact h
  | _ => exact h
theorem de_settle {X : Cx} {e : Expr} {f : EF} (h : DE X T W e f) : DE X T W e (fun en => settle (f en)) :=
  pe_of h fun σ H Q _ ⟨G, en, R, p⟩ => ⟨G, en, R, settle_post (p.mono fun v H q _ => q)⟩
theorem frO_nf {o : Op} {v : V} {p : Addr} (n : ∀ d, o ≠ .fresh d) (h : frO o v p) : False := by
  cases o with
  | fresh d => exact n d rfl
  | val d => exact h
  | slot i => exact h
theorem frsub (R : Rel K T G σ H en) {O : Addr → Prop} (f : Fr G H (own σ en) G' H' O) : Sub G G' := f.sub R.sub R.gt fun _ z => own_none R z
/-- a part is run, then what follows it -/
theorem step {α : Type} {P : Hp → Hp → En → α → En → Prop} {Ex : Hp → Hp → En → Str → Option D → En → Prop} {r : ER} {k : Op → En → Res α} {Q' : VK}
    (sh : ∀ (G H : Hp) (en : En) (G1 H1 : Hp) (en1 : En) (a : α) (e' : En), Fr G H (own σ en) G1 H1 (own σ en1) → IoK en en1 → P G H en a e' → P G1 H1 en1 a e')
    (xh : ∀ (G H : Hp) (en : En) (G1 H1 : Hp) (en1 : En) (c : Str) (pl : Option D) (e' : En), Fr G H (own σ en) G1 H1 (own σ en1) → IoK en en1 → Ex G H en c pl e' → Ex G1 H1 en1 c pl e')
    (xe : ∀ c pl e', Ex G H en c pl e' → ExcP K mg T W G σ H en c pl e')
    (R : Rel K T G σ H en) (h : PostR (P G H en) (Ex G H en) ((settle r).bind k))
    (st : ∀ (o : Op) (en1 : En) (v : V) (H1 G1 : Hp), Rel K T G1 σ H1 en1 → RelO K G1 H1 σ en1 o v → (∀ d, o ≠ .fresh d) → Sub G G1 → PostR (P G1 H1 en1) (Ex G1 H1 en1) (k o en1) → Q' v H1) :
    PostE K mg T W G σ H en Q' (settle r) := by
  revert h
  have nf := @settle_nf r
  generalize settle r = x at nf
  intro h
  cases x with
  | ok o en1 =>
    intro v H1 G1 R1 ho fr io
    have n : ∀ d, o ≠ .fresh d := fun d e => nf (by rw [e])
    have fr' : Fr G H (own σ en) G1 H1 (own σ en1) := fr.weak fun p z => .inl z
    exact st o en1 v H1 G1 R1 ho n (frsub R fr') (PostR.mono h (fun a e' _ q => sh _ _ _ _ _ _ _ _ fr' io q) fun c pl e' q => xh _ _ _ _ _ _ _ _ _ fr' io q)
  | exc c pl e' => exact xe _ _ _ h
  | stuck => exact h
theorem exc_sh (G H : Hp) (en : En) (G1 H1 : Hp) (en1 : En) (c : Str) (pl : Option D) (e' : En) (f : Fr G H (own σ en) G1 H1 (own σ en1)) (i : IoK en en1) (h : ExcP K mg T W G σ H en c pl e') : ExcP K mg T W G1 σ H1 en1 c pl e' :=
  fun H' G' C d m R fr io po => h H' G' C d m R (f.trans fr) (i.trans io) po
theorem okE_sh {Q : VK} (G H : Hp) (en : En) (G1 H1 : Hp) (en1 : En) (o : Op) (e' : En) (f : Fr G H (own σ en) G1 H1 (own σ en1)) (i : IoK en en1) (h : okE K T G σ H en Q o e') : okE K T G1 σ H1 en1 Q o e' :=
  fun v H' G' R ho fr io => h v H' G' R ho (f.trans fr) (i.trans io)
theorem okT_sh {β : Type} {Q : β → Hp → Prop} (G H : Hp) (en : En) (G1 H1 : Hp) (en1 : En) (o : β) (e' : En) (f : Fr G H (own σ en) G1 H1 (own σ en1)) (i : IoK en en1) (h : okT K T G σ H en Q o e') : okT K T G1 σ H1 en1 Q o e' :=
  fun H' G' R fr io => h H' G' R (f.trans fr) (i.trans io)
theorem okA_sh {Q : List V → Hp → Prop} (G H : Hp) (en : En) (G1 H1 : Hp) (en1 : En) (o : List Op) (e' : En) (f : Fr G H (own σ en) G1 H1 (own σ en1)) (i : IoK en en1) (h : okA K T G σ H en Q o e') : okA K T G1 σ H1 en1 Q o e' :=
  fun v H' G' R ho fr io => h v H' G' R ho (f.trans fr) (i.trans io)
/-- the four kinds of what follows -/
theorem stepE {r : ER} {k : Op → En → ER} {Q Q' : VK} (R : Rel K T G σ H en) (h : PostE K mg T W G σ H en Q ((settle r).bind k))
    (st : ∀ (o : Op) (en1 : En) (v : V) (H1 G1 : Hp), Rel K T G1 σ H1 en1 → RelO K G1 H1 σ en1 o v → (∀ d, o ≠ .fresh d) → Sub G G1 → PostE K mg T W G1 σ H1 en1 Q (k o en1) → Q' v H1) : PostE K mg T W G σ H en Q' (settle r) :=
  step (P := fun G H en => okE K T G σ H en Q) (Ex := fun G H en => ExcP K mg T W G σ H en) okE_sh exc_sh (fun _ _ _ z => z) R h st
theorem stepT {β : Type} {r : ER} {k : Op → En → Res β} {Q : β → Hp → Prop} {Q' : VK} (R : Rel K T G σ H en) (h : PostT K mg T W G σ H en Q ((settle r).bind k))
    (st : ∀ (o : Op) (en1 : En) (v : V) (H1 G1 : Hp), Rel K T G1 σ H1 en1 → RelO K G1 H1 σ en1 o v → (∀ d, o ≠ .fresh d) → Sub G G1 → PostT K mg T W G1 σ H1 en1 Q (k o en1) → Q' v H1) : PostE K mg T W G σ H en Q' (settle r) :=
  step (P := fun G H en => okT K T G σ H en Q) (Ex := fun G H en => ExcP K mg T W G σ H en) okT_sh exc_sh (fun _ _ _ z => z) R h st
theorem stepA {r : ER} {k : Op → En → AR} {Q : List V → Hp → Prop} {Q' : VK} (R : Rel K T G σ H en) (h : PostA K mg T W G σ H en Q ((settle r).bind k))
    (st : ∀ (o : Op) (en1 : En) (v : V) (H1 G1 : Hp), Rel K T G1 σ H1 en1 → RelO K G1 H1 σ en1 o v → (∀ d, o ≠ .fresh d) → Sub G G1 → PostA K mg T W G1 σ H1 en1 Q (k o en1) → Q' v H1) : PostE K mg T W G σ H en Q' (settle r) :=
  step (P := fun G H en => okA K T G σ H en Q) (Ex := fun G H en => ExcP K mg T W G σ H en) okA_sh exc_sh (fun _ _ _ z => z) R h st
/-- a test is run, then what follows it -/
theorem stepB {β α : Type} {P : Hp → Hp → En → α → En → Prop} {Ex : Hp → Hp → En → Str → Option D → En → Prop} {r : Res β} {k : β → En → Res α} {Q' : β → Hp → Prop}
    (sh : ∀ (G H : Hp) (en : En) (G1 H1 : Hp) (en1 : En) (a : α) (e' : En), Fr G H (own σ en) G1 H1 (own σ en1) → IoK en en1 → P G H en a e' → P G1 H1 en1 a e')
    (xh : ∀ (G H : Hp) (en : En) (G1 H1 : Hp) (en1 : En) (c : Str) (pl : Option D) (e' : En), Fr G H (own σ en) G1 H1 (own σ en1) → IoK en en1 → Ex G H en c pl e' → Ex G1 H1 en1 c pl e')
    (xe : ∀ c pl e', Ex G H en c pl e' → ExcP K mg T W G σ H en c pl e')
    (R : Rel K T G σ H en) (h : PostR (P G H en) (Ex G H en) (r.bind k))
    (st : ∀ (b : β) (en1 : En) (H1 G1 : Hp), Rel K T G1 σ H1 en1 → Sub G G1 → PostR (P G1 H1 en1) (Ex G1 H1 en1) (k b en1) → Q' b H1) :
    PostT K mg T W G σ H en Q' r := by
  cases r with
  | ok o en1 =>
    intro H1 G1 R1 fr io
    exact st o en1 H1 G1 R1 (frsub R fr) (PostR.mono h (fun a e' _ q => sh _ _ _ _ _ _ _ _ fr io q) fun c pl e' q => xh _ _ _ _ _ _ _ _ _ fr io q)
  | exc c pl e' => exact xe _ _ _ h
  | stuck => exact h
theorem stepBT {α β : Type} {r : Res β} {k : β → En → Res α} {Q : α → Hp → Prop} {Q' : β → Hp → Prop} (R : Rel K T G σ H en) (h : PostT K mg T W G σ H en Q (r.bind k))
    (st : ∀ (b : β) (en1 : En) (H1 G1 : Hp), Rel K T G1 σ H1 en1 → Sub G G1 → PostT K mg T W G1 σ H1 en1 Q (k b en1) → Q' b H1) : PostT K mg T W G σ H en Q' r :=
  stepB (P := fun G H en => okT K T G σ H en Q) (Ex := fun G H en => ExcP K mg T W G σ H en) okT_sh exc_sh (fun _ _ _ z => z) R h st
theorem stepBE {β : Type} {r : Res β} {k : β → En → ER} {Q : VK} {Q' : β → Hp → Prop} (R : Rel K T G σ H en) (h : PostE K mg T W G σ H en Q (r.bind k))
    (st : ∀ (b : β) (en1 : En) (H1 G1 : Hp), Rel K T G1 σ H1 en1 → Sub G G1 → PostE K mg T W G1 σ H1 en1 Q (k b en1) → Q' b H1) : PostT K mg T W G σ H en Q' r :=
  stepB (P := fun G H en => okE K T G σ H en Q) (Ex := fun G H en => ExcP K mg T W G σ H en) okE_sh exc_sh (fun _ _ _ z => z) R h st
/-- arguments are run, then what follows them -/
theorem stepL {α : Type} {P : Hp → Hp → En → α → En → Prop} {Ex : Hp → Hp → En → Str → Option D → En → Prop} {r : AR} {k : List Op → En → Res α} {Q' : List V → Hp → Prop}
    (sh : ∀ (G H : Hp) (en : En) (G1 H1 : Hp) (en1 : En) (a : α) (e' : En), Fr G H (own σ en) G1 H1 (own σ en1) → IoK en en1 → P G H en a e' → P G1 H1 en1 a e')
    (xh : ∀ (G H : Hp) (en : En) (G1 H1 : Hp) (en1 : En) (c : Str) (pl : Option D) (e' : En), Fr G H (own σ en) G1 H1 (own σ en1) → IoK en en1 → Ex G H en c pl e' → Ex G1 H1 en1 c pl e')
    (xe : ∀ c pl e', Ex G H en c pl e' → ExcP K mg T W G σ H en c pl e')
    (R : Rel K T G σ H en) (h : PostR (P G H en) (Ex G H en) (r.bind k))
    (st : ∀ (os : List Op) (en1 : En) (vs : List V) (H1 G1 : Hp), Rel K T G1 σ H1 en1 → RelOs K G1 H1 σ en1 os vs → Sub G G1 → PostR (P G1 H1 en1) (Ex G1 H1 en1) (k os en1) → Q' vs H1) :
    PostA K mg T W G σ H en Q' r := by
  cases r with
  | ok o en1 =>
    intro vs H1 G1 R1 ro fr io
    exact st o en1 vs H1 G1 R1 ro (frsub R fr) (PostR.mono h (fun a e' _ q => sh _ _ _ _ _ _ _ _ fr io q) fun c pl e' q => xh _ _ _ _ _ _ _ _ _ fr io q)
  | exc c pl e' => exact xe _ _ _ h
  | stuck => exact h
theorem stepLE {r : AR} {k : List Op → En → ER} {Q : VK} {Q' : List V → Hp → Prop} (R : Rel K T G σ H en) (h : PostE K mg T W G σ H en Q (r.bind k))
    (st : ∀ (os : List Op) (en1 : En) (vs : List V) (H1 G1 : Hp), Rel K T G1 σ H1 en1 → RelOs K G1 H1 σ en1 os vs → Sub G G1 → PostE K mg T W G1 σ H1 en1 Q (k os en1) → Q' vs H1) : PostA K mg T W G σ H en Q' r :=
  stepL (P := fun G H en => okE K T G σ H en Q) (Ex := fun G H en => ExcP K mg T W G σ H en) okE_sh exc_sh (fun _ _ _ z => z) R h st
theorem stepLA {r : AR} {k : List Op → En → AR} {Q : List V → Hp → Prop} {Q' : List V → Hp → Prop} (R : Rel K T G σ H en) (h : PostA K mg T W G σ H en Q (r.bind k))
    (st : ∀ (os : List Op) (en1 : En) (vs : List V) (H1 G1 : Hp), Rel K T G1 σ H1 en1 → RelOs K G1 H1 σ en1 os vs → Sub G G1 → PostA K mg T W G1 σ H1 en1 Q (k os en1) → Q' vs H1) : PostA K mg T W G σ H en Q' r :=
  stepL (P := fun G H en => okA K T G σ H en Q) (Ex := fun G H en => ExcP K mg T W G σ H en) okA_sh exc_sh (fun _ _ _ z => z) R h st
/-- what an op is worth -/
def view : Op → En → Option D
  | .val d, _ => some d
  | .slot i, en => match en[i]? with
    | some (.ow _ d) => some d
    | some (.fz d) => some d
    | _ => none
  | .fresh _, _ => none
def RepV (K : PySem.W.Frag) (G H : Hp) (d : D) (v : V) : Prop := Rep K G d v ∨ ∃ p, v = .ref p ∧ OwnAt K G H p d
theorem view_ok {o : Op} {d : D} {v : V} (R : Rel K T G σ H en) (h : RelO K G H σ en o v) (e : view o en = some d) : RepV K G H d v := by
  cases o with
  | val x =>
    cases e
    exact .inl h
  | fresh x => cases e
  | slot i =>
    have h : σ[i]? = some (some v) := h
    cases q : en[i]? with
    | none => simp [view, q] at e
    | some s =>
      cases s with
      | un => simp [view, q] at e
      | fz x =>
        simp [view, q] at e
        subst e
        obtain ⟨w, h1, h2⟩ := R.at_ i _ q
        rw [h] at h1
        cases h1
        exact .inl h2
      | ow b x =>
        simp [view, q] at e
        subst e
        obtain ⟨p, h1, h2⟩ := R.at_ i _ q
        rw [h] at h1
        cases h1
        exact .inr ⟨p, rfl, h2⟩
theorem RelO.later {o : Op} {v : V} (h : RelO K G H σ en o v) (n : ∀ d, o ≠ .fresh d) (e : Sub G G') : RelO K G' H' σ en' o v := by
  cases o with
  | val x => exact Rep.mono e h
  | fresh x => exact absurd rfl (n x)
  | slot i => exact h
theorem RelOs.later {os : List Op} {vs : List V} (h : RelOs K G H σ en os vs) (e : Sub G G') : RelOs K G' H' σ en' os vs := by
  induction h with
  | nil => exact .nil
  | cons n h _ ih => exact .cons n (h.later n e) ih
/-- an op's data, frozen -/
def frz : Op → En → Option (D × En)
  | .val d, en => some (d, en)
  | .slot i, en => match en[i]? with
    | some (.fz d) => some (d, en)
    | some (.ow false d) => some (d, en.set i (.fz d))
    | _ => none
  | .fresh _, _ => none
def frzL : List Op → En → Option (List D × En)
  | [], en => some ([], en)
  | o :: os, en => (frz o en).bind fun p => (frzL os p.2).bind fun q => some (p.1 :: q.1, q.2)
theorem getset {α : Type} {l : List α} {i j : Nat} {x y : α} (h : (l.set i x)[j]? = some y) : (j = i ∧ y = x) ∨ (j ≠ i ∧ l[j]? = some y) := by
  by_cases e : i = j
  · subst e
    by_cases hl : i < l.length
    · rw [List.getElem?_set_self hl] at h
      exact .inl ⟨rfl, (Option.some.inj h).symm⟩
    · rw [List.getElem?_eq_none (by simpa using hl)] at h
      cases h
  · rw [List.getElem?_set_ne e] at h
    exact .inr ⟨fun z => e z.symm, h⟩
theorem frz_ok {o : Op} {d : D} {v : V} (R : Rel K T G σ H en) (h : RelO K G H σ en o v) (e : frz o en = some (d, en')) :
    ∃ G', Rel K T G' σ H en' ∧ Rep K G' d v ∧ Fr G H (own σ en) G' H (own σ en') ∧ IoK en en' ∧ Sub G G' := by
  cases o with
  | val x =>
    have e : (x, en) = (d, en') := Option.some.inj e
    cases e
    exact ⟨G, R, h, Fr.refl, IoK.refl en, Sub.refl G⟩
  | fresh x => cases e
  | slot i =>
    have h : σ[i]? = some (some v) := h
    cases q : en[i]? with
    | none => simp [frz, q] at e
    | some s =>
      cases s with
      | un => simp [frz, q] at e
      | fz x =>
        simp [frz, q] at e
        obtain ⟨rfl, rfl⟩ := e
        obtain ⟨w, h1, h2⟩ := R.at_ i _ q
        rw [h] at h1
        cases h1
        exact ⟨G, R, h2, Fr.refl, IoK.refl en, Sub.refl G⟩
      | ow b x =>
        cases b with
        | true => simp [frz, q] at e
        | false =>
          simp [frz, q] at e
          obtain ⟨rfl, rfl⟩ := e
          obtain ⟨p, h1, hg, ob, hp, r⟩ := R.at_ i _ q
          rw [h] at h1
          cases h1
          have hw : own σ en p := ⟨i, false, x, q, h⟩
          have hsub : Sub G (upd G p ob) := Sub.new hg
          have hrep : Rep K (upd G p ob) x (.ref p) := (r.mono hsub).rep upd_same
          have hown : ∀ q', own σ (en.set i (.fz x)) q' → own σ en q' := fun q' ⟨j, b, d, e1, e2⟩ => by
            rcases getset e1 with ⟨_, z⟩ | ⟨_, z⟩
            · cases z
            · exact ⟨j, b, d, z, e2⟩
          refine ⟨upd G p ob, ⟨?_, ?_, R.tabs, R.hf, by rw [List.length_set]; exact R.len, fun j s e => ?_, fun a j b c d e p' e1 e2 s1 s2 => ?_⟩, hrep, ?_, fun j d' e => ?_, hsub⟩
          · intro b u e
            by_cases hb : b = p
            · subst hb
              rw [upd_same] at e
              cases e
              exact hp
            · rw [upd_ne hb] at e
              exact R.sub b u e
          · intro b u e
            by_cases hb : b = p
            · subst hb
              rw [upd_same] at e
              cases e
              exact r.notb
            · rw [upd_ne hb] at e
              exact R.gt b u e
          · rcases getset e with ⟨z, rfl⟩ | ⟨z, e0⟩
            · subst z
              exact ⟨_, h, hrep⟩
            · refine (R.at_ j s e0).mono hsub fun p' d b es ex => ?_
              have ne : p' ≠ p := fun hz => z (R.sep j i b false d x p (by rw [e0, es]) q (by rw [ex, hz]) h)
              have hw' : own σ en p' := ⟨j, b, d, by rw [e0, es], ex⟩
              exact ⟨by rw [upd_ne ne]; exact own_none R hw', fun _ z => z⟩
          · rcases getset e1 with ⟨_, z⟩ | ⟨_, e1⟩
            · cases z
            · rcases getset e2 with ⟨_, z⟩ | ⟨_, e2⟩
              · cases z
              · exact R.sep a j b c d e p' e1 e2 s1 s2
          · refine ⟨fun b u e n no => ?_, fun q' h' => .inl (hown q' h')⟩
            have ne : b ≠ p := fun z => no (z ▸ hw)
            rw [upd_ne ne]
            exact ⟨e, rfl⟩
          · by_cases hj : i = j
            · subst hj
              rw [q] at e
              cases e
            · exact ⟨d', by rw [List.getElem?_set_ne hj]; exact e⟩
theorem frzL_ok : ∀ {os : List Op} {vs : List V} {en : En} {G : Hp} {ds : List D} {en' : En}, Rel K T G σ H en → RelOs K G H σ en os vs → frzL os en = some (ds, en') →
    ∃ G', Rel K T G' σ H en' ∧ RepL K G' ds vs ∧ Fr G H (own σ en) G' H (own σ en') ∧ IoK en en' ∧ Sub G G'
  | [], _, en, G, _, _, R, .nil, e => by
    have e := Option.some.inj e
    cases e
    exact ⟨G, R, .nil, Fr.refl, IoK.refl en, Sub.refl G⟩
  | o :: os, _ :: _, en, G, ds, en', R, .cons n h hs, e => by
    unfold frzL at e
    obtain ⟨⟨d, en1⟩, e1, e⟩ := Option.bind_eq_some_iff.mp e
    obtain ⟨⟨ds2, en2⟩, e2, e⟩ := Option.bind_eq_some_iff.mp e
    have e := Option.some.inj e
    cases e
    obtain ⟨G1, R1, r1, f1, i1, s1⟩ := frz_ok R h e1
    obtain ⟨G2, R2, r2, f2, i2, s2⟩ := frzL_ok R1 (hs.later s1) e2
    exact ⟨G2, R2, .cons (r1.mono s2) r2, f1.trans f2, i1.trans i2, s1.trans s2⟩

/-! ## what an operation on data hands on -/
inductive Out (K : PySem.W.Frag) (G H : Hp) : Op → V → Hp → Prop
  | same {d : D} {v : V} : Rep K G d v → Out K G H (.val d) v H
  | newv {p : Addr} {ob : HO} {d : D} : H p = none → NoTb ob → Rep K (upd G p ob) d (.ref p) → Out K G H (.val d) (.ref p) (upd H p ob)
  | newf {p : Addr} {ob : HO} {d : D} : H p = none → RepO K G d ob → Out K G H (.fresh d) (.ref p) (upd H p ob)
theorem out_ok {o : Op} {v : V} (R : Rel K T G σ H en) (h : Out K G H o v H') (hf : HF K H') :
    ∃ G', Rel K T G' σ H' en ∧ RelO K G' H' σ en o v ∧ Fr G H (own σ en) G' H' (fun p => own σ en p ∨ frO o v p) := by
  cases h with
  | same r => exact ⟨G, R, r, Fr.refl.weak fun p z => z.elim id fun z => z.elim⟩
  | newv hp n r => exact ⟨_, R.new hp n hf, r, (Fr.lay hp (R.sub.none hp)).weak fun p z => z.elim id fun z => z.elim⟩
  | @newf p ob d hp r =>
    refine ⟨G, R.newf hp hf, ⟨p, rfl, ⟨R.sub.none hp, ob, upd_same, r⟩, fun z => ?_⟩, (Fr.layf hp).weak fun q z => z.imp id fun z => ?_⟩
    · obtain ⟨o, ho, _⟩ := own_some R z
      rw [hp] at ho
      cases ho
    · exact (V.ref.inj z).symm
end
end PF
namespace PF
open PySem PySem.Spec PyProof.Rows L2

/-! ## expressions as functions -/
def ofO (o : Option Op) (en : En) : ER := match o with
  | some o => .ok o en
  | none => .stuck
def viewL : List Op → En → Option (List D)
  | [], _ => some []
  | o :: os, en => (view o en).bind fun d => (viewL os en).bind fun ds => some (d :: ds)
def eVar (i : Nat) : EF := fun en => match en[i]? with
  | some (.fz d) => .ok (.val d) en
  | some (.ow _ _) => .ok (.slot i) en
  | _ => .stuck
def eC (d : D) : EF := fun en => .ok (.val d) en
def eOp2 (g : D → D → Option Op) (fa fb : EF) : EF := fun en => (settle (fa en)).bind fun o1 en1 => (settle (fb en1)).bind fun o2 en2 => ofO ((view o1 en2).bind fun d1 => (view o2 en2).bind fun d2 => g d1 d2) en2
def eOp1 (g : D → Option Op) (fa : EF) : EF := fun en => (settle (fa en)).bind fun o1 en1 => ofO ((view o1 en1).bind g) en1
def aNil : AF := fun en => .ok [] en
def aCons (f : EF) (g : AF) : AF := fun en => (settle (f en)).bind fun o en1 => (g en1).bind fun os en2 => .ok (o :: os) en2
def eCall (g : List D → Option Op) (fa : AF) : EF := fun en => (fa en).bind fun os en1 => ofO ((viewL os en1).bind g) en1
def eTup (fa : AF) : EF := fun en => (fa en).bind fun os en1 => match frzL os en1 with
  | some (ds, en2) => if ds.length ≤ SZ then .ok (.val (.tup ds)) en2 else .stuck
  | none => .stuck
def eLst (fa : AF) : EF := fun en => (fa en).bind fun os en1 => match frzL os en1 with
  | some (ds, en2) => if ds.length ≤ SZ then .ok (.fresh (.lst ds)) en2 else .stuck
  | none => .stuck
/-- truth -/
def truth : D → Option Bool
  | .non => some false
  | .bl b => some b
  | .int i => some (i != 0)
  | .str s => if s.length ≤ SZ then some ((s.length : Int) != 0) else none
  | .tup ds => some (!ds.isEmpty)
  | .kt ds => some (!ds.isEmpty)
  | .lst ds => some (!ds.isEmpty)
  | .dK kvs => some (!kvs.isEmpty)
  | _ => none
def ofT {α : Type} (o : Option α) (en : En) : Res α := match o with
  | some b => .ok b en
  | none => .stuck
def tVal (f : EF) : TF := fun en => (settle (f en)).bind fun o en1 => ofT ((view o en1).bind truth) en1
def tNot' (f : TF) : TF := fun en => (f en).bind fun b en1 => .ok (!b) en1
def tAnd' (f g : TF) : TF := fun en => (f en).bind fun b en1 => match b with
  | true => g en1
  | false => .ok false en1
def tOr' (f g : TF) : TF := fun en => (f en).bind fun b en1 => match b with
  | true => .ok true en1
  | false => g en1
def isBl : D → Option Bool
  | .bl b => some b
  | _ => none
def eAnd (f g : EF) : EF := fun en => (settle (f en)).bind fun o en1 => match (view o en1).bind isBl with
  | some true => g en1
  | some false => .ok (.val (.bl false)) en1
  | none => .stuck
def eOr (f g : EF) : EF := fun en => (settle (f en)).bind fun o en1 => match (view o en1).bind isBl with
  | some true => .ok (.val (.bl true)) en1
  | some false => g en1
  | none => .stuck
def eNot (f : EF) : EF := eOp1 (fun d => (isBl d).map fun b => .val (.bl !b)) f
def eIf (t : TF) (f g : EF) : EF := fun en => (t en).bind fun b en1 => match b with
  | true => f en1
  | false => g en1
def isInt : D → Option Int
  | .int i => some i
  | _ => none
abbrev OF := En → Res (Option Int)
def oNone : OF := fun en => .ok none en
def oSome (f : EF) : OF := fun en => (settle (f en)).bind fun o en1 => ofT ((view o en1).bind fun d => (isInt d).map some) en1
def eSl (g : D → Option Int → Option Int → Option Op) (f : EF) (l u : OF) : EF := fun en => (settle (f en)).bind fun o en1 => (l en1).bind fun lo en2 => (u en2).bind fun hi en3 => ofO ((view o en3).bind fun d => g d lo hi) en3
/-- a < b < c -/
def eChain (g g' : D → D → Option Op) (fa fb fc : EF) : EF := fun en => (settle (fa en)).bind fun o1 en1 => (settle (fb en1)).bind fun o2 en2 => match (view o1 en2).bind fun d1 => (view o2 en2).bind fun d2 => g d1 d2 with
  | some (.val (.bl true)) => (settle (fc en2)).bind fun o3 en3 => ofO ((view o2 en3).bind fun d1 => (view o3 en3).bind fun d2 => g' d1 d2) en3
  | some (.val (.bl false)) => .ok (.val (.bl false)) en2
  | _ => .stuck

/-! ## what a rule of the kit must say of data -/
section
variable (K : PySem.W.Frag)
def OpOk2 (r : R2) (g : D → D → Option Op) : Prop := ∀ (G H : Hp) (d1 d2 : D) (v1 v2 : V) (o : Op) (Q : VK), Sub G H → HF K H → RepV K G H d1 v1 → RepV K G H d2 v2 → g d1 d2 = some o → (∀ v H', Out K G H o v H' → Q v H') → r v1 v2 H Q
def OpOk1 (r : V → Hp → VK → Prop) (g : D → Option Op) : Prop := ∀ (G H : Hp) (d1 : D) (v1 : V) (o : Op) (Q : VK), Sub G H → HF K H → RepV K G H d1 v1 → g d1 = some o → (∀ v H', Out K G H o v H' → Q v H') → r v1 H Q
inductive RepVs (G H : Hp) : List D → List V → Prop
  | nil : RepVs G H [] []
  | cons {d : D} {v : V} {ds : List D} {vs : List V} : RepV K G H d v → RepVs G H ds vs → RepVs G H (d :: ds) (v :: vs)
def CallOk (r : List V → Hp → VK → Prop) (g : List D → Option Op) : Prop := ∀ (G H : Hp) (ds : List D) (vs : List V) (o : Op) (Q : VK), Sub G H → HF K H → RepVs K G H ds vs → g ds = some o → (∀ v H', Out K G H o v H' → Q v H') → r vs H Q
def SlOkR (r : V → Option Int → Option Int → Hp → VK → Prop) (g : D → Option Int → Option Int → Option Op) : Prop := ∀ (G H : Hp) (d : D) (v : V) (lo hi : Option Int) (o : Op) (Q : VK), Sub G H → HF K H → RepV K G H d v → g d lo hi = some o → (∀ v H', Out K G H o v H' → Q v H') → r v lo hi H Q
end
section
variable {K : PySem.W.Frag} {mg : Str → Option Value} {T : List (Addr × Str)} {W : WX} {G H : Hp} {σ : St} {en : En}
theorem fin_out {oo : Option Op} {Q : VK} (R : Rel K T G σ H en) (p : PostE K mg T W G σ H en Q (ofO oo en)) : ∃ o, oo = some o ∧ ∀ v H', Out K G H o v H' → HF K H' → Q v H' := by
  cases oo with
  | none => exact p.elim
  | some o =>
    refine ⟨o, rfl, fun v H' out hf => ?_⟩
    obtain ⟨G', R', ro, fr⟩ := out_ok R out hf
    exact p v H' G' R' ro fr (IoK.refl en)
theorem viewL_ok : ∀ {os : List Op} {ds : List D} {vs : List V}, Rel K T G σ H en → RelOs K G H σ en os vs → viewL os en = some ds → RepVs K G H ds vs
  | [], _, _, R, .nil, e => by
    cases Option.some.inj e
    exact .nil
  | o :: os, _, _ :: _, R, .cons n h hs, e => by
    unfold viewL at e
    obtain ⟨d, e1, e⟩ := Option.bind_eq_some_iff.mp e
    obtain ⟨ds, e2, e⟩ := Option.bind_eq_some_iff.mp e
    cases Option.some.inj e
    exact .cons (view_ok R h e1) (viewL_ok R hs e2)
theorem bind2 {α β γ : Type} {a : Option α} {b : Option β} {k : α → β → Option γ} {c : γ} (h : (a.bind fun x => b.bind fun y => k x y) = some c) : ∃ x y, a = some x ∧ b = some y ∧ k x y = some c := by
  obtain ⟨x, e1, e⟩ := Option.bind_eq_some_iff.mp h
  obtain ⟨y, e2, e⟩ := Option.bind_eq_some_iff.mp e
  exact ⟨x, y, e1, e2, e⟩
end

section
variable {X : Cx} {T : List (Addr × Str)} {W : WX} {a b c e : Expr} {es : List Expr} {fa fb fc f : EF} {pos : Pos}
/-! ## the rules -/
theorem de_var {i : Nat} (h : PE X e (tVar i)) : DE X T W e (eVar i) :=
  pe_of h fun σ H Q hf ⟨G, en, R, p⟩ => by
    unfold eVar at p
    cases q : en[i]? with
    | none =>
      rw [q] at p
      exact p.elim
    | some s =>
      rw [q] at p
      have k := R.at_ i s q
      cases s with
      | un => exact p.elim
      | fz d =>
        obtain ⟨v, h1, h2⟩ := k
        exact ⟨v, h1, fun _ => p v H G R h2 (Fr.refl.weak fun p z => z.elim id fun z => z.elim) (IoK.refl en)⟩
      | ow b d =>
        obtain ⟨q', h1, h2⟩ := k
        exact ⟨.ref q', h1, fun _ => p (.ref q') H G R h1 (Fr.refl.weak fun p z => z.elim id fun z => z.elim) (IoK.refl en)⟩
theorem de_c {d : D} {v : V} (h : PE X e (tC v)) (r : ∀ G, Rep X.K G d v) : DE X T W e (eC d) :=
  pe_of h fun σ H Q hf ⟨G, en, R, p⟩ => fun _ => p v H G R (r G) (Fr.refl.weak fun p z => z.elim id fun z => z.elim) (IoK.refl en)
theorem de_int {i : Int} {j : Nat} : DE X T W (.Constant (.int i) j pos) (eC (.int i)) := de_c pe_int fun _ => .int i
theorem de_bl {b : Bool} {j : Nat} : DE X T W (.Constant (.bool b) j pos) (eC (.bl b)) := de_c pe_bl fun _ => .bl b
theorem de_non {j : Nat} : DE X T W (.Constant .none j pos) (eC .non) := de_c pe_non fun _ => .non
theorem de_str {x : Str} {j : Nat} : DE X T W (.Constant (.str x) j pos) (eC (.str x)) := de_c pe_str fun _ => .str x
theorem imp2 {r : R2} {g : D → D → Option Op} (ok : OpOk2 X.K r g) (σ : L2.St) (H : Hp) (Q : VK) (h : tE X.K X.mg T W (eOp2 g fa fb) σ H Q) :
    tOp r (tE X.K X.mg T W fun en => settle (fa en)) (tE X.K X.mg T W fun en => settle (fb en)) σ H (fun v H1 => HF X.K H1 → Q v H1) := by
  obtain ⟨G, en, R, p⟩ := h
  refine ⟨G, en, R, stepE R p fun o1 en1 v1 H1 G1 R1 ro1 n1 s1 p1 => ⟨G1, en1, R1, stepE R1 p1 fun o2 en2 v2 H2 G2 R2 ro2 n2 s2 p2 => ?_⟩⟩
  obtain ⟨o, eo, q⟩ := fin_out R2 p2
  obtain ⟨d1, d2, e1, e2, eg⟩ := bind2 eo
  exact ok G2 H2 d1 d2 v1 v2 o _ R2.sub R2.hf (view_ok R2 (ro1.later n1 s2) e1) (view_ok R2 ro2 e2) eg q
theorem de_op2 {op : Operator} {r : R2} {g : D → D → Option Op} (ho : OpR X (binaryOp op) r) (ok : OpOk2 X.K r g) (ha : DE X T W a fa) (hb : DE X T W b fb) : DE X T W (.BinOp a op b pos) (eOp2 g fa fb) :=
  pe_of (pe_op ho (de_settle ha) (de_settle hb)) fun σ H Q _ h => imp2 ok σ H Q h
theorem de_cmp {op : CmpOp} {r : R2} {g : D → D → Option Op} (ho : OpR X (compareOp op) r) (ok : OpOk2 X.K r g) (hm : behindInMarks op b = false) (ha : DE X T W a fa) (hb : DE X T W b fb) : DE X T W (.Compare a [op] [b] pos) (eOp2 g fa fb) :=
  pe_of (pe_cmpR ho (de_settle ha) (de_settle hb) hm) fun σ H Q _ h => imp2 ok σ H Q h
theorem de_ix {r : R2} {g : D → D → Option Op} (hr : IxR X r) (ok : OpOk2 X.K r g) (hs : PlainIx b) (ha : DE X T W a fa) (hb : DE X T W b fb) : DE X T W (.Subscript a b pos) (eOp2 g fa fb) :=
  pe_of (pe_ix hr (de_settle ha) (de_settle hb) hs) fun σ H Q _ h => imp2 ok σ H Q h
theorem de_un {op : UnaryOp} {r : V → Hp → VK → Prop} {g : D → Option Op} (ho : UnR X (unaryOp op) r) (ok : OpOk1 X.K r g) (ha : DE X T W a fa) : DE X T W (.UnaryOp op a pos) (eOp1 g fa) :=
  pe_of (pe_un ho (de_settle ha)) fun σ H Q _ ⟨G, en, R, p⟩ => by
    refine ⟨G, en, R, stepE R p fun o1 en1 v1 H1 G1 R1 ro1 n1 s1 p1 => ?_⟩
    obtain ⟨o, eo, q⟩ := fin_out R1 p1
    obtain ⟨d1, e1, eg⟩ := Option.bind_eq_some_iff.mp eo
    exact ok G1 H1 d1 v1 o _ R1.sub R1.hf (view_ok R1 ro1 e1) eg q
/-- arguments -/
theorem da_nil : DA X T W [] aNil := pa_of pa_nil fun σ H Q _ ⟨G, en, R, p⟩ => fun _ => p [] H G R .nil Fr.refl (IoK.refl en)
theorem da_cons {ga : AF} (h : DE X T W e f) (hr : DA X T W es ga) (hs : starEach (e :: es) X.env = (false, eval e X.env) :: starEach es X.env := by rfl) : DA X T W (e :: es) (aCons f ga) :=
  pa_of (pa_cons (de_settle h) hr hs) fun σ H Q _ ⟨G, en, R, p⟩ => by
    refine ⟨G, en, R, stepA R p fun o en1 v H1 G1 R1 ro n1 s1 p1 => ⟨G1, en1, R1, ?_⟩⟩
    refine stepLA R1 p1 fun os en2 vs H2 G2 R2 ros s2 p2 _ => ?_
    exact p2 (v :: vs) H2 G2 R2 (.cons n1 (ro.later n1 s2) ros) Fr.refl (IoK.refl en2)
theorem de_callR {r : List V → Hp → VK → Prop} {g : List D → Option Op} {ga : AF} (h : PE X e (tCB r (tA X.K X.mg T W ga))) (ok : CallOk X.K r g) : DE X T W e (eCall g ga) :=
  pe_of h fun σ H Q _ ⟨G, en, R, p⟩ => by
    refine ⟨G, en, R, stepLE R p fun os en1 vs H1 G1 R1 ros s1 p1 => ?_⟩
    obtain ⟨o, eo, q⟩ := fin_out R1 p1
    obtain ⟨ds, e1, eg⟩ := Option.bind_eq_some_iff.mp eo
    exact ok G1 H1 ds vs o _ R1.sub R1.hf (viewL_ok R1 ros e1) eg q
theorem de_tup {ga : AF} {x1 : Nat} (h : DA X T W es ga) : DE X T W (.Tuple es x1 pos) (eTup ga) :=
  pe_of (pe_tup h) fun σ H Q _ ⟨G, en, R, p⟩ => by
    refine ⟨G, en, R, stepLE R p fun os en1 vs H1 G1 R1 ros s1 p1 => ?_⟩
    cases q : frzL os en1 with
    | none =>
      simp only [q] at p1
      exact p1.elim
    | some z =>
      obtain ⟨ds, en2⟩ := z
      simp only [q] at p1
      obtain ⟨G2, R2, rl, f2, i2, s2⟩ := frzL_ok R1 ros q
      by_cases hl : ds.length ≤ SZ
      · rw [if_pos hl] at p1
        refine ⟨by rw [← rl.len, sz_eq]; exact hl, fun pp hp hf => ?_⟩
        have hg := R2.sub.none hp
        have R3 := R2.new (o := .tup vs) hp (fun ps z => by cases z) hf
        exact p1 (.ref pp) _ _ R3 (.tup upd_same (rl.mono (Sub.new hg))) (f2.trans ((Fr.lay hp hg).weak fun p z => z.elim id fun z => z.elim)) i2
      · rw [if_neg hl] at p1
        exact p1.elim
theorem de_lst {ga : AF} (h : DA X T W es ga) : DE X T W (.List es pos) (eLst ga) :=
  pe_of (pe_lst h) fun σ H Q _ ⟨G, en, R, p⟩ => by
    refine ⟨G, en, R, stepLE R p fun os en1 vs H1 G1 R1 ros s1 p1 => ?_⟩
    cases q : frzL os en1 with
    | none =>
      simp only [q] at p1
      exact p1.elim
    | some z =>
      obtain ⟨ds, en2⟩ := z
      simp only [q] at p1
      obtain ⟨G2, R2, rl, f2, i2, s2⟩ := frzL_ok R1 ros q
      by_cases hl : ds.length ≤ SZ
      · rw [if_pos hl] at p1
        refine ⟨by rw [← rl.len, sz_eq]; exact hl, fun pp hp hf => ?_⟩
        obtain ⟨G3, R3, ro, f3⟩ := out_ok R2 (Out.newf (K := X.K) (d := .lst ds) hp (.lst rl)) hf
        exact p1 (.ref pp) _ _ R3 ro (f2.trans f3) i2
      · rw [if_neg hl] at p1
        exact p1.elim
/-! tests -/
theorem rep_ref {K : PySem.W.Frag} {G H : Hp} {d : D} {v : V} (h : RepV K G H d v) : (∃ p o, v = .ref p ∧ H p = some o ∧ RepO K G d o) ∨ Rep K G d v := by
  rcases h with h | ⟨p, e, _, o, h1, h2⟩
  · exact .inr h
  · exact .inl ⟨p, o, e, h1, h2⟩
theorem repV_lst {K : PySem.W.Frag} {G H : Hp} {ds : List D} {v : V} (s : Sub G H) (h : RepV K G H (.lst ds) v) : ∃ p xs, v = .ref p ∧ SqL K H p xs ∧ RepL K G ds xs := by
  rcases h with h | ⟨p, e, _, o, h1, h2⟩
  · cases h with
    | lst a b => exact ⟨_, _, rfl, s.l a, b⟩
  · cases h2 with
    | lst r => exact ⟨p, _, e, SqL.of h1, r⟩
theorem repV_tup {K : PySem.W.Frag} {G H : Hp} {ds : List D} {v : V} (s : Sub G H) (h : RepV K G H (.tup ds) v) : ∃ p xs, v = .ref p ∧ SqT K H p xs ∧ RepL K G ds xs := by
  rcases h with h | ⟨p, e, _, o, h1, h2⟩
  · cases h with
    | tup a b => exact ⟨_, _, rfl, SqT.of (s _ _ a), b⟩
  · cases h2
theorem repV_tupH {K : PySem.W.Frag} {G H : Hp} {ds : List D} {v : V} (s : Sub G H) (h : RepV K G H (.tup ds) v) : ∃ p xs, v = .ref p ∧ H p = some (.tup xs) ∧ RepL K G ds xs := by
  rcases h with h | ⟨p, e, _, o, h1, h2⟩
  · cases h with
    | tup a b => exact ⟨_, _, rfl, s _ _ a, b⟩
  · cases h2
theorem repV_kt {K : PySem.W.Frag} {G H : Hp} {ds : List D} {v : V} (s : Sub G H) (h : RepV K G H (.kt ds) v) : ∃ p xs, v = .ref p ∧ SqT K H p xs ∧ RepL K G ds xs := by
  rcases h with h | ⟨p, e, _, o, h1, h2⟩
  · cases h with
    | kt a b => exact ⟨_, _, rfl, s.t a, b⟩
  · cases h2
theorem repV_dK {K : PySem.W.Frag} {G H : Hp} {ds : List (Key × D)} {v : V} (s : Sub G H) (h : RepV K G H (.dK ds) v) : ∃ p kvs, v = .ref p ∧ H p = some (.dK kvs) ∧ RepK K G ds kvs := by
  rcases h with h | ⟨p, e, _, o, h1, h2⟩
  · cases h with
    | dK a b => exact ⟨_, _, rfl, s _ _ a, b⟩
  · cases h2 with
    | dK r => exact ⟨p, _, e, h1, r⟩
theorem repV_dT {K : PySem.W.Frag} {G H : Hp} {ds : List (List Key × D)} {v : V} (s : Sub G H) (h : RepV K G H (.dT ds) v) : ∃ p kvs, v = .ref p ∧ H p = some (.dT kvs) ∧ RepT K G ds kvs := by
  rcases h with h | ⟨p, e, _, o, h1, h2⟩
  · cases h with
    | dT a b => exact ⟨_, _, rfl, s _ _ a, b⟩
  · cases h2 with
    | dT r => exact ⟨p, _, e, h1, r⟩
theorem repV_int {K : PySem.W.Frag} {G H : Hp} {i : Int} {v : V} (h : RepV K G H (.int i) v) : v = .int i := by
  rcases h with h | ⟨p, e, _, o, h1, h2⟩
  · cases h; rfl
  · cases h2
theorem repV_bl {K : PySem.W.Frag} {G H : Hp} {i : Bool} {v : V} (h : RepV K G H (.bl i) v) : v = .bl i := by
  rcases h with h | ⟨p, e, _, o, h1, h2⟩
  · cases h; rfl
  · cases h2
theorem repV_str {K : PySem.W.Frag} {G H : Hp} {i : Str} {v : V} (h : RepV K G H (.str i) v) : v = .str i := by
  rcases h with h | ⟨p, e, _, o, h1, h2⟩
  · cases h; rfl
  · cases h2
theorem repV_non {K : PySem.W.Frag} {G H : Hp} {v : V} (h : RepV K G H .non v) : v = .non := by
  rcases h with h | ⟨p, e, _, o, h1, h2⟩
  · cases h; rfl
  · cases h2
theorem RepL.emp {K : PySem.W.Frag} {G : Hp} {ds : List D} {vs : List V} (h : RepL K G ds vs) : ds.isEmpty = vs.isEmpty := by
  cases h <;> rfl
theorem RepK.emp {K : PySem.W.Frag} {G : Hp} {ds : List (Key × D)} {vs : List (Key × V)} (h : RepK K G ds vs) : ds.isEmpty = vs.isEmpty := by
  cases h <;> rfl
theorem truth_ok {K : PySem.W.Frag} {G H : Hp} {d : D} {v : V} {k : Bool} (s : Sub G H) (h : RepV K G H d v) (e : truth d = some k) : TruV K v H k := by
  cases d with
  | non => cases repV_non h; exact (Option.some.inj e).symm
  | bl b => cases repV_bl h; exact (Option.some.inj e).symm
  | int i => cases repV_int h; exact (Option.some.inj e).symm
  | str x =>
    cases repV_str h
    have e' : (if x.length ≤ SZ then some ((x.length : Int) != 0) else none) = some k := e
    by_cases hl : x.length ≤ SZ
    · rw [if_pos hl] at e'
      exact ⟨by rw [sz_eq]; exact hl, (Option.some.inj e').symm⟩
    · rw [if_neg hl] at e'
      cases e'
  | tup ds =>
    obtain ⟨p, xs, rfl, h1, h2⟩ := repV_tup s h
    exact .inr (.inl ⟨xs, h1, by rw [← h2.emp]; exact (Option.some.inj e).symm⟩)
  | kt ds =>
    obtain ⟨p, xs, rfl, h1, h2⟩ := repV_kt s h
    exact .inr (.inl ⟨xs, h1, by rw [← h2.emp]; exact (Option.some.inj e).symm⟩)
  | lst ds =>
    obtain ⟨p, xs, rfl, h1, h2⟩ := repV_lst s h
    exact .inl ⟨xs, h1, by rw [← h2.emp]; exact (Option.some.inj e).symm⟩
  | dK ds =>
    obtain ⟨p, xs, rfl, h1, h2⟩ := repV_dK s h
    exact .inr (.inr ⟨xs, h1, by rw [← h2.emp]; exact (Option.some.inj e).symm⟩)
  | dT ds => cases e
  | ob C fs => cases e
  | vv v => cases e
theorem fin_t {α : Type} {K : PySem.W.Frag} {mg : Str → Option Value} {T : List (Addr × Str)} {W : WX} {G H : Hp} {σ : L2.St} {en : En} {oo : Option α} {Q : α → Hp → Prop} (R : Rel K T G σ H en) (p : PostT K mg T W G σ H en Q (ofT oo en)) : ∃ o, oo = some o ∧ Q o H := by
  cases oo with
  | none => exact p.elim
  | some o => exact ⟨o, rfl, p H G R Fr.refl (IoK.refl en)⟩
theorem dt_val (h : DE X T W e f) (he : ∀ whole, isTrue e X.env whole = (do let v ← whole; standAt e.pos; holding [v] (truthy v)) := by intro _; rfl) : DT X T W e (tVal f) :=
  pt_of (pt_truth (de_settle h) he) fun σ H Q _ ⟨G, en, R, p⟩ => by
    refine ⟨G, en, R, stepT R p fun o en1 v H1 G1 R1 ro n1 s1 p1 => ?_⟩
    obtain ⟨k, eo, q⟩ := fin_t R1 p1
    obtain ⟨d, e1, e2⟩ := Option.bind_eq_some_iff.mp eo
    exact ⟨k, truth_ok R1.sub (view_ok R1 ro e1) e2, fun _ => q⟩
/-- a comparison as a test -/
def gB (g : D → D → Option Op) (d1 d2 : D) : Option Bool := (g d1 d2).bind fun o => match o with
  | .val (.bl b) => some b
  | _ => none
def tCmp' (g : D → D → Option Op) (fa fb : EF) : TF := fun en => (settle (fa en)).bind fun o1 en1 => (settle (fb en1)).bind fun o2 en2 => ofT ((view o1 en2).bind fun d1 => (view o2 en2).bind fun d2 => gB g d1 d2) en2
theorem gB_some {g : D → D → Option Op} {d1 d2 : D} {k : Bool} (h : gB g d1 d2 = some k) : g d1 d2 = some (.val (.bl k)) := by
  unfold gB at h
  obtain ⟨o, e, h⟩ := Option.bind_eq_some_iff.mp h
  rw [e]
  split at h
  · cases h; rfl
  · cases h
theorem out_bl {K : PySem.W.Frag} {G H H' : Hp} {k : Bool} {v : V} (h : Out K G H (.val (.bl k)) v H') : v = .bl k ∧ H' = H := by
  cases h with
  | same r => cases r; exact ⟨rfl, rfl⟩
  | newv _ _ r => cases r
theorem dt_cmp {op : CmpOp} {r : R2} {g : D → D → Option Op} (ho : OpR X (compareOp op) r) (ok : OpOk2 X.K r g) (hm : behindInMarks op b = false) (ha : DE X T W a fa) (hb : DE X T W b fb) : DT X T W (.Compare a [op] [b] pos) (tCmp' g fa fb) :=
  pt_of (pt_cmpR ho (de_settle ha) (de_settle hb) hm) fun σ H Q _ ⟨G, en, R, p⟩ => by
    refine ⟨G, en, R, stepT R p fun o1 en1 v1 H1 G1 R1 ro1 n1 s1 p1 => ⟨G1, en1, R1, stepT R1 p1 fun o2 en2 v2 H2 G2 R2 ro2 n2 s2 p2 => ?_⟩⟩
    obtain ⟨k, eo, q⟩ := fin_t R2 p2
    obtain ⟨d1, d2, e1, e2, eg⟩ := bind2 eo
    refine ok G2 H2 d1 d2 v1 v2 _ _ R2.sub R2.hf (view_ok R2 (ro1.later n1 s2) e1) (view_ok R2 ro2 e2) (gB_some eg) fun v H' out => ?_
    obtain ⟨rfl, rfl⟩ := out_bl out
    exact ⟨k, rfl, fun _ => q⟩
theorem dt_not {f : TF} (h : DT X T W a f) : DT X T W (.UnaryOp .Not a pos) (tNot' f) :=
  pt_of (pt_not h) fun σ H Q _ ⟨G, en, R, p⟩ => ⟨G, en, R, stepBT R p fun b en1 H1 G1 R1 s1 p1 _ => p1 H1 G1 R1 Fr.refl (IoK.refl en1)⟩
theorem dw_and1 {f : TF} (h : DT X T W a f) : DW X T W (.BoolOp .And [a] pos) f := pw_and1 h
theorem dw_or1 {f : TF} (h : DT X T W a f) : DW X T W (.BoolOp .Or [a] pos) f := pw_or1 h
theorem dw_and {f g : TF} {rest : List Expr} (h : DT X T W a f) (k : DW X T W (.BoolOp .And (b :: rest) pos) g) : DW X T W (.BoolOp .And (a :: b :: rest) pos) (tAnd' f g) :=
  pw_of (pw_and h k) fun σ H Q _ ⟨G, en, R, p⟩ => by
    refine ⟨G, en, R, stepBT R p fun b en1 H1 G1 R1 s1 p1 => ?_⟩
    cases b with
    | true => exact ⟨G1, en1, R1, p1.mono fun _ _ q _ => q⟩
    | false => exact fun _ => p1 H1 G1 R1 Fr.refl (IoK.refl en1)
theorem dw_or {f g : TF} {rest : List Expr} (h : DT X T W a f) (k : DW X T W (.BoolOp .Or (b :: rest) pos) g) : DW X T W (.BoolOp .Or (a :: b :: rest) pos) (tOr' f g) :=
  pw_of (pw_or h k) fun σ H Q _ ⟨G, en, R, p⟩ => by
    refine ⟨G, en, R, stepBT R p fun b en1 H1 G1 R1 s1 p1 => ?_⟩
    cases b with
    | true => exact fun _ => p1 H1 G1 R1 Fr.refl (IoK.refl en1)
    | false => exact ⟨G1, en1, R1, p1.mono fun _ _ q _ => q⟩
theorem dt_w {f : TF} (h : DW X T W e f) : DT X T W e f := PW.pt h
/-- and, or, not as values (bools) -/
theorem de_one {op : BoolOp} (h : DE X T W a f) : DE X T W (.BoolOp op [a] pos) f := pe_one h
theorem isBl_ok {K : PySem.W.Frag} {T : List (Addr × Str)} {G H : Hp} {σ : L2.St} {en : En} {o : Op} {v : V} {k : Bool} (R : Rel K T G σ H en) (ro : RelO K G H σ en o v) (e : (view o en).bind isBl = some k) : v = .bl k := by
  obtain ⟨d, e1, e2⟩ := Option.bind_eq_some_iff.mp e
  cases d with
  | bl b =>
    cases e2
    exact repV_bl (view_ok R ro e1)
  | _ => cases e2
theorem de_and {rest : List Expr} (ha : DE X T W a fa) (hb : DE X T W (.BoolOp .And (b :: rest) pos) fb) : DE X T W (.BoolOp .And (a :: b :: rest) pos) (eAnd fa fb) :=
  pe_of (pe_and (de_settle ha) hb) fun σ H Q _ ⟨G, en, R, p⟩ => by
    refine ⟨G, en, R, stepE R p fun o en1 v H1 G1 R1 ro n1 s1 p1 => ?_⟩
    cases q : (view o en1).bind isBl with
    | none =>
      rw [q] at p1
      exact p1.elim
    | some k =>
      rw [q] at p1
      refine ⟨k, isBl_ok R1 ro q, ?_⟩
      cases k with
      | true => exact ⟨G1, en1, R1, p1.mono fun _ _ q _ => q⟩
      | false => exact fun _ => p1 (.bl false) H1 G1 R1 (.bl false) (Fr.refl.weak fun p z => z.elim id fun z => z.elim) (IoK.refl en1)
theorem de_or {rest : List Expr} (ha : DE X T W a fa) (hb : DE X T W (.BoolOp .Or (b :: rest) pos) fb) : DE X T W (.BoolOp .Or (a :: b :: rest) pos) (eOr fa fb) :=
  pe_of (pe_or (de_settle ha) hb) fun σ H Q _ ⟨G, en, R, p⟩ => by
    refine ⟨G, en, R, stepE R p fun o en1 v H1 G1 R1 ro n1 s1 p1 => ?_⟩
    cases q : (view o en1).bind isBl with
    | none =>
      rw [q] at p1
      exact p1.elim
    | some k =>
      rw [q] at p1
      refine ⟨k, isBl_ok R1 ro q, ?_⟩
      cases k with
      | true => exact fun _ => p1 (.bl true) H1 G1 R1 (.bl true) (Fr.refl.weak fun p z => z.elim id fun z => z.elim) (IoK.refl en1)
      | false => exact ⟨G1, en1, R1, p1.mono fun _ _ q _ => q⟩
theorem de_not (h : DE X T W a f) : DE X T W (.UnaryOp .Not a pos) (eNot f) :=
  pe_of (pe_not (de_settle h)) fun σ H Q _ ⟨G, en, R, p⟩ => by
    refine ⟨G, en, R, stepE R p fun o en1 v H1 G1 R1 ro n1 s1 p1 => ?_⟩
    obtain ⟨o', eo, q⟩ := fin_out R1 p1
    obtain ⟨d, e1, eg⟩ := Option.bind_eq_some_iff.mp eo
    cases d with
    | bl b =>
      cases Option.some.inj eg
      exact ⟨b, repV_bl (view_ok R1 ro e1), q (.bl !b) H1 (.same (.bl _))⟩
    | _ => cases eg
theorem de_ifExp {t : TF} (hc : DT X T W c t) (ha : DE X T W a fa) (hb : DE X T W b fb) : DE X T W (.IfExp c a b pos) (eIf t fa fb) :=
  pe_of (pe_ifExp hc ha hb) fun σ H Q _ ⟨G, en, R, p⟩ => by
    refine ⟨G, en, R, stepBE R p fun b en1 H1 G1 R1 s1 p1 => ?_⟩
    cases b with
    | true => exact ⟨G1, en1, R1, p1.mono fun _ _ q _ => q⟩
    | false => exact ⟨G1, en1, R1, p1.mono fun _ _ q _ => q⟩
end
end PF
namespace PF
open PySem PySem.Spec PyProof.Rows L2
section
variable {X : Cx} {T : List (Addr × Str)} {W : WX} {a b c e : Expr} {es : List Expr} {fa fb fc f : EF} {pos : Pos}
abbrev DO (X : Cx) (T : List (Addr × Str)) (W : WX) (e : Option Expr) (f : OF) : Prop := PO X e (fun σ H Q => ∃ G en, Rel X.K T G σ H en ∧ PostT X.K X.mg T W G σ H en Q (f en))
theorem do_none : DO X T W none oNone := ⟨fun pins s σ H Q I ⟨G, en, R, p⟩ => po_none.run pins s σ H Q I (p H G R Fr.refl (IoK.refl en))⟩
theorem isInt_ok {K : PySem.W.Frag} {T : List (Addr × Str)} {G H : Hp} {σ : L2.St} {en : En} {o : Op} {v : V} {k : Option Int} (R : Rel K T G σ H en) (ro : RelO K G H σ en o v) (e : ((view o en).bind fun d => (isInt d).map some) = some k) : ∃ i, v = .int i ∧ k = some i := by
  obtain ⟨d, e1, e2⟩ := Option.bind_eq_some_iff.mp e
  cases d with
  | int b =>
    cases Option.some.inj e2
    exact ⟨b, repV_int (view_ok R ro e1), rfl⟩
  | _ => cases e2
theorem do_some (h : DE X T W e f) : DO X T W (some e) (oSome f) := by
  refine ⟨fun pins s σ H Q I ⟨G, en, R, p⟩ => (po_some (de_settle h)).run pins s σ H Q I ?_⟩
  refine ⟨G, en, R, stepT R p fun o en1 v H1 G1 R1 ro n1 s1 p1 => ?_⟩
  obtain ⟨k, eo, q⟩ := fin_t R1 p1
  obtain ⟨i, e1, e2⟩ := isInt_ok R1 ro eo
  exact ⟨i, e1, by rw [← e2]; exact q⟩
theorem de_slice {r : V → Option Int → Option Int → Hp → VK → Prop} {g : D → Option Int → Option Int → Option Op} {lo hi : Option Expr} {l u : OF} {p2 : Pos} (hr : SlR X r) (ok : SlOkR X.K r g) (h : DE X T W e f) (hl : DO X T W lo l) (hu : DO X T W hi u) :
    DE X T W (.Subscript e (.Slice lo hi none p2) pos) (eSl g f l u) :=
  pe_of (pe_slice hr (de_settle h) hl hu) fun σ H Q _ ⟨G, en, R, p⟩ => by
    refine ⟨G, en, R, stepE R p fun o en1 v H1 G1 R1 ro n1 s1 p1 => ⟨G1, en1, R1, stepBE R1 p1 fun lo en2 H2 G2 R2 s2 p2 => ⟨G2, en2, R2, stepBE R2 p2 fun hi en3 H3 G3 R3 s3 p3 => ?_⟩⟩⟩
    obtain ⟨o', eo, q⟩ := fin_out R3 p3
    obtain ⟨d, e1, eg⟩ := Option.bind_eq_some_iff.mp eo
    exact ok G3 H3 d v lo hi o' _ R3.sub R3.hf (view_ok R3 ((ro.later (H' := H2) (en' := en2) n1 s2).later n1 s3) e1) eg q
theorem de_chain {op op' : CmpOp} {r r' : R2} {g g' : D → D → Option Op} (ok : OpOk2 X.K r g) (ok' : OpOk2 X.K r' g')
    (hpe : PE X e (tChain r r' (tE X.K X.mg T W fun en => settle (fa en)) (tE X.K X.mg T W fun en => settle (fb en)) (tE X.K X.mg T W fun en => settle (fc en)))) : DE X T W e (eChain g g' fa fb fc) :=
  pe_of hpe fun σ H Q _ ⟨G, en, R, p⟩ => by
    refine ⟨G, en, R, stepE R p fun o1 en1 v1 H1 G1 R1 ro1 n1 s1 p1 => ⟨G1, en1, R1, stepE R1 p1 fun o2 en2 v2 H2 G2 R2 ro2 n2 s2 p2 => ?_⟩⟩
    cases q : ((view o1 en2).bind fun d1 => (view o2 en2).bind fun d2 => g d1 d2) with
    | none =>
      rw [q] at p2
      exact p2.elim
    | some z =>
      rw [q] at p2
      obtain ⟨d1, d2, e1, e2, eg⟩ := bind2 q
      have go : ∀ k, z = .val (.bl k) → (∀ H', H' = H2 → ∃ k', V.bl k = .bl k' ∧ if k' = true then tE X.K X.mg T W (fun en => settle (fc en)) σ H' (fun w H3 => r' v2 w H3 fun v H1 => HF X.K H1 → Q v H1) else HF X.K H' → Q (.bl false) H') →
          r v1 v2 H2 (fun z H3 => ∃ k, z = .bl k ∧ if k = true then tE X.K X.mg T W (fun en => settle (fc en)) σ H3 (fun w H4 => r' v2 w H4 fun v H1 => HF X.K H1 → Q v H1) else HF X.K H3 → Q (.bl false) H3) := fun k hz hh => by
        subst hz
        refine ok G2 H2 d1 d2 v1 v2 _ _ R2.sub R2.hf (view_ok R2 (ro1.later n1 s2) e1) (view_ok R2 ro2 e2) eg fun v H' out => ?_
        obtain ⟨rfl, rfl⟩ := out_bl out
        exact hh _ rfl
      match z, p2, go with
      | .val (.bl true), p2, go =>
        refine go true rfl fun H' hH => ⟨true, rfl, ?_⟩
        subst hH
        rw [if_pos rfl]
        refine ⟨G2, en2, R2, stepE R2 p2 fun o3 en3 v3 H3 G3 R3 ro3 n3 s3 p3 => ?_⟩
        obtain ⟨o', eo, q'⟩ := fin_out R3 p3
        obtain ⟨d1, d2, e1, e2, eg⟩ := bind2 eo
        exact ok' G3 H3 d1 d2 v2 v3 o' _ R3.sub R3.hf (view_ok R3 (ro2.later n2 s3) e1) (view_ok R3 ro3 e2) eg q'
      | .val (.bl false), p2, go =>
        refine go false rfl fun H' hH => ⟨false, rfl, ?_⟩
        subst hH
        rw [if_neg Bool.false_ne_true]
        exact fun _ => p2 (.bl false) _ G2 R2 (.bl false) (Fr.refl.weak fun p z => z.elim id fun z => z.elim) (IoK.refl en2)
      | .val .non, p2, _ | .val (.int _), p2, _ | .val (.str _), p2, _ | .val (.tup _), p2, _ | .val (.lst _), p2, _ | .val (.dK _), p2, _ | .val (.dT _), p2, _ | .val (.ob _ _), p2, _ | .val (.vv _), p2, _ | .fresh _, p2, _ | .slot _, p2, _ => exact p2.elim
def tChain' (g g' : D → D → Option Op) (fa fb fc : EF) : TF := fun en => (settle (fa en)).bind fun o1 en1 => (settle (fb en1)).bind fun o2 en2 => match (view o1 en2).bind fun d1 => (view o2 en2).bind fun d2 => gB g d1 d2 with
  | some true => (settle (fc en2)).bind fun o3 en3 => ofT ((view o2 en3).bind fun d1 => (view o3 en3).bind fun d2 => gB g' d1 d2) en3
  | some false => .ok false en2
  | none => .stuck
theorem dt_chain {op op' : CmpOp} {r r' : R2} {g g' : D → D → Option Op} (ok : OpOk2 X.K r g) (ok' : OpOk2 X.K r' g')
    (hpe : PT X e (tTest (tChain r r' (tE X.K X.mg T W fun en => settle (fa en)) (tE X.K X.mg T W fun en => settle (fb en)) (tE X.K X.mg T W fun en => settle (fc en))))) : DT X T W e (tChain' g g' fa fb fc) :=
  pt_of hpe fun σ H Q _ ⟨G, en, R, p⟩ => by
    refine ⟨G, en, R, stepT R p fun o1 en1 v1 H1 G1 R1 ro1 n1 s1 p1 => ⟨G1, en1, R1, stepT R1 p1 fun o2 en2 v2 H2 G2 R2 ro2 n2 s2 p2 => ?_⟩⟩
    cases q : ((view o1 en2).bind fun d1 => (view o2 en2).bind fun d2 => gB g d1 d2) with
    | none =>
      rw [q] at p2
      exact p2.elim
    | some k =>
      rw [q] at p2
      obtain ⟨d1, d2, e1, e2, eg⟩ := bind2 q
      refine ok G2 H2 d1 d2 v1 v2 _ _ R2.sub R2.hf (view_ok R2 (ro1.later n1 s2) e1) (view_ok R2 ro2 e2) (gB_some eg) fun v H' out => ?_
      obtain ⟨rfl, rfl⟩ := out_bl out
      refine ⟨k, rfl, ?_⟩
      cases k with
      | true =>
        rw [if_pos rfl]
        refine ⟨G2, en2, R2, stepT R2 p2 fun o3 en3 v3 H3 G3 R3 ro3 n3 s3 p3 => ?_⟩
        obtain ⟨k, eo, q'⟩ := fin_t R3 p3
        obtain ⟨d1, d2, e1, e2, eg⟩ := bind2 eo
        refine ok' G3 H3 d1 d2 v2 v3 _ _ R3.sub R3.hf (view_ok R3 (ro2.later n2 s3) e1) (view_ok R3 ro3 e2) (gB_some eg) fun v H' out => ?_
        obtain ⟨rfl, rfl⟩ := out_bl out
        exact ⟨k, rfl, fun _ => q'⟩
      | false =>
        rw [if_neg Bool.false_ne_true]
        exact ⟨false, rfl, fun _ => p2 _ G2 R2 Fr.refl (IoK.refl en2)⟩
end
end PF
namespace PF
open PySem PySem.Spec PyProof.Rows L2

/-! ## statements as functions -/
def sSeq (f g : SF) : SF := fun en => (f en).bind fun fl en1 => match fl with
  | .nx => g en1
  | fl => .ok fl en1
def sNext : SF := fun en => .ok .nx en
def sBreak : SF := fun en => .ok .bk en
def sCont : SF := fun en => .ok .ct en
def sRet (f : EF) : SF := fun en => (f en).bind fun o en1 => .ok (.rt o) en1
def sRetN : SF := fun en => .ok (.rt (.val .non)) en
def sDrop (f : EF) : SF := fun en => (settle (f en)).bind fun _ en1 => .ok .nx en1
def sIf (t : TF) (f g : SF) : SF := fun en => (t en).bind fun b en1 => match b with
  | true => f en1
  | false => g en1
/-- a slot is given an op -/
def putO (i : Nat) (o : Op) (en : En) : Option En := match o with
  | .val d => some (en.set i (.fz d))
  | .fresh d => some (en.set i (.ow false d))
  | .slot j => (frz (.slot j) en).map fun p => p.2.set i (.fz p.1)
def setO (i : Nat) (o : Op) (en : En) : Option En := match en[i]? with
  | none => none
  | some (.ow true _) => none
  | some _ => putO i o en
def sSet (i : Nat) (f : EF) : SF := fun en => (f en).bind fun o en1 => match setO i o en1 with
  | some en2 => .ok .nx en2
  | none => .stuck
inductive Pat where
  | nm (i : Nat) | tp (ps : List Pat)
mutual
def patIx : Pat → List Nat
  | .nm i => [i]
  | .tp ps => patsIx ps
def patsIx : List Pat → List Nat
  | [] => []
  | p :: ps => patIx p ++ patsIx ps
end
mutual
def asgP : Pat → D → En → Option En
  | .nm i, d, en => setO i (.val d) en
  | .tp ps, .tup ds, en => asgPs ps ds en
  | .tp ps, .lst ds, en => asgPs ps ds en
  | _, _, _ => none
def asgPs : List Pat → List D → En → Option En
  | [], [], en => some en
  | p :: ps, d :: ds, en => match asgP p d en with
    | some en1 => asgPs ps ds en1
    | none => none
  | _, _, _ => none
end
def sPat (p : Pat) (f : EF) : SF := fun en => (settle (f en)).bind fun o en1 => match frz o en1 with
  | some (d, en2) => match asgP p d en2 with
    | some en3 => .ok .nx en3
    | none => .stuck
  | none => .stuck
/-- an op as it is to be kept: frozen, but for what is new -/
def hold : Op → En → Option (Op × En)
  | .val d, en => some (.val d, en)
  | .fresh d, en => some (.fresh d, en)
  | .slot i, en => (frz (.slot i) en).map fun p => (.val p.1, p.2)
def aConsF (f : EF) (g : AF) : AF := fun en => (f en).bind fun o en1 => match hold o en1 with
  | some (o', en2) => (g en2).bind fun os en3 => .ok (o' :: os) en3
  | none => .stuck
def setM : List Nat → List Op → En → Option En
  | [], [], en => some en
  | i :: is, o :: os, en => match setO i o en with
    | some en1 => setM is os en1
    | none => none
  | _, _, _ => none
def sPar (is : List Nat) (g : AF) : SF := fun en => (g en).bind fun os en1 => match setM is os en1 with
  | some en2 => .ok .nx en2
  | none => .stuck

/-! ## readings -/
section
variable (K : PySem.W.Frag) (mg : Str → Option Value) (T : List (Addr × Str)) (W : WX)
def ExcS (G : Hp) (σ : St) (H : Hp) (en : En) (c : Str) (pl : Option D) (en' : En) : Prop :=
  ∀ σ' H' G' C d, mg c = some (.ref C) → Rel K T G' σ' H' en' → Fr G H (own σ en) G' H' (own σ' en') → IoS σ en σ' en' → PlOk K G' H' pl d → W (.ref C) d σ' H'
def okS (G : Hp) (σ : St) (H : Hp) (en : En) (D : Ends) (fl : Fl) (en' : En) : Prop := match fl with
  | .nx => ∀ σ' H' G', Rel K T G' σ' H' en' → Fr G H (own σ en) G' H' (own σ' en') → IoS σ en σ' en' → D.nx σ' H'
  | .bk => ∀ σ' H' G', Rel K T G' σ' H' en' → Fr G H (own σ en) G' H' (own σ' en') → IoS σ en σ' en' → D.bk σ' H'
  | .ct => ∀ σ' H' G', Rel K T G' σ' H' en' → Fr G H (own σ en) G' H' (own σ' en') → IoS σ en σ' en' → D.ct σ' H'
  | .rt o => ∀ v σ' H' G', Rel K T G' σ' H' en' → RelO K G' H' σ' en' o v → Fr G H (own σ en) G' H' (fun p => own σ' en' p ∨ frO o v p) → IoS σ en σ' en' → D.rt v H'
def PostS (G : Hp) (σ : St) (H : Hp) (en : En) (D : Ends) : SR → Prop := PostR (okS K T G σ H en D) (ExcS K mg T W G σ H en)
def tS (f : SF) : TS := fun D σ H => ∃ G en, Rel K T G σ H en ∧ PostS K mg T W G σ H en D (f en)
/-- kept ops -/
inductive RelFs (G H : Hp) (σ : St) (en : En) : List Op → List V → Prop
  | nil : RelFs G H σ en [] []
  | cons {o : Op} {v : V} {os : List Op} {vs : List V} : (∀ i, o ≠ .slot i) → RelO K G H σ en o v → (∀ p, frO o v p → ∀ q ∈ os.zip vs, ¬ frO q.1 q.2 p) → RelFs G H σ en os vs → RelFs G H σ en (o :: os) (v :: vs)
def frL (os : List Op) (vs : List V) (p : Addr) : Prop := ∃ q ∈ os.zip vs, frO q.1 q.2 p
def okF (G : Hp) (σ : St) (H : Hp) (en : En) (Q : List V → Hp → Prop) (os : List Op) (en' : En) : Prop :=
  ∀ vs H' G', Rel K T G' σ H' en' → RelFs K G' H' σ en' os vs → Fr G H (own σ en) G' H' (fun p => own σ en' p ∨ frL os vs p) → IoK en en' → Q vs H'
def PostF (G : Hp) (σ : St) (H : Hp) (en : En) (Q : List V → Hp → Prop) : AR → Prop := PostR (okF K T G σ H en Q) (ExcP K mg T W G σ H en)
def tF (f : AF) : TA := fun σ H Q => ∃ G en, Rel K T G σ H en ∧ PostF K mg T W G σ H en Q (f en)
/-- a target that takes data -/
def gP (p : Pat) : TG := fun v σ H Q => ∃ G en d en', Rel K T G σ H en ∧ Rep K G d v ∧ asgP p d en = some en' ∧ ∀ σ', Rel K T G σ' H en' → (∀ q, own σ' en' q → own σ en q) → IoS σ en σ' en' → (∀ j, j ∉ patIx p → σ'[j]? = σ[j]?) → Q σ' H
def gPs (ps : List Pat) : TGs := fun vs σ H Q => ∃ G en ds en', Rel K T G σ H en ∧ RepL K G ds vs ∧ asgPs ps ds en = some en' ∧ ∀ σ', Rel K T G σ' H en' → (∀ q, own σ' en' q → own σ en q) → IoS σ en σ' en' → (∀ j, j ∉ patsIx ps → σ'[j]? = σ[j]?) → Q σ' H
end
abbrev DS (X : Cx) (T : List (Addr × Str)) (W : WX) (st : Stmt) (f : SF) : Prop := PS X st (tS X.K X.mg T W f)
abbrev DB (X : Cx) (T : List (Addr × Str)) (W : WX) (st : List Stmt) (f : SF) : Prop := PSs X st (tS X.K X.mg T W f)
abbrev DF (X : Cx) (T : List (Addr × Str)) (W : WX) (es : List Expr) (f : AF) : Prop := PA X es (tF X.K X.mg T W f)
abbrev DG (X : Cx) (T : List (Addr × Str)) (tg : Expr) (p : Pat) : Prop := PG X tg (gP X.K T p)
abbrev DGs (X : Cx) (T : List (Addr × Str)) (tgs : List Expr) (p : List Pat) : Prop := PGs X tgs (gPs X.K T p)
def hfD (K : PySem.W.Frag) (D : Ends) : Ends := { nx := fun σ H => HF K H → D.nx σ H, rt := fun v H => HF K H → D.rt v H, bk := fun σ H => HF K H → D.bk σ H, ct := fun σ H => HF K H → D.ct σ H }
section
variable {X : Cx} {T : List (Addr × Str)} {W : WX}
theorem sp_hf {pins : List (Addr × Obj)} {D : Ends} {f : Flow} {s' : Shared} (h : SP X pins (hfD X.K D) f s') : SP X pins D f s' := by
  cases f with
  | next => obtain ⟨σ', H', I', q⟩ := h; exact ⟨σ', H', I', q (hf_of I')⟩
  | brk => obtain ⟨σ', H', I', q⟩ := h; exact ⟨σ', H', I', q (hf_of I')⟩
  | cont => obtain ⟨σ', H', I', q⟩ := h; exact ⟨σ', H', I', q (hf_of I')⟩
  | ret u => obtain ⟨v, σ', H', I', r, q⟩ := h; exact ⟨v, σ', H', I', r, q (hf_of I')⟩
theorem ps_of {st : Stmt} {t0 t : TS} (h : PS X st t0) (imp : ∀ σ H D, HF X.K H → t D σ H → t0 (hfD X.K D) σ H) : PS X st t :=
  ⟨fun pins s σ H D I h' => thn (h.run pins s σ H _ I (imp σ H D (hf_of I) h')) fun f s1 q => sp_hf q⟩
theorem pss_of {st : List Stmt} {t0 t : TS} (h : PSs X st t0) (imp : ∀ σ H D, HF X.K H → t D σ H → t0 (hfD X.K D) σ H) : PSs X st t :=
  ⟨fun pins s σ H D I h' => thn (h.run pins s σ H _ I (imp σ H D (hf_of I) h')) fun f s1 q => sp_hf q⟩
end
section
variable {K : PySem.W.Frag} {mg : Str → Option Value} {T : List (Addr × Str)} {W : WX} {G H G' H' : Hp} {σ σ' : St} {en en' : En}
theorem excS_P {c : Str} {pl : Option D} (h : ExcS K mg T W G σ H en c pl en') : ExcP K mg T W G σ H en c pl en' := fun H' G' C d m R fr io po => h σ H' G' C d m R fr io.s po
theorem excS_sh {σ1 : St} {en1 : En} {G1 H1 : Hp} {c : Str} {pl : Option D} (f : Fr G H (own σ en) G1 H1 (own σ1 en1)) (i : IoS σ en σ1 en1) (h : ExcS K mg T W G σ H en c pl en') : ExcS K mg T W G1 σ1 H1 en1 c pl en' :=
  fun σ' H' G' C d m R fr io po => h σ' H' G' C d m R (f.trans fr) (i.trans io) po
theorem okS_sh {D : Ends} {fl : Fl} {σ1 : St} {en1 : En} {G1 H1 : Hp} (f : Fr G H (own σ en) G1 H1 (own σ1 en1)) (i : IoS σ en σ1 en1) (h : okS K T G σ H en D fl en') : okS K T G1 σ1 H1 en1 D fl en' := by
  cases fl with
  | nx => exact fun σ' H' G' R fr io => h σ' H' G' R (f.trans fr) (i.trans io)
  | bk => exact fun σ' H' G' R fr io => h σ' H' G' R (f.trans fr) (i.trans io)
  | ct => exact fun σ' H' G' R fr io => h σ' H' G' R (f.trans fr) (i.trans io)
  | rt o => exact fun v σ' H' G' R ro fr io => h v σ' H' G' R ro (f.trans fr) (i.trans io)
theorem postS_sh {D : Ends} {r : SR} {σ1 : St} {en1 : En} {G1 H1 : Hp} (f : Fr G H (own σ en) G1 H1 (own σ1 en1)) (i : IoS σ en σ1 en1) (h : PostS K mg T W G σ H en D r) : PostS K mg T W G1 σ1 H1 en1 D r :=
  PostR.mono h (fun _ _ _ q => okS_sh f i q) fun _ _ _ q => excS_sh f i q
theorem postS_hf {D : Ends} {r : SR} (h : PostS K mg T W G σ H en D r) : PostS K mg T W G σ H en (hfD K D) r :=
  PostR.mono h (fun fl _ _ q => match fl with
    | .nx => fun σ' H' G' R fr io _ => q σ' H' G' R fr io
    | .bk => fun σ' H' G' R fr io _ => q σ' H' G' R fr io
    | .ct => fun σ' H' G' R fr io _ => q σ' H' G' R fr io
    | .rt o => fun v σ' H' G' R ro fr io _ => q v σ' H' G' R ro fr io) fun _ _ _ q => q
/-- an expression (settled), then a statement's end -/
theorem stepS {r : ER} {k : Op → En → SR} {D : Ends} {Q' : VK} (R : Rel K T G σ H en) (h : PostS K mg T W G σ H en D ((settle r).bind k))
    (st : ∀ (o : Op) (en1 : En) (v : V) (H1 G1 : Hp), Rel K T G1 σ H1 en1 → RelO K G1 H1 σ en1 o v → (∀ d, o ≠ .fresh d) → Sub G G1 → PostS K mg T W G1 σ H1 en1 D (k o en1) → Q' v H1) : PostE K mg T W G σ H en Q' (settle r) :=
  step (P := fun G H en => okS K T G σ H en D) (Ex := fun G H en => ExcS K mg T W G σ H en) (fun _ _ _ _ _ _ _ _ f i q => okS_sh f i.s q) (fun _ _ _ _ _ _ _ _ _ f i q => excS_sh f i.s q) (fun _ _ _ z => excS_P z) R h st
theorem stepBS {β : Type} {r : Res β} {k : β → En → SR} {D : Ends} {Q' : β → Hp → Prop} (R : Rel K T G σ H en) (h : PostS K mg T W G σ H en D (r.bind k))
    (st : ∀ (b : β) (en1 : En) (H1 G1 : Hp), Rel K T G1 σ H1 en1 → Sub G G1 → PostS K mg T W G1 σ H1 en1 D (k b en1) → Q' b H1) : PostT K mg T W G σ H en Q' r :=
  stepB (P := fun G H en => okS K T G σ H en D) (Ex := fun G H en => ExcS K mg T W G σ H en) (fun _ _ _ _ _ _ _ _ f i q => okS_sh f i.s q) (fun _ _ _ _ _ _ _ _ _ f i q => excS_sh f i.s q) (fun _ _ _ z => excS_P z) R h st
theorem stepLS {r : AR} {k : List Op → En → SR} {D : Ends} {Q' : List V → Hp → Prop} (R : Rel K T G σ H en) (h : PostS K mg T W G σ H en D (r.bind k))
    (st : ∀ (os : List Op) (en1 : En) (vs : List V) (H1 G1 : Hp), Rel K T G1 σ H1 en1 → RelOs K G1 H1 σ en1 os vs → Sub G G1 → PostS K mg T W G1 σ H1 en1 D (k os en1) → Q' vs H1) : PostA K mg T W G σ H en Q' r :=
  stepL (P := fun G H en => okS K T G σ H en D) (Ex := fun G H en => ExcS K mg T W G σ H en) (fun _ _ _ _ _ _ _ _ f i q => okS_sh f i.s q) (fun _ _ _ _ _ _ _ _ _ f i q => excS_sh f i.s q) (fun _ _ _ z => excS_P z) R h st
theorem next_ok {D : Ends} (R : Rel K T G σ H en) (p : PostS K mg T W G σ H en D (.ok .nx en)) : D.nx σ H := p σ H G R Fr.refl (IoS.refl σ en)

/-- a slot takes an op -/
theorem setO_ok {i : Nat} {o : Op} {v : V} (R : Rel K T G σ H en) (ro : RelO K G H σ en o v) (e : setO i o en = some en') :
    ∃ G', Rel K T G' (σ.set i (some v)) H en' ∧ Fr G H (fun p => own σ en p ∨ frO o v p) G' H (own (σ.set i (some v)) en') ∧ IoS σ en (σ.set i (some v)) en' ∧ Sub G G' := by
  -- a slot that takes frozen data
  have core : ∀ {G0 : Hp} {en0 : En} {d : D}, Rel K T G0 σ H en0 → Rep K G0 d v → i < en0.length → (∀ d, en0[i]? ≠ some (.ow true d)) →
      Rel K T G0 (σ.set i (some v)) H (en0.set i (.fz d)) ∧ (∀ p, own (σ.set i (some v)) (en0.set i (.fz d)) p → own σ en0 p) ∧ IoS σ en0 (σ.set i (some v)) (en0.set i (.fz d)) := by
    intro G0 en0 d R0 rd hi hio
    have hown : ∀ p, own (σ.set i (some v)) (en0.set i (.fz d)) p → own σ en0 p := fun p ⟨j, b, x, e1, e2⟩ => by
      rcases getset e1 with ⟨_, z⟩ | ⟨ne, z⟩
      · cases z
      · rw [List.getElem?_set_ne (fun z => ne z.symm)] at e2
        exact ⟨j, b, x, z, e2⟩
    refine ⟨⟨R0.sub, R0.gt, R0.tabs, R0.hf, by rw [List.length_set, List.length_set]; exact R0.len, fun j s e => ?_, fun a j b c x y p e1 e2 s1 s2 => ?_⟩, hown, fun j x e => ?_⟩
    · rcases getset e with ⟨z, rfl⟩ | ⟨z, e0⟩
      · subst z
        exact ⟨v, List.getElem?_set_self (by rw [R0.len]; exact hi), rd⟩
      · rw [List.getElem?_set_ne (fun q => z q.symm)]
        exact R0.at_ j s e0
    · rcases getset e1 with ⟨_, z⟩ | ⟨n1, e1⟩
      · cases z
      · rcases getset e2 with ⟨_, z⟩ | ⟨n2, e2⟩
        · cases z
        · rw [List.getElem?_set_ne (fun q => n1 q.symm)] at s1
          rw [List.getElem?_set_ne (fun q => n2 q.symm)] at s2
          exact R0.sep a j b c x y p e1 e2 s1 s2
    · have ne : i ≠ j := fun z => hio x (by rw [z]; exact e)
      exact ⟨⟨x, by rw [List.getElem?_set_ne ne]; exact e⟩, List.getElem?_set_ne ne⟩
  unfold setO at e
  cases q : en[i]? with
  | none =>
    rw [q] at e
    cases e
  | some s =>
    rw [q] at e
    have hi : i < en.length := (List.getElem?_eq_some_iff.mp q).1
    have hio : ∀ d, en[i]? ≠ some (.ow true d) := fun d z => by
      rw [q] at z
      cases z
      cases e
    have e : putO i o en = some en' := by
      cases s with
      | un => exact e
      | fz d => exact e
      | ow b d =>
        cases b with
        | true => cases e
        | false => exact e
    cases o with
    | val d =>
      cases Option.some.inj e
      obtain ⟨R', ho, io⟩ := core R ro hi hio
      exact ⟨G, R', ⟨fun b u e n no => ⟨e, rfl⟩, fun p z => .inl (.inl (ho p z))⟩, io, Sub.refl G⟩
    | fresh d =>
      cases Option.some.inj e
      obtain ⟨p, rfl, ⟨hg, ob, hp, r⟩, no⟩ := ro
      have hown : ∀ p', own (σ.set i (some (V.ref p))) (en.set i (.ow false d)) p' → own σ en p' ∨ p' = p := fun p' ⟨j, b, x, e1, e2⟩ => by
        rcases getset e1 with ⟨z, _⟩ | ⟨ne, z⟩
        · subst z
          rw [List.getElem?_set_self (by rw [R.len]; exact hi)] at e2
          cases e2
          exact .inr rfl
        · rw [List.getElem?_set_ne (fun z => ne z.symm)] at e2
          exact .inl ⟨j, b, x, z, e2⟩
      refine ⟨G, ⟨R.sub, R.gt, R.tabs, R.hf, by rw [List.length_set, List.length_set]; exact R.len, fun j s e => ?_, fun a j b c x y p' e1 e2 s1 s2 => ?_⟩, ⟨fun b u e n no => ⟨e, rfl⟩, fun p' z => .inl ((hown p' z).imp id fun z => by rw [z]; rfl)⟩, fun j x e => ?_, Sub.refl G⟩
      · rcases getset e with ⟨z, rfl⟩ | ⟨z, e0⟩
        · subst z
          exact ⟨p, List.getElem?_set_self (by rw [R.len]; exact hi), hg, ob, hp, r⟩
        · rw [List.getElem?_set_ne (fun q => z q.symm)]
          exact R.at_ j s e0
      · rcases getset e1 with ⟨z1, _⟩ | ⟨n1, k1⟩
        · rcases getset e2 with ⟨z2, _⟩ | ⟨n2, k2⟩
          · rw [z1, z2]
          · subst z1
            rw [List.getElem?_set_self (by rw [R.len]; exact hi)] at s1
            rw [List.getElem?_set_ne (fun q => n2 q.symm)] at s2
            cases s1
            exact absurd ⟨j, c, y, k2, s2⟩ no
        · rcases getset e2 with ⟨z2, _⟩ | ⟨n2, e2⟩
          · subst z2
            rw [List.getElem?_set_self (by rw [R.len]; exact hi)] at s2
            rw [List.getElem?_set_ne (fun q => n1 q.symm)] at s1
            cases s2
            exact absurd ⟨a, b, x, k1, s1⟩ no
          · rw [List.getElem?_set_ne (fun q => n1 q.symm)] at s1
            rw [List.getElem?_set_ne (fun q => n2 q.symm)] at s2
            exact R.sep a j b c x y p' k1 e2 s1 s2
      · have ne : i ≠ j := fun z => hio x (by rw [z]; exact e)
        exact ⟨⟨x, by rw [List.getElem?_set_ne ne]; exact e⟩, List.getElem?_set_ne ne⟩
    | slot j =>
      obtain ⟨⟨d, en1⟩, e1, e2⟩ := Option.map_eq_some_iff.mp e
      subst e2
      obtain ⟨G1, R1, r1, f1, i1, s1⟩ := frz_ok R ro e1
      have hlen : en1.length = en.length := by rw [← R1.len, R.len]
      have hio1 : ∀ d, en1[i]? ≠ some (.ow true d) := fun d' z => by
        -- frz changes no slot into an own one
        have : en1 = en ∨ ∃ x, en1 = en.set j (.fz x) := by
          unfold frz at e1
          cases q' : en[j]? with
          | none => simp [q'] at e1
          | some s' =>
            cases s' with
            | un => simp [q'] at e1
            | fz x => simp [q'] at e1; exact .inl e1.2.symm
            | ow b x =>
              cases b with
              | true => simp [q'] at e1
              | false => simp [q'] at e1; exact .inr ⟨x, e1.2.symm⟩
        rcases this with rfl | ⟨x, rfl⟩
        · exact hio d' z
        · rcases getset z with ⟨_, z'⟩ | ⟨_, z'⟩
          · cases z'
          · exact hio d' z'
      obtain ⟨R', ho, io⟩ := core R1 r1 (by rw [hlen]; exact hi) hio1
      exact ⟨G1, R', (f1.trans (G2 := G1) (H2 := H) ⟨fun b u e n no => ⟨e, rfl⟩, fun p z => .inl (ho p z)⟩).weak (fun _ z => z) |> fun f => ⟨fun b u e n no => f.keep b u e n (fun z => no (.inl z)), fun p z => (f.new p z).imp .inl id⟩, i1.s.trans io, s1⟩
/-- a target takes data -/
theorem asgP_name {i : Nat} {d : D} {v : V} (R : Rel K T G σ H en) (r : Rep K G d v) (e : setO i (.val d) en = some en') :
    Rel K T G (σ.set i (some v)) H en' ∧ (∀ p, own (σ.set i (some v)) en' p → own σ en p) ∧ IoS σ en (σ.set i (some v)) en' := by
  obtain ⟨G', R', f, io, s⟩ := setO_ok (o := .val d) R r e
  -- nothing is frozen here: G' = G by the proof; we re-derive it with G
  refine ⟨⟨R.sub, R.gt, R.tabs, R.hf, R'.len, fun j s' e' => ?_, R'.sep⟩, fun p z => ?_, io⟩
  · unfold setO at e
    cases q : en[i]? with
    | none => rw [q] at e; cases e
    | some s0 =>
      rw [q] at e
      have hi : i < en.length := (List.getElem?_eq_some_iff.mp q).1
      have e2 : en' = en.set i (.fz d) := by
        cases s0 with
        | un => exact (Option.some.inj e).symm
        | fz _ => exact (Option.some.inj e).symm
        | ow b _ =>
          cases b with
          | true => cases e
          | false => exact (Option.some.inj e).symm
      subst e2
      rcases getset e' with ⟨z, rfl⟩ | ⟨z, e0⟩
      · subst z
        exact ⟨v, List.getElem?_set_self (by rw [R.len]; exact hi), r⟩
      · rw [List.getElem?_set_ne (fun q => z q.symm)]
        exact R.at_ j s' e0
  · rcases f.new p z with (q | q) | q
    · exact q
    · exact q.elim
    · obtain ⟨o, ho, n⟩ := own_some R' z
      obtain ⟨ps, e⟩ := q o ho
      exact absurd e (n ps)
end
end PF
namespace PF
open PySem PySem.Spec PyProof.Rows L2
section
variable {X : Cx} {T : List (Addr × Str)} {W : WX} {e : Expr} {f : EF} {pos : Pos}
theorem dg_nm {i : Nat} (h : PG X e (gName i)) : DG X T e (.nm i) :=
  ⟨fun pins s σ H v u Q I r ⟨G, en, d, en', R, rd, ea, k⟩ => h.run pins s σ H v u Q I r (by
    obtain ⟨R', ho, io⟩ := asgP_name R rd (show setO i (.val d) en = some en' by simpa [asgP] using ea)
    exact k _ R' ho io fun j hj => List.getElem?_set_ne (fun z => hj (by simp [patIx, z])))⟩
theorem dgs_nil : DGs X T [] [] :=
  ⟨fun pins s σ H vs us Q I r ⟨G, en, ds, en', R, rd, ea, k⟩ => by
    cases rd with
    | nil =>
      have e : en = en' := by simpa [asgPs] using ea
      subst e
      exact pgs_nil.run pins s σ H [] us Q I r ⟨rfl, k σ R (fun _ z => z) (IoS.refl σ en) fun _ _ => rfl⟩
    | cons _ _ => simp [asgPs] at ea⟩
theorem dgs_cons {tg : Expr} {tgs : List Expr} {p : Pat} {ps : List Pat} (h : DG X T tg p) (hs : DGs X T tgs ps)
    (hq : (assignEach (tg :: tgs) X.env).map (·.2) = assign tg X.env :: (assignEach tgs X.env).map (·.2) := by rfl) : DGs X T (tg :: tgs) (p :: ps) :=
  ⟨fun pins s σ H vs us Q I r ⟨G, en, ds, en', R, rd, ea, k⟩ => by
    cases rd with
    | nil => simp [asgPs] at ea
    | @cons d v ds vs r1 r2 =>
      cases q : asgP p d en with
      | none => simp [asgPs, q] at ea
      | some en1 =>
        have ea : asgPs ps ds en1 = some en' := by simpa [asgPs, q] using ea
        refine (pgs_cons h hs hq).run pins s σ H _ us Q I r ⟨v, vs, rfl, G, en, d, en1, R, r1, q, fun σ1 R1 ho1 io1 k1 => ?_⟩
        exact ⟨G, en1, ds, en', R1, r2, ea, fun σ2 R2 ho2 io2 k2 => k σ2 R2 (fun q z => ho1 q (ho2 q z)) (io1.trans io2) fun j hj => (k2 j (fun z => hj (by simp [patsIx, z]))).trans (k1 j fun z => hj (by simp [patsIx, z]))⟩⟩
theorem asgPs_len : ∀ {ps : List Pat} {ds : List D} {en en' : En}, asgPs ps ds en = some en' → ps.length = ds.length
  | [], [], _, _, _ => rfl
  | p :: ps, d :: ds, en, en', h => by
    cases q : asgP p d en with
    | none => simp [asgPs, q] at h
    | some en1 => simp [asgPs_len (show asgPs ps ds en1 = some en' by simpa [asgPs, q] using h)]
  | [], _ :: _, _, _, h => by simp [asgPs] at h
  | _ :: _, [], _, _, h => by simp [asgPs] at h
theorem dg_tp {tgs : List Expr} {ps : List Pat} {k : Nat} (hc : X.calm = true) (h : DGs X T tgs ps) (hn : (assignEach tgs X.env).length = ps.length := by rfl) (hst : (assignEach tgs X.env).findIdx? (·.1) = none := by rfl) : DG X T (.Tuple tgs k pos) (.tp ps) :=
  ⟨fun pins s σ H v u Q I r ⟨G, en, d, en', R, rd, ea, kk⟩ => by
    cases d with
    | tup ds =>
      have ea : asgPs ps ds en = some en' := by simpa [asgP] using ea
      cases rd with
      | tup h1 h2 => exact (pg_tup hc h hn hst).run pins s σ H _ u Q I r ⟨_, _, rfl, SqT.of (R.sub _ _ h1), by rw [← h2.len, asgPs_len ea], G, en, ds, en', R, h2, ea, kk⟩
    | lst ds =>
      have ea : asgPs ps ds en = some en' := by simpa [asgP] using ea
      cases rd with
      | lst h1 h2 => exact (pg_unl hc h hn hst).run pins s σ H _ u Q I r ⟨_, _, rfl, R.sub.l h1, by rw [← h2.len, asgPs_len ea], G, en, ds, en', R, h2, ea, kk⟩
    | non => simp [asgP] at ea
    | bl b => simp [asgP] at ea
    | int i => simp [asgP] at ea
    | str s => simp [asgP] at ea
    | kt s => simp [asgP] at ea
    | dK s => simp [asgP] at ea
    | dT s => simp [asgP] at ea
    | ob s t => simp [asgP] at ea
    | vv s => simp [asgP] at ea⟩

/-! ## blocks -/
theorem db_nil : DB X T W [] sNext := pss_of pss_nil fun σ H D _ ⟨G, en, R, p⟩ => fun _ => next_ok R p
theorem db_cons {st : Stmt} {rest : List Stmt} {f g : SF} (h : DS X T W st f) (hs : DB X T W rest g) : DB X T W (st :: rest) (sSeq f g) :=
  ⟨fun pins s σ H D I ⟨G, en, R, p⟩ => (pss_cons h hs).run pins s σ H D I (by
    refine ⟨G, en, R, ?_⟩
    unfold sSeq at p
    cases q : f en with
    | ok fl en1 =>
      rw [q] at p
      cases fl with
      | nx => exact fun σ1 H1 G1 R1 fr io => ⟨G1, en1, R1, postS_sh fr io p⟩
      | bk => exact p
      | ct => exact p
      | rt o => exact p
    | exc c pl en1 =>
      rw [q] at p
      exact p
    | stuck =>
      rw [q] at p
      exact p)⟩
theorem db_one {st : Stmt} {f : SF} (h : DS X T W st f) : DB X T W [st] f := pss_one h
theorem ds_pass : DS X T W (.Pass pos) sNext := ps_of ps_pass fun σ H D _ ⟨G, en, R, p⟩ => fun _ => next_ok R p
theorem ds_break : DS X T W (.Break pos) sBreak := ps_of ps_break fun σ H D _ ⟨G, en, R, p⟩ => fun _ => p σ H G R Fr.refl (IoS.refl σ en)
theorem ds_cont : DS X T W (.Continue pos) sCont := ps_of ps_continue fun σ H D _ ⟨G, en, R, p⟩ => fun _ => p σ H G R Fr.refl (IoS.refl σ en)
theorem ds_doc {x : Str} {j : Nat} {pos' : Pos} : DS X T W (.Expr (.Constant (.str x) j pos) pos') sNext := ps_of ps_doc fun σ H D _ ⟨G, en, R, p⟩ => fun _ => next_ok R p
theorem ds_ret (h : DE X T W e f) : DS X T W (.Return (some e) pos) (sRet f) :=
  ps_of (ps_ret h) fun σ H D _ ⟨G, en, R, p⟩ => by
    refine ⟨G, en, R, ?_⟩
    unfold sRet at p
    cases q : f en with
    | ok o en1 =>
      rw [q] at p
      exact fun v H1 G1 R1 ro fr io _ => p v σ H1 G1 R1 ro fr io.s
    | exc c pl en1 =>
      rw [q] at p
      exact excS_P p
    | stuck =>
      rw [q] at p
      exact p
theorem ds_retN : DS X T W (.Return none pos) sRetN := ps_of ps_retN fun σ H D _ ⟨G, en, R, p⟩ => fun _ => p .non σ H G R .non (Fr.refl.weak fun p z => z.elim id fun z => z.elim) (IoS.refl σ en)
theorem ds_drop (h : DE X T W e f) (hs : swapsWith e none pos.line X.env = pure false := by rfl) : DS X T W (.Expr e pos) (sDrop f) :=
  ps_of (ps_expr (de_settle h) hs) fun σ H D _ ⟨G, en, R, p⟩ => ⟨G, en, R, stepS R p fun o en1 v H1 G1 R1 ro n1 s1 p1 _ => next_ok R1 p1⟩
theorem ds_if {t : TF} {c : Expr} {a b : List Stmt} {fa fb : SF} (hc : DT X T W c t) (ha : DB X T W a fa) (hb : DB X T W b fb) : DS X T W (.If c a b pos) (sIf t fa fb) :=
  ps_of (ps_if hc ha hb) fun σ H D _ ⟨G, en, R, p⟩ => by
    refine ⟨G, en, R, stepBS R p fun b en1 H1 G1 R1 s1 p1 => ?_⟩
    cases b with
    | true => exact ⟨G1, en1, R1, postS_hf p1⟩
    | false => exact ⟨G1, en1, R1, postS_hf p1⟩
/-- x = e -/
theorem ds_set {i : Nat} {st : Stmt} (h : PS X st (tAsg (tE X.K X.mg T W f) (gName i))) : DS X T W st (sSet i f) :=
  ps_of h fun σ H D _ ⟨G, en, R, p⟩ => by
    refine ⟨G, en, R, ?_⟩
    unfold sSet at p
    cases q : f en with
    | exc c pl en1 =>
      rw [q] at p
      exact excS_P p
    | stuck =>
      rw [q] at p
      exact p
    | ok o en1 =>
      rw [q] at p
      intro v H1 G1 R1 ro fr io
      show HF X.K H1 → D.nx (σ.set i (some v)) H1
      intro _
      cases z : setO i o en1 with
      | none =>
        have p : PostS X.K X.mg T W G σ H en D (match setO i o en1 with | some en2 => Res.ok .nx en2 | none => .stuck) := p
        rw [z] at p
        exact p.elim
      | some en2 =>
        have p : PostS X.K X.mg T W G σ H en D (match setO i o en1 with | some en2 => Res.ok .nx en2 | none => .stuck) := p
        rw [z] at p
        obtain ⟨G2, R2, f2, io2, s2⟩ := setO_ok R1 ro z
        exact p _ H1 G2 R2 (fr.trans f2) (io.s.trans io2)
theorem ds_pat {p : Pat} {st : Stmt} (h : PS X st (tAsg (tE X.K X.mg T W fun en => settle (f en)) (gP X.K T p))) : DS X T W st (sPat p f) :=
  ps_of h fun σ H D _ ⟨G, en, R, p⟩ => by
    refine ⟨G, en, R, stepS R p fun o en1 v H1 G1 R1 ro n1 s1 p1 => ?_⟩
    cases q : frz o en1 with
    | none =>
      rw [q] at p1
      exact p1.elim
    | some z =>
      obtain ⟨d, en2⟩ := z
      rw [q] at p1
      have p1 : PostS X.K X.mg T W G1 σ H1 en1 D (match asgP _ d en2 with | some en3 => Res.ok .nx en3 | none => .stuck) := p1
      obtain ⟨G2, R2, rd, f2, io2, s2⟩ := frz_ok R1 ro q
      cases z : asgP _ d en2 with
      | none =>
        rw [z] at p1
        exact p1.elim
      | some en3 =>
        rw [z] at p1
        refine ⟨G2, en2, d, en3, R2, rd, z, fun σ' R' ho io _ _ => ?_⟩
        exact p1 σ' H1 G2 R' (f2.trans ⟨fun b u e n no => ⟨e, rfl⟩, fun p z => .inl (ho p z)⟩) (io2.s.trans io)
/-! ## several names at once -/
theorem RelFs.keep {K : PySem.W.Frag} {G H G' H' : Hp} {σ σ' : L2.St} {en en' : En} {os : List Op} {vs : List V} (h : RelFs K G H σ en os vs) (s : Sub G G') (k : ∀ p o, H p = some o → NoTb o → frL os vs p → G p = none → ¬ own σ en p → H' p = some o ∧ G' p = none ∧ ¬ own σ' en' p) : RelFs K G' H' σ' en' os vs := by
  induction h with
  | nil => exact .nil
  | @cons o v os vs n r d hs ih =>
    refine .cons n ?_ d (ih fun p o hp nt ⟨q, hq, hf⟩ => k p o hp nt ⟨q, by simp only [List.zip_cons_cons, List.mem_cons]; exact .inr hq, hf⟩)
    cases o with
    | val x => exact Rep.mono s r
    | slot i => exact absurd rfl (n i)
    | fresh x =>
      obtain ⟨p, rfl, ⟨hg, ob, hp, r⟩, no⟩ := r
      obtain ⟨h1, h2, h3⟩ := k p ob hp r.notb ⟨(.fresh x, .ref p), by simp, rfl⟩ hg no
      exact ⟨p, rfl, ⟨h2, ob, h1, r.mono s⟩, h3⟩
theorem Fr.trans' {G H G1 H1 G2 H2 : Hp} {O O1 O2 F : Addr → Prop} (a : Fr G H O G1 H1 (fun p => O1 p ∨ F p)) (b : Fr G1 H1 O1 G2 H2 O2) : Fr G H O G2 H2 (fun p => O2 p ∨ F p) where
  keep := fun x o h n no => by
    obtain ⟨h1, g1⟩ := a.keep x o h n no
    have no1 : ¬ O1 x := fun z => by
      rcases a.new x (.inl z) with q | q
      · exact no q
      · obtain ⟨ps, e⟩ := q o h
        exact n ps e
    obtain ⟨h2, g2⟩ := b.keep x o h1 n no1
    exact ⟨h2, g2.trans g1⟩
  new := fun p h => by
    rcases h with h | h
    · rcases b.new p h with q | q
      · exact a.new p (.inl q)
      · refine (Classical.em (O p)).imp id fun no o e => ?_
        refine Classical.byContradiction fun n => ?_
        have nt : NoTb o := fun ps z => n ⟨ps, z⟩
        obtain ⟨h1, _⟩ := a.keep p o e nt no
        obtain ⟨ps, z⟩ := q o h1
        exact nt ps z
    · exact a.new p (.inr h)
theorem hn_no {H : Hp} {p : Addr} {o : HO} (h : Hn H p) (e : H p = some o) (n : NoTb o) : False := by
  obtain ⟨ps, z⟩ := h o e
  exact n ps z
theorem hold_ok {K : PySem.W.Frag} {T : List (Addr × Str)} {G H : Hp} {σ : L2.St} {en en' : En} {o o' : Op} {v : V} (R : Rel K T G σ H en) (ro : RelO K G H σ en o v) (e : hold o en = some (o', en')) :
    ∃ G', Rel K T G' σ H en' ∧ RelO K G' H σ en' o' v ∧ (∀ i, o' ≠ .slot i) ∧ Fr G H (fun p => own σ en p ∨ frO o v p) G' H (fun p => own σ en' p ∨ frO o' v p) ∧ IoK en en' ∧ Sub G G' := by
  cases o with
  | val d =>
    cases Option.some.inj e
    exact ⟨G, R, ro, (fun i z => by cases z), Fr.refl, IoK.refl en, Sub.refl G⟩
  | fresh d =>
    cases Option.some.inj e
    exact ⟨G, R, ro, (fun i z => by cases z), Fr.refl, IoK.refl en, Sub.refl G⟩
  | slot i =>
    obtain ⟨⟨d, en1⟩, e1, e2⟩ := Option.map_eq_some_iff.mp e
    cases e2
    obtain ⟨G1, R1, r1, f1, i1, s1⟩ := frz_ok R ro e1
    exact ⟨G1, R1, r1, (fun i z => by cases z), ⟨fun b u h n no => f1.keep b u h n fun z => no (.inl z), fun p z => z.elim (fun z => (f1.new p z).imp .inl id) fun z => z.elim⟩, i1, s1⟩
theorem df_nil : DF X T W [] aNil := pa_of pa_nil fun σ H Q _ ⟨G, en, R, p⟩ => fun _ => p [] H G R .nil (Fr.refl.weak fun p z => z.elim id fun ⟨q, hq, _⟩ => by simp at hq) (IoK.refl en)
theorem df_cons {es : List Expr} {ga : AF} (h : DE X T W e f) (hr : DF X T W es ga) (hs : starEach (e :: es) X.env = (false, eval e X.env) :: starEach es X.env := by rfl) : DF X T W (e :: es) (aConsF f ga) :=
  pa_of (pa_cons h hr hs) fun σ H Q _ ⟨G, en, R, p⟩ => by
    refine ⟨G, en, R, ?_⟩
    unfold aConsF at p
    cases q : f en with
    | exc c pl en1 =>
      rw [q] at p
      exact p
    | stuck =>
      rw [q] at p
      exact p
    | ok o en1 =>
      rw [q] at p
      intro v H1 G1 R1 ro fr io
      have p : PostF X.K X.mg T W G σ H en Q (match hold o en1 with | some (o', en2) => (ga en2).bind fun os en3 => .ok (o' :: os) en3 | none => .stuck) := p
      cases z : hold o en1 with
      | none =>
        rw [z] at p
        exact p.elim
      | some z' =>
        obtain ⟨o', en2⟩ := z'
        rw [z] at p
        have p : PostF X.K X.mg T W G σ H en Q ((ga en2).bind fun os en3 => .ok (o' :: os) en3) := p
        obtain ⟨G2, R2, ro2, ns, f2, io2, s2⟩ := hold_ok R1 ro z
        have fA := fr.trans f2
        refine ⟨G2, en2, R2, ?_⟩
        cases q2 : ga en2 with
        | exc c pl en3 =>
          rw [q2] at p
          have fA' : Fr G H (own σ en) G2 H1 (own σ en2) := fA.weak fun p z => .inl z
          exact exc_sh _ _ _ _ _ _ _ _ _ fA' (io.trans io2) p
        | stuck =>
          rw [q2] at p
          exact p
        | ok os en3 =>
          rw [q2] at p
          intro vs H3 G3 R3 rs f3 io3
          show HF X.K H3 → Q (v :: vs) H3
          intro _
          have s3 : Sub G2 G3 := frsub R2 f3
          have fin : RelFs X.K G3 H3 σ en3 (o' :: os) (v :: vs) := by
            refine .cons ns ?_ (fun pp hpp q hq hf => ?_) rs
            · cases o' with
              | val x => exact Rep.mono s3 ro2
              | slot i => exact absurd rfl (ns i)
              | fresh x =>
                obtain ⟨p', rfl, ⟨hg, ob, hp, r⟩, no⟩ := ro2
                obtain ⟨h1, g1⟩ := f3.keep p' ob hp r.notb no
                refine ⟨p', rfl, ⟨by rw [g1]; exact hg, ob, h1, r.mono s3⟩, fun z => ?_⟩
                rcases f3.new p' (.inl z) with k | k
                · exact no k
                · exact hn_no k hp r.notb
            · cases o' with
              | val x => exact hpp
              | slot i => exact hpp
              | fresh x =>
                obtain ⟨p', e', ⟨hg, ob, hp', r⟩, no⟩ := ro2
                have e2 : v = .ref pp := hpp
                rw [e'] at e2
                cases e2
                rcases f3.new _ (.inr ⟨q, hq, hf⟩) with k | k
                · exact no k
                · exact hn_no k hp' r.notb
          refine p (v :: vs) H3 G3 R3 fin ((Fr.trans' fA f3).weak fun p z => ?_) ((io.trans io2).trans io3)
          rcases z with z | ⟨q, hq, hf⟩
          · exact .inl (.inl z)
          · rw [List.zip_cons_cons, List.mem_cons] at hq
            rcases hq with rfl | hq
            · exact .inr hf
            · exact .inl (.inr ⟨q, hq, hf⟩)
def setV : L2.St → List Nat → List V → L2.St
  | σ, i :: is, v :: vs => setV (σ.set i (some v)) is vs
  | σ, _, _ => σ
theorem setM_ok {K : PySem.W.Frag} {T : List (Addr × Str)} {H : Hp} : ∀ {is : List Nat} {os : List Op} {vs : List V} {G : Hp} {σ : L2.St} {en en' : En}, Rel K T G σ H en → RelFs K G H σ en os vs → setM is os en = some en' →
    ∃ G', Rel K T G' (setV σ is vs) H en' ∧ Fr G H (fun p => own σ en p ∨ frL os vs p) G' H (own (setV σ is vs) en') ∧ IoS σ en (setV σ is vs) en'
  | [], [], _, G, σ, en, en', R, .nil, e => by
    cases Option.some.inj e
    exact ⟨G, R, Fr.refl.weak (fun _ z => .inl z), IoS.refl σ en⟩
  | i :: is, o :: os, v :: vs, G, σ, en, en', R, .cons n r d hs, e => by
    unfold setM at e
    cases q : setO i o en with
    | none => rw [q] at e; cases e
    | some en1 =>
      rw [q] at e
      obtain ⟨G1, R1, f1, io1, s1⟩ := setO_ok R r q
      have rs1 : RelFs K G1 H (σ.set i (some v)) en1 os vs := hs.keep s1 fun p ob hp nt hf hg no => by
        have nf : ¬ frO o v p := fun z => by
          obtain ⟨q, hq, hf⟩ := hf
          exact d p z q hq hf
        obtain ⟨_, g1⟩ := f1.keep p ob hp nt fun z => z.elim no nf
        refine ⟨hp, by rw [g1]; exact hg, fun z => ?_⟩
        rcases f1.new p z with k | k
        · exact k.elim no nf
        · exact hn_no k hp nt
      obtain ⟨G2, R2, f2, io2⟩ := setM_ok R1 rs1 e
      refine ⟨G2, R2, ⟨fun b u h nt no => ?_, fun p z => ?_⟩, io1.trans io2⟩
      · have k1 := f1.keep b u h nt fun z => no (z.imp id fun z => ⟨(o, v), by simp, z⟩)
        have no1 : ¬ own (σ.set i (some v)) en1 b := fun z => by
          rcases f1.new b z with k | k
          · exact no (k.imp id fun z => ⟨(o, v), by simp, z⟩)
          · exact hn_no k h nt
        have k2 := f2.keep b u k1.1 nt fun z => z.elim no1 fun ⟨q, hq, hf⟩ => no (.inr ⟨q, by rw [List.zip_cons_cons, List.mem_cons]; exact .inr hq, hf⟩)
        exact ⟨k2.1, k2.2.trans k1.2⟩
      · rcases f2.new p z with (k | ⟨q, hq, hf⟩) | k
        · exact (f1.new p k).imp (fun z => z.imp id fun z => ⟨(o, v), by simp, z⟩) id
        · exact .inl (.inr ⟨q, by rw [List.zip_cons_cons, List.mem_cons]; exact .inr hq, hf⟩)
        · exact .inr k
  | [], _ :: _, _, _, _, _, _, _, _, e => by simp [setM] at e
  | _ :: _, [], _, _, _, _, _, _, _, e => by simp [setM] at e
theorem RelFs.len {K : PySem.W.Frag} {G H : Hp} {σ : L2.St} {en : En} {os : List Op} {vs : List V} (h : RelFs K G H σ en os vs) : os.length = vs.length := by
  induction h with
  | nil => rfl
  | cons _ _ _ _ ih => simp [ih]
theorem setM_len : ∀ {is : List Nat} {os : List Op} {en en' : En}, setM is os en = some en' → is.length = os.length
  | [], [], _, _, _ => rfl
  | i :: is, o :: os, en, en', h => by
    unfold setM at h
    cases q : setO i o en with
    | none => rw [q] at h; cases h
    | some en1 =>
      rw [q] at h
      simp [setM_len h]
  | [], _ :: _, _, _, h => by simp [setM] at h
  | _ :: _, [], _, _, h => by simp [setM] at h
/-- a, b = x, y: the names' values at once -/
theorem ds_parG {is : List Nat} {g : AF} {st : Stmt} {t0 : TS} (h : PS X st t0) (ht : ∀ D σ H, tF X.K X.mg T W g σ H (fun vs H1 => vs.length = is.length ∧ D.nx (setV σ is vs) H1) → t0 (hfD X.K D) σ H) : DS X T W st (sPar is g) :=
  ps_of h fun σ H D _ ⟨G, en, R, p⟩ => by
    refine ht D σ H ⟨G, en, R, ?_⟩
    unfold sPar at p
    cases q : g en with
    | exc c pl en1 =>
      rw [q] at p
      exact excS_P p
    | stuck =>
      rw [q] at p
      exact p
    | ok os en1 =>
      rw [q] at p
      intro vs H1 G1 R1 rs fr io
      have p : PostS X.K X.mg T W G σ H en D (match setM is os en1 with | some en2 => Res.ok .nx en2 | none => .stuck) := p
      cases z : setM is os en1 with
      | none =>
        rw [z] at p
        exact p.elim
      | some en2 =>
        rw [z] at p
        obtain ⟨G2, R2, f2, io2⟩ := setM_ok R1 rs z
        exact ⟨by rw [setM_len z, rs.len], p _ H1 G2 R2 (fr.trans f2) (io.s.trans io2)⟩
theorem ds_par2 {i j : Nat} {st : Stmt} {g : AF} (h : PS X st (tPar i j (tF X.K X.mg T W g))) : DS X T W st (sPar [i, j] g) :=
  ds_parG h fun D σ H ⟨G, en, R, p⟩ => ⟨G, en, R, PostR.mono p (fun os en' _ q vs H1 G1 R1 rs fr io => by
    obtain ⟨hl, q⟩ := q vs H1 G1 R1 rs fr io
    match vs, hl with
    | [v, w], _ => exact ⟨v, w, rfl, fun _ => q⟩) fun _ _ _ z => z⟩
theorem ds_par3 {i j l : Nat} {st : Stmt} {g : AF} (h : PS X st (tPar3 i j l (tF X.K X.mg T W g))) : DS X T W st (sPar [i, j, l] g) :=
  ds_parG h fun D σ H ⟨G, en, R, p⟩ => ⟨G, en, R, PostR.mono p (fun os en' _ q vs H1 G1 R1 rs fr io => by
    obtain ⟨hl, q⟩ := q vs H1 G1 R1 rs fr io
    match vs, hl with
    | [u, v, w], _ => exact ⟨u, v, w, rfl, fun _ => q⟩) fun _ _ _ z => z⟩
end
end PF
namespace PF
open PySem PySem.Spec PyProof.Rows L2

/-! ## loops as functions -/
def whileN (t : TF) (f : SF) : Nat → SF
  | 0, _ => .stuck
  | n + 1, en => (t en).bind fun b en1 => match b with
    | false => .ok .nx en1
    | true => (f en1).bind fun fl en2 => match fl with
      | .nx => whileN t f n en2
      | .ct => whileN t f n en2
      | .bk => .ok .nx en2
      | .rt o => .ok (.rt o) en2
def sWhile (m : En → Nat) (t : TF) (f : SF) : SF := fun en => whileN t f (m en) en
def forD (p : Pat) (f : SF) : List D → SF
  | [], en => .ok .nx en
  | d :: ds, en => match asgP p d en with
    | none => .stuck
    | some en1 => (f en1).bind fun fl en2 => match fl with
      | .nx => forD p f ds en2
      | .ct => forD p f ds en2
      | .bk => .ok .nx en2
      | .rt o => .ok (.rt o) en2
def sFor (p : Pat) (fi : IF) (f : SF) : SF := fun en => (fi en).bind fun ds en1 => forD p f ds en1
def wipeE (en : En) : List Nat → En
  | [] => en
  | v :: vs => (wipeE en vs).set v .un
def restE (en0 en : En) : List Nat → Option En
  | [] => some en
  | v :: vs => match en0[v]? with
    | some (.ow true _) => none
    | some (.fz d) => (restE en0 en vs).map fun e => e.set v (.fz d)
    | _ => (restE en0 en vs).map fun e => e.set v .un
def compD (p : Pat) (vs : List Nat) (tt : TF) (te : EF) : List D → List D → EF
  | [], acc, en => .ok (.fresh (.lst acc)) en
  | d :: ds, acc, en => match asgP p d en with
    | none => .stuck
    | some en1 => match tt en1 with
      | .ok false en2 => compD p vs tt te ds acc (wipeE en2 vs)
      | .ok true en2 => match settle (te en2) with
        | .ok o en3 => match frz o en3 with
          | some (x, en4) => compD p vs tt te ds (acc ++ [x]) (wipeE en4 vs)
          | none => .stuck
        | _ => .stuck
      | _ => .stuck
def eComp (fi : IF) (p : Pat) (vs : List Nat) (tt : TF) (te : EF) : EF := fun en => (fi en).bind fun ds en1 => match compD p vs tt te ds [] (wipeE en1 vs) with
  | .ok o en2 => match restE en1 en2 vs with
    | some en3 => .ok o en3
    | none => .stuck
  | _ => .stuck

/-! ## what a loop walks -/
def Yields (K : PySem.W.Frag) (G : Hp) (J : It) (ds : List D) : Prop := ds.length ≤ SZ ∧ ∀ (i : Nat) (G' H' : Hp), Sub G G' → Sub G' H' → HF K H' →
  (∀ d, ds[i]? = some d → J.go i H' ∧ ∀ x H'', J.yld i H' x H'' → Out K G' H' (.val d) x H'' ∧ HF K H'') ∧ (ds.length ≤ i → J.stop i H')
section
variable (K : PySem.W.Frag) (mg : Str → Option Value) (T : List (Addr × Str)) (W : WX)
def okI (G : Hp) (σ : St) (H : Hp) (en : En) (Q : It → Hp → Prop) (ds : List D) (en' : En) : Prop :=
  ∀ J H' G', Rel K T G' σ H' en' → Yields K G' J ds → Fr G H (own σ en) G' H' (own σ en') → IoK en en' → Q J H'
def PostI (G : Hp) (σ : St) (H : Hp) (en : En) (Q : It → Hp → Prop) : IR → Prop := PostR (okI K T G σ H en Q) (ExcP K mg T W G σ H en)
def tI (f : IF) : TI := fun σ H R => ∃ G en, Rel K T G σ H en ∧ PostI K mg T W G σ H en R (f en)
end
abbrev DI (X : Cx) (T : List (Addr × Str)) (W : WX) (tg it : Expr) (f : IF) : Prop := PI X tg it (tI X.K X.mg T W f)
theorem rd_upd {H : Hp} {p a : Addr} {o u : HO} (h : Rd (upd H p o) a u) : (a = p ∧ (o = u ∨ ∃ w, o = .frz w u)) ∨ Rd H a u := by
  by_cases e : a = p
  · subst e
    rcases h with h | ⟨w, h⟩
    · rw [upd_same] at h
      exact .inl ⟨rfl, .inl (Option.some.inj h)⟩
    · rw [upd_same] at h
      exact .inl ⟨rfl, .inr ⟨w, Option.some.inj h⟩⟩
  · rcases h with h | ⟨w, h⟩
    · rw [upd_ne e] at h
      exact .inr (.inl h)
    · rw [upd_ne e] at h
      exact .inr (.inr ⟨w, h⟩)
theorem HF.tup {K : PySem.W.Frag} {H : Hp} {p : Addr} {xs : List V} (h : HF K H) (hl : xs.length ≤ sizeLine) : HF K (upd H p (.tup xs)) := by
  refine ⟨fun a ys q => ?_, fun a ys q => ?_⟩
  · rcases q with q | q
    · rcases rd_upd q with ⟨_, z | ⟨w, z⟩⟩ | z
      · cases z
      · cases z
      · exact h.1 a ys (.inl z)
    · exact h.1 a ys (.inr q)
  · rcases q with q | q
    · rcases rd_upd q with ⟨_, z | ⟨w, z⟩⟩ | z
      · cases z
        exact hl
      · cases z
      · exact h.2 a ys (.inl z)
    · exact h.2 a ys (.inr q)
theorem HF.lst {K : PySem.W.Frag} {H : Hp} {p : Addr} {xs : List V} (h : HF K H) (hl : xs.length ≤ sizeLine) : HF K (upd H p (.lst xs)) := by
  refine ⟨fun a ys q => ?_, fun a ys q => ?_⟩
  · rcases q with q | q
    · rcases rd_upd q with ⟨_, z | ⟨w, z⟩⟩ | z
      · cases z
        exact hl
      · cases z
      · exact h.1 a ys (.inl z)
    · exact h.1 a ys (.inr q)
  · rcases q with q | q
    · rcases rd_upd q with ⟨_, z | ⟨w, z⟩⟩ | z
      · cases z
      · cases z
      · exact h.2 a ys (.inl z)
    · exact h.2 a ys (.inr q)
section
variable {X : Cx} {T : List (Addr × Str)} {W : WX} {e tg it : Expr} {f : EF} {pos : Pos}
/-! ## while, for -/
theorem ds_while {m : En → Nat} {t : TF} {g : SF} {c : Expr} {body : List Stmt} (hp : PassesOwn (model X.prog X.w) X.A X.env X.xe) (hc : DT X T W c t) (hb : DB X T W body g) : DS X T W (.While c body [] pos) (sWhile m t g) :=
  ps_of (ps_while hp hc hb) fun σ H D _ ⟨G, en, R, p⟩ => by
    refine ⟨fun k σ' H' => ∃ G' en', Rel X.K T G' σ' H' en' ∧ PostS X.K X.mg T W G' σ' H' en' D (whileN t g k en'), ⟨m en, G, en, R, p⟩, ?_⟩
    rintro k σ' H' ⟨G', en', R', p'⟩
    cases k with
    | zero => exact p'.elim
    | succ k =>
      refine ⟨G', en', R', stepBS R' p' fun b en1 H1 G1 R1 s1 p1 => ?_⟩
      cases b with
      | false =>
        rw [if_neg Bool.false_ne_true]
        exact fun _ => next_ok R1 p1
      | true =>
        rw [if_pos rfl]
        refine ⟨fun σ2 H2 => ∃ G2 en2, Rel X.K T G2 σ2 H2 en2 ∧ PostS X.K X.mg T W G2 σ2 H2 en2 D (whileN t g k en2), fun σ2 H2 q => ⟨k, Nat.lt_succ_self k, q⟩, G1, en1, R1, ?_⟩
        have p1 : PostS X.K X.mg T W G1 σ' H1 en1 D ((g en1).bind fun fl en2 => match fl with
          | .nx => whileN t g k en2
          | .ct => whileN t g k en2
          | .bk => .ok .nx en2
          | .rt o => .ok (.rt o) en2) := p1
        cases q : g en1 with
        | exc c pl en2 =>
          rw [q] at p1
          exact p1
        | stuck =>
          rw [q] at p1
          exact p1
        | ok fl en2 =>
          rw [q] at p1
          cases fl with
          | nx => exact fun σ2 H2 G2 R2 fr io => ⟨G2, en2, R2, postS_sh fr io p1⟩
          | ct => exact fun σ2 H2 G2 R2 fr io => ⟨G2, en2, R2, postS_sh fr io p1⟩
          | bk => exact fun σ2 H2 G2 R2 fr io _ => p1 σ2 H2 G2 R2 fr io
          | rt o => exact fun v σ2 H2 G2 R2 ro fr io _ => p1 v σ2 H2 G2 R2 ro fr io
theorem getdrop {α : Type} {l : List α} {i : Nat} {x : α} (h : l[i]? = some x) : l.drop i = x :: l.drop (i + 1) := by
  obtain ⟨hl, e⟩ := List.getElem?_eq_some_iff.mp h
  rw [List.drop_eq_getElem_cons hl, e]
theorem ds_for {p : Pat} {fi : IF} {g : SF} {body : List Stmt} (hp : PassesOwn (model X.prog X.w) X.A X.env X.xe) (hc : X.calm = true) (hi : DI X T W tg it fi) (hg : DG X T tg p) (hb : DB X T W body g) (hs : ∀ x, foldedSetIterable it X.env x = pure x := by intro _; rfl) : DS X T W (.For tg it body [] pos) (sFor p fi g) :=
  ps_of (ps_for hp hc hi hg hb hs) fun σ H D _ ⟨G, en, R, p0⟩ => by
    refine ⟨G, en, R, ?_⟩
    unfold sFor at p0
    cases q : fi en with
    | exc c pl en2 =>
      rw [q] at p0
      exact excS_P p0
    | stuck =>
      rw [q] at p0
      exact p0
    | ok ds en1 =>
      rw [q] at p0
      intro J H1 G1 R1 yl fr io
      have p1 : PostS X.K X.mg T W G1 σ H1 en1 D (forD p g ds en1) := postS_sh fr io.s p0
      refine ⟨fun i m σ' H' => m = ds.length - i ∧ i ≤ ds.length ∧ ∃ G' en', Rel X.K T G' σ' H' en' ∧ Sub G1 G' ∧ PostS X.K X.mg T W G' σ' H' en' D (forD p g (ds.drop i) en'), ⟨ds.length, rfl, Nat.zero_le _, G1, en1, R1, Sub.refl G1, p1⟩, ?_⟩
      rintro i m σ' H' ⟨rfl, hil, G', en', R', sg, p'⟩
      obtain ⟨hgo, hst⟩ := yl.2 i G' H' sg R'.sub R'.hf
      by_cases hlt : i < ds.length
      · have hd : ds[i]? = some ds[i] := List.getElem?_eq_getElem hlt
        obtain ⟨go, yy⟩ := hgo _ hd
        rw [getdrop hd] at p'
        refine .inr ⟨go, fun σ2 H2 => ∃ G2 en2, Rel X.K T G2 σ2 H2 en2 ∧ Sub G1 G2 ∧ PostS X.K X.mg T W G2 σ2 H2 en2 D (forD p g (ds.drop (i + 1)) en2), fun σ2 H2 z => ⟨ds.length - (i + 1), by omega, rfl, hlt, z⟩, fun x H2 y => ?_⟩
        obtain ⟨out, hf2⟩ := yy x H2 y
        obtain ⟨G2, R2, ro, f2⟩ := out_ok R' out hf2
        have f2' : Fr G' H' (own σ' en') G2 H2 (own σ' en') := f2.weak fun _ z => .inl z
        have p'' : PostS X.K X.mg T W G2 σ' H2 en' D (forD p g (ds[i] :: ds.drop (i + 1)) en') := postS_sh f2' (IoS.refl σ' en') p'
        cases z : asgP p ds[i] en' with
        | none =>
          unfold forD at p''
          rw [z] at p''
          exact p''.elim
        | some en3 =>
          unfold forD at p''
          rw [z] at p''
          refine ⟨G2, en', ds[i], en3, R2, ro, z, fun σ3 R3 ho3 io3 _ => ⟨G2, en3, R3, ?_⟩⟩
          have f3 : Fr G2 H2 (own σ' en') G2 H2 (own σ3 en3) := ⟨fun b u e n no => ⟨e, rfl⟩, fun p z => .inl (ho3 p z)⟩
          have p3 : PostS X.K X.mg T W G2 σ3 H2 en3 D ((g en3).bind fun fl en2 => match fl with
            | .nx => forD p g (ds.drop (i + 1)) en2
            | .ct => forD p g (ds.drop (i + 1)) en2
            | .bk => .ok .nx en2
            | .rt o => .ok (.rt o) en2) := postS_sh f3 io3 p''
          have sg2 : Sub G1 G2 := sg.trans (frsub R' f2')
          cases q3 : g en3 with
          | exc c pl en2 =>
            rw [q3] at p3
            exact p3
          | stuck =>
            rw [q3] at p3
            exact p3
          | ok fl en4 =>
            rw [q3] at p3
            cases fl with
            | nx => exact fun σ4 H4 G4 R4 fr4 io4 => ⟨G4, en4, R4, sg2.trans (frsub R3 fr4), postS_sh fr4 io4 p3⟩
            | ct => exact fun σ4 H4 G4 R4 fr4 io4 => ⟨G4, en4, R4, sg2.trans (frsub R3 fr4), postS_sh fr4 io4 p3⟩
            | bk => exact fun σ4 H4 G4 R4 fr4 io4 _ => p3 σ4 H4 G4 R4 fr4 io4
            | rt o => exact fun v σ4 H4 G4 R4 ro4 fr4 io4 _ => p3 v σ4 H4 G4 R4 ro4 fr4 io4
      · have e : i = ds.length := by omega
        subst e
        rw [List.drop_length] at p'
        exact .inl ⟨hst (Nat.le_refl _), fun _ => next_ok R' p'⟩
end
end PF
namespace PF
open PySem PySem.Spec PyProof.Rows L2
section
variable {K : PySem.W.Frag} {mg : Str → Option Value} {T : List (Addr × Str)} {W : WX} {G H G' H' : Hp} {σ : St} {en en' : En}
theorem wipe_out {σ : L2.St} {vs : List Nat} {j : Nat} (h : j ∉ vs) : (wipe σ vs)[j]? = σ[j]? := by
  induction vs with
  | nil => rfl
  | cons v vs ih =>
    simp only [List.mem_cons, not_or] at h
    show ((wipe σ vs).set v none)[j]? = _
    rw [List.getElem?_set_ne (fun z => h.1 z.symm)]
    exact ih h.2
theorem wipe_in {σ : L2.St} {vs : List Nat} {j : Nat} (h : j ∈ vs) : (wipe σ vs)[j]? = if j < σ.length then some none else none := by
  induction vs with
  | nil => simp at h
  | cons v vs ih =>
    show ((wipe σ vs).set v none)[j]? = _
    by_cases e : v = j
    · subst e
      by_cases hl : v < σ.length
      · rw [if_pos hl, List.getElem?_set_self (by rw [wipe_length]; exact hl)]
      · rw [if_neg hl, List.getElem?_eq_none (by simp [wipe_length]; omega)]
    · rw [List.getElem?_set_ne e]
      refine ih ?_
      rcases List.mem_cons.mp h with z | z
      · exact absurd z.symm e
      · exact z
theorem wipeE_out {vs : List Nat} {j : Nat} (h : j ∉ vs) : (wipeE en vs)[j]? = en[j]? := by
  induction vs with
  | nil => rfl
  | cons v vs ih =>
    simp only [List.mem_cons, not_or] at h
    show ((wipeE en vs).set v .un)[j]? = _
    rw [List.getElem?_set_ne (fun z => h.1 z.symm)]
    exact ih h.2
theorem wipeE_len {vs : List Nat} : (wipeE en vs).length = en.length := by
  induction vs with
  | nil => rfl
  | cons v vs ih =>
    show ((wipeE en vs).set v .un).length = _
    rw [List.length_set, ih]
theorem wipeE_in {vs : List Nat} {j : Nat} (h : j ∈ vs) : (wipeE en vs)[j]? = none ∨ (wipeE en vs)[j]? = some .un := by
  induction vs with
  | nil => simp at h
  | cons v vs ih =>
    show ((wipeE en vs).set v .un)[j]? = none ∨ ((wipeE en vs).set v .un)[j]? = some .un
    by_cases e : v = j
    · subst e
      by_cases hl : v < (wipeE en vs).length
      · exact .inr (List.getElem?_set_self hl)
      · exact .inl (List.getElem?_eq_none (by simpa using hl))
    · rw [List.getElem?_set_ne e]
      refine ih ?_
      rcases List.mem_cons.mp h with z | z
      · exact absurd z.symm e
      · exact z
theorem Rel.wipe {vs : List Nat} (R : Rel K T G σ H en) : Rel K T G (wipe σ vs) H (wipeE en vs) ∧ (∀ p, own (L2.wipe σ vs) (wipeE en vs) p → own σ en p) := by
  have key : ∀ (j : Nat) (b : Bool) (d : D), (wipeE en vs)[j]? = some (.ow b d) → j ∉ vs := fun j b d e hj => by
    rcases wipeE_in (en := en) hj with z | z <;> rw [z] at e <;> cases e
  refine ⟨⟨R.sub, R.gt, R.tabs, R.hf, by rw [wipe_length, wipeE_len]; exact R.len, fun j s e => ?_, fun a j b c x y p e1 e2 s1 s2 => ?_⟩, fun p ⟨j, b, d, e1, e2⟩ => ?_⟩
  · by_cases hj : j ∈ vs
    · rcases wipeE_in (en := en) hj with z | z
      · rw [z] at e; cases e
      · rw [z] at e; cases e; trivial
    · rw [wipeE_out hj] at e
      rw [wipe_out hj]
      exact R.at_ j s e
  · have h1 := key _ _ _ e1
    have h2 := key _ _ _ e2
    rw [wipeE_out h1] at e1
    rw [wipeE_out h2] at e2
    rw [wipe_out h1] at s1
    rw [wipe_out h2] at s2
    exact R.sep a j b c x y p e1 e2 s1 s2
  · have h1 := key _ _ _ e1
    rw [wipeE_out h1] at e1
    rw [wipe_out h1] at e2
    exact ⟨j, b, d, e1, e2⟩
theorem restE_spec {en0 : En} : ∀ {vs : List Nat} {e3 : En}, restE en0 en vs = some e3 → e3.length = en.length ∧ (∀ j, j ∉ vs → e3[j]? = en[j]?) ∧
    ∀ j, j ∈ vs → (∀ d, en0[j]? ≠ some (.ow true d)) ∧ (e3[j]? = none ∨ e3[j]? = some .un ∨ ∃ d, en0[j]? = some (.fz d) ∧ e3[j]? = some (.fz d))
  | [], e3, h => by
    cases Option.some.inj h
    exact ⟨rfl, fun _ _ => rfl, fun j hj => by simp at hj⟩
  | v :: vs, e3, h => by
    have go : ∀ s : Sl, (s = .un ∨ ∃ d, s = .fz d ∧ en0[v]? = some (.fz d)) → (∀ d, en0[v]? ≠ some (.ow true d)) → ((restE en0 en vs).map fun e => e.set v s) = some e3 → e3.length = en.length ∧ (∀ j, j ∉ v :: vs → e3[j]? = en[j]?) ∧
        ∀ j, j ∈ v :: vs → (∀ d, en0[j]? ≠ some (.ow true d)) ∧ (e3[j]? = none ∨ e3[j]? = some .un ∨ ∃ d, en0[j]? = some (.fz d) ∧ e3[j]? = some (.fz d)) := by
      intro s hs hv h
      obtain ⟨e, h1, h2⟩ := Option.map_eq_some_iff.mp h
      subst h2
      obtain ⟨l1, l2, l3⟩ := restE_spec h1
      refine ⟨by rw [List.length_set]; exact l1, fun j hj => ?_, fun j hj => ?_⟩
      · simp only [List.mem_cons, not_or] at hj
        rw [List.getElem?_set_ne (fun z => hj.1 z.symm)]
        exact l2 j hj.2
      · by_cases q : v = j
        · subst q
          refine ⟨hv, ?_⟩
          by_cases hl : v < e.length
          · rw [List.getElem?_set_self hl]
            rcases hs with rfl | ⟨d, rfl, z⟩
            · exact .inr (.inl rfl)
            · exact .inr (.inr ⟨d, z, rfl⟩)
          · exact .inl (List.getElem?_eq_none (by simpa using hl))
        · rw [List.getElem?_set_ne q]
          refine l3 j ?_
          rcases List.mem_cons.mp hj with z | z
          · exact absurd z.symm q
          · exact z
    unfold restE at h
    cases q : en0[v]? with
    | none =>
      rw [q] at h
      exact go .un (.inl rfl) (fun d z => by rw [q] at z; cases z) h
    | some s =>
      rw [q] at h
      cases s with
      | un => exact go .un (.inl rfl) (fun d z => by rw [q] at z; cases z) h
      | fz d => exact go (.fz d) (.inr ⟨d, rfl, q⟩) (fun d z => by rw [q] at z; cases z) h
      | ow b d =>
        cases b with
        | true => cases h
        | false => exact go .un (.inl rfl) (fun d z => by rw [q] at z; cases z) h
/-- an own object outside the slots is written -/
theorem Rel.mut {p : Addr} {o u : HO} (R : Rel K T G σ H en) (hp : H p = some o) (hg : G p = none) (n : NoTb o) (x : ∀ φ, o ≠ .ext φ) (no : ¬ own σ en p) (hf : HF K (upd H p u)) : Rel K T G σ (upd H p u) en where
  sub := fun b w e => by
    have ne : b ≠ p := fun z => by rw [z, hg] at e; cases e
    rw [upd_ne ne]
    exact R.sub b w e
  gt := R.gt
  tabs := tabs_mut R.tabs hp n x
  hf := hf
  len := R.len
  at_ := fun i s e => (R.at_ i s e).mono (Sub.refl G) fun q d b es ex => by
    have w : own σ en q := ⟨i, b, d, by rw [e, es], ex⟩
    have ne : q ≠ p := fun z => no (z ▸ w)
    exact ⟨own_none R w, fun o' h' => by rw [upd_ne ne]; exact h'⟩
  sep := R.sep
end
theorem frz_len {o : Op} {d : D} {en en' : En} (h : frz o en = some (d, en')) : en'.length = en.length := by
  cases o with
  | val x => cases Option.some.inj h; rfl
  | fresh x => cases h
  | slot j =>
    unfold frz at h
    cases q : en[j]? with
    | none => simp [q] at h
    | some s =>
      cases s with
      | un => simp [q] at h
      | fz x => simp [q] at h; rw [h.2]
      | ow b x =>
        cases b with
        | true => simp [q] at h
        | false => simp [q] at h; rw [← h.2, List.length_set]
theorem setO_len {i : Nat} {o : Op} {en en' : En} (h : setO i o en = some en') : en'.length = en.length := by
  have k : putO i o en = some en' := by
    unfold setO at h
    cases q : en[i]? with
    | none => rw [q] at h; cases h
    | some s =>
      rw [q] at h
      cases s with
      | un => exact h
      | fz d => exact h
      | ow b d =>
        cases b with
        | true => cases h
        | false => exact h
  cases o with
  | val x => cases Option.some.inj k; rw [List.length_set]
  | fresh x => cases Option.some.inj k; rw [List.length_set]
  | slot j =>
    obtain ⟨⟨d, en1⟩, e1, e2⟩ := Option.map_eq_some_iff.mp k
    rw [← e2, List.length_set]
    exact frz_len e1
mutual
theorem asgP_len : ∀ {p : Pat} {d : D} {en en' : En}, asgP p d en = some en' → en'.length = en.length
  | .nm i, d, en, en', h => setO_len (by simpa [asgP] using h)
  | .tp ps, .tup ds, en, en', h => asgPs_len' (by simpa [asgP] using h)
  | .tp ps, .lst ds, en, en', h => asgPs_len' (by simpa [asgP] using h)
  | .tp ps, .non, en, en', h => by simp [asgP] at h
  | .tp ps, .bl _, en, en', h => by simp [asgP] at h
  | .tp ps, .int _, en, en', h => by simp [asgP] at h
  | .tp ps, .str _, en, en', h => by simp [asgP] at h
  | .tp ps, .dK _, en, en', h => by simp [asgP] at h
  | .tp ps, .dT _, en, en', h => by simp [asgP] at h
  | .tp ps, .ob _ _, en, en', h => by simp [asgP] at h
  | .tp ps, .vv _, en, en', h => by simp [asgP] at h
theorem asgPs_len' : ∀ {ps : List Pat} {ds : List D} {en en' : En}, asgPs ps ds en = some en' → en'.length = en.length
  | [], [], en, en', h => by rw [asgPs] at h; cases Option.some.inj h; rfl
  | p :: ps, d :: ds, en, en', h => by
    cases q : asgP p d en with
    | none => simp [asgPs, q] at h
    | some en1 => rw [asgPs_len' (show asgPs ps ds en1 = some en' by simpa [asgPs, q] using h), asgP_len q]
  | [], _ :: _, _, _, h => by simp [asgPs] at h
  | _ :: _, [], _, _, h => by simp [asgPs] at h
end
theorem compD_cons {p : Pat} {vs : List Nat} {tt : TF} {te : EF} {d : D} {ds acc : List D} {en : En} : compD p vs tt te (d :: ds) acc en = (match asgP p d en with
    | none => .stuck
    | some en1 => match tt en1 with
      | .ok false en2 => compD p vs tt te ds acc (wipeE en2 vs)
      | .ok true en2 => match settle (te en2) with
        | .ok o en3 => match frz o en3 with
          | some (x, en4) => compD p vs tt te ds (acc ++ [x]) (wipeE en4 vs)
          | none => .stuck
        | _ => .stuck
      | _ => .stuck) := rfl
section
variable {X : Cx} {T : List (Addr × Str)} {W : WX} {e tg it : Expr} {f : EF} {pos : Pos}
abbrev DTs (X : Cx) (T : List (Addr × Str)) (ifs : List Expr) (t : TF) : Prop := PTs X ifs (tT X.K X.mg T (fun _ _ _ _ => False) t)
theorem dts_nil : DTs X T [] (fun en => .ok true en) := ⟨fun pins s σ H Q I ⟨G, en, R, p⟩ => pts_nil.run pins s σ H Q I (p H G R Fr.refl (IoK.refl en))⟩
theorem dts_one {c : Expr} {t : TF} (h : DT X T (fun _ _ _ _ => False) c t) : DTs X T [c] t := pts_one h
/-- the reading of a comprehension -/
theorem imp_lc {fi : IF} {p : Pat} {vs : List Nat} {tt : TF} {te : EF} (hin : (patIx p).all vs.contains = true) (σ : L2.St) (H : Hp) (Q : VK) (h : tE X.K X.mg T W (eComp fi p vs tt te) σ H Q) :
    tLc (tI X.K X.mg T W fi) (gP X.K T p) (tT X.K X.mg T (fun _ _ _ _ => False) tt) (tE X.K X.mg T (fun _ _ _ _ => False) fun en => settle (te en)) vs σ H (fun v H1 => HF X.K H1 → Q v H1) := by
  obtain ⟨G, en, R, p0⟩ := h
  refine ⟨G, en, R, ?_⟩
  unfold eComp at p0
  cases q : fi en with
  | exc c pl en2 =>
    rw [q] at p0
    exact p0
  | stuck =>
    rw [q] at p0
    exact p0
  | ok ds en1 =>
    rw [q] at p0
    intro J H1 G1 R1 yl fr io
    have p0 : PostE X.K X.mg T W G1 σ H1 en1 Q (match compD p vs tt te ds [] (wipeE en1 vs) with
      | .ok o en2 => match restE en1 en2 vs with
        | some en3 => .ok o en3
        | none => .stuck
      | _ => .stuck) := PostR.mono p0 (fun _ _ _ z => okE_sh _ _ _ _ _ _ _ _ fr io z) fun _ _ _ z => exc_sh _ _ _ _ _ _ _ _ _ fr io z
    generalize hC : compD p vs tt te ds [] (wipeE en1 vs) = C at p0
    show ∀ Dl, H1 Dl = none → _
    intro Dl hD
    have hin' : ∀ j, j ∉ vs → j ∉ patIx p := fun j hj hz => hj (by simpa using (List.all_eq_true.mp hin j hz))
    -- what the rest of the walk must end in
    refine ⟨fun i m H' => m = ds.length - i ∧ i ≤ ds.length ∧ ∃ G' en' acc xs, Rel X.K T G' (wipe σ vs) H' en' ∧ IoK (wipeE en1 vs) en' ∧ Fr G1 H1 (own σ en1) G' H' (fun q => own (wipe σ vs) en' q ∨ q = Dl) ∧ Sub G1 G' ∧
      H' Dl = some (.lst xs) ∧ RepL X.K G' acc xs ∧ G' Dl = none ∧ ¬ own (wipe σ vs) en' Dl ∧ acc.length ≤ i ∧ compD p vs tt te (ds.drop i) acc en' = C, ⟨ds.length, rfl, Nat.zero_le _, ?_⟩, ?_⟩
    · -- the start
      obtain ⟨Rw, ow⟩ := R1.wipe (vs := vs)
      have hf1 : HF X.K (upd H1 Dl (.lst [])) := R1.hf.lst (Nat.zero_le _)
      have nD : ¬ own (wipe σ vs) (wipeE en1 vs) Dl := fun z => by
        obtain ⟨o, ho, _⟩ := own_some R1 (ow _ z)
        rw [hD] at ho; cases ho
      refine ⟨G1, wipeE en1 vs, [], [], Rw.newf hD hf1, IoK.refl _, ?_, Sub.refl G1, upd_same, .nil, R1.sub.none hD, nD, Nat.le_refl _, by rw [List.drop_zero]; exact hC⟩
      exact (Fr.layf hD).weak fun q z => z.imp (ow q) id
    · rintro i m H' ⟨rfl, hil, G', en', acc, xs, R', io', f', sg, hDl, rl, gD, nD, hacc, ec⟩
      obtain ⟨hgo, hst⟩ := yl.2 i G' H' sg R'.sub R'.hf
      by_cases hlt : i < ds.length
      · have hd : ds[i]? = some ds[i] := List.getElem?_eq_getElem hlt
        obtain ⟨go, yy⟩ := hgo _ hd
        rw [getdrop hd] at ec
        refine .inr ⟨go, fun H2 => ∃ G2 en2 acc xs, Rel X.K T G2 (wipe σ vs) H2 en2 ∧ IoK (wipeE en1 vs) en2 ∧ Fr G1 H1 (own σ en1) G2 H2 (fun q => own (wipe σ vs) en2 q ∨ q = Dl) ∧ Sub G1 G2 ∧
          H2 Dl = some (.lst xs) ∧ RepL X.K G2 acc xs ∧ G2 Dl = none ∧ ¬ own (wipe σ vs) en2 Dl ∧ acc.length ≤ i + 1 ∧ compD p vs tt te (ds.drop (i + 1)) acc en2 = C, fun H2 z => ⟨ds.length - (i + 1), by omega, rfl, hlt, z⟩, fun x H2 y => ?_⟩
        obtain ⟨out, hf2⟩ := yy x H2 y
        obtain ⟨G2, R2, ro, f2⟩ := out_ok R' out hf2
        have f2' : Fr G' H' (own (wipe σ vs) en') G2 H2 (own (wipe σ vs) en') := f2.weak fun _ z => .inl z
        have sg2 : Sub G' G2 := frsub R' f2'
        -- the whole has not failed: p0 says so
        have ne0 : C ≠ .stuck := fun z => by
          rw [z] at p0
          exact p0
        cases z : asgP p ds[i] en' with
        | none =>
          rw [compD_cons, z] at ec
          dsimp only at ec
          exact absurd ec.symm ne0
        | some en3 =>
          rw [compD_cons, z] at ec
          dsimp only at ec
          refine ⟨G2, en', ds[i], en3, R2, ro, z, fun σ3 R3 ho3 io3 ko3 => ?_⟩
          have hw : wipe σ3 vs = wipe σ vs := by
            refine List.ext_getElem? fun j => ?_
            by_cases hj : j ∈ vs
            · rw [wipe_in hj, wipe_in hj]
              have : σ3.length = σ.length := by rw [R3.len, ← wipe_length σ vs, R2.len]; exact asgP_len z
              rw [this]
            · rw [wipe_out hj, wipe_out hj, ko3 j (hin' j hj), wipe_out hj]
          refine ⟨hw, ?_⟩
          have f3 : Fr G2 H2 (own (wipe σ vs) en') G2 H2 (own σ3 en3) := ⟨fun b u e n no => ⟨e, rfl⟩, fun p z => .inl (ho3 p z)⟩
          -- from here to the end of the turn
          have dl_keep : ∀ {G4 H4 : Hp} {O : Addr → Prop} {xs : List V}, Fr G2 H2 (own σ3 en3) G4 H4 O → H2 Dl = some (.lst xs) → H4 Dl = some (.lst xs) ∧ G4 Dl = G2 Dl := fun fr h => fr.keep Dl _ h (fun ps z => by cases z) fun z => by
            rcases f2'.trans f3 |>.new Dl z with k | k
            · exact nD k
            · exact hn_no k hDl (fun ps z => by cases z)
          have hD2 : H2 Dl = some (.lst xs) ∧ G2 Dl = G' Dl := f2'.keep Dl _ hDl (fun ps z => by cases z) nD
          refine ⟨G2, en3, R3, ?_⟩
          cases q4 : tt en3 with
          | exc c pl e4 =>
            simp only [q4] at ec
            exact absurd ec.symm ne0
          | stuck =>
            simp only [q4] at ec
            exact absurd ec.symm ne0
          | ok b en4 =>
            rw [q4] at ec
            intro H4 G4 R4 fr4 io4
            have sg4 : Sub G2 G4 := frsub R3 fr4
            have fA : Fr G1 H1 (own σ en1) G4 H4 (fun q => own σ3 en4 q ∨ q = Dl) := Fr.trans' f' ((f2'.trans f3).trans fr4)
            have hD4 := dl_keep fr4 hD2.1
            have nD4 : ¬ own σ3 en4 Dl := fun z => by
              rcases ((f2'.trans f3).trans fr4).new Dl z with k | k
              · exact nD k
              · exact hn_no k hDl (fun ps z => by cases z)
            have io34 : ∀ j, j ∉ vs → ∀ d, (wipeE en1 vs)[j]? = some (.ow true d) → ∃ d', en4[j]? = some (.ow true d') := fun j hj d e => by
              obtain ⟨d1, e1⟩ := io' j d e
              obtain ⟨⟨d2, e2⟩, _⟩ := io3 j d1 e1
              exact io4 j d2 e2
            cases b with
            | false =>
              rw [if_neg Bool.false_ne_true]
              obtain ⟨R5, ow5⟩ := R4.wipe (vs := vs)
              rw [hw] at R5 ow5
              refine ⟨G4, wipeE en4 vs, acc, xs, R5, fun j d e => ?_, fA.weak fun q z => z.imp (ow5 q) id, (sg.trans sg2).trans sg4, hD4.1, (rl.mono sg2).mono sg4, by rw [hD4.2, hD2.2]; exact gD, fun z => nD4 (ow5 _ z), Nat.le_succ_of_le hacc, ec⟩
              have hj : j ∉ vs := fun hj => by rcases wipeE_in (en := en1) hj with z | z <;> rw [z] at e <;> cases e
              rw [wipeE_out hj]
              exact io34 j hj d e
            | true =>
              rw [if_pos rfl]
              refine ⟨G4, en4, R4, ?_⟩
              have nf := @settle_nf (te en4)
              show PostE X.K X.mg T (fun _ _ _ _ => False) G4 σ3 H4 en4 _ (settle (te en4))
              cases q5 : settle (te en4) with
              | exc c pl e5 =>
                simp only [q5] at ec
                exact absurd ec.symm ne0
              | stuck =>
                simp only [q5] at ec
                exact absurd ec.symm ne0
              | ok o en5 =>
                simp only [q5] at ec
                intro v H5 G5 R5 ro5 fr5 io5
                have nfo : ∀ d, o ≠ .fresh d := fun d z => nf (by rw [q5, z])
                have fr5 : Fr G4 H4 (own σ3 en4) G5 H5 (own σ3 en5) := fr5.weak fun q z => .inl z
                have sg5 : Sub G4 G5 := frsub R4 fr5
                have hD5 := dl_keep (fr4.trans fr5) hD2.1
                cases q6 : frz o en5 with
                | none =>
                  simp only [q6] at ec
                  exact absurd ec.symm ne0
                | some z6 =>
                  obtain ⟨d6, en6⟩ := z6
                  simp only [q6] at ec
                  obtain ⟨G6, R6, r6, f6, io6, sg6⟩ := frz_ok R5 ro5 q6
                  have f26 : Fr G2 H2 (own σ3 en3) G6 H5 (own σ3 en6) := (fr4.trans fr5).trans f6
                  have hD6 := dl_keep f26 hD2.1
                  have nD6 : ¬ own σ3 en6 Dl := fun z => by
                    rcases ((f2'.trans f3).trans f26).new Dl z with k | k
                    · exact nD k
                    · exact hn_no k hDl (fun ps z => by cases z)
                  have hlen : xs.length < SZ := by
                    have h1 := yl.1
                    have h2 := rl.len
                    omega
                  have g6 : G6 Dl = none := by rw [hD6.2, hD2.2]; exact gD
                  refine ⟨xs, hD5.1, by rw [sz_eq]; exact hlen, ?_⟩
                  have hf6 : HF X.K (upd H5 Dl (.lst (xs ++ [v]))) := R6.hf.lst (by rw [sz_eq]; simp; omega)
                  have R7 := R6.mut (u := .lst (xs ++ [v])) hD6.1 g6 (fun ps z => by cases z) (fun ps z => by cases z) nD6 hf6
                  obtain ⟨R8, ow8⟩ := R7.wipe (vs := vs)
                  rw [hw] at R8 ow8
                  have fB : Fr G1 H1 (own σ en1) G6 H5 (fun q => own σ3 en6 q ∨ q = Dl) := Fr.trans' f' ((f2'.trans f3).trans f26)
                  have fC : Fr G6 H5 (fun q => own σ3 en6 q ∨ q = Dl) G6 (upd H5 Dl (.lst (xs ++ [v]))) (fun q => own σ3 en6 q ∨ q = Dl) := ⟨fun b u e n no => ⟨by rw [upd_ne (fun z => no (.inr z))]; exact e, rfl⟩, fun _ z => .inl z⟩
                  refine ⟨G6, wipeE en6 vs, acc ++ [d6], xs ++ [v], R8, fun j d e => ?_, (fB.trans fC).weak fun q z => z.imp (ow8 q) id, ((sg.trans sg2).trans (sg4.trans sg5)).trans sg6, upd_same, ((rl.mono sg2).mono ((sg4.trans sg5).trans sg6)).app (.cons r6 .nil), g6, fun z => nD6 (ow8 _ z), by simp; omega, ec⟩
                  have hj : j ∉ vs := fun hj => by rcases wipeE_in (en := en1) hj with z | z <;> rw [z] at e <;> cases e
                  rw [wipeE_out hj]
                  obtain ⟨d', e'⟩ := io34 j hj d e
                  exact (io5.trans io6) j d' e'
      · have e : i = ds.length := by omega
        subst e
        rw [List.drop_length] at ec
        have ec : Res.ok (Op.fresh (.lst acc)) en' = C := by rw [← ec]; unfold compD; rfl
        refine .inl ⟨hst (Nat.le_refl _), ?_⟩
        intro _
        rw [← ec] at p0
        cases q7 : restE en1 en' vs with
        | none =>
          simp only [q7] at p0
          exact p0.elim
        | some en3 =>
          simp only [q7] at p0
          obtain ⟨l1, l2, l3⟩ := restE_spec q7
          have hown3 : ∀ (j : Nat) (b : Bool) (d : D), en3[j]? = some (.ow b d) → j ∉ vs ∧ en'[j]? = some (.ow b d) := fun j b d e => by
            by_cases hj : j ∈ vs
            · rcases (l3 j hj).2 with z | z | ⟨d', _, z⟩ <;> rw [z] at e <;> cases e
            · exact ⟨hj, by rw [← l2 j hj]; exact e⟩
          have hown : ∀ q, own σ en3 q → own (wipe σ vs) en' q := fun q ⟨j, b, d, e1, e2⟩ => by
            obtain ⟨hj, e⟩ := hown3 j b d e1
            exact ⟨j, b, d, e, by rw [wipe_out hj]; exact e2⟩
          have R9 : Rel X.K T G' σ H' en3 := by
            refine ⟨R'.sub, R'.gt, R'.tabs, R'.hf, by rw [l1, ← R'.len, wipe_length], fun j s e => ?_, fun a j b c x y p e1 e2 s1 s2 => ?_⟩
            · by_cases hj : j ∈ vs
              · rcases (l3 j hj).2 with z | z | ⟨d', z1, z⟩
                · rw [z] at e; cases e
                · rw [z] at e; cases e; trivial
                · rw [z] at e
                  cases e
                  obtain ⟨v, h1, h2⟩ := R1.at_ j _ z1
                  exact ⟨v, h1, h2.mono sg⟩
              · rw [l2 j hj] at e
                have k := R'.at_ j s e
                rw [wipe_out hj] at k
                exact k
            · obtain ⟨h1, e1'⟩ := hown3 _ _ _ e1
              obtain ⟨h2, e2'⟩ := hown3 _ _ _ e2
              exact R'.sep a j b c x y p e1' e2' (by rw [wipe_out h1]; exact s1) (by rw [wipe_out h2]; exact s2)
          refine p0 (.ref Dl) H' G' R9 ⟨Dl, rfl, ⟨gD, _, hDl, .lst rl⟩, fun z => nD (hown _ z)⟩ (f'.weak fun q z => ?_) fun j d e => ?_
          · rcases z with z | z
            · exact .inl (hown q z)
            · exact .inr (V.ref.inj z).symm
          · have hj : j ∉ vs := fun hj => (l3 j hj).1 d e
            obtain ⟨d', e'⟩ := io' j d (by rw [wipeE_out hj]; exact e)
            exact ⟨d', by rw [l2 j hj]; exact e'⟩
end
end PF
/-! ## enumerate of a tuple: what the library lacks -/
namespace PySem
open Sem (wp)
theorem pf_enumerate_new {v : Value} {o : Obj} {H : Heap → Prop} (B : Begins v o H) :
    Meets (Builtin.«enumerate.__new__» ⟨[.type "enumerate", v], []⟩) (fun _ R s => H s.heap ∧
      R (.ok (.ret (.ref (s.heap.push o).objs.size))) { s with heap := (s.heap.push o).push { cls := .type "enumerate", data := .fields #[.none, .bool false, .ref s.heap.objs.size, rawInt 0, .none, .none] } }) :=
  .of_wp fun prog w A R s h => by
    obtain ⟨hp, g, d, tk, os⟩ := s; obtain ⟨h1, h⟩ := h
    have hsub := sub_enumerate
    have q1 : ∀ {A' : Around} {E : Value → Shared → Prop} {Q : Value → Shared → Prop}, Q (.ref hp.objs.size) ⟨hp.push o, g, d, tk, os⟩ → wpAny (model prog w) A' (pyIter v) Q E ⟨hp, g, d, tk, os⟩ :=
      fun q => B.iter prog w _ _ ⟨hp, g, d, tk, os⟩ _ h1 q
    wp_walk using q1
    refine wpAny_stack_any fun st => wpAny_pure ?_
    split
    · rename_i c _ _ _ _ _
      cases (c == Value.type "enumerate")
      · wp_walk using q1
        exact ⟨_, rfl, h⟩
      · wp_walk using q1
        exact ⟨_, rfl, h⟩
    · wp_walk using q1
      exact ⟨_, rfl, h⟩
theorem pf_call_enumerate_tuple {prog : Program} {w : World} {A : Around} {E : Value → Shared → Prop} {s : Shared} {l : Addr} {items : Array Value} {Q : Value → Shared → Prop} (hL : s.heap.IsTuple l items)
    (h : ∀ h', IsEnum h' (s.heap.objs.size + 1) s.heap.objs.size 0 .none → h'.IsTupleIter s.heap.objs.size l 0 → h'.objs.size = s.heap.objs.size + 2 →
      (∀ b o, s.heap.get? b = some o → h'.get? b = some o) → Q (.ref (s.heap.objs.size + 1)) { s with heap := h' }) :
    wpAny (model prog w) A (call (.type "enumerate") [.ref l]) Q E s := by
  refine callType_new F.called_enumerate (by decide) (F.typeCall_enumerate_1 _) (F.newCall_enumerate_1 _) (fun obj => F.args_object_init_2 obj _) F.entry_enumerate_new
    (pf_enumerate_new (begins_tuple l items)) ⟨hL, ?_⟩
  have hz : (s.heap.push { cls := .type "tuple_iterator", data := .fields #[.ref l, .int 0 0] }).objs.size = s.heap.objs.size + 1 := Heap.size_push ..
  show _ ∧ _
  rw [hz]
  have he : IsEnum ((s.heap.push { cls := .type "tuple_iterator", data := .fields #[.ref l, .int 0 0] }).push
      { cls := .type "enumerate", data := .fields #[.none, .bool false, .ref s.heap.objs.size, rawInt 0, .none, .none] }) (s.heap.objs.size + 1) s.heap.objs.size 0 .none := by
    have := Heap.get?_push_size (s.heap.push { cls := .type "tuple_iterator", data := .fields #[.ref l, .int 0 0] })
      (o := { cls := .type "enumerate", data := .fields #[.none, .bool false, .ref s.heap.objs.size, rawInt 0, .none, .none] }) rfl
    rw [hz] at this; exact this
  refine ⟨⟨_, he, rfl⟩, h _ he ⟨_, Heap.get?_push_of_some _ (Heap.get?_push_size _ rfl), rfl, rfl⟩ (by rw [Heap.size_push, hz]) fun b o x => Heap.get?_push_of_some _ (Heap.get?_push_of_some _ x)⟩
end PySem
namespace PF
open PySem PySem.Spec PyProof.Rows L2
/-- the tuple at a, each item in a new pair -/
def IteT (K : PySem.W.Frag) (a : Addr) : It :=
  ⟨fun i H => ∃ (xs : List V) (x : V), SqT K H a xs ∧ xs[i]? = some x, fun i H v H' => ∃ T x, v = .ref T ∧ H T = none ∧ H' = upd H T (.tup [.int (i : Nat), x]) ∧ ∀ xs, SqT K H a xs → xs[i]? = some x, fun i H => ∃ xs : List V, SqT K H a xs ∧ xs.length ≤ i⟩
theorem turn_enumT {P : Program} {w : World} {K : PySem.W.Frag} {elts : List Expr} {kk : Nat} {tpos : Pos} (a e it : Addr) :
    Turn P w K (.Tuple elts kk tpos) (IteT K a) [e, it] e (fun i h => (∃ old, IsEnum h e it ((i : Nat) : Int) old) ∧ h.IsTupleIter it a i ∧ e ≠ it ∧ a ≠ it ∧ a ≠ e) where
  mem := by simp
  obj := fun i h st b hb => by
    obtain ⟨⟨old, he⟩, ⟨o, ho, hc, hd⟩, _⟩ := st
    have e' : b = e ∨ b = it := by simpa using hb
    rcases e' with z | z
    · rw [z]; exact ⟨_, he, fun v q => nomatch q⟩
    · rw [z]; exact ⟨o, ho, fun v q => by rw [hd] at q; cases q⟩
  keep := fun i h h' st k => let ⟨⟨old, he⟩, hi, hne⟩ := st; ⟨⟨old, k e (by simp) _ he⟩, hi.at fun o q => k it (by simp) o q, hne⟩
  item := by
    intro X hP hw hK hc i pins s σ H E I hf st hg
    subst hP hw hK
    obtain ⟨⟨old, he⟩, hit, hne, hai, hae⟩ := st
    obtain ⟨xs, x, hq, hx⟩ := hg
    obtain ⟨its, rv, p, hz⟩ := I.tuple hq
    obtain ⟨u, hu, ru⟩ := rv.get hx
    have hel : e < s.heap.objs.size := Heap.lt_size he
    have hil : it < s.heap.objs.size := by obtain ⟨_, q, _⟩ := hit; exact Heap.lt_size q
    have hT0 : s.heap.IsTuple a its.toArray := p
    have hil' : i < its.toArray.size := by
      have := (List.getElem?_eq_some_iff.mp hu).1
      simpa using this
    have DD := Draws.tuple (prog := X.prog) (w := X.w) (A := X.A.in1) (I.ok.hd hc) it a hai its.toArray
    refine wpAny_pyNext_enum_itemC DD (c := (i : Int)) he ⟨hit, hT0⟩ hil' hne (by simp; exact ⟨hne, hae.symm⟩) fun x' h' tk hP ho hit' hT hsz hk => ?_
    have ex : x' = u := by
      have q : its.toArray[i]? = some x' := hP
      rw [show its.toArray[i]? = some u from by simpa using hu] at q
      exact (Option.some.inj q).symm
    subst ex
    refine ⟨_, rfl, wpAny_letOwnedTupleGo_enum (s := { s with heap := h', toks := tk + 1 }) ho fun h'' he' sb => ?_⟩
    have hT2 : h''.get? s.heap.objs.size = some { cls := .type "tuple", data := .seq #[.int i tk, x'] } := (sb.2 _ (Nat.ne_of_gt hel)).trans hT
    have new : ObjOk X.prog X.w (upd H s.heap.objs.size (.tup [.int (i : Nat), x])) h'' s.heap.objs.size (.tup [.int (i : Nat), x]) :=
      ⟨by show 2 ≤ sizeLine; decide, [.int i tk, x'], .cons ⟨_, rfl⟩ (.cons ru .nil), ⟨_, hT2, rfl, _, rfl⟩⟩
    have I1 : Inv X pins σ (upd H s.heap.objs.size (.tup [.int (i : Nat), x])) { s with heap := h'', toks := tk + 1 } :=
      I.turnedNew (ch := [e, it]) (fun b ob hb q => (sb.2 b (fun z => hb (by simp [z]))).trans (hk b ob (fun z => hb (by simp [z])) (fun z => hb (by simp [z])) q)) hf (Nat.le_refl _) new
    refine ⟨.ref s.heap.objs.size, _, I1, rfl, ⟨_, x, rfl, I.hok.fresh (Nat.le_refl _), rfl, fun ys hy => by rw [I.tuple_inj hy hq]; exact hx⟩, ⟨⟨x', ?_⟩, hit'.1.at fun o q => (sb.2 it (Ne.symm hne)).trans q, hne, hai, hae⟩, fun b hb => ?_⟩
    · have e1 : ((i + 1 : Nat) : Int) = (i : Int) + 1 := by omega
      rw [e1]; exact he'
    · have hb' : b < s.heap.objs.size := by
        have e' : b = e ∨ b = it := by simpa using hb
        rcases e' with z | z
        · rw [z]; exact hel
        · rw [z]; exact hil
      rw [upd_ne (Nat.ne_of_lt hb')]
      exact (hf b hb).1
  done := by
    intro X hP hw hK hc i pins s σ H E I hf st hg
    subst hP hw hK
    obtain ⟨⟨old, he⟩, hit, hne, hai, hae⟩ := st
    obtain ⟨xs, hq, hx⟩ := hg
    obtain ⟨its, rv, p, hz⟩ := I.tuple hq
    obtain ⟨f0, f1, f2, f3, f4, f5⟩ := hf it (by simp)
    have hl := rv.length
    have hT0 : s.heap.IsTuple a its.toArray := p
    have D : Draws X.prog X.w X.A.in1 it [it, a] i (fun i v => its.toArray[i]? = some v) (fun j h => j = i ∧ h.IsTupleIter it a i ∧ h.IsTuple a its.toArray) := by
      refine ⟨fun j h st => let ⟨o, ho, _⟩ := st.2.1; ⟨o, ho⟩, fun j h h' st hk => ⟨st.1, st.2.1.at fun o e => hk it (by simp) o e, st.2.2.at fun o e => hk a (by simp) o e⟩, fun j s Q E hi st hQ => absurd st.1 (Nat.ne_of_lt hi), fun s Q E st hE => ?_⟩
      exact wpAny_nextOf_tuple_end (I.ok.hd hc) st.2.1 st.2.2 (by simp; omega) hE
    exact wpAny_pyNext_enum_endD D he ⟨rfl, hit, hT0⟩ fun h' eb => ⟨rfl, I.turned (t' := s.toks) (fun b o hb q => eb b o hb q) f0 f1 f3 f4 f5⟩
  self := fun A i s Q E st h => let ⟨⟨_, he⟩, _⟩ := st; wpAny_pyIter_enum he h
end PF
namespace PF
open PySem PySem.Spec PyProof.Rows L2
def iSeq (f : EF) : IF := fun en => (settle (f en)).bind fun o en1 => match frz o en1 with
  | some (.lst ds, en2) => .ok ds en2
  | some (.tup ds, en2) => .ok ds en2
  | some (.kt ds, en2) => .ok ds en2
  | _ => .stuck
def rngD (lo : Int) (n : Nat) : List D := (List.range n).map fun (k : Nat) => D.int (lo + (k : Int))
def iRange1 (f : EF) : IF := fun en => (settle (f en)).bind fun o en1 => match view o en1 with
  | some (.int j) => if -16777216 ≤ j ∧ j ≤ 16777216 then .ok (rngD 0 j.toNat) en1 else .stuck
  | _ => .stuck
def iRange2 (f g : EF) : IF := fun en => (settle (f en)).bind fun o en1 => (settle (g en1)).bind fun o' en2 => match view o en2, view o' en2 with
  | some (.int i), some (.int j) => if (-16777216 ≤ i ∧ i ≤ 16777216) ∧ (-16777216 ≤ j ∧ j ≤ 16777216) ∧ j - i ≤ 16777216 then .ok (rngD i (j - i).toNat) en2 else .stuck
  | _, _ => .stuck
def enumD (ds : List D) : List D := ds.zipIdx.map fun p => D.tup [.int (p.2 : Int), p.1]
def iEnum (f : EF) : IF := fun en => (settle (f en)).bind fun o en1 => match frz o en1 with
  | some (.lst ds, en2) => .ok (enumD ds) en2
  | some (.tup ds, en2) => .ok (enumD ds) en2
  | some (.kt ds, en2) => .ok (enumD ds) en2
  | _ => .stuck
def zipD (ds es : List D) : List D := List.zipWith (fun a b => D.tup [a, b]) ds es
def iZip (ga : AF) : IF := fun en => (ga en).bind fun os en1 => match frzL os en1 with
  | some ([.lst ds, .lst es], en2) => .ok (zipD ds es) en2
  | some ([.tup ds, .tup es], en2) => .ok (zipD ds es) en2
  | some ([.kt ds, .tup es], en2) => .ok (zipD ds es) en2
  | _ => .stuck
section
variable {X : Cx} {T : List (Addr × Str)} {W : WX} {a b e tg : Expr} {f g : EF} {pos : Pos}
section
variable {K : PySem.W.Frag} {G H : Hp}
theorem yields_lst {a : Addr} {ds : List D} {xs : List V} (hl : SqL K G a xs) (s : Sub G H) (hf : HF K H) (rl : RepL K G ds xs) : Yields K G (Itl K a) ds := by
  have hlen : ds.length ≤ SZ := by rw [rl.len, ← sz_eq]; exact hf.1 a xs (s.l hl)
  refine ⟨hlen, fun i G' H' sg sh hf' => ⟨fun d hd => ?_, fun hi => ⟨xs, sh.l (sg.l hl), by rw [← rl.len]; exact hi⟩⟩⟩
  obtain ⟨v, hv, rv⟩ := rl.get hd
  refine ⟨⟨xs, v, sh.l (sg.l hl), hv⟩, fun x H'' y => ?_⟩
  obtain ⟨rfl, y⟩ := y
  have e := y xs (sh.l (sg.l hl))
  rw [hv] at e
  cases e
  exact ⟨.same (rv.mono sg), hf'⟩
theorem yields_tup {a : Addr} {ds : List D} {xs : List V} (hl : SqT K G a xs) (s : Sub G H) (hf : HF K H) (rl : RepL K G ds xs) : Yields K G (Itt K a) ds := by
  have hlen : ds.length ≤ SZ := by rw [rl.len, ← sz_eq]; exact hf.2 a xs (s.t hl)
  refine ⟨hlen, fun i G' H' sg sh hf' => ⟨fun d hd => ?_, fun hi => ⟨xs, sh.t (sg.t hl), by rw [← rl.len]; exact hi⟩⟩⟩
  obtain ⟨v, hv, rv⟩ := rl.get hd
  refine ⟨⟨xs, v, sh.t (sg.t hl), hv⟩, fun x H'' y => ?_⟩
  obtain ⟨rfl, y⟩ := y
  have e := y xs (sh.t (sg.t hl))
  rw [hv] at e
  cases e
  exact ⟨.same (rv.mono sg), hf'⟩
theorem pair_out {G' H' : Hp} {p : Addr} {d1 d2 : D} {x y : V} (sh : Sub G' H') (hf : HF K H') (hp : H' p = none) (r1 : Rep K G' d1 x) (r2 : Rep K G' d2 y) : Out K G' H' (.val (.tup [d1, d2])) (.ref p) (upd H' p (.tup [x, y])) ∧ HF K (upd H' p (.tup [x, y])) :=
  ⟨.newv hp (fun ps z => by cases z) (.tup upd_same (.cons (r1.mono (Sub.new (sh.none hp))) (.cons (r2.mono (Sub.new (sh.none hp))) .nil))), hf.tup (by rw [sz_eq]; show 2 ≤ SZ; decide)⟩
theorem enumD_get {ds : List D} {i : Nat} {d : D} (h : (enumD ds)[i]? = some d) : ∃ x, ds[i]? = some x ∧ d = .tup [.int (i : Int), x] := by
  unfold enumD at h
  rw [List.getElem?_map, List.getElem?_zipIdx] at h
  cases q : ds[i]? with
  | none => rw [q] at h; cases h
  | some x =>
    rw [q] at h
    simp at h
    exact ⟨x, rfl, h.symm⟩
theorem enumD_len {ds : List D} : (enumD ds).length = ds.length := by simp [enumD]
theorem yields_enumL {a : Addr} {ds : List D} {xs : List V} (hl : SqL K G a xs) (s : Sub G H) (hf : HF K H) (rl : RepL K G ds xs) : Yields K G (Ite K a) (enumD ds) := by
  have hlen : ds.length ≤ SZ := by rw [rl.len, ← sz_eq]; exact hf.1 a xs (s.l hl)
  refine ⟨by rw [enumD_len]; exact hlen, fun i G' H' sg sh hf' => ⟨fun d hd => ?_, fun hi => ⟨xs, sh.l (sg.l hl), by rw [← rl.len, ← enumD_len]; exact hi⟩⟩⟩
  obtain ⟨x0, hd', rfl⟩ := enumD_get hd
  obtain ⟨v, hv, rv⟩ := rl.get hd'
  refine ⟨⟨xs, v, sh.l (sg.l hl), hv⟩, fun x H'' y => ?_⟩
  obtain ⟨p, x', rfl, hp, rfl, y⟩ := y
  have e := y xs (sh.l (sg.l hl))
  rw [hv] at e
  cases e
  exact pair_out sh hf' hp (.int _) (rv.mono sg)
theorem yields_enumT {a : Addr} {ds : List D} {xs : List V} (hl : SqT K G a xs) (s : Sub G H) (hf : HF K H) (rl : RepL K G ds xs) : Yields K G (IteT K a) (enumD ds) := by
  have hlen : ds.length ≤ SZ := by rw [rl.len, ← sz_eq]; exact hf.2 a xs (s.t hl)
  refine ⟨by rw [enumD_len]; exact hlen, fun i G' H' sg sh hf' => ⟨fun d hd => ?_, fun hi => ⟨xs, sh.t (sg.t hl), by rw [← rl.len, ← enumD_len]; exact hi⟩⟩⟩
  obtain ⟨x0, hd', rfl⟩ := enumD_get hd
  obtain ⟨v, hv, rv⟩ := rl.get hd'
  refine ⟨⟨xs, v, sh.t (sg.t hl), hv⟩, fun x H'' y => ?_⟩
  obtain ⟨p, x', rfl, hp, rfl, y⟩ := y
  have e := y xs (sh.t (sg.t hl))
  rw [hv] at e
  cases e
  exact pair_out sh hf' hp (.int _) (rv.mono sg)
theorem zipD_get {ds es : List D} {i : Nat} {d : D} (h : (zipD ds es)[i]? = some d) : ∃ x y, ds[i]? = some x ∧ es[i]? = some y ∧ d = .tup [x, y] := by
  unfold zipD at h
  rw [List.getElem?_zipWith] at h
  cases q : ds[i]? with
  | none => rw [q] at h; simp at h
  | some x =>
    cases q2 : es[i]? with
    | none => rw [q, q2] at h; simp at h
    | some y =>
      rw [q, q2] at h
      simp at h
      exact ⟨x, y, rfl, rfl, h.symm⟩
theorem yields_zipL {a b : Addr} {ds es : List D} {xs ys : List V} (hl : SqL K G a xs) (hl2 : SqL K G b ys) (s : Sub G H) (hf : HF K H) (rl : RepL K G ds xs) (rl2 : RepL K G es ys) : Yields K G (Itz K a b) (zipD ds es) := by
  have hlen : ds.length ≤ SZ := by rw [rl.len, ← sz_eq]; exact hf.1 a xs (s.l hl)
  refine ⟨by unfold zipD; rw [List.length_zipWith]; omega, fun i G' H' sg sh hf' => ⟨fun d hd => ?_, fun hi => ⟨xs, ys, sh.l (sg.l hl), sh.l (sg.l hl2), by rw [← rl.len, ← rl2.len]; unfold zipD at hi; rw [List.length_zipWith] at hi; omega⟩⟩⟩
  obtain ⟨x0, y0, hd', hd2, rfl⟩ := zipD_get hd
  obtain ⟨v, hv, rv⟩ := rl.get hd'
  obtain ⟨v2, hv2, rv2⟩ := rl2.get hd2
  refine ⟨⟨xs, ys, v, v2, sh.l (sg.l hl), sh.l (sg.l hl2), hv, hv2⟩, fun x H'' y => ?_⟩
  obtain ⟨p, x', y', rfl, hp, rfl, y, z⟩ := y
  have e := y xs (sh.l (sg.l hl))
  rw [hv] at e
  cases e
  have e := z ys (sh.l (sg.l hl2))
  rw [hv2] at e
  cases e
  exact pair_out sh hf' hp (rv.mono sg) (rv2.mono sg)
theorem yields_zipT {a b : Addr} {ds es : List D} {xs ys : List V} (hl : SqT K G a xs) (hl2 : SqT K G b ys) (s : Sub G H) (hf : HF K H) (rl : RepL K G ds xs) (rl2 : RepL K G es ys) : Yields K G (RZ.ItzT K a b) (zipD ds es) := by
  have hlen : ds.length ≤ SZ := by rw [rl.len, ← sz_eq]; exact hf.2 a xs (s.t hl)
  refine ⟨by unfold zipD; rw [List.length_zipWith]; omega, fun i G' H' sg sh hf' => ⟨fun d hd => ?_, fun hi => ⟨xs, ys, sh.t (sg.t hl), sh.t (sg.t hl2), by rw [← rl.len, ← rl2.len]; unfold zipD at hi; rw [List.length_zipWith] at hi; omega⟩⟩⟩
  obtain ⟨x0, y0, hd', hd2, rfl⟩ := zipD_get hd
  obtain ⟨v, hv, rv⟩ := rl.get hd'
  obtain ⟨v2, hv2, rv2⟩ := rl2.get hd2
  refine ⟨⟨xs, ys, v, v2, sh.t (sg.t hl), sh.t (sg.t hl2), hv, hv2⟩, fun x H'' y => ?_⟩
  obtain ⟨p, x', y', rfl, hp, rfl, y, z⟩ := y
  have e := y xs (sh.t (sg.t hl))
  rw [hv] at e
  cases e
  have e := z ys (sh.t (sg.t hl2))
  rw [hv2] at e
  cases e
  exact pair_out sh hf' hp (rv.mono sg) (rv2.mono sg)
theorem rngD_get {lo : Int} {n i : Nat} {d : D} (h : (rngD lo n)[i]? = some d) : i < n ∧ d = .int (lo + (i : Int)) := by
  unfold rngD at h
  rw [List.getElem?_map] at h
  by_cases hi : i < n
  · rw [List.getElem?_range hi] at h
    exact ⟨hi, by simpa using h.symm⟩
  · rw [List.getElem?_eq_none (by simpa using hi)] at h
    cases h
theorem rngD_len {lo : Int} {n : Nat} : (rngD lo n).length = n := by simp [rngD]
theorem yields_rng {lo : Int} {n : Nat} (h : n ≤ SZ) : Yields K G (Itr lo n) (rngD lo n) := by
  refine ⟨by rw [rngD_len]; exact h, fun i G' H' sg sh hf' => ⟨fun d hd => ?_, fun hi => by rw [rngD_len] at hi; exact hi⟩⟩
  obtain ⟨hi, rfl⟩ := rngD_get hd
  refine ⟨hi, fun x H'' y => ?_⟩
  obtain ⟨rfl, rfl⟩ := y
  exact ⟨.same (.int _), hf'⟩
end
/-! ## the rules -/
theorem pi_seqU {l : Expr} {tl : TE} (hl : PE X l tl) : PI X tg l (fun σ H R => tl σ H fun x H1 => ∃ a, x = .ref a ∧ (((∃ xs, SqL X.K H1 a xs) ∧ R (Itl X.K a) H1) ∨ ((∃ xs, SqT X.K H1 a xs) ∧ R (Itt X.K a) H1))) := by
  refine ⟨fun pins s σ H R I h => ?_⟩
  refine thn (hl.run pins s σ H _ I h) fun v s1 ⟨x, H1, I1, r1, q1⟩ => ?_
  obtain ⟨a, e, q1⟩ := q1
  subst e
  cases r1
  rcases q1 with ⟨⟨xs, hq⟩, q⟩ | ⟨⟨xs, hq⟩, q⟩
  · obtain ⟨its, rv, p, hz⟩ := I1.list hq
    refine wpAny_pyIter_list p.isList ?_
    refine ⟨s1.heap.objs.size, [s1.heap.objs.size], _, _, H1, rfl, I1.kept (t' := s1.toks) fun b o e => Heap.get?_push_of_some _ e, turn_list a _, ⟨_, Heap.get?_push_size _ rfl, rfl, rfl⟩, fun b hb => ?_, q⟩
    have e : b = s1.heap.objs.size := by simpa using hb
    subst e
    exact I1.fpOk (Nat.le_refl _) (I1.hok.fresh (Nat.le_refl _))
  · obtain ⟨its, rv, p, hz⟩ := I1.tuple hq
    refine wpAny_pyIter_tuple (show s1.heap.IsTuple a its.toArray from p) ?_
    refine ⟨s1.heap.objs.size, [s1.heap.objs.size], _, _, H1, rfl, I1.kept (t' := s1.toks) fun b o e => Heap.get?_push_of_some _ e, turn_tuple a _, ⟨_, Heap.get?_push_size _ rfl, rfl, rfl⟩, fun b hb => ?_, q⟩
    have e : b = s1.heap.objs.size := by simpa using hb
    subst e
    exact I1.fpOk (Nat.le_refl _) (I1.hok.fresh (Nat.le_refl _))
theorem okI_sh {K : PySem.W.Frag} {T : List (Addr × Str)} {σ : L2.St} {Q : It → Hp → Prop} (G H : Hp) (en : En) (G1 H1 : Hp) (en1 : En) (o : List D) (e' : En) (f : Fr G H (own σ en) G1 H1 (own σ en1)) (i : IoK en en1) (h : okI K T G σ H en Q o e') : okI K T G1 σ H1 en1 Q o e' :=
  fun J H' G' R yl fr io => h J H' G' R yl (f.trans fr) (i.trans io)
theorem stepI {K : PySem.W.Frag} {mg : Str → Option Value} {G H : Hp} {σ : L2.St} {en : En} {r : ER} {k : Op → En → IR} {Q : It → Hp → Prop} {Q' : VK} (R : Rel K T G σ H en) (h : PostI K mg T W G σ H en Q ((settle r).bind k))
    (st : ∀ (o : Op) (en1 : En) (v : V) (H1 G1 : Hp), Rel K T G1 σ H1 en1 → RelO K G1 H1 σ en1 o v → (∀ d, o ≠ .fresh d) → Sub G G1 → PostI K mg T W G1 σ H1 en1 Q (k o en1) → Q' v H1) : PostE K mg T W G σ H en Q' (settle r) :=
  step (P := fun G H en => okI K T G σ H en Q) (Ex := fun G H en => ExcP K mg T W G σ H en) okI_sh exc_sh (fun _ _ _ z => z) R h st
theorem stepLI {K : PySem.W.Frag} {mg : Str → Option Value} {G H : Hp} {σ : L2.St} {en : En} {r : AR} {k : List Op → En → IR} {Q : It → Hp → Prop} {Q' : List V → Hp → Prop} (R : Rel K T G σ H en) (h : PostI K mg T W G σ H en Q (r.bind k))
    (st : ∀ (os : List Op) (en1 : En) (vs : List V) (H1 G1 : Hp), Rel K T G1 σ H1 en1 → RelOs K G1 H1 σ en1 os vs → Sub G G1 → PostI K mg T W G1 σ H1 en1 Q (k os en1) → Q' vs H1) : PostA K mg T W G σ H en Q' r :=
  stepL (P := fun G H en => okI K T G σ H en Q) (Ex := fun G H en => ExcP K mg T W G σ H en) okI_sh exc_sh (fun _ _ _ z => z) R h st
theorem di_seq (h : DE X T W e f) : DI X T W tg e (iSeq f) :=
  ⟨fun pins s σ H R I ⟨G, en, Rl, p⟩ => (pi_seqU (de_settle h)).run pins s σ H R I ⟨G, en, Rl, stepI Rl p fun o en1 v H1 G1 R1 ro n1 s1 p1 => by
    cases q : frz o en1 with
    | none =>
      rw [q] at p1
      exact p1.elim
    | some z =>
      obtain ⟨d, en2⟩ := z
      obtain ⟨G2, R2, rd, f2, i2, s2⟩ := frz_ok R1 ro q
      rw [q] at p1
      cases d with
      | lst ds =>
        cases rd with
        | lst hl rl => exact ⟨_, rfl, .inl ⟨⟨_, R2.sub.l hl⟩, p1 _ H1 G2 R2 (yields_lst hl R2.sub R2.hf rl) f2 i2⟩⟩
      | tup ds =>
        cases rd with
        | tup hl rl => exact ⟨_, rfl, .inr ⟨⟨_, R2.sub.t (SqT.of hl)⟩, p1 _ H1 G2 R2 (yields_tup (SqT.of hl) R2.sub R2.hf rl) f2 i2⟩⟩
      | kt ds =>
        cases rd with
        | kt hl rl => exact ⟨_, rfl, .inr ⟨⟨_, R2.sub.t hl⟩, p1 _ H1 G2 R2 (yields_tup hl R2.sub R2.hf rl) f2 i2⟩⟩
      | non => exact p1.elim
      | bl _ => exact p1.elim
      | int _ => exact p1.elim
      | str _ => exact p1.elim
      | dK _ => exact p1.elim
      | dT _ => exact p1.elim
      | ob _ _ => exact p1.elim
      | vv _ => exact p1.elim⟩⟩
theorem di_range1 {p : Pos} (hg : Gl X "range") (hm : X.mg "range" = none) (h : DE X T W a f) (hs : starEach [a] X.env = [(false, eval a X.env)] := by rfl) : DI X T W tg (.Call (.Name "range" p) [a] [] pos) (iRange1 f) :=
  ⟨fun pins s σ H R I ⟨G, en, Rl, p0⟩ => (pi_range1 hg hm (pa_cons (de_settle h) pa_nil hs) hs).run pins s σ H R I ⟨G, en, Rl, stepI Rl p0 fun o en1 v H1 G1 R1 ro n1 s1 p1 => by
    cases q : view o en1 with
    | none =>
      rw [q] at p1
      exact p1.elim
    | some d =>
      rw [q] at p1
      have rv := view_ok R1 ro q
      cases d with
      | int j =>
        cases repV_int rv
        have p1 : PostI X.K X.mg T W G1 σ H1 en1 R (if -16777216 ≤ j ∧ j ≤ 16777216 then Res.ok (rngD 0 j.toNat) en1 else .stuck) := p1
        by_cases hj : -16777216 ≤ j ∧ j ≤ 16777216
        · rw [if_pos hj] at p1
          exact ⟨j, rfl, by omega, by omega, p1 _ H1 G1 R1 (yields_rng (by show _ ≤ 16777216; omega)) Fr.refl (IoK.refl en1)⟩
        · rw [if_neg hj] at p1
          exact p1.elim
      | non => exact p1.elim
      | bl _ => exact p1.elim
      | lst _ => exact p1.elim
      | tup _ => exact p1.elim
      | kt _ => exact p1.elim
      | str _ => exact p1.elim
      | dK _ => exact p1.elim
      | dT _ => exact p1.elim
      | ob _ _ => exact p1.elim
      | vv _ => exact p1.elim⟩⟩
theorem di_range2 {p : Pos} (hg : Gl X "range") (hm : X.mg "range" = none) (h : DE X T W a f) (h2 : DE X T W b g) (hs : starEach [a, b] X.env = (false, eval a X.env) :: starEach [b] X.env := by rfl) (hs2 : starEach [b] X.env = [(false, eval b X.env)] := by rfl) : DI X T W tg (.Call (.Name "range" p) [a, b] [] pos) (iRange2 f g) :=
  ⟨fun pins s σ H R I ⟨G, en, Rl, p0⟩ => (pi_range2 hg hm (pa_cons (de_settle h) (pa_cons (de_settle h2) pa_nil hs2) hs) (by rw [hs, hs2]) hs2).run pins s σ H R I ⟨G, en, Rl, stepI Rl p0 fun o en1 v H1 G1 R1 ro n1 s1 p1 => ⟨G1, en1, R1, stepI R1 p1 fun o2 en2 v2 H2 G2 R2 ro2 n2 s2 p2 => by
    have rv1 := fun d (q : view o en2 = some d) => view_ok R2 (ro.later (H' := H2) (en' := en2) n1 s2) q
    have rv2 := fun d (q : view o2 en2 = some d) => view_ok R2 ro2 q
    revert p2
    generalize view o en2 = w1 at rv1
    generalize view o2 en2 = w2 at rv2
    intro p2
    split at p2
    · rename_i i j
      cases repV_int (rv1 _ rfl)
      cases repV_int (rv2 _ rfl)
      by_cases hj : (-16777216 ≤ i ∧ i ≤ 16777216) ∧ (-16777216 ≤ j ∧ j ≤ 16777216) ∧ j - i ≤ 16777216
      · rw [if_pos hj] at p2
        exact ⟨i, j, rfl, by omega, p2 _ H2 G2 R2 (yields_rng (by show _ ≤ 16777216; omega)) Fr.refl (IoK.refl en2)⟩
      · rw [if_neg hj] at p2
        exact p2.elim
    · exact p2.elim⟩⟩⟩
/-! enumerate, zip -/
theorem pi_enumU {ta : TA} {p tpos : Pos} {elts : List Expr} {kk : Nat} (hg : Gl X "enumerate") (hm : X.mg "enumerate" = none) (ha : PA X [e] ta) (hs : starEach [e] X.env = [(false, eval e X.env)] := by rfl) :
    PI X (.Tuple elts kk tpos) (.Call (.Name "enumerate" p) [e] [] pos) (fun σ H R => ta σ H fun vs H1 => ∃ a, vs = [.ref a] ∧ (((∃ xs, SqL X.K H1 a xs) ∧ R (Ite X.K a) H1) ∨ ((∃ xs, SqT X.K H1 a xs) ∧ R (IteT X.K a) H1))) := by
  refine ⟨fun pins s σ H R I h => ?_⟩
  refine Call_ (ld_blt I hg hm boot_enumerate (PyProof.Rows.callWith_type1 (thn (ha.run pos pins s σ H _ I h) fun us s1 ⟨vs, H1, I1, r1, q1⟩ => ?_) hs rfl))
  obtain ⟨a, ex, q1⟩ := q1
  subst ex
  cases r1 with
  | cons r rr =>
    cases rr
    cases r
    rcases q1 with ⟨⟨xs, hq⟩, q⟩ | ⟨⟨xs, hq⟩, q⟩
    · obtain ⟨its, rv, p', hz⟩ := I1.list hq
      refine call_enumerate_list p'.isList fun h' he hit hsz hk => wpAny_pyIter_enum he ?_
      have I2 : Inv X pins σ H1 { s1 with heap := h' } := I1.kept (t' := s1.toks) hk
      refine ⟨s1.heap.objs.size + 1, [s1.heap.objs.size + 1, s1.heap.objs.size], _, _, H1, rfl, I2, turn_enum a (s1.heap.objs.size + 1) s1.heap.objs.size, ⟨⟨.none, he⟩, hit, Nat.succ_ne_self _⟩, fun b hb => ?_, q⟩
      have e' : b = s1.heap.objs.size + 1 ∨ b = s1.heap.objs.size := by simpa using hb
      have hle : s1.heap.objs.size ≤ b := by
        rcases e' with z | z
        · rw [z]; exact Nat.le_add_right _ _
        · rw [z]; exact Nat.le_refl _
      exact I1.fpOk hle (I1.hok.fresh hle)
    · obtain ⟨its, rv, p', hz⟩ := I1.tuple hq
      have hT : s1.heap.IsTuple a its.toArray := p'
      have hlt : a < s1.heap.objs.size := by obtain ⟨o, ho, _⟩ := id p'; exact Heap.lt_size ho
      refine pf_call_enumerate_tuple hT fun h' he hit hsz hk => wpAny_pyIter_enum he ?_
      have I2 : Inv X pins σ H1 { s1 with heap := h' } := I1.kept (t' := s1.toks) hk
      refine ⟨s1.heap.objs.size + 1, [s1.heap.objs.size + 1, s1.heap.objs.size], _, _, H1, rfl, I2, turn_enumT a (s1.heap.objs.size + 1) s1.heap.objs.size, ⟨⟨.none, he⟩, hit, Nat.succ_ne_self _, Nat.ne_of_lt hlt, Nat.ne_of_lt (Nat.lt_succ_of_lt hlt)⟩, fun b hb => ?_, q⟩
      have e' : b = s1.heap.objs.size + 1 ∨ b = s1.heap.objs.size := by simpa using hb
      have hle : s1.heap.objs.size ≤ b := by
        rcases e' with z | z
        · rw [z]; exact Nat.le_add_right _ _
        · rw [z]; exact Nat.le_refl _
      exact I1.fpOk hle (I1.hok.fresh hle)
theorem di_enum {p tpos : Pos} {elts : List Expr} {kk : Nat} (hg : Gl X "enumerate") (hm : X.mg "enumerate" = none) (h : DE X T W e f) (hs : starEach [e] X.env = [(false, eval e X.env)] := by rfl) :
    DI X T W (.Tuple elts kk tpos) (.Call (.Name "enumerate" p) [e] [] pos) (iEnum f) :=
  ⟨fun pins s σ H R I ⟨G, en, Rl, p0⟩ => (pi_enumU hg hm (pa_cons (de_settle h) pa_nil hs) hs).run pins s σ H R I ⟨G, en, Rl, stepI Rl p0 fun o en1 v H1 G1 R1 ro n1 s1 p1 => by
    cases q : frz o en1 with
    | none =>
      rw [q] at p1
      exact p1.elim
    | some z =>
      obtain ⟨d, en2⟩ := z
      obtain ⟨G2, R2, rd, f2, i2, s2⟩ := frz_ok R1 ro q
      rw [q] at p1
      cases d with
      | lst ds =>
        cases rd with
        | lst hl rl => exact ⟨_, rfl, .inl ⟨⟨_, R2.sub.l hl⟩, p1 _ H1 G2 R2 (yields_enumL hl R2.sub R2.hf rl) f2 i2⟩⟩
      | tup ds =>
        cases rd with
        | tup hl rl => exact ⟨_, rfl, .inr ⟨⟨_, R2.sub.t (SqT.of hl)⟩, p1 _ H1 G2 R2 (yields_enumT (SqT.of hl) R2.sub R2.hf rl) f2 i2⟩⟩
      | kt ds =>
        cases rd with
        | kt hl rl => exact ⟨_, rfl, .inr ⟨⟨_, R2.sub.t hl⟩, p1 _ H1 G2 R2 (yields_enumT hl R2.sub R2.hf rl) f2 i2⟩⟩
      | non => exact p1.elim
      | bl _ => exact p1.elim
      | int _ => exact p1.elim
      | str _ => exact p1.elim
      | dK _ => exact p1.elim
      | dT _ => exact p1.elim
      | ob _ _ => exact p1.elim
      | vv _ => exact p1.elim⟩⟩
theorem di_zip {p tpos : Pos} {elts : List Expr} {kk : Nat} {ga : AF} (hg : Gl X "zip") (hm : X.mg "zip" = none) (h : DA X T W [a, b] ga)
    (hs : starEach [a, b] X.env = (false, eval a X.env) :: starEach [b] X.env := by rfl) (hpl : (backTo pos (starEach [b] X.env)).any (·.1) = false := by rfl) :
    DI X T W (.Tuple elts kk tpos) (.Call (.Name "zip" p) [a, b] [] pos) (iZip ga) :=
  ⟨fun pins s σ H R I ⟨G, en, Rl, p0⟩ => (RZ.pi_zipA hg hm h hs hpl).run pins s σ H R I ⟨G, en, Rl, stepLI Rl p0 fun os en1 vs H1 G1 R1 ros s1 p1 => by
    cases q : frzL os en1 with
    | none =>
      rw [q] at p1
      exact p1.elim
    | some z =>
      obtain ⟨ds, en2⟩ := z
      obtain ⟨G2, R2, rd, f2, i2, s2⟩ := frzL_ok R1 ros q
      rw [q] at p1
      split at p1
      · rename_i ds1 es1 en3 eq
        cases Option.some.inj eq
        cases rd with
        | cons r1 rr =>
          cases rr with
          | cons r2 rr =>
            cases rr
            cases r1 with
            | lst hl rl =>
              cases r2 with
              | lst hl2 rl2 => exact ⟨_, _, _, _, rfl, .inl ⟨R2.sub.l hl, R2.sub.l hl2, p1 _ H1 G2 R2 (yields_zipL hl hl2 R2.sub R2.hf rl rl2) f2 i2⟩⟩
      · rename_i ds1 es1 en3 eq
        cases Option.some.inj eq
        cases rd with
        | cons r1 rr =>
          cases rr with
          | cons r2 rr =>
            cases rr
            cases r1 with
            | tup hl rl =>
              cases r2 with
              | tup hl2 rl2 => exact ⟨_, _, _, _, rfl, .inr ⟨R2.sub.t (SqT.of hl), R2.sub.t (SqT.of hl2), p1 _ H1 G2 R2 (yields_zipT (SqT.of hl) (SqT.of hl2) R2.sub R2.hf rl rl2) f2 i2⟩⟩
      · rename_i ds1 es1 en3 eq
        cases Option.some.inj eq
        cases rd with
        | cons r1 rr =>
          cases rr with
          | cons r2 rr =>
            cases rr
            cases r1 with
            | kt hl rl =>
              cases r2 with
              | tup hl2 rl2 => exact ⟨_, _, _, _, rfl, .inr ⟨R2.sub.t hl, R2.sub.t (SqT.of hl2), p1 _ H1 G2 R2 (yields_zipT hl (SqT.of hl2) R2.sub R2.hf rl rl2) f2 i2⟩⟩
      · exact p1.elim⟩⟩
end
end PF
namespace PF
open PySem PySem.Spec PyProof.Rows L2
/-! ## defs as functions -/
def finR (o : Op) (outs : List Sl) (en : En) : FR := match o with
  | .val d => .ok false d outs
  | .fresh d => .ok true d outs
  | .slot i => match en[i]? with
    | some (.fz d) => .ok false d outs
    | some (.ow false d) => .ok true d outs
    | _ => .stuck
def fnOf (n : Nat) (body : SF) : FS := fun sls => match body (sls ++ List.replicate (n - sls.length) .un) with
  | .ok (.rt o) en => finR o (en.take sls.length) en
  | .ok .nx en => .ok false .non (en.take sls.length)
  | .exc c pl en => .exc c pl (en.take sls.length)
  | _ => .stuck
def isArg : Sl → Bool
  | .fz _ => true
  | .ow true _ => true
  | _ => false
def back1 (s o : Sl) : Sl := match s with
  | .ow _ _ => o
  | s => s
def back : List Sl → List Sl → List Sl
  | s :: ss, o :: os => back1 s o :: back ss os
  | ss, _ => ss
section
variable (K : PySem.W.Frag) (mg : Str → Option Value) (T : List (Addr × Str))
def PostFR (G : Hp) (vs : List V) (H : Hp) (sls : List Sl) (Q : VK) (E : XK) : FR → Prop
  | .ok fr d outs => ∀ v H' G', Rel K T G' (vs.map some) H' (back sls outs) → (if fr = true then RelO K G' H' (vs.map some) (back sls outs) (.fresh d) v else Rep K G' d v) →
      Fr G H (own (vs.map some) sls) G' H' (fun p => own (vs.map some) (back sls outs) p ∨ (fr = true ∧ v = .ref p)) → IoK sls (back sls outs) → Q v H'
  | .exc c pl outs => ∀ H' G' C dd, mg c = some (.ref C) → Rel K T G' (vs.map some) H' (back sls outs) → Fr G H (own (vs.map some) sls) G' H' (own (vs.map some) (back sls outs)) → IoK sls (back sls outs) → PlOk K G' H' pl dd → E (.ref C) dd H'
  | .stuck => False
def spF (n : Nat) (F : FS) : Sp := fun vs H Q E => ∃ G sls, vs.length = n ∧ Rel K T G (vs.map some) H sls ∧ sls.all isArg = true ∧ PostFR K mg T G vs H sls Q E (F sls)
end
theorem back_get : ∀ {sls outs : List Sl} {i : Nat} {s : Sl}, (back sls outs)[i]? = some s → ∃ s0, sls[i]? = some s0 ∧ ((∀ b d, s0 ≠ .ow b d) ∧ s = s0 ∨ (∃ b d, s0 = .ow b d) ∧ (outs[i]? = some s ∨ (outs[i]? = none ∧ s = s0)))
  | [], _, i, s, h => by simp [back] at h
  | s0 :: ss, [], i, s, h => by
    have h : (s0 :: ss)[i]? = some s := h
    refine ⟨s, h, ?_⟩
    cases s with
    | ow b d => exact .inr ⟨⟨b, d, rfl⟩, .inr ⟨by simp, rfl⟩⟩
    | un => exact .inl ⟨fun _ _ z => by (cases z), rfl⟩
    | fz d => exact .inl ⟨fun _ _ z => by (cases z), rfl⟩
  | s0 :: ss, o :: os, 0, s, h => by
    have h : back1 s0 o = s := by simpa [back] using h
    subst h
    refine ⟨s0, rfl, ?_⟩
    cases s0 with
    | ow b d => exact .inr ⟨⟨b, d, rfl⟩, .inl rfl⟩
    | un => exact .inl ⟨fun _ _ z => by (cases z), rfl⟩
    | fz d => exact .inl ⟨fun _ _ z => by (cases z), rfl⟩
  | s0 :: ss, o :: os, i + 1, s, h => by
    have h : (back ss os)[i]? = some s := by simpa [back] using h
    simpa using back_get h
theorem back_len : ∀ {sls outs : List Sl}, (back sls outs).length = sls.length
  | [], _ => rfl
  | _ :: _, [] => rfl
  | _ :: ss, _ :: os => by simp [back, back_len (sls := ss) (outs := os)]
theorem back_own : ∀ {sls outs : List Sl} {i : Nat} {b : Bool} {d : D} {s : Sl}, sls[i]? = some (.ow b d) → outs[i]? = some s → (back sls outs)[i]? = some s
  | [], _, i, _, _, _, h, _ => by simp at h
  | _ :: _, [], i, _, _, _, _, h => by simp at h
  | s0 :: ss, o :: os, 0, b, d, s, h, k => by
    have h : s0 = .ow b d := by simpa using h
    have k : o = s := by simpa using k
    subst h k
    rfl
  | s0 :: ss, o :: os, i + 1, b, d, s, h, k => by
    have := back_own (sls := ss) (outs := os) (i := i) (by simpa using h) (by simpa using k)
    simpa [back] using this
theorem arg_io {sls : List Sl} (h : sls.all isArg = true) {i : Nat} {b : Bool} {d : D} (e : sls[i]? = some (.ow b d)) : b = true := by
  have := List.all_eq_true.mp h _ (List.mem_of_getElem? e)
  cases b with
  | true => rfl
  | false => cases this
/-- the body's reading -/
theorem fun_read {K : PySem.W.Frag} {mg : Str → Option Value} {T : List (Addr × Str)} {N : List Str} {m : Nat} {g : SF} {vs : List V} {H : Hp} {Q : VK} {E : XK} (hlen : m ≤ N.length)
    (h : spF K mg T m (fnOf N.length g) vs H Q E) : tS K mg T (fun cls d σ H => E cls d H) g { nx := fun _ H' => Q .non H', rt := Q } (L2.start N vs) H := by
  obtain ⟨G, sls, hvl, R, ha, p⟩ := h
  have hsl : sls.length = vs.length := by rw [← R.len, List.length_map]
  have hst : L2.start N vs = vs.map some ++ List.replicate (N.length - sls.length) none := by unfold L2.start; rw [hsl]
  -- the state at the entry
  have R0 : Rel K T G (L2.start N vs) H (sls ++ List.replicate (N.length - sls.length) .un) := by
    rw [hst]
    refine ⟨R.sub, R.gt, R.tabs, R.hf, by simp [hsl], fun i s e => ?_, fun i j b c d e p e1 e2 s1 s2 => ?_⟩
    · by_cases hi : i < sls.length
      · rw [List.getElem?_append_left hi] at e
        rw [List.getElem?_append_left (by rw [List.length_map, ← hsl]; exact hi)]
        exact R.at_ i s e
      · rw [List.getElem?_append_right (by omega)] at e
        have : s = .un := by
          have := List.mem_of_getElem? e
          exact (List.mem_replicate.mp this).2
        subst this
        trivial
    · have low : ∀ {i : Nat} {b : Bool} {d : D}, (sls ++ List.replicate (N.length - sls.length) Sl.un)[i]? = some (.ow b d) → i < sls.length := fun {i b d} e => by
        refine Classical.byContradiction fun hi => ?_
        rw [List.getElem?_append_right (by omega)] at e
        have := (List.mem_replicate.mp (List.mem_of_getElem? e)).2
        cases this
      have h1 := low e1
      have h2 := low e2
      rw [List.getElem?_append_left h1] at e1
      rw [List.getElem?_append_left h2] at e2
      rw [List.getElem?_append_left (by rw [List.length_map, ← hsl]; exact h1)] at s1
      rw [List.getElem?_append_left (by rw [List.length_map, ← hsl]; exact h2)] at s2
      exact R.sep i j b c d e p e1 e2 s1 s2
  have own0 : ∀ q, own (L2.start N vs) (sls ++ List.replicate (N.length - sls.length) .un) q ↔ own (vs.map some) sls q := fun q => by
    rw [hst]
    constructor
    · rintro ⟨i, b, d, e1, e2⟩
      have hi : i < sls.length := by
        refine Classical.byContradiction fun hi => ?_
        rw [List.getElem?_append_right (by omega)] at e1
        have := (List.mem_replicate.mp (List.mem_of_getElem? e1)).2
        cases this
      rw [List.getElem?_append_left hi] at e1
      rw [List.getElem?_append_left (by rw [List.length_map, ← hsl]; exact hi)] at e2
      exact ⟨i, b, d, e1, e2⟩
    · rintro ⟨i, b, d, e1, e2⟩
      have hi : i < sls.length := (List.getElem?_eq_some_iff.mp e1).1
      exact ⟨i, b, d, by rw [List.getElem?_append_left hi]; exact e1, by rw [List.getElem?_append_left (by rw [List.length_map, ← hsl]; exact hi)]; exact e2⟩
  -- from the end's state to the caller's
  have fin : ∀ {σ' : L2.St} {H' G' : Hp} {en' : En}, Rel K T G' σ' H' en' → Fr G H (own (L2.start N vs) (sls ++ List.replicate (N.length - sls.length) .un)) G' H' (own σ' en') → IoS (L2.start N vs) (sls ++ List.replicate (N.length - sls.length) .un) σ' en' →
      Rel K T G' (vs.map some) H' (back sls (en'.take sls.length)) ∧ (∀ q, own (vs.map some) (back sls (en'.take sls.length)) q → own σ' en' q) ∧ IoK sls (back sls (en'.take sls.length)) ∧
      (∀ (i : Nat) (b : Bool) (d : D), (back sls (en'.take sls.length))[i]? = some (.ow b d) → en'[i]? = some (.ow b d) ∧ σ'[i]? = (vs.map some)[i]? ∧ ∃ d0, sls[i]? = some (.ow true d0)) := by
    intro σ' H' G' en' R' fr io
    have fr' : Fr G H (own (vs.map some) sls) G' H' (own σ' en') := ⟨fun b o h n no => fr.keep b o h n fun z => no ((own0 b).mp z), fun p z => (fr.new p z).imp (own0 p).mp id⟩
    have sg : Sub G G' := frsub R fr'
    have key : ∀ (i : Nat) (b : Bool) (d : D), (back sls (en'.take sls.length))[i]? = some (.ow b d) → en'[i]? = some (.ow b d) ∧ σ'[i]? = (vs.map some)[i]? ∧ ∃ d0, sls[i]? = some (.ow true d0) := by
      intro i b d e
      obtain ⟨s0, e0, h⟩ := back_get e
      have hi : i < sls.length := (List.getElem?_eq_some_iff.mp e0).1
      rcases h with ⟨hn, rfl⟩ | ⟨⟨b0, d0, rfl⟩, h⟩
      · exact absurd rfl (hn b d)
      · have hb := arg_io ha e0
        subst hb
        obtain ⟨⟨d', e'⟩, eσ⟩ := io i d0 (by rw [List.getElem?_append_left hi]; exact e0)
        have et : (en'.take sls.length)[i]? = en'[i]? := List.getElem?_take_of_lt hi
        rw [et, e'] at h
        rcases h with h | ⟨h, _⟩
        · refine ⟨by rw [e']; exact h, ?_, d0, e0⟩
          rw [eσ, hst, List.getElem?_append_left (by rw [List.length_map, ← hsl]; exact hi)]
        · cases h
    refine ⟨⟨R'.sub, R'.gt, R'.tabs, R'.hf, by rw [back_len, List.length_map, hsl], fun i s e => ?_, fun i j b c d e p e1 e2 s1 s2 => ?_⟩, fun q ⟨i, b, d, e1, e2⟩ => ?_, fun i d e => ?_, key⟩
    · obtain ⟨s0, e0, h⟩ := back_get e
      have hi : i < sls.length := (List.getElem?_eq_some_iff.mp e0).1
      rcases h with ⟨hn, rfl⟩ | ⟨⟨b0, d0, rfl⟩, h⟩
      · refine (R.at_ i s e0).mono sg fun p d b es _ => absurd es (hn b d)
      · have hb := arg_io ha e0
        subst hb
        obtain ⟨⟨d', e'⟩, eσ⟩ := io i d0 (by rw [List.getElem?_append_left hi]; exact e0)
        have et : (en'.take sls.length)[i]? = en'[i]? := List.getElem?_take_of_lt hi
        rw [et, e'] at h
        rcases h with h | ⟨h, _⟩
        · cases Option.some.inj h
          have k := R'.at_ i _ e'
          rw [eσ, hst, List.getElem?_append_left (by rw [List.length_map, ← hsl]; exact hi)] at k
          exact k
        · cases h
    · obtain ⟨a1, a2, _⟩ := key _ _ _ e1
      obtain ⟨b1, b2, _⟩ := key _ _ _ e2
      exact R'.sep i j b c d e p a1 b1 (by rw [a2]; exact s1) (by rw [b2]; exact s2)
    · obtain ⟨a1, a2, _⟩ := key _ _ _ e1
      exact ⟨i, b, d, a1, by rw [a2]; exact e2⟩
    · have hi : i < sls.length := (List.getElem?_eq_some_iff.mp e).1
      obtain ⟨⟨d', e'⟩, _⟩ := io i d (by rw [List.getElem?_append_left hi]; exact e)
      exact ⟨d', back_own e (by rw [List.getElem?_take_of_lt hi]; exact e')⟩
  have frk : ∀ {G' H' : Hp} {O : Addr → Prop}, Fr G H (own (L2.start N vs) (sls ++ List.replicate (N.length - sls.length) .un)) G' H' O → Fr G H (own (vs.map some) sls) G' H' O := fun fr => ⟨fun b o h n no => fr.keep b o h n fun z => no ((own0 b).mp z), fun p z => (fr.new p z).imp (own0 p).mp id⟩
  refine ⟨G, _, R0, ?_⟩
  unfold fnOf at p
  cases q : g (sls ++ List.replicate (N.length - sls.length) .un) with
  | stuck =>
    rw [q] at p
    exact p.elim
  | exc c pl en' =>
    rw [q] at p
    intro σ' H' G' C d m R' fr io po
    obtain ⟨R2, o2, i2, _⟩ := fin R' fr io
    exact p H' G' C d m R2 ((frk fr).weak o2) i2 po
  | ok fl en' =>
    rw [q] at p
    cases fl with
    | nx =>
      intro σ' H' G' R' fr io
      obtain ⟨R2, o2, i2, _⟩ := fin R' fr io
      exact p .non H' G' R2 .non ((frk fr).weak fun p z => z.elim (o2 p) fun z => by simp at z) i2
    | bk => exact p.elim
    | ct => exact p.elim
    | rt o =>
      intro v σ' H' G' R' ro fr io
      obtain ⟨R2, o2, i2, key⟩ := fin R' (fr.weak fun p z => .inl z) io
      have p : PostFR K mg T G vs H sls Q E (finR o (en'.take sls.length) en') := p
      unfold finR at p
      cases o with
      | val d => exact p v H' G' R2 ro ((frk fr).weak fun p z => z.elim (fun z => .inl (o2 p z)) fun z => by simp at z) i2
      | fresh d =>
        obtain ⟨a, rfl, oa, no⟩ := ro
        exact p (.ref a) H' G' R2 ⟨a, rfl, oa, fun z => no (o2 a z)⟩ ((frk fr).weak fun p z => z.elim (fun z => .inl (o2 p z)) fun z => .inr z.2) i2
      | slot i =>
        have ro : σ'[i]? = some (some v) := ro
        cases z : en'[i]? with
        | none =>
          simp only [z] at p
          exact p.elim
        | some s =>
          simp only [z] at p
          cases s with
          | un => exact p.elim
          | fz d =>
            obtain ⟨v', h1, h2⟩ := R'.at_ i _ z
            rw [ro] at h1
            cases h1
            exact p v H' G' R2 h2 ((frk fr).weak fun p z => z.elim (fun z => .inl (o2 p z)) fun z => by simp at z) i2
          | ow b d =>
            cases b with
            | true => exact p.elim
            | false =>
              obtain ⟨a, h1, h2⟩ := R'.at_ i _ z
              rw [ro] at h1
              cases h1
              refine p (.ref a) H' G' R2 ⟨a, rfl, h2, fun ⟨j, b', d', e1, e2⟩ => ?_⟩ ((frk fr).weak fun p z' => z'.elim (fun z => .inl (o2 p z)) fun z' => ?_) i2
              · obtain ⟨a1, a2, d0, a3⟩ := key _ _ _ e1
                have := R'.sep i j false b' d d' a z a1 ro (by rw [a2]; exact e2)
                subst this
                rw [z] at a1
                cases a1
                obtain ⟨⟨d9, e9⟩, _⟩ := io i d0 (by rw [List.getElem?_append_left (List.getElem?_eq_some_iff.mp a3).1]; exact a3)
                rw [z] at e9
                cases e9
              · cases z'.2
                exact .inl ⟨i, false, d, z, ro⟩
/-- THE RULE for a def: from its body's function -/
theorem fun_ok {P : Program} {w : World} {K : PySem.W.Frag} {mg : Str → Option Value} {base : Heap} {T : List (Addr × Str)} {x qual : Str} {params : Arguments} {bd : List Stmt} {scope : Scope} {f : Addr} {fd : FuncData} {N ps : List Str} {k : Nat} {g : SF}
    (F : FunD K x qual params bd scope [] [] f fd) (S : FnScope N ps scope) (hlen : ps.length ≤ N.length)
    (hbody : ∀ (cdv : Value) (A : Around) (outer : List Env) (s : Shared) (H : Hp) (E : XK), Room k (A.deeper (envOfC qual scope s.heap.objs.size f cdv)) →
      L2N.Takes (cxOf (L2N.CX P w) P w K mg base N qual scope f cdv A outer s H E) (fun cls d _ H => E cls d H) →
      PassesOwn (model P w) (A.deeper (envOfC qual scope s.heap.objs.size f cdv)) (envOfC qual scope s.heap.objs.size f cdv) (cxOf (L2N.CX P w) P w K mg base N qual scope f cdv A outer s H E).xe →
      DB (cxOf (L2N.CX P w) P w K mg base N qual scope f cdv A outer s H E) T (fun cls d _ H => E cls d H) bd g) :
    FnOk P w K mg base (L2N.CX P w) (k + 1) f fd ps (spF K mg T ps.length (fnOf N.length g)) := by
  refine F.ok S (fun vs H Q E h => h.elim fun _ h => h.elim fun _ h => h.1) (fun cdv A outer s H vs Q E hr h => ?_)
  exact ⟨tS K mg T (fun cls d σ H => E cls d H) g, hbody cdv A outer s H E hr (L2N.takes_of rfl rfl rfl rfl) (passes_of rfl), fun_read hlen h⟩
/-- the same, the def's code known -/
theorem fun_okc {P : Program} {w : World} {K : PySem.W.Frag} {mg : Str → Option Value} {base : Heap} {T : List (Addr × Str)} {x qual : Str} {params : Arguments} {bd : List Stmt} {scope : Scope} {f : Addr} {N ps : List Str} {k : Nat} {g : SF} {dV kV doc pm cdv ct oc : Value} {an od : Option Addr} {osl : Array (Option Value)}
    (lk : K.lookup f = some ⟨oc, od, .func (PySem.W.fnOf x qual params bd scope dV kV doc pm an cdv ct), osl⟩) (hcd : PySem.W.codeIn K cdv qual = true) (S : FnScope N ps scope) (hlen : ps.length ≤ N.length)
    (hbody : ∀ (A : Around) (outer : List Env) (s : Shared) (H : Hp) (E : XK), Room k (A.deeper (envOfC qual scope s.heap.objs.size f cdv)) →
      L2N.Takes (cxOf (L2N.CX P w) P w K mg base N qual scope f cdv A outer s H E) (fun cls d _ H => E cls d H) →
      PassesOwn (model P w) (A.deeper (envOfC qual scope s.heap.objs.size f cdv)) (envOfC qual scope s.heap.objs.size f cdv) (cxOf (L2N.CX P w) P w K mg base N qual scope f cdv A outer s H E).xe →
      DB (cxOf (L2N.CX P w) P w K mg base N qual scope f cdv A outer s H E) T (fun cls d _ H => E cls d H) bd g) :
    FnOk P w K mg base (L2N.CX P w) (k + 1) f (PySem.W.fnOf x qual params bd scope dV kV doc pm an cdv ct) ps (spF K mg T ps.length (fnOf N.length g)) :=
  fn_of lk hcd S (fun vs H Q E h => h.elim fun _ h => h.elim fun _ h => h.1) fun A outer s H vs Q E hr h =>
    ⟨tS K mg T (fun cls d σ H => E cls d H) g, hbody A outer s H E hr (L2N.takes_of rfl rfl rfl rfl) (passes_of rfl), fun_read hlen h⟩
end PF
namespace PF
open PySem PySem.Spec PyProof.Rows L2
/-! ## calls as functions -/
def frzNon : List Bool → List Op → En → Option (List (Option D) × En)
  | [], [], en => some ([], en)
  | true :: ios, .slot _ :: os, en => (frzNon ios os en).map fun p => (none :: p.1, p.2)
  | true :: ios, .val d :: os, en => (frzNon ios os en).map fun p => (some d :: p.1, p.2)
  | false :: ios, o :: os, en => match frz o en with
    | some q => (frzNon ios os q.2).map fun p => (some q.1 :: p.1, p.2)
    | none => none
  | _, _, _ => none
def mkSl : List (Option D) → List Op → En → Option (List Sl)
  | [], [], _ => some []
  | some d :: ds, _ :: os, en => (mkSl ds os en).map (Sl.fz d :: ·)
  | none :: ds, .slot i :: os, en => match en[i]? with
    | some (.ow _ d) => (mkSl ds os en).map (Sl.ow true d :: ·)
    | _ => none
  | _, _, _ => none
def ioSl : List (Option D) → List Op → List Nat
  | none :: ds, .slot i :: os => i :: ioSl ds os
  | _ :: ds, _ :: os => ioSl ds os
  | _, _ => []
def ioOk : List (Option D) → List Op → Bool
  | none :: ds, .slot i :: os => !(ioSl ds os).contains i && ioOk ds os
  | _ :: ds, _ :: os => ioOk ds os
  | _, _ => true
def putB : List (Option D) → List Op → List Sl → En → Option En
  | [], [], _, en => some en
  | none :: ds, .slot i :: os, o :: outs, en => match o, en[i]? with
    | .ow true d', some (.ow b _) => putB ds os outs (en.set i (.ow b d'))
    | _, _ => none
  | some _ :: ds, _ :: os, _ :: outs, en => putB ds os outs en
  | _, _, _, _ => none
def opOf (fr : Bool) (d : D) : Op := match fr with
  | true => .fresh d
  | false => .val d
def putR (dd : List (Option D)) (os : List Op) (en : En) (r : FR) : ER := match r with
  | .ok fr d outs => match putB dd os outs en with
    | some en3 => .ok (opOf fr d) en3
    | none => .stuck
  | .exc c pl outs => match putB dd os outs en with
    | some en3 => .exc c pl en3
    | none => .stuck
  | .stuck => .stuck
def callF (F : FS) (ios : List Bool) (os : List Op) (en1 : En) : ER := match frzNon ios os en1 with
  | none => .stuck
  | some (dd, en2) => match mkSl dd os en2, ioOk dd os with
    | some sls, true => putR dd os en2 (F sls)
    | _, _ => .stuck
def eFn (F : FS) (ios : List Bool) (ga : AF) : EF := fun en => (ga en).bind fun os en1 => callF F ios os en1
section
variable {K : PySem.W.Frag} {mg : Str → Option Value} {T : List (Addr × Str)} {W : WX} {G H G' H' : Hp} {σ : St} {en en' : En}
inductive ArgR (K : PySem.W.Frag) (G : Hp) (σ : St) : List (Option D) → List Op → List V → Prop
  | nil : ArgR K G σ [] [] []
  | fz {d : D} {o : Op} {v : V} {dd : List (Option D)} {os : List Op} {vs : List V} : Rep K G d v → ArgR K G σ dd os vs → ArgR K G σ (some d :: dd) (o :: os) (v :: vs)
  | io {i : Nat} {v : V} {dd : List (Option D)} {os : List Op} {vs : List V} : σ[i]? = some (some v) → ArgR K G σ dd os vs → ArgR K G σ (none :: dd) (.slot i :: os) (v :: vs)
theorem frzNon_ok : ∀ {ios : List Bool} {os : List Op} {vs : List V} {en : En} {G : Hp} {dd : List (Option D)} {en' : En}, Rel K T G σ H en → RelOs K G H σ en os vs → frzNon ios os en = some (dd, en') →
    ∃ G', Rel K T G' σ H en' ∧ ArgR K G' σ dd os vs ∧ Fr G H (own σ en) G' H (own σ en') ∧ IoK en en' ∧ Sub G G'
  | [], [], _, en, G, _, _, R, .nil, e => by
    cases Option.some.inj e
    exact ⟨G, R, .nil, Fr.refl, IoK.refl en, Sub.refl G⟩
  | true :: ios, .slot i :: os, _ :: _, en, G, dd, en', R, .cons n h hs, e => by
    obtain ⟨⟨ds, en2⟩, e1, e2⟩ := Option.map_eq_some_iff.mp e
    cases e2
    obtain ⟨G2, R2, r2, f2, i2, s2⟩ := frzNon_ok R hs e1
    exact ⟨G2, R2, .io h r2, f2, i2, s2⟩
  | false :: ios, o :: os, _ :: _, en, G, dd, en', R, .cons n h hs, e => by
    cases q : frz o en with
    | none => simp [frzNon, q] at e
    | some z =>
      obtain ⟨d, en1⟩ := z
      have e : (frzNon ios os en1).map (fun p => (some d :: p.1, p.2)) = some (dd, en') := by simpa [frzNon, q] using e
      obtain ⟨⟨ds, en2⟩, e1, e2⟩ := Option.map_eq_some_iff.mp e
      cases e2
      obtain ⟨G1, R1, r1, f1, i1, s1⟩ := frz_ok R h q
      obtain ⟨G2, R2, r2, f2, i2, s2⟩ := frzNon_ok R1 (hs.later s1) e1
      exact ⟨G2, R2, .fz (r1.mono s2) r2, f1.trans f2, i1.trans i2, s1.trans s2⟩
  | true :: ios, .val d :: os, _ :: _, en, G, dd, en', R, .cons n h hs, e => by
    obtain ⟨⟨ds, en2⟩, e1, e2⟩ := Option.map_eq_some_iff.mp e
    cases e2
    obtain ⟨G2, R2, r2, f2, i2, s2⟩ := frzNon_ok R hs e1
    exact ⟨G2, R2, .fz (h.mono s2) r2, f2, i2, s2⟩
  | true :: _, .fresh _ :: _, _, _, _, _, _, _, _, e => by simp [frzNon] at e
  | [], _ :: _, _, _, _, _, _, _, _, e => by simp [frzNon] at e
  | true :: _, [], _, _, _, _, _, _, _, e => by simp [frzNon] at e
  | false :: _, [], _, _, _, _, _, _, _, e => by simp [frzNon] at e
theorem rel_nil (R : Rel K T G σ H en) : Rel K T G [] H [] := ⟨R.sub, R.gt, R.tabs, R.hf, rfl, fun i s e => by simp at e, fun i j b c d e p e1 => by simp at e1⟩
theorem rel_cons {v : V} {s : Sl} {σ' : St} (R : Rel K T G σ' H en') (hs : SlOk K G H (some (some v)) s) (hd : ∀ b d p, s = .ow b d → v = .ref p → ¬ own σ' en' p) : Rel K T G (some v :: σ') H (s :: en') where
  sub := R.sub
  gt := R.gt
  tabs := R.tabs
  hf := R.hf
  len := by simp [R.len]
  at_ := fun i s' e => by
    cases i with
    | zero => cases Option.some.inj e; exact hs
    | succ i => exact R.at_ i s' (by simpa using e)
  sep := fun i j b c d e p e1 e2 s1 s2 => by
    cases i with
    | zero =>
      cases j with
      | zero => rfl
      | succ j =>
        cases Option.some.inj e1
        cases Option.some.inj s1
        exact absurd ⟨j, c, e, by simpa using e2, by simpa using s2⟩ (hd _ _ _ rfl rfl)
    | succ i =>
      cases j with
      | zero =>
        cases Option.some.inj e2
        cases Option.some.inj s2
        exact absurd ⟨i, b, d, by simpa using e1, by simpa using s1⟩ (hd _ _ _ rfl rfl)
      | succ j => rw [R.sep i j b c d e p (by simpa using e1) (by simpa using e2) (by simpa using s1) (by simpa using s2)]
theorem rel_tail {v : Option V} {s : Sl} {σ' : St} (R : Rel K T G (v :: σ') H (s :: en')) : Rel K T G σ' H en' where
  sub := R.sub
  gt := R.gt
  tabs := R.tabs
  hf := R.hf
  len := by have := R.len; simpa using this
  at_ := fun i s' e => by simpa using R.at_ (i + 1) s' (by simpa using e)
  sep := fun i j b c d e p e1 e2 s1 s2 => by
    have := R.sep (i + 1) (j + 1) b c d e p (by simpa using e1) (by simpa using e2) (by simpa using s1) (by simpa using s2)
    omega
theorem mk_rel (R : Rel K T G σ H en) : ∀ {dd : List (Option D)} {os : List Op} {vs : List V} {sls : List Sl}, ArgR K G σ dd os vs → mkSl dd os en = some sls → ioOk dd os = true →
    Rel K T G (vs.map some) H sls ∧ (∀ p, own (vs.map some) sls p → ∃ i ∈ ioSl dd os, σ[i]? = some (some (.ref p)) ∧ ∃ b d, en[i]? = some (.ow b d)) ∧ sls.all isArg = true
  | _, _, _, sls, .nil, e, _ => by
    cases Option.some.inj e
    exact ⟨rel_nil R, fun p ⟨i, b, d, e1, _⟩ => by simp at e1, rfl⟩
  | _, _, _, sls, .fz (d := d) (v := v) (dd := dd) (os := os) (vs := vs) r hr, e, k => by
    obtain ⟨s1, e1, e2⟩ := Option.map_eq_some_iff.mp (show (mkSl dd os en).map (Sl.fz d :: ·) = some sls from e)
    subst e2
    obtain ⟨R1, o1, a1⟩ := mk_rel R hr e1 (by simpa [ioOk] using k)
    refine ⟨rel_cons R1 ⟨v, rfl, r⟩ (fun b d p z => by cases z), fun p ⟨i, b, d, e1, e2⟩ => ?_, by simp [isArg, a1]⟩
    cases i with
    | zero => cases Option.some.inj e1
    | succ i =>
      obtain ⟨i', hi, h2⟩ := o1 p ⟨i, b, d, by simpa using e1, by simpa using e2⟩
      exact ⟨i', by simpa [ioSl] using hi, h2⟩
  | _, _, _, sls, .io (i := i) (v := v) (dd := dd) (os := os) (vs := vs) r hr, e, k => by
    cases q : en[i]? with
    | none => simp [mkSl, q] at e
    | some s =>
      cases s with
      | un => simp [mkSl, q] at e
      | fz d => simp [mkSl, q] at e
      | ow b d =>
        obtain ⟨s1, e1, e2⟩ := Option.map_eq_some_iff.mp (show (mkSl dd os en).map (Sl.ow true d :: ·) = some sls by simpa [mkSl, q] using e)
        subst e2
        have k' : i ∉ ioSl dd os ∧ ioOk dd os = true := by simpa [ioOk] using k
        obtain ⟨R1, o1, a1⟩ := mk_rel R hr e1 k'.2
        obtain ⟨p0, h1, h2⟩ := R.at_ i _ q
        rw [r] at h1
        cases h1
        have head : ∀ p, own (vs.map some) s1 p → p ≠ p0 := fun p hp z => by
          subst z
          obtain ⟨i', hi, h3, b', d', h4⟩ := o1 _ hp
          have := R.sep i i' b b' d d' p q h4 r h3
          subst this
          exact k'.1 hi
        refine ⟨rel_cons R1 ⟨p0, rfl, h2⟩ (fun b' d' p z z2 hp => by cases z2; exact head _ hp rfl), fun p ⟨j, b', d', e1, e2⟩ => ?_, by simp [isArg, a1]⟩
        cases j with
        | zero =>
          cases Option.some.inj e2
          exact ⟨i, by simp [ioSl], r, b, d, q⟩
        | succ j =>
          obtain ⟨i', hi, h2⟩ := o1 p ⟨j, b', d', by simpa using e1, by simpa using e2⟩
          exact ⟨i', by simp [ioSl, hi], h2⟩
theorem putB_ok : ∀ {dd : List (Option D)} {os : List Op} {vs : List V} {sls outs : List Sl} {en0 en2 en3 : En}, ArgR K G σ dd os vs → mkSl dd os en0 = some sls → ioOk dd os = true → Rel K T G' (vs.map some) H' (back sls outs) → putB dd os outs en2 = some en3 →
    en3.length = en2.length ∧ (∀ i, i ∉ ioSl dd os → en3[i]? = en2[i]?) ∧ (∀ i, i ∈ ioSl dd os → ∃ b d d' p, en2[i]? = some (.ow b d) ∧ en3[i]? = some (.ow b d') ∧ σ[i]? = some (some (.ref p)) ∧ OwnAt K G' H' p d' ∧ own (vs.map some) (back sls outs) p)
  | _, _, _, sls, outs, en0, en2, en3, .nil, _, _, R, e => by
    cases Option.some.inj (show some en2 = some en3 from by cases outs <;> exact e)
    exact ⟨rfl, fun _ _ => rfl, fun i hi => by simp [ioSl] at hi⟩
  | _, _, _, sls, [], en0, en2, en3, .fz _ _, _, _, _, e => by simp [putB] at e
  | _, _, _, sls, [], en0, en2, en3, .io _ _, _, _, _, e => by simp [putB] at e
  | _, _, _, sls, out :: outs, en0, en2, en3, .fz (d := d) (v := v) (dd := dd) (os := os) (vs := vs) r hr, m, k, R, e => by
    obtain ⟨s1, e1, e2⟩ := Option.map_eq_some_iff.mp (show (mkSl dd os en0).map (Sl.fz d :: ·) = some sls from m)
    subst e2
    obtain ⟨l, a, c⟩ := putB_ok hr e1 (by simpa [ioOk] using k) (rel_tail R) (show putB dd os outs en2 = some en3 from e)
    refine ⟨l, fun i hi => a i (by simpa [ioSl] using hi), fun i hi => ?_⟩
    obtain ⟨b, d1, d', p, h1, h2, h3, h4, j, b', d2, h5, h6⟩ := c i (by simpa [ioSl] using hi)
    exact ⟨b, d1, d', p, h1, h2, h3, h4, j + 1, b', d2, by simpa [back] using h5, by simpa using h6⟩
  | _, _, _, sls, out :: outs, en0, en2, en3, .io (i := i) (v := v) (dd := dd) (os := os) (vs := vs) r hr, m, k, R, e => by
    cases q : en0[i]? with
    | none => simp [mkSl, q] at m
    | some s =>
      cases s with
      | un => simp [mkSl, q] at m
      | fz d => simp [mkSl, q] at m
      | ow b d =>
        obtain ⟨s1, e1, e2⟩ := Option.map_eq_some_iff.mp (show (mkSl dd os en0).map (Sl.ow true d :: ·) = some sls by simpa [mkSl, q] using m)
        subst e2
        have k' : i ∉ ioSl dd os ∧ ioOk dd os = true := by simpa [ioOk] using k
        unfold putB at e
        split at e
        · rename_i d' b2 d2 q2
          obtain ⟨l, a, c⟩ := putB_ok hr e1 k'.2 (rel_tail R) e
          have hi : i < en2.length := (List.getElem?_eq_some_iff.mp q2).1
          obtain ⟨p0, h1, h2⟩ := R.at_ 0 (.ow true d') rfl
          have h1 : v = V.ref p0 := by
            have z : some (some v) = some (some (V.ref p0)) := h1
            cases z
            rfl
          subst h1
          refine ⟨by rw [l, List.length_set], fun j hj => ?_, fun j hj => ?_⟩
          · have hj : j ≠ i ∧ j ∉ ioSl dd os := by simpa [ioSl] using hj
            rw [a j hj.2, List.getElem?_set_ne (fun z => hj.1 z.symm)]
          · have hj : j = i ∨ j ∈ ioSl dd os := by simpa [ioSl] using hj
            rcases hj with rfl | hj
            · refine ⟨b2, d2, d', p0, q2, ?_, r, h2, 0, true, d', rfl, rfl⟩
              rw [a _ k'.1, List.getElem?_set_self hi]
            · obtain ⟨b, d1, d3, p, h1, h3, h4, h5, j', b', d4, h6, h7⟩ := c j hj
              have ne : i ≠ j := fun z => k'.1 (z ▸ hj)
              rw [List.getElem?_set_ne ne] at h1
              exact ⟨b, d1, d3, p, h1, h3, h4, h5, j' + 1, b', d4, by simpa [back] using h6, by simpa using h7⟩
        · cases e
/-- behind a call: the caller's state again -/
theorem call_back {dd : List (Option D)} {os : List Op} {vs : List V} {sls outs : List Sl} {en2 en3 : En} {O : Addr → Prop} (R : Rel K T G σ H en2) (ar : ArgR K G σ dd os vs) (m : mkSl dd os en2 = some sls) (k : ioOk dd os = true)
    (R' : Rel K T G' (vs.map some) H' (back sls outs)) (fr : Fr G H (own (vs.map some) sls) G' H' O) (e : putB dd os outs en2 = some en3) :
    Rel K T G' σ H' en3 ∧ (∀ p, own σ en3 p ↔ own σ en2 p) ∧ IoK en2 en3 ∧ (∀ p, own (vs.map some) sls p → own σ en2 p) := by
  obtain ⟨R1, o1, a1⟩ := mk_rel R ar m k
  obtain ⟨l, a, c⟩ := putB_ok ar m k R' e
  have sg : Sub G G' := frsub R1 fr
  have hown2 : ∀ p, own (vs.map some) sls p → own σ en2 p := fun p hp => by
    obtain ⟨i, _, h1, b, d, h2⟩ := o1 p hp
    exact ⟨i, b, d, h2, h1⟩
  have fw : ∀ (i : Nat) (b : Bool) (d : D), en3[i]? = some (.ow b d) → ∃ d0, en2[i]? = some (.ow b d0) := fun i b d e => by
    by_cases hi : i ∈ ioSl dd os
    · obtain ⟨b', d0, d', p, h1, h2, _⟩ := c i hi
      rw [h2] at e
      cases e
      exact ⟨d0, h1⟩
    · rw [a i hi] at e
      exact ⟨d, e⟩
  have bw : ∀ (i : Nat) (b : Bool) (d : D), en2[i]? = some (.ow b d) → ∃ d0, en3[i]? = some (.ow b d0) := fun i b d e => by
    by_cases hi : i ∈ ioSl dd os
    · obtain ⟨b', d0, d', p, h1, h2, _⟩ := c i hi
      rw [h1] at e
      cases e
      exact ⟨d', h2⟩
    · exact ⟨d, by rw [a i hi]; exact e⟩
  refine ⟨⟨R'.sub, R'.gt, R'.tabs, R'.hf, by rw [l]; exact R.len, fun i s e => ?_, fun i j b c' d e p e1 e2 s1 s2 => ?_⟩, fun p => ⟨fun ⟨i, b, d, e1, e2⟩ => ?_, fun ⟨i, b, d, e1, e2⟩ => ?_⟩, fun i d e => bw i true d e, hown2⟩
  · by_cases hi : i ∈ ioSl dd os
    · obtain ⟨b', d0, d', p, h1, h2, h3, h4, _⟩ := c i hi
      rw [h2] at e
      cases e
      exact ⟨p, h3, h4⟩
    · rw [a i hi] at e
      refine (R.at_ i s e).mono sg fun p d b es ex => ?_
      have hw : own σ en2 p := ⟨i, b, d, by rw [e, es], ex⟩
      have no : ¬ own (vs.map some) sls p := fun hp => by
        obtain ⟨i', hi', h1, b', d', h2⟩ := o1 p hp
        have := R.sep i i' b b' d d' p (by rw [e, es]) h2 ex h1
        subst this
        exact hi hi'
      obtain ⟨o, ho, nt⟩ := own_some R hw
      have k := fr.keep p o ho nt no
      refine ⟨by rw [k.2]; exact own_none R hw, fun o' h' => ?_⟩
      rw [ho] at h'
      cases h'
      exact k.1
  · obtain ⟨d1, f1⟩ := fw i b d e1
    obtain ⟨d2, f2⟩ := fw j c' e e2
    exact R.sep i j b c' d1 d2 p f1 f2 s1 s2
  · obtain ⟨d1, f1⟩ := fw i b d e1
    exact ⟨i, b, d1, f1, e2⟩
  · obtain ⟨d1, f1⟩ := bw i b d e1
    exact ⟨i, b, d1, f1, e2⟩
end
section
variable {X : Cx} {T : List (Addr × Str)} {W : WX} {e : Expr} {es : List Expr} {pos p : Pos}
/-- f(e, ..) -/
theorem imp_call {n : Nat} {F : FS} {ios : List Bool} {ga : AF} (hn : ios.length = n) (σ : L2.St) (H : Hp) (Q : VK) (h : tE X.K X.mg T W (eFn F ios ga) σ H Q) :
    tCallS (spF X.K X.mg T n F) (WE W) (tA X.K X.mg T W ga) σ H (fun v H1 => HF X.K H1 → Q v H1) := by
  obtain ⟨G, en, R, p0⟩ := h
  refine ⟨G, en, R, stepLE R p0 fun os en1 vs H1 G1 R1 ros s1 p1 => ?_⟩
  unfold callF at p1
  cases q : frzNon ios os en1 with
  | none =>
    rw [q] at p1
    exact p1.elim
  | some z =>
    obtain ⟨dd, en2⟩ := z
    rw [q] at p1
    have p1 : PostE X.K X.mg T W G1 σ H1 en1 Q (match mkSl dd os en2, ioOk dd os with
      | some sls, true => putR dd os en2 (F sls)
      | _, _ => .stuck) := p1
    obtain ⟨G2, R2, ar, f2, i2, s2⟩ := frzNon_ok R1 ros q
    split at p1
    · rename_i sls m k
      obtain ⟨R3, o3, a3⟩ := mk_rel R2 ar m k
      have hvl : vs.length = n := by
        rw [← hn]
        have : ∀ {ios : List Bool} {os : List Op} {en : En} {z : List (Option D) × En}, frzNon ios os en = some z → ios.length = os.length := by
          intro ios
          induction ios with
          | nil =>
            intro os en z h
            cases os with
            | nil => rfl
            | cons _ _ => simp [frzNon] at h
          | cons b ios ih =>
            intro os en z h
            cases os with
            | nil => cases b <;> simp [frzNon] at h
            | cons o os =>
              cases b with
              | true =>
                cases o with
                | slot i =>
                  obtain ⟨z', e1, _⟩ := Option.map_eq_some_iff.mp (show (frzNon ios os en).map _ = some z from h)
                  simp [ih e1]
                | val d =>
                  obtain ⟨z', e1, _⟩ := Option.map_eq_some_iff.mp (show (frzNon ios os en).map _ = some z from h)
                  simp [ih e1]
                | fresh _ => simp [frzNon] at h
              | false =>
                cases q : frz o en with
                | none => simp [frzNon, q] at h
                | some y =>
                  obtain ⟨z', e1, _⟩ := Option.map_eq_some_iff.mp (show (frzNon ios os y.2).map (fun p => (some y.1 :: p.1, p.2)) = some z by simpa [frzNon, q] using h)
                  simp [ih e1]
        rw [this q]
        have : ∀ {os : List Op} {vs : List V}, RelOs X.K G1 H1 σ en1 os vs → vs.length = os.length := by
          intro os vs h
          induction h with
          | nil => rfl
          | cons _ _ _ ih => simp [ih]
        exact this ros
      refine ⟨G2, sls, hvl, R3, a3, ?_⟩
      unfold putR at p1
      cases qF : F sls with
      | stuck =>
        rw [qF] at p1
        exact p1.elim
      | exc c pl outs =>
        rw [qF] at p1
        intro H' G' C d hm R' fr io po
        have p1 : PostE X.K X.mg T W G1 σ H1 en1 Q (match putB dd os outs en2 with
          | some en3 => Res.exc c pl en3
          | none => .stuck) := p1
        cases qb : putB dd os outs en2 with
        | none =>
          rw [qb] at p1
          exact p1.elim
        | some en3 =>
          rw [qb] at p1
          obtain ⟨R4, o4, i4, o5⟩ := call_back R2 ar m k R' fr qb
          have fB : Fr G2 H1 (own σ en2) G' H' (own σ en3) := ⟨fun b o h n no => fr.keep b o h n fun z => no (o5 b z), fun q z => .inl ((o4 q).mp z)⟩
          exact p1 H' G' C d hm R4 (f2.trans fB) (i2.trans i4) po
      | ok fr0 d outs =>
        rw [qF] at p1
        intro v H' G' R' ro fr io _
        have p1 : PostE X.K X.mg T W G1 σ H1 en1 Q (match putB dd os outs en2 with
          | some en3 => Res.ok (opOf fr0 d) en3
          | none => .stuck) := p1
        cases qb : putB dd os outs en2 with
        | none =>
          rw [qb] at p1
          exact p1.elim
        | some en3 =>
          rw [qb] at p1
          obtain ⟨R4, o4, i4, o5⟩ := call_back R2 ar m k R' fr qb
          have fB : Fr G2 H1 (own σ en2) G' H' (fun q => own σ en3 q ∨ (fr0 = true ∧ v = .ref q)) := ⟨fun b o h n no => fr.keep b o h n fun z => no (o5 b z), fun q z => z.elim (fun z => .inl ((o4 q).mp z)) fun z => (fr.new q (.inr z)).imp (o5 q) id⟩
          cases fr0 with
          | false => exact p1 v H' G' R4 ro ((f2.trans fB).weak fun q z => z.elim .inl fun z => z.elim) (i2.trans i4)
          | true =>
            rw [if_pos rfl] at ro
            obtain ⟨a, rfl, oa, no⟩ := ro
            refine p1 (.ref a) H' G' R4 ⟨a, rfl, oa, fun z => ?_⟩ ((f2.trans fB).weak fun q z => z.elim .inl fun z => .inr ⟨rfl, z⟩) (i2.trans i4)
            have w := (o4 a).mp z
            rcases fr.new a (.inr ⟨rfl, rfl⟩) with z | z
            · -- the callee's own ones come back
              obtain ⟨j, b, d1, e1, e2⟩ := z
              have hb := arg_io a3 e1
              subst hb
              obtain ⟨d', e'⟩ := io j d1 e1
              exact no ⟨j, true, d', e', e2⟩
            · obtain ⟨o, ho, nt⟩ := own_some R2 w
              exact hn_no z ho nt
    · exact p1.elim
theorem de_call {k n : Nat} {f : Addr} {fd : FuncData} {ps : List Str} {x : Str} {F : FS} {ios : List Bool} {ga : AF} (FO : FnOk X.prog X.w X.K X.mg X.base (L2N.CX X.prog X.w) k f fd ps (spF X.K X.mg T n F)) (hr : Room k X.A) (hg : Gl X x) (hm : X.mg x = some (.ref f)) (hk : PySem.W.keepIn X.K (.ref f) = true)
    (hb : Binds X.K fd ps []) (tk : L2N.Takes X W) (ha : DA X T W (e :: es) ga) (hn : ios.length = n := by rfl) (hdb : (x == ("__debug__" : Str)) = false := by decide) (he : starEach (e :: es) X.env = (false, eval e X.env) :: starEach es X.env := by rfl) (hpl : (backTo pos (starEach es X.env)).any (·.1) = false := by rfl) :
    DE X T W (.Call (.Name x p) (e :: es) [] pos) (eFn F ios ga) :=
  pe_of (pe_callS FO hr hg hm hk hb (fun σ => L2N.passAt tk σ) ha hdb he hpl) fun σ H Q _ h => imp_call hn σ H Q h
/-- nothing comes out -/
theorem passN {X : Cx} : Passes (L2N.CX X.prog X.w) X (fun _ _ _ => False) := fun _ _ _ _ _ _ _ ⟨_, _, _, _, _, _, _, _, _, _, _, _, h⟩ => h.elim
/-- f(), nothing raised -/
theorem de_call0 {k : Nat} {f : Addr} {fd : FuncData} {ps : List Str} {x : Str} {F : FS} (FO : FnOk X.prog X.w X.K X.mg X.base (L2N.CX X.prog X.w) k f fd ps (spF X.K X.mg T 0 F)) (hr : Room k X.A) (hg : Gl X x) (hm : X.mg x = some (.ref f)) (hk : PySem.W.keepIn X.K (.ref f) = true)
    (hb : Binds X.K fd ps []) (hF : ∃ fr d outs, F [] = .ok fr d outs) (hdb : (x == ("__debug__" : Str)) = false := by decide) :
    DE X T W (.Call (.Name x p) [] [] pos) (eFn F [] aNil) :=
  pe_of (pe_call0 FO hr hg hm hk hb .nil passN hdb) fun σ H Q _ ⟨G, en, R, p0⟩ => by
    obtain ⟨fr, d, outs, eF⟩ := hF
    have h : tCallS (spF X.K X.mg T 0 F) (WE W) (tA X.K X.mg T W aNil) σ H (fun v H1 => HF X.K H1 → Q v H1) := imp_call rfl σ H Q ⟨G, en, R, p0⟩
    refine ⟨G, [], rfl, rel_nil R, rfl, ?_⟩
    rw [eF]
    have p0 : PostE X.K X.mg T W G σ H en Q (putR [] [] en (F [])) := p0
    rw [eF] at p0
    intro v H' G' R' ro fr' io hf
    obtain ⟨R4, o4, i4, o5⟩ := call_back (dd := []) (os := []) (vs := []) (sls := []) (outs := outs) (en3 := en) R .nil rfl rfl R' fr' (by cases outs <;> rfl)
    have fB : Fr G H (own σ en) G' H' (fun q => own σ en q ∨ (fr = true ∧ v = .ref q)) := ⟨fun b o h n no => fr'.keep b o h n fun z => no (o5 b z), fun q z => z.elim .inl fun z => (fr'.new q (.inr z)).imp (o5 q) id⟩
    have p0 : okE X.K T G σ H en Q (opOf fr d) en := by cases outs <;> exact p0
    cases fr with
    | false => exact p0 v H' G' R4 ro (fB.weak fun q z => z.elim .inl fun z => z.elim) (IoK.refl en)
    | true =>
      rw [if_pos rfl] at ro
      obtain ⟨a, rfl, oa, no⟩ := ro
      refine p0 (.ref a) H' G' R4 ⟨a, rfl, oa, fun z => ?_⟩ (fB.weak fun q z => z.elim .inl fun z => .inr ⟨rfl, z⟩) (IoK.refl en)
      rcases fr'.new a (.inr ⟨rfl, rfl⟩) with ⟨j, b, d1, e1, _⟩ | w
      · simp at e1
      · obtain ⟨o, ho, nt⟩ := own_some R z
        exact hn_no w ho nt
end
end PF
namespace PF
open PySem PySem.Spec PyProof.Rows L2 HT
/-! ## operators on data -/
def rCatL (K : PySem.W.Frag) : R2 := fun x y H Q => ∃ l b xs zs, x = .ref l ∧ y = .ref b ∧ SqL K H l xs ∧ SqL K H b zs ∧ xs.length + zs.length ≤ sizeLine ∧ ∀ p, H p = none → Q (.ref p) (upd H p (.lst (xs ++ zs)))
section
variable {X : Cx}
theorem op_catL : OpR X (binaryOp .Add) (rCatL X.K) := by
  intro pins s σ H x y v u Q I rx ry h
  obtain ⟨l, b, xs, zs, rfl, rfl, hH, hB, hz, q⟩ := h
  cases rx
  cases ry
  obtain ⟨its, r, ⟨⟨cls, dd, dt, sl⟩, n, e, c, d, f⟩, z⟩ := I.list hH
  obtain ⟨its2, r2, ⟨⟨cls2, dd2, dt2, sl2⟩, n2, e2, c2, d2, f2⟩, z2⟩ := I.list hB
  simp only at c d f c2 d2 f2
  subst c d f c2 d2 f2
  have l1 := r.length
  have l2 := r2.length
  refine concat_meets ⟨_, e, rfl⟩ ⟨_, e2, rfl⟩ noFill_list_add seq_list_add PySem.F.slot_list_add PySem.F.entry_list_add (PySem.F.args_list_add_2 _ _)
    (list_addW l b its.toArray its2.toArray n n2 none none sl sl2 (by rw [List.size_toArray, List.size_toArray]; omega)) ⟨e, e2, ?_⟩
  have ea : its.toArray ++ its2.toArray = (its ++ its2).toArray := by simp
  rw [ea]
  exact ⟨.ref _, _, I.lnew (t' := s.toks) (r.append r2) (by rw [List.length_append]; omega), rfl, q _ I.fresh⟩
end
/-- + -/
def gAdd : D → D → Option Op
  | .int i, .int j => some (.val (.int (i + j)))
  | .str x, .str y => if x.length + y.length ≤ SZ then some (.val (.str (x ++ y))) else none
  | .tup xs, .tup ys => if xs.length + ys.length ≤ SZ then some (.val (.tup (xs ++ ys))) else none
  | .lst xs, .lst ys => if xs.length + ys.length ≤ SZ then some (.fresh (.lst (xs ++ ys))) else none
  | _, _ => none
def rAdd (K : PySem.W.Frag) : R2 := fun x y H Q => (rI0 (fun i j => .int (i + j)) x y H Q) ∨ (∃ i j, x = .str i ∧ y = .str j ∧ i.length + j.length ≤ sizeLine ∧ Q (.str (i ++ j)) H) ∨ rCatA K x y H Q ∨ rCatL K x y H Q
theorem op_addX {X : Cx} : OpR X (binaryOp .Add) (rAdd X.K) := op_add.or (op_add_str.or (op_catA.or op_catL))
theorem ite_some {α : Type} {c : Prop} [Decidable c] {a b : α} (h : (if c then some a else none) = some b) : c ∧ a = b := by
  split at h
  · exact ⟨by assumption, Option.some.inj h⟩
  · cases h
theorem gAdd_ok {K : PySem.W.Frag} : OpOk2 K (rAdd K) gAdd := by
  intro G H d1 d2 v1 v2 o Q s hf h1 h2 e k
  cases d1 <;> cases d2 <;> try (cases e; done)
  case int.int i j =>
    cases repV_int h1; cases repV_int h2
    cases Option.some.inj e
    exact .inl ⟨i, j, rfl, rfl, k _ _ (.same (.int _))⟩
  case str.str x y =>
    cases repV_str h1; cases repV_str h2
    obtain ⟨c, rfl⟩ := ite_some e
    exact .inr (.inl ⟨x, y, rfl, rfl, by rw [sz_eq]; exact c, k _ _ (.same (.str _))⟩)
  case tup.tup xs ys =>
    obtain ⟨c, rfl⟩ := ite_some e
    obtain ⟨p, us, rfl, hp, rl⟩ := repV_tup s h1
    obtain ⟨q, ws, rfl, hq, rl2⟩ := repV_tup s h2
    have e1 := rl.len
    have e2 := rl2.len
    have gp : ∀ {d v}, RepV K G H (.tup d) v → Rep K G (.tup d) v := fun h => by
      rcases h with h | ⟨p, _, _, o, _, h2⟩
      · exact h
      · cases h2
    refine .inr (.inr (.inl ⟨p, q, us, ws, rfl, rfl, hp, hq, by rw [sz_eq]; omega, fun z => ?_, fun z z2 => ?_, fun z z2 p' hp' => ?_⟩))
    · subst z
      cases rl
      exact k _ _ (.same (gp h2))
    · subst z2
      cases rl2
      rw [List.append_nil] at k
      exact k _ _ (.same (gp h1))
    · exact k _ _ (.newv hp' (fun ps z => by cases z) (.tup upd_same ((rl.app rl2).mono (Sub.new (s.none hp')))))
  case lst.lst xs ys =>
    obtain ⟨c, rfl⟩ := ite_some e
    obtain ⟨p, us, rfl, hp, rl⟩ := repV_lst s h1
    obtain ⟨q, ws, rfl, hq, rl2⟩ := repV_lst s h2
    have e1 := rl.len
    have e2 := rl2.len
    exact .inr (.inr (.inr ⟨p, q, us, ws, rfl, rfl, hp, hq, by rw [sz_eq]; omega, fun p' hp' => k _ _ (.newf hp' (.lst (rl.app rl2)))⟩))
/-- an operator of ints -/
def gI (c : Int → Int → Bool) (f : Int → Int → D) : D → D → Option Op
  | .int i, .int j => if c i j then some (.val (f i j)) else none
  | _, _ => none
theorem gI_ok {K : PySem.W.Frag} {C : Int → Int → Prop} {F : Int → Int → V} {c : Int → Int → Bool} {f : Int → Int → D} (hc : ∀ i j, c i j = true → C i j) (hf : ∀ G i j, Rep K G (f i j) (F i j)) : OpOk2 K (rI C F) (gI c f) := by
  intro G H d1 d2 v1 v2 o Q s _ h1 h2 e k
  cases d1 <;> cases d2 <;> try (cases e; done)
  cases repV_int h1; cases repV_int h2
  obtain ⟨c, rfl⟩ := ite_some e
  exact ⟨_, _, rfl, rfl, hc _ _ c, k _ _ (.same (hf G _ _))⟩
theorem gI0_ok {K : PySem.W.Frag} {F : Int → Int → V} {f : Int → Int → D} (hf : ∀ G i j, Rep K G (f i j) (F i j)) : OpOk2 K (rI0 F) (gI (fun _ _ => true) f) := by
  intro G H d1 d2 v1 v2 o Q s _ h1 h2 e k
  cases d1 <;> cases d2 <;> try (cases e; done)
  cases repV_int h1; cases repV_int h2
  cases Option.some.inj (show some _ = some o from e)
  exact ⟨_, _, rfl, rfl, k _ _ (.same (hf G _ _))⟩
def gSub := gI (fun _ _ => true) fun i j => .int (i - j)
theorem gSub_ok {K : PySem.W.Frag} : OpOk2 K (rI0 fun i j => .int (i - j)) gSub := gI0_ok fun _ _ _ => .int _
def bMul (i j : Int) : Bool := decide (i.natAbs < 2 ^ 64) || decide (j.natAbs < 2 ^ 64)
def gMul := gI bMul fun i j => .int (i * j)
theorem gMul_ok {K : PySem.W.Frag} : OpOk2 K (rI CMul fun i j => .int (i * j)) gMul := gI_ok (fun i j h => by
  unfold bMul at h
  rcases Bool.or_eq_true_iff.mp h with h | h
  · have h := of_decide_eq_true h
    exact .inl (by omega)
  · have h := of_decide_eq_true h
    exact .inr (by omega)) fun _ _ _ => .int _
def bDiv (_ j : Int) : Bool := decide (0 < j) && decide (j ≤ 10 ^ 40)
def gDiv := gI bDiv fun i j => .int (i / j)
theorem gDiv_ok {K : PySem.W.Frag} : OpOk2 K (rI CDivW fun i j => .int (i / j)) gDiv := gI_ok (fun i j h => by
  unfold bDiv at h
  obtain ⟨h1, h2⟩ := Bool.and_eq_true_iff.mp h
  have h1 := of_decide_eq_true h1
  have h2 := of_decide_eq_true h2
  refine wide_div (b := 136) h1 ?_ (by omega) (by omega)
  have : (10 : Int) ^ 40 < 2 ^ 136 := by decide
  have e : ((j.natAbs : Nat) : Int) = j := Int.natAbs_of_nonneg (by omega)
  have : ((j.natAbs : Nat) : Int) < ((2 ^ 136 : Nat) : Int) := by rw [e]; omega
  exact Int.ofNat_lt.mp this) fun _ _ _ => .int _
def gMod := gI (fun _ j => decide (0 < j)) fun i j => .int (i % j)
theorem gMod_ok {K : PySem.W.Frag} : OpOk2 K (rI (fun _ j => 0 < j) fun i j => .int (i % j)) gMod := gI_ok (fun i j h => of_decide_eq_true h) fun _ _ _ => .int _
def gPow := gI (fun i j => decide (0 ≤ j) && decide (j ≤ 1000000) && decide (i.natAbs < 2 ^ 64)) fun i j => .int (i ^ j.toNat)
theorem gPow_ok {K : PySem.W.Frag} : OpOk2 K (rI CPow fun i j => .int (i ^ j.toNat)) gPow := gI_ok (fun i j h => by
  simp only [Bool.and_eq_true, decide_eq_true_eq] at h
  exact ⟨h.1.1, h.1.2, h.2⟩) fun _ _ _ => .int _
def gLt := gI (fun _ _ => true) fun i j => .bl (decide (i < j))
def gLe := gI (fun _ _ => true) fun i j => .bl (decide (i ≤ j))
def gGt := gI (fun _ _ => true) fun i j => .bl (decide (j < i))
def gGe := gI (fun _ _ => true) fun i j => .bl (decide (j ≤ i))
theorem gLt_ok {K : PySem.W.Frag} : OpOk2 K (rI0 fun i j => .bl (decide (i < j))) gLt := gI0_ok fun _ _ _ => .bl _
theorem gLe_ok {K : PySem.W.Frag} : OpOk2 K (rI0 fun i j => .bl (decide (i ≤ j))) gLe := gI0_ok fun _ _ _ => .bl _
theorem gGt_ok {K : PySem.W.Frag} : OpOk2 K (rI0 fun i j => .bl (decide (j < i))) gGt := gI0_ok fun _ _ _ => .bl _
theorem gGe_ok {K : PySem.W.Frag} : OpOk2 K (rI0 fun i j => .bl (decide (j ≤ i))) gGe := gI0_ok fun _ _ _ => .bl _
/-! ### == of data -/
mutual
def toPy : D → Option PyData
  | .non => some .none
  | .bl b => some (.bool b)
  | .int i => some (.int i)
  | .str x => some (.str x)
  | .tup ds => match toPys ds with
    | some ps => some (.tuple ps)
    | none => none
  | .kt ds => match toPys ds with
    | some ps => some (.tuple ps)
    | none => none
  | .lst ds => match toPys ds with
    | some ps => some (.list ps)
    | none => none
  | _ => none
def toPys : List D → Option (List PyData)
  | [] => some []
  | d :: ds => match toPy d, toPys ds with
    | some p, some ps => some (p :: ps)
    | _, _ => none
end
section
variable {K : PySem.W.Frag} {G H : Hp}
mutual
theorem rep_dp (s : Sub G H) : ∀ {d : D} {v : V} {p : PyData}, Rep K G d v → toPy d = some p → Dp K H v p
  | .non, _, p, h, e => by
    cases h
    simp [toPy] at e
    subst e
    exact .non
  | .bl b, _, p, h, e => by
    cases h
    simp [toPy] at e
    subst e
    exact .bl b
  | .int b, _, p, h, e => by
    cases h
    simp [toPy] at e
    subst e
    exact .int b
  | .str b, _, p, h, e => by
    cases h
    simp [toPy] at e
    subst e
    exact .str b
  | .tup ds, _, p, h, e => by
    cases h with
    | tup a b =>
      rw [toPy] at e
      cases q : toPys ds with
      | none => rw [q] at e; cases e
      | some ps =>
        rw [q] at e
        cases Option.some.inj e
        exact .tup (SqT.of (s _ _ a)) (repL_dp s b q)
  | .kt ds, _, p, h, e => by
    cases h with
    | kt a b =>
      rw [toPy] at e
      cases q : toPys ds with
      | none => rw [q] at e; cases e
      | some ps =>
        rw [q] at e
        cases Option.some.inj e
        exact .tup (s.t a) (repL_dp s b q)
  | .lst ds, _, p, h, e => by
    cases h with
    | lst a b =>
      rw [toPy] at e
      cases q : toPys ds with
      | none => rw [q] at e; cases e
      | some ps =>
        rw [q] at e
        cases Option.some.inj e
        exact .lst (s.l a) (repL_dp s b q)
  | .dK _, _, p, h, e => by simp [toPy] at e
  | .dT _, _, p, h, e => by simp [toPy] at e
  | .ob _ _, _, p, h, e => by simp [toPy] at e
  | .vv _, _, p, h, e => by simp [toPy] at e
theorem repL_dp (s : Sub G H) : ∀ {ds : List D} {vs : List V} {ps : List PyData}, RepL K G ds vs → toPys ds = some ps → DpAll K H vs ps
  | [], _, ps, h, e => by
    cases h
    simp [toPys] at e
    subst e
    exact .nil
  | d :: ds, _, ps, h, e => by
    cases h with
    | cons a b =>
      rw [toPys] at e
      cases q : toPy d with
      | none => rw [q] at e; cases e
      | some p =>
        cases q2 : toPys ds with
        | none => rw [q, q2] at e; cases e
        | some ps' =>
          rw [q, q2] at e
          cases Option.some.inj e
          exact .cons (rep_dp s a q) (repL_dp s b q2)
end
theorem repV_dp (s : Sub G H) {d : D} {v : V} {p : PyData} (h : RepV K G H d v) (e : toPy d = some p) : Dp K H v p := by
  rcases h with h | ⟨a, rfl, _, o, h1, h2⟩
  · exact rep_dp s h e
  · cases h2 with
    | lst r =>
      rename_i ds xs
      rw [toPy] at e
      cases q : toPys ds with
      | none => rw [q] at e; cases e
      | some ps =>
        rw [q] at e
        cases Option.some.inj e
        exact .lst (SqL.of h1) (repL_dp s r q)
    | dK r => simp [toPy] at e
    | dT r => simp [toPy] at e
    | ob r => simp [toPy] at e
end
def gEqB (f : Bool → Bool) (d1 d2 : D) : Option Op := match toPy d1, toPy d2 with
  | some p, some q => if SeqAt.shaped p && SeqAt.shaped q then some (.val (.bl (f (PyData.eqv p q)))) else none
  | _, _ => none
def gEq := gEqB id
def gNe := gEqB not
theorem gEqB_pick {f : Bool → Bool} {d1 d2 : D} {o : Op} (e : gEqB f d1 d2 = some o) : ∃ p q, toPy d1 = some p ∧ toPy d2 = some q ∧ SeqAt.shaped p = true ∧ SeqAt.shaped q = true ∧ o = .val (.bl (f (PyData.eqv p q))) := by
  unfold gEqB at e
  cases q1 : toPy d1 with
  | none => rw [q1] at e; cases e
  | some p =>
    cases q2 : toPy d2 with
    | none => rw [q1, q2] at e; cases e
    | some q =>
      rw [q1, q2] at e
      obtain ⟨c, rfl⟩ := ite_some e
      obtain ⟨a, b⟩ := Bool.and_eq_true_iff.mp c
      exact ⟨p, q, rfl, rfl, a, b, rfl⟩
theorem gEq_ok {K : PySem.W.Frag} : OpOk2 K (rEqD K) gEq := by
  intro G H d1 d2 v1 v2 o Q s hf h1 h2 e k
  obtain ⟨p, q, e1, e2, s1, s2, rfl⟩ := gEqB_pick e
  exact ⟨p, q, repV_dp s h1 e1, repV_dp s h2 e2, s1, s2, k _ _ (.same (.bl _))⟩
theorem gNe_ok {K : PySem.W.Frag} : OpOk2 K (rNeD K) gNe := by
  intro G H d1 d2 v1 v2 o Q s hf h1 h2 e k
  obtain ⟨p, q, e1, e2, s1, s2, rfl⟩ := gEqB_pick e
  exact ⟨p, q, repV_dp s h1 e1, repV_dp s h2 e2, s1, s2, k _ _ (.same (.bl _))⟩
/-! ### is -/
def gIsB (f : Bool → Bool) : D → D → Option Op
  | .non, .non => some (.val (.bl (f true)))
  | .bl _, .non => some (.val (.bl (f false)))
  | .int _, .non => some (.val (.bl (f false)))
  | .str _, .non => some (.val (.bl (f false)))
  | .tup _, .non => some (.val (.bl (f false)))
  | .lst _, .non => some (.val (.bl (f false)))
  | .dK _, .non => some (.val (.bl (f false)))
  | .ob _ _, .non => some (.val (.bl (f false)))
  | .bl a, .bl b => some (.val (.bl (f (decide (a = b)))))
  | _, _ => none
def gIs := gIsB id
def gIsNot := gIsB not
def rIsX : R2 := fun x y H Q => (y = .non ∧ Q (.bl (decide (x = .non))) H) ∨ rIsB x y H Q
def rIsNotX : R2 := fun x y H Q => (y = .non ∧ Q (.bl (!decide (x = .non))) H) ∨ rNotB x y H Q
theorem op_isX {X : Cx} : OpR X (compareOp .Is) rIsX := op_isN.or op_isBl
theorem op_isNotX {X : Cx} : OpR X (compareOp .IsNot) rIsNotX := op_notN.or op_notBl
theorem rep_non {K : PySem.W.Frag} {G H : Hp} {d : D} (hd : ∀ v, d ≠ .vv v) (h : RepV K G H d .non) : d = .non := by
  rcases h with h | ⟨p, e, _⟩
  · cases h with
    | non => rfl
    | vv => exact absurd rfl (hd _)
  · cases e
theorem gIsB_pick {f : Bool → Bool} {d1 d2 : D} {o : Op} (e : gIsB f d1 d2 = some o) : (d2 = .non ∧ (∀ v, d1 ≠ .vv v) ∧ ((d1 = .non ∧ o = .val (.bl (f true))) ∨ (d1 ≠ .non ∧ o = .val (.bl (f false))))) ∨ ∃ a b, d1 = .bl a ∧ d2 = .bl b ∧ o = .val (.bl (f (decide (a = b)))) := by
  cases d1 <;> cases d2 <;> first
    | (cases e; done)
    | (cases Option.some.inj e
       first
         | exact .inr ⟨_, _, rfl, rfl, rfl⟩
         | exact .inl ⟨rfl, (fun v z => by cases z), .inl ⟨rfl, rfl⟩⟩
         | exact .inl ⟨rfl, (fun v z => by cases z), .inr ⟨(fun z => by cases z), rfl⟩⟩)
theorem gIs_ok {K : PySem.W.Frag} : OpOk2 K rIsX gIs := by
  intro G H d1 d2 v1 v2 o Q s hf h1 h2 e k
  rcases gIsB_pick e with ⟨rfl, nv, h⟩ | ⟨a, b, rfl, rfl, rfl⟩
  · cases repV_non h2
    rcases h with ⟨rfl, rfl⟩ | ⟨hn, rfl⟩
    · cases repV_non h1
      exact .inl ⟨rfl, by rw [decide_eq_true rfl]; exact k _ _ (.same (.bl _))⟩
    · have : v1 ≠ .non := fun z => hn (rep_non nv (z ▸ h1))
      exact .inl ⟨rfl, by rw [decide_eq_false this]; exact k _ _ (.same (.bl _))⟩
  · cases repV_bl h1
    cases repV_bl h2
    exact .inr ⟨a, b, rfl, rfl, k _ _ (.same (.bl _))⟩
theorem gIsNot_ok {K : PySem.W.Frag} : OpOk2 K rIsNotX gIsNot := by
  intro G H d1 d2 v1 v2 o Q s hf h1 h2 e k
  rcases gIsB_pick e with ⟨rfl, nv, h⟩ | ⟨a, b, rfl, rfl, rfl⟩
  · cases repV_non h2
    rcases h with ⟨rfl, rfl⟩ | ⟨hn, rfl⟩
    · cases repV_non h1
      exact .inl ⟨rfl, by rw [decide_eq_true rfl]; exact k _ _ (.same (.bl _))⟩
    · have : v1 ≠ .non := fun z => hn (rep_non nv (z ▸ h1))
      exact .inl ⟨rfl, by rw [decide_eq_false this]; exact k _ _ (.same (.bl _))⟩
  · cases repV_bl h1
    cases repV_bl h2
    exact .inr ⟨a, b, rfl, rfl, k _ _ (.same (.bl _))⟩
/-! ### in -/
def rInT (K : PySem.W.Frag) : R2 := fun x y H Q => ∃ d ds, Dp K H x d ∧ Dp K H y (.tuple ds) ∧ SeqAt.shaped d = true ∧ SeqAt.shaped (.tuple ds) = true ∧ Q (.bl (ds.any fun z => PyData.eqv z d)) H
def rNotInT (K : PySem.W.Frag) : R2 := fun x y H Q => ∃ d ds, Dp K H x d ∧ Dp K H y (.tuple ds) ∧ SeqAt.shaped d = true ∧ SeqAt.shaped (.tuple ds) = true ∧ Q (.bl (!ds.any fun z => PyData.eqv z d)) H
section
variable {X : Cx}
theorem op_inT (hu : X.A.units + 65 < cLine) : OpR X (compareOp .In) (rInT X.K) := by
  intro pins s σ H x y v u Q I rx ry h
  obtain ⟨d, ds, hd, he, sd, se, q⟩ := h
  obtain ⟨as, r1⟩ := Dp.reads I d x v hd rx
  obtain ⟨bs, r2⟩ := Dp.reads I (.tuple ds) y u he ry
  exact SeqAt.in_tuple_reads r2 r1 (SeqAt.canLay_of_shaped se) (SeqAt.canLay_of_shaped sd) (room_in_shaped sd hu) ⟨.bl _, H, I, rfl, q⟩
theorem op_notInT (hu : X.A.units + 65 < cLine) : OpR X (compareOp .NotIn) (rNotInT X.K) := by
  intro pins s σ H x y v u Q I rx ry h
  obtain ⟨d, ds, hd, he, sd, se, q⟩ := h
  obtain ⟨as, r1⟩ := Dp.reads I d x v hd rx
  obtain ⟨bs, r2⟩ := Dp.reads I (.tuple ds) y u he ry
  exact SeqAt.notIn_tuple_reads r2 r1 (SeqAt.canLay_of_shaped se) (SeqAt.canLay_of_shaped sd) (room_in_shaped sd hu) ⟨.bl _, H, I, rfl, q⟩
def rInX (K : PySem.W.Frag) : R2 := fun x y H Q => rInD K x y H Q ∨ rInT K x y H Q
def rNotInX (K : PySem.W.Frag) : R2 := fun x y H Q => rNotInD K x y H Q ∨ rNotInT K x y H Q
theorem op_inX (hu : X.A.units + 65 < cLine) : OpR X (compareOp .In) (rInX X.K) := (op_inD hu).or (op_inT hu)
theorem op_notInX (hu : X.A.units + 65 < cLine) : OpR X (compareOp .NotIn) (rNotInX X.K) := (op_notInD hu).or (op_notInT hu)
end
def gInB (f : Bool → Bool) (d1 d2 : D) : Option Op := match toPy d1, toPy d2 with
  | some p, some (.list qs) => if SeqAt.shaped p && SeqAt.shaped (.list qs) then some (.val (.bl (f (qs.any fun z => PyData.eqv z p)))) else none
  | some p, some (.tuple qs) => if SeqAt.shaped p && SeqAt.shaped (.tuple qs) then some (.val (.bl (f (qs.any fun z => PyData.eqv z p)))) else none
  | _, _ => none
def gIn := gInB id
def gNotIn := gInB not
theorem gInB_pick {f : Bool → Bool} {d1 d2 : D} {o : Op} (e : gInB f d1 d2 = some o) : ∃ p qs, toPy d1 = some p ∧ SeqAt.shaped p = true ∧ o = .val (.bl (f (qs.any fun z => PyData.eqv z p))) ∧ ((toPy d2 = some (.list qs) ∧ SeqAt.shaped (.list qs) = true) ∨ (toPy d2 = some (.tuple qs) ∧ SeqAt.shaped (.tuple qs) = true)) := by
  unfold gInB at e
  split at e
  · rename_i p qs q1 q2
    obtain ⟨c, rfl⟩ := ite_some e
    obtain ⟨a, b⟩ := Bool.and_eq_true_iff.mp c
    exact ⟨p, qs, q1, a, rfl, .inl ⟨q2, b⟩⟩
  · rename_i p qs q1 q2
    obtain ⟨c, rfl⟩ := ite_some e
    obtain ⟨a, b⟩ := Bool.and_eq_true_iff.mp c
    exact ⟨p, qs, q1, a, rfl, .inr ⟨q2, b⟩⟩
  · cases e
theorem gIn_ok {K : PySem.W.Frag} : OpOk2 K (rInX K) gIn := by
  intro G H d1 d2 v1 v2 o Q s hf h1 h2 e k
  obtain ⟨p, qs, e1, s1, rfl, h⟩ := gInB_pick e
  rcases h with ⟨e2, s2⟩ | ⟨e2, s2⟩
  · exact .inl ⟨p, qs, repV_dp s h1 e1, repV_dp s h2 e2, s1, s2, k _ _ (.same (.bl _))⟩
  · exact .inr ⟨p, qs, repV_dp s h1 e1, repV_dp s h2 e2, s1, s2, k _ _ (.same (.bl _))⟩
theorem gNotIn_ok {K : PySem.W.Frag} : OpOk2 K (rNotInX K) gNotIn := by
  intro G H d1 d2 v1 v2 o Q s hf h1 h2 e k
  obtain ⟨p, qs, e1, s1, rfl, h⟩ := gInB_pick e
  rcases h with ⟨e2, s2⟩ | ⟨e2, s2⟩
  · exact .inl ⟨p, qs, repV_dp s h1 e1, repV_dp s h2 e2, s1, s2, k _ _ (.same (.bl _))⟩
  · exact .inr ⟨p, qs, repV_dp s h1 e1, repV_dp s h2 e2, s1, s2, k _ _ (.same (.bl _))⟩
/-! ### subscripts -/
def gIx : D → D → Option Op
  | .lst ds, .int i => (atI ds i).map Op.val
  | .tup ds, .int i => (atI ds i).map Op.val
  | _, _ => none
theorem RepL.atI {K : PySem.W.Frag} {G : Hp} {ds : List D} {vs : List V} (h : RepL K G ds vs) {i : Int} {d : D} (e : L2.atI ds i = some d) : ∃ v, L2.atI vs i = some v ∧ Rep K G d v := by
  unfold L2.atI at e ⊢
  rw [← h.len]
  obtain ⟨j, e1, e2⟩ := Option.bind_eq_some_iff.mp e
  obtain ⟨v, h1, h2⟩ := h.get e2
  exact ⟨v, by rw [e1]; exact h1, h2⟩
theorem gIx_ok {K : PySem.W.Frag} : OpOk2 K (rIx K) gIx := by
  intro G H d1 d2 v1 v2 o Q s hf h1 h2 e k
  cases d1 <;> cases d2 <;> try (cases e; done)
  case lst.int ds i =>
    cases repV_int h2
    obtain ⟨d, e1, rfl⟩ := Option.map_eq_some_iff.mp e
    obtain ⟨p, us, rfl, hp, rl⟩ := repV_lst s h1
    obtain ⟨v, h3, h4⟩ := rl.atI e1
    exact .inl ⟨p, us, i, v, rfl, rfl, hp, h3, k _ _ (.same h4)⟩
  case tup.int ds i =>
    cases repV_int h2
    obtain ⟨d, e1, rfl⟩ := Option.map_eq_some_iff.mp e
    obtain ⟨p, us, rfl, hp, rl⟩ := repV_tup s h1
    obtain ⟨v, h3, h4⟩ := rl.atI e1
    exact .inr (.inl ⟨p, us, i, v, rfl, rfl, hp, h3, k _ _ (.same h4)⟩)
def cutD (xs : List D) (lo hi : Option Int) : List D := (xs.drop (HT.sIx xs.length 0 lo)).take (HT.sIx xs.length xs.length hi - HT.sIx xs.length 0 lo)
def rSlX (K : PySem.W.Frag) : V → Option Int → Option Int → Hp → VK → Prop := fun x lo hi H Q => rSlL K x lo hi H Q ∨ rSlA K x lo hi H Q
theorem sl_X {X : Cx} : SlR X (rSlX X.K) := sl_list.or sl_tupA
def gSl : D → Option Int → Option Int → Option Op
  | .lst ds, lo, hi => some (.fresh (.lst (cutD ds lo hi)))
  | .tup ds, lo, hi => some (.val (.tup (cutD ds lo hi)))
  | _, _, _ => none
theorem cut_rep {K : PySem.W.Frag} {G : Hp} {ds : List D} {vs : List V} (h : RepL K G ds vs) (lo hi : Option Int) : RepL K G (cutD ds lo hi) (cutV vs lo hi) := by
  unfold cutD cutV
  rw [h.len]
  exact (h.drop _).take _
theorem gSl_ok {K : PySem.W.Frag} : SlOkR K (rSlX K) gSl := by
  intro G H d v lo hi o Q s hf h1 e k
  cases d <;> try (cases e; done)
  case lst ds =>
    cases Option.some.inj e
    obtain ⟨p, us, rfl, hp, rl⟩ := repV_lst s h1
    exact .inl ⟨p, us, rfl, hp, fun p' hp' => k _ _ (.newf hp' (.lst (cut_rep rl lo hi)))⟩
  case tup ds =>
    cases Option.some.inj e
    obtain ⟨p, us, rfl, hp, rl⟩ := repV_tup s h1
    refine .inr ⟨p, us, rfl, hp, fun ⟨w1, w2⟩ => ?_, fun _ p' hp' => k _ _ (.newv hp' (fun ps z => by cases z) (.tup upd_same ((cut_rep rl lo hi).mono (Sub.new (s.none hp')))))⟩
    have : cutD ds lo hi = ds := by
      unfold cutD
      rw [rl.len, w1, w2, List.drop_zero, Nat.sub_zero, ← rl.len, List.take_length]
    rw [this] at k
    rcases h1 with h1 | ⟨_, _, _, o, _, h2⟩
    · exact k _ _ (.same h1)
    · cases h2
/-! ### calls of built-in functions -/
theorem reps1 {K : PySem.W.Frag} {G H : Hp} {d : D} {vs : List V} (h : RepVs K G H [d] vs) : ∃ v, vs = [v] ∧ RepV K G H d v := by
  cases h with
  | cons a b => cases b; exact ⟨_, rfl, a⟩
theorem reps2 {K : PySem.W.Frag} {G H : Hp} {d e : D} {vs : List V} (h : RepVs K G H [d, e] vs) : ∃ v w, vs = [v, w] ∧ RepV K G H d v ∧ RepV K G H e w := by
  cases h with
  | cons a b =>
    obtain ⟨w, rfl, h⟩ := reps1 b
    exact ⟨_, w, rfl, a, h⟩
def gLen : List D → Option Op
  | [.lst ds] => some (.val (.int ds.length))
  | [.tup ds] => some (.val (.int ds.length))
  | [.dK ds] => some (.val (.int ds.length))
  | [.str x] => if x.length ≤ SZ then some (.val (.int x.length)) else none
  | _ => none
def rLenX (K : PySem.W.Frag) : List V → Hp → VK → Prop := fun xs H Q => (∃ x n, xs = [x] ∧ LenV K x H n ∧ Q (.int n) H) ∨ (∃ a kvs, xs = [V.ref a] ∧ H a = some (.dK kvs) ∧ Q (.int kvs.length) H)
theorem RepK.len {K : PySem.W.Frag} {G : Hp} {ds : List (Key × D)} {vs : List (Key × V)} (h : RepK K G ds vs) : ds.length = vs.length := by
  match h with
  | .nil => rfl
  | .cons _ r => simp [RepK.len r]
theorem gLen_ok {K : PySem.W.Frag} : CallOk K (rLenX K) gLen := by
  intro G H ds vs o Q s hf h e k
  unfold gLen at e
  split at e
  · cases Option.some.inj e
    replace h := reps1 h
    obtain ⟨v, rfl, h⟩ := h
    obtain ⟨p, us, rfl, hp, rl⟩ := repV_lst s h
    exact .inl ⟨_, us.length, rfl, .inl ⟨us, hp, rfl⟩, by rw [← rl.len]; exact k _ _ (.same (.int _))⟩
  · cases Option.some.inj e
    replace h := reps1 h
    obtain ⟨v, rfl, h⟩ := h
    obtain ⟨p, us, rfl, hp, rl⟩ := repV_tup s h
    exact .inl ⟨_, us.length, rfl, .inr ⟨us, hp, rfl⟩, by rw [← rl.len]; exact k _ _ (.same (.int _))⟩
  · cases Option.some.inj e
    replace h := reps1 h
    obtain ⟨v, rfl, h⟩ := h
    obtain ⟨p, us, rfl, hp, rl⟩ := repV_dK s h
    exact .inr ⟨_, us, rfl, hp, by rw [← rl.len]; exact k _ _ (.same (.int _))⟩
  · obtain ⟨c, rfl⟩ := ite_some e
    replace h := reps1 h
    obtain ⟨v, rfl, h⟩ := h
    cases repV_str h
    exact .inl ⟨_, _, rfl, ⟨by rw [sz_eq]; exact c, rfl⟩, k _ _ (.same (.int _))⟩
  · cases e
def gMax2 : List D → Option Op
  | [.int i, .int j] => some (.val (.int (max i j)))
  | _ => none
def gMin2 : List D → Option Op
  | [.int i, .int j] => some (.val (.int (min i j)))
  | _ => none
theorem gMax2_ok {K : PySem.W.Frag} : CallOk K (fun xs H Q => ∃ i j, xs = [.int i, .int j] ∧ Q (.int (if j > i then j else i)) H) gMax2 := by
  intro G H ds vs o Q s hf h e k
  unfold gMax2 at e
  split at e
  · rename_i i j
    cases Option.some.inj e
    obtain ⟨v, w, rfl, h1, h2⟩ := reps2 h
    cases repV_int h1
    cases repV_int h2
    refine ⟨i, j, rfl, ?_⟩
    have : (if j > i then j else i) = max i j := by split <;> omega
    rw [this]
    exact k _ _ (.same (.int _))
  · cases e
theorem gMin2_ok {K : PySem.W.Frag} : CallOk K (fun xs H Q => ∃ i j, xs = [.int i, .int j] ∧ Q (.int (if j < i then j else i)) H) gMin2 := by
  intro G H ds vs o Q s hf h e k
  unfold gMin2 at e
  split at e
  · rename_i i j
    cases Option.some.inj e
    obtain ⟨v, w, rfl, h1, h2⟩ := reps2 h
    cases repV_int h1
    cases repV_int h2
    refine ⟨i, j, rfl, ?_⟩
    have : (if j < i then j else i) = min i j := by split <;> omega
    rw [this]
    exact k _ _ (.same (.int _))
  · cases e
/-- lists of ints, of bools -/
def toInts : List D → Option (List Int)
  | [] => some []
  | .int i :: ds => (toInts ds).map (i :: ·)
  | _ :: _ => none
def toBls : List D → Option (List Bool)
  | [] => some []
  | .bl i :: ds => (toBls ds).map (i :: ·)
  | _ :: _ => none
theorem toInts_eq : ∀ {ds : List D} {ns : List Int}, toInts ds = some ns → ds = ns.map D.int
  | [], ns, e => by cases Option.some.inj e; rfl
  | .int i :: ds, ns, e => by
    obtain ⟨ms, e1, rfl⟩ := Option.map_eq_some_iff.mp e
    rw [toInts_eq e1]
    rfl
  | .non :: _, _, e => by cases e
  | .bl _ :: _, _, e => by cases e
  | .str _ :: _, _, e => by cases e
  | .tup _ :: _, _, e => by cases e
  | .lst _ :: _, _, e => by cases e
  | .dK _ :: _, _, e => by cases e
  | .dT _ :: _, _, e => by cases e
  | .ob _ _ :: _, _, e => by cases e
  | .vv _ :: _, _, e => by cases e
theorem toBls_eq : ∀ {ds : List D} {ns : List Bool}, toBls ds = some ns → ds = ns.map D.bl
  | [], ns, e => by cases Option.some.inj e; rfl
  | .bl i :: ds, ns, e => by
    obtain ⟨ms, e1, rfl⟩ := Option.map_eq_some_iff.mp e
    rw [toBls_eq e1]
    rfl
  | .non :: _, _, e => by cases e
  | .int _ :: _, _, e => by cases e
  | .str _ :: _, _, e => by cases e
  | .tup _ :: _, _, e => by cases e
  | .lst _ :: _, _, e => by cases e
  | .dK _ :: _, _, e => by cases e
  | .dT _ :: _, _, e => by cases e
  | .ob _ _ :: _, _, e => by cases e
  | .vv _ :: _, _, e => by cases e
def onBls (f : List Bool → D) : List D → Option Op
  | [.lst ds] => (toBls ds).map fun bs => .val (f bs)
  | _ => none
def onInts (f : List Int → Option D) : List D → Option Op
  | [.lst ds] => (toInts ds).bind fun bs => (f bs).map Op.val
  | _ => none
def gAll := onBls fun bs => .bl (bs.all id)
def gAny := onBls fun bs => .bl (bs.any id)
def gSum := onInts fun ns => some (.int ns.sum)
theorem gAll_ok {K : PySem.W.Frag} : CallOk K (rAll K) gAll := by
  intro G H ds vs o Q s hf h e k
  unfold gAll onBls at e
  split at e
  · obtain ⟨bs, e1, rfl⟩ := Option.map_eq_some_iff.mp e
    cases toBls_eq e1
    replace h := reps1 h
    obtain ⟨v, rfl, h⟩ := h
    obtain ⟨p, us, rfl, hp, rl⟩ := repV_lst s h
    cases rl.bls
    exact ⟨p, bs, rfl, hp, k _ _ (.same (.bl _))⟩
  · cases e
theorem gAny_ok {K : PySem.W.Frag} : CallOk K (rAny K) gAny := by
  intro G H ds vs o Q s hf h e k
  unfold gAny onBls at e
  split at e
  · obtain ⟨bs, e1, rfl⟩ := Option.map_eq_some_iff.mp e
    cases toBls_eq e1
    replace h := reps1 h
    obtain ⟨v, rfl, h⟩ := h
    obtain ⟨p, us, rfl, hp, rl⟩ := repV_lst s h
    cases rl.bls
    exact ⟨p, bs, rfl, hp, k _ _ (.same (.bl _))⟩
  · cases e
theorem gSum_ok {K : PySem.W.Frag} : CallOk K (rSum K) gSum := by
  intro G H ds vs o Q s hf h e k
  unfold gSum onInts at e
  split at e
  · obtain ⟨bs, e1, e2⟩ := Option.bind_eq_some_iff.mp e
    cases Option.some.inj e2
    cases toInts_eq e1
    replace h := reps1 h
    obtain ⟨v, rfl, h⟩ := h
    obtain ⟨p, us, rfl, hp, rl⟩ := repV_lst s h
    cases rl.ints
    exact ⟨p, bs, rfl, hp, k _ _ (.same (.int _))⟩
  · cases e
/-- the greatest, the least -/
def maxI : List Int → Option D
  | [] => none
  | n :: ns => some (.int (ns.foldl max n))
def minI : List Int → Option D
  | [] => none
  | n :: ns => some (.int (ns.foldl min n))
def gMax := onInts maxI
def gMin := onInts minI
theorem foldl_max : ∀ (ns : List Int) (n : Int), (ns.foldl max n = n ∨ ns.foldl max n ∈ ns) ∧ n ≤ ns.foldl max n ∧ ∀ y ∈ ns, y ≤ ns.foldl max n
  | [], n => ⟨.inl rfl, Int.le_refl _, fun y hy => by simp at hy⟩
  | m :: ns, n => by
    obtain ⟨h1, h2, h3⟩ := foldl_max ns (max n m)
    rw [List.foldl_cons]
    refine ⟨?_, by omega, fun y hy => ?_⟩
    · rcases h1 with h1 | h1
      · rw [h1]
        by_cases h : n ≤ m
        · rw [Int.max_eq_right h]; exact .inr (by simp)
        · rw [Int.max_eq_left (by omega)]; exact .inl rfl
      · exact .inr (by simp [h1])
    · rcases List.mem_cons.mp hy with rfl | hy
      · omega
      · exact h3 y hy
theorem foldl_min : ∀ (ns : List Int) (n : Int), (ns.foldl min n = n ∨ ns.foldl min n ∈ ns) ∧ ns.foldl min n ≤ n ∧ ∀ y ∈ ns, ns.foldl min n ≤ y
  | [], n => ⟨.inl rfl, Int.le_refl _, fun y hy => by simp at hy⟩
  | m :: ns, n => by
    obtain ⟨h1, h2, h3⟩ := foldl_min ns (min n m)
    rw [List.foldl_cons]
    refine ⟨?_, by omega, fun y hy => ?_⟩
    · rcases h1 with h1 | h1
      · rw [h1]
        by_cases h : n ≤ m
        · rw [Int.min_eq_left h]; exact .inl rfl
        · rw [Int.min_eq_right (by omega)]; exact .inr (by simp)
      · exact .inr (by simp [h1])
    · rcases List.mem_cons.mp hy with rfl | hy
      · omega
      · exact h3 y hy
theorem gMax_ok {K : PySem.W.Frag} : CallOk K (rMax K) gMax := by
  intro G H ds vs o Q s hf h e k
  unfold gMax onInts at e
  split at e
  · obtain ⟨bs, e1, e2⟩ := Option.bind_eq_some_iff.mp e
    cases toInts_eq e1
    replace h := reps1 h
    obtain ⟨v, rfl, h⟩ := h
    obtain ⟨p, us, rfl, hp, rl⟩ := repV_lst s h
    cases rl.ints
    cases bs with
    | nil => cases e2
    | cons n ns =>
      cases Option.some.inj e2
      refine ⟨p, n :: ns, rfl, hp, by simp, fun m hm hy => ?_⟩
      obtain ⟨h1, h2, h3⟩ := foldl_max ns n
      have a : ns.foldl max n ≤ m := hy _ (by rcases h1 with h1 | h1; rw [h1]; simp; simp [h1])
      have b : m ≤ ns.foldl max n := by
        rcases List.mem_cons.mp hm with rfl | hm
        · exact h2
        · exact h3 m hm
      rw [Int.le_antisymm b a]
      exact k _ _ (.same (.int _))
  · cases e
theorem gMin_ok {K : PySem.W.Frag} : CallOk K (rMin K) gMin := by
  intro G H ds vs o Q s hf h e k
  unfold gMin onInts at e
  split at e
  · obtain ⟨bs, e1, e2⟩ := Option.bind_eq_some_iff.mp e
    cases toInts_eq e1
    replace h := reps1 h
    obtain ⟨v, rfl, h⟩ := h
    obtain ⟨p, us, rfl, hp, rl⟩ := repV_lst s h
    cases rl.ints
    cases bs with
    | nil => cases e2
    | cons n ns =>
      cases Option.some.inj e2
      refine ⟨p, n :: ns, rfl, hp, by simp, fun m hm hy => ?_⟩
      obtain ⟨h1, h2, h3⟩ := foldl_min ns n
      have a : m ≤ ns.foldl min n := hy _ (by rcases h1 with h1 | h1; rw [h1]; simp; simp [h1])
      have b : ns.foldl min n ≤ m := by
        rcases List.mem_cons.mp hm with rfl | hm
        · exact h2
        · exact h3 m hm
      rw [Int.le_antisymm a b]
      exact k _ _ (.same (.int _))
  · cases e
/-- int(), str(int), list(), tuple() -/
def gInt : List D → Option Op
  | [.int i] => some (.val (.int i))
  | [.bl b] => some (.val (.int (if b then 1 else 0)))
  | _ => none
theorem gInt_ok {K : PySem.W.Frag} : CallOk K (fun xs H Q => (∃ i, xs = [.int i] ∧ Q (.int i) H) ∨ ∃ k, xs = [.bl k] ∧ Q (.int (if k then 1 else 0)) H) gInt := by
  intro G H ds vs o Q s hf h e k
  unfold gInt at e
  split at e
  · cases Option.some.inj e
    replace h := reps1 h
    obtain ⟨v, rfl, h⟩ := h
    cases repV_int h
    exact .inl ⟨_, rfl, k _ _ (.same (.int _))⟩
  · cases Option.some.inj e
    replace h := reps1 h
    obtain ⟨v, rfl, h⟩ := h
    cases repV_bl h
    exact .inr ⟨_, rfl, k _ _ (.same (.int _))⟩
  · cases e
def gStrI : List D → Option Op
  | [.int i] => if i.natAbs.log2 < 1920 then some (.val (.str (toString i))) else none
  | _ => none
theorem gStrI_ok {K : PySem.W.Frag} : CallOk K (fun xs H Q => ∃ i, xs = [.int i] ∧ i.natAbs.log2 < 1920 ∧ Q (.str (toString i)) H) gStrI := by
  intro G H ds vs o Q s hf h e k
  unfold gStrI at e
  split at e
  · obtain ⟨c, rfl⟩ := ite_some e
    replace h := reps1 h
    obtain ⟨v, rfl, h⟩ := h
    cases repV_int h
    exact ⟨_, rfl, c, k _ _ (.same (.str _))⟩
  · cases e
def gList : List D → Option Op
  | [.lst ds] => some (.fresh (.lst ds))
  | [.tup ds] => some (.fresh (.lst ds))
  | [.kt ds] => some (.fresh (.lst ds))
  | _ => none
theorem gList_ok {K : PySem.W.Frag} : CallOk K (fun xs H Q => ∃ p ys, xs = [.ref p] ∧ (SqL K H p ys ∨ SqT K H p ys) ∧ ∀ l, H l = none → Q (.ref l) (upd H l (.lst ys))) gList := by
  intro G H ds vs o Q s hf h e k
  unfold gList at e
  split at e
  · cases Option.some.inj e
    replace h := reps1 h
    obtain ⟨v, rfl, h⟩ := h
    obtain ⟨p, us, rfl, hp, rl⟩ := repV_lst s h
    exact ⟨p, us, rfl, .inl hp, fun p' hp' => k _ _ (.newf hp' (.lst rl))⟩
  · cases Option.some.inj e
    replace h := reps1 h
    obtain ⟨v, rfl, h⟩ := h
    obtain ⟨p, us, rfl, hp, rl⟩ := repV_tup s h
    exact ⟨p, us, rfl, .inr hp, fun p' hp' => k _ _ (.newf hp' (.lst rl))⟩
  · cases Option.some.inj e
    replace h := reps1 h
    obtain ⟨v, rfl, h⟩ := h
    obtain ⟨p, us, rfl, hp, rl⟩ := repV_kt s h
    exact ⟨p, us, rfl, .inr hp, fun p' hp' => k _ _ (.newf hp' (.lst rl))⟩
  · cases e
def gTuple : List D → Option Op
  | [.lst ds] => some (.val (.tup ds))
  | [.tup ds] => some (.val (.tup ds))
  | _ => none
theorem gTuple_ok {K : PySem.W.Frag} : CallOk K (fun xs H Q => ∃ p ys, xs = [.ref p] ∧ ((SqL K H p ys ∧ ∀ l, H l = none → Q (.ref l) (upd H l (.tup ys))) ∨ (SqT K H p ys ∧ Q (.ref p) H))) gTuple := by
  intro G H ds vs o Q s hf h e k
  unfold gTuple at e
  split at e
  · cases Option.some.inj e
    replace h := reps1 h
    obtain ⟨v, rfl, h⟩ := h
    obtain ⟨p, us, rfl, hp, rl⟩ := repV_lst s h
    exact ⟨p, us, rfl, .inl ⟨hp, fun p' hp' => k _ _ (.newv hp' (fun ps z => by cases z) (.tup upd_same (rl.mono (Sub.new (s.none hp')))))⟩⟩
  · cases Option.some.inj e
    replace h := reps1 h
    obtain ⟨v, rfl, h⟩ := h
    obtain ⟨p, us, rfl, hp, rl⟩ := repV_tup s h
    refine ⟨p, us, rfl, .inr ⟨hp, ?_⟩⟩
    rcases h with h | ⟨_, _, _, o, _, h2⟩
    · exact k _ _ (.same h)
    · cases h2
  · cases e
/-- -x -/
def gNeg : D → Option Op
  | .int i => some (.val (.int (-i)))
  | _ => none
theorem gNeg_ok {K : PySem.W.Frag} : OpOk1 K (rU fun i => .int (-i)) gNeg := by
  intro G H d v o Q s hf h e k
  cases d <;> try (cases e; done)
  cases Option.some.inj e
  cases repV_int h
  exact ⟨_, rfl, k _ _ (.same (.int _))⟩
end PF
namespace PF
open PySem PySem.Spec PyProof.Rows L2
/-! ## own objects are written -/
def sApp (i : Nat) (f : EF) : SF := fun en => match en[i]? with
  | some (.ow _ (.lst _)) => (settle (f en)).bind fun o en1 => match frz o en1 with
    | some (d, en2) => match en2[i]? with
      | some (.ow b (.lst ds)) => if ds.length < SZ then .ok .nx (en2.set i (.ow b (.lst (ds ++ [d])))) else .stuck
      | _ => .stuck
    | none => .stuck
  | _ => .stuck
def stI (i : Nat) (d dk : D) (en : En) : SR := match en[i]?, dk with
  | some (.ow b (.lst ds)), .int k => match ixN ds.length k with
    | some j => .ok .nx (en.set i (.ow b (.lst (ds.set j d))))
    | none => .stuck
  | _, _ => .stuck
def sStI (i : Nat) (f g : EF) : SF := fun en => (settle (f en)).bind fun o en1 => match frz o en1 with
  | some (d, en2) => match en2[i]? with
    | some (.ow _ _) => (settle (g en2)).bind fun o' en3 => match view o' en3 with
      | some dk => stI i d dk en3
      | none => .stuck
    | _ => .stuck
  | none => .stuck
section
variable {K : PySem.W.Frag} {mg : Str → Option Value} {T : List (Addr × Str)} {W : WX} {G H G' H' : Hp} {σ : St} {en en' : En}
theorem Rel.put {i : Nat} {b : Bool} {d d' : D} {p : Addr} {u : HO} (R : Rel K T G σ H en) (e : en[i]? = some (.ow b d)) (x : σ[i]? = some (some (.ref p))) (r : RepO K G d' u) (hf : HF K (upd H p u)) :
    Rel K T G σ (upd H p u) (en.set i (.ow b d')) ∧ Fr G H (own σ en) G (upd H p u) (own σ (en.set i (.ow b d'))) ∧ IoK en (en.set i (.ow b d')) := by
  obtain ⟨p', h1, hg, o, ho, ro⟩ := R.at_ i _ e
  rw [x] at h1
  cases h1
  have hw : own σ en p := ⟨i, b, d, e, x⟩
  have bk : ∀ {j : Nat} {c : Bool} {y : D}, (en.set i (.ow b d'))[j]? = some (.ow c y) → ∃ y', en[j]? = some (.ow c y') := fun {j c y} h => by
    rcases getset h with ⟨z, w⟩ | ⟨_, z⟩
    · subst z
      cases w
      exact ⟨d, e⟩
    · exact ⟨y, z⟩
  refine ⟨⟨fun a w q => ?_, R.gt, tabs_mut R.tabs ho ro.notb ro.noext, hf, by rw [List.length_set]; exact R.len, fun j s q => ?_, fun j k c c' y y' q e1 e2 s1 s2 => ?_⟩, ⟨fun a w q n no => ?_, fun q ⟨j, c, y, e1, e2⟩ => ?_⟩, fun j y q => ?_⟩
  · have ne : a ≠ p := fun z => by rw [z, hg] at q; cases q
    rw [upd_ne ne]
    exact R.sub a w q
  · rcases getset q with ⟨z, rfl⟩ | ⟨z, q0⟩
    · subst z
      exact ⟨p, x, hg, u, upd_same, r⟩
    · refine (R.at_ j s q0).mono (Sub.refl G) fun p' y c es ex => ?_
      have ne : p' ≠ p := fun hz => z (R.sep j i c b y d p (by rw [q0, es]) e (by rw [ex, hz]) x)
      exact ⟨own_none R ⟨j, c, y, by rw [q0, es], ex⟩, fun o' h' => by rw [upd_ne ne]; exact h'⟩
  · obtain ⟨_, f1⟩ := bk e1
    obtain ⟨_, f2⟩ := bk e2
    exact R.sep j k c c' _ _ q f1 f2 s1 s2
  · have ne : a ≠ p := fun z => no (z ▸ hw)
    rw [upd_ne ne]
    exact ⟨q, rfl⟩
  · obtain ⟨y', f⟩ := bk e1
    exact .inl ⟨j, c, y', f, e2⟩
  · by_cases hj : j = i
    · subst hj
      rw [e] at q
      cases q
      exact ⟨d', List.getElem?_set_self (List.getElem?_eq_some_iff.mp e).1⟩
    · exact ⟨y, by rw [List.getElem?_set_ne (fun z => hj z.symm)]; exact q⟩
end
section
variable {X : Cx} {T : List (Addr × Str)} {W : WX} {f g : EF} {st : Stmt} {i : Nat}
theorem ds_app (h : PS X st (tDrop (tBM X.K "list" rAppend (tVar i) (tCons (tE X.K X.mg T W fun en => settle (f en)) tNil)))) : DS X T W st (sApp i f) :=
  ps_of h fun σ H D _ ⟨G, en, R, p⟩ => by
    unfold sApp at p
    split at p
    · rename_i b0 ds0 e0
      obtain ⟨q, x, hg, o, ho, ro⟩ := R.at_ i _ e0
      cases ro with
      | lst rl =>
        refine ⟨.ref q, x, .inl ⟨rfl, _, SqL.of ho⟩, G, en, R, stepS R p fun o en1 v H1 G1 R1 ro n1 s1 p1 => ?_⟩
        cases qf : frz o en1 with
        | none =>
          rw [qf] at p1
          exact p1.elim
        | some z =>
          obtain ⟨d, en2⟩ := z
          rw [qf] at p1
          obtain ⟨G2, R2, rd, f2, io2, s2⟩ := frz_ok R1 ro qf
          dsimp only at p1
          split at p1
          · rename_i b ds e2
            split at p1
            · rename_i hl
              obtain ⟨q', x', hg', o', ho', ro'⟩ := R2.at_ i _ e2
              rw [x] at x'
              cases x'
              cases ro' with
              | lst rl' =>
                rename_i xs
                have hl' : xs.length < SZ := by rw [← rl'.len]; exact hl
                have hu : (xs ++ [v]).length ≤ sizeLine := by rw [sz_eq, List.length_append]; simp only [List.length_singleton]; omega
                refine ⟨q, xs, v, rfl, rfl, ho', by rw [sz_eq]; exact hl', fun hf => ?_⟩
                obtain ⟨R3, f3, i3⟩ := R2.put e2 x (.lst (rl'.app (.cons rd .nil))) (R2.hf.lst hu)
                exact p1 σ _ G2 R3 (f2.trans f3) (io2.trans i3).s
            · exact p1.elim
          · exact p1.elim
    · exact p.elim
theorem ds_stI (h : PS X st (tAsg (tE X.K X.mg T W fun en => settle (f en)) (L2.gSub (tVar i) (tE X.K X.mg T W fun en => settle (g en)) rSetL))) : DS X T W st (sStI i f g) :=
  ps_of h fun σ H D _ ⟨G, en, R, p⟩ => by
    refine ⟨G, en, R, stepS R p fun o en1 v H1 G1 R1 ro n1 s1 p1 => ?_⟩
    cases qf : frz o en1 with
    | none =>
      rw [qf] at p1
      exact p1.elim
    | some z =>
      obtain ⟨d, en2⟩ := z
      rw [qf] at p1
      obtain ⟨G2, R2, rd, f2, io2, s2⟩ := frz_ok R1 ro qf
      have p2 : PostS X.K X.mg T W G2 σ H1 en2 D (match en2[i]? with
        | some (.ow _ _) => (settle (g en2)).bind fun o' en3 => match view o' en3 with
          | some dk => stI i d dk en3
          | none => .stuck
        | _ => .stuck) := postS_sh f2 io2.s p1
      split at p2
      · rename_i b0 d0 e0
        obtain ⟨q, x, _⟩ := R2.at_ i _ e0
        refine ⟨.ref q, x, G2, en2, R2, stepS R2 p2 fun o' en3 v3 H3 G3 R3 ro3 n3 s3 p3 => ?_⟩
        cases qv : view o' en3 with
        | none =>
          rw [qv] at p3
          exact p3.elim
        | some dk =>
          rw [qv] at p3
          have rv := view_ok R3 ro3 qv
          replace p3 : PostS X.K X.mg T W G3 σ H3 en3 D (stI i d dk en3) := p3
          unfold stI at p3
          split at p3
          · rename_i b ds k e3
            split at p3
            · rename_i j hj
              cases repV_int rv
              obtain ⟨q', x', hg', o', ho', ro'⟩ := R3.at_ i _ e3
              rw [x] at x'
              cases x'
              cases ro' with
              | lst rl' =>
                rename_i xs
                refine ⟨q, xs, k, j, rfl, rfl, ho', by rw [← rl'.len]; exact hj, fun hf => ?_⟩
                obtain ⟨R4, f4, i4⟩ := R3.put e3 x (.lst (rl'.set (rd.mono s3) j)) hf
                exact p3 σ _ G3 R4 f4 i4.s
            · exact p3.elim
          · exact p3.elim
      · exact p2.elim
end
end PF
namespace PF
open PySem PySem.Spec PyProof.Rows L2
/-! ## raise -/
def sRaise (c : Str) : SF := fun en => .exc c none en
theorem ds_raise {X : Cx} {T : List (Addr × Str)} {W : WX} {st : Stmt} {c : Str} {C : Addr} (hm : X.mg c = some (.ref C)) (h : PS X st (fun _ σ H => W (.ref C) none σ H)) : DS X T W st (sRaise c) :=
  ps_of h fun σ H D _ ⟨G, en, R, p⟩ => p σ H G C none hm R Fr.refl (IoS.refl σ en) rfl
/-! ## isinstance -/
def tyIx : D → Option Nat
  | .int _ => some 0
  | .bl _ => some 1
  | .str _ => some 2
  | .lst _ => some 3
  | .tup _ => some 4
  | .kt _ => some 4
  | .dK _ => some 5
  | .dT _ => some 5
  | .non => some 6
  | _ => none
def tyNm : List String := ["int", "bool", "str", "list", "tuple", "dict", "NoneType"]
def nmIx (n : String) : Option Nat := (["int", "bool", "str", "list", "tuple", "dict"] : List String).idxOf? n
def isTyN (t n : Nat) : Bool := t == n || (t == 1 && n == 0)
theorem kitB_table : (["int", "bool", "str", "list", "tuple", "dict", "NoneType"] : List String).zipIdx.all (fun t => (["int", "bool", "str", "list", "tuple", "dict"] : List String).zipIdx.all fun n => decide (kitB t.1 n.1 = some (isTyN t.2 n.2))) = true := by decide +kernel
def isTyD (n : String) (d : D) : Option Bool := match tyIx d, nmIx n with
  | some t, some k => some (isTyN t k)
  | _, _ => none
def anyTy (x : D) : List D → Option Bool
  | [] => some false
  | .vv (.ty n) :: cs => match isTyD n x, anyTy x cs with
    | some true, some _ => some true
    | some false, some b => some b
    | _, _ => none
  | _ :: _ => none
def gIsi : List D → Option Op
  | [x, .vv (.ty n)] => (isTyD n x).map fun b => .val (.bl b)
  | [x, .tup cs] => if (tyIx x).isSome then (anyTy x cs).map fun b => .val (.bl b) else none
  | _ => none
theorem idxOf_get {l : List String} {n : String} {k : Nat} (h : l.idxOf? n = some k) : (n, k) ∈ l.zipIdx := by
  rw [List.idxOf?, List.findIdx?_eq_some_iff_findIdx_eq] at h
  obtain ⟨hl, e⟩ := h
  have e2 : (l.findIdx (· == n)) < l.length := by omega
  have g := List.findIdx_getElem (w := e2)
  subst e
  have : l[List.findIdx (· == n) l] = n := by simpa using g
  rw [List.mem_zipIdx_iff_getElem?]
  show l[List.findIdx (· == n) l]? = some n
  rw [List.getElem?_eq_getElem e2, this]
theorem kit_at {t n : String} {i k : Nat} (ht : (t, i) ∈ (["int", "bool", "str", "list", "tuple", "dict", "NoneType"] : List String).zipIdx) (hn : nmIx n = some k) : kitB t n = some (isTyN i k) := by
  have h := List.all_eq_true.mp kitB_table _ ht
  have h := List.all_eq_true.mp h _ (idxOf_get hn)
  exact of_decide_eq_true h
theorem rep_tyX {K : PySem.W.Frag} {G H : Hp} {d : D} {v : V} {i : Nat} (s : Sub G H) (h : RepV K G H d v) (e : tyIx d = some i) : ∃ t, TyX K H v (.type t) ∧ (t, i) ∈ (["int", "bool", "str", "list", "tuple", "dict", "NoneType"] : List String).zipIdx := by
  cases d with
  | non => cases repV_non h; cases e; exact ⟨_, .base .non, by decide +kernel⟩
  | bl b => cases repV_bl h; cases e; exact ⟨_, .base (.bl b), by decide +kernel⟩
  | int b => cases repV_int h; cases e; exact ⟨_, .base (.int b), by decide +kernel⟩
  | str b => cases repV_str h; cases e; exact ⟨_, .base (.str b), by decide +kernel⟩
  | tup ds =>
    cases e
    obtain ⟨p, xs, rfl, hp, _⟩ := repV_tup s h
    rcases hp with (hp | ⟨o, hp⟩) | ⟨o, its, n, hk, hc, _⟩
    · exact ⟨_, .base (.tup hp), by decide +kernel⟩
    · exact ⟨_, .fTuple hp, by decide +kernel⟩
    · exact ⟨_, .kTuple hk hc, by decide +kernel⟩
  | lst ds =>
    cases e
    obtain ⟨p, xs, rfl, hp, _⟩ := repV_lst s h
    rcases hp with (hp | ⟨o, hp⟩) | ⟨o, its, n, hk, hc, _⟩
    · exact ⟨_, .base (.lst hp), by decide +kernel⟩
    · exact ⟨_, .base (.frz hp), by decide +kernel⟩
    · exact ⟨_, .kList hk hc, by decide +kernel⟩
  | dK ds =>
    cases e
    obtain ⟨p, xs, rfl, hp, _⟩ := repV_dK s h
    exact ⟨_, .base (.dK hp), by decide +kernel⟩
  | dT ds =>
    cases e
    obtain ⟨p, xs, rfl, hp, _⟩ := repV_dT s h
    exact ⟨_, .base (.dT hp), by decide +kernel⟩
  | ob C fs => cases e
  | vv v => cases e
  | kt ds =>
    cases e
    obtain ⟨p, xs, rfl, hp, _⟩ := repV_kt s h
    rcases hp with (hp | ⟨o, hp⟩) | ⟨o, its, n, hk, hc, _⟩
    · exact ⟨_, .base (.tup hp), by decide +kernel⟩
    · exact ⟨_, .fTuple hp, by decide +kernel⟩
    · exact ⟨_, .kTuple hk hc, by decide +kernel⟩
def rIsiS (K : PySem.W.Frag) : List V → Hp → VK → Prop := fun xs H Q => ∃ (x : V) (tp : Addr) (cs : List V) (t : Value) (us : List Value) (b : Bool), xs = [x, .ref tp] ∧ SqT K H tp cs ∧ Paired ClsV cs us ∧ TyX K H x t ∧ PySem.W.kitAny K t us = some b ∧ Q (.bl b) H
theorem call_isiS {X : Cx} : CallR X (.builtin "isinstance") (rIsiS X.K) := by
  intro pins s σ H xs us Q I r h
  obtain ⟨x, tp, cs, t, ws, b, rfl, hT, k, ty, e, q⟩ := h
  obtain ⟨u1, u2, rfl, r1, r2⟩ := vals2 r
  cases (show u2 = Value.ref tp from r2)
  obtain ⟨P, Z, p, hx⟩ := kit_of I r1 ty
  obtain ⟨its, rv, ⟨⟨oc, od, dt, sl⟩, h1, h2, n, h3⟩, _⟩ := I.tuple hT
  have e3 := ClsV.all k rv
  subst e3
  simp only at h2 h3
  subst h2 h3
  exact PySem.W.kia_tup Z I.kIn p h1 e hx fun tk => ⟨.bl b, H, I.tok tk, rfl, q⟩
def rIsiX (K : PySem.W.Frag) : List V → Hp → VK → Prop := fun xs H Q => rIsi K xs H Q ∨ rIsiS K xs H Q
theorem call_isiX {X : Cx} : CallR X (.builtin "isinstance") (rIsiX X.K) := call_isi.or call_isiS
theorem anyTy_ok {K : PySem.W.Frag} {G : Hp} {x : D} {t : String} {i : Nat} (hx : tyIx x = some i) (ht : (t, i) ∈ (["int", "bool", "str", "list", "tuple", "dict", "NoneType"] : List String).zipIdx) : ∀ {cs : List D} {vs : List V} {b : Bool}, RepL K G cs vs → anyTy x cs = some b → ∃ us, Paired ClsV vs us ∧ PySem.W.kitAny K (.type t) us = some b
  | [], _, b, .nil, e => by
    cases Option.some.inj e
    exact ⟨[], .nil, kitAny_nil⟩
  | .vv (.ty n) :: cs, _ :: vs, b, .cons h r, e => by
    cases h
    unfold anyTy at e
    cases q1 : isTyD n x with
    | none => rw [q1] at e; cases e
    | some b1 =>
      cases q2 : anyTy x cs with
      | none => rw [q1, q2] at e; cases b1 <;> cases e
      | some b2 =>
        rw [q1, q2] at e
        obtain ⟨us, p, ka⟩ := anyTy_ok hx ht r q2
        have k1 : PySem.W.kitOne K (.type t) (.type n) = some b1 := by
          unfold isTyD at q1
          rw [hx] at q1
          cases q3 : nmIx n with
          | none => rw [q3] at q1; cases q1
          | some k =>
            rw [q3] at q1
            cases Option.some.inj q1
            exact kit_ty (kit_at ht q3)
        cases b1 with
        | true =>
          cases Option.some.inj e
          exact ⟨.type n :: us, .cons (.ty n) p, kitAny_cons k1 (fun z => by cases z) (fun _ => rfl)⟩
        | false =>
          cases Option.some.inj e
          exact ⟨.type n :: us, .cons (.ty n) p, kitAny_cons k1 (fun _ => ka) (fun z => by cases z)⟩
theorem gIsi_ok {K : PySem.W.Frag} : CallOk K (rIsiX K) gIsi := by
  intro G H ds vs o Q s hf h e k
  unfold gIsi at e
  split at e
  · rename_i x n
    obtain ⟨b, e1, rfl⟩ := Option.map_eq_some_iff.mp e
    obtain ⟨v, w, rfl, h1, h2⟩ := reps2 h
    have hw : w = .ty n := by
      rcases h2 with h2 | ⟨_, _, _, o, _, h3⟩
      · cases h2; rfl
      · cases h3
    subst hw
    unfold isTyD at e1
    cases q : tyIx x with
    | none => rw [q] at e1; cases e1
    | some i =>
      cases q3 : nmIx n with
      | none => rw [q, q3] at e1; cases e1
      | some j =>
        rw [q, q3] at e1
        cases Option.some.inj e1
        obtain ⟨t, ty, mem⟩ := rep_tyX s h1 q
        exact .inl ⟨v, .ty n, .type t, .type n, _, rfl, .ty n, ty, kit_ty (kit_at mem q3), k _ _ (.same (.bl _))⟩
  · rename_i x cs
    split at e
    case isFalse => cases e
    rename_i hsome
    obtain ⟨b, e1, rfl⟩ := Option.map_eq_some_iff.mp e
    obtain ⟨v, w, rfl, h1, h2⟩ := reps2 h
    obtain ⟨p, us, rfl, hp, rl⟩ := repV_tup s h2
    cases q : tyIx x with
    | none => rw [q] at hsome; cases hsome
    | some i =>
      obtain ⟨t, ty, mem⟩ := rep_tyX s h1 q
      obtain ⟨ws, pr, ka⟩ := anyTy_ok q mem rl e1
      exact .inr ⟨v, p, us, .type t, ws, b, rfl, hp, pr, ty, ka, k _ _ (.same (.bl _))⟩
  · cases e
theorem de_ty {X : Cx} {T : List (Addr × Str)} {W : WX} {x : Str} {n : String} {pos : Pos} (hg : Gl X x) (hm : X.mg x = none) (hv : bootBuiltins x = some (.type n)) (hn : x ≠ "__name__" := by decide) (hd : (x == ("__debug__" : Str)) = false := by decide) : DE X T W (.Name x pos) (eC (.vv (.ty n))) :=
  de_c (pe_bltn hg hm hv (show RelV (.ty n) (.type n) from rfl) hn hd) fun _ => .vv _
end PF
namespace PF
open PySem PySem.Spec PyProof.Rows L2 HT
/-! ## t[::-1] of tuples and lists -/
section
variable {prog : Program} {w : World} {A : Around} {E : Value → Shared → Prop} {s : Shared}
theorem pf_sliceRev {sl : Addr} {vl vu vs : Value} {n : Nat} {Q : Int × Int × Nat → Shared → Prop} (hs : s.heap.IsSliceOf sl vl vu vs) (pl : IsPart vl none) (pu : IsPart vu none) (ps : IsPart vs (some (-1)))
    (h : Q ((n : Int) - 1, -1, n) s) : wpAny (model prog w) A (Builtin.Slice.sliceApplied (.ref sl) (pure (n : Int))) Q E s := by
  obtain ⟨os, hos, hcs, hds⟩ := id hs
  unfold Builtin.Slice.sliceApplied Builtin.Slice.sliceFields
  refine wpAny_bind (wpAny_bind (wpAny_field hos hds (x := vl) rfl (wpAny_bind (wpAny_field hos hds (x := vu) rfl (wpAny_bind (wpAny_field hos hds (x := vs) rfl (wpAny_pure ?_)))))))
  refine wpAny_bind (slicePart_ ps ?_)
  show wpAny _ _ (if ((-1 : Int) == 0) = true then _ else _) _ _ s
  rw [if_neg (by decide)]
  refine wpAny_bind (slicePart_ pl (wpAny_bind (slicePart_ pu (wpAny_bind (wpAny_pure ?_)))))
  show wpAny _ _ (match Builtin.Slice.sliceAdjust none none (-1) (n : Int) with | (lo, hi) => pure (lo, (-1 : Int), Builtin.Slice.slicePlaces lo hi (-1))) _ _ s
  have e1 : Builtin.Slice.sliceAdjust none none (-1) (n : Int) = ((n : Int) - 1, -1) := by
    unfold Builtin.Slice.sliceAdjust
    simp
  have e2 : Builtin.Slice.slicePlaces ((n : Int) - 1) (-1) (-1) = n := by
    unfold Builtin.Slice.slicePlaces
    simp
    omega
  rw [e1]
  show wpAny _ _ (pure ((n : Int) - 1, (-1 : Int), Builtin.Slice.slicePlaces ((n : Int) - 1) (-1) (-1))) _ _ s
  rw [e2]
  exact wpAny_pure h
theorem pf_fmc {α β : Type} {f g : α → Option β} : ∀ {l : List α}, (∀ x ∈ l, f x = g x) → l.filterMap f = l.filterMap g
  | [], _ => rfl
  | x :: l, h => by
    rw [List.filterMap_cons, List.filterMap_cons, h x (by simp), pf_fmc fun y hy => h y (by simp [hy])]
theorem pf_pickRev (xs : Array Value) : ((List.range xs.size).filterMap fun (m : Nat) => xs[(((xs.size : Int) - 1) + (m : Int) * (-1)).toNat]?).toArray = xs.toList.reverse.toArray := by
  congr 1
  have h1 : ((List.range xs.size).filterMap fun (m : Nat) => xs[(((xs.size : Int) - 1) + (m : Int) * (-1)).toNat]?) = (List.range xs.size).filterMap ((fun k => xs[k]?) ∘ fun k => xs.size - 1 - k) := by
    refine pf_fmc fun m hm => ?_
    have hm := List.mem_range.mp hm
    have : (((xs.size : Int) - 1) + (m : Int) * (-1)).toNat = xs.size - 1 - m := by omega
    rw [this]
    rfl
  rw [h1, ← List.filterMap_map, PySem.W.krv_range, List.filterMap_reverse, PySem.W.krv_all]
theorem pf_tupleRev {t sl : Addr} {items : Array Value} {vl vu vs : Value} {Q : Value → Shared → Prop} (ht : IsTup s.heap t items) (hs : s.heap.IsSliceOf sl vl vu vs) (pl : IsPart vl none) (pu : IsPart vu none) (ps : IsPart vs (some (-1)))
    (h : Q (.ref s.heap.objs.size) { s with heap := s.heap.push { cls := .type "tuple", data := .seq items.toList.reverse.toArray } })
    (hsz : items.size ≤ sizeLine) : wpAny (model prog w) A (getItem (.ref t) (.ref sl)) Q E s := by
  have htake : sizeOk (.seq items.toList.reverse.toArray) := by
    show items.toList.reverse.toArray.size ≤ sizeLine
    rw [List.size_toArray, List.length_reverse, Array.length_toList]
    omega
  obtain ⟨os, hos, hcs, hds⟩ := id hs
  have hTs : s.TypeIs (.ref sl) "slice" := ⟨os, hos, hcs⟩
  unfold getItem
  try with_reducible refine wpAny_holding ?_
  first | refine wpAny_bind (wpAny_pure ?_) | skip
  refine wpAny_bind (wpAny_sequenceKey ht.typeIs (by decide) ?_)
  refine wpAny_bind (wpAny_callSpecial?_slot (name := Str.ofString "__getitem__") ht.typeIs PyProof.Rows.slot_tuple_getitem
    (wpAny_call_entry PyProof.Rows.slot_tuple_getitem ht.typeIs entry_tuple_getitem ?_ (args_tuple_getitem _ _)))
  show wpAny _ _ (Builtin.Tuple.tupleItemsOf (.ref t) >>= _) _ _ s
  refine wpAny_bind (tupleItemsOf_ ht ?_)
  refine wpAny_bind (wpAny_typeOf hTs ?_)
  rw [if_pos (by decide)]
  refine wpAny_bind (pf_sliceRev hs pl pu ps ?_)
  have hno : ¬ ((((items.size : Int) - 1) == 0 && (-1 : Int) == 1 && items.size == items.size) = true) := by
    intro q
    rw [Bool.and_eq_true, Bool.and_eq_true] at q
    exact absurd q.1.2 (by decide)
  show wpAny _ _ (if (((items.size : Int) - 1) == 0 && (-1 : Int) == 1 && items.size == items.size) = true then _ else _) _ _ s
  rw [if_neg hno, pf_pickRev]
  first
    | exact wpAny_bind (m := Builtin.Tuple.tupleExact _) (wpAny_newObj_type (wpAny_pure ⟨_, rfl, wpAny_pure h⟩) htake)
    | exact wpAny_bind (m := Builtin.Tuple.tupleExact _) (wpAny_newObj_type (wpAny_bind (wpAny_pure (wpAny_pure ⟨_, rfl, wpAny_pure h⟩))) htake)
    | exact wpAny_bind (wpAny_bind (m := Builtin.Tuple.tupleExact _) (wpAny_newObj_type (wpAny_pure (wpAny_pure ⟨_, rfl, wpAny_pure h⟩)) htake))
    | exact wpAny_bind (wpAny_bind (m := Builtin.Tuple.tupleExact _) (wpAny_newObj_type (wpAny_pure ⟨_, rfl, wpAny_pure h⟩) htake))
end
def tRevX (K : PySem.W.Frag) (te : TE) : TE := fun σ H Q => te σ H fun x H1 => ∃ a xs, x = .ref a ∧ ((SqL K H1 a xs ∧ ∀ p, H1 p = none → Q (.ref p) (upd H1 p (.lst xs.reverse))) ∨ (SqT K H1 a xs ∧ ∀ p, H1 p = none → Q (.ref p) (upd H1 p (.tup xs.reverse))))
theorem pe_revX {X : Cx} {e : Expr} {te : TE} {k : Nat} {p1 p2 p3 pos : Pos} (he : PE X e te) : PE X (.Subscript e (.Slice none none (some (.UnaryOp .USub (.Constant (.int 1) k p1) p2)) p3) pos) (tRevX X.K te) := by
  refine ⟨fun pins s σ H Q I h => ?_⟩
  refine Subscript_ (thn (he.run pins s σ H _ I h) fun v s1 ⟨x, H1, I1, r1, q1⟩ => ?_)
  obtain ⟨a, xs, ex, q1⟩ := q1
  subst ex
  cases r1
  have hst : PO X (some (.UnaryOp .USub (.Constant (.int 1) k p1) p2)) (tPart (tUn (rU fun i => .int (-i)) (tC (.int 1)))) := po_some (pe_un un_neg pe_int)
  refine wpAny_Slice (thn (po_none.run pins s1 σ H1 (fun o H2 => o = none ∧ H2 = H1) I1 ⟨rfl, rfl⟩) fun vl s2 ⟨l, H2, I2, pl, el, e2⟩ => ?_)
  subst el e2
  refine thn (po_none.run pins s2 σ H2 (fun o H3 => o = none ∧ H3 = H2) I2 ⟨rfl, rfl⟩) fun vu s3 ⟨u, H3, I3, pu, eu, e3⟩ => ?_
  subst eu e3
  refine thn (hst.run pins s3 σ H3 (fun o H4 => o = some (-1) ∧ H4 = H3) I3 ⟨1, rfl, -1, rfl, rfl, rfl⟩) fun vs s4 ⟨o, H4, I4, ps, eo, e4⟩ => ?_
  subst eo e4
  have I5 : Inv X pins σ H4 { s4 with heap := s4.heap.push { cls := .type "slice", data := .fields #[vl, vu, vs] } } := I4.kept (t' := s4.toks) fun b ob q => Heap.get?_push_of_some _ q
  rcases q1 with ⟨hx, q⟩ | ⟨hx, q⟩
  · obtain ⟨its, r, ht, hz⟩ := I5.list hx
    have hlen := r.length
    show wpAny (model X.prog X.w) X.A (subscriptTail e (.Slice none none (some (.UnaryOp .USub (.Constant (.int 1) k p1) p2)) p3) (.ref a) (.ref s4.heap.objs.size)) (EP X pins σ Q) X.xe { s4 with heap := s4.heap.push { cls := .type "slice", data := .fields #[vl, vu, vs] } }
    refine tail_any (ops := [.ref a, .ref s4.heap.objs.size]) ht.isList.typeIs (PySem.slot_list_getitem.lookup) ?_ (by with_unfolding_all rfl)
    refine wpAny_getItem_list_slice ht.isList (Heap.IsSliceOf.new _ vl vu vs) pl pu ps (by decide) ?_ (by rw [List.size_toArray]; omega)
    rw [PySem.W.krv_pick]
    refine ⟨.ref _, _, I5.laid (t' := s4.toks) (o := .lst xs.reverse) (fun b ob q => Heap.get?_push_of_some _ q) (Nat.le_refl _) ?_, rfl, q _ (I5.hok.fresh (Nat.le_refl _))⟩
    exact ⟨by rw [List.length_reverse]; exact hz, _, 0, r.reverse, Heap.get?_push_size _ rfl⟩
  · obtain ⟨its, r, ht, hz⟩ := I5.tuple hx
    have hlen := r.length
    show wpAny (model X.prog X.w) X.A (subscriptTail e (.Slice none none (some (.UnaryOp .USub (.Constant (.int 1) k p1) p2)) p3) (.ref a) (.ref s4.heap.objs.size)) (EP X pins σ Q) X.xe { s4 with heap := s4.heap.push { cls := .type "slice", data := .fields #[vl, vu, vs] } }
    refine tail_any (ops := [.ref a, .ref s4.heap.objs.size]) ht.typeIs (PyProof.Rows.slot_tuple_getitem.lookup) ?_ (by with_unfolding_all rfl)
    refine pf_tupleRev ht (Heap.IsSliceOf.new _ vl vu vs) pl pu ps ?_ (by rw [List.size_toArray]; omega)
    refine ⟨.ref _, _, I5.laid (t' := s4.toks) (o := .tup xs.reverse) (fun b ob q => Heap.get?_push_of_some _ q) (Nat.le_refl _) ?_, rfl, q _ (I5.hok.fresh (Nat.le_refl _))⟩
    exact ⟨by rw [List.length_reverse]; exact hz, its.reverse, r.reverse, IsTup.new _ _⟩
def gRev : D → Option Op
  | .lst ds => some (.fresh (.lst ds.reverse))
  | .tup ds => some (.val (.tup ds.reverse))
  | _ => none
theorem de_rev {X : Cx} {T : List (Addr × Str)} {W : WX} {e : Expr} {f : EF} {k : Nat} {p1 p2 p3 pos : Pos} (h : DE X T W e f) : DE X T W (.Subscript e (.Slice none none (some (.UnaryOp .USub (.Constant (.int 1) k p1) p2)) p3) pos) (eOp1 gRev f) :=
  pe_of (pe_revX (de_settle h)) fun σ H Q _ ⟨G, en, R, p⟩ => by
    refine ⟨G, en, R, stepE R p fun o1 en1 v1 H1 G1 R1 ro1 n1 s1 p1 => ?_⟩
    obtain ⟨o, eo, q⟩ := fin_out R1 p1
    obtain ⟨d1, e1, eg⟩ := Option.bind_eq_some_iff.mp eo
    have rv := view_ok R1 ro1 e1
    cases d1 <;> try (cases eg; done)
    case lst ds =>
      cases Option.some.inj eg
      obtain ⟨a, xs, rfl, hp, rl⟩ := repV_lst R1.sub rv
      exact ⟨a, xs, rfl, .inl ⟨hp, fun p hp' => q _ _ (.newf hp' (.lst rl.rev))⟩⟩
    case tup ds =>
      cases Option.some.inj eg
      obtain ⟨a, xs, rfl, hp, rl⟩ := repV_tup R1.sub rv
      exact ⟨a, xs, rfl, .inr ⟨hp, fun p hp' => q _ _ (.newv hp' (fun ps z => by cases z) (.tup upd_same (rl.rev.mono (Sub.new (R1.sub.none hp')))))⟩⟩
/-! ## len(set(xs)) of ints -/
def dedupI (ns : List Int) : List Int := ns.foldl PyProof.Rows.step_dedup []
theorem firstMet_all (ns : List Int) : PyProof.Rows.firstMet (fun i => ns.getD i 0) ns.length = dedupI ns := by
  unfold PyProof.Rows.firstMet dedupI
  congr 1
  apply List.ext_getElem?
  intro i
  rw [List.getElem?_map]
  by_cases h : i < ns.length
  · rw [List.getElem?_range h, List.getElem?_eq_getElem h]
    simp [List.getD, List.getElem?_eq_getElem h]
  · rw [List.getElem?_eq_none (by simpa using h), List.getElem?_eq_none (by omega)]
    rfl
theorem dedup_le (ns : List Int) : (dedupI ns).length ≤ ns.length := by
  rw [← firstMet_all]
  exact PyProof.Rows.firstMet_length_le _ _
def tLenSetX (K : PySem.W.Frag) (ta : TE) : TE := fun σ H Q => ta σ H fun x H1 => ∃ (l : Addr) (ns : List Int), x = .ref l ∧ SqL K H1 l (ns.map V.int) ∧ ns.length ≤ 4000 ∧ Q (.int ((dedupI ns).length : Nat)) H1
theorem pe_lenSetX {X : Cx} {a : Expr} {ta : TE} {p p2 q pos : Pos} (hc : X.calm = true) (hg : Gl X "len") (hm : X.mg "len" = none) (hg2 : Gl X "set") (hm2 : X.mg "set" = none) (ha : PE X a ta)
    (na : starEach [a] X.env = (false, eval a X.env) :: starEach [] X.env := by rfl) : PE X (.Call (.Name "len" p) [.Call (.Name "set" p2) [a] [] q] [] pos) (tLenSetX X.K ta) := by
  refine ⟨fun pins s σ H Q I h => ?_⟩
  refine Call_ (ld_blt I hg hm PySem.boot_len ?_)
  refine PyProof.Rows.callWith_builtin1 (PyProof.Rows.args_cons ?_ rfl) rfl rfl
  refine Call_ (ld_blt I hg2 hm2 PyProof.Rows.boot_set ?_)
  refine PyProof.Rows.callWith_type1 (PyProof.Rows.args_cons (thn (ha.run pins s σ H _ I h) fun v s1 ⟨x, H1, I1, r1, q1⟩ => PyProof.Rows.args_nil ?_) na) na rfl
  obtain ⟨l, ns, rfl, hq, hl, q1⟩ := q1
  cases r1
  obtain ⟨its, r, pl, hz⟩ := I1.list hq
  have hlen : its.toArray.size = ns.length := by rw [List.size_toArray, ← r.length, List.length_map]
  refine call_set_list (I1.ok.hd hc) pl.isList (by simpa using RZ.intsAre_vals r) (by rw [hlen]; unfold scanBound; omega) fun h' tk hS hk => ?_
  refine PyProof.Rows.args_nil ?_
  rw [hlen, firstMet_all] at hS
  obtain ⟨o, es, ep, t, ho, hex, hd, _, _, _, hf, hn⟩ := hS
  have hdl := dedup_le ns
  have I2 : Inv X pins σ H1 { s1 with heap := h', toks := tk } := I1.kept fun b o e => hk b o (Heap.lt_size e) e
  exact call_len_set ho hex hd hf (by rw [hn] <;> omega) ⟨.int (dedupI ns).length, H1, I2.tok _, ⟨_, by rw [hn]⟩, q1⟩
def gLenSet : D → Option Op
  | .lst ds => (toInts ds).bind fun ns => if ns.length ≤ 4000 then some (.val (.int (dedupI ns).length)) else none
  | _ => none
theorem de_lenSet {X : Cx} {T : List (Addr × Str)} {W : WX} {e : Expr} {f : EF} {p p2 q pos : Pos} (hc : X.calm = true) (hg : Gl X "len") (hm : X.mg "len" = none) (hg2 : Gl X "set") (hm2 : X.mg "set" = none) (h : DE X T W e f)
    (na : starEach [e] X.env = (false, eval e X.env) :: starEach [] X.env := by rfl) : DE X T W (.Call (.Name "len" p) [.Call (.Name "set" p2) [e] [] q] [] pos) (eOp1 gLenSet f) :=
  pe_of (pe_lenSetX hc hg hm hg2 hm2 (de_settle h) na) fun σ H Q _ ⟨G, en, R, p⟩ => by
    refine ⟨G, en, R, stepE R p fun o1 en1 v1 H1 G1 R1 ro1 n1 s1 p1 => ?_⟩
    obtain ⟨o, eo, q⟩ := fin_out R1 p1
    obtain ⟨d1, e1, eg⟩ := Option.bind_eq_some_iff.mp eo
    have rv := view_ok R1 ro1 e1
    cases d1 <;> try (cases eg; done)
    rename_i ds
    obtain ⟨ns, e2, e3⟩ := Option.bind_eq_some_iff.mp eg
    obtain ⟨c, rfl⟩ := ite_some e3
    cases toInts_eq e2
    obtain ⟨a, xs, rfl, hp, rl⟩ := repV_lst R1.sub rv
    cases rl.ints
    exact ⟨a, ns, rfl, hp, c, q _ _ (.same (.int _))⟩
end PF
namespace PF
open PySem PySem.Spec PyProof.Rows L2 LamX
/-! ## lambdas handed to a def, exceptions with their context -/
/-- the context of the lambda's body -/
abbrev lamCxN (X : Cx) (A : Around) (outer : List Env) (s : Shared) (H : Hp) (E : XK) (scope : Scope) (f c' : Addr) : Cx :=
  (lamCx X A outer s H E scope f c').tr [] (fun e s' => wpAny (model X.prog X.w) (A.deeper (lamEnv X scope s.heap.objs.size f c')) (leaving (lamEnv X scope s.heap.objs.size f c') e) (fun _ s'' => L2N.CX X.prog X.w outer H s E e s'') (fun e' s'' => L2N.CX X.prog X.w outer H s E e' s'') s')
theorem lamN_takes {X : Cx} {A : Around} {outer : List Env} {s : Shared} {H : Hp} {E : XK} {scope : Scope} {f c' : Addr} : L2N.Takes (lamCxN X A outer s H E scope f c') (fun cls d _ H => E cls d H) := L2N.takes_of rfl rfl rfl rfl
theorem lamN_passes {X : Cx} {A : Around} {outer : List Env} {s : Shared} {H : Hp} {E : XK} {scope : Scope} {f c' : Addr} : PassesOwn (model X.prog X.w) (A.deeper (lamEnv X scope s.heap.objs.size f c')) (lamEnv X scope s.heap.objs.size f c') (lamCxN X A outer s H E scope f c').xe := passes_of rfl
section
variable {X : Cx} {pins : List (Addr × Obj)} {σ : L2.St} {H : Hp} {s : Shared}
theorem pe_actN {CXg : CXT} {Eg : XK} {Ng : List Str} {qg : Str} {sg : Scope} {g f c' : Addr} {cdg pm ctv : Value} {params : Arguments} {body : Expr} {scope : Scope} {k i : Nat} {a : Str} {pn : List (Addr × Obj)} {xe : Value → Shared → Prop} {W : WX} {E : XK} {tb : TE} {p1 p2 : Pos}
    (I : Inv X pins σ H s) (L : LamS X.env.scope scope) (hf : s.heap.get? f = some (PySem.W.kla_obj "<lambda>" (X.env.qual ++ "<lambda>") params body scope (cloFrom X.env.cells scope.names []) pm c' ctv)) (hfn : H f = none) (hfr : f ∉ frs X.stack)
    (hbind : bindArgs (PySem.W.kla_fn "<lambda>" (X.env.qual ++ "<lambda>") params body scope (cloFrom X.env.cells scope.names []) pm (.ref c') ctv) ⟨[], []⟩ = pure [])
    (tk : L2N.Takes ((cxOf CXg X.prog X.w X.K X.mg X.base Ng qg sg g cdg X.A X.stack s H Eg).tr pn xe) W) (hW : ∀ cls d (σ' : L2.St) H', σ'.length = Ng.length → E cls d H' → W cls d σ' H') (hr : Room (k + 1) (X.A.deeper (envOfC qg sg s.heap.objs.size g cdg)))
    (hbody : ∀ (A : Around) (outer : List Env) (s : Shared) (H : Hp), Room k (A.deeper (lamEnv X scope s.heap.objs.size f c')) → PE (lamCxN X A outer s H E scope f c') body tb)
    (hN : Ng[i]? = some a) (hv : Vis sg a) (hd : (a == ("__debug__" : Str)) = false := by decide) (hcd : (a == ("__classdict__" : Str)) = false := by decide) :
    PE ((cxOf CXg X.prog X.w X.K X.mg X.base Ng qg sg g cdg X.A X.stack s H Eg).tr pn xe) (.Call (.Name a p1) [] [] p2)
      (fun σZ HZ Q => σZ[i]? = some (some (.ref f)) ∧ HZ c' = some (CodeO c' (X.env.qual ++ "<lambda>")) ∧ tb σ HZ Q) := by
  refine ⟨fun pinsZ sZ σZ HZ Q IZ h => ?_⟩
  obtain ⟨hs, hc, ht⟩ := h
  refine wpAny_Call_Name_kw (thn ((pe_var (pos := p1) (i := i) hN hv hd hcd).run pinsZ sZ σZ HZ (fun v H1 => v = .ref f ∧ H1 = HZ) IZ ⟨.ref f, hs, rfl, rfl⟩) fun u s1 ⟨v, H1, I1, r1, q1⟩ => ?_)
  obtain ⟨ev, eH⟩ := q1
  subst ev
  rw [eH] at I1
  obtain rfl : u = Value.ref f := r1
  have of1 : s1.heap.get? f = some (PySem.W.kla_obj "<lambda>" (X.env.qual ++ "<lambda>") params body scope (cloFrom X.env.cells scope.names []) pm c' ctv) := I1.base.keep f _ hf hfn hfr (fun z => nomatch (show f ∈ ([] : List Addr) from z))
  refine PySem.W.callWith_F0 ⟨_, _, _, _, of1⟩ ?_
  have un : Un (frs X.stack) [] H HZ s.heap s1.heap := I1.base
  obtain ⟨⟨oc, vs, t, hoc, hdc, hvc⟩, _, _⟩ := I1.hok c' _ hc
  have rc : codeAny (model X.prog X.w) (X.A.deeper (envOfC qg sg s.heap.objs.size g cdg)) (.call (.ref f) ⟨[], []⟩) (CR (L2N.CX X.prog X.w) (envOfC qg sg s.heap.objs.size g cdg :: X.stack) X.prog X.w HZ s1 Q E) s1 := by
    refine PySem.W.kla_callFunE hr.depth of1 rfl L.co L.gen rfl ⟨c', oc, vs, t, rfl, hoc, hdc, hvc⟩ ?_
    rw [hbind]
    refine wpAny_pure (wpAny_newFunctionEnv (fun y hy => (L.own y hy).2) (fun y hy => absurd hy (by simp)) (fun h₁ hns hsb => ⟨I1.nolimit.fresh _ hsb, ?_⟩) L.kind)
    show codeAny _ _ (.expr body (lamEnv X scope s1.heap.objs.size f c')) _ _
    have kp : ∀ b o, s1.heap.get? b = some o → h₁.get? b = some o := fun b o e => hsb.extBut b o (Nat.ne_of_lt (Heap.lt_size e)) (Heap.get?_push_of_some _ e)
    have J0 : Inv (lamCx X (X.A.deeper (envOfC qg sg s.heap.objs.size g cdg)) (envOfC qg sg s.heap.objs.size g cdg :: X.stack) s1 HZ E scope f c') [] σ HZ { s1 with heap := h₁, toks := s1.toks + ([] : List (Str × Value)).length } :=
      lam_start2 I L I1.env0 hr.hd un hns kp
    have J : Inv (lamCxN X (X.A.deeper (envOfC qg sg s.heap.objs.size g cdg)) (envOfC qg sg s.heap.objs.size g cdg :: X.stack) s1 HZ E scope f c') [] σ HZ { s1 with heap := h₁, toks := s1.toks + ([] : List (Str × Value)).length } := J0.toTry _
    refine PySem.W.kla_codeExpr (wpAny_mono ((hbody _ _ s1 HZ (hr.deeper _)).run [] _ _ HZ Q J ht) (fun v s' hq => ?_) fun e s' hq => hq)
    obtain ⟨w', H', J', rv, q⟩ := hq
    exact ⟨w', H', J'.os, J'.bare, J'.base, J'.hok, rv, q⟩
  refine wpAny_call (codeAny_mono rc fun r s' hq => ?_)
  cases r with
  | error e => exact tk e s' (L2N.XE.of_call I1 (fun cls d H' h => hW cls d σZ H' I1.len h) hq)
  | ok fl =>
    cases fl with
    | ret u => exact I1.after hq
    | next => exact False.elim hq
    | brk => exact False.elim hq
    | cont => exact False.elim hq
end
def GivesToN (X : Cx) (Ng : List Str) (x : Str) (sg : Scope) (g : Addr) (cdg : Value) (bg : List Stmt) (a : Str) (q : Str) (TT : (XK → Hp → VK → Prop) → Hp → VK → Prop) : Prop :=
  ∀ (f c' : Addr) (s : Shared) (H : Hp) (Q : VK) (tl : XK → Hp → VK → Prop),
    (∀ (W : WX) (pn : List (Addr × Obj)) (xe : Value → Shared → Prop) (E : XK) (p1 p2 : Pos), L2N.Takes ((cxOf (L2N.CX X.prog X.w) X.prog X.w X.K X.mg X.base Ng x sg g cdg X.A X.stack s H C8.E0).tr pn xe) W → (∀ cls d (σ' : L2.St) H', σ'.length = Ng.length → E cls d H' → W cls d σ' H') →
      PE ((cxOf (L2N.CX X.prog X.w) X.prog X.w X.K X.mg X.base Ng x sg g cdg X.A X.stack s H C8.E0).tr pn xe) (.Call (.Name a p1) [] [] p2) (fun σZ HZ Q => σZ[0]? = some (some (.ref f)) ∧ HZ c' = some (CodeO c' q) ∧ tl E HZ Q)) →
    H c' = some (CodeO c' q) → Room 1 (X.A.deeper (envOfC x sg s.heap.objs.size g cdg)) → TT tl H Q →
    ∃ t, PSs (cxOf (L2N.CX X.prog X.w) X.prog X.w X.K X.mg X.base Ng x sg g cdg X.A X.stack s H C8.E0).nox bg t ∧ t { nx := fun _ H' => Q .non H', rt := Q } (L2.start Ng [.ref f]) H
def tLamN (K : PySem.W.Frag) (T : List (Addr × Str)) (TT : (XK → Hp → VK → Prop) → Hp → VK → Prop) (t : XK → TE) : TE := fun σ H Q => Tabs T H ∧ ∀ H1, ExtN H H1 → Tabs T H1 → HF K H1 → TT (fun E H' Q' => t E σ H' Q') H1 Q
section
variable {X : Cx}
theorem pe_lamcallN {T : List (Addr × Str)} {TT : (XK → Hp → VK → Prop) → Hp → VK → Prop} {x a : Str} {g c P : Addr} {k : Nat} {pg : Arguments} {bg : List Stmt} {sg : Scope} {dV kV doc pm cdv ct oc : Value} {an od : Option Addr} {osl : Array (Option Value)} {Ng : List Str}
    {params : Arguments} {body : Expr} {scope : Scope} {t : XK → TE} {p lpos pos : Pos} (hg : Gl X x) (hm : X.mg x = some (.ref g)) (hk : PySem.W.keepIn X.K (.ref g) = true)
    (lk : X.K.lookup g = some ⟨oc, od, .func (PySem.W.fnOf x x pg bg sg dV kV doc pm an cdv ct), osl⟩) (hcg : PySem.W.codeIn X.K cdv x = true) (hb : L2.Binds X.K (PySem.W.fnOf x x pg bg sg dV kV doc pm an cdv ct) [a] []) (Sg : FnScope Ng [a] sg) (hNg : Ng[0]? = some a) (hva : Vis sg a)
    (hG : GivesToN X Ng x sg g cdv bg a (X.env.qual ++ "<lambda>") TT)
    (TB : TabB X.base X.mg c P) (hcode : X.env.code = .ref c) (hmT : (P, X.env.qual ++ "<lambda>") ∈ T) (hu : ∀ p ∈ T, p.1 = P → p.2 = X.env.qual ++ "<lambda>") (hr : Room (k + 2) X.A) (L : LamS X.env.scope scope) (hdef : defaultsOf params X.env = ([], []))
    (hbind : ∀ (q : Str) (cl : List (Str × Addr)) (pm cv ctv : Value), bindArgs (PySem.W.kla_fn "<lambda>" q params body scope cl pm cv ctv) ⟨[], []⟩ = pure [])
    (hbody : ∀ (A : Around) (outer : List Env) (s : Shared) (H : Hp) (E : XK) (f c' : Addr), Room k (A.deeper (lamEnv X scope s.heap.objs.size f c')) → PE (lamCxN X A outer s H E scope f c') body (t E))
    (hdb : (x == ("__debug__" : Str)) = false := by decide) (hd : (a == ("__debug__" : Str)) = false := by decide) (hcd : (a == ("__classdict__" : Str)) = false := by decide) :
    PE X (.Call (.Name x p) [.Lambda params body scope lpos] [] pos) (tLamN X.K T TT t) := by
  refine ⟨fun pins s σ H Q I h => ?_⟩
  obtain ⟨hT, h⟩ := h
  refine wpAny_Call_Name_kw (ld_glob I hg hm ?_ hdb)
  refine PySem.W.callWith_K (h₀ := X.base) I.ok.mod.kin hk ?_ (by rfl) (by rfl)
  show wpAny _ _ (spliced ((false, eval (.Lambda params body scope lpos) X.env) :: backTo pos (starEach [] X.env))) _ _ s
  refine Calls.spliced_cons (lam_make2 I TB hcode hmT hu hT hdef (L.has I.ok) fun f c' pm' ctv H1 s' I1 eN T1 hf hfn hfr hco => ?_)
  refine Calls.spliced_nil ⟨I1.kIn, ?_⟩
  have rc : codeAny (model X.prog X.w) X.A (.call (.ref g) ⟨[.ref f], []⟩) (CR (L2N.CX X.prog X.w) X.stack X.prog X.w H1 s' Q C8.E0) s' := by
    refine run_ofS (N := Ng) (ps := [a]) (us := [.ref f]) (vs := [.ref f]) lk hcg Sg hr I1.env0 (hb s' [.ref f] I1.kIn rfl) (.cons rfl .nil) rfl fun hr' => ?_
    obtain ⟨t', ht', hq'⟩ := hG f c' s' H1 Q (fun E H' Q' => t E σ H' Q') (fun W pn xe E p1 p2 tk hW => pe_actN (i := 0) I1 L hf hfn hfr (hbind _ _ _ _ _) tk hW hr' (fun A outer s H hr2 => hbody A outer s H E f c' hr2) hNg hva hd hcd) hco (hr'.mono (by omega)) (h H1 eN T1 (hf_of I1))
    exact ⟨t', ht'.nox, hq'⟩
  refine wpAny_call (codeAny_mono rc fun r s2 hq => ?_)
  cases r with
  | error e =>
    obtain ⟨_, _, _, _, _, _, _, _, _, _, _, _, z⟩ := (show L2N.CX _ _ _ _ _ _ _ _ from hq)
    exact (show False from z).elim
  | ok fl =>
    cases fl with
    | ret u => exact I1.after hq
    | next => exact False.elim hq
    | brk => exact False.elim hq
    | cont => exact False.elim hq
end
end PF
namespace PF
open PySem PySem.Spec PyProof.Rows L2 HotX L2H
/-! ## within an except suite: the ends of iterators -/
section
variable {prog : Program} {w : World} {A : Around} {E : Value → Shared → Prop} {s : Shared}
theorem hot_upd {x1 it : Addr} {h : Heap} (hot : HotAt A x1 h) {f : Obj → Obj} (ne : x1 ≠ it) : HotAt A x1 (h.update it f) := by
  obtain ⟨hh, o, vs, e, d, c⟩ := hot
  exact ⟨hh, o, vs, by rw [Heap.get?_update_other _ _ (Ne.symm ne)]; exact e, d, c⟩
theorem hot_push {x1 : Addr} {h : Heap} (hot : HotAt A x1 h) (o : Obj) : HotAt A x1 (h.push o) := by
  obtain ⟨hh, o', vs, e, d, c⟩ := hot
  exact ⟨hh, o', vs, Heap.get?_push_of_some _ e, d, c⟩
theorem hot_keeps {x1 : Addr} {h h' : Heap} (hot : HotAt A x1 h) (k : ∀ o, h.get? x1 = some o → h'.get? x1 = some o) : HotAt A x1 h' := by
  obtain ⟨hh, o', vs, e, d, c⟩ := hot
  exact ⟨hh, o', vs, k _ e, d, c⟩
theorem hot_ne {x1 it : Addr} {h : Heap} (hot : HotAt A x1 h) {o : Obj} (ho : h.get? it = some o) (hd : ∀ vs, o.data = .fields vs → vs[2]? ≠ some .none) : x1 ≠ it := fun z => by
  obtain ⟨_, o', vs, e, d, c⟩ := hot
  rw [z, ho] at e
  cases e
  exact hd vs d c
/-- a new StopIteration is raised -/
theorem stop_hot {α : Type} {x1 : Addr} {Q : α → Shared → Prop} (hot : HotAt A x1 s.heap)
    (hE : ∀ h' e, (∀ b o, s.heap.get? b = some o → h'.get? b = some o) → (∃ o, h'.get? e = some o ∧ o.cls = .type "StopIteration") → E (.ref e) { s with heap := h' }) :
    wpAny (model prog w) A (do let e ← newExc (.type "StopIteration") []; raiseNew e : Sem α) Q E s := by
  refine wpAny_bind ?_
  simp only [newExc, newTuple]
  refine wpAny_bind (wpAny_newObj_type ?_ (by size_fits))
  refine wpAny_bind (m := firstArgMember _ _) (wpAny_of_eq (a := Value.none) (by first | rfl | (simp only [firstArgMember]; rfl)) ?_)
  refine wpAny_newObj_type ?_ (by size_fits)
  have hot2 := (hot_push hot { cls := .type "tuple", data := .seq (#[] : Array Value) })
  refine raiseNew_hot (hot_push hot2 _) (Nat.ne_of_lt ?_) (Heap.get?_push_size _ rfl) rfl (by first | (simp; done) | (simp; omega) | (simp only [Array.size_append]; simp; omega)) ?_
  · obtain ⟨_, o', vs, e, _⟩ := hot2
    exact Heap.lt_size e
  · refine hE _ _ (fun b o e => ?_) ⟨_, Heap.get?_update_self _ (Heap.get?_push_size _ rfl) rfl, rfl⟩
    have e2 := Heap.get?_push_of_some { cls := .type "tuple", data := .seq (#[] : Array Value) } e
    rw [Heap.get?_update_other _ _ (Nat.ne_of_gt (Heap.lt_size e2))]
    exact Heap.get?_push_of_some _ e2
theorem nextOf_end_hot {it l x1 : Addr} {i : Nat} {items : Array Value} {Q : Value → Shared → Prop} (hot : HotAt A x1 s.heap)
    (hit : s.heap.IsListIter it l i) (hl : s.heap.IsList l items) (hx : items[i]? = none)
    (hE : ∀ h' e, (∀ b o, b ≠ it → s.heap.get? b = some o → h'.get? b = some o) → (∃ o, h'.get? e = some o ∧ o.cls = .type "StopIteration") → E (.ref e) { s with heap := h' }) :
    wpAny (model prog w) A (Builtin.SmallTypes.nextOf (.ref it)) Q E s := by
  obtain ⟨o, ho, hc, hd⟩ := id hit
  obtain ⟨ol, hol, _, nl, hdl⟩ := hl
  have ne : x1 ≠ it := hot_ne hot ho fun vs e z => by
    rw [hd] at e
    cases e
    simp at z
  unfold Builtin.SmallTypes.nextOf
  refine wpAny_bind (wpAny_callSpecial?_slot (name := Str.ofString "__next__") hit.typeIs slot_listiter_next
    (wpAny_call_entry slot_listiter_next hit.typeIs entry_listiter_next ?_ (args_listiter_next _)))
  show wpAny _ _ (field (.ref it) 0 >>= _) _ _ s
  refine wpAny_bind (wpAny_field ho hd (x := .ref l) rfl ?_)
  show wpAny _ _ (if (Value.ref l == Value.none) = true then _ else _) _ _ s
  rw [if_neg (show ¬ ((Value.ref l == Value.none) = true) from Bool.false_ne_true)]
  show wpAny _ _ (field (.ref it) 1 >>= _) _ _ s
  refine wpAny_bind (wpAny_field ho hd (x := .int i 0) rfl ?_)
  show wpAny _ _ (seqItems? (.ref l) >>= _) _ _ s
  refine wpAny_bind (wpAny_seqItems hol hdl ?_)
  simp only [Int.toNat_natCast, hx]
  refine wpAny_bind (wpAny_rule (wpAny_bind (wpAny_setField ho hd (by simp) ?_)))
  refine stop_hot (A := A.in1) (x1 := x1) (hot_upd (A := A.in1) (by exact hot) ne) fun h' e k he => hE h' e (fun b o hb q => k b o (by rw [Heap.get?_update_other _ _ (Ne.symm hb)]; exact q)) he
theorem next_tuple_end_hot {it t x1 : Addr} {i : Nat} {items : Array Value} {Q : Option Value → Shared → Prop} (hot : HotAt A x1 s.heap)
    (hit : IsTupIter s.heap it t i) (ht : IsTup s.heap t items) (hx : items[i]? = none)
    (hQ : ∀ h', (∀ b o, b ≠ it → s.heap.get? b = some o → h'.get? b = some o) → Q none { s with heap := h' }) : wpAny (model prog w) A (pyNext (.ref it)) Q E s := by
  obtain ⟨o, ho, hc, hd⟩ := id hit
  obtain ⟨ol, hol, _, nl, hdl⟩ := ht
  have hT : s.TypeIs (.ref it) "tuple_iterator" := ⟨o, ho, hc⟩
  have ne : x1 ≠ it := hot_ne hot ho fun vs e z => by
    rw [hd] at e
    cases e
    simp at z
  unfold pyNext
  refine wpAny_bind (wpAny_attempt (wpAny_callSpecial?_slot (name := Str.ofString "__next__") hT F.slot_tuple_iterator_next
    (wpAny_call_entry F.slot_tuple_iterator_next hT F.entry_tuple_iterator_next ?_ (F.args_tuple_iterator_next_1 _))))
  show wpAny _ _ (field (.ref it) 0 >>= _) _ _ s
  refine wpAny_bind (wpAny_field ho hd (x := .ref t) rfl ?_)
  show wpAny _ _ (if (Value.ref t == Value.none) = true then _ else _) _ _ s
  rw [if_neg (show ¬ ((Value.ref t == Value.none) = true) from Bool.false_ne_true)]
  show wpAny _ _ (field (.ref it) 1 >>= _) _ _ s
  refine wpAny_bind (wpAny_field ho hd (x := .int i 0) rfl ?_)
  show wpAny _ _ (seqItems? (.ref t) >>= _) _ _ s
  refine wpAny_bind (wpAny_seqItems hol hdl ?_)
  simp only [Int.toNat_natCast, hx]
  refine wpAny_bind (wpAny_rule (wpAny_bind (wpAny_setField ho hd (by simp) ?_)))
  refine stop_hot (A := A.in1) (x1 := x1) (hot_upd (A := A.in1) (by exact hot) ne) fun h' e k he => ?_
  obtain ⟨oe, hoe, hce⟩ := he
  refine wpAny_bind (wpAny_isInstance (T := "StopIteration") (b := true) ⟨_, hoe, hce⟩ isSubtype_stop ?_)
  exact wpAny_pure (hQ _ fun b o hb q => k b o (by rw [Heap.get?_update_other _ _ (Ne.symm hb)]; exact q))
theorem assign_tup_hot {env : Env} {elts : List Expr} {k : Nat} {pos : Pos} {t x1 : Addr} {items : Array Value} {Q : Unit → Shared → Prop} (hot : HotAt A x1 s.heap) (ht : IsTup s.heap t items)
    (hn : (assignEach elts env).length = items.size) (hstar : (assignEach elts env).findIdx? (·.1) = none)
    (h : ∀ h', (∀ b o, b ≠ s.heap.objs.size → s.heap.get? b = some o → h'.get? b = some o) → wpAny (model prog w) A (assignInOrder ((assignEach elts env).map (·.2)) items.toList) Q E { s with heap := h' }) :
    wpAny (model prog w) A (assign (.Tuple elts k pos) env (.ref t)) Q E s := by
  rw [assign_Tuple]
  refine wpAny_bind (wpAny_standAt ?_)
  unfold unpack
  rw [hn, hstar]
  refine wpAny_bind (wpAny_holding ?_)
  have hlt : t ≠ s.heap.objs.size := by obtain ⟨o, ho, _⟩ := ht; exact Nat.ne_of_lt (Heap.lt_size ho)
  have hx : x1 ≠ s.heap.objs.size := by obtain ⟨_, o, vs, ho, _⟩ := hot; exact Nat.ne_of_lt (Heap.lt_size ho)
  unfold unpackItems
  refine wpAny_bind ?_
  · unfold notIterableAtAll
    refine wpAny_bind (wpAny_specialOf ht.typeIs PyProof.Rows.slot_tuple_iter.lookup ?_)
    refine wpAny_pure ?_
    simp only [Bool.false_eq_true, if_false]
    refine wpAny_bind (wpAny_holding (iter_tuple ht ?_))
    refine wpAny_bind (wpAny_holding (draw_tuple hlt items.size 0 _ _ ⟨_, Heap.get?_push_size _ rfl, rfl, rfl⟩ (ht.push _) (by omega) fun h₁ hit₁ hs₁ => ?_))
    have hall : List.take items.size (List.drop 0 items.toList) = items.toList := by
      rw [List.drop_zero]; exact List.take_of_length_le (by simp)
    rw [hall]
    rw [if_neg (by simp)]
    have ht₁ : IsTup h₁ t items := (ht.push _).extBut hs₁.extBut hlt
    have hot₁ : HotAt A x1 h₁ := hot_keeps (hot_push hot _) fun o e => hs₁.extBut x1 o hx e
    refine wpAny_bind (wpAny_holding (next_tuple_end_hot hot₁ hit₁ ht₁ (by simp) fun h₂ he₂ => ?_))
    simp only [Option.isSome_none, Bool.false_eq_true, if_false]
    exact wpAny_pure (h h₂ fun b o hb e => he₂ b o hb (hs₁.extBut b o hb (Heap.get?_push_of_some _ e)))
theorem zip_end_hot {z TI TO i1 i2 l1 l2 x1 : Addr} {k1 k2 : Nat} {xs ys : Array Value} {a b : Value} {Q : Fin → Shared → Prop} (hot : HotAt A x1 s.heap) (D : ZipApart z TI TO i1 i2 l1 l2)
    (hz : IsZip s.heap z TI TO .none) (hTI : IsPair s.heap TI (.ref i1) (.ref i2)) (hTO : IsPair s.heap TO a b)
    (h1 : s.heap.IsListIter i1 l1 k1) (h2 : s.heap.IsListIter i2 l2 k2) (hl1 : s.heap.IsList l1 xs) (hl2 : s.heap.IsList l2 ys) (hend : xs[k1]? = none ∨ ys[k2]? = none)
    (hE : ∀ h' e, (∀ c o, c ≠ z → c ≠ TO → c ≠ i1 → c ≠ i2 → s.heap.get? c = some o → h'.get? c = some o) → (∃ o, h'.get? e = some o ∧ o.cls = .type "StopIteration") → E (.ref e) { s with heap := h' }) :
    wpAny (model prog w) A (Builtin.«zip.__next__» ⟨[.ref z], []⟩) Q E s := by
  have nz : x1 ≠ z := hot_ne hot hz fun vs e q => by
    cases e
    simp at q
  have nTO : x1 ≠ TO := hot_ne hot hTO fun vs e q => by cases e
  have n1 : x1 ≠ i1 := by
    obtain ⟨o, ho, hc, hd⟩ := id h1
    exact hot_ne hot ho fun vs e q => by
      rw [hd] at e
      cases e
      simp at q
  show wpAny _ _ (field (.ref z) 2 >>= _) _ _ _
  refine wpAny_bind (wpAny_field hz rfl (x := .bool false) rfl ?_)
  show wpAny _ _ (field (.ref z) 3 >>= _) _ _ _
  refine wpAny_bind (wpAny_field hz rfl (x := .ref TI) rfl ?_)
  refine wpAny_bind (wpAny_seqItems hTI rfl ?_)
  show wpAny _ _ (Builtin.SmallTypes.ownedTupleIsFree (.ref z) >>= _) _ _ _
  refine wpAny_bind ?_
  unfold Builtin.SmallTypes.ownedTupleIsFree
  refine wpAny_bind (wpAny_field hz rfl (x := .none) rfl (wpAny_pure ?_))
  simp only [if_true]
  refine wpAny_bind (wpAny_rule ?_)
  refine wpAny_bind (wpAny_field hz rfl (x := .ref TO) rfl ?_)
  refine wpAny_bind (wpAny_setField_rec hz (by simp) fun h₁ hz₁ hs₁ => ?_)
  replace hz₁ : IsZip h₁ z TI TO .ellipsis := hz₁
  have hot₁ : HotAt A x1 h₁ := hot_keeps hot fun o e => hs₁.extBut x1 o nz e
  refine wpAny_bind ?_
  simp only [List.zipIdx_cons, List.zipIdx_nil, List.forIn_cons, List.forIn_nil]
  refine wpAny_bind (wpAny_bind (wpAny_onRaise ?_))
  show wpAny _ _ (Builtin.SmallTypes.nextOf (.ref i1) >>= _) _ _ _
  cases hx : xs[k1]? with
  | none =>
    refine wpAny_bind (nextOf_end_hot hot₁ (h1.extBut hs₁.extBut D.i1z) (hl1.extBut hs₁.extBut D.l1z) hx fun h₂ e hs₂ he => ?_)
    obtain ⟨oe, hoe, hce⟩ := he
    have hz₂ : IsZip h₂ z TI TO .ellipsis := hs₂ _ _ D.i1z.symm hz₁
    have hez : e ≠ z := fun x => by subst x; rw [hz₂] at hoe; cases hoe; simp at hce
    refine wpAny_setField_rec hz₂ (by simp) fun h₃ _ hs₃ => hE h₃ e (fun c o c1 _ c3 _ x => hs₃.extBut _ _ c1 (hs₂ _ _ c3 (hs₁.extBut _ _ c1 x))) ⟨oe, hs₃.extBut _ _ hez hoe, hce⟩
  | some x =>
    have hy : ys[k2]? = none := by rcases hend with h | h; rw [hx] at h; cases h; exact h
    refine wpAny_bind (wpAny_nextOf_list_item (h1.extBut hs₁.extBut D.i1z) (hl1.extBut hs₁.extBut D.l1z) hx fun h₂ h1₂ hs₂ => wpAny_pure ?_)
    have hTO₂ : IsPair h₂ TO a b := hs₂.extBut _ _ D.TOi1 (hs₁.extBut _ _ D.TOz hTO)
    refine wpAny_bind (wpAny_seqItems hTO₂ rfl ?_)
    refine wpAny_bind (wpAny_updateSeq_pair hTO₂ fun h₃ hTO₃ hs₃ => ?_)
    refine wpAny_bind (wpAny_letGo (wpAny_pure ?_))
    refine wpAny_bind (wpAny_bind (wpAny_onRaise ?_))
    show wpAny _ _ (Builtin.SmallTypes.nextOf (.ref i2) >>= _) _ _ _
    have hot₃ : HotAt A x1 h₃ := hot_keeps hot₁ fun o e => hs₃.extBut x1 o nTO (hs₂.extBut x1 o n1 e)
    refine wpAny_bind (nextOf_end_hot hot₃ (((h2.extBut hs₁.extBut D.i2z).extBut hs₂.extBut D.i12.symm).extBut hs₃.extBut D.TOi2.symm)
      (((hl2.extBut hs₁.extBut D.l2z).extBut hs₂.extBut D.l2i1).extBut hs₃.extBut D.l2TO) hy fun h₄ e hs₄ he => ?_)
    obtain ⟨oe, hoe, hce⟩ := he
    have hz₄ : IsZip h₄ z TI TO .ellipsis := hs₄ _ _ D.i2z.symm (hs₃.extBut _ _ D.TOz.symm (hs₂.extBut _ _ D.i1z.symm hz₁))
    have hez : e ≠ z := fun x => by subst x; rw [hz₄] at hoe; cases hoe; simp at hce
    refine wpAny_setField_rec hz₄ (by simp) fun h₅ _ hs₅ => hE h₅ e (fun c o c1 c2 c3 c4 x => hs₅.extBut _ _ c1 (hs₄ _ _ c4 (hs₃.extBut _ _ c2 (hs₂.extBut _ _ c3 (hs₁.extBut _ _ c1 x))))) ⟨oe, hs₅.extBut _ _ hez hoe, hce⟩
theorem next_zip_end_hot {z TI TO i1 i2 l1 l2 x1 : Addr} {k1 k2 : Nat} {xs ys : Array Value} {a b : Value} {Q : Option Value → Shared → Prop} (hot : HotAt A x1 s.heap) (D : ZipApart z TI TO i1 i2 l1 l2)
    (hz : IsZip s.heap z TI TO .none) (hTI : IsPair s.heap TI (.ref i1) (.ref i2)) (hTO : IsPair s.heap TO a b)
    (h1 : s.heap.IsListIter i1 l1 k1) (h2 : s.heap.IsListIter i2 l2 k2) (hl1 : s.heap.IsList l1 xs) (hl2 : s.heap.IsList l2 ys) (hend : xs[k1]? = none ∨ ys[k2]? = none)
    (hQ : ∀ h', (∀ c o, c ≠ z → c ≠ TO → c ≠ i1 → c ≠ i2 → s.heap.get? c = some o → h'.get? c = some o) → Q none { s with heap := h' }) : wpAny (model prog w) A (pyNext (.ref z)) Q E s := by
  have hT : s.TypeIs (.ref z) "zip" := ⟨_, hz, rfl⟩
  unfold pyNext
  refine wpAny_bind (wpAny_attempt (wpAny_callSpecial?_slot (name := Str.ofString "__next__") hT F.slot_zip_next
    (wpAny_call_entry F.slot_zip_next hT F.entry_zip_next (zip_end_hot (A := A.in1) (x1 := x1) hot D hz hTI hTO h1 h2 hl1 hl2 hend fun h' e hk he => ?_) (F.args_zip_next_1 _))))
  obtain ⟨o, ho, hc⟩ := he
  refine wpAny_bind (wpAny_isInstance (T := "StopIteration") (b := true) ⟨o, ho, hc⟩ isSubtype_stop ?_)
  exact wpAny_pure (hQ _ hk)
end
end PF
namespace PF
open PySem PySem.Spec PyProof.Rows L2 HotX L2H
/-! ## a comprehension over zip within an except suite -/
def HotI (X : Cx) : Prop := ∀ (pins : List (Addr × Obj)) (s : Shared) (σ : L2.St) (H : Hp), Inv X pins σ H s → ∃ x1, HotAt X.A x1 s.heap
theorem HotC.i {X : Cx} (c : HotC X) : HotI X := fun _ _ _ _ I => c.at I
structure TurnB (P : Program) (w : World) (K : PySem.W.Frag) (tg : Expr) (J : It) (fp : List Addr) (it : Addr) (tn : Nat → Heap → Prop) : Prop where
  mem : it ∈ fp
  obj : ∀ i h, tn i h → ∀ b ∈ fp, ∃ o, h.get? b = some o ∧ ∀ v, o.data ≠ .cell v
  keep : ∀ i h h', tn i h → (∀ b ∈ fp, ∀ o, h.get? b = some o → h'.get? b = some o) → tn i h'
  item : ∀ (X : Cx), X.prog = P → X.w = w → X.K = K → ∀ (i : Nat) (pins : List (Addr × Obj)) (s : Shared) (σ : L2.St) (H : Hp) (E : Value → Shared → Prop), Inv X pins σ H s → (∀ b ∈ fp, FpOk X pins H b) → tn i s.heap → J.go i H →
    wpAny (model P w) X.A (pyNext (.ref it)) (fun r s1 => ∃ u, r = some u ∧
      wpAny (model P w) X.A (letOwnedTupleGo tg (.ref it) u) (fun _ s2 => ∃ x H', Inv X pins σ H' s2 ∧ RelV x u ∧ J.yld i H x H' ∧ tn (i + 1) s2.heap ∧ ∀ b ∈ fp, H' b = none) E s1) E s
  done : ∀ (X : Cx), X.prog = P → X.w = w → X.K = K → HotI X → ∀ (i : Nat) (pins : List (Addr × Obj)) (s : Shared) (σ : L2.St) (H : Hp) (E : Value → Shared → Prop), Inv X pins σ H s → (∀ b ∈ fp, FpOk X pins H b) → tn i s.heap → J.stop i H →
    wpAny (model P w) X.A (pyNext (.ref it)) (fun r s1 => r = none ∧ Inv X pins σ H s1) E s
  self : ∀ (A : Around) (i : Nat) (s : Shared) (Q : Value → Shared → Prop) (E : Value → Shared → Prop), tn i s.heap → Q (.ref it) s → wpAny (model P w) A (pyIter (.ref it)) Q E s
theorem turnB_zip {P : Program} {w : World} {K : PySem.W.Frag} {elts : List Expr} {kk : Nat} {tpos : Pos} {a b z TI TO i1 i2 : Addr} (D : ZipApart z TI TO i1 i2 a b) :
    TurnB P w K (.Tuple elts kk tpos) (Itz K a b) [z, TI, TO, i1, i2] z (fun i h => IsZip h z TI TO .none ∧ IsPair h TI (.ref i1) (.ref i2) ∧ (∃ x y, IsPair h TO x y) ∧ h.IsListIter i1 a i ∧ h.IsListIter i2 b i) where
  mem := by simp
  obj := fun i h st c hc => by
    obtain ⟨hz, hTI, ⟨x, y, hTO⟩, ⟨o1, e1, _, d1⟩, ⟨o2, e2, _, d2⟩⟩ := st
    have e' : c = z ∨ c = TI ∨ c = TO ∨ c = i1 ∨ c = i2 := by simpa using hc
    rcases e' with q | q | q | q | q
    · rw [q]; exact ⟨_, hz, fun v q => nomatch q⟩
    · rw [q]; exact ⟨_, hTI, fun v q => nomatch q⟩
    · rw [q]; exact ⟨_, hTO, fun v q => nomatch q⟩
    · rw [q]; exact ⟨o1, e1, fun v q => by rw [d1] at q; cases q⟩
    · rw [q]; exact ⟨o2, e2, fun v q => by rw [d2] at q; cases q⟩
  keep := fun i h h' st k => by
    obtain ⟨hz, hTI, ⟨x, y, hTO⟩, h1, h2⟩ := st
    exact ⟨k z (by simp) _ hz, k TI (by simp) _ hTI, ⟨x, y, k TO (by simp) _ hTO⟩, h1.at fun o q => k i1 (by simp) o q, h2.at fun o q => k i2 (by simp) o q⟩
  item := by
    intro X hP hw hK i pins s σ H E I hf st hg
    subst hP hw hK
    obtain ⟨hz, hTI, ⟨x0, y0, hTO⟩, h1, h2⟩ := st
    obtain ⟨xs, ys, x, y, hqx, hqy, hx, hy⟩ := hg
    obtain ⟨its, rv, p, _⟩ := I.list hqx
    obtain ⟨its2, rv2, p2, _⟩ := I.list hqy
    obtain ⟨u, hu, ru⟩ := rv.get hx
    obtain ⟨u2, hu2, ru2⟩ := rv2.get hy
    have hzl : z < s.heap.objs.size := Heap.lt_size hz
    refine wpAny_pyNext_zip_item D hz hTI hTO h1 h2 p.isList p2.isList (x := u) (y := u2) (by simpa using hu) (by simpa using hu2) fun h' z' TO' h1' h2' hT hsz hk => ?_
    refine ⟨_, rfl, wpAny_letOwnedTupleGo_zip (s := { s with heap := h' }) z' fun h'' z'' sb => ?_⟩
    have hT2 : h''.get? s.heap.objs.size = some { cls := .type "tuple", data := .seq #[u, u2] } := (sb.2 _ (Nat.ne_of_gt hzl)).trans hT
    have new : ObjOk X.prog X.w (upd H s.heap.objs.size (.tup [x, y])) h'' s.heap.objs.size (.tup [x, y]) :=
      ⟨by show 2 ≤ sizeLine; decide, [u, u2], .cons ru (.cons ru2 .nil), ⟨_, hT2, rfl, _, rfl⟩⟩
    have I1 : Inv X pins σ (upd H s.heap.objs.size (.tup [x, y])) { s with heap := h'' } :=
      I.turnedNew (t' := s.toks) (ch := [z, TI, TO, i1, i2]) (fun c o hb q => (sb.2 c (fun q' => hb (by simp [q']))).trans (hk c o (fun q' => hb (by simp [q'])) (fun q' => hb (by simp [q'])) (fun q' => hb (by simp [q'])) (fun q' => hb (by simp [q'])) q)) hf (Nat.le_refl _) new
    refine ⟨.ref s.heap.objs.size, _, I1, rfl, ⟨_, x, y, rfl, I.hok.fresh (Nat.le_refl _), rfl, fun l hl => by rw [I.list_inj hl hqx]; exact hx, fun l hl => by rw [I.list_inj hl hqy]; exact hy⟩, ⟨z'', ?_, ⟨u, u2, ?_⟩, ?_, ?_⟩, fun c hcm => ?_⟩
    · exact (sb.2 _ D.TIz).trans (hk _ _ D.TIz D.TITO D.TIi1 D.TIi2 hTI)
    · exact (sb.2 _ D.TOz).trans TO'
    · exact h1'.at fun o q => (sb.2 _ D.i1z).trans q
    · exact h2'.at fun o q => (sb.2 _ D.i2z).trans q
    · have hlt : c < s.heap.objs.size := by
        have e' : c = z ∨ c = TI ∨ c = TO ∨ c = i1 ∨ c = i2 := by simpa using hcm
        rcases e' with q | q | q | q | q
        · rw [q]; exact hzl
        · rw [q]; exact Heap.lt_size hTI
        · rw [q]; exact Heap.lt_size hTO
        · rw [q]; obtain ⟨_, e1, _⟩ := h1; exact Heap.lt_size e1
        · rw [q]; obtain ⟨_, e2, _⟩ := h2; exact Heap.lt_size e2
      rw [upd_ne (Nat.ne_of_lt hlt)]
      exact (hf c hcm).1
  done := by
    intro X hP hw hK hc i pins s σ H E I hf st hg
    subst hP hw hK
    obtain ⟨hz, hTI, ⟨x0, y0, hTO⟩, h1, h2⟩ := st
    obtain ⟨xs, ys, hqx, hqy, hend⟩ := hg
    obtain ⟨its, rv, p, _⟩ := I.list hqx
    obtain ⟨its2, rv2, p2, _⟩ := I.list hqy
    have l1 := rv.length
    have l2 := rv2.length
    have he : its.toArray[i]? = none ∨ its2.toArray[i]? = none := by
      rcases hend with q | q
      · exact .inl (by simp; omega)
      · exact .inr (by simp; omega)
    obtain ⟨x1, hot⟩ := hc pins s σ H I
    exact next_zip_end_hot hot D hz hTI hTO h1 h2 p.isList p2.isList he fun h' hk => ⟨rfl, I.turnedL (t' := s.toks) (ch := [z, TI, TO, i1, i2]) (fun c o hb q =>
      hk c o (fun q' => hb (by simp [q'])) (fun q' => hb (by simp [q'])) (fun q' => hb (by simp [q'])) (fun q' => hb (by simp [q'])) q) hf⟩
  self := fun A i s Q E st h => wpAny_pyIter_zip st.1 h

def PIEB (X : Cx) (pins : List (Addr × Obj)) (σ : L2.St) (tg : Expr) (R : It → Hp → Prop) (itv : Value) (s2 : Shared) : Prop :=
  ∃ (it : Addr) (fp : List Addr) (tn : Nat → Heap → Prop) (J : It) (H' : Hp), itv = .ref it ∧ Inv X pins σ H' s2 ∧ TurnB X.prog X.w X.K tg J fp it tn ∧ tn 0 s2.heap ∧ (∀ b ∈ fp, FpOk X pins H' b) ∧ R J H'
structure PIB (X : Cx) (tg iter : Expr) (wi : TI) : Prop where
  run : ∀ (pins : List (Addr × Obj)) (s : Shared) (σ : L2.St) (H : Hp) (R : It → Hp → Prop), Inv X pins σ H s → wi σ H R →
    wpAny (model X.prog X.w) X.A (eval iter X.env) (fun v s1 => wpAny (model X.prog X.w) X.A (pyIter v) (PIEB X pins σ tg R) X.xe s1) X.xe s
theorem pib_zip {X : Cx} {e e2 : Expr} {ta : TA} {p pos tpos : Pos} {elts : List Expr} {kk : Nat} (hg : Gl X "zip") (hm : X.mg "zip" = none) (ha : PA X [e, e2] ta)
    (hs : starEach [e, e2] X.env = (false, eval e X.env) :: starEach [e2] X.env := by rfl) (hpl : (backTo pos (starEach [e2] X.env)).any (·.1) = false := by rfl) :
    PIB X (.Tuple elts kk tpos) (.Call (.Name "zip" p) [e, e2] [] pos) (L2.iZip X.K ta) := by
  refine ⟨fun pins s σ H R I h => ?_⟩
  refine Call_ (ld_blt I hg hm PyProof.Rows.boot_zip (PyProof.Rows.callWith_type1 (thn (ha.run pos pins s σ H _ I h) fun us s1 ⟨vs, H1, I1, r1, q1⟩ => ?_) hs hpl))
  obtain ⟨a, b, xs, ys, ex, hqx, hqy, q⟩ := q1
  subst ex
  cases r1 with
  | cons r rr =>
    cases rr with
    | cons r' rr =>
      cases rr
      cases r
      cases r'
      have fresh5 : ∀ c, c ∈ [s1.heap.objs.size + 4, s1.heap.objs.size + 2, s1.heap.objs.size + 3, s1.heap.objs.size, s1.heap.objs.size + 1] → FpOk X pins H1 c := fun c hcm => by
        have e' : c = s1.heap.objs.size + 4 ∨ c = s1.heap.objs.size + 2 ∨ c = s1.heap.objs.size + 3 ∨ c = s1.heap.objs.size ∨ c = s1.heap.objs.size + 1 := by simpa using hcm
        have hle : s1.heap.objs.size ≤ c := by
          rcases e' with z | z | z | z | z
          · rw [z]; exact Nat.le_add_right _ _
          · rw [z]; exact Nat.le_add_right _ _
          · rw [z]; exact Nat.le_add_right _ _
          · rw [z]; exact Nat.le_refl _
          · rw [z]; exact Nat.le_add_right _ _
        exact I1.fpOk hle (I1.hok.fresh hle)
      obtain ⟨its, rv, p1, _⟩ := I1.list hqx
      obtain ⟨its2, rv2, p2, _⟩ := I1.list hqy
      refine call_zip_2 p1.isList p2.isList fun h' hz hTI hTO h1 h2 hsz hk => wpAny_pyIter_zip hz ?_
      have I2 : Inv X pins σ H1 { s1 with heap := h' } := I1.kept (t' := s1.toks) hk
      exact ⟨s1.heap.objs.size + 4, [s1.heap.objs.size + 4, s1.heap.objs.size + 2, s1.heap.objs.size + 3, s1.heap.objs.size, s1.heap.objs.size + 1], _, _, H1, rfl, I2, turnB_zip (PySem.W.ktu_apart s1.heap.objs.size a b p1.lt p2.lt), ⟨hz, hTI, ⟨_, _, hTO⟩, h1, h2⟩, fresh5, q⟩
/-- a block's context still knows the exception -/
theorem blk_hot {X : Cx} {pins : List (Addr × Obj)} {σ : L2.St} {H : Hp} {s : Shared} {scope : Scope} {cenv : Env} {fp : List Addr} (hc : HotC X) (I : Inv X pins σ H s) (hf : ∀ b ∈ fp, FpOk X pins H b) : HotI (X.blk s H scope cenv fp) := by
  intro pins' s' σ' H' J
  obtain ⟨p, ⟨hh, v1, e1, c1⟩, hp⟩ := hc
  obtain ⟨get, free, nL, nF, _⟩ := I.pin p (List.mem_append_left _ hp)
  have hfr : p.1 ∉ frs X.stack := fun hm => (List.mem_cons.mp (I.stkSub p.1 hm)).elim nL nF
  have hex : p.1 ∉ fp := fun hm => (hf p.1 hm).2.2.2.2.2 p (List.mem_append_left _ hp) rfl
  have k := J.base.keep p.1 p.2 get free hfr hex
  exact ⟨p.1, hh, p.2, v1, k, e1, c1⟩
theorem pg_tupH {X : Cx} {es : List Expr} {k : Nat} {t : TGs} {n : Nat} {pos : Pos} (hc : HotI X) (h : PGs X es t)
    (hn : (assignEach es X.env).length = n := by rfl) (hst : (assignEach es X.env).findIdx? (·.1) = none := by rfl) : PG X (.Tuple es k pos) (gTup X.K n t) := by
  refine ⟨fun pins s σ H v u Q I r hw => ?_⟩
  obtain ⟨a, xs, e1, hq, hl, hw⟩ := hw
  subst e1
  cases r
  obtain ⟨its, rv, ht, hz⟩ := I.tuple hq
  obtain ⟨x1, hot⟩ := hc pins s σ H I
  refine assign_tup_hot hot ht (by simp [hn, ← hl, rv.length]) hst fun h' hx => ?_
  have I1 : Inv X pins σ H { s with heap := h' } := I.kept (t' := s.toks) fun b o e => hx b o (Nat.ne_of_lt (Heap.lt_size e)) e
  exact h.run pins _ σ H xs _ Q I1 (by simpa using rv) hw
section
variable {X : Cx}
theorem lc_coreH {pins : List (Addr × Obj)} {s : Shared} {σ : St} {H : Hp} {Q : VK} {elt tg iter : Expr} {ifs : List Expr} {scope : Scope} {own : List (Str × Nat)} {pos pos' : Pos} {wi : TI} {g : TG} {tt : TT} {te : TE} {use : Option (Value → Sem Unit)} {Qf : Value → Shared → Prop}
    (hc : HotC X) (hN : X.N.Nodup) (I : Inv X pins σ H s) (hi : PIB X tg iter wi) (ok : BlkOk X.N X.env.scope scope own)
    (hg : ∀ (s : Shared) (H : Hp) (C : Addr) (cl : List (Str × Addr)) (fp : List Addr), HotI (X.blk s H scope (compEnvC scope cl C X.env) fp) → PG (X.blk s H scope (compEnvC scope cl C X.env) fp) tg g) (ht : ∀ (s : Shared) (H : Hp) (C : Addr) (cl : List (Str × Addr)) (fp : List Addr), HotI (X.blk s H scope (compEnvC scope cl C X.env) fp) → PTs (X.blk s H scope (compEnvC scope cl C X.env) fp) ifs tt)
    (he : ∀ (s : Shared) (H : Hp) (C : Addr) (cl : List (Str × Addr)) (fp : List Addr), HotI (X.blk s H scope (compEnvC scope cl C X.env) fp) → PE (X.blk s H scope (compEnvC scope cl C X.env) fp) elt te) (hs : ∀ x, foldedSetIterable iter X.env x = pure x)
    (h : tLc wi g tt te (own.map (·.2)) σ H Q)
    (hRR : ∀ D C s' m H', Inv X pins σ H' s' → Q (.ref D) H' → s'.heap.Ns C m → FpOk X pins H' C → compPost (model X.prog X.w) X.A X.xe use Qf (.ref D) C (.ok .next) s') :
    wpAny (model X.prog X.w) X.A (comprehension (.ListComp elt [⟨tg, iter, ifs, 0⟩] scope pos) scope X.env pos' (newList []) false (eval iter X.env) use) Qf X.xe s := by
  have hfree : ∀ y ∈ scope.names, y.2 = .free → ∃ c, X.env.cells.lookup y.1 = some c := fun y hy e => by
    rcases ok.free y hy e with k | k
    · exact I.ok.has _ (.inl k)
    · exact I.ok.has _ (.inr k)
  refine wpAny_comprehension_free (use := use) rfl hs (closure_ok hfree) ok.kind (fun y hy e => by rw [ok.uniq y hy, e])
    (thn (hi.run pins s σ H _ I h) fun xv s1 hx => thn hx fun itv s2 h2 => ?_)
  obtain ⟨it, fp, tn, J, H2, e, I2, T, st2, f2, q⟩ := h2
  subst e
  refine wpAny_newObj_type (newEnv_comp ?_) (by show 0 ≤ sizeLine; decide)
  generalize hD : s2.heap.objs.size = D
  have hDn : H2 D = none := I2.hok.fresh (Nat.le_of_eq hD)
  obtain ⟨W, ⟨m0, w0⟩, turn⟩ := q D hDn
  -- the new list
  generalize hs3 : ({ s2 with heap := s2.heap.push { cls := .type "list", data := .seq ([] : List Value).toArray } } : Shared) = s3
  have I3 : Inv X pins σ (upd H2 D (.lst [])) s3 := by
    rw [← hs3]
    refine I2.laid (t' := s2.toks) (fun b o e => Heap.get?_push_of_some _ e) (Nat.le_of_eq hD) ⟨Nat.zero_le _, [], 0, .nil, ?_⟩
    rw [← hD]
    exact Heap.get?_push_size _ rfl
  have h3 : s3.heap = s2.heap.push { cls := .type "list", data := .seq ([] : List Value).toArray } := by rw [← hs3]
  have sz : ∀ b ∈ fp, b < s2.heap.objs.size := fun b hb => by
    obtain ⟨o, e, _⟩ := T.obj _ _ st2 b hb
    exact Heap.lt_size e
  have f3 : ∀ b ∈ fp, FpOk X pins (upd H2 D (.lst [])) b ∧ b < s3.heap.objs.size := fun b hb => by
    have hlt := sz b hb
    refine ⟨⟨?_, (f2 b hb).2⟩, by rw [h3, Heap.size_push]; exact Nat.lt_succ_of_lt hlt⟩
    rw [upd_ne (by rw [← hD]; exact Nat.ne_of_lt hlt)]
    exact (f2 b hb).1
  have st3 : tn 0 s3.heap := T.keep _ _ _ st2 fun b _ o e => by rw [h3]; exact Heap.get?_push_of_some _ e
  have I4 := block_start I3 ok hN f3
  have hb := blk_hot hc I3 (fun b hb => (f3 b hb).1) (scope := scope) (cenv := compEnvC scope (cellsFrom (s3.heap.objs.size + 1) scope.names (cloFrom X.env.cells scope.names [])) s3.heap.objs.size X.env)
  have pg := hg s3 (upd H2 D (.lst [])) s3.heap.objs.size (cellsFrom (s3.heap.objs.size + 1) scope.names (cloFrom X.env.cells scope.names [])) fp hb
  have pt := ht s3 (upd H2 D (.lst [])) s3.heap.objs.size (cellsFrom (s3.heap.objs.size + 1) scope.names (cloFrom X.env.cells scope.names [])) fp hb
  have pe := he s3 (upd H2 D (.lst [])) s3.heap.objs.size (cellsFrom (s3.heap.objs.size + 1) scope.names (cloFrom X.env.cells scope.names [])) fp hb
  show codeAny _ _ (.compStart (.ListComp elt [⟨tg, iter, ifs, 0⟩] scope pos) 0 (.ref it) (.ref D) (compEnvC scope (cellsFrom (s3.heap.objs.size + 1) scope.names (cloFrom X.env.cells scope.names [])) s3.heap.objs.size X.env)) (compPost (model X.prog X.w) X.A X.xe use Qf (.ref D) s3.heap.objs.size) { s3 with heap := pushCells (s3.heap.push { cls := .type "dict", data := .dict #[] }) scope.names }
  have nfp : ∀ b ∈ fp, (upd H2 D (.lst [])) b = none := fun b hb => (f3 b hb).1.1
  generalize hce : compEnvC scope (cellsFrom (s3.heap.objs.size + 1) scope.names (cloFrom X.env.cells scope.names [])) s3.heap.objs.size X.env = ce at I4 pg pt pe hb ⊢
  have cL : ce.locals = s3.heap.objs.size := by subst hce; rfl
  generalize hH3 : upd H2 D (.lst []) = H3 at I3 I4 pg pt pe hb w0 nfp f3
  generalize hs4 : ({ s3 with heap := pushCells (s3.heap.push { cls := .type "dict", data := .dict #[] }) scope.names } : Shared) = s4 at I4 ⊢
  have st4 : tn 0 s4.heap := T.keep _ _ _ st3 fun b _ o e => by rw [← hs4]; exact pushCells_keeps _ _ _ _ (Heap.get?_push_of_some _ e)
  have stat : ∀ {σ' : St} {H' : Hp} {s' : Shared}, Inv (X.blk s3 H3 scope ce fp) [] σ' H' s' → (∀ b ∈ fp, H' b = none) → ∀ b ∈ fp, FpOk (X.blk s3 H3 scope ce fp) [] H' b := fun {σ' H' s'} I' hn b hb =>
    ⟨hn b hb, (I'.ok.exf b hb).1, I'.ok.exfs b hb, .inl hb, fun x c e => (I'.ok.exf b hb).2 x c e, fun p hp => absurd (show p ∈ ([] : List (Addr × Obj)) ++ [] from hp) (by simp)⟩
  have loop : codeAny (model X.prog X.w) X.A (.compLoop (.ListComp elt [⟨tg, iter, ifs, 0⟩] scope pos) 0 (.ref it) (.ref D) ce) (compPost (model X.prog X.w) X.A X.xe use Qf (.ref D) s3.heap.objs.size) s4 := by
    refine compLoop_any (fun n s' => ∃ i H', Inv (X.blk s3 H3 scope ce fp) [] (wipe σ (own.map (·.2))) H' s' ∧ tn i s'.heap ∧ (∀ b ∈ fp, H' b = none) ∧ W i n H') ?_ m0 ⟨0, H3, I4, st4, nfp, w0⟩
    rintro n s5 ⟨i, H5, I5, st5, n5, w5⟩
    rcases turn i n H5 w5 with ⟨stop, qq⟩ | ⟨go, Nx, hNx, step⟩
    · have td := T.done (X.blk s3 H3 scope ce fp) rfl rfl rfl hb i [] s5 _ H5 (fun _ _ => False) I5 (stat I5 n5) st5 stop
      refine thnF td fun r s6 ⟨hr, I6⟩ => ?_
      subst hr
      -- back in the def's context
      have I7 : Inv X pins σ H5 s6 := I3.call' (ch := fp) I6.os I6.base I6.hok I6.bare fun b hb => ⟨(f3 b hb).1.2.2.2.1, (f3 b hb).1.2.1, (f3 b hb).1.2.2.2.2.1, (f3 b hb).1.2.2.2.2.2⟩
      have nC : H5 s3.heap.objs.size = none := by
        have z : H5 ce.locals = none := I6.free
        rw [cL] at z
        exact z
      obtain ⟨m, hn, _⟩ := I6.loc
      have hn : s6.heap.Ns ce.locals m := hn
      rw [cL] at hn
      exact hRR D s3.heap.objs.size s6 m H5 I7 qq hn (I3.fpOk (Nat.le_refl _) nC)
    · have ti := T.item (X.blk s3 H3 scope ce fp) rfl rfl rfl i [] s5 _ H5 (fun _ _ => False) I5 (stat I5 n5) st5 go
      refine thnF ti fun r s6 ⟨u, hr, h6⟩ => ?_
      subst hr
      refine thnF h6 fun _ s7 ⟨x, H7, I7, r7, y7, st7, n7⟩ => ?_
      have I7' := I7.pinned (stat I7 n7) (T.obj _ _ st7)
      refine thnF (pg.run _ s7 _ H7 x u _ I7' r7 (step x H7 y7)) fun _ s8 ⟨σ8, H8, I8, hw8, q8⟩ => ?_
      refine thnF (pt.run _ s8 σ8 H8 _ I8 q8) fun b s9 ⟨H9, I9, q9⟩ => ?_
      -- the turn's end
      have fin : ∀ {s' : Shared} {H' : Hp}, Inv (X.blk s3 H3 scope ce fp) ([] ++ pinsAt fp s7.heap) σ8 H' s' → Nx H' → ∃ m, m < n ∧ ∃ i H', Inv (X.blk s3 H3 scope ce fp) [] (wipe σ (own.map (·.2))) H' s' ∧ tn i s'.heap ∧ (∀ b ∈ fp, H' b = none) ∧ W i m H' := fun {s' H'} I' nx => by
        obtain ⟨m', hm, w'⟩ := hNx H' nx
        have pin' : ∀ b ∈ fp, ∀ o, s7.heap.get? b = some o → s'.heap.get? b = some o ∧ H' b = none := fun b hb o e =>
          let z := I'.pin (b, o) (List.mem_append_right _ (List.mem_append_right _ (mem_pinsAt hb e)))
          ⟨z.1, z.2.1⟩
        have hl : (wipe σ (own.map (·.2))).length = σ8.length := by rw [← hw8, wipe_length]
        refine ⟨m', hm, i + 1, H', (I'.unpinned (pins := [])).weak hl (fun j v e => ?_), T.keep _ _ _ st7 fun b hb o e => (pin' b hb o e).1, fun b hb => ?_, w'⟩
        · rw [← hw8] at e
          exact (wipe_some e).1
        · obtain ⟨o, e, _⟩ := T.obj _ _ st7 b hb
          exact (pin' b hb o e).2
      cases b with
      | false =>
        simp only [Bool.false_eq_true, if_false] at q9 ⊢
        exact fin I9 q9
      | true =>
        simp only [if_true] at q9 ⊢
        refine thnF (pe.run _ s9 σ8 H9 _ I9 q9) fun z s10 ⟨yv, H10, I10, r10, acc, hD10, hz10, nx⟩ => ?_
        exact app_ok (X := X.blk s3 H3 scope ce fp) I10 hD10 hz10 r10 fun s11 I11 => fin I11 nx
  exact codeAny_compStart_list loop (T.self X.A 0 _ _ _ st4 loop)

theorem pe_lcH {elt tg iter : Expr} {ifs : List Expr} {scope : Scope} {own : List (Str × Nat)} {pos : Pos} {wi : TI} {g : TG} {tt : TT} {te : TE} (hc : HotC X) (hN : X.N.Nodup) (hi : PIB X tg iter wi) (ok : BlkOk X.N X.env.scope scope own)
    (hg : ∀ (s : Shared) (H : Hp) (C : Addr) (cl : List (Str × Addr)) (fp : List Addr), HotI (X.blk s H scope (compEnvC scope cl C X.env) fp) → PG (X.blk s H scope (compEnvC scope cl C X.env) fp) tg g) (ht : ∀ (s : Shared) (H : Hp) (C : Addr) (cl : List (Str × Addr)) (fp : List Addr), HotI (X.blk s H scope (compEnvC scope cl C X.env) fp) → PTs (X.blk s H scope (compEnvC scope cl C X.env) fp) ifs tt)
    (he : ∀ (s : Shared) (H : Hp) (C : Addr) (cl : List (Str × Addr)) (fp : List Addr), HotI (X.blk s H scope (compEnvC scope cl C X.env) fp) → PE (X.blk s H scope (compEnvC scope cl C X.env) fp) elt te) (hs : ∀ x, foldedSetIterable iter X.env x = pure x := by intro _; rfl) :
    PE X (.ListComp elt [⟨tg, iter, ifs, 0⟩] scope pos) (tLc wi g tt te (own.map (·.2))) := by
  refine ⟨fun pins s σ H Q I h => ?_⟩
  rw [eval_ListComp]
  refine lc_coreH hc hN I hi ok hg ht he hs h fun D C s' m H' I' q hn f => ⟨m, hn, fun h'' sb => ?_⟩
  obtain ⟨f0, f1, f2, f3, f4, f5⟩ := f
  exact ⟨.ref D, H', I'.turned (t' := s'.toks) (fun b o hb e => (sb.2 b hb).trans e) f0 f1 f3 f4 f5, rfl, q⟩
end
end PF
namespace PF
open PySem PySem.Spec PyProof.Rows L2 HotX L2H L2N
/-! ## try with named clauses -/
def wManyAs (K : PySem.W.Frag) (Wout : WX) (D : Ends) : List (Value × Nat × (Addr → Value → Option Addr → TS)) → WX
  | [] => Wout
  | (c, i, ts) :: r => fun cls d σ H => ∃ b, PySem.W.exmOne K cls c = some b ∧
      (b = true → ∀ a, H a = none → ts a cls d { nx := fun σ' H' => D.nx (σ'.set i none) H', rt := D.rt, bk := fun σ' H' => D.bk (σ'.set i none) H', ct := fun σ' H' => D.ct (σ'.set i none) H' } (σ.set i (some (.ref a))) H) ∧
      (b = false → wManyAs K Wout D r cls d σ H)
inductive HdsAs (X : Cx) : List ExceptHandler → List (Value × Nat × (Addr → Value → Option Addr → TS)) → Prop
  | nil : HdsAs X [] []
  | cons {x n : Str} {c : Value} {i : Nat} {ts : Addr → Value → Option Addr → TS} {b₀ : Stmt} {suite : List Stmt} {np pos' : Pos} {hds : List ExceptHandler} {l : List (Value × Nat × (Addr → Value → Option Addr → TS))} (hc : Names X x c)
      (hi : X.N[i]? = some n) (hln : X.env.kindOf n = some .local)
      (hsu : ∀ (a : Addr) (oe : Obj) (cls : Value) (d : Option Addr) (pn : List (Addr × Obj)), Zn cls d oe → (∃ vs, oe.data = .fields vs) → PSs (X.suite a ((a, oe) :: pn)) (b₀ :: suite) (ts a cls d)) (r : HdsAs X hds l) :
      HdsAs X (.ExceptHandler (some (.Name x np)) (some n) (b₀ :: suite) pos' :: hds) ((c, i, ts) :: l)
section
variable {X : Cx} {body : List Stmt} {h₀ : ExceptHandler} {hds : List ExceptHandler} {l : List (Value × Nat × (Addr → Value → Option Addr → TS))} {pos : Pos} {tb : WX → TS} {Wout : WX}
theorem ps_try_manyAs (hs : X.stack = X.env :: X.outer) (hf : X.env.frame = some X.env.locals) (hN : X.N.Nodup) (tk : L2N.Takes X Wout)
    (hb : ∀ (W : WX) (pn : List (Addr × Obj)) (xe : Value → Shared → Prop), L2N.Takes (X.tr pn xe) W → PassesOwn (model X.prog X.w) X.A X.env xe → PSs (X.tr pn xe) body (tb W))
    (hh : HdsAs X (h₀ :: hds) l) : PS X (.Try body (h₀ :: hds) [] [] pos) (fun D σ H => tb (wManyAs X.K Wout D l) D σ H) := by
  refine ⟨fun pins s σ H D I h => ?_⟩
  have ok := I.ok
  have hfr : X.A.frames = some (X.env :: X.outer) := by rw [ok.frames, hs]
  refine wpAny_Try_except ?_
  refine wpAny_mono ((hb (wManyAs X.K Wout D l) (X.pn ++ pins) (fun e s₁ => wpAny (model X.prog X.w) X.A (noteFrame e X.env) (fun _ s₂ => wpAny (model X.prog X.w) X.A (setFlight e none) (fun _ s₃ =>
    wpAny (model X.prog X.w) X.A (handleBy e X.env (h₀ :: hds)) (SP X pins D) X.xe s₃) X.xe s₂) X.xe s₁) (fun u s' xx => ?_) PassesOwn.looking).run [] s σ H D (I.toTry _) h) (fun f s1 hsp => ?_) (fun e s1 he => he)
  · -- the catch
    obtain ⟨a, B, sI, pins', σ', H', cls, d, rfl, J', nb, up, sky, na, os, ag, w⟩ := xx
    have J : Inv X pins σ' H' sI := J'.ofTry ok
    have sky' : Sky B (X.env :: X.outer) a (Zn cls d) X.env.locals s'.heap := by rw [← hs]; exact sky
    show wpAny (model X.prog X.w) X.A (noteFrame (.ref a) X.env) _ _ _
    refine Sky.land Zn.steady hfr hf sky' fun h3 fl3 up3 => ?_
    have J3 : Inv X pins σ' H' { s' with heap := h3 } := J.landed nb fl3.1 (up.trans up3) os ag
    obtain ⟨oe3, vs3, he3, hz3, hd3⟩ := fl3.there
    have notFr : ∀ {h : Heap} {o : Obj} {vs : Array Value}, h.FunFrames B (X.env :: X.outer) → h.get? a = some o → o.data = .fields vs → a ∉ frs (X.env :: X.outer) := fun {h o vs} ff e dd hm => by
      obtain ⟨_, o', e', hnf⟩ := ff.mem hm
      rw [e] at e'; cases e'
      exact hnf _ dd
    have nfr := notFr fl3.2.2.1 he3 hd3
    have nL : a ≠ X.env.locals := fun z => nfr (List.mem_filterMap.mpr ⟨X.env, List.mem_cons_self, by rw [hf, z]⟩)
    have nF : a ∉ X.fs := fun hm => by
      obtain ⟨e, he, q⟩ := List.mem_filterMap.mp hm
      exact nfr (List.mem_filterMap.mpr ⟨e, List.mem_cons_of_mem _ he, q⟩)
    have S3 := J3.suite he3 hd3 na nL nF
    have go : ∀ {hds' : List ExceptHandler} {l' : List (Value × Nat × (Addr → Value → Option Addr → TS))}, HdsAs X hds' l' → wManyAs X.K Wout D l' cls d σ' H' →
        wpAny (model X.prog X.w) X.A (handleBy (.ref a) X.env hds') (SP X pins D) X.xe { s' with heap := h3 } := by
      intro hds' l' hk
      induction hk with
      | nil =>
        intro w
        refine wpAny_handleBy_nil ?_
        obtain ⟨k1, k2, k3, oe, vs, T, oT, ts', he, hz, hd, h1, hr⟩ := id fl3
        unfold PySem.passOn
        refine wpAny_bind (wpAny_field he hd h1 ?_)
        rw [if_neg (show ¬ ((Value.ref T == Value.none) = true) from by simp)]
        have fin : wpAny (model X.prog X.w) X.A (setFlight (.ref a) X.env.frame) (fun _ s4 => wpAny (model X.prog X.w) X.A (throw (.ref a) : Sem Flow) (SP X pins D) X.xe s4) X.xe { s' with heap := h3 } := by
          rw [hf]
          refine HandSPX.setFlight_upZ fl3 fun h4 hh4 up4 => wpAny_throw (tk _ _ ?_)
          exact ⟨a, B, sI, pins, σ', H', cls, d, rfl, J, nb, (up.trans up3).trans up4, .inr (.inr (by rw [hs]; exact hh4)), na, os, ag, w⟩
        first
          | exact wpAny_bind (wpAny_pure (wpAny_bind fin))
          | exact wpAny_bind fin
      | @cons x n c i ts b₀ suite np pos' hds2 l2 hc hi hln hsu r ih =>
        intro w
        obtain ⟨b, hb1, hyes, hno⟩ := w
        refine wpAny_handleBy_cons (codeAny_handlers_test ?_) (by intro q; cases q)
        have LT : PySem.W.Looks (model X.prog X.w) h3 (typeOf (.ref a)) cls := fun A Q E s k q => wpAny_typeOf_ref (k _ _ he3) (by rw [hz3.1]; exact q)
        have LM := PySem.W.exm_one (M := model X.prog X.w) (J3.kIn) LT hb1
        have test : ∀ {Q : Value → Shared → Prop} {E : Value → Shared → Prop}, Q c { s' with heap := h3 } → wpAny (model X.prog X.w) (X.A.mark (some (.ref a))) (eval (.Name x np) X.env) Q E { s' with heap := h3 } := fun {Q E} q => by
          obtain ⟨hg, hdbg, hm | ⟨hm, hv, hnn⟩⟩ := hc
          · exact ld_glob (X := X.suite a ((a, oe3) :: (X.pn ++ pins))) S3 hg hm q hdbg
          · exact ld_blt (X := X.suite a ((a, oe3) :: (X.pn ++ pins))) S3 hg hm hv q hnn hdbg
        refine test (LM.here ?_)
        cases b with
        | true =>
          refine codeAny_handlers_suite_as ?_
          refine HandSPX.lands_againZ fl3 fun h4 fl4 up4 => ?_
          have J4 : Inv X pins σ' H' { s' with heap := h4 } := J.landed nb fl4.1 ((up.trans up3).trans up4) os ag
          obtain ⟨oe4, vs4, he4, hz4, hd4⟩ := fl4.there
          have S4 := J4.suite he4 hd4 na nL nF
          refine store_ok (X := X.suite a ((a, oe4) :: (X.pn ++ pins))) (v := .ref a) S4 hN hi (.inl hln) rfl (fun s5 S5 => ?_) (.inr hln)
          refine wpAny_mono ((hsu a oe4 cls d (X.pn ++ pins) hz4 ⟨_, hd4⟩).run [] s5 _ H' _ S5 (hyes rfl a na)) (fun f s6 hsp => ?_) (fun _ _ z => False.elim z)
          have end_ : ∀ {σ6 : L2.St} {H6 : Hp} {Q : Shared → Prop}, Inv (X.suite a ((a, oe4) :: (X.pn ++ pins))) [] σ6 H6 s6 → (∀ s7, Inv X pins (σ6.set i none) H6 s7 → Q s7) →
              wpAny (model X.prog X.w) X.A (do bindName X.env n .none; unbindBehindTheSuite X.env n pos') (fun _ s7 => Q s7) X.xe s6 := fun {σ6 H6 Q} S6 hq => gone_ok (S6.unsuite ok) hN hi hln hq
          cases f with
          | next =>
            obtain ⟨σ6, H6, S6, q6⟩ := hsp
            exact end_ S6 fun s7 J7 => ⟨_, _, J7, q6⟩
          | brk =>
            obtain ⟨σ6, H6, S6, q6⟩ := hsp
            exact end_ S6 fun s7 J7 => ⟨_, _, J7, q6⟩
          | cont =>
            obtain ⟨σ6, H6, S6, q6⟩ := hsp
            exact end_ S6 fun s7 J7 => ⟨_, _, J7, q6⟩
          | ret u =>
            obtain ⟨v6, σ6, H6, S6, r6, q6⟩ := hsp
            exact end_ S6 fun s7 J7 => ⟨_, _, _, J7, r6, q6⟩
        | false =>
          show wpAny _ X.A (handleBy (.ref a) X.env hds2) _ _ _
          exact ih (hno rfl)
    exact go hh w
  · cases f with
    | next =>
      obtain ⟨σ', H', J', q⟩ := hsp
      exact wpAny_execs_nil ⟨σ', H', J'.ofTry ok, q⟩
    | brk =>
      obtain ⟨σ', H', J', q⟩ := hsp
      exact ⟨σ', H', J'.ofTry ok, q⟩
    | cont =>
      obtain ⟨σ', H', J', q⟩ := hsp
      exact ⟨σ', H', J'.ofTry ok, q⟩
    | ret u =>
      obtain ⟨v, σ', H', J', r, q⟩ := hsp
      exact ⟨v, σ', H', J'.ofTry ok, r, q⟩

end
/-! ## defs called there that know the exception -/
structure FnHp (P : Program) (w : World) (K : PySem.W.Frag) (mg : Str → Option Value) (base : Heap) (CX : CXT) (k : Nat) (f : Addr) (fd : FuncData) (ps : List Str) (sp : Addr × Obj → Sp) : Prop where
  len : ∀ p vs H Q E, sp p vs H Q E → vs.length = ps.length
  run : ∀ (A : Around) (outer : List Env) (s : Shared) (H : Hp) (args : Args) (us : List Value) (vs : List V) (Q : VK) (E : XK) (p : Addr × Obj), RoomH k A → Hot1 A p → PinOk outer H s p → Env0 P w K mg base A outer s H → BindsTo s fd args (ps.zip us) → Vals vs us → sp p vs H Q E →
    codeAny (model P w) A (.call (.ref f) args) (CR CX outer P w H s Q E) s
theorem fn_ofHp {CX : CXT} {P : Program} {w : World} {K : PySem.W.Frag} {mg : Str → Option Value} {base : Heap} {k : Nat} {f : Addr} {name qual : Str} {params : Arguments} {body : List Stmt} {scope : Scope} {dV kV doc pm cdv ct oc : Value} {an od : Option Addr}
    {osl : Array (Option Value)} {N ps : List Str} {sp : Addr × Obj → Sp} (lk : K.lookup f = some ⟨oc, od, .func (PySem.W.fnOf name qual params body scope dV kV doc pm an cdv ct), osl⟩) (hcd : PySem.W.codeIn K cdv qual = true) (S : FnScope N ps scope)
    (len : ∀ p vs H Q E, sp p vs H Q E → vs.length = ps.length)
    (hbody : ∀ (A : Around) (outer : List Env) (s : Shared) (H : Hp) (vs : List V) (Q : VK) (E : XK) (p : Addr × Obj), Hot1 A p → RoomH k (A.deeper (envOfC qual scope s.heap.objs.size f cdv)) → sp p vs H Q E →
      ∃ t, PSs (cxH CX P w K mg base N qual scope f cdv A outer s H E p) body t ∧ t { nx := fun _ H' => Q .non H', rt := Q } (L2.start N vs) H) :
    FnHp P w K mg base CX (k + 1) f (PySem.W.fnOf name qual params body scope dV kV doc pm an cdv ct) ps sp := by
  refine ⟨len, fun A outer s H args us vs Q E p hr hot hpin e0 hb r hsp => ?_⟩
  have hl := len _ _ _ _ _ hsp
  have KX : K.In s.heap := e0.mod.kin.keeps fun b o e => (e0.bs b o e).1
  have lim : s.heap.NoLimit := e0.mod.nolimit.keeps fun b o e => (e0.bs b o e).1
  have hkind : ∀ y ∈ ps.zip us, scope.names.lookup y.1 = some .local ∨ (scope.names.lookup y.1 = some .cell ∧ ((cellsFrom (s.heap.objs.size + 1) scope.names []).lookup y.1).isSome = true) := fun ⟨n, v⟩ hy => by
    rcases S.par n (List.of_mem_zip hy).1 with q | q
    · exact .inl q
    · exact .inr ⟨q, PySem.W.cellsFrom_some _ _ _ (.inl q)⟩
  refine codeAny_call_function hr.depth (KX _ _ lk) rfl S.co S.gen rfl (PySem.W.codeRec_of KX hcd) (hb _ _ _ _ ?_)
  refine wpAny_newFunctionEnv_cells S.kind hkind fun env he s1 x => ?_
  subst he
  refine ⟨lim.keeps x.toInCall.keep, codeAny_func ?_⟩
  obtain ⟨t, ht, hq⟩ := hbody A outer s H vs Q E p hot (hr.deeper _) hsp
  have I : Inv (cxH CX P w K mg base N qual scope f cdv A outer s H E p) [] (L2.start N vs) H s1 := inv_startH S hpin e0 hl r x
  refine wpAny_mono (ht.run [] s1 (L2.start N vs) H _ I hq) (fun fl s' hs => ?_) fun e s' hs => hs
  have fin : ∀ {σ' : St} {H' : Hp} {v : V} {u : Value}, Inv (cxH CX P w K mg base N qual scope f cdv A outer s H E p) [] σ' H' s' → RelV v u → Q v H' → CE outer P w H s Q u s' :=
    fun {σ' H' v u} J rv q => ⟨v, H', J.os, J.bare, J.base, J.hok, rv, q⟩
  cases fl with
  | ret u =>
    obtain ⟨v, σ', H', J, rv, q⟩ := hs
    exact fin J rv q
  | next =>
    obtain ⟨σ', H', J, q⟩ := hs
    exact fin (v := V.non) (u := Value.none) J rfl q
  | brk =>
    obtain ⟨_, _, _, q⟩ := hs
    exact False.elim q
  | cont =>
    obtain ⟨_, _, _, q⟩ := hs
    exact False.elim q


section
variable {X : Cx} {CX : CXT} {k : Nat} {f C : Addr} {fd : FuncData} {ps : List Str} {E : L2.St → XK} {x m : Str} {q pos apos : Pos} {e o : Expr} {es : List Expr} {ta : TE} {t : TA}
theorem run_fnHp {pins : List (Addr × Obj)} {σ : St} {H : Hp} {s : Shared} {Q : VK} {us : List Value} {vs : List V} {sp : Addr × Obj → Sp} {p : Addr × Obj} (F : FnHp X.prog X.w X.K X.mg X.base CX k f fd ps sp) (hr : RoomH k X.A) (hot : Hot1 X.A p) (hp : p ∈ X.pn) (hb : Binds X.K fd ps []) (hx : PassesAt CX X σ (E σ))
    (I : Inv X pins σ H s) (r : Vals vs us) (h : sp p vs H Q (E σ)) : wpAny (model X.prog X.w) X.A (call (.ref f) us) (EP X pins σ Q) X.xe s := by
  have hl : us.length = ps.length := by rw [← r.length]; exact F.len _ _ _ _ _ h
  have b := hb s us I.kIn (by rw [List.append_nil]; exact hl)
  rw [List.append_nil] at b
  have P1 := I.pin p (List.mem_append_left _ hp)
  have hpin : PinOk X.stack H s p := ⟨P1.1, P1.2.1, fun hm => (List.mem_cons.mp (I.stkSub p.1 hm)).elim P1.2.2.1 P1.2.2.2.1, P1.2.2.2.2⟩
  refine wpAny_call (codeAny_mono (F.run X.A X.stack s H ⟨us, []⟩ us vs Q (E σ) p hr hot hpin I.env0 b r h) fun r s' hq => ?_)
  cases r with
  | error e => exact hx pins H s e s' I hq
  | ok fl =>
    cases fl with
    | ret u => exact I.after hq
    | next => exact False.elim hq
    | brk => exact False.elim hq
    | cont => exact False.elim hq
theorem pe_callHp {sp : Addr × Obj → Sp} {p : Addr × Obj} (F : FnHp X.prog X.w X.K X.mg X.base CX k f fd ps sp) (hr : RoomH k X.A) (hot : Hot1 X.A p) (hp : p ∈ X.pn) (hg : Gl X x) (hm : X.mg x = some (.ref f)) (hk : PySem.W.keepIn X.K (.ref f) = true) (hb : Binds X.K fd ps []) (hx : ∀ σ, PassesAt CX X σ (E σ))
    (ha : PA X (e :: es) t) (hdb : (x == ("__debug__" : Str)) = false := by decide) (he : starEach (e :: es) X.env = (false, eval e X.env) :: starEach es X.env := by rfl) (hpl : (backTo pos (starEach es X.env)).any (·.1) = false := by rfl) :
    PE X (.Call (.Name x q) (e :: es) [] pos) (tCallS (sp p) E t) := by
  refine ⟨fun pins s σ H Q I h => ?_⟩
  refine wpAny_Call_Name_kw (ld_glob I hg hm ?_ hdb)
  refine PySem.W.callWith_K (h₀ := X.base) I.ok.mod.kin hk (thn (ha.run pos pins s σ H _ I h) fun us s1 ⟨vs, H1, I1, r, q⟩ => ⟨I1.kIn, ?_⟩) he hpl
  exact run_fnHp F hr hot hp hb (hx σ) I1 r q

end
/-- isinstance(e, c), e the exception -/
theorem call_isEp {X : Cx} {p : Addr × Obj} {D : Addr} (C : ExcC X.K D) (hz : Zc (.ref D) none p.2) (hf : ∃ vs, p.2.data = .fields vs) (hp : p ∈ X.pn) : CallR X (.builtin "isinstance") (rIsE X.K D p.1) := by
  intro pins s σ H xs us Q I r h
  obtain ⟨c, cv, b, rfl, hcv, e, q⟩ := h
  cases r with
  | cons rx rr =>
    cases rr with
    | cons rt rr =>
      cases rr
      cases rx
      have ec := hcv _ rt
      subst ec
      obtain ⟨hget, _⟩ := I.pin p (List.mem_append_left _ hp)
      obtain ⟨vs, hv⟩ := hf
      have J : PySem.W.InstAt s.heap p.1 p.2 D none := by
        obtain ⟨a, oe⟩ := p
        obtain ⟨oc, od, oda, osl⟩ := oe
        obtain ⟨h1, h2⟩ := hz
        dsimp only at h1 h2 hv
        subst h1 h2 hv
        exact ⟨hget, rfl, rfl, trivial⟩
      exact PySem.W.kia_one (PySem.W.handS_kitx_exc C.hg C.hk C.hs C.hd C.ha C.hn C.ht C.hm) I.kIn J e (fun z => nomatch z) fun tk => ⟨.bl b, H, I.kept (t' := tk) fun _ _ z => z, rfl, q⟩
end PF
namespace PF
open PySem PySem.Spec PyProof.Rows L2
/-! ## the rules in short -/
abbrev W0 : WX := fun _ _ _ _ => False
theorem takes0 {X : Cx} : L2N.Takes X W0 := fun _ _ x => by
  obtain ⟨_, _, _, _, _, _, _, _, _, _, _, _, _, _, _, _, z⟩ := x
  exact z.elim
theorem fn_stuck {P : Program} {w : World} {K : PySem.W.Frag} {mg : Str → Option Value} {base : Heap} {T : List (Addr × Str)} {k : Nat} {f : Addr} {fd : FuncData} {ps : List Str} :
    FnOk P w K mg base (L2N.CX P w) k f fd ps (spF K mg T ps.length fun _ => .stuck) :=
  ⟨fun vs H Q E h => h.elim fun _ h => h.elim fun _ h => h.1, fun A outer s H args us vs Q E hr e0 hb r h => by
    obtain ⟨G, sls, hvl, R, ha, p⟩ := h
    exact p.elim⟩
section
variable {X : Cx} {T : List (Addr × Str)} {W : WX} {a b c e : Expr} {es : List Expr} {fa fb fc f : EF} {ga : AF} {pos p : Pos} {k : Nat}
theorem hu64 (hr : Room k X.A) : X.A.units + 64 < cLine := by have := hr.un; omega
theorem hu65 (hr : Room k X.A) : X.A.units + 65 < cLine := by have := hr.un; omega
theorem de_add (ha : DE X T W a fa) (hb : DE X T W b fb) : DE X T W (.BinOp a .Add b pos) (eOp2 gAdd fa fb) := de_op2 op_addX gAdd_ok ha hb
theorem de_sub (ha : DE X T W a fa) (hb : DE X T W b fb) : DE X T W (.BinOp a .Sub b pos) (eOp2 gSub fa fb) := de_op2 op_sub gSub_ok ha hb
theorem de_mul (ha : DE X T W a fa) (hb : DE X T W b fb) : DE X T W (.BinOp a .Mult b pos) (eOp2 gMul fa fb) := de_op2 op_mul gMul_ok ha hb
theorem de_div (ha : DE X T W a fa) (hb : DE X T W b fb) : DE X T W (.BinOp a .FloorDiv b pos) (eOp2 gDiv fa fb) := de_op2 op_fdivW gDiv_ok ha hb
theorem de_mod (ha : DE X T W a fa) (hb : DE X T W b fb) : DE X T W (.BinOp a .Mod b pos) (eOp2 gMod fa fb) := de_op2 op_mod gMod_ok ha hb
theorem de_pow (ha : DE X T W a fa) (hb : DE X T W b fb) : DE X T W (.BinOp a .Pow b pos) (eOp2 gPow fa fb) := de_op2 op_pow gPow_ok ha hb
theorem de_neg (ha : DE X T W a fa) : DE X T W (.UnaryOp .USub a pos) (eOp1 gNeg fa) := de_un un_neg gNeg_ok ha
theorem de_lt (ha : DE X T W a fa) (hb : DE X T W b fb) : DE X T W (.Compare a [.Lt] [b] pos) (eOp2 gLt fa fb) := de_cmp op_lt gLt_ok (nomark _) ha hb
theorem de_le (ha : DE X T W a fa) (hb : DE X T W b fb) : DE X T W (.Compare a [.LtE] [b] pos) (eOp2 gLe fa fb) := de_cmp op_le gLe_ok (nomark _) ha hb
theorem de_gt (ha : DE X T W a fa) (hb : DE X T W b fb) : DE X T W (.Compare a [.Gt] [b] pos) (eOp2 gGt fa fb) := de_cmp op_gt gGt_ok (nomark _) ha hb
theorem de_ge (ha : DE X T W a fa) (hb : DE X T W b fb) : DE X T W (.Compare a [.GtE] [b] pos) (eOp2 gGe fa fb) := de_cmp op_ge gGe_ok (nomark _) ha hb
theorem de_eq (hr : Room k X.A) (ha : DE X T W a fa) (hb : DE X T W b fb) : DE X T W (.Compare a [.Eq] [b] pos) (eOp2 gEq fa fb) := de_cmp (op_eqD (hu64 hr)) gEq_ok (nomark _) ha hb
theorem de_ne (hr : Room k X.A) (ha : DE X T W a fa) (hb : DE X T W b fb) : DE X T W (.Compare a [.NotEq] [b] pos) (eOp2 gNe fa fb) := de_cmp (op_neD (hu64 hr)) gNe_ok (nomark _) ha hb
theorem de_is (ha : DE X T W a fa) (hb : DE X T W b fb) : DE X T W (.Compare a [.Is] [b] pos) (eOp2 gIs fa fb) := de_cmp op_isX gIs_ok (nomark _) ha hb
theorem de_isnot (ha : DE X T W a fa) (hb : DE X T W b fb) : DE X T W (.Compare a [.IsNot] [b] pos) (eOp2 gIsNot fa fb) := de_cmp op_isNotX gIsNot_ok (nomark _) ha hb
theorem de_in (hr : Room k X.A) (ha : DE X T W a fa) (hb : DE X T W b fb) (hm : behindInMarks .In b = false := by rfl) : DE X T W (.Compare a [.In] [b] pos) (eOp2 gIn fa fb) := de_cmp (op_inX (hu65 hr)) gIn_ok hm ha hb
theorem de_notin (hr : Room k X.A) (ha : DE X T W a fa) (hb : DE X T W b fb) (hm : behindInMarks .NotIn b = false := by rfl) : DE X T W (.Compare a [.NotIn] [b] pos) (eOp2 gNotIn fa fb) := de_cmp (op_notInX (hu65 hr)) gNotIn_ok hm ha hb
theorem dt_lt (ha : DE X T W a fa) (hb : DE X T W b fb) : DT X T W (.Compare a [.Lt] [b] pos) (tCmp' gLt fa fb) := dt_cmp op_lt gLt_ok (nomark _) ha hb
theorem dt_le (ha : DE X T W a fa) (hb : DE X T W b fb) : DT X T W (.Compare a [.LtE] [b] pos) (tCmp' gLe fa fb) := dt_cmp op_le gLe_ok (nomark _) ha hb
theorem dt_gt (ha : DE X T W a fa) (hb : DE X T W b fb) : DT X T W (.Compare a [.Gt] [b] pos) (tCmp' gGt fa fb) := dt_cmp op_gt gGt_ok (nomark _) ha hb
theorem dt_ge (ha : DE X T W a fa) (hb : DE X T W b fb) : DT X T W (.Compare a [.GtE] [b] pos) (tCmp' gGe fa fb) := dt_cmp op_ge gGe_ok (nomark _) ha hb
theorem dt_eq (hr : Room k X.A) (ha : DE X T W a fa) (hb : DE X T W b fb) : DT X T W (.Compare a [.Eq] [b] pos) (tCmp' gEq fa fb) := dt_cmp (op_eqD (hu64 hr)) gEq_ok (nomark _) ha hb
theorem dt_ne (hr : Room k X.A) (ha : DE X T W a fa) (hb : DE X T W b fb) : DT X T W (.Compare a [.NotEq] [b] pos) (tCmp' gNe fa fb) := dt_cmp (op_neD (hu64 hr)) gNe_ok (nomark _) ha hb
theorem dt_is (ha : DE X T W a fa) (hb : DE X T W b fb) : DT X T W (.Compare a [.Is] [b] pos) (tCmp' gIs fa fb) := dt_cmp op_isX gIs_ok (nomark _) ha hb
theorem dt_isnot (ha : DE X T W a fa) (hb : DE X T W b fb) : DT X T W (.Compare a [.IsNot] [b] pos) (tCmp' gIsNot fa fb) := dt_cmp op_isNotX gIsNot_ok (nomark _) ha hb
theorem dt_in (hr : Room k X.A) (ha : DE X T W a fa) (hb : DE X T W b fb) (hm : behindInMarks .In b = false := by rfl) : DT X T W (.Compare a [.In] [b] pos) (tCmp' gIn fa fb) := dt_cmp (op_inX (hu65 hr)) gIn_ok hm ha hb
theorem dt_notin (hr : Room k X.A) (ha : DE X T W a fa) (hb : DE X T W b fb) (hm : behindInMarks .NotIn b = false := by rfl) : DT X T W (.Compare a [.NotIn] [b] pos) (tCmp' gNotIn fa fb) := dt_cmp (op_notInX (hu65 hr)) gNotIn_ok hm ha hb
theorem de_sub_ix (ha : DE X T W a fa) (hb : DE X T W b fb) (hs : PlainIx b := by exact fun _ _ => rfl) : DE X T W (.Subscript a b pos) (eOp2 gIx fa fb) := de_ix ix_seq gIx_ok hs ha hb
theorem de_cut {lo hi : Option Expr} {l u : OF} {p2 : Pos} (h : DE X T W e f) (hl : DO X T W lo l) (hu : DO X T W hi u) : DE X T W (.Subscript e (.Slice lo hi none p2) pos) (eSl gSl f l u) := de_slice sl_X gSl_ok h hl hu
theorem de_le3 (ha : DE X T W a fa) (hb : DE X T W b fb) (hc : DE X T W c fc) : DE X T W (.Compare a [.LtE, .LtE] [b, c] pos) (eChain gLe gLe fa fb fc) :=
  de_chain (op := .LtE) (op' := .LtE) gLe_ok gLe_ok (pe_chain op_le op_le (de_settle ha) (de_settle hb) (de_settle hc) (by show lastMarks [_, _] [_, _] = false; simp only [lastMarks]; exact nomark _))
theorem dt_le3 (ha : DE X T W a fa) (hb : DE X T W b fb) (hc : DE X T W c fc) : DT X T W (.Compare a [.LtE, .LtE] [b, c] pos) (tChain' gLe gLe fa fb fc) :=
  dt_chain (op := .LtE) (op' := .LtE) gLe_ok gLe_ok (pt_chain op_le op_le (de_settle ha) (de_settle hb) (de_settle hc) (by show lastMarks [_, _] [_, _] = false; simp only [lastMarks]; exact nomark _))
theorem de_lelt (ha : DE X T W a fa) (hb : DE X T W b fb) (hc : DE X T W c fc) : DE X T W (.Compare a [.LtE, .Lt] [b, c] pos) (eChain gLe gLt fa fb fc) :=
  de_chain (op := .LtE) (op' := .Lt) gLe_ok gLt_ok (pe_chain op_le op_lt (de_settle ha) (de_settle hb) (de_settle hc) (by show lastMarks [_, _] [_, _] = false; simp only [lastMarks]; exact nomark _))
theorem dt_lelt (ha : DE X T W a fa) (hb : DE X T W b fb) (hc : DE X T W c fc) : DT X T W (.Compare a [.LtE, .Lt] [b, c] pos) (tChain' gLe gLt fa fb fc) :=
  dt_chain (op := .LtE) (op' := .Lt) gLe_ok gLt_ok (pt_chain op_le op_lt (de_settle ha) (de_settle hb) (de_settle hc) (by show lastMarks [_, _] [_, _] = false; simp only [lastMarks]; exact nomark _))
/-! built-in functions -/
theorem de_len (hm : X.mg "len" = none) (ha : DE X T W e f) (hg : Gl X "len" := by rfl) (he : starEach [e] X.env = [(false, eval e X.env)] := by rfl) : DE X T W (.Call (.Name "len" p) [e] [] pos) (eCall gLen (aCons f aNil)) :=
  de_callR (pe_callB (call_len.or call_lenD) hg hm PySem.boot_len (da_cons ha da_nil he) (he := he)) gLen_ok
theorem de_isi (hm : X.mg "isinstance" = none) (ha : DA X T W (e :: es) ga) (hg : Gl X "isinstance" := by rfl) (he : starEach (e :: es) X.env = (false, eval e X.env) :: starEach es X.env := by rfl) (hpl : (backTo pos (starEach es X.env)).any (·.1) = false := by rfl) : DE X T W (.Call (.Name "isinstance" p) (e :: es) [] pos) (eCall gIsi ga) :=
  de_callR (pe_callB call_isiX hg hm boot_isinstance ha (he := he) (hpl := hpl)) gIsi_ok
theorem de_all (hc : X.calm = true) (hm : X.mg "all" = none) (ha : DE X T W e f) (hg : Gl X "all" := by rfl) (he : starEach [e] X.env = [(false, eval e X.env)] := by rfl) : DE X T W (.Call (.Name "all" p) [e] [] pos) (eCall gAll (aCons f aNil)) :=
  de_callR (pe_callB (cr_all hc) hg hm boot_all (da_cons ha da_nil he) (he := he)) gAll_ok
theorem de_any (hc : X.calm = true) (hm : X.mg "any" = none) (ha : DE X T W e f) (hg : Gl X "any" := by rfl) (he : starEach [e] X.env = [(false, eval e X.env)] := by rfl) : DE X T W (.Call (.Name "any" p) [e] [] pos) (eCall gAny (aCons f aNil)) :=
  de_callR (pe_callB (cr_any hc) hg hm boot_any (da_cons ha da_nil he) (he := he)) gAny_ok
theorem de_sum (hc : X.calm = true) (hm : X.mg "sum" = none) (ha : DE X T W e f) (hg : Gl X "sum" := by rfl) (he : starEach [e] X.env = [(false, eval e X.env)] := by rfl) : DE X T W (.Call (.Name "sum" p) [e] [] pos) (eCall gSum (aCons f aNil)) :=
  de_callR (pe_callB (cr_sum hc) hg hm boot_sum (da_cons ha da_nil he) (he := he)) gSum_ok
theorem de_max (hc : X.calm = true) (hm : X.mg "max" = none) (ha : DE X T W e f) (hg : Gl X "max" := by rfl) (he : starEach [e] X.env = [(false, eval e X.env)] := by rfl) : DE X T W (.Call (.Name "max" p) [e] [] pos) (eCall gMax (aCons f aNil)) :=
  de_callR (pe_callB (cr_max hc) hg hm boot_max (da_cons ha da_nil he) (he := he)) gMax_ok
theorem de_min (hc : X.calm = true) (hm : X.mg "min" = none) (ha : DE X T W e f) (hg : Gl X "min" := by rfl) (he : starEach [e] X.env = [(false, eval e X.env)] := by rfl) : DE X T W (.Call (.Name "min" p) [e] [] pos) (eCall gMin (aCons f aNil)) :=
  de_callR (pe_callB (cr_min hc) hg hm boot_min (da_cons ha da_nil he) (he := he)) gMin_ok
theorem de_max2 (hc : X.calm = true) (hm : X.mg "max" = none) (ha : DA X T W [a, b] ga) (hg : Gl X "max" := by rfl) (he : starEach [a, b] X.env = (false, eval a X.env) :: starEach [b] X.env := by rfl) (hpl : (backTo pos (starEach [b] X.env)).any (·.1) = false := by rfl) : DE X T W (.Call (.Name "max" p) [a, b] [] pos) (eCall gMax2 ga) :=
  de_callR (pe_callB (call_max2 hc) hg hm boot_max ha (he := he) (hpl := hpl)) gMax2_ok
theorem de_min2 (hc : X.calm = true) (hm : X.mg "min" = none) (ha : DA X T W [a, b] ga) (hg : Gl X "min" := by rfl) (he : starEach [a, b] X.env = (false, eval a X.env) :: starEach [b] X.env := by rfl) (hpl : (backTo pos (starEach [b] X.env)).any (·.1) = false := by rfl) : DE X T W (.Call (.Name "min" p) [a, b] [] pos) (eCall gMin2 ga) :=
  de_callR (pe_callB (call_min2 hc) hg hm boot_min ha (he := he) (hpl := hpl)) gMin2_ok
theorem de_toInt (hm : X.mg "int" = none) (ha : DE X T W e f) (hg : Gl X "int" := by rfl) (he : starEach [e] X.env = [(false, eval e X.env)] := by rfl) : DE X T W (.Call (.Name "int" p) [e] [] pos) (eCall gInt (aCons f aNil)) :=
  de_callR (pe_callTy call_int1 hg hm boot_int (da_cons ha da_nil he) (he := he)) gInt_ok
theorem de_toStr (hm : X.mg "str" = none) (ha : DE X T W e f) (hg : Gl X "str" := by rfl) (he : starEach [e] X.env = [(false, eval e X.env)] := by rfl) : DE X T W (.Call (.Name "str" p) [e] [] pos) (eCall gStrI (aCons f aNil)) :=
  de_callR (pe_callTy call_str_int hg hm boot_str (da_cons ha da_nil he) (he := he)) gStrI_ok
theorem de_toList (hm : X.mg "list" = none) (ha : DE X T W e f) (hg : Gl X "list" := by rfl) (he : starEach [e] X.env = [(false, eval e X.env)] := by rfl) : DE X T W (.Call (.Name "list" p) [e] [] pos) (eCall gList (aCons f aNil)) :=
  de_callR (pe_callTy call_list_of hg hm boot_list (da_cons ha da_nil he) (he := he)) gList_ok
theorem de_toTuple (hm : X.mg "tuple" = none) (ha : DE X T W e f) (hg : Gl X "tuple" := by rfl) (he : starEach [e] X.env = [(false, eval e X.env)] := by rfl) : DE X T W (.Call (.Name "tuple" p) [e] [] pos) (eCall gTuple (aCons f aNil)) :=
  de_callR (pe_callTy call_tuple_of hg hm boot_tuple (da_cons ha da_nil he) (he := he)) gTuple_ok
/-! comprehensions -/
theorem de_lc {elt tg iter : Expr} {ifs : List Expr} {scope : Scope} {own : List (Str × Nat)} {fi : IF} {p : Pat} {tt : TF} {te : EF} (hc : X.calm = true) (hN : X.N.Nodup) (hi : DI X T W tg iter fi) (ok : BlkOk X.N X.env.scope scope own)
    (hg : ∀ (s : Shared) (H : Hp) (C : Addr) (cl : List (Str × Addr)) (fp : List Addr), DG (X.blk s H scope (compEnvC scope cl C X.env) fp) T tg p) (ht : ∀ (s : Shared) (H : Hp) (C : Addr) (cl : List (Str × Addr)) (fp : List Addr), DTs (X.blk s H scope (compEnvC scope cl C X.env) fp) T ifs tt)
    (he : ∀ (s : Shared) (H : Hp) (C : Addr) (cl : List (Str × Addr)) (fp : List Addr), DE (X.blk s H scope (compEnvC scope cl C X.env) fp) T W0 elt te) (hin : (patIx p).all (own.map (·.2)).contains = true := by decide)
    (hs : ∀ x, foldedSetIterable iter X.env x = pure x := by intro _; rfl) : DE X T W (.ListComp elt [⟨tg, iter, ifs, 0⟩] scope pos) (eComp fi p (own.map (·.2)) tt te) :=
  pe_of (pe_lc hc hN hi ok hg ht (fun s H C cl fp => de_settle (he s H C cl fp)) hs) fun σ H Q _ h => imp_lc hin σ H Q h
theorem ds_setLc {i : Nat} {y : Str} {py spos : Pos} {elt tg iter : Expr} {ifs : List Expr} {scope : Scope} {own : List (Str × Nat)} {fi : IF} {p : Pat} {tt : TF} {te : EF} (hc : X.calm = true) (hN : X.N.Nodup) (hy : X.N[i]? = some y) (hyl : X.env.scope.names.lookup y = some .local)
    (hsw : swapsWith (.ListComp elt [⟨tg, iter, ifs, 0⟩] scope pos) (some (.Name y py)) spos.line X.env = pure true) (hi : DI X T W tg iter fi) (ok : BlkOk X.N X.env.scope scope own)
    (hg : ∀ (s : Shared) (H : Hp) (C : Addr) (cl : List (Str × Addr)) (fp : List Addr), DG (X.blk s H scope (compEnvC scope cl C X.env) fp) T tg p) (ht : ∀ (s : Shared) (H : Hp) (C : Addr) (cl : List (Str × Addr)) (fp : List Addr), DTs (X.blk s H scope (compEnvC scope cl C X.env) fp) T ifs tt)
    (he : ∀ (s : Shared) (H : Hp) (C : Addr) (cl : List (Str × Addr)) (fp : List Addr), DE (X.blk s H scope (compEnvC scope cl C X.env) fp) T W0 elt te) (hin : (patIx p).all (own.map (·.2)).contains = true := by decide)
    (hs : ∀ x, foldedSetIterable iter X.env x = pure x := by intro _; rfl) : DS X T W (.Assign [.Name y py] (.ListComp elt [⟨tg, iter, ifs, 0⟩] scope pos) spos) (sSet i (eComp fi p (own.map (·.2)) tt te)) :=
  ds_set (ps_of (ps_setLc hc hN hy hyl hsw hi ok hg ht (fun s H C cl fp => de_settle (he s H C cl fp)) hs) fun σ H D _ h => imp_lc hin σ H _ h)
/-! statements -/
theorem ds_name {i : Nat} {x : Str} {pos' : Pos} (hN : X.N.Nodup) (h : DE X T W e f) (hi : X.N[i]? = some x := by rfl) (hx : Loc X.env.scope x := by first | exact Or.inl rfl | exact Or.inr rfl) (hs : swapsWith e (some (.Name x pos')) pos.line X.env = pure false := by rfl) (hf : X.fn x = true ∨ X.env.scope.names.lookup x = some .local := by first | exact .inl rfl | exact .inr rfl | assumption) :
    DS X T W (.Assign [.Name x pos'] e pos) (sSet i f) := ds_set (ps_set hN hi hx h hs hf)
theorem ds_unpack {tg : Expr} {pt : Pat} (h : DE X T W e f) (hg : DG X T tg pt) (hs : swapsWithSole [tg] e pos.line X.env = pure false := by rfl) (hw : swappedStores [tg] e X.env = pure none := by rfl)
    (h1 : (assignEach [tg] X.env).map (·.2) = [assign tg X.env] := by rfl) : DS X T W (.Assign [tg] e pos) (sPat pt f) := ds_pat (ps_asg (de_settle h) hg hs hw h1)
theorem dg_name {i : Nat} {x : Str} (hN : X.N.Nodup) (hi : X.N[i]? = some x := by rfl) (hx : Loc X.env.scope x := by first | exact Or.inl rfl | exact Or.inr rfl) (hf : X.fn x = true ∨ X.env.scope.names.lookup x = some .local := by first | exact .inl rfl | exact .inr rfl | assumption) : DG X T (.Name x pos) (.nm i) := dg_nm (pg_name hN hi hx hf)
/-- an own exception class -/
structure EClass (K : PySem.W.Frag) (mg : Str → Option Value) (x : Str) (C : Addr) : Prop where
  g : mg x = some (.ref C)
  x : PySem.W.excIn K C [Value.type "ValueError", Value.type "Exception", Value.type "BaseException", Value.type "object"] "ValueError.__new__" = true
  k : PySem.W.keepIn K (.ref C) = true
  b : PySem.W.subIn K (.ref C) (.type "BaseException") = some true
  t : PySem.W.typeIn K (.ref C) = some (.type "type")
theorem ds_raiseC {x m : Str} {C : Addr} {j : Nat} {p2 pos' : Pos} (hc : X.calm = true) (tk : L2N.Takes X W) (E : EClass X.K X.mg x C) (hg : Gl X x := by rfl) (hdb : (x == ("__debug__" : Str)) = false := by decide) :
    DS X T W (.Raise (some (.Call (.Name x p) [.Constant (.str m) j p2] [] pos)) none pos') (sRaise x) :=
  ds_raise E.g (L2N.ps_raise hc tk (L2N.pmk_own PySem.F.excBase_ValueError E.x E.g E.k (raises_own E.b E.t) hg hdb))
end
end PF
namespace PF
open PySem PySem.Spec PyProof.Rows L2 HotX L2H
/-! ## texts -/
def toStrs : List D → Option (List Str)
  | [] => some []
  | .str i :: ds => (toStrs ds).map (i :: ·)
  | _ :: _ => none
theorem toStrs_eq : ∀ {ds : List D} {ns : List Str}, toStrs ds = some ns → ds = ns.map D.str
  | [], ns, e => by cases Option.some.inj e; rfl
  | .str i :: ds, ns, e => by
    obtain ⟨ms, e1, rfl⟩ := Option.map_eq_some_iff.mp e
    rw [toStrs_eq e1]
    rfl
  | .non :: _, _, e => by cases e
  | .bl _ :: _, _, e => by cases e
  | .int _ :: _, _, e => by cases e
  | .tup _ :: _, _, e => by cases e
  | .lst _ :: _, _, e => by cases e
  | .dK _ :: _, _, e => by cases e
  | .dT _ :: _, _, e => by cases e
  | .ob _ _ :: _, _, e => by cases e
  | .vv _ :: _, _, e => by cases e
theorem RepL.strs {K : PySem.W.Frag} {G : Hp} {ns : List Str} {vs : List V} (h : RepL K G (ns.map D.str) vs) : vs = ns.map V.str := by
  induction ns generalizing vs with
  | nil => cases h; rfl
  | cons n ns ih =>
    cases h with
    | cons h r =>
      cases h
      rw [ih r]
      rfl
theorem RepL.ofStrs {K : PySem.W.Frag} {G : Hp} : ∀ (ns : List Str), RepL K G (ns.map D.str) (ns.map V.str)
  | [] => .nil
  | n :: ns => .cons (.str n) (RepL.ofStrs ns)
/-- a text's method with one argument -/
def eM1 (g : Str → D → Option Op) (fo f : EF) : EF := fun en => (settle (fo en)).bind fun o1 en1 => match view o1 en1 with
  | some (.str a) => (settle (f en1)).bind fun o2 en2 => ofO ((view o2 en2).bind (g a)) en2
  | _ => .stuck
def gSplit (a : Str) : D → Option Op
  | .str b => if !(b.length == 0) && decide (a.length + 2 ≤ SZ) then some (.fresh (.lst ((Txt.split a b).map D.str))) else none
  | _ => none
def joinS (a : Str) (ds : List D) : Option Op := (toStrs ds).bind fun ys => if (ys.map (·.length)).sum + ys.length * a.length ≤ 16777216 then some (.val (.str (Txt.join a ys))) else none
def gJoin (a : Str) : D → Option Op
  | .lst ds => joinS a ds
  | .tup ds => joinS a ds
  | _ => none
section
variable {X : Cx} {T : List (Addr × Str)} {W : WX} {o e : Expr} {fo f : EF} {pos apos : Pos}
theorem de_m1 {r : V → List V → Hp → VK → Prop} {g : Str → D → Option Op} (h : PE X e (tM1 r (tE X.K X.mg T W fun en => settle (fo en)) (tE X.K X.mg T W fun en => settle (f en))))
    (ok : ∀ (G H : Hp) (a : Str) (d : D) (v : V) (o : Op) (Q : VK), Sub G H → HF X.K H → RepV X.K G H d v → g a d = some o → (∀ v H', Out X.K G H o v H' → Q v H') → r (.str a) [v] H Q) : DE X T W e (eM1 g fo f) :=
  pe_of h fun σ H Q _ ⟨G, en, R, p⟩ => by
    refine ⟨G, en, R, stepE R p fun o1 en1 v1 H1 G1 R1 ro1 n1 s1 p1 => ?_⟩
    split at p1
    · rename_i a ev
      cases repV_str (view_ok R1 ro1 ev)
      refine ⟨⟨a, rfl⟩, G1, en1, R1, stepE R1 p1 fun o2 en2 v2 H2 G2 R2 ro2 n2 s2 p2 => ?_⟩
      obtain ⟨o', eo, q⟩ := fin_out R2 p2
      obtain ⟨d, e1, eg⟩ := Option.bind_eq_some_iff.mp eo
      exact ok G2 H2 a d v2 o' _ R2.sub R2.hf (view_ok R2 ro2 e1) eg q
    · exact p1.elim
theorem de_split (ho : DE X T W o fo) (he : DE X T W e f) (hs : starEach [e] X.env = [(false, eval e X.env)] := by rfl) (hbase : attributeBase o "split" X.env (eval o X.env) = eval o X.env := by rfl) (hline : (apos.endLine == pos.line) = true := by rfl) :
    DE X T W (.Call (.Attribute o "split" apos) [e] [] pos) (eM1 gSplit fo f) :=
  de_m1 (pe_split (de_settle ho) (de_settle he) hs hbase hline) fun G H a d v o Q s hf h eg q => by
    unfold gSplit at eg
    split at eg
    · obtain ⟨c, rfl⟩ := ite_some eg
      cases repV_str h
      obtain ⟨c1, c2⟩ := Bool.and_eq_true_iff.mp c
      exact ⟨a, _, rfl, rfl, by simpa using c1, by rw [sz_eq]; exact of_decide_eq_true c2, fun p hp => q _ _ (.newf hp (.lst (RepL.ofStrs _)))⟩
    · cases eg
theorem de_join (ho : DE X T W o fo) (he : DE X T W e f) (hs : starEach [e] X.env = [(false, eval e X.env)] := by rfl) (hbase : attributeBase o "join" X.env (eval o X.env) = eval o X.env := by rfl) (hline : (apos.endLine == pos.line) = true := by rfl) :
    DE X T W (.Call (.Attribute o "join" apos) [e] [] pos) (eM1 gJoin fo f) :=
  de_m1 (pe_join (de_settle ho) (de_settle he) hs hbase hline) fun G H a d v o Q s hf h eg q => by
    unfold gJoin at eg
    split at eg
    · obtain ⟨ys, e1, e2⟩ := Option.bind_eq_some_iff.mp eg
      obtain ⟨c, rfl⟩ := ite_some e2
      cases toStrs_eq e1
      obtain ⟨p, xs, rfl, hp, rl⟩ := repV_lst s h
      cases rl.strs
      exact ⟨a, p, ys, rfl, rfl, .inl hp, c, q _ _ (.same (.str _))⟩
    · obtain ⟨ys, e1, e2⟩ := Option.bind_eq_some_iff.mp eg
      obtain ⟨c, rfl⟩ := ite_some e2
      cases toStrs_eq e1
      obtain ⟨p, xs, rfl, hp, rl⟩ := repV_tup s h
      cases rl.strs
      exact ⟨a, p, ys, rfl, rfl, .inr hp, c, q _ _ (.same (.str _))⟩
    · cases eg
end
/-! ## within an except suite -/
section
variable {prog : Program} {w : World} {A : Around} {E : Value → Shared → Prop} {s : Shared}
theorem next_list_end_hot {it l x1 : Addr} {i : Nat} {items : Array Value} {Q : Option Value → Shared → Prop} (hot : HotAt A x1 s.heap)
    (hit : s.heap.IsListIter it l i) (hl : s.heap.IsList l items) (hx : items[i]? = none)
    (hQ : ∀ h', (∀ b o, b ≠ it → s.heap.get? b = some o → h'.get? b = some o) → Q none { s with heap := h' }) : wpAny (model prog w) A (pyNext (.ref it)) Q E s := by
  obtain ⟨o, ho, hc, hd⟩ := id hit
  obtain ⟨ol, hol, _, nl, hdl⟩ := hl
  have ne : x1 ≠ it := hot_ne hot ho fun vs e z => by
    rw [hd] at e
    cases e
    simp at z
  unfold pyNext
  refine wpAny_bind (wpAny_attempt (wpAny_callSpecial?_slot (name := Str.ofString "__next__") hit.typeIs slot_listiter_next
    (wpAny_call_entry slot_listiter_next hit.typeIs entry_listiter_next ?_ (args_listiter_next _))))
  show wpAny _ _ (field (.ref it) 0 >>= _) _ _ s
  refine wpAny_bind (wpAny_field ho hd (x := .ref l) rfl ?_)
  show wpAny _ _ (if (Value.ref l == Value.none) = true then _ else _) _ _ s
  rw [if_neg (show ¬ ((Value.ref l == Value.none) = true) from Bool.false_ne_true)]
  show wpAny _ _ (field (.ref it) 1 >>= _) _ _ s
  refine wpAny_bind (wpAny_field ho hd (x := .int i 0) rfl ?_)
  show wpAny _ _ (seqItems? (.ref l) >>= _) _ _ s
  refine wpAny_bind (wpAny_seqItems hol hdl ?_)
  simp only [Int.toNat_natCast, hx]
  refine wpAny_bind (wpAny_rule (wpAny_bind (wpAny_setField ho hd (by simp) ?_)))
  refine stop_hot (A := A.in1) (x1 := x1) (hot_upd (A := A.in1) (by exact hot) ne) fun h' e k he => ?_
  obtain ⟨oe, hoe, hce⟩ := he
  refine wpAny_bind (wpAny_isInstance (T := "StopIteration") (b := true) ⟨_, hoe, hce⟩ isSubtype_stop ?_)
  exact wpAny_pure (hQ _ fun b o hb q => k b o (by rw [Heap.get?_update_other _ _ (Ne.symm hb)]; exact q))
theorem unpack_lst_hot {l x1 : Addr} {items : Array Value} {Q : List Value → Shared → Prop} (hot : HotAt A x1 s.heap) (hl : s.heap.IsList l items)
    (hQ : ∀ h', (∀ b o, b ≠ s.heap.objs.size → s.heap.get? b = some o → h'.get? b = some o) → Q items.toList { s with heap := h' }) : wpAny (model prog w) A (unpackItems (.ref l) items.size none) Q E s := by
  have hlt : l ≠ s.heap.objs.size := by obtain ⟨o, ho, _⟩ := hl; exact Nat.ne_of_lt (Heap.lt_size ho)
  have hx : x1 ≠ s.heap.objs.size := by obtain ⟨_, o, vs, ho, _⟩ := hot; exact Nat.ne_of_lt (Heap.lt_size ho)
  unfold unpackItems
  refine wpAny_bind ?_
  · unfold notIterableAtAll
    refine wpAny_bind (wpAny_specialOf hl.typeIs slot_list_iter.lookup ?_)
    refine wpAny_pure ?_
    simp only [Bool.false_eq_true, if_false]
    refine wpAny_bind (wpAny_holding (wpAny_pyIter_list hl ?_))
    refine wpAny_bind (wpAny_holding (PySem.W.kun_draw hlt items.size 0 _ _ ⟨_, Heap.get?_push_size _ rfl, rfl, rfl⟩ (hl.push _) (by omega) fun h₁ hit₁ hs₁ => ?_))
    have hall : List.take items.size (List.drop 0 items.toList) = items.toList := by
      rw [List.drop_zero]; exact List.take_of_length_le (by simp)
    rw [hall]
    rw [if_neg (by simp)]
    have hl₁ : h₁.IsList l items := (hl.push _).extBut hs₁.extBut hlt
    have hot₁ : HotAt A x1 h₁ := hot_keeps (hot_push hot _) fun o e => hs₁.extBut x1 o hx e
    refine wpAny_bind (wpAny_holding (next_list_end_hot hot₁ hit₁ hl₁ (by simp) fun h₂ he₂ => ?_))
    simp only [Option.isSome_none, Bool.false_eq_true, if_false]
    refine wpAny_pure (hQ h₂ fun b o hb e => he₂ b o hb (hs₁.extBut b o hb (Heap.get?_push_of_some _ e)))
end
section
variable {X : Cx} {T : List (Addr × Str)} {W : WX} {a b e : Expr} {f : EF} {pos : Pos}
theorem pg_unlH {es : List Expr} {k : Nat} {t : TGs} {n : Nat} (hc : HotI X) (h : PGs X es t)
    (hn : (assignEach es X.env).length = n := by rfl) (hst : (assignEach es X.env).findIdx? (·.1) = none := by rfl) : PG X (.Tuple es k pos) (gUnl X.K n t) := by
  refine ⟨fun pins s σ H v u Q I r hw => ?_⟩
  obtain ⟨a, xs, e1, hq, hl, hw⟩ := hw
  subst e1
  cases r
  obtain ⟨its, rv, pl, hz⟩ := I.list hq
  have hl' : s.heap.IsList a its.toArray := pl.isList
  obtain ⟨x1, hot⟩ := hc pins s σ H I
  have hn' : (assignEach es X.env).length = its.toArray.size := hn.trans (hl.symm.trans (rv.length.trans (by simp)))
  rw [PyProof.Rows.assign_Tuple]
  refine wpAny_bind (wpAny_standAt ?_)
  unfold unpack
  rw [hn', hst]
  refine wpAny_bind (wpAny_holding (unpack_lst_hot hot hl' fun h' hx => ?_))
  have I1 : Inv X pins σ H { s with heap := h' } := I.kept (t' := s.toks) fun b o e => hx b o (Nat.ne_of_lt (Heap.lt_size e)) e
  exact h.run pins _ σ H xs _ Q I1 (by simpa using rv) hw
theorem dg_tpH {tgs : List Expr} {ps : List Pat} {k : Nat} (hc : HotI X) (h : DGs X T tgs ps) (hn : (assignEach tgs X.env).length = ps.length := by rfl) (hst : (assignEach tgs X.env).findIdx? (·.1) = none := by rfl) : DG X T (.Tuple tgs k pos) (.tp ps) :=
  ⟨fun pins s σ H v u Q I r ⟨G, en, d, en', R, rd, ea, kk⟩ => by
    cases d with
    | tup ds =>
      have ea : asgPs ps ds en = some en' := by simpa [asgP] using ea
      cases rd with
      | tup h1 h2 => exact (pg_tupH hc h hn hst).run pins s σ H _ u Q I r ⟨_, _, rfl, SqT.of (R.sub _ _ h1), by rw [← h2.len, asgPs_len ea], G, en, ds, en', R, h2, ea, kk⟩
    | lst ds =>
      have ea : asgPs ps ds en = some en' := by simpa [asgP] using ea
      cases rd with
      | lst h1 h2 => exact (pg_unlH hc h hn hst).run pins s σ H _ u Q I r ⟨_, _, rfl, R.sub.l h1, by rw [← h2.len, asgPs_len ea], G, en, ds, en', R, h2, ea, kk⟩
    | non => simp [asgP] at ea
    | bl b => simp [asgP] at ea
    | int i => simp [asgP] at ea
    | str s => simp [asgP] at ea
    | kt s => simp [asgP] at ea
    | dK s => simp [asgP] at ea
    | dT s => simp [asgP] at ea
    | ob s t => simp [asgP] at ea
    | vv s => simp [asgP] at ea⟩
abbrev DIB (X : Cx) (T : List (Addr × Str)) (W : WX) (tg it : Expr) (f : IF) : Prop := PIB X tg it (tI X.K X.mg T W f)
def iZipL (ga : AF) : IF := fun en => (ga en).bind fun os en1 => match frzL os en1 with
  | some ([.lst ds, .lst es], en2) => .ok (zipD ds es) en2
  | _ => .stuck
theorem di_zipH {p tpos : Pos} {elts : List Expr} {kk : Nat} {ga : AF} (hg : Gl X "zip") (hm : X.mg "zip" = none) (h : DA X T W [a, b] ga)
    (hs : starEach [a, b] X.env = (false, eval a X.env) :: starEach [b] X.env := by rfl) (hpl : (backTo pos (starEach [b] X.env)).any (·.1) = false := by rfl) :
    DIB X T W (.Tuple elts kk tpos) (.Call (.Name "zip" p) [a, b] [] pos) (iZipL ga) :=
  ⟨fun pins s σ H R I ⟨G, en, Rl, p0⟩ => (pib_zip hg hm h hs hpl).run pins s σ H R I ⟨G, en, Rl, stepLI Rl p0 fun os en1 vs H1 G1 R1 ros s1 p1 => by
    cases q : frzL os en1 with
    | none =>
      rw [q] at p1
      exact p1.elim
    | some z =>
      obtain ⟨ds, en2⟩ := z
      obtain ⟨G2, R2, rd, f2, i2, s2⟩ := frzL_ok R1 ros q
      rw [q] at p1
      split at p1
      · rename_i ds1 es1 en3 eq
        cases Option.some.inj eq
        cases rd with
        | cons r1 rr =>
          cases rr with
          | cons r2 rr =>
            cases rr
            cases r1 with
            | lst hl rl =>
              cases r2 with
              | lst hl2 rl2 => exact ⟨_, _, _, _, rfl, R2.sub.l hl, R2.sub.l hl2, p1 _ H1 G2 R2 (yields_zipL hl hl2 R2.sub R2.hf rl rl2) f2 i2⟩
      · exact p1.elim⟩⟩
theorem de_lcH {elt tg iter : Expr} {ifs : List Expr} {scope : Scope} {own : List (Str × Nat)} {fi : IF} {p : Pat} {tt : TF} {te : EF} (hc : HotC X) (hN : X.N.Nodup) (hi : DIB X T W tg iter fi) (ok : BlkOk X.N X.env.scope scope own)
    (hg : ∀ (s : Shared) (H : Hp) (C : Addr) (cl : List (Str × Addr)) (fp : List Addr), HotI (X.blk s H scope (compEnvC scope cl C X.env) fp) → DG (X.blk s H scope (compEnvC scope cl C X.env) fp) T tg p) (ht : ∀ (s : Shared) (H : Hp) (C : Addr) (cl : List (Str × Addr)) (fp : List Addr), HotI (X.blk s H scope (compEnvC scope cl C X.env) fp) → DTs (X.blk s H scope (compEnvC scope cl C X.env) fp) T ifs tt)
    (he : ∀ (s : Shared) (H : Hp) (C : Addr) (cl : List (Str × Addr)) (fp : List Addr), HotI (X.blk s H scope (compEnvC scope cl C X.env) fp) → DE (X.blk s H scope (compEnvC scope cl C X.env) fp) T W0 elt te) (hin : (patIx p).all (own.map (·.2)).contains = true := by decide)
    (hs : ∀ x, foldedSetIterable iter X.env x = pure x := by intro _; rfl) : DE X T W (.ListComp elt [⟨tg, iter, ifs, 0⟩] scope pos) (eComp fi p (own.map (·.2)) tt te) :=
  pe_of (pe_lcH hc hN hi ok hg ht (fun s H C cl fp hb => de_settle (he s H C cl fp hb)) hs) fun σ H Q _ h => imp_lc hin σ H Q h
/-- isinstance(e, C) of the exception -/
def kitV (K : PySem.W.Frag) (D : Addr) : V → Option Bool
  | .ty n => PySem.W.kitOne K (.ref D) (.type n)
  | .ref C => PySem.W.kitOne K (.ref D) (.ref C)
  | _ => none
def gIsE (K : PySem.W.Frag) (D a : Addr) : List PF.D → Option Op
  | [.vv (.ref a'), .vv c] => if a' = a then (kitV K D c).map fun b => .val (.bl b) else none
  | _ => none
theorem rep_vv {K : PySem.W.Frag} {G H : Hp} {v w : V} (h : RepV K G H (.vv v) w) : w = v := by
  rcases h with h | ⟨_, _, _, o, _, h2⟩
  · cases h; rfl
  · cases h2
theorem gIsE_ok {K : PySem.W.Frag} {D a : Addr} : CallOk K (rIsE K D a) (gIsE K D a) := by
  intro G H ds vs o Q s hf h e k
  unfold gIsE at e
  split at e
  · rename_i a' c
    split at e
    case isFalse => cases e
    rename_i ea
    subst ea
    obtain ⟨b, e1, rfl⟩ := Option.map_eq_some_iff.mp e
    obtain ⟨v, w, rfl, h1, h2⟩ := reps2 h
    cases rep_vv h1
    cases rep_vv h2
    unfold kitV at e1
    split at e1
    · exact ⟨_, _, b, rfl, fun u r => r, e1, k _ _ (.same (.bl _))⟩
    · exact ⟨_, _, b, rfl, fun u r => r, e1, k _ _ (.same (.bl _))⟩
    · cases e1
  · cases e
theorem de_isE {D : Addr} {p : Addr × Obj} {ps pos : Pos} {c : Expr} {ga : AF} (C : ExcC X.K D) (hz : Zc (.ref D) none p.2) (hf : ∃ vs, p.2.data = .fields vs) (hp : p ∈ X.pn) (hm : X.mg "isinstance" = none) (ha : DA X T W [e, c] ga) (hg : Gl X "isinstance" := by rfl) (he : starEach [e, c] X.env = (false, eval e X.env) :: starEach [c] X.env := by rfl) (hpl : (backTo pos (starEach [c] X.env)).any (·.1) = false := by rfl) :
    DE X T W (.Call (.Name "isinstance" ps) [e, c] [] pos) (eCall (gIsE X.K D p.1) ga) :=
  de_callR (pe_callB (call_isEp C hz hf hp) hg hm boot_isinstance ha (he := he) (hpl := hpl)) gIsE_ok
theorem de_cls {x : Str} {C : Addr} (hm : X.mg x = some (.ref C)) (hg : Gl X x := by rfl) (hd : (x == ("__debug__" : Str)) = false := by decide) : DE X T W (.Name x pos) (eC (.vv (.ref C))) :=
  de_c (pe_glob (v := .ref C) hg hm rfl hd) fun _ => .vv _
end
end PF
namespace PF
open PySem PySem.Spec PyProof.Rows L2 HotX L2H LamX
/-! ## a def that tells the exception's kind, called within except -/
abbrev kin0 (a : Addr) (n : Nat) : En := Sl.fz (.vv (.ref a)) :: List.replicate n .un
def KinAt (K : PySem.W.Frag) (gk : Addr → Addr → SF) (n : Nat) (C : Addr) (t : Str) : Prop := ExcC K C ∧ ∀ a, ∃ en', gk C a (kin0 a n) = .ok (.rt (.val (.str t))) en'
def spKin (K : PySem.W.Frag) (T : List (Addr × Str)) (gk : Addr → Addr → SF) (n : Nat) (p : Addr × Obj) : Sp := fun vs H Q E => ∃ (C : Addr) (t : Str), vs = [.ref p.1] ∧ Zc (.ref C) none p.2 ∧ (∃ vs, p.2.data = .fields vs) ∧ KinAt K gk n C t ∧ HF K H ∧ Tabs T H ∧
  ∀ H'', ExtN H H'' → Tabs T H'' → HF K H'' → Q (.str t) H''
theorem fun_okKin {P : Program} {w : World} {K : PySem.W.Frag} {mg : Str → Option Value} {base : Heap} {T : List (Addr × Str)} {x qual e : Str} {params : Arguments} {bd : List Stmt} {scope : Scope} {f : Addr} {fd : FuncData} {N : List Str} {n k : Nat} {gk : Addr → Addr → SF}
    (F : FunD K x qual params bd scope [] [] f fd) (S : FnScope N [e] scope) (hlen : N.length = n + 1)
    (hbody : ∀ (cdv : Value) (A : Around) (outer : List Env) (s : Shared) (H : Hp) (E : XK) (p : Addr × Obj) (C : Addr), Hot1 A p → ExcC K C → Zc (.ref C) none p.2 → (∃ vs, p.2.data = .fields vs) →
      DB (cxH (L2N.CX P w) P w K mg base N qual scope f cdv A outer s H E p) T W0 bd (gk C p.1)) :
    FnHp P w K mg base (L2N.CX P w) (k + 1) f fd [e] (spKin K T gk n) := by
  obtain ⟨oc, od, dV, kV, doc, pm, an, cdv, ct, osl, rfl, lk, hcd, _, _⟩ := F.ex
  refine fn_ofHp lk hcd S (fun p vs H Q E h => by obtain ⟨C, t, rfl, _⟩ := h; rfl) fun A outer s H vs Q E p hot hr h => ?_
  obtain ⟨C, t, rfl, hz, hf, ⟨ec, ev⟩, hF, hT, q⟩ := h
  refine ⟨_, hbody cdv A outer s H E p C hot ec hz hf, fun _ => none, kin0 p.1 n, ?_, ?_⟩
  · refine ⟨fun b o e => (by cases e), fun b o e => (by cases e), hT, hF, ?_, fun i s e => ?_, fun i j b c d e' p' e1 => ?_⟩
    · unfold L2.start
      simp [hlen]
    · cases i with
      | zero =>
        cases Option.some.inj e
        exact ⟨.ref p.1, rfl, .vv _⟩
      | succ i =>
        have := (List.mem_replicate.mp (List.mem_of_getElem? (show (List.replicate n Sl.un)[i]? = some s by simpa using e))).2
        subst this
        trivial
    · cases i with
      | zero => cases Option.some.inj e1
      | succ i =>
        have := (List.mem_replicate.mp (List.mem_of_getElem? (show (List.replicate n Sl.un)[i]? = some (.ow b d) by simpa using e1))).2
        cases this
  · obtain ⟨en', e'⟩ := ev p.1
    rw [e']
    intro v σ' H' G' R' ro fr io
    cases ro
    refine q H' (fun b o hb nt => (fr.keep b o hb nt fun ⟨i, b', d, e1, _⟩ => ?_).1) R'.tabs R'.hf
    cases i with
    | zero => cases Option.some.inj e1
    | succ i =>
      have := (List.mem_replicate.mp (List.mem_of_getElem? (show (List.replicate n Sl.un)[i]? = some (.ow b' d) by simpa using e1))).2
      cases this
/-! ## try: found = ('told', call_so()) -/
/-- what is asked of an exception -/
def KinOk (K : PySem.W.Frag) (T : List (Addr × Str)) (gk : Addr → Addr → SF) (n : Nat) (CT CN : Addr) (Q : VK) : XK := fun cls d H' => ∃ (C : Addr) (t : Str), cls = .ref C ∧ d = none ∧ PySem.W.exmOne K cls (.ref CT) = some false ∧ PySem.W.exmOne K cls (.ref CN) = some true ∧ KinAt K gk n C t ∧ HF K H' ∧ Tabs T H' ∧
  ∀ H'', ExtN H' H'' → Tabs T H'' → HF K H'' → Q (.str t) H''
def TTtry (K : PySem.W.Frag) (T : List (Addr × Str)) (gk : Addr → Addr → SF) (n : Nat) (CT CN : Addr) : (XK → Hp → VK → Prop) → Hp → VK → Prop := fun tl H Q =>
  tl (KinOk K T gk n CT CN Q) H fun v H1 => ([V.str "told", v] : List V).length ≤ sizeLine ∧ ∀ p, H1 p = none → Q (.ref p) (upd H1 p (.tup [.str "told", v]))
theorem passesF {X : Cx} {σ : L2.St} : PassesAt (L2N.CX X.prog X.w) X σ (fun _ _ _ => False) := fun _ _ _ _ _ _ ⟨_, _, _, _, _, _, _, _, _, _, _, _, h⟩ => h.elim
theorem try_gives {X : Cx} {T : List (Addr × Str)} {gk : Addr → Addr → SF} {n : Nat} {CT CN : Addr} {x q : Str} {sg : Scope} {g fk : Addr} {cdg : Value} {fdk : FuncData} {b₀ : Stmt} {suite : List Stmt} {pe : Str}
    {q1 q2 q3 q4 q5 q6 q7 q8 q9 q10 q11 q12 q13 q14 q15 q16 q17 q18 q19 q20 : Pos} {j1 j2 k1 : Nat} {q21 : Pos}
    (Sg : FnScope ["call_so", "found", "e"] ["call_so"] sg) (l1 : sg.names.lookup ("found" : Str) = some .local) (l2 : sg.names.lookup ("e" : Str) = some .local) (l0 : sg.names.lookup ("call_so" : Str) = some .local)
    (gT : sg.names.lookup ("InvalidText" : Str) = some .globalImplicit) (gN : sg.names.lookup ("NumberError" : Str) = some .globalImplicit) (gK : sg.names.lookup ("_law_kin" : Str) = some .globalImplicit)
    (mT : X.mg "InvalidText" = some (.ref CT)) (mN : X.mg "NumberError" = some (.ref CN)) (mK : X.mg "_law_kin" = some (.ref fk)) (kK : PySem.W.keepIn X.K (.ref fk) = true) (bK : Binds X.K fdk [pe] [])
    (FK : FnHp X.prog X.w X.K X.mg X.base (L2N.CX X.prog X.w) 1 fk fdk [pe] (spKin X.K T gk n)) :
    GivesToN X ["call_so", "found", "e"] x sg g cdg
      [.Assign [.Name "found" q1] (.Constant .none j1 q2) q3,
       .Try [.Assign [.Name "found" q4] (.Tuple [.Constant (.str "told") j2 q5, .Call (.Name "call_so" q6) [] [] q7] k1 q8) q9]
        [.ExceptHandler (some (.Name "InvalidText" q10)) (some "e") (b₀ :: suite) q11,
         .ExceptHandler (some (.Name "NumberError" q12)) (some "e") [.Assign [.Name "found" q13] (.Call (.Name "_law_kin" q14) [.Name "e" q15] [] q16) q17] q18] [] [] q19,
       .Return (some (.Name "found" q20)) q21] "call_so" q (TTtry X.K T gk n CT CN) := by
  intro f c' s H Q tl act hc hr h
  have nd : (["call_so", "found", "e"] : List Str).Nodup := by decide +kernel
  generalize hX : (cxOf (L2N.CX X.prog X.w) X.prog X.w X.K X.mg X.base ["call_so", "found", "e"] x sg g cdg X.A X.stack s H C8.E0) = Y at act
  have eY : Y = cxOf (L2N.CX X.prog X.w) X.prog X.w X.K X.mg X.base ["call_so", "found", "e"] x sg g cdg X.A X.stack s H C8.E0 := hX.symm
  subst eY
  refine ⟨_, pss_cons (ps_set (i := 1) nd rfl (Or.inl l1) pe_non (hf := Or.inr l1)) (pss_cons (ps_try_manyAs (l := [(.ref CT, 2, fun _ _ _ _ _ _ => False), (.ref CN, 2, fun a cls d D σ H => σ[2]? = some (some (.ref a)) ∧ KinOk X.K T gk n CT CN (fun v H'' => D.nx (σ.set 1 (some v)) H'') cls d H)])
      (tb := fun W D σ H => ∃ Ech : XK, (∀ cls d (σ' : L2.St) H', σ'.length = 3 → Ech cls d H' → W cls d σ' H') ∧ σ[0]? = some (some (.ref f)) ∧ H c' = some (CodeO c' q) ∧ tl Ech H (fun v H1 => ([V.str "told", v] : List V).length ≤ sizeLine ∧ ∀ p, H1 p = none → D.nx (σ.set 1 (some (.ref p))) (upd H1 p (.tup [.str "told", v]))))
      (Wout := W0) rfl rfl nd takes0 (fun W pn xe tk _ => ?_)
      (.cons ⟨gT, by decide, .inl mT⟩ rfl l2 (fun a oe cls d pn hz hf => ⟨fun pins s σ H D I h => h.elim⟩) (.cons ⟨gN, by decide, .inl mN⟩ rfl l2 (fun a oe cls d pn hz hf => ?_) .nil)))
      (pss_one (ps_ret (pe_var (i := 1) rfl (Or.inl l1))))), ?_⟩
  · refine ⟨fun pins s' σ H' D I h' => ?_⟩
    obtain ⟨Ech, hW, h1, h2, h3⟩ := h'
    have hp := act W pn xe Ech q6 q7 tk hW
    exact (pss_one (ps_set (i := 1) nd rfl (Or.inl l1) (pe_tup (pa_cons pe_str (pa_cons hp pa_nil))) (hf := Or.inr l1))).run pins s' σ H' D I ⟨h1, h2, h3⟩
  · refine ⟨fun pins s' σ H' D I h' => ?_⟩
    obtain ⟨h1, C, t, rfl, rfl, e1, e2, ka, hF, hT, q⟩ := h'
    obtain ⟨vs, hv⟩ := hf
    have hot : Hot1 ((cxOf (L2N.CX X.prog X.w) X.prog X.w X.K X.mg X.base ["call_so", "found", "e"] x sg g cdg X.A X.stack s H C8.E0).nox.suite a ((a, oe) :: pn)).A (a, oe) := ⟨rfl, vs, hv, hz.2.2 vs hv⟩
    have hp := pe_callHp (X := ((cxOf (L2N.CX X.prog X.w) X.prog X.w X.K X.mg X.base ["call_so", "found", "e"] x sg g cdg X.A X.stack s H C8.E0).nox.suite a ((a, oe) :: pn))) (p := (a, oe)) (E := fun _ _ _ _ => False) (q := q14) (pos := q16) FK ⟨hr.dp, hr.un⟩ hot List.mem_cons_self gK mK kK bK (fun _ => passesF) (pa_cons (pe_var (pos := q15) (i := 2) rfl (Or.inl l2)) pa_nil)
    exact (pss_one (ps_set (i := 1) nd rfl (Or.inl l1) hp (hf := Or.inr l1))).run pins s' σ H' D I ⟨.ref a, h1, C, t, rfl, hz.zc, ⟨vs, hv⟩, ka, hF, hT, q⟩
  · refine ⟨KinOk X.K T gk n CT CN Q, fun cls d σ' H' hl hk => ?_, rfl, hc, ?_⟩
    · obtain ⟨C, t, rfl, rfl, e1, e2, ka, hF, hT, q⟩ := hk
      refine ⟨false, e1, (fun z => by cases z), fun _ => ⟨true, e2, fun _ a na => ⟨?_, C, t, rfl, rfl, e1, e2, ka, hF, hT, fun H'' a b c => ⟨.str t, ?_, q H'' a b c⟩⟩, fun z => by cases z⟩⟩
      · rw [List.getElem?_set_self (by omega)]
      · rw [List.getElem?_set_ne (by decide), List.getElem?_set_self (by rw [List.length_set]; omega)]
    · have e : (fun (v : V) (H1 : Hp) => ([V.str "told", v] : List V).length ≤ sizeLine ∧ ∀ p, H1 p = none → Q (.ref p) (upd H1 p (.tup [.str "told", v]))) = (fun (v : V) (H1 : Hp) => ([V.str "told", v] : List V).length ≤ sizeLine ∧ ∀ p, H1 p = none → ∃ v', ((((L2.start ["call_so", "found", "e"] [V.ref f]).set 1 (some .non)).set 1 (some (.ref p)))[1]? = some (some v')) ∧ Q v' (upd H1 p (.tup [.str "told", v]))) := by
        funext v H1
        apply propext
        refine and_congr_right fun _ => forall_congr' fun p => imp_congr_right fun _ => ⟨fun z => ⟨_, rfl, z⟩, fun ⟨v', e, z⟩ => ?_⟩
        have e : some (some (V.ref p)) = some (some v') := e
        cases e
        exact z
      have h : tl (KinOk X.K T gk n CT CN Q) H (fun v H1 => ([V.str "told", v] : List V).length ≤ sizeLine ∧ ∀ p, H1 p = none → Q (.ref p) (upd H1 p (.tup [.str "told", v]))) := h
      rw [e] at h
      exact h
/-! ## the rule over the layer -/
def eTry (kin : Str → Option Str) (fb : EF) : EF := fun en => match settle (fb en) with
  | .ok o en1 => match frz o en1 with
    | some (d, en2) => .ok (.val (.tup [.str "told", d])) en2
    | none => .stuck
  | .exc c none en1 => match kin c with
    | some t => .ok (.val (.str t)) en1
    | none => .stuck
  | _ => .stuck
structure KinT (K : PySem.W.Frag) (mg : Str → Option Value) (gk : Addr → Addr → SF) (n : Nat) (CT CN : Addr) (kin : Str → Option Str) : Prop where
  at_ : ∀ c t, kin c = some t → ∀ C, mg c = some (.ref C) → PySem.W.exmOne K (.ref C) (.ref CT) = some false ∧ PySem.W.exmOne K (.ref C) (.ref CN) = some true ∧ KinAt K gk n C t
theorem Rel.extN {K : PySem.W.Frag} {T : List (Addr × Str)} {G H H1 : Hp} {σ : L2.St} {en : En} (R : Rel K T G σ H en) (e : ExtN H H1) (t : Tabs T H1) (hf : HF K H1) : Rel K T G σ H1 en where
  sub := fun b o h => e b o (R.sub b o h) (R.gt b o h)
  gt := R.gt
  tabs := t
  hf := hf
  len := R.len
  at_ := fun i s h => by
    have k := R.at_ i s h
    cases s with
    | un => trivial
    | fz d => exact k
    | ow b d =>
      obtain ⟨p, h1, g, o, h2, h3⟩ := k
      exact ⟨p, h1, g, o, e p o h2 h3.notb, h3⟩
  sep := R.sep
theorem Fr.extN {G H H1 : Hp} {O : Addr → Prop} (e : ExtN H H1) : Fr G H O G H1 O := ⟨fun b o h n _ => ⟨e b o h n, rfl⟩, fun _ h => .inl h⟩
theorem imp_try {K : PySem.W.Frag} {mg : Str → Option Value} {T : List (Addr × Str)} {W : WX} {gk : Addr → Addr → SF} {n : Nat} {CT CN : Addr} {kin : Str → Option Str} {fb : EF} (KT : KinT K mg gk n CT CN kin) (σ : L2.St) (H : Hp) (Q : VK) (h : tE K mg T W (eTry kin fb) σ H Q) :
    tLamN K T (TTtry K T gk n CT CN) (fun E => tE K mg T (fun cls d _ H => E cls d H) fb) σ H (fun v H1 => HF K H1 → Q v H1) := by
  obtain ⟨G, en, R, p⟩ := h
  refine ⟨R.tabs, fun H1 eN T1 hf1 => ?_⟩
  have R1 := R.extN eN T1 hf1
  have f1 : Fr G H (own σ en) G H1 (own σ en) := Fr.extN eN
  have p1 : PostE K mg T W G σ H1 en Q (eTry kin fb en) := PostR.mono p (fun _ _ _ z => okE_sh _ _ _ _ _ _ _ _ f1 (IoK.refl en) z) fun _ _ _ z => exc_sh _ _ _ _ _ _ _ _ _ f1 (IoK.refl en) z
  refine ⟨G, en, R1, settle_post ?_⟩
  unfold eTry at p1
  cases q : settle (fb en) with
  | stuck =>
    rw [q] at p1
    exact p1.elim
  | ok o en1 =>
    rw [q] at p1
    intro v H2 G2 R2 ro fr io
    have nf : ∀ d, o ≠ .fresh d := fun d z => settle_nf (by rw [q, z])
    have fr' : Fr G H1 (own σ en) G2 H2 (own σ en1) := fr.weak fun p z => .inl z
    refine ⟨by show 2 ≤ sizeLine; rw [sz_eq]; decide, fun p hp hf => ?_⟩
    have p1 : PostE K mg T W G σ H1 en Q (match frz o en1 with
      | some (d, en2) => Res.ok (.val (.tup [.str "told", d])) en2
      | none => .stuck) := p1
    cases z : frz o en1 with
    | none =>
      rw [z] at p1
      exact p1.elim
    | some w =>
      obtain ⟨d, en2⟩ := w
      rw [z] at p1
      obtain ⟨G3, R3, rd, f3, i3, s3⟩ := frz_ok R2 ro z
      have hg := R3.sub.none hp
      have R4 := R3.new (o := .tup [.str "told", v]) hp (fun ps z => by cases z) hf
      refine p1 (.ref p) _ _ R4 (.tup upd_same (.cons (.str _) (.cons (rd.mono (Sub.new hg)) .nil))) (((fr'.trans f3).trans (Fr.lay hp hg)).weak fun p z => z.elim id fun z => z.elim) (io.trans i3)
  | exc c pl en1 =>
    rw [q] at p1
    intro H2 G2 C d m R2 fr io po
    cases pl with
    | some x => exact p1.elim
    | none =>
      have p1 : PostE K mg T W G σ H1 en Q (match kin c with
        | some t => Res.ok (.val (.str t)) en1
        | none => .stuck) := p1
      cases z : kin c with
      | none =>
        rw [z] at p1
        exact p1.elim
      | some t =>
        rw [z] at p1
        obtain ⟨a1, a2, a3⟩ := KT.at_ c t z C m
        cases po
        refine ⟨C, t, rfl, rfl, a1, a2, a3, R2.hf, R2.tabs, fun H3 e3 t3 hf3 hf => ?_⟩
        exact p1 (.str t) H3 G2 (R2.extN e3 t3 hf3) (.str t) ((fr.trans (Fr.extN e3)).weak fun p z => z.elim id fun z => z.elim) io
end PF
namespace PF
open PySem PySem.Spec PyProof.Rows L2 LamX L2H
theorem HotC.mk {X : Cx} {p : Addr × Obj} (h : Hot1 X.A p) (hp : p ∈ X.pn := by exact List.mem_cons_self) : HotC X := ⟨p, h, hp⟩
/-! ## the law -/
theorem hf_hok {P : Program} {w : World} {K : PySem.W.Frag} {H : Hp} {h : Heap} (ok : HOk P w H h) : HF K H :=
  ⟨fun a xs q => by
    rcases q with q | ⟨o, its, n, hk, hc, hd, hs, hz, r⟩
    · obtain ⟨z, its, n, r, e⟩ := q.ok ok
      exact z
    · have e := r.length
      simp only [Array.length_toList] at e
      omega, fun a xs q => by
    rcases q with q | ⟨o, its, n, hk, hc, hs, hz, r⟩
    · obtain ⟨z, its, r, e⟩ := q.ok ok
      exact z
    · have e := r.length
      simp only [Array.length_toList] at e
      omega⟩
def spLaw (K : PySem.W.Frag) (T : List (Addr × Str)) (m b : Nat) : Sp := fun vs H Q E => ∃ (a : Addr) (ns : List Int), vs = [.ref a] ∧ SqL K H a (ns.map V.int) ∧ ns.length ≤ m ∧ (∀ z ∈ ns, Builtin.Int.intBits z ≤ b) ∧ Tabs T H ∧ ∀ H', Q (.bl true) H'
theorem fn_law {P : Program} {w : World} {K : PySem.W.Frag} {mg : Str → Option Value} {base : Heap} {T : List (Addr × Str)} {k m b : Nat} {f : Addr} {fd : FuncData} {x : Str} {F : FS} (FO : FnOk P w K mg base (L2N.CX P w) k f fd [x] (spF K mg T 1 F))
    (hF : ∀ ns : List Int, ns.length ≤ m → (∀ z ∈ ns, Builtin.Int.intBits z ≤ b) → ∃ outs, F [.fz (.lst (ns.map D.int))] = .ok false (.bl true) outs) : FnOk P w K mg base (L2N.CX P w) k f fd [x] (spLaw K T m b) :=
  ⟨fun vs H Q E h => by obtain ⟨a, ns, rfl, _⟩ := h; rfl, fun A outer s H args us vs Q E hr e0 hb r h => by
    obtain ⟨a, ns, rfl, hS, hl, hb2, hT, q⟩ := h
    obtain ⟨outs, eF⟩ := hF ns hl hb2
    refine FO.run A outer s H args us [.ref a] Q E hr e0 hb r ?_
    have hf : HF K H := hf_hok e0.hok
    let G : Hp := fun p => match H p with
      | some (.tbl _) => none
      | o => o
    have hG : ∀ p o, H p = some o → NoTb o → G p = some o := fun p o e n => by
      show (match H p with
        | some (.tbl _) => none
        | o => o) = some o
      rw [e]
      cases o with
      | tbl ps => exact absurd rfl (n ps)
      | _ => rfl
    have hG2 : ∀ p o, G p = some o → H p = some o ∧ NoTb o := fun p o e => by
      have e : (match H p with
        | some (.tbl _) => none
        | o => o) = some o := e
      split at e
      · cases e
      · rename_i h
        exact ⟨e, fun ps z => h ps (by rw [e, z])⟩
    have hS2 : SqL K G a (ns.map V.int) := by
      rcases hS with (h | ⟨o, h⟩) | h
      · exact .inl (.inl (hG _ _ h fun ps z => by cases z))
      · exact .inl (.inr ⟨o, hG _ _ h fun ps z => by cases z⟩)
      · exact .inr h
    refine ⟨G, [.fz (.lst (ns.map D.int))], rfl, ⟨fun b o e => (hG2 b o e).1, fun b o e => (hG2 b o e).2, hT, hf, rfl, fun i s e => ?_, fun i j b c d e p e1 => ?_⟩, rfl, ?_⟩
    · cases i with
      | zero =>
        cases Option.some.inj e
        exact ⟨.ref a, rfl, .lst hS2 (RepL.ofInts ns)⟩
      | succ i => simp at e
    · cases i with
      | zero => cases Option.some.inj e1
      | succ i => simp at e1
    · rw [eF]
      intro v H' G' R ro fr io
      rw [if_neg Bool.false_ne_true] at ro
      cases ro
      exact q H'⟩
theorem lawN_cx {P : Program} {w : World} (H : Hp) (s : Shared) (e : Value) (s' : Shared) (h : L2N.CX P w [] H s (fun _ _ _ => False) e s') : False := by
  obtain ⟨_, _, _, _, _, _, _, _, _, _, _, _, z⟩ := h
  exact z
end PF
namespace PF
open PySem PySem.Spec PyProof.Rows L2
/-! ## to evaluate -/
section
variable {α β : Type}
theorem bind_ok {a : α} {en : En} {k : α → En → Res β} : (Res.ok a en).bind k = k a en := rfl
theorem bind_exc {c : Str} {p : Option D} {en : En} {k : α → En → Res β} : (Res.exc (α := α) c p en).bind k = .exc c p en := rfl
theorem bind_stk {k : α → En → Res β} : (Res.stuck (α := α)).bind k = .stuck := rfl
theorem settle_val {d : D} {en : En} : PF.settle (.ok (.val d) en) = .ok (.val d) en := rfl
theorem settle_fr {d : D} {en : En} : PF.settle (.ok (.fresh d) en) = .ok (.val d) en := rfl
theorem settle_sl {d : Nat} {en : En} : PF.settle (.ok (.slot d) en) = .ok (.slot d) en := rfl
theorem settle_exc {c : Str} {p : Option D} {en : En} : PF.settle (.exc c p en) = .exc c p en := rfl
theorem settle_stk : PF.settle .stuck = .stuck := rfl
theorem view_val {d : D} {en : En} : view (.val d) en = some d := rfl
theorem view_sl {i : Nat} {en : En} : view (.slot i) en = match en[i]? with
  | some (.ow _ d) => some d
  | some (.fz d) => some d
  | _ => none := rfl
theorem frz_val {d : D} {en : En} : frz (.val d) en = some (d, en) := rfl
theorem ofO_some {o : Op} {en : En} : ofO (some o) en = .ok o en := rfl
theorem ofT_some {o : α} {en : En} : ofT (some o) en = .ok o en := rfl
theorem ite_tt {x y : α} : (if True then x else y) = x := if_pos trivial
theorem gI_ok' {c : Int → Int → Bool} {f : Int → Int → D} {i j : Int} (h : c i j = true) : gI c f (.int i) (.int j) = some (.val (f i j)) := if_pos h
theorem gIT {f : Int → Int → D} {i j : Int} : gI (fun _ _ => true) f (.int i) (.int j) = some (.val (f i j)) := rfl
end
/-- for the head: an exception's class -/
def excCB (K : PySem.W.Frag) (D : Addr) : Bool := decide (PySem.W.findIn K (.ref D) "__getattribute__" = some (some (.builtin "BaseException.__getattribute__"))) && (decide (PySem.W.findIn K (.ref D) "__getattr__" = some none) && (decide (PySem.W.subIn K (.ref D) (.type "BaseException") = some true) && (PySem.W.hasDictIn K D && (decide (PySem.W.findIn K (.ref D) "__class__" = some (some (.builtin "object.__class__"))) &&
  (decide (PySem.W.specialIn K (.builtin "object.__class__") "__get__" = some (some (.builtin "getset_descriptor.__get__"))) && (decide (PySem.W.takesIn K (.builtin "object.__class__") = some true) && decide (PySem.W.mroIn K D (.type "object") = some true)))))))
theorem excCB_ok {K : PySem.W.Frag} {D : Addr} (h : excCB K D = true) : ExcC K D := by
  unfold excCB at h
  simp only [Bool.and_eq_true, decide_eq_true_eq] at h
  obtain ⟨h1, h2, h3, h4, h5, h6, h7, h8⟩ := h
  exact ⟨h1, h2, h3, h4, h5, h6, h7, h8⟩
end PF
namespace PF
open PySem PySem.Spec PyProof.Rows L2
/-! ## operators, evaluated -/
theorem gMul_ev {i j : Int} (h : i.natAbs < 2 ^ 64 ∨ j.natAbs < 2 ^ 64) : gMul (.int i) (.int j) = some (.val (.int (i * j))) := if_pos (by
  unfold bMul
  rcases h with h | h
  · rw [decide_eq_true h]; rfl
  · rw [decide_eq_true h, Bool.or_true])
theorem gDiv_ev {i j : Int} (h : 0 < j) (h2 : j ≤ 10 ^ 40) : gDiv (.int i) (.int j) = some (.val (.int (i / j))) := if_pos (by
  unfold bDiv
  rw [decide_eq_true h, decide_eq_true h2]; rfl)
theorem gMod_ev {i j : Int} (h : 0 < j) : gMod (.int i) (.int j) = some (.val (.int (i % j))) := if_pos (decide_eq_true h)
theorem gPow_ev {i j : Int} (h0 : 0 ≤ j) (h1 : j ≤ 1000000) (h2 : i.natAbs < 2 ^ 64) : gPow (.int i) (.int j) = some (.val (.int (i ^ j.toNat))) := if_pos (by
  show (decide (0 ≤ j) && decide (j ≤ 1000000) && decide (i.natAbs < 2 ^ 64)) = true
  rw [decide_eq_true h0, decide_eq_true h1, decide_eq_true h2]; rfl)
theorem gSub_ev {i j : Int} : PF.gSub (.int i) (.int j) = some (.val (.int (i - j))) := rfl
theorem gAdd_ev {i j : Int} : gAdd (.int i) (.int j) = some (.val (.int (i + j))) := rfl
theorem gLt_ev {i j : Int} : gLt (.int i) (.int j) = some (.val (.bl (decide (i < j)))) := rfl
theorem gLe_ev {i j : Int} : gLe (.int i) (.int j) = some (.val (.bl (decide (i ≤ j)))) := rfl
theorem gGt_ev {i j : Int} : gGt (.int i) (.int j) = some (.val (.bl (decide (j < i)))) := rfl
theorem gGe_ev {i j : Int} : gGe (.int i) (.int j) = some (.val (.bl (decide (j ≤ i)))) := rfl
theorem gB_ev {g : D → D → Option Op} {a b : D} {k : Bool} (h : g a b = some (.val (.bl k))) : gB g a b = some k := by
  unfold gB
  rw [h]
  rfl
theorem gEq_int {i j : Int} : gEq (.int i) (.int j) = some (.val (.bl (decide (i = j)))) := by
  have h : PyData.eqv (.int i) (.int j) = decide (i = j) := by
    simp only [PyData.eqv]
    by_cases h : i = j
    · simp [h]
    · simp [h]
  unfold gEq gEqB
  simp only [toPy]
  have s : ∀ k : Int, SeqAt.shaped (.int k) = true := fun k => by simp [SeqAt.shaped, PyData.canLay0, PyData.depth]
  rw [s i, s j, h]
  rfl
theorem gIx_lst {ds : List D} {i : Int} {d : D} (h : atI ds i = some d) : gIx (.lst ds) (.int i) = some (.val d) := by
  show Option.map Op.val (atI ds i) = _
  rw [h]
  rfl
theorem gIx_tup {ds : List D} {i : Int} {d : D} (h : atI ds i = some d) : gIx (.tup ds) (.int i) = some (.val d) := by
  show Option.map Op.val (atI ds i) = _
  rw [h]
  rfl
theorem atI0 {d : D} {ds : List D} : atI (d :: ds) 0 = some d := atI_nat (j := 0) rfl
theorem atI1 {d e : D} {ds : List D} : atI (d :: e :: ds) 1 = some e := atI_nat (j := 1) rfl
theorem atI2 {d e f : D} {ds : List D} : atI (d :: e :: f :: ds) 2 = some f := atI_nat (j := 2) rfl
theorem ix0 {d : D} {ds : List D} : gIx (.lst (d :: ds)) (.int 0) = some (.val d) := gIx_lst atI0
theorem ix1 {d e : D} {ds : List D} : gIx (.lst (d :: e :: ds)) (.int 1) = some (.val e) := gIx_lst atI1
theorem ix2 {d e f : D} {ds : List D} : gIx (.lst (d :: e :: f :: ds)) (.int 2) = some (.val f) := gIx_lst atI2
theorem tx0 {d : D} {ds : List D} : gIx (.tup (d :: ds)) (.int 0) = some (.val d) := gIx_tup atI0
theorem tx1 {d e : D} {ds : List D} : gIx (.tup (d :: e :: ds)) (.int 1) = some (.val e) := gIx_tup atI1
theorem tx2 {d e f : D} {ds : List D} : gIx (.tup (d :: e :: f :: ds)) (.int 2) = some (.val f) := gIx_tup atI2
theorem ixN0 {n : Nat} (h : 0 < n) : ixN n 0 = some 0 := by unfold ixN; rw [if_pos (by omega), if_pos (by omega)]; rfl
theorem ixN2 {n : Nat} (h : 2 < n) : ixN n 2 = some 2 := by unfold ixN; rw [if_pos (by omega), if_pos (by omega)]; rfl
theorem isi_int_int {i : Int} : gIsi [.int i, .vv (.ty "int")] = some (.val (.bl true)) := by kernel_rfl
theorem isi_int_bool {i : Int} : gIsi [.int i, .vv (.ty "bool")] = some (.val (.bl false)) := by kernel_rfl
theorem isi_int_str {i : Int} : gIsi [.int i, .vv (.ty "str")] = some (.val (.bl false)) := by kernel_rfl
theorem isi_int_list {i : Int} : gIsi [.int i, .vv (.ty "list")] = some (.val (.bl false)) := by kernel_rfl
theorem isi_int_tuple {i : Int} : gIsi [.int i, .vv (.ty "tuple")] = some (.val (.bl false)) := by kernel_rfl
theorem isi_int_dict {i : Int} : gIsi [.int i, .vv (.ty "dict")] = some (.val (.bl false)) := by kernel_rfl
theorem isi_int_tuple_list {i : Int} : gIsi [.int i, .tup [.vv (.ty "tuple"), .vv (.ty "list")]] = some (.val (.bl false)) := by kernel_rfl
theorem isi_int_list_tuple {i : Int} : gIsi [.int i, .tup [.vv (.ty "list"), .vv (.ty "tuple")]] = some (.val (.bl false)) := by kernel_rfl
theorem isi_bl_int {b : Bool} : gIsi [.bl b, .vv (.ty "int")] = some (.val (.bl true)) := by kernel_rfl
theorem isi_bl_bool {b : Bool} : gIsi [.bl b, .vv (.ty "bool")] = some (.val (.bl true)) := by kernel_rfl
theorem isi_bl_str {b : Bool} : gIsi [.bl b, .vv (.ty "str")] = some (.val (.bl false)) := by kernel_rfl
theorem isi_bl_list {b : Bool} : gIsi [.bl b, .vv (.ty "list")] = some (.val (.bl false)) := by kernel_rfl
theorem isi_bl_tuple {b : Bool} : gIsi [.bl b, .vv (.ty "tuple")] = some (.val (.bl false)) := by kernel_rfl
theorem isi_bl_dict {b : Bool} : gIsi [.bl b, .vv (.ty "dict")] = some (.val (.bl false)) := by kernel_rfl
theorem isi_bl_tuple_list {b : Bool} : gIsi [.bl b, .tup [.vv (.ty "tuple"), .vv (.ty "list")]] = some (.val (.bl false)) := by kernel_rfl
theorem isi_bl_list_tuple {b : Bool} : gIsi [.bl b, .tup [.vv (.ty "list"), .vv (.ty "tuple")]] = some (.val (.bl false)) := by kernel_rfl
theorem isi_str_int {x : Str} : gIsi [.str x, .vv (.ty "int")] = some (.val (.bl false)) := by kernel_rfl
theorem isi_str_bool {x : Str} : gIsi [.str x, .vv (.ty "bool")] = some (.val (.bl false)) := by kernel_rfl
theorem isi_str_str {x : Str} : gIsi [.str x, .vv (.ty "str")] = some (.val (.bl true)) := by kernel_rfl
theorem isi_str_list {x : Str} : gIsi [.str x, .vv (.ty "list")] = some (.val (.bl false)) := by kernel_rfl
theorem isi_str_tuple {x : Str} : gIsi [.str x, .vv (.ty "tuple")] = some (.val (.bl false)) := by kernel_rfl
theorem isi_str_dict {x : Str} : gIsi [.str x, .vv (.ty "dict")] = some (.val (.bl false)) := by kernel_rfl
theorem isi_str_tuple_list {x : Str} : gIsi [.str x, .tup [.vv (.ty "tuple"), .vv (.ty "list")]] = some (.val (.bl false)) := by kernel_rfl
theorem isi_str_list_tuple {x : Str} : gIsi [.str x, .tup [.vv (.ty "list"), .vv (.ty "tuple")]] = some (.val (.bl false)) := by kernel_rfl
theorem isi_lst_int {ds : List D} : gIsi [.lst ds, .vv (.ty "int")] = some (.val (.bl false)) := by kernel_rfl
theorem isi_lst_bool {ds : List D} : gIsi [.lst ds, .vv (.ty "bool")] = some (.val (.bl false)) := by kernel_rfl
theorem isi_lst_str {ds : List D} : gIsi [.lst ds, .vv (.ty "str")] = some (.val (.bl false)) := by kernel_rfl
theorem isi_lst_list {ds : List D} : gIsi [.lst ds, .vv (.ty "list")] = some (.val (.bl true)) := by kernel_rfl
theorem isi_lst_tuple {ds : List D} : gIsi [.lst ds, .vv (.ty "tuple")] = some (.val (.bl false)) := by kernel_rfl
theorem isi_lst_dict {ds : List D} : gIsi [.lst ds, .vv (.ty "dict")] = some (.val (.bl false)) := by kernel_rfl
theorem isi_lst_tuple_list {ds : List D} : gIsi [.lst ds, .tup [.vv (.ty "tuple"), .vv (.ty "list")]] = some (.val (.bl true)) := by kernel_rfl
theorem isi_lst_list_tuple {ds : List D} : gIsi [.lst ds, .tup [.vv (.ty "list"), .vv (.ty "tuple")]] = some (.val (.bl true)) := by kernel_rfl
theorem isi_tup_int {ds : List D} : gIsi [.tup ds, .vv (.ty "int")] = some (.val (.bl false)) := by kernel_rfl
theorem isi_tup_bool {ds : List D} : gIsi [.tup ds, .vv (.ty "bool")] = some (.val (.bl false)) := by kernel_rfl
theorem isi_tup_str {ds : List D} : gIsi [.tup ds, .vv (.ty "str")] = some (.val (.bl false)) := by kernel_rfl
theorem isi_tup_list {ds : List D} : gIsi [.tup ds, .vv (.ty "list")] = some (.val (.bl false)) := by kernel_rfl
theorem isi_tup_tuple {ds : List D} : gIsi [.tup ds, .vv (.ty "tuple")] = some (.val (.bl true)) := by kernel_rfl
theorem isi_tup_dict {ds : List D} : gIsi [.tup ds, .vv (.ty "dict")] = some (.val (.bl false)) := by kernel_rfl
theorem isi_tup_tuple_list {ds : List D} : gIsi [.tup ds, .tup [.vv (.ty "tuple"), .vv (.ty "list")]] = some (.val (.bl true)) := by kernel_rfl
theorem isi_tup_list_tuple {ds : List D} : gIsi [.tup ds, .tup [.vv (.ty "list"), .vv (.ty "tuple")]] = some (.val (.bl true)) := by kernel_rfl
theorem isi_non_int  : gIsi [.non, .vv (.ty "int")] = some (.val (.bl false)) := by kernel_rfl
theorem isi_non_bool  : gIsi [.non, .vv (.ty "bool")] = some (.val (.bl false)) := by kernel_rfl
theorem isi_non_str  : gIsi [.non, .vv (.ty "str")] = some (.val (.bl false)) := by kernel_rfl
theorem isi_non_list  : gIsi [.non, .vv (.ty "list")] = some (.val (.bl false)) := by kernel_rfl
theorem isi_non_tuple  : gIsi [.non, .vv (.ty "tuple")] = some (.val (.bl false)) := by kernel_rfl
theorem isi_non_dict  : gIsi [.non, .vv (.ty "dict")] = some (.val (.bl false)) := by kernel_rfl
theorem isi_non_tuple_list  : gIsi [.non, .tup [.vv (.ty "tuple"), .vv (.ty "list")]] = some (.val (.bl false)) := by kernel_rfl
theorem isi_non_list_tuple  : gIsi [.non, .tup [.vv (.ty "list"), .vv (.ty "tuple")]] = some (.val (.bl false)) := by kernel_rfl
theorem gLen_lst {ds : List D} : gLen [.lst ds] = some (.val (.int ds.length)) := rfl
theorem gLen_tup {ds : List D} : gLen [.tup ds] = some (.val (.int ds.length)) := rfl
theorem atI_of {xs : List D} {r : Int} (h0 : 0 ≤ r) (h1 : r < xs.length) : ∃ x, atI xs r = some x ∧ x ∈ xs := by
  have h : r.toNat < xs.length := by omega
  refine ⟨xs[r.toNat], ?_, List.getElem_mem h⟩
  have e : ((r.toNat : Nat) : Int) = r := by omega
  have k := atI_nat (xs := xs) (List.getElem?_eq_getElem h)
  rwa [e] at k
/-! ## comprehensions, loops -/
theorem set_un {en : En} {v : Nat} {s : Sl} (h : en[v]? = some .un) : (en.set v s).set v .un = en := by
  rw [List.set_set]
  apply List.ext_getElem?
  intro i
  by_cases e : v = i
  · subst e
    rw [List.getElem?_set_self (List.getElem?_eq_some_iff.mp h).1, h]
  · rw [List.getElem?_set_ne e]
theorem set_un0 {en : En} {v : Nat} (h : en[v]? = some .un) : en.set v .un = en := by
  have := set_un (s := .un) h
  rwa [List.set_set] at this
theorem comp_filter {v : Nat} {tt : TF} {te : EF} {f : D → D} {p : D → Bool} {en : En} (hv : en[v]? = some .un) : ∀ (ds : List D), (∀ d ∈ ds, tt (en.set v (.fz d)) = .ok (p d) (en.set v (.fz d))) → (∀ d ∈ ds, p d = true → PF.settle (te (en.set v (.fz d))) = .ok (.val (f d)) (en.set v (.fz d))) → ∀ acc,
    compD (.nm v) [v] tt te ds acc en = .ok (.fresh (.lst (acc ++ (ds.filter p).map f))) en
  | [], _, _, acc => by simp [compD]
  | d :: ds, h1, h2, acc => by
    have e0 : asgP (.nm v) d en = some (en.set v (.fz d)) := by simp [asgP, setO, hv, putO]
    have e1 := h1 d (by simp)
    rw [compD_cons, e0]
    simp only [e1]
    cases q : p d with
    | false =>
      have ih := comp_filter hv ds (fun d hd => h1 d (by simp [hd])) (fun d hd => h2 d (by simp [hd])) acc
      simp only [wipeE, set_un hv, ih, List.filter_cons, q]
      rfl
    | true =>
      have ih := comp_filter hv ds (fun d hd => h1 d (by simp [hd])) (fun d hd => h2 d (by simp [hd])) (acc ++ [f d])
      simp only [h2 d (by simp) q, frz_val, wipeE, set_un hv, ih, List.filter_cons, q, if_true, List.map_cons, List.append_assoc, List.cons_append, List.nil_append]
theorem eComp_filter {v : Nat} {fi : IF} {tt : TF} {te : EF} {f : D → D} {p : D → Bool} {en : En} {ds : List D} (hi : fi en = .ok ds en) (hv : en[v]? = some .un) (h1 : ∀ d ∈ ds, tt (en.set v (.fz d)) = .ok (p d) (en.set v (.fz d))) (h2 : ∀ d ∈ ds, p d = true → PF.settle (te (en.set v (.fz d))) = .ok (.val (f d)) (en.set v (.fz d))) :
    eComp fi (.nm v) [v] tt te en = .ok (.fresh (.lst ((ds.filter p).map f))) en := by
  unfold eComp
  rw [hi]
  have c := comp_filter hv ds h1 h2 []
  simp only [bind_ok, wipeE, set_un0 hv, c, restE, hv, Option.map_some, List.nil_append]
theorem eComp_map {v : Nat} {fi : IF} {te : EF} {f : D → D} {en : En} {ds : List D} (hi : fi en = .ok ds en) (hv : en[v]? = some .un) (h2 : ∀ d ∈ ds, PF.settle (te (en.set v (.fz d))) = .ok (.val (f d)) (en.set v (.fz d))) :
    eComp fi (.nm v) [v] (fun en => .ok true en) te en = .ok (.fresh (.lst (ds.map f))) en := by
  have h := eComp_filter (p := fun _ => true) (tt := fun en => .ok true en) hi hv (fun _ _ => rfl) (fun d hd _ => h2 d hd)
  have e : ds.filter (fun _ => true) = ds := List.filter_eq_self.mpr fun _ _ => rfl
  rwa [e] at h
theorem forD_inv {p : Pat} {f : SF} {P : En → Prop} : ∀ {ds : List D}, (∀ d ∈ ds, ∀ en, P en → ∃ en1 en2, asgP p d en = some en1 ∧ f en1 = .ok .nx en2 ∧ P en2) → ∀ {en}, P en → ∃ en2, forD p f ds en = .ok .nx en2 ∧ P en2
  | [], _, en, h => ⟨en, rfl, h⟩
  | d :: ds, hs, en, h => by
    obtain ⟨en1, en2, e1, e2, h2⟩ := hs d (by simp) en h
    obtain ⟨en3, e3, h3⟩ := forD_inv (ds := ds) (fun d hd => hs d (List.mem_cons_of_mem _ hd)) h2
    refine ⟨en3, ?_, h3⟩
    unfold forD
    rw [e1]
    show (f en1).bind _ = _
    rw [e2]
    exact e3
end PF
namespace PF
open PySem PySem.Spec PyProof.Rows L2 HT
/-! ## list(range(a, b)), t * k, ints of a module -/
theorem repl_rng {K : PySem.W.Frag} {G : Hp} (lo : Int) : ∀ (ks : List Nat), RepL K G (ks.map fun (k : Nat) => D.int (lo + (k : Int))) (ks.map fun (i : Nat) => V.int (lo + (i : Nat)))
  | [] => .nil
  | _ :: ks => .cons (.int _) (repl_rng lo ks)
def gRng : D → D → Option Op
  | .int i, .int j => if (-16777216 ≤ i ∧ i ≤ 16777216) ∧ (-16777216 ≤ j ∧ j ≤ 16777216) ∧ j - i ≤ 16777216 then some (.fresh (.lst (rngD i (j - i).toNat))) else none
  | _, _ => none
def rRng : R2 := fun x y H Q => ∃ i j, x = .int i ∧ y = .int j ∧ RgOk i j ∧ ∀ q, H q = none → Q (.ref q) (upd H q (.lst (rgV i j)))
theorem gRng_ok {K : PySem.W.Frag} : OpOk2 K rRng gRng := by
  intro G H d1 d2 v1 v2 o Q s hf h1 h2 e k
  cases d1 <;> cases d2 <;> try (cases e; done)
  case int.int i j =>
    cases repV_int h1; cases repV_int h2
    obtain ⟨c, rfl⟩ := ite_some e
    exact ⟨i, j, rfl, rfl, ⟨by omega, by omega, by omega, by omega, by omega⟩, fun q hq => k _ _ (.newf hq (.lst (repl_rng i _)))⟩
section
variable {X : Cx} {T : List (Addr × Str)} {W : WX} {a b : Expr} {fa fb : EF} {p p2 pos pos2 : Pos}
theorem de_listR2 (hc : X.calm = true) (hm : X.mg "list" = none) (hm2 : X.mg "range" = none) (ha : DE X T W a fa) (hb : DE X T W b fb) (hg : Gl X "list" := by rfl) (hg2 : Gl X "range" := by rfl)
    (na : starEach [a, b] X.env = (false, eval a X.env) :: starEach [b] X.env := by rfl) (nb : starEach [b] X.env = (false, eval b X.env) :: starEach [] X.env := by rfl) (hp : (backTo pos2 (starEach [b] X.env)).any (·.1) = false := by rfl)
    (nr : starEach [.Call (.Name "range" p2) [a, b] [] pos2] X.env = (false, eval (.Call (.Name "range" p2) [a, b] [] pos2) X.env) :: starEach [] X.env := by rfl) :
    DE X T W (.Call (.Name "list" p) [.Call (.Name "range" p2) [a, b] [] pos2] [] pos) (eOp2 gRng fa fb) :=
  pe_of (pe_listRg hc hg hm (prg_2 hg2 hm2 (de_settle ha) (de_settle hb) na nb hp) nr) fun σ H Q _ h => imp2 gRng_ok σ H Q h
end
def gRep : D → D → Option Op
  | .tup xs, .int k => if xs ≠ [] ∧ 2 ≤ k ∧ k ≤ 1000 ∧ xs.length ≤ 1000 then some (.val (.tup (List.replicate k.toNat xs).flatten)) else none
  | _, _ => none
theorem RepL.rep {K : PySem.W.Frag} {G : Hp} {ds : List D} {vs : List V} (h : RepL K G ds vs) : ∀ n, RepL K G (List.replicate n ds).flatten (List.replicate n vs).flatten
  | 0 => .nil
  | n + 1 => by
    rw [List.replicate_succ, List.replicate_succ, List.flatten_cons, List.flatten_cons]
    exact h.app (h.rep n)
theorem gRep_ok {K : PySem.W.Frag} : OpOk2 K (rRepT K) gRep := by
  intro G H d1 d2 v1 v2 o Q s hf h1 h2 e k
  cases d1 <;> cases d2 <;> try (cases e; done)
  case tup.int xs n =>
    obtain ⟨c, rfl⟩ := ite_some e
    obtain ⟨p, us, rfl, hp, rl⟩ := repV_tup s h1
    cases repV_int h2
    have e1 := rl.len
    have hne : us ≠ [] := fun z => by
      subst z
      exact c.1 (List.eq_nil_of_length_eq_zero (by rw [e1]; rfl))
    exact ⟨p, n, us, rfl, rfl, hp, hne, c.2.1, c.2.2.1, by omega, fun q hq => k _ _ (.newv hq (fun ps z => by cases z) (.tup upd_same ((rl.rep _).mono (Sub.new (s.none hq)))))⟩
theorem de_rep {X : Cx} {T : List (Addr × Str)} {W : WX} {a b : Expr} {fa fb : EF} {pos : Pos} (ha : DE X T W a fa) (hb : DE X T W b fb) : DE X T W (.BinOp a .Mult b pos) (eOp2 gRep fa fb) := de_op2 op_repT gRep_ok ha hb
theorem de_ci {X : Cx} {T : List (Addr × Str)} {W : WX} {x : Str} {i : Int} {pos : Pos} (hm : ∃ t, X.mg x = some (.int i t)) (hg : Gl X x := by rfl) (hd : (x == ("__debug__" : Str)) = false := by decide) : DE X T W (.Name x pos) (eC (.int i)) := by
  obtain ⟨t, hm⟩ := hm
  exact de_c (pe_glob (v := .int i) hg hm ⟨t, rfl⟩ hd) fun _ => .int i
end PF
namespace PF
open PySem PySem.Spec PyProof.Rows L2
/-! ## data and plans, without a program -/
def Dk (m : Int) (d : D) : Prop := ∃ a b t : Int, d = .lst [.int a, .int b, .int t] ∧ 0 ≤ a ∧ 0 ≤ b ∧ b < 2147483648 ∧ 0 ≤ t ∧ t ≤ m
theorem Dk.mono {m m' : Int} {d : D} (h : Dk m d) (hm : m ≤ m') : Dk m' d := by
  obtain ⟨a, b, t, e, h1, h2, h3, h4, h5⟩ := h
  exact ⟨a, b, t, e, h1, h2, h3, h4, by omega⟩
inductive Dat (n : Nat) : Nat → D → Prop
  | non {k : Nat} : Dat n k .non
  | bl {k : Nat} (b : Bool) : Dat n k (.bl b)
  | int {k : Nat} (i : Int) : Dat n k (.int i)
  | str {k : Nat} (x : Str) (h : SeqAt.shaped (.str x) = true) : Dat n k (.str x)
  | tup {k : Nat} {ds : List D} (h : ds.length ≤ n) (hs : ∀ d ∈ ds, Dat n k d) : Dat n (k + 1) (.tup ds)
  | lst {k : Nat} {ds : List D} (h : ds.length ≤ n) (hs : ∀ d ∈ ds, Dat n k d) : Dat n (k + 1) (.lst ds)
def isW (d : D) (lo hi : Int) : Bool := match d with
  | .int i => decide (lo ≤ i) && decide (i ≤ hi)
  | _ => false
def hasI (d : D) (lo hi : Int) : Bool := match d with
  | .tup ds => decide (lo ≤ (ds.length : Int)) && decide ((ds.length : Int) ≤ hi)
  | _ => false
def isEnd (s : Str) : Bool := (("far" : Str) == s) || (("near" : Str) == s)
theorem ends_ok : SeqAt.shaped (.tuple [.str "far", .str "near"]) = true := by decide +kernel
theorem ends_ok2 : SeqAt.shaped (.list [.str "near", .str "far"]) = true := by decide +kernel
theorem notin_ends2 {s : Str} (h : SeqAt.shaped (.str s) = true) : gNotIn (.str s) (.lst [.str "near", .str "far"]) = some (.val (.bl (!isEnd s))) := by
  have e : gNotIn (.str s) (.lst [.str "near", .str "far"]) = if SeqAt.shaped (.str s) && SeqAt.shaped (.list [.str "near", .str "far"]) then some (.val (.bl (!([PyData.str "near", .str "far"].any fun z => PyData.eqv z (.str s))))) else none := by
    simp only [gNotIn, gInB, toPy, toPys]
  rw [e, h, ends_ok2]
  simp only [Bool.and_true, if_true, List.any_cons, List.any_nil, Bool.or_false, PyData.eqv, isEnd, Bool.or_comm, Bool.false_or]
def iOf : D → Int
  | .int i => i
  | _ => 0
def tabOk (st : Int) (tb : List D) : Bool := tb.all (fun x => isW x 1 12) && decide ((dedupI (tb.map fun x => iOf x % st)).length = tb.length)
def numVal : D → Bool
  | .tup [.str s, b, .tup tb] => isEnd s && (isW b 1 12 && (hasI (.tup tb) 1 3 && tabOk (iOf b) tb))
  | _ => false
theorem toBls_map {p : D → Bool} : ∀ (ds : List D), toBls (ds.map fun d => .bl (p d)) = some (ds.map p)
  | [] => rfl
  | d :: ds => by
    show (toBls (ds.map fun d => .bl (p d))).map (p d :: ·) = _
    rw [toBls_map ds]
    rfl
theorem toInts_map {p : D → Int} : ∀ (ds : List D), toInts (ds.map fun d => .int (p d)) = some (ds.map p)
  | [] => rfl
  | d :: ds => by
    show (toInts (ds.map fun d => .int (p d))).map (p d :: ·) = _
    rw [toInts_map ds]
    rfl
theorem gAll_map {p : D → Bool} {ds : List D} : gAll [.lst (ds.map fun d => .bl (p d))] = some (.val (.bl (ds.all p))) := by
  show (toBls (ds.map fun d => .bl (p d))).map _ = _
  rw [toBls_map ds]
  show some (Op.val (.bl ((ds.map p).all id))) = _
  rw [List.all_map]
  rfl
theorem gLenSet_map {p : D → Int} {ds : List D} (h : ds.length ≤ 4000) : gLenSet (.lst (ds.map fun d => .int (p d))) = some (.val (.int ((dedupI (ds.map p)).length : Nat))) := by
  show (toInts (ds.map fun d => .int (p d))).bind _ = _
  rw [toInts_map ds]
  show (if (ds.map p).length ≤ 4000 then _ else _) = _
  rw [if_pos (by rw [List.length_map]; exact h)]
theorem isW_int {d : D} {lo hi : Int} (h : isW d lo hi = true) : ∃ i, d = .int i ∧ lo ≤ i ∧ i ≤ hi := by
  cases d with
  | int i =>
    have h : (decide (lo ≤ i) && decide (i ≤ hi)) = true := h
    obtain ⟨a, b⟩ := Bool.and_eq_true_iff.mp h
    exact ⟨i, rfl, of_decide_eq_true a, of_decide_eq_true b⟩
  | _ => cases h
theorem hasI_tup {d : D} {lo hi : Int} (h : hasI d lo hi = true) : ∃ ds, d = .tup ds ∧ lo ≤ (ds.length : Int) ∧ (ds.length : Int) ≤ hi := by
  cases d with
  | tup ds =>
    have h : (decide (lo ≤ (ds.length : Int)) && decide ((ds.length : Int) ≤ hi)) = true := h
    obtain ⟨a, b⟩ := Bool.and_eq_true_iff.mp h
    exact ⟨ds, rfl, of_decide_eq_true a, of_decide_eq_true b⟩
  | _ => cases h
theorem iSeq_tup {f : EF} {ds : List D} {en : En} (h : PF.settle (f en) = .ok (.val (.tup ds)) en) : iSeq f en = .ok ds en := by
  unfold iSeq
  rw [h]
  rfl
theorem iSeq_lst {f : EF} {ds : List D} {en : En} (h : PF.settle (f en) = .ok (.val (.lst ds)) en) : iSeq f en = .ok ds en := by
  unfold iSeq
  rw [h]
  rfl
theorem iSeq_lst' {f : EF} {ds : List D} {en en1 : En} (h : PF.settle (f en) = .ok (.val (.lst ds)) en1) : iSeq f en = .ok ds en1 := by
  unfold iSeq
  rw [h]
  rfl
theorem numVal_non {ds : List D} (h : ¬ (ds.length : Int) = 3) : numVal (.tup ds) = false := by
  match ds, h with
  | [], _ => simp only [numVal]
  | [_], _ => simp only [numVal]
  | [_, _], _ => simp only [numVal]
  | [_, _, _], h => exact absurd rfl h
  | _ :: _ :: _ :: _ :: _, _ => simp only [numVal]
theorem len3 {ds : List D} (h : (ds.length : Int) = 3) : ∃ a b c, ds = [a, b, c] := by
  match ds, h with
  | [a, b, c], _ => exact ⟨a, b, c, rfl⟩
  | [], h => simp at h
  | [_], h => simp at h
  | [_, _], h => simp at h
  | _ :: _ :: _ :: _ :: _, h => simp only [List.length_cons] at h; omega
theorem toPys_ints : ∀ (ns : List Int), toPys (ns.map D.int) = some (ns.map PyData.int)
  | [] => by simp only [List.map_nil, toPys]
  | n :: ns => by simp only [List.map_cons, toPys, toPy, toPys_ints ns]
theorem sh_int (k : Int) : SeqAt.shaped (.int k) = true := by simp [SeqAt.shaped, PyData.canLay0, PyData.depth]
theorem gNe_int {i j : Int} : gNe (.int i) (.int j) = some (.val (.bl (!decide (i = j)))) := by
  have h : PyData.eqv (.int i) (.int j) = decide (i = j) := by
    simp only [PyData.eqv]
    by_cases h : i = j
    · simp [h]
    · simp [h]
  unfold gNe gEqB
  simp only [toPy]
  rw [sh_int i, sh_int j, h]
  rfl
theorem sh_nil : SeqAt.shaped (.list []) = true := by decide +kernel
theorem gNe_nil {ns : List Int} : gNe (.lst (ns.map D.int)) (.lst []) = some (.val (.bl (!ns.isEmpty))) := by
  have e : gNe (.lst (ns.map D.int)) (.lst []) = if SeqAt.shaped (.list (ns.map PyData.int)) && SeqAt.shaped (.list []) then some (.val (.bl (!(PyData.eqv (.list (ns.map PyData.int)) (.list []))))) else none := by
    simp only [gNe, gEqB, toPy, toPys_ints, toPys]
  rw [e, PySem.W.shaped_ints ns, sh_nil]
  cases ns with
  | nil => simp only [List.map_nil, PyData.eqv, PyData.eqvAll, List.isEmpty_nil, Bool.and_self, if_true]
  | cons n ns => simp only [List.map_cons, PyData.eqv, PyData.eqvAll, List.isEmpty_cons, Bool.and_self, if_true]
theorem ones_eq (ds : List D) : (ds.map fun _ => D.int 1) = (ds.map fun _ => (1 : Int)).map D.int := by rw [List.map_map]; rfl
theorem filt_emp {p : D → Bool} : ∀ (ds : List D), ((ds.filter fun x => !p x).map fun _ => (1 : Int)).isEmpty = ds.all p
  | [] => rfl
  | d :: ds => by
    have ih := filt_emp (p := p) ds
    rw [List.filter_cons, List.all_cons]
    cases h : p d with
    | true => simpa using ih
    | false => simp
theorem cast3 : ((3 : Nat) : Int) = 3 := rfl
theorem cast2 : ((2 : Nat) : Int) = 2 := rfl
theorem cast6 : ((6 : Nat) : Int) = 6 := rfl
theorem cast11 : ((11 : Nat) : Int) = 11 := rfl
def planVal : D → Bool
  | .tup [a, b] => numVal a && (numVal b && (match a, b with
    | .tup [_, .int s, .tup t], .tup [_, .int s', .tup t'] => decide (s * (t'.length : Int) = s' * (t.length : Int))
    | _, _ => false))
  | _ => false
theorem numVal_at {d : D} (h : numVal d = true) : ∃ (x : Str) (st : Int) (tb : List D), d = .tup [.str x, .int st, .tup tb] ∧ 1 ≤ st ∧ st ≤ 12 ∧ (tb.length : Int) ≤ 3 := by
  unfold numVal at h
  split at h
  · rename_i x b tb
    obtain ⟨h1, h⟩ := Bool.and_eq_true_iff.mp h
    obtain ⟨h2, h⟩ := Bool.and_eq_true_iff.mp h
    obtain ⟨h3, h⟩ := Bool.and_eq_true_iff.mp h
    obtain ⟨st, rfl, s1, s2⟩ := isW_int h2
    obtain ⟨ds, e, l1, l2⟩ := hasI_tup h3
    cases e
    exact ⟨x, st, tb, rfl, s1, s2, l2⟩
  · cases h
theorem planVal_non {ds : List D} (h : ¬ (ds.length : Int) = 2) : planVal (.tup ds) = false := by
  match ds, h with
  | [], _ => simp only [planVal]
  | [_], _ => simp only [planVal]
  | [_, _], h => exact absurd rfl h
  | _ :: _ :: _ :: _, _ => simp only [planVal]
theorem len2 {ds : List D} (h : (ds.length : Int) = 2) : ∃ a b, ds = [a, b] := by
  match ds, h with
  | [a, b], _ => exact ⟨a, b, rfl⟩
  | [], h => simp at h
  | [_], h => simp at h
  | _ :: _ :: _ :: _, h => simp only [List.length_cons] at h; omega
theorem has_eq {ds : List D} {m : Int} : hasI (.tup ds) m m = decide ((ds.length : Int) = m) := by
  show (decide (m ≤ (ds.length : Int)) && decide ((ds.length : Int) ≤ m)) = _
  by_cases h : (ds.length : Int) = m
  · rw [decide_eq_true h, decide_eq_true (by omega), decide_eq_true (by omega)]; rfl
  · rw [decide_eq_false h, Bool.and_eq_false_iff]
    by_cases h2 : m ≤ (ds.length : Int)
    · exact .inr (decide_eq_false (by omega))
    · exact .inl (decide_eq_false h2)
theorem gNotIn_ints {v : Int} {rs : List Int} : gNotIn (.int v) (.lst (rs.map D.int)) = some (.val (.bl (!rs.any fun z => z == v))) := by
  have e : gNotIn (.int v) (.lst (rs.map D.int)) = if SeqAt.shaped (.int v) && SeqAt.shaped (.list (rs.map PyData.int)) then some (.val (.bl (!((rs.map PyData.int).any fun z => PyData.eqv z (.int v))))) else none := by
    simp only [gNotIn, gInB, toPy, toPys_ints]
  rw [e, PySem.W.shaped_ints rs, sh_int]
  simp only [Bool.and_self, if_true, List.any_map]
  congr
def r12 : List D := [.int 1, .int 2, .int 3, .int 4, .int 5, .int 6, .int 7, .int 8, .int 9, .int 10, .int 11, .int 12]
theorem r12_ok {en : En} : iRange2 (eC (.int 1)) (eC (.int 13)) en = .ok r12 en := by
  unfold iRange2
  simp only [sSeq, sNext, sSet, sRet, sRetN, sIf, sFor, sDrop, sRaise, eLst, eTup, aCons, aNil, eCall, eVar, eC, eOp1, eOp2, eAnd, eOr, eNot, eIf, tCmp', tNot', tAnd', tOr', tVal, tChain', eChain, ofO_some, ofT_some, bind_ok, bind_exc, settle_val, settle_fr, settle_sl, settle_exc, viewL, view_val, view_sl, Option.bind_some, Option.map_some, frzL, frz_val, setO, putO, List.set_cons_zero, List.set_cons_succ, List.getElem?_cons_zero, List.getElem?_cons_succ, List.length_cons, List.length_nil, List.replicate, List.cons_append, List.nil_append, SZ, Nat.reduceAdd, Nat.reduceSub, Nat.reduceLeDiff, if_true, ↓reduceIte, fnOf, finR, List.take_succ_cons, List.take_zero, eFn, callF, frzNon, mkSl, ioOk, ioSl, putR, putB, opOf, gInt, gSub_ev, gAdd_ev, gLt_ev, gLe_ev, gGt_ev, gGe_ev, gB, ix0, ix1, ix2, tx0, tx1, tx2, sStI, PF.stI, isBl, sPar, aConsF, hold, setM, Bool.not_true, Bool.not_false, List.contains_nil, Bool.and_true, decide_true, decide_false]
  rfl
theorem cand {st : Int} {rs : List Int} (h1 : (rs.length : Int) < st) (h2 : st ≤ 12) : 0 < (r12.filter fun x => !rs.any fun z => z == iOf x % st).length := by
  rw [List.length_pos_iff_exists_mem]
  refine Classical.byContradiction fun no => ?_
  have all : ∀ x ∈ r12, (rs.any fun z => z == iOf x % st) = true := fun x hx => by
    cases h : rs.any fun z => z == iOf x % st with
    | true => rfl
    | false => exact absurd ⟨x, List.mem_filter.mpr ⟨hx, by simp only [h]; rfl⟩⟩ no
  -- every residue stands in rs
  have res : ∀ j : Nat, (j : Int) < st → (j : Int) ∈ rs := fun j hj => by
    have hm : ∃ x ∈ r12, iOf x % st = (j : Int) := by
      by_cases h0 : j = 0
      · subst h0
        have e : st = 1 ∨ st = 2 ∨ st = 3 ∨ st = 4 ∨ st = 5 ∨ st = 6 ∨ st = 7 ∨ st = 8 ∨ st = 9 ∨ st = 10 ∨ st = 11 ∨ st = 12 := by omega
        refine ⟨.int st, ?_, ?_⟩
        · rcases e with e | e | e | e | e | e | e | e | e | e | e | e <;> subst e <;> simp [r12]
        · show st % st = _
          rw [Int.emod_self]; rfl
      · have e : j = 1 ∨ j = 2 ∨ j = 3 ∨ j = 4 ∨ j = 5 ∨ j = 6 ∨ j = 7 ∨ j = 8 ∨ j = 9 ∨ j = 10 ∨ j = 11 := by omega
        refine ⟨.int (j : Int), ?_, ?_⟩
        · rcases e with e | e | e | e | e | e | e | e | e | e | e <;> subst e <;> simp [r12]
        · show (j : Int) % st = _
          exact Int.emod_eq_of_lt (by omega) hj
    obtain ⟨x, hx, e⟩ := hm
    obtain ⟨z, hz, e2⟩ := List.any_eq_true.mp (all x hx)
    rw [e] at e2
    have : z = (j : Int) := by simpa using e2
    exact this ▸ hz
  have hle := L2.nat_nodup_len (List.range st.toNat) (rs.map Int.toNat) List.nodup_range fun x hx => by
    have hx := List.mem_range.mp hx
    exact List.mem_map.mpr ⟨(x : Int), res x (by omega), by simp⟩
  rw [List.length_range, List.length_map] at hle
  omega
def Num12 (tb : List D) : Prop := ∀ x ∈ tb, ∃ i : Int, x = .int i ∧ 1 ≤ i ∧ i ≤ 12
theorem Num12.rests {tb : List D} (st : Int) : (tb.map fun x => D.int (iOf x % st)) = (tb.map fun x => iOf x % st).map D.int := by rw [List.map_map]; rfl
theorem r12_num {x : D} (h : x ∈ r12) : ∃ i : Int, x = .int i ∧ 1 ≤ i ∧ i ≤ 12 := by
  simp only [r12, List.mem_cons, List.not_mem_nil, or_false] at h
  rcases h with h | h | h | h | h | h | h | h | h | h | h | h <;> subst h <;> exact ⟨_, rfl, by decide, by decide⟩
theorem whileN_s {t : TF} {f : SF} {n : Nat} {en : En} : whileN t f (n + 1) en = (t en).bind fun b en1 => match b with
    | false => .ok .nx en1
    | true => (f en1).bind fun fl en2 => match fl with
      | .nx => whileN t f n en2
      | .ct => whileN t f n en2
      | .bk => .ok .nx en2
      | .rt o => .ok (.rt o) en2 := rfl
theorem gAdd_tup {xs ys : List D} (h : xs.length + ys.length ≤ 1000000) : gAdd (.tup xs) (.tup ys) = some (.val (.tup (xs ++ ys))) := if_pos (by show _ ≤ 16777216; omega)
theorem gAdd_lst {xs ys : List D} (h : xs.length + ys.length ≤ 1000000) : gAdd (.lst xs) (.lst ys) = some (.fresh (.lst (xs ++ ys))) := if_pos (by show _ ≤ 16777216; omega)
theorem gMax2_ev {i j : Int} : gMax2 [.int i, .int j] = some (.val (.int (max i j))) := rfl
theorem Dat.mono {n n' k k' : Nat} {d : D} (h : Dat n k d) (hn : n ≤ n') : k ≤ k' → Dat n' k' d := by
  induction h generalizing k' with
  | non => exact fun _ => .non
  | bl b => exact fun _ => .bl b
  | int i => exact fun _ => .int i
  | str x hx => exact fun _ => .str x hx
  | tup hl _ ih =>
    intro hk
    cases k' with
    | zero => omega
    | succ k' => exact .tup (by omega) fun d hd => ih d hd (by omega)
  | lst hl _ ih =>
    intro hk
    cases k' with
    | zero => omega
    | succ k' => exact .lst (by omega) fun d hd => ih d hd (by omega)
theorem near_ok : SeqAt.shaped (.str "near") = true := by decide +kernel
theorem far_ok : SeqAt.shaped (.str "far") = true := by decide +kernel
theorem cut1 {a b c : D} : PF.cutD [a, b, c] (some 1) none = [b, c] := by
  unfold PF.cutD
  rfl
theorem end_of {x : D} (h : x ∈ [D.str "near", D.str "far"]) : ∃ s : Str, x = .str s ∧ SeqAt.shaped (.str s) = true := by
  simp only [List.mem_cons, List.not_mem_nil, or_false] at h
  rcases h with h | h
  · exact ⟨_, h, near_ok⟩
  · exact ⟨_, h, far_ok⟩
theorem frz_sl {i : Nat} {en : En} : frz (.slot i) en = match en[i]? with
  | some (.fz d) => some (d, en)
  | some (.ow false d) => some (d, en.set i (.fz d))
  | _ => none := rfl
theorem ixN_of {n : Nat} {r : Int} (h0 : 0 ≤ r) (h1 : r < n) : ixN n r = some r.toNat := by
  unfold ixN
  rw [if_pos (by omega), if_pos (by omega)]
theorem cutT {ds : List D} : PF.cutD ds (some 1) none = ds.drop 1 := by
  have e : HT.sIx ds.length 0 (some 1) = min 1 ds.length := HT.sIx_nat _ _ 1
  unfold PF.cutD
  rw [e, HT.sIx_none]
  cases ds with
  | nil => rfl
  | cons x xs =>
    rw [List.length_cons, Nat.min_eq_left (by omega)]
    simp
theorem cutH {ds : List D} : PF.cutD ds none (some 1) = ds.take 1 := by
  have e : HT.sIx ds.length ds.length (some 1) = min 1 ds.length := HT.sIx_nat _ _ 1
  unfold PF.cutD
  rw [e, HT.sIx_none]
  cases ds with
  | nil => rfl
  | cons x xs =>
    rw [List.length_cons, Nat.min_eq_left (by omega)]
    simp
def Free (s : Sl) : Prop := ∀ d, s ≠ .ow true d
theorem Free.fz {d : D} : Free (.fz d) := fun _ e => by cases e
theorem Free.un : Free .un := fun _ e => by cases e
theorem Free.ow {d : D} : Free (.ow false d) := fun _ e => by cases e
theorem setO_free {i : Nat} {o : Op} {en : En} {s : Sl} (h : en[i]? = some s) (hf : Free s) : setO i o en = putO i o en := by
  unfold setO
  rw [h]
  cases s with
  | ow b d =>
    cases b with
    | true => exact absurd rfl (hf d)
    | false => rfl
  | _ => rfl
theorem rng_len {n : Nat} : (rngD 0 n).length = n := by simp [rngD]
theorem set_at2 {a b s : Sl} {r : En} {o : Op} (h : Free s) : setO 2 o (a :: b :: s :: r) = putO 2 o (a :: b :: s :: r) := setO_free (s := s) rfl h
theorem set_at3 {a b c s : Sl} {r : En} {o : Op} (h : Free s) : setO 3 o (a :: b :: c :: s :: r) = putO 3 o (a :: b :: c :: s :: r) := setO_free (s := s) rfl h
theorem set_at4 {a b c d s : Sl} {r : En} {o : Op} (h : Free s) : setO 4 o (a :: b :: c :: d :: s :: r) = putO 4 o (a :: b :: c :: d :: s :: r) := setO_free (s := s) rfl h
theorem set_at5 {a b c d e s : Sl} {r : En} {o : Op} (h : Free s) : setO 5 o (a :: b :: c :: d :: e :: s :: r) = putO 5 o (a :: b :: c :: d :: e :: s :: r) := setO_free (s := s) rfl h
theorem mem_cut {x : D} {xs : List D} {lo hi : Option Int} (h : x ∈ PF.cutD xs lo hi) : x ∈ xs := List.mem_of_mem_drop (List.mem_of_mem_take h)
/-! ## numberings, plans -/
structure Numb where
  near : Bool
  step : Int
  tab : List Int
def endS : Bool → Str
  | true => "near"
  | false => "far"
def Numb.d (n : Numb) : D := .tup [.str (endS n.near), .int n.step, .tup (n.tab.map D.int)]
structure Numb.Ok (n : Numb) : Prop where
  st1 : 1 ≤ n.step
  st12 : n.step ≤ 12
  len1 : 1 ≤ n.tab.length
  len3 : n.tab.length ≤ 3
  ent : ∀ x ∈ n.tab, 1 ≤ x ∧ x ≤ 12
  res : (n.tab.map fun x => x % n.step).Nodup
def planD (a b : Numb) : D := .tup [a.d, b.d]
structure POk (x y : Numb) : Prop where
  a : x.Ok
  b : y.Ok
  bal : x.step * y.tab.length = y.step * x.tab.length
theorem end_ok : ∀ b, SeqAt.shaped (.str (endS b)) = true
  | true => near_ok
  | false => far_ok
theorem isEnd_end : ∀ b, isEnd (endS b) = true
  | true => by kernel_rfl
  | false => by kernel_rfl
theorem end_num {s : Str} (h : s = "near" ∨ s = "far") : ∃ b, s = endS b := by
  rcases h with rfl | rfl
  · exact ⟨true, rfl⟩
  · exact ⟨false, rfl⟩
theorem dedup_nodup : ∀ (ns acc : List Int), (∀ x ∈ ns, x ∉ acc) → ns.Nodup → ns.foldl PyProof.Rows.step_dedup acc = acc ++ ns
  | [], acc, _, _ => by simp
  | x :: ns, acc, h1, h2 => by
    have hx : x ∉ acc := h1 x (by simp)
    have e : PyProof.Rows.step_dedup acc x = acc ++ [x] := by
      unfold PyProof.Rows.step_dedup
      rw [if_neg (by simpa using hx)]
    rw [List.nodup_cons] at h2
    rw [List.foldl_cons, e, dedup_nodup ns (acc ++ [x]) (fun y hy hm => by
      rcases List.mem_append.mp hm with hm | hm
      · exact h1 y (by simp [hy]) hm
      · have hm : y = x := by simpa using hm
        subst hm
        exact h2.1 hy) h2.2, List.append_assoc, List.cons_append, List.nil_append]
theorem dedupI_nodup {ns : List Int} (h : ns.Nodup) : dedupI ns = ns := by
  unfold dedupI
  rw [dedup_nodup ns [] (fun x _ hx => by simp at hx) h, List.nil_append]
theorem Numb.Ok.dat {n : Numb} (h : n.Ok) : Dat 3 2 n.d := .tup (by simp) fun d hd => by
  simp only [List.mem_cons, List.not_mem_nil, or_false] at hd
  rcases hd with hd | hd | hd <;> subst hd
  · exact .str _ (end_ok _)
  · exact .int _
  · exact .tup (by rw [List.length_map]; exact h.len3) fun y hy => by
      obtain ⟨i, _, rfl⟩ := List.mem_map.mp hy
      exact .int i
theorem Numb.Ok.val {n : Numb} (h : n.Ok) : numVal n.d = true := by
  unfold Numb.d
  simp only [numVal, isEnd_end, Bool.true_and, isW, hasI, List.length_map]
  have h1 := h.st1
  have h2 := h.st12
  have h3 := h.len1
  have h4 := h.len3
  have t : tabOk (iOf (.int n.step)) (n.tab.map D.int) = true := by
    unfold tabOk
    have e : ((n.tab.map D.int).map fun x => iOf x % iOf (.int n.step)) = n.tab.map fun x => x % n.step := by rw [List.map_map]; rfl
    rw [e, dedupI_nodup h.res, List.length_map, List.length_map, decide_eq_true rfl, Bool.and_true]
    refine List.all_eq_true.mpr fun x hx => ?_
    obtain ⟨i, hi, rfl⟩ := List.mem_map.mp hx
    obtain ⟨g1, g2⟩ := h.ent i hi
    show (decide _ && decide _) = true
    rw [decide_eq_true g1, decide_eq_true g2]; rfl
  rw [t, decide_eq_true h1, decide_eq_true h2, decide_eq_true (by omega : (1 : Int) ≤ (n.tab.length : Int)), decide_eq_true (by omega : (n.tab.length : Int) ≤ 3)]
  rfl
theorem POk.dat {a b : Numb} (h : POk a b) : Dat 3 3 (planD a b) := .tup (by simp) fun d hd => by
  simp only [List.mem_cons, List.not_mem_nil, or_false] at hd
  rcases hd with hd | hd <;> subst hd
  · exact h.a.dat
  · exact h.b.dat
theorem POk.val {a b : Numb} (h : POk a b) : planVal (planD a b) = true := by
  have ha := h.a.val
  have hb := h.b.val
  unfold Numb.d at ha hb
  unfold planD Numb.d
  simp only [planVal, ha, hb, Bool.true_and, List.length_map]
  exact decide_eq_true h.bal
end PF
namespace PF
open PySem PySem.Spec PyProof.Rows L2
/-! ## loops that fold, or leave with a value -/
def runL {S : Type} (step : S → D → Except D S) : S → List D → Except D S
  | s, [] => .ok s
  | s, d :: ds => match step s d with
    | .ok s' => runL step s' ds
    | .error o => .error o
theorem forD_run {S : Type} {p : Pat} {f : SF} {I : S → En → Prop} {J : En → Prop} {step : S → D → Except D S} : ∀ (ds : List D) (h : ∀ d ∈ ds, ∀ s en, I s en → ∃ en1 en2, asgP p d en = some en1 ∧ (match step s d with
      | .ok s' => f en1 = .ok .nx en2 ∧ I s' en2
      | .error o => f en1 = .ok (.rt (.val o)) en2 ∧ J en2)) {s : S} {en : En}, I s en → ∃ en2, match runL step s ds with
      | .ok s' => forD p f ds en = .ok .nx en2 ∧ I s' en2
      | .error o => forD p f ds en = .ok (.rt (.val o)) en2 ∧ J en2
  | [], _, s, en, hi => ⟨en, rfl, hi⟩
  | d :: ds, h, s, en, hi => by
    obtain ⟨en1, en2, e1, e2⟩ := h d (by simp) s en hi
    unfold runL
    cases hs : step s d with
    | error o =>
      rw [hs] at e2
      refine ⟨en2, ?_, e2.2⟩
      unfold forD
      rw [e1]
      show (f en1).bind _ = _
      rw [e2.1]
      rfl
    | ok s' =>
      rw [hs] at e2
      obtain ⟨en3, e3⟩ := forD_run ds (fun d hd => h d (List.mem_cons_of_mem _ hd)) e2.2
      refine ⟨en3, ?_⟩
      have z : forD p f (d :: ds) en = forD p f ds en2 := by
        show (match asgP p d en with | none => _ | some en1 => (f en1).bind _) = _
        rw [e1]
        show (f en1).bind _ = _
        rw [e2.1]
        rfl
      rw [z]
      exact e3
/-! ## a numbering as a map of the places, and back -/
def Numb.len (n : Numb) : Int := n.tab.length
def Numb.at (n : Numb) (i : Int) : Int := i / n.len * n.step + n.tab.getD (i % n.len).toNat 0
def idxC (st v x : Int) : Bool := decide (x ≤ v) && decide ((v - x) % st = 0)
def idxGo (st len v : Int) : Nat → List Int → Option Int
  | _, [] => none
  | r, x :: xs => if idxC st v x then some ((v - x) / st * len + r) else idxGo st len v (r + 1) xs
def Numb.idx (n : Numb) (v : Int) : Option Int := idxGo n.step n.len v 0 n.tab
theorem idxGo_some {st len v i : Int} : ∀ {r : Nat} {xs : List Int}, idxGo st len v r xs = some i → ∃ (j : Nat) (x : Int), xs[j]? = some x ∧ idxC st v x = true ∧ i = (v - x) / st * len + ((r + j : Nat) : Int)
  | r, [], h => by cases h
  | r, x :: xs, h => by
    unfold idxGo at h
    split at h
    · rename_i c
      exact ⟨0, x, rfl, c, (Option.some.inj h).symm⟩
    · obtain ⟨j, y, h1, h2, h3⟩ := idxGo_some h
      exact ⟨j + 1, y, h1, h2, by rw [h3, show r + 1 + j = r + (j + 1) by omega]⟩
theorem idxGo_none {st len v : Int} : ∀ {r : Nat} {xs : List Int}, idxGo st len v r xs = none → ∀ x ∈ xs, idxC st v x = false
  | r, [], h, x, hx => by simp at hx
  | r, y :: xs, h, x, hx => by
    unfold idxGo at h
    split at h
    · cases h
    · rename_i c
      rcases List.mem_cons.mp hx with rfl | hx
      · simpa using c
      · exact idxGo_none h x hx
theorem nodup_ix {α : Type} {xs : List α} (h : xs.Nodup) {i j : Nat} {a : α} (h1 : xs[i]? = some a) (h2 : xs[j]? = some a) : i = j := by
  obtain ⟨l1, e1⟩ := List.getElem?_eq_some_iff.mp h1
  obtain ⟨l2, e2⟩ := List.getElem?_eq_some_iff.mp h2
  have p := List.pairwise_iff_getElem.mp h
  rcases Nat.lt_trichotomy i j with hl | hl | hl
  · exact absurd (e1.trans e2.symm) (p i j l1 l2 hl)
  · exact hl
  · exact absurd (e2.trans e1.symm) (p j i l2 l1 hl)
theorem Numb.Ok.len_pos {n : Numb} (h : n.Ok) : 0 < n.len := by
  have := h.len1
  show (0 : Int) < (n.tab.length : Int)
  omega
theorem Numb.at_ix {n : Numb} (h : n.Ok) {i : Int} (hi : 0 ≤ i) : ∃ (r : Nat) (x : Int), (r : Int) = i % n.len ∧ n.tab[r]? = some x ∧ n.at i = i / n.len * n.step + x := by
  have l := h.len_pos
  have m0 := Int.emod_nonneg i (show n.len ≠ 0 by omega)
  have m1 := Int.emod_lt_of_pos i l
  have hr : (i % n.len).toNat < n.tab.length := by
    have : n.len = (n.tab.length : Int) := rfl
    omega
  refine ⟨(i % n.len).toNat, n.tab[(i % n.len).toNat], by omega, List.getElem?_eq_getElem hr, ?_⟩
  unfold Numb.at
  rw [List.getD_eq_getElem?_getD, List.getElem?_eq_getElem hr]
  rfl
theorem Numb.idx_at {n : Numb} (h : n.Ok) {v i : Int} (e : n.idx v = some i) : 0 ≤ i ∧ n.at i = v := by
  obtain ⟨j, x, h1, h2, h3⟩ := idxGo_some e
  obtain ⟨c1, c2⟩ := Bool.and_eq_true_iff.mp h2
  have c1 := of_decide_eq_true c1
  have c2 := of_decide_eq_true c2
  have l := h.len_pos
  obtain ⟨jl, ej⟩ := List.getElem?_eq_some_iff.mp h1
  have jl' : (j : Int) < n.len := by
    show (j : Int) < (n.tab.length : Int)
    omega
  have st := h.st1
  have q0 : 0 ≤ (v - x) / n.step := Int.ediv_nonneg (by omega) (by omega)
  rw [Nat.zero_add] at h3
  have e1 : i / n.len = (v - x) / n.step := by
    rw [h3, Int.add_comm, Int.add_mul_ediv_right _ _ (by omega), Int.ediv_eq_zero_of_lt (by omega) jl', Int.zero_add]
  have e2 : i % n.len = (j : Int) := by
    rw [h3, Int.add_comm, Int.add_mul_emod_self_right]
    exact Int.emod_eq_of_lt (by omega) jl'
  refine ⟨by rw [h3]; have := Int.mul_nonneg q0 (show 0 ≤ n.len by omega); omega, ?_⟩
  unfold Numb.at
  rw [e1, e2, Int.toNat_natCast, List.getD_eq_getElem?_getD, h1]
  show (v - x) / n.step * n.step + x = v
  have := Int.mul_ediv_add_emod (v - x) n.step
  rw [c2, Int.mul_comm] at this
  omega
theorem Numb.at_idx {n : Numb} (h : n.Ok) {i : Int} (hi : 0 ≤ i) : n.idx (n.at i) = some i := by
  obtain ⟨r, x, er, hx, ev⟩ := Numb.at_ix h hi
  have l := h.len_pos
  have st := h.st1
  have q0 : 0 ≤ i / n.len := Int.ediv_nonneg hi (by omega)
  have q1 : 0 ≤ i / n.len * n.step := Int.mul_nonneg q0 (by omega)
  have dx : n.at i - x = i / n.len * n.step := by omega
  have cx : idxC n.step (n.at i) x = true := by
    unfold idxC
    rw [dx, Int.mul_emod_left, decide_eq_true rfl, decide_eq_true (show x ≤ n.at i by omega)]
    rfl
  cases e : n.idx (n.at i) with
  | none =>
    have := idxGo_none e x (List.mem_of_getElem? hx)
    rw [cx] at this
    cases this
  | some i' =>
    obtain ⟨j, y, h1, h2, h3⟩ := idxGo_some e
    obtain ⟨_, c2⟩ := Bool.and_eq_true_iff.mp h2
    have c2 := of_decide_eq_true c2
    have c1 : (n.at i - x) % n.step = 0 := by rw [dx, Int.mul_emod_left]
    have m1 := Int.emod_eq_emod_iff_emod_sub_eq_zero.mpr c1
    have m2 := Int.emod_eq_emod_iff_emod_sub_eq_zero.mpr c2
    have ej : j = r := nodup_ix h.res (a := x % n.step) (by rw [List.getElem?_map, h1]; show some (y % n.step) = some (x % n.step); rw [← m1, ← m2]) (by rw [List.getElem?_map, hx]; rfl)
    subst ej
    rw [hx] at h1
    cases h1
    have e4 : i' = i := by
      rw [h3, dx, Int.mul_ediv_cancel _ (by omega), Nat.zero_add, er]
      have := Int.mul_ediv_add_emod i n.len
      rw [Int.mul_comm]
      exact this
    rw [e4]
theorem Numb.idx_iff {n : Numb} (h : n.Ok) {v i : Int} : n.idx v = some i ↔ 0 ≤ i ∧ n.at i = v :=
  ⟨Numb.idx_at h, fun ⟨h1, h2⟩ => by rw [← h2]; exact Numb.at_idx h h1⟩
end PF
namespace PF
open PySem PySem.Spec PyProof.Rows L2
theorem forD_ix {p : Pat} {f : SF} {I : Nat → En → Prop} : ∀ (ds : List D) (j : Nat), (∀ i d, ds[i]? = some d → ∀ en, I (j + i) en → ∃ en1 en2, asgP p d en = some en1 ∧ f en1 = .ok .nx en2 ∧ I (j + i + 1) en2) → ∀ {en}, I j en → ∃ en2, forD p f ds en = .ok .nx en2 ∧ I (j + ds.length) en2
  | [], j, _, en, h => ⟨en, rfl, h⟩
  | d :: ds, j, hs, en, h => by
    obtain ⟨en1, en2, e1, e2, h2⟩ := hs 0 d rfl en h
    obtain ⟨en3, e3, h3⟩ := forD_ix ds (j + 1) (fun i d hd en hi => by
      have := hs (i + 1) d hd en (by rwa [show j + (i + 1) = j + 1 + i by omega])
      rwa [show j + (i + 1) + 1 = j + 1 + i + 1 by omega] at this) h2
    refine ⟨en3, ?_, by rwa [List.length_cons, show j + (ds.length + 1) = j + 1 + ds.length by omega]⟩
    unfold forD
    rw [e1]
    show (f en1).bind _ = _
    rw [e2]
    exact e3
theorem eComp_list {v : Nat} {fi : IF} {te : EF} {en : En} {ds es : List D} (hi : fi en = .ok ds en) (hv : en[v]? = some .un) (hl : ds.length = es.length) (h : ∀ (i : Nat) d e, ds[i]? = some d → es[i]? = some e → PF.settle (te (en.set v (.fz d))) = .ok (.val e) (en.set v (.fz d))) :
    eComp fi (.nm v) [v] (fun en => .ok true en) te en = .ok (.fresh (.lst es)) en := by
  have c : ∀ (ds es acc : List D), ds.length = es.length → (∀ (i : Nat) d e, ds[i]? = some d → es[i]? = some e → PF.settle (te (en.set v (.fz d))) = .ok (.val e) (en.set v (.fz d))) → compD (.nm v) [v] (fun en => .ok true en) te ds acc en = .ok (.fresh (.lst (acc ++ es))) en := by
    intro ds
    induction ds with
    | nil =>
      intro es acc hl _
      cases es with
      | nil => rw [List.append_nil]; rfl
      | cons e es => cases hl
    | cons d ds ih =>
      intro es acc hl h
      cases es with
      | nil => cases hl
      | cons e es =>
        have e0 : asgP (.nm v) d en = some (en.set v (.fz d)) := by simp [asgP, setO, hv, putO]
        have e1 := h 0 d e rfl rfl
        rw [compD_cons, e0]
        simp only [e1, frz_val, wipeE, set_un hv]
        rw [ih es (acc ++ [e]) (by simpa using hl) (fun i d' e' h1 h2 => h (i + 1) d' e' h1 h2), List.append_assoc, List.cons_append, List.nil_append]
  have c := c ds es [] hl h
  unfold eComp
  rw [hi]
  simp only [bind_ok, wipeE, set_un0 hv, c, restE, hv, Option.map_some, List.nil_append]
/-! equality of lists of ints -/
theorem eqvAll_ints : ∀ (xs ys : List Int), PyData.eqvAll (xs.map PyData.int) (ys.map PyData.int) = decide (xs = ys)
  | [], [] => rfl
  | [], _ :: _ => rfl
  | _ :: _, [] => rfl
  | x :: xs, y :: ys => by
    rw [List.map_cons, List.map_cons, PyData.eqvAll, eqvAll_ints xs ys]
    by_cases h : x = y
    · subst h
      by_cases h2 : xs = ys
      · subst h2
        simp [PyData.eqv]
      · rw [decide_eq_false h2, decide_eq_false (fun z => h2 (List.cons.inj z).2), Bool.and_false]
    · rw [decide_eq_false (fun z => h (List.cons.inj z).1)]
      simp [PyData.eqv, h]
theorem gNe_ints {xs ys : List Int} : gNe (.lst (xs.map D.int)) (.lst (ys.map D.int)) = some (.val (.bl (!decide (xs = ys)))) := by
  have e : gNe (.lst (xs.map D.int)) (.lst (ys.map D.int)) = if SeqAt.shaped (.list (xs.map PyData.int)) && SeqAt.shaped (.list (ys.map PyData.int)) then some (.val (.bl (!(PyData.eqv (.list (xs.map PyData.int)) (.list (ys.map PyData.int)))))) else none := by
    simp only [gNe, gEqB, toPy, toPys_ints]
  rw [e, PySem.W.shaped_ints xs, PySem.W.shaped_ints ys]
  simp only [PyData.eqv, eqvAll_ints, Bool.and_self, if_true]
theorem gEq_ints {xs ys : List Int} : gEq (.lst (xs.map D.int)) (.lst (ys.map D.int)) = some (.val (.bl (decide (xs = ys)))) := by
  have e : gEq (.lst (xs.map D.int)) (.lst (ys.map D.int)) = if SeqAt.shaped (.list (xs.map PyData.int)) && SeqAt.shaped (.list (ys.map PyData.int)) then some (.val (.bl (id (PyData.eqv (.list (xs.map PyData.int)) (.list (ys.map PyData.int)))))) else none := by
    simp only [gEq, gEqB, toPy, toPys_ints]
  rw [e, PySem.W.shaped_ints xs, PySem.W.shaped_ints ys]
  simp only [PyData.eqv, eqvAll_ints, Bool.and_self, if_true, id_eq]
theorem rng_map {lo : Int} {n : Nat} : rngD lo n = ((List.range n).map fun (k : Nat) => lo + (k : Int)).map D.int := by
  unfold rngD
  rw [List.map_map]
  rfl
def rngI (lo : Int) (n : Nat) : List Int := (List.range n).map fun (k : Nat) => lo + (k : Int)
theorem rngI_add (lo : Int) (m n : Nat) : rngI lo (m + n) = rngI lo m ++ rngI (lo + (m : Int)) n := by
  unfold rngI
  rw [List.range_add, List.map_append, List.map_map]
  congr 1
  refine List.map_congr_left fun k _ => ?_
  show lo + ((m + k : Nat) : Int) = lo + (m : Int) + (k : Int)
  omega
theorem rngI_mem {lo x : Int} {n : Nat} (h : x ∈ rngI lo n) : lo ≤ x ∧ x < lo + n := by
  obtain ⟨k, hk, e⟩ := List.mem_map.mp h
  have := List.mem_range.mp hk
  constructor <;> omega
theorem rngI_len {lo : Int} {n : Nat} : (rngI lo n).length = n := by simp [rngI]
/-- the part of a range that stands between two bounds -/
theorem rngI_filter {lo a b : Int} {n : Nat} {q : Int → Bool} (h1 : lo ≤ a) (h2 : a ≤ b + 1) (h3 : b < lo + n) (hq : ∀ x ∈ rngI lo n, q x = true ↔ a ≤ x ∧ x ≤ b) : (rngI lo n).filter q = rngI a (b + 1 - a).toNat := by
  have e : n = (a - lo).toNat + ((b + 1 - a).toNat + (lo + n - (b + 1)).toNat) := by omega
  have z : rngI lo n = rngI lo (a - lo).toNat ++ (rngI a (b + 1 - a).toNat ++ rngI (b + 1) (lo + n - (b + 1)).toNat) := by
    rw [congrArg (rngI lo) e, rngI_add, rngI_add, show lo + ((a - lo).toNat : Int) = a by omega, show a + ((b + 1 - a).toNat : Int) = b + 1 by omega]
  have m1 : ∀ x ∈ rngI lo (a - lo).toNat, x ∈ rngI lo n := fun x hx => by rw [z]; exact List.mem_append_left _ hx
  have m2 : ∀ x ∈ rngI a (b + 1 - a).toNat, x ∈ rngI lo n := fun x hx => by rw [z]; exact List.mem_append_right _ (List.mem_append_left _ hx)
  have m3 : ∀ x ∈ rngI (b + 1) (lo + n - (b + 1)).toNat, x ∈ rngI lo n := fun x hx => by rw [z]; exact List.mem_append_right _ (List.mem_append_right _ hx)
  rw [z, List.filter_append, List.filter_append]
  rw [List.filter_eq_nil_iff.mpr (fun x hx z => by
    have := (hq x (m1 x hx)).mp z
    have := rngI_mem hx
    omega), List.filter_eq_self.mpr (fun x hx => (hq x (m2 x hx)).mpr (by
    have := rngI_mem hx
    omega)), List.filter_eq_nil_iff.mpr (fun x hx z => by
    have := (hq x (m3 x hx)).mp z
    have := rngI_mem hx
    omega), List.nil_append, List.append_nil]
theorem rngI_none {lo : Int} {n : Nat} {q : Int → Bool} (hq : ∀ x ∈ rngI lo n, q x = false) : (rngI lo n).filter q = [] :=
  List.filter_eq_nil_iff.mpr fun x hx z => by rw [hq x hx] at z; cases z
theorem filter_ints {q : Int → Bool} (xs : List Int) : ((xs.map D.int).filter fun d => q (iOf d)) = (xs.filter q).map D.int := by
  rw [List.filter_map]
  rfl
theorem rngI_succ {lo : Int} {n : Nat} : rngI lo (n + 1) = lo :: rngI (lo + 1) n := by
  have := rngI_add lo 1 n
  rw [Nat.add_comm] at this
  rw [this]
  simp [rngI]
theorem rngI_last {lo : Int} {n : Nat} : rngI lo (n + 1) = rngI lo n ++ [lo + n] := by
  rw [rngI_add]
  simp [rngI]
theorem gRng_ev {i j : Int} (h1 : -1000000 ≤ i ∧ i ≤ 1000000) (h2 : -1000000 ≤ j ∧ j ≤ 1000000) : gRng (.int i) (.int j) = some (.fresh (.lst ((rngI i (j - i).toNat).map D.int))) := by
  have e : gRng (.int i) (.int j) = if (-16777216 ≤ i ∧ i ≤ 16777216) ∧ (-16777216 ≤ j ∧ j ≤ 16777216) ∧ j - i ≤ 16777216 then some (.fresh (.lst (rngD i (j - i).toNat))) else none := rfl
  rw [e, if_pos (by omega), rng_map]
  rfl
theorem gIx_last {xs : List D} {x : D} : gIx (.lst (xs ++ [x])) (.int (-1)) = some (.val x) := by
  refine gIx_lst ?_
  have e : ixN (xs ++ [x]).length (-1) = some xs.length := by
    unfold ixN
    rw [if_neg (by decide), List.length_append, List.length_singleton, if_pos (by omega)]
    congr 1
    omega
  unfold atI
  rw [e]
  show (xs ++ [x])[xs.length]? = some x
  simp
end PF
namespace PF
open PySem PySem.Spec PyProof.Rows L2
/-! ## what can be compared -/
theorem dats_py {n k : Nat} : ∀ {ds : List D}, (∀ d ∈ ds, ∃ p, toPy d = some p ∧ p.canLay0 = true ∧ p.depth ≤ k) → ∃ ps, toPys ds = some ps ∧ PyData.canLayAll0 ps = true ∧ PyData.depthAll ps ≤ k ∧ ps.length = ds.length
  | [], _ => ⟨[], rfl, by simp [PyData.canLayAll0], by simp [PyData.depthAll], rfl⟩
  | d :: ds, h => by
    obtain ⟨p, e1, c1, d1⟩ := h d (by simp)
    obtain ⟨ps, e2, c2, d2, l2⟩ := dats_py (n := n) (ds := ds) fun x hx => h x (List.mem_cons_of_mem _ hx)
    refine ⟨p :: ps, by simp only [toPys, e1, e2], by simp only [PyData.canLayAll0, c1, c2]; rfl, by simp only [PyData.depthAll]; omega, by rw [List.length_cons, List.length_cons, l2]⟩
theorem Dat.py {n k : Nat} {d : D} (h : Dat n k d) : ∃ p, toPy d = some p ∧ p.canLay0 = true ∧ p.depth ≤ k := by
  induction h with
  | non => exact ⟨.none, rfl, by simp [PyData.canLay0], by simp [PyData.depth]⟩
  | bl b => exact ⟨.bool b, rfl, by simp [PyData.canLay0], by simp [PyData.depth]⟩
  | int i => exact ⟨.int i, rfl, by simp [PyData.canLay0], by simp [PyData.depth]⟩
  | str x hx =>
    refine ⟨.str x, rfl, ?_, by simp [PyData.depth]⟩
    exact (Bool.and_eq_true_iff.mp hx).1
  | @tup k ds _ _ ih =>
    obtain ⟨ps, e, c, d, _⟩ := dats_py (n := n) ih
    exact ⟨.tuple ps, by simp only [toPy, e], by simp only [PyData.canLay0]; exact c, by simp only [PyData.depth]; omega⟩
  | @lst k ds _ _ ih =>
    obtain ⟨ps, e, c, d, _⟩ := dats_py (n := n) ih
    exact ⟨.list ps, by simp only [toPy, e], by simp only [PyData.canLay0]; exact c, by simp only [PyData.depth]; omega⟩
theorem shaped_of {p : PyData} (h1 : p.canLay0 = true) (h2 : p.depth ≤ 64) : SeqAt.shaped p = true := by
  show (p.canLay0 && decide (p.depth ≤ 64)) = true
  rw [h1, decide_eq_true h2]; rfl
/-- a list of data beside the empty list -/
theorem gNe_lnil {n k : Nat} {ds : List D} (h : Dat n k (.lst ds)) (hk : k ≤ 64) : gNe (.lst ds) (.lst []) = some (.val (.bl (!ds.isEmpty))) := by
  cases h with
  | @lst k _ _ hs =>
    obtain ⟨ps, e, c, d, l⟩ := dats_py (n := n) (k := k) (ds := ds) fun d hd => (hs d hd).py
    have s := shaped_of (p := .list ps) (by simp only [PyData.canLay0]; exact c) (by simp only [PyData.depth]; omega)
    have z : gNe (.lst ds) (.lst []) = if SeqAt.shaped (.list ps) && SeqAt.shaped (.list []) then some (.val (.bl (!(PyData.eqv (.list ps) (.list []))))) else none := by
      simp only [gNe, gEqB, toPy, e, toPys]
    rw [z, s, sh_nil]
    cases ds with
    | nil =>
      cases ps with
      | nil => simp only [PyData.eqv, PyData.eqvAll, List.isEmpty_nil, Bool.and_self, if_true]
      | cons p ps => cases l
    | cons x xs =>
      cases ps with
      | nil => cases l
      | cons p ps => simp only [PyData.eqv, PyData.eqvAll, List.isEmpty_cons, Bool.and_self, if_true]
end PF
namespace PF
open PySem PySem.Spec PyProof.Rows L2
/-! ## to evaluate: each construct hands its result to a named continuation -/
section
variable {α β : Type} {en en1 : En} {i n : Nat} {d : D} {ds : List D} {o : Op} {os : List Op} {f g fa fb fc : EF} {s t : SF} {t1 t2 : TF} {ga : AF} {fi : IF} {p : Pat} {b : Bool}
def kSeq (g : SF) : Fl → En → SR
  | .nx, en => g en
  | .bk, en => .ok .bk en
  | .ct, en => .ok .ct en
  | .rt o, en => .ok (.rt o) en
theorem ev_seq : sSeq s t en = (s en).bind (kSeq t) := by
  unfold sSeq
  congr
  funext fl en
  cases fl <;> rfl
theorem ev_seq1 : kSeq s .nx en = s en := rfl
theorem ev_seq2 : kSeq s .bk en = .ok .bk en := rfl
theorem ev_seq3 : kSeq s .ct en = .ok .ct en := rfl
theorem ev_seq4 : kSeq s (.rt o) en = .ok (.rt o) en := rfl
theorem ev_next : sNext en = .ok .nx en := rfl
theorem ev_break : sBreak en = .ok .bk en := rfl
theorem ev_cont : sCont en = .ok .ct en := rfl
def kS1 : Option En → SR
  | some en => .ok .nx en
  | none => .stuck
theorem ev_s1 : kS1 (some en) = .ok .nx en := rfl
def kSet (i : Nat) (o : Op) (en : En) : SR := kS1 (setO i o en)
theorem ev_set : sSet i f en = (f en).bind (kSet i) := by
  unfold sSet
  congr
theorem ev_set1 : kSet i o en = kS1 (setO i o en) := rfl
def kSO (i : Nat) (o : Op) (en : En) : Option Sl → Option En
  | none => none
  | some (.ow true _) => none
  | some _ => putO i o en
theorem ev_so : setO i o en = kSO i o en en[i]? := by
  unfold setO kSO
  rfl
theorem ev_so1 {x : Sl} (h : Free x) : kSO i o en (some x) = putO i o en := by
  cases x with
  | ow b d => cases b with
    | true => exact absurd rfl (h d)
    | false => rfl
  | _ => rfl
theorem ev_put1 : putO i (.val d) en = some (en.set i (.fz d)) := rfl
theorem ev_put2 : putO i (.fresh d) en = some (en.set i (.ow false d)) := rfl
def kPS (i : Nat) : Option (D × En) → Option En
  | some p => some (p.2.set i (.fz p.1))
  | none => none
theorem ev_put3 {j : Nat} : putO i (.slot j) en = kPS i (frz (.slot j) en) := by
  show (frz (.slot j) en).map _ = _
  cases frz (.slot j) en <;> rfl
theorem ev_put4 : kPS i (some (d, en)) = some (en.set i (.fz d)) := rfl
def kRet (o : Op) (en : En) : SR := .ok (.rt o) en
theorem ev_ret : sRet f en = (f en).bind kRet := rfl
theorem ev_ret1 : kRet o en = .ok (.rt o) en := rfl
theorem ev_retn : sRetN en = .ok (.rt (.val .non)) en := rfl
def kDrop (_ : Op) (en : En) : SR := .ok .nx en
theorem ev_drop : sDrop f en = (PF.settle (f en)).bind kDrop := rfl
theorem ev_drop1 : kDrop o en = .ok .nx en := rfl
def kIf (f g : SF) : Bool → En → SR
  | true, en => f en
  | false, en => g en
theorem ev_if : sIf t1 s t en = (t1 en).bind (kIf s t) := by
  unfold sIf
  congr
  funext b en
  cases b <;> rfl
theorem ev_if1 : kIf s t true en = s en := rfl
theorem ev_if2 : kIf s t false en = t en := rfl
def kPat (p : Pat) (o : Op) (en : En) : SR := match frz o en with
  | some (d, en2) => kS1 (asgP p d en2)
  | none => .stuck
theorem ev_pat : sPat p f en = (PF.settle (f en)).bind (kPat p) := by
  unfold sPat
  congr
def kPat2 (p : Pat) : Option (D × En) → SR
  | some q => kS1 (asgP p q.1 q.2)
  | none => .stuck
theorem ev_pat1 : kPat p o en = kPat2 p (frz o en) := by
  unfold kPat kPat2
  cases frz o en <;> rfl
theorem ev_pat2 : kPat2 p (some (d, en)) = kS1 (asgP p d en) := rfl
theorem ev_asg1 : asgP (.nm i) d en = setO i (.val d) en := by simp only [asgP]
theorem ev_asg2 {ps : List Pat} : asgP (.tp ps) (.tup ds) en = asgPs ps ds en := by simp only [asgP]
theorem ev_asg3 {ps : List Pat} : asgP (.tp ps) (.lst ds) en = asgPs ps ds en := by simp only [asgP]
theorem ev_asg4 : asgPs [] [] en = some en := by simp only [asgPs]
def kAs (ps : List Pat) (ds : List D) : Option En → Option En
  | some en1 => asgPs ps ds en1
  | none => none
theorem ev_asg5 {ps : List Pat} : asgPs (p :: ps) (d :: ds) en = kAs ps ds (asgP p d en) := by
  simp only [asgPs, kAs]
  all_goals (cases asgP p d en <;> rfl)
theorem ev_asg6 {ps : List Pat} : kAs ps ds (some en) = asgPs ps ds en := rfl
def kPar (is : List Nat) (os : List Op) (en : En) : SR := kS1 (setM is os en)
theorem ev_par {is : List Nat} : sPar is ga en = (ga en).bind (kPar is) := by
  unfold sPar
  congr
theorem ev_par1 {is : List Nat} : kPar is os en = kS1 (setM is os en) := rfl
def kSM (is : List Nat) (os : List Op) : Option En → Option En
  | some en1 => setM is os en1
  | none => none
theorem ev_setm1 : setM [] [] en = some en := by simp only [setM]
theorem ev_setm2 {is : List Nat} : setM (i :: is) (o :: os) en = kSM is os (setO i o en) := by
  simp only [setM, kSM]
  all_goals (cases setO i o en <;> rfl)
theorem ev_setm3 {is : List Nat} : kSM is os (some en) = setM is os en := rfl
theorem ev_raise {c : Str} : sRaise c en = .exc c none en := rfl
def kFor (p : Pat) (f : SF) (ds : List D) (en : En) : SR := forD p f ds en
theorem ev_for : sFor p fi s en = (fi en).bind (kFor p s) := rfl
theorem ev_for1 : kFor p s ds en = forD p s ds en := rfl
theorem ev_for2 : forD p s [] en = .ok .nx en := rfl
def kFb (p : Pat) (f : SF) (ds : List D) : Fl → En → SR
  | .nx, en => forD p f ds en
  | .ct, en => forD p f ds en
  | .bk, en => .ok .nx en
  | .rt o, en => .ok (.rt o) en
def kFd (p : Pat) (f : SF) (ds : List D) : Option En → SR
  | some en1 => (f en1).bind (kFb p f ds)
  | none => .stuck
theorem ev_for3 : forD p s (d :: ds) en = kFd p s ds (asgP p d en) := by
  show (match asgP p d en with | none => _ | some en1 => _) = _
  unfold kFd
  cases asgP p d en with
  | none => rfl
  | some en1 =>
    show (s en1).bind _ = _
    congr
    funext fl en
    cases fl <;> rfl
theorem ev_for4 : kFd p s ds (some en) = (s en).bind (kFb p s ds) := rfl
theorem ev_for5 : kFb p s ds .nx en = forD p s ds en := rfl
theorem ev_for6 : kFb p s ds .ct en = forD p s ds en := rfl
theorem ev_for7 : kFb p s ds .bk en = .ok .nx en := rfl
theorem ev_for8 : kFb p s ds (.rt o) en = .ok (.rt o) en := rfl
/-! x[i] = e -/
def kSt3 (i : Nat) (d : D) (o : Op) (en : En) : SR := match view o en with
  | some dk => stI i d dk en
  | none => .stuck
def kSt2 (i : Nat) (g : EF) (d : D) (en : En) : Option Sl → SR
  | some (.ow _ _) => (PF.settle (g en)).bind (kSt3 i d)
  | _ => .stuck
def kSt1 (i : Nat) (g : EF) : Option (D × En) → SR
  | some q => kSt2 i g q.1 q.2 q.2[i]?
  | none => .stuck
def kSt (i : Nat) (g : EF) (o : Op) (en : En) : SR := kSt1 i g (frz o en)
theorem ev_sti : sStI i f g en = (PF.settle (f en)).bind (kSt i g) := by
  unfold sStI
  congr
  funext o en
  unfold kSt
  cases frz o en with
  | none => rfl
  | some q =>
    show (match q.2[i]? with | some (.ow _ _) => (PF.settle (g q.2)).bind (fun o' en3 => match view o' en3 with | some dk => stI i q.1 dk en3 | none => .stuck) | _ => .stuck) = kSt2 i g q.1 q.2 q.2[i]?
    cases q.2[i]? with
    | none => rfl
    | some x => cases x <;> rfl
theorem ev_sti1 : kSt i g o en = kSt1 i g (frz o en) := rfl
theorem ev_sti2 : kSt1 i g (some (d, en)) = kSt2 i g d en en[i]? := rfl
theorem ev_sti3 {x : D} : kSt2 i g d en (some (.ow b x)) = (PF.settle (g en)).bind (kSt3 i d) := rfl
def kSt4 (i : Nat) (d : D) (en : En) : Option D → SR
  | some dk => stI i d dk en
  | none => .stuck
theorem ev_sti4 : kSt3 i d o en = kSt4 i d en (view o en) := by
  unfold kSt3 kSt4
  cases view o en <;> rfl
theorem ev_sti5 {dk : D} : kSt4 i d en (some dk) = stI i d dk en := rfl
def kSt5 (i : Nat) (d : D) (en : En) (k : Int) : Option Sl → SR
  | some (.ow b (.lst ds)) => match ixN ds.length k with
    | some j => .ok .nx (en.set i (.ow b (.lst (ds.set j d))))
    | none => .stuck
  | _ => .stuck
theorem ev_sti6 {k : Int} : stI i d (.int k) en = kSt5 i d en k en[i]? := by
  unfold stI kSt5
  cases en[i]? with
  | none => rfl
  | some x => cases x with
    | ow b x => cases x <;> rfl
    | _ => rfl
theorem ev_sti7 {k : Int} {j : Nat} (h : ixN ds.length k = some j) : kSt5 i d en k (some (.ow b (.lst ds))) = .ok .nx (en.set i (.ow b (.lst (ds.set j d)))) := by
  unfold kSt5
  simp only [h]
/-! x.append(e) -/
def kAp3 (i : Nat) (d : D) (en : En) : Option Sl → SR
  | some (.ow b (.lst ds)) => if ds.length < SZ then .ok .nx (en.set i (.ow b (.lst (ds ++ [d])))) else .stuck
  | _ => .stuck
def kAp2 (i : Nat) : Option (D × En) → SR
  | some q => kAp3 i q.1 q.2 q.2[i]?
  | none => .stuck
def kAp1 (i : Nat) (o : Op) (en : En) : SR := kAp2 i (frz o en)
def kAp (i : Nat) (f : EF) (en : En) : Option Sl → SR
  | some (.ow _ (.lst _)) => (PF.settle (f en)).bind (kAp1 i)
  | _ => .stuck
theorem ev_app : sApp i f en = kAp i f en en[i]? := by
  unfold sApp kAp
  cases en[i]? with
  | none => rfl
  | some x => cases x with
    | ow b x => cases x with
      | lst ds =>
        show (PF.settle (f en)).bind _ = (PF.settle (f en)).bind _
        congr
        funext o en
        unfold kAp1 kAp2
        cases frz o en with
        | none => rfl
        | some q =>
          show (match q.2[i]? with | some (.ow b (.lst ds)) => _ | _ => _) = kAp3 i q.1 q.2 q.2[i]?
          unfold kAp3
          cases q.2[i]? with
          | none => rfl
          | some x => cases x with
            | ow b x => cases x <;> rfl
            | _ => rfl
      | _ => rfl
    | _ => rfl
theorem ev_app1 : kAp i f en (some (.ow b (.lst ds))) = (PF.settle (f en)).bind (kAp1 i) := rfl
theorem ev_app2 : kAp1 i o en = kAp2 i (frz o en) := rfl
theorem ev_app3 : kAp2 i (some (d, en)) = kAp3 i d en en[i]? := rfl
theorem ev_app4 (h : ds.length < 16777216) : kAp3 i d en (some (.ow b (.lst ds))) = .ok .nx (en.set i (.ow b (.lst (ds ++ [d])))) := if_pos h
/-! expressions -/
def kVar (i : Nat) (en : En) : Option Sl → ER
  | some (.fz d) => .ok (.val d) en
  | some (.ow _ _) => .ok (.slot i) en
  | _ => .stuck
theorem ev_var : eVar i en = kVar i en en[i]? := by
  unfold eVar kVar
  cases en[i]? with
  | none => rfl
  | some x => cases x <;> rfl
theorem ev_var1 : kVar i en (some (.fz d)) = .ok (.val d) en := rfl
theorem ev_var2 : kVar i en (some (.ow b d)) = .ok (.slot i) en := rfl
theorem ev_c : eC d en = .ok (.val d) en := rfl
def kFs (i : Nat) (en : En) : Option Sl → Option (D × En)
  | some (.fz d) => some (d, en)
  | some (.ow false d) => some (d, en.set i (.fz d))
  | _ => none
theorem ev_frz : frz (.slot i) en = kFs i en en[i]? := by
  unfold kFs
  show (match en[i]? with | some (.fz d) => _ | some (.ow false d) => _ | _ => _) = _
  cases en[i]? with
  | none => rfl
  | some x => cases x with
    | ow b x => cases b <;> rfl
    | _ => rfl
theorem ev_frz1 : kFs i en (some (.fz d)) = some (d, en) := rfl
theorem ev_frz2 : kFs i en (some (.ow false d)) = some (d, en.set i (.fz d)) := rfl
def kVs : Option Sl → Option D
  | some (.ow _ d) => some d
  | some (.fz d) => some d
  | _ => none
theorem ev_view : view (.slot i) en = kVs en[i]? := by
  unfold kVs
  show (match en[i]? with | some (.ow _ d) => _ | some (.fz d) => _ | _ => _) = _
  cases en[i]? with
  | none => rfl
  | some x => cases x <;> rfl
theorem ev_view1 : kVs (some (.fz d)) = some d := rfl
theorem ev_view2 : kVs (some (.ow b d)) = some d := rfl
def ap2 (g : D → D → Option Op) : Option D → Option D → Option Op
  | some a, some b => g a b
  | _, _ => none
theorem ev_ap2 {g : D → D → Option Op} {a b : D} : ap2 g (some a) (some b) = g a b := rfl
def k2b (g : D → D → Option Op) (o1 o2 : Op) (en : En) : ER := ofO (ap2 g (view o1 en) (view o2 en)) en
def k2a (g : D → D → Option Op) (fb : EF) (o1 : Op) (en : En) : ER := (PF.settle (fb en)).bind (k2b g o1)
theorem ev_op2 {g : D → D → Option Op} : eOp2 g fa fb en = (PF.settle (fa en)).bind (k2a g fb) := by
  unfold eOp2
  congr
  funext o1 en1
  unfold k2a
  congr
  funext o2 en2
  unfold k2b ap2
  cases view o1 en2 <;> cases view o2 en2 <;> rfl
theorem ev_op2a {g : D → D → Option Op} : k2a g fb o en = (PF.settle (fb en)).bind (k2b g o) := rfl
theorem ev_op2b {g : D → D → Option Op} {o' : Op} : k2b g o o' en = ofO (ap2 g (view o en) (view o' en)) en := rfl
def ap1 (g : D → Option Op) : Option D → Option Op
  | some a => g a
  | _ => none
theorem ev_ap1 {g : D → Option Op} {a : D} : ap1 g (some a) = g a := rfl
def k1 (g : D → Option Op) (o : Op) (en : En) : ER := ofO (ap1 g (view o en)) en
theorem ev_op1 {g : D → Option Op} : eOp1 g fa en = (PF.settle (fa en)).bind (k1 g) := by
  unfold eOp1
  congr
  funext o en
  unfold k1 ap1
  cases view o en <;> rfl
theorem ev_op1a {g : D → Option Op} : k1 g o en = ofO (ap1 g (view o en)) en := rfl
theorem ev_anil : aNil en = .ok [] en := rfl
def kA2 (o : Op) (os : List Op) (en : En) : AR := .ok (o :: os) en
def kA (g : AF) (o : Op) (en : En) : AR := (g en).bind (kA2 o)
theorem ev_acons : aCons f ga en = (PF.settle (f en)).bind (kA ga) := rfl
theorem ev_acons1 : kA ga o en = (ga en).bind (kA2 o) := rfl
theorem ev_acons2 : kA2 o os en = .ok (o :: os) en := rfl
def kF2 (g : AF) : Option (Op × En) → AR
  | some q => (g q.2).bind (kA2 q.1)
  | none => .stuck
def kF (g : AF) (o : Op) (en : En) : AR := kF2 g (hold o en)
theorem ev_aconsf : aConsF f ga en = (f en).bind (kF ga) := by
  unfold aConsF
  congr
  funext o en
  unfold kF kF2
  cases hold o en <;> rfl
theorem ev_aconsf1 : kF ga o en = kF2 ga (hold o en) := rfl
theorem ev_aconsf2 : kF2 ga (some (o, en)) = (ga en).bind (kA2 o) := rfl
theorem ev_hold1 : hold (.val d) en = some (.val d, en) := rfl
theorem ev_hold2 : hold (.fresh d) en = some (.fresh d, en) := rfl
def kHo : Option (D × En) → Option (Op × En)
  | some p => some (.val p.1, p.2)
  | none => none
theorem ev_hold3 : hold (.slot i) en = kHo (frz (.slot i) en) := by
  show (frz (.slot i) en).map _ = _
  cases frz (.slot i) en <;> rfl
theorem ev_hold4 : kHo (some (d, en)) = some (.val d, en) := rfl
def consO {α : Type} : Option α → Option (List α) → Option (List α)
  | some a, some as => some (a :: as)
  | _, _ => none
theorem ev_cons {a : α} {as : List α} : consO (some a) (some as) = some (a :: as) := rfl
theorem ev_viewl : viewL [] en = some [] := rfl
theorem ev_viewl1 : viewL (o :: os) en = consO (view o en) (viewL os en) := by
  show ((view o en).bind fun d => (viewL os en).bind fun ds => some (d :: ds)) = consO (view o en) (viewL os en)
  cases view o en <;> cases viewL os en <;> rfl
def apL (g : List D → Option Op) : Option (List D) → Option Op
  | some a => g a
  | _ => none
theorem ev_apl {g : List D → Option Op} : apL g (some ds) = g ds := rfl
def kC (g : List D → Option Op) (os : List Op) (en : En) : ER := ofO (apL g (viewL os en)) en
theorem ev_call {g : List D → Option Op} : eCall g ga en = (ga en).bind (kC g) := by
  unfold eCall
  congr
  funext os en
  unfold kC apL
  cases viewL os en <;> rfl
theorem ev_call1 {g : List D → Option Op} : kC g os en = ofO (apL g (viewL os en)) en := rfl
def kFz2 (d : D) : Option (List D × En) → Option (List D × En)
  | some q => some (d :: q.1, q.2)
  | none => none
def kFz (os : List Op) : Option (D × En) → Option (List D × En)
  | some p => kFz2 p.1 (frzL os p.2)
  | none => none
theorem ev_frzl : frzL [] en = some ([], en) := rfl
theorem ev_frzl1 : frzL (o :: os) en = kFz os (frz o en) := by
  show (frz o en).bind _ = _
  cases frz o en with
  | none => rfl
  | some p =>
    show (frzL os p.2).bind _ = kFz2 p.1 (frzL os p.2)
    cases frzL os p.2 <;> rfl
theorem ev_frzl2 : kFz os (some (d, en)) = kFz2 d (frzL os en) := rfl
theorem ev_frzl3 : kFz2 d (some (ds, en)) = some (d :: ds, en) := rfl
def kTup2 : Option (List D × En) → ER
  | some q => if q.1.length ≤ SZ then .ok (.val (.tup q.1)) q.2 else .stuck
  | none => .stuck
def kTup (os : List Op) (en : En) : ER := kTup2 (frzL os en)
theorem ev_tup : eTup ga en = (ga en).bind kTup := by
  unfold eTup
  congr
  funext os en
  unfold kTup kTup2
  cases frzL os en <;> rfl
theorem ev_tup1 : kTup os en = kTup2 (frzL os en) := rfl
theorem ev_tup2 (h : ds.length ≤ 16777216) : kTup2 (some (ds, en)) = .ok (.val (.tup ds)) en := if_pos h
def kLst2 : Option (List D × En) → ER
  | some q => if q.1.length ≤ SZ then .ok (.fresh (.lst q.1)) q.2 else .stuck
  | none => .stuck
def kLst (os : List Op) (en : En) : ER := kLst2 (frzL os en)
theorem ev_lst : eLst ga en = (ga en).bind kLst := by
  unfold eLst
  congr
  funext os en
  unfold kLst kLst2
  cases frzL os en <;> rfl
theorem ev_lst1 : kLst os en = kLst2 (frzL os en) := rfl
theorem ev_lst2 (h : ds.length ≤ 16777216) : kLst2 (some (ds, en)) = .ok (.fresh (.lst ds)) en := if_pos h
def kAnd2 (g : EF) (en : En) : Option D → ER
  | some (.bl true) => g en
  | some (.bl false) => .ok (.val (.bl false)) en
  | _ => .stuck
def kAnd (g : EF) (o : Op) (en : En) : ER := kAnd2 g en (view o en)
theorem ev_and : eAnd f g en = (PF.settle (f en)).bind (kAnd g) := by
  unfold eAnd
  congr
  funext o en
  unfold kAnd kAnd2
  cases view o en with
  | none => rfl
  | some d => cases d with
    | bl b => cases b <;> rfl
    | _ => rfl
theorem ev_and1 : kAnd g o en = kAnd2 g en (view o en) := rfl
theorem ev_and2 : kAnd2 g en (some (.bl true)) = g en := rfl
theorem ev_and3 : kAnd2 g en (some (.bl false)) = .ok (.val (.bl false)) en := rfl
def kOr2 (g : EF) (en : En) : Option D → ER
  | some (.bl true) => .ok (.val (.bl true)) en
  | some (.bl false) => g en
  | _ => .stuck
def kOr (g : EF) (o : Op) (en : En) : ER := kOr2 g en (view o en)
theorem ev_or : eOr f g en = (PF.settle (f en)).bind (kOr g) := by
  unfold eOr
  congr
  funext o en
  unfold kOr kOr2
  cases view o en with
  | none => rfl
  | some d => cases d with
    | bl b => cases b <;> rfl
    | _ => rfl
theorem ev_or1 : kOr g o en = kOr2 g en (view o en) := rfl
theorem ev_or2 : kOr2 g en (some (.bl true)) = .ok (.val (.bl true)) en := rfl
theorem ev_or3 : kOr2 g en (some (.bl false)) = g en := rfl
def gNot : D → Option Op
  | .bl b => some (.val (.bl !b))
  | _ => none
theorem ev_not : eNot f en = (PF.settle (f en)).bind (k1 gNot) := by
  unfold eNot
  rw [ev_op1]
  congr
  funext d
  cases d <;> rfl
theorem ev_not1 : gNot (.bl b) = some (.val (.bl !b)) := rfl
def kEi (f g : EF) : Bool → En → ER
  | true, en => f en
  | false, en => g en
theorem ev_eif : eIf t1 f g en = (t1 en).bind (kEi f g) := by
  unfold eIf
  congr
  funext b en
  cases b <;> rfl
theorem ev_eif1 : kEi f g true en = f en := rfl
theorem ev_eif2 : kEi f g false en = g en := rfl
def trO : Option D → Option Bool
  | some d => truth d
  | none => none
def kTv (o : Op) (en : En) : TR := ofT (trO (view o en)) en
theorem ev_tval : tVal f en = (PF.settle (f en)).bind kTv := by
  unfold tVal
  congr
  funext o en
  unfold kTv trO
  cases view o en <;> rfl
theorem ev_tval1 : kTv o en = ofT (trO (view o en)) en := rfl
theorem ev_tval2 : trO (some d) = truth d := rfl
theorem ev_tr1 : truth (.bl b) = some b := rfl
theorem ev_tr2 : truth .non = some false := rfl
theorem ev_tr3 {k : Int} : truth (.int k) = some (k != 0) := rfl
theorem ev_tr4 : truth (.tup ds) = some (!ds.isEmpty) := rfl
theorem ev_tr5 : truth (.lst ds) = some (!ds.isEmpty) := rfl
theorem ev_tr6 : truth (.kt ds) = some (!ds.isEmpty) := rfl
def kTn (b : Bool) (en : En) : TR := .ok (!b) en
theorem ev_tnot : tNot' t1 en = (t1 en).bind kTn := rfl
theorem ev_tnot1 : kTn b en = .ok (!b) en := rfl
def kTa (g : TF) : Bool → En → TR
  | true, en => g en
  | false, en => .ok false en
theorem ev_tand : tAnd' t1 t2 en = (t1 en).bind (kTa t2) := by
  unfold tAnd'
  congr
  funext b en
  cases b <;> rfl
theorem ev_tand1 : kTa t1 true en = t1 en := rfl
theorem ev_tand2 : kTa t1 false en = .ok false en := rfl
def kTo (g : TF) : Bool → En → TR
  | true, en => .ok true en
  | false, en => g en
theorem ev_tor : tOr' t1 t2 en = (t1 en).bind (kTo t2) := by
  unfold tOr'
  congr
  funext b en
  cases b <;> rfl
theorem ev_tor1 : kTo t1 true en = .ok true en := rfl
theorem ev_tor2 : kTo t1 false en = t1 en := rfl
def unB : Option Op → Option Bool
  | some (.val (.bl b)) => some b
  | _ => none
def ap2B (g : D → D → Option Op) : Option D → Option D → Option Bool
  | some a, some b => unB (g a b)
  | _, _ => none
theorem ev_ap2b {g : D → D → Option Op} {a b : D} : ap2B g (some a) (some b) = unB (g a b) := rfl
theorem ev_unb : unB (some (.val (.bl b))) = some b := rfl
theorem ap2B_eq {g : D → D → Option Op} {x y : Option D} : (x.bind fun d1 => y.bind fun d2 => gB g d1 d2) = ap2B g x y := by
  cases x with
  | none => cases y <;> rfl
  | some a => cases y with
    | none => rfl
    | some c =>
      show gB g a c = unB (g a c)
      unfold gB
      cases g a c with
      | none => rfl
      | some o => cases o with
        | val d => cases d <;> rfl
        | _ => rfl
def kTc2 (g : D → D → Option Op) (o1 o2 : Op) (en : En) : TR := ofT (ap2B g (view o1 en) (view o2 en)) en
def kTc (g : D → D → Option Op) (fb : EF) (o1 : Op) (en : En) : TR := (PF.settle (fb en)).bind (kTc2 g o1)
theorem ev_tcmp {g : D → D → Option Op} : tCmp' g fa fb en = (PF.settle (fa en)).bind (kTc g fb) := by
  unfold tCmp'
  congr
  funext o1 en1
  unfold kTc
  congr
  funext o2 en2
  unfold kTc2
  rw [ap2B_eq]
theorem ev_tcmp1 {g : D → D → Option Op} : kTc g fb o en = (PF.settle (fb en)).bind (kTc2 g o) := rfl
theorem ev_tcmp2 {g : D → D → Option Op} {o' : Op} : kTc2 g o o' en = ofT (ap2B g (view o en) (view o' en)) en := rfl
/-! a ≤ b ≤ c -/
def kTh5 (g' : D → D → Option Op) (o2 o3 : Op) (en : En) : TR := ofT (ap2B g' (view o2 en) (view o3 en)) en
def kTh3 (g' : D → D → Option Op) (fc : EF) (o2 : Op) (en : En) : Option Bool → TR
  | some true => (PF.settle (fc en)).bind (kTh5 g' o2)
  | some false => .ok false en
  | none => .stuck
def kTh2 (g g' : D → D → Option Op) (fc : EF) (o1 o2 : Op) (en : En) : TR := kTh3 g' fc o2 en (ap2B g (view o1 en) (view o2 en))
def kTh (g g' : D → D → Option Op) (fb fc : EF) (o1 : Op) (en : En) : TR := (PF.settle (fb en)).bind (kTh2 g g' fc o1)
theorem ev_tch {g g' : D → D → Option Op} : tChain' g g' fa fb fc en = (PF.settle (fa en)).bind (kTh g g' fb fc) := by
  unfold tChain'
  congr
  funext o1 en1
  unfold kTh
  congr
  funext o2 en2
  unfold kTh2 kTh3
  rw [ap2B_eq]
  cases ap2B g (view o1 en2) (view o2 en2) with
  | none => rfl
  | some b => cases b with
    | true =>
      show (PF.settle (fc en2)).bind _ = (PF.settle (fc en2)).bind _
      congr
      funext o3 en3
      unfold kTh5
      rw [ap2B_eq]
    | false => rfl
theorem ev_tch1 {g g' : D → D → Option Op} : kTh g g' fb fc o en = (PF.settle (fb en)).bind (kTh2 g g' fc o) := rfl
theorem ev_tch2 {g g' : D → D → Option Op} {o' : Op} : kTh2 g g' fc o o' en = kTh3 g' fc o' en (ap2B g (view o en) (view o' en)) := rfl
theorem ev_tch3 {g' : D → D → Option Op} : kTh3 g' fc o en (some true) = (PF.settle (fc en)).bind (kTh5 g' o) := rfl
theorem ev_tch4 {g' : D → D → Option Op} : kTh3 g' fc o en (some false) = .ok false en := rfl
theorem ev_tch5 {g' : D → D → Option Op} {o' : Op} : kTh5 g' o o' en = ofT (ap2B g' (view o en) (view o' en)) en := rfl
def kEh4 (g' : D → D → Option Op) (fc : EF) (o2 : Op) (en : En) : Option Bool → ER
  | some true => (PF.settle (fc en)).bind (k2b g' o2)
  | some false => .ok (.val (.bl false)) en
  | none => .stuck
def kEh2 (g g' : D → D → Option Op) (fc : EF) (o1 o2 : Op) (en : En) : ER := kEh4 g' fc o2 en (ap2B g (view o1 en) (view o2 en))
def kEh (g g' : D → D → Option Op) (fb fc : EF) (o1 : Op) (en : En) : ER := (PF.settle (fb en)).bind (kEh2 g g' fc o1)
theorem ev_ech {g g' : D → D → Option Op} : eChain g g' fa fb fc en = (PF.settle (fa en)).bind (kEh g g' fb fc) := by
  unfold eChain
  congr
  funext o1 en1
  unfold kEh
  congr
  funext o2 en2
  unfold kEh2
  cases view o1 en2 with
  | none => cases view o2 en2 <;> rfl
  | some a => cases view o2 en2 with
    | none => rfl
    | some c =>
      show (match g a c with | some (.val (.bl true)) => (PF.settle (fc en2)).bind (fun o3 en3 => ofO ((view o2 en3).bind fun d1 => (view o3 en3).bind fun d2 => g' d1 d2) en3) | some (.val (.bl false)) => .ok (.val (.bl false)) en2 | _ => .stuck) = kEh4 g' fc o2 en2 (unB (g a c))
      cases g a c with
      | none => rfl
      | some o => cases o with
        | val d => cases d with
          | bl b => cases b with
            | true =>
              show (PF.settle (fc en2)).bind _ = (PF.settle (fc en2)).bind _
              congr
              funext o3 en3
              unfold k2b ap2
              cases view o2 en3 <;> cases view o3 en3 <;> rfl
            | false => rfl
          | _ => rfl
        | _ => rfl
theorem ev_ech1 {g g' : D → D → Option Op} : kEh g g' fb fc o en = (PF.settle (fb en)).bind (kEh2 g g' fc o) := rfl
theorem ev_ech2 {g g' : D → D → Option Op} {o' : Op} : kEh2 g g' fc o o' en = kEh4 g' fc o' en (ap2B g (view o en) (view o' en)) := rfl
theorem ev_ech3 {g' : D → D → Option Op} : kEh4 g' fc o en (some true) = (PF.settle (fc en)).bind (k2b g' o) := rfl
theorem ev_ech4 {g' : D → D → Option Op} : kEh4 g' fc o en (some false) = .ok (.val (.bl false)) en := rfl
/-! slices -/
theorem ev_onone : oNone en = .ok none en := rfl
def inO : Option D → Option (Option Int)
  | some d => (PF.isInt d).map some
  | none => none
def kOs (o : Op) (en : En) : Res (Option Int) := ofT (inO (view o en)) en
theorem ev_osome : oSome f en = (PF.settle (f en)).bind kOs := by
  unfold oSome
  congr
  funext o en
  unfold kOs inO
  cases view o en <;> rfl
theorem ev_osome1 : kOs o en = ofT (inO (view o en)) en := rfl
theorem ev_osome2 {k : Int} : inO (some (.int k)) = some (some k) := rfl
def apS (g : D → Option Int → Option Int → Option Op) (lo hi : Option Int) : Option D → Option Op
  | some d => g d lo hi
  | none => none
theorem ev_aps {g : D → Option Int → Option Int → Option Op} {lo hi : Option Int} : apS g lo hi (some d) = g d lo hi := rfl
def kSl3 (g : D → Option Int → Option Int → Option Op) (o : Op) (lo hi : Option Int) (en : En) : ER := ofO (apS g lo hi (view o en)) en
def kSl2 (g : D → Option Int → Option Int → Option Op) (u : OF) (o : Op) (lo : Option Int) (en : En) : ER := (u en).bind (kSl3 g o lo)
def kSl (g : D → Option Int → Option Int → Option Op) (l u : OF) (o : Op) (en : En) : ER := (l en).bind (kSl2 g u o)
theorem ev_sl {g : D → Option Int → Option Int → Option Op} {l u : OF} : eSl g f l u en = (PF.settle (f en)).bind (kSl g l u) := by
  unfold eSl
  congr
  funext o en
  unfold kSl
  congr
  funext lo en
  unfold kSl2
  congr
  funext hi en
  unfold kSl3 apS
  cases view o en <;> rfl
theorem ev_sl1 {g : D → Option Int → Option Int → Option Op} {l u : OF} : kSl g l u o en = (l en).bind (kSl2 g u o) := rfl
theorem ev_sl2 {g : D → Option Int → Option Int → Option Op} {u : OF} {lo : Option Int} : kSl2 g u o lo en = (u en).bind (kSl3 g o lo) := rfl
theorem ev_sl3 {g : D → Option Int → Option Int → Option Op} {lo hi : Option Int} : kSl3 g o lo hi en = ofO (apS g lo hi (view o en)) en := rfl
theorem ev_sl4 {lo hi : Option Int} : gSl (.lst ds) lo hi = some (.fresh (.lst (PF.cutD ds lo hi))) := rfl
theorem ev_sl5 {lo hi : Option Int} : gSl (.tup ds) lo hi = some (.val (.tup (PF.cutD ds lo hi))) := rfl
/-! what a loop walks -/
def kSq2 : Option (D × En) → IR
  | some (.lst ds, en2) => .ok ds en2
  | some (.tup ds, en2) => .ok ds en2
  | some (.kt ds, en2) => .ok ds en2
  | _ => .stuck
def kSq (o : Op) (en : En) : IR := kSq2 (frz o en)
theorem ev_iseq : iSeq f en = (PF.settle (f en)).bind kSq := by
  unfold iSeq
  congr
theorem ev_iseq1 : kSq o en = kSq2 (frz o en) := rfl
theorem ev_iseq2 : kSq2 (some (.lst ds, en)) = .ok ds en := rfl
theorem ev_iseq3 : kSq2 (some (.tup ds, en)) = .ok ds en := rfl
theorem ev_iseq4 : kSq2 (some (.kt ds, en)) = .ok ds en := rfl
def kEn2 : Option (D × En) → IR
  | some (.lst ds, en2) => .ok (enumD ds) en2
  | some (.tup ds, en2) => .ok (enumD ds) en2
  | some (.kt ds, en2) => .ok (enumD ds) en2
  | _ => .stuck
def kEn (o : Op) (en : En) : IR := kEn2 (frz o en)
theorem ev_ienum : iEnum f en = (PF.settle (f en)).bind kEn := by
  unfold iEnum
  congr
theorem ev_ienum1 : kEn o en = kEn2 (frz o en) := rfl
theorem ev_ienum2 : kEn2 (some (.lst ds, en)) = .ok (enumD ds) en := rfl
theorem ev_ienum3 : kEn2 (some (.tup ds, en)) = .ok (enumD ds) en := rfl
theorem ev_ienum4 : kEn2 (some (.kt ds, en)) = .ok (enumD ds) en := rfl
def rg1 (en : En) : Option D → IR
  | some (.int j) => if -16777216 ≤ j ∧ j ≤ 16777216 then .ok (rngD 0 j.toNat) en else .stuck
  | _ => .stuck
def kR1 (o : Op) (en : En) : IR := rg1 en (view o en)
theorem ev_rg1 : iRange1 f en = (PF.settle (f en)).bind kR1 := by
  unfold iRange1
  congr
theorem ev_rg1a : kR1 o en = rg1 en (view o en) := rfl
theorem ev_rg1b {j : Int} (h : -16777216 ≤ j ∧ j ≤ 16777216) : rg1 en (some (.int j)) = .ok (rngD 0 j.toNat) en := if_pos h
def rg2 (en : En) : Option D → Option D → IR
  | some (.int i), some (.int j) => if (-16777216 ≤ i ∧ i ≤ 16777216) ∧ (-16777216 ≤ j ∧ j ≤ 16777216) ∧ j - i ≤ 16777216 then .ok (rngD i (j - i).toNat) en else .stuck
  | _, _ => .stuck
def kR2b (o o' : Op) (en : En) : IR := rg2 en (view o en) (view o' en)
def kR2 (g : EF) (o : Op) (en : En) : IR := (PF.settle (g en)).bind (kR2b o)
theorem ev_rg2 : iRange2 f g en = (PF.settle (f en)).bind (kR2 g) := by
  unfold iRange2
  congr
theorem ev_rg2a : kR2 g o en = (PF.settle (g en)).bind (kR2b o) := rfl
theorem ev_rg2b {o' : Op} : kR2b o o' en = rg2 en (view o en) (view o' en) := rfl
theorem ev_rg2c {k j : Int} (h : (-16777216 ≤ k ∧ k ≤ 16777216) ∧ (-16777216 ≤ j ∧ j ≤ 16777216) ∧ j - k ≤ 16777216) : rg2 en (some (.int k)) (some (.int j)) = .ok (rngD k (j - k).toNat) en := if_pos h
def kZp2 : Option (List D × En) → IR
  | some ([.lst ds, .lst es], en2) => .ok (zipD ds es) en2
  | some ([.tup ds, .tup es], en2) => .ok (zipD ds es) en2
  | some ([.kt ds, .tup es], en2) => .ok (zipD ds es) en2
  | _ => .stuck
def kZp (os : List Op) (en : En) : IR := kZp2 (frzL os en)
theorem ev_izip : iZip ga en = (ga en).bind kZp := by
  unfold iZip
  congr
theorem ev_izip1 : kZp os en = kZp2 (frzL os en) := rfl
theorem ev_izip2 {es : List D} : kZp2 (some ([.lst ds, .lst es], en)) = .ok (zipD ds es) en := rfl
theorem ev_izip3 {es : List D} : kZp2 (some ([.tup ds, .tup es], en)) = .ok (zipD ds es) en := rfl
theorem ev_izip6 {es : List D} : kZp2 (some ([.kt ds, .tup es], en)) = .ok (zipD ds es) en := rfl
theorem ev_izip4 : zipD [] ds = [] := rfl
theorem ev_izip5 {a c : D} {es : List D} : zipD (a :: ds) (c :: es) = .tup [a, c] :: zipD ds es := rfl
/-! calls -/
def kFn (m : Nat) : SR → FR
  | .ok (.rt o) en => finR o (en.take m) en
  | .ok .nx en => .ok false .non (en.take m)
  | .exc c pl en => .exc c pl (en.take m)
  | _ => .stuck
theorem fn_ev {sls : List Sl} : fnOf n s sls = kFn sls.length (s (sls ++ List.replicate (n - sls.length) .un)) := by
  unfold fnOf kFn
  rfl
theorem ev_fn1 : kFn n (.ok (.rt (.val d)) en) = .ok false d (en.take n) := rfl
theorem ev_fn2 : kFn n (.ok (.rt (.fresh d)) en) = .ok true d (en.take n) := rfl
def kRs (n : Nat) (en : En) : Option Sl → FR
  | some (.fz d) => .ok false d (en.take n)
  | some (.ow false d) => .ok true d (en.take n)
  | _ => .stuck
theorem ev_fn3 : kFn n (.ok (.rt (.slot i)) en) = kRs n en en[i]? := by
  show (match en[i]? with | some (.fz d) => _ | some (.ow false d) => _ | _ => _) = _
  unfold kRs
  cases en[i]? with
  | none => rfl
  | some x => cases x with
    | ow b x => cases b <;> rfl
    | _ => rfl
theorem ev_fn4 : kRs n en (some (.fz d)) = .ok false d (en.take n) := rfl
theorem ev_fn5 : kRs n en (some (.ow false d)) = .ok true d (en.take n) := rfl
theorem ev_fn6 : kFn n (.ok .nx en) = .ok false .non (en.take n) := rfl
theorem ev_fn7 {c : Str} {pl : Option D} : kFn n (.exc c pl en) = .exc c pl (en.take n) := rfl
def kCl2 (F : FS) (dd : List (Option D)) (os : List Op) (en : En) : Option (List Sl) → Bool → ER
  | some sls, true => putR dd os en (F sls)
  | _, _ => .stuck
def kCl (F : FS) (os : List Op) : Option (List (Option D) × En) → ER
  | some q => kCl2 F q.1 os q.2 (mkSl q.1 os q.2) (ioOk q.1 os)
  | none => .stuck
def kCf (F : FS) (ios : List Bool) (os : List Op) (en : En) : ER := kCl F os (frzNon ios os en)
theorem ev_fun {F : FS} {ios : List Bool} : eFn F ios ga en = (ga en).bind (kCf F ios) := by
  unfold eFn
  congr
  funext os en
  unfold callF kCf kCl
  cases frzNon ios os en with
  | none => rfl
  | some q =>
    show (match mkSl q.1 os q.2, ioOk q.1 os with | some sls, true => _ | _, _ => _) = _
    unfold kCl2
    rfl
theorem ev_fun1 {F : FS} {ios : List Bool} : kCf F ios os en = kCl F os (frzNon ios os en) := rfl
theorem ev_fun2 {F : FS} {dd : List (Option D)} : kCl F os (some (dd, en)) = kCl2 F dd os en (mkSl dd os en) (ioOk dd os) := rfl
theorem ev_fun3 {F : FS} {dd : List (Option D)} {sls : List Sl} : kCl2 F dd os en (some sls) true = putR dd os en (F sls) := rfl
def kNf (x : Option D) : Option (List (Option D) × En) → Option (List (Option D) × En)
  | some p => some (x :: p.1, p.2)
  | none => none
def kNg (ios : List Bool) (os : List Op) : Option (D × En) → Option (List (Option D) × En)
  | some q => kNf (some q.1) (frzNon ios os q.2)
  | none => none
theorem ev_non1 : frzNon [] [] en = some ([], en) := by simp only [frzNon]
theorem ev_non2 {ios : List Bool} : frzNon (true :: ios) (.slot i :: os) en = kNf none (frzNon ios os en) := by
  simp only [frzNon]
  unfold kNf
  all_goals (cases frzNon ios os en <;> rfl)
theorem ev_non2v {ios : List Bool} : frzNon (true :: ios) (.val d :: os) en = kNf (some d) (frzNon ios os en) := by
  simp only [frzNon]
  unfold kNf
  all_goals (cases frzNon ios os en <;> rfl)
theorem ev_non3 {ios : List Bool} : frzNon (false :: ios) (o :: os) en = kNg ios os (frz o en) := by
  simp only [frzNon]
  cases frz o en with
  | none => rfl
  | some q =>
    show (frzNon ios os q.2).map _ = kNf (some q.1) (frzNon ios os q.2)
    cases frzNon ios os q.2 <;> rfl
theorem ev_non4 {ios : List Bool} : kNg ios os (some (d, en)) = kNf (some d) (frzNon ios os en) := rfl
theorem ev_non5 {x : Option D} {dd : List (Option D)} : kNf x (some (dd, en)) = some (x :: dd, en) := rfl
def kMs (s : Sl) : Option (List Sl) → Option (List Sl)
  | some l => some (s :: l)
  | none => none
def kMo (dd : List (Option D)) (os : List Op) (en : En) : Option Sl → Option (List Sl)
  | some (.ow _ d) => kMs (.ow true d) (mkSl dd os en)
  | _ => none
theorem ev_mk1 : mkSl [] [] en = some [] := by simp only [mkSl]
theorem ev_mk2 {dd : List (Option D)} : mkSl (some d :: dd) (o :: os) en = kMs (.fz d) (mkSl dd os en) := by
  simp only [mkSl]
  unfold kMs
  all_goals (cases mkSl dd os en <;> rfl)
theorem ev_mk3 {dd : List (Option D)} : mkSl (none :: dd) (.slot i :: os) en = kMo dd os en en[i]? := by
  simp only [mkSl]
  unfold kMo kMs
  cases en[i]? with
  | none => rfl
  | some x => cases x with
    | ow b x =>
      show (mkSl dd os en).map _ = _
      cases mkSl dd os en <;> rfl
    | _ => rfl
theorem ev_mk4 {s : Sl} {l : List Sl} : kMs s (some l) = some (s :: l) := rfl
theorem ev_mk5 {dd : List (Option D)} : kMo dd os en (some (.ow b d)) = kMs (.ow true d) (mkSl dd os en) := rfl
theorem ev_io1 : ioOk [] [] = true := by simp only [ioOk]
theorem ev_io2 {dd : List (Option D)} : ioOk (none :: dd) (.slot i :: os) = (!(ioSl dd os).contains i && ioOk dd os) := by simp only [ioOk]
theorem ev_io3 {dd : List (Option D)} : ioOk (some d :: dd) (o :: os) = ioOk dd os := by simp only [ioOk]
theorem ev_is1 : ioSl [] [] = [] := by simp only [ioSl]
theorem ev_is2 {dd : List (Option D)} : ioSl (none :: dd) (.slot i :: os) = i :: ioSl dd os := by simp only [ioSl]
theorem ev_is3 {dd : List (Option D)} : ioSl (some d :: dd) (o :: os) = ioSl dd os := by simp only [ioSl]
def kPr (fr : Bool) (d : D) : Option En → ER
  | some en => .ok (opOf fr d) en
  | none => .stuck
def kPx (c : Str) (pl : Option D) : Option En → ER
  | some en => .exc c pl en
  | none => .stuck
theorem ev_putr1 {dd : List (Option D)} {fr : Bool} {outs : List Sl} : putR dd os en (.ok fr d outs) = kPr fr d (putB dd os outs en) := by
  show (match putB dd os outs en with | some en3 => .ok (opOf fr d) en3 | none => .stuck) = kPr fr d (putB dd os outs en)
  cases putB dd os outs en <;> rfl
theorem ev_putr2 {dd : List (Option D)} {c : Str} {pl : Option D} {outs : List Sl} : putR dd os en (.exc c pl outs) = kPx c pl (putB dd os outs en) := by
  show (match putB dd os outs en with | some en3 => .exc c pl en3 | none => .stuck) = kPx c pl (putB dd os outs en)
  cases putB dd os outs en <;> rfl
theorem ev_putr3 : kPr true d (some en) = .ok (.fresh d) en := rfl
theorem ev_putr4 : kPr false d (some en) = .ok (.val d) en := rfl
theorem ev_putr5 {c : Str} {pl : Option D} : kPx c pl (some en) = .exc c pl en := rfl
def kPb (dd : List (Option D)) (os : List Op) (outs : List Sl) (i : Nat) (d : D) (en : En) : Option Sl → Option En
  | some (.ow b _) => putB dd os outs (en.set i (.ow b d))
  | _ => none
theorem ev_putb1 {outs : List Sl} : putB [] [] outs en = some en := by simp only [putB]
theorem ev_putb2 {dd : List (Option D)} {outs : List Sl} : putB (none :: dd) (.slot i :: os) (.ow true d :: outs) en = kPb dd os outs i d en en[i]? := by
  simp only [putB]
  unfold kPb
  cases en[i]? with
  | none => rfl
  | some x => cases x <;> rfl
theorem ev_putb3 {dd : List (Option D)} {s : Sl} {outs : List Sl} : putB (some d :: dd) (o :: os) (s :: outs) en = putB dd os outs en := by simp only [putB]
theorem ev_putb4 {dd : List (Option D)} {x : D} {outs : List Sl} : kPb dd os outs i d en (some (.ow b x)) = putB dd os outs (en.set i (.ow b d)) := rfl
/-! _law_try -/
def kTr2 : Option (D × En) → ER
  | some q => .ok (.val (.tup [.str "told", q.1])) q.2
  | none => .stuck
def kTr3 (en : En) : Option Str → ER
  | some t => .ok (.val (.str t)) en
  | none => .stuck
def kTr (kin : Str → Option Str) : ER → ER
  | .ok o en => kTr2 (frz o en)
  | .exc c none en => kTr3 en (kin c)
  | _ => .stuck
theorem ev_try {kin : Str → Option Str} : eTry kin f en = kTr kin (PF.settle (f en)) := by
  unfold eTry
  cases PF.settle (f en) with
  | ok o en1 =>
    show (match frz o en1 with | some (d, en2) => .ok (.val (.tup [.str "told", d])) en2 | none => .stuck) = kTr2 (frz o en1)
    cases frz o en1 <;> rfl
  | exc c pl en1 => cases pl with
    | none =>
      show (match kin c with | some t => .ok (.val (.str t)) en1 | none => .stuck) = kTr3 en1 (kin c)
      cases kin c <;> rfl
    | some d => rfl
  | stuck => rfl
theorem ev_try1 {kin : Str → Option Str} : kTr kin (.ok o en) = kTr2 (frz o en) := rfl
theorem ev_try2 {kin : Str → Option Str} {c : Str} : kTr kin (.exc c none en) = kTr3 en (kin c) := rfl
theorem ev_try3 : kTr2 (some (d, en)) = .ok (.val (.tup [.str "told", d])) en := rfl
theorem ev_try4 {t : Str} : kTr3 en (some t) = .ok (.val (.str t)) en := rfl
theorem ev_neg {k : Int} : gNeg (.int k) = some (.val (.int (-k))) := rfl
theorem ev_min2 {j k : Int} : gMin2 [.int j, .int k] = some (.val (.int (min j k))) := rfl
theorem ev_list1 : gList [.lst ds] = some (.fresh (.lst ds)) := rfl
theorem ev_list2 : gList [.tup ds] = some (.fresh (.lst ds)) := rfl
theorem ev_list3 : gList [.kt ds] = some (.fresh (.lst ds)) := rfl
theorem ev_tuple1 : gTuple [.lst ds] = some (.val (.tup ds)) := rfl
theorem ev_tuple2 : gTuple [.tup ds] = some (.val (.tup ds)) := rfl
theorem ev_isn1 : gIs .non .non = some (.val (.bl true)) := rfl
theorem ev_isn2 {k : Int} : gIs (.int k) .non = some (.val (.bl false)) := rfl
theorem ev_isn3 : gIs (.tup ds) .non = some (.val (.bl false)) := rfl
theorem ev_isn4 : gIs (.lst ds) .non = some (.val (.bl false)) := rfl
theorem ev_isn5 {x : Str} : gIs (.str x) .non = some (.val (.bl false)) := rfl
theorem ev_isn6 : gIs (.bl b) .non = some (.val (.bl false)) := rfl
theorem ev_isnt1 : gIsNot .non .non = some (.val (.bl false)) := rfl
theorem ev_isnt2 {k : Int} : gIsNot (.int k) .non = some (.val (.bl true)) := rfl
theorem ev_isnt3 : gIsNot (.tup ds) .non = some (.val (.bl true)) := rfl
theorem ev_isnt4 : gIsNot (.lst ds) .non = some (.val (.bl true)) := rfl
theorem ev_isnt5 {x : Str} : gIsNot (.str x) .non = some (.val (.bl true)) := rfl
theorem ev_isnt6 : gIsNot (.bl b) .non = some (.val (.bl true)) := rfl
/-- a slot that a loop may leave behind -/
def slT : Option D → Sl
  | none => .un
  | some d => .fz d
theorem ev_slt1 {d : D} : slT (some d) = .fz d := rfl
theorem ev_slt2 : slT none = .un := rfl
theorem fr_fz : Free (.fz d) = True := eq_true Free.fz
theorem fr_un : Free .un = True := eq_true Free.un
theorem fr_ow : Free (.ow false d) = True := eq_true Free.ow
theorem fr_ts {o : Option D} : Free (slT o) = True := eq_true (by cases o <;> intro d e <;> cases e)
/-- a parameter: given away, or lent -/
def slP (b : Bool) (d : D) : Sl := if b then .ow true d else .fz d
end
end PF
namespace PF
open PySem PySem.Spec PyProof.Rows L2
/-! ## dicts -/
section
variable {κ : Type} [DecidableEq κ]
def valD (kvs : List (κ × D)) (k : κ) : Option D := (kvs.find? fun kv => decide (kv.1 = k)).map (·.2)
def putD (kvs : List (κ × D)) (k : κ) (d : D) : List (κ × D) := if (kvs.any fun kv => decide (kv.1 = k)) = true then kvs.map (fun kv => if kv.1 = k then (kv.1, d) else kv) else kvs ++ [(k, d)]
theorem valD_nil {k : κ} : valD ([] : List (κ × D)) k = none := rfl
theorem valD_cons {k j : κ} {d : D} {r : List (κ × D)} : valD ((j, d) :: r) k = if j = k then some d else valD r k := by
  unfold valD
  by_cases h : j = k
  · simp [List.find?_cons, h]
  · simp [List.find?_cons, h]
theorem valD_app (k : κ) : ∀ (xs ys : List (κ × D)), valD (xs ++ ys) k = (valD xs k).or (valD ys k)
  | [], ys => by simp [valD_nil]
  | (j, d) :: xs, ys => by
    rw [List.cons_append, valD_cons, valD_cons, valD_app k xs ys]
    split <;> rfl
theorem valD_mapput (k j : κ) (d : D) : ∀ (xs : List (κ × D)), valD (xs.map fun kv => if kv.1 = k then (kv.1, d) else kv) j = (valD xs j).map fun x => if j = k then d else x
  | [] => rfl
  | (i, x) :: xs => by
    rw [List.map_cons, valD_cons]
    by_cases h : i = k
    · rw [if_pos h, valD_cons, valD_mapput k j d xs]
      by_cases h2 : i = j
      · rw [if_pos h2, if_pos h2, Option.map_some, if_pos (h2.symm.trans h)]
      · rw [if_neg h2, if_neg h2]
    · rw [if_neg h, valD_cons, valD_mapput k j d xs]
      by_cases h2 : i = j
      · rw [if_pos h2, if_pos h2, Option.map_some, if_neg (fun z => h (h2.trans z))]
      · rw [if_neg h2, if_neg h2]
theorem valD_any (k : κ) : ∀ (xs : List (κ × D)), (xs.any fun kv => decide (kv.1 = k)) = (valD xs k).isSome
  | [] => rfl
  | (i, x) :: xs => by
    rw [List.any_cons, valD_cons, valD_any k xs]
    by_cases h : i = k
    · rw [if_pos h, decide_eq_true h]; rfl
    · rw [if_neg h, decide_eq_false h]; rfl
theorem valD_put (xs : List (κ × D)) (k j : κ) (d : D) : valD (putD xs k d) j = if j = k then some d else valD xs j := by
  unfold putD
  rw [valD_any]
  by_cases h : (valD xs k).isSome = true
  · rw [if_pos h, valD_mapput]
    by_cases e : j = k
    · subst e
      rw [if_pos rfl]
      obtain ⟨x, hx⟩ := Option.isSome_iff_exists.mp h
      rw [hx, Option.map_some, if_pos rfl]
    · rw [if_neg e]
      cases valD xs j with
      | none => rfl
      | some x => rw [Option.map_some, if_neg e]
  · rw [if_neg h, valD_app]
    have hn : valD xs k = none := by
      cases q : valD xs k with
      | none => rfl
      | some x => rw [q] at h; exact absurd rfl h
    by_cases e : j = k
    · subst e
      rw [if_pos rfl, hn, valD_cons, if_pos rfl]
      rfl
    · rw [if_neg e, valD_cons, if_neg (fun z => e z.symm), valD_nil]
      cases valD xs j <;> rfl
end
def keyD : D → Option Key
  | .int i => some (.inl i)
  | .str s => some (.inr s)
  | _ => none
def keysD : List D → Option (List Key)
  | [] => some []
  | d :: ds => match keyD d, keysD ds with
    | some k, some ks => some (k :: ks)
    | _, _ => none
def dGet : D → D → Option (Option D)
  | .dK kvs, k => (keyD k).map fun k => valD kvs k
  | .dT kvs, .tup ds => (keysD ds).map fun k => valD kvs k
  | _, _ => none
def dPut : D → D → D → Option D
  | .dK kvs, k, d => match keyD k with
    | some k => if kvs.length < SZ then some (.dK (putD kvs k d)) else none
    | none => none
  | .dT kvs, .tup ds, d => match keysD ds with
    | some k => if kvs.length < SZ then some (.dT (putD kvs k d)) else none
    | none => none
  | _, _, _ => none
section
variable {K : PySem.W.Frag} {G H : Hp}
theorem keyD_rep {d : D} {v : V} {k : Key} (h : Rep K G d v) (e : keyD d = some k) : v = kV k := by
  cases h <;> simp only [keyD] at e <;> cases e <;> rfl
theorem keyD_ok {d : D} {v : V} {k : Key} (h : RepV K G H d v) (e : keyD d = some k) : v = kV k := by
  cases d with
  | int i => cases e; exact repV_int h
  | str i => cases e; exact repV_str h
  | _ => cases e
theorem keysD_ok : ∀ {ds : List D} {vs : List V} {ks : List Key}, RepL K G ds vs → keysD ds = some ks → vs = ks.map kV
  | [], _, _, .nil, e => by cases e; rfl
  | d :: ds, _, _, .cons h r, e => by
    unfold keysD at e
    split at e
    · rename_i k ks e1 e2
      cases e
      rw [keyD_rep h e1, keysD_ok r e2]
      rfl
    · cases e
theorem RepK.val {k : Key} : ∀ {ds : List (Key × D)} {kvs : List (Key × V)}, RepK K G ds kvs → (valD ds k = none ∧ valV kvs k = none) ∨ ∃ d v, valD ds k = some d ∧ valV kvs k = some v ∧ Rep K G d v
  | _, _, .nil => .inl ⟨rfl, rfl⟩
  | _, _, .cons (k := j) h r => by
    rw [valD_cons]
    by_cases e : j = k
    · rw [if_pos e, valV_pos e]
      exact .inr ⟨_, _, rfl, rfl, h⟩
    · rw [if_neg e, valV_neg e]
      exact RepK.val r
theorem RepT.val {k : List Key} : ∀ {ds : List (List Key × D)} {kvs : List (List Key × V)}, RepT K G ds kvs → (valD ds k = none ∧ valV kvs k = none) ∨ ∃ d v, valD ds k = some d ∧ valV kvs k = some v ∧ Rep K G d v
  | _, _, .nil => .inl ⟨rfl, rfl⟩
  | _, _, .cons (k := j) h r => by
    rw [valD_cons]
    by_cases e : j = k
    · rw [if_pos e, valV_pos e]
      exact .inr ⟨_, _, rfl, rfl, h⟩
    · rw [if_neg e, valV_neg e]
      exact RepT.val r
theorem RepK.any {k : Key} : ∀ {ds : List (Key × D)} {kvs : List (Key × V)}, RepK K G ds kvs → (ds.any fun kv => decide (kv.1 = k)) = (kvs.any fun kv => decide (kv.1 = k))
  | _, _, .nil => rfl
  | _, _, .cons h r => by rw [List.any_cons, List.any_cons, RepK.any r]
theorem RepT.any {k : List Key} : ∀ {ds : List (List Key × D)} {kvs : List (List Key × V)}, RepT K G ds kvs → (ds.any fun kv => decide (kv.1 = k)) = (kvs.any fun kv => decide (kv.1 = k))
  | _, _, .nil => rfl
  | _, _, .cons h r => by rw [List.any_cons, List.any_cons, RepT.any r]
theorem RepK.app : ∀ {ds es : List (Key × D)} {kvs ws : List (Key × V)}, RepK K G ds kvs → RepK K G es ws → RepK K G (ds ++ es) (kvs ++ ws)
  | _, _, _, _, .nil, r => r
  | _, _, _, _, .cons h r, q => .cons h (RepK.app r q)
theorem RepT.app : ∀ {ds es : List (List Key × D)} {kvs ws : List (List Key × V)}, RepT K G ds kvs → RepT K G es ws → RepT K G (ds ++ es) (kvs ++ ws)
  | _, _, _, _, .nil, r => r
  | _, _, _, _, .cons h r, q => .cons h (RepT.app r q)
theorem RepK.repl {k : Key} {d : D} {v : V} (hd : Rep K G d v) : ∀ {ds : List (Key × D)} {kvs : List (Key × V)}, RepK K G ds kvs → RepK K G (ds.map fun kv => if kv.1 = k then (kv.1, d) else kv) (kvs.map fun kv => if kv.1 = k then (kv.1, v) else kv)
  | _, _, .nil => .nil
  | _, _, .cons (k := j) h r => by
    rw [List.map_cons, List.map_cons]
    by_cases e : j = k
    · rw [if_pos e, if_pos e]
      exact .cons hd (RepK.repl hd r)
    · rw [if_neg e, if_neg e]
      exact .cons h (RepK.repl hd r)
theorem RepT.repl {k : List Key} {d : D} {v : V} (hd : Rep K G d v) : ∀ {ds : List (List Key × D)} {kvs : List (List Key × V)}, RepT K G ds kvs → RepT K G (ds.map fun kv => if kv.1 = k then (kv.1, d) else kv) (kvs.map fun kv => if kv.1 = k then (kv.1, v) else kv)
  | _, _, .nil => .nil
  | _, _, .cons (k := j) h r => by
    rw [List.map_cons, List.map_cons]
    by_cases e : j = k
    · rw [if_pos e, if_pos e]
      exact .cons hd (RepT.repl hd r)
    · rw [if_neg e, if_neg e]
      exact .cons h (RepT.repl hd r)
theorem RepK.put {k : Key} {d : D} {v : V} {ds : List (Key × D)} {kvs : List (Key × V)} (hd : Rep K G d v) (r : RepK K G ds kvs) : RepK K G (putD ds k d) (putK kvs k v) := by
  unfold putD putK
  rw [r.any]
  split
  · exact r.repl hd
  · exact r.app (.cons hd .nil)
theorem RepT.put {k : List Key} {d : D} {v : V} {ds : List (List Key × D)} {kvs : List (List Key × V)} (hd : Rep K G d v) (r : RepT K G ds kvs) : RepT K G (putD ds k d) (putK kvs k v) := by
  unfold putD putK
  rw [r.any]
  split
  · exact r.repl hd
  · exact r.app (.cons hd .nil)
theorem RepT.len {ds : List (List Key × D)} {kvs : List (List Key × V)} (h : RepT K G ds kvs) : ds.length = kvs.length := by
  match h with
  | .nil => rfl
  | .cons _ r => simp [RepT.len r]
/-- what a dict holds -/
theorem dGet_ok (s : Sub G H) {dd kd : D} {dv kv : V} {r : Option D} (h : RepV K G H dd dv) (hk : RepV K G H kd kv) (e : dGet dd kd = some r) :
    ∃ a o, dv = .ref a ∧ IsD H a ∧ DGet H a kv o ∧ ((r = none ∧ o = none) ∨ ∃ d v, r = some d ∧ o = some v ∧ Rep K G d v) := by
  cases dd with
  | dK ds =>
    obtain ⟨k, ek, rfl⟩ := Option.map_eq_some_iff.mp (show (keyD kd).map (fun k => valD ds k) = some r from e)
    obtain ⟨p, kvs, rfl, hp, rr⟩ := repV_dK s h
    cases keyD_ok hk ek
    refine ⟨p, valV kvs k, rfl, .inl ⟨kvs, .inl hp⟩, .k hp, ?_⟩
    rcases rr.val (k := k) with ⟨e1, e2⟩ | ⟨d, v, e1, e2, e3⟩
    · exact .inl ⟨e1, e2⟩
    · exact .inr ⟨d, v, e1, e2, e3⟩
  | dT ds =>
    cases kd with
    | tup ks =>
      obtain ⟨k, ek, rfl⟩ := Option.map_eq_some_iff.mp (show (keysD ks).map (fun k => valD ds k) = some r from e)
      obtain ⟨p, kvs, rfl, hp, rr⟩ := repV_dT s h
      obtain ⟨b, xs, rfl, hb, rl⟩ := repV_tupH s hk
      cases keysD_ok rl ek
      refine ⟨p, valV kvs k, rfl, .inr ⟨kvs, .inl hp⟩, .t hp hb, ?_⟩
      rcases rr.val (k := k) with ⟨e1, e2⟩ | ⟨d, v, e1, e2, e3⟩
      · exact .inl ⟨e1, e2⟩
      · exact .inr ⟨d, v, e1, e2, e3⟩
    | _ => cases e
  | _ => cases e
end
/-! ### d[k], k in d -/
section
variable {X : Cx}
theorem ix_dict (hu : X.A.units + 1 < cLine) : IxR X (fun x y H Q => ∃ a v, x = .ref a ∧ DGet H a y (some v) ∧ Q v H) := by
  intro value slice pins s σ H x y o i Q I rx ry ⟨a, v, ex, g, q⟩ hs
  subst ex
  obtain rfl : o = Value.ref a := rx
  have hT := dict_typeIs I g
  unfold subscriptTail
  refine wpAny_bind ?_
  rw [getitemInPython_of_ne hT.not_modules]
  refine wpAny_bind (wpAny_specialOf hT PySem.F.slot_dict_getitem.lookup ?_)
  have fin : wpAny (model X.prog X.w) X.A (subscripted slice false (.ref a) i) (fun r s₃ => wpAny (model X.prog X.w) X.A (letTemporaryGo value (.ref a) r >>= fun _ => pure r) (EP X pins σ Q) X.xe s₃) X.xe s := by
    rw [hs]
    exact wpAny_operating (d_getItem hu I g ry fun w' s3 I3 rw' => wpAny_bind (wpAny_letTemporaryGo (wpAny_pure ⟨v, H, I3, rw', q⟩)))
  first
    | exact wpAny_pure (wpAny_bind fin)
    | exact wpAny_bind (wpAny_pure (wpAny_bind fin))
    | exact wpAny_bind fin
theorem op_in_dict (hu : X.A.units + 1 < cLine) : OpR X (compareOp .In) (fun x y H Q => ∃ a o, y = .ref a ∧ DGet H a x o ∧ Q (.bl o.isSome) H) := by
  intro pins s σ H x y v u Q I rx ry ⟨a, o, ey, g, q⟩
  subst ey
  obtain rfl : u = Value.ref a := ry
  exact d_in hu I g rx fun s3 I3 => ⟨.bl o.isSome, H, I3, rfl, q⟩
theorem op_notIn_dict (hu : X.A.units + 1 < cLine) : OpR X (compareOp .NotIn) (fun x y H Q => ∃ a o, y = .ref a ∧ DGet H a x o ∧ Q (.bl (!o.isSome)) H) := by
  intro pins s σ H x y v u Q I rx ry ⟨a, o, ey, g, q⟩
  subst ey
  obtain rfl : u = Value.ref a := ry
  exact d_notIn hu I g rx fun s3 I3 => ⟨.bl (!o.isSome), H, I3, rfl, q⟩
end
def dVal (r : Option (Option D)) : Option Op := match r with
  | some (some d) => some (.val d)
  | _ => none
def gIxA : D → D → Option Op
  | .dK kvs, k => dVal (dGet (.dK kvs) k)
  | .dT kvs, k => dVal (dGet (.dT kvs) k)
  | d, k => gIx d k
def dIn (f : Bool → Bool) (r : Option (Option D)) : Option Op := match r with
  | some r => some (.val (.bl (f r.isSome)))
  | _ => none
def gInA : D → D → Option Op
  | k, .dK kvs => dIn id (dGet (.dK kvs) k)
  | k, .dT kvs => dIn id (dGet (.dT kvs) k)
  | k, d => gIn k d
def gNotInA : D → D → Option Op
  | k, .dK kvs => dIn not (dGet (.dK kvs) k)
  | k, .dT kvs => dIn not (dGet (.dT kvs) k)
  | k, d => gNotIn k d
theorem dVal_some {r : Option (Option D)} {o : Op} (h : dVal r = some o) : ∃ d, r = some (some d) ∧ o = .val d := by
  unfold dVal at h
  split at h
  · cases h; exact ⟨_, rfl, rfl⟩
  · cases h
theorem dIn_some {f : Bool → Bool} {r : Option (Option D)} {o : Op} (h : dIn f r = some o) : ∃ q, r = some q ∧ o = .val (.bl (f q.isSome)) := by
  unfold dIn at h
  split at h
  · cases h; exact ⟨_, rfl, rfl⟩
  · cases h
theorem get_imp {K : PySem.W.Frag} {G H : Hp} {dd kd : D} {dv kv : V} {o : Op} {Q : VK} (s : Sub G H) (h : RepV K G H dd dv) (hk : RepV K G H kd kv) (e : dVal (dGet dd kd) = some o) (q : ∀ v H', Out K G H o v H' → Q v H') :
    ∃ a v, dv = .ref a ∧ DGet H a kv (some v) ∧ Q v H := by
  obtain ⟨d, e1, rfl⟩ := dVal_some e
  obtain ⟨a, o, rfl, _, g, ⟨z, _⟩ | ⟨d', v, e2, rfl, r⟩⟩ := dGet_ok s h hk e1
  · cases z
  · cases e2
    exact ⟨a, v, rfl, g, q _ _ (.same r)⟩
theorem in_imp {K : PySem.W.Frag} {G H : Hp} {f : Bool → Bool} {dd kd : D} {dv kv : V} {o : Op} {Q : VK} (s : Sub G H) (h : RepV K G H dd dv) (hk : RepV K G H kd kv) (e : dIn f (dGet dd kd) = some o) (q : ∀ v H', Out K G H o v H' → Q v H') :
    ∃ a o, dv = .ref a ∧ DGet H a kv o ∧ Q (.bl (f o.isSome)) H := by
  obtain ⟨r, e1, rfl⟩ := dIn_some e
  obtain ⟨a, o, rfl, _, g, ⟨z, z2⟩ | ⟨d', v, e2, e3, r⟩⟩ := dGet_ok s h hk e1
  · subst z z2
    exact ⟨a, none, rfl, g, q _ _ (.same (.bl _))⟩
  · subst e2 e3
    exact ⟨a, some v, rfl, g, q _ _ (.same (.bl _))⟩
section
variable {X : Cx} {T : List (Addr × Str)} {W : WX} {a b c e : Expr} {fa fb fc f : EF} {pos : Pos} {k : Nat}
theorem hu1 (hr : Room k X.A) : X.A.units + 1 < cLine := by
  have := hu65 hr
  omega
theorem gIxA_ok : OpOk2 X.K (fun x y H Q => rIx X.K x y H Q ∨ ∃ a v, x = .ref a ∧ DGet H a y (some v) ∧ Q v H) gIxA := by
  intro G H d1 d2 v1 v2 o Q s hf h1 h2 e q
  cases d1 with
  | dK kvs => exact .inr (get_imp s h1 h2 e q)
  | dT kvs => exact .inr (get_imp s h1 h2 e q)
  | _ => exact .inl (gIx_ok G H _ _ _ _ _ Q s hf h1 h2 e q)
theorem de_ixA (hr : Room k X.A) (ha : DE X T W a fa) (hb : DE X T W b fb) (hs : PlainIx b := by exact fun _ _ => rfl) : DE X T W (.Subscript a b pos) (eOp2 gIxA fa fb) := de_ix (ix_seq.or (ix_dict (hu1 hr))) gIxA_ok hs ha hb
theorem gInA_ok : OpOk2 X.K (fun x y H Q => rInX X.K x y H Q ∨ ∃ a o, y = .ref a ∧ DGet H a x o ∧ Q (.bl o.isSome) H) gInA := by
  intro G H d1 d2 v1 v2 o Q s hf h1 h2 e q
  cases d2 with
  | dK kvs => exact .inr (in_imp (f := id) s h2 h1 e q)
  | dT kvs => exact .inr (in_imp (f := id) s h2 h1 e q)
  | _ => exact .inl (gIn_ok G H _ _ _ _ _ Q s hf h1 h2 e q)
theorem gNotInA_ok : OpOk2 X.K (fun x y H Q => rNotInX X.K x y H Q ∨ ∃ a o, y = .ref a ∧ DGet H a x o ∧ Q (.bl (!o.isSome)) H) gNotInA := by
  intro G H d1 d2 v1 v2 o Q s hf h1 h2 e q
  cases d2 with
  | dK kvs => exact .inr (in_imp (f := not) s h2 h1 e q)
  | dT kvs => exact .inr (in_imp (f := not) s h2 h1 e q)
  | _ => exact .inl (gNotIn_ok G H _ _ _ _ _ Q s hf h1 h2 e q)
theorem de_inA (hr : Room k X.A) (ha : DE X T W a fa) (hb : DE X T W b fb) (hm : behindInMarks .In b = false := by rfl) : DE X T W (.Compare a [.In] [b] pos) (eOp2 gInA fa fb) := de_cmp ((op_inX (hu65 hr)).or (op_in_dict (hu1 hr))) gInA_ok hm ha hb
theorem de_notinA (hr : Room k X.A) (ha : DE X T W a fa) (hb : DE X T W b fb) (hm : behindInMarks .NotIn b = false := by rfl) : DE X T W (.Compare a [.NotIn] [b] pos) (eOp2 gNotInA fa fb) := de_cmp ((op_notInX (hu65 hr)).or (op_notIn_dict (hu1 hr))) gNotInA_ok hm ha hb
theorem dt_inA (hr : Room k X.A) (ha : DE X T W a fa) (hb : DE X T W b fb) (hm : behindInMarks .In b = false := by rfl) : DT X T W (.Compare a [.In] [b] pos) (tCmp' gInA fa fb) := dt_cmp ((op_inX (hu65 hr)).or (op_in_dict (hu1 hr))) gInA_ok hm ha hb
theorem dt_notinA (hr : Room k X.A) (ha : DE X T W a fa) (hb : DE X T W b fb) (hm : behindInMarks .NotIn b = false := by rfl) : DT X T W (.Compare a [.NotIn] [b] pos) (tCmp' gNotInA fa fb) := dt_cmp ((op_notInX (hu65 hr)).or (op_notIn_dict (hu1 hr))) gNotInA_ok hm ha hb
/-! ### d.get(k, x) -/
def ap3 (g : D → D → D → Option Op) : Option D → Option D → Option D → Option Op
  | some a, some b, some c => g a b c
  | _, _, _ => none
def valO : Op → Option D
  | .val d => some d
  | _ => none
theorem valO_some {o : Op} {d : D} (h : valO o = some d) : o = .val d := by
  cases o with
  | val x => cases h; rfl
  | _ => cases h
def kGt3 (g : D → D → D → Option Op) (o1 o2 o3 : Op) (en : En) : ER := ofO (ap3 g (view o1 en) (view o2 en) (valO o3)) en
def kGt2 (g : D → D → D → Option Op) (fc : EF) (o1 o2 : Op) (en : En) : ER := (PF.settle (fc en)).bind (kGt3 g o1 o2)
def kGt1 (g : D → D → D → Option Op) (fb fc : EF) (o1 : Op) (en : En) : ER := match view o1 en with
  | some (.dK _) => (PF.settle (fb en)).bind (kGt2 g fc o1)
  | some (.dT _) => (PF.settle (fb en)).bind (kGt2 g fc o1)
  | _ => .stuck
def eGet (fa fb fc : EF) : EF := fun en => (PF.settle (fa en)).bind (kGt1 (fun d k x => match dGet d k with | some r => some (.val (r.getD x)) | none => none) fb fc)
theorem isD_of {K : PySem.W.Frag} {G H : Hp} {d : D} {v : V} (s : Sub G H) (h : RepV K G H d v) (e : (∃ kvs, d = .dK kvs) ∨ ∃ kvs, d = .dT kvs) : ∃ a, v = .ref a ∧ IsD H a := by
  rcases e with ⟨kvs, rfl⟩ | ⟨kvs, rfl⟩
  · obtain ⟨p, ks, rfl, hp, _⟩ := repV_dK s h
    exact ⟨p, rfl, .inl ⟨ks, .inl hp⟩⟩
  · obtain ⟨p, ks, rfl, hp, _⟩ := repV_dT s h
    exact ⟨p, rfl, .inr ⟨ks, .inl hp⟩⟩
theorem ap3_some {g : D → D → D → Option Op} {x y z : Option D} {o : Op} (h : ap3 g x y z = some o) : ∃ a b c, x = some a ∧ y = some b ∧ z = some c ∧ g a b c = some o := by
  unfold ap3 at h
  split at h
  · exact ⟨_, _, _, rfl, rfl, rfl, h⟩
  · cases h
theorem de_get {apos : Pos} (hr : Room k X.A) (ha : DE X T W a fa) (hb : DE X T W b fb) (hc : DE X T W c fc) (m : M2 X a "get" apos b c pos := by exact ⟨rfl, rfl, rfl, rfl⟩) : DE X T W (.Call (.Attribute a "get" apos) [b, c] [] pos) (eGet fa fb fc) :=
  pe_of (pe_dget2 (hu1 hr) (de_settle ha) (de_settle hb) (de_settle hc) m) fun σ H Q _ ⟨G, en, R, p⟩ => by
    refine ⟨G, en, R, stepE R p fun o1 en1 v1 H1 G1 R1 ro1 n1 s1 p1 => ?_⟩
    have e1 : ∃ d, view o1 en1 = some d ∧ ((∃ kvs, d = .dK kvs) ∨ ∃ kvs, d = .dT kvs) := by
      unfold kGt1 at p1
      split at p1
      · exact ⟨_, by assumption, .inl ⟨_, rfl⟩⟩
      · exact ⟨_, by assumption, .inr ⟨_, rfl⟩⟩
      · exact p1.elim
    obtain ⟨d1, ev1, hd1⟩ := e1
    have p1 : PostE X.K X.mg T W G1 σ H1 en1 (fun v H1 => HF X.K H1 → Q v H1) ((PF.settle (fb en1)).bind (kGt2 (fun d k x => match dGet d k with | some r => some (.val (r.getD x)) | none => none) fc o1)) := by
      unfold kGt1 at p1
      rcases hd1 with ⟨kvs, rfl⟩ | ⟨kvs, rfl⟩
      · simp only [ev1] at p1; exact p1.mono fun _ _ q _ => q
      · simp only [ev1] at p1; exact p1.mono fun _ _ q _ => q
    obtain ⟨a', rfl, hD⟩ := isD_of R1.sub (view_ok R1 ro1 ev1) hd1
    refine ⟨a', rfl, hD, G1, en1, R1, stepE R1 p1 fun o2 en2 v2 H2 G2 R2 ro2 n2 s2 p2 => ⟨G2, en2, R2, ?_⟩⟩
    refine stepE R2 p2 fun o3 en3 v3 H3 G3 R3 ro3 n3 s3 p3 => ?_
    obtain ⟨o, eo, q⟩ := fin_out R3 p3
    obtain ⟨x1, x2, x3, w1, w2, w3, eg⟩ := ap3_some eo
    have eg : (match dGet x1 x2 with | some r => some (.val (r.getD x3)) | none => none) = some o := eg
    cases er : dGet x1 x2 with
    | none => rw [er] at eg; cases eg
    | some r =>
      rw [er] at eg
      cases eg
      obtain ⟨a2, oo, ea, _, g, h⟩ := dGet_ok R3.sub (view_ok R3 ((ro1.later (en' := en2) (H' := H2) n1 s2).later (en' := en3) (H' := H3) n1 s3) w1) (view_ok R3 (ro2.later (en' := en3) (H' := H3) n2 s3) w2) er
      cases ea
      rcases h with ⟨rfl, rfl⟩ | ⟨d, v, rfl, rfl, rd⟩
      · cases valO_some w3
        exact ⟨none, g, q _ _ (.same ro3) R3.hf⟩
      · exact ⟨some v, g, q _ _ (.same rd) R3.hf⟩
end
end PF
namespace PF
open PySem PySem.Spec PyProof.Rows L2
/-! ## dict(pairs) -/
def pairsK : List D → Option (List (Key × D))
  | [] => some []
  | .tup [k, d] :: r => match keyD k, pairsK r with
    | some k, some r => some ((k, d) :: r)
    | _, _ => none
  | _ :: _ => none
def mergeD (acc more : List (Key × D)) : List (Key × D) := more.foldl (fun acc kv => putD acc kv.1 kv.2) acc
def gDictP : List D → Option Op
  | [.lst ds] => match pairsK ds with
    | some kvs => some (.fresh (.dK (mergeD [] kvs)))
    | none => none
  | _ => none
section
variable {K : PySem.W.Frag} {G H : Hp}
theorem RepK.merge : ∀ {more : List (Key × D)} {vs : List (Key × V)} {acc : List (Key × D)} {as : List (Key × V)}, RepK K G more vs → RepK K G acc as → RepK K G (mergeD acc more) (mergeK as vs)
  | _, _, _, _, .nil, r => r
  | _, _, _, _, .cons h q, r => by
    unfold mergeD mergeK
    rw [List.foldl_cons, List.foldl_cons]
    exact RepK.merge q (r.put h)
theorem pairsK_ok (s : Sub G H) : ∀ {ds : List D} {xs : List V} {kvs : List (Key × D)}, RepL K G ds xs → pairsK ds = some kvs → ∃ (ps : List Addr) (vs : List (Key × V)), xs = ps.map V.ref ∧ Paired (fun p kv => SqT K H p [kV kv.1, kv.2]) ps vs ∧ RepK K G kvs vs
  | [], _, _, .nil, e => by cases e; exact ⟨[], [], rfl, .nil, .nil⟩
  | d :: ds, _, kvs, .cons h r, e => by
    unfold pairsK at e
    split at e
    · rename_i e0; cases e0
    · rename_i k d' r' e0
      cases e0
      split at e
      · rename_i kk rr e1 e2
        cases e
        obtain ⟨ps, vs, rfl, pp, rk⟩ := pairsK_ok s r e2
        cases h with
        | tup ha hl =>
          cases hl with
          | cons h1 hl =>
            cases hl with
            | cons h2 hl =>
              cases hl
              cases keyD_rep h1 e1
              exact ⟨_ :: ps, (kk, _) :: vs, rfl, .cons (SqT.of (s _ _ ha)) pp, .cons h2 rk⟩
      · cases e
    · cases e
theorem gDictP_ok : CallOk K (fun xs H Q => ∃ (a : Addr) (ps : List Addr) (kvs : List (Key × V)), xs = [.ref a] ∧ SqL K H a (ps.map V.ref) ∧ Paired (fun p kv => SqT K H p [kV kv.1, kv.2]) ps kvs ∧
    ∀ p, H p = none → Q (.ref p) (upd H p (.dK (mergeK [] kvs)))) gDictP := by
  intro G H ds vs o Q s hf h e k
  unfold gDictP at e
  split at e
  · rename_i ds
    split at e
    · rename_i kvs e1
      cases e
      replace h := reps1 h
      obtain ⟨v, rfl, h⟩ := h
      obtain ⟨p, us, rfl, hp, rl⟩ := repV_lst s h
      obtain ⟨ps, ws, rfl, pp, rk⟩ := pairsK_ok s rl e1
      exact ⟨p, ps, ws, rfl, hp, pp, fun p' hp' => k _ _ (.newf hp' (.dK (RepK.merge rk .nil)))⟩
    · cases e
  · cases e
end
section
variable {X : Cx} {T : List (Addr × Str)} {W : WX} {e : Expr} {f : EF} {pos p : Pos}
theorem de_dictP (hc : X.calm = true) (hm : X.mg "dict" = none) (ha : DE X T W e f) (hg : Gl X "dict" := by rfl) (he : starEach [e] X.env = [(false, eval e X.env)] := by rfl) : DE X T W (.Call (.Name "dict" p) [e] [] pos) (eCall gDictP (aCons f aNil)) :=
  de_callR (pe_callTy (call_dictP hc) hg hm boot_dict (da_cons ha da_nil he) (he := he)) gDictP_ok
end
end PF
namespace PF
open PySem PySem.Spec PyProof.Rows L2
/-! ## houses, heirs, givers: without a program -/
def Numb.pos (n : Numb) (M p : Int) : Int := if n.near then p else M - 1 - p
def Numb.no (n : Numb) (M p : Int) : Int := n.at (n.pos M p)
def Numb.plc (n : Numb) (M v : Int) : Option Int := match n.idx v with
  | none => none
  | some i => if M ≤ i then none else some (n.pos M i)
def heirP (a b : Numb) (M p : Int) : Option Int := b.plc M (a.no M p)
def giverP (a b : Numb) (M p : Int) : Option Int := a.plc M (b.no M p)
theorem Numb.pos_pos (n : Numb) (M p : Int) : n.pos M (n.pos M p) = p := by
  unfold Numb.pos
  split <;> omega
theorem Numb.pos_in {n : Numb} {M p : Int} (h0 : 0 ≤ p) (h1 : p < M) : 0 ≤ n.pos M p ∧ n.pos M p < M := by
  unfold Numb.pos
  split <;> omega
theorem Numb.plc_iff {n : Numb} (h : n.Ok) {M v q : Int} : n.plc M v = some q ↔ 0 ≤ q ∧ q < M ∧ n.no M q = v := by
  unfold Numb.plc
  constructor
  · intro e
    cases c : n.idx v with
    | none => rw [c] at e; cases e
    | some i =>
      rw [c] at e
      have e : (if M ≤ i then none else some (n.pos M i)) = some q := e
      split at e
      · cases e
      · cases e
        obtain ⟨i0, iv⟩ := Numb.idx_at h c
        have p := Numb.pos_in (n := n) i0 (show i < M by omega)
        exact ⟨p.1, p.2, by unfold Numb.no; rw [Numb.pos_pos]; exact iv⟩
  · rintro ⟨h0, h1, h2⟩
    have p := Numb.pos_in (n := n) h0 h1
    rw [(Numb.idx_iff h).mpr ⟨p.1, h2⟩]
    show (if M ≤ n.pos M q then none else some (n.pos M (n.pos M q))) = some q
    rw [if_neg (by omega), Numb.pos_pos]
theorem Numb.no_inj {n : Numb} (h : n.Ok) {M p q : Int} (p0 : 0 ≤ p) (p1 : p < M) (q0 : 0 ≤ q) (q1 : q < M) (e : n.no M p = n.no M q) : p = q := by
  have h1 := (Numb.plc_iff h (M := M) (v := n.no M q) (q := p)).mpr ⟨p0, p1, e⟩
  have h2 := (Numb.plc_iff h (M := M) (v := n.no M q) (q := q)).mpr ⟨q0, q1, rfl⟩
  rw [h1] at h2
  exact Option.some.inj h2
theorem heir_iff {a b : Numb} (h : POk a b) {M p q : Int} : heirP a b M p = some q ↔ 0 ≤ q ∧ q < M ∧ b.no M q = a.no M p := Numb.plc_iff h.b
theorem giver_iff {a b : Numb} (h : POk a b) {M p q : Int} : giverP a b M p = some q ↔ 0 ≤ q ∧ q < M ∧ a.no M q = b.no M p := Numb.plc_iff h.a
theorem giver_heir {a b : Numb} (h : POk a b) {M p q : Int} (p0 : 0 ≤ p) (p1 : p < M) : heirP a b M p = some q ↔ 0 ≤ q ∧ q < M ∧ giverP a b M q = some p := by
  rw [heir_iff h]
  constructor
  · rintro ⟨h0, h1, h2⟩
    exact ⟨h0, h1, (giver_iff h).mpr ⟨p0, p1, h2.symm⟩⟩
  · rintro ⟨h0, h1, h2⟩
    exact ⟨h0, h1, ((giver_iff h).mp h2).2.2.symm⟩
theorem heir_inj {a b : Numb} (h : POk a b) {M p q r : Int} (p0 : 0 ≤ p) (p1 : p < M) (q0 : 0 ≤ q) (q1 : q < M) (e : heirP a b M p = some r) (e2 : heirP a b M q = some r) : p = q := by
  have h1 := (heir_iff h).mp e
  have h2 := (heir_iff h).mp e2
  exact Numb.no_inj h.a p0 p1 q0 q1 (h1.2.2.symm.trans h2.2.2)
/-! the period -/
theorem Numb.at_add {n : Numb} (h : n.Ok) (i t : Int) : n.at (i + n.len * t) = n.at i + n.step * t := by
  have l := h.len_pos
  unfold Numb.at
  rw [Int.add_mul_ediv_left _ _ (by omega), Int.add_mul_emod_self_left, Int.add_mul, Int.mul_comm t]
  omega
theorem Numb.idx_add {n : Numb} (h : n.Ok) {v i t : Int} (ht : 0 ≤ t) (e : n.idx v = some i) : n.idx (v + n.step * t) = some (i + n.len * t) := by
  obtain ⟨i0, iv⟩ := Numb.idx_at h e
  have l := h.len_pos
  have := Int.mul_nonneg (show 0 ≤ n.len by omega) ht
  exact (Numb.idx_iff h).mpr ⟨by omega, by rw [Numb.at_add h, iv]⟩
def perI (la lb : Int) : Int := if la = lb then la else if la = 1 then lb else if lb = 1 then la else 6
theorem Numb.len_cases {n : Numb} (h : n.Ok) : n.len = 1 ∨ n.len = 2 ∨ n.len = 3 := by
  have h1 := h.len1
  have h2 := h.len3
  have e : n.len = (n.tab.length : Int) := rfl
  omega
/-- as many turns of the one table, and of the other, as stand in a period -/
theorem per_turns {a b : Numb} (h : POk a b) : ∃ ka kb : Int, 1 ≤ ka ∧ 1 ≤ kb ∧ perI a.len b.len = a.len * ka ∧ perI a.len b.len = b.len * kb ∧ a.step * ka = b.step * kb := by
  have e : a.step * b.len = b.step * a.len := h.bal
  unfold perI
  rcases Numb.len_cases h.a with la | la | la <;> rcases Numb.len_cases h.b with lb | lb | lb <;> rw [la, lb] at e ⊢
  · exact ⟨1, 1, by omega, by omega, by simp, by simp, by omega⟩
  · exact ⟨2, 1, by omega, by omega, by simp, by simp, by omega⟩
  · exact ⟨3, 1, by omega, by omega, by simp, by simp, by omega⟩
  · exact ⟨1, 2, by omega, by omega, by simp, by simp, by omega⟩
  · exact ⟨1, 1, by omega, by omega, by simp, by simp, by omega⟩
  · exact ⟨3, 2, by omega, by omega, by simp, by simp, by omega⟩
  · exact ⟨1, 3, by omega, by omega, by simp, by simp, by omega⟩
  · exact ⟨2, 3, by omega, by omega, by simp, by simp, by omega⟩
  · exact ⟨1, 1, by omega, by omega, by simp, by simp, by omega⟩
theorem per_bnd {a b : Numb} (h : POk a b) : 1 ≤ perI a.len b.len ∧ perI a.len b.len ≤ 6 := by
  unfold perI
  rcases Numb.len_cases h.a with la | la | la <;> rcases Numb.len_cases h.b with lb | lb | lb <;> rw [la, lb] <;> simp
theorem Numb.len_le_step {n : Numb} (h : n.Ok) : n.len ≤ n.step := by
  have st := h.st1
  have hl := L2.nat_nodup_len ((n.tab.map fun x => x % n.step).map Int.toNat) (List.range n.step.toNat) (List.pairwise_map.mpr (h.res.imp_of_mem fun {x y} hx hy ne => fun z => ne (by
    obtain ⟨u, _, rfl⟩ := List.mem_map.mp hx
    obtain ⟨w, _, rfl⟩ := List.mem_map.mp hy
    have := Int.emod_nonneg u (show n.step ≠ 0 by omega)
    have := Int.emod_nonneg w (show n.step ≠ 0 by omega)
    omega))) fun x hx => by
    obtain ⟨y, hy, rfl⟩ := List.mem_map.mp hx
    obtain ⟨u, _, rfl⟩ := List.mem_map.mp hy
    have := Int.emod_nonneg u (show n.step ≠ 0 by omega)
    have := Int.emod_lt_of_pos u (show 0 < n.step by omega)
    exact List.mem_range.mpr (by omega)
  rw [List.length_map, List.length_map, List.length_range] at hl
  show (n.tab.length : Int) ≤ n.step
  omega
/-- a house and its heir stand at most thirteen places apart, counted from their ends -/
theorem idx_dist {a b : Numb} (h : POk a b) {i j : Int} (hi : 0 ≤ i) (hj : 0 ≤ j) (e : b.at j = a.at i) : i - 13 ≤ j ∧ j ≤ i + 13 := by
  obtain ⟨r, x, er, hx, ea⟩ := Numb.at_ix h.a hi
  obtain ⟨r', y, er', hy, eb⟩ := Numb.at_ix h.b hj
  obtain ⟨x1, x2⟩ := h.a.ent x (List.mem_of_getElem? hx)
  obtain ⟨y1, y2⟩ := h.b.ent y (List.mem_of_getElem? hy)
  have qa := Int.mul_ediv_add_emod i a.len
  have qb := Int.mul_ediv_add_emod j b.len
  have ma := Int.emod_lt_of_pos i h.a.len_pos
  have mb := Int.emod_lt_of_pos j h.b.len_pos
  have na := Int.emod_nonneg i (show a.len ≠ 0 by have := h.a.len_pos; omega)
  have nb := Int.emod_nonneg j (show b.len ≠ 0 by have := h.b.len_pos; omega)
  have bal : a.step * b.len = b.step * a.len := h.bal
  have sa := Numb.len_le_step h.a
  have e2 : j / b.len * b.step + y = i / a.len * a.step + x := by omega
  have st := h.a.st1
  have st' := h.b.st1
  -- by the table's lengths everything is linear but for the steps
  have key : a.step * b.len * (i - i % a.len) + x * (a.len * b.len) = a.step * b.len * (j - j % b.len) + y * (a.len * b.len) := by
    have u1 : i - i % a.len = a.len * (i / a.len) := by omega
    have u2 : j - j % b.len = b.len * (j / b.len) := by omega
    rw [u1, u2]
    have v1 : a.step * b.len * (a.len * (i / a.len)) = (i / a.len * a.step) * (a.len * b.len) := by
      simp only [Int.mul_assoc, Int.mul_comm, Int.mul_left_comm]
    have v2 : a.step * b.len * (b.len * (j / b.len)) = (j / b.len * b.step) * (a.len * b.len) := by
      rw [bal]
      simp only [Int.mul_assoc, Int.mul_comm, Int.mul_left_comm]
    rw [v1, v2, ← Int.add_mul, ← Int.add_mul, e2]
  have c0 : a.len * b.len ≤ a.step * b.len := Int.mul_le_mul_of_nonneg_right sa (by have := h.b.len_pos; omega)
  have c1 : 0 < a.len * b.len := Int.mul_pos h.a.len_pos h.b.len_pos
  have k2 : a.step * b.len * ((i - i % a.len) - (j - j % b.len)) = (y - x) * (a.len * b.len) := by
    rw [Int.mul_sub, Int.sub_mul]
    omega
  generalize hc : a.step * b.len = c at *
  generalize hd : a.len * b.len = d at *
  generalize hz : (i - i % a.len) - (j - j % b.len) = z at *
  have z1 : z ≤ 11 := by
    have : c * z ≤ c * 11 := by
      rw [k2]
      have : (y - x) * d ≤ 11 * d := Int.mul_le_mul_of_nonneg_right (by omega) (by omega)
      omega
    exact Int.le_of_mul_le_mul_left this (by omega)
  have z2 : -11 ≤ z := by
    have : c * (-11) ≤ c * z := by
      rw [k2]
      have : (-11) * d ≤ (y - x) * d := Int.mul_le_mul_of_nonneg_right (by omega) (by omega)
      omega
    exact Int.le_of_mul_le_mul_left this (by omega)
  have l1 := Numb.len_cases h.a
  have l2 := Numb.len_cases h.b
  omega
/-! offsets -/
def offAt (a b : Numb) (sz r : Int) : Option Int := (b.idx (a.at (r + 20 * sz))).map fun j => j - (r + 20 * sz)
theorem off_far {a b : Numb} (h : POk a b) {i : Int} (hi : 21 * perI a.len b.len ≤ i) : b.idx (a.at i) = (offAt a b (perI a.len b.len) (i % perI a.len b.len)).map fun g => i + g := by
  obtain ⟨ka, kb, ka1, kb1, e1, e2, e3⟩ := per_turns h
  obtain ⟨s1, s6⟩ := per_bnd h
  generalize hs : perI a.len b.len = sz at *
  have q := Int.mul_ediv_add_emod i sz
  have m0 := Int.emod_nonneg i (show sz ≠ 0 by omega)
  have m1 := Int.emod_lt_of_pos i (show 0 < sz by omega)
  have t0 : 0 ≤ i / sz - 20 := by
    have : 21 ≤ i / sz := (Int.le_ediv_iff_mul_le (by omega)).mpr hi
    omega
  generalize ht : i / sz - 20 = t at *
  have ei : i = (i % sz + 20 * sz) + sz * t := by
    rw [← ht, Int.mul_sub]
    omega
  have st0 := Int.mul_nonneg (show 0 ≤ sz by omega) t0
  have ea : a.at i = a.at (i % sz + 20 * sz) + b.step * (kb * t) := by
    rw [show a.at i = a.at ((i % sz + 20 * sz) + a.len * (ka * t)) by rw [← Int.mul_assoc, ← e1, ← ei], Numb.at_add h.a, ← Int.mul_assoc, e3, Int.mul_assoc]
  have kt := Int.mul_nonneg (show 0 ≤ kb by omega) t0
  have el : b.len * (kb * t) = sz * t := by rw [← Int.mul_assoc, ← e2]
  unfold offAt
  cases c : b.idx (a.at (i % sz + 20 * sz)) with
  | some j =>
    rw [ea, Numb.idx_add h.b kt c, el, Option.map_some, Option.map_some]
    congr 1
    omega
  | none =>
    rw [Option.map_none, Option.map_none]
    cases c2 : b.idx (a.at i) with
    | none => rfl
    | some j =>
      obtain ⟨j0, jv⟩ := Numb.idx_at h.b c2
      obtain ⟨d1, _⟩ := idx_dist h (show 0 ≤ i by omega) j0 jv
      have : b.idx (a.at (i % sz + 20 * sz)) = some (j - sz * t) := (Numb.idx_iff h.b).mpr ⟨by omega, by
        have z := Numb.at_add h.b (j - sz * t) (kb * t)
        rw [el, show j - sz * t + sz * t = j by omega, jv, ea] at z
        omega⟩
      rw [c] at this
      cases this
/-! as data -/
def oInt : Option Int → D
  | some i => .int i
  | none => .non
theorem near_eq (b : Bool) : gEq (.str (endS b)) (.str "near") = some (.val (.bl b)) := by cases b <;> kernel_rfl
theorem far_eq (b : Bool) : gEq (.str (endS b)) (.str "far") = some (.val (.bl !b)) := by cases b <;> kernel_rfl
theorem end_eq (b c : Bool) : gEq (.str (endS b)) (.str (endS c)) = some (.val (.bl (b == c))) := by cases b <;> cases c <;> kernel_rfl
theorem at_tab {n : Numb} (h : n.Ok) (i : Int) : gIx (.tup (n.tab.map D.int)) (.int (i % (n.tab.length : Int))) = some (.val (.int (n.tab.getD (i % n.len).toNat 0))) := by
  have l := h.len_pos
  have m0 := Int.emod_nonneg i (show n.len ≠ 0 by omega)
  have m1 := Int.emod_lt_of_pos i l
  have hr : (i % n.len).toNat < n.tab.length := by
    have : n.len = (n.tab.length : Int) := rfl
    omega
  have e := atI_nat (xs := n.tab.map D.int) (j := (i % n.len).toNat) (v := .int (n.tab.getD (i % n.len).toNat 0)) (by
    rw [List.getElem?_map, List.getD_eq_getElem?_getD, List.getElem?_eq_getElem hr]
    rfl)
  rw [show (((i % n.len).toNat : Nat) : Int) = i % n.len by omega] at e
  exact gIx_tup e
theorem dK_ev1 {kvs : List (Key × D)} {k : Int} : dGet (.dK kvs) (.int k) = some (valD kvs (.inl k)) := rfl
theorem dK_ev2 {kvs : List (Key × D)} {k : Str} : dGet (.dK kvs) (.str k) = some (valD kvs (.inr k)) := rfl
/-- what a dict of pairs holds -/
theorem merge_none {k : Key} : ∀ {more acc : List (Key × D)}, (∀ p ∈ more, p.1 ≠ k) → valD (mergeD acc more) k = valD acc k
  | [], _, _ => rfl
  | (j, d) :: r, acc, h => by
    show valD (mergeD (putD acc j d) r) k = _
    rw [merge_none fun p hp => h p (List.mem_cons_of_mem _ hp), valD_put, if_neg (fun z => h (j, d) (by simp) z.symm)]
theorem merge_some {k : Key} {d : D} : ∀ {more acc : List (Key × D)}, (∃ p ∈ more, p.1 = k) → (∀ p ∈ more, p.1 = k → p.2 = d) → valD (mergeD acc more) k = some d
  | [], _, h, _ => by obtain ⟨p, hp, _⟩ := h; simp at hp
  | (j, x) :: r, acc, h, hd => by
    show valD (mergeD (putD acc j x) r) k = _
    by_cases c : ∃ p ∈ r, p.1 = k
    · exact merge_some c fun p hp => hd p (List.mem_cons_of_mem _ hp)
    · rw [merge_none fun p hp z => c ⟨p, hp, z⟩, valD_put]
      obtain ⟨p, hp, e⟩ := h
      rcases List.mem_cons.mp hp with rfl | hp
      · have e : j = k := e
        have e2 : x = d := hd (j, x) (by simp) e
        rw [if_pos e.symm, e2]
      · exact absurd ⟨p, hp, e⟩ c
theorem pairsK_ints {α : Type} {f : α → Int} {g : α → D} : ∀ (xs : List α), pairsK (xs.map fun x => .tup [.int (f x), g x]) = some (xs.map fun x => (.inl (f x), g x))
  | [] => rfl
  | x :: xs => by
    rw [List.map_cons, List.map_cons]
    show (match keyD (.int (f x)), pairsK (xs.map fun x => .tup [.int (f x), g x]) with | some k, some r => some ((k, g x) :: r) | _, _ => none) = _
    rw [pairsK_ints xs]
    rfl
theorem rngI_in {lo x : Int} {n : Nat} (h1 : lo ≤ x) (h2 : x < lo + n) : x ∈ rngI lo n := by
  unfold rngI
  exact List.mem_map.mpr ⟨(x - lo).toNat, List.mem_range.mpr (by omega), by omega⟩
end PF
namespace PF
open PySem PySem.Spec PyProof.Rows L2
/-! ## what holds behind -/
def Wp {α : Type} (r : Res α) (P : α → En → Prop) : Prop := ∃ a en, r = .ok a en ∧ P a en
theorem ev_wp {α : Type} {a : α} {en : En} {P : α → En → Prop} : Wp (.ok a en) P = P a en := propext ⟨fun ⟨_, _, e, h⟩ => by cases e; exact h, fun h => ⟨a, en, rfl, h⟩⟩
def Nx (r : SR) (P : En → Prop) : Prop := ∃ en, r = .ok .nx en ∧ P en
theorem ev_nx {en : En} {P : En → Prop} : Nx (.ok .nx en) P = P en := propext ⟨fun ⟨_, e, h⟩ => by cases e; exact h, fun h => ⟨en, rfl, h⟩⟩
theorem Nx.mono {r : SR} {P P' : En → Prop} (h : Nx r P) (k : ∀ en, P en → P' en) : Nx r P' := by
  obtain ⟨en, e, p⟩ := h
  exact ⟨en, e, k en p⟩
theorem Nx.seq {f g : SF} {en : En} {P Q : En → Prop} (h : Nx (f en) P) (k : ∀ en1, P en1 → Nx (g en1) Q) : Nx (sSeq f g en) Q := by
  obtain ⟨en1, e, p⟩ := h
  obtain ⟨en2, e2, p2⟩ := k en1 p
  exact ⟨en2, by rw [ev_seq, e, bind_ok, ev_seq1, e2], p2⟩
theorem seq_assoc {f g h : SF} : sSeq (sSeq f g) h = sSeq f (sSeq g h) := by
  funext en
  rw [ev_seq, ev_seq, ev_seq]
  cases f en with
  | ok fl en1 => cases fl with
    | nx => rw [bind_ok, bind_ok, ev_seq1, ev_seq1, ev_seq]
    | _ => rfl
  | _ => rfl
theorem Nx.for {p : Pat} {f : SF} {P : En → Prop} {ds : List D} {en : En} (h0 : P en) (hs : ∀ d ∈ ds, ∀ en, P en → ∃ en1, asgP p d en = some en1 ∧ Nx (f en1) P) : Nx (forD p f ds en) P := by
  obtain ⟨en2, e, h⟩ := forD_inv (p := p) (f := f) (P := P) (ds := ds) (fun d hd en hP => by
    obtain ⟨en1, e1, en2, e2, h2⟩ := hs d hd en hP
    exact ⟨en1, en2, e1, e2, h2⟩) h0
  exact ⟨en2, e, h⟩
theorem Nx.bnd {r : SR} {g : SF} {P Q : En → Prop} (h : Nx r P) (k : ∀ en, P en → Nx (g en) Q) : Nx (r.bind (kSeq g)) Q := by
  obtain ⟨en1, e, p⟩ := h
  obtain ⟨en2, e2, p2⟩ := k en1 p
  exact ⟨en2, by rw [e, bind_ok, ev_seq1, e2], p2⟩
/-- what a call tells -/
def Fw (r : FR) (P : Bool → D → List Sl → Prop) : Prop := ∃ fr d outs, r = .ok fr d outs ∧ P fr d outs
theorem ev_fw {fr : Bool} {d : D} {outs : List Sl} {P : Bool → D → List Sl → Prop} : Fw (.ok fr d outs) P = P fr d outs := propext ⟨fun ⟨_, _, _, e, h⟩ => by cases e; exact h, fun h => ⟨_, _, _, rfl, h⟩⟩
theorem Fw.bnd {r : SR} {g : SF} {n : Nat} {Q : En → Prop} {P : Bool → D → List Sl → Prop} (h : Nx r Q) (k : ∀ en, Q en → Fw (kFn n (g en)) P) : Fw (kFn n (r.bind (kSeq g))) P := by
  obtain ⟨en1, e, p⟩ := h
  rw [e, bind_ok, ev_seq1]
  exact k en1 p
/-- an item is taken, then the body is run -/
def AsN (o : Option En) (f : SF) (P : En → Prop) : Prop := ∃ en1, o = some en1 ∧ Nx (f en1) P
theorem ev_asn {en1 : En} {f : SF} {P : En → Prop} : AsN (some en1) f P = Nx (f en1) P := propext ⟨fun ⟨_, e, h⟩ => by cases e; exact h, fun h => ⟨en1, rfl, h⟩⟩
theorem Nx.forP {p : Pat} {f : SF} {P : En → Prop} {ds : List D} {en : En} (h0 : P en) (hs : ∀ d ∈ ds, ∀ en, P en → AsN (asgP p d en) f P) : Nx (forD p f ds en) P := Nx.for h0 hs
theorem Nx.forI {p : Pat} {f : SF} {I : Nat → En → Prop} : ∀ {ds : List D} {en : En} (j : Nat), I j en → (∀ k d en, ds[k]? = some d → I (j + k) en → AsN (asgP p d en) f (I (j + k + 1))) → Nx (forD p f ds en) (I (j + ds.length))
  | [], en, j, h0, _ => ⟨en, rfl, h0⟩
  | d :: ds, en, j, h0, hs => by
    obtain ⟨en1, e1, en2, e2, h2⟩ := hs 0 d en rfl h0
    obtain ⟨en3, e3, h3⟩ := Nx.forI (ds := ds) (j + 1) h2 fun k x en hk hi => by
      have := hs (k + 1) x en hk (by rwa [show j + (k + 1) = j + 1 + k by omega])
      rwa [show j + (k + 1) + 1 = j + 1 + k + 1 by omega] at this
    refine ⟨en3, ?_, by rwa [List.length_cons, show j + (ds.length + 1) = j + 1 + ds.length by omega]⟩
    rw [ev_for3, e1, ev_for4, e2, bind_ok, ev_for5, e3]
/-! ## comprehensions over pairs -/
theorem set_un2 {en : En} {i j : Nat} {x y : Sl} (hij : i ≠ j) (hi : en[i]? = some .un) (hj : en[j]? = some .un) : (((en.set i x).set j y).set j .un).set i .un = en := by
  rw [List.set_set]
  apply List.ext_getElem?
  intro k
  obtain ⟨li, ei⟩ := List.getElem?_eq_some_iff.mp hi
  obtain ⟨lj, ej⟩ := List.getElem?_eq_some_iff.mp hj
  by_cases e : i = k
  · subst e
    rw [List.getElem?_set_self (by simpa using li), hi]
  · rw [List.getElem?_set_ne e]
    by_cases e2 : j = k
    · subst e2
      rw [List.getElem?_set_self (by simpa using lj), hj]
    · rw [List.getElem?_set_ne e2, List.getElem?_set_ne e]
theorem set_un3 {en : En} {i j : Nat} (hij : i ≠ j) (hi : en[i]? = some .un) (hj : en[j]? = some .un) : (en.set j .un).set i .un = en := by
  have := set_un2 (x := .un) (y := .un) hij hi hj
  rwa [set_un0 hi, set_un0 hj] at this
theorem comp_pair {i j : Nat} {tt : TF} {te : EF} {f : D × D → D} {p : D × D → Bool} {en : En} (hij : i ≠ j) (hi : en[i]? = some .un) (hj : en[j]? = some .un) : ∀ (ps : List (D × D)), (∀ q ∈ ps, tt ((en.set i (.fz q.1)).set j (.fz q.2)) = .ok (p q) ((en.set i (.fz q.1)).set j (.fz q.2))) → (∀ q ∈ ps, p q = true → PF.settle (te ((en.set i (.fz q.1)).set j (.fz q.2))) = .ok (.val (f q)) ((en.set i (.fz q.1)).set j (.fz q.2))) → ∀ acc,
    compD (.tp [.nm i, .nm j]) [i, j] tt te (ps.map fun q => D.tup [q.1, q.2]) acc en = .ok (.fresh (.lst (acc ++ (ps.filter p).map f))) en
  | [], _, _, acc => by simp [compD]
  | q :: ps, h1, h2, acc => by
    have hj2 : (en.set i (.fz q.1))[j]? = some .un := by rw [List.getElem?_set_ne hij, hj]
    have e0 : asgP (.tp [.nm i, .nm j]) (.tup [q.1, q.2]) en = some ((en.set i (.fz q.1)).set j (.fz q.2)) := by
      simp only [asgP, asgPs, setO, hi, putO, hj2]
    have e1 := h1 q (by simp)
    rw [List.map_cons, compD_cons, e0]
    simp only [e1]
    cases c : p q with
    | false =>
      have ih := comp_pair hij hi hj ps (fun d hd => h1 d (by simp [hd])) (fun d hd => h2 d (by simp [hd])) acc
      simp only [wipeE, set_un2 hij hi hj, ih, List.filter_cons, c]
      rfl
    | true =>
      have ih := comp_pair hij hi hj ps (fun d hd => h1 d (by simp [hd])) (fun d hd => h2 d (by simp [hd])) (acc ++ [f q])
      simp only [h2 q (by simp) c, frz_val, wipeE, set_un2 hij hi hj, ih, List.filter_cons, c, if_true, List.map_cons, List.append_assoc, List.cons_append, List.nil_append]
theorem eComp_pair {i j : Nat} {fi : IF} {tt : TF} {te : EF} {f : D × D → D} {p : D × D → Bool} {en : En} {ps : List (D × D)} (hd : fi en = .ok (ps.map fun q => D.tup [q.1, q.2]) en) (hij : i ≠ j) (hi : en[i]? = some .un) (hj : en[j]? = some .un)
    (h1 : ∀ q ∈ ps, tt ((en.set i (.fz q.1)).set j (.fz q.2)) = .ok (p q) ((en.set i (.fz q.1)).set j (.fz q.2))) (h2 : ∀ q ∈ ps, p q = true → PF.settle (te ((en.set i (.fz q.1)).set j (.fz q.2))) = .ok (.val (f q)) ((en.set i (.fz q.1)).set j (.fz q.2))) :
    eComp fi (.tp [.nm i, .nm j]) [i, j] tt te en = .ok (.fresh (.lst ((ps.filter p).map f))) en := by
  unfold eComp
  rw [hd]
  have c := comp_pair hij hi hj ps h1 h2 []
  simp only [bind_ok, wipeE, set_un3 hij hi hj, c, restE, hi, hj, Option.map_some, List.nil_append]
/-! ## enumerate -/
theorem enum_rng {α : Type} {f : Int → α} {n : Nat} : ((rngI 0 n).map f).zipIdx = (rngI 0 n).map fun p => (f p, p.toNat) := by
  apply List.ext_getElem?
  intro i
  rw [List.getElem?_zipIdx, List.getElem?_map, List.getElem?_map]
  unfold rngI
  rw [List.getElem?_map]
  by_cases h : i < n
  · rw [List.getElem?_range h]
    simp
  · rw [List.getElem?_eq_none (by simpa using h)]
    rfl
theorem enumD_rng {f : Int → D} {n : Nat} : enumD ((rngI 0 n).map f) = (rngI 0 n).map fun p => D.tup [.int p, f p] := by
  unfold enumD
  rw [enum_rng, List.map_map]
  refine List.map_congr_left fun p hp => ?_
  have := rngI_mem hp
  show D.tup [.int ((p.toNat : Nat) : Int), f p] = _
  rw [show ((p.toNat : Nat) : Int) = p by omega]
theorem pairsK_of {α : Type} {f g : α → D} {k : α → Key} : ∀ (xs : List α), (∀ x ∈ xs, keyD (f x) = some (k x)) → pairsK (xs.map fun x => .tup [f x, g x]) = some (xs.map fun x => (k x, g x))
  | [], _ => rfl
  | x :: xs, h => by
    rw [List.map_cons, List.map_cons]
    show (match keyD (f x), pairsK (xs.map fun x => .tup [f x, g x]) with | some k, some r => some ((k, g x) :: r) | _, _ => none) = _
    rw [pairsK_of xs fun y hy => h y (List.mem_cons_of_mem _ hy), h x (by simp)]
theorem gIx_rng {f : Int → D} {n : Nat} {i : Int} (h0 : 0 ≤ i) (h1 : i < n) : gIx (.lst ((rngI 0 n).map f)) (.int i) = some (.val (f i)) := by
  refine gIx_lst ?_
  have e : ((rngI 0 n).map f)[i.toNat]? = some (f i) := by
    unfold rngI
    rw [List.getElem?_map, List.getElem?_map, List.getElem?_range (by omega)]
    simp only [Option.map_some, Option.some.injEq]
    congr 1
    omega
  have k := atI_nat e
  rwa [show ((i.toNat : Nat) : Int) = i by omega] at k
end PF
namespace PF
open PySem PySem.Spec PyProof.Rows L2
/-! ## {}, {'a': 'b', ..}, d[k] = v -/
section
variable {X : Cx} {T : List (Addr × Str)} {W : WX} {a b c e : Expr} {fa fb fc f g : EF} {pos : Pos} {k : Nat}
def eNew (d : D) : EF := fun en => .ok (.fresh d) en
theorem ev_new {d : D} {en : En} : eNew d en = .ok (.fresh d) en := rfl
theorem de_newK : DE X T W (.Dict [] [] pos) (eNew (.dK [])) :=
  pe_of pe_dnewK fun σ H Q _ ⟨G, en, R, p⟩ => fun q hq hf => by
    obtain ⟨G3, R3, ro, f3⟩ := out_ok R (Out.newf (K := X.K) (d := .dK []) hq (.dK .nil)) hf
    exact p (.ref q) _ _ R3 ro f3 (IoK.refl en)
theorem de_newT : DE X T W (.Dict [] [] pos) (eNew (.dT [])) :=
  pe_of pe_dnewT fun σ H Q _ ⟨G, en, R, p⟩ => fun q hq hf => by
    obtain ⟨G3, R3, ro, f3⟩ := out_ok R (Out.newf (K := X.K) (d := .dT []) hq (.dT .nil)) hf
    exact p (.ref q) _ _ R3 ro f3 (IoK.refl en)
theorem de_disp2 {k1 v1 k2 v2 : Str} {j1 j2 j3 j4 : Nat} {p1 p2 p3 p4 : Pos} : DE X T W (.Dict [some (.Constant (.str k1) j1 p1), some (.Constant (.str k2) j2 p2)] [.Constant (.str v1) j3 p3, .Constant (.str v2) j4 p4] pos) (eNew (.dK (mergeD [] [(.inr k1, .str v1), (.inr k2, .str v2)]))) :=
  pe_of (pe_disp (pps_cons pe_str pe_str (pps_cons pe_str pe_str pps_nil)) rfl rfl (fun z => by cases z) (by show 2 ≤ 15; decide)) fun σ H Q _ ⟨G, en, R, p⟩ => by
    intro q hq
    refine ⟨upd_same, [(.inr k1, .str v1), (.inr k2, .str v2)], rfl, by show 2 ≤ 15; decide, fun hf => ?_⟩
    have e : upd (upd H q (.dK [])) q (.dK (mergeK [] [(.inr k1, V.str v1), (.inr k2, V.str v2)])) = upd H q (.dK (mergeK [] [(.inr k1, V.str v1), (.inr k2, V.str v2)])) := by
      funext x
      by_cases h : x = q
      · subst h; rw [upd_same, upd_same]
      · rw [upd_ne h, upd_ne h, upd_ne h]
    rw [e] at hf ⊢
    obtain ⟨G3, R3, ro, f3⟩ := out_ok R (Out.newf (K := X.K) (d := .dK (mergeD [] [(.inr k1, .str v1), (.inr k2, .str v2)])) hq (.dK (RepK.merge (.cons (.str _) (.cons (.str _) .nil)) .nil))) hf
    exact p (.ref q) _ _ R3 ro f3 (IoK.refl en)
def kDp3 (i : Nat) (d kd : D) (en : En) : Option Sl → SR
  | some (.ow b dd) => match dPut dd kd d with
    | some dd' => .ok .nx (en.set i (.ow b dd'))
    | none => .stuck
  | _ => .stuck
def kDp4 (i : Nat) (d : D) (en : En) : Option D → SR
  | some kd => kDp3 i d kd en en[i]?
  | none => .stuck
def kDp2 (i : Nat) (d : D) (o : Op) (en : En) : SR := kDp4 i d en (view o en)
def kDp5 (i : Nat) (g : EF) (d : D) (en : En) : Option Sl → SR
  | some (.ow _ _) => (PF.settle (g en)).bind (kDp2 i d)
  | _ => .stuck
def kDp1 (i : Nat) (g : EF) : Option (D × En) → SR
  | some q => kDp5 i g q.1 q.2 q.2[i]?
  | none => .stuck
def kDp (i : Nat) (g : EF) (o : Op) (en : En) : SR := kDp1 i g (frz o en)
def sDput (i : Nat) (f g : EF) : SF := fun en => (PF.settle (f en)).bind (kDp i g)
theorem ev_dp {i : Nat} {en : En} : sDput i f g en = (PF.settle (f en)).bind (kDp i g) := rfl
theorem ev_dp1 {i : Nat} {en : En} {o : Op} : kDp i g o en = kDp1 i g (frz o en) := rfl
theorem ev_dp2 {i : Nat} {en : En} {d : D} : kDp1 i g (some (d, en)) = kDp5 i g d en en[i]? := rfl
theorem ev_dp3 {i : Nat} {en : En} {d x : D} {b : Bool} : kDp5 i g d en (some (.ow b x)) = (PF.settle (g en)).bind (kDp2 i d) := rfl
theorem ev_dp4 {i : Nat} {en : En} {d : D} {o : Op} : kDp2 i d o en = kDp4 i d en (view o en) := rfl
theorem ev_dp5 {i : Nat} {en : En} {d kd : D} : kDp4 i d en (some kd) = kDp3 i d kd en en[i]? := rfl
theorem ev_dp6 {i : Nat} {en : En} {d kd x y : D} {b : Bool} (h : dPut x kd d = some y) : kDp3 i d kd en (some (.ow b x)) = .ok .nx (en.set i (.ow b y)) := by
  unfold kDp3
  simp only [h]
theorem ds_dput {i : Nat} {value o : Expr} {pos' : Pos} (hr : Room k X.A) (ho : PE X o (tVar i)) (hi : DE X T W e g) (hv : DE X T W value f) (hs : swapsWith value (some (.Subscript o e pos')) pos.line X.env = pure false := by rfl) : DS X T W (.Assign [.Subscript o e pos'] value pos) (sDput i f g) :=
  ps_of (ps_dput (hu1 hr) ho (de_settle hi) (de_settle hv) hs) fun σ H D _ ⟨G, en, R, p⟩ => by
    refine ⟨G, en, R, stepS R p fun o en1 v H1 G1 R1 ro n1 s1 p1 => ?_⟩
    have p1 : PostS X.K X.mg T W G1 σ H1 en1 D (kDp1 i g (frz o en1)) := p1
    cases qf : frz o en1 with
    | none =>
      rw [qf] at p1
      exact p1.elim
    | some z =>
      obtain ⟨d, en2⟩ := z
      rw [qf] at p1
      obtain ⟨G2, R2, rd, f2, io2, s2⟩ := frz_ok R1 ro qf
      have p2 : PostS X.K X.mg T W G2 σ H1 en2 D (kDp5 i g d en2 en2[i]?) := postS_sh f2 io2.s p1
      cases e0 : en2[i]? with
      | none => rw [e0] at p2; exact p2.elim
      | some sl =>
        rw [e0] at p2
        cases sl with
        | un => exact p2.elim
        | fz _ => exact p2.elim
        | ow b0 d0 =>
          have p2 : PostS X.K X.mg T W G2 σ H1 en2 D ((PF.settle (g en2)).bind (kDp2 i d)) := p2
          obtain ⟨q, x, _⟩ := R2.at_ i _ e0
          refine ⟨.ref q, x, G2, en2, R2, stepS R2 p2 fun o' en3 v3 H3 G3 R3 ro3 n3 s3 p3 => ?_⟩
          have p3 : PostS X.K X.mg T W G3 σ H3 en3 D (kDp4 i d en3 (view o' en3)) := p3
          cases qv : view o' en3 with
          | none => rw [qv] at p3; exact p3.elim
          | some kd =>
            rw [qv] at p3
            have rv := view_ok R3 ro3 qv
            have p3 : PostS X.K X.mg T W G3 σ H3 en3 D (kDp3 i d kd en3 en3[i]?) := p3
            cases e3 : en3[i]? with
            | none => rw [e3] at p3; exact p3.elim
            | some sl3 =>
              rw [e3] at p3
              cases sl3 with
              | un => exact p3.elim
              | fz _ => exact p3.elim
              | ow b dd =>
                obtain ⟨q', x', hg', o2, ho', ro'⟩ := R3.at_ i _ e3
                rw [x] at x'
                cases x'
                have p3 : PostS X.K X.mg T W G3 σ H3 en3 D (match dPut dd kd d with | some dd' => .ok .nx (en3.set i (.ow b dd')) | none => .stuck) := p3
                cases ep : dPut dd kd d with
                | none => rw [ep] at p3; exact p3.elim
                | some dd' =>
                  rw [ep] at p3
                  cases ro' with
                  | @dK ds kvs rk =>
                    have ep : (match keyD kd with | some k => if ds.length < SZ then some (PF.D.dK (putD ds k d)) else none | none => none) = some dd' := ep
                    cases ek : keyD kd with
                    | none => rw [ek] at ep; cases ep
                    | some kk =>
                      rw [ek] at ep
                      obtain ⟨hl, rfl⟩ := ite_some (show (if ds.length < SZ then some (PF.D.dK (putD ds kk d)) else none) = some dd' from ep)
                      cases keyD_ok rv ek
                      refine ⟨q, _, rfl, .k ho' (by rw [sz_eq, ← rk.len]; exact hl), fun hf => ?_⟩
                      obtain ⟨R4, f4, i4⟩ := R3.put e3 x (.dK (rk.put (rd.mono s3))) hf
                      exact p3 σ _ G3 R4 f4 i4.s
                  | @dT ds kvs rk =>
                    cases kd with
                    | tup ks =>
                      have ep : (match keysD ks with | some k => if ds.length < SZ then some (PF.D.dT (putD ds k d)) else none | none => none) = some dd' := ep
                      cases ek : keysD ks with
                      | none => rw [ek] at ep; cases ep
                      | some kk =>
                        rw [ek] at ep
                        obtain ⟨hl, rfl⟩ := ite_some (show (if ds.length < SZ then some (PF.D.dT (putD ds kk d)) else none) = some dd' from ep)
                        obtain ⟨b', xs, rfl, hb, rl⟩ := repV_tupH R3.sub rv
                        cases keysD_ok rl ek
                        refine ⟨q, _, rfl, .t ho' hb (by rw [sz_eq, ← rk.len]; exact hl), fun hf => ?_⟩
                        obtain ⟨R4, f4, i4⟩ := R3.put e3 x (.dT (rk.put (rd.mono s3))) hf
                        exact p3 σ _ G3 R4 f4 i4.s
                    | _ => cases ep
                  | lst rl => cases ep
                  | ob rl => cases ep
end
end PF
namespace PF
open PySem PySem.Spec PyProof.Rows L2
/-! ## streets with six houses more -/
theorem per_div {a b : Numb} (h : POk a b) : ∃ t : Int, 1 ≤ t ∧ perI a.len b.len * t = 6 := by
  unfold perI
  rcases Numb.len_cases h.a with la | la | la <;> rcases Numb.len_cases h.b with lb | lb | lb <;> rw [la, lb]
  · exact ⟨6, by decide, by decide⟩
  · exact ⟨3, by decide, by decide⟩
  · exact ⟨2, by decide, by decide⟩
  · exact ⟨3, by decide, by decide⟩
  · exact ⟨3, by decide, by decide⟩
  · exact ⟨1, by decide, by decide⟩
  · exact ⟨2, by decide, by decide⟩
  · exact ⟨1, by decide, by decide⟩
  · exact ⟨2, by decide, by decide⟩
/-- behind the first places everything comes again by six -/
theorem six_turns {a b : Numb} (h : POk a b) : ∃ sh : Int, (∀ i, a.at (i + 6) = a.at i + sh) ∧ ∀ j, b.at (j + 6) = b.at j + sh := by
  obtain ⟨ka, kb, _, _, e1, e2, e3⟩ := per_turns h
  obtain ⟨t, _, e⟩ := per_div h
  refine ⟨a.step * (ka * t), fun i => ?_, fun j => ?_⟩
  · have z : i + 6 = i + a.len * (ka * t) := by rw [← Int.mul_assoc, ← e1, e]
    rw [z, Numb.at_add h.a]
  · have z : j + 6 = j + b.len * (kb * t) := by rw [← Int.mul_assoc, ← e2, e]
    rw [z, Numb.at_add h.b, ← Int.mul_assoc, ← Int.mul_assoc, e3]
theorem idx_six {a b : Numb} (h : POk a b) {i : Int} (hi : 13 ≤ i) : b.idx (a.at (i + 6)) = (b.idx (a.at i)).map (· + 6) := by
  obtain ⟨sh, ha, hb⟩ := six_turns h
  cases c : b.idx (a.at i) with
  | some j =>
    obtain ⟨j0, jv⟩ := Numb.idx_at h.b c
    rw [Option.map_some]
    exact (Numb.idx_iff h.b).mpr ⟨by omega, by rw [hb, jv, ha]⟩
  | none =>
    rw [Option.map_none]
    cases c2 : b.idx (a.at (i + 6)) with
    | none => rfl
    | some j =>
      obtain ⟨j0, jv⟩ := Numb.idx_at h.b c2
      obtain ⟨d1, _⟩ := idx_dist h (show 0 ≤ i + 6 by omega) j0 jv
      have z : b.idx (a.at i) = some (j - 6) := (Numb.idx_iff h.b).mpr ⟨by omega, by
        have := hb (j - 6)
        rw [show j - 6 + 6 = j by omega, jv, ha] at this
        omega⟩
      rw [c] at z
      cases z
theorem idx_bnd {a b : Numb} (h : POk a b) {i j : Int} (hi : 0 ≤ i) (e : b.idx (a.at i) = some j) : 0 ≤ j ∧ i - 13 ≤ j ∧ j ≤ i + 13 := by
  obtain ⟨j0, jv⟩ := Numb.idx_at h.b e
  obtain ⟨d1, d2⟩ := idx_dist h hi j0 jv
  exact ⟨j0, d1, d2⟩
theorem heirP_eq (a b : Numb) (M p : Int) : heirP a b M p = (match b.idx (a.at (a.pos M p)) with | none => none | some i => if M ≤ i then none else some (b.pos M i)) := rfl
def sameE (a b : Numb) : Bool := a.near == b.near
/-- a house that is not near the far end: the same house in the street with six houses less -/
theorem heir_low {a b : Numb} (h : POk a b) {M p : Int} (p0 : 0 ≤ p) (p1 : p + 13 < M - 6) : heirP a b M p = (heirP a b (M - 6) p).map fun q => q + (if sameE a b then 0 else 6) := by
  rw [heirP_eq, heirP_eq]
  unfold Numb.pos
  cases hn : a.near <;> cases hb : b.near
  · -- far, far
    rw [show sameE a b = true by unfold sameE; rw [hn, hb]; rfl]
    simp only [Bool.false_eq_true, if_false, if_true]
    have z := idx_six h (i := M - 6 - 1 - p) (by omega)
    rw [show M - 6 - 1 - p + 6 = M - 1 - p by omega] at z
    rw [z]
    cases c : b.idx (a.at (M - 6 - 1 - p)) with
    | none => rfl
    | some j =>
      rw [Option.map_some]
      show (if M ≤ j + 6 then none else some (M - 1 - (j + 6))) = (if M - 6 ≤ j then none else some (M - 6 - 1 - j)).map _
      by_cases k : M ≤ j + 6
      · rw [if_pos k, if_pos (by omega)]; rfl
      · rw [if_neg k, if_neg (by omega)]
        show some _ = some _
        congr 1
        show _ = M - 6 - 1 - j + 0
        omega
  · -- far, near
    rw [show sameE a b = false by unfold sameE; rw [hn, hb]; rfl]
    simp only [Bool.false_eq_true, if_false, if_true]
    have z := idx_six h (i := M - 6 - 1 - p) (by omega)
    rw [show M - 6 - 1 - p + 6 = M - 1 - p by omega] at z
    rw [z]
    cases c : b.idx (a.at (M - 6 - 1 - p)) with
    | none => rfl
    | some j =>
      rw [Option.map_some]
      show (if M ≤ j + 6 then none else some (j + 6)) = (if M - 6 ≤ j then none else some j).map _
      by_cases k : M ≤ j + 6
      · rw [if_pos k, if_pos (by omega)]; rfl
      · rw [if_neg k, if_neg (by omega)]
        rfl
  · -- near, far
    rw [show sameE a b = false by unfold sameE; rw [hn, hb]; rfl]
    simp only [Bool.false_eq_true, if_false, if_true]
    cases c : b.idx (a.at p) with
    | none => rfl
    | some j =>
      obtain ⟨j0, d1, d2⟩ := idx_bnd h p0 c
      show (if M ≤ j then none else some (M - 1 - j)) = (if M - 6 ≤ j then none else some (M - 6 - 1 - j)).map _
      rw [if_neg (by omega), if_neg (by omega)]
      show some _ = some _
      congr 1
      show _ = M - 6 - 1 - j + 6
      omega
  · -- near, near
    rw [show sameE a b = true by unfold sameE; rw [hn, hb]; rfl]
    simp only [if_true]
    cases c : b.idx (a.at p) with
    | none => rfl
    | some j =>
      obtain ⟨j0, d1, d2⟩ := idx_bnd h p0 c
      show (if M ≤ j then none else some j) = (if M - 6 ≤ j then none else some j).map _
      rw [if_neg (by omega), if_neg (by omega)]
      show some _ = some _
      congr 1
      show _ = j + 0
      omega
/-- a house that is not near the near end: the house six places ahead of it in the street with six houses less -/
theorem heir_high {a b : Numb} (h : POk a b) {M p : Int} (p0 : 19 ≤ p) (p1 : p < M) : heirP a b M p = (heirP a b (M - 6) (p - 6)).map fun q => q + (if sameE a b then 6 else 0) := by
  rw [heirP_eq, heirP_eq]
  unfold Numb.pos
  cases hn : a.near <;> cases hb : b.near
  · -- far, far
    rw [show sameE a b = true by unfold sameE; rw [hn, hb]; rfl]
    simp only [Bool.false_eq_true, if_false, if_true]
    rw [show M - 6 - 1 - (p - 6) = M - 1 - p by omega]
    cases c : b.idx (a.at (M - 1 - p)) with
    | none => rfl
    | some j =>
      obtain ⟨j0, d1, d2⟩ := idx_bnd h (show 0 ≤ M - 1 - p by omega) c
      show (if M ≤ j then none else some (M - 1 - j)) = (if M - 6 ≤ j then none else some (M - 6 - 1 - j)).map _
      rw [if_neg (by omega), if_neg (by omega)]
      show some _ = some _
      congr 1
      show _ = M - 6 - 1 - j + 6
      omega
  · -- far, near
    rw [show sameE a b = false by unfold sameE; rw [hn, hb]; rfl]
    simp only [Bool.false_eq_true, if_false, if_true]
    rw [show M - 6 - 1 - (p - 6) = M - 1 - p by omega]
    cases c : b.idx (a.at (M - 1 - p)) with
    | none => rfl
    | some j =>
      obtain ⟨j0, d1, d2⟩ := idx_bnd h (show 0 ≤ M - 1 - p by omega) c
      show (if M ≤ j then none else some j) = (if M - 6 ≤ j then none else some j).map _
      rw [if_neg (by omega), if_neg (by omega)]
      show some _ = some _
      congr 1
      show _ = j + 0
      omega
  · -- near, far
    rw [show sameE a b = false by unfold sameE; rw [hn, hb]; rfl]
    simp only [Bool.false_eq_true, if_false, if_true]
    have z := idx_six h (i := p - 6) (by omega)
    rw [show p - 6 + 6 = p by omega] at z
    rw [z]
    cases c : b.idx (a.at (p - 6)) with
    | none => rfl
    | some j =>
      rw [Option.map_some]
      show (if M ≤ j + 6 then none else some (M - 1 - (j + 6))) = (if M - 6 ≤ j then none else some (M - 6 - 1 - j)).map _
      by_cases k : M ≤ j + 6
      · rw [if_pos k, if_pos (by omega)]; rfl
      · rw [if_neg k, if_neg (by omega)]
        show some _ = some _
        congr 1
        show _ = M - 6 - 1 - j + 0
        omega
  · -- near, near
    rw [show sameE a b = true by unfold sameE; rw [hn, hb]; rfl]
    simp only [if_true]
    have z := idx_six h (i := p - 6) (by omega)
    rw [show p - 6 + 6 = p by omega] at z
    rw [z]
    cases c : b.idx (a.at (p - 6)) with
    | none => rfl
    | some j =>
      rw [Option.map_some]
      show (if M ≤ j + 6 then none else some (j + 6)) = (if M - 6 ≤ j then none else some j).map _
      by_cases k : M ≤ j + 6
      · rw [if_pos k, if_pos (by omega)]; rfl
      · rw [if_neg k, if_neg (by omega)]
        rfl
/-! ## two plans -/
def Alike (a b c d : Numb) (M : Int) : Prop := ∀ p, 0 ≤ p → p < M → heirP a b M p = heirP c d M p
theorem alike_step {a b c d : Numb} (h : POk a b) (k : POk c d) (s : sameE a b = sameE c d) {M : Int} (hM : 39 ≤ M) (e : Alike a b c d (M - 6)) : Alike a b c d M := fun p p0 p1 => by
  by_cases q : p + 13 < M - 6
  · rw [heir_low h p0 q, heir_low k p0 q, e p p0 (by omega), s]
  · rw [heir_high h (by omega) p1, heir_high k (by omega) p1, e (p - 6) (by omega) (by omega), s]
theorem none_of_add {o : Option Int} {x y : Int} (h : o.map (fun q => q + x) = o.map (fun q => q + y)) (n : x ≠ y) : o = none := by
  cases o with
  | none => rfl
  | some v =>
    have : v + x = v + y := by simpa using h
    omega
theorem none_at {a b c d : Numb} (h : POk a b) (k : POk c d) (s : sameE a b ≠ sameE c d) {M : Int} (hM : 39 ≤ M) (e : Alike a b c d (M - 6)) (e2 : Alike a b c d M) : ∀ p, 0 ≤ p → p < M → heirP a b M p = none ∧ heirP c d M p = none := fun p p0 p1 => by
  have z := e2 p p0 p1
  by_cases q : p + 13 < M - 6
  · have l1 := heir_low h p0 q
    have l2 := heir_low k p0 q
    rw [e p p0 (by omega)] at l1
    have n : heirP c d (M - 6) p = none := by
      refine none_of_add (x := if sameE a b then 0 else 6) (y := if sameE c d then 0 else 6) (by rw [← l1, ← l2, z]) ?_
      revert s
      cases sameE a b <;> cases sameE c d <;> simp
    rw [n] at l1 l2
    exact ⟨l1, l2⟩
  · have l1 := heir_high h (M := M) (p := p) (by omega) p1
    have l2 := heir_high k (M := M) (p := p) (by omega) p1
    rw [e (p - 6) (by omega) (by omega)] at l1
    have n : heirP c d (M - 6) (p - 6) = none := by
      refine none_of_add (x := if sameE a b then 6 else 0) (y := if sameE c d then 6 else 0) (by rw [← l1, ← l2, z]) ?_
      revert s
      cases sameE a b <;> cases sameE c d <;> simp
    rw [n] at l1 l2
    exact ⟨l1, l2⟩
theorem none_step {a b : Numb} (h : POk a b) {M : Int} (hM : 39 ≤ M) (e : ∀ p, 0 ≤ p → p < M - 6 → heirP a b (M - 6) p = none) : ∀ p, 0 ≤ p → p < M → heirP a b M p = none := fun p p0 p1 => by
  by_cases q : p + 13 < M - 6
  · rw [heir_low h p0 q, e p p0 (by omega)]; rfl
  · rw [heir_high h (by omega) p1, e (p - 6) (by omega) (by omega)]; rfl
/-- what holds in all streets of up to ninety houses holds in all -/
theorem alike_all {a b c d : Numb} (h : POk a b) (k : POk c d) (e : ∀ M, M ≤ 90 → Alike a b c d M) : ∀ (n : Nat) (M : Int), M.toNat ≤ n → Alike a b c d M := by
  by_cases s : sameE a b = sameE c d
  · intro n
    induction n with
    | zero => intro M hM; exact e M (by omega)
    | succ n ih =>
      intro M hM
      by_cases q : M ≤ 90
      · exact e M q
      · exact alike_step h k s (by omega) (ih (M - 6) (by omega))
  · have z : ∀ (n : Nat) (M : Int), M.toNat ≤ n → 85 ≤ M → ∀ p, 0 ≤ p → p < M → heirP a b M p = none ∧ heirP c d M p = none := by
      intro n
      induction n with
      | zero => intro M hM h85; omega
      | succ n ih =>
        intro M hM h85 p p0 p1
        by_cases q : M ≤ 90
        · exact none_at h k s (by omega) (e (M - 6) (by omega)) (e M q) p p0 p1
        · have i := ih (M - 6) (by omega) (by omega)
          exact ⟨none_step h (by omega) (fun p p0 p1 => (i p p0 p1).1) p p0 p1, none_step k (by omega) (fun p p0 p1 => (i p p0 p1).2) p p0 p1⟩
    intro n M hM p p0 p1
    by_cases q : M ≤ 90
    · exact e M q p p0 p1
    · obtain ⟨z1, z2⟩ := z M.toNat M (Nat.le_refl _) (by omega) p p0 p1
      rw [z1, z2]
end PF
namespace PF
open PySem PySem.Spec PyProof.Rows L2
/-! ## == of data -/
inductive Pl : D → Prop
  | non : Pl .non
  | int (i : Int) : Pl (.int i)
  | str (x : Str) : Pl (.str x)
  | tup {ds : List D} (h : ∀ d ∈ ds, Pl d) : Pl (.tup ds)
  | lst {ds : List D} (h : ∀ d ∈ ds, Pl d) : Pl (.lst ds)
theorem pys_eq : ∀ {ds es : List D} {ps qs : List PyData}, (∀ d ∈ ds, ∀ {e : D} {p q : PyData}, Pl e → toPy d = some p → toPy e = some q → PyData.eqv p q = true → d = e) → (∀ e ∈ es, Pl e) → toPys ds = some ps → toPys es = some qs → PyData.eqvAll ps qs = true → ds = es
  | [], [], _, _, _, _, _, _, _ => rfl
  | [], e :: es, ps, qs, _, _, h1, h2, h => by
    cases (show some [] = some ps by rw [← h1, toPys])
    rw [toPys] at h2
    cases q1 : toPy e <;> cases q2 : toPys es <;> rw [q1, q2] at h2 <;> cases h2
    simp [PyData.eqvAll] at h
  | d :: ds, [], ps, qs, _, _, h1, h2, h => by
    cases (show some [] = some qs by rw [← h2, toPys])
    rw [toPys] at h1
    cases q1 : toPy d <;> cases q2 : toPys ds <;> rw [q1, q2] at h1 <;> cases h1
    simp [PyData.eqvAll] at h
  | d :: ds, e :: es, ps, qs, ih, he, h1, h2, h => by
    rw [toPys] at h1 h2
    cases q1 : toPy d <;> cases q2 : toPys ds <;> rw [q1, q2] at h1 <;> cases h1
    cases q3 : toPy e <;> cases q4 : toPys es <;> rw [q3, q4] at h2 <;> cases h2
    rw [PyData.eqvAll, Bool.and_eq_true] at h
    rw [ih d (by simp) (he e (by simp)) q1 q3 h.1, pys_eq (fun x hx => ih x (List.mem_cons_of_mem _ hx)) (fun x hx => he x (List.mem_cons_of_mem _ hx)) q2 q4 h.2]
theorem py_tup {ds : List D} {p : PyData} (h : toPy (.tup ds) = some p) : ∃ ps, toPys ds = some ps ∧ p = .tuple ps := by
  rw [toPy] at h
  cases q : toPys ds <;> rw [q] at h <;> cases h
  exact ⟨_, rfl, rfl⟩
theorem py_lst {ds : List D} {p : PyData} (h : toPy (.lst ds) = some p) : ∃ ps, toPys ds = some ps ∧ p = .list ps := by
  rw [toPy] at h
  cases q : toPys ds <;> rw [q] at h <;> cases h
  exact ⟨_, rfl, rfl⟩
theorem py_non : toPy .non = some .none := by rw [toPy]
theorem py_int {i : Int} : toPy (.int i) = some (.int i) := by rw [toPy]
theorem py_str {x : Str} : toPy (.str x) = some (.str x) := by rw [toPy]
theorem Pl.eqv {d : D} (h : Pl d) : ∀ {e : D} {p q : PyData}, Pl e → toPy d = some p → toPy e = some q → PyData.eqv p q = true → d = e := by
  induction h with
  | non =>
    intro e p q he h1 h2 h
    cases py_non.symm.trans h1
    cases he with
    | non => rfl
    | int i => cases py_int.symm.trans h2; simp [PyData.eqv] at h
    | str x => cases py_str.symm.trans h2; simp [PyData.eqv] at h
    | tup _ => obtain ⟨ps, _, rfl⟩ := py_tup h2; simp [PyData.eqv] at h
    | lst _ => obtain ⟨ps, _, rfl⟩ := py_lst h2; simp [PyData.eqv] at h
  | int i =>
    intro e p q he h1 h2 h
    cases py_int.symm.trans h1
    cases he with
    | non => cases py_non.symm.trans h2; simp [PyData.eqv] at h
    | int j => cases py_int.symm.trans h2; rw [PyData.eqv, beq_iff_eq] at h; rw [h]
    | str x => cases py_str.symm.trans h2; simp [PyData.eqv] at h
    | tup _ => obtain ⟨ps, _, rfl⟩ := py_tup h2; simp [PyData.eqv] at h
    | lst _ => obtain ⟨ps, _, rfl⟩ := py_lst h2; simp [PyData.eqv] at h
  | str x =>
    intro e p q he h1 h2 h
    cases py_str.symm.trans h1
    cases he with
    | non => cases py_non.symm.trans h2; simp [PyData.eqv] at h
    | int j => cases py_int.symm.trans h2; simp [PyData.eqv] at h
    | str y => cases py_str.symm.trans h2; rw [PyData.eqv, beq_iff_eq] at h; rw [h]
    | tup _ => obtain ⟨ps, _, rfl⟩ := py_tup h2; simp [PyData.eqv] at h
    | lst _ => obtain ⟨ps, _, rfl⟩ := py_lst h2; simp [PyData.eqv] at h
  | @tup ds hd ih =>
    intro e p q he h1 h2 h
    obtain ⟨ps, e1, rfl⟩ := py_tup h1
    cases he with
    | non => cases py_non.symm.trans h2; simp [PyData.eqv] at h
    | int j => cases py_int.symm.trans h2; simp [PyData.eqv] at h
    | str y => cases py_str.symm.trans h2; simp [PyData.eqv] at h
    | tup hes =>
      obtain ⟨qs, e2, rfl⟩ := py_tup h2
      rw [PyData.eqv] at h
      rw [pys_eq (fun d hd => ih d hd) hes e1 e2 h]
    | lst _ => obtain ⟨ps, _, rfl⟩ := py_lst h2; simp [PyData.eqv] at h
  | @lst ds hd ih =>
    intro e p q he h1 h2 h
    obtain ⟨ps, e1, rfl⟩ := py_lst h1
    cases he with
    | non => cases py_non.symm.trans h2; simp [PyData.eqv] at h
    | int j => cases py_int.symm.trans h2; simp [PyData.eqv] at h
    | str y => cases py_str.symm.trans h2; simp [PyData.eqv] at h
    | lst hes =>
      obtain ⟨qs, e2, rfl⟩ := py_lst h2
      rw [PyData.eqv] at h
      rw [pys_eq (fun d hd => ih d hd) hes e1 e2 h]
    | tup _ => obtain ⟨ps, _, rfl⟩ := py_tup h2; simp [PyData.eqv] at h
theorem eqvs_rf : ∀ {ds : List D} {ps : List PyData}, (∀ d ∈ ds, ∀ {p : PyData}, toPy d = some p → PyData.eqv p p = true) → toPys ds = some ps → PyData.eqvAll ps ps = true
  | [], ps, _, h => by cases (show some [] = some ps by rw [← h, toPys]); rfl
  | d :: ds, ps, ih, h => by
    rw [toPys] at h
    cases q1 : toPy d <;> cases q2 : toPys ds <;> rw [q1, q2] at h <;> cases h
    rw [PyData.eqvAll, ih d (by simp) q1, eqvs_rf (fun x hx => ih x (List.mem_cons_of_mem _ hx)) q2]; rfl
theorem Dat.rf {n k : Nat} {d : D} (h : Dat n k d) : ∀ {p : PyData}, toPy d = some p → PyData.eqv p p = true := by
  induction h with
  | non => intro p e; cases py_non.symm.trans e; rfl
  | bl b => intro p e; cases (show some (PyData.bool b) = some p by rw [← e, toPy]); simp [PyData.eqv]
  | int i => intro p e; cases py_int.symm.trans e; simp [PyData.eqv]
  | str x hx => intro p e; cases py_str.symm.trans e; simp [PyData.eqv]
  | tup _ _ ih => intro p e; obtain ⟨ps, e1, rfl⟩ := py_tup e; rw [PyData.eqv]; exact eqvs_rf (fun d hd => ih d hd) e1
  | lst _ _ ih => intro p e; obtain ⟨ps, e1, rfl⟩ := py_lst e; rw [PyData.eqv]; exact eqvs_rf (fun d hd => ih d hd) e1
theorem gEqB_of {f : Bool → Bool} {n m k j : Nat} {d e : D} (h : Dat n k d) (h' : Dat m j e) (hk : k ≤ 64) (hj : j ≤ 64) : ∃ p q, toPy d = some p ∧ toPy e = some q ∧ gEqB f d e = some (.val (.bl (f (PyData.eqv p q)))) := by
  obtain ⟨p, e1, c1, d1⟩ := h.py
  obtain ⟨q, e2, c2, d2⟩ := h'.py
  refine ⟨p, q, e1, e2, ?_⟩
  unfold gEqB
  rw [e1, e2]
  show (if SeqAt.shaped p && SeqAt.shaped q then _ else _) = _
  rw [shaped_of c1 (by omega), shaped_of c2 (by omega)]
  rfl
theorem gEq_rf {n k : Nat} {d : D} (h : Dat n k d) (hk : k ≤ 64) : gEq d d = some (.val (.bl true)) := by
  obtain ⟨p, q, e1, e2, e⟩ := gEqB_of (f := id) h h hk hk
  cases e1.symm.trans e2
  rw [h.rf e1] at e
  exact e
theorem gNe_rf {n k : Nat} {d : D} (h : Dat n k d) (hk : k ≤ 64) : gNe d d = some (.val (.bl false)) := by
  obtain ⟨p, q, e1, e2, e⟩ := gEqB_of (f := not) h h hk hk
  cases e1.symm.trans e2
  rw [h.rf e1] at e
  exact e
theorem gEq_no {n m k j : Nat} {d e : D} (h : Dat n k d) (h' : Dat m j e) (hk : k ≤ 64) (hj : j ≤ 64) (p1 : Pl d) (p2 : Pl e) (ne : d ≠ e) : gEq d e = some (.val (.bl false)) := by
  obtain ⟨p, q, e1, e2, e⟩ := gEqB_of (f := id) h h' hk hj
  cases c : PyData.eqv p q with
  | true => exact absurd (p1.eqv p2 e1 e2 c) ne
  | false => rw [c] at e; exact e
theorem gNe_no {n m k j : Nat} {d e : D} (h : Dat n k d) (h' : Dat m j e) (hk : k ≤ 64) (hj : j ≤ 64) (p1 : Pl d) (p2 : Pl e) (ne : d ≠ e) : gNe d e = some (.val (.bl true)) := by
  obtain ⟨p, q, e1, e2, e⟩ := gEqB_of (f := not) h h' hk hj
  cases c : PyData.eqv p q with
  | true => exact absurd (p1.eqv p2 e1 e2 c) ne
  | false => rw [c] at e; exact e
theorem oInt_dat {o : Option Int} {n k : Nat} : Dat n k (oInt o) := by
  cases o with
  | none => exact .non
  | some i => exact .int i
theorem oInt_pl {o : Option Int} : Pl (oInt o) := by
  cases o with
  | none => exact .non
  | some i => exact .int i
theorem oInt_inj {o p : Option Int} (h : oInt o = oInt p) : o = p := by
  cases o <;> cases p <;> cases h <;> rfl
theorem gNe_o {o p : Option Int} : gNe (oInt o) (oInt p) = some (.val (.bl (!decide (o = p)))) := by
  by_cases h : o = p
  · subst h
    rw [gNe_rf (n := 0) (k := 0) oInt_dat (by decide), decide_eq_true rfl]; rfl
  · rw [gNe_no (n := 0) (k := 0) (m := 0) (j := 0) oInt_dat oInt_dat (by decide) (by decide) oInt_pl oInt_pl (fun z => h (oInt_inj z)), decide_eq_false h]; rfl
theorem oInts_dat {xs : List (Option Int)} : Dat xs.length 1 (.lst (xs.map oInt)) := .lst (by simp) fun d hd => by
  obtain ⟨o, _, rfl⟩ := List.mem_map.mp hd
  exact oInt_dat
theorem oInts_pl {xs : List (Option Int)} : Pl (.lst (xs.map oInt)) := .lst fun d hd => by
  obtain ⟨o, _, rfl⟩ := List.mem_map.mp hd
  exact oInt_pl
theorem map_inj {α β : Type} {f : α → β} (hf : ∀ a b, f a = f b → a = b) : ∀ {xs ys : List α}, xs.map f = ys.map f → xs = ys
  | [], [], _ => rfl
  | [], _ :: _, h => by cases h
  | _ :: _, [], h => by cases h
  | x :: xs, y :: ys, h => by
    rw [List.map_cons, List.map_cons] at h
    injection h with h1 h2
    rw [hf x y h1, map_inj hf h2]
theorem gNe_os {xs ys : List (Option Int)} : gNe (.lst (xs.map oInt)) (.lst (ys.map oInt)) = some (.val (.bl (!decide (xs = ys)))) := by
  by_cases h : xs = ys
  · subst h
    rw [gNe_rf oInts_dat (by decide), decide_eq_true rfl]; rfl
  · have ne : D.lst (xs.map oInt) ≠ D.lst (ys.map oInt) := fun z => h (map_inj (fun a b e => oInt_inj e) (by injection z))
    rw [gNe_no oInts_dat oInts_dat (by decide) (by decide) oInts_pl oInts_pl ne, decide_eq_false h]; rfl
theorem Fw.seq {f g : SF} {en : En} {n : Nat} {Q : En → Prop} {P : Bool → D → List Sl → Prop} (h : Nx (f en) Q) (k : ∀ en1, Q en1 → Fw (kFn n (g en1)) P) : Fw (kFn n (sSeq f g en)) P := by
  rw [ev_seq]
  exact Fw.bnd h k
/-! ## loops that look for something -/
def OutR (P Q : En → Prop) (o : Option D) (r : SR) : Prop := match o with
  | none => Nx r P
  | some d => ∃ en, r = .ok (.rt (.val d)) en ∧ Q en
theorem ev_outn {P Q : En → Prop} {r : SR} : OutR P Q none r = Nx r P := rfl
theorem ev_outs {P Q : En → Prop} {d : D} {en : En} : OutR P Q (some d) (.ok (.rt (.val d)) en) = Q en := propext ⟨fun ⟨_, e, h⟩ => by cases e; exact h, fun h => ⟨en, rfl, h⟩⟩
theorem OutR.mono {P P' Q Q' : En → Prop} {o : Option D} {r : SR} (h : OutR P Q o r) (hp : ∀ en, P en → P' en) (hq : ∀ en, Q en → Q' en) : OutR P' Q' o r := by
  cases o with
  | none => exact Nx.mono h hp
  | some d =>
    obtain ⟨en, e, q⟩ := h
    exact ⟨en, e, hq en q⟩
def AsO (o : Option En) (f : SF) (P Q : En → Prop) (x : Option D) : Prop := ∃ en1, o = some en1 ∧ OutR P Q x (f en1)
theorem ev_aso {en1 : En} {f : SF} {P Q : En → Prop} {x : Option D} : AsO (some en1) f P Q x = OutR P Q x (f en1) := propext ⟨fun ⟨_, e, h⟩ => by cases e; exact h, fun h => ⟨en1, rfl, h⟩⟩
theorem for_find {p : Pat} {f : SF} {P Q : En → Prop} {chk : D → Option D} : ∀ {ds : List D} {en : En}, P en → (∀ d ∈ ds, ∀ en, P en → AsO (asgP p d en) f P Q (chk d)) → OutR P Q (ds.findSome? chk) (forD p f ds en)
  | [], en, h, _ => ⟨en, rfl, h⟩
  | d :: ds, en, h, hs => by
    obtain ⟨en1, e1, h1⟩ := hs d (by simp) en h
    rw [List.findSome?_cons, ev_for3, e1, ev_for4]
    cases c : chk d with
    | none =>
      rw [c] at h1
      obtain ⟨en2, e2, h2⟩ := h1
      rw [e2, bind_ok, ev_for5]
      exact for_find h2 fun x hx => hs x (List.mem_cons_of_mem _ hx)
    | some r =>
      rw [c] at h1
      obtain ⟨en2, e2, h2⟩ := h1
      exact ⟨en2, by rw [e2, bind_ok, ev_for8], h2⟩
theorem find_head {α : Type} {q : α → Bool} {g : α → D} : ∀ (xs : List α), xs.findSome? (fun x => if q x then none else some (g x)) = ((xs.filter fun x => !q x).head?).map g
  | [] => rfl
  | x :: xs => by
    rw [List.findSome?_cons, List.filter_cons]
    cases c : q x
    · rfl
    · exact find_head xs
end PF
namespace PF
open PySem PySem.Spec PyProof.Rows L2
/-! ## dicts whose keys are tuples: dict(pairs) -/
def mergeV (kvs more : List (List Key × V)) : List (List Key × V) := more.foldl (fun acc kv => putK acc kv.1 kv.2) kvs
theorem mergeV_len : ∀ (more kvs : List (List Key × V)), (mergeV kvs more).length ≤ kvs.length + more.length
  | [], kvs => Nat.le_refl _
  | p :: r, kvs => by
    have h1 := mergeV_len r (putK kvs p.1 p.2)
    have h2 := length_putK kvs p.1 p.2
    show (mergeV (putK kvs p.1 p.2) r).length ≤ _
    rw [List.length_cons]
    omega
theorem KT_merge {H : Hp} : ∀ {more : List (List Key × Addr × V)} {ps : List (List Key × Addr × Value)} {acc : List (List Key × V)} {xs : List (List Key × Addr × Value)},
    Paired (fun (m : List Key × Addr × V) (p : List Key × Addr × Value) => m.1 = p.1 ∧ m.2.1 = p.2.1 ∧ H m.2.1 = some (.tup (m.1.map kV)) ∧ RelV m.2.2 p.2.2) more ps → KT H acc xs → KT H (mergeV acc (more.map fun m => (m.1, m.2.2))) (PySem.storedAllH xs ps)
  | _, _, _, _, .nil, r => r
  | m :: more, p :: ps, acc, xs, .cons ⟨h1, h2, h3, h4⟩ q, r => by
    have e : KT H (putK acc m.1 m.2.2) (storedH xs p.1 p.2.1 p.2.2) := by
      have := r.put m.1 (b := m.2.1) h3 h4
      rw [← h1, ← h2]
      exact this
    show KT H (mergeV (putK acc m.1 m.2.2) (more.map fun m => (m.1, m.2.2))) (PySem.storedAllH (storedH xs p.1 p.2.1 p.2.2) ps)
    exact KT_merge q e
section
variable {X : Cx}
theorem tpairs_of {pins : List (Addr × Obj)} {σ : L2.St} {H : Hp} {s : Shared} (I : Inv X pins σ H s) : ∀ {ps : List Addr} {kvs : List (List Key × Addr × V)}, Paired (fun p (m : List Key × Addr × V) => SqT X.K H p [.ref m.2.1, m.2.2] ∧ H m.2.1 = some (.tup (m.1.map kV))) ps kvs →
    ∃ prs : List (List Key × Addr × Value), Paired (fun (m : List Key × Addr × V) (p : List Key × Addr × Value) => m.1 = p.1 ∧ m.2.1 = p.2.1 ∧ H m.2.1 = some (.tup (m.1.map kV)) ∧ RelV m.2.2 p.2.2) kvs prs ∧ prs.length = ps.length ∧
      ∀ (j : Nat) (q : List Key × Addr × Value), prs[j]? = some q → ∃ b : Addr, ps[j]? = some b ∧ s.heap.IsTuple b #[.ref q.2.1, q.2.2] ∧ H q.2.1 = some (.tup (q.1.map kV))
  | _, _, .nil => ⟨[], .nil, rfl, fun j q e => by simp at e⟩
  | _, _, .cons (a := p) (b := m) ⟨h, hk⟩ t => by
    obtain ⟨prs, r, hl, hp⟩ := tpairs_of I t
    obtain ⟨its, rv, ht, _⟩ := I.tuple h
    cases rv with
    | cons ru rv =>
      cases rv with
      | cons ry rv =>
        cases rv
        rename_i u y
        obtain rfl : u = Value.ref m.2.1 := ru
        refine ⟨(m.1, m.2.1, y) :: prs, .cons ⟨rfl, rfl, hk, ry⟩ r, by rw [List.length_cons, List.length_cons, hl], fun j q e => ?_⟩
        cases j with
        | zero =>
          have e' : (m.1, m.2.1, y) = q := Option.some.inj e
          subst e'
          exact ⟨p, rfl, ht, hk⟩
        | succ j =>
          obtain ⟨b, e1, e2, e3⟩ := hp j q (by simpa using e)
          exact ⟨b, by simpa using e1, e2, e3⟩
theorem call_dictPT (hcalm : X.calm = true) (hu : X.A.units + 2 < cLine) : CallR X (.type "dict") (fun xs H Q => ∃ (a : Addr) (ps : List Addr) (kvs : List (List Key × Addr × V)), xs = [.ref a] ∧ SqL X.K H a (ps.map V.ref) ∧
    Paired (fun p (m : List Key × Addr × V) => SqT X.K H p [.ref m.2.1, m.2.2] ∧ H m.2.1 = some (.tup (m.1.map kV))) ps kvs ∧
    ∀ p, H p = none → Q (.ref p) (upd H p (.dT (mergeV [] (kvs.map fun m => (m.1, m.2.2)))))) := by
  intro pins s σ H xs us Q I r q
  obtain ⟨a, ps, kvs, ex, hq, hp, q⟩ := q
  subst ex
  obtain ⟨u, eu, rx⟩ := vals1 r
  subst eu
  cases rx
  obtain ⟨its, rv, pl, hz⟩ := I.list hq
  have ei := refs_at rv
  subst ei
  rw [List.length_map] at hz
  obtain ⟨prs, rel, hl, hpr⟩ := tpairs_of I hp
  obtain ⟨o, n, ho, hc, hd, hdat⟩ := pl
  have hsz : prs.length ≤ sizeLine := by rw [hl]; exact hz
  let Ts : Nat → Addr := fun j => (ps[j]?).getD 0
  let qs : List (Value × Value) := prs.map fun x => (.ref x.2.1, x.2.2)
  have hql : qs.length = prs.length := List.length_map ..
  have ok : PySem.PlainSeq "list" s.heap a (ps.map Value.ref).toArray ∧ PySem.PairItems s.heap (ps.map Value.ref).toArray Ts qs := by
    refine ⟨⟨o, n, ho, hc, hd, hdat⟩, by rw [List.size_toArray, List.length_map, hql, hl], fun j k v hj => ?_⟩
    rw [List.getElem?_map] at hj
    obtain ⟨x, hx, e⟩ := Option.map_eq_some_iff.mp hj
    cases e
    obtain ⟨b, e1, e2, _⟩ := hpr j x hx
    have et : Ts j = b := by show (ps[j]?).getD 0 = b; rw [e1]; rfl
    rw [et]
    exact ⟨by simp [e1], .inl e2⟩
  refine PySem.call_dict_pairsH (knd := tupleKind (mixKind X.prog X.w)) (ps := prs) (PySem.PairArg.list a (ps.map Value.ref).toArray Ts qs) (I.ok.hd hcalm) ?_ ok ⟨hql.symm, fun i key v hi => ?_⟩ (fun h' hk x hx => ?_) (by rw [hql]; exact hsz) fun h' tk hd' k => ?_
  · show (X.A.in1.in1).units < cLine
    have : X.A.in1.in1.units = X.A.units + 2 := rfl
    omega
  · have hi : qs[i]? = some (key, v) := hi
    rw [List.getElem?_map] at hi
    obtain ⟨x, hx, e⟩ := Option.map_eq_some_iff.mp hi
    cases e
    exact ⟨x.1, x.2.1, hx, rfl⟩
  · obtain ⟨j, hj⟩ := List.getElem?_of_mem hx
    obtain ⟨b, _, _, e3⟩ := hpr j x hj
    obtain ⟨o', its', n', h1, h2, h3, h4⟩ := key_of (P := X.prog) (w := X.w) I.hok e3
    exact ⟨o', its', n', hk _ _ (Nat.ne_of_lt (Heap.lt_size h1)) (by simp) h1, h2, h3, h4⟩
  · have hm : (s.heap.objs.size == sysModules) = false := beq_eq_false_iff_ne.mpr (Nat.ne_of_gt I.big)
    have kl : kvs.length = prs.length := Paired.length rel
    have hlen : (mergeV [] (kvs.map fun m => (m.1, m.2.2))).length ≤ sizeLine := by
      have := mergeV_len (kvs.map fun m => (m.1, m.2.2)) []
      rw [List.length_nil, List.length_map] at this
      omega
    have kt := KT_merge (H := H) rel (acc := []) (xs := []) .nil
    obtain ⟨od, es, ep, g1, g2, g3, g4, _, g5⟩ := hd'
    have hn : H s.heap.objs.size = none := I.hok.fresh (Nat.le_refl _)
    refine ⟨.ref s.heap.objs.size, upd H s.heap.objs.size (.dT (mergeV [] (kvs.map fun m => (m.1, m.2.2)))), I.laid (t' := tk) (fun b o e => k b o (by simp) e) (Nat.le_refl _) ?_, rfl, q _ hn⟩
    show ObjOk X.prog X.w _ _ _ (.dT _)
    exact ⟨hlen, hm, _, kt.keeps fun c ys ec => by rw [upd_ne (ne_of_none ec hn)]; exact ec, od, es, ep, g1, g2, g3, g4, g5⟩
end
end PF
namespace PF
open PySem PySem.Spec PyProof.Rows L2
/-! ## dict(pairs) with tuples for keys, as data -/
def pairsT : List D → Option (List (List Key × D))
  | [] => some []
  | .tup [.tup k, d] :: r => match keysD k, pairsT r with
    | some k, some r => some ((k, d) :: r)
    | _, _ => none
  | _ :: _ => none
def mergeT (acc more : List (List Key × D)) : List (List Key × D) := more.foldl (fun acc kv => putD acc kv.1 kv.2) acc
def gDictT : List D → Option Op
  | [.lst ds] => match pairsT ds with
    | some kvs => some (.fresh (.dT (mergeT [] kvs)))
    | none => none
  | _ => none
section
variable {K : PySem.W.Frag} {G H : Hp}
theorem RepT.merge : ∀ {more : List (List Key × D)} {vs : List (List Key × V)} {acc : List (List Key × D)} {as : List (List Key × V)}, RepT K G more vs → RepT K G acc as → RepT K G (mergeT acc more) (mergeV as vs)
  | _, _, _, _, .nil, r => r
  | _, _, _, _, .cons h q, r => by
    unfold mergeT mergeV
    rw [List.foldl_cons, List.foldl_cons]
    exact RepT.merge q (r.put h)
theorem pairsT_ok (s : Sub G H) : ∀ {ds : List D} {xs : List V} {kvs : List (List Key × D)}, RepL K G ds xs → pairsT ds = some kvs → ∃ (ps : List Addr) (ms : List (List Key × Addr × V)), xs = ps.map V.ref ∧ Paired (fun p (m : List Key × Addr × V) => SqT K H p [.ref m.2.1, m.2.2] ∧ H m.2.1 = some (.tup (m.1.map kV))) ps ms ∧ RepT K G kvs (ms.map fun m => (m.1, m.2.2))
  | [], _, _, .nil, e => by cases e; exact ⟨[], [], rfl, .nil, .nil⟩
  | d :: ds, _, kvs, .cons h r, e => by
    unfold pairsT at e
    split at e
    · rename_i e0; cases e0
    · rename_i k d' r' e0
      cases e0
      split at e
      · rename_i kk rr e1 e2
        cases e
        obtain ⟨ps, ms, rfl, pp, rk⟩ := pairsT_ok s r e2
        cases h with
        | tup ha hl =>
          cases hl with
          | cons h1 hl =>
            cases hl with
            | cons h2 hl =>
              cases hl
              cases h1 with
              | @tup b _ _ hb hk =>
                cases keysD_ok hk e1
                exact ⟨_ :: ps, (kk, b, _) :: ms, rfl, .cons ⟨SqT.of (s _ _ ha), s _ _ hb⟩ pp, .cons h2 rk⟩
      · cases e
    · cases e
theorem gDictT_ok : CallOk K (fun xs H Q => ∃ (a : Addr) (ps : List Addr) (kvs : List (List Key × Addr × V)), xs = [.ref a] ∧ SqL K H a (ps.map V.ref) ∧ Paired (fun p (m : List Key × Addr × V) => SqT K H p [.ref m.2.1, m.2.2] ∧ H m.2.1 = some (.tup (m.1.map kV))) ps kvs ∧
    ∀ p, H p = none → Q (.ref p) (upd H p (.dT (mergeV [] (kvs.map fun m => (m.1, m.2.2)))))) gDictT := by
  intro G H ds vs o Q s hf h e k
  unfold gDictT at e
  split at e
  · rename_i ds
    split at e
    · rename_i kvs e1
      cases e
      replace h := reps1 h
      obtain ⟨v, rfl, h⟩ := h
      obtain ⟨p, us, rfl, hp, rl⟩ := repV_lst s h
      obtain ⟨ps, ms, rfl, pp, rk⟩ := pairsT_ok s rl e1
      exact ⟨p, ps, ms, rfl, hp, pp, fun p' hp' => k _ _ (.newf hp' (.dT (RepT.merge rk .nil)))⟩
    · cases e
  · cases e
end
section
variable {X : Cx} {T : List (Addr × Str)} {W : WX} {e : Expr} {f : EF} {pos p : Pos} {k : Nat}
theorem hu2 (hr : Room k X.A) : X.A.units + 2 < cLine := by
  have := hu65 hr
  omega
theorem de_dictT (hr : Room k X.A) (hc : X.calm = true) (hm : X.mg "dict" = none) (ha : DE X T W e f) (hg : Gl X "dict" := by rfl) (he : starEach [e] X.env = [(false, eval e X.env)] := by rfl) : DE X T W (.Call (.Name "dict" p) [e] [] pos) (eCall gDictT (aCons f aNil)) :=
  de_callR (pe_callTy (call_dictPT hc (hu2 hr)) hg hm boot_dict (da_cons ha da_nil he) (he := he)) gDictT_ok
end
/-! ## {k: v for target in iter}, the keys tuples -/
theorem d_dictSetT {X : Cx} {pins : List (Addr × Obj)} {σ : L2.St} {H : Hp} {s : Shared} {E : Value → Shared → Prop} {D b : Addr} {kvs : List (List Key × V)} {k : List Key} {v : V} {u r : Value} {Q : Unit → Shared → Prop} (hu : X.A.units < cLine) (I : Inv X pins σ H s) (hD : H D = some (.dT kvs)) (hz : kvs.length < sizeLine)
    (hb : H b = some (.tup (k.map kV))) (ry : L2.RelV (.ref b) u) (rv : L2.RelV v r) (h : ∀ s', Inv X pins σ (upd H D (.dT (putK kvs k v))) s' → Q () s') : wpAny (model X.prog X.w) X.A (dictSet D u r) Q E s := by
  obtain rfl : u = Value.ref b := ry
  obtain ⟨z, hd, xs, rel, dd⟩ := dt_of I.hok hD
  have hzv : xs.length ≤ sizeLine := by rw [← Paired.length rel]; exact z
  have hl : (putK kvs k v).length ≤ sizeLine := by have := length_putK kvs k v; omega
  refine wpAny_dictSet_heap (hsz := hzv) (show (tupleKind (mixKind X.prog X.w)).room X.A from hu) (key_of I.hok hb) dd fun h' dd' hs => h _ ?_
  obtain ⟨q, es, ep, hq, h2, h3, h4, _, h5⟩ := dd'
  refine d_write I (by rw [hD]; exact True.intro) hs ⟨q, hq⟩ ⟨hl, hd, _, (rel.put k hb rv).keeps fun c ys ec => ?_, q, es, ep, hq, h2, h3, h4, h5⟩
  rw [upd_ne (ne_of ec hD (fun z => nomatch z))]
  exact ec
end PF
namespace PF
open PySem PySem.Spec PyProof.Rows L2
/-! ## {x: True for x in e}, the items tuples (after the layer's rule for keys that are ints or texts) -/
section
variable {X : Cx}
def tDcT (wi : TI) (g : TG) (tk tv : TE) (vs : List Nat) : TE := fun σ H Q => wi σ H fun J H1 => ∀ D, H1 D = none → ∃ W : Nat → Nat → Hp → Prop, (∃ m, W 0 m (upd H1 D (.dT []))) ∧ ∀ i m H, W i m H →
  (J.stop i H ∧ Q (.ref D) H) ∨ (J.go i H ∧ ∃ Nx : Hp → Prop, (∀ H', Nx H' → ∃ m', m' < m ∧ W (i + 1) m' H') ∧ ∀ x H', J.yld i H x H' → g x (L2.wipe σ vs) H' fun σ2 H2 => L2.wipe σ2 vs = L2.wipe σ vs ∧
    tk σ2 H2 fun y H4 => tv σ2 H4 fun z H5 => ∃ kvs k b, y = .ref b ∧ H5 b = some (.tup (k.map kV)) ∧ H5 D = some (.dT kvs) ∧ kvs.length < sizeLine ∧ Nx (upd H5 D (.dT (putK kvs k z))))
abbrev BlkPG (X : Cx) (scope : Scope) (tg : Expr) (g : TG) : Prop := ∀ (s : Shared) (H : Hp) (C : Addr) (cl : List (Str × Addr)) (fp : List Addr), PG (X.blk s H scope (compEnvC scope cl C X.env) fp) tg g
abbrev BlkPE (X : Cx) (scope : Scope) (e : Expr) (t : TE) : Prop := ∀ (s : Shared) (H : Hp) (C : Addr) (cl : List (Str × Addr)) (fp : List Addr), PE (X.blk s H scope (compEnvC scope cl C X.env) fp) e t
theorem pe_dcT {kx vx tg iter : Expr} {scope : Scope} {own : List (Str × Nat)} {pos : Pos} {wi : TI} {g : TG} {tk tv : TE} (hu : X.A.units < cLine) (hc : X.calm = true) (hN : X.N.Nodup) (hi : PI X tg iter wi) (ok : BlkOk X.N X.env.scope scope own)
    (hg : BlkPG X scope tg g) (hk : BlkPE X scope kx tk) (he : BlkPE X scope vx tv) (hs : ∀ x, foldedSetIterable iter X.env x = pure x := by intro _; rfl) :
    PE X (.DictComp kx vx [⟨tg, iter, [], 0⟩] scope pos) (tDcT wi g tk tv (own.map (·.2))) := by
  refine ⟨fun pins s σ H Q I h => ?_⟩
  rw [arm_eval_DictComp]
  have cells : ∀ y ∈ scope.names, y.2 = .free → ∃ c, X.env.cells.lookup y.1 = some c := fun y hy e => by
    rcases ok.free y hy e with k | k
    · exact I.ok.has _ (.inl k)
    · exact I.ok.has _ (.inr k)
  refine wpAny_comprehension_free rfl hs (closure_ok cells) ok.kind (fun y hy e => by rw [ok.uniq y hy, e]) (thn (hi.run pins s σ H _ I h) fun xv s1 hx => thn hx fun itv s2 h2 => ?_)
  obtain ⟨it, fp, tn, J, H2, rfl, I2, T, st2, f2, q⟩ := h2
  refine wpAny_newObj_type (newEnv_comp ?_)
  generalize hD : s2.heap.objs.size = D
  have free2 : H2 D = none := I2.hok.fresh (Nat.le_of_eq hD)
  obtain ⟨W, ⟨m0, w0⟩, turn⟩ := q D free2
  generalize es3 : ({ s2 with heap := s2.heap.push { cls := .type "dict", data := .dict #[] } } : Shared) = s3
  have I3 : Inv X pins σ (upd H2 D (.dT [])) s3 := by
    subst es3
    exact I2.laid (t' := s2.toks) (fun b o e => Heap.get?_push_of_some _ e) (Nat.le_of_eq hD) (hD ▸ dt_empty s2.heap I2.big)
  have h3 : s3.heap = s2.heap.push { cls := .type "dict", data := .dict #[] } := by rw [← es3]
  have below : ∀ b ∈ fp, b < s2.heap.objs.size := fun b hb => let ⟨_, e, _⟩ := T.obj _ _ st2 b hb; Heap.lt_size e
  have f3 : ∀ b ∈ fp, FpOk X pins (upd H2 D (.dT [])) b ∧ b < s3.heap.objs.size := fun b hb => by
    have lt := below b hb
    refine ⟨⟨?_, (f2 b hb).2⟩, by rw [h3, Heap.size_push]; exact Nat.lt_succ_of_lt lt⟩
    rw [upd_ne (by rw [← hD]; exact Nat.ne_of_lt lt)]
    exact (f2 b hb).1
  have st3 : tn 0 s3.heap := T.keep _ _ _ st2 fun b _ o e => by rw [h3]; exact Heap.get?_push_of_some _ e
  have I4 := block_start I3 ok hN f3
  have pg := hg s3 (upd H2 D (.dT [])) s3.heap.objs.size (cellsFrom (s3.heap.objs.size + 1) scope.names (cloFrom X.env.cells scope.names [])) fp
  have pk := hk s3 (upd H2 D (.dT [])) s3.heap.objs.size (cellsFrom (s3.heap.objs.size + 1) scope.names (cloFrom X.env.cells scope.names [])) fp
  have pe := he s3 (upd H2 D (.dT [])) s3.heap.objs.size (cellsFrom (s3.heap.objs.size + 1) scope.names (cloFrom X.env.cells scope.names [])) fp
  have none3 : ∀ b ∈ fp, (upd H2 D (.dT [])) b = none := fun b hb => (f3 b hb).1.1
  show codeAny _ _ (.compStart (.DictComp kx vx [⟨tg, iter, [], 0⟩] scope pos) 0 (.ref it) (.ref D) (compEnvC scope (cellsFrom (s3.heap.objs.size + 1) scope.names (cloFrom X.env.cells scope.names [])) s3.heap.objs.size X.env)) (compPost (model X.prog X.w) X.A X.xe none (EP X pins σ Q) (.ref D) s3.heap.objs.size) { s3 with heap := pushCells (s3.heap.push { cls := .type "dict", data := .dict #[] }) scope.names }
  generalize ece : compEnvC scope (cellsFrom (s3.heap.objs.size + 1) scope.names (cloFrom X.env.cells scope.names [])) s3.heap.objs.size X.env = ce at I4 pg pk pe ⊢
  have loc : ce.locals = s3.heap.objs.size := by subst ece; rfl
  generalize upd H2 D (.dT []) = H3 at I3 I4 pg pk pe w0 none3 f3
  generalize es4 : ({ s3 with heap := pushCells (s3.heap.push { cls := .type "dict", data := .dict #[] }) scope.names } : Shared) = s4 at I4 ⊢
  have st4 : tn 0 s4.heap := T.keep _ _ _ st3 fun b _ o e => by rw [← es4]; exact pushCells_keeps _ _ _ _ (Heap.get?_push_of_some _ e)
  have foot : ∀ {σ' : L2.St} {H' : Hp} {s' : Shared}, Inv (X.blk s3 H3 scope ce fp) [] σ' H' s' → (∀ b ∈ fp, H' b = none) → ∀ b ∈ fp, FpOk (X.blk s3 H3 scope ce fp) [] H' b := fun {σ' H' s'} I' hn b hb =>
    ⟨hn b hb, (I'.ok.exf b hb).1, I'.ok.exfs b hb, .inl hb, fun x c e => (I'.ok.exf b hb).2 x c e, fun p hp => absurd (show p ∈ ([] : List (Addr × Obj)) ++ [] from hp) (by simp)⟩
  have loop : codeAny (model X.prog X.w) X.A (.compLoop (.DictComp kx vx [⟨tg, iter, [], 0⟩] scope pos) 0 (.ref it) (.ref D) ce) (compPost (model X.prog X.w) X.A X.xe none (EP X pins σ Q) (.ref D) s3.heap.objs.size) s4 := by
    refine compLoop_anyD (fun n s' => ∃ i H', Inv (X.blk s3 H3 scope ce fp) [] (L2.wipe σ (own.map (·.2))) H' s' ∧ tn i s'.heap ∧ (∀ b ∈ fp, H' b = none) ∧ W i n H') ?_ m0 ⟨0, H3, I4, st4, none3, w0⟩
    rintro n s5 ⟨i, H5, I5, st5, n5, w5⟩
    rcases turn i n H5 w5 with ⟨stop, fin⟩ | ⟨go, Nx, less, step⟩
    · refine thnF (T.done (X.blk s3 H3 scope ce fp) rfl rfl rfl hc i [] s5 _ H5 (fun _ _ => False) I5 (foot I5 n5) st5 stop) fun r s6 ⟨hr, I6⟩ => ?_
      subst hr
      have I7 : Inv X pins σ H5 s6 := I3.call' (ch := fp) I6.os I6.base I6.hok I6.bare fun b hb => ⟨(f3 b hb).1.2.2.2.1, (f3 b hb).1.2.1, (f3 b hb).1.2.2.2.2.1, (f3 b hb).1.2.2.2.2.2⟩
      have nC : H5 s3.heap.objs.size = none := by
        have z : H5 ce.locals = none := I6.free
        rw [loc] at z
        exact z
      obtain ⟨m, hn, _⟩ := I6.loc
      have hn : s6.heap.Ns ce.locals m := hn
      rw [loc] at hn
      obtain ⟨g0, g1, _, g3, g4, g5⟩ := I3.fpOk (Nat.le_refl _) nC
      exact ⟨m, hn, fun h'' sb => ⟨.ref D, H5, I7.turned (t' := s6.toks) (fun b o hb e => (sb.2 b hb).trans e) g0 g1 g3 g4 g5, rfl, fin⟩⟩
    · refine thnF (T.item (X.blk s3 H3 scope ce fp) rfl rfl rfl hc i [] s5 _ H5 (fun _ _ => False) I5 (foot I5 n5) st5 go) fun r s6 ⟨u, hr, h6⟩ => ?_
      subst hr
      refine thnF h6 fun _ s7 ⟨x, H7, I7, r7, y7, st7, n7⟩ => ?_
      refine thnF (pg.run _ s7 _ H7 x u _ (I7.pinned (foot I7 n7) (T.obj _ _ st7)) r7 (step x H7 y7)) fun _ s8 ⟨σ8, H8, I8, hw8, q8⟩ => ?_
      show wpAny _ _ (forIn ([] : List Expr) true _) _ _ s8
      refine wpAny_pure ?_
      show wpAny _ _ _ _ _ s8
      refine thnF (pk.run _ s8 σ8 H8 _ I8 q8) fun z s10 ⟨yk, H10, I10, r10, q10⟩ => ?_
      refine thnF (pe.run _ s10 σ8 H10 _ I10 q10) fun z2 s11 ⟨yv, H11, I11, r11, kvs, k, b, ek, hb, hD11, hz11, nx⟩ => ?_
      subst ek
      refine d_dictSetT (X := X.blk s3 H3 scope ce fp) hu I11 hD11 hz11 hb r10 r11 fun s' I' => ?_
      obtain ⟨m', hm, w'⟩ := less _ nx
      have pin' : ∀ b ∈ fp, ∀ o, s7.heap.get? b = some o → s'.heap.get? b = some o ∧ _ = none := fun b hb o e =>
        let z := I'.pin (b, o) (List.mem_append_right _ (List.mem_append_right _ (mem_pinsAt hb e)))
        ⟨z.1, z.2.1⟩
      have hl : (L2.wipe σ (own.map (·.2))).length = σ8.length := by rw [← hw8, L2.wipe_length]
      refine ⟨m', hm, i + 1, _, (I'.unpinned (pins := [])).weak hl (fun j v e => ?_), T.keep _ _ _ st7 fun b hb o e => (pin' b hb o e).1, fun b hb => ?_, w'⟩
      · rw [← hw8] at e
        exact (wipe_some e).1
      · obtain ⟨o, e, _⟩ := T.obj _ _ st7 b hb
        exact (pin' b hb o e).2
  exact codeAny_compStart_dict loop (T.self X.A 0 _ _ _ st4 loop)
end
end PF
namespace PF
open PySem PySem.Spec PyProof.Rows L2
/-! ## {x: True for x in e} as data -/
def keysT : List D → Option (List (List Key))
  | [] => some []
  | .tup k :: r => match keysD k, keysT r with
    | some k, some r => some (k :: r)
    | _, _ => none
  | _ :: _ => none
def trueT (ks : List (List Key)) : List (List Key × D) := ks.map fun k => (k, .bl true)
def kSetT2 (i : Nat) (en : En) : Option (List (List Key)) → ER
  | some ks => if i < en.length then .ok (.fresh (.dT (mergeT [] (trueT ks)))) en else .stuck
  | none => .stuck
def kSetT (i : Nat) (ds : List D) (en : En) : ER := kSetT2 i en (keysT ds)
def eSetT (i : Nat) (fi : IF) : EF := fun en => (fi en).bind (kSetT i)
theorem ev_sett {i : Nat} {fi : IF} {en : En} : eSetT i fi en = (fi en).bind (kSetT i) := rfl
theorem ev_sett1 {i : Nat} {ds : List D} {en : En} : kSetT i ds en = kSetT2 i en (keysT ds) := rfl
theorem ev_sett2 {i : Nat} {en : En} {ks : List (List Key)} (h : i < en.length) : kSetT2 i en (some ks) = .ok (.fresh (.dT (mergeT [] (trueT ks)))) en := if_pos h
theorem keysT_len : ∀ {ds : List D} {ks : List (List Key)}, keysT ds = some ks → ks.length = ds.length
  | [], _, e => by cases e; rfl
  | d :: ds, ks, e => by
    unfold keysT at e
    split at e
    · rename_i e0; cases e0
    · rename_i k r e0
      cases e0
      split at e
      · rename_i k' r' e1 e2
        cases e
        simp [keysT_len e2]
      · cases e
    · cases e
theorem keysT_get : ∀ {ds : List D} {ks : List (List Key)} {i : Nat} {d : D}, keysT ds = some ks → ds[i]? = some d → ∃ k kd, ks[i]? = some k ∧ d = .tup kd ∧ keysD kd = some k
  | [], _, _, _, e, h => by cases h
  | d :: ds, ks, i, d', e, h => by
    unfold keysT at e
    split at e
    · rename_i e0; cases e0
    · rename_i k r e0
      cases e0
      split at e
      · rename_i k' r' e1 e2
        cases e
        cases i with
        | zero => cases h; exact ⟨_, _, rfl, rfl, e1⟩
        | succ i => exact keysT_get (i := i) e2 (by simpa using h)
      · cases e
    · cases e
theorem HF.dT {K : PySem.W.Frag} {H : Hp} {p : Addr} {kvs : List (List Key × V)} (h : HF K H) : HF K (upd H p (.dT kvs)) := by
  refine ⟨fun a ys q => ?_, fun a ys q => ?_⟩
  · rcases q with q | q
    · rcases rd_upd q with ⟨_, z | ⟨w, z⟩⟩ | z
      · cases z
      · cases z
      · exact h.1 a ys (.inl z)
    · exact h.1 a ys (.inr q)
  · rcases q with q | q
    · rcases rd_upd q with ⟨_, z | ⟨w, z⟩⟩ | z
      · cases z
      · cases z
      · exact h.2 a ys (.inl z)
    · exact h.2 a ys (.inr q)
theorem mergeT_app (acc more : List (List Key × D)) (k : List Key) (d : D) : mergeT acc (more ++ [(k, d)]) = putD (mergeT acc more) k d := by
  unfold mergeT
  rw [List.foldl_append]
  rfl
section
variable {X : Cx} {T : List (Addr × Str)} {W : WX}
theorem imp_setT {fi : IF} {i : Nat} (σ : L2.St) (H : Hp) (Q : VK) (h : tE X.K X.mg T W (eSetT i fi) σ H Q) :
    tDcT (tI X.K X.mg T W fi) (gName i) (tVar i) (tC (.bl true)) [i] σ H (fun v H1 => HF X.K H1 → Q v H1) := by
  obtain ⟨G, en, R, p0⟩ := h
  refine ⟨G, en, R, ?_⟩
  rw [ev_sett] at p0
  cases q : fi en with
  | exc c pl en2 =>
    rw [q] at p0
    exact p0
  | stuck =>
    rw [q] at p0
    exact p0
  | ok ds en1 =>
    rw [q] at p0
    intro J H1 G1 R1 yl fr io
    have p0 : PostE X.K X.mg T W G1 σ H1 en1 Q (kSetT2 i en1 (keysT ds)) := PostR.mono p0 (fun _ _ _ z => okE_sh _ _ _ _ _ _ _ _ fr io z) fun _ _ _ z => exc_sh _ _ _ _ _ _ _ _ _ fr io z
    cases qk : keysT ds with
    | none => rw [qk] at p0; exact p0.elim
    | some ks =>
    rw [qk] at p0
    by_cases hi : i < en1.length
    rotate_left
    · rw [show kSetT2 i en1 (some ks) = .stuck from if_neg hi] at p0; exact p0.elim
    rw [ev_sett2 hi] at p0
    have lk := keysT_len qk
    have hi' : i < σ.length := by rw [R1.len]; exact hi
    intro D hD
    refine ⟨fun j m H' => m = ds.length - j ∧ j ≤ ds.length ∧ ∃ G' kvs, Rel X.K T G' σ H' en1 ∧ Fr G1 H1 (own σ en1) G' H' (fun q => own σ en1 q ∨ q = D) ∧ Sub G1 G' ∧
      H' D = some (.dT kvs) ∧ RepT X.K G' (mergeT [] (trueT (ks.take j))) kvs ∧ kvs.length ≤ j ∧ G' D = none ∧ ¬ own σ en1 D, ⟨ds.length, rfl, Nat.zero_le _, ?_⟩, ?_⟩
    · have nD : ¬ own σ en1 D := fun z => by
        obtain ⟨o, ho, _⟩ := own_some R1 z
        rw [hD] at ho; cases ho
      exact ⟨G1, [], R1.newf hD R1.hf.dT, Fr.layf hD, Sub.refl G1, upd_same, .nil, Nat.le_refl _, R1.sub.none hD, nD⟩
    · rintro j m H' ⟨rfl, hjl, G', kvs, R', f', sg, hDl, rk, hkl, gD, nD⟩
      obtain ⟨hgo, hst⟩ := yl.2 j G' H' sg R'.sub R'.hf
      by_cases hlt : j < ds.length
      · have hd : ds[j]? = some ds[j] := List.getElem?_eq_getElem hlt
        obtain ⟨go, yy⟩ := hgo _ hd
        obtain ⟨k, kd, ek, ed, ekd⟩ := keysT_get qk hd
        refine .inr ⟨go, fun H2 => ∃ G2 kvs, Rel X.K T G2 σ H2 en1 ∧ Fr G1 H1 (own σ en1) G2 H2 (fun q => own σ en1 q ∨ q = D) ∧ Sub G1 G2 ∧
          H2 D = some (.dT kvs) ∧ RepT X.K G2 (mergeT [] (trueT (ks.take (j + 1)))) kvs ∧ kvs.length ≤ j + 1 ∧ G2 D = none ∧ ¬ own σ en1 D, fun H2 z => ⟨ds.length - (j + 1), by omega, rfl, hlt, z⟩, fun x H2 y => ?_⟩
        obtain ⟨out, hf2⟩ := yy x H2 y
        obtain ⟨G2, R2, ro, f2⟩ := out_ok R' out hf2
        have f2' : Fr G' H' (own σ en1) G2 H2 (own σ en1) := f2.weak fun _ z => .inl z
        have sg2 : Sub G' G2 := frsub R' f2'
        have hD2 : H2 D = some (.dT kvs) ∧ G2 D = G' D := f2'.keep D _ hDl (fun ps z => by cases z) nD
        rw [ed] at ro
        have ro : RepV X.K G2 H2 (.tup kd) x := .inl ro
        obtain ⟨b, xs, rfl, hb, rl⟩ := repV_tupH R2.sub ro
        cases keysD_ok rl ekd
        have g2 : G2 D = none := by rw [hD2.2]; exact gD
        show L2.wipe ((L2.wipe σ [i]).set i (some (.ref b))) [i] = L2.wipe σ [i] ∧ ∃ v, ((L2.wipe σ [i]).set i (some (.ref b)))[i]? = some (some v) ∧ _
        have hw : i < (L2.wipe σ [i]).length := by rw [L2.wipe_length]; exact hi'
        refine ⟨?_, .ref b, by rw [List.getElem?_set_self hw], kvs, k, b, rfl, hb, hD2.1, ?_, ?_⟩
        · refine List.ext_getElem? fun l => ?_
          by_cases hl : l ∈ [i]
          · rw [wipe_in hl, wipe_in hl, List.length_set, L2.wipe_length]
          · rw [wipe_out hl, wipe_out hl, List.getElem?_set_ne (fun z => hl (by simp [z])), wipe_out hl]
        · have := yl.1
          rw [sz_eq]
          omega
        · have R3 := R2.mut (u := .dT (putK kvs k (.bl true))) hD2.1 g2 (fun ps z => by cases z) (fun ps z => by cases z) nD R2.hf.dT
          have fA : Fr G1 H1 (own σ en1) G2 H2 (fun q => own σ en1 q ∨ q = D) := Fr.trans' f' f2'
          have fB : Fr G2 H2 (fun q => own σ en1 q ∨ q = D) G2 (upd H2 D (.dT (putK kvs k (.bl true)))) (fun q => own σ en1 q ∨ q = D) := ⟨fun b u e n no => ⟨by rw [upd_ne (fun z => no (.inr z))]; exact e, rfl⟩, fun _ z => .inl z⟩
          refine ⟨G2, _, R3, fA.trans fB, sg.trans sg2, upd_same, ?_, ?_, g2, nD⟩
          · have et : trueT (ks.take (j + 1)) = trueT (ks.take j) ++ [(k, .bl true)] := by
              unfold trueT
              rw [List.take_add_one, ek, List.map_append]
              rfl
            rw [et, mergeT_app]
            exact (rk.mono sg2).put (.bl true)
          · have := length_putK kvs k (.bl true)
            omega
      · have e : j = ds.length := by omega
        subst e
        refine .inl ⟨hst (Nat.le_refl _), fun _ => ?_⟩
        rw [List.take_of_length_le (Nat.le_of_eq lk)] at rk
        refine p0 (.ref D) H' G' R' ⟨D, rfl, ⟨gD, _, hDl, .dT rk⟩, nD⟩ (f'.weak fun q z => ?_) (IoK.refl _)
        rcases z with z | z
        · exact .inl z
        · exact .inr (V.ref.inj z).symm
theorem de_setT {x : Str} {tg iter kx : Expr} {scope : Scope} {i j k : Nat} {pos pos' : Pos} {fi : IF} {o : List (Str × Nat)} (eo : o = [(x, i)]) (hr : Room k X.A) (hc : X.calm = true) (hN : X.N.Nodup) (hi : DI X T W tg iter fi) (ok : BlkOk X.N X.env.scope scope o)
    (hg : ∀ (s : Shared) (H : Hp) (C : Addr) (cl : List (Str × Addr)) (fp : List Addr), PG (X.blk s H scope (compEnvC scope cl C X.env) fp) tg (gName i)) (hk : ∀ (s : Shared) (H : Hp) (C : Addr) (cl : List (Str × Addr)) (fp : List Addr), PE (X.blk s H scope (compEnvC scope cl C X.env) fp) kx (tVar i))
    (hs : ∀ x, foldedSetIterable iter X.env x = pure x := by intro _; rfl) : DE X T W (.DictComp kx (.Constant (.bool true) j pos') [⟨tg, iter, [], 0⟩] scope pos) (eSetT i fi) := by
  subst eo
  exact pe_of (pe_dcT (by have := hu1 hr; omega) hc hN hi ok hg hk (fun _ _ _ _ _ => pe_bl) hs) fun σ H Q _ h => imp_setT σ H Q h
end
end PF
namespace PF
open PySem PySem.Spec PyProof.Rows L2
theorem ev_slp1 {d : D} : slP true d = .ow true d := rfl
theorem ev_slp2 {d : D} : slP false d = .fz d := rfl
/-! ## deeds -/
inductive Wd where
  | mark
  | papers
  | sign
deriving DecidableEq
def Wd.s : Wd → Str
  | .mark => "mark"
  | .papers => "papers"
  | .sign => "sign"
abbrev De := Wd × Int
def De.d (x : De) : D := .tup [.str x.1.s, .int x.2]
def De.k (x : De) : List Key := [.inr x.1.s, .inl x.2]
theorem Wd.inj {a b : Wd} (h : a.s = b.s) : a = b := by
  have e1 : (("mark" : Str) = "papers") = False := eq_false (by decide)
  have e2 : (("mark" : Str) = "sign") = False := eq_false (by decide)
  have e3 : (("papers" : Str) = "sign") = False := eq_false (by decide)
  cases a <;> cases b <;> first | rfl | (exfalso; simp only [Wd.s, e1, e2, e3, eq_comm (b := ("mark" : Str)), eq_comm (a := ("sign" : Str)) (b := "papers")] at h)
theorem De.k_inj {x y : De} (h : x.k = y.k) : x = y := by
  obtain ⟨a, p⟩ := x
  obtain ⟨b, q⟩ := y
  simp only [De.k, List.cons.injEq, Sum.inr.injEq, Sum.inl.injEq, and_true] at h
  rw [Wd.inj h.1, h.2]
theorem De.d_inj {x y : De} (h : x.d = y.d) : x = y := by
  obtain ⟨a, p⟩ := x
  obtain ⟨b, q⟩ := y
  simp only [De.d, PF.D.tup.injEq, List.cons.injEq, PF.D.str.injEq, PF.D.int.injEq, and_true] at h
  rw [Wd.inj h.1, h.2]
def IsDone (kvs : List (List Key × D)) (s : List De) : Prop := ∀ x : De, valD kvs x.k = if x ∈ s then some (.bl true) else none
theorem done_nil : IsDone [] [] := fun x => by rw [if_neg (by simp)]; rfl
theorem done_put {kvs : List (List Key × D)} {s : List De} (h : IsDone kvs s) (x : De) : IsDone (putD kvs x.k (.bl true)) (s ++ [x]) := fun y => by
  rw [valD_put, h y]
  by_cases e : y = x
  · subst e
    rw [if_pos rfl, if_pos (by simp)]
  · rw [if_neg (fun z => e (De.k_inj z))]
    by_cases m : y ∈ s
    · rw [if_pos m, if_pos (by simp [m])]
    · rw [if_neg m, if_neg (by simp [m, e])]
theorem done_merge : ∀ {ds s : List De} {kvs : List (List Key × D)}, IsDone kvs s → IsDone (mergeT kvs (trueT (ds.map De.k))) (s ++ ds)
  | [], s, kvs, h => by rw [List.append_nil]; exact h
  | x :: ds, s, kvs, h => by
    have := done_merge (ds := ds) (done_put h x)
    rw [List.append_assoc] at this
    exact this
theorem done_of (ds : List De) : IsDone (mergeT [] (trueT (ds.map De.k))) ds := done_merge (s := []) done_nil
theorem putD_len {κ : Type} [DecidableEq κ] (kvs : List (κ × D)) (k : κ) (d : D) : (putD kvs k d).length ≤ kvs.length + 1 := by
  unfold putD
  split
  · simp
  · simp
theorem keysT_deeds : ∀ (ds : List De), keysT (ds.map De.d) = some (ds.map De.k)
  | [] => rfl
  | x :: ds => by
    show (match keysD [.str x.1.s, .int x.2], keysT (ds.map De.d) with | some k, some r => some (k :: r) | _, _ => none) = _
    rw [keysT_deeds ds]
    rfl
theorem pairsT_deeds : ∀ (ds : List De), pairsT (ds.map fun x => D.tup [x.d, D.bl true]) = some (trueT (ds.map De.k))
  | [] => rfl
  | x :: ds => by
    show (match keysD [D.str x.1.s, D.int x.2], pairsT (ds.map fun x => D.tup [x.d, D.bl true]) with | some k, some r => some ((k, D.bl true) :: r) | _, _ => none) = _
    rw [pairsT_deeds ds]
    rfl
theorem dPut_deed {kvs : List (List Key × D)} {x : De} (h : kvs.length < 16777216) : dPut (.dT kvs) (.tup [.str x.1.s, .int x.2]) (.bl true) = some (.dT (putD kvs x.k (.bl true))) := by
  show (if kvs.length < SZ then some (D.dT (putD kvs [.inr x.1.s, .inl x.2] (.bl true))) else none) = _
  rw [if_pos h]
  rfl
section
variable {kvs : List (List Key × D)} {s : List De} {p : Int}
theorem in_deed (h : IsDone kvs s) (x : De) : gInA (.tup [.str x.1.s, .int x.2]) (.dT kvs) = some (.val (.bl (decide (x ∈ s)))) := by
  show dIn id (some (valD kvs x.k)) = _
  rw [h x]
  by_cases m : x ∈ s
  · rw [if_pos m, decide_eq_true m]; rfl
  · rw [if_neg m, decide_eq_false m]; rfl
theorem notin_deed (h : IsDone kvs s) (x : De) : gNotInA (.tup [.str x.1.s, .int x.2]) (.dT kvs) = some (.val (.bl (!decide (x ∈ s)))) := by
  show dIn not (some (valD kvs x.k)) = _
  rw [h x]
  by_cases m : x ∈ s
  · rw [if_pos m, decide_eq_true m]; rfl
  · rw [if_neg m, decide_eq_false m]; rfl
theorem in_sign (h : IsDone kvs s) : gInA (.tup [.str "sign", .int p]) (.dT kvs) = some (.val (.bl (decide ((Wd.sign, p) ∈ s)))) := in_deed h (Wd.sign, p)
theorem in_mark (h : IsDone kvs s) : gInA (.tup [.str "mark", .int p]) (.dT kvs) = some (.val (.bl (decide ((Wd.mark, p) ∈ s)))) := in_deed h (Wd.mark, p)
theorem in_papers (h : IsDone kvs s) : gInA (.tup [.str "papers", .int p]) (.dT kvs) = some (.val (.bl (decide ((Wd.papers, p) ∈ s)))) := in_deed h (Wd.papers, p)
theorem notin_sign (h : IsDone kvs s) : gNotInA (.tup [.str "sign", .int p]) (.dT kvs) = some (.val (.bl (!decide ((Wd.sign, p) ∈ s)))) := notin_deed h (Wd.sign, p)
theorem notin_mark (h : IsDone kvs s) : gNotInA (.tup [.str "mark", .int p]) (.dT kvs) = some (.val (.bl (!decide ((Wd.mark, p) ∈ s)))) := notin_deed h (Wd.mark, p)
end
theorem wd_shaped (w : Wd) : SeqAt.shaped (.str w.s) = true := by cases w <;> kernel_rfl
theorem De.dat {n k : Nat} (hn : 2 ≤ n) (x : De) : Dat n (k + 1) x.d := .tup (by simpa using hn) fun d hd => by
  simp only [List.mem_cons, List.not_mem_nil, or_false] at hd
  rcases hd with hd | hd <;> subst hd
  · exact .str _ (wd_shaped _)
  · exact .int _
theorem De.pl (x : De) : Pl x.d := .tup fun d hd => by
  simp only [List.mem_cons, List.not_mem_nil, or_false] at hd
  rcases hd with hd | hd <;> subst hd
  · exact .str _
  · exact .int _
theorem deeds_dat {n k : Nat} {s : List De} (h2 : 2 ≤ n) (hn : s.length ≤ n) : Dat n (k + 2) (.tup (s.map De.d)) := .tup (by simpa using hn) fun d hd => by
  obtain ⟨x, _, rfl⟩ := List.mem_map.mp hd
  exact x.dat h2
theorem any_eqv {x : De} {p : PyData} (hx : toPy x.d = some p) : ∀ {s : List De} {qs : List PyData}, toPys (s.map De.d) = some qs → (qs.any fun z => PyData.eqv z p) = decide (x ∈ s)
  | [], qs, e => by
    rw [List.map_nil, toPys] at e
    cases e
    rfl
  | y :: s, qs, e => by
    rw [List.map_cons, toPys] at e
    cases q1 : toPy y.d <;> cases q2 : toPys (s.map De.d) <;> rw [q1, q2] at e <;> cases e
    rw [List.any_cons, any_eqv hx q2]
    by_cases c : y = x
    · subst c
      cases q1.symm.trans hx
      rw [(y.dat (n := 2) (k := 0) (Nat.le_refl _)).rf hx, Bool.true_or, decide_eq_true (by simp)]
    · rename_i v _
      have : PyData.eqv v p = false := by
        cases z : PyData.eqv v p with
        | false => rfl
        | true => exact absurd (De.d_inj (y.pl.eqv x.pl q1 hx z)) c
      rw [this, Bool.false_or]
      refine decide_eq_decide.mpr ⟨fun m => by simp [m], fun m => ?_⟩
      rcases List.mem_cons.mp m with m | m
      · exact absurd m.symm c
      · exact m
theorem inB_tup {f : Bool → Bool} {x : De} {s : List De} : gInB f x.d (.tup (s.map De.d)) = some (.val (.bl (f (decide (x ∈ s))))) := by
  obtain ⟨p, e1, c1, d1⟩ := (x.dat (n := 2) (k := 0) (Nat.le_refl _)).py
  obtain ⟨q, e2, c2, d2⟩ := (deeds_dat (n := 2 + s.length) (k := 0) (s := s) (by omega) (by omega)).py
  obtain ⟨qs, e3, rfl⟩ := py_tup e2
  unfold gInB
  rw [e1, e2]
  show (if SeqAt.shaped p && SeqAt.shaped (.tuple qs) then _ else _) = _
  rw [shaped_of c1 (by omega), shaped_of c2 (by omega), any_eqv e1 e3]
  rfl
theorem in_tup {x : De} {s : List De} : gInA (.tup [.str x.1.s, .int x.2]) (.tup (s.map De.d)) = some (.val (.bl (decide (x ∈ s)))) := inB_tup (f := id)
theorem notin_tup {x : De} {s : List De} : gNotInA (.tup [.str x.1.s, .int x.2]) (.tup (s.map De.d)) = some (.val (.bl (!decide (x ∈ s)))) := inB_tup (f := not)
theorem notin_tupS {p : Int} {s : List De} : gNotInA (.tup [.str "sign", .int p]) (.tup (s.map De.d)) = some (.val (.bl (!decide ((Wd.sign, p) ∈ s)))) := notin_tup (x := (Wd.sign, p))
/-! which deeds can be done -/
def canB (s : List De) (x : De) : Bool := !decide (x ∈ s) && match x.1 with
  | .papers => decide ((Wd.sign, x.2) ∈ s)
  | .sign => true
  | .mark => !decide ((Wd.sign, x.2) ∈ s)
def okDs (s : List De) : List De → Bool
  | [] => true
  | x :: r => canB s x && okDs (s ++ [x]) r
theorem okDs_app : ∀ {r s : List De} {x : De}, okDs s (r ++ [x]) = (okDs s r && canB (s ++ r) x)
  | [], s, x => by
    show (canB s x && true) = (true && canB (s ++ []) x)
    rw [List.append_nil, Bool.and_true, Bool.true_and]
  | y :: r, s, x => by
    show (canB s y && okDs (s ++ [y]) (r ++ [x])) = ((canB s y && okDs (s ++ [y]) r) && canB (s ++ y :: r) x)
    rw [okDs_app, Bool.and_assoc, List.append_assoc]
    rfl
theorem okDs_take : ∀ {r s : List De} (n : Nat), okDs s r = true → okDs s (r.take n) = true
  | [], s, n, h => by rw [List.take_nil]; exact h
  | x :: r, s, 0, h => rfl
  | x :: r, s, n + 1, h => by
    obtain ⟨h1, h2⟩ := Bool.and_eq_true_iff.mp (show (canB s x && okDs (s ++ [x]) r) = true from h)
    show (canB s x && okDs (s ++ [x]) (r.take n)) = true
    rw [h1, okDs_take n h2]
    rfl
def PapS (s : List De) : Prop := ∀ p, (Wd.papers, p) ∈ s → (Wd.sign, p) ∈ s
theorem okDs_pap : ∀ {r s : List De}, PapS s → okDs s r = true → PapS (s ++ r)
  | [], s, hs, _ => by rw [List.append_nil]; exact hs
  | x :: r, s, hs, h => by
    obtain ⟨h1, h2⟩ := Bool.and_eq_true_iff.mp (show (canB s x && okDs (s ++ [x]) r) = true from h)
    have : PapS (s ++ [x]) := fun p m => by
      rcases List.mem_append.mp m with m | m
      · exact List.mem_append_left _ (hs p m)
      · have e : x = (Wd.papers, p) := (List.mem_singleton.mp m).symm
        subst e
        obtain ⟨_, h3⟩ := Bool.and_eq_true_iff.mp h1
        exact List.mem_append_left _ (of_decide_eq_true h3)
    have := okDs_pap this h2
    rw [List.append_assoc] at this
    exact this
theorem pap_ok {r : List De} (h : okDs [] r = true) : PapS r := okDs_pap (s := []) (fun p m => by cases m) h
/-! where letters go -/
def goP (a b : Numb) (M : Int) (s : List De) (p : Int) : Option Int :=
  if (Wd.mark, p) ∈ s ∧ (Wd.papers, p) ∉ s then some p
  else if (Wd.papers, p) ∈ s then (match giverP a b M p with
    | some o => if (Wd.sign, o) ∉ s ∧ (Wd.mark, o) ∉ s then some o else some p
    | none => some p)
  else match heirP a b M p with
    | some h => if h ≠ p ∧ (Wd.sign, h) ∈ s then some h else if (Wd.sign, p) ∉ s ∨ h = p then some p else none
    | none => if (Wd.sign, p) ∉ s then some p else none
def bearP (a b : Numb) (M : Int) (s : List De) (q : Int) : Option Int := if (Wd.sign, q) ∈ s then some (b.no M q) else if (Wd.mark, q) ∈ s then none else some (a.no M q)
def numP (a b : Numb) (M : Int) (s : List De) (p : Int) : Int := if (Wd.papers, p) ∈ s then b.no M p else a.no M p
def othP (a b : Numb) (M : Int) (s : List De) (p : Int) : List Int := (rngI 0 M.toNat).filter fun q => decide (q ≠ p) && decide (bearP a b M s q = some (numP a b M s p))
def lawP (a b : Numb) (M : Int) (s : List De) (p : Int) : Option Int := if (Wd.mark, p) ∈ s ∧ (Wd.papers, p) ∉ s then some p else match othP a b M s p with
  | q :: _ => some q
  | [] => if bearP a b M s p = some (numP a b M s p) then some p else none
theorem filter_one {n : Nat} {q : Int → Bool} {h : Int} (h0 : 0 ≤ h) (h1 : h < n) (hq : ∀ x ∈ rngI 0 n, q x = true ↔ x = h) : (rngI 0 n).filter q = [h] := by
  have := rngI_filter (lo := 0) (a := h) (b := h) (n := n) (q := q) h0 (by omega) (by omega) fun x hx => by rw [hq x hx]; omega
  rw [this]
  have e : (h + 1 - h).toNat = 1 := by omega
  rw [e]
  simp [rngI]
theorem law_goes {a b : Numb} (h : POk a b) {M p : Int} {s : List De} (hs : PapS s) (p0 : 0 ≤ p) (p1 : p < M) : lawP a b M s p = goP a b M s p := by
  have hM : ((M.toNat : Nat) : Int) = M := by omega
  have inA : ∀ q, 0 ≤ q → q < M → a.no M q = a.no M p → q = p := fun q q0 q1 e => Numb.no_inj h.a q0 q1 p0 p1 e
  have inB : ∀ q, 0 ≤ q → q < M → b.no M q = b.no M p → q = p := fun q q0 q1 e => Numb.no_inj h.b q0 q1 p0 p1 e
  unfold lawP goP
  by_cases c1 : (Wd.mark, p) ∈ s ∧ (Wd.papers, p) ∉ s
  · rw [if_pos c1, if_pos c1]
  rw [if_neg c1, if_neg c1]
  by_cases c2 : (Wd.papers, p) ∈ s
  · have c3 : (Wd.sign, p) ∈ s := hs p c2
    have en : numP a b M s p = b.no M p := if_pos c2
    have eb : bearP a b M s p = some (numP a b M s p) := by rw [en]; exact if_pos c3
    rw [if_pos c2, if_pos eb]
    have key : ∀ q, 0 ≤ q → q < M → ((decide (q ≠ p) && decide (bearP a b M s q = some (numP a b M s p))) = true ↔ giverP a b M p = some q ∧ (Wd.sign, q) ∉ s ∧ (Wd.mark, q) ∉ s) := fun q q0 q1 => by
      rw [Bool.and_eq_true, decide_eq_true_eq, decide_eq_true_eq, en, giver_iff h]
      unfold bearP
      constructor
      · rintro ⟨n, e⟩
        by_cases d1 : (Wd.sign, q) ∈ s
        · rw [if_pos d1] at e
          exact absurd (inB q q0 q1 (Option.some.inj e)) n
        · rw [if_neg d1] at e
          by_cases d2 : (Wd.mark, q) ∈ s
          · rw [if_pos d2] at e; cases e
          · rw [if_neg d2] at e
            exact ⟨⟨q0, q1, Option.some.inj e⟩, d1, d2⟩
      · rintro ⟨⟨_, _, e⟩, d1, d2⟩
        rw [if_neg d1, if_neg d2, e]
        exact ⟨fun z => d1 (z ▸ c3), rfl⟩
    unfold othP
    cases g : giverP a b M p with
    | none =>
      rw [rngI_none fun x hx => ?_]
      obtain ⟨x0, x1⟩ := rngI_mem hx
      have := key x (by omega) (by omega)
      rw [g] at this
      cases z : (decide (x ≠ p) && decide (bearP a b M s x = some (numP a b M s p))) with
      | false => rfl
      | true => exact absurd (this.mp z).1 (by simp)
    | some o =>
      obtain ⟨o0, o1, _⟩ := (giver_iff h).mp g
      by_cases d : (Wd.sign, o) ∉ s ∧ (Wd.mark, o) ∉ s
      · rw [filter_one (h := o) o0 (by omega) fun x hx => ?_]
        · show some o = if _ then _ else _
          rw [if_pos d]
        · obtain ⟨x0, x1⟩ := rngI_mem hx
          rw [key x (by omega) (by omega), g]
          constructor
          · intro ⟨e, _⟩
            exact (Option.some.inj e).symm
          · intro e
            subst e
            exact ⟨rfl, d⟩
      · rw [rngI_none fun x hx => ?_]
        · show some p = if _ then _ else _
          rw [if_neg d]
        · obtain ⟨x0, x1⟩ := rngI_mem hx
          have := key x (by omega) (by omega)
          rw [g] at this
          cases z : (decide (x ≠ p) && decide (bearP a b M s x = some (numP a b M s p))) with
          | false => rfl
          | true =>
            obtain ⟨e, k⟩ := this.mp z
            cases e
            exact absurd k d
  · have c3 : (Wd.mark, p) ∉ s := fun z => c1 ⟨z, c2⟩
    have en : numP a b M s p = a.no M p := if_neg c2
    rw [if_neg c2]
    have key : ∀ q, 0 ≤ q → q < M → ((decide (q ≠ p) && decide (bearP a b M s q = some (numP a b M s p))) = true ↔ heirP a b M p = some q ∧ q ≠ p ∧ (Wd.sign, q) ∈ s) := fun q q0 q1 => by
      rw [Bool.and_eq_true, decide_eq_true_eq, decide_eq_true_eq, en, heir_iff h]
      unfold bearP
      constructor
      · rintro ⟨n, e⟩
        by_cases d1 : (Wd.sign, q) ∈ s
        · rw [if_pos d1] at e
          exact ⟨⟨q0, q1, Option.some.inj e⟩, n, d1⟩
        · rw [if_neg d1] at e
          by_cases d2 : (Wd.mark, q) ∈ s
          · rw [if_pos d2] at e; cases e
          · rw [if_neg d2] at e
            exact absurd (inA q q0 q1 (Option.some.inj e)) n
      · rintro ⟨⟨_, _, e⟩, n, d1⟩
        rw [if_pos d1, e]
        exact ⟨n, rfl⟩
    have eb : bearP a b M s p = some (numP a b M s p) ↔ ((Wd.sign, p) ∉ s ∨ heirP a b M p = some p) := by
      rw [en]
      unfold bearP
      by_cases d : (Wd.sign, p) ∈ s
      · rw [if_pos d, heir_iff h]
        constructor
        · intro e
          exact .inr ⟨p0, p1, Option.some.inj e⟩
        · rintro (e | ⟨_, _, e⟩)
          · exact absurd d e
          · rw [e]
      · rw [if_neg d, if_neg c3]
        exact ⟨fun _ => .inl d, fun _ => rfl⟩
    unfold othP
    cases g : heirP a b M p with
    | none =>
      rw [g] at eb
      rw [rngI_none fun x hx => ?_]
      · show (if _ then _ else _) = if _ then _ else _
        by_cases d : (Wd.sign, p) ∉ s
        · rw [if_pos (eb.mpr (.inl d)), if_pos d]
        · rw [if_neg (fun z => (eb.mp z).elim d (fun z => by cases z)), if_neg d]
      · obtain ⟨x0, x1⟩ := rngI_mem hx
        have := key x (by omega) (by omega)
        rw [g] at this
        cases z : (decide (x ≠ p) && decide (bearP a b M s x = some (numP a b M s p))) with
        | false => rfl
        | true => exact absurd (this.mp z).1 (by simp)
    | some o =>
      obtain ⟨o0, o1, _⟩ := (heir_iff h).mp g
      rw [g] at eb
      by_cases d : o ≠ p ∧ (Wd.sign, o) ∈ s
      · rw [filter_one (h := o) o0 (by omega) fun x hx => ?_]
        · show some o = if _ then _ else _
          rw [if_pos d]
        · obtain ⟨x0, x1⟩ := rngI_mem hx
          rw [key x (by omega) (by omega), g]
          constructor
          · intro ⟨e, _⟩
            exact (Option.some.inj e).symm
          · intro e
            subst e
            exact ⟨rfl, d⟩
      · rw [rngI_none fun x hx => ?_]
        · show (if _ then _ else _) = if _ then _ else if _ then _ else _
          rw [if_neg d]
          by_cases d2 : (Wd.sign, p) ∉ s ∨ o = p
          · rw [if_pos (eb.mpr (d2.imp id fun z => by rw [z])), if_pos d2]
          · rw [if_neg (fun z => d2 ((eb.mp z).imp id fun z => Option.some.inj z)), if_neg d2]
        · obtain ⟨x0, x1⟩ := rngI_mem hx
          have := key x (by omega) (by omega)
          rw [g] at this
          cases z : (decide (x ≠ p) && decide (bearP a b M s x = some (numP a b M s p))) with
          | false => rfl
          | true =>
            obtain ⟨e, k⟩ := this.mp z
            cases e
            exact absurd k d
end PF
namespace PF
open PySem PySem.Spec PyProof.Rows L2
/-! ## cuts, first harm -/
theorem cut_take {ds : List D} {m : Int} (h0 : 0 ≤ m) : PF.cutD ds none (some m) = ds.take m.toNat := by
  obtain ⟨k, rfl⟩ := Int.eq_ofNat_of_zero_le h0
  have e : HT.sIx ds.length ds.length (some (k : Int)) = min k ds.length := HT.sIx_nat _ _ k
  unfold PF.cutD
  rw [e, HT.sIx_none, List.drop_zero, Nat.sub_zero, Int.toNat_natCast]
  rw [← List.take_take, List.take_length]
theorem gEq_oi {o : Option Int} {n : Int} : gEq (oInt o) (.int n) = some (.val (.bl (decide (o = some n)))) := by
  cases o with
  | none => rfl
  | some k =>
    show gEq (.int k) (.int n) = _
    rw [gEq_int]
    congr 3
    by_cases c : k = n
    · subst c; simp
    · simp [c]
theorem gEq_oo {o : Option Int} : gEq (oInt o) (oInt o) = some (.val (.bl true)) := by
  cases o with
  | none => rfl
  | some k =>
    have := gEq_oi (o := some k) (n := k)
    rw [decide_eq_true rfl] at this
    exact this
theorem gNe_l0 {xs : List Int} : gNe (.lst (xs.map D.int)) (.lst []) = some (.val (.bl (!decide (xs = [])))) := by
  have e : xs.map D.int = (xs.map some).map oInt := by rw [List.map_map]; rfl
  have := gNe_os (xs := xs.map some) (ys := [])
  rw [← e] at this
  rw [show (D.lst []) = .lst (([] : List (Option Int)).map oInt) from rfl, this]
  congr 4
  simp
def hurt (a b : Numb) (M : Int) (s : List De) (p : Int) : Option Int := match goP a b M s p with
  | some q => if q = p then none else some q
  | none => none
def harmP (a b : Numb) (M : Int) (s : List De) : Option D := ((rngI 0 M.toNat).map D.int).findSome? fun p => (hurt a b M s (iOf p)).map fun q => .tup [p, .int q]
def harmM (a b : Numb) (M m : Int) (s : List De) : Option D := ((rngI 0 M.toNat).map fun p => D.tup [.int p, oInt (goP a b M s p)]).findSome? fun d => match d with
  | .tup [.int p, _] => (hurt a b M s p).map fun q => .tup [.int m, .int p, .int q]
  | _ => none
def fHarm (a b : Numb) (M : Int) (ds : List De) : Option D := ((rngI 0 (ds.length + 1)).map D.int).findSome? fun m => harmM a b M (iOf m) (ds.take (iOf m).toNat)
def consT (m : Int) : D → D
  | .tup xs => .tup (.int m :: xs)
  | d => d
theorem harm_cons {a b : Numb} {M m : Int} {s : List De} : (harmP a b M s).map (consT m) = harmM a b M m s := by
  unfold harmP harmM
  rw [List.findSome?_map, List.findSome?_map, List.map_findSome?]
  congr 1
  funext p
  show (((hurt a b M s p).map fun q => D.tup [.int p, .int q]).map (consT m)) = (hurt a b M s p).map _
  cases hurt a b M s p <;> rfl
theorem harm_tup {a b : Numb} {M : Int} {s : List De} {r : D} (h : harmP a b M s = some r) : ∃ p q, r = .tup [.int p, .int q] := by
  unfold harmP at h
  obtain ⟨d, hd, e⟩ := List.exists_of_findSome?_eq_some h
  obtain ⟨p, _, rfl⟩ := List.mem_map.mp hd
  obtain ⟨q, _, e⟩ := Option.map_eq_some_iff.mp e
  exact ⟨p, q, e.symm⟩
theorem harmM_tup {a b : Numb} {M m : Int} {s : List De} {r : D} (h : harmM a b M m s = some r) : ∃ p q, r = .tup [.int m, .int p, .int q] := by
  rw [← harm_cons] at h
  obtain ⟨r', h1, rfl⟩ := Option.map_eq_some_iff.mp h
  obtain ⟨p, q, rfl⟩ := harm_tup h1
  exact ⟨p, q, rfl⟩
theorem fharm_dat {a b : Numb} {M : Int} {ds : List De} : Dat 3 1 ((fHarm a b M ds).getD .non) := by
  cases h : fHarm a b M ds with
  | none => exact .non
  | some r =>
    unfold fHarm at h
    obtain ⟨d, _, e⟩ := List.exists_of_findSome?_eq_some h
    obtain ⟨p, q, rfl⟩ := harmM_tup e
    refine .tup (by simp) fun d hd => ?_
    simp only [List.mem_cons, List.not_mem_nil, or_false] at hd
    rcases hd with hd | hd | hd <;> subst hd <;> exact .int _
def goL (a b : Numb) (M : Int) (s : List De) : List (Option Int) := (rngI 0 M.toNat).map fun p => goP a b M s p
def lawL (a b : Numb) (M : Int) (s : List De) : List (Option Int) := (rngI 0 M.toNat).map fun p => lawP a b M s p
theorem lawL_eq {a b : Numb} (h : POk a b) {M : Int} {s : List De} (hs : PapS s) : lawL a b M s = goL a b M s := by
  unfold lawL goL
  refine List.map_congr_left fun p hp => ?_
  obtain ⟨p0, p1⟩ := rngI_mem hp
  exact law_goes h hs p0 (by omega)
end PF
namespace PF
open PySem PySem.Spec PyProof.Rows L2
/-! ## x += e, x -= e (ints), list(range(n)) -/
def kAg3 (g : Int → Int → Int) (i : Nat) (k : Int) (en : En) : Option D → SR
  | some (.int m) => kS1 (setO i (.val (.int (g k m))) en)
  | _ => .stuck
def kAg2 (g : Int → Int → Int) (i : Nat) (k : Int) (o : Op) (en : En) : SR := kAg3 g i k en (view o en)
def kAg1 (g : Int → Int → Int) (i : Nat) (f : EF) (en : En) : Option Sl → SR
  | some (.fz (.int k)) => (PF.settle (f en)).bind (kAg2 g i k)
  | _ => .stuck
def sAug (g : Int → Int → Int) (i : Nat) (f : EF) : SF := fun en => kAg1 g i f en en[i]?
section
variable {g : Int → Int → Int} {i : Nat} {f : EF} {en : En}
theorem ev_aug : sAug g i f en = kAg1 g i f en en[i]? := rfl
theorem ev_aug1 {k : Int} : kAg1 g i f en (some (.fz (.int k))) = (PF.settle (f en)).bind (kAg2 g i k) := rfl
theorem ev_aug2 {k : Int} {o : Op} : kAg2 g i k o en = kAg3 g i k en (view o en) := rfl
theorem ev_aug3 {k m : Int} : kAg3 g i k en (some (.int m)) = kS1 (setO i (.val (.int (g k m))) en) := rfl
end
section
variable {X : Cx} {T : List (Addr × Str)} {W : WX} {a e : Expr} {fa f : EF} {p p2 pos pos2 : Pos}
theorem ds_augI {i : Nat} {x : Str} {op : Operator} {g : Int → Int → Int} {pos' : Pos} (hip : PIp X op (ipI g)) (hN : X.N.Nodup) (he : DE X T W e f) (hi : X.N[i]? = some x := by rfl) (hx : Loc X.env.scope x := by first | exact Or.inl rfl | exact Or.inr rfl) (hf : X.fn x = true ∨ X.env.scope.names.lookup x = some .local := by first | exact .inl rfl | exact .inr rfl | assumption) :
    DS X T W (.AugAssign (.Name x pos') op e pos) (sAug g i f) :=
  ps_of (ps_aug hN hi hx (de_settle he) hip hf) fun σ H D _ ⟨G, en, R, p⟩ => by
    have p : PostS X.K X.mg T W G σ H en D (kAg1 g i f en en[i]?) := p
    cases e0 : en[i]? with
    | none => rw [e0] at p; exact p.elim
    | some sl =>
      rw [e0] at p
      cases sl with
      | un => exact p.elim
      | ow _ _ => exact p.elim
      | fz d0 =>
        cases d0 with
        | int k =>
          obtain ⟨v, x, rv⟩ := R.at_ i _ e0
          cases rv
          refine ⟨.int k, x, G, en, R, stepS R p fun o en1 v H1 G1 R1 ro n1 s1 p1 => ?_⟩
          have p1 : PostS X.K X.mg T W G1 σ H1 en1 D (kAg3 g i k en1 (view o en1)) := p1
          cases qv : view o en1 with
          | none => rw [qv] at p1; exact p1.elim
          | some d =>
            rw [qv] at p1
            have rv := view_ok R1 ro qv
            cases d with
            | int m =>
              cases repV_int rv
              refine ⟨k, m, rfl, rfl, fun hf => ?_⟩
              have p1 : PostS X.K X.mg T W G1 σ H1 en1 D (kS1 (setO i (.val (.int (g k m))) en1)) := p1
              cases qs : setO i (.val (.int (g k m))) en1 with
              | none => rw [qs] at p1; exact p1.elim
              | some en2 =>
                rw [qs] at p1
                obtain ⟨G2, R2, f2, i2, s2⟩ := setO_ok R1 (v := .int (g k m)) (show RelO X.K G1 H1 σ en1 (.val (.int (g k m))) (.int (g k m)) from .int _) qs
                exact p1 _ H1 G2 R2 ⟨fun b u e n no => f2.keep b u e n (fun z => no (z.elim id fun z => z.elim)), fun p z => (f2.new p z).imp (fun z => z.elim id fun z => z.elim) id⟩ i2
            | _ => exact p1.elim
        | _ => exact p.elim
theorem ds_addI {i : Nat} {x : Str} {pos' : Pos} (hN : X.N.Nodup) (he : DE X T W e f) (hi : X.N[i]? = some x := by rfl) (hx : Loc X.env.scope x := by first | exact Or.inl rfl | exact Or.inr rfl) (hf : X.fn x = true ∨ X.env.scope.names.lookup x = some .local := by first | exact .inl rfl | exact .inr rfl | assumption) :
    DS X T W (.AugAssign (.Name x pos') .Add e pos) (sAug (fun i j => i + j) i f) := ds_augI ip_add hN he hi hx hf
theorem ds_subI {i : Nat} {x : Str} {pos' : Pos} (hN : X.N.Nodup) (he : DE X T W e f) (hi : X.N[i]? = some x := by rfl) (hx : Loc X.env.scope x := by first | exact Or.inl rfl | exact Or.inr rfl) (hf : X.fn x = true ∨ X.env.scope.names.lookup x = some .local := by first | exact .inl rfl | exact .inr rfl | assumption) :
    DS X T W (.AugAssign (.Name x pos') .Sub e pos) (sAug (fun i j => i - j) i f) := ds_augI ip_sub hN he hi hx hf
def kLr1 (en : En) : Option D → ER
  | some (.int j) => if -16777216 ≤ j ∧ j ≤ 16777216 then .ok (.fresh (.lst (rngD 0 j.toNat))) en else .stuck
  | _ => .stuck
def kLr0 (o : Op) (en : En) : ER := kLr1 en (view o en)
def eRng1 (f : EF) : EF := fun en => (PF.settle (f en)).bind kLr0
theorem ev_lr1 {en : En} : eRng1 f en = (PF.settle (f en)).bind kLr0 := rfl
theorem ev_lr2 {en : En} {o : Op} : kLr0 o en = kLr1 en (view o en) := rfl
theorem ev_lr3 {en : En} {j : Int} (h : -16777216 ≤ j ∧ j ≤ 16777216) : kLr1 en (some (.int j)) = .ok (.fresh (.lst (rngD 0 j.toNat))) en := if_pos h
theorem de_listR1 (hc : X.calm = true) (hm : X.mg "list" = none) (hm2 : X.mg "range" = none) (ha : DE X T W a fa) (hg : Gl X "list" := by rfl) (hg2 : Gl X "range" := by rfl)
    (na : starEach [a] X.env = (false, eval a X.env) :: starEach [] X.env := by rfl)
    (nr : starEach [.Call (.Name "range" p2) [a] [] pos2] X.env = (false, eval (.Call (.Name "range" p2) [a] [] pos2) X.env) :: starEach [] X.env := by rfl) :
    DE X T W (.Call (.Name "list" p) [.Call (.Name "range" p2) [a] [] pos2] [] pos) (eRng1 fa) :=
  pe_of (pe_listRg hc hg hm (prg_1 hg2 hm2 (de_settle ha) na) nr) fun σ H Q _ ⟨G, en, R, p⟩ => by
    refine ⟨G, en, R, stepE R p fun o en1 v H1 G1 R1 ro n1 s1 p1 => ?_⟩
    have p1 : PostE X.K X.mg T W G1 σ H1 en1 Q (kLr1 en1 (view o en1)) := p1
    cases qv : view o en1 with
    | none => rw [qv] at p1; exact p1.elim
    | some d =>
      rw [qv] at p1
      have rv := view_ok R1 ro qv
      cases d with
      | int j =>
        cases repV_int rv
        by_cases c : -16777216 ≤ j ∧ j ≤ 16777216
        · rw [ev_lr3 c] at p1
          refine ⟨j, rfl, ⟨by omega, by omega, by omega, by omega, by omega⟩, fun q hq hf => ?_⟩
          have e : (j - 0).toNat = j.toNat := by omega
          obtain ⟨G3, R3, ro3, f3⟩ := out_ok R1 (Out.newf (K := X.K) (d := .lst (rngD 0 j.toNat)) hq (.lst (by
            have := repl_rng (K := X.K) (G := G1) 0 (List.range (j - 0).toNat)
            rw [e] at this
            unfold rgV
            rw [e]
            exact this))) hf
          exact p1 (.ref q) _ _ R3 ro3 f3 (IoK.refl en1)
        · rw [show kLr1 en1 (some (.int j)) = .stuck from if_neg c] at p1; exact p1.elim
      | _ => exact p1.elim
end
end PF
namespace PF
open PySem PySem.Spec PyProof.Rows L2
/-! ## xs += a new list -/
def kEx (i : Nat) (es : List D) (en : En) : Option Sl → SR
  | some (.ow b (.lst ds)) => if ds.length + es.length ≤ SZ then .ok .nx (en.set i (.ow b (.lst (ds ++ es)))) else .stuck
  | _ => .stuck
def kEx1 (i : Nat) (o : Op) (en : En) : SR := match o with
  | .fresh (.lst es) => kEx i es en en[i]?
  | _ => .stuck
def kEx0 (i : Nat) (f : EF) (en : En) : Option Sl → SR
  | some (.ow _ (.lst _)) => (f en).bind (kEx1 i)
  | _ => .stuck
def sExt (i : Nat) (f : EF) : SF := fun en => kEx0 i f en en[i]?
section
variable {i : Nat} {f : EF} {en : En} {b : Bool} {ds es : List D}
theorem ev_ext : sExt i f en = kEx0 i f en en[i]? := rfl
theorem ev_ext1 : kEx0 i f en (some (.ow b (.lst ds))) = (f en).bind (kEx1 i) := rfl
theorem ev_ext2 : kEx1 i (.fresh (.lst es)) en = kEx i es en en[i]? := rfl
theorem ev_ext3 (h : ds.length + es.length ≤ 16777216) : kEx i es en (some (.ow b (.lst ds))) = .ok .nx (en.set i (.ow b (.lst (ds ++ es)))) := if_pos h
end
section
variable {X : Cx} {T : List (Addr × Str)} {W : WX} {e : Expr} {f : EF} {pos : Pos}
theorem set_same {σ : L2.St} {i : Nat} {x : Option V} (h : σ[i]? = some x) : σ.set i x = σ := by
  refine List.ext_getElem? fun j => ?_
  by_cases c : i = j
  · subst c
    rw [List.getElem?_set_self (List.getElem?_eq_some_iff.mp h).1, h]
  · rw [List.getElem?_set_ne c]
theorem ds_ext {i : Nat} {x : Str} {pos' : Pos} (hN : X.N.Nodup) (he : DE X T W e f) (hi : X.N[i]? = some x := by rfl) (hx : Loc X.env.scope x := by first | exact Or.inl rfl | exact Or.inr rfl) (hf : X.fn x = true ∨ X.env.scope.names.lookup x = some .local := by first | exact .inl rfl | exact .inr rfl | assumption) :
    DS X T W (.AugAssign (.Name x pos') .Add e pos) (sExt i f) :=
  ps_of (ps_aug hN hi hx he (ti := rExt2) iop_ext hf) fun σ H D _ ⟨G, en, R, p⟩ => by
    have p : PostS X.K X.mg T W G σ H en D (kEx0 i f en en[i]?) := p
    cases e0 : en[i]? with
    | none => rw [e0] at p; exact p.elim
    | some sl =>
      rw [e0] at p
      cases sl with
      | un => exact p.elim
      | fz _ => exact p.elim
      | ow b0 d0 =>
        cases d0 with
        | lst ds0 =>
          obtain ⟨q, x, hg0, o0, ho0, ro0⟩ := R.at_ i _ e0
          have p : PostS X.K X.mg T W G σ H en D ((f en).bind (kEx1 i)) := p
          refine ⟨.ref q, x, G, en, R, ?_⟩
          cases qf : f en with
          | exc c pl en1 =>
            rw [qf] at p
            exact excS_P p
          | stuck =>
            rw [qf] at p
            exact p
          | ok o en1 =>
            rw [qf] at p
            intro v H1 G1 R1 ro fr io
            have p : PostS X.K X.mg T W G σ H en D (kEx1 i o en1) := p
            cases o with
            | val _ => exact p.elim
            | slot _ => exact p.elim
            | fresh d =>
              cases d with
              | lst es =>
                obtain ⟨pa, rfl, ⟨hg, o', ho, ro'⟩, no⟩ := ro
                cases ro' with
                | @lst _ zs rl2 =>
                  have p : PostS X.K X.mg T W G σ H en D (kEx i es en1 en1[i]?) := p
                  cases e1 : en1[i]? with
                  | none => rw [e1] at p; exact p.elim
                  | some sl1 =>
                    rw [e1] at p
                    cases sl1 with
                    | un => exact p.elim
                    | fz _ => exact p.elim
                    | ow b d1 =>
                      cases d1 with
                      | lst ds =>
                        obtain ⟨q', x', hg', o2, ho2, ro2⟩ := R1.at_ i _ e1
                        rw [x] at x'
                        cases x'
                        cases ro2 with
                        | @lst _ xs rl =>
                          by_cases c : ds.length + es.length ≤ SZ
                          · have p : PostS X.K X.mg T W G σ H en D (.ok .nx (en1.set i (.ow b (.lst (ds ++ es))))) := by
                              rw [show kEx i es en1 (some (.ow b (.lst ds))) = .ok .nx (en1.set i (.ow b (.lst (ds ++ es)))) from if_pos c] at p
                              exact p
                            have hl : xs.length + zs.length ≤ SZ := by rw [← rl.len, ← rl2.len]; exact c
                            refine ⟨q, pa, xs, zs, rfl, rfl, ho2, ho, by rw [sz_eq]; exact hl, ?_⟩
                            show HF X.K (upd H1 q (.lst (xs ++ zs))) → D.nx (σ.set i (some (.ref q))) (upd H1 q (.lst (xs ++ zs)))
                            intro hf
                            rw [set_same x]
                            obtain ⟨R3, f3, i3⟩ := R1.put e1 x (.lst (rl.app rl2)) hf
                            refine p σ _ G1 R3 (fr.trans ⟨fun b u e n no => f3.keep b u e n (fun z => no (.inl z)), fun p z => (f3.new p z).imp .inl id⟩) (io.trans i3).s
                          · rw [show kEx i es en1 (some (.ow b (.lst ds))) = .stuck from if_neg c] at p
                            exact p.elim
                      | _ => exact p.elim
              | _ => exact p.elim
        | _ => exact p.elim
end
end PF
namespace PF
open PySem PySem.Spec PyProof.Rows L2
/-! ## when deeds do no harm -/
def Fine (a b : Numb) (M : Int) (s : List De) : Prop := ∀ p h, 0 ≤ p → p < M → heirP a b M p = some h → h ≠ p → (Wd.sign, h) ∈ s → (Wd.papers, p) ∈ s ∨ (Wd.mark, p) ∈ s
theorem hurt_fine {a b : Numb} (k : POk a b) {M : Int} {s : List De} (hs : PapS s) (f : Fine a b M s) {p : Int} (p0 : 0 ≤ p) (p1 : p < M) : hurt a b M s p = none := by
  have key : goP a b M s p = none ∨ goP a b M s p = some p := by
    unfold goP
    by_cases c1 : (Wd.mark, p) ∈ s ∧ (Wd.papers, p) ∉ s
    · rw [if_pos c1]; exact .inr rfl
    rw [if_neg c1]
    by_cases c2 : (Wd.papers, p) ∈ s
    · rw [if_pos c2]
      cases g : giverP a b M p with
      | none => exact .inr rfl
      | some o =>
        show (if _ then _ else _) = _ ∨ (if _ then _ else _) = _
        by_cases d : (Wd.sign, o) ∉ s ∧ (Wd.mark, o) ∉ s
        · exfalso
          obtain ⟨o0, o1, e⟩ := (giver_iff k).mp g
          have hh : heirP a b M o = some p := (heir_iff k).mpr ⟨p0, p1, e.symm⟩
          by_cases op : p = o
          · subst op
            exact d.1 (hs p c2)
          · rcases f o p o0 o1 hh op (hs p c2) with z | z
            · exact d.1 (hs o z)
            · exact d.2 z
        · rw [if_neg d]; exact .inr rfl
    · rw [if_neg c2]
      have c3 : (Wd.mark, p) ∉ s := fun z => c1 ⟨z, c2⟩
      cases g : heirP a b M p with
      | none =>
        show (if _ then _ else _) = _ ∨ (if _ then _ else _) = _
        by_cases d : (Wd.sign, p) ∉ s
        · rw [if_pos d]; exact .inr rfl
        · rw [if_neg d]; exact .inl rfl
      | some h =>
        show (if _ then _ else if _ then _ else _) = _ ∨ (if _ then _ else if _ then _ else _) = _
        by_cases d : h ≠ p ∧ (Wd.sign, h) ∈ s
        · rcases f p h p0 p1 g d.1 d.2 with z | z
          · exact absurd z c2
          · exact absurd z c3
        · rw [if_neg d]
          by_cases d2 : (Wd.sign, p) ∉ s ∨ h = p
          · rw [if_pos d2]; exact .inr rfl
          · rw [if_neg d2]; exact .inl rfl
  unfold hurt
  rcases key with e | e
  · rw [e]
  · rw [e]; exact if_pos rfl
theorem harmM_fine {a b : Numb} (k : POk a b) {M m : Int} {s : List De} (hs : PapS s) (f : Fine a b M s) : harmM a b M m s = none := by
  unfold harmM
  rw [List.findSome?_eq_none_iff]
  intro d hd
  obtain ⟨p, hp, rfl⟩ := List.mem_map.mp hd
  obtain ⟨p0, p1⟩ := rngI_mem hp
  show (hurt a b M s p).map _ = none
  rw [hurt_fine k hs f p0 (by omega)]
  rfl
theorem fharm_fine {a b : Numb} (k : POk a b) {M : Int} {ds : List De} (ho : okDs [] ds = true) (f : ∀ n, Fine a b M (ds.take n)) : fHarm a b M ds = none := by
  unfold fHarm
  rw [List.findSome?_eq_none_iff]
  intro d hd
  obtain ⟨m, hm, rfl⟩ := List.mem_map.mp hd
  exact harmM_fine k (pap_ok (okDs_take _ ho)) (f _)
end PF
namespace PF
open PySem PySem.Spec PyProof.Rows L2
/-! ## dicts of houses that were seen; walks along the heirs -/
def IsSeen (kvs : List (Key × D)) (s : List Int) : Prop := ∀ p : Int, valD kvs (.inl p) = if p ∈ s then some (.bl true) else none
theorem seen_nil : IsSeen [] [] := fun p => by rw [if_neg (by simp)]; rfl
theorem seen_put {kvs : List (Key × D)} {s : List Int} (h : IsSeen kvs s) (p : Int) : IsSeen (putD kvs (.inl p) (.bl true)) (s ++ [p]) := fun q => by
  rw [valD_put, h q]
  by_cases e : q = p
  · subst e
    rw [if_pos rfl, if_pos (by simp)]
  · rw [if_neg (fun z => e (Sum.inl.inj z))]
    by_cases m : q ∈ s
    · rw [if_pos m, if_pos (by simp [m])]
    · rw [if_neg m, if_neg (by simp [m, e])]
theorem in_seen {kvs : List (Key × D)} {s : List Int} (h : IsSeen kvs s) (p : Int) : gInA (.int p) (.dK kvs) = some (.val (.bl (decide (p ∈ s)))) := by
  show dIn id (some (valD kvs (.inl p))) = _
  rw [h p]
  by_cases m : p ∈ s
  · rw [if_pos m, decide_eq_true m]; rfl
  · rw [if_neg m, decide_eq_false m]; rfl
theorem notin_seen {kvs : List (Key × D)} {s : List Int} (h : IsSeen kvs s) (p : Int) : gNotInA (.int p) (.dK kvs) = some (.val (.bl (!decide (p ∈ s)))) := by
  show dIn not (some (valD kvs (.inl p))) = _
  rw [h p]
  by_cases m : p ∈ s
  · rw [if_pos m, decide_eq_true m]; rfl
  · rw [if_neg m, decide_eq_false m]; rfl
theorem dPut_seen {kvs : List (Key × D)} {p : Int} (h : kvs.length < 16777216) : dPut (.dK kvs) (.int p) (.bl true) = some (.dK (putD kvs (.inl p) (.bl true))) := by
  show (if kvs.length < SZ then some (D.dK (putD kvs (.inl p) (.bl true))) else none) = _
  rw [if_pos h]
/-- the row from a place, and where the walk stops -/
def walk (nx : Int → Option Int) : Nat → List Int → Option Int → List Int × Option Int
  | 0, _, o => ([], o)
  | _ + 1, _, none => ([], none)
  | n + 1, s, some p => if p ∈ s then ([], some p) else ((p :: (walk nx n (s ++ [p]) (nx p)).1), (walk nx n (s ++ [p]) (nx p)).2)
/-- all rows: (whether a ring, houses), behind those seen -/
def rowsG (nx : Int → Option Int) (n : Nat) : List Int → List Int → List (Bool × List Int)
  | _, [] => []
  | s, b :: bs => if (walk nx n s (some b)).1 = [] then rowsG nx n s bs else ((walk nx n s (some b)).2.isSome, (walk nx n s (some b)).1) :: rowsG nx n (s ++ (walk nx n s (some b)).1) bs
/-- neighbours of a row are a place and its next one -/
def Linked (nx : Int → Option Int) : List Int → Prop
  | p :: q :: r => nx p = some q ∧ Linked nx (q :: r)
  | _ => True
theorem walk_new {nx : Int → Option Int} : ∀ (n : Nat) (s : List Int) (o : Option Int) (q : Int), q ∈ (walk nx n s o).1 → q ∉ s
  | 0, _, _, q, h => by cases h
  | _ + 1, _, none, q, h => by cases h
  | n + 1, s, some p, q, h => by
    unfold walk at h
    by_cases c : p ∈ s
    · rw [if_pos c] at h; cases h
    · rw [if_neg c] at h
      rcases List.mem_cons.mp h with h | h
      · rw [h]; exact c
      · exact fun z => walk_new n _ _ q h (List.mem_append_left _ z)
theorem walk_nodup {nx : Int → Option Int} : ∀ (n : Nat) (s : List Int) (o : Option Int), (walk nx n s o).1.Nodup
  | 0, _, _ => List.nodup_nil
  | _ + 1, _, none => List.nodup_nil
  | n + 1, s, some p => by
    unfold walk
    by_cases c : p ∈ s
    · rw [if_pos c]; exact List.nodup_nil
    · rw [if_neg c]
      exact List.nodup_cons.mpr ⟨fun z => walk_new n _ _ p z (by simp), walk_nodup n _ _⟩
theorem nodup_len : ∀ (n : Nat) (l : List Int), l.Nodup → (∀ x ∈ l, 0 ≤ x ∧ x < (n : Int)) → l.length ≤ n
  | 0, [], _, _ => Nat.le_refl _
  | 0, x :: l, _, h => by have := h x (by simp); omega
  | n + 1, l, nd, h => by
    by_cases c : (n : Int) ∈ l
    · have := nodup_len n (l.erase (n : Int)) (nd.erase _) fun x hx => by
        obtain ⟨ne, hx⟩ := (List.Nodup.mem_erase_iff nd).mp hx
        have := h x hx
        omega
      rw [List.length_erase_of_mem c] at this
      omega
    · have := nodup_len n l nd fun x hx => by
        have h1 := h x hx
        have : x ≠ (n : Int) := fun z => c (z ▸ hx)
        omega
      omega
theorem walk_in {nx : Int → Option Int} {M : Int} (hn : ∀ p q, nx p = some q → 0 ≤ q ∧ q < M) : ∀ (n : Nat) (s : List Int) (o : Option Int), (∀ p, o = some p → 0 ≤ p ∧ p < M) → ∀ q ∈ (walk nx n s o).1, 0 ≤ q ∧ q < M
  | 0, _, _, _, q, h => by cases h
  | _ + 1, _, none, _, q, h => by cases h
  | n + 1, s, some p, ho, q, h => by
    unfold walk at h
    by_cases c : p ∈ s
    · rw [if_pos c] at h; cases h
    · rw [if_neg c] at h
      rcases List.mem_cons.mp h with h | h
      · rw [h]; exact ho p rfl
      · exact walk_in hn n _ _ (fun r hr => hn p r hr) q h
theorem walk_ends {nx : Int → Option Int} : ∀ (n : Nat) (s : List Int) (o : Option Int), (walk nx n s o).1.length < n → ∀ p, (walk nx n s o).2 = some p → p ∈ s ++ (walk nx n s o).1
  | 0, _, _, h, _, _ => absurd h (Nat.not_lt_zero _)
  | _ + 1, _, none, _, p, h => by cases h
  | n + 1, s, some p, hl, q, h => by
    unfold walk at h hl ⊢
    by_cases c : p ∈ s
    · rw [if_pos c] at h ⊢
      cases h
      exact List.mem_append_left _ c
    · rw [if_neg c] at h hl ⊢
      have := walk_ends n (s ++ [p]) (nx p) (by simpa using hl) q h
      simpa using this
theorem walk_len {nx : Int → Option Int} {M : Int} (hn : ∀ p q, nx p = some q → 0 ≤ q ∧ q < M) (h0 : 0 ≤ M) {n : Nat} {s : List Int} {o : Option Int} (ho : ∀ p, o = some p → 0 ≤ p ∧ p < M) : (walk nx n s o).1.length ≤ M.toNat :=
  nodup_len _ _ (walk_nodup n s o) fun x hx => by
    have := walk_in hn n s o ho x hx
    omega
end PF
namespace PF
open PySem PySem.Spec PyProof.Rows L2
/-! ## a, b, c = x, y, z with a cell among the targets: a laid tuple, whose parts stay own -/
section
variable {X : Cx} {T : List (Addr × Str)} {W : WX} {K : PySem.W.Frag} {G H : Hp} {σ : L2.St} {en : En}
theorem opR_newf {p : Addr} {o : HO} {op : Op} {v : V} (hp : H p = none) (h : RelO K G H σ en op v) : RelO K G (upd H p o) σ en op v := by
  cases op with
  | val d => exact h
  | slot i => exact h
  | fresh d =>
    obtain ⟨q, rfl, ⟨hg, o', ho, r⟩, no⟩ := h
    exact ⟨q, rfl, ⟨hg, o', by rw [upd_ne (ne_of_none ho hp)]; exact ho, r⟩, no⟩
theorem relFs_newf {p : Addr} {o : HO} (hp : H p = none) : ∀ {os : List Op} {vs : List V}, RelFs K G H σ en os vs → RelFs K G (upd H p o) σ en os vs
  | _, _, .nil => .nil
  | _, _, .cons n r d hs => .cons n (opR_newf hp r) d (relFs_newf hp hs)
theorem ds_parT3 {i j l : Nat} {st : Stmt} {g : AF} (h : PS X st (tAsg (tTup (tF X.K X.mg T W g)) (gTup X.K 3 (gCons (gName i) (gCons (gName j) (gCons (gName l) gNil)))))) : DS X T W st (sPar [i, j, l] g) :=
  ps_of h fun σ H D _ ⟨G, en, R, p⟩ => by
    refine ⟨G, en, R, ?_⟩
    unfold sPar at p
    cases q : g en with
    | exc c pl en1 =>
      rw [q] at p
      exact excS_P p
    | stuck =>
      rw [q] at p
      exact p
    | ok os en1 =>
      rw [q] at p
      intro vs H1 G1 R1 rs fr io
      have p : PostS X.K X.mg T W G σ H en D (match setM [i, j, l] os en1 with | some en2 => Res.ok .nx en2 | none => .stuck) := p
      cases z : setM [i, j, l] os en1 with
      | none =>
        rw [z] at p
        exact p.elim
      | some en2 =>
        rw [z] at p
        have hl : vs.length = 3 := by rw [← rs.len, ← setM_len z]; rfl
        refine ⟨by rw [hl, sz_eq]; show 3 ≤ 16777216; omega, fun pp hp => ⟨pp, vs, rfl, SqT.of upd_same, hl, ?_⟩⟩
        match vs, hl, rs, fr with
        | [u, v, w], _, rs, fr =>
          refine ⟨u, _, rfl, v, _, rfl, w, _, rfl, rfl, ?_⟩
          intro hf
          obtain ⟨G2, R2, f2, io2⟩ := setM_ok (R1.newf hp hf) (relFs_newf hp rs) z
          exact p _ _ G2 R2 ((fr.trans ((Fr.layf hp).weak fun q z => .inl z)).trans f2) (io.s.trans io2)
end
end PF
namespace PF
open PySem PySem.Spec PyProof.Rows L2
/-! ## rows: what they hold -/
theorem nodup_sub {α : Type} [DecidableEq α] : ∀ (l m : List α), l.Nodup → (∀ x ∈ l, x ∈ m) → l.length ≤ m.length
  | [], m, _, _ => Nat.zero_le _
  | x :: l, m, nd, h => by
    obtain ⟨nx, nd⟩ := List.nodup_cons.mp nd
    have hx : x ∈ m := h x (by simp)
    have := nodup_sub l (m.erase x) nd fun y hy => (List.mem_erase_of_ne (fun (e : y = x) => nx (e ▸ hy))).mpr (h y (by simp [hy]))
    have l0 := List.length_pos_of_mem hx
    rw [List.length_erase_of_mem hx] at this
    show l.length + 1 ≤ _
    omega
/-- a map of a finite list into itself that joins nothing reaches everything -/
theorem inj_surj {L : List Int} (nd : L.Nodup) {f : Int → Int} (h1 : ∀ x ∈ L, f x ∈ L) (h2 : ∀ x ∈ L, ∀ y ∈ L, f x = f y → x = y) {y : Int} (hy : y ∈ L) : ∃ x ∈ L, f x = y := by
  by_cases c : y ∈ L.map f
  · obtain ⟨x, hx, e⟩ := List.mem_map.mp c
    exact ⟨x, hx, e⟩
  · exfalso
    have nm : (L.map f).Nodup := List.pairwise_map.mpr (nd.imp_of_mem fun {x z} hx hz ne e => ne (h2 x hx z hz e))
    have := nodup_sub (L.map f) (L.erase y) nm fun z hz => by
      obtain ⟨x, hx, rfl⟩ := List.mem_map.mp hz
      exact (List.mem_erase_of_ne (fun (e : f x = y) => c (e ▸ hz))).mpr (h1 x hx)
    have l0 := List.length_pos_of_mem hy
    rw [List.length_erase_of_mem hy, List.length_map] at this
    omega
theorem rngI_nodup {lo : Int} {n : Nat} : (rngI lo n).Nodup := by
  unfold rngI
  exact List.pairwise_map.mpr (List.nodup_range.imp fun {a b} ne e => ne (by omega))
def flat (rs : List (Bool × List Int)) : List Int := rs.flatMap (·.2)
theorem flat_nil : flat [] = [] := rfl
theorem flat_cons {r : Bool × List Int} {rs : List (Bool × List Int)} : flat (r :: rs) = r.2 ++ flat rs := rfl
theorem flat_app {a b : List (Bool × List Int)} : flat (a ++ b) = flat a ++ flat b := List.flatMap_append
theorem rows_app {nx : Int → Option Int} {n : Nat} : ∀ (as s bs : List Int), rowsG nx n s (as ++ bs) = rowsG nx n s as ++ rowsG nx n (s ++ flat (rowsG nx n s as)) bs
  | [], s, bs => by
    show rowsG nx n s bs = [] ++ rowsG nx n (s ++ flat []) bs
    rw [flat_nil, List.append_nil]
    rfl
  | a :: as, s, bs => by
    have e : ∀ l, rowsG nx n s (a :: l) = if (walk nx n s (some a)).1 = [] then rowsG nx n s l else ((walk nx n s (some a)).2.isSome, (walk nx n s (some a)).1) :: rowsG nx n (s ++ (walk nx n s (some a)).1) l := fun l => rfl
    rw [List.cons_append, e, e]
    by_cases c : (walk nx n s (some a)).1 = []
    · rw [if_pos c, if_pos c]
      exact rows_app as s bs
    · rw [if_neg c, if_neg c, flat_cons, rows_app as _ bs, ← List.append_assoc, List.cons_append]
theorem rows_nodup {nx : Int → Option Int} {n : Nat} : ∀ (bs s : List Int), s.Nodup → (s ++ flat (rowsG nx n s bs)).Nodup
  | [], s, h => by
    show (s ++ flat []).Nodup
    rw [flat_nil, List.append_nil]
    exact h
  | b :: bs, s, h => by
    unfold rowsG
    by_cases c : (walk nx n s (some b)).1 = []
    · rw [if_pos c]
      exact rows_nodup bs s h
    · rw [if_neg c, flat_cons, ← List.append_assoc]
      exact rows_nodup bs _ (List.nodup_append.mpr ⟨h, walk_nodup n s (some b), fun x hx y hy e => walk_new n s (some b) y hy (e ▸ hx)⟩)
theorem rows_in {nx : Int → Option Int} {M : Int} (hn : ∀ p q, nx p = some q → 0 ≤ q ∧ q < M) {n : Nat} : ∀ (bs s : List Int), (∀ b ∈ bs, 0 ≤ b ∧ b < M) → ∀ x ∈ flat (rowsG nx n s bs), 0 ≤ x ∧ x < M
  | [], s, _, x, hx => by cases hx
  | b :: bs, s, hb, x, hx => by
    unfold rowsG at hx
    by_cases c : (walk nx n s (some b)).1 = []
    · rw [if_pos c] at hx
      exact rows_in hn bs s (fun y hy => hb y (by simp [hy])) x hx
    · rw [if_neg c, flat_cons] at hx
      rcases List.mem_append.mp hx with hx | hx
      · exact walk_in hn n s (some b) (fun p e => by cases e; exact hb b (by simp)) x hx
      · exact rows_in hn bs _ (fun y hy => hb y (by simp [hy])) x hx
theorem walk_head {nx : Int → Option Int} {n : Nat} {s : List Int} {b : Int} (h : b ∉ s) : (walk nx (n + 1) s (some b)).1 = b :: (walk nx n (s ++ [b]) (nx b)).1 := by
  show (if b ∈ s then ([], some b) else _ : List Int × Option Int).1 = _
  rw [if_neg h]
theorem walk_snd {nx : Int → Option Int} {n : Nat} {s : List Int} {b : Int} (h : b ∉ s) : (walk nx (n + 1) s (some b)).2 = (walk nx n (s ++ [b]) (nx b)).2 := by
  show (if b ∈ s then ([], some b) else _ : List Int × Option Int).2 = _
  rw [if_neg h]
theorem walk_seen {nx : Int → Option Int} {n : Nat} {s : List Int} {b : Int} (h : b ∈ s) : walk nx n s (some b) = ([], some b) := by
  cases n with
  | zero => rfl
  | succ n =>
    show (if b ∈ s then ([], some b) else _ : List Int × Option Int) = _
    rw [if_pos h]
theorem rows_all {nx : Int → Option Int} {n : Nat} : ∀ (bs s : List Int), ∀ b ∈ bs, b ∈ s ++ flat (rowsG nx (n + 1) s bs)
  | [], s, b, hb => by cases hb
  | a :: bs, s, b, hb => by
    unfold rowsG
    by_cases c : (walk nx (n + 1) s (some a)).1 = []
    · rw [if_pos c]
      rcases List.mem_cons.mp hb with e | hb
      · subst e
        by_cases m : b ∈ s
        · exact List.mem_append_left _ m
        · rw [walk_head m] at c
          cases c
      · exact rows_all bs s b hb
    · rw [if_neg c, flat_cons, ← List.append_assoc]
      rcases List.mem_cons.mp hb with e | hb
      · subst e
        by_cases m : b ∈ s
        · exact List.mem_append_left _ (List.mem_append_left _ m)
        · exact List.mem_append_left _ (List.mem_append_right _ (by rw [walk_head m]; simp))
      · exact rows_all bs _ b hb
/-- a walk goes from each house to its next one, and stops at what its last house has for a next one -/
theorem walk_linked {nx : Int → Option Int} : ∀ (n : Nat) (s : List Int) (b : Int), (walk nx n s (some b)).1 ≠ [] → Linked nx (walk nx n s (some b)).1 ∧ ∃ l, (walk nx n s (some b)).1.getLast? = some l ∧ nx l = (walk nx n s (some b)).2
  | 0, s, b, h => absurd rfl h
  | n + 1, s, b, h => by
    by_cases c : b ∈ s
    · rw [walk_seen c] at h
      exact absurd rfl h
    · rw [walk_head c, walk_snd c]
      cases e : nx b with
      | none =>
        have : walk nx n (s ++ [b]) none = ([], none) := by cases n <;> rfl
        rw [this]
        exact ⟨trivial, b, rfl, e⟩
      | some q =>
        by_cases c2 : (walk nx n (s ++ [b]) (some q)).1 = []
        · rw [c2]
          refine ⟨trivial, b, rfl, ?_⟩
          rw [e]
          cases n with
          | zero => rfl
          | succ n =>
            by_cases c3 : q ∈ s ++ [b]
            · rw [walk_seen c3]
            · rw [walk_head c3] at c2
              cases c2
        · obtain ⟨h1, l, h2, h3⟩ := walk_linked n (s ++ [b]) q c2
          cases n with
          | zero => exact absurd rfl c2
          | succ n =>
            have c3 : q ∉ s ++ [b] := fun z => c2 (by rw [walk_seen z])
            rw [walk_head c3] at h1 h2 ⊢
            refine ⟨⟨e, h1⟩, l, ?_, h3⟩
            rw [List.getLast?_cons_cons]
            exact h2
theorem linked_prev {nx : Int → Option Int} : ∀ {x : Int} {l : List Int}, Linked nx (x :: l) → ∀ y ∈ l, ∃ p ∈ (x :: l).dropLast, nx p = some y
  | x, [], _, y, hy => by cases hy
  | x, z :: l, h, y, hy => by
    rw [List.dropLast_cons_cons]
    rcases List.mem_cons.mp hy with e | hy
    · subst e
      exact ⟨x, by simp, h.1⟩
    · obtain ⟨p, hp, e⟩ := linked_prev h.2 y hy
      exact ⟨p, List.mem_cons_of_mem _ hp, e⟩
theorem linked_next {nx : Int → Option Int} : ∀ {l : List Int} {e : Int}, Linked nx l → l.getLast? = some e → ∀ y ∈ l, y = e ∨ ∃ q ∈ l, nx y = some q
  | [], _, _, h, _, _ => by cases h
  | [x], e, _, h, y, hy => by
    cases h
    exact .inl (by simpa using hy)
  | x :: z :: l, e, h, hl, y, hy => by
    rcases List.mem_cons.mp hy with rfl | hy
    · exact .inr ⟨z, by simp, h.1⟩
    · rcases linked_next h.2 (by rwa [List.getLast?_cons_cons] at hl) y hy with r | ⟨q, hq, r⟩
      · exact .inl r
      · exact .inr ⟨q, by simp [List.mem_cons.mp hq], r⟩
/-- the houses, their heirs and givers -/
structure Strt (nx gv : Int → Option Int) (M : Int) : Prop where
  m0 : 0 ≤ M
  nxi : ∀ p q, nx p = some q → 0 ≤ q ∧ q < M
  gvi : ∀ p q, gv p = some q → 0 ≤ q ∧ q < M
  iff : ∀ p q, 0 ≤ p → p < M → 0 ≤ q → q < M → (nx p = some q ↔ gv q = some p)
theorem Strt.inj {nx gv : Int → Option Int} {M : Int} (h : Strt nx gv M) {p q r : Int} (p0 : 0 ≤ p) (p1 : p < M) (q0 : 0 ≤ q) (q1 : q < M) (e1 : nx p = some r) (e2 : nx q = some r) : p = q := by
  obtain ⟨r0, r1⟩ := h.nxi p r e1
  have a := (h.iff p r p0 p1 r0 r1).mp e1
  have b := (h.iff q r q0 q1 r0 r1).mp e2
  exact Option.some.inj (a.symm.trans b)
/-- seen: whole paths and rings -/
structure Whole (nx gv : Int → Option Int) (M : Int) (s : List Int) : Prop where
  rng : ∀ x ∈ s, 0 ≤ x ∧ x < M
  fwd : ∀ p q, p ∈ s → nx p = some q → q ∈ s
  bwd : ∀ p q, p ∈ s → gv p = some q → q ∈ s
theorem Whole.nil {nx gv : Int → Option Int} {M : Int} : Whole nx gv M [] := ⟨fun x h => (by cases h), fun p q h => (by cases h), fun p q h => (by cases h)⟩
/-- a row: its neighbours; a path's first house has no giver; a ring's last house has its first one as heir -/
def RowOk (nx gv : Int → Option Int) (r : Bool × List Int) : Prop := Linked nx r.2 ∧ ∃ b t, r.2 = b :: t ∧ ((r.1 = false ∧ gv b = none) ∨ (r.1 = true ∧ (gv b).isSome ∧ ∃ l, r.2.getLast? = some l ∧ nx l = some b))
theorem whole_add {nx gv : Int → Option Int} {M : Int} (h : Strt nx gv M) {s row : List Int} {b : Int} {t : List Int} (w : Whole nx gv M s) (e : row = b :: t) (hr : ∀ x ∈ row, 0 ≤ x ∧ x < M) (hl : Linked nx row) {l : Int} (el : row.getLast? = some l) (h1 : ∀ q, nx l = some q → q ∈ row) (h2 : ∀ q, gv b = some q → q ∈ row) : Whole nx gv M (s ++ row) := by
  refine ⟨fun x hx => ?_, fun p q hp e2 => ?_, fun p q hp e2 => ?_⟩
  · rcases List.mem_append.mp hx with hx | hx
    · exact w.rng x hx
    · exact hr x hx
  · rcases List.mem_append.mp hp with hp | hp
    · exact List.mem_append_left _ (w.fwd p q hp e2)
    · refine List.mem_append_right _ ?_
      rcases linked_next hl el p hp with r | ⟨q', hq, r⟩
      · exact h1 q (r ▸ e2)
      · rw [e2] at r
        cases r
        exact hq
  · rcases List.mem_append.mp hp with hp | hp
    · exact List.mem_append_left _ (w.bwd p q hp e2)
    · refine List.mem_append_right _ ?_
      have hp' := hp
      rw [e] at hp'
      rcases List.mem_cons.mp hp' with r | hp'
      · exact h2 q (r ▸ e2)
      · rw [e] at hl
        obtain ⟨p', hp2, e3⟩ := linked_prev hl p hp'
        have hp2 := List.dropLast_subset _ hp2
        rw [← e] at hp2
        obtain ⟨a0, a1⟩ := hr p' hp2
        obtain ⟨b0, b1⟩ := hr p hp
        have := (h.iff p' p a0 a1 b0 b1).mp e3
        rw [e2] at this
        cases this
        exact hp2
theorem last_split : ∀ {r : List Int} {l : Int}, r.getLast? = some l → r = r.dropLast ++ [l]
  | [], _, h => by cases h
  | [x], _, h => by cases h; rfl
  | x :: y :: r, l, h => by
    rw [List.getLast?_cons_cons] at h
    rw [List.dropLast_cons_cons, List.cons_append, ← last_split h]
/-- what the last house of a row goes back to is its first one -/
theorem back_head {nx gv : Int → Option Int} {M : Int} (h : Strt nx gv M) {row : List Int} {b : Int} {t : List Int} (e : row = b :: t) (hr : ∀ x ∈ row, 0 ≤ x ∧ x < M) (nd : row.Nodup) (hl : Linked nx row) {l p : Int} (el : row.getLast? = some l) (en : nx l = some p) (hp : p ∈ row) : p = b := by
  have hlr : l ∈ row := List.mem_of_getLast? el
  have l0 := hr l hlr
  have dl : row = row.dropLast ++ [l] := last_split el
  subst e
  rcases List.mem_cons.mp hp with m | m
  · exact m
  · exfalso
    obtain ⟨p', hp2, e3⟩ := linked_prev hl p m
    obtain ⟨a0, a1⟩ := hr p' (List.dropLast_subset _ hp2)
    have := h.inj a0 a1 l0.1 l0.2 e3 en
    subst this
    rw [dl] at nd
    exact (List.nodup_append.mp nd).2.2 p' hp2 p' (by simp) rfl
/-- a walk from a house that has no giver is a path -/
theorem walk_path {nx gv : Int → Option Int} {M : Int} (h : Strt nx gv M) {n : Nat} {s : List Int} (w : Whole nx gv M s) {b : Int} (b0 : 0 ≤ b) (b1 : b < M) (hb : gv b = none) (hs : b ∉ s) (hn : M < (n : Int) + 1) : (walk nx (n + 1) s (some b)).2 = none ∧ Whole nx gv M (s ++ (walk nx (n + 1) s (some b)).1) := by
  have hh := walk_head (nx := nx) (n := n) hs
  have ne : (walk nx (n + 1) s (some b)).1 ≠ [] := by rw [hh]; simp
  obtain ⟨hl, l, el, en⟩ := walk_linked (n + 1) s b ne
  have ho : ∀ p, some b = some p → 0 ≤ p ∧ p < M := fun p e => by cases e; exact ⟨b0, b1⟩
  have hr := walk_in h.nxi (n + 1) s (some b) ho
  have nd := walk_nodup (nx := nx) (n + 1) s (some b)
  have nw := walk_new (nx := nx) (n + 1) s (some b)
  have wl := walk_len h.nxi h.m0 (n := n + 1) (s := s) ho
  have we := walk_ends (nx := nx) (n + 1) s (some b) (by have := h.m0; omega)
  generalize (walk nx (n + 1) s (some b)).2 = o at *
  generalize (walk nx (n + 1) s (some b)).1 = row at *
  have hlr : l ∈ row := List.mem_of_getLast? el
  have l0 := hr l hlr
  have key : o = none := by
    cases o with
    | none => rfl
    | some p =>
      exfalso
      obtain ⟨p0, p1⟩ := h.nxi l p en
      have gp := (h.iff l p l0.1 l0.2 p0 p1).mp en
      rcases List.mem_append.mp (we p rfl) with m | m
      · exact nw l hlr (w.bwd p l m gp)
      · have := back_head h hh hr nd hl el en m
        subst this
        rw [gp] at hb
        cases hb
  refine ⟨key, whole_add h w hh hr hl el (fun q e => ?_) (fun q e => ?_)⟩
  · rw [en, key] at e
    cases e
  · rw [hb] at e
    cases e
/-- behind all paths: each house that is left has an heir that is left -/
theorem rest_next {nx gv : Int → Option Int} {M : Int} (h : Strt nx gv M) {s : List Int} (w : Whole nx gv M s) (al : ∀ p, 0 ≤ p → p < M → gv p = none → p ∈ s) {p : Int} (p0 : 0 ≤ p) (p1 : p < M) (hp : p ∉ s) : ∃ q, nx p = some q ∧ q ∉ s := by
  have mem : ∀ x, x ∈ (rngI 0 M.toNat).filter (fun x => !decide (x ∈ s)) ↔ (0 ≤ x ∧ x < M) ∧ x ∉ s := fun x => by
    rw [List.mem_filter]
    constructor
    · intro ⟨a, b⟩
      have := rngI_mem a
      exact ⟨by omega, by simpa using b⟩
    · intro ⟨a, b⟩
      exact ⟨rngI_in a.1 (by omega), by simpa using b⟩
  have some : ∀ x, 0 ≤ x → x < M → x ∉ s → ∃ g, gv x = some g ∧ (0 ≤ g ∧ g < M) ∧ g ∉ s ∧ nx g = some x := fun x x0 x1 xs => by
    cases e : gv x with
    | none => exact absurd (al x x0 x1 e) xs
    | some g =>
      obtain ⟨g0, g1⟩ := h.gvi x g e
      have := (h.iff g x g0 g1 x0 x1).mpr e
      exact ⟨g, rfl, ⟨g0, g1⟩, fun z => xs (w.fwd g x z this), this⟩
  have nd : ((rngI 0 M.toNat).filter (fun x => !decide (x ∈ s))).Nodup := rngI_nodup.filter _
  obtain ⟨x, hx, e⟩ := inj_surj nd (f := fun x => (gv x).getD 0) (fun x hx => by
    obtain ⟨⟨x0, x1⟩, xs⟩ := (mem x).mp hx
    obtain ⟨g, e, gr, gs, _⟩ := some x x0 x1 xs
    rw [e]
    exact (mem g).mpr ⟨gr, gs⟩) (fun x hx y hy e => by
    obtain ⟨⟨x0, x1⟩, xs⟩ := (mem x).mp hx
    obtain ⟨⟨y0, y1⟩, ys⟩ := (mem y).mp hy
    obtain ⟨g, e1, _, _, n1⟩ := some x x0 x1 xs
    obtain ⟨g', e2, _, _, n2⟩ := some y y0 y1 ys
    rw [e1, e2] at e
    have e : g = g' := e
    subst e
    rw [n1] at n2
    exact Option.some.inj n2) ((mem p).mpr ⟨⟨p0, p1⟩, hp⟩)
  obtain ⟨⟨x0, x1⟩, xs⟩ := (mem x).mp hx
  obtain ⟨g, e1, _, _, n1⟩ := some x x0 x1 xs
  rw [e1] at e
  have e : g = p := e
  subst e
  exact ⟨x, n1, xs⟩
/-- behind all paths, a walk is a ring -/
theorem walk_ring {nx gv : Int → Option Int} {M : Int} (h : Strt nx gv M) {n : Nat} {s : List Int} (w : Whole nx gv M s) (al : ∀ p, 0 ≤ p → p < M → gv p = none → p ∈ s) {b : Int} (b0 : 0 ≤ b) (b1 : b < M) (hs : b ∉ s) (hn : M < (n : Int) + 1) : (walk nx (n + 1) s (some b)).2 = some b ∧ (∃ l, (walk nx (n + 1) s (some b)).1.getLast? = some l ∧ nx l = some b) ∧ Whole nx gv M (s ++ (walk nx (n + 1) s (some b)).1) := by
  have hh := walk_head (nx := nx) (n := n) hs
  have ne : (walk nx (n + 1) s (some b)).1 ≠ [] := by rw [hh]; simp
  obtain ⟨hl, l, el, en⟩ := walk_linked (n + 1) s b ne
  have ho : ∀ p, some b = some p → 0 ≤ p ∧ p < M := fun p e => by cases e; exact ⟨b0, b1⟩
  have hr := walk_in h.nxi (n + 1) s (some b) ho
  have nd := walk_nodup (nx := nx) (n + 1) s (some b)
  have nw := walk_new (nx := nx) (n + 1) s (some b)
  have wl := walk_len h.nxi h.m0 (n := n + 1) (s := s) ho
  have we := walk_ends (nx := nx) (n + 1) s (some b) (by have := h.m0; omega)
  generalize (walk nx (n + 1) s (some b)).2 = o at *
  generalize (walk nx (n + 1) s (some b)).1 = row at *
  have hlr : l ∈ row := List.mem_of_getLast? el
  have l0 := hr l hlr
  obtain ⟨q, e, qs⟩ := rest_next h w al l0.1 l0.2 (nw l hlr)
  rw [e] at en
  subst en
  have hq : q ∈ row := by
    rcases List.mem_append.mp (we q rfl) with m | m
    · exact absurd m qs
    · exact m
  have := back_head h hh hr nd hl el e hq
  subst this
  refine ⟨rfl, ⟨l, el, e⟩, whole_add h w hh hr hl el (fun q' e' => ?_) (fun q' e' => ?_)⟩
  · rw [e] at e'
    cases e'
    exact hq
  · have := (h.iff l q l0.1 l0.2 b0 b1).mp e
    rw [this] at e'
    cases e'
    exact hlr
theorem flat_cons2 {r : Bool × List Int} {rs : List (Bool × List Int)} {s : List Int} : s ++ flat (r :: rs) = s ++ r.2 ++ flat rs := by rw [flat_cons, List.append_assoc]
theorem rows_paths {nx gv : Int → Option Int} {M : Int} (h : Strt nx gv M) {n : Nat} (hn : M < (n : Int) + 1) : ∀ (bs s : List Int), (∀ b ∈ bs, (0 ≤ b ∧ b < M) ∧ gv b = none) → Whole nx gv M s → (∀ r ∈ rowsG nx (n + 1) s bs, RowOk nx gv r ∧ r.1 = false) ∧ Whole nx gv M (s ++ flat (rowsG nx (n + 1) s bs))
  | [], s, _, w => ⟨fun r hr => (by cases hr), by show Whole nx gv M (s ++ flat []); rw [flat_nil, List.append_nil]; exact w⟩
  | b :: bs, s, hb, w => by
    obtain ⟨⟨b0, b1⟩, hg⟩ := hb b (by simp)
    have hb' := fun x hx => hb x (List.mem_cons_of_mem b hx)
    unfold rowsG
    by_cases m : b ∈ s
    · rw [walk_seen m, if_pos rfl]
      exact rows_paths h hn bs s hb' w
    · have hh := walk_head (nx := nx) (n := n) m
      rw [if_neg (by rw [hh]; simp), flat_cons2]
      obtain ⟨e, w2⟩ := walk_path h w b0 b1 hg m hn
      obtain ⟨r1, r2⟩ := rows_paths h hn bs _ hb' w2
      refine ⟨fun r hr => ?_, r2⟩
      rcases List.mem_cons.mp hr with hr | hr
      · rw [hr, e]
        exact ⟨⟨(walk_linked (n + 1) s b (by rw [hh]; simp)).1, b, _, hh, .inl ⟨rfl, hg⟩⟩, rfl⟩
      · exact r1 r hr
theorem rows_rings {nx gv : Int → Option Int} {M : Int} (h : Strt nx gv M) {n : Nat} (hn : M < (n : Int) + 1) : ∀ (bs s : List Int), (∀ b ∈ bs, 0 ≤ b ∧ b < M) → Whole nx gv M s → (∀ p, 0 ≤ p → p < M → gv p = none → p ∈ s) → (∀ r ∈ rowsG nx (n + 1) s bs, RowOk nx gv r ∧ r.1 = true) ∧ Whole nx gv M (s ++ flat (rowsG nx (n + 1) s bs))
  | [], s, _, w, _ => ⟨fun r hr => (by cases hr), by show Whole nx gv M (s ++ flat []); rw [flat_nil, List.append_nil]; exact w⟩
  | b :: bs, s, hb, w, al => by
    obtain ⟨b0, b1⟩ := hb b (by simp)
    have hb' := fun x hx => hb x (List.mem_cons_of_mem b hx)
    unfold rowsG
    by_cases m : b ∈ s
    · rw [walk_seen m, if_pos rfl]
      exact rows_rings h hn bs s hb' w al
    · have hh := walk_head (nx := nx) (n := n) m
      rw [if_neg (by rw [hh]; simp), flat_cons2]
      obtain ⟨e, ⟨l, el, en⟩, w2⟩ := walk_ring h w al b0 b1 m hn
      obtain ⟨r1, r2⟩ := rows_rings h hn bs _ hb' w2 (fun p p0 p1 hp => List.mem_append_left _ (al p p0 p1 hp))
      refine ⟨fun r hr => ?_, r2⟩
      rcases List.mem_cons.mp hr with hr | hr
      · rw [hr, e]
        refine ⟨⟨(walk_linked (n + 1) s b (by rw [hh]; simp)).1, b, _, hh, .inr ⟨rfl, ?_, l, el, en⟩⟩, rfl⟩
        cases hg : gv b with
        | none => exact absurd (al b b0 b1 hg) m
        | some g => rfl
      · exact r1 r hr
/-- all rows of a street -/
theorem rows_ok {nx gv : Int → Option Int} {M : Int} (h : Strt nx gv M) {n : Nat} (hn : M < (n : Int) + 1) : (∀ r ∈ rowsG nx (n + 1) [] ((rngI 0 M.toNat).filter (fun p => (gv p).isNone) ++ rngI 0 M.toNat), RowOk nx gv r) ∧ (flat (rowsG nx (n + 1) [] ((rngI 0 M.toNat).filter (fun p => (gv p).isNone) ++ rngI 0 M.toNat))).Nodup ∧ (∀ x, x ∈ flat (rowsG nx (n + 1) [] ((rngI 0 M.toNat).filter (fun p => (gv p).isNone) ++ rngI 0 M.toNat)) ↔ 0 ≤ x ∧ x < M) ∧ (flat (rowsG nx (n + 1) [] ((rngI 0 M.toNat).filter (fun p => (gv p).isNone) ++ rngI 0 M.toNat))).length = M.toNat := by
  have m0 := h.m0
  have hb1 : ∀ b ∈ (rngI 0 M.toNat).filter (fun p => (gv p).isNone), (0 ≤ b ∧ b < M) ∧ gv b = none := fun b hb => by
    obtain ⟨h1, h2⟩ := List.mem_filter.mp hb
    have := rngI_mem h1
    exact ⟨by omega, by simpa using h2⟩
  have hb2 : ∀ b ∈ rngI 0 M.toNat, 0 ≤ b ∧ b < M := fun b hb => by have := rngI_mem hb; omega
  have hb3 : ∀ b ∈ (rngI 0 M.toNat).filter (fun p => (gv p).isNone) ++ rngI 0 M.toNat, 0 ≤ b ∧ b < M := fun b hb => by
    rcases List.mem_append.mp hb with hb | hb
    · exact (hb1 b hb).1
    · exact hb2 b hb
  have nd := rows_nodup (nx := nx) (n := n + 1) ((rngI 0 M.toNat).filter (fun p => (gv p).isNone) ++ rngI 0 M.toNat) [] List.nodup_nil
  rw [List.nil_append] at nd
  have mm : ∀ x, x ∈ flat (rowsG nx (n + 1) [] ((rngI 0 M.toNat).filter (fun p => (gv p).isNone) ++ rngI 0 M.toNat)) ↔ 0 ≤ x ∧ x < M := fun x => by
    constructor
    · exact rows_in h.nxi _ [] hb3 x
    · intro ⟨x0, x1⟩
      have := rows_all (nx := nx) (n := n) ((rngI 0 M.toNat).filter (fun p => (gv p).isNone) ++ rngI 0 M.toNat) [] x (List.mem_append_right _ (rngI_in x0 (by omega)))
      rwa [List.nil_append] at this
  refine ⟨?_, nd, mm, ?_⟩
  · obtain ⟨r1, w1⟩ := rows_paths h hn _ [] hb1 Whole.nil
    have al : ∀ p, 0 ≤ p → p < M → gv p = none → p ∈ [] ++ flat (rowsG nx (n + 1) [] ((rngI 0 M.toNat).filter (fun p => (gv p).isNone))) := fun p p0 p1 hp => rows_all _ [] p (List.mem_filter.mpr ⟨rngI_in p0 (by omega), by rw [hp]; rfl⟩)
    obtain ⟨r2, _⟩ := rows_rings h hn _ _ hb2 w1 al
    intro r hr
    rw [rows_app] at hr
    rcases List.mem_append.mp hr with hr | hr
    · exact (r1 r hr).1
    · exact (r2 r hr).1
  · have l1 := nodup_len M.toNat _ nd fun x hx => by have := (mm x).mp hx; omega
    have l2 := nodup_sub (rngI 0 M.toNat) _ rngI_nodup fun x hx => (mm x).mpr (hb2 x hx)
    rw [rngI_len] at l2
    omega
end PF
namespace PF
open PySem PySem.Spec PyProof.Rows L2
/-! ## safe orders: deeds row by row -/
def segL (L : List Int) : List De := L.flatMap fun p => [(Wd.sign, p), (Wd.papers, p)]
theorem segL_cons {p : Int} {L : List Int} : segL (p :: L) = (Wd.sign, p) :: (Wd.papers, p) :: segL L := rfl
def turned (r : Bool × List Int) : Bool := r.1 && decide (1 < r.2.length)
def rotL : List Int → List Int
  | [] => []
  | x :: l => l ++ [x]
def rowDs (r : Bool × List Int) : List De := if turned r then (Wd.mark, r.2.headD 0) :: segL (rotL r.2) else segL r.2
def orderP (rs : List (Bool × List Int)) : List De := rs.flatMap rowDs
/-- a deed that can be done, and does no harm -/
def stepOk (nx : Int → Option Int) (M : Int) (s : List De) (x : De) : Prop := canB s x = true ∧ (x.1 = Wd.sign → ∀ p, 0 ≤ p → p < M → nx p = some x.2 → p ≠ x.2 → (Wd.papers, p) ∈ s ∨ (Wd.mark, p) ∈ s)
def AllOk (nx : Int → Option Int) (M : Int) : List De → List De → Prop
  | _, [] => True
  | s, x :: r => stepOk nx M s x ∧ AllOk nx M (s ++ [x]) r
theorem all_app {nx : Int → Option Int} {M : Int} : ∀ {a s b : List De}, AllOk nx M s (a ++ b) ↔ AllOk nx M s a ∧ AllOk nx M (s ++ a) b
  | [], s, b => by
    rw [List.append_nil]
    exact ⟨fun h => ⟨trivial, h⟩, fun h => h.2⟩
  | x :: a, s, b => by
    show stepOk nx M s x ∧ AllOk nx M (s ++ [x]) (a ++ b) ↔ (stepOk nx M s x ∧ AllOk nx M (s ++ [x]) a) ∧ _
    rw [all_app, and_assoc, List.append_assoc]
    rfl
theorem all_okDs {nx : Int → Option Int} {M : Int} : ∀ {r s : List De}, AllOk nx M s r → okDs s r = true
  | [], _, _ => rfl
  | x :: r, s, h => by
    show (canB s x && okDs (s ++ [x]) r) = true
    rw [h.1.1, all_okDs h.2]
    rfl
theorem all_take {nx : Int → Option Int} {M : Int} : ∀ {r s : List De} (n : Nat), AllOk nx M s r → AllOk nx M s (r.take n)
  | [], _, n, h => by rw [List.take_nil]; exact h
  | x :: r, s, 0, h => trivial
  | x :: r, s, n + 1, h => ⟨h.1, all_take n h.2⟩
theorem fine_step {a b : Numb} {M : Int} {s : List De} {x : De} (f : Fine a b M s) (h : stepOk (heirP a b M) M s x) : Fine a b M (s ++ [x]) := fun p q p0 p1 e ne m => by
  rcases List.mem_append.mp m with m | m
  · exact (f p q p0 p1 e ne m).imp (List.mem_append_left _) (List.mem_append_left _)
  · have := List.mem_singleton.mp m
    subst this
    exact (h.2 rfl p p0 p1 e (fun z => ne z.symm)).imp (List.mem_append_left _) (List.mem_append_left _)
theorem all_fine {a b : Numb} {M : Int} : ∀ {r s : List De}, Fine a b M s → AllOk (heirP a b M) M s r → Fine a b M (s ++ r)
  | [], s, f, _ => by rw [List.append_nil]; exact f
  | x :: r, s, f, h => by
    have := all_fine (fine_step f h.1) h.2
    rwa [List.append_assoc] at this
theorem all_safe {a b : Numb} (k : POk a b) {M : Int} {ds : List De} (h : AllOk (heirP a b M) M [] ds) : fHarm a b M ds = none :=
  fharm_fine k (all_okDs h) fun n => by
    have := all_fine (a := a) (b := b) (M := M) (s := []) (fun p q _ _ _ _ m => by cases m) (all_take n h)
    rwa [List.nil_append] at this
/-! one row behind others -/
theorem can_sign {s : List De} {p : Int} (h : (Wd.sign, p) ∉ s) : canB s (Wd.sign, p) = true := by
  unfold canB
  rw [decide_eq_false h]
  rfl
theorem can_papers {s : List De} {p : Int} (h : (Wd.papers, p) ∉ s) (h2 : (Wd.sign, p) ∈ s) : canB s (Wd.papers, p) = true := by
  unfold canB
  rw [decide_eq_false h, decide_eq_true h2]
  rfl
theorem can_mark {s : List De} {p : Int} (h : (Wd.mark, p) ∉ s) (h2 : (Wd.sign, p) ∉ s) : canB s (Wd.mark, p) = true := by
  unfold canB
  rw [decide_eq_false h, decide_eq_false h2]
  rfl
theorem seg_ok {nx gv : Int → Option Int} {M : Int} (h : Strt nx gv M) : ∀ (L : List Int) (s : List De), (∀ p ∈ L, (0 ≤ p ∧ p < M) ∧ (Wd.sign, p) ∉ s ∧ (Wd.papers, p) ∉ s) → L.Nodup → Linked nx L → (∀ x, L.head? = some x → ∀ p, 0 ≤ p → p < M → nx p = some x → p ≠ x → (Wd.papers, p) ∈ s ∨ (Wd.mark, p) ∈ s) → AllOk nx M s (segL L)
  | [], _, _, _, _, _ => trivial
  | x :: L, s, hs, nd, hl, hh => by
    obtain ⟨⟨x0, x1⟩, n1, n2⟩ := hs x (by simp)
    obtain ⟨nx', nd⟩ := List.nodup_cons.mp nd
    rw [segL_cons]
    refine ⟨⟨can_sign n1, fun _ p p0 p1 e ne => hh x rfl p p0 p1 e ne⟩, ⟨can_papers (fun z => ?_) (by simp), fun e => by cases e⟩, ?_⟩
    · rcases List.mem_append.mp z with z | z
      · exact n2 z
      · cases List.mem_singleton.mp z
    · refine seg_ok h L _ (fun p hp => ?_) nd ?_ (fun y hy p p0 p1 e ne => ?_)
      · obtain ⟨r, a1, a2⟩ := hs p (List.mem_cons_of_mem _ hp)
        have np : p ≠ x := fun e => nx' (e ▸ hp)
        refine ⟨r, fun z => ?_, fun z => ?_⟩
        · simp only [List.mem_append, List.mem_singleton] at z
          rcases z with (z | z) | z
          · exact a1 z
          · exact np (congrArg Prod.snd z)
          · cases z
        · simp only [List.mem_append, List.mem_singleton] at z
          rcases z with (z | z) | z
          · exact a2 z
          · cases z
          · exact np (congrArg Prod.snd z)
      · cases L with
        | nil => trivial
        | cons y L => exact hl.2
      · cases L with
        | nil => cases hy
        | cons z L =>
          cases hy
          have := h.inj p0 p1 x0 x1 e hl.1
          subst this
          exact .inl (by simp)
theorem seg_mem {L : List Int} {x : De} : x ∈ segL L ↔ x.2 ∈ L ∧ x.1 ≠ Wd.mark := by
  unfold segL
  rw [List.mem_flatMap]
  constructor
  · rintro ⟨p, hp, hx⟩
    simp only [List.mem_cons, List.not_mem_nil, or_false] at hx
    rcases hx with e | e <;> subst e <;> exact ⟨hp, by simp⟩
  · rintro ⟨h1, h2⟩
    refine ⟨x.2, h1, ?_⟩
    obtain ⟨w, p⟩ := x
    cases w <;> simp at h2 ⊢
theorem rot_mem {L : List Int} {x : Int} : x ∈ rotL L ↔ x ∈ L := by
  cases L with
  | nil => exact Iff.rfl
  | cons y L =>
    show x ∈ L ++ [y] ↔ _
    simp only [List.mem_append, List.mem_cons, List.not_mem_nil, or_false]
    exact ⟨fun h => h.symm, fun h => h.symm⟩
theorem row_mem {r : Bool × List Int} {x : De} (h : x ∈ rowDs r) : x.2 ∈ r.2 := by
  unfold rowDs at h
  split at h
  · rename_i c
    rcases List.mem_cons.mp h with e | h
    · subst e
      unfold turned at c
      obtain ⟨rg, l⟩ := r
      cases l with
      | nil => simp at c
      | cons y l => simp
    · exact rot_mem.mp (seg_mem.mp h).1
  · exact (seg_mem.mp h).1
theorem linked_snoc {nx : Int → Option Int} : ∀ {l : List Int} {e y : Int}, Linked nx l → l.getLast? = some e → nx e = some y → Linked nx (l ++ [y])
  | [], _, _, _, h, _ => by cases h
  | [x], e, y, _, h, hn => by
    cases h
    exact ⟨hn, trivial⟩
  | x :: z :: l, e, y, h, hl, hn => by
    have := linked_snoc h.2 (by rwa [List.getLast?_cons_cons] at hl) hn
    exact ⟨h.1, this⟩
theorem row_ok {nx gv : Int → Option Int} {M : Int} (h : Strt nx gv M) {r : Bool × List Int} {s : List De} (k : RowOk nx gv r) (hr : ∀ p ∈ r.2, 0 ≤ p ∧ p < M) (nd : r.2.Nodup) (hs : ∀ x ∈ s, x.2 ∉ r.2) : AllOk nx M s (rowDs r) := by
  obtain ⟨rg, row⟩ := r
  obtain ⟨hl, b, t, e, c⟩ := k
  have e : row = b :: t := e
  subst e
  have hl : Linked nx (b :: t) := hl
  have hr : ∀ p ∈ b :: t, 0 ≤ p ∧ p < M := hr
  have nd : (b :: t).Nodup := nd
  have hs : ∀ x ∈ s, x.2 ∉ b :: t := hs
  have hb := hr b (by simp)
  unfold rowDs turned
  rcases c with ⟨e1, e2⟩ | ⟨e1, e2, l, e3, e4⟩
  · have e1 : rg = false := e1
    subst e1
    rw [Bool.false_and, if_neg Bool.false_ne_true]
    refine seg_ok h _ s (fun p hp => ⟨hr p hp, fun z => hs _ z hp, fun z => hs _ z hp⟩) nd hl (fun x hx p p0 p1 e ne => ?_)
    cases hx
    have := (h.iff p b p0 p1 hb.1 hb.2).mp e
    rw [e2] at this
    cases this
  · have e1 : rg = true := e1
    subst e1
    rw [Bool.true_and]
    have e3 : (b :: t).getLast? = some l := e3
    cases t with
    | nil =>
      rw [if_neg (by simp)]
      cases e3
      refine seg_ok h _ s (fun p hp => ⟨hr p hp, fun z => hs _ z hp, fun z => hs _ z hp⟩) nd hl (fun x hx p p0 p1 e ne => ?_)
      cases hx
      exact absurd (h.inj p0 p1 hb.1 hb.2 e e4) ne
    | cons c t =>
      rw [if_pos (by simp)]
      obtain ⟨nb, nd2⟩ := List.nodup_cons.mp nd
      refine ⟨⟨can_mark (fun z => hs _ z (by simp)) (fun z => hs _ z (by simp)), fun e => by cases e⟩, ?_⟩
      refine seg_ok h _ _ (fun p hp => ?_) ?_ ?_ (fun x hx p p0 p1 e ne => ?_)
      · have hp := rot_mem.mp hp
        refine ⟨hr p hp, fun z => ?_, fun z => ?_⟩ <;>
        · rcases List.mem_append.mp z with z | z
          · exact hs _ z hp
          · cases List.mem_singleton.mp z
      · exact List.nodup_append.mpr ⟨nd2, by simp, fun x hx y hy e => by
          cases List.mem_singleton.mp hy
          exact nb (e ▸ hx)⟩
      · exact linked_snoc hl.2 (by rwa [List.getLast?_cons_cons] at e3) e4
      · cases hx
        have := h.inj p0 p1 hb.1 hb.2 e hl.1
        subst this
        exact .inr (by simp)
theorem rows_deeds {nx gv : Int → Option Int} {M : Int} (h : Strt nx gv M) : ∀ (rs : List (Bool × List Int)) (s : List De), (∀ r ∈ rs, RowOk nx gv r) → (flat rs).Nodup → (∀ x ∈ flat rs, 0 ≤ x ∧ x < M) → (∀ x ∈ s, x.2 ∉ flat rs) → AllOk nx M s (orderP rs)
  | [], _, _, _, _, _ => trivial
  | r :: rs, s, k, nd, hr, hs => by
    rw [flat_cons] at nd hr hs
    obtain ⟨n1, n2, n3⟩ := List.nodup_append.mp nd
    refine all_app.mpr ⟨row_ok h (k r (by simp)) (fun p hp => hr p (List.mem_append_left _ hp)) n1 (fun x hx z => hs x hx (List.mem_append_left _ z)), ?_⟩
    refine rows_deeds h rs _ (fun x hx => k x (List.mem_cons_of_mem _ hx)) n2 (fun x hx => hr x (List.mem_append_right _ hx)) (fun x hx z => ?_)
    rcases List.mem_append.mp hx with hx | hx
    · exact hs x hx (List.mem_append_right _ z)
    · exact n3 _ (row_mem hx) _ z rfl
/-! how many -/
def plainN (ds : List De) : Nat := (ds.filter fun x => decide (x.1 ≠ Wd.mark)).length
def markN (ds : List De) : Nat := (ds.filter fun x => decide (x.1 = Wd.mark)).length
theorem plain_app {a b : List De} : plainN (a ++ b) = plainN a + plainN b := by unfold plainN; rw [List.filter_append, List.length_append]
theorem mark_app {a b : List De} : markN (a ++ b) = markN a + markN b := by unfold markN; rw [List.filter_append, List.length_append]
theorem plain_seg : ∀ (L : List Int), plainN (segL L) = 2 * L.length ∧ markN (segL L) = 0 ∧ (segL L).length = 2 * L.length
  | [] => ⟨rfl, rfl, rfl⟩
  | x :: L => by
    obtain ⟨h1, h2, h3⟩ := plain_seg L
    have e : segL (x :: L) = [(Wd.sign, x), (Wd.papers, x)] ++ segL L := rfl
    have p1 : plainN [(Wd.sign, x), (Wd.papers, x)] = 2 := rfl
    have p2 : markN [(Wd.sign, x), (Wd.papers, x)] = 0 := rfl
    rw [e, plain_app, mark_app, List.length_append, h1, h2, h3, p1, p2]
    refine ⟨?_, ?_, ?_⟩ <;> simp only [List.length_cons, List.length_nil] <;> omega
theorem rot_len {L : List Int} : (rotL L).length = L.length := by
  cases L with
  | nil => rfl
  | cons x L =>
    show (L ++ [x]).length = _
    simp
theorem plain_row {r : Bool × List Int} : plainN (rowDs r) = 2 * r.2.length ∧ markN (rowDs r) = (if turned r then 1 else 0) ∧ (rowDs r).length ≤ 3 * r.2.length := by
  unfold rowDs
  split
  · rename_i c
    obtain ⟨h1, h2, h3⟩ := plain_seg (rotL r.2)
    have e : (Wd.mark, r.2.headD 0) :: segL (rotL r.2) = [(Wd.mark, r.2.headD 0)] ++ segL (rotL r.2) := rfl
    have p1 : plainN [(Wd.mark, r.2.headD 0)] = 0 := rfl
    have p2 : markN [(Wd.mark, r.2.headD 0)] = 1 := rfl
    have l : 1 < r.2.length := by
      unfold turned at c
      simpa using (Bool.and_eq_true_iff.mp c).2
    rw [e, plain_app, mark_app, List.length_append, h1, h2, h3, p1, p2, rot_len]
    refine ⟨by omega, by omega, ?_⟩
    simp only [List.length_cons, List.length_nil]
    omega
  · obtain ⟨h1, h2, h3⟩ := plain_seg r.2
    rw [h1, h2, h3]
    omega
theorem plain_order : ∀ (rs : List (Bool × List Int)), plainN (orderP rs) = 2 * (flat rs).length ∧ markN (orderP rs) = (rs.filter turned).length ∧ (orderP rs).length ≤ 3 * (flat rs).length
  | [] => ⟨rfl, rfl, Nat.le_refl _⟩
  | r :: rs => by
    obtain ⟨h1, h2, h3⟩ := plain_order rs
    obtain ⟨g1, g2, g3⟩ := plain_row (r := r)
    have e : orderP (r :: rs) = rowDs r ++ orderP rs := rfl
    rw [e, plain_app, mark_app, List.length_append, flat_cons, List.length_append, h1, h2, g1, g2]
    refine ⟨by omega, ?_, by omega⟩
    by_cases c : turned r = true
    · rw [if_pos c, List.filter_cons_of_pos c]
      simp only [List.length_cons]
      omega
    · rw [if_neg c, List.filter_cons_of_neg c]
      omega
end PF
namespace PF
open PySem PySem.Spec PyProof.Rows L2
/-! ## cuts; comprehensions whose names stand in the def, too -/
theorem cut_drop {ds : List D} {m : Int} (h0 : 0 ≤ m) : PF.cutD ds (some m) none = ds.drop m.toNat := by
  obtain ⟨k, rfl⟩ := Int.eq_ofNat_of_zero_le h0
  have e : HT.sIx ds.length 0 (some (k : Int)) = min k ds.length := HT.sIx_nat _ _ k
  unfold PF.cutD
  rw [e, HT.sIx_none, Int.toNat_natCast]
  apply List.ext_getElem?
  intro i
  rw [List.getElem?_take, List.getElem?_drop, List.getElem?_drop]
  by_cases c : k ≤ ds.length
  · rw [Nat.min_eq_left c]
    by_cases c2 : i < ds.length - k
    · rw [if_pos c2]
    · rw [if_neg c2, List.getElem?_eq_none (by omega)]
  · rw [Nat.min_eq_right (by omega), if_neg (by omega), List.getElem?_eq_none (by omega)]
theorem cut_mid {ds : List D} {m n : Int} (h0 : 0 ≤ m) (h1 : 0 ≤ n) : PF.cutD ds (some m) (some n) = (ds.drop m.toNat).take (n.toNat - m.toNat) := by
  obtain ⟨k, rfl⟩ := Int.eq_ofNat_of_zero_le h0
  obtain ⟨l, rfl⟩ := Int.eq_ofNat_of_zero_le h1
  have e : HT.sIx ds.length 0 (some (k : Int)) = min k ds.length := HT.sIx_nat _ _ k
  have e2 : HT.sIx ds.length ds.length (some (l : Int)) = min l ds.length := HT.sIx_nat _ _ l
  unfold PF.cutD
  rw [e, e2, Int.toNat_natCast, Int.toNat_natCast]
  apply List.ext_getElem?
  intro i
  rw [List.getElem?_take, List.getElem?_take, List.getElem?_drop, List.getElem?_drop]
  by_cases c : k ≤ ds.length
  · rw [Nat.min_eq_left c]
    by_cases c2 : i < l - k
    · rw [if_pos c2]
      by_cases c3 : i < min l ds.length - k
      · rw [if_pos c3]
      · rw [if_neg c3, List.getElem?_eq_none (by omega)]
    · rw [if_neg c2, if_neg (by omega)]
  · rw [Nat.min_eq_right (by omega : ds.length ≤ k), List.getElem?_eq_none (by omega), List.getElem?_eq_none (by omega)]
    split <;> split <;> rfl
theorem set_back {en : En} {v : Nat} {s d : Sl} (h : en[v]? = some d) : (en.set v s).set v d = en := by
  have lt : v < en.length := (List.getElem?_eq_some_iff.mp h).1
  rw [List.set_set]
  apply List.ext_getElem?
  intro i
  by_cases e : v = i
  · subst e
    rw [List.getElem?_set_self lt, h]
  · rw [List.getElem?_set_ne e]
theorem eComp_filterT {v : Nat} {fi : IF} {tt : TF} {te : EF} {f : D → D} {p : D → Bool} {en : En} {ds : List D} {x : Option D} (hi : fi en = .ok ds en) (hv : en[v]? = some (slT x)) (h1 : ∀ d ∈ ds, tt (en.set v (.fz d)) = .ok (p d) (en.set v (.fz d))) (h2 : ∀ d ∈ ds, p d = true → PF.settle (te (en.set v (.fz d))) = .ok (.val (f d)) (en.set v (.fz d))) :
    eComp fi (.nm v) [v] tt te en = .ok (.fresh (.lst ((ds.filter p).map f))) en := by
  cases x with
  | none => exact eComp_filter hi hv h1 h2
  | some d =>
    have hv : en[v]? = some (.fz d) := hv
    have lt : v < en.length := (List.getElem?_eq_some_iff.mp hv).1
    have e0 : (en.set v .un)[v]? = some .un := List.getElem?_set_self lt
    have c := comp_filter (tt := tt) (te := te) (f := f) (p := p) e0 ds (fun d hd => by rw [List.set_set]; exact h1 d hd) (fun d hd hp => by rw [List.set_set]; exact h2 d hd hp) []
    unfold eComp
    rw [hi]
    simp only [bind_ok, wipeE, c, restE, hv, Option.map_some, List.nil_append, set_back hv]
theorem eComp_pairT {i j : Nat} {fi : IF} {tt : TF} {te : EF} {f : D × D → D} {p : D × D → Bool} {en : En} {ps : List (D × D)} {x y : Option D} (hd : fi en = .ok (ps.map fun q => D.tup [q.1, q.2]) en) (hij : i ≠ j) (hi : en[i]? = some (slT x)) (hj : en[j]? = some (slT y))
    (h1 : ∀ q ∈ ps, tt ((en.set i (.fz q.1)).set j (.fz q.2)) = .ok (p q) ((en.set i (.fz q.1)).set j (.fz q.2))) (h2 : ∀ q ∈ ps, p q = true → PF.settle (te ((en.set i (.fz q.1)).set j (.fz q.2))) = .ok (.val (f q)) ((en.set i (.fz q.1)).set j (.fz q.2))) :
    eComp fi (.tp [.nm i, .nm j]) [i, j] tt te en = .ok (.fresh (.lst ((ps.filter p).map f))) en := by
  have li : i < en.length := (List.getElem?_eq_some_iff.mp hi).1
  have lj : j < en.length := (List.getElem?_eq_some_iff.mp hj).1
  have e1 : ((en.set j .un).set i .un)[i]? = some .un := List.getElem?_set_self (by simpa using li)
  have e2 : ((en.set j .un).set i .un)[j]? = some .un := by rw [List.getElem?_set_ne hij]; exact List.getElem?_set_self lj
  have e3 : ∀ a b : Sl, (((en.set j .un).set i .un).set i a).set j b = (en.set i a).set j b := fun a b => by
    rw [List.set_set, List.set_comm _ _ (fun z => hij z.symm), List.set_set, List.set_comm _ _ hij]
  have c := comp_pair (tt := tt) (te := te) (f := f) (p := p) hij e1 e2 ps (fun q hq => by rw [e3]; exact h1 q hq) (fun q hq hp => by rw [e3]; exact h2 q hq hp) []
  have back : ∀ a b : Sl, en[i]? = some a → en[j]? = some b → ((((en.set j .un).set i .un).set j b).set i a) = en := fun a b ha hb => by
    apply List.ext_getElem?
    intro k
    by_cases e : i = k
    · subst e
      rw [List.getElem?_set_self (by simpa using li), ha]
    · rw [List.getElem?_set_ne e]
      by_cases e2 : j = k
      · subst e2
        rw [List.getElem?_set_self (by simpa using lj), hb]
      · rw [List.getElem?_set_ne e2, List.getElem?_set_ne e, List.getElem?_set_ne e2]
  unfold eComp
  rw [hd]
  simp only [bind_ok, wipeE, c]
  have bk := back _ _ hi hj
  cases x <;> cases y <;> simp only [slT] at bk <;> simp only [restE, hi, hj, slT, Option.map_some, List.nil_append, bk]
/-! ## which deeds of some cannot be done in their turn -/
theorem ok_iff : ∀ {ds s : List De}, okDs s ds = true ↔ ∀ (k : Nat) (x : De), ds[k]? = some x → canB (s ++ ds.take k) x = true
  | [], s => ⟨fun _ k x h => by simp at h, fun _ => rfl⟩
  | y :: ds, s => by
    have e : okDs s (y :: ds) = (canB s y && okDs (s ++ [y]) ds) := rfl
    rw [e, Bool.and_eq_true, ok_iff]
    constructor
    · rintro ⟨h1, h2⟩ k x hk
      cases k with
      | zero =>
        cases hk
        rw [List.take_zero, List.append_nil]
        exact h1
      | succ k =>
        have := h2 k x hk
        rw [List.append_assoc] at this
        exact this
    · intro h
      refine ⟨?_, fun k x hk => ?_⟩
      · have := h 0 y rfl
        rwa [List.take_zero, List.append_nil] at this
      · have := h (k + 1) x hk
        rw [List.append_assoc]
        exact this
def badKs (ds : List De) : List Int := (rngI 0 ds.length).filter fun k => !canB (ds.take k.toNat) (ds.getD k.toNat (Wd.sign, 0))
theorem bad_nil {ds : List De} : badKs ds = [] ↔ okDs [] ds = true := by
  unfold badKs
  rw [List.filter_eq_nil_iff, ok_iff]
  constructor
  · intro h k x hk
    have lk := (List.getElem?_eq_some_iff.mp hk).1
    have := h (k : Int) (rngI_in (by omega) (by omega))
    rw [Int.toNat_natCast, List.getD_eq_getElem?_getD, hk] at this
    simpa using this
  · intro h k hk
    obtain ⟨k0, k1⟩ := rngI_mem hk
    have lk : k.toNat < ds.length := by omega
    have := h k.toNat _ (List.getElem?_eq_getElem lk)
    rw [List.nil_append] at this
    rw [List.getD_eq_getElem?_getD, List.getElem?_eq_getElem lk, Option.getD_some, this]
    simp
theorem deed_at {ds : List De} {k : Int} (h : k ∈ rngI 0 ds.length) : gIx (.tup (ds.map De.d)) (.int k) = some (.val (ds.getD k.toNat (Wd.sign, 0)).d) := by
  obtain ⟨k0, k1⟩ := rngI_mem h
  have lk : k.toNat < ds.length := by omega
  have e := atI_nat (xs := ds.map De.d) (j := k.toNat) (v := (ds.getD k.toNat (Wd.sign, 0)).d) (by
    rw [List.getElem?_map, List.getD_eq_getElem?_getD, List.getElem?_eq_getElem lk]
    rfl)
  rw [show ((k.toNat : Nat) : Int) = k by omega] at e
  exact gIx_tup e
/-! rows as the law tells them -/
def lrowsG (nx gv : Int → Option Int) (n : Nat) : List Int → List Int → List (Bool × List Int)
  | _, [] => []
  | s, b :: bs => if (walk nx n s (some b)).1 = [] then lrowsG nx gv n s bs else ((gv b).isSome, (walk nx n s (some b)).1) :: lrowsG nx gv n (s ++ (walk nx n s (some b)).1) bs
theorem lrows_eq {nx gv : Int → Option Int} {n : Nat} : ∀ (bs s : List Int), (∀ r ∈ rowsG nx (n + 1) s bs, RowOk nx gv r) → lrowsG nx gv (n + 1) s bs = rowsG nx (n + 1) s bs
  | [], s, _ => rfl
  | b :: bs, s, h => by
    unfold lrowsG
    unfold rowsG at h ⊢
    by_cases c : (walk nx (n + 1) s (some b)).1 = []
    · rw [if_pos c] at h ⊢
      rw [if_pos c]
      exact lrows_eq bs s h
    · rw [if_neg c] at h ⊢
      rw [if_neg c]
      have m : b ∉ s := fun z => c (by rw [walk_seen z])
      obtain ⟨_, b', t, e, k⟩ := h _ List.mem_cons_self
      have e : (walk nx (n + 1) s (some b)).1 = b' :: t := e
      rw [walk_head m] at e
      have eb : b = b' := (List.cons.inj e).1
      subst eb
      have ef : (gv b).isSome = (walk nx (n + 1) s (some b)).2.isSome := by
        rcases k with ⟨k1, k2⟩ | ⟨k1, k2, _⟩
        · rw [k2]
          exact k1.symm
        · rw [k2]
          exact k1.symm
      rw [ef, lrows_eq bs _ fun r hr => h r (List.mem_cons_of_mem _ hr)]
end PF
namespace PF
open PySem PySem.Spec PyProof.Rows L2
/-! ## walks with leaps: heirs by remainders -/
theorem perI_comm {x y : Int} : perI x y = perI y x := by
  unfold perI
  split <;> split <;> (try split) <;> (try split) <;> omega
theorem POk.sw {a b : Numb} (h : POk a b) : POk b a := ⟨h.b, h.a, h.bal.symm⟩
theorem giver_sw {a b : Numb} {M p : Int} : giverP a b M p = heirP b a M p := rfl
theorem emod_shift {i s t : Int} : (i + s * t) % s = i % s := Int.add_mul_emod_self_left i s t
/-- which index bears the other number: by the remainder -/
theorem idx_off {a b : Numb} (h : POk a b) {i j : Int} (hi : 0 ≤ i) : b.idx (a.at i) = some j ↔ 0 ≤ j ∧ offAt a b (perI a.len b.len) (i % perI a.len b.len) = some (j - i) := by
  obtain ⟨ka, kb, ka1, kb1, e1, e2, e3⟩ := per_turns h
  obtain ⟨s1, s6⟩ := per_bnd h
  have far := off_far h (i := i + perI a.len b.len * 21) (by omega)
  rw [emod_shift] at far
  generalize hs : perI a.len b.len = sz at *
  have ea : a.at (i + sz * 21) = a.at i + b.step * (kb * 21) := by
    rw [show i + sz * 21 = i + a.len * (ka * 21) by rw [← Int.mul_assoc, ← e1], Numb.at_add h.a, ← Int.mul_assoc, e3, Int.mul_assoc]
  have el : b.len * (kb * 21) = sz * 21 := by rw [← Int.mul_assoc, ← e2]
  constructor
  · intro e
    obtain ⟨j0, jv⟩ := Numb.idx_at h.b e
    refine ⟨j0, ?_⟩
    have := Numb.idx_add h.b (t := kb * 21) (by omega) e
    rw [← ea, el, far] at this
    cases c : offAt a b sz (i % sz) with
    | none => rw [c] at this; cases this
    | some g =>
      rw [c] at this
      simp only [Option.map_some, Option.some.injEq] at this
      congr 1
      omega
  · rintro ⟨j0, e⟩
    rw [e] at far
    obtain ⟨_, jv⟩ := Numb.idx_at h.b (show b.idx (a.at (i + sz * 21)) = some (i + sz * 21 + (j - i)) from far)
    refine (Numb.idx_iff h.b).mpr ⟨j0, ?_⟩
    have z := Numb.at_add h.b j (kb * 21)
    rw [el, show j + sz * 21 = i + sz * 21 + (j - i) by omega, jv, ea] at z
    omega
theorem off_bnd {a b : Numb} (h : POk a b) {r g : Int} (hr : 0 ≤ r) (e : offAt a b (perI a.len b.len) r = some g) : -13 ≤ g ∧ g ≤ 13 := by
  obtain ⟨s1, s6⟩ := per_bnd h
  unfold offAt at e
  obtain ⟨j, ej, e⟩ := Option.map_eq_some_iff.mp e
  obtain ⟨j0, jv⟩ := Numb.idx_at h.b ej
  have := idx_dist h (i := r + 20 * perI a.len b.len) (by omega) j0 jv
  omega
theorem off_inj {a b : Numb} (h : POk a b) {i i' g g' : Int} (e : offAt a b (perI a.len b.len) (i % perI a.len b.len) = some g) (e' : offAt a b (perI a.len b.len) (i' % perI a.len b.len) = some g') (hq : i + g = i' + g') : i = i' := by
  obtain ⟨s1, s6⟩ := per_bnd h
  have b1 := off_bnd h (Int.emod_nonneg i (by omega)) e
  have b2 := off_bnd h (Int.emod_nonneg i' (by omega)) e'
  -- far from the ends
  have key : ∀ t : Int, 0 ≤ i + perI a.len b.len * t → 0 ≤ i' + perI a.len b.len * t → 0 ≤ i + perI a.len b.len * t + g → i = i' := fun t h1 h2 h3 => by
    have x := (idx_off h (j := i + perI a.len b.len * t + g) h1).mpr ⟨h3, by rw [emod_shift, e]; congr 1; omega⟩
    have y := (idx_off h (j := i + perI a.len b.len * t + g) h2).mpr ⟨h3, by rw [emod_shift, e']; congr 1; omega⟩
    have x1 := (Numb.idx_at h.b x).2
    have y1 := (Numb.idx_at h.b y).2
    have z1 := (Numb.idx_iff h.a (v := a.at (i + perI a.len b.len * t)) (i := i + perI a.len b.len * t)).mpr ⟨h1, rfl⟩
    have z2 := (Numb.idx_iff h.a (v := a.at (i + perI a.len b.len * t)) (i := i' + perI a.len b.len * t)).mpr ⟨h2, by rw [← y1, x1]⟩
    rw [z1] at z2
    have := Option.some.inj z2
    omega
  have m : ∀ t : Int, 0 ≤ t → t ≤ perI a.len b.len * t := fun t ht => by
    have := Int.mul_le_mul_of_nonneg_right s1 ht
    omega
  generalize perI a.len b.len = sz at *
  have := m (13 + i.natAbs + i'.natAbs) (by omega)
  exact key (13 + i.natAbs + i'.natAbs) (by omega) (by omega) (by omega)
/-! the map of places -/
def sg (e : Bool) (p : Int) : Int := if e then p else -p
def glide (e : Bool) (c : Int → Option Int) (M sz p : Int) : Option Int := match c (p % sz) with
  | none => none
  | some d => if 0 ≤ sg e p + d ∧ sg e p + d < M then some (sg e p + d) else none
structure Glid (nx : Int → Option Int) (M sz : Int) (e : Bool) (c : Int → Option Int) (B : Int) : Prop where
  s1 : 1 ≤ sz
  s6 : sz ≤ 6
  nx : ∀ p, 0 ≤ p → p < M → nx p = glide e c M sz p
  inj : ∀ p p' d d', c (p % sz) = some d → c (p' % sz) = some d' → sg e p + d = sg e p' + d' → p = p'
  bnd : ∀ p d, c (p % sz) = some d → B - 13 ≤ d ∧ d ≤ B + 13
def conD (a b : Numb) (M sz r : Int) : Option Int := if a.near then (if b.near then offAt a b sz (r % sz) else (offAt a b sz (r % sz)).map fun g => M - 1 - g) else (if b.near then (offAt a b sz ((M - 1 - r) % sz)).map fun g => M - 1 + g else (offAt a b sz ((M - 1 - r) % sz)).map fun g => -g)
theorem sub_emod2 {x y s : Int} : (x - y % s) % s = (x - y) % s := by
  rw [Int.sub_emod, Int.emod_emod_of_dvd y (Int.dvd_refl s), ← Int.sub_emod]
theorem heir_glid {a b : Numb} (h : POk a b) (M : Int) : Glid (heirP a b M) M (perI a.len b.len) (a.near == b.near) (conD a b M (perI a.len b.len)) (if a.near == b.near then 0 else M - 1) := by
  obtain ⟨s1, s6⟩ := per_bnd h
  have hx : ∀ p q, 0 ≤ p → p < M → (heirP a b M p = some q ↔ 0 ≤ b.pos M q ∧ b.pos M q < M ∧ offAt a b (perI a.len b.len) (a.pos M p % perI a.len b.len) = some (b.pos M q - a.pos M p)) := fun p q p0 p1 => by
    have pp := Numb.pos_in (n := a) p0 p1
    rw [heir_iff h]
    constructor
    · rintro ⟨q0, q1, e⟩
      have qp := Numb.pos_in (n := b) q0 q1
      have := (idx_off h (j := b.pos M q) pp.1).mp ((Numb.idx_iff h.b).mpr ⟨qp.1, e⟩)
      exact ⟨qp.1, qp.2, this.2⟩
    · rintro ⟨q0, q1, e⟩
      have := (Numb.idx_at h.b ((idx_off h (j := b.pos M q) pp.1).mpr ⟨q0, e⟩)).2
      have qp := Numb.pos_in (n := b) q0 q1
      rw [Numb.pos_pos] at qp
      exact ⟨qp.1, qp.2, this⟩
  have em : ∀ r, (r % perI a.len b.len) % perI a.len b.len = r % perI a.len b.len := fun r => Int.emod_emod_of_dvd r (Int.dvd_refl _)
  have nn : ∀ r, 0 ≤ r % perI a.len b.len := fun r => Int.emod_nonneg r (by omega)
  have ob : ∀ r g, offAt a b (perI a.len b.len) (r % perI a.len b.len) = some g → -13 ≤ g ∧ g ≤ 13 := fun r g => off_bnd h (nn r)
  have oi : ∀ i i' g g', offAt a b (perI a.len b.len) (i % perI a.len b.len) = some g → offAt a b (perI a.len b.len) (i' % perI a.len b.len) = some g' → i + g = i' + g' → i = i' := fun i i' g g' => off_inj h
  unfold conD
  generalize perI a.len b.len = sz at *
  have ext : ∀ {x y : Option Int}, (∀ q, x = some q ↔ y = some q) → x = y := fun {x y} hq => by
    cases x with
    | some q => exact ((hq q).mp rfl).symm
    | none =>
      cases y with
      | some q => exact (hq q).mpr rfl
      | none => rfl
  unfold Numb.pos at hx
  have ft : (false == true) = false := rfl
  have tf : (true == false) = false := rfl
  cases ha : a.near <;> cases hb : b.near <;> simp only [ha, hb, ft, tf] at hx ⊢ <;> refine ⟨s1, s6, fun p p0 p1 => ext fun q => ?_, fun p p' d d' e1 e2 e3 => ?_, fun p d e1 => ?_⟩
  all_goals simp only [if_true, if_false, Bool.false_eq_true, beq_self_eq_true, reduceCtorEq, beq_iff_eq] at *
  all_goals first
    | (rw [hx p q p0 p1]
       unfold glide sg
       simp only [if_true, if_false, Bool.false_eq_true, sub_emod2, em]
       generalize hoo : offAt a b sz _ = oo
       cases oo with
       | none => simp
       | some g =>
         simp only [Option.map_some, Option.some.injEq]
         split <;> simp only [Option.some.injEq, reduceCtorEq, iff_false] <;> omega)
    | (simp only [sub_emod2, em, Option.map_eq_some_iff] at e1 e2
       obtain ⟨g, e1, rfl⟩ := e1
       obtain ⟨g', e2, rfl⟩ := e2
       have := oi _ _ g g' e1 e2 (by simp only [sg, if_true, if_false, Bool.false_eq_true] at e3; omega)
       omega)
    | (simp only [em] at e1 e2
       exact oi _ _ d d' e1 e2 (by simpa only [sg, if_true] using e3))
    | (simp only [sub_emod2, em, Option.map_eq_some_iff] at e1
       obtain ⟨g, e1, rfl⟩ := e1
       have := ob _ g e1
       omega)
    | (simp only [em] at e1
       have := ob _ d e1
       omega)
end PF
namespace PF
open PySem PySem.Spec PyProof.Rows L2
/-! ## many steps -/
def iter (nx : Int → Option Int) : Nat → Int → Option Int
  | 0, p => some p
  | n + 1, p => (iter nx n p).bind nx
theorem iter_add {nx : Int → Option Int} (m : Nat) : ∀ (n : Nat) (p : Int), iter nx (m + n) p = (iter nx m p).bind (iter nx n)
  | 0, p => by
    show iter nx m p = _
    cases iter nx m p <;> rfl
  | n + 1, p => by
    show (iter nx (m + n) p).bind nx = _
    rw [iter_add m n p]
    cases iter nx m p <;> rfl
theorem iter_one {nx : Int → Option Int} {p : Int} : iter nx 1 p = nx p := rfl
theorem iter_succ {nx : Int → Option Int} {n : Nat} {p : Int} : iter nx (n + 1) p = (nx p).bind (iter nx n) := by
  rw [Nat.add_comm, iter_add]
  rfl
theorem iter_step {nx : Int → Option Int} {n : Nat} {p q : Int} (h : iter nx n p = some q) : iter nx (n + 1) p = nx q := by
  show (iter nx n p).bind nx = _
  rw [h]
  rfl
theorem iter_trans {nx : Int → Option Int} {m n : Nat} {p q : Int} (h : iter nx m p = some q) : iter nx (m + n) p = iter nx n q := by
  rw [iter_add, h]
  rfl
theorem iter_less {nx : Int → Option Int} {m n : Nat} {p q : Int} (h : iter nx n p = some q) (hm : m ≤ n) : ∃ r, iter nx m p = some r ∧ iter nx (n - m) r = some q := by
  have e : n = m + (n - m) := by omega
  rw [e, iter_add] at h
  cases c : iter nx m p with
  | none => rw [c] at h; cases h
  | some r =>
    rw [c] at h
    exact ⟨r, rfl, h⟩
theorem iter_in {nx : Int → Option Int} {M : Int} (hn : ∀ p q, nx p = some q → 0 ≤ q ∧ q < M) : ∀ {n : Nat} {p q : Int}, 0 ≤ p → p < M → iter nx n p = some q → 0 ≤ q ∧ q < M
  | 0, p, q, h0, h1, e => by cases e; exact ⟨h0, h1⟩
  | n + 1, p, q, h0, h1, e => by
    obtain ⟨r, h2, h3⟩ := iter_less e (Nat.le_succ n)
    rw [show n + 1 - n = 1 by omega] at h3
    exact hn r q h3
/-! the orbit of remainders comes back to its begin -/
theorem pig {u : Nat → Int} {n : Nat} (h1 : ∀ i ≤ n, 0 ≤ u i ∧ u i < n) (h2 : ∀ i j, i < n → j < n → u (i + 1) = u (j + 1) → u i = u j) (h3 : ∀ i, 0 < i → i ≤ n → u i ≠ u 0) : False := by
  have back : ∀ k i j, i + k ≤ n → j + k ≤ n → u (i + k) = u (j + k) → u i = u j := fun k => by
    induction k with
    | zero => exact fun i j _ _ e => e
    | succ k ih => exact fun i j hi hj e => ih i j (by omega) (by omega) (h2 _ _ (by omega) (by omega) e)
  have nd : ((List.range (n + 1)).map u).Nodup := by
    refine List.pairwise_map.mpr (List.pairwise_lt_range.imp_of_mem fun {i j} hi hj lt e => ?_)
    have hi := List.mem_range.mp hi
    have hj := List.mem_range.mp hj
    have := back i 0 (j - i) (by omega) (by omega) (by rw [Nat.zero_add, show j - i + i = j by omega]; exact e)
    exact h3 (j - i) (by omega) (by omega) this.symm
  have := nodup_len n _ nd fun x hx => by
    obtain ⟨i, hi, rfl⟩ := List.mem_map.mp hx
    exact h1 i (by have := List.mem_range.mp hi; omega)
  rw [List.length_map, List.length_range] at this
  omega
section
variable {nx : Int → Option Int} {M sz B : Int} {e : Bool} {c : Int → Option Int}
theorem Glid.step (g : Glid nx M sz e c B) {p q : Int} (h0 : 0 ≤ p) (h1 : p < M) (h : nx p = some q) : ∃ d, c (p % sz) = some d ∧ q = sg e p + d ∧ 0 ≤ q ∧ q < M := by
  rw [g.nx p h0 h1] at h
  unfold glide at h
  cases hc : c (p % sz) with
  | none => rw [hc] at h; cases h
  | some d =>
    rw [hc] at h
    have h : (if 0 ≤ sg e p + d ∧ sg e p + d < M then some (sg e p + d) else none) = some q := h
    split at h
    · rename_i k
      cases h
      exact ⟨d, rfl, rfl, k.1, k.2⟩
    · cases h
theorem Glid.rng (g : Glid nx M sz e c B) {n : Nat} {p q : Int} (h0 : 0 ≤ p) (h1 : p < M) (h : iter nx n p = some q) : 0 ≤ q ∧ q < M := by
  induction n generalizing q with
  | zero => cases h; exact ⟨h0, h1⟩
  | succ n ih =>
    obtain ⟨r, h2, h3⟩ := iter_less h (Nat.le_succ n)
    rw [show n + 1 - n = 1 by omega] at h3
    obtain ⟨r0, r1⟩ := ih h2
    obtain ⟨d, _, _, q0, q1⟩ := g.step r0 r1 h3
    exact ⟨q0, q1⟩
theorem Glid.of (g : Glid nx M sz e c B) {p d : Int} (h0 : 0 ≤ p) (h1 : p < M) (h : c (p % sz) = some d) : nx p = if 0 ≤ sg e p + d ∧ sg e p + d < M then some (sg e p + d) else none := by
  rw [g.nx p h0 h1]
  unfold glide
  rw [h]
/-- equal remainders come of equal remainders -/
theorem Glid.res (g : Glid nx M sz e c B) {p p' q q' : Int} (h0 : 0 ≤ p) (h1 : p < M) (h0' : 0 ≤ p') (h1' : p' < M) (h : nx p = some q) (h' : nx p' = some q') (hq : q % sz = q' % sz) : p % sz = p' % sz := by
  have s1 := g.s1
  obtain ⟨d, hd, eq, _⟩ := g.step h0 h1 h
  obtain ⟨d', hd', eq', _⟩ := g.step h0' h1' h'
  have em := Int.mul_ediv_add_emod q sz
  have em' := Int.mul_ediv_add_emod q' sz
  have key : ∀ t : Int, q - q' = sz * t → p % sz = p' % sz := fun t ht => by
    cases he : e with
    | true =>
      rw [he] at eq eq'
      simp only [sg, if_true] at eq eq'
      have := g.inj (p + sz * (-t)) p' d d' (by rw [emod_shift]; exact hd) hd' (by
        rw [he]
        simp only [sg, if_true]
        rw [Int.mul_neg]
        omega)
      rw [← this, emod_shift]
    | false =>
      rw [he] at eq eq'
      simp only [sg, if_false, Bool.false_eq_true] at eq eq'
      have := g.inj (p + sz * t) p' d d' (by rw [emod_shift]; exact hd) hd' (by
        rw [he]
        simp only [sg, if_false, Bool.false_eq_true]
        omega)
      rw [← this, emod_shift]
  exact key (q / sz - q' / sz) (by rw [Int.mul_sub]; omega)
/-- behind twice as many steps as there are remainders, an even one has come back -/
theorem Glid.back (g : Glid nx M sz e c B) {p : Int} (h0 : 0 ≤ p) (h1 : p < M) {q : Nat → Int} (hq : ∀ i ≤ 2 * sz.toNat, iter nx i p = some (q i)) (hn : ∀ i, 0 < i → i ≤ 2 * sz.toNat → i % 2 = 0 → (q i - p) % sz ≠ 0) : False := by
  have s1 := g.s1
  have es : ((sz.toNat : Nat) : Int) = sz := by omega
  have r := fun i hi => g.rng h0 h1 (hq i hi)
  have st : ∀ i, i < 2 * sz.toNat → nx (q i) = some (q (i + 1)) := fun i hi => by
    rw [← iter_step (hq i (by omega))]
    exact hq (i + 1) (by omega)
  refine pig (u := fun i => q (2 * i) % sz) (n := sz.toNat) (fun i hi => ?_) (fun i j hi hj eq => ?_) (fun i i0 hi eq => ?_)
  · have := Int.emod_nonneg (q (2 * i)) (show sz ≠ 0 by omega)
    have := Int.emod_lt_of_pos (q (2 * i)) (show 0 < sz by omega)
    omega
  · have eq : q (2 * i + 1 + 1) % sz = q (2 * j + 1 + 1) % sz := eq
    have a := r (2 * i) (by omega)
    have b := r (2 * j) (by omega)
    have a1 := r (2 * i + 1) (by omega)
    have b1 := r (2 * j + 1) (by omega)
    have := g.res a1.1 a1.2 b1.1 b1.2 (st _ (by omega)) (st _ (by omega)) eq
    exact g.res a.1 a.2 b.1 b.2 (st _ (by omega)) (st _ (by omega)) this
  · have eq : q (2 * i) % sz = q (2 * 0) % sz := eq
    have q0 := hq 0 (by omega)
    have q0 : p = q 0 := Option.some.inj q0
    refine hn (2 * i) (by omega) (by omega) (by omega) ?_
    rw [Int.sub_emod, eq, Nat.mul_zero, ← q0, Int.sub_self, Int.zero_emod]
/-! leaps -/
def mo (e : Bool) (g : Int) (i : Nat) : Int := if i % 2 = 0 ∨ e = true then g else -g
theorem mo_succ {g : Int} {i : Nat} : mo e g (i + 1) = sg e (mo e g i) := by
  cases e with
  | true =>
    have a : ∀ j, mo true g j = g := fun j => if_pos (.inr rfl)
    rw [a, a]
    rfl
  | false =>
    have s : ∀ x, sg false x = -x := fun x => rfl
    rw [s]
    by_cases k : i % 2 = 0
    · have a : mo false g i = g := if_pos (.inl k)
      have b : mo false g (i + 1) = -g := if_neg (fun z => by
        rcases z with z | z
        · omega
        · cases z)
      rw [a, b]
    · have a : mo false g i = -g := if_neg (fun z => by
        rcases z with z | z
        · omega
        · cases z)
      have b : mo false g (i + 1) = g := if_pos (.inl (by omega))
      rw [a, b, Int.neg_neg]
theorem sg_add {x y : Int} : sg e (x + y) = sg e x + sg e y := by
  unfold sg
  split <;> omega
theorem sg_mul {t x : Int} : sg e (t * x) = t * sg e x := by
  unfold sg
  split
  · rfl
  · rw [Int.mul_neg]
/-- a row whose begin is shifted -/
theorem Glid.shift (g : Glid nx M sz e c B) {p : Int} (h0 : 0 ≤ p) (h1 : p < M) {k : Nat} {q : Nat → Int} (hq : ∀ i ≤ k, iter nx i p = some (q i)) {gp t : Int} (hg : gp % sz = 0) : ∀ i ≤ k, (∀ j ≤ i, 0 ≤ q j + t * mo e gp j ∧ q j + t * mo e gp j < M) → iter nx i (p + t * gp) = some (q i + t * mo e gp i)
  | 0, _, _ => by
    have q0 : p = q 0 := Option.some.inj (hq 0 (by omega))
    rw [← q0]
    show some (p + t * gp) = some (p + t * mo e gp 0)
    unfold mo
    rw [if_pos (.inl rfl)]
  | i + 1, hi, hr => by
    have ih := Glid.shift g h0 h1 hq hg i (by omega) (fun j hj => hr j (by omega))
    rw [iter_step ih]
    have ri := g.rng h0 h1 (hq i (by omega))
    have stp : nx (q i) = some (q (i + 1)) := by
      rw [← iter_step (hq i (by omega))]
      exact hq (i + 1) hi
    obtain ⟨d, hd, eq, _⟩ := g.step ri.1 ri.2 stp
    have r2 := hr i (by omega)
    have hm : (q i + t * mo e gp i) % sz = q i % sz := by
      have : (t * mo e gp i) % sz = 0 := by
        unfold mo
        split
        · rw [Int.mul_emod, hg, Int.mul_zero, Int.zero_emod]
        · rw [Int.mul_neg, ← Int.neg_mul, Int.mul_emod, hg, Int.mul_zero, Int.zero_emod]
      rw [Int.add_emod, this, Int.add_zero, Int.emod_emod_of_dvd _ (Int.dvd_refl _)]
    rw [g.of r2.1 r2.2 (by rw [hm]; exact hd)]
    have ev : sg e (q i + t * mo e gp i) + d = q (i + 1) + t * mo e gp (i + 1) := by
      rw [sg_add, sg_mul, mo_succ, eq]
      omega
    rw [ev, if_pos (hr (i + 1) (Nat.le_refl _))]
/-- what comes behind a row whose next place is outside -/
theorem Glid.out (g : Glid nx M sz e c B) {p : Int} (h0 : 0 ≤ p) (h1 : p < M) {k : Nat} {q : Nat → Int} (hq : ∀ i ≤ k, iter nx i p = some (q i)) {gp t : Int} (hg : gp % sz = 0) {i : Nat} (hi : i < k) (hr : ∀ j ≤ i, 0 ≤ q j + t * mo e gp j ∧ q j + t * mo e gp j < M) (ho : ¬(0 ≤ q (i + 1) + t * mo e gp (i + 1) ∧ q (i + 1) + t * mo e gp (i + 1) < M)) : nx (q i + t * mo e gp i) = none := by
  have ri := g.rng h0 h1 (hq i (by omega))
  have stp : nx (q i) = some (q (i + 1)) := by
    rw [← iter_step (hq i (by omega))]
    exact hq (i + 1) (by omega)
  obtain ⟨d, hd, eq, _⟩ := g.step ri.1 ri.2 stp
  have r2 := hr i (Nat.le_refl _)
  have hm : (q i + t * mo e gp i) % sz = q i % sz := by
    have : (t * mo e gp i) % sz = 0 := by
      unfold mo
      split
      · rw [Int.mul_emod, hg, Int.mul_zero, Int.zero_emod]
      · rw [Int.mul_neg, ← Int.neg_mul, Int.mul_emod, hg, Int.mul_zero, Int.zero_emod]
    rw [Int.add_emod, this, Int.add_zero, Int.emod_emod_of_dvd _ (Int.dvd_refl _)]
  rw [g.of r2.1 r2.2 (by rw [hm]; exact hd)]
  have ev : sg e (q i + t * mo e gp i) + d = q (i + 1) + t * mo e gp (i + 1) := by
    rw [sg_add, sg_mul, mo_succ, eq]
    omega
  rw [ev, if_neg ho]
/-- so often all places of a row go on by the gap -/
def room (M x g : Int) : Int := if 0 < g then (M - 1 - x) / g else x / (-g)
theorem room_in {x g t : Int} (hx0 : 0 ≤ x) (hx1 : x < M) (hg : g ≠ 0) (t0 : 0 ≤ t) : t ≤ room M x g ↔ (0 ≤ x + t * g ∧ x + t * g < M) := by
  unfold room
  by_cases k : 0 < g
  · rw [if_pos k, Int.le_ediv_iff_mul_le k]
    have := Int.mul_nonneg t0 (show 0 ≤ g by omega)
    omega
  · rw [if_neg k, Int.le_ediv_iff_mul_le (show 0 < -g by omega), Int.mul_neg]
    have := Int.mul_nonneg t0 (show 0 ≤ -g by omega)
    rw [Int.mul_neg] at this
    omega
theorem room_nn {x g : Int} (hx0 : 0 ≤ x) (hx1 : x < M) (hg : g ≠ 0) : 0 ≤ room M x g := (room_in hx0 hx1 hg (Int.le_refl 0)).mpr (by omega)
theorem mo_ne {gp : Int} {i : Nat} (h : gp ≠ 0) : mo e gp i ≠ 0 := by
  unfold mo
  split <;> omega
/-- leaps, and what is behind them: the end of the path is near -/
theorem Glid.leaps (g : Glid nx M sz e c B) {p : Int} (h0 : 0 ≤ p) (h1 : p < M) {k : Nat} {q : Nat → Int} (hq : ∀ i ≤ k, iter nx i p = some (q i)) (hg : (q k - p) % sz = 0) (hne : q k - p ≠ 0) (hk : k % 2 = 0 ∨ e = true) {many : Int} (m1 : ∀ i ≤ k, many ≤ room M (q i) (mo e (q k - p) i)) (m2 : ∃ i ≤ k, many = room M (q i) (mo e (q k - p) i)) :
    0 ≤ many ∧ iter nx (many.toNat * k) p = some (p + many * (q k - p)) ∧ ∃ n last, n ≤ 2 * k ∧ iter nx n (p + many * (q k - p)) = some last ∧ nx last = none := by
  have q0 : p = q 0 := Option.some.inj (hq 0 (by omega))
  have k0 : 0 < k := by
    cases k with
    | zero => rw [← q0] at hne; omega
    | succ k => omega
  have r := fun i hi => g.rng h0 h1 (hq i hi)
  have mk : mo e (q k - p) k = q k - p := by unfold mo; rw [if_pos hk]
  have m00 : mo e (q k - p) 0 = q k - p := by unfold mo; rw [if_pos (.inl rfl)]
  obtain ⟨i0, hi0, em⟩ := m2
  have mn : 0 ≤ many := by rw [em]; exact room_nn (r i0 hi0).1 (r i0 hi0).2 (mo_ne hne)
  have inr : ∀ t : Int, 0 ≤ t → t ≤ many → ∀ j ≤ k, 0 ≤ q j + t * mo e (q k - p) j ∧ q j + t * mo e (q k - p) j < M := fun t t0 t1 j hj => (room_in (r j hj).1 (r j hj).2 (mo_ne hne) t0).mp (Int.le_trans t1 (m1 j hj))
  have lp : ∀ t : Nat, (t : Int) ≤ many → iter nx (t * k) p = some (p + (t : Int) * (q k - p)) := fun t => by
    induction t with
    | zero =>
      intro _
      rw [Nat.zero_mul]
      show some p = some (p + 0 * (q k - p))
      rw [Int.zero_mul, Int.add_zero]
    | succ t ih =>
      intro ht
      have a := ih (by omega)
      have b := g.shift h0 h1 hq hg (t := (t : Int)) k (Nat.le_refl _) (inr t (by omega) (by omega))
      rw [Nat.succ_mul, iter_trans a, b, mk]
      congr 1
      rw [show ((t + 1 : Nat) : Int) = (t : Int) + 1 by omega, Int.add_mul, Int.one_mul]
      omega
  have l1 := lp many.toNat (by omega)
  rw [show ((many.toNat : Nat) : Int) = many by omega] at l1
  refine ⟨mn, l1, ?_⟩
  -- the first place that is outside
  have ex : ∃ j, j ≤ k ∧ ¬(0 ≤ q j + (many + 1) * mo e (q k - p) j ∧ q j + (many + 1) * mo e (q k - p) j < M) := ⟨i0, hi0, fun z => by
    have := (room_in (r i0 hi0).1 (r i0 hi0).2 (mo_ne hne) (show 0 ≤ many + 1 by omega)).mpr z
    omega⟩
  have least : ∀ n, (∃ j, j ≤ n ∧ j ≤ k ∧ ¬(0 ≤ q j + (many + 1) * mo e (q k - p) j ∧ q j + (many + 1) * mo e (q k - p) j < M)) → ∃ j, j ≤ k ∧ ¬(0 ≤ q j + (many + 1) * mo e (q k - p) j ∧ q j + (many + 1) * mo e (q k - p) j < M) ∧ ∀ l < j, 0 ≤ q l + (many + 1) * mo e (q k - p) l ∧ q l + (many + 1) * mo e (q k - p) l < M := fun n => by
    induction n with
    | zero =>
      rintro ⟨j, j0, jk, hj⟩
      cases (show j = 0 by omega)
      exact ⟨0, jk, hj, fun l hl => by omega⟩
    | succ n ih =>
      intro h
      by_cases z : ∃ j, j ≤ n ∧ j ≤ k ∧ ¬(0 ≤ q j + (many + 1) * mo e (q k - p) j ∧ q j + (many + 1) * mo e (q k - p) j < M)
      · exact ih z
      · obtain ⟨j, jn, jk, hj⟩ := h
        refine ⟨j, jk, hj, fun l hl => ?_⟩
        by_cases y : 0 ≤ q l + (many + 1) * mo e (q k - p) l ∧ q l + (many + 1) * mo e (q k - p) l < M
        · exact y
        · exact absurd ⟨l, by omega, by omega, y⟩ z
  obtain ⟨j, jk, hj⟩ := ex
  obtain ⟨j, jk, hj, hl⟩ := least j ⟨j, Nat.le_refl _, jk, hj⟩
  have st := g.shift h0 h1 hq hg (t := many) k (Nat.le_refl _) (inr many mn (Int.le_refl _))
  have ek : q k + many * mo e (q k - p) k = p + (many + 1) * (q k - p) := by
    rw [mk, Int.add_mul, Int.one_mul]
    omega
  rw [ek] at st
  cases j with
  | zero =>
    exfalso
    apply hj
    rw [m00, ← q0]
    have := (inr many mn (Int.le_refl _) k (Nat.le_refl _))
    rw [ek] at this
    exact this
  | succ j =>
    have s2 := g.shift h0 h1 hq hg (t := many + 1) j (by omega) (fun l hl' => hl l (by omega))
    have s3 := g.out h0 h1 hq hg (t := many + 1) (i := j) (by omega) (fun l hl' => hl l (by omega)) hj
    exact ⟨k + j, _, by omega, by rw [iter_trans st]; exact s2, s3⟩
/-- a row of few steps ends near its begin -/
theorem Glid.gap (g : Glid nx M sz e c B) (hB : e = true → B = 0) {p : Int} (h0 : 0 ≤ p) (h1 : p < M) {q : Nat → Int} : ∀ k, (∀ i ≤ k, iter nx i p = some (q i)) → (k % 2 = 0 ∨ e = true) → -(13 * (k : Int)) ≤ q k - p ∧ q k - p ≤ 13 * (k : Int)
  | 0, hq, _ => by
    have q0 : p = q 0 := Option.some.inj (hq 0 (by omega))
    rw [← q0]
    omega
  | 1, hq, hk => by
    have he := hk.resolve_left (by omega)
    have q0 : p = q 0 := Option.some.inj (hq 0 (by omega))
    have st : nx (q 0) = some (q 1) := by
      rw [← iter_step (hq 0 (by omega))]
      exact hq 1 (Nat.le_refl _)
    obtain ⟨d, hd, eq, _⟩ := g.step (by omega) (by omega) st
    have b := g.bnd _ _ hd
    rw [hB he] at b
    rw [he] at eq
    simp only [sg, if_true] at eq
    omega
  | k + 2, hq, hk => by
    have ih := Glid.gap g hB h0 h1 k (fun i hi => hq i (by omega)) (hk.imp (by omega) id)
    have r0 := g.rng h0 h1 (hq k (by omega))
    have r1 := g.rng h0 h1 (hq (k + 1) (by omega))
    have s0 : nx (q k) = some (q (k + 1)) := by
      rw [← iter_step (hq k (by omega))]
      exact hq (k + 1) (by omega)
    have s1 : nx (q (k + 1)) = some (q (k + 2)) := by
      rw [← iter_step (hq (k + 1) (by omega))]
      exact hq (k + 2) (by omega)
    obtain ⟨d, hd, eq, _⟩ := g.step r0.1 r0.2 s0
    obtain ⟨d', hd', eq', _⟩ := g.step r1.1 r1.2 s1
    have b := g.bnd _ _ hd
    have b' := g.bnd _ _ hd'
    cases he : e with
    | true =>
      rw [hB he] at b b'
      rw [he] at eq eq'
      simp only [sg, if_true] at eq eq'
      omega
    | false =>
      rw [he] at eq eq'
      simp only [sg, if_false, Bool.false_eq_true] at eq eq'
      omega
end
end PF
namespace PF
open PySem PySem.Spec PyProof.Rows L2
section
variable {X : Cx} {T : List (Addr × Str)} {W : WX} {a b c : Expr} {fa fb fc : EF} {pos : Pos}
theorem de_ltle (ha : DE X T W a fa) (hb : DE X T W b fb) (hc : DE X T W c fc) : DE X T W (.Compare a [.Lt, .LtE] [b, c] pos) (eChain gLt gLe fa fb fc) :=
  de_chain (op := .Lt) (op' := .LtE) gLt_ok gLe_ok (pe_chain op_lt op_le (de_settle ha) (de_settle hb) (de_settle hc) (by show lastMarks [_, _] [_, _] = false; simp only [lastMarks]; exact nomark _))
theorem dt_ltle (ha : DE X T W a fa) (hb : DE X T W b fb) (hc : DE X T W c fc) : DT X T W (.Compare a [.Lt, .LtE] [b, c] pos) (tChain' gLt gLe fa fb fc) :=
  dt_chain (op := .Lt) (op' := .LtE) gLt_ok gLe_ok (pt_chain op_lt op_le (de_settle ha) (de_settle hb) (de_settle hc) (by show lastMarks [_, _] [_, _] = false; simp only [lastMarks]; exact nomark _))
end
/-! ## rings and paths of a house -/
def RingAt (nx : Int → Option Int) (p : Int) (k : Nat) : Prop := 0 < k ∧ iter nx k p = some p ∧ ∀ i, 0 < i → i < k → iter nx i p ≠ some p
def PathTo (nx : Int → Option Int) (p : Int) (k : Nat) (l : Int) : Prop := iter nx k p = some l ∧ nx l = none
theorem iter_past {nx : Int → Option Int} {p l : Int} {k j : Nat} (h : PathTo nx p k l) (hj : k < j) : iter nx j p = none := by
  have e : j = k + (1 + (j - k - 1)) := by omega
  rw [e, iter_trans h.1, iter_add, iter_one, h.2]
  rfl
theorem path_unique {nx : Int → Option Int} {p l l' : Int} {k k' : Nat} (h : PathTo nx p k l) (h' : PathTo nx p k' l') : k = k' ∧ l = l' := by
  have e : k = k' := by
    rcases Nat.lt_trichotomy k k' with c | c | c
    · have := iter_past h c
      rw [h'.1] at this
      cases this
    · exact c
    · have := iter_past h' c
      rw [h.1] at this
      cases this
  subst e
  exact ⟨rfl, Option.some.inj (h.1.symm.trans h'.1)⟩
theorem ring_unique {nx : Int → Option Int} {p : Int} {k k' : Nat} (h : RingAt nx p k) (h' : RingAt nx p k') : k = k' := by
  rcases Nat.lt_trichotomy k k' with c | c | c
  · exact absurd h.2.1 (h'.2.2 k h.1 c)
  · exact c
  · exact absurd h'.2.1 (h.2.2 k' h'.1 c)
theorem ring_mul {nx : Int → Option Int} {p : Int} {k : Nat} (h : RingAt nx p k) : ∀ n, iter nx (n * k) p = some p
  | 0 => by rw [Nat.zero_mul]; rfl
  | n + 1 => by rw [Nat.succ_mul, iter_trans (ring_mul h n), h.2.1]
theorem ring_path {nx : Int → Option Int} {p l : Int} {k k' : Nat} (h : RingAt nx p k) (h' : PathTo nx p k' l) : False := by
  have := iter_past h' (j := (k' + 1) * k) (by
    have := Nat.mul_le_mul_left (k' + 1) h.1
    omega)
  rw [ring_mul h] at this
  cases this
theorem path_next {nx : Int → Option Int} {p q l : Int} {k : Nat} (h : PathTo nx p (k + 1) l) (e : nx p = some q) : PathTo nx q k l := by
  refine ⟨?_, h.2⟩
  have := h.1
  rw [iter_succ, e] at this
  exact this
theorem path_zero {nx : Int → Option Int} {p l : Int} {k : Nat} (h : PathTo nx p k l) (e : nx p = none) : k = 0 ∧ l = p := path_unique h ⟨rfl, e⟩
section
variable {nx gv : Int → Option Int} {M : Int}
theorem Strt.iter_rng (h : Strt nx gv M) {p q : Int} {k : Nat} (p0 : 0 ≤ p) (p1 : p < M) (e : iter nx k p = some q) : 0 ≤ q ∧ q < M := iter_in h.nxi p0 p1 e
theorem Strt.sw (h : Strt nx gv M) : Strt gv nx M := ⟨h.m0, h.gvi, h.nxi, fun p q p0 p1 q0 q1 => (h.iff q p q0 q1 p0 p1).symm⟩
theorem Strt.rev (h : Strt nx gv M) : ∀ {k : Nat} {p q : Int}, 0 ≤ p → p < M → iter nx k p = some q → iter gv k q = some p
  | 0, p, q, _, _, e => by cases e; rfl
  | k + 1, p, q, p0, p1, e => by
    obtain ⟨r, h1, h2⟩ := iter_less e (Nat.le_succ k)
    rw [show k + 1 - k = 1 by omega, iter_one] at h2
    have r0 := h.iter_rng p0 p1 h1
    have q0 := h.nxi r q h2
    rw [iter_succ, (h.iff r q r0.1 r0.2 q0.1 q0.2).mp h2]
    exact Strt.rev h p0 p1 h1
theorem Strt.ring_rev (h : Strt nx gv M) {p : Int} {k : Nat} (p0 : 0 ≤ p) (p1 : p < M) (r : RingAt nx p k) : RingAt gv p k := by
  refine ⟨r.1, h.rev p0 p1 r.2.1, fun i i0 i1 e => r.2.2 i i0 i1 ?_⟩
  exact h.sw.rev p0 p1 e
theorem Strt.ring_next (h : Strt nx gv M) {p : Int} {k : Nat} (p0 : 0 ≤ p) (p1 : p < M) (r : RingAt nx p k) : ∃ q, nx p = some q ∧ RingAt nx q k := by
  obtain ⟨q, h1, h2⟩ := iter_less r.2.1 r.1
  rw [iter_one] at h1
  have q0 := h.nxi p q h1
  have up : ∀ i, iter nx i p = some p → iter nx i q = some q := fun i e => by
    have : iter nx (i + 1) p = some q := by rw [iter_step e, h1]
    rw [iter_succ, h1] at this
    exact this
  refine ⟨q, h1, r.1, up k r.2.1, fun i i0 i1 e => r.2.2 i i0 i1 ?_⟩
  -- back again
  have g := h.rev q0.1 q0.2 e
  have gq := (h.iff p q p0 p1 q0.1 q0.2).mp h1
  have : iter gv (i + 1) q = some p := by rw [iter_step g, gq]
  rw [iter_succ, gq] at this
  exact h.sw.rev p0 p1 this
end
/-! what the program tells -/
def WkIs (nx : Int → Option Int) (p : Int) (d : D) : Prop := (∃ k : Nat, k ≤ 13 ∧ RingAt nx p k ∧ d = .tup [.bl true, .int k, .int p]) ∨ (∃ (k : Nat) (l : Int), PathTo nx p k l ∧ d = .tup [.bl false, .int k, .int l])
def FateIs (nx gv : Int → Option Int) (p : Int) (d : D) : Prop := (∃ k : Nat, k ≤ 13 ∧ RingAt nx p k ∧ d = .tup [.str "ring", .int k]) ∨ (∃ (k j : Nat) (l f : Int), PathTo nx p k l ∧ PathTo gv p j f ∧ d = .tup [.str "path", .int j, .int k])
theorem fate_unique {nx gv : Int → Option Int} {p : Int} {d d' : D} (h : FateIs nx gv p d) (h' : FateIs nx gv p d') : d = d' := by
  rcases h with ⟨k, _, r, rfl⟩ | ⟨k, j, l, f, q, q2, rfl⟩ <;> rcases h' with ⟨k', _, r', rfl⟩ | ⟨k', j', l', f', q', q2', rfl⟩
  · rw [ring_unique r r']
  · exact (ring_path r q').elim
  · exact (ring_path r' q).elim
  · rw [(path_unique q q').1, (path_unique q2 q2').1]
def stepP (a b : Numb) (M : Int) (ah : Bool) (p : Int) : Option Int := if ah then heirP a b M p else giverP a b M p
theorem step_glid {a b : Numb} (h : POk a b) (M : Int) (ah : Bool) : ∃ c, Glid (stepP a b M ah) M (perI a.len b.len) (a.near == b.near) c (if a.near == b.near then 0 else M - 1) := by
  cases ah with
  | true => exact ⟨_, heir_glid h M⟩
  | false =>
    have g := heir_glid h.sw M
    rw [perI_comm, show (b.near == a.near) = (a.near == b.near) by cases a.near <;> cases b.near <;> rfl] at g
    exact ⟨_, g⟩
/-! the row of a walk -/
def qf (nx : Int → Option Int) (p : Int) (i : Nat) : Int := (iter nx i p).getD 0
theorem qf_some {nx : Int → Option Int} {p : Int} {i : Nat} {q : Int} (h : iter nx i p = some q) : qf nx p i = q := by
  unfold qf
  rw [h]
  rfl
def rowW (nx : Int → Option Int) (p : Int) (m : Nat) : List D := (List.range (m + 1)).map fun i => D.int (qf nx p i)
theorem rowW_len {nx : Int → Option Int} {p : Int} {m : Nat} : (rowW nx p m).length = m + 1 := by unfold rowW; rw [List.length_map, List.length_range]
theorem rowW_succ {nx : Int → Option Int} {p : Int} {m : Nat} : rowW nx p (m + 1) = rowW nx p m ++ [.int (qf nx p (m + 1))] := by
  unfold rowW
  rw [List.range_succ, List.map_append]
  rfl
theorem rowW_last {nx : Int → Option Int} {p : Int} {m : Nat} : gIx (.lst (rowW nx p m)) (.int (-1)) = some (.val (.int (qf nx p m))) := by
  have : rowW nx p m = ((List.range m).map fun i => D.int (qf nx p i)) ++ [.int (qf nx p m)] := by
    unfold rowW
    rw [List.range_succ, List.map_append]
    rfl
  rw [this]
  exact gIx_last
theorem rowW_0 {nx : Int → Option Int} {p : Int} {m : Nat} : gIx (.lst (rowW nx p m)) (.int 0) = some (.val (.int p)) := by
  have : rowW nx p m = .int p :: ((List.range m).map fun i => D.int (qf nx p (i + 1))) := by
    unfold rowW
    rw [List.range_succ_eq_map, List.map_cons, List.map_map]
    rfl
  rw [this]
  exact ix0
theorem ints_of : ∀ (xs : List Int), toInts (xs.map D.int) = some xs
  | [] => rfl
  | x :: xs => by
    show (toInts (xs.map D.int)).map (x :: ·) = _
    rw [ints_of xs]
    rfl
theorem gMin_ev {xs : List Int} (h : xs ≠ []) : ∃ m, gMin [.lst (xs.map D.int)] = some (.val (.int m)) ∧ m ∈ xs ∧ ∀ y ∈ xs, m ≤ y := by
  cases xs with
  | nil => exact absurd rfl h
  | cons x xs =>
    obtain ⟨h1, h2, h3⟩ := foldl_min xs x
    refine ⟨xs.foldl min x, ?_, ?_, fun y hy => ?_⟩
    · show (toInts ((x :: xs).map D.int)).bind (fun bs => (minI bs).map Op.val) = _
      rw [ints_of]
      rfl
    · rcases h1 with h1 | h1
      · rw [h1]; simp
      · simp [h1]
    · rcases List.mem_cons.mp hy with hy | hy
      · subst hy; exact h2
      · exact h3 y hy
theorem gMax_ev {xs : List Int} (h : xs ≠ []) : ∃ m, gMax [.lst (xs.map D.int)] = some (.val (.int m)) ∧ m ∈ xs ∧ ∀ y ∈ xs, y ≤ m := by
  cases xs with
  | nil => exact absurd rfl h
  | cons x xs =>
    obtain ⟨h1, h2, h3⟩ := foldl_max xs x
    refine ⟨xs.foldl max x, ?_, ?_, fun y hy => ?_⟩
    · show (toInts ((x :: xs).map D.int)).bind (fun bs => (maxI bs).map Op.val) = _
      rw [ints_of]
      rfl
    · rcases h1 with h1 | h1
      · rw [h1]; simp
      · simp [h1]
    · rcases List.mem_cons.mp hy with hy | hy
      · subst hy; exact h2
      · exact h3 y hy
/-! chains -/
def chainG (nx : Int → Option Int) (p : Int) : Nat → Int → List Int
  | 0, x => [x]
  | n + 1, x => match nx x with
    | none => [x]
    | some y => if y = p then [x] else x :: chainG nx p n y
end PF
namespace Wk04
open PySem PySem.Spec PyProof.Rows L2 PF LamX
def top (i : Nat) : Stmt := PySem.Challenge.pw_newnumbers_k04_ways_of_thirty_figures.main.body.getD i (.Pass ⟨0, 0, 0, 0⟩)
abbrev s__law_deck : Stmt := top 33
abbrev s__law_pick : Stmt := top 34
abbrev s__law_one : Stmt := top 35
abbrev s__law_table : Stmt := top 36
abbrev s__law_plan : Stmt := top 37
abbrev s__law_known : Stmt := top 38
abbrev s_has_items : Stmt := top 9
abbrev s_is_within : Stmt := top 8
abbrev s_is_numbering_value : Stmt := top 10
abbrev s_is_plan_value : Stmt := top 11
abbrev s_need_plan : Stmt := top 18
abbrev s_need_count : Stmt := top 19
abbrev s_need_house : Stmt := top 20
abbrev s_leap : Stmt := top 25
abbrev s_period_of : Stmt := top 17
abbrev s_index_of : Stmt := top 13
abbrev s_place_of : Stmt := top 14
abbrev s_number_of : Stmt := top 12
abbrev s_heir_of : Stmt := top 15
abbrev s_giver_of : Stmt := top 16
abbrev s_step_of : Stmt := top 24
abbrev s_walk : Stmt := top 26
abbrev s_fate_of : Stmt := top 27
abbrev s_fate : Stmt := top 28
abbrev s_heir : Stmt := top 21
abbrev s_first_giver : Stmt := top 30
abbrev s_last_heir : Stmt := top 29
abbrev s_giver : Stmt := top 22
abbrev s__law_on_right : Stmt := top 39
abbrev s_chain : Stmt := top 31
abbrev s__law_steps_right : Stmt := top 40
abbrev s_law : Stmt := top 41
abbrev FnP (K : PySem.W.Frag) (x : Str) (st : Stmt) (f : Addr) (fd : FuncData) : Prop := FunD K x x (defArgs st) (defBody st) (defScope st) [] [] f fd
def k_ENDS : D := .kt [.str "far", .str "near"]
structure Facts (K : PySem.W.Frag) (mg : Str → Option Value) where
  a__law_deck : Addr
  d__law_deck : FuncData
  f__law_deck : FnP K "_law_deck" s__law_deck a__law_deck d__law_deck
  m__law_deck : mg "_law_deck" = some (.ref a__law_deck)
  a__law_pick : Addr
  d__law_pick : FuncData
  f__law_pick : FnP K "_law_pick" s__law_pick a__law_pick d__law_pick
  m__law_pick : mg "_law_pick" = some (.ref a__law_pick)
  a__law_one : Addr
  d__law_one : FuncData
  f__law_one : FnP K "_law_one" s__law_one a__law_one d__law_one
  m__law_one : mg "_law_one" = some (.ref a__law_one)
  a__law_table : Addr
  d__law_table : FuncData
  f__law_table : FnP K "_law_table" s__law_table a__law_table d__law_table
  m__law_table : mg "_law_table" = some (.ref a__law_table)
  a__law_plan : Addr
  d__law_plan : FuncData
  f__law_plan : FnP K "_law_plan" s__law_plan a__law_plan d__law_plan
  m__law_plan : mg "_law_plan" = some (.ref a__law_plan)
  a__law_known : Addr
  d__law_known : FuncData
  f__law_known : FnP K "_law_known" s__law_known a__law_known d__law_known
  m__law_known : mg "_law_known" = some (.ref a__law_known)
  a_has_items : Addr
  d_has_items : FuncData
  f_has_items : FnP K "has_items" s_has_items a_has_items d_has_items
  m_has_items : mg "has_items" = some (.ref a_has_items)
  a_is_within : Addr
  d_is_within : FuncData
  f_is_within : FnP K "is_within" s_is_within a_is_within d_is_within
  m_is_within : mg "is_within" = some (.ref a_is_within)
  a_is_numbering_value : Addr
  d_is_numbering_value : FuncData
  f_is_numbering_value : FnP K "is_numbering_value" s_is_numbering_value a_is_numbering_value d_is_numbering_value
  m_is_numbering_value : mg "is_numbering_value" = some (.ref a_is_numbering_value)
  a_is_plan_value : Addr
  d_is_plan_value : FuncData
  f_is_plan_value : FnP K "is_plan_value" s_is_plan_value a_is_plan_value d_is_plan_value
  m_is_plan_value : mg "is_plan_value" = some (.ref a_is_plan_value)
  a_need_plan : Addr
  d_need_plan : FuncData
  f_need_plan : FnP K "need_plan" s_need_plan a_need_plan d_need_plan
  m_need_plan : mg "need_plan" = some (.ref a_need_plan)
  a_need_count : Addr
  d_need_count : FuncData
  f_need_count : FnP K "need_count" s_need_count a_need_count d_need_count
  m_need_count : mg "need_count" = some (.ref a_need_count)
  a_need_house : Addr
  d_need_house : FuncData
  f_need_house : FnP K "need_house" s_need_house a_need_house d_need_house
  m_need_house : mg "need_house" = some (.ref a_need_house)
  a_leap : Addr
  d_leap : FuncData
  f_leap : FnP K "leap" s_leap a_leap d_leap
  m_leap : mg "leap" = some (.ref a_leap)
  a_period_of : Addr
  d_period_of : FuncData
  f_period_of : FnP K "period_of" s_period_of a_period_of d_period_of
  m_period_of : mg "period_of" = some (.ref a_period_of)
  a_index_of : Addr
  d_index_of : FuncData
  f_index_of : FnP K "index_of" s_index_of a_index_of d_index_of
  m_index_of : mg "index_of" = some (.ref a_index_of)
  a_place_of : Addr
  d_place_of : FuncData
  f_place_of : FnP K "place_of" s_place_of a_place_of d_place_of
  m_place_of : mg "place_of" = some (.ref a_place_of)
  a_number_of : Addr
  d_number_of : FuncData
  f_number_of : FnP K "number_of" s_number_of a_number_of d_number_of
  m_number_of : mg "number_of" = some (.ref a_number_of)
  a_heir_of : Addr
  d_heir_of : FuncData
  f_heir_of : FnP K "heir_of" s_heir_of a_heir_of d_heir_of
  m_heir_of : mg "heir_of" = some (.ref a_heir_of)
  a_giver_of : Addr
  d_giver_of : FuncData
  f_giver_of : FnP K "giver_of" s_giver_of a_giver_of d_giver_of
  m_giver_of : mg "giver_of" = some (.ref a_giver_of)
  a_step_of : Addr
  d_step_of : FuncData
  f_step_of : FnP K "step_of" s_step_of a_step_of d_step_of
  m_step_of : mg "step_of" = some (.ref a_step_of)
  a_walk : Addr
  d_walk : FuncData
  f_walk : FnP K "walk" s_walk a_walk d_walk
  m_walk : mg "walk" = some (.ref a_walk)
  a_fate_of : Addr
  d_fate_of : FuncData
  f_fate_of : FnP K "fate_of" s_fate_of a_fate_of d_fate_of
  m_fate_of : mg "fate_of" = some (.ref a_fate_of)
  a_fate : Addr
  d_fate : FuncData
  f_fate : FnP K "fate" s_fate a_fate d_fate
  m_fate : mg "fate" = some (.ref a_fate)
  a_heir : Addr
  d_heir : FuncData
  f_heir : FnP K "heir" s_heir a_heir d_heir
  m_heir : mg "heir" = some (.ref a_heir)
  a_first_giver : Addr
  d_first_giver : FuncData
  f_first_giver : FnP K "first_giver" s_first_giver a_first_giver d_first_giver
  m_first_giver : mg "first_giver" = some (.ref a_first_giver)
  a_last_heir : Addr
  d_last_heir : FuncData
  f_last_heir : FnP K "last_heir" s_last_heir a_last_heir d_last_heir
  m_last_heir : mg "last_heir" = some (.ref a_last_heir)
  a_giver : Addr
  d_giver : FuncData
  f_giver : FnP K "giver" s_giver a_giver d_giver
  m_giver : mg "giver" = some (.ref a_giver)
  a__law_on_right : Addr
  d__law_on_right : FuncData
  f__law_on_right : FnP K "_law_on_right" s__law_on_right a__law_on_right d__law_on_right
  m__law_on_right : mg "_law_on_right" = some (.ref a__law_on_right)
  a_chain : Addr
  d_chain : FuncData
  f_chain : FnP K "chain" s_chain a_chain d_chain
  m_chain : mg "chain" = some (.ref a_chain)
  a__law_steps_right : Addr
  d__law_steps_right : FuncData
  f__law_steps_right : FnP K "_law_steps_right" s__law_steps_right a__law_steps_right d__law_steps_right
  m__law_steps_right : mg "_law_steps_right" = some (.ref a__law_steps_right)
  a_law : Addr
  d_law : FuncData
  f_law : FnP K "law" s_law a_law d_law
  m_law : mg "law" = some (.ref a_law)
  n_all : mg "all" = none
  n_bool : mg "bool" = none
  n_enumerate : mg "enumerate" = none
  n_int : mg "int" = none
  n_isinstance : mg "isinstance" = none
  n_len : mg "len" = none
  n_max : mg "max" = none
  n_min : mg "min" = none
  n_range : mg "range" = none
  n_set : mg "set" = none
  n_str : mg "str" = none
  n_tuple : mg "tuple" = none
  c_InvalidCount : Addr
  m_InvalidCount : mg "InvalidCount" = some (.ref c_InvalidCount)
  c_InvalidPlace : Addr
  m_InvalidPlace : mg "InvalidPlace" = some (.ref c_InvalidPlace)
  c_InvalidPlan : Addr
  m_InvalidPlan : mg "InvalidPlan" = some (.ref c_InvalidPlan)
  e_InvalidCount : EClass K mg "InvalidCount" c_InvalidCount
  e_InvalidPlace : EClass K mg "InvalidPlace" c_InvalidPlace
  e_InvalidPlan : EClass K mg "InvalidPlan" c_InvalidPlan
  c_ENDS : Addr
  g_ENDS : mg "ENDS" = some (.ref c_ENDS)
  r_ENDS : ∀ G, Rep K G k_ENDS (.ref c_ENDS)
  i_MOST : ∃ t, mg "MOST" = some (.int 1000000000000000000000000000000 t)
section
variable {P : Program} {w : World} {K : PySem.W.Frag} {mg : Str → Option Value} {base : Heap} {T : List (Addr × Str)}
theorem sc__law_deck : FnScope ["cell", "turn"] ["cell", "turn"] (defScope s__law_deck) := ⟨rfl, rfl, rfl, by decide +kernel, rfl, by decide +kernel, by decide +kernel⟩
theorem b__law_deck (Z : Facts K mg) : Binds K Z.d__law_deck ["cell", "turn"] [] := Z.f__law_deck.bindsN fun _ _ _ _ _ _ us hl => match us, hl with | [_, _], _ => rfl
def g__law_deck : SF := (sSeq (sIf (tCmp' gGe (eVar 0) (eOp2 gPow (eC (.int 10)) (eC (.int 18)))) (sRet (eLst (aCons (eOp2 gSub (eVar 0) (eOp2 gPow (eC (.int 10)) (eC (.int 18)))) (aCons (eOp2 gMod (eVar 0) (eC (.int 2147483579))) (aCons (eVar 1) aNil))))) sNext)
  (sRet (eLst (aCons (eC (.int 0)) (aCons (eOp2 gMod (eVar 0) (eC (.int 2147483579))) (aCons (eVar 1) aNil))))))
def F__law_deck : FS := fnOf 2 g__law_deck
theorem e__law_deck {x0 x1 : Sl} : F__law_deck [x0, x1] = kFn 2 (g__law_deck [x0, x1]) := (rfl)
theorem ok__law_deck (Z : Facts K mg) : FnOk P w K mg base (L2N.CX P w) 1 Z.a__law_deck Z.d__law_deck ["cell", "turn"] (spF K mg T 2 F__law_deck) :=
  fun_ok (k := 0) Z.f__law_deck sc__law_deck (by decide) fun cdv A outer s H E hr tk pso => (db_cons (ds_if (dt_ge (de_var (pv 0)) (de_pow de_int de_int)) (db_one (ds_ret (de_lst (da_cons (de_sub (de_var (pv 0)) (de_pow de_int de_int)) (da_cons (de_mod (de_var (pv 0)) de_int) (da_cons (de_var (pv 1)) da_nil)))))) db_nil)
  (db_one (ds_ret (de_lst (da_cons de_int (da_cons (de_mod (de_var (pv 0)) de_int) (da_cons (de_var (pv 1)) da_nil)))))))
theorem sc__law_pick : FnScope ["deck", "size", "found", "number"] ["deck", "size"] (defScope s__law_pick) := ⟨rfl, rfl, rfl, by decide +kernel, rfl, by decide +kernel, by decide +kernel⟩
theorem b__law_pick (Z : Facts K mg) : Binds K Z.d__law_pick ["deck", "size"] [] := Z.f__law_pick.bindsN fun _ _ _ _ _ _ us hl => match us, hl with | [_, _], _ => rfl
def g__law_pick : SF := (sSeq (sIf (tCmp' gGt (eOp2 gIx (eVar 0) (eC (.int 0))) (eC (.int 1))) (sSeq (sSet 2 (eOp2 gMod (eCall gInt (aCons (eOp2 gIx (eVar 0) (eC (.int 0))) aNil)) (eVar 1)))
  (sSeq (sStI 0 (eOp2 gDiv (eOp2 gIx (eVar 0) (eC (.int 0))) (eVar 1)) (eC (.int 0)))
  (sRet (eVar 2)))) sNext)
  (sSeq (sStI 0 (eOp2 gAdd (eOp2 gIx (eVar 0) (eC (.int 2))) (eC (.int 1))) (eC (.int 2)))
  (sSeq (sSet 3 (eOp2 gMod (eOp2 gPow (eOp2 gAdd (eOp2 gIx (eVar 0) (eC (.int 1))) (eOp2 gMul (eC (.int 15485867)) (eOp2 gIx (eVar 0) (eC (.int 2))))) (eC (.int 5))) (eC (.int 2147483647))))
  (sSeq (sSet 2 (eOp2 gDiv (eOp2 gMod (eOp2 gPow (eOp2 gAdd (eVar 3) (eOp2 gMul (eC (.int 7919)) (eOp2 gIx (eVar 0) (eC (.int 2))))) (eC (.int 3))) (eC (.int 2147483629))) (eC (.int 32))))
  (sRet (eOp2 gMod (eCall gInt (aCons (eVar 2) aNil)) (eVar 1)))))))
def F__law_pick : FS := fnOf 4 g__law_pick
theorem e__law_pick {x0 x1 : Sl} : F__law_pick [x0, x1] = kFn 2 (g__law_pick [x0, x1, .un, .un]) := (rfl)
theorem ok__law_pick (Z : Facts K mg) : FnOk P w K mg base (L2N.CX P w) 1 Z.a__law_pick Z.d__law_pick ["deck", "size"] (spF K mg T 2 F__law_pick) :=
  fun_ok (k := 0) Z.f__law_pick sc__law_pick (by decide) fun cdv A outer s H E hr tk pso => (db_cons (ds_if (dt_gt (de_sub_ix (de_var (pv 0)) de_int) de_int) (db_cons (ds_name (i := 2) sc__law_pick.nd (de_mod (de_toInt Z.n_int (de_sub_ix (de_var (pv 0)) de_int)) (de_var (pv 1))))
  (db_cons (ds_stI (ps_asg (de_settle (de_div (de_sub_ix (de_var (pv 0)) de_int) (de_var (pv 1)))) (pg_sub (pv 0) (de_settle de_int) set_list)))
  (db_one (ds_ret (de_var (pv 2)))))) db_nil)
  (db_cons (ds_stI (ps_asg (de_settle (de_add (de_sub_ix (de_var (pv 0)) de_int) de_int)) (pg_sub (pv 0) (de_settle de_int) set_list)))
  (db_cons (ds_name (i := 3) sc__law_pick.nd (de_mod (de_pow (de_add (de_sub_ix (de_var (pv 0)) de_int) (de_mul de_int (de_sub_ix (de_var (pv 0)) de_int))) de_int) de_int))
  (db_cons (ds_name (i := 2) sc__law_pick.nd (de_div (de_mod (de_pow (de_add (de_var (pv 3)) (de_mul de_int (de_sub_ix (de_var (pv 0)) de_int))) de_int) de_int) de_int))
  (db_one (ds_ret (de_mod (de_toInt Z.n_int (de_var (pv 2))) (de_var (pv 1)))))))))
theorem sc__law_one : FnScope ["deck", "some"] ["deck", "some"] (defScope s__law_one) := ⟨rfl, rfl, rfl, by decide +kernel, rfl, by decide +kernel, by decide +kernel⟩
theorem b__law_one (Z : Facts K mg) : Binds K Z.d__law_one ["deck", "some"] [] := Z.f__law_one.bindsN fun _ _ _ _ _ _ us hl => match us, hl with | [_, _], _ => rfl
def g__law_one : SF := (sRet (eOp2 gIx (eVar 1) (eFn F__law_pick [true, false] (aCons (eVar 0) (aCons (eCall gLen (aCons (eVar 1) aNil)) aNil)))))
def F__law_one : FS := fnOf 2 g__law_one
theorem e__law_one {x0 x1 : Sl} : F__law_one [x0, x1] = kFn 2 (g__law_one [x0, x1]) := (rfl)
theorem ok__law_one (Z : Facts K mg) : FnOk P w K mg base (L2N.CX P w) 2 Z.a__law_one Z.d__law_one ["deck", "some"] (spF K mg T 2 F__law_one) :=
  fun_ok (k := 1) Z.f__law_one sc__law_one (by decide) fun cdv A outer s H E hr tk pso => (db_one (ds_ret (de_sub_ix (de_var (pv 1)) (de_call (ios := [true, false]) (ok__law_pick Z) (hr.mono (by omega)) rfl Z.m__law_pick Z.f__law_pick.kp (b__law_pick Z) tk (da_cons (de_var (pv 0)) (da_cons (de_len Z.n_len (de_var (pv 1))) da_nil))))))
theorem sc__law_table : FnScope ["deck", "step", "many", "found", "rests", "one"] ["deck", "step", "many"] (defScope s__law_table) := ⟨rfl, rfl, rfl, by decide +kernel, rfl, by decide +kernel, by decide +kernel⟩
theorem b__law_table (Z : Facts K mg) : Binds K Z.d__law_table ["deck", "step", "many"] [] := Z.f__law_table.bindsN fun _ _ _ _ _ _ us hl => match us, hl with | [_, _, _], _ => rfl
def g__law_table : SF := (sSeq (sSet 3 (eTup aNil))
  (sSeq (sWhile (fun _ => 1000) (tCmp' gLt (eCall gLen (aCons (eVar 3) aNil)) (eVar 2)) (sSeq (sSet 4 (eComp (iSeq (eVar 3)) (.nm 5) [5] (fun en => .ok true en) (eOp2 gMod (eVar 5) (eVar 1))))
  (sSet 3 (eOp2 gAdd (eVar 3) (eTup (aCons (eFn F__law_one [true, false] (aCons (eVar 0) (aCons (eComp (iRange2 (eC (.int 1)) (eC (.int 13))) (.nm 5) [5] (tCmp' gNotIn (eOp2 gMod (eVar 5) (eVar 1)) (eVar 4)) (eVar 5)) aNil))) aNil))))))
  (sRet (eVar 3))))
def F__law_table : FS := fnOf 6 g__law_table
theorem e__law_table {x0 x1 x2 : Sl} : F__law_table [x0, x1, x2] = kFn 3 (g__law_table [x0, x1, x2, .un, .un, .un]) := (rfl)
theorem ok__law_table (Z : Facts K mg) : FnOk P w K mg base (L2N.CX P w) 3 Z.a__law_table Z.d__law_table ["deck", "step", "many"] (spF K mg T 3 F__law_table) :=
  fun_ok (k := 2) Z.f__law_table sc__law_table (by decide) fun cdv A outer s H E hr tk pso => (db_cons (ds_name (i := 3) sc__law_table.nd (de_tup da_nil))
  (db_cons (ds_while pso (dt_lt (de_len Z.n_len (de_var (pv 3))) (de_var (pv 2))) (db_cons (ds_name (i := 4) sc__law_table.nd (de_lc (own := [("one", 5)]) rfl sc__law_table.nd (di_seq (de_var (pv 3))) (blkOk_by (N := ["deck", "step", "many", "found", "rests", "one"]) (sc := defScope s__law_table) (by decide +kernel)) (fun _ _ _ _ _ => (dg_name (i := 5) sc__law_table.nd)) (fun _ _ _ _ _ => dts_nil) (fun _ _ _ _ _ => (de_mod (de_var (pv 5)) (de_var (pv 1))))))
  (db_one (ds_name (i := 3) sc__law_table.nd (de_add (de_var (pv 3)) (de_tup (da_cons (de_call (ios := [true, false]) (ok__law_one Z) (hr.mono (by omega)) rfl Z.m__law_one Z.f__law_one.kp (b__law_one Z) tk (da_cons (de_var (pv 0)) (da_cons (de_lc (own := [("one", 5)]) rfl sc__law_table.nd (di_range2 rfl Z.n_range de_int de_int) (blkOk_by (N := ["deck", "step", "many", "found", "rests", "one"]) (sc := defScope s__law_table) (by decide +kernel)) (fun _ _ _ _ _ => (dg_name (i := 5) sc__law_table.nd)) (fun _ _ _ _ _ => (dts_one (dt_notin hr (de_mod (de_var (pv 5)) (de_var (pv 1))) (de_var (pv 4))))) (fun _ _ _ _ _ => (de_var (pv 5)))) da_nil))) da_nil)))))))
  (db_one (ds_ret (de_var (pv 3))))))
theorem sc__law_plan : FnScope ["deck", "one", "other", "wide", "mine", "yours"] ["deck"] (defScope s__law_plan) := ⟨rfl, rfl, rfl, by decide +kernel, rfl, by decide +kernel, by decide +kernel⟩
theorem b__law_plan (Z : Facts K mg) : Binds K Z.d__law_plan ["deck"] [] := Z.f__law_plan.bindsN fun _ _ _ _ _ _ us hl => match us, hl with | [_], _ => rfl
def g__law_plan : SF := (sSeq (sPar [1, 2] (aConsF (eOp2 gAdd (eC (.int 1)) (eFn F__law_pick [true, false] (aCons (eVar 0) (aCons (eC (.int 3)) aNil)))) (aConsF (eOp2 gAdd (eC (.int 1)) (eFn F__law_pick [true, false] (aCons (eVar 0) (aCons (eC (.int 3)) aNil)))) aNil)))
  (sSeq (sSet 3 (eOp2 gAdd (eC (.int 1)) (eFn F__law_pick [true, false] (aCons (eVar 0) (aCons (eFn F__law_one [true, false] (aCons (eVar 0) (aCons (eLst (aCons (eC (.int 1)) (aCons (eC (.int 2)) (aCons (eOp2 gDiv (eC (.int 12)) (eCall gMax2 (aCons (eVar 1) (aCons (eVar 2) aNil)))) aNil)))) aNil))) aNil)))))
  (sSeq (sSet 4 (eTup (aCons (eFn F__law_one [true, false] (aCons (eVar 0) (aCons (eLst (aCons (eC (.str "near")) (aCons (eC (.str "far")) aNil))) aNil))) (aCons (eOp2 gMul (eVar 3) (eVar 1)) (aCons (eFn F__law_table [true, false, false] (aCons (eVar 0) (aCons (eOp2 gMul (eVar 3) (eVar 1)) (aCons (eVar 1) aNil)))) aNil)))))
  (sSeq (sSet 5 (eTup (aCons (eFn F__law_one [true, false] (aCons (eVar 0) (aCons (eLst (aCons (eC (.str "near")) (aCons (eC (.str "far")) aNil))) aNil))) (aCons (eOp2 gMul (eVar 3) (eVar 2)) (aCons (eFn F__law_table [true, false, false] (aCons (eVar 0) (aCons (eOp2 gMul (eVar 3) (eVar 2)) (aCons (eVar 2) aNil)))) aNil)))))
  (sSeq (sIf (tCmp' gEq (eFn F__law_pick [true, false] (aCons (eVar 0) (aCons (eC (.int 6)) aNil))) (eC (.int 0))) (sSet 5 (eOp2 gAdd (eTup (aCons (eOp2 gIx (eVar 5) (eC (.int 0))) aNil)) (eSl gSl (eVar 4) (oSome (eC (.int 1))) oNone))) sNext)
  (sRet (eTup (aCons (eVar 4) (aCons (eVar 5) aNil)))))))))
def F__law_plan : FS := fnOf 6 g__law_plan
theorem e__law_plan {x0 : Sl} : F__law_plan [x0] = kFn 1 (g__law_plan [x0, .un, .un, .un, .un, .un]) := (rfl)
theorem ok__law_plan (Z : Facts K mg) : FnOk P w K mg base (L2N.CX P w) 4 Z.a__law_plan Z.d__law_plan ["deck"] (spF K mg T 1 F__law_plan) :=
  fun_ok (k := 3) Z.f__law_plan sc__law_plan (by decide) fun cdv A outer s H E hr tk pso => (db_cons (ds_par2 (i := 1) (j := 2) (ps_par rfl sc__law_plan.nd rfl rfl (by decide) rfl rfl (df_cons (de_add de_int (de_call (ios := [true, false]) (ok__law_pick Z) (hr.mono (by omega)) rfl Z.m__law_pick Z.f__law_pick.kp (b__law_pick Z) tk (da_cons (de_var (pv 0)) (da_cons de_int da_nil)))) (df_cons (de_add de_int (de_call (ios := [true, false]) (ok__law_pick Z) (hr.mono (by omega)) rfl Z.m__law_pick Z.f__law_pick.kp (b__law_pick Z) tk (da_cons (de_var (pv 0)) (da_cons de_int da_nil)))) df_nil)) (by rfl)))
  (db_cons (ds_name (i := 3) sc__law_plan.nd (de_add de_int (de_call (ios := [true, false]) (ok__law_pick Z) (hr.mono (by omega)) rfl Z.m__law_pick Z.f__law_pick.kp (b__law_pick Z) tk (da_cons (de_var (pv 0)) (da_cons (de_call (ios := [true, false]) (ok__law_one Z) (hr.mono (by omega)) rfl Z.m__law_one Z.f__law_one.kp (b__law_one Z) tk (da_cons (de_var (pv 0)) (da_cons (de_lst (da_cons de_int (da_cons de_int (da_cons (de_div de_int (de_max2 rfl Z.n_max (da_cons (de_var (pv 1)) (da_cons (de_var (pv 2)) da_nil)))) da_nil)))) da_nil))) da_nil)))))
  (db_cons (ds_name (i := 4) sc__law_plan.nd (de_tup (da_cons (de_call (ios := [true, false]) (ok__law_one Z) (hr.mono (by omega)) rfl Z.m__law_one Z.f__law_one.kp (b__law_one Z) tk (da_cons (de_var (pv 0)) (da_cons (de_lst (da_cons de_str (da_cons de_str da_nil))) da_nil))) (da_cons (de_mul (de_var (pv 3)) (de_var (pv 1))) (da_cons (de_call (ios := [true, false, false]) (ok__law_table Z) (hr.mono (by omega)) rfl Z.m__law_table Z.f__law_table.kp (b__law_table Z) tk (da_cons (de_var (pv 0)) (da_cons (de_mul (de_var (pv 3)) (de_var (pv 1))) (da_cons (de_var (pv 1)) da_nil)))) da_nil)))))
  (db_cons (ds_name (i := 5) sc__law_plan.nd (de_tup (da_cons (de_call (ios := [true, false]) (ok__law_one Z) (hr.mono (by omega)) rfl Z.m__law_one Z.f__law_one.kp (b__law_one Z) tk (da_cons (de_var (pv 0)) (da_cons (de_lst (da_cons de_str (da_cons de_str da_nil))) da_nil))) (da_cons (de_mul (de_var (pv 3)) (de_var (pv 2))) (da_cons (de_call (ios := [true, false, false]) (ok__law_table Z) (hr.mono (by omega)) rfl Z.m__law_table Z.f__law_table.kp (b__law_table Z) tk (da_cons (de_var (pv 0)) (da_cons (de_mul (de_var (pv 3)) (de_var (pv 2))) (da_cons (de_var (pv 2)) da_nil)))) da_nil)))))
  (db_cons (ds_if (dt_eq hr (de_call (ios := [true, false]) (ok__law_pick Z) (hr.mono (by omega)) rfl Z.m__law_pick Z.f__law_pick.kp (b__law_pick Z) tk (da_cons (de_var (pv 0)) (da_cons de_int da_nil))) de_int) (db_one (ds_name (i := 5) sc__law_plan.nd (de_add (de_tup (da_cons (de_sub_ix (de_var (pv 5)) de_int) da_nil)) (de_cut (de_var (pv 4)) (do_some de_int) do_none)))) db_nil)
  (db_one (ds_ret (de_tup (da_cons (de_var (pv 4)) (da_cons (de_var (pv 5)) da_nil))))))))))
theorem sc__law_known : FnScope ["plain", "found"] [] (defScope s__law_known) := ⟨rfl, rfl, rfl, by decide +kernel, rfl, by decide +kernel, by decide +kernel⟩
theorem b__law_known (Z : Facts K mg) : Binds K Z.d__law_known [] [] := Z.f__law_known.bindsN fun _ _ _ _ _ _ us hl => match us, hl with | [], _ => rfl
def g__law_known : SF := (sSeq (sSet 0 (eTup (aCons (eC (.str "near")) (aCons (eC (.int 1)) (aCons (eTup (aCons (eC (.int 1)) aNil)) aNil)))))
  (sSeq (sSet 1 (eLst (aCons (eTup (aCons (eVar 0) (aCons (eTup (aCons (eC (.str "near")) (aCons (eC (.int 2)) (aCons (eTup (aCons (eC (.int 2)) (aCons (eC (.int 1)) aNil))) aNil)))) aNil))) (aCons (eTup (aCons (eVar 0) (aCons (eTup (aCons (eC (.str "far")) (aCons (eC (.int 1)) (aCons (eTup (aCons (eC (.int 1)) aNil)) aNil)))) aNil))) (aCons (eTup (aCons (eVar 0) (aCons (eTup (aCons (eC (.str "near")) (aCons (eC (.int 1)) (aCons (eTup (aCons (eC (.int 4)) aNil)) aNil)))) aNil))) aNil)))))
  (sRet (eOp2 gAdd (eVar 1) (eLst (aCons (eTup (aCons (eTup (aCons (eC (.str "near")) (aCons (eC (.int 2)) (aCons (eTup (aCons (eC (.int 1)) aNil)) aNil)))) (aCons (eTup (aCons (eC (.str "near")) (aCons (eC (.int 2)) (aCons (eTup (aCons (eC (.int 2)) aNil)) aNil)))) aNil))) (aCons (eTup (aCons (eTup (aCons (eC (.str "near")) (aCons (eC (.int 2)) (aCons (eTup (aCons (eC (.int 1)) aNil)) aNil)))) (aCons (eTup (aCons (eC (.str "near")) (aCons (eC (.int 2)) (aCons (eTup (aCons (eC (.int 5)) aNil)) aNil)))) aNil))) aNil)))))))
def F__law_known : FS := fnOf 2 g__law_known
theorem e__law_known : F__law_known [] = kFn 0 (g__law_known [.un, .un]) := (rfl)
theorem e0__law_known : ∃ fr d outs, F__law_known [] = .ok fr d outs := ⟨_, _, _, rfl⟩
theorem ok__law_known (Z : Facts K mg) : FnOk P w K mg base (L2N.CX P w) 1 Z.a__law_known Z.d__law_known [] (spF K mg T 0 F__law_known) :=
  fun_ok (k := 0) Z.f__law_known sc__law_known (by decide) fun cdv A outer s H E hr tk pso => (db_cons (ds_name (i := 0) sc__law_known.nd (de_tup (da_cons de_str (da_cons de_int (da_cons (de_tup (da_cons de_int da_nil)) da_nil)))))
  (db_cons (ds_name (i := 1) sc__law_known.nd (de_lst (da_cons (de_tup (da_cons (de_var (pv 0)) (da_cons (de_tup (da_cons de_str (da_cons de_int (da_cons (de_tup (da_cons de_int (da_cons de_int da_nil))) da_nil)))) da_nil))) (da_cons (de_tup (da_cons (de_var (pv 0)) (da_cons (de_tup (da_cons de_str (da_cons de_int (da_cons (de_tup (da_cons de_int da_nil)) da_nil)))) da_nil))) (da_cons (de_tup (da_cons (de_var (pv 0)) (da_cons (de_tup (da_cons de_str (da_cons de_int (da_cons (de_tup (da_cons de_int da_nil)) da_nil)))) da_nil))) da_nil)))))
  (db_one (ds_ret (de_add (de_var (pv 1)) (de_lst (da_cons (de_tup (da_cons (de_tup (da_cons de_str (da_cons de_int (da_cons (de_tup (da_cons de_int da_nil)) da_nil)))) (da_cons (de_tup (da_cons de_str (da_cons de_int (da_cons (de_tup (da_cons de_int da_nil)) da_nil)))) da_nil))) (da_cons (de_tup (da_cons (de_tup (da_cons de_str (da_cons de_int (da_cons (de_tup (da_cons de_int da_nil)) da_nil)))) (da_cons (de_tup (da_cons de_str (da_cons de_int (da_cons (de_tup (da_cons de_int da_nil)) da_nil)))) da_nil))) da_nil))))))))
theorem sc_has_items : FnScope ["value", "low", "high"] ["value", "low", "high"] (defScope s_has_items) := ⟨rfl, rfl, rfl, by decide +kernel, rfl, by decide +kernel, by decide +kernel⟩
theorem b_has_items (Z : Facts K mg) : Binds K Z.d_has_items ["value", "low", "high"] [] := Z.f_has_items.bindsN fun _ _ _ _ _ _ us hl => match us, hl with | [_, _, _], _ => rfl
def g_has_items : SF := (sRet (eAnd (eCall gIsi (aCons (eVar 0) (aCons (eC (.vv (.ty "tuple"))) aNil))) (eChain gLe gLe (eVar 1) (eCall gLen (aCons (eVar 0) aNil)) (eVar 2))))
def F_has_items : FS := fnOf 3 g_has_items
theorem e_has_items {x0 x1 x2 : Sl} : F_has_items [x0, x1, x2] = kFn 3 (g_has_items [x0, x1, x2]) := (rfl)
theorem ok_has_items (Z : Facts K mg) : FnOk P w K mg base (L2N.CX P w) 1 Z.a_has_items Z.d_has_items ["value", "low", "high"] (spF K mg T 3 F_has_items) :=
  fun_ok (k := 0) Z.f_has_items sc_has_items (by decide) fun cdv A outer s H E hr tk pso => (db_one (ds_ret (de_and (de_isi Z.n_isinstance (da_cons (de_var (pv 0)) (da_cons (de_ty rfl Z.n_tuple boot_tuple) da_nil))) (de_one (de_le3 (de_var (pv 1)) (de_len Z.n_len (de_var (pv 0))) (de_var (pv 2)))))))
theorem sc_is_within : FnScope ["value", "low", "high"] ["value", "low", "high"] (defScope s_is_within) := ⟨rfl, rfl, rfl, by decide +kernel, rfl, by decide +kernel, by decide +kernel⟩
theorem b_is_within (Z : Facts K mg) : Binds K Z.d_is_within ["value", "low", "high"] [] := Z.f_is_within.bindsN fun _ _ _ _ _ _ us hl => match us, hl with | [_, _, _], _ => rfl
def g_is_within : SF := (sRet (eAnd (eCall gIsi (aCons (eVar 0) (aCons (eC (.vv (.ty "int"))) aNil))) (eAnd (eNot (eCall gIsi (aCons (eVar 0) (aCons (eC (.vv (.ty "bool"))) aNil)))) (eChain gLe gLe (eVar 1) (eVar 0) (eVar 2)))))
def F_is_within : FS := fnOf 3 g_is_within
theorem e_is_within {x0 x1 x2 : Sl} : F_is_within [x0, x1, x2] = kFn 3 (g_is_within [x0, x1, x2]) := (rfl)
theorem ok_is_within (Z : Facts K mg) : FnOk P w K mg base (L2N.CX P w) 1 Z.a_is_within Z.d_is_within ["value", "low", "high"] (spF K mg T 3 F_is_within) :=
  fun_ok (k := 0) Z.f_is_within sc_is_within (by decide) fun cdv A outer s H E hr tk pso => (db_one (ds_ret (de_and (de_isi Z.n_isinstance (da_cons (de_var (pv 0)) (da_cons (de_ty rfl Z.n_int boot_int) da_nil))) (de_and (de_not (de_isi Z.n_isinstance (da_cons (de_var (pv 0)) (da_cons (de_ty rfl Z.n_bool boot_bool) da_nil)))) (de_one (de_le3 (de_var (pv 1)) (de_var (pv 0)) (de_var (pv 2))))))))
theorem sc_is_numbering_value : FnScope ["value", "one"] ["value"] (defScope s_is_numbering_value) := ⟨rfl, rfl, rfl, by decide +kernel, rfl, by decide +kernel, by decide +kernel⟩
theorem b_is_numbering_value (Z : Facts K mg) : Binds K Z.d_is_numbering_value ["value"] [] := Z.f_is_numbering_value.bindsN fun _ _ _ _ _ _ us hl => match us, hl with | [_], _ => rfl
def g_is_numbering_value : SF := (sSeq (sIf (tOr' (tNot' (tVal (eFn F_has_items [false, false, false] (aCons (eVar 0) (aCons (eC (.int 3)) (aCons (eC (.int 3)) aNil)))))) (tOr' (tNot' (tVal (eCall gIsi (aCons (eOp2 gIx (eVar 0) (eC (.int 0))) (aCons (eC (.vv (.ty "str"))) aNil))))) (tCmp' gNotIn (eOp2 gIx (eVar 0) (eC (.int 0))) (eC k_ENDS)))) (sRet (eC (.bl false))) sNext)
  (sSeq (sIf (tOr' (tNot' (tVal (eFn F_is_within [false, false, false] (aCons (eOp2 gIx (eVar 0) (eC (.int 1))) (aCons (eC (.int 1)) (aCons (eC (.int 12)) aNil)))))) (tNot' (tVal (eFn F_has_items [false, false, false] (aCons (eOp2 gIx (eVar 0) (eC (.int 2))) (aCons (eC (.int 1)) (aCons (eC (.int 3)) aNil))))))) (sRet (eC (.bl false))) sNext)
  (sSeq (sIf (tNot' (tVal (eCall gAll (aCons (eComp (iSeq (eOp2 gIx (eVar 0) (eC (.int 2)))) (.nm 1) [1] (fun en => .ok true en) (eFn F_is_within [false, false, false] (aCons (eVar 1) (aCons (eC (.int 1)) (aCons (eC (.int 12)) aNil))))) aNil)))) (sRet (eC (.bl false))) sNext)
  (sRet (eOp2 gEq (eOp1 gLenSet (eComp (iSeq (eOp2 gIx (eVar 0) (eC (.int 2)))) (.nm 1) [1] (fun en => .ok true en) (eOp2 gMod (eVar 1) (eOp2 gIx (eVar 0) (eC (.int 1)))))) (eCall gLen (aCons (eOp2 gIx (eVar 0) (eC (.int 2))) aNil)))))))
def F_is_numbering_value : FS := fnOf 2 g_is_numbering_value
theorem e_is_numbering_value {x0 : Sl} : F_is_numbering_value [x0] = kFn 1 (g_is_numbering_value [x0, .un]) := (rfl)
theorem ok_is_numbering_value (Z : Facts K mg) : FnOk P w K mg base (L2N.CX P w) 2 Z.a_is_numbering_value Z.d_is_numbering_value ["value"] (spF K mg T 1 F_is_numbering_value) :=
  fun_ok (k := 1) Z.f_is_numbering_value sc_is_numbering_value (by decide) fun cdv A outer s H E hr tk pso => (db_cons (ds_if (dt_w (dw_or (dt_not (dt_val (de_call (ios := [false, false, false]) (ok_has_items Z) (hr.mono (by omega)) rfl Z.m_has_items Z.f_has_items.kp (b_has_items Z) tk (da_cons (de_var (pv 0)) (da_cons de_int (da_cons de_int da_nil)))))) (dw_or (dt_not (dt_val (de_isi Z.n_isinstance (da_cons (de_sub_ix (de_var (pv 0)) de_int) (da_cons (de_ty rfl Z.n_str boot_str) da_nil))))) (dw_or1 (dt_notin hr (de_sub_ix (de_var (pv 0)) de_int) (de_c (pe_glob (v := .ref Z.c_ENDS) rfl Z.g_ENDS rfl) Z.r_ENDS)))))) (db_one (ds_ret de_bl)) db_nil)
  (db_cons (ds_if (dt_w (dw_or (dt_not (dt_val (de_call (ios := [false, false, false]) (ok_is_within Z) (hr.mono (by omega)) rfl Z.m_is_within Z.f_is_within.kp (b_is_within Z) tk (da_cons (de_sub_ix (de_var (pv 0)) de_int) (da_cons de_int (da_cons de_int da_nil)))))) (dw_or1 (dt_not (dt_val (de_call (ios := [false, false, false]) (ok_has_items Z) (hr.mono (by omega)) rfl Z.m_has_items Z.f_has_items.kp (b_has_items Z) tk (da_cons (de_sub_ix (de_var (pv 0)) de_int) (da_cons de_int (da_cons de_int da_nil))))))))) (db_one (ds_ret de_bl)) db_nil)
  (db_cons (ds_if (dt_not (dt_val (de_all rfl Z.n_all (de_lc (own := [("one", 1)]) rfl sc_is_numbering_value.nd (di_seq (de_sub_ix (de_var (pv 0)) de_int)) (blkOk_by (N := ["value", "one"]) (sc := defScope s_is_numbering_value) (by decide +kernel)) (fun _ _ _ _ _ => (dg_name (i := 1) sc_is_numbering_value.nd)) (fun _ _ _ _ _ => dts_nil) (fun _ _ _ _ _ => (de_call (ios := [false, false, false]) (ok_is_within Z) (hr.mono (by omega)) rfl Z.m_is_within Z.f_is_within.kp (b_is_within Z) takes0 (da_cons (de_var (pv 1)) (da_cons de_int (da_cons de_int da_nil))))))))) (db_one (ds_ret de_bl)) db_nil)
  (db_one (ds_ret (de_eq hr (de_lenSet rfl rfl Z.n_len rfl Z.n_set (de_lc (own := [("one", 1)]) rfl sc_is_numbering_value.nd (di_seq (de_sub_ix (de_var (pv 0)) de_int)) (blkOk_by (N := ["value", "one"]) (sc := defScope s_is_numbering_value) (by decide +kernel)) (fun _ _ _ _ _ => (dg_name (i := 1) sc_is_numbering_value.nd)) (fun _ _ _ _ _ => dts_nil) (fun _ _ _ _ _ => (de_mod (de_var (pv 1)) (de_sub_ix (de_var (pv 0)) de_int))))) (de_len Z.n_len (de_sub_ix (de_var (pv 0)) de_int))))))))
theorem sc_is_plan_value : FnScope ["value", "end", "step", "table", "other_end", "other_step", "other_table", "one"] ["value"] (defScope s_is_plan_value) := ⟨rfl, rfl, rfl, by decide +kernel, rfl, by decide +kernel, by decide +kernel⟩
theorem b_is_plan_value (Z : Facts K mg) : Binds K Z.d_is_plan_value ["value"] [] := Z.f_is_plan_value.bindsN fun _ _ _ _ _ _ us hl => match us, hl with | [_], _ => rfl
def g_is_plan_value : SF := (sSeq (sIf (tOr' (tNot' (tVal (eFn F_has_items [false, false, false] (aCons (eVar 0) (aCons (eC (.int 2)) (aCons (eC (.int 2)) aNil)))))) (tNot' (tVal (eCall gAll (aCons (eComp (iSeq (eVar 0)) (.nm 7) [7] (fun en => .ok true en) (eFn F_is_numbering_value [false] (aCons (eVar 7) aNil))) aNil))))) (sRet (eC (.bl false))) sNext)
  (sSeq (sPat (.tp [(.tp [(.nm 1), (.nm 2), (.nm 3)]), (.tp [(.nm 4), (.nm 5), (.nm 6)])]) (eVar 0))
  (sRet (eOp2 gEq (eOp2 gMul (eVar 2) (eCall gLen (aCons (eVar 6) aNil))) (eOp2 gMul (eVar 5) (eCall gLen (aCons (eVar 3) aNil)))))))
def F_is_plan_value : FS := fnOf 8 g_is_plan_value
theorem e_is_plan_value {x0 : Sl} : F_is_plan_value [x0] = kFn 1 (g_is_plan_value [x0, .un, .un, .un, .un, .un, .un, .un]) := (rfl)
theorem ok_is_plan_value (Z : Facts K mg) : FnOk P w K mg base (L2N.CX P w) 3 Z.a_is_plan_value Z.d_is_plan_value ["value"] (spF K mg T 1 F_is_plan_value) :=
  fun_ok (k := 2) Z.f_is_plan_value sc_is_plan_value (by decide) fun cdv A outer s H E hr tk pso => (db_cons (ds_if (dt_w (dw_or (dt_not (dt_val (de_call (ios := [false, false, false]) (ok_has_items Z) (hr.mono (by omega)) rfl Z.m_has_items Z.f_has_items.kp (b_has_items Z) tk (da_cons (de_var (pv 0)) (da_cons de_int (da_cons de_int da_nil)))))) (dw_or1 (dt_not (dt_val (de_all rfl Z.n_all (de_lc (own := [("one", 7)]) rfl sc_is_plan_value.nd (di_seq (de_var (pv 0))) (blkOk_by (N := ["value", "end", "step", "table", "other_end", "other_step", "other_table", "one"]) (sc := defScope s_is_plan_value) (by decide +kernel)) (fun _ _ _ _ _ => (dg_name (i := 7) sc_is_plan_value.nd)) (fun _ _ _ _ _ => dts_nil) (fun _ _ _ _ _ => (de_call (ios := [false]) (ok_is_numbering_value Z) (hr.mono (by omega)) rfl Z.m_is_numbering_value Z.f_is_numbering_value.kp (b_is_numbering_value Z) takes0 (da_cons (de_var (pv 7)) da_nil)))))))))) (db_one (ds_ret de_bl)) db_nil)
  (db_cons (ds_unpack (de_var (pv 0)) (dg_tp rfl (dgs_cons (dg_tp rfl (dgs_cons (dg_name (i := 1) sc_is_plan_value.nd) (dgs_cons (dg_name (i := 2) sc_is_plan_value.nd) (dgs_cons (dg_name (i := 3) sc_is_plan_value.nd) dgs_nil)))) (dgs_cons (dg_tp rfl (dgs_cons (dg_name (i := 4) sc_is_plan_value.nd) (dgs_cons (dg_name (i := 5) sc_is_plan_value.nd) (dgs_cons (dg_name (i := 6) sc_is_plan_value.nd) dgs_nil)))) dgs_nil))))
  (db_one (ds_ret (de_eq hr (de_mul (de_var (pv 2)) (de_len Z.n_len (de_var (pv 6)))) (de_mul (de_var (pv 5)) (de_len Z.n_len (de_var (pv 3)))))))))
theorem sc_need_plan : FnScope ["value"] ["value"] (defScope s_need_plan) := ⟨rfl, rfl, rfl, by decide +kernel, rfl, by decide +kernel, by decide +kernel⟩
theorem b_need_plan (Z : Facts K mg) : Binds K Z.d_need_plan ["value"] [] := Z.f_need_plan.bindsN fun _ _ _ _ _ _ us hl => match us, hl with | [_], _ => rfl
def g_need_plan : SF := (sIf (tNot' (tVal (eFn F_is_plan_value [false] (aCons (eVar 0) aNil)))) (sRaise "InvalidPlan") sNext)
def F_need_plan : FS := fnOf 1 g_need_plan
theorem e_need_plan {x0 : Sl} : F_need_plan [x0] = kFn 1 (g_need_plan [x0]) := (rfl)
theorem ok_need_plan (Z : Facts K mg) : FnOk P w K mg base (L2N.CX P w) 4 Z.a_need_plan Z.d_need_plan ["value"] (spF K mg T 1 F_need_plan) :=
  fun_ok (k := 3) Z.f_need_plan sc_need_plan (by decide) fun cdv A outer s H E hr tk pso => (db_one (ds_if (dt_not (dt_val (de_call (ios := [false]) (ok_is_plan_value Z) (hr.mono (by omega)) rfl Z.m_is_plan_value Z.f_is_plan_value.kp (b_is_plan_value Z) tk (da_cons (de_var (pv 0)) da_nil)))) (db_one (ds_raiseC rfl tk Z.e_InvalidPlan)) db_nil))
theorem sc_need_count : FnScope ["value", "most"] ["value", "most"] (defScope s_need_count) := ⟨rfl, rfl, rfl, by decide +kernel, rfl, by decide +kernel, by decide +kernel⟩
theorem b_need_count (Z : Facts K mg) : Binds K Z.d_need_count ["value", "most"] [] := Z.f_need_count.bindsN fun _ _ _ _ _ _ us hl => match us, hl with | [_, _], _ => rfl
def g_need_count : SF := (sIf (tNot' (tVal (eFn F_is_within [false, false, false] (aCons (eVar 0) (aCons (eC (.int 1)) (aCons (eVar 1) aNil)))))) (sRaise "InvalidCount") sNext)
def F_need_count : FS := fnOf 2 g_need_count
theorem e_need_count {x0 x1 : Sl} : F_need_count [x0, x1] = kFn 2 (g_need_count [x0, x1]) := (rfl)
theorem ok_need_count (Z : Facts K mg) : FnOk P w K mg base (L2N.CX P w) 2 Z.a_need_count Z.d_need_count ["value", "most"] (spF K mg T 2 F_need_count) :=
  fun_ok (k := 1) Z.f_need_count sc_need_count (by decide) fun cdv A outer s H E hr tk pso => (db_one (ds_if (dt_not (dt_val (de_call (ios := [false, false, false]) (ok_is_within Z) (hr.mono (by omega)) rfl Z.m_is_within Z.f_is_within.kp (b_is_within Z) tk (da_cons (de_var (pv 0)) (da_cons de_int (da_cons (de_var (pv 1)) da_nil)))))) (db_one (ds_raiseC rfl tk Z.e_InvalidCount)) db_nil))
theorem sc_need_house : FnScope ["plan", "count", "place"] ["plan", "count", "place"] (defScope s_need_house) := ⟨rfl, rfl, rfl, by decide +kernel, rfl, by decide +kernel, by decide +kernel⟩
theorem b_need_house (Z : Facts K mg) : Binds K Z.d_need_house ["plan", "count", "place"] [] := Z.f_need_house.bindsN fun _ _ _ _ _ _ us hl => match us, hl with | [_, _, _], _ => rfl
def g_need_house : SF := (sSeq (sDrop (eFn F_need_plan [false] (aCons (eVar 0) aNil)))
  (sSeq (sDrop (eFn F_need_count [false, false] (aCons (eVar 1) (aCons (eC (.int 1000000000000000000000000000000)) aNil))))
  (sIf (tNot' (tVal (eFn F_is_within [false, false, false] (aCons (eVar 2) (aCons (eC (.int 0)) (aCons (eOp2 gSub (eVar 1) (eC (.int 1))) aNil)))))) (sRaise "InvalidPlace") sNext)))
def F_need_house : FS := fnOf 3 g_need_house
theorem e_need_house {x0 x1 x2 : Sl} : F_need_house [x0, x1, x2] = kFn 3 (g_need_house [x0, x1, x2]) := (rfl)
theorem ok_need_house (Z : Facts K mg) : FnOk P w K mg base (L2N.CX P w) 5 Z.a_need_house Z.d_need_house ["plan", "count", "place"] (spF K mg T 3 F_need_house) :=
  fun_ok (k := 4) Z.f_need_house sc_need_house (by decide) fun cdv A outer s H E hr tk pso => (db_cons (ds_drop (de_call (ios := [false]) (ok_need_plan Z) (hr.mono (by omega)) rfl Z.m_need_plan Z.f_need_plan.kp (b_need_plan Z) tk (da_cons (de_var (pv 0)) da_nil)))
  (db_cons (ds_drop (de_call (ios := [false, false]) (ok_need_count Z) (hr.mono (by omega)) rfl Z.m_need_count Z.f_need_count.kp (b_need_count Z) tk (da_cons (de_var (pv 1)) (da_cons (de_ci Z.i_MOST) da_nil))))
  (db_one (ds_if (dt_not (dt_val (de_call (ios := [false, false, false]) (ok_is_within Z) (hr.mono (by omega)) rfl Z.m_is_within Z.f_is_within.kp (b_is_within Z) tk (da_cons (de_var (pv 2)) (da_cons de_int (da_cons (de_sub (de_var (pv 1)) de_int) da_nil)))))) (db_one (ds_raiseC rfl tk Z.e_InvalidPlace)) db_nil))))
theorem sc_leap : FnScope ["plan", "count", "row", "gap", "room", "at", "place", "more"] ["plan", "count", "row"] (defScope s_leap) := ⟨rfl, rfl, rfl, by decide +kernel, rfl, by decide +kernel, by decide +kernel⟩
theorem b_leap (Z : Facts K mg) : Binds K Z.d_leap ["plan", "count", "row"] [] := Z.f_leap.bindsN fun _ _ _ _ _ _ us hl => match us, hl with | [_, _, _], _ => rfl
def leap_i0 : IF := (iEnum (eVar 2))
def leap_b0 : SF := (sSeq (sSet 7 (eIf (tOr' (tCmp' gEq (eOp2 gMod (eVar 5) (eC (.int 2))) (eC (.int 0))) (tCmp' gEq (eOp2 gIx (eOp2 gIx (eVar 0) (eC (.int 0))) (eC (.int 0))) (eOp2 gIx (eOp2 gIx (eVar 0) (eC (.int 1))) (eC (.int 0))))) (eVar 3) (eOp1 gNeg (eVar 3))))
  (sApp 4 (eIf (tCmp' gGt (eVar 7) (eC (.int 0))) (eOp2 gDiv (eOp2 gSub (eOp2 gSub (eVar 1) (eC (.int 1))) (eVar 6)) (eVar 7)) (eOp2 gDiv (eVar 6) (eOp1 gNeg (eVar 7))))))
def g_leap : SF := (sSeq (sPar [3, 4] (aConsF (eOp2 gSub (eOp2 gIx (eVar 2) (eOp1 gNeg (eC (.int 1)))) (eOp2 gIx (eVar 2) (eC (.int 0)))) (aConsF (eLst aNil) aNil)))
  (sSeq (sFor (.tp [(.nm 5), (.nm 6)]) leap_i0 leap_b0)
  (sRet (eCall gMin (aCons (eVar 4) aNil)))))
def F_leap : FS := fnOf 8 g_leap
theorem e_leap {x0 x1 x2 : Sl} : F_leap [x0, x1, x2] = kFn 3 (g_leap [x0, x1, x2, .un, .un, .un, .un, .un]) := (rfl)
theorem ok_leap (Z : Facts K mg) : FnOk P w K mg base (L2N.CX P w) 1 Z.a_leap Z.d_leap ["plan", "count", "row"] (spF K mg T 3 F_leap) :=
  fun_ok (k := 0) Z.f_leap sc_leap (by decide) fun cdv A outer s H E hr tk pso => (db_cons (ds_par2 (i := 3) (j := 4) (ps_par rfl sc_leap.nd rfl rfl (by decide) rfl rfl (df_cons (de_sub (de_sub_ix (de_var (pv 2)) (de_neg de_int)) (de_sub_ix (de_var (pv 2)) de_int)) (df_cons (de_lst da_nil) df_nil)) (by rfl)))
  (db_cons (ds_for pso rfl (di_enum rfl Z.n_enumerate (de_var (pv 2))) (dg_tp rfl (dgs_cons (dg_name (i := 5) sc_leap.nd) (dgs_cons (dg_name (i := 6) sc_leap.nd) dgs_nil))) (db_cons (ds_name (i := 7) sc_leap.nd (de_ifExp (dt_w (dw_or (dt_eq hr (de_mod (de_var (pv 5)) de_int) de_int) (dw_or1 (dt_eq hr (de_sub_ix (de_sub_ix (de_var (pv 0)) de_int) de_int) (de_sub_ix (de_sub_ix (de_var (pv 0)) de_int) de_int))))) (de_var (pv 3)) (de_neg (de_var (pv 3)))))
  (db_one (ds_app (ps_expr (pe_bm PySem.F.plainAttrs_list PySem.F.slot_list_append PySem.F.type_list_append mt_append (pv 4) (pa_cons (de_settle (de_ifExp (dt_gt (de_var (pv 7)) de_int) (de_div (de_sub (de_sub (de_var (pv 1)) de_int) (de_var (pv 6))) (de_var (pv 7))) (de_div (de_var (pv 6)) (de_neg (de_var (pv 7)))))) pa_nil)))))))
  (db_one (ds_ret (de_min rfl Z.n_min (de_var (pv 4)))))))
theorem sc_period_of : FnScope ["plan", "one", "other", "size"] ["plan"] (defScope s_period_of) := ⟨rfl, rfl, rfl, by decide +kernel, rfl, by decide +kernel, by decide +kernel⟩
theorem b_period_of (Z : Facts K mg) : Binds K Z.d_period_of ["plan"] [] := Z.f_period_of.bindsN fun _ _ _ _ _ _ us hl => match us, hl with | [_], _ => rfl
def g_period_of : SF := (sSeq (sPat (.tp [(.nm 1), (.nm 2)]) (eTup (aCons (eCall gLen (aCons (eOp2 gIx (eOp2 gIx (eVar 0) (eC (.int 0))) (eC (.int 2))) aNil)) (aCons (eCall gLen (aCons (eOp2 gIx (eOp2 gIx (eVar 0) (eC (.int 1))) (eC (.int 2))) aNil)) aNil))))
  (sRet (eCall gMin (aCons (eComp (iRange2 (eC (.int 1)) (eOp2 gAdd (eOp2 gMul (eVar 1) (eVar 2)) (eC (.int 1)))) (.nm 3) [3] (tAnd' (tCmp' gEq (eOp2 gMod (eVar 3) (eVar 1)) (eC (.int 0))) (tCmp' gEq (eOp2 gMod (eVar 3) (eVar 2)) (eC (.int 0)))) (eVar 3)) aNil))))
def F_period_of : FS := fnOf 4 g_period_of
theorem e_period_of {x0 : Sl} : F_period_of [x0] = kFn 1 (g_period_of [x0, .un, .un, .un]) := (rfl)
theorem ok_period_of (Z : Facts K mg) : FnOk P w K mg base (L2N.CX P w) 1 Z.a_period_of Z.d_period_of ["plan"] (spF K mg T 1 F_period_of) :=
  fun_ok (k := 0) Z.f_period_of sc_period_of (by decide) fun cdv A outer s H E hr tk pso => (db_cons (ds_unpack (de_tup (da_cons (de_len Z.n_len (de_sub_ix (de_sub_ix (de_var (pv 0)) de_int) de_int)) (da_cons (de_len Z.n_len (de_sub_ix (de_sub_ix (de_var (pv 0)) de_int) de_int)) da_nil))) (dg_tp rfl (dgs_cons (dg_name (i := 1) sc_period_of.nd) (dgs_cons (dg_name (i := 2) sc_period_of.nd) dgs_nil))))
  (db_one (ds_ret (de_min rfl Z.n_min (de_lc (own := [("size", 3)]) rfl sc_period_of.nd (di_range2 rfl Z.n_range de_int (de_add (de_mul (de_var (pv 1)) (de_var (pv 2))) de_int)) (blkOk_by (N := ["plan", "one", "other", "size"]) (sc := defScope s_period_of) (by decide +kernel)) (fun _ _ _ _ _ => (dg_name (i := 3) sc_period_of.nd)) (fun _ _ _ _ _ => (dts_one (dt_w (dw_and (dt_eq hr (de_mod (de_var (pv 3)) (de_var (pv 1))) de_int) (dw_and1 (dt_eq hr (de_mod (de_var (pv 3)) (de_var (pv 2))) de_int)))))) (fun _ _ _ _ _ => (de_var (pv 3))))))))
theorem sc_index_of : FnScope ["numbering", "number", "end", "step", "table", "rest", "first"] ["numbering", "number"] (defScope s_index_of) := ⟨rfl, rfl, rfl, by decide +kernel, rfl, by decide +kernel, by decide +kernel⟩
theorem b_index_of (Z : Facts K mg) : Binds K Z.d_index_of ["numbering", "number"] [] := Z.f_index_of.bindsN fun _ _ _ _ _ _ us hl => match us, hl with | [_, _], _ => rfl
def g_index_of : SF := (sSeq (sPat (.tp [(.nm 2), (.nm 3), (.nm 4)]) (eVar 0))
  (sSeq (sFor (.tp [(.nm 5), (.nm 6)]) (iEnum (eVar 4)) (sIf (tAnd' (tCmp' gGe (eVar 1) (eVar 6)) (tCmp' gEq (eOp2 gMod (eOp2 gSub (eVar 1) (eVar 6)) (eVar 3)) (eC (.int 0)))) (sRet (eOp2 gAdd (eOp2 gMul (eOp2 gDiv (eOp2 gSub (eVar 1) (eVar 6)) (eVar 3)) (eCall gLen (aCons (eVar 4) aNil))) (eVar 5))) sNext))
  (sRet (eC .non))))
def F_index_of : FS := fnOf 7 g_index_of
theorem e_index_of {x0 x1 : Sl} : F_index_of [x0, x1] = kFn 2 (g_index_of [x0, x1, .un, .un, .un, .un, .un]) := (rfl)
theorem ok_index_of (Z : Facts K mg) : FnOk P w K mg base (L2N.CX P w) 1 Z.a_index_of Z.d_index_of ["numbering", "number"] (spF K mg T 2 F_index_of) :=
  fun_ok (k := 0) Z.f_index_of sc_index_of (by decide) fun cdv A outer s H E hr tk pso => (db_cons (ds_unpack (de_var (pv 0)) (dg_tp rfl (dgs_cons (dg_name (i := 2) sc_index_of.nd) (dgs_cons (dg_name (i := 3) sc_index_of.nd) (dgs_cons (dg_name (i := 4) sc_index_of.nd) dgs_nil)))))
  (db_cons (ds_for pso rfl (di_enum rfl Z.n_enumerate (de_var (pv 4))) (dg_tp rfl (dgs_cons (dg_name (i := 5) sc_index_of.nd) (dgs_cons (dg_name (i := 6) sc_index_of.nd) dgs_nil))) (db_one (ds_if (dt_w (dw_and (dt_ge (de_var (pv 1)) (de_var (pv 6))) (dw_and1 (dt_eq hr (de_mod (de_sub (de_var (pv 1)) (de_var (pv 6))) (de_var (pv 3))) de_int)))) (db_one (ds_ret (de_add (de_mul (de_div (de_sub (de_var (pv 1)) (de_var (pv 6))) (de_var (pv 3))) (de_len Z.n_len (de_var (pv 4)))) (de_var (pv 5))))) db_nil)))
  (db_one (ds_ret de_non))))
theorem sc_place_of : FnScope ["numbering", "count", "number", "at"] ["numbering", "count", "number"] (defScope s_place_of) := ⟨rfl, rfl, rfl, by decide +kernel, rfl, by decide +kernel, by decide +kernel⟩
theorem b_place_of (Z : Facts K mg) : Binds K Z.d_place_of ["numbering", "count", "number"] [] := Z.f_place_of.bindsN fun _ _ _ _ _ _ us hl => match us, hl with | [_, _, _], _ => rfl
def g_place_of : SF := (sSeq (sSet 3 (eFn F_index_of [false, false] (aCons (eVar 0) (aCons (eVar 2) aNil))))
  (sSeq (sIf (tOr' (tCmp' gIs (eVar 3) (eC .non)) (tCmp' gGe (eVar 3) (eVar 1))) (sRet (eC .non)) sNext)
  (sRet (eIf (tCmp' gEq (eOp2 gIx (eVar 0) (eC (.int 0))) (eC (.str "near"))) (eVar 3) (eOp2 gSub (eOp2 gSub (eVar 1) (eC (.int 1))) (eVar 3))))))
def F_place_of : FS := fnOf 4 g_place_of
theorem e_place_of {x0 x1 x2 : Sl} : F_place_of [x0, x1, x2] = kFn 3 (g_place_of [x0, x1, x2, .un]) := (rfl)
theorem ok_place_of (Z : Facts K mg) : FnOk P w K mg base (L2N.CX P w) 2 Z.a_place_of Z.d_place_of ["numbering", "count", "number"] (spF K mg T 3 F_place_of) :=
  fun_ok (k := 1) Z.f_place_of sc_place_of (by decide) fun cdv A outer s H E hr tk pso => (db_cons (ds_name (i := 3) sc_place_of.nd (de_call (ios := [false, false]) (ok_index_of Z) (hr.mono (by omega)) rfl Z.m_index_of Z.f_index_of.kp (b_index_of Z) tk (da_cons (de_var (pv 0)) (da_cons (de_var (pv 2)) da_nil))))
  (db_cons (ds_if (dt_w (dw_or (dt_is (de_var (pv 3)) de_non) (dw_or1 (dt_ge (de_var (pv 3)) (de_var (pv 1)))))) (db_one (ds_ret de_non)) db_nil)
  (db_one (ds_ret (de_ifExp (dt_eq hr (de_sub_ix (de_var (pv 0)) de_int) de_str) (de_var (pv 3)) (de_sub (de_sub (de_var (pv 1)) de_int) (de_var (pv 3))))))))
theorem sc_number_of : FnScope ["numbering", "count", "place", "end", "step", "table", "at"] ["numbering", "count", "place"] (defScope s_number_of) := ⟨rfl, rfl, rfl, by decide +kernel, rfl, by decide +kernel, by decide +kernel⟩
theorem b_number_of (Z : Facts K mg) : Binds K Z.d_number_of ["numbering", "count", "place"] [] := Z.f_number_of.bindsN fun _ _ _ _ _ _ us hl => match us, hl with | [_, _, _], _ => rfl
def g_number_of : SF := (sSeq (sPat (.tp [(.nm 3), (.nm 4), (.nm 5)]) (eVar 0))
  (sSeq (sSet 6 (eIf (tCmp' gEq (eVar 3) (eC (.str "near"))) (eVar 2) (eOp2 gSub (eOp2 gSub (eVar 1) (eC (.int 1))) (eVar 2))))
  (sRet (eOp2 gAdd (eOp2 gMul (eVar 4) (eOp2 gDiv (eVar 6) (eCall gLen (aCons (eVar 5) aNil)))) (eOp2 gIx (eVar 5) (eOp2 gMod (eVar 6) (eCall gLen (aCons (eVar 5) aNil))))))))
def F_number_of : FS := fnOf 7 g_number_of
theorem e_number_of {x0 x1 x2 : Sl} : F_number_of [x0, x1, x2] = kFn 3 (g_number_of [x0, x1, x2, .un, .un, .un, .un]) := (rfl)
theorem ok_number_of (Z : Facts K mg) : FnOk P w K mg base (L2N.CX P w) 1 Z.a_number_of Z.d_number_of ["numbering", "count", "place"] (spF K mg T 3 F_number_of) :=
  fun_ok (k := 0) Z.f_number_of sc_number_of (by decide) fun cdv A outer s H E hr tk pso => (db_cons (ds_unpack (de_var (pv 0)) (dg_tp rfl (dgs_cons (dg_name (i := 3) sc_number_of.nd) (dgs_cons (dg_name (i := 4) sc_number_of.nd) (dgs_cons (dg_name (i := 5) sc_number_of.nd) dgs_nil)))))
  (db_cons (ds_name (i := 6) sc_number_of.nd (de_ifExp (dt_eq hr (de_var (pv 3)) de_str) (de_var (pv 2)) (de_sub (de_sub (de_var (pv 1)) de_int) (de_var (pv 2)))))
  (db_one (ds_ret (de_add (de_mul (de_var (pv 4)) (de_div (de_var (pv 6)) (de_len Z.n_len (de_var (pv 5))))) (de_sub_ix (de_var (pv 5)) (de_mod (de_var (pv 6)) (de_len Z.n_len (de_var (pv 5))))))))))
theorem sc_heir_of : FnScope ["plan", "count", "place"] ["plan", "count", "place"] (defScope s_heir_of) := ⟨rfl, rfl, rfl, by decide +kernel, rfl, by decide +kernel, by decide +kernel⟩
theorem b_heir_of (Z : Facts K mg) : Binds K Z.d_heir_of ["plan", "count", "place"] [] := Z.f_heir_of.bindsN fun _ _ _ _ _ _ us hl => match us, hl with | [_, _, _], _ => rfl
def g_heir_of : SF := (sRet (eFn F_place_of [false, false, false] (aCons (eOp2 gIx (eVar 0) (eC (.int 1))) (aCons (eVar 1) (aCons (eFn F_number_of [false, false, false] (aCons (eOp2 gIx (eVar 0) (eC (.int 0))) (aCons (eVar 1) (aCons (eVar 2) aNil)))) aNil)))))
def F_heir_of : FS := fnOf 3 g_heir_of
theorem e_heir_of {x0 x1 x2 : Sl} : F_heir_of [x0, x1, x2] = kFn 3 (g_heir_of [x0, x1, x2]) := (rfl)
theorem ok_heir_of (Z : Facts K mg) : FnOk P w K mg base (L2N.CX P w) 3 Z.a_heir_of Z.d_heir_of ["plan", "count", "place"] (spF K mg T 3 F_heir_of) :=
  fun_ok (k := 2) Z.f_heir_of sc_heir_of (by decide) fun cdv A outer s H E hr tk pso => (db_one (ds_ret (de_call (ios := [false, false, false]) (ok_place_of Z) (hr.mono (by omega)) rfl Z.m_place_of Z.f_place_of.kp (b_place_of Z) tk (da_cons (de_sub_ix (de_var (pv 0)) de_int) (da_cons (de_var (pv 1)) (da_cons (de_call (ios := [false, false, false]) (ok_number_of Z) (hr.mono (by omega)) rfl Z.m_number_of Z.f_number_of.kp (b_number_of Z) tk (da_cons (de_sub_ix (de_var (pv 0)) de_int) (da_cons (de_var (pv 1)) (da_cons (de_var (pv 2)) da_nil)))) da_nil))))))
theorem sc_giver_of : FnScope ["plan", "count", "place"] ["plan", "count", "place"] (defScope s_giver_of) := ⟨rfl, rfl, rfl, by decide +kernel, rfl, by decide +kernel, by decide +kernel⟩
theorem b_giver_of (Z : Facts K mg) : Binds K Z.d_giver_of ["plan", "count", "place"] [] := Z.f_giver_of.bindsN fun _ _ _ _ _ _ us hl => match us, hl with | [_, _, _], _ => rfl
def g_giver_of : SF := (sRet (eFn F_place_of [false, false, false] (aCons (eOp2 gIx (eVar 0) (eC (.int 0))) (aCons (eVar 1) (aCons (eFn F_number_of [false, false, false] (aCons (eOp2 gIx (eVar 0) (eC (.int 1))) (aCons (eVar 1) (aCons (eVar 2) aNil)))) aNil)))))
def F_giver_of : FS := fnOf 3 g_giver_of
theorem e_giver_of {x0 x1 x2 : Sl} : F_giver_of [x0, x1, x2] = kFn 3 (g_giver_of [x0, x1, x2]) := (rfl)
theorem ok_giver_of (Z : Facts K mg) : FnOk P w K mg base (L2N.CX P w) 3 Z.a_giver_of Z.d_giver_of ["plan", "count", "place"] (spF K mg T 3 F_giver_of) :=
  fun_ok (k := 2) Z.f_giver_of sc_giver_of (by decide) fun cdv A outer s H E hr tk pso => (db_one (ds_ret (de_call (ios := [false, false, false]) (ok_place_of Z) (hr.mono (by omega)) rfl Z.m_place_of Z.f_place_of.kp (b_place_of Z) tk (da_cons (de_sub_ix (de_var (pv 0)) de_int) (da_cons (de_var (pv 1)) (da_cons (de_call (ios := [false, false, false]) (ok_number_of Z) (hr.mono (by omega)) rfl Z.m_number_of Z.f_number_of.kp (b_number_of Z) tk (da_cons (de_sub_ix (de_var (pv 0)) de_int) (da_cons (de_var (pv 1)) (da_cons (de_var (pv 2)) da_nil)))) da_nil))))))
theorem sc_step_of : FnScope ["plan", "count", "place", "ahead"] ["plan", "count", "place", "ahead"] (defScope s_step_of) := ⟨rfl, rfl, rfl, by decide +kernel, rfl, by decide +kernel, by decide +kernel⟩
theorem b_step_of (Z : Facts K mg) : Binds K Z.d_step_of ["plan", "count", "place", "ahead"] [] := Z.f_step_of.bindsN fun _ _ _ _ _ _ us hl => match us, hl with | [_, _, _, _], _ => rfl
def g_step_of : SF := (sRet (eIf (tVal (eVar 3)) (eFn F_heir_of [false, false, false] (aCons (eVar 0) (aCons (eVar 1) (aCons (eVar 2) aNil)))) (eFn F_giver_of [false, false, false] (aCons (eVar 0) (aCons (eVar 1) (aCons (eVar 2) aNil))))))
def F_step_of : FS := fnOf 4 g_step_of
theorem e_step_of {x0 x1 x2 x3 : Sl} : F_step_of [x0, x1, x2, x3] = kFn 4 (g_step_of [x0, x1, x2, x3]) := (rfl)
theorem ok_step_of (Z : Facts K mg) : FnOk P w K mg base (L2N.CX P w) 4 Z.a_step_of Z.d_step_of ["plan", "count", "place", "ahead"] (spF K mg T 4 F_step_of) :=
  fun_ok (k := 3) Z.f_step_of sc_step_of (by decide) fun cdv A outer s H E hr tk pso => (db_one (ds_ret (de_ifExp (dt_val (de_var (pv 3))) (de_call (ios := [false, false, false]) (ok_heir_of Z) (hr.mono (by omega)) rfl Z.m_heir_of Z.f_heir_of.kp (b_heir_of Z) tk (da_cons (de_var (pv 0)) (da_cons (de_var (pv 1)) (da_cons (de_var (pv 2)) da_nil)))) (de_call (ios := [false, false, false]) (ok_giver_of Z) (hr.mono (by omega)) rfl Z.m_giver_of Z.f_giver_of.kp (b_giver_of Z) tk (da_cons (de_var (pv 0)) (da_cons (de_var (pv 1)) (da_cons (de_var (pv 2)) da_nil)))))))
theorem sc_walk : FnScope ["plan", "count", "place", "ahead", "size", "row", "there", "alike", "many", "steps", "here"] ["plan", "count", "place", "ahead"] (defScope s_walk) := ⟨rfl, rfl, rfl, by decide +kernel, rfl, by decide +kernel, by decide +kernel⟩
theorem b_walk (Z : Facts K mg) : Binds K Z.d_walk ["plan", "count", "place", "ahead"] [] := Z.f_walk.bindsN fun _ _ _ _ _ _ us hl => match us, hl with | [_, _, _, _], _ => rfl
def walk_t0 : TF := (tCmp' gLe (eCall gLen (aCons (eVar 5) aNil)) (eOp2 gMul (eC (.int 2)) (eVar 4)))
def walk_b0 : SF := (sSeq (sSet 6 (eFn F_step_of [false, false, false, false] (aCons (eVar 0) (aCons (eVar 1) (aCons (eOp2 gIx (eVar 5) (eOp1 gNeg (eC (.int 1)))) (aCons (eVar 3) aNil))))))
  (sSeq (sIf (tCmp' gIs (eVar 6) (eC .non)) (sRet (eTup (aCons (eC (.bl false)) (aCons (eOp2 gSub (eCall gLen (aCons (eVar 5) aNil)) (eC (.int 1))) (aCons (eOp2 gIx (eVar 5) (eOp1 gNeg (eC (.int 1)))) aNil))))) sNext)
  (sSeq (sIf (tCmp' gEq (eVar 6) (eVar 2)) (sRet (eTup (aCons (eC (.bl true)) (aCons (eCall gLen (aCons (eVar 5) aNil)) (aCons (eVar 2) aNil))))) sNext)
  (sSeq (sApp 5 (eVar 6))
  (sSeq (sSet 7 (eOp2 gEq (eOp2 gMod (eOp2 gSub (eVar 6) (eVar 2)) (eVar 4)) (eC (.int 0))))
  (sIf (tAnd' (tVal (eVar 7)) (tOr' (tCmp' gEq (eOp2 gIx (eOp2 gIx (eVar 0) (eC (.int 0))) (eC (.int 0))) (eOp2 gIx (eOp2 gIx (eVar 0) (eC (.int 1))) (eC (.int 0)))) (tCmp' gEq (eOp2 gMod (eCall gLen (aCons (eVar 5) aNil)) (eC (.int 2))) (eC (.int 1))))) sBreak sNext))))))
def walk_t1 : TF := (tVal (eC (.bl true)))
def walk_b1 : SF := (sSeq (sSet 6 (eFn F_step_of [false, false, false, false] (aCons (eVar 0) (aCons (eVar 1) (aCons (eVar 10) (aCons (eVar 3) aNil))))))
  (sSeq (sIf (tCmp' gIs (eVar 6) (eC .non)) (sRet (eTup (aCons (eC (.bl false)) (aCons (eVar 9) (aCons (eVar 10) aNil))))) sNext)
  (sPar [9, 10] (aConsF (eOp2 gAdd (eVar 9) (eC (.int 1))) (aConsF (eVar 6) aNil)))))
def g_walk : SF := (sSeq (sPar [4, 5] (aConsF (eFn F_period_of [false] (aCons (eVar 0) aNil)) (aConsF (eLst (aCons (eVar 2) aNil)) aNil)))
  (sSeq (sWhile (fun _ => 1000) walk_t0 walk_b0)
  (sSeq (sSet 8 (eFn F_leap [false, false, false] (aCons (eVar 0) (aCons (eVar 1) (aCons (eVar 5) aNil)))))
  (sSeq (sPar [9, 10] (aConsF (eOp2 gMul (eVar 8) (eOp2 gSub (eCall gLen (aCons (eVar 5) aNil)) (eC (.int 1)))) (aConsF (eOp2 gAdd (eVar 2) (eOp2 gMul (eVar 8) (eOp2 gSub (eOp2 gIx (eVar 5) (eOp1 gNeg (eC (.int 1)))) (eOp2 gIx (eVar 5) (eC (.int 0)))))) aNil)))
  (sWhile (fun _ => 1000) walk_t1 walk_b1)))))
def F_walk : FS := fnOf 11 g_walk
theorem e_walk {x0 x1 x2 x3 : Sl} : F_walk [x0, x1, x2, x3] = kFn 4 (g_walk [x0, x1, x2, x3, .un, .un, .un, .un, .un, .un, .un]) := (rfl)
theorem ok_walk (Z : Facts K mg) : FnOk P w K mg base (L2N.CX P w) 5 Z.a_walk Z.d_walk ["plan", "count", "place", "ahead"] (spF K mg T 4 F_walk) :=
  fun_ok (k := 4) Z.f_walk sc_walk (by decide) fun cdv A outer s H E hr tk pso => (db_cons (ds_par2 (i := 4) (j := 5) (ps_par rfl sc_walk.nd rfl rfl (by decide) rfl rfl (df_cons (de_call (ios := [false]) (ok_period_of Z) (hr.mono (by omega)) rfl Z.m_period_of Z.f_period_of.kp (b_period_of Z) tk (da_cons (de_var (pv 0)) da_nil)) (df_cons (de_lst (da_cons (de_var (pv 2)) da_nil)) df_nil)) (by rfl)))
  (db_cons (ds_while pso (dt_le (de_len Z.n_len (de_var (pv 5))) (de_mul de_int (de_var (pv 4)))) (db_cons (ds_name (i := 6) sc_walk.nd (de_call (ios := [false, false, false, false]) (ok_step_of Z) (hr.mono (by omega)) rfl Z.m_step_of Z.f_step_of.kp (b_step_of Z) tk (da_cons (de_var (pv 0)) (da_cons (de_var (pv 1)) (da_cons (de_sub_ix (de_var (pv 5)) (de_neg de_int)) (da_cons (de_var (pv 3)) da_nil))))))
  (db_cons (ds_if (dt_is (de_var (pv 6)) de_non) (db_one (ds_ret (de_tup (da_cons de_bl (da_cons (de_sub (de_len Z.n_len (de_var (pv 5))) de_int) (da_cons (de_sub_ix (de_var (pv 5)) (de_neg de_int)) da_nil)))))) db_nil)
  (db_cons (ds_if (dt_eq hr (de_var (pv 6)) (de_var (pv 2))) (db_one (ds_ret (de_tup (da_cons de_bl (da_cons (de_len Z.n_len (de_var (pv 5))) (da_cons (de_var (pv 2)) da_nil)))))) db_nil)
  (db_cons (ds_app (ps_expr (pe_bm PySem.F.plainAttrs_list PySem.F.slot_list_append PySem.F.type_list_append mt_append (pv 5) (pa_cons (de_settle (de_var (pv 6))) pa_nil))))
  (db_cons (ds_name (i := 7) sc_walk.nd (de_eq hr (de_mod (de_sub (de_var (pv 6)) (de_var (pv 2))) (de_var (pv 4))) de_int))
  (db_one (ds_if (dt_w (dw_and (dt_val (de_var (pv 7))) (dw_and1 (dt_w (dw_or (dt_eq hr (de_sub_ix (de_sub_ix (de_var (pv 0)) de_int) de_int) (de_sub_ix (de_sub_ix (de_var (pv 0)) de_int) de_int)) (dw_or1 (dt_eq hr (de_mod (de_len Z.n_len (de_var (pv 5))) de_int) de_int))))))) (db_one ds_break) db_nil))))))))
  (db_cons (ds_name (i := 8) sc_walk.nd (de_call (ios := [false, false, false]) (ok_leap Z) (hr.mono (by omega)) rfl Z.m_leap Z.f_leap.kp (b_leap Z) tk (da_cons (de_var (pv 0)) (da_cons (de_var (pv 1)) (da_cons (de_var (pv 5)) da_nil)))))
  (db_cons (ds_par2 (i := 9) (j := 10) (ps_par rfl sc_walk.nd rfl rfl (by decide) rfl rfl (df_cons (de_mul (de_var (pv 8)) (de_sub (de_len Z.n_len (de_var (pv 5))) de_int)) (df_cons (de_add (de_var (pv 2)) (de_mul (de_var (pv 8)) (de_sub (de_sub_ix (de_var (pv 5)) (de_neg de_int)) (de_sub_ix (de_var (pv 5)) de_int)))) df_nil)) (by rfl)))
  (db_one (ds_while pso (dt_val de_bl) (db_cons (ds_name (i := 6) sc_walk.nd (de_call (ios := [false, false, false, false]) (ok_step_of Z) (hr.mono (by omega)) rfl Z.m_step_of Z.f_step_of.kp (b_step_of Z) tk (da_cons (de_var (pv 0)) (da_cons (de_var (pv 1)) (da_cons (de_var (pv 10)) (da_cons (de_var (pv 3)) da_nil))))))
  (db_cons (ds_if (dt_is (de_var (pv 6)) de_non) (db_one (ds_ret (de_tup (da_cons de_bl (da_cons (de_var (pv 9)) (da_cons (de_var (pv 10)) da_nil)))))) db_nil)
  (db_one (ds_par2 (i := 9) (j := 10) (ps_par rfl sc_walk.nd rfl rfl (by decide) rfl rfl (df_cons (de_add (de_var (pv 9)) de_int) (df_cons (de_var (pv 6)) df_nil)) (by rfl))))))))))))
theorem sc_fate_of : FnScope ["plan", "count", "place", "ring", "later", "last"] ["plan", "count", "place"] (defScope s_fate_of) := ⟨rfl, rfl, rfl, by decide +kernel, rfl, by decide +kernel, by decide +kernel⟩
theorem b_fate_of (Z : Facts K mg) : Binds K Z.d_fate_of ["plan", "count", "place"] [] := Z.f_fate_of.bindsN fun _ _ _ _ _ _ us hl => match us, hl with | [_, _, _], _ => rfl
def g_fate_of : SF := (sSeq (sPat (.tp [(.nm 3), (.nm 4), (.nm 5)]) (eFn F_walk [false, false, false, false] (aCons (eVar 0) (aCons (eVar 1) (aCons (eVar 2) (aCons (eC (.bl true)) aNil))))))
  (sSeq (sIf (tVal (eVar 3)) (sRet (eTup (aCons (eC (.str "ring")) (aCons (eVar 4) aNil)))) sNext)
  (sRet (eTup (aCons (eC (.str "path")) (aCons (eOp2 gIx (eFn F_walk [false, false, false, false] (aCons (eVar 0) (aCons (eVar 1) (aCons (eVar 2) (aCons (eC (.bl false)) aNil))))) (eC (.int 1))) (aCons (eVar 4) aNil)))))))
def F_fate_of : FS := fnOf 6 g_fate_of
theorem e_fate_of {x0 x1 x2 : Sl} : F_fate_of [x0, x1, x2] = kFn 3 (g_fate_of [x0, x1, x2, .un, .un, .un]) := (rfl)
theorem ok_fate_of (Z : Facts K mg) : FnOk P w K mg base (L2N.CX P w) 6 Z.a_fate_of Z.d_fate_of ["plan", "count", "place"] (spF K mg T 3 F_fate_of) :=
  fun_ok (k := 5) Z.f_fate_of sc_fate_of (by decide) fun cdv A outer s H E hr tk pso => (db_cons (ds_unpack (de_call (ios := [false, false, false, false]) (ok_walk Z) (hr.mono (by omega)) rfl Z.m_walk Z.f_walk.kp (b_walk Z) tk (da_cons (de_var (pv 0)) (da_cons (de_var (pv 1)) (da_cons (de_var (pv 2)) (da_cons de_bl da_nil))))) (dg_tp rfl (dgs_cons (dg_name (i := 3) sc_fate_of.nd) (dgs_cons (dg_name (i := 4) sc_fate_of.nd) (dgs_cons (dg_name (i := 5) sc_fate_of.nd) dgs_nil)))))
  (db_cons (ds_if (dt_val (de_var (pv 3))) (db_one (ds_ret (de_tup (da_cons de_str (da_cons (de_var (pv 4)) da_nil))))) db_nil)
  (db_one (ds_ret (de_tup (da_cons de_str (da_cons (de_sub_ix (de_call (ios := [false, false, false, false]) (ok_walk Z) (hr.mono (by omega)) rfl Z.m_walk Z.f_walk.kp (b_walk Z) tk (da_cons (de_var (pv 0)) (da_cons (de_var (pv 1)) (da_cons (de_var (pv 2)) (da_cons de_bl da_nil))))) de_int) (da_cons (de_var (pv 4)) da_nil))))))))
theorem sc_fate : FnScope ["plan", "count", "place"] ["plan", "count", "place"] (defScope s_fate) := ⟨rfl, rfl, rfl, by decide +kernel, rfl, by decide +kernel, by decide +kernel⟩
theorem b_fate (Z : Facts K mg) : Binds K Z.d_fate ["plan", "count", "place"] [] := Z.f_fate.bindsN fun _ _ _ _ _ _ us hl => match us, hl with | [_, _, _], _ => rfl
def g_fate : SF := (sSeq (sDrop (eFn F_need_house [false, false, false] (aCons (eVar 0) (aCons (eVar 1) (aCons (eVar 2) aNil)))))
  (sRet (eFn F_fate_of [false, false, false] (aCons (eVar 0) (aCons (eVar 1) (aCons (eVar 2) aNil))))))
def F_fate : FS := fnOf 3 g_fate
theorem e_fate {x0 x1 x2 : Sl} : F_fate [x0, x1, x2] = kFn 3 (g_fate [x0, x1, x2]) := (rfl)
theorem ok_fate (Z : Facts K mg) : FnOk P w K mg base (L2N.CX P w) 7 Z.a_fate Z.d_fate ["plan", "count", "place"] (spF K mg T 3 F_fate) :=
  fun_ok (k := 6) Z.f_fate sc_fate (by decide) fun cdv A outer s H E hr tk pso => (db_cons (ds_drop (de_call (ios := [false, false, false]) (ok_need_house Z) (hr.mono (by omega)) rfl Z.m_need_house Z.f_need_house.kp (b_need_house Z) tk (da_cons (de_var (pv 0)) (da_cons (de_var (pv 1)) (da_cons (de_var (pv 2)) da_nil)))))
  (db_one (ds_ret (de_call (ios := [false, false, false]) (ok_fate_of Z) (hr.mono (by omega)) rfl Z.m_fate_of Z.f_fate_of.kp (b_fate_of Z) tk (da_cons (de_var (pv 0)) (da_cons (de_var (pv 1)) (da_cons (de_var (pv 2)) da_nil)))))))
theorem sc_heir : FnScope ["plan", "count", "place"] ["plan", "count", "place"] (defScope s_heir) := ⟨rfl, rfl, rfl, by decide +kernel, rfl, by decide +kernel, by decide +kernel⟩
theorem b_heir (Z : Facts K mg) : Binds K Z.d_heir ["plan", "count", "place"] [] := Z.f_heir.bindsN fun _ _ _ _ _ _ us hl => match us, hl with | [_, _, _], _ => rfl
def g_heir : SF := (sSeq (sDrop (eFn F_need_house [false, false, false] (aCons (eVar 0) (aCons (eVar 1) (aCons (eVar 2) aNil)))))
  (sRet (eFn F_heir_of [false, false, false] (aCons (eVar 0) (aCons (eVar 1) (aCons (eVar 2) aNil))))))
def F_heir : FS := fnOf 3 g_heir
theorem e_heir {x0 x1 x2 : Sl} : F_heir [x0, x1, x2] = kFn 3 (g_heir [x0, x1, x2]) := (rfl)
theorem ok_heir (Z : Facts K mg) : FnOk P w K mg base (L2N.CX P w) 6 Z.a_heir Z.d_heir ["plan", "count", "place"] (spF K mg T 3 F_heir) :=
  fun_ok (k := 5) Z.f_heir sc_heir (by decide) fun cdv A outer s H E hr tk pso => (db_cons (ds_drop (de_call (ios := [false, false, false]) (ok_need_house Z) (hr.mono (by omega)) rfl Z.m_need_house Z.f_need_house.kp (b_need_house Z) tk (da_cons (de_var (pv 0)) (da_cons (de_var (pv 1)) (da_cons (de_var (pv 2)) da_nil)))))
  (db_one (ds_ret (de_call (ios := [false, false, false]) (ok_heir_of Z) (hr.mono (by omega)) rfl Z.m_heir_of Z.f_heir_of.kp (b_heir_of Z) tk (da_cons (de_var (pv 0)) (da_cons (de_var (pv 1)) (da_cons (de_var (pv 2)) da_nil)))))))
theorem sc_first_giver : FnScope ["plan", "count", "place", "ring", "steps", "first"] ["plan", "count", "place"] (defScope s_first_giver) := ⟨rfl, rfl, rfl, by decide +kernel, rfl, by decide +kernel, by decide +kernel⟩
theorem b_first_giver (Z : Facts K mg) : Binds K Z.d_first_giver ["plan", "count", "place"] [] := Z.f_first_giver.bindsN fun _ _ _ _ _ _ us hl => match us, hl with | [_, _, _], _ => rfl
def g_first_giver : SF := (sSeq (sDrop (eFn F_need_house [false, false, false] (aCons (eVar 0) (aCons (eVar 1) (aCons (eVar 2) aNil)))))
  (sSeq (sPat (.tp [(.nm 3), (.nm 4), (.nm 5)]) (eFn F_walk [false, false, false, false] (aCons (eVar 0) (aCons (eVar 1) (aCons (eVar 2) (aCons (eC (.bl false)) aNil))))))
  (sRet (eIf (tVal (eVar 3)) (eC .non) (eVar 5)))))
def F_first_giver : FS := fnOf 6 g_first_giver
theorem e_first_giver {x0 x1 x2 : Sl} : F_first_giver [x0, x1, x2] = kFn 3 (g_first_giver [x0, x1, x2, .un, .un, .un]) := (rfl)
theorem ok_first_giver (Z : Facts K mg) : FnOk P w K mg base (L2N.CX P w) 6 Z.a_first_giver Z.d_first_giver ["plan", "count", "place"] (spF K mg T 3 F_first_giver) :=
  fun_ok (k := 5) Z.f_first_giver sc_first_giver (by decide) fun cdv A outer s H E hr tk pso => (db_cons (ds_drop (de_call (ios := [false, false, false]) (ok_need_house Z) (hr.mono (by omega)) rfl Z.m_need_house Z.f_need_house.kp (b_need_house Z) tk (da_cons (de_var (pv 0)) (da_cons (de_var (pv 1)) (da_cons (de_var (pv 2)) da_nil)))))
  (db_cons (ds_unpack (de_call (ios := [false, false, false, false]) (ok_walk Z) (hr.mono (by omega)) rfl Z.m_walk Z.f_walk.kp (b_walk Z) tk (da_cons (de_var (pv 0)) (da_cons (de_var (pv 1)) (da_cons (de_var (pv 2)) (da_cons de_bl da_nil))))) (dg_tp rfl (dgs_cons (dg_name (i := 3) sc_first_giver.nd) (dgs_cons (dg_name (i := 4) sc_first_giver.nd) (dgs_cons (dg_name (i := 5) sc_first_giver.nd) dgs_nil)))))
  (db_one (ds_ret (de_ifExp (dt_val (de_var (pv 3))) de_non (de_var (pv 5)))))))
theorem sc_last_heir : FnScope ["plan", "count", "place", "ring", "steps", "last"] ["plan", "count", "place"] (defScope s_last_heir) := ⟨rfl, rfl, rfl, by decide +kernel, rfl, by decide +kernel, by decide +kernel⟩
theorem b_last_heir (Z : Facts K mg) : Binds K Z.d_last_heir ["plan", "count", "place"] [] := Z.f_last_heir.bindsN fun _ _ _ _ _ _ us hl => match us, hl with | [_, _, _], _ => rfl
def g_last_heir : SF := (sSeq (sDrop (eFn F_need_house [false, false, false] (aCons (eVar 0) (aCons (eVar 1) (aCons (eVar 2) aNil)))))
  (sSeq (sPat (.tp [(.nm 3), (.nm 4), (.nm 5)]) (eFn F_walk [false, false, false, false] (aCons (eVar 0) (aCons (eVar 1) (aCons (eVar 2) (aCons (eC (.bl true)) aNil))))))
  (sRet (eIf (tVal (eVar 3)) (eC .non) (eVar 5)))))
def F_last_heir : FS := fnOf 6 g_last_heir
theorem e_last_heir {x0 x1 x2 : Sl} : F_last_heir [x0, x1, x2] = kFn 3 (g_last_heir [x0, x1, x2, .un, .un, .un]) := (rfl)
theorem ok_last_heir (Z : Facts K mg) : FnOk P w K mg base (L2N.CX P w) 6 Z.a_last_heir Z.d_last_heir ["plan", "count", "place"] (spF K mg T 3 F_last_heir) :=
  fun_ok (k := 5) Z.f_last_heir sc_last_heir (by decide) fun cdv A outer s H E hr tk pso => (db_cons (ds_drop (de_call (ios := [false, false, false]) (ok_need_house Z) (hr.mono (by omega)) rfl Z.m_need_house Z.f_need_house.kp (b_need_house Z) tk (da_cons (de_var (pv 0)) (da_cons (de_var (pv 1)) (da_cons (de_var (pv 2)) da_nil)))))
  (db_cons (ds_unpack (de_call (ios := [false, false, false, false]) (ok_walk Z) (hr.mono (by omega)) rfl Z.m_walk Z.f_walk.kp (b_walk Z) tk (da_cons (de_var (pv 0)) (da_cons (de_var (pv 1)) (da_cons (de_var (pv 2)) (da_cons de_bl da_nil))))) (dg_tp rfl (dgs_cons (dg_name (i := 3) sc_last_heir.nd) (dgs_cons (dg_name (i := 4) sc_last_heir.nd) (dgs_cons (dg_name (i := 5) sc_last_heir.nd) dgs_nil)))))
  (db_one (ds_ret (de_ifExp (dt_val (de_var (pv 3))) de_non (de_var (pv 5)))))))
theorem sc_giver : FnScope ["plan", "count", "place"] ["plan", "count", "place"] (defScope s_giver) := ⟨rfl, rfl, rfl, by decide +kernel, rfl, by decide +kernel, by decide +kernel⟩
theorem b_giver (Z : Facts K mg) : Binds K Z.d_giver ["plan", "count", "place"] [] := Z.f_giver.bindsN fun _ _ _ _ _ _ us hl => match us, hl with | [_, _, _], _ => rfl
def g_giver : SF := (sSeq (sDrop (eFn F_need_house [false, false, false] (aCons (eVar 0) (aCons (eVar 1) (aCons (eVar 2) aNil)))))
  (sRet (eFn F_giver_of [false, false, false] (aCons (eVar 0) (aCons (eVar 1) (aCons (eVar 2) aNil))))))
def F_giver : FS := fnOf 3 g_giver
theorem e_giver {x0 x1 x2 : Sl} : F_giver [x0, x1, x2] = kFn 3 (g_giver [x0, x1, x2]) := (rfl)
theorem ok_giver (Z : Facts K mg) : FnOk P w K mg base (L2N.CX P w) 6 Z.a_giver Z.d_giver ["plan", "count", "place"] (spF K mg T 3 F_giver) :=
  fun_ok (k := 5) Z.f_giver sc_giver (by decide) fun cdv A outer s H E hr tk pso => (db_cons (ds_drop (de_call (ios := [false, false, false]) (ok_need_house Z) (hr.mono (by omega)) rfl Z.m_need_house Z.f_need_house.kp (b_need_house Z) tk (da_cons (de_var (pv 0)) (da_cons (de_var (pv 1)) (da_cons (de_var (pv 2)) da_nil)))))
  (db_one (ds_ret (de_call (ios := [false, false, false]) (ok_giver_of Z) (hr.mono (by omega)) rfl Z.m_giver_of Z.f_giver_of.kp (b_giver_of Z) tk (da_cons (de_var (pv 0)) (da_cons (de_var (pv 1)) (da_cons (de_var (pv 2)) da_nil)))))))
theorem sc__law_on_right : FnScope ["plan", "houses", "place", "here", "there", "begin", "end"] ["plan", "houses", "place"] (defScope s__law_on_right) := ⟨rfl, rfl, rfl, by decide +kernel, rfl, by decide +kernel, by decide +kernel⟩
theorem b__law_on_right (Z : Facts K mg) : Binds K Z.d__law_on_right ["plan", "houses", "place"] [] := Z.f__law_on_right.bindsN fun _ _ _ _ _ _ us hl => match us, hl with | [_, _, _], _ => rfl
def g__law_on_right : SF := (sSeq (sPar [3, 4] (aConsF (eFn F_fate [false, false, false] (aCons (eVar 0) (aCons (eVar 1) (aCons (eVar 2) aNil)))) (aConsF (eFn F_heir [false, false, false] (aCons (eVar 0) (aCons (eVar 1) (aCons (eVar 2) aNil)))) aNil)))
  (sSeq (sIf (tCmp' gEq (eOp2 gIx (eVar 3) (eC (.int 0))) (eC (.str "ring"))) (sRet (eAnd (eOp2 gIsNot (eVar 4) (eC .non)) (eAnd (eOp2 gEq (eFn F_fate [false, false, false] (aCons (eVar 0) (aCons (eVar 1) (aCons (eVar 4) aNil)))) (eVar 3)) (eChain gLt gLe (eC (.int 0)) (eOp2 gIx (eVar 3) (eC (.int 1))) (eC (.int 60)))))) sNext)
  (sSeq (sPar [5, 6] (aConsF (eFn F_first_giver [false, false, false] (aCons (eVar 0) (aCons (eVar 1) (aCons (eVar 2) aNil)))) (aConsF (eFn F_last_heir [false, false, false] (aCons (eVar 0) (aCons (eVar 1) (aCons (eVar 2) aNil)))) aNil)))
  (sSeq (sIf (tOr' (tCmp' gIsNot (eFn F_giver [false, false, false] (aCons (eVar 0) (aCons (eVar 1) (aCons (eVar 5) aNil)))) (eC .non)) (tCmp' gIsNot (eFn F_heir [false, false, false] (aCons (eVar 0) (aCons (eVar 1) (aCons (eVar 6) aNil)))) (eC .non))) (sRet (eC (.bl false))) sNext)
  (sSeq (sIf (tOr' (tCmp' gNe (eFn F_fate [false, false, false] (aCons (eVar 0) (aCons (eVar 1) (aCons (eVar 5) aNil)))) (eTup (aCons (eC (.str "path")) (aCons (eC (.int 0)) (aCons (eOp2 gAdd (eOp2 gIx (eVar 3) (eC (.int 1))) (eOp2 gIx (eVar 3) (eC (.int 2)))) aNil))))) (tCmp' gNe (eOp2 gIx (eFn F_fate [false, false, false] (aCons (eVar 0) (aCons (eVar 1) (aCons (eVar 6) aNil)))) (eC (.int 2))) (eC (.int 0)))) (sRet (eC (.bl false))) sNext)
  (sSeq (sIf (tCmp' gIs (eVar 4) (eC .non)) (sRet (eAnd (eOp2 gEq (eOp2 gIx (eVar 3) (eC (.int 2))) (eC (.int 0))) (eOp2 gEq (eVar 6) (eVar 2)))) sNext)
  (sRet (eOp2 gEq (eFn F_fate [false, false, false] (aCons (eVar 0) (aCons (eVar 1) (aCons (eVar 4) aNil)))) (eTup (aCons (eC (.str "path")) (aCons (eOp2 gAdd (eOp2 gIx (eVar 3) (eC (.int 1))) (eC (.int 1))) (aCons (eOp2 gSub (eOp2 gIx (eVar 3) (eC (.int 2))) (eC (.int 1))) aNil))))))))))))
def F__law_on_right : FS := fnOf 7 g__law_on_right
theorem e__law_on_right {x0 x1 x2 : Sl} : F__law_on_right [x0, x1, x2] = kFn 3 (g__law_on_right [x0, x1, x2, .un, .un, .un, .un]) := (rfl)
theorem ok__law_on_right (Z : Facts K mg) : FnOk P w K mg base (L2N.CX P w) 8 Z.a__law_on_right Z.d__law_on_right ["plan", "houses", "place"] (spF K mg T 3 F__law_on_right) :=
  fun_ok (k := 7) Z.f__law_on_right sc__law_on_right (by decide) fun cdv A outer s H E hr tk pso => (db_cons (ds_par2 (i := 3) (j := 4) (ps_par rfl sc__law_on_right.nd rfl rfl (by decide) rfl rfl (df_cons (de_call (ios := [false, false, false]) (ok_fate Z) (hr.mono (by omega)) rfl Z.m_fate Z.f_fate.kp (b_fate Z) tk (da_cons (de_var (pv 0)) (da_cons (de_var (pv 1)) (da_cons (de_var (pv 2)) da_nil)))) (df_cons (de_call (ios := [false, false, false]) (ok_heir Z) (hr.mono (by omega)) rfl Z.m_heir Z.f_heir.kp (b_heir Z) tk (da_cons (de_var (pv 0)) (da_cons (de_var (pv 1)) (da_cons (de_var (pv 2)) da_nil)))) df_nil)) (by rfl)))
  (db_cons (ds_if (dt_eq hr (de_sub_ix (de_var (pv 3)) de_int) de_str) (db_one (ds_ret (de_and (de_isnot (de_var (pv 4)) de_non) (de_and (de_eq hr (de_call (ios := [false, false, false]) (ok_fate Z) (hr.mono (by omega)) rfl Z.m_fate Z.f_fate.kp (b_fate Z) tk (da_cons (de_var (pv 0)) (da_cons (de_var (pv 1)) (da_cons (de_var (pv 4)) da_nil)))) (de_var (pv 3))) (de_one (de_ltle de_int (de_sub_ix (de_var (pv 3)) de_int) de_int)))))) db_nil)
  (db_cons (ds_par2 (i := 5) (j := 6) (ps_par rfl sc__law_on_right.nd rfl rfl (by decide) rfl rfl (df_cons (de_call (ios := [false, false, false]) (ok_first_giver Z) (hr.mono (by omega)) rfl Z.m_first_giver Z.f_first_giver.kp (b_first_giver Z) tk (da_cons (de_var (pv 0)) (da_cons (de_var (pv 1)) (da_cons (de_var (pv 2)) da_nil)))) (df_cons (de_call (ios := [false, false, false]) (ok_last_heir Z) (hr.mono (by omega)) rfl Z.m_last_heir Z.f_last_heir.kp (b_last_heir Z) tk (da_cons (de_var (pv 0)) (da_cons (de_var (pv 1)) (da_cons (de_var (pv 2)) da_nil)))) df_nil)) (by rfl)))
  (db_cons (ds_if (dt_w (dw_or (dt_isnot (de_call (ios := [false, false, false]) (ok_giver Z) (hr.mono (by omega)) rfl Z.m_giver Z.f_giver.kp (b_giver Z) tk (da_cons (de_var (pv 0)) (da_cons (de_var (pv 1)) (da_cons (de_var (pv 5)) da_nil)))) de_non) (dw_or1 (dt_isnot (de_call (ios := [false, false, false]) (ok_heir Z) (hr.mono (by omega)) rfl Z.m_heir Z.f_heir.kp (b_heir Z) tk (da_cons (de_var (pv 0)) (da_cons (de_var (pv 1)) (da_cons (de_var (pv 6)) da_nil)))) de_non)))) (db_one (ds_ret de_bl)) db_nil)
  (db_cons (ds_if (dt_w (dw_or (dt_ne hr (de_call (ios := [false, false, false]) (ok_fate Z) (hr.mono (by omega)) rfl Z.m_fate Z.f_fate.kp (b_fate Z) tk (da_cons (de_var (pv 0)) (da_cons (de_var (pv 1)) (da_cons (de_var (pv 5)) da_nil)))) (de_tup (da_cons de_str (da_cons de_int (da_cons (de_add (de_sub_ix (de_var (pv 3)) de_int) (de_sub_ix (de_var (pv 3)) de_int)) da_nil))))) (dw_or1 (dt_ne hr (de_sub_ix (de_call (ios := [false, false, false]) (ok_fate Z) (hr.mono (by omega)) rfl Z.m_fate Z.f_fate.kp (b_fate Z) tk (da_cons (de_var (pv 0)) (da_cons (de_var (pv 1)) (da_cons (de_var (pv 6)) da_nil)))) de_int) de_int)))) (db_one (ds_ret de_bl)) db_nil)
  (db_cons (ds_if (dt_is (de_var (pv 4)) de_non) (db_one (ds_ret (de_and (de_eq hr (de_sub_ix (de_var (pv 3)) de_int) de_int) (de_one (de_eq hr (de_var (pv 6)) (de_var (pv 2))))))) db_nil)
  (db_one (ds_ret (de_eq hr (de_call (ios := [false, false, false]) (ok_fate Z) (hr.mono (by omega)) rfl Z.m_fate Z.f_fate.kp (b_fate Z) tk (da_cons (de_var (pv 0)) (da_cons (de_var (pv 1)) (da_cons (de_var (pv 4)) da_nil)))) (de_tup (da_cons de_str (da_cons (de_add (de_sub_ix (de_var (pv 3)) de_int) de_int) (da_cons (de_sub (de_sub_ix (de_var (pv 3)) de_int) de_int) da_nil)))))))))))))
theorem sc_chain : FnScope ["plan", "count", "place", "found", "there"] ["plan", "count", "place"] (defScope s_chain) := ⟨rfl, rfl, rfl, by decide +kernel, rfl, by decide +kernel, by decide +kernel⟩
theorem b_chain (Z : Facts K mg) : Binds K Z.d_chain ["plan", "count", "place"] [] := Z.f_chain.bindsN fun _ _ _ _ _ _ us hl => match us, hl with | [_, _, _], _ => rfl
def chain_t0 : TF := (tCmp' gLt (eCall gLen (aCons (eVar 3) aNil)) (eC (.int 60)))
def chain_b0 : SF := (sSeq (sSet 4 (eFn F_heir_of [false, false, false] (aCons (eVar 0) (aCons (eVar 1) (aCons (eOp2 gIx (eVar 3) (eOp1 gNeg (eC (.int 1)))) aNil)))))
  (sSeq (sIf (tOr' (tCmp' gIs (eVar 4) (eC .non)) (tCmp' gEq (eVar 4) (eVar 2))) (sRet (eVar 3)) sNext)
  (sApp 3 (eVar 4))))
def g_chain : SF := (sSeq (sDrop (eFn F_need_house [false, false, false] (aCons (eVar 0) (aCons (eVar 1) (aCons (eVar 2) aNil)))))
  (sSeq (sSet 3 (eLst (aCons (eVar 2) aNil)))
  (sSeq (sWhile (fun _ => 1000) chain_t0 chain_b0)
  (sRet (eVar 3)))))
def F_chain : FS := fnOf 5 g_chain
theorem e_chain {x0 x1 x2 : Sl} : F_chain [x0, x1, x2] = kFn 3 (g_chain [x0, x1, x2, .un, .un]) := (rfl)
theorem ok_chain (Z : Facts K mg) : FnOk P w K mg base (L2N.CX P w) 6 Z.a_chain Z.d_chain ["plan", "count", "place"] (spF K mg T 3 F_chain) :=
  fun_ok (k := 5) Z.f_chain sc_chain (by decide) fun cdv A outer s H E hr tk pso => (db_cons (ds_drop (de_call (ios := [false, false, false]) (ok_need_house Z) (hr.mono (by omega)) rfl Z.m_need_house Z.f_need_house.kp (b_need_house Z) tk (da_cons (de_var (pv 0)) (da_cons (de_var (pv 1)) (da_cons (de_var (pv 2)) da_nil)))))
  (db_cons (ds_name (i := 3) sc_chain.nd (de_lst (da_cons (de_var (pv 2)) da_nil)))
  (db_cons (ds_while pso (dt_lt (de_len Z.n_len (de_var (pv 3))) de_int) (db_cons (ds_name (i := 4) sc_chain.nd (de_call (ios := [false, false, false]) (ok_heir_of Z) (hr.mono (by omega)) rfl Z.m_heir_of Z.f_heir_of.kp (b_heir_of Z) tk (da_cons (de_var (pv 0)) (da_cons (de_var (pv 1)) (da_cons (de_sub_ix (de_var (pv 3)) (de_neg de_int)) da_nil)))))
  (db_cons (ds_if (dt_w (dw_or (dt_is (de_var (pv 4)) de_non) (dw_or1 (dt_eq hr (de_var (pv 4)) (de_var (pv 2)))))) (db_one (ds_ret (de_var (pv 3)))) db_nil)
  (db_one (ds_app (ps_expr (pe_bm PySem.F.plainAttrs_list PySem.F.slot_list_append PySem.F.type_list_append mt_append (pv 3) (pa_cons (de_settle (de_var (pv 4))) pa_nil))))))))
  (db_one (ds_ret (de_var (pv 3)))))))
theorem sc__law_steps_right : FnScope ["plan", "houses", "place", "row", "here", "there"] ["plan", "houses", "place"] (defScope s__law_steps_right) := ⟨rfl, rfl, rfl, by decide +kernel, rfl, by decide +kernel, by decide +kernel⟩
theorem b__law_steps_right (Z : Facts K mg) : Binds K Z.d__law_steps_right ["plan", "houses", "place"] [] := Z.f__law_steps_right.bindsN fun _ _ _ _ _ _ us hl => match us, hl with | [_, _, _], _ => rfl
def _law_steps_right_i0 : IF := (iSeq (eVar 3))
def _law_steps_right_b0 : SF := (sSeq (sIf (tCmp' gNe (eVar 5) (eVar 4)) (sRet (eC (.bl false))) sNext)
  (sSet 4 (eFn F_heir [false, false, false] (aCons (eVar 0) (aCons (eVar 1) (aCons (eVar 4) aNil))))))
def g__law_steps_right : SF := (sSeq (sPar [3, 4] (aConsF (eFn F_chain [false, false, false] (aCons (eVar 0) (aCons (eVar 1) (aCons (eVar 2) aNil)))) (aConsF (eVar 2) aNil)))
  (sSeq (sFor (.nm 5) _law_steps_right_i0 _law_steps_right_b0)
  (sRet (eOr (eOp2 gIs (eVar 4) (eC .non)) (eOr (eOp2 gEq (eVar 4) (eVar 2)) (eOp2 gEq (eCall gLen (aCons (eVar 3) aNil)) (eC (.int 60))))))))
def F__law_steps_right : FS := fnOf 6 g__law_steps_right
theorem e__law_steps_right {x0 x1 x2 : Sl} : F__law_steps_right [x0, x1, x2] = kFn 3 (g__law_steps_right [x0, x1, x2, .un, .un, .un]) := (rfl)
theorem ok__law_steps_right (Z : Facts K mg) : FnOk P w K mg base (L2N.CX P w) 7 Z.a__law_steps_right Z.d__law_steps_right ["plan", "houses", "place"] (spF K mg T 3 F__law_steps_right) :=
  fun_ok (k := 6) Z.f__law_steps_right sc__law_steps_right (by decide) fun cdv A outer s H E hr tk pso => (db_cons (ds_par2 (i := 3) (j := 4) (ps_par rfl sc__law_steps_right.nd rfl rfl (by decide) rfl rfl (df_cons (de_call (ios := [false, false, false]) (ok_chain Z) (hr.mono (by omega)) rfl Z.m_chain Z.f_chain.kp (b_chain Z) tk (da_cons (de_var (pv 0)) (da_cons (de_var (pv 1)) (da_cons (de_var (pv 2)) da_nil)))) (df_cons (de_var (pv 2)) df_nil)) (by rfl)))
  (db_cons (ds_for pso rfl (di_seq (de_var (pv 3))) (dg_name (i := 5) sc__law_steps_right.nd) (db_cons (ds_if (dt_ne hr (de_var (pv 5)) (de_var (pv 4))) (db_one (ds_ret de_bl)) db_nil)
  (db_one (ds_name (i := 4) sc__law_steps_right.nd (de_call (ios := [false, false, false]) (ok_heir Z) (hr.mono (by omega)) rfl Z.m_heir Z.f_heir.kp (b_heir Z) tk (da_cons (de_var (pv 0)) (da_cons (de_var (pv 1)) (da_cons (de_var (pv 4)) da_nil))))))))
  (db_one (ds_ret (de_or (de_is (de_var (pv 4)) de_non) (de_or (de_eq hr (de_var (pv 4)) (de_var (pv 2))) (de_one (de_eq hr (de_len Z.n_len (de_var (pv 3))) de_int))))))))
theorem sc_law : FnScope ["script", "cell", "deck", "plan", "houses", "turn", "place", "three", "turned"] ["script"] (defScope s_law) := ⟨rfl, rfl, rfl, by decide +kernel, rfl, by decide +kernel, by decide +kernel⟩
theorem b_law (Z : Facts K mg) : Binds K Z.d_law ["script"] [] := Z.f_law.bindsN fun _ _ _ _ _ _ us hl => match us, hl with | [_], _ => rfl
def law_i0 : IF := (iRange1 (eC (.int 5)))
def law_b0 : SF := (sSeq (sSet 6 (eFn F__law_one [true, false] (aCons (eVar 2) (aCons (eLst (aCons (eFn F__law_pick [true, false] (aCons (eVar 2) (aCons (eC (.int 40)) aNil))) (aCons (eOp2 gSub (eOp2 gSub (eVar 4) (eC (.int 1))) (eFn F__law_pick [true, false] (aCons (eVar 2) (aCons (eC (.int 40)) aNil)))) (aCons (eOp2 gMod (eFn F__law_pick [true, false] (aCons (eVar 2) (aCons (eOp2 gPow (eC (.int 10)) (eC (.int 27))) aNil))) (eVar 4)) aNil)))) aNil))))
  (sIf (tOr' (tNot' (tVal (eFn F__law_on_right [false, false, false] (aCons (eVar 3) (aCons (eVar 4) (aCons (eVar 6) aNil)))))) (tNot' (tVal (eFn F__law_steps_right [false, false, false] (aCons (eVar 3) (aCons (eVar 4) (aCons (eVar 6) aNil))))))) (sRet (eC (.bl false))) sNext))
def law_i1 : IF := (iSeq (eLst (aCons (eOp2 gAdd (eOp2 gPow (eC (.int 10)) (eC (.int 3))) (eFn F__law_pick [true, false] (aCons (eVar 2) (aCons (eOp2 gPow (eC (.int 10)) (eC (.int 5))) aNil)))) (aCons (eOp2 gAdd (eOp2 gPow (eC (.int 10)) (eC (.int 28))) (eFn F__law_pick [true, false] (aCons (eVar 2) (aCons (eOp2 gPow (eC (.int 10)) (eC (.int 9))) aNil)))) aNil))))
def law_b1 : SF := (sFor (.nm 5) law_i0 law_b0)
def law_i2 : IF := (iSeq (eSl gSl (eOp2 gAdd (eLst (aCons (eC (.int 0)) aNil)) (eVar 0)) oNone (oSome (eC (.int 10)))))
def law_b2 : SF := (sSeq (sSet 2 (eFn F__law_deck [false, false] (aCons (eVar 1) (aCons (eC (.int 4)) aNil))))
  (sSeq (sSet 3 (eFn F__law_plan [true] (aCons (eVar 2) aNil)))
  (sFor (.nm 4) law_i1 law_b1)))
def g_law : SF := (sSeq (sFor (.nm 1) law_i2 law_b2)
  (sSeq (sSet 7 (eOp2 gIx (eFn F__law_known [] aNil) (eC (.int 2))))
  (sSeq (sIf (tCmp' gNe (eFn F_fate [false, false, false] (aCons (eVar 7) (aCons (eOp2 gPow (eC (.int 10)) (eC (.int 30))) (aCons (eC (.int 0)) aNil)))) (eTup (aCons (eC (.str "path")) (aCons (eOp2 gDiv (eOp2 gSub (eOp2 gPow (eC (.int 10)) (eC (.int 30))) (eC (.int 1))) (eC (.int 3))) (aCons (eC (.int 0)) aNil))))) (sRet (eC (.bl false))) sNext)
  (sSeq (sIf (tCmp' gNe (eFn F_fate [false, false, false] (aCons (eVar 7) (aCons (eOp2 gPow (eC (.int 10)) (eC (.int 30))) (aCons (eOp2 gPow (eC (.int 10)) (eC (.int 29))) aNil)))) (eTup (aCons (eC (.str "path")) (aCons (eOp2 gDiv (eOp2 gSub (eOp2 gSub (eOp2 gPow (eC (.int 10)) (eC (.int 30))) (eC (.int 1))) (eOp2 gPow (eC (.int 10)) (eC (.int 29)))) (eC (.int 3))) (aCons (eOp2 gDiv (eOp2 gPow (eC (.int 10)) (eC (.int 29))) (eC (.int 3))) aNil))))) (sRet (eC (.bl false))) sNext)
  (sSeq (sSet 8 (eTup (aCons (eTup (aCons (eC (.str "near")) (aCons (eC (.int 2)) (aCons (eTup (aCons (eC (.int 1)) (aCons (eC (.int 2)) aNil))) aNil)))) (aCons (eTup (aCons (eC (.str "far")) (aCons (eC (.int 2)) (aCons (eTup (aCons (eC (.int 3)) (aCons (eC (.int 2)) aNil))) aNil)))) aNil))))
  (sSeq (sIf (tOr' (tNot' (tVal (eFn F__law_on_right [false, false, false] (aCons (eVar 8) (aCons (eOp2 gPow (eC (.int 10)) (eC (.int 29))) (aCons (eC (.int 5)) aNil)))))) (tNot' (tVal (eFn F__law_on_right [false, false, false] (aCons (eVar 8) (aCons (eC (.int 1001)) (aCons (eC (.int 0)) aNil))))))) (sRet (eC (.bl false))) sNext)
  (sRet (eOp2 gEq (eFn F_heir [false, false, false] (aCons (eVar 7) (aCons (eOp2 gPow (eC (.int 10)) (eC (.int 30))) (aCons (eOp2 gSub (eOp2 gPow (eC (.int 10)) (eC (.int 30))) (eC (.int 1))) aNil)))) (eOp2 gSub (eOp2 gPow (eC (.int 10)) (eC (.int 30))) (eC (.int 4)))))))))))
def F_law : FS := fnOf 9 g_law
theorem e_law {x0 : Sl} : F_law [x0] = kFn 1 (g_law [x0, .un, .un, .un, .un, .un, .un, .un, .un]) := (rfl)
theorem ok_law (Z : Facts K mg) : FnOk P w K mg base (L2N.CX P w) 9 Z.a_law Z.d_law ["script"] (spF K mg T 1 F_law) :=
  fun_ok (k := 8) Z.f_law sc_law (by decide) fun cdv A outer s H E hr tk pso => (db_cons (ds_for pso rfl (di_seq (de_cut (de_add (de_lst (da_cons de_int da_nil)) (de_var (pv 0))) do_none (do_some de_int))) (dg_name (i := 1) sc_law.nd) (db_cons (ds_name (i := 2) sc_law.nd (de_call (ios := [false, false]) (ok__law_deck Z) (hr.mono (by omega)) rfl Z.m__law_deck Z.f__law_deck.kp (b__law_deck Z) tk (da_cons (de_var (pv 1)) (da_cons de_int da_nil))))
  (db_cons (ds_name (i := 3) sc_law.nd (de_call (ios := [true]) (ok__law_plan Z) (hr.mono (by omega)) rfl Z.m__law_plan Z.f__law_plan.kp (b__law_plan Z) tk (da_cons (de_var (pv 2)) da_nil)))
  (db_one (ds_for pso rfl (di_seq (de_lst (da_cons (de_add (de_pow de_int de_int) (de_call (ios := [true, false]) (ok__law_pick Z) (hr.mono (by omega)) rfl Z.m__law_pick Z.f__law_pick.kp (b__law_pick Z) tk (da_cons (de_var (pv 2)) (da_cons (de_pow de_int de_int) da_nil)))) (da_cons (de_add (de_pow de_int de_int) (de_call (ios := [true, false]) (ok__law_pick Z) (hr.mono (by omega)) rfl Z.m__law_pick Z.f__law_pick.kp (b__law_pick Z) tk (da_cons (de_var (pv 2)) (da_cons (de_pow de_int de_int) da_nil)))) da_nil)))) (dg_name (i := 4) sc_law.nd) (db_one (ds_for pso rfl (di_range1 rfl Z.n_range de_int) (dg_name (i := 5) sc_law.nd) (db_cons (ds_name (i := 6) sc_law.nd (de_call (ios := [true, false]) (ok__law_one Z) (hr.mono (by omega)) rfl Z.m__law_one Z.f__law_one.kp (b__law_one Z) tk (da_cons (de_var (pv 2)) (da_cons (de_lst (da_cons (de_call (ios := [true, false]) (ok__law_pick Z) (hr.mono (by omega)) rfl Z.m__law_pick Z.f__law_pick.kp (b__law_pick Z) tk (da_cons (de_var (pv 2)) (da_cons de_int da_nil))) (da_cons (de_sub (de_sub (de_var (pv 4)) de_int) (de_call (ios := [true, false]) (ok__law_pick Z) (hr.mono (by omega)) rfl Z.m__law_pick Z.f__law_pick.kp (b__law_pick Z) tk (da_cons (de_var (pv 2)) (da_cons de_int da_nil)))) (da_cons (de_mod (de_call (ios := [true, false]) (ok__law_pick Z) (hr.mono (by omega)) rfl Z.m__law_pick Z.f__law_pick.kp (b__law_pick Z) tk (da_cons (de_var (pv 2)) (da_cons (de_pow de_int de_int) da_nil))) (de_var (pv 4))) da_nil)))) da_nil))))
  (db_one (ds_if (dt_w (dw_or (dt_not (dt_val (de_call (ios := [false, false, false]) (ok__law_on_right Z) (hr.mono (by omega)) rfl Z.m__law_on_right Z.f__law_on_right.kp (b__law_on_right Z) tk (da_cons (de_var (pv 3)) (da_cons (de_var (pv 4)) (da_cons (de_var (pv 6)) da_nil)))))) (dw_or1 (dt_not (dt_val (de_call (ios := [false, false, false]) (ok__law_steps_right Z) (hr.mono (by omega)) rfl Z.m__law_steps_right Z.f__law_steps_right.kp (b__law_steps_right Z) tk (da_cons (de_var (pv 3)) (da_cons (de_var (pv 4)) (da_cons (de_var (pv 6)) da_nil))))))))) (db_one (ds_ret de_bl)) db_nil))))))))))
  (db_cons (ds_name (i := 7) sc_law.nd (de_sub_ix (de_call0 (ok__law_known Z) (hr.mono (by omega)) rfl Z.m__law_known Z.f__law_known.kp (b__law_known Z) e0__law_known) de_int))
  (db_cons (ds_if (dt_ne hr (de_call (ios := [false, false, false]) (ok_fate Z) (hr.mono (by omega)) rfl Z.m_fate Z.f_fate.kp (b_fate Z) tk (da_cons (de_var (pv 7)) (da_cons (de_pow de_int de_int) (da_cons de_int da_nil)))) (de_tup (da_cons de_str (da_cons (de_div (de_sub (de_pow de_int de_int) de_int) de_int) (da_cons de_int da_nil))))) (db_one (ds_ret de_bl)) db_nil)
  (db_cons (ds_if (dt_ne hr (de_call (ios := [false, false, false]) (ok_fate Z) (hr.mono (by omega)) rfl Z.m_fate Z.f_fate.kp (b_fate Z) tk (da_cons (de_var (pv 7)) (da_cons (de_pow de_int de_int) (da_cons (de_pow de_int de_int) da_nil)))) (de_tup (da_cons de_str (da_cons (de_div (de_sub (de_sub (de_pow de_int de_int) de_int) (de_pow de_int de_int)) de_int) (da_cons (de_div (de_pow de_int de_int) de_int) da_nil))))) (db_one (ds_ret de_bl)) db_nil)
  (db_cons (ds_name (i := 8) sc_law.nd (de_tup (da_cons (de_tup (da_cons de_str (da_cons de_int (da_cons (de_tup (da_cons de_int (da_cons de_int da_nil))) da_nil)))) (da_cons (de_tup (da_cons de_str (da_cons de_int (da_cons (de_tup (da_cons de_int (da_cons de_int da_nil))) da_nil)))) da_nil))))
  (db_cons (ds_if (dt_w (dw_or (dt_not (dt_val (de_call (ios := [false, false, false]) (ok__law_on_right Z) (hr.mono (by omega)) rfl Z.m__law_on_right Z.f__law_on_right.kp (b__law_on_right Z) tk (da_cons (de_var (pv 8)) (da_cons (de_pow de_int de_int) (da_cons de_int da_nil)))))) (dw_or1 (dt_not (dt_val (de_call (ios := [false, false, false]) (ok__law_on_right Z) (hr.mono (by omega)) rfl Z.m__law_on_right Z.f__law_on_right.kp (b__law_on_right Z) tk (da_cons (de_var (pv 8)) (da_cons de_int (da_cons de_int da_nil))))))))) (db_one (ds_ret de_bl)) db_nil)
  (db_one (ds_ret (de_eq hr (de_call (ios := [false, false, false]) (ok_heir Z) (hr.mono (by omega)) rfl Z.m_heir Z.f_heir.kp (b_heir Z) tk (da_cons (de_var (pv 7)) (da_cons (de_pow de_int de_int) (da_cons (de_sub (de_pow de_int de_int) de_int) da_nil)))) (de_sub (de_pow de_int de_int) de_int))))))))))
end
end Wk04
namespace Wk04
open PySem PySem.Spec PyProof.Rows L2 PF
theorem pick_spec {m : Int} {d : D} (h : Dk m d) (hm : m < 4294967296) {n : Int} (hn : 0 < n) (hn2 : n ≤ 10 ^ 40) : ∃ r d', F__law_pick [.ow true d, .fz (.int n)] = .ok false (.int r) [.ow true d', .fz (.int n)] ∧ 0 ≤ r ∧ r < n ∧ Dk (m + 1) d' := by
  obtain ⟨a, b, t, rfl, ha, hb, hb2, ht, htm⟩ := h
  by_cases h1 : 1 < a
  · refine ⟨a % n, .lst [.int (a / n), .int b, .int t], ?_, Int.emod_nonneg _ (by omega), Int.emod_lt_of_pos _ hn, a / n, b, t, rfl, Int.ediv_nonneg ha (by omega), hb, hb2, ht, by omega⟩
    simp only [F__law_pick, g__law_pick, sSeq, sNext, sSet, sRet, sRetN, sIf, sFor, sDrop, sRaise, eLst, eTup, aCons, aNil, eCall, eVar, eC, eOp1, eOp2, eAnd, eOr, eNot, eIf, tCmp', tNot', tAnd', tOr', tVal, tChain', eChain, ofO_some, ofT_some, bind_ok, bind_exc, settle_val, settle_fr, settle_sl, settle_exc, viewL, view_val, view_sl, Option.bind_some, Option.map_some, frzL, frz_val, setO, putO, List.set_cons_zero, List.set_cons_succ, List.getElem?_cons_zero, List.getElem?_cons_succ, List.length_cons, List.length_nil, List.replicate, List.cons_append, List.nil_append, SZ, Nat.reduceAdd, Nat.reduceSub, Nat.reduceLeDiff, if_true, ↓reduceIte, fnOf, finR, List.take_succ_cons, List.take_zero, eFn, callF, frzNon, mkSl, ioOk, ioSl, putR, putB, opOf, gInt, gSub_ev, gAdd_ev, gLt_ev, gLe_ev, gGt_ev, gGe_ev, gB, ix0, ix1, ix2, tx0, tx1, tx2, sStI, PF.stI, isBl, sPar, aConsF, hold, setM, Bool.not_true, Bool.not_false, List.contains_nil, Bool.and_true, decide_true, decide_false, h1, gMod_ev hn, gDiv_ev hn hn2, ixN0 (n := 3) (by decide)]
  · have p1 : (b + 15485867 * (t + 1)).natAbs < 2 ^ 64 := by omega
    have q1 := Int.emod_nonneg ((b + 15485867 * (t + 1)) ^ (5 : Nat)) (show (2147483647 : Int) ≠ 0 by decide)
    have q2 := Int.emod_lt_of_pos ((b + 15485867 * (t + 1)) ^ (5 : Nat)) (show (0 : Int) < 2147483647 by decide)
    have p2 : ((b + 15485867 * (t + 1)) ^ (5 : Nat) % 2147483647 + 7919 * (t + 1)).natAbs < 2 ^ 64 := by omega
    refine ⟨(((b + 15485867 * (t + 1)) ^ (5 : Nat) % 2147483647 + 7919 * (t + 1)) ^ (3 : Nat) % 2147483629 / 32) % n, .lst [.int a, .int b, .int (t + 1)], ?_, Int.emod_nonneg _ (by omega), Int.emod_lt_of_pos _ hn, a, b, t + 1, rfl, ha, hb, hb2, by omega, by omega⟩
    simp only [F__law_pick, g__law_pick, sSeq, sNext, sSet, sRet, sRetN, sIf, sFor, sDrop, sRaise, eLst, eTup, aCons, aNil, eCall, eVar, eC, eOp1, eOp2, eAnd, eOr, eNot, eIf, tCmp', tNot', tAnd', tOr', tVal, tChain', eChain, ofO_some, ofT_some, bind_ok, bind_exc, settle_val, settle_fr, settle_sl, settle_exc, viewL, view_val, view_sl, Option.bind_some, Option.map_some, frzL, frz_val, setO, putO, List.set_cons_zero, List.set_cons_succ, List.getElem?_cons_zero, List.getElem?_cons_succ, List.length_cons, List.length_nil, List.replicate, List.cons_append, List.nil_append, SZ, Nat.reduceAdd, Nat.reduceSub, Nat.reduceLeDiff, if_true, ↓reduceIte, fnOf, finR, List.take_succ_cons, List.take_zero, eFn, callF, frzNon, mkSl, ioOk, ioSl, putR, putB, opOf, gInt, gSub_ev, gAdd_ev, gLt_ev, gLe_ev, gGt_ev, gGe_ev, gB, ix0, ix1, ix2, tx0, tx1, tx2, sStI, PF.stI, isBl, sPar, aConsF, hold, setM, Bool.not_true, Bool.not_false, List.contains_nil, Bool.and_true, decide_true, decide_false, h1, gMod_ev hn, ixN2 (n := 3) (by decide), gMul_ev (i := 15485867) (j := t + 1) (.inl (by decide)), gMul_ev (i := 7919) (j := t + 1) (.inl (by decide)), gPow_ev (j := 5) (by decide) (by decide) p1,
      gPow_ev (j := 3) (by decide) (by decide) p2, gMod_ev (j := 2147483647) (by decide), gMod_ev (j := 2147483629) (by decide), gDiv_ev (j := 32) (by decide) (by decide), show (5 : Int).toNat = 5 from rfl, show (3 : Int).toNat = 3 from rfl]
theorem within_spec {n k : Nat} {d : D} (h : Dat n k d) (lo hi : Int) : F_is_within [.fz d, .fz (.int lo), .fz (.int hi)] = .ok false (.bl (isW d lo hi)) [.fz d, .fz (.int lo), .fz (.int hi)] := by
  cases h with
  | int i =>
    by_cases h1 : lo ≤ i
    · simp only [F_is_within, g_is_within, sSeq, sNext, sSet, sRet, sRetN, sIf, sFor, sDrop, sRaise, eLst, eTup, aCons, aNil, eCall, eVar, eC, eOp1, eOp2, eAnd, eOr, eNot, eIf, tCmp', tNot', tAnd', tOr', tVal, tChain', eChain, ofO_some, ofT_some, bind_ok, bind_exc, settle_val, settle_fr, settle_sl, settle_exc, viewL, view_val, view_sl, Option.bind_some, Option.map_some, frzL, frz_val, setO, putO, List.set_cons_zero, List.set_cons_succ, List.getElem?_cons_zero, List.getElem?_cons_succ, List.length_cons, List.length_nil, List.replicate, List.cons_append, List.nil_append, SZ, Nat.reduceAdd, Nat.reduceSub, Nat.reduceLeDiff, if_true, ↓reduceIte, fnOf, finR, List.take_succ_cons, List.take_zero, eFn, callF, frzNon, mkSl, ioOk, ioSl, putR, putB, opOf, gInt, gSub_ev, gAdd_ev, gLt_ev, gLe_ev, gGt_ev, gGe_ev, gB, ix0, ix1, ix2, tx0, tx1, tx2, sStI, PF.stI, isBl, sPar, aConsF, hold, setM, Bool.not_true, Bool.not_false, List.contains_nil, Bool.and_true, decide_true, decide_false, isi_int_int, isi_int_bool, isi_int_str, isi_int_list, isi_int_tuple, isi_int_tuple_list, isi_bl_int, isi_bl_bool, isi_bl_str, isi_bl_list, isi_bl_tuple, isi_bl_tuple_list, isi_str_int, isi_str_bool, isi_str_str, isi_str_list, isi_str_tuple, isi_str_tuple_list, isi_lst_int, isi_lst_bool, isi_lst_str, isi_lst_list, isi_lst_tuple, isi_lst_tuple_list, isi_tup_int, isi_tup_bool, isi_tup_str, isi_tup_list, isi_tup_tuple, isi_tup_tuple_list, isi_non_int, isi_non_bool, isi_non_str, isi_non_list, isi_non_tuple, isi_non_tuple_list, h1, isW, Bool.true_and]
    · simp only [F_is_within, g_is_within, sSeq, sNext, sSet, sRet, sRetN, sIf, sFor, sDrop, sRaise, eLst, eTup, aCons, aNil, eCall, eVar, eC, eOp1, eOp2, eAnd, eOr, eNot, eIf, tCmp', tNot', tAnd', tOr', tVal, tChain', eChain, ofO_some, ofT_some, bind_ok, bind_exc, settle_val, settle_fr, settle_sl, settle_exc, viewL, view_val, view_sl, Option.bind_some, Option.map_some, frzL, frz_val, setO, putO, List.set_cons_zero, List.set_cons_succ, List.getElem?_cons_zero, List.getElem?_cons_succ, List.length_cons, List.length_nil, List.replicate, List.cons_append, List.nil_append, SZ, Nat.reduceAdd, Nat.reduceSub, Nat.reduceLeDiff, if_true, ↓reduceIte, fnOf, finR, List.take_succ_cons, List.take_zero, eFn, callF, frzNon, mkSl, ioOk, ioSl, putR, putB, opOf, gInt, gSub_ev, gAdd_ev, gLt_ev, gLe_ev, gGt_ev, gGe_ev, gB, ix0, ix1, ix2, tx0, tx1, tx2, sStI, PF.stI, isBl, sPar, aConsF, hold, setM, Bool.not_true, Bool.not_false, List.contains_nil, Bool.and_true, decide_true, decide_false, isi_int_int, isi_int_bool, isi_int_str, isi_int_list, isi_int_tuple, isi_int_tuple_list, isi_bl_int, isi_bl_bool, isi_bl_str, isi_bl_list, isi_bl_tuple, isi_bl_tuple_list, isi_str_int, isi_str_bool, isi_str_str, isi_str_list, isi_str_tuple, isi_str_tuple_list, isi_lst_int, isi_lst_bool, isi_lst_str, isi_lst_list, isi_lst_tuple, isi_lst_tuple_list, isi_tup_int, isi_tup_bool, isi_tup_str, isi_tup_list, isi_tup_tuple, isi_tup_tuple_list, isi_non_int, isi_non_bool, isi_non_str, isi_non_list, isi_non_tuple, isi_non_tuple_list, h1, isW, Bool.false_and]
  | _ => simp only [F_is_within, g_is_within, sSeq, sNext, sSet, sRet, sRetN, sIf, sFor, sDrop, sRaise, eLst, eTup, aCons, aNil, eCall, eVar, eC, eOp1, eOp2, eAnd, eOr, eNot, eIf, tCmp', tNot', tAnd', tOr', tVal, tChain', eChain, ofO_some, ofT_some, bind_ok, bind_exc, settle_val, settle_fr, settle_sl, settle_exc, viewL, view_val, view_sl, Option.bind_some, Option.map_some, frzL, frz_val, setO, putO, List.set_cons_zero, List.set_cons_succ, List.getElem?_cons_zero, List.getElem?_cons_succ, List.length_cons, List.length_nil, List.replicate, List.cons_append, List.nil_append, SZ, Nat.reduceAdd, Nat.reduceSub, Nat.reduceLeDiff, if_true, ↓reduceIte, fnOf, finR, List.take_succ_cons, List.take_zero, eFn, callF, frzNon, mkSl, ioOk, ioSl, putR, putB, opOf, gInt, gSub_ev, gAdd_ev, gLt_ev, gLe_ev, gGt_ev, gGe_ev, gB, ix0, ix1, ix2, tx0, tx1, tx2, sStI, PF.stI, isBl, sPar, aConsF, hold, setM, Bool.not_true, Bool.not_false, List.contains_nil, Bool.and_true, decide_true, decide_false, isi_int_int, isi_int_bool, isi_int_str, isi_int_list, isi_int_tuple, isi_int_tuple_list, isi_bl_int, isi_bl_bool, isi_bl_str, isi_bl_list, isi_bl_tuple, isi_bl_tuple_list, isi_str_int, isi_str_bool, isi_str_str, isi_str_list, isi_str_tuple, isi_str_tuple_list, isi_lst_int, isi_lst_bool, isi_lst_str, isi_lst_list, isi_lst_tuple, isi_lst_tuple_list, isi_tup_int, isi_tup_bool, isi_tup_str, isi_tup_list, isi_tup_tuple, isi_tup_tuple_list, isi_non_int, isi_non_bool, isi_non_str, isi_non_list, isi_non_tuple, isi_non_tuple_list, isW]
theorem has_spec {n k : Nat} {d : D} (h : Dat n k d) (lo hi : Int) : F_has_items [.fz d, .fz (.int lo), .fz (.int hi)] = .ok false (.bl (hasI d lo hi)) [.fz d, .fz (.int lo), .fz (.int hi)] := by
  cases h with
  | @tup k ds hl hs =>
    by_cases h1 : lo ≤ (ds.length : Int)
    · simp only [F_has_items, g_has_items, sSeq, sNext, sSet, sRet, sRetN, sIf, sFor, sDrop, sRaise, eLst, eTup, aCons, aNil, eCall, eVar, eC, eOp1, eOp2, eAnd, eOr, eNot, eIf, tCmp', tNot', tAnd', tOr', tVal, tChain', eChain, ofO_some, ofT_some, bind_ok, bind_exc, settle_val, settle_fr, settle_sl, settle_exc, viewL, view_val, view_sl, Option.bind_some, Option.map_some, frzL, frz_val, setO, putO, List.set_cons_zero, List.set_cons_succ, List.getElem?_cons_zero, List.getElem?_cons_succ, List.length_cons, List.length_nil, List.replicate, List.cons_append, List.nil_append, SZ, Nat.reduceAdd, Nat.reduceSub, Nat.reduceLeDiff, if_true, ↓reduceIte, fnOf, finR, List.take_succ_cons, List.take_zero, eFn, callF, frzNon, mkSl, ioOk, ioSl, putR, putB, opOf, gInt, gSub_ev, gAdd_ev, gLt_ev, gLe_ev, gGt_ev, gGe_ev, gB, ix0, ix1, ix2, tx0, tx1, tx2, sStI, PF.stI, isBl, sPar, aConsF, hold, setM, Bool.not_true, Bool.not_false, List.contains_nil, Bool.and_true, decide_true, decide_false, isi_int_int, isi_int_bool, isi_int_str, isi_int_list, isi_int_tuple, isi_int_tuple_list, isi_bl_int, isi_bl_bool, isi_bl_str, isi_bl_list, isi_bl_tuple, isi_bl_tuple_list, isi_str_int, isi_str_bool, isi_str_str, isi_str_list, isi_str_tuple, isi_str_tuple_list, isi_lst_int, isi_lst_bool, isi_lst_str, isi_lst_list, isi_lst_tuple, isi_lst_tuple_list, isi_tup_int, isi_tup_bool, isi_tup_str, isi_tup_list, isi_tup_tuple, isi_tup_tuple_list, isi_non_int, isi_non_bool, isi_non_str, isi_non_list, isi_non_tuple, isi_non_tuple_list, gLen_tup, h1, hasI, Bool.true_and]
    · simp only [F_has_items, g_has_items, sSeq, sNext, sSet, sRet, sRetN, sIf, sFor, sDrop, sRaise, eLst, eTup, aCons, aNil, eCall, eVar, eC, eOp1, eOp2, eAnd, eOr, eNot, eIf, tCmp', tNot', tAnd', tOr', tVal, tChain', eChain, ofO_some, ofT_some, bind_ok, bind_exc, settle_val, settle_fr, settle_sl, settle_exc, viewL, view_val, view_sl, Option.bind_some, Option.map_some, frzL, frz_val, setO, putO, List.set_cons_zero, List.set_cons_succ, List.getElem?_cons_zero, List.getElem?_cons_succ, List.length_cons, List.length_nil, List.replicate, List.cons_append, List.nil_append, SZ, Nat.reduceAdd, Nat.reduceSub, Nat.reduceLeDiff, if_true, ↓reduceIte, fnOf, finR, List.take_succ_cons, List.take_zero, eFn, callF, frzNon, mkSl, ioOk, ioSl, putR, putB, opOf, gInt, gSub_ev, gAdd_ev, gLt_ev, gLe_ev, gGt_ev, gGe_ev, gB, ix0, ix1, ix2, tx0, tx1, tx2, sStI, PF.stI, isBl, sPar, aConsF, hold, setM, Bool.not_true, Bool.not_false, List.contains_nil, Bool.and_true, decide_true, decide_false, isi_int_int, isi_int_bool, isi_int_str, isi_int_list, isi_int_tuple, isi_int_tuple_list, isi_bl_int, isi_bl_bool, isi_bl_str, isi_bl_list, isi_bl_tuple, isi_bl_tuple_list, isi_str_int, isi_str_bool, isi_str_str, isi_str_list, isi_str_tuple, isi_str_tuple_list, isi_lst_int, isi_lst_bool, isi_lst_str, isi_lst_list, isi_lst_tuple, isi_lst_tuple_list, isi_tup_int, isi_tup_bool, isi_tup_str, isi_tup_list, isi_tup_tuple, isi_tup_tuple_list, isi_non_int, isi_non_bool, isi_non_str, isi_non_list, isi_non_tuple, isi_non_tuple_list, gLen_tup, h1, hasI, Bool.false_and]
  | _ => simp only [F_has_items, g_has_items, sSeq, sNext, sSet, sRet, sRetN, sIf, sFor, sDrop, sRaise, eLst, eTup, aCons, aNil, eCall, eVar, eC, eOp1, eOp2, eAnd, eOr, eNot, eIf, tCmp', tNot', tAnd', tOr', tVal, tChain', eChain, ofO_some, ofT_some, bind_ok, bind_exc, settle_val, settle_fr, settle_sl, settle_exc, viewL, view_val, view_sl, Option.bind_some, Option.map_some, frzL, frz_val, setO, putO, List.set_cons_zero, List.set_cons_succ, List.getElem?_cons_zero, List.getElem?_cons_succ, List.length_cons, List.length_nil, List.replicate, List.cons_append, List.nil_append, SZ, Nat.reduceAdd, Nat.reduceSub, Nat.reduceLeDiff, if_true, ↓reduceIte, fnOf, finR, List.take_succ_cons, List.take_zero, eFn, callF, frzNon, mkSl, ioOk, ioSl, putR, putB, opOf, gInt, gSub_ev, gAdd_ev, gLt_ev, gLe_ev, gGt_ev, gGe_ev, gB, ix0, ix1, ix2, tx0, tx1, tx2, sStI, PF.stI, isBl, sPar, aConsF, hold, setM, Bool.not_true, Bool.not_false, List.contains_nil, Bool.and_true, decide_true, decide_false, isi_int_int, isi_int_bool, isi_int_str, isi_int_list, isi_int_tuple, isi_int_tuple_list, isi_bl_int, isi_bl_bool, isi_bl_str, isi_bl_list, isi_bl_tuple, isi_bl_tuple_list, isi_str_int, isi_str_bool, isi_str_str, isi_str_list, isi_str_tuple, isi_str_tuple_list, isi_lst_int, isi_lst_bool, isi_lst_str, isi_lst_list, isi_lst_tuple, isi_lst_tuple_list, isi_tup_int, isi_tup_bool, isi_tup_str, isi_tup_list, isi_tup_tuple, isi_tup_tuple_list, isi_non_int, isi_non_bool, isi_non_str, isi_non_list, isi_non_tuple, isi_non_tuple_list, hasI]
theorem notin_ends {s : Str} (h : SeqAt.shaped (.str s) = true) : gNotIn (.str s) k_ENDS = some (.val (.bl (!isEnd s))) := by
  have e : gNotIn (.str s) k_ENDS = if SeqAt.shaped (.str s) && SeqAt.shaped (.tuple [.str "far", .str "near"]) then some (.val (.bl (!([PyData.str "far", .str "near"].any fun z => PyData.eqv z (.str s))))) else none := by
    simp only [gNotIn, gInB, k_ENDS, toPy, toPys]
  rw [e, h, ends_ok]
  simp only [Bool.and_true, if_true, List.any_cons, List.any_nil, Bool.or_false, PyData.eqv, isEnd]
theorem numbering_spec {n k : Nat} {d : D} (h : Dat n k d) (hn : n ≤ 1000) : F_is_numbering_value [.fz d] = .ok false (.bl (numVal d)) [.fz d] := by
  have hs := has_spec h 3 3
  cases h with
  | @tup k ds hl hd =>
    by_cases h3 : (ds.length : Int) = 3
    · obtain ⟨a, b, c, rfl⟩ := len3 h3
      have e3 : hasI (.tup [a, b, c]) 3 3 = true := rfl
      rw [e3] at hs
      have da := hd a (by simp)
      have db := hd b (by simp)
      have dc := hd c (by simp)
      cases da with
      | str x hx =>
        cases hE : isEnd x with
        | false =>
          simp only [F_is_numbering_value, g_is_numbering_value, sSeq, sNext, sSet, sRet, sRetN, sIf, sFor, sDrop, sRaise, eLst, eTup, aCons, aNil, eCall, eVar, eC, eOp1, eOp2, eAnd, eOr, eNot, eIf, tCmp', tNot', tAnd', tOr', tVal, tChain', eChain, ofO_some, ofT_some, bind_ok, bind_exc, settle_val, settle_fr, settle_sl, settle_exc, viewL, view_val, view_sl, Option.bind_some, Option.map_some, frzL, frz_val, setO, putO, List.set_cons_zero, List.set_cons_succ, List.getElem?_cons_zero, List.getElem?_cons_succ, List.length_cons, List.length_nil, List.replicate, List.cons_append, List.nil_append, SZ, Nat.reduceAdd, Nat.reduceSub, Nat.reduceLeDiff, if_true, ↓reduceIte, fnOf, finR, List.take_succ_cons, List.take_zero, eFn, callF, frzNon, mkSl, ioOk, ioSl, putR, putB, opOf, gInt, gSub_ev, gAdd_ev, gLt_ev, gLe_ev, gGt_ev, gGe_ev, gB, ix0, ix1, ix2, tx0, tx1, tx2, sStI, PF.stI, isBl, sPar, aConsF, hold, setM, Bool.not_true, Bool.not_false, List.contains_nil, Bool.and_true, decide_true, decide_false, isi_int_int, isi_int_bool, isi_int_str, isi_int_list, isi_int_tuple, isi_int_tuple_list, isi_bl_int, isi_bl_bool, isi_bl_str, isi_bl_list, isi_bl_tuple, isi_bl_tuple_list, isi_str_int, isi_str_bool, isi_str_str, isi_str_list, isi_str_tuple, isi_str_tuple_list, isi_lst_int, isi_lst_bool, isi_lst_str, isi_lst_list, isi_lst_tuple, isi_lst_tuple_list, isi_tup_int, isi_tup_bool, isi_tup_str, isi_tup_list, isi_tup_tuple, isi_tup_tuple_list, isi_non_int, isi_non_bool, isi_non_str, isi_non_list, isi_non_tuple, isi_non_tuple_list, hs, truth, notin_ends hx, hE]
          cases c <;> simp only [numVal, hE, Bool.false_and]
        | true =>
          have w := within_spec db 1 12
          have hc := has_spec dc 1 3
          cases hw : isW b 1 12 with
          | false =>
            rw [hw] at w
            simp only [F_is_numbering_value, g_is_numbering_value, sSeq, sNext, sSet, sRet, sRetN, sIf, sFor, sDrop, sRaise, eLst, eTup, aCons, aNil, eCall, eVar, eC, eOp1, eOp2, eAnd, eOr, eNot, eIf, tCmp', tNot', tAnd', tOr', tVal, tChain', eChain, ofO_some, ofT_some, bind_ok, bind_exc, settle_val, settle_fr, settle_sl, settle_exc, viewL, view_val, view_sl, Option.bind_some, Option.map_some, frzL, frz_val, setO, putO, List.set_cons_zero, List.set_cons_succ, List.getElem?_cons_zero, List.getElem?_cons_succ, List.length_cons, List.length_nil, List.replicate, List.cons_append, List.nil_append, SZ, Nat.reduceAdd, Nat.reduceSub, Nat.reduceLeDiff, if_true, ↓reduceIte, fnOf, finR, List.take_succ_cons, List.take_zero, eFn, callF, frzNon, mkSl, ioOk, ioSl, putR, putB, opOf, gInt, gSub_ev, gAdd_ev, gLt_ev, gLe_ev, gGt_ev, gGe_ev, gB, ix0, ix1, ix2, tx0, tx1, tx2, sStI, PF.stI, isBl, sPar, aConsF, hold, setM, Bool.not_true, Bool.not_false, List.contains_nil, Bool.and_true, decide_true, decide_false, isi_int_int, isi_int_bool, isi_int_str, isi_int_list, isi_int_tuple, isi_int_tuple_list, isi_bl_int, isi_bl_bool, isi_bl_str, isi_bl_list, isi_bl_tuple, isi_bl_tuple_list, isi_str_int, isi_str_bool, isi_str_str, isi_str_list, isi_str_tuple, isi_str_tuple_list, isi_lst_int, isi_lst_bool, isi_lst_str, isi_lst_list, isi_lst_tuple, isi_lst_tuple_list, isi_tup_int, isi_tup_bool, isi_tup_str, isi_tup_list, isi_tup_tuple, isi_tup_tuple_list, isi_non_int, isi_non_bool, isi_non_str, isi_non_list, isi_non_tuple, isi_non_tuple_list, hs, truth, notin_ends hx, hE, w]
            cases c <;> simp only [numVal, hE, hw, Bool.false_and, Bool.and_false]
          | true =>
            rw [hw] at w
            cases hh : hasI c 1 3 with
            | false =>
              rw [hh] at hc
              simp only [F_is_numbering_value, g_is_numbering_value, sSeq, sNext, sSet, sRet, sRetN, sIf, sFor, sDrop, sRaise, eLst, eTup, aCons, aNil, eCall, eVar, eC, eOp1, eOp2, eAnd, eOr, eNot, eIf, tCmp', tNot', tAnd', tOr', tVal, tChain', eChain, ofO_some, ofT_some, bind_ok, bind_exc, settle_val, settle_fr, settle_sl, settle_exc, viewL, view_val, view_sl, Option.bind_some, Option.map_some, frzL, frz_val, setO, putO, List.set_cons_zero, List.set_cons_succ, List.getElem?_cons_zero, List.getElem?_cons_succ, List.length_cons, List.length_nil, List.replicate, List.cons_append, List.nil_append, SZ, Nat.reduceAdd, Nat.reduceSub, Nat.reduceLeDiff, if_true, ↓reduceIte, fnOf, finR, List.take_succ_cons, List.take_zero, eFn, callF, frzNon, mkSl, ioOk, ioSl, putR, putB, opOf, gInt, gSub_ev, gAdd_ev, gLt_ev, gLe_ev, gGt_ev, gGe_ev, gB, ix0, ix1, ix2, tx0, tx1, tx2, sStI, PF.stI, isBl, sPar, aConsF, hold, setM, Bool.not_true, Bool.not_false, List.contains_nil, Bool.and_true, decide_true, decide_false, isi_int_int, isi_int_bool, isi_int_str, isi_int_list, isi_int_tuple, isi_int_tuple_list, isi_bl_int, isi_bl_bool, isi_bl_str, isi_bl_list, isi_bl_tuple, isi_bl_tuple_list, isi_str_int, isi_str_bool, isi_str_str, isi_str_list, isi_str_tuple, isi_str_tuple_list, isi_lst_int, isi_lst_bool, isi_lst_str, isi_lst_list, isi_lst_tuple, isi_lst_tuple_list, isi_tup_int, isi_tup_bool, isi_tup_str, isi_tup_list, isi_tup_tuple, isi_tup_tuple_list, isi_non_int, isi_non_bool, isi_non_str, isi_non_list, isi_non_tuple, isi_non_tuple_list, hs, truth, notin_ends hx, hE, w, hc]
              cases c <;> simp only [numVal, hE, hw, hh, Bool.false_and, Bool.and_false]
            | true =>
              rw [hh] at hc
              obtain ⟨tb, rfl, l1, l2⟩ := hasI_tup hh
              obtain ⟨st, rfl, s1, s2⟩ := isW_int hw
              have dtb : ∃ k', ∀ x ∈ tb, Dat n k' x := by
                cases dc with
                | tup _ h => exact ⟨_, h⟩
              obtain ⟨k', dtb⟩ := dtb
              have c1 := eComp_map (v := 1) (fi := iSeq (eOp2 gIx (eVar 0) (eC (.int 2)))) (te := eFn F_is_within [false, false, false] (aCons (eVar 1) (aCons (eC (.int 1)) (aCons (eC (.int 12)) aNil)))) (f := fun x => .bl (isW x 1 12)) (en := [.fz (.tup [.str x, .int st, .tup tb]), .un]) (ds := tb)
                (iSeq_tup (by simp only [sSeq, sNext, sSet, sRet, sRetN, sIf, sFor, sDrop, sRaise, eLst, eTup, aCons, aNil, eCall, eVar, eC, eOp1, eOp2, eAnd, eOr, eNot, eIf, tCmp', tNot', tAnd', tOr', tVal, tChain', eChain, ofO_some, ofT_some, bind_ok, bind_exc, settle_val, settle_fr, settle_sl, settle_exc, viewL, view_val, view_sl, Option.bind_some, Option.map_some, frzL, frz_val, setO, putO, List.set_cons_zero, List.set_cons_succ, List.getElem?_cons_zero, List.getElem?_cons_succ, List.length_cons, List.length_nil, List.replicate, List.cons_append, List.nil_append, SZ, Nat.reduceAdd, Nat.reduceSub, Nat.reduceLeDiff, if_true, ↓reduceIte, fnOf, finR, List.take_succ_cons, List.take_zero, eFn, callF, frzNon, mkSl, ioOk, ioSl, putR, putB, opOf, gInt, gSub_ev, gAdd_ev, gLt_ev, gLe_ev, gGt_ev, gGe_ev, gB, ix0, ix1, ix2, tx0, tx1, tx2, sStI, PF.stI, isBl, sPar, aConsF, hold, setM, Bool.not_true, Bool.not_false, List.contains_nil, Bool.and_true, decide_true, decide_false])) rfl (fun d hd => by simp only [sSeq, sNext, sSet, sRet, sRetN, sIf, sFor, sDrop, sRaise, eLst, eTup, aCons, aNil, eCall, eVar, eC, eOp1, eOp2, eAnd, eOr, eNot, eIf, tCmp', tNot', tAnd', tOr', tVal, tChain', eChain, ofO_some, ofT_some, bind_ok, bind_exc, settle_val, settle_fr, settle_sl, settle_exc, viewL, view_val, view_sl, Option.bind_some, Option.map_some, frzL, frz_val, setO, putO, List.set_cons_zero, List.set_cons_succ, List.getElem?_cons_zero, List.getElem?_cons_succ, List.length_cons, List.length_nil, List.replicate, List.cons_append, List.nil_append, SZ, Nat.reduceAdd, Nat.reduceSub, Nat.reduceLeDiff, if_true, ↓reduceIte, fnOf, finR, List.take_succ_cons, List.take_zero, eFn, callF, frzNon, mkSl, ioOk, ioSl, putR, putB, opOf, gInt, gSub_ev, gAdd_ev, gLt_ev, gLe_ev, gGt_ev, gGe_ev, gB, ix0, ix1, ix2, tx0, tx1, tx2, sStI, PF.stI, isBl, sPar, aConsF, hold, setM, Bool.not_true, Bool.not_false, List.contains_nil, Bool.and_true, decide_true, decide_false, within_spec (dtb d hd)])
              cases ha : tb.all (fun x => isW x 1 12) with
              | false =>
                simp only [F_is_numbering_value, g_is_numbering_value, sSeq, sNext, sSet, sRet, sRetN, sIf, sFor, sDrop, sRaise, eLst, eTup, aCons, aNil, eCall, eVar, eC, eOp1, eOp2, eAnd, eOr, eNot, eIf, tCmp', tNot', tAnd', tOr', tVal, tChain', eChain, ofO_some, ofT_some, bind_ok, bind_exc, settle_val, settle_fr, settle_sl, settle_exc, viewL, view_val, view_sl, Option.bind_some, Option.map_some, frzL, frz_val, setO, putO, List.set_cons_zero, List.set_cons_succ, List.getElem?_cons_zero, List.getElem?_cons_succ, List.length_cons, List.length_nil, List.replicate, List.cons_append, List.nil_append, SZ, Nat.reduceAdd, Nat.reduceSub, Nat.reduceLeDiff, if_true, ↓reduceIte, fnOf, finR, List.take_succ_cons, List.take_zero, eFn, callF, frzNon, mkSl, ioOk, ioSl, putR, putB, opOf, gInt, gSub_ev, gAdd_ev, gLt_ev, gLe_ev, gGt_ev, gGe_ev, gB, ix0, ix1, ix2, tx0, tx1, tx2, sStI, PF.stI, isBl, sPar, aConsF, hold, setM, Bool.not_true, Bool.not_false, List.contains_nil, Bool.and_true, decide_true, decide_false, isi_int_int, isi_int_bool, isi_int_str, isi_int_list, isi_int_tuple, isi_int_tuple_list, isi_bl_int, isi_bl_bool, isi_bl_str, isi_bl_list, isi_bl_tuple, isi_bl_tuple_list, isi_str_int, isi_str_bool, isi_str_str, isi_str_list, isi_str_tuple, isi_str_tuple_list, isi_lst_int, isi_lst_bool, isi_lst_str, isi_lst_list, isi_lst_tuple, isi_lst_tuple_list, isi_tup_int, isi_tup_bool, isi_tup_str, isi_tup_list, isi_tup_tuple, isi_tup_tuple_list, isi_non_int, isi_non_bool, isi_non_str, isi_non_list, isi_non_tuple, isi_non_tuple_list, hs, truth, notin_ends hx, hE, w, hc, c1, gAll_map, ha]
                simp only [numVal, hE, hw, hh, tabOk, ha, Bool.false_and, Bool.and_false]
              | true =>
                have c2 := eComp_map (v := 1) (fi := iSeq (eOp2 gIx (eVar 0) (eC (.int 2)))) (te := eOp2 gMod (eVar 1) (eOp2 gIx (eVar 0) (eC (.int 1)))) (f := fun x => .int (iOf x % st)) (en := [.fz (.tup [.str x, .int st, .tup tb]), .un]) (ds := tb)
                  (iSeq_tup (by simp only [sSeq, sNext, sSet, sRet, sRetN, sIf, sFor, sDrop, sRaise, eLst, eTup, aCons, aNil, eCall, eVar, eC, eOp1, eOp2, eAnd, eOr, eNot, eIf, tCmp', tNot', tAnd', tOr', tVal, tChain', eChain, ofO_some, ofT_some, bind_ok, bind_exc, settle_val, settle_fr, settle_sl, settle_exc, viewL, view_val, view_sl, Option.bind_some, Option.map_some, frzL, frz_val, setO, putO, List.set_cons_zero, List.set_cons_succ, List.getElem?_cons_zero, List.getElem?_cons_succ, List.length_cons, List.length_nil, List.replicate, List.cons_append, List.nil_append, SZ, Nat.reduceAdd, Nat.reduceSub, Nat.reduceLeDiff, if_true, ↓reduceIte, fnOf, finR, List.take_succ_cons, List.take_zero, eFn, callF, frzNon, mkSl, ioOk, ioSl, putR, putB, opOf, gInt, gSub_ev, gAdd_ev, gLt_ev, gLe_ev, gGt_ev, gGe_ev, gB, ix0, ix1, ix2, tx0, tx1, tx2, sStI, PF.stI, isBl, sPar, aConsF, hold, setM, Bool.not_true, Bool.not_false, List.contains_nil, Bool.and_true, decide_true, decide_false])) rfl (fun d hd => by
                    obtain ⟨i, rfl, _⟩ := isW_int (List.all_eq_true.mp ha d hd)
                    simp only [sSeq, sNext, sSet, sRet, sRetN, sIf, sFor, sDrop, sRaise, eLst, eTup, aCons, aNil, eCall, eVar, eC, eOp1, eOp2, eAnd, eOr, eNot, eIf, tCmp', tNot', tAnd', tOr', tVal, tChain', eChain, ofO_some, ofT_some, bind_ok, bind_exc, settle_val, settle_fr, settle_sl, settle_exc, viewL, view_val, view_sl, Option.bind_some, Option.map_some, frzL, frz_val, setO, putO, List.set_cons_zero, List.set_cons_succ, List.getElem?_cons_zero, List.getElem?_cons_succ, List.length_cons, List.length_nil, List.replicate, List.cons_append, List.nil_append, SZ, Nat.reduceAdd, Nat.reduceSub, Nat.reduceLeDiff, if_true, ↓reduceIte, fnOf, finR, List.take_succ_cons, List.take_zero, eFn, callF, frzNon, mkSl, ioOk, ioSl, putR, putB, opOf, gInt, gSub_ev, gAdd_ev, gLt_ev, gLe_ev, gGt_ev, gGe_ev, gB, ix0, ix1, ix2, tx0, tx1, tx2, sStI, PF.stI, isBl, sPar, aConsF, hold, setM, Bool.not_true, Bool.not_false, List.contains_nil, Bool.and_true, decide_true, decide_false, gMod_ev (show (0 : Int) < st by omega), iOf])
                have e : ((dedupI (tb.map fun x => iOf x % st)).length = tb.length) = (((dedupI (tb.map fun x => iOf x % st)).length : Int) = (tb.length : Int)) := propext (by omega)
                simp only [F_is_numbering_value, g_is_numbering_value, sSeq, sNext, sSet, sRet, sRetN, sIf, sFor, sDrop, sRaise, eLst, eTup, aCons, aNil, eCall, eVar, eC, eOp1, eOp2, eAnd, eOr, eNot, eIf, tCmp', tNot', tAnd', tOr', tVal, tChain', eChain, ofO_some, ofT_some, bind_ok, bind_exc, settle_val, settle_fr, settle_sl, settle_exc, viewL, view_val, view_sl, Option.bind_some, Option.map_some, frzL, frz_val, setO, putO, List.set_cons_zero, List.set_cons_succ, List.getElem?_cons_zero, List.getElem?_cons_succ, List.length_cons, List.length_nil, List.replicate, List.cons_append, List.nil_append, SZ, Nat.reduceAdd, Nat.reduceSub, Nat.reduceLeDiff, if_true, ↓reduceIte, fnOf, finR, List.take_succ_cons, List.take_zero, eFn, callF, frzNon, mkSl, ioOk, ioSl, putR, putB, opOf, gInt, gSub_ev, gAdd_ev, gLt_ev, gLe_ev, gGt_ev, gGe_ev, gB, ix0, ix1, ix2, tx0, tx1, tx2, sStI, PF.stI, isBl, sPar, aConsF, hold, setM, Bool.not_true, Bool.not_false, List.contains_nil, Bool.and_true, decide_true, decide_false, isi_int_int, isi_int_bool, isi_int_str, isi_int_list, isi_int_tuple, isi_int_tuple_list, isi_bl_int, isi_bl_bool, isi_bl_str, isi_bl_list, isi_bl_tuple, isi_bl_tuple_list, isi_str_int, isi_str_bool, isi_str_str, isi_str_list, isi_str_tuple, isi_str_tuple_list, isi_lst_int, isi_lst_bool, isi_lst_str, isi_lst_list, isi_lst_tuple, isi_lst_tuple_list, isi_tup_int, isi_tup_bool, isi_tup_str, isi_tup_list, isi_tup_tuple, isi_tup_tuple_list, isi_non_int, isi_non_bool, isi_non_str, isi_non_list, isi_non_tuple, isi_non_tuple_list, hs, truth, notin_ends hx, hE, w, hc, c1, gAll_map, ha, c2, gLenSet_map (show tb.length ≤ 4000 by omega), gLen_tup, gEq_int]
                simp only [numVal, hE, hw, hh, tabOk, ha, Bool.true_and, iOf, Int.natCast_inj]
                congr
      | _ =>
        simp only [F_is_numbering_value, g_is_numbering_value, sSeq, sNext, sSet, sRet, sRetN, sIf, sFor, sDrop, sRaise, eLst, eTup, aCons, aNil, eCall, eVar, eC, eOp1, eOp2, eAnd, eOr, eNot, eIf, tCmp', tNot', tAnd', tOr', tVal, tChain', eChain, ofO_some, ofT_some, bind_ok, bind_exc, settle_val, settle_fr, settle_sl, settle_exc, viewL, view_val, view_sl, Option.bind_some, Option.map_some, frzL, frz_val, setO, putO, List.set_cons_zero, List.set_cons_succ, List.getElem?_cons_zero, List.getElem?_cons_succ, List.length_cons, List.length_nil, List.replicate, List.cons_append, List.nil_append, SZ, Nat.reduceAdd, Nat.reduceSub, Nat.reduceLeDiff, if_true, ↓reduceIte, fnOf, finR, List.take_succ_cons, List.take_zero, eFn, callF, frzNon, mkSl, ioOk, ioSl, putR, putB, opOf, gInt, gSub_ev, gAdd_ev, gLt_ev, gLe_ev, gGt_ev, gGe_ev, gB, ix0, ix1, ix2, tx0, tx1, tx2, sStI, PF.stI, isBl, sPar, aConsF, hold, setM, Bool.not_true, Bool.not_false, List.contains_nil, Bool.and_true, decide_true, decide_false, isi_int_int, isi_int_bool, isi_int_str, isi_int_list, isi_int_tuple, isi_int_tuple_list, isi_bl_int, isi_bl_bool, isi_bl_str, isi_bl_list, isi_bl_tuple, isi_bl_tuple_list, isi_str_int, isi_str_bool, isi_str_str, isi_str_list, isi_str_tuple, isi_str_tuple_list, isi_lst_int, isi_lst_bool, isi_lst_str, isi_lst_list, isi_lst_tuple, isi_lst_tuple_list, isi_tup_int, isi_tup_bool, isi_tup_str, isi_tup_list, isi_tup_tuple, isi_tup_tuple_list, isi_non_int, isi_non_bool, isi_non_str, isi_non_list, isi_non_tuple, isi_non_tuple_list, hs, truth]
        cases c <;> rfl
    · have e3 : hasI (.tup ds) 3 3 = false := by
        show (decide (3 ≤ (ds.length : Int)) && decide ((ds.length : Int) ≤ 3)) = false
        rw [Bool.and_eq_false_iff]
        by_cases h : 3 ≤ (ds.length : Int)
        · exact .inr (decide_eq_false (by omega))
        · exact .inl (decide_eq_false h)
      rw [e3] at hs
      simp only [F_is_numbering_value, g_is_numbering_value, sSeq, sNext, sSet, sRet, sRetN, sIf, sFor, sDrop, sRaise, eLst, eTup, aCons, aNil, eCall, eVar, eC, eOp1, eOp2, eAnd, eOr, eNot, eIf, tCmp', tNot', tAnd', tOr', tVal, tChain', eChain, ofO_some, ofT_some, bind_ok, bind_exc, settle_val, settle_fr, settle_sl, settle_exc, viewL, view_val, view_sl, Option.bind_some, Option.map_some, frzL, frz_val, setO, putO, List.set_cons_zero, List.set_cons_succ, List.getElem?_cons_zero, List.getElem?_cons_succ, List.length_cons, List.length_nil, List.replicate, List.cons_append, List.nil_append, SZ, Nat.reduceAdd, Nat.reduceSub, Nat.reduceLeDiff, if_true, ↓reduceIte, fnOf, finR, List.take_succ_cons, List.take_zero, eFn, callF, frzNon, mkSl, ioOk, ioSl, putR, putB, opOf, gInt, gSub_ev, gAdd_ev, gLt_ev, gLe_ev, gGt_ev, gGe_ev, gB, ix0, ix1, ix2, tx0, tx1, tx2, sStI, PF.stI, isBl, sPar, aConsF, hold, setM, Bool.not_true, Bool.not_false, List.contains_nil, Bool.and_true, decide_true, decide_false, isi_int_int, isi_int_bool, isi_int_str, isi_int_list, isi_int_tuple, isi_int_tuple_list, isi_bl_int, isi_bl_bool, isi_bl_str, isi_bl_list, isi_bl_tuple, isi_bl_tuple_list, isi_str_int, isi_str_bool, isi_str_str, isi_str_list, isi_str_tuple, isi_str_tuple_list, isi_lst_int, isi_lst_bool, isi_lst_str, isi_lst_list, isi_lst_tuple, isi_lst_tuple_list, isi_tup_int, isi_tup_bool, isi_tup_str, isi_tup_list, isi_tup_tuple, isi_tup_tuple_list, isi_non_int, isi_non_bool, isi_non_str, isi_non_list, isi_non_tuple, isi_non_tuple_list, hs, truth, numVal_non h3]
  | _ =>
    simp only [F_is_numbering_value, g_is_numbering_value, sSeq, sNext, sSet, sRet, sRetN, sIf, sFor, sDrop, sRaise, eLst, eTup, aCons, aNil, eCall, eVar, eC, eOp1, eOp2, eAnd, eOr, eNot, eIf, tCmp', tNot', tAnd', tOr', tVal, tChain', eChain, ofO_some, ofT_some, bind_ok, bind_exc, settle_val, settle_fr, settle_sl, settle_exc, viewL, view_val, view_sl, Option.bind_some, Option.map_some, frzL, frz_val, setO, putO, List.set_cons_zero, List.set_cons_succ, List.getElem?_cons_zero, List.getElem?_cons_succ, List.length_cons, List.length_nil, List.replicate, List.cons_append, List.nil_append, SZ, Nat.reduceAdd, Nat.reduceSub, Nat.reduceLeDiff, if_true, ↓reduceIte, fnOf, finR, List.take_succ_cons, List.take_zero, eFn, callF, frzNon, mkSl, ioOk, ioSl, putR, putB, opOf, gInt, gSub_ev, gAdd_ev, gLt_ev, gLe_ev, gGt_ev, gGe_ev, gB, ix0, ix1, ix2, tx0, tx1, tx2, sStI, PF.stI, isBl, sPar, aConsF, hold, setM, Bool.not_true, Bool.not_false, List.contains_nil, Bool.and_true, decide_true, decide_false, isi_int_int, isi_int_bool, isi_int_str, isi_int_list, isi_int_tuple, isi_int_tuple_list, isi_bl_int, isi_bl_bool, isi_bl_str, isi_bl_list, isi_bl_tuple, isi_bl_tuple_list, isi_str_int, isi_str_bool, isi_str_str, isi_str_list, isi_str_tuple, isi_str_tuple_list, isi_lst_int, isi_lst_bool, isi_lst_str, isi_lst_list, isi_lst_tuple, isi_lst_tuple_list, isi_tup_int, isi_tup_bool, isi_tup_str, isi_tup_list, isi_tup_tuple, isi_tup_tuple_list, isi_non_int, isi_non_bool, isi_non_str, isi_non_list, isi_non_tuple, isi_non_tuple_list, hs, truth, hasI]
    rfl
theorem plan_spec {n k : Nat} {d : D} (h : Dat n k d) (hn : n ≤ 1000) : F_is_plan_value [.fz d] = .ok false (.bl (planVal d)) [.fz d] := by
  have hs := has_spec h 2 2
  cases h with
  | @tup k ds hl hd =>
    rw [has_eq] at hs
    by_cases h2 : (ds.length : Int) = 2
    · obtain ⟨a, b, rfl⟩ := len2 h2
      have na := numbering_spec (hd a (by simp)) hn
      have nb := numbering_spec (hd b (by simp)) hn
      have c1 := eComp_map (v := 7) (fi := iSeq (eVar 0)) (te := eFn F_is_numbering_value [false] (aCons (eVar 7) aNil)) (f := fun x => .bl (numVal x)) (en := [.fz (.tup [a, b]), .un, .un, .un, .un, .un, .un, .un]) (ds := [a, b])
        (iSeq_tup (by simp only [sSeq, sNext, sSet, sRet, sRetN, sIf, sFor, sDrop, sRaise, eLst, eTup, aCons, aNil, eCall, eVar, eC, eOp1, eOp2, eAnd, eOr, eNot, eIf, tCmp', tNot', tAnd', tOr', tVal, tChain', eChain, ofO_some, ofT_some, bind_ok, bind_exc, settle_val, settle_fr, settle_sl, settle_exc, viewL, view_val, view_sl, Option.bind_some, Option.map_some, frzL, frz_val, setO, putO, List.set_cons_zero, List.set_cons_succ, List.getElem?_cons_zero, List.getElem?_cons_succ, List.length_cons, List.length_nil, List.replicate, List.cons_append, List.nil_append, SZ, Nat.reduceAdd, Nat.reduceSub, Nat.reduceLeDiff, if_true, ↓reduceIte, fnOf, finR, List.take_succ_cons, List.take_zero, eFn, callF, frzNon, mkSl, ioOk, ioSl, putR, putB, opOf, gInt, gSub_ev, gAdd_ev, gLt_ev, gLe_ev, gGt_ev, gGe_ev, gB, ix0, ix1, ix2, tx0, tx1, tx2, sStI, PF.stI, isBl, sPar, aConsF, hold, setM, Bool.not_true, Bool.not_false, List.contains_nil, Bool.and_true, decide_true, decide_false])) rfl (fun d h => by simp only [sSeq, sNext, sSet, sRet, sRetN, sIf, sFor, sDrop, sRaise, eLst, eTup, aCons, aNil, eCall, eVar, eC, eOp1, eOp2, eAnd, eOr, eNot, eIf, tCmp', tNot', tAnd', tOr', tVal, tChain', eChain, ofO_some, ofT_some, bind_ok, bind_exc, settle_val, settle_fr, settle_sl, settle_exc, viewL, view_val, view_sl, Option.bind_some, Option.map_some, frzL, frz_val, setO, putO, List.set_cons_zero, List.set_cons_succ, List.getElem?_cons_zero, List.getElem?_cons_succ, List.length_cons, List.length_nil, List.replicate, List.cons_append, List.nil_append, SZ, Nat.reduceAdd, Nat.reduceSub, Nat.reduceLeDiff, if_true, ↓reduceIte, fnOf, finR, List.take_succ_cons, List.take_zero, eFn, callF, frzNon, mkSl, ioOk, ioSl, putR, putB, opOf, gInt, gSub_ev, gAdd_ev, gLt_ev, gLe_ev, gGt_ev, gGe_ev, gB, ix0, ix1, ix2, tx0, tx1, tx2, sStI, PF.stI, isBl, sPar, aConsF, hold, setM, Bool.not_true, Bool.not_false, List.contains_nil, Bool.and_true, decide_true, decide_false, numbering_spec (hd d h) hn])
      have e1 : gAll [.lst ([a, b].map fun d => .bl (numVal d))] = some (.val (.bl (numVal a && numVal b))) := by
        rw [gAll_map]
        simp only [List.all_cons, List.all_nil, Bool.and_true]
      cases ha : numVal a && numVal b with
      | false =>
        rw [ha] at e1
        have e2 : planVal (.tup [a, b]) = false := by
          simp only [planVal]
          rw [← Bool.and_assoc, ha, Bool.false_and]
        rw [e2]
        simp only [F_is_plan_value, g_is_plan_value, sSeq, sNext, sSet, sRet, sRetN, sIf, sFor, sDrop, sRaise, eLst, eTup, aCons, aNil, eCall, eVar, eC, eOp1, eOp2, eAnd, eOr, eNot, eIf, tCmp', tNot', tAnd', tOr', tVal, tChain', eChain, ofO_some, ofT_some, bind_ok, bind_exc, settle_val, settle_fr, settle_sl, settle_exc, viewL, view_val, view_sl, Option.bind_some, Option.map_some, frzL, frz_val, setO, putO, List.set_cons_zero, List.set_cons_succ, List.getElem?_cons_zero, List.getElem?_cons_succ, List.length_cons, List.length_nil, List.replicate, List.cons_append, List.nil_append, SZ, Nat.reduceAdd, Nat.reduceSub, Nat.reduceLeDiff, if_true, ↓reduceIte, fnOf, finR, List.take_succ_cons, List.take_zero, eFn, callF, frzNon, mkSl, ioOk, ioSl, putR, putB, opOf, gInt, gSub_ev, gAdd_ev, gLt_ev, gLe_ev, gGt_ev, gGe_ev, gB, ix0, ix1, ix2, tx0, tx1, tx2, sStI, PF.stI, isBl, sPar, aConsF, hold, setM, Bool.not_true, Bool.not_false, List.contains_nil, Bool.and_true, decide_true, decide_false, isi_int_int, isi_int_bool, isi_int_str, isi_int_list, isi_int_tuple, isi_int_tuple_list, isi_bl_int, isi_bl_bool, isi_bl_str, isi_bl_list, isi_bl_tuple, isi_bl_tuple_list, isi_str_int, isi_str_bool, isi_str_str, isi_str_list, isi_str_tuple, isi_str_tuple_list, isi_lst_int, isi_lst_bool, isi_lst_str, isi_lst_list, isi_lst_tuple, isi_lst_tuple_list, isi_tup_int, isi_tup_bool, isi_tup_str, isi_tup_list, isi_tup_tuple, isi_tup_tuple_list, isi_non_int, isi_non_bool, isi_non_str, isi_non_list, isi_non_tuple, isi_non_tuple_list, hs, truth, cast2, h2, c1, e1]
      | true =>
        rw [ha] at e1
        obtain ⟨ha1, ha2⟩ := Bool.and_eq_true_iff.mp ha
        obtain ⟨x, s, t, rfl, s1, s2, s3⟩ := numVal_at ha1
        obtain ⟨x', s', t', rfl, s1', s2', s3'⟩ := numVal_at ha2
        have e2 : planVal (.tup [.tup [.str x, .int s, .tup t], .tup [.str x', .int s', .tup t']]) = decide (s * (t'.length : Int) = s' * (t.length : Int)) := by
          simp only [planVal, ha1, ha2, Bool.true_and]
        rw [e2]
        have u : asgP (.tp [.tp [.nm 1, .nm 2, .nm 3], .tp [.nm 4, .nm 5, .nm 6]]) (.tup [.tup [.str x, .int s, .tup t], .tup [.str x', .int s', .tup t']]) [.fz (.tup [.tup [.str x, .int s, .tup t], .tup [.str x', .int s', .tup t']]), .un, .un, .un, .un, .un, .un, .un] =
            some [.fz (.tup [.tup [.str x, .int s, .tup t], .tup [.str x', .int s', .tup t']]), .fz (.str x), .fz (.int s), .fz (.tup t), .fz (.str x'), .fz (.int s'), .fz (.tup t'), .un] := by kernel_rfl
        simp only [F_is_plan_value, g_is_plan_value, sSeq, sNext, sSet, sRet, sRetN, sIf, sFor, sDrop, sRaise, eLst, eTup, aCons, aNil, eCall, eVar, eC, eOp1, eOp2, eAnd, eOr, eNot, eIf, tCmp', tNot', tAnd', tOr', tVal, tChain', eChain, ofO_some, ofT_some, bind_ok, bind_exc, settle_val, settle_fr, settle_sl, settle_exc, viewL, view_val, view_sl, Option.bind_some, Option.map_some, frzL, frz_val, setO, putO, List.set_cons_zero, List.set_cons_succ, List.getElem?_cons_zero, List.getElem?_cons_succ, List.length_cons, List.length_nil, List.replicate, List.cons_append, List.nil_append, SZ, Nat.reduceAdd, Nat.reduceSub, Nat.reduceLeDiff, if_true, ↓reduceIte, fnOf, finR, List.take_succ_cons, List.take_zero, eFn, callF, frzNon, mkSl, ioOk, ioSl, putR, putB, opOf, gInt, gSub_ev, gAdd_ev, gLt_ev, gLe_ev, gGt_ev, gGe_ev, gB, ix0, ix1, ix2, tx0, tx1, tx2, sStI, PF.stI, isBl, sPar, aConsF, hold, setM, Bool.not_true, Bool.not_false, List.contains_nil, Bool.and_true, decide_true, decide_false, isi_int_int, isi_int_bool, isi_int_str, isi_int_list, isi_int_tuple, isi_int_tuple_list, isi_bl_int, isi_bl_bool, isi_bl_str, isi_bl_list, isi_bl_tuple, isi_bl_tuple_list, isi_str_int, isi_str_bool, isi_str_str, isi_str_list, isi_str_tuple, isi_str_tuple_list, isi_lst_int, isi_lst_bool, isi_lst_str, isi_lst_list, isi_lst_tuple, isi_lst_tuple_list, isi_tup_int, isi_tup_bool, isi_tup_str, isi_tup_list, isi_tup_tuple, isi_tup_tuple_list, isi_non_int, isi_non_bool, isi_non_str, isi_non_list, isi_non_tuple, isi_non_tuple_list, hs, truth, cast2, h2, c1, e1, sPat, u, gLen_tup, gMul_ev (i := s) (j := (t'.length : Int)) (.inl (by omega)), gMul_ev (i := s') (j := (t.length : Int)) (.inl (by omega)), gEq_int]
    · rw [decide_eq_false h2] at hs
      simp only [F_is_plan_value, g_is_plan_value, sSeq, sNext, sSet, sRet, sRetN, sIf, sFor, sDrop, sRaise, eLst, eTup, aCons, aNil, eCall, eVar, eC, eOp1, eOp2, eAnd, eOr, eNot, eIf, tCmp', tNot', tAnd', tOr', tVal, tChain', eChain, ofO_some, ofT_some, bind_ok, bind_exc, settle_val, settle_fr, settle_sl, settle_exc, viewL, view_val, view_sl, Option.bind_some, Option.map_some, frzL, frz_val, setO, putO, List.set_cons_zero, List.set_cons_succ, List.getElem?_cons_zero, List.getElem?_cons_succ, List.length_cons, List.length_nil, List.replicate, List.cons_append, List.nil_append, SZ, Nat.reduceAdd, Nat.reduceSub, Nat.reduceLeDiff, if_true, ↓reduceIte, fnOf, finR, List.take_succ_cons, List.take_zero, eFn, callF, frzNon, mkSl, ioOk, ioSl, putR, putB, opOf, gInt, gSub_ev, gAdd_ev, gLt_ev, gLe_ev, gGt_ev, gGe_ev, gB, ix0, ix1, ix2, tx0, tx1, tx2, sStI, PF.stI, isBl, sPar, aConsF, hold, setM, Bool.not_true, Bool.not_false, List.contains_nil, Bool.and_true, decide_true, decide_false, isi_int_int, isi_int_bool, isi_int_str, isi_int_list, isi_int_tuple, isi_int_tuple_list, isi_bl_int, isi_bl_bool, isi_bl_str, isi_bl_list, isi_bl_tuple, isi_bl_tuple_list, isi_str_int, isi_str_bool, isi_str_str, isi_str_list, isi_str_tuple, isi_str_tuple_list, isi_lst_int, isi_lst_bool, isi_lst_str, isi_lst_list, isi_lst_tuple, isi_lst_tuple_list, isi_tup_int, isi_tup_bool, isi_tup_str, isi_tup_list, isi_tup_tuple, isi_tup_tuple_list, isi_non_int, isi_non_bool, isi_non_str, isi_non_list, isi_non_tuple, isi_non_tuple_list, hs, truth, planVal_non h2]
  | _ =>
    simp only [F_is_plan_value, g_is_plan_value, sSeq, sNext, sSet, sRet, sRetN, sIf, sFor, sDrop, sRaise, eLst, eTup, aCons, aNil, eCall, eVar, eC, eOp1, eOp2, eAnd, eOr, eNot, eIf, tCmp', tNot', tAnd', tOr', tVal, tChain', eChain, ofO_some, ofT_some, bind_ok, bind_exc, settle_val, settle_fr, settle_sl, settle_exc, viewL, view_val, view_sl, Option.bind_some, Option.map_some, frzL, frz_val, setO, putO, List.set_cons_zero, List.set_cons_succ, List.getElem?_cons_zero, List.getElem?_cons_succ, List.length_cons, List.length_nil, List.replicate, List.cons_append, List.nil_append, SZ, Nat.reduceAdd, Nat.reduceSub, Nat.reduceLeDiff, if_true, ↓reduceIte, fnOf, finR, List.take_succ_cons, List.take_zero, eFn, callF, frzNon, mkSl, ioOk, ioSl, putR, putB, opOf, gInt, gSub_ev, gAdd_ev, gLt_ev, gLe_ev, gGt_ev, gGe_ev, gB, ix0, ix1, ix2, tx0, tx1, tx2, sStI, PF.stI, isBl, sPar, aConsF, hold, setM, Bool.not_true, Bool.not_false, List.contains_nil, Bool.and_true, decide_true, decide_false, isi_int_int, isi_int_bool, isi_int_str, isi_int_list, isi_int_tuple, isi_int_tuple_list, isi_bl_int, isi_bl_bool, isi_bl_str, isi_bl_list, isi_bl_tuple, isi_bl_tuple_list, isi_str_int, isi_str_bool, isi_str_str, isi_str_list, isi_str_tuple, isi_str_tuple_list, isi_lst_int, isi_lst_bool, isi_lst_str, isi_lst_list, isi_lst_tuple, isi_lst_tuple_list, isi_tup_int, isi_tup_bool, isi_tup_str, isi_tup_list, isi_tup_tuple, isi_tup_tuple_list, isi_non_int, isi_non_bool, isi_non_str, isi_non_list, isi_non_tuple, isi_non_tuple_list, hs, truth, hasI]
    rfl
theorem deck_spec (c t : Int) (ht : 0 ≤ t) : ∃ d, F__law_deck [.fz (.int c), .fz (.int t)] = .ok true d [.fz (.int c), .fz (.int t)] ∧ Dk t d := by
  have q1 := Int.emod_nonneg c (show (2147483579 : Int) ≠ 0 by decide)
  have q2 := Int.emod_lt_of_pos c (show (0 : Int) < 2147483579 by decide)
  by_cases h : (10 : Int) ^ (18 : Nat) ≤ c
  · refine ⟨.lst [.int (c - 10 ^ (18 : Nat)), .int (c % 2147483579), .int t], ?_, _, _, _, rfl, by omega, q1, by omega, by omega, by omega⟩
    simp only [F__law_deck, g__law_deck, sSeq, sNext, sSet, sRet, sRetN, sIf, sFor, sDrop, sRaise, eLst, eTup, aCons, aNil, eCall, eVar, eC, eOp1, eOp2, eAnd, eOr, eNot, eIf, tCmp', tNot', tAnd', tOr', tVal, tChain', eChain, ofO_some, ofT_some, bind_ok, bind_exc, settle_val, settle_fr, settle_sl, settle_exc, viewL, view_val, view_sl, Option.bind_some, Option.map_some, frzL, frz_val, setO, putO, List.set_cons_zero, List.set_cons_succ, List.getElem?_cons_zero, List.getElem?_cons_succ, List.length_cons, List.length_nil, List.replicate, List.cons_append, List.nil_append, SZ, Nat.reduceAdd, Nat.reduceSub, Nat.reduceLeDiff, if_true, ↓reduceIte, fnOf, finR, List.take_succ_cons, List.take_zero, eFn, callF, frzNon, mkSl, ioOk, ioSl, putR, putB, opOf, gInt, gSub_ev, gAdd_ev, gLt_ev, gLe_ev, gGt_ev, gGe_ev, gB, ix0, ix1, ix2, tx0, tx1, tx2, sStI, PF.stI, isBl, sPar, aConsF, hold, setM, Bool.not_true, Bool.not_false, List.contains_nil, Bool.and_true, decide_true, decide_false, gPow_ev (i := 10) (j := 18) (by decide) (by decide) (by decide), gMod_ev (j := 2147483579) (by decide), show (18 : Int).toNat = 18 from rfl, h]
  · refine ⟨.lst [.int 0, .int (c % 2147483579), .int t], ?_, _, _, _, rfl, by omega, q1, by omega, by omega, by omega⟩
    simp only [F__law_deck, g__law_deck, sSeq, sNext, sSet, sRet, sRetN, sIf, sFor, sDrop, sRaise, eLst, eTup, aCons, aNil, eCall, eVar, eC, eOp1, eOp2, eAnd, eOr, eNot, eIf, tCmp', tNot', tAnd', tOr', tVal, tChain', eChain, ofO_some, ofT_some, bind_ok, bind_exc, settle_val, settle_fr, settle_sl, settle_exc, viewL, view_val, view_sl, Option.bind_some, Option.map_some, frzL, frz_val, setO, putO, List.set_cons_zero, List.set_cons_succ, List.getElem?_cons_zero, List.getElem?_cons_succ, List.length_cons, List.length_nil, List.replicate, List.cons_append, List.nil_append, SZ, Nat.reduceAdd, Nat.reduceSub, Nat.reduceLeDiff, if_true, ↓reduceIte, fnOf, finR, List.take_succ_cons, List.take_zero, eFn, callF, frzNon, mkSl, ioOk, ioSl, putR, putB, opOf, gInt, gSub_ev, gAdd_ev, gLt_ev, gLe_ev, gGt_ev, gGe_ev, gB, ix0, ix1, ix2, tx0, tx1, tx2, sStI, PF.stI, isBl, sPar, aConsF, hold, setM, Bool.not_true, Bool.not_false, List.contains_nil, Bool.and_true, decide_true, decide_false, gPow_ev (i := 10) (j := 18) (by decide) (by decide) (by decide), gMod_ev (j := 2147483579) (by decide), show (18 : Int).toNat = 18 from rfl, h]
theorem one_spec {m : Int} {d : D} (h : Dk m d) (hm : m < 4294967296) {xs : List D} (hx : 0 < xs.length) (hx2 : xs.length ≤ 100000) :
    ∃ x d', F__law_one [.ow true d, .fz (.lst xs)] = .ok false x [.ow true d', .fz (.lst xs)] ∧ x ∈ xs ∧ Dk (m + 1) d' := by
  obtain ⟨r, d', e, r0, r1, hd⟩ := pick_spec h hm (n := (xs.length : Int)) (by omega) (by omega)
  obtain ⟨x, ex, hxm⟩ := atI_of r0 r1
  refine ⟨x, d', ?_, hxm, hd⟩
  simp only [F__law_one, g__law_one, sSeq, sNext, sSet, sRet, sRetN, sIf, sFor, sDrop, sRaise, eLst, eTup, aCons, aNil, eCall, eVar, eC, eOp1, eOp2, eAnd, eOr, eNot, eIf, tCmp', tNot', tAnd', tOr', tVal, tChain', eChain, ofO_some, ofT_some, bind_ok, bind_exc, settle_val, settle_fr, settle_sl, settle_exc, viewL, view_val, view_sl, Option.bind_some, Option.map_some, frzL, frz_val, setO, putO, List.set_cons_zero, List.set_cons_succ, List.getElem?_cons_zero, List.getElem?_cons_succ, List.length_cons, List.length_nil, List.replicate, List.cons_append, List.nil_append, SZ, Nat.reduceAdd, Nat.reduceSub, Nat.reduceLeDiff, if_true, ↓reduceIte, fnOf, finR, List.take_succ_cons, List.take_zero, eFn, callF, frzNon, mkSl, ioOk, ioSl, putR, putB, opOf, gInt, gSub_ev, gAdd_ev, gLt_ev, gLe_ev, gGt_ev, gGe_ev, gB, ix0, ix1, ix2, tx0, tx1, tx2, sStI, PF.stI, isBl, sPar, aConsF, hold, setM, Bool.not_true, Bool.not_false, List.contains_nil, Bool.and_true, decide_true, decide_false, gLen_lst, e, gIx_lst ex]
theorem end_of' {x : D} (h : x ∈ [D.str "near", D.str "far"]) : ∃ b : Bool, x = .str (endS b) := by
  simp only [List.mem_cons, List.not_mem_nil, or_false] at h
  rcases h with h | h
  · exact ⟨true, h⟩
  · exact ⟨false, h⟩
def tTb : TF := tCmp' gLt (eCall gLen (aCons (eVar 3) aNil)) (eVar 2)
def bTb : SF := (sSeq (sSet 4 (eComp (iSeq (eVar 3)) (.nm 5) [5] (fun en => .ok true en) (eOp2 gMod (eVar 5) (eVar 1))))
  (sSet 3 (eOp2 gAdd (eVar 3) (eTup (aCons (eFn F__law_one [true, false] (aCons (eVar 0) (aCons (eComp (iRange2 (eC (.int 1)) (eC (.int 13))) (.nm 5) [5] (tCmp' gNotIn (eOp2 gMod (eVar 5) (eVar 1)) (eVar 4)) (eVar 5)) aNil))) aNil)))))
theorem table_loop {st many : Int} (hs : many ≤ st) (hs2 : st ≤ 12) : ∀ (k : Nat) {m : Int} {d : D} {tb : List D} {s4 : Sl} (fuel : Nat), Dk m d → m + k < 4294967296 → Num12 tb → (tb.map fun x => iOf x % st).Nodup → (tb.length : Int) + k = many → k < fuel → (s4 = .un ∨ ∃ x, s4 = .ow false x) →
    ∃ d' tb' s4', whileN tTb bTb fuel [.ow true d, .fz (.int st), .fz (.int many), .fz (.tup tb), s4, .un] = .ok .nx [.ow true d', .fz (.int st), .fz (.int many), .fz (.tup tb'), s4', .un] ∧ Dk (m + k) d' ∧ Num12 tb' ∧ (tb'.map fun x => iOf x % st).Nodup ∧ (tb'.length : Int) = many
  | k, m, d, tb, s4, 0, _, _, _, _, _, hf, _ => absurd hf (by omega)
  | 0, m, d, tb, s4, fuel + 1, hd, hm, hn, hnd, hl, hf, h4 => by
    have c : ¬ (tb.length : Int) < many := by omega
    refine ⟨d, tb, s4, ?_, hd.mono (by omega), hn, hnd, by omega⟩
    rw [whileN_s]
    simp only [tTb, sSeq, sNext, sSet, sRet, sRetN, sIf, sFor, sDrop, sRaise, eLst, eTup, aCons, aNil, eCall, eVar, eC, eOp1, eOp2, eAnd, eOr, eNot, eIf, tCmp', tNot', tAnd', tOr', tVal, tChain', eChain, ofO_some, ofT_some, bind_ok, bind_exc, settle_val, settle_fr, settle_sl, settle_exc, viewL, view_val, view_sl, Option.bind_some, Option.map_some, frzL, frz_val, setO, putO, List.set_cons_zero, List.set_cons_succ, List.getElem?_cons_zero, List.getElem?_cons_succ, List.length_cons, List.length_nil, List.replicate, List.cons_append, List.nil_append, SZ, Nat.reduceAdd, Nat.reduceSub, Nat.reduceLeDiff, if_true, ↓reduceIte, fnOf, finR, List.take_succ_cons, List.take_zero, eFn, callF, frzNon, mkSl, ioOk, ioSl, putR, putB, opOf, gInt, gSub_ev, gAdd_ev, gLt_ev, gLe_ev, gGt_ev, gGe_ev, gB, ix0, ix1, ix2, tx0, tx1, tx2, sStI, PF.stI, isBl, sPar, aConsF, hold, setM, Bool.not_true, Bool.not_false, List.contains_nil, Bool.and_true, decide_true, decide_false, gLen_tup, c]
  | k + 1, m, d, tb, s4, fuel + 1, hd, hm, hn, hnd, hl, hf, h4 => by
    have c : (tb.length : Int) < many := by omega
    have s0 : (0 : Int) < st := by omega
    have c1 : ∀ s4, eComp (iSeq (eVar 3)) (.nm 5) [5] (fun en => .ok true en) (eOp2 gMod (eVar 5) (eVar 1)) [.ow true d, .fz (.int st), .fz (.int many), .fz (.tup tb), s4, .un] = .ok (.fresh (.lst (tb.map fun x => .int (iOf x % st)))) [.ow true d, .fz (.int st), .fz (.int many), .fz (.tup tb), s4, .un] := fun s4 =>
      eComp_map (v := 5) (ds := tb) (iSeq_tup (by simp only [sSeq, sNext, sSet, sRet, sRetN, sIf, sFor, sDrop, sRaise, eLst, eTup, aCons, aNil, eCall, eVar, eC, eOp1, eOp2, eAnd, eOr, eNot, eIf, tCmp', tNot', tAnd', tOr', tVal, tChain', eChain, ofO_some, ofT_some, bind_ok, bind_exc, settle_val, settle_fr, settle_sl, settle_exc, viewL, view_val, view_sl, Option.bind_some, Option.map_some, frzL, frz_val, setO, putO, List.set_cons_zero, List.set_cons_succ, List.getElem?_cons_zero, List.getElem?_cons_succ, List.length_cons, List.length_nil, List.replicate, List.cons_append, List.nil_append, SZ, Nat.reduceAdd, Nat.reduceSub, Nat.reduceLeDiff, if_true, ↓reduceIte, fnOf, finR, List.take_succ_cons, List.take_zero, eFn, callF, frzNon, mkSl, ioOk, ioSl, putR, putB, opOf, gInt, gSub_ev, gAdd_ev, gLt_ev, gLe_ev, gGt_ev, gGe_ev, gB, ix0, ix1, ix2, tx0, tx1, tx2, sStI, PF.stI, isBl, sPar, aConsF, hold, setM, Bool.not_true, Bool.not_false, List.contains_nil, Bool.and_true, decide_true, decide_false])) rfl (fun x hx => by
        obtain ⟨i, rfl, _⟩ := hn x hx
        simp only [sSeq, sNext, sSet, sRet, sRetN, sIf, sFor, sDrop, sRaise, eLst, eTup, aCons, aNil, eCall, eVar, eC, eOp1, eOp2, eAnd, eOr, eNot, eIf, tCmp', tNot', tAnd', tOr', tVal, tChain', eChain, ofO_some, ofT_some, bind_ok, bind_exc, settle_val, settle_fr, settle_sl, settle_exc, viewL, view_val, view_sl, Option.bind_some, Option.map_some, frzL, frz_val, setO, putO, List.set_cons_zero, List.set_cons_succ, List.getElem?_cons_zero, List.getElem?_cons_succ, List.length_cons, List.length_nil, List.replicate, List.cons_append, List.nil_append, SZ, Nat.reduceAdd, Nat.reduceSub, Nat.reduceLeDiff, if_true, ↓reduceIte, fnOf, finR, List.take_succ_cons, List.take_zero, eFn, callF, frzNon, mkSl, ioOk, ioSl, putR, putB, opOf, gInt, gSub_ev, gAdd_ev, gLt_ev, gLe_ev, gGt_ev, gGe_ev, gB, ix0, ix1, ix2, tx0, tx1, tx2, sStI, PF.stI, isBl, sPar, aConsF, hold, setM, Bool.not_true, Bool.not_false, List.contains_nil, Bool.and_true, decide_true, decide_false, gMod_ev s0, iOf])
    have c2 : eComp (iRange2 (eC (.int 1)) (eC (.int 13))) (.nm 5) [5] (tCmp' gNotIn (eOp2 gMod (eVar 5) (eVar 1)) (eVar 4)) (eVar 5) [.ow true d, .fz (.int st), .fz (.int many), .fz (.tup tb), .ow false (.lst ((tb.map fun x => iOf x % st).map D.int)), .un] =
        .ok (.fresh (.lst ((r12.filter fun x => !(tb.map fun x => iOf x % st).any fun z => z == iOf x % st).map fun x => x))) [.ow true d, .fz (.int st), .fz (.int many), .fz (.tup tb), .ow false (.lst ((tb.map fun x => iOf x % st).map D.int)), .un] :=
      eComp_filter (v := 5) (ds := r12) r12_ok rfl (fun x hx => by
        obtain ⟨i, rfl, _⟩ := r12_num hx
        simp only [sSeq, sNext, sSet, sRet, sRetN, sIf, sFor, sDrop, sRaise, eLst, eTup, aCons, aNil, eCall, eVar, eC, eOp1, eOp2, eAnd, eOr, eNot, eIf, tCmp', tNot', tAnd', tOr', tVal, tChain', eChain, ofO_some, ofT_some, bind_ok, bind_exc, settle_val, settle_fr, settle_sl, settle_exc, viewL, view_val, view_sl, Option.bind_some, Option.map_some, frzL, frz_val, setO, putO, List.set_cons_zero, List.set_cons_succ, List.getElem?_cons_zero, List.getElem?_cons_succ, List.length_cons, List.length_nil, List.replicate, List.cons_append, List.nil_append, SZ, Nat.reduceAdd, Nat.reduceSub, Nat.reduceLeDiff, if_true, ↓reduceIte, fnOf, finR, List.take_succ_cons, List.take_zero, eFn, callF, frzNon, mkSl, ioOk, ioSl, putR, putB, opOf, gInt, gSub_ev, gAdd_ev, gLt_ev, gLe_ev, gGt_ev, gGe_ev, gB, ix0, ix1, ix2, tx0, tx1, tx2, sStI, PF.stI, isBl, sPar, aConsF, hold, setM, Bool.not_true, Bool.not_false, List.contains_nil, Bool.and_true, decide_true, decide_false, gMod_ev s0, gNotIn_ints, iOf]) (fun x hx _ => by simp only [sSeq, sNext, sSet, sRet, sRetN, sIf, sFor, sDrop, sRaise, eLst, eTup, aCons, aNil, eCall, eVar, eC, eOp1, eOp2, eAnd, eOr, eNot, eIf, tCmp', tNot', tAnd', tOr', tVal, tChain', eChain, ofO_some, ofT_some, bind_ok, bind_exc, settle_val, settle_fr, settle_sl, settle_exc, viewL, view_val, view_sl, Option.bind_some, Option.map_some, frzL, frz_val, setO, putO, List.set_cons_zero, List.set_cons_succ, List.getElem?_cons_zero, List.getElem?_cons_succ, List.length_cons, List.length_nil, List.replicate, List.cons_append, List.nil_append, SZ, Nat.reduceAdd, Nat.reduceSub, Nat.reduceLeDiff, if_true, ↓reduceIte, fnOf, finR, List.take_succ_cons, List.take_zero, eFn, callF, frzNon, mkSl, ioOk, ioSl, putR, putB, opOf, gInt, gSub_ev, gAdd_ev, gLt_ev, gLe_ev, gGt_ev, gGe_ev, gB, ix0, ix1, ix2, tx0, tx1, tx2, sStI, PF.stI, isBl, sPar, aConsF, hold, setM, Bool.not_true, Bool.not_false, List.contains_nil, Bool.and_true, decide_true, decide_false])
    have cl := cand (st := st) (rs := tb.map fun x => iOf x % st) (by rw [List.length_map]; omega) hs2
    obtain ⟨x, d', e, hx, hd'⟩ := one_spec hd (by omega) (xs := (r12.filter fun x => !(tb.map fun x => iOf x % st).any fun z => z == iOf x % st).map fun x => x) (by rw [List.length_map]; exact cl) (by
      rw [List.length_map]
      have := List.length_filter_le (fun x => !(tb.map fun x => iOf x % st).any fun z => z == iOf x % st) r12
      have e : r12.length = 12 := rfl
      omega)
    have hx3 : ∀ y ∈ tb, iOf y % st ≠ iOf x % st := fun y hy e => by
      obtain ⟨z, hz, ez⟩ := List.mem_map.mp hx
      subst ez
      have h := (List.mem_filter.mp hz).2
      simp only [Bool.not_eq_true', List.any_eq_false] at h
      exact h (iOf y % st) (List.mem_map.mpr ⟨y, hy, rfl⟩) (by simp [e])
    have hx2 : ∃ i : Int, x = .int i ∧ 1 ≤ i ∧ i ≤ 12 := by
      obtain ⟨y, hy, e⟩ := List.mem_map.mp hx
      subst e
      exact r12_num (List.mem_filter.mp hy).1
    obtain ⟨d2, tb2, s42, e2, h1, h2, h2d, h3⟩ := table_loop hs hs2 k (m := m + 1) (d := d') (tb := tb ++ [x]) (s4 := .ow false (.lst ((tb.map fun x => iOf x % st).map D.int))) fuel hd' (by omega) (fun y hy => by
      rcases List.mem_append.mp hy with hy | hy
      · exact hn y hy
      · have hy : y = x := by simpa using hy
        rw [hy]
        exact hx2) (by
      rw [List.map_append, List.map_cons, List.map_nil]
      refine List.nodup_append.mpr ⟨hnd, by simp, fun u hu v hv e => ?_⟩
      obtain ⟨y, hy, rfl⟩ := List.mem_map.mp hu
      rw [List.mem_singleton] at hv
      exact hx3 y hy (e.trans hv)) (by rw [List.length_append]; simp only [List.length_singleton]; omega) (by omega) (.inr ⟨_, rfl⟩)
    refine ⟨d2, tb2, s42, ?_, h1.mono (by omega), h2, h2d, h3⟩
    rw [whileN_s]
    have ct : tTb [.ow true d, .fz (.int st), .fz (.int many), .fz (.tup tb), s4, .un] = .ok true [.ow true d, .fz (.int st), .fz (.int many), .fz (.tup tb), s4, .un] := by
      simp only [tTb, sSeq, sNext, sSet, sRet, sRetN, sIf, sFor, sDrop, sRaise, eLst, eTup, aCons, aNil, eCall, eVar, eC, eOp1, eOp2, eAnd, eOr, eNot, eIf, tCmp', tNot', tAnd', tOr', tVal, tChain', eChain, ofO_some, ofT_some, bind_ok, bind_exc, settle_val, settle_fr, settle_sl, settle_exc, viewL, view_val, view_sl, Option.bind_some, Option.map_some, frzL, frz_val, setO, putO, List.set_cons_zero, List.set_cons_succ, List.getElem?_cons_zero, List.getElem?_cons_succ, List.length_cons, List.length_nil, List.replicate, List.cons_append, List.nil_append, SZ, Nat.reduceAdd, Nat.reduceSub, Nat.reduceLeDiff, if_true, ↓reduceIte, fnOf, finR, List.take_succ_cons, List.take_zero, eFn, callF, frzNon, mkSl, ioOk, ioSl, putR, putB, opOf, gInt, gSub_ev, gAdd_ev, gLt_ev, gLe_ev, gGt_ev, gGe_ev, gB, ix0, ix1, ix2, tx0, tx1, tx2, sStI, PF.stI, isBl, sPar, aConsF, hold, setM, Bool.not_true, Bool.not_false, List.contains_nil, Bool.and_true, decide_true, decide_false, gLen_tup, c]
    have cb : bTb [.ow true d, .fz (.int st), .fz (.int many), .fz (.tup tb), s4, .un] = .ok .nx [.ow true d', .fz (.int st), .fz (.int many), .fz (.tup (tb ++ [x])), .ow false (.lst ((tb.map fun x => iOf x % st).map D.int)), .un] := by
      rcases h4 with rfl | ⟨y, rfl⟩
      · simp only [bTb, sSeq, sNext, sSet, sRet, sRetN, sIf, sFor, sDrop, sRaise, eLst, eTup, aCons, aNil, eCall, eVar, eC, eOp1, eOp2, eAnd, eOr, eNot, eIf, tCmp', tNot', tAnd', tOr', tVal, tChain', eChain, ofO_some, ofT_some, bind_ok, bind_exc, settle_val, settle_fr, settle_sl, settle_exc, viewL, view_val, view_sl, Option.bind_some, Option.map_some, frzL, frz_val, setO, putO, List.set_cons_zero, List.set_cons_succ, List.getElem?_cons_zero, List.getElem?_cons_succ, List.length_cons, List.length_nil, List.replicate, List.cons_append, List.nil_append, SZ, Nat.reduceAdd, Nat.reduceSub, Nat.reduceLeDiff, if_true, ↓reduceIte, fnOf, finR, List.take_succ_cons, List.take_zero, eFn, callF, frzNon, mkSl, ioOk, ioSl, putR, putB, opOf, gInt, gSub_ev, gAdd_ev, gLt_ev, gLe_ev, gGt_ev, gGe_ev, gB, ix0, ix1, ix2, tx0, tx1, tx2, sStI, PF.stI, isBl, sPar, aConsF, hold, setM, Bool.not_true, Bool.not_false, List.contains_nil, Bool.and_true, decide_true, decide_false, c1, Num12.rests, c2, e, gAdd_tup (xs := tb) (ys := [x]) (by simp only [List.length_singleton]; omega)]
      · simp only [bTb, sSeq, sNext, sSet, sRet, sRetN, sIf, sFor, sDrop, sRaise, eLst, eTup, aCons, aNil, eCall, eVar, eC, eOp1, eOp2, eAnd, eOr, eNot, eIf, tCmp', tNot', tAnd', tOr', tVal, tChain', eChain, ofO_some, ofT_some, bind_ok, bind_exc, settle_val, settle_fr, settle_sl, settle_exc, viewL, view_val, view_sl, Option.bind_some, Option.map_some, frzL, frz_val, setO, putO, List.set_cons_zero, List.set_cons_succ, List.getElem?_cons_zero, List.getElem?_cons_succ, List.length_cons, List.length_nil, List.replicate, List.cons_append, List.nil_append, SZ, Nat.reduceAdd, Nat.reduceSub, Nat.reduceLeDiff, if_true, ↓reduceIte, fnOf, finR, List.take_succ_cons, List.take_zero, eFn, callF, frzNon, mkSl, ioOk, ioSl, putR, putB, opOf, gInt, gSub_ev, gAdd_ev, gLt_ev, gLe_ev, gGt_ev, gGe_ev, gB, ix0, ix1, ix2, tx0, tx1, tx2, sStI, PF.stI, isBl, sPar, aConsF, hold, setM, Bool.not_true, Bool.not_false, List.contains_nil, Bool.and_true, decide_true, decide_false, c1, Num12.rests, c2, e, gAdd_tup (xs := tb) (ys := [x]) (by simp only [List.length_singleton]; omega)]
    rw [ct]
    show ((bTb _).bind _) = _
    rw [cb]
    exact e2
theorem table_spec {m : Int} {d : D} (h : Dk m d) (hm : m < 4294950000) {st : Int} {many : Nat} (h1 : (many : Int) ≤ st) (h2 : st ≤ 12) : ∃ (xs : List Int) (d' : D), F__law_table [.ow true d, .fz (.int st), .fz (.int many)] = .ok false (.tup (xs.map D.int)) [.ow true d', .fz (.int st), .fz (.int many)] ∧ Dk (m + many) d' ∧ (∀ x ∈ xs, 1 ≤ x ∧ x ≤ 12) ∧ (xs.map fun x => x % st).Nodup ∧ xs.length = many := by
  obtain ⟨d', tb, s4, e, hd, hn, hnd, hl⟩ := table_loop h1 h2 many (m := m) (d := d) (tb := []) (s4 := .un) 1000 h (by omega) (fun x hx => by simp at hx) (by simp) (by simp) (by omega) (.inl rfl)
  have ex : ∃ xs : List Int, tb = xs.map D.int := ⟨tb.map iOf, by
    rw [List.map_map]
    refine (List.map_id tb).symm.trans (List.map_congr_left fun x hx => ?_)
    obtain ⟨i, rfl, _⟩ := hn x hx
    rfl⟩
  obtain ⟨xs, rfl⟩ := ex
  rw [List.map_map] at hnd
  rw [List.length_map] at hl
  refine ⟨xs, d', ?_, hd, fun x hx => ?_, hnd, by omega⟩
  rotate_left
  · obtain ⟨i, e, h1, h2⟩ := hn (.int x) (List.mem_map.mpr ⟨x, hx, rfl⟩)
    cases e
    exact ⟨h1, h2⟩
  have e' : sWhile (fun _ => 1000) tTb bTb [.ow true d, .fz (.int st), .fz (.int many), .fz (.tup []), .un, .un] = .ok .nx [.ow true d', .fz (.int st), .fz (.int many), .fz (.tup (xs.map D.int)), s4, .un] := e
  have g : g__law_table = sSeq (sSet 3 (eTup aNil)) (sSeq (sWhile (fun _ => 1000) tTb bTb) (sRet (eVar 3))) := rfl
  simp only [F__law_table, g, sSeq, sNext, sSet, sRet, sRetN, sIf, sFor, sDrop, sRaise, eLst, eTup, aCons, aNil, eCall, eVar, eC, eOp1, eOp2, eAnd, eOr, eNot, eIf, tCmp', tNot', tAnd', tOr', tVal, tChain', eChain, ofO_some, ofT_some, bind_ok, bind_exc, settle_val, settle_fr, settle_sl, settle_exc, viewL, view_val, view_sl, Option.bind_some, Option.map_some, frzL, frz_val, setO, putO, List.set_cons_zero, List.set_cons_succ, List.getElem?_cons_zero, List.getElem?_cons_succ, List.length_cons, List.length_nil, List.replicate, List.cons_append, List.nil_append, SZ, Nat.reduceAdd, Nat.reduceSub, Nat.reduceLeDiff, if_true, ↓reduceIte, fnOf, finR, List.take_succ_cons, List.take_zero, eFn, callF, frzNon, mkSl, ioOk, ioSl, putR, putB, opOf, gInt, gSub_ev, gAdd_ev, gLt_ev, gLe_ev, gGt_ev, gGe_ev, gB, ix0, ix1, ix2, tx0, tx1, tx2, sStI, PF.stI, isBl, sPar, aConsF, hold, setM, Bool.not_true, Bool.not_false, List.contains_nil, Bool.and_true, decide_true, decide_false, e', Nat.zero_le]
theorem make_plan {m : Int} {d : D} (h : Dk m d) (hm : m < 4294900000) : ∃ a b d', F__law_plan [.ow true d] = .ok false (planD a b) [.ow true d'] ∧ Dk (m + 20) d' ∧ POk a b ∧ ∃ w : Int, 1 ≤ w ∧ a.step = w * a.tab.length ∧ b.step = w * b.tab.length := by
  obtain ⟨r1, d1, e1, r1a, r1b, h1⟩ := pick_spec h (by omega) (n := 3) (by decide) (by decide)
  obtain ⟨r2, d2, e2, r2a, r2b, h2⟩ := pick_spec h1 (by omega) (n := 3) (by decide) (by decide)
  have mp : (0 : Int) < max (1 + r1) (1 + r2) := by omega
  have mp2 : max (1 + r1) (1 + r2) ≤ 3 := by omega
  have q0 : (0 : Int) < 12 / max (1 + r1) (1 + r2) := by
    have : max (1 + r1) (1 + r2) = 1 ∨ max (1 + r1) (1 + r2) = 2 ∨ max (1 + r1) (1 + r2) = 3 := by omega
    rcases this with e | e | e <;> rw [e] <;> decide
  have q1 : 12 / max (1 + r1) (1 + r2) * max (1 + r1) (1 + r2) ≤ 12 := Int.ediv_mul_le _ (by omega)
  have q2 : 12 / max (1 + r1) (1 + r2) ≤ 12 := by
    have : max (1 + r1) (1 + r2) = 1 ∨ max (1 + r1) (1 + r2) = 2 ∨ max (1 + r1) (1 + r2) = 3 := by omega
    rcases this with e | e | e <;> rw [e] <;> decide
  obtain ⟨x3, d3, e3, hx3, h3⟩ := one_spec h2 (by omega) (xs := [.int 1, .int 2, .int (12 / max (1 + r1) (1 + r2))]) (by simp) (by simp)
  have hv : ∃ v : Int, x3 = .int v ∧ 0 < v ∧ (v ≤ 2 ∨ v = 12 / max (1 + r1) (1 + r2)) := by
    simp only [List.mem_cons, List.not_mem_nil, or_false] at hx3
    rcases hx3 with e | e | e
    · exact ⟨1, e, by decide, .inl (by decide)⟩
    · exact ⟨2, e, by decide, .inl (by decide)⟩
    · exact ⟨_, e, q0, .inr rfl⟩
  obtain ⟨v, rfl, v0, v1⟩ := hv
  have v12 : v ≤ 12 := by omega
  obtain ⟨r4, d4, e4, r4a, r4b, h4⟩ := pick_spec h3 (by omega) (n := v) v0 (by omega)
  have w0 : 0 < 1 + r4 := by omega
  have w1 : 1 + r4 ≤ v := by omega
  have step : ∀ o : Int, 1 ≤ o → o ≤ max (1 + r1) (1 + r2) → o ≤ (1 + r4) * o ∧ (1 + r4) * o ≤ 12 := fun o o1 o2 => by
    constructor
    · have := Int.mul_le_mul_of_nonneg_right (show 1 ≤ 1 + r4 by omega) (show 0 ≤ o by omega)
      omega
    · have a1 : (1 + r4) * o ≤ v * o := Int.mul_le_mul_of_nonneg_right w1 (by omega)
      have a2 : v * o ≤ v * max (1 + r1) (1 + r2) := Int.mul_le_mul_of_nonneg_left o2 (by omega)
      rcases v1 with v1 | v1
      · have a3 : v * max (1 + r1) (1 + r2) ≤ 2 * max (1 + r1) (1 + r2) := Int.mul_le_mul_of_nonneg_right v1 (by omega)
        omega
      · rw [v1] at a2 a1
        omega
  obtain ⟨x5, d5, e5, hx5, h5⟩ := one_spec h4 (by omega) (xs := [.str "near", .str "far"]) (by simp) (by simp)
  obtain ⟨s5, rfl⟩ := end_of' hx5
  have c1 : ((1 + r1).toNat : Int) = 1 + r1 := by omega
  have c2 : ((1 + r2).toNat : Int) = 1 + r2 := by omega
  obtain ⟨p1, p2⟩ := step (1 + r1) (by omega) (by omega)
  obtain ⟨p3, p4⟩ := step (1 + r2) (by omega) (by omega)
  obtain ⟨t6, d6, e6, h6, n6, q6, l6⟩ := table_spec h5 (by omega) (st := (1 + r4) * (1 + r1)) (many := (1 + r1).toNat) (by rw [c1]; exact p1) p2
  rw [c1] at e6
  obtain ⟨x7, d7, e7, hx7, h7⟩ := one_spec h6 (by omega) (xs := [.str "near", .str "far"]) (by simp) (by simp)
  obtain ⟨s7, rfl⟩ := end_of' hx7
  obtain ⟨t8, d8, e8, h8, n8, q8, l8⟩ := table_spec h7 (by omega) (st := (1 + r4) * (1 + r2)) (many := (1 + r2).toNat) (by rw [c2]; exact p3) p4
  rw [c2] at e8
  obtain ⟨r9, d9, e9, r9a, r9b, h9⟩ := pick_spec h8 (by omega) (n := 6) (by decide) (by decide)
  have m1 : (1 + r4).natAbs < 2 ^ 64 ∨ (1 + r1).natAbs < 2 ^ 64 := .inl (by omega)
  have m2 : (1 + r4).natAbs < 2 ^ 64 ∨ (1 + r2).natAbs < 2 ^ 64 := .inl (by omega)
  have ok : ∀ (e : Bool) {o : Int} {t : List Int}, 1 ≤ o → o ≤ 3 → o ≤ (1 + r4) * o → (1 + r4) * o ≤ 12 → (∀ x ∈ t, 1 ≤ x ∧ x ≤ 12) → (t.map fun x => x % ((1 + r4) * o)).Nodup → t.length = o.toNat → Numb.Ok ⟨e, (1 + r4) * o, t⟩ := fun e o t o1 o2 o3 o4 hn hq hl => ⟨by show 1 ≤ (1 + r4) * o; omega, o4, by show 1 ≤ t.length; omega, by show t.length ≤ 3; omega, hn, hq⟩
  have l6' : (t6.length : Int) = 1 + r1 := by rw [l6]; exact c1
  have l8' : (t8.length : Int) = 1 + r2 := by rw [l8]; exact c2
  by_cases z : r9 = 0
  · refine ⟨⟨s5, (1 + r4) * (1 + r1), t6⟩, ⟨s7, (1 + r4) * (1 + r1), t6⟩, d9, ?_, h9.mono (by omega), ⟨ok s5 (by omega) (by omega) p1 p2 n6 q6 l6, ok s7 (by omega) (by omega) p1 p2 n6 q6 l6, rfl⟩, 1 + r4, w0, by show (1 + r4) * (1 + r1) = (1 + r4) * (t6.length : Int); rw [l6'], by show (1 + r4) * (1 + r1) = (1 + r4) * (t6.length : Int); rw [l6']⟩
    simp only [F__law_plan, g__law_plan, sSeq, sNext, sSet, sRet, sRetN, sIf, sFor, sDrop, sRaise, eLst, eTup, aCons, aNil, eCall, eVar, eC, eOp1, eOp2, eAnd, eOr, eNot, eIf, tCmp', tNot', tAnd', tOr', tVal, tChain', eChain, ofO_some, ofT_some, bind_ok, bind_exc, settle_val, settle_fr, settle_sl, settle_exc, viewL, view_val, view_sl, Option.bind_some, Option.map_some, frzL, frz_val, setO, putO, List.set_cons_zero, List.set_cons_succ, List.getElem?_cons_zero, List.getElem?_cons_succ, List.length_cons, List.length_nil, List.replicate, List.cons_append, List.nil_append, SZ, Nat.reduceAdd, Nat.reduceSub, Nat.reduceLeDiff, if_true, ↓reduceIte, fnOf, finR, List.take_succ_cons, List.take_zero, eFn, callF, frzNon, mkSl, ioOk, ioSl, putR, putB, opOf, gInt, gSub_ev, gAdd_ev, gLt_ev, gLe_ev, gGt_ev, gGe_ev, gB, ix0, ix1, ix2, tx0, tx1, tx2, sStI, PF.stI, isBl, sPar, aConsF, hold, setM, Bool.not_true, Bool.not_false, List.contains_nil, Bool.and_true, decide_true, decide_false, e1, e2, gMax2_ev, gDiv_ev mp (show max (1 + r1) (1 + r2) ≤ 10 ^ 40 by omega), e3, e4, e5, e6, e7, e8, e9, gMul_ev m1, gMul_ev m2, gEq_int, z, eSl, oSome, oNone, PF.isInt, gSl, cut1, gAdd_tup (xs := [.str (endS s7)]) (ys := [.int ((1 + r4) * (1 + r1)), .tup (t6.map D.int)]) (by simp), planD, Numb.d]
  · refine ⟨⟨s5, (1 + r4) * (1 + r1), t6⟩, ⟨s7, (1 + r4) * (1 + r2), t8⟩, d9, ?_, h9.mono (by omega), ⟨ok s5 (by omega) (by omega) p1 p2 n6 q6 l6, ok s7 (by omega) (by omega) p3 p4 n8 q8 l8, ?_⟩, 1 + r4, w0, by show (1 + r4) * (1 + r1) = (1 + r4) * (t6.length : Int); rw [l6'], by show (1 + r4) * (1 + r2) = (1 + r4) * (t8.length : Int); rw [l8']⟩
    · simp only [F__law_plan, g__law_plan, sSeq, sNext, sSet, sRet, sRetN, sIf, sFor, sDrop, sRaise, eLst, eTup, aCons, aNil, eCall, eVar, eC, eOp1, eOp2, eAnd, eOr, eNot, eIf, tCmp', tNot', tAnd', tOr', tVal, tChain', eChain, ofO_some, ofT_some, bind_ok, bind_exc, settle_val, settle_fr, settle_sl, settle_exc, viewL, view_val, view_sl, Option.bind_some, Option.map_some, frzL, frz_val, setO, putO, List.set_cons_zero, List.set_cons_succ, List.getElem?_cons_zero, List.getElem?_cons_succ, List.length_cons, List.length_nil, List.replicate, List.cons_append, List.nil_append, SZ, Nat.reduceAdd, Nat.reduceSub, Nat.reduceLeDiff, if_true, ↓reduceIte, fnOf, finR, List.take_succ_cons, List.take_zero, eFn, callF, frzNon, mkSl, ioOk, ioSl, putR, putB, opOf, gInt, gSub_ev, gAdd_ev, gLt_ev, gLe_ev, gGt_ev, gGe_ev, gB, ix0, ix1, ix2, tx0, tx1, tx2, sStI, PF.stI, isBl, sPar, aConsF, hold, setM, Bool.not_true, Bool.not_false, List.contains_nil, Bool.and_true, decide_true, decide_false, e1, e2, gMax2_ev, gDiv_ev mp (show max (1 + r1) (1 + r2) ≤ 10 ^ 40 by omega), e3, e4, e5, e6, e7, e8, e9, gMul_ev m1, gMul_ev m2, gEq_int, z, planD, Numb.d]
    · show (1 + r4) * (1 + r1) * (t8.length : Int) = (1 + r4) * (1 + r2) * (t6.length : Int)
      rw [l6', l8', Int.mul_assoc, Int.mul_assoc, Int.mul_comm (1 + r1)]
/-! ## the same -/
end Wk04
namespace Wk04
open PySem PySem.Spec PyProof.Rows L2 PF
/-! ## index_of -/
def ixBody : SF := (sIf (tAnd' (tCmp' gGe (eVar 1) (eVar 6)) (tCmp' gEq (eOp2 gMod (eOp2 gSub (eVar 1) (eVar 6)) (eVar 3)) (eC (.int 0)))) (sRet (eOp2 gAdd (eOp2 gMul (eOp2 gDiv (eOp2 gSub (eVar 1) (eVar 6)) (eVar 3)) (eCall gLen (aCons (eVar 4) aNil))) (eVar 5))) sNext)
theorem ix_loop {n : Numb} (h1 : 1 ≤ n.step) (h2 : n.step ≤ 12) (h3 : n.tab.length ≤ 3) {v : Int} {a : Sl} : ∀ (xs : List Int) (r : Nat) {s5 s6 : Sl}, Free s5 → Free s6 → ∃ s5' s6', forD (.tp [(.nm 5), (.nm 6)]) ixBody (((xs.map D.int).zipIdx r).map fun p => D.tup [.int (p.2 : Int), p.1]) [.fz n.d, .fz (.int v), a, .fz (.int n.step), .fz (.tup (n.tab.map D.int)), s5, s6] =
    (match idxGo n.step n.len v r xs with
      | some i => .ok (.rt (.val (.int i))) [.fz n.d, .fz (.int v), a, .fz (.int n.step), .fz (.tup (n.tab.map D.int)), s5', s6']
      | none => .ok .nx [.fz n.d, .fz (.int v), a, .fz (.int n.step), .fz (.tup (n.tab.map D.int)), s5', s6'])
  | [], r, s5, s6, _, _ => ⟨s5, s6, rfl⟩
  | x :: xs, r, s5, s6, f5, f6 => by
    have ea : asgP (.tp [(.nm 5), (.nm 6)]) (.tup [.int (r : Int), .int x]) [.fz n.d, .fz (.int v), a, .fz (.int n.step), .fz (.tup (n.tab.map D.int)), s5, s6] = some [.fz n.d, .fz (.int v), a, .fz (.int n.step), .fz (.tup (n.tab.map D.int)), .fz (.int (r : Int)), .fz (.int x)] := by
      have e1 : setO 5 (.val (.int (r : Int))) [.fz n.d, .fz (.int v), a, .fz (.int n.step), .fz (.tup (n.tab.map D.int)), s5, s6] = some [.fz n.d, .fz (.int v), a, .fz (.int n.step), .fz (.tup (n.tab.map D.int)), .fz (.int (r : Int)), s6] := (setO_free (s := s5) rfl f5).trans rfl
      have e2 : setO 6 (.val (.int x)) [.fz n.d, .fz (.int v), a, .fz (.int n.step), .fz (.tup (n.tab.map D.int)), .fz (.int (r : Int)), s6] = some [.fz n.d, .fz (.int v), a, .fz (.int n.step), .fz (.tup (n.tab.map D.int)), .fz (.int (r : Int)), .fz (.int x)] := (setO_free (s := s6) rfl f6).trans rfl
      simp only [asgP, asgPs, e1, e2]
    obtain ⟨t5, t6, ih⟩ := ix_loop h1 h2 h3 (v := v) (a := a) xs (r + 1) (s5 := .fz (.int (r : Int))) (s6 := .fz (.int x)) .fz .fz
    have hl : (n.tab.length : Int) < 2 ^ 60 := by omega
    cases c : idxC n.step v x with
    | true =>
      obtain ⟨c1, c2⟩ := Bool.and_eq_true_iff.mp c
      have c1 := of_decide_eq_true c1
      have c2 := of_decide_eq_true c2
      refine ⟨.fz (.int (r : Int)), .fz (.int x), ?_⟩
      have eb : ixBody [.fz n.d, .fz (.int v), a, .fz (.int n.step), .fz (.tup (n.tab.map D.int)), .fz (.int (r : Int)), .fz (.int x)] = .ok (.rt (.val (.int ((v - x) / n.step * n.len + (r : Int))))) [.fz n.d, .fz (.int v), a, .fz (.int n.step), .fz (.tup (n.tab.map D.int)), .fz (.int (r : Int)), .fz (.int x)] := by
        simp only [ixBody, sSeq, sNext, sSet, sRet, sRetN, sIf, sFor, sDrop, sRaise, eLst, eTup, aCons, aNil, eCall, eVar, eC, eOp1, eOp2, eAnd, eOr, eNot, eIf, tCmp', tNot', tAnd', tOr', tVal, tChain', eChain, ofO_some, ofT_some, bind_ok, bind_exc, settle_val, settle_fr, settle_sl, settle_exc, viewL, view_val, view_sl, Option.bind_some, Option.map_some, frzL, frz_val, setO, putO, List.set_cons_zero, List.set_cons_succ, List.getElem?_cons_zero, List.getElem?_cons_succ, List.length_cons, List.length_nil, List.replicate, List.cons_append, List.nil_append, SZ, Nat.reduceAdd, Nat.reduceSub, Nat.reduceLeDiff, if_true, ↓reduceIte, fnOf, finR, List.take_succ_cons, List.take_zero, eFn, callF, frzNon, mkSl, ioOk, ioSl, putR, putB, opOf, gInt, gSub_ev, gAdd_ev, gLt_ev, gLe_ev, gGt_ev, gGe_ev, gB, ix0, ix1, ix2, tx0, tx1, tx2, sStI, PF.stI, isBl, sPar, aConsF, hold, setM, Bool.not_true, Bool.not_false, List.contains_nil, Bool.and_true, decide_true, decide_false, c1, gMod_ev (i := v - x) (j := n.step) (by omega), c2, gEq_int, gDiv_ev (i := v - x) (j := n.step) (by omega) (by omega), gLen_tup, List.length_map, gMul_ev (i := (v - x) / n.step) (j := (n.tab.length : Int)) (.inr (by omega)), Numb.len]
      rw [List.map_cons, List.zipIdx_cons, List.map_cons]
      unfold forD
      rw [ea]
      show (ixBody _).bind _ = _
      rw [eb]
      unfold idxGo
      rw [if_pos c]
      rfl
    | false =>
      refine ⟨t5, t6, ?_⟩
      have eb : ixBody [.fz n.d, .fz (.int v), a, .fz (.int n.step), .fz (.tup (n.tab.map D.int)), .fz (.int (r : Int)), .fz (.int x)] = .ok .nx [.fz n.d, .fz (.int v), a, .fz (.int n.step), .fz (.tup (n.tab.map D.int)), .fz (.int (r : Int)), .fz (.int x)] := by
        by_cases c1 : x ≤ v
        · have c2 : ¬ (v - x) % n.step = 0 := fun z => by
            unfold idxC at c
            rw [decide_eq_true c1, decide_eq_true z] at c
            cases c
          simp only [ixBody, sSeq, sNext, sSet, sRet, sRetN, sIf, sFor, sDrop, sRaise, eLst, eTup, aCons, aNil, eCall, eVar, eC, eOp1, eOp2, eAnd, eOr, eNot, eIf, tCmp', tNot', tAnd', tOr', tVal, tChain', eChain, ofO_some, ofT_some, bind_ok, bind_exc, settle_val, settle_fr, settle_sl, settle_exc, viewL, view_val, view_sl, Option.bind_some, Option.map_some, frzL, frz_val, setO, putO, List.set_cons_zero, List.set_cons_succ, List.getElem?_cons_zero, List.getElem?_cons_succ, List.length_cons, List.length_nil, List.replicate, List.cons_append, List.nil_append, SZ, Nat.reduceAdd, Nat.reduceSub, Nat.reduceLeDiff, if_true, ↓reduceIte, fnOf, finR, List.take_succ_cons, List.take_zero, eFn, callF, frzNon, mkSl, ioOk, ioSl, putR, putB, opOf, gInt, gSub_ev, gAdd_ev, gLt_ev, gLe_ev, gGt_ev, gGe_ev, gB, ix0, ix1, ix2, tx0, tx1, tx2, sStI, PF.stI, isBl, sPar, aConsF, hold, setM, Bool.not_true, Bool.not_false, List.contains_nil, Bool.and_true, decide_true, decide_false, c1, gMod_ev (i := v - x) (j := n.step) (by omega), c2, gEq_int]
        · simp only [ixBody, sSeq, sNext, sSet, sRet, sRetN, sIf, sFor, sDrop, sRaise, eLst, eTup, aCons, aNil, eCall, eVar, eC, eOp1, eOp2, eAnd, eOr, eNot, eIf, tCmp', tNot', tAnd', tOr', tVal, tChain', eChain, ofO_some, ofT_some, bind_ok, bind_exc, settle_val, settle_fr, settle_sl, settle_exc, viewL, view_val, view_sl, Option.bind_some, Option.map_some, frzL, frz_val, setO, putO, List.set_cons_zero, List.set_cons_succ, List.getElem?_cons_zero, List.getElem?_cons_succ, List.length_cons, List.length_nil, List.replicate, List.cons_append, List.nil_append, SZ, Nat.reduceAdd, Nat.reduceSub, Nat.reduceLeDiff, if_true, ↓reduceIte, fnOf, finR, List.take_succ_cons, List.take_zero, eFn, callF, frzNon, mkSl, ioOk, ioSl, putR, putB, opOf, gInt, gSub_ev, gAdd_ev, gLt_ev, gLe_ev, gGt_ev, gGe_ev, gB, ix0, ix1, ix2, tx0, tx1, tx2, sStI, PF.stI, isBl, sPar, aConsF, hold, setM, Bool.not_true, Bool.not_false, List.contains_nil, Bool.and_true, decide_true, decide_false, c1]
      rw [List.map_cons, List.zipIdx_cons, List.map_cons]
      unfold forD
      rw [ea]
      show (ixBody _).bind _ = _
      rw [eb]
      unfold idxGo
      rw [if_neg (by rw [c]; decide)]
      exact ih
theorem index_spec {n : Numb} (h : n.Ok) (v : Int) : F_index_of [.fz n.d, .fz (.int v)] = .ok false (oInt (n.idx v)) [.fz n.d, .fz (.int v)] := by
  obtain ⟨s5, s6, e⟩ := ix_loop h.st1 h.st12 h.len3 (v := v) (a := .fz (.str (endS n.near))) n.tab 0 (s5 := .un) (s6 := .un) .un .un
  have g : g_index_of = sSeq (sPat (.tp [(.nm 2), (.nm 3), (.nm 4)]) (eVar 0)) (sSeq (sFor (.tp [(.nm 5), (.nm 6)]) (iEnum (eVar 4)) ixBody) (sRet (eC .non))) := rfl
  have u : asgP (.tp [(.nm 2), (.nm 3), (.nm 4)]) n.d [.fz n.d, .fz (.int v), .un, .un, .un, .un, .un] = some [.fz n.d, .fz (.int v), .fz (.str (endS n.near)), .fz (.int n.step), .fz (.tup (n.tab.map D.int)), .un, .un] := rfl
  have i : iEnum (eVar 4) [.fz n.d, .fz (.int v), .fz (.str (endS n.near)), .fz (.int n.step), .fz (.tup (n.tab.map D.int)), .un, .un] = .ok (enumD (n.tab.map D.int)) [.fz n.d, .fz (.int v), .fz (.str (endS n.near)), .fz (.int n.step), .fz (.tup (n.tab.map D.int)), .un, .un] := rfl
  have e' : forD (.tp [(.nm 5), (.nm 6)]) ixBody (enumD (n.tab.map D.int)) [.fz n.d, .fz (.int v), .fz (.str (endS n.near)), .fz (.int n.step), .fz (.tup (n.tab.map D.int)), .un, .un] = _ := e
  cases c : n.idx v with
  | some k =>
    have c' : idxGo n.step n.len v 0 n.tab = some k := c
    rw [c'] at e'
    simp only [F_index_of, g, sSeq, sNext, sSet, sRet, sRetN, sIf, sFor, sDrop, sRaise, eLst, eTup, aCons, aNil, eCall, eVar, eC, eOp1, eOp2, eAnd, eOr, eNot, eIf, tCmp', tNot', tAnd', tOr', tVal, tChain', eChain, ofO_some, ofT_some, bind_ok, bind_exc, settle_val, settle_fr, settle_sl, settle_exc, viewL, view_val, view_sl, Option.bind_some, Option.map_some, frzL, frz_val, setO, putO, List.set_cons_zero, List.set_cons_succ, List.getElem?_cons_zero, List.getElem?_cons_succ, List.length_cons, List.length_nil, List.replicate, List.cons_append, List.nil_append, SZ, Nat.reduceAdd, Nat.reduceSub, Nat.reduceLeDiff, if_true, ↓reduceIte, fnOf, finR, List.take_succ_cons, List.take_zero, eFn, callF, frzNon, mkSl, ioOk, ioSl, putR, putB, opOf, gInt, gSub_ev, gAdd_ev, gLt_ev, gLe_ev, gGt_ev, gGe_ev, gB, ix0, ix1, ix2, tx0, tx1, tx2, sStI, PF.stI, isBl, sPar, aConsF, hold, setM, Bool.not_true, Bool.not_false, List.contains_nil, Bool.and_true, decide_true, decide_false, sPat, u, i, e', oInt]
  | none =>
    have c' : idxGo n.step n.len v 0 n.tab = none := c
    rw [c'] at e'
    simp only [F_index_of, g, sSeq, sNext, sSet, sRet, sRetN, sIf, sFor, sDrop, sRaise, eLst, eTup, aCons, aNil, eCall, eVar, eC, eOp1, eOp2, eAnd, eOr, eNot, eIf, tCmp', tNot', tAnd', tOr', tVal, tChain', eChain, ofO_some, ofT_some, bind_ok, bind_exc, settle_val, settle_fr, settle_sl, settle_exc, viewL, view_val, view_sl, Option.bind_some, Option.map_some, frzL, frz_val, setO, putO, List.set_cons_zero, List.set_cons_succ, List.getElem?_cons_zero, List.getElem?_cons_succ, List.length_cons, List.length_nil, List.replicate, List.cons_append, List.nil_append, SZ, Nat.reduceAdd, Nat.reduceSub, Nat.reduceLeDiff, if_true, ↓reduceIte, fnOf, finR, List.take_succ_cons, List.take_zero, eFn, callF, frzNon, mkSl, ioOk, ioSl, putR, putB, opOf, gInt, gSub_ev, gAdd_ev, gLt_ev, gLe_ev, gGt_ev, gGe_ev, gB, ix0, ix1, ix2, tx0, tx1, tx2, sStI, PF.stI, isBl, sPar, aConsF, hold, setM, Bool.not_true, Bool.not_false, List.contains_nil, Bool.and_true, decide_true, decide_false, sPat, u, i, e', oInt]
end Wk04
namespace Wk04
open PySem PySem.Spec PyProof.Rows L2 PF
local macro_rules | `(tactic| simp! [$as,*]) => `(tactic| simp only [bind_ok, bind_exc, settle_val, settle_fr, settle_sl, settle_exc, view_val, frz_val, ofO_some, ofT_some, gSub_ev, gAdd_ev, gLt_ev, gLe_ev, gGt_ev, gGe_ev, gEq_int, gNe_int, gMax2_ev, gInt, gLen_lst, gLen_tup, ix0, ix1, ix2, tx0, tx1, tx2, fn_ev, ev_seq, ev_seq1, ev_seq2, ev_seq3, ev_seq4, ev_next, ev_break, ev_cont, ev_s1, ev_set, ev_set1, ev_so, ev_so1, ev_put1, ev_put2, ev_put3, ev_put4, ev_ret, ev_ret1, ev_retn, ev_drop, ev_drop1, ev_if, ev_if1, ev_if2, ev_pat, ev_pat1, ev_pat2, ev_asg1, ev_asg2, ev_asg3, ev_asg4, ev_asg5, ev_asg6, ev_par, ev_par1, ev_setm1, ev_setm2, ev_setm3, ev_raise, ev_for, ev_for1, ev_for2, ev_for4, ev_for5, ev_for6, ev_for7, ev_for8, ev_sti, ev_sti1, ev_sti2, ev_sti3, ev_sti4, ev_sti5, ev_sti6, ev_sti7, ev_app, ev_app1, ev_app2, ev_app3, ev_app4, ev_var, ev_var1, ev_var2, ev_c, ev_frz, ev_frz1, ev_frz2, ev_view, ev_view1, ev_view2, ev_ap2, ev_op2, ev_op2a, ev_op2b, ev_ap1, ev_op1, ev_op1a, ev_anil, ev_acons, ev_acons1, ev_acons2, ev_aconsf, ev_aconsf1, ev_aconsf2, ev_hold1, ev_hold2, ev_hold3, ev_hold4, ev_cons, ev_viewl, ev_viewl1, ev_apl, ev_call, ev_call1, ev_frzl, ev_frzl1, ev_frzl2, ev_frzl3, ev_tup, ev_tup1, ev_tup2, ev_lst, ev_lst1, ev_lst2, ev_and, ev_and1, ev_and2, ev_and3, ev_or, ev_or1, ev_or2, ev_or3, ev_not, ev_not1, ev_eif, ev_eif1, ev_eif2, ev_tval, ev_tval1, ev_tval2, ev_tr1, ev_tr2, ev_tr3, ev_tr4, ev_tr5, ev_tr6, ev_tnot, ev_tnot1, ev_tand, ev_tand1, ev_tand2, ev_tor, ev_tor1, ev_tor2, ev_ap2b, ev_unb, ev_tcmp, ev_tcmp1, ev_tcmp2, ev_tch, ev_tch1, ev_tch2, ev_tch3, ev_tch4, ev_tch5, ev_ech, ev_ech1, ev_ech2, ev_ech3, ev_ech4, ev_onone, ev_osome, ev_osome1, ev_osome2, ev_aps, ev_sl, ev_sl1, ev_sl2, ev_sl3, ev_sl4, ev_sl5, ev_iseq, ev_iseq1, ev_iseq2, ev_iseq3, ev_iseq4, ev_ienum, ev_ienum1, ev_ienum2, ev_ienum3, ev_ienum4, ev_rg1, ev_rg1a, ev_rg1b, ev_rg2, ev_rg2a, ev_rg2b, ev_rg2c, ev_izip, ev_izip1, ev_izip2, ev_izip3, ev_izip6, ev_izip4, ev_izip5, ev_fn1, ev_fn2, ev_fn3, ev_fn4, ev_fn5, ev_fn6, ev_fn7, ev_fun, ev_fun1, ev_fun2, ev_fun3, ev_non1, ev_non2, ev_non2v, ev_non3, ev_non4, ev_non5, ev_mk1, ev_mk2, ev_mk3, ev_mk4, ev_mk5, ev_io1, ev_io2, ev_io3, ev_is1, ev_is2, ev_is3, ev_putr1, ev_putr2, ev_putr3, ev_putr4, ev_putr5, ev_putb1, ev_putb2, ev_putb3, ev_putb4, ev_try, ev_try1, ev_try2, ev_try3, ev_try4, ev_neg, ev_min2, ev_list1, ev_list2, ev_list3, ev_tuple1, ev_tuple2, ev_isn1, ev_isn2, ev_isn3, ev_isn4, ev_isn5, ev_isn6, ev_isnt1, ev_isnt2, ev_isnt3, ev_isnt4, ev_isnt5, ev_isnt6, ev_slt1, ev_slt2, fr_fz, fr_un, fr_ow, fr_ts, ev_wp, ev_nx, ev_fw, ev_asn, ev_new, ev_dp, ev_dp1, ev_dp2, ev_dp3, ev_dp4, ev_dp5, ev_dp6, ev_outn, ev_outs, ev_aso, ev_sett, ev_sett1, ev_sett2, ev_slp1, ev_slp2, ev_aug, ev_aug1, ev_aug2, ev_aug3, ev_lr1, ev_lr2, ev_lr3, ev_ext, ev_ext1, ev_ext2, ev_ext3, List.getElem?_cons_zero, List.getElem?_cons_succ, List.set_cons_zero, List.set_cons_succ, List.length_cons, List.length_nil, List.replicate, List.cons_append, List.nil_append, List.take_succ_cons, List.take_zero, List.contains_nil, List.isEmpty_cons, List.isEmpty_nil, Bool.not_true, Bool.not_false, Bool.and_true, Bool.true_and, Bool.and_false, Bool.false_and, Bool.false_eq_true, if_false, decide_true, decide_false, if_true, ↓reduceIte, and_self, true_and, and_true, false_and, and_false, eq_self, Nat.reduceAdd, Nat.reduceSub, Nat.reduceLeDiff, Nat.reduceLT, Int.reduceLT, Int.reduceLE, Int.reduceAdd, Int.reduceSub, Int.reduceMul, Int.reduceNeg, Int.reduceEq, Int.cast_ofNat_Int, not_true_eq_false, not_false_eq_true, Int.reduceToNat, $as,*])
local macro_rules | `(tactic| simp! [$as,*] at $h:ident) => `(tactic| simp only [bind_ok, bind_exc, settle_val, settle_fr, settle_sl, settle_exc, view_val, frz_val, ofO_some, ofT_some, gSub_ev, gAdd_ev, gLt_ev, gLe_ev, gGt_ev, gGe_ev, gEq_int, gNe_int, gMax2_ev, gInt, gLen_lst, gLen_tup, ix0, ix1, ix2, tx0, tx1, tx2, fn_ev, ev_seq, ev_seq1, ev_seq2, ev_seq3, ev_seq4, ev_next, ev_break, ev_cont, ev_s1, ev_set, ev_set1, ev_so, ev_so1, ev_put1, ev_put2, ev_put3, ev_put4, ev_ret, ev_ret1, ev_retn, ev_drop, ev_drop1, ev_if, ev_if1, ev_if2, ev_pat, ev_pat1, ev_pat2, ev_asg1, ev_asg2, ev_asg3, ev_asg4, ev_asg5, ev_asg6, ev_par, ev_par1, ev_setm1, ev_setm2, ev_setm3, ev_raise, ev_for, ev_for1, ev_for2, ev_for4, ev_for5, ev_for6, ev_for7, ev_for8, ev_sti, ev_sti1, ev_sti2, ev_sti3, ev_sti4, ev_sti5, ev_sti6, ev_sti7, ev_app, ev_app1, ev_app2, ev_app3, ev_app4, ev_var, ev_var1, ev_var2, ev_c, ev_frz, ev_frz1, ev_frz2, ev_view, ev_view1, ev_view2, ev_ap2, ev_op2, ev_op2a, ev_op2b, ev_ap1, ev_op1, ev_op1a, ev_anil, ev_acons, ev_acons1, ev_acons2, ev_aconsf, ev_aconsf1, ev_aconsf2, ev_hold1, ev_hold2, ev_hold3, ev_hold4, ev_cons, ev_viewl, ev_viewl1, ev_apl, ev_call, ev_call1, ev_frzl, ev_frzl1, ev_frzl2, ev_frzl3, ev_tup, ev_tup1, ev_tup2, ev_lst, ev_lst1, ev_lst2, ev_and, ev_and1, ev_and2, ev_and3, ev_or, ev_or1, ev_or2, ev_or3, ev_not, ev_not1, ev_eif, ev_eif1, ev_eif2, ev_tval, ev_tval1, ev_tval2, ev_tr1, ev_tr2, ev_tr3, ev_tr4, ev_tr5, ev_tr6, ev_tnot, ev_tnot1, ev_tand, ev_tand1, ev_tand2, ev_tor, ev_tor1, ev_tor2, ev_ap2b, ev_unb, ev_tcmp, ev_tcmp1, ev_tcmp2, ev_tch, ev_tch1, ev_tch2, ev_tch3, ev_tch4, ev_tch5, ev_ech, ev_ech1, ev_ech2, ev_ech3, ev_ech4, ev_onone, ev_osome, ev_osome1, ev_osome2, ev_aps, ev_sl, ev_sl1, ev_sl2, ev_sl3, ev_sl4, ev_sl5, ev_iseq, ev_iseq1, ev_iseq2, ev_iseq3, ev_iseq4, ev_ienum, ev_ienum1, ev_ienum2, ev_ienum3, ev_ienum4, ev_rg1, ev_rg1a, ev_rg1b, ev_rg2, ev_rg2a, ev_rg2b, ev_rg2c, ev_izip, ev_izip1, ev_izip2, ev_izip3, ev_izip6, ev_izip4, ev_izip5, ev_fn1, ev_fn2, ev_fn3, ev_fn4, ev_fn5, ev_fn6, ev_fn7, ev_fun, ev_fun1, ev_fun2, ev_fun3, ev_non1, ev_non2, ev_non2v, ev_non3, ev_non4, ev_non5, ev_mk1, ev_mk2, ev_mk3, ev_mk4, ev_mk5, ev_io1, ev_io2, ev_io3, ev_is1, ev_is2, ev_is3, ev_putr1, ev_putr2, ev_putr3, ev_putr4, ev_putr5, ev_putb1, ev_putb2, ev_putb3, ev_putb4, ev_try, ev_try1, ev_try2, ev_try3, ev_try4, ev_neg, ev_min2, ev_list1, ev_list2, ev_list3, ev_tuple1, ev_tuple2, ev_isn1, ev_isn2, ev_isn3, ev_isn4, ev_isn5, ev_isn6, ev_isnt1, ev_isnt2, ev_isnt3, ev_isnt4, ev_isnt5, ev_isnt6, ev_slt1, ev_slt2, fr_fz, fr_un, fr_ow, fr_ts, ev_wp, ev_nx, ev_fw, ev_asn, ev_new, ev_dp, ev_dp1, ev_dp2, ev_dp3, ev_dp4, ev_dp5, ev_dp6, ev_outn, ev_outs, ev_aso, ev_sett, ev_sett1, ev_sett2, ev_slp1, ev_slp2, ev_aug, ev_aug1, ev_aug2, ev_aug3, ev_lr1, ev_lr2, ev_lr3, ev_ext, ev_ext1, ev_ext2, ev_ext3, List.getElem?_cons_zero, List.getElem?_cons_succ, List.set_cons_zero, List.set_cons_succ, List.length_cons, List.length_nil, List.replicate, List.cons_append, List.nil_append, List.take_succ_cons, List.take_zero, List.contains_nil, List.isEmpty_cons, List.isEmpty_nil, Bool.not_true, Bool.not_false, Bool.and_true, Bool.true_and, Bool.and_false, Bool.false_and, Bool.false_eq_true, if_false, decide_true, decide_false, if_true, ↓reduceIte, and_self, true_and, and_true, false_and, and_false, eq_self, Nat.reduceAdd, Nat.reduceSub, Nat.reduceLeDiff, Nat.reduceLT, Int.reduceLT, Int.reduceLE, Int.reduceAdd, Int.reduceSub, Int.reduceMul, Int.reduceNeg, Int.reduceEq, Int.cast_ofNat_Int, not_true_eq_false, not_false_eq_true, Int.reduceToNat, $as,*] at $h:ident)
/-! ## what the functions of plans tell (blocks for the functions that the law reaches) -/
theorem range1_ev {f : EF} {en en1 : En} {n : Int} (h : PF.settle (f en) = .ok (.val (.int n)) en1) (h0 : 0 ≤ n) (h1 : n ≤ 16777216) : iRange1 f en = .ok ((rngI 0 n.toNat).map D.int) en1 := by
  have c : -16777216 ≤ n ∧ n ≤ 16777216 := by omega
  simp! [h, c, rng_map]
  rfl
theorem number_of_spec {n : Numb} (h : n.Ok) (M p : Int) : F_number_of [.fz n.d, .fz (.int M), .fz (.int p)] = .ok false (.int (n.no M p)) [.fz n.d, .fz (.int M), .fz (.int p)] := by
  have l : (0 : Int) < (n.tab.length : Int) := h.len_pos
  have l3 := h.len3
  have s1 := h.st1
  have s2 := h.st12
  cases hb : n.near
  all_goals simp! [e_number_of, g_number_of, Numb.d, near_eq, List.length_map, gDiv_ev (j := (n.tab.length : Int)) l (by omega), gMod_ev (j := (n.tab.length : Int)) l, gMul_ev (i := n.step) (.inl (by omega)), at_tab h, hb, Numb.pos, Numb.at, Numb.len, Numb.no, Int.mul_comm n.step]
  all_goals rfl
theorem place_of_spec {n : Numb} (h : n.Ok) (M v : Int) : F_place_of [.fz n.d, .fz (.int M), .fz (.int v)] = .ok false (oInt (n.plc M v)) [.fz n.d, .fz (.int M), .fz (.int v)] := by
  have e := index_spec h v
  have x0 : gIx n.d (.int 0) = some (.val (.str (endS n.near))) := tx0
  unfold Numb.plc
  cases c : n.idx v with
  | none =>
    rw [c] at e
    simp! [e_place_of, g_place_of, e, oInt]
  | some i =>
    rw [c] at e
    by_cases hi : M ≤ i
    · simp! [e_place_of, g_place_of, e, oInt, hi]
    · cases hb : n.near
      all_goals (rw [hb] at x0; simp! [e_place_of, g_place_of, e, oInt, hi, x0, near_eq, Numb.pos, hb])
      all_goals rfl
theorem heir_of_spec {a b : Numb} (h : POk a b) (M p : Int) : F_heir_of [.fz (planD a b), .fz (.int M), .fz (.int p)] = .ok false (oInt (heirP a b M p)) [.fz (planD a b), .fz (.int M), .fz (.int p)] := by
  simp! [e_heir_of, g_heir_of, planD, number_of_spec h.a, place_of_spec h.b, heirP]
theorem giver_of_spec {a b : Numb} (h : POk a b) (M p : Int) : F_giver_of [.fz (planD a b), .fz (.int M), .fz (.int p)] = .ok false (oInt (giverP a b M p)) [.fz (planD a b), .fz (.int M), .fz (.int p)] := by
  simp! [e_giver_of, g_giver_of, planD, number_of_spec h.b, place_of_spec h.a, giverP]
theorem need_ok {a b : Numb} (h : POk a b) : F_need_plan [.fz (planD a b)] = .ok false .non [.fz (planD a b)] := by
  have e := plan_spec h.dat (by decide)
  rw [h.val] at e
  simp! [e_need_plan, g_need_plan, e]
theorem need_bad {n k : Nat} {d : D} (h : Dat n k d) (hn : n ≤ 1000) (hv : planVal d = false) : F_need_plan [.fz d] = .exc "InvalidPlan" none [.fz d] := by
  have e := plan_spec h hn
  rw [hv] at e
  simp! [e_need_plan, g_need_plan, e]
theorem count_ok {M m : Int} (h1 : 1 ≤ M) (h2 : M ≤ m) : F_need_count [.fz (.int M), .fz (.int m)] = .ok false .non [.fz (.int M), .fz (.int m)] := by
  have e := within_spec (Dat.int (n := 0) (k := 0) M) 1 m
  have w : isW (.int M) 1 m = true := by show (decide (1 ≤ M) && decide (M ≤ m)) = true; rw [decide_eq_true h1, decide_eq_true h2]; rfl
  rw [w] at e
  simp! [e_need_count, g_need_count, e]
theorem count_bad {n k : Nat} {d : D} (h : Dat n k d) {m : Int} (hv : isW d 1 m = false) : F_need_count [.fz d, .fz (.int m)] = .exc "InvalidCount" none [.fz d, .fz (.int m)] := by
  have e := within_spec h 1 m
  rw [hv] at e
  simp! [e_need_count, g_need_count, e]
abbrev MOST : Int := 1000000000000000000000000000000
theorem house_ok {a b : Numb} (h : POk a b) {M p : Int} (hM : M ≤ MOST) (h0 : 0 ≤ p) (h1 : p < M) : F_need_house [.fz (planD a b), .fz (.int M), .fz (.int p)] = .ok false .non [.fz (planD a b), .fz (.int M), .fz (.int p)] := by
  have e := within_spec (Dat.int (n := 0) (k := 0) p) 0 (M - 1)
  have w : isW (.int p) 0 (M - 1) = true := by show (decide (0 ≤ p) && decide (p ≤ M - 1)) = true; rw [decide_eq_true h0, decide_eq_true (by omega)]; rfl
  rw [w] at e
  simp! [e_need_house, g_need_house, need_ok h, count_ok (show 1 ≤ M by omega) hM, e]
theorem house_badC {a b : Numb} (h : POk a b) {n k : Nat} {c p : D} (hc : Dat n k c) (hv : isW c 1 MOST = false) : F_need_house [.fz (planD a b), .fz c, .fz p] = .exc "InvalidCount" none [.fz (planD a b), .fz c, .fz p] := by
  simp! [e_need_house, g_need_house, need_ok h, count_bad hc hv]
theorem house_badP {a b : Numb} (h : POk a b) {M : Int} (hM1 : 1 ≤ M) (hM : M ≤ MOST) {n k : Nat} {p : D} (hp : Dat n k p) (hv : isW p 0 (M - 1) = false) : F_need_house [.fz (planD a b), .fz (.int M), .fz p] = .exc "InvalidPlace" none [.fz (planD a b), .fz (.int M), .fz p] := by
  have e := within_spec hp 0 (M - 1)
  rw [hv] at e
  simp! [e_need_house, g_need_house, need_ok h, count_ok hM1 hM, e]
theorem heir_spec {a b : Numb} (h : POk a b) {M p : Int} (hM : M ≤ MOST) (h0 : 0 ≤ p) (h1 : p < M) : F_heir [.fz (planD a b), .fz (.int M), .fz (.int p)] = .ok false (oInt (heirP a b M p)) [.fz (planD a b), .fz (.int M), .fz (.int p)] := by
  simp! [e_heir, g_heir, house_ok h hM h0 h1, heir_of_spec h]
theorem heir_badC {a b : Numb} (h : POk a b) {n k : Nat} {c p : D} (hc : Dat n k c) (hv : isW c 1 MOST = false) : F_heir [.fz (planD a b), .fz c, .fz p] = .exc "InvalidCount" none [.fz (planD a b), .fz c, .fz p] := by
  simp! [e_heir, g_heir, house_badC h hc hv]
theorem giver_spec {a b : Numb} (h : POk a b) {M p : Int} (hM : M ≤ MOST) (h0 : 0 ≤ p) (h1 : p < M) : F_giver [.fz (planD a b), .fz (.int M), .fz (.int p)] = .ok false (oInt (giverP a b M p)) [.fz (planD a b), .fz (.int M), .fz (.int p)] := by
  simp! [e_giver, g_giver, house_ok h hM h0 h1, giver_of_spec h]
theorem giver_badP {a b : Numb} (h : POk a b) {M : Int} (hM1 : 1 ≤ M) (hM : M ≤ MOST) {n k : Nat} {p : D} (hp : Dat n k p) (hv : isW p 0 (M - 1) = false) : F_giver [.fz (planD a b), .fz (.int M), .fz p] = .exc "InvalidPlace" none [.fz (planD a b), .fz (.int M), .fz p] := by
  simp! [e_giver, g_giver, house_badP h hM1 hM hp hv]
theorem period_spec {a b : Numb} (h : POk a b) : F_period_of [.fz (planD a b)] = .ok false (.int (perI a.len b.len)) [.fz (planD a b)] := by
  obtain ⟨na, sa, ta⟩ := a
  obtain ⟨nb, sb, tb⟩ := b
  have a1 : 1 ≤ ta.length := h.a.len1
  have a3 : ta.length ≤ 3 := h.a.len3
  have b1 : 1 ≤ tb.length := h.b.len1
  have b3 : tb.length ≤ 3 := h.b.len3
  clear h
  match ta, tb, a1, a3, b1, b3 with
  | [x], [u], _, _, _, _ => kernel_rfl
  | [x], [u, v], _, _, _, _ => kernel_rfl
  | [x], [u, v, w], _, _, _, _ => kernel_rfl
  | [x, y], [u], _, _, _, _ => kernel_rfl
  | [x, y], [u, v], _, _, _, _ => kernel_rfl
  | [x, y], [u, v, w], _, _, _, _ => kernel_rfl
  | [x, y, z], [u], _, _, _, _ => kernel_rfl
  | [x, y, z], [u, v], _, _, _, _ => kernel_rfl
  | [x, y, z], [u, v, w], _, _, _, _ => kernel_rfl
end Wk04
namespace Wk04
open PySem PySem.Spec PyProof.Rows L2 PF
local macro_rules | `(tactic| simp! [$as,*]) => `(tactic| simp only [bind_ok, bind_exc, settle_val, settle_fr, settle_sl, settle_exc, view_val, frz_val, ofO_some, ofT_some, gSub_ev, gAdd_ev, gLt_ev, gLe_ev, gGt_ev, gGe_ev, gEq_int, gNe_int, gMax2_ev, gInt, gLen_lst, gLen_tup, ix0, ix1, ix2, tx0, tx1, tx2, fn_ev, ev_seq, ev_seq1, ev_seq2, ev_seq3, ev_seq4, ev_next, ev_break, ev_cont, ev_s1, ev_set, ev_set1, ev_so, ev_so1, ev_put1, ev_put2, ev_put3, ev_put4, ev_ret, ev_ret1, ev_retn, ev_drop, ev_drop1, ev_if, ev_if1, ev_if2, ev_pat, ev_pat1, ev_pat2, ev_asg1, ev_asg2, ev_asg3, ev_asg4, ev_asg5, ev_asg6, ev_par, ev_par1, ev_setm1, ev_setm2, ev_setm3, ev_raise, ev_for, ev_for1, ev_for2, ev_for4, ev_for5, ev_for6, ev_for7, ev_for8, ev_sti, ev_sti1, ev_sti2, ev_sti3, ev_sti4, ev_sti5, ev_sti6, ev_sti7, ev_app, ev_app1, ev_app2, ev_app3, ev_app4, ev_var, ev_var1, ev_var2, ev_c, ev_frz, ev_frz1, ev_frz2, ev_view, ev_view1, ev_view2, ev_ap2, ev_op2, ev_op2a, ev_op2b, ev_ap1, ev_op1, ev_op1a, ev_anil, ev_acons, ev_acons1, ev_acons2, ev_aconsf, ev_aconsf1, ev_aconsf2, ev_hold1, ev_hold2, ev_hold3, ev_hold4, ev_cons, ev_viewl, ev_viewl1, ev_apl, ev_call, ev_call1, ev_frzl, ev_frzl1, ev_frzl2, ev_frzl3, ev_tup, ev_tup1, ev_tup2, ev_lst, ev_lst1, ev_lst2, ev_and, ev_and1, ev_and2, ev_and3, ev_or, ev_or1, ev_or2, ev_or3, ev_not, ev_not1, ev_eif, ev_eif1, ev_eif2, ev_tval, ev_tval1, ev_tval2, ev_tr1, ev_tr2, ev_tr3, ev_tr4, ev_tr5, ev_tr6, ev_tnot, ev_tnot1, ev_tand, ev_tand1, ev_tand2, ev_tor, ev_tor1, ev_tor2, ev_ap2b, ev_unb, ev_tcmp, ev_tcmp1, ev_tcmp2, ev_tch, ev_tch1, ev_tch2, ev_tch3, ev_tch4, ev_tch5, ev_ech, ev_ech1, ev_ech2, ev_ech3, ev_ech4, ev_onone, ev_osome, ev_osome1, ev_osome2, ev_aps, ev_sl, ev_sl1, ev_sl2, ev_sl3, ev_sl4, ev_sl5, ev_iseq, ev_iseq1, ev_iseq2, ev_iseq3, ev_iseq4, ev_ienum, ev_ienum1, ev_ienum2, ev_ienum3, ev_ienum4, ev_rg1, ev_rg1a, ev_rg1b, ev_rg2, ev_rg2a, ev_rg2b, ev_rg2c, ev_izip, ev_izip1, ev_izip2, ev_izip3, ev_izip6, ev_izip4, ev_izip5, ev_fn1, ev_fn2, ev_fn3, ev_fn4, ev_fn5, ev_fn6, ev_fn7, ev_fun, ev_fun1, ev_fun2, ev_fun3, ev_non1, ev_non2, ev_non2v, ev_non3, ev_non4, ev_non5, ev_mk1, ev_mk2, ev_mk3, ev_mk4, ev_mk5, ev_io1, ev_io2, ev_io3, ev_is1, ev_is2, ev_is3, ev_putr1, ev_putr2, ev_putr3, ev_putr4, ev_putr5, ev_putb1, ev_putb2, ev_putb3, ev_putb4, ev_try, ev_try1, ev_try2, ev_try3, ev_try4, ev_neg, ev_min2, ev_list1, ev_list2, ev_list3, ev_tuple1, ev_tuple2, ev_isn1, ev_isn2, ev_isn3, ev_isn4, ev_isn5, ev_isn6, ev_isnt1, ev_isnt2, ev_isnt3, ev_isnt4, ev_isnt5, ev_isnt6, ev_slt1, ev_slt2, fr_fz, fr_un, fr_ow, fr_ts, ev_wp, ev_nx, ev_fw, ev_asn, ev_new, ev_dp, ev_dp1, ev_dp2, ev_dp3, ev_dp4, ev_dp5, ev_dp6, ev_outn, ev_outs, ev_aso, ev_sett, ev_sett1, ev_sett2, ev_slp1, ev_slp2, ev_aug, ev_aug1, ev_aug2, ev_aug3, ev_lr1, ev_lr2, ev_lr3, ev_ext, ev_ext1, ev_ext2, ev_ext3, List.getElem?_cons_zero, List.getElem?_cons_succ, List.set_cons_zero, List.set_cons_succ, List.length_cons, List.length_nil, List.replicate, List.cons_append, List.nil_append, List.take_succ_cons, List.take_zero, List.contains_nil, List.isEmpty_cons, List.isEmpty_nil, Bool.not_true, Bool.not_false, Bool.and_true, Bool.true_and, Bool.and_false, Bool.false_and, Bool.false_eq_true, if_false, decide_true, decide_false, if_true, ↓reduceIte, and_self, true_and, and_true, false_and, and_false, eq_self, Nat.reduceAdd, Nat.reduceSub, Nat.reduceLeDiff, Nat.reduceLT, Int.reduceLT, Int.reduceLE, Int.reduceAdd, Int.reduceSub, Int.reduceMul, Int.reduceNeg, Int.reduceEq, Int.cast_ofNat_Int, not_true_eq_false, not_false_eq_true, Int.reduceToNat, $as,*])
local macro_rules | `(tactic| simp! [$as,*] at $h:ident) => `(tactic| simp only [bind_ok, bind_exc, settle_val, settle_fr, settle_sl, settle_exc, view_val, frz_val, ofO_some, ofT_some, gSub_ev, gAdd_ev, gLt_ev, gLe_ev, gGt_ev, gGe_ev, gEq_int, gNe_int, gMax2_ev, gInt, gLen_lst, gLen_tup, ix0, ix1, ix2, tx0, tx1, tx2, fn_ev, ev_seq, ev_seq1, ev_seq2, ev_seq3, ev_seq4, ev_next, ev_break, ev_cont, ev_s1, ev_set, ev_set1, ev_so, ev_so1, ev_put1, ev_put2, ev_put3, ev_put4, ev_ret, ev_ret1, ev_retn, ev_drop, ev_drop1, ev_if, ev_if1, ev_if2, ev_pat, ev_pat1, ev_pat2, ev_asg1, ev_asg2, ev_asg3, ev_asg4, ev_asg5, ev_asg6, ev_par, ev_par1, ev_setm1, ev_setm2, ev_setm3, ev_raise, ev_for, ev_for1, ev_for2, ev_for4, ev_for5, ev_for6, ev_for7, ev_for8, ev_sti, ev_sti1, ev_sti2, ev_sti3, ev_sti4, ev_sti5, ev_sti6, ev_sti7, ev_app, ev_app1, ev_app2, ev_app3, ev_app4, ev_var, ev_var1, ev_var2, ev_c, ev_frz, ev_frz1, ev_frz2, ev_view, ev_view1, ev_view2, ev_ap2, ev_op2, ev_op2a, ev_op2b, ev_ap1, ev_op1, ev_op1a, ev_anil, ev_acons, ev_acons1, ev_acons2, ev_aconsf, ev_aconsf1, ev_aconsf2, ev_hold1, ev_hold2, ev_hold3, ev_hold4, ev_cons, ev_viewl, ev_viewl1, ev_apl, ev_call, ev_call1, ev_frzl, ev_frzl1, ev_frzl2, ev_frzl3, ev_tup, ev_tup1, ev_tup2, ev_lst, ev_lst1, ev_lst2, ev_and, ev_and1, ev_and2, ev_and3, ev_or, ev_or1, ev_or2, ev_or3, ev_not, ev_not1, ev_eif, ev_eif1, ev_eif2, ev_tval, ev_tval1, ev_tval2, ev_tr1, ev_tr2, ev_tr3, ev_tr4, ev_tr5, ev_tr6, ev_tnot, ev_tnot1, ev_tand, ev_tand1, ev_tand2, ev_tor, ev_tor1, ev_tor2, ev_ap2b, ev_unb, ev_tcmp, ev_tcmp1, ev_tcmp2, ev_tch, ev_tch1, ev_tch2, ev_tch3, ev_tch4, ev_tch5, ev_ech, ev_ech1, ev_ech2, ev_ech3, ev_ech4, ev_onone, ev_osome, ev_osome1, ev_osome2, ev_aps, ev_sl, ev_sl1, ev_sl2, ev_sl3, ev_sl4, ev_sl5, ev_iseq, ev_iseq1, ev_iseq2, ev_iseq3, ev_iseq4, ev_ienum, ev_ienum1, ev_ienum2, ev_ienum3, ev_ienum4, ev_rg1, ev_rg1a, ev_rg1b, ev_rg2, ev_rg2a, ev_rg2b, ev_rg2c, ev_izip, ev_izip1, ev_izip2, ev_izip3, ev_izip6, ev_izip4, ev_izip5, ev_fn1, ev_fn2, ev_fn3, ev_fn4, ev_fn5, ev_fn6, ev_fn7, ev_fun, ev_fun1, ev_fun2, ev_fun3, ev_non1, ev_non2, ev_non2v, ev_non3, ev_non4, ev_non5, ev_mk1, ev_mk2, ev_mk3, ev_mk4, ev_mk5, ev_io1, ev_io2, ev_io3, ev_is1, ev_is2, ev_is3, ev_putr1, ev_putr2, ev_putr3, ev_putr4, ev_putr5, ev_putb1, ev_putb2, ev_putb3, ev_putb4, ev_try, ev_try1, ev_try2, ev_try3, ev_try4, ev_neg, ev_min2, ev_list1, ev_list2, ev_list3, ev_tuple1, ev_tuple2, ev_isn1, ev_isn2, ev_isn3, ev_isn4, ev_isn5, ev_isn6, ev_isnt1, ev_isnt2, ev_isnt3, ev_isnt4, ev_isnt5, ev_isnt6, ev_slt1, ev_slt2, fr_fz, fr_un, fr_ow, fr_ts, ev_wp, ev_nx, ev_fw, ev_asn, ev_new, ev_dp, ev_dp1, ev_dp2, ev_dp3, ev_dp4, ev_dp5, ev_dp6, ev_outn, ev_outs, ev_aso, ev_sett, ev_sett1, ev_sett2, ev_slp1, ev_slp2, ev_aug, ev_aug1, ev_aug2, ev_aug3, ev_lr1, ev_lr2, ev_lr3, ev_ext, ev_ext1, ev_ext2, ev_ext3, List.getElem?_cons_zero, List.getElem?_cons_succ, List.set_cons_zero, List.set_cons_succ, List.length_cons, List.length_nil, List.replicate, List.cons_append, List.nil_append, List.take_succ_cons, List.take_zero, List.contains_nil, List.isEmpty_cons, List.isEmpty_nil, Bool.not_true, Bool.not_false, Bool.and_true, Bool.true_and, Bool.and_false, Bool.false_and, Bool.false_eq_true, if_false, decide_true, decide_false, if_true, ↓reduceIte, and_self, true_and, and_true, false_and, and_false, eq_self, Nat.reduceAdd, Nat.reduceSub, Nat.reduceLeDiff, Nat.reduceLT, Int.reduceLT, Int.reduceLE, Int.reduceAdd, Int.reduceSub, Int.reduceMul, Int.reduceNeg, Int.reduceEq, Int.cast_ofNat_Int, not_true_eq_false, not_false_eq_true, Int.reduceToNat, $as,*] at $h:ident)
/-! ## walks -/
theorem wInt_s {i : Int} : oInt (some i) = .int i := rfl
theorem wInt_n : oInt none = .non := rfl
theorem wIs {o : Option Int} : gIs (oInt o) .non = some (.val (.bl o.isNone)) := by cases o <;> rfl
theorem step_spec {a b : Numb} (h : POk a b) (M p : Int) (ah : Bool) : F_step_of [.fz (planD a b), .fz (.int M), .fz (.int p), .fz (.bl ah)] = .ok false (oInt (stepP a b M ah p)) [.fz (planD a b), .fz (.int M), .fz (.int p), .fz (.bl ah)] := by
  have e1 := heir_of_spec h M p
  have e2 := giver_of_spec h M p
  cases ah with
  | true => simp! [e_step_of, g_step_of, e1, stepP]
  | false => simp! [e_step_of, g_step_of, e2, stepP]
def roomW (nx : Int → Option Int) (M p : Int) (e : Bool) (g : Int) (i : Nat) : Int := room M (qf nx p i) (mo e g i)
def LpInv (P Mc R : Sl) (nx : Int → Option Int) (M p : Int) (e : Bool) (g : Int) (j : Nat) (en : En) : Prop := ∃ t5 t6 t7, en = [P, Mc, R, .fz (.int g), .ow false (.lst (((List.range j).map (roomW nx M p e g)).map D.int)), t5, t6, t7] ∧ Free t5 ∧ Free t6 ∧ Free t7
theorem leap_turn {a b : Numb} {R : Sl} {nx : Int → Option Int} {M p g : Int} {j : Nat} (hg : g ≠ 0) (hb : -(10 ^ 40) ≤ g ∧ g ≤ 10 ^ 40) (hj : j < 1000) {en : En} (hI : LpInv (.fz (planD a b)) (.fz (.int M)) R nx M p (a.near == b.near) g j en) : AsN (asgP (.tp [.nm 5, .nm 6]) (.tup [.int (j : Int), .int (qf nx p j)]) en) leap_b0 (LpInv (.fz (planD a b)) (.fz (.int M)) R nx M p (a.near == b.near) g (j + 1)) := by
  obtain ⟨t5, t6, t7, rfl, f5, f6, f7⟩ := hI
  have la : (((List.range j).map (roomW nx M p (a.near == b.near) g)).map D.int).length < 16777216 := by
    rw [List.length_map, List.length_map, List.length_range]
    omega
  have es : ((List.range (j + 1)).map (roomW nx M p (a.near == b.near) g)).map D.int = ((List.range j).map (roomW nx M p (a.near == b.near) g)).map D.int ++ [.int (room M (qf nx p j) (mo (a.near == b.near) g j))] := by
    rw [List.range_succ, List.map_append, List.map_append]
    rfl
  have m2 : gMod (.int (j : Int)) (.int 2) = some (.val (.int ((j : Int) % 2))) := gMod_ev (by decide)
  have pa : gIx (.tup [a.d, b.d]) (.int 0) = some (.val a.d) := tx0
  have pb : gIx (.tup [a.d, b.d]) (.int 1) = some (.val b.d) := tx1
  have na : gIx a.d (.int 0) = some (.val (.str (endS a.near))) := tx0
  have nb : gIx b.d (.int 0) = some (.val (.str (endS b.near))) := tx0
  have ne := end_eq a.near b.near
  -- the shift of this place
  have key : ∀ s : Int, s ≠ 0 → -(10 ^ 40) ≤ s → s ≤ 10 ^ 40 → Nx (sApp 4 (eIf (tCmp' gGt (eVar 7) (eC (.int 0))) (eOp2 gDiv (eOp2 gSub (eOp2 gSub (eVar 1) (eC (.int 1))) (eVar 6)) (eVar 7)) (eOp2 gDiv (eVar 6) (eOp1 gNeg (eVar 7)))) [.fz (planD a b), .fz (.int M), R, .fz (.int g), .ow false (.lst (((List.range j).map (roomW nx M p (a.near == b.near) g)).map D.int)), .fz (.int (j : Int)), .fz (.int (qf nx p j)), .fz (.int s)]) fun en => en = [.fz (planD a b), .fz (.int M), R, .fz (.int g), .ow false (.lst (((List.range j).map (roomW nx M p (a.near == b.near) g)).map D.int ++ [.int (room M (qf nx p j) s)])), .fz (.int (j : Int)), .fz (.int (qf nx p j)), .fz (.int s)] := fun s s0 s1 s2 => by
    unfold room
    by_cases c : 0 < s
    · have dv : gDiv (.int (M - 1 - qf nx p j)) (.int s) = some (.val (.int ((M - 1 - qf nx p j) / s))) := gDiv_ev c s2
      rw [if_pos c]
      simp! [decide_eq_true c, dv, la]
    · have dv : gDiv (.int (qf nx p j)) (.int (-s)) = some (.val (.int (qf nx p j / -s))) := gDiv_ev (by omega) (by omega)
      rw [if_neg c]
      simp! [decide_eq_false c, dv, la]
  have fin : ∀ s : Int, s = mo (a.near == b.near) g j → Nx (sApp 4 (eIf (tCmp' gGt (eVar 7) (eC (.int 0))) (eOp2 gDiv (eOp2 gSub (eOp2 gSub (eVar 1) (eC (.int 1))) (eVar 6)) (eVar 7)) (eOp2 gDiv (eVar 6) (eOp1 gNeg (eVar 7)))) [.fz (planD a b), .fz (.int M), R, .fz (.int g), .ow false (.lst (((List.range j).map (roomW nx M p (a.near == b.near) g)).map D.int)), .fz (.int (j : Int)), .fz (.int (qf nx p j)), .fz (.int s)]) (LpInv (.fz (planD a b)) (.fz (.int M)) R nx M p (a.near == b.near) g (j + 1)) := fun s es2 => by
    refine (key s ?_ ?_ ?_).mono fun en he => ?_
    · rw [es2]; exact mo_ne hg
    · rw [es2]; unfold mo; split <;> omega
    · rw [es2]; unfold mo; split <;> omega
    · subst he
      rw [es2, ← es]
      exact ⟨_, _, _, rfl, .fz, .fz, .fz⟩
  have er : planD a b = .tup [a.d, b.d] := rfl
  have f7' := f7
  simp! [f5, f6]
  unfold leap_b0
  by_cases c1 : (j : Int) % 2 = 0
  · refine Nx.seq (P := fun en => en = [.fz (planD a b), .fz (.int M), R, .fz (.int g), .ow false (.lst (((List.range j).map (roomW nx M p (a.near == b.near) g)).map D.int)), .fz (.int (j : Int)), .fz (.int (qf nx p j)), .fz (.int g)]) (by simp! [f7, m2, decide_eq_true c1]) fun en he => ?_
    subst he
    exact fin g (by unfold mo; rw [if_pos (.inl (by omega))])
  · by_cases c2 : a.near = b.near
    · have ee : (a.near == b.near) = true := by rw [c2]; cases b.near <;> rfl
      rw [ee] at ne
      refine Nx.seq (P := fun en => en = [.fz (planD a b), .fz (.int M), R, .fz (.int g), .ow false (.lst (((List.range j).map (roomW nx M p (a.near == b.near) g)).map D.int)), .fz (.int (j : Int)), .fz (.int (qf nx p j)), .fz (.int g)]) (by
        rw [er]
        generalize a.d = da at *
        generalize b.d = db at *
        simp! [f7, m2, decide_eq_false c1, pa, pb, na, nb, ne]) fun en he => ?_
      subst he
      exact fin g (by unfold mo; rw [if_pos (.inr ee)])
    · have ee : (a.near == b.near) = false := by revert c2; cases a.near <;> cases b.near <;> simp
      rw [ee] at ne
      refine Nx.seq (P := fun en => en = [.fz (planD a b), .fz (.int M), R, .fz (.int g), .ow false (.lst (((List.range j).map (roomW nx M p (a.near == b.near) g)).map D.int)), .fz (.int (j : Int)), .fz (.int (qf nx p j)), .fz (.int (-g))]) (by
        rw [er]
        generalize a.d = da at *
        generalize b.d = db at *
        simp! [f7, m2, decide_eq_false c1, pa, pb, na, nb, ne]) fun en he => ?_
      subst he
      exact fin (-g) (by
        unfold mo
        rw [if_neg (fun z => by
          rcases z with z | z
          · omega
          · rw [ee] at z; cases z)])
theorem leap_spec {a b : Numb} {nx : Int → Option Int} {M p : Int} {k : Nat} (hk : k < 100) (hg : qf nx p k - p ≠ 0) (hb : -(10 ^ 40) ≤ qf nx p k - p ∧ qf nx p k - p ≤ 10 ^ 40) : ∃ many : Int, F_leap [.fz (planD a b), .fz (.int M), .fz (.lst (rowW nx p k))] = .ok false (.int many) [.fz (planD a b), .fz (.int M), .fz (.lst (rowW nx p k))] ∧ (∀ i ≤ k, many ≤ roomW nx M p (a.near == b.near) (qf nx p k - p) i) ∧ ∃ i ≤ k, many = roomW nx M p (a.near == b.near) (qf nx p k - p) i := by
  have l1 := rowW_last (nx := nx) (p := p) (m := k)
  have l0 := rowW_0 (nx := nx) (p := p) (m := k)
  have en : enumD (rowW nx p k) = (List.range (k + 1)).map fun (i : Nat) => D.tup [.int (i : Int), .int (qf nx p i)] := by
    have e1 : rowW nx p k = (rngI 0 (k + 1)).map fun i => D.int (qf nx p i.toNat) := by
      unfold rowW rngI
      rw [List.map_map]
      refine List.map_congr_left fun i _ => ?_
      simp
    rw [e1, enumD_rng]
    unfold rngI
    rw [List.map_map]
    refine List.map_congr_left fun i _ => ?_
    simp
  have start : LpInv (.fz (planD a b)) (.fz (.int M)) (.fz (.lst (rowW nx p k))) nx M p (a.near == b.near) (qf nx p k - p) 0 [.fz (planD a b), .fz (.int M), .fz (.lst (rowW nx p k)), .fz (.int (qf nx p k - p)), .ow false (.lst []), .un, .un, .un] := ⟨_, _, _, rfl, .un, .un, .un⟩
  have lp := Nx.forI (p := .tp [.nm 5, .nm 6]) (f := leap_b0) (I := LpInv (.fz (planD a b)) (.fz (.int M)) (.fz (.lst (rowW nx p k))) nx M p (a.near == b.near) (qf nx p k - p)) (ds := (List.range (k + 1)).map fun (i : Nat) => D.tup [.int (i : Int), .int (qf nx p i)]) 0 start (fun i d en hd hI => by
    rw [List.getElem?_map] at hd
    by_cases hi : i < k + 1
    · rw [List.getElem?_range hi] at hd
      cases hd
      rw [Nat.zero_add] at hI ⊢
      exact leap_turn hg hb (by omega) hI
    · rw [List.getElem?_eq_none (by simpa using Nat.le_of_not_lt hi)] at hd
      cases hd)
  rw [List.length_map, List.length_range, Nat.zero_add] at lp
  obtain ⟨en1, e1, t5, t6, t7, rfl, _⟩ := lp
  obtain ⟨m, e2, hm, hm2⟩ := gMin_ev (xs := (List.range (k + 1)).map (roomW nx M p (a.near == b.near) (qf nx p k - p))) (by rw [List.range_succ]; simp)
  refine ⟨m, ?_, fun i hi => hm2 _ (List.mem_map.mpr ⟨i, List.mem_range.mpr (by omega), rfl⟩), ?_⟩
  · rw [e_leap]
    unfold g_leap
    have i0 : leap_i0 [.fz (planD a b), .fz (.int M), .fz (.lst (rowW nx p k)), .fz (.int (qf nx p k - p)), .ow false (.lst []), .un, .un, .un] = .ok ((List.range (k + 1)).map fun (i : Nat) => D.tup [.int (i : Int), .int (qf nx p i)]) [.fz (planD a b), .fz (.int M), .fz (.lst (rowW nx p k)), .fz (.int (qf nx p k - p)), .ow false (.lst []), .un, .un, .un] := by
      rw [← en]
      generalize rowW nx p k = rr
      simp! [leap_i0]
    generalize (List.range (k + 1)).map (fun (i : Nat) => D.tup [.int (i : Int), .int (qf nx p i)]) = ee at *
    generalize ((List.range (k + 1)).map (roomW nx M p (a.near == b.near) (qf nx p k - p))).map D.int = mm at *
    generalize rowW nx p k = rr at *
    generalize planD a b = pp at *
    simp! [l1, l0, i0, e1, e2]
  · obtain ⟨i, hi, e⟩ := List.mem_map.mp hm
    exact ⟨i, by have := List.mem_range.mp hi; omega, e.symm⟩
abbrev stW (a b : Numb) (M p : Int) (ah : Bool) (r : List Sl) : En := .fz (planD a b) :: .fz (.int M) :: .fz (.int p) :: .fz (.bl ah) :: r
def W1 (a b : Numb) (M p : Int) (ah : Bool) (nx : Int → Option Int) (r : SR) : Prop :=
  (∃ (k : Nat) (l : Int) (u : List Sl), r = .ok (.rt (.val (.tup [.bl false, .int (k : Int), .int l]))) (stW a b M p ah u) ∧ PathTo nx p k l) ∨
  (∃ (k : Nat) (u : List Sl), r = .ok (.rt (.val (.tup [.bl true, .int (k : Int), .int p]))) (stW a b M p ah u) ∧ k ≤ 13 ∧ RingAt nx p k) ∨
  (∃ (k : Nat) (t6 t7 : Sl), r = .ok .nx (stW a b M p ah [.fz (.int (perI a.len b.len)), .ow false (.lst (rowW nx p k)), t6, t7, .un, .un, .un]) ∧ Free t6 ∧ k ≤ 12 ∧ (∀ i ≤ k, iter nx i p = some (qf nx p i)) ∧ (qf nx p k - p) % perI a.len b.len = 0 ∧ qf nx p k - p ≠ 0 ∧ (k % 2 = 0 ∨ (a.near == b.near) = true))
theorem walk_loop1 {a b : Numb} (h : POk a b) {M p : Int} (p0 : 0 ≤ p) (p1 : p < M) (ah : Bool) : ∀ (n m fuel : Nat) {t6 t7 : Sl}, m + n = 2 * (perI a.len b.len).toNat → n < fuel → (∀ i ≤ m, iter (stepP a b M ah) i p = some (qf (stepP a b M ah) p i)) → (∀ i, 0 < i → i ≤ m → qf (stepP a b M ah) p i ≠ p) → (∀ i, 0 < i → i ≤ m → i % 2 = 0 → (qf (stepP a b M ah) p i - p) % perI a.len b.len ≠ 0) → Free t6 → Free t7 →
    W1 a b M p ah (stepP a b M ah) (whileN walk_t0 walk_b0 fuel (stW a b M p ah [.fz (.int (perI a.len b.len)), .ow false (.lst (rowW (stepP a b M ah) p m)), t6, t7, .un, .un, .un]))
  | 0, m, _, t6, t7, hm, hf, h1, h2, h3, f6, f7 => by
    exfalso
    obtain ⟨c, g⟩ := step_glid h M ah
    have e : m = 2 * (perI a.len b.len).toNat := by omega
    subst e
    exact g.back p0 p1 h1 h3
  | n + 1, m, 0, t6, t7, hm, hf, h1, h2, h3, f6, f7 => absurd hf (Nat.not_lt_zero _)
  | n + 1, m, fuel + 1, t6, t7, hm, hf, h1, h2, h3, f6, f7 => by
    obtain ⟨s1, s6⟩ := per_bnd h
    have st := step_spec h M (qf (stepP a b M ah) p m) ah
    have rl := rowW_last (nx := stepP a b M ah) (p := p) (m := m)
    have ll : ((rowW (stepP a b M ah) p m).length : Int) = (m : Int) + 1 := by rw [rowW_len]; omega
    have la : (rowW (stepP a b M ah) p m).length < 16777216 := by rw [rowW_len]; omega
    have ih := fun q hq {t6 t7 : Sl} => walk_loop1 h p0 p1 ah n (m + 1) fuel (t6 := t6) (t7 := t7) (by omega) (by omega) q hq
    have mu : gMul (.int 2) (.int (perI a.len b.len)) = some (.val (.int (2 * perI a.len b.len))) := gMul_ev (.inl (by decide))
    have le : (m : Int) + 1 ≤ 2 * perI a.len b.len := by omega
    have rs := rowW_succ (nx := stepP a b M ah) (p := p) (m := m)
    have it := iter_step (h1 m (Nat.le_refl _))
    have md : ∀ x : Int, gMod (.int x) (.int (perI a.len b.len)) = some (.val (.int (x % perI a.len b.len))) := fun x => gMod_ev (by omega)
    have m2 : ∀ x : Int, gMod (.int x) (.int 2) = some (.val (.int (x % 2))) := fun x => gMod_ev (by decide)
    have pa : gIx (.tup [a.d, b.d]) (.int 0) = some (.val a.d) := tx0
    have pb : gIx (.tup [a.d, b.d]) (.int 1) = some (.val b.d) := tx1
    have na : gIx a.d (.int 0) = some (.val (.str (endS a.near))) := tx0
    have nb : gIx b.d (.int 0) = some (.val (.str (endS b.near))) := tx0
    have ne := end_eq a.near b.near
    have er : planD a b = .tup [a.d, b.d] := rfl
    cases c : stepP a b M ah (qf (stepP a b M ah) p m) with
    | none =>
      rw [c, wInt_n] at st
      refine .inl ⟨m, qf (stepP a b M ah) p m, [.fz (.int (perI a.len b.len)), .ow false (.lst (rowW (stepP a b M ah) p m)), .fz .non, t7, .un, .un, .un], ?_, h1 m (Nat.le_refl _), c⟩
      rw [whileN]
      unfold stW
      generalize rowW (stepP a b M ah) p m = rr at *
      generalize planD a b = pp at *
      have e1 : (m : Int) + 1 - 1 = m := by omega
      simp! [walk_t0, walk_b0, ll, mu, decide_eq_true le, st, rl, f6, e1]
    | some y =>
      rw [c, wInt_s] at st
      rw [c] at it
      have qy := qf_some it
      by_cases cy : y = p
      · refine .inr (.inl ⟨m + 1, [.fz (.int (perI a.len b.len)), .ow false (.lst (rowW (stepP a b M ah) p m)), .fz (.int y), t7, .un, .un, .un], ?_, by omega, by omega, by rw [it, cy], fun i i0 i1 e => h2 i i0 (by omega) (qf_some e)⟩)
        have nn : gIs (.int y) .non = some (.val (.bl false)) := rfl
        rw [whileN, show ((m + 1 : Nat) : Int) = (m : Int) + 1 by omega]
        unfold stW
        generalize rowW (stepP a b M ah) p m = rr at *
        generalize planD a b = pp at *
        simp! [walk_t0, walk_b0, ll, mu, decide_eq_true le, st, rl, f6, nn, decide_eq_true cy]
      · have nn : gIs (.int y) .non = some (.val (.bl false)) := rfl
        rw [qy] at rs
        have l2 : ((rowW (stepP a b M ah) p m ++ [D.int y]).length : Int) = (m : Int) + 2 := by rw [List.length_append, rowW_len]; simp only [List.length_singleton]; omega
        have g1 : ∀ i ≤ m + 1, iter (stepP a b M ah) i p = some (qf (stepP a b M ah) p i) := fun i hi => by
          by_cases e : i = m + 1
          · subst e; rw [it, qy]
          · exact h1 i (by omega)
        have g2 : ∀ i, 0 < i → i ≤ m + 1 → qf (stepP a b M ah) p i ≠ p := fun i i0 hi => by
          by_cases e : i = m + 1
          · subst e; rw [qy]; exact cy
          · exact h2 i i0 (by omega)
        by_cases al : (y - p) % perI a.len b.len = 0 ∧ ((a.near == b.near) = true ∨ ((m : Int) + 2) % 2 = 1)
        · refine .inr (.inr ⟨m + 1, .fz (.int y), .fz (.bl true), ?_, .fz, by omega, g1, by rw [qy]; exact al.1, by rw [qy]; omega, ?_⟩)
          · rw [whileN, rs]
            unfold stW
            generalize rowW (stepP a b M ah) p m = rr at *
            by_cases ee : (a.near == b.near) = true
            · rw [ee] at ne
              rw [er] at st ⊢
              generalize a.d = da at *
              generalize b.d = db at *
              simp! [walk_t0, walk_b0, ll, l2, la, mu, decide_eq_true le, st, rl, f6, f7, nn, decide_eq_false cy, md, m2, decide_eq_true al.1, pa, pb, na, nb, ne]
            · have eo := al.2.resolve_left ee
              rw [Bool.not_eq_true] at ee
              rw [ee] at ne
              rw [er] at st ⊢
              generalize a.d = da at *
              generalize b.d = db at *
              simp! [walk_t0, walk_b0, ll, l2, la, mu, decide_eq_true le, st, rl, f6, f7, nn, decide_eq_false cy, md, m2, decide_eq_true al.1, pa, pb, na, nb, ne, decide_eq_true eo]
          · rcases al.2 with z | z
            · exact .inr z
            · exact .inl (by omega)
        · have g3 : ∀ i, 0 < i → i ≤ m + 1 → i % 2 = 0 → (qf (stepP a b M ah) p i - p) % perI a.len b.len ≠ 0 := fun i i0 hi ev => by
            by_cases e : i = m + 1
            · subst e; rw [qy]; exact fun z => al ⟨z, .inr (by omega)⟩
            · exact h3 i i0 (by omega) ev
          have ih := ih g1 g2 g3 (t6 := .fz (.int y)) (t7 := .fz (.bl (decide ((y - p) % perI a.len b.len = 0)))) .fz .fz
          rw [rs] at ih
          have e : whileN walk_t0 walk_b0 (fuel + 1) (stW a b M p ah [.fz (.int (perI a.len b.len)), .ow false (.lst (rowW (stepP a b M ah) p m)), t6, t7, .un, .un, .un]) = whileN walk_t0 walk_b0 fuel (stW a b M p ah [.fz (.int (perI a.len b.len)), .ow false (.lst (rowW (stepP a b M ah) p m ++ [D.int y])), .fz (.int y), .fz (.bl (decide ((y - p) % perI a.len b.len = 0))), .un, .un, .un]) := by
            rw [whileN]
            unfold stW
            generalize rowW (stepP a b M ah) p m = rr at *
            clear ih
            by_cases z : (y - p) % perI a.len b.len = 0
            · have z1 : (a.near == b.near) = false := by
                cases ee : (a.near == b.near) with
                | true => exact absurd ⟨z, .inl ee⟩ al
                | false => rfl
              have z2 : ¬((m : Int) + 2) % 2 = 1 := fun k => al ⟨z, .inr k⟩
              rw [z1] at ne
              rw [er] at st ⊢
              generalize a.d = da at *
              generalize b.d = db at *
              simp! [walk_t0, walk_b0, ll, l2, la, mu, decide_eq_true le, st, rl, f6, f7, nn, decide_eq_false cy, md, m2, decide_eq_true z, pa, pb, na, nb, ne, decide_eq_false z2]
            · rw [er] at st ⊢
              generalize a.d = da at *
              generalize b.d = db at *
              simp! [walk_t0, walk_b0, ll, l2, la, mu, decide_eq_true le, st, rl, f6, f7, nn, decide_eq_false cy, md, m2, decide_eq_false z]
          rw [e]
          exact ih
theorem walk_loop2 {a b : Numb} (h : POk a b) {M p : Int} (ah : Bool) {l : Int} {t4 t5 t7 t8 : Sl} : ∀ (j fuel : Nat) (x : Int) (s : Nat) {t6 : Sl}, j < fuel → iter (stepP a b M ah) j x = some l → stepP a b M ah l = none → Free t6 →
    ∃ u, whileN walk_t1 walk_b1 fuel (stW a b M p ah [t4, t5, t6, t7, t8, .fz (.int (s : Int)), .fz (.int x)]) = .ok (.rt (.val (.tup [.bl false, .int ((s + j : Nat) : Int), .int l]))) (stW a b M p ah u)
  | _, 0, _, _, _, hj, _, _, _ => absurd hj (Nat.not_lt_zero _)
  | 0, fuel + 1, x, s, t6, hj, e1, e2, f6 => by
    have e1 : x = l := Option.some.inj e1
    rw [← e1] at e2 ⊢
    have st := step_spec h M x ah
    rw [e2, wInt_n] at st
    refine ⟨[t4, t5, .fz .non, t7, t8, .fz (.int (s : Int)), .fz (.int x)], ?_⟩
    rw [whileN, Nat.add_zero]
    unfold stW
    generalize planD a b = pp at *
    simp! [walk_t1, walk_b1, st, f6]
  | j + 1, fuel + 1, x, s, t6, hj, e1, e2, f6 => by
    have st := step_spec h M x ah
    rw [iter_succ] at e1
    cases c : stepP a b M ah x with
    | none => rw [c] at e1; cases e1
    | some y =>
      rw [c] at e1
      rw [c, wInt_s] at st
      have nn : gIs (.int y) .non = some (.val (.bl false)) := rfl
      obtain ⟨u, eu⟩ := walk_loop2 h ah (t4 := t4) (t5 := t5) (t7 := t7) (t8 := t8) (M := M) (p := p) (l := l) j fuel y (s + 1) (t6 := .fz (.int y)) (by omega) e1 e2 .fz
      refine ⟨u, ?_⟩
      rw [show s + (j + 1) = s + 1 + j by omega, ← eu, whileN]
      unfold stW
      generalize planD a b = pp at *
      simp! [walk_t1, walk_b1, st, f6, nn]
      rfl
theorem walk_spec {a b : Numb} (h : POk a b) {M p : Int} (p0 : 0 ≤ p) (p1 : p < M) (ah : Bool) : ∃ d, F_walk [.fz (planD a b), .fz (.int M), .fz (.int p), .fz (.bl ah)] = .ok false d [.fz (planD a b), .fz (.int M), .fz (.int p), .fz (.bl ah)] ∧ WkIs (stepP a b M ah) p d := by
  obtain ⟨s1, s6⟩ := per_bnd h
  obtain ⟨c, g⟩ := step_glid h M ah
  have pe := period_spec h
  have w1 := walk_loop1 h p0 p1 ah (2 * (perI a.len b.len).toNat) 0 1000 (t6 := .un) (t7 := .un) (by omega) (by omega) (fun i hi => by
    cases (show i = 0 by omega)
    rfl) (fun i i0 i1 => by omega) (fun i i0 i1 => by omega) .un .un
  have r0 : rowW (stepP a b M ah) p 0 = [.int p] := rfl
  rw [r0] at w1
  have w1 : W1 a b M p ah (stepP a b M ah) (sWhile (fun _ => 1000) walk_t0 walk_b0 (stW a b M p ah [.fz (.int (perI a.len b.len)), .ow false (.lst [.int p]), .un, .un, .un, .un, .un])) := w1
  rw [e_walk]
  unfold g_walk
  have pr : sPar [4, 5] (aConsF (eFn F_period_of [false] (aCons (eVar 0) aNil)) (aConsF (eLst (aCons (eVar 2) aNil)) aNil)) [.fz (planD a b), .fz (.int M), .fz (.int p), .fz (.bl ah), .un, .un, .un, .un, .un, .un, .un] = .ok .nx (stW a b M p ah [.fz (.int (perI a.len b.len)), .ow false (.lst [.int p]), .un, .un, .un, .un, .un]) := by
    unfold stW
    generalize planD a b = pp at *
    simp! [pe]
  rw [ev_seq, pr, bind_ok, ev_seq1, ev_seq]
  rcases w1 with ⟨k, l, u, e, pt⟩ | ⟨k, u, e, hk, rg⟩ | ⟨k, t6, t7, e, f6, hk, q1, q2, q3, q4⟩
  · rw [e, bind_ok, ev_seq4]
    exact ⟨_, rfl, .inr ⟨k, l, pt, rfl⟩⟩
  · rw [e, bind_ok, ev_seq4]
    exact ⟨_, rfl, .inl ⟨k, hk, rg, rfl⟩⟩
  · have gp := g.gap (fun ee => if_pos ee) p0 p1 k q1 q4
    have gb : -(10 ^ 40) ≤ qf (stepP a b M ah) p k - p ∧ qf (stepP a b M ah) p k - p ≤ 10 ^ 40 := by omega
    obtain ⟨many, e3, m1, m2⟩ := leap_spec (a := a) (b := b) (nx := stepP a b M ah) (M := M) (p := p) (k := k) (by omega) q3 gb
    obtain ⟨mn, it, n, l, hn, it2, el⟩ := g.leaps p0 p1 q1 q2 q3 q4 m1 m2
    have rl := rowW_last (nx := stepP a b M ah) (p := p) (m := k)
    have r0 := rowW_0 (nx := stepP a b M ah) (p := p) (m := k)
    have ll : ((rowW (stepP a b M ah) p k).length : Int) = (k : Int) + 1 := by rw [rowW_len]; omega
    have mu1 : gMul (.int many) (.int ((k : Int) + 1 - 1)) = some (.val (.int ((many.toNat * k : Nat) : Int))) := by
      rw [gMul_ev (.inr (by omega))]
      congr 3
      rw [show (k : Int) + 1 - 1 = k by omega, Int.natCast_mul]
      congr 1
      omega
    have mu2 : gMul (.int many) (.int (qf (stepP a b M ah) p k - p)) = some (.val (.int (many * (qf (stepP a b M ah) p k - p)))) := gMul_ev (.inr (by omega))
    obtain ⟨u, e5⟩ := walk_loop2 h ah (t4 := .fz (.int (perI a.len b.len))) (t5 := .fz (.lst (rowW (stepP a b M ah) p k))) (t7 := t7) (t8 := .fz (.int many)) (M := M) (p := p) (l := l) n 1000 (p + many * (qf (stepP a b M ah) p k - p)) (many.toNat * k) (t6 := t6) (by omega) it2 el f6
    have e6 : kFn 4 ((sSeq (sSet 8 (eFn F_leap [false, false, false] (aCons (eVar 0) (aCons (eVar 1) (aCons (eVar 5) aNil)))))
  (sSeq (sPar [9, 10] (aConsF (eOp2 gMul (eVar 8) (eOp2 gSub (eCall gLen (aCons (eVar 5) aNil)) (eC (.int 1)))) (aConsF (eOp2 gAdd (eVar 2) (eOp2 gMul (eVar 8) (eOp2 gSub (eOp2 gIx (eVar 5) (eOp1 gNeg (eC (.int 1)))) (eOp2 gIx (eVar 5) (eC (.int 0)))))) aNil)))
  (sWhile (fun _ => 1000) walk_t1 walk_b1))) (stW a b M p ah [.fz (.int (perI a.len b.len)), .ow false (.lst (rowW (stepP a b M ah) p k)), t6, t7, .un, .un, .un])) = .ok false (.tup [.bl false, .int ((many.toNat * k + n : Nat) : Int), .int l]) [.fz (planD a b), .fz (.int M), .fz (.int p), .fz (.bl ah)] := by
      have w2 : sWhile (fun _ => 1000) walk_t1 walk_b1 (stW a b M p ah [.fz (.int (perI a.len b.len)), .fz (.lst (rowW (stepP a b M ah) p k)), t6, t7, .fz (.int many), .fz (.int ((many.toNat * k : Nat) : Int)), .fz (.int (p + many * (qf (stepP a b M ah) p k - p)))]) = _ := e5
      unfold stW at w2 ⊢
      generalize rowW (stepP a b M ah) p k = rr at *
      generalize planD a b = pp at *
      simp! [e3, rl, r0, ll, mu1, mu2, w2]
    rw [e, bind_ok, ev_seq1]
    exact ⟨_, e6, .inr ⟨many.toNat * k + n, l, ⟨by rw [iter_trans it]; exact it2, el⟩, rfl⟩⟩
theorem stepP_t {a b : Numb} {M : Int} : stepP a b M true = heirP a b M := rfl
theorem stepP_f {a b : Numb} {M : Int} : stepP a b M false = giverP a b M := rfl
theorem strtP {a b : Numb} (h : POk a b) {M : Int} (h0 : 0 ≤ M) : Strt (heirP a b M) (giverP a b M) M := ⟨h0, fun p q e => ⟨((heir_iff h).mp e).1, ((heir_iff h).mp e).2.1⟩, fun p q e => ⟨((giver_iff h).mp e).1, ((giver_iff h).mp e).2.1⟩, fun p q p0 p1 q0 q1 => by
  rw [giver_heir h p0 p1]
  exact ⟨fun z => z.2.2, fun z => ⟨q0, q1, z⟩⟩⟩
theorem fate_of_spec {a b : Numb} (h : POk a b) {M p : Int} (p0 : 0 ≤ p) (p1 : p < M) : ∃ d, F_fate_of [.fz (planD a b), .fz (.int M), .fz (.int p)] = .ok false d [.fz (planD a b), .fz (.int M), .fz (.int p)] ∧ FateIs (heirP a b M) (giverP a b M) p d := by
  obtain ⟨d1, e1, w1⟩ := walk_spec h p0 p1 true
  obtain ⟨d2, e2, w2⟩ := walk_spec h p0 p1 false
  rw [stepP_t] at w1
  rw [stepP_f] at w2
  rcases w1 with ⟨k, hk, rg, rfl⟩ | ⟨k, l, pt, rfl⟩
  · refine ⟨.tup [.str "ring", .int k], ?_, .inl ⟨k, hk, rg, rfl⟩⟩
    generalize planD a b = pp at *
    simp! [e_fate_of, g_fate_of, e1]
  · rcases w2 with ⟨k', hk, rg, rfl⟩ | ⟨k', f, pt', rfl⟩
    · exact (ring_path ((strtP h (show 0 ≤ M by omega)).sw.ring_rev p0 p1 rg) pt).elim
    · refine ⟨.tup [.str "path", .int k', .int k], ?_, .inr ⟨k, k', l, f, pt, pt', rfl⟩⟩
      generalize planD a b = pp at *
      simp! [e_fate_of, g_fate_of, e1, e2]
theorem fate_spec {a b : Numb} (h : POk a b) {M p : Int} (hM : M ≤ MOST) (p0 : 0 ≤ p) (p1 : p < M) : ∃ d, F_fate [.fz (planD a b), .fz (.int M), .fz (.int p)] = .ok false d [.fz (planD a b), .fz (.int M), .fz (.int p)] ∧ FateIs (heirP a b M) (giverP a b M) p d := by
  obtain ⟨d, e, f⟩ := fate_of_spec h p0 p1
  have nh := house_ok h hM p0 p1
  refine ⟨d, ?_, f⟩
  generalize planD a b = pp at *
  simp! [e_fate, g_fate, nh, e]
theorem fate_badP {a b : Numb} (h : POk a b) {M : Int} (hM1 : 1 ≤ M) (hM : M ≤ MOST) {n k : Nat} {p : D} (hp : Dat n k p) (hv : isW p 0 (M - 1) = false) : F_fate [.fz (planD a b), .fz (.int M), .fz p] = .exc "InvalidPlace" none [.fz (planD a b), .fz (.int M), .fz p] := by
  have nh := house_badP h hM1 hM hp hv
  generalize planD a b = pp at *
  simp! [e_fate, g_fate, nh]
def EndIs (nx : Int → Option Int) (p : Int) (d : D) : Prop := (∃ k, RingAt nx p k ∧ d = .non) ∨ (∃ k l, PathTo nx p k l ∧ d = .int l)
theorem last_spec {a b : Numb} (h : POk a b) {M p : Int} (hM : M ≤ MOST) (p0 : 0 ≤ p) (p1 : p < M) : ∃ d, F_last_heir [.fz (planD a b), .fz (.int M), .fz (.int p)] = .ok false d [.fz (planD a b), .fz (.int M), .fz (.int p)] ∧ EndIs (heirP a b M) p d := by
  obtain ⟨d1, e1, w1⟩ := walk_spec h p0 p1 true
  rw [stepP_t] at w1
  have nh := house_ok h hM p0 p1
  rcases w1 with ⟨k, hk, rg, rfl⟩ | ⟨k, l, pt, rfl⟩
  · refine ⟨.non, ?_, .inl ⟨k, rg, rfl⟩⟩
    generalize planD a b = pp at *
    simp! [e_last_heir, g_last_heir, nh, e1]
  · refine ⟨.int l, ?_, .inr ⟨k, l, pt, rfl⟩⟩
    generalize planD a b = pp at *
    simp! [e_last_heir, g_last_heir, nh, e1]
theorem first_spec {a b : Numb} (h : POk a b) {M p : Int} (hM : M ≤ MOST) (p0 : 0 ≤ p) (p1 : p < M) : ∃ d, F_first_giver [.fz (planD a b), .fz (.int M), .fz (.int p)] = .ok false d [.fz (planD a b), .fz (.int M), .fz (.int p)] ∧ EndIs (giverP a b M) p d := by
  obtain ⟨d1, e1, w1⟩ := walk_spec h p0 p1 false
  rw [stepP_f] at w1
  have nh := house_ok h hM p0 p1
  rcases w1 with ⟨k, hk, rg, rfl⟩ | ⟨k, l, pt, rfl⟩
  · refine ⟨.non, ?_, .inl ⟨k, rg, rfl⟩⟩
    generalize planD a b = pp at *
    simp! [e_first_giver, g_first_giver, nh, e1]
  · refine ⟨.int l, ?_, .inr ⟨k, l, pt, rfl⟩⟩
    generalize planD a b = pp at *
    simp! [e_first_giver, g_first_giver, nh, e1]
def ChR (st : List Sl) (r : SR) : Prop := ∃ t4, r = .ok .nx (st ++ [t4]) ∨ r = .ok (.rt (.slot 3)) (st ++ [t4])
theorem chain_loop {a b : Numb} (h : POk a b) {M p : Int} : ∀ (n fuel : Nat) (pre : List Int) (x : Int) {t4 : Sl}, pre.length + 1 + n = 60 → n < fuel → Free t4 →
    ChR [.fz (planD a b), .fz (.int M), .fz (.int p), .ow false (.lst ((pre ++ chainG (heirP a b M) p n x).map D.int))] (whileN chain_t0 chain_b0 fuel [.fz (planD a b), .fz (.int M), .fz (.int p), .ow false (.lst (pre.map D.int ++ [.int x])), t4])
  | n, 0, _, _, _, _, hf, _ => absurd hf (Nat.not_lt_zero _)
  | 0, fuel + 1, pre, x, t4, hl, hf, f4 => by
    have ll : ¬ ((pre.map D.int ++ [D.int x]).length : Int) < 60 := by rw [List.length_append, List.length_map]; simp only [List.length_singleton]; omega
    have em : (pre ++ chainG (heirP a b M) p 0 x).map D.int = pre.map D.int ++ [.int x] := by rw [List.map_append]; rfl
    rw [em]
    refine ⟨t4, .inl ?_⟩
    rw [whileN]
    generalize pre.map D.int ++ [D.int x] = rr at *
    generalize planD a b = pp at *
    simp! [chain_t0, decide_eq_false ll]
  | n + 1, fuel + 1, pre, x, t4, hl, hf, f4 => by
    have ll : ((pre.map D.int ++ [D.int x]).length : Int) < 60 := by rw [List.length_append, List.length_map]; simp only [List.length_singleton]; omega
    have la : (pre.map D.int ++ [D.int x]).length < 16777216 := by omega
    have rl : gIx (.lst (pre.map D.int ++ [D.int x])) (.int (-1)) = some (.val (.int x)) := gIx_last
    have hs := heir_of_spec h M x
    cases c : heirP a b M x with
    | none =>
      rw [c] at hs
      have hs : F_heir_of [.fz (planD a b), .fz (.int M), .fz (.int x)] = .ok false .non [.fz (planD a b), .fz (.int M), .fz (.int x)] := hs
      have ce : chainG (heirP a b M) p (n + 1) x = [x] := by unfold chainG; rw [c]
      have em : (pre ++ chainG (heirP a b M) p (n + 1) x).map D.int = pre.map D.int ++ [.int x] := by rw [ce, List.map_append]; rfl
      rw [em]
      refine ⟨.fz .non, .inr ?_⟩
      rw [whileN]
      generalize pre.map D.int ++ [D.int x] = rr at *
      generalize planD a b = pp at *
      simp! [chain_t0, chain_b0, decide_eq_true ll, rl, hs, f4]
    | some y =>
      rw [c] at hs
      have hs : F_heir_of [.fz (planD a b), .fz (.int M), .fz (.int x)] = .ok false (.int y) [.fz (planD a b), .fz (.int M), .fz (.int x)] := hs
      have nn : gIs (.int y) .non = some (.val (.bl false)) := rfl
      by_cases cy : y = p
      · have ce : chainG (heirP a b M) p (n + 1) x = [x] := by unfold chainG; rw [c]; exact if_pos cy
        have em : (pre ++ chainG (heirP a b M) p (n + 1) x).map D.int = pre.map D.int ++ [.int x] := by rw [ce, List.map_append]; rfl
        rw [em]
        refine ⟨.fz (.int y), .inr ?_⟩
        rw [whileN]
        generalize pre.map D.int ++ [D.int x] = rr at *
        generalize planD a b = pp at *
        simp! [chain_t0, chain_b0, decide_eq_true ll, rl, hs, f4, nn, decide_eq_true cy]
      · have ce : chainG (heirP a b M) p (n + 1) x = x :: chainG (heirP a b M) p n y := by
          show (match heirP a b M x with | none => [x] | some y => if y = p then [x] else x :: chainG (heirP a b M) p n y) = _
          rw [c]
          exact if_neg cy
        have ih := chain_loop h (M := M) (p := p) n fuel (pre ++ [x]) y (t4 := .fz (.int y)) (by rw [List.length_append]; simp only [List.length_singleton]; omega) (by omega) .fz
        rw [List.append_assoc, List.singleton_append, ← ce, List.map_append (l₁ := pre) (l₂ := [x])] at ih
        have e : whileN chain_t0 chain_b0 (fuel + 1) [.fz (planD a b), .fz (.int M), .fz (.int p), .ow false (.lst (pre.map D.int ++ [.int x])), t4] = whileN chain_t0 chain_b0 fuel [.fz (planD a b), .fz (.int M), .fz (.int p), .ow false (.lst (pre.map D.int ++ [.int x] ++ [.int y])), .fz (.int y)] := by
          rw [whileN]
          clear ih
          generalize pre.map D.int ++ [D.int x] = rr at *
          generalize planD a b = pp at *
          simp! [chain_t0, chain_b0, decide_eq_true ll, la, rl, hs, f4, nn, decide_eq_false cy]
        rw [e]
        exact ih
theorem chain_spec {a b : Numb} (h : POk a b) {M p : Int} (hM : M ≤ MOST) (p0 : 0 ≤ p) (p1 : p < M) : F_chain [.fz (planD a b), .fz (.int M), .fz (.int p)] = .ok true (.lst ((chainG (heirP a b M) p 59 p).map D.int)) [.fz (planD a b), .fz (.int M), .fz (.int p)] := by
  have nh := house_ok h hM p0 p1
  obtain ⟨t4, w⟩ := chain_loop h (M := M) (p := p) 59 1000 [] p (t4 := .un) rfl (by omega) .un
  have w : sWhile (fun _ => 1000) chain_t0 chain_b0 [.fz (planD a b), .fz (.int M), .fz (.int p), .ow false (.lst [.int p]), .un] = .ok .nx [.fz (planD a b), .fz (.int M), .fz (.int p), .ow false (.lst ((chainG (heirP a b M) p 59 p).map D.int)), t4] ∨ sWhile (fun _ => 1000) chain_t0 chain_b0 [.fz (planD a b), .fz (.int M), .fz (.int p), .ow false (.lst [.int p]), .un] = .ok (.rt (.slot 3)) [.fz (planD a b), .fz (.int M), .fz (.int p), .ow false (.lst ((chainG (heirP a b M) p 59 p).map D.int)), t4] := w
  generalize (chainG (heirP a b M) p 59 p).map D.int = rr at *
  generalize planD a b = pp at *
  rcases w with w | w <;> simp! [e_chain, g_chain, nh, w]
end Wk04
namespace Wk04
open PySem PySem.Spec PyProof.Rows L2 PF
local macro_rules | `(tactic| simp! [$as,*]) => `(tactic| simp only [bind_ok, bind_exc, settle_val, settle_fr, settle_sl, settle_exc, view_val, frz_val, ofO_some, ofT_some, gSub_ev, gAdd_ev, gLt_ev, gLe_ev, gGt_ev, gGe_ev, gEq_int, gNe_int, gMax2_ev, gInt, gLen_lst, gLen_tup, ix0, ix1, ix2, tx0, tx1, tx2, fn_ev, ev_seq, ev_seq1, ev_seq2, ev_seq3, ev_seq4, ev_next, ev_break, ev_cont, ev_s1, ev_set, ev_set1, ev_so, ev_so1, ev_put1, ev_put2, ev_put3, ev_put4, ev_ret, ev_ret1, ev_retn, ev_drop, ev_drop1, ev_if, ev_if1, ev_if2, ev_pat, ev_pat1, ev_pat2, ev_asg1, ev_asg2, ev_asg3, ev_asg4, ev_asg5, ev_asg6, ev_par, ev_par1, ev_setm1, ev_setm2, ev_setm3, ev_raise, ev_for, ev_for1, ev_for2, ev_for4, ev_for5, ev_for6, ev_for7, ev_for8, ev_sti, ev_sti1, ev_sti2, ev_sti3, ev_sti4, ev_sti5, ev_sti6, ev_sti7, ev_app, ev_app1, ev_app2, ev_app3, ev_app4, ev_var, ev_var1, ev_var2, ev_c, ev_frz, ev_frz1, ev_frz2, ev_view, ev_view1, ev_view2, ev_ap2, ev_op2, ev_op2a, ev_op2b, ev_ap1, ev_op1, ev_op1a, ev_anil, ev_acons, ev_acons1, ev_acons2, ev_aconsf, ev_aconsf1, ev_aconsf2, ev_hold1, ev_hold2, ev_hold3, ev_hold4, ev_cons, ev_viewl, ev_viewl1, ev_apl, ev_call, ev_call1, ev_frzl, ev_frzl1, ev_frzl2, ev_frzl3, ev_tup, ev_tup1, ev_tup2, ev_lst, ev_lst1, ev_lst2, ev_and, ev_and1, ev_and2, ev_and3, ev_or, ev_or1, ev_or2, ev_or3, ev_not, ev_not1, ev_eif, ev_eif1, ev_eif2, ev_tval, ev_tval1, ev_tval2, ev_tr1, ev_tr2, ev_tr3, ev_tr4, ev_tr5, ev_tr6, ev_tnot, ev_tnot1, ev_tand, ev_tand1, ev_tand2, ev_tor, ev_tor1, ev_tor2, ev_ap2b, ev_unb, ev_tcmp, ev_tcmp1, ev_tcmp2, ev_tch, ev_tch1, ev_tch2, ev_tch3, ev_tch4, ev_tch5, ev_ech, ev_ech1, ev_ech2, ev_ech3, ev_ech4, ev_onone, ev_osome, ev_osome1, ev_osome2, ev_aps, ev_sl, ev_sl1, ev_sl2, ev_sl3, ev_sl4, ev_sl5, ev_iseq, ev_iseq1, ev_iseq2, ev_iseq3, ev_iseq4, ev_ienum, ev_ienum1, ev_ienum2, ev_ienum3, ev_ienum4, ev_rg1, ev_rg1a, ev_rg1b, ev_rg2, ev_rg2a, ev_rg2b, ev_rg2c, ev_izip, ev_izip1, ev_izip2, ev_izip3, ev_izip6, ev_izip4, ev_izip5, ev_fn1, ev_fn2, ev_fn3, ev_fn4, ev_fn5, ev_fn6, ev_fn7, ev_fun, ev_fun1, ev_fun2, ev_fun3, ev_non1, ev_non2, ev_non2v, ev_non3, ev_non4, ev_non5, ev_mk1, ev_mk2, ev_mk3, ev_mk4, ev_mk5, ev_io1, ev_io2, ev_io3, ev_is1, ev_is2, ev_is3, ev_putr1, ev_putr2, ev_putr3, ev_putr4, ev_putr5, ev_putb1, ev_putb2, ev_putb3, ev_putb4, ev_try, ev_try1, ev_try2, ev_try3, ev_try4, ev_neg, ev_min2, ev_list1, ev_list2, ev_list3, ev_tuple1, ev_tuple2, ev_isn1, ev_isn2, ev_isn3, ev_isn4, ev_isn5, ev_isn6, ev_isnt1, ev_isnt2, ev_isnt3, ev_isnt4, ev_isnt5, ev_isnt6, ev_slt1, ev_slt2, fr_fz, fr_un, fr_ow, fr_ts, ev_wp, ev_nx, ev_fw, ev_asn, ev_new, ev_dp, ev_dp1, ev_dp2, ev_dp3, ev_dp4, ev_dp5, ev_dp6, ev_outn, ev_outs, ev_aso, ev_sett, ev_sett1, ev_sett2, ev_slp1, ev_slp2, ev_aug, ev_aug1, ev_aug2, ev_aug3, ev_lr1, ev_lr2, ev_lr3, ev_ext, ev_ext1, ev_ext2, ev_ext3, List.getElem?_cons_zero, List.getElem?_cons_succ, List.set_cons_zero, List.set_cons_succ, List.length_cons, List.length_nil, List.replicate, List.cons_append, List.nil_append, List.take_succ_cons, List.take_zero, List.contains_nil, List.isEmpty_cons, List.isEmpty_nil, Bool.not_true, Bool.not_false, Bool.and_true, Bool.true_and, Bool.and_false, Bool.false_and, Bool.false_eq_true, if_false, decide_true, decide_false, if_true, ↓reduceIte, and_self, true_and, and_true, false_and, and_false, eq_self, Nat.reduceAdd, Nat.reduceSub, Nat.reduceLeDiff, Nat.reduceLT, Int.reduceLT, Int.reduceLE, Int.reduceAdd, Int.reduceSub, Int.reduceMul, Int.reduceNeg, Int.reduceEq, Int.cast_ofNat_Int, not_true_eq_false, not_false_eq_true, Int.reduceToNat, $as,*])
local macro_rules | `(tactic| simp! [$as,*] at $h:ident) => `(tactic| simp only [bind_ok, bind_exc, settle_val, settle_fr, settle_sl, settle_exc, view_val, frz_val, ofO_some, ofT_some, gSub_ev, gAdd_ev, gLt_ev, gLe_ev, gGt_ev, gGe_ev, gEq_int, gNe_int, gMax2_ev, gInt, gLen_lst, gLen_tup, ix0, ix1, ix2, tx0, tx1, tx2, fn_ev, ev_seq, ev_seq1, ev_seq2, ev_seq3, ev_seq4, ev_next, ev_break, ev_cont, ev_s1, ev_set, ev_set1, ev_so, ev_so1, ev_put1, ev_put2, ev_put3, ev_put4, ev_ret, ev_ret1, ev_retn, ev_drop, ev_drop1, ev_if, ev_if1, ev_if2, ev_pat, ev_pat1, ev_pat2, ev_asg1, ev_asg2, ev_asg3, ev_asg4, ev_asg5, ev_asg6, ev_par, ev_par1, ev_setm1, ev_setm2, ev_setm3, ev_raise, ev_for, ev_for1, ev_for2, ev_for4, ev_for5, ev_for6, ev_for7, ev_for8, ev_sti, ev_sti1, ev_sti2, ev_sti3, ev_sti4, ev_sti5, ev_sti6, ev_sti7, ev_app, ev_app1, ev_app2, ev_app3, ev_app4, ev_var, ev_var1, ev_var2, ev_c, ev_frz, ev_frz1, ev_frz2, ev_view, ev_view1, ev_view2, ev_ap2, ev_op2, ev_op2a, ev_op2b, ev_ap1, ev_op1, ev_op1a, ev_anil, ev_acons, ev_acons1, ev_acons2, ev_aconsf, ev_aconsf1, ev_aconsf2, ev_hold1, ev_hold2, ev_hold3, ev_hold4, ev_cons, ev_viewl, ev_viewl1, ev_apl, ev_call, ev_call1, ev_frzl, ev_frzl1, ev_frzl2, ev_frzl3, ev_tup, ev_tup1, ev_tup2, ev_lst, ev_lst1, ev_lst2, ev_and, ev_and1, ev_and2, ev_and3, ev_or, ev_or1, ev_or2, ev_or3, ev_not, ev_not1, ev_eif, ev_eif1, ev_eif2, ev_tval, ev_tval1, ev_tval2, ev_tr1, ev_tr2, ev_tr3, ev_tr4, ev_tr5, ev_tr6, ev_tnot, ev_tnot1, ev_tand, ev_tand1, ev_tand2, ev_tor, ev_tor1, ev_tor2, ev_ap2b, ev_unb, ev_tcmp, ev_tcmp1, ev_tcmp2, ev_tch, ev_tch1, ev_tch2, ev_tch3, ev_tch4, ev_tch5, ev_ech, ev_ech1, ev_ech2, ev_ech3, ev_ech4, ev_onone, ev_osome, ev_osome1, ev_osome2, ev_aps, ev_sl, ev_sl1, ev_sl2, ev_sl3, ev_sl4, ev_sl5, ev_iseq, ev_iseq1, ev_iseq2, ev_iseq3, ev_iseq4, ev_ienum, ev_ienum1, ev_ienum2, ev_ienum3, ev_ienum4, ev_rg1, ev_rg1a, ev_rg1b, ev_rg2, ev_rg2a, ev_rg2b, ev_rg2c, ev_izip, ev_izip1, ev_izip2, ev_izip3, ev_izip6, ev_izip4, ev_izip5, ev_fn1, ev_fn2, ev_fn3, ev_fn4, ev_fn5, ev_fn6, ev_fn7, ev_fun, ev_fun1, ev_fun2, ev_fun3, ev_non1, ev_non2, ev_non2v, ev_non3, ev_non4, ev_non5, ev_mk1, ev_mk2, ev_mk3, ev_mk4, ev_mk5, ev_io1, ev_io2, ev_io3, ev_is1, ev_is2, ev_is3, ev_putr1, ev_putr2, ev_putr3, ev_putr4, ev_putr5, ev_putb1, ev_putb2, ev_putb3, ev_putb4, ev_try, ev_try1, ev_try2, ev_try3, ev_try4, ev_neg, ev_min2, ev_list1, ev_list2, ev_list3, ev_tuple1, ev_tuple2, ev_isn1, ev_isn2, ev_isn3, ev_isn4, ev_isn5, ev_isn6, ev_isnt1, ev_isnt2, ev_isnt3, ev_isnt4, ev_isnt5, ev_isnt6, ev_slt1, ev_slt2, fr_fz, fr_un, fr_ow, fr_ts, ev_wp, ev_nx, ev_fw, ev_asn, ev_new, ev_dp, ev_dp1, ev_dp2, ev_dp3, ev_dp4, ev_dp5, ev_dp6, ev_outn, ev_outs, ev_aso, ev_sett, ev_sett1, ev_sett2, ev_slp1, ev_slp2, ev_aug, ev_aug1, ev_aug2, ev_aug3, ev_lr1, ev_lr2, ev_lr3, ev_ext, ev_ext1, ev_ext2, ev_ext3, List.getElem?_cons_zero, List.getElem?_cons_succ, List.set_cons_zero, List.set_cons_succ, List.length_cons, List.length_nil, List.replicate, List.cons_append, List.nil_append, List.take_succ_cons, List.take_zero, List.contains_nil, List.isEmpty_cons, List.isEmpty_nil, Bool.not_true, Bool.not_false, Bool.and_true, Bool.true_and, Bool.and_false, Bool.false_and, Bool.false_eq_true, if_false, decide_true, decide_false, if_true, ↓reduceIte, and_self, true_and, and_true, false_and, and_false, eq_self, Nat.reduceAdd, Nat.reduceSub, Nat.reduceLeDiff, Nat.reduceLT, Int.reduceLT, Int.reduceLE, Int.reduceAdd, Int.reduceSub, Int.reduceMul, Int.reduceNeg, Int.reduceEq, Int.cast_ofNat_Int, not_true_eq_false, not_false_eq_true, Int.reduceToNat, $as,*] at $h:ident)
theorem ring_dat (k : Int) : Dat 2 1 (.tup [.str "ring", .int k]) := .tup (by simp) fun d hd => by
  simp only [List.mem_cons, List.not_mem_nil, or_false] at hd
  rcases hd with hd | hd <;> subst hd
  · exact .str _ (by kernel_rfl)
  · exact .int _
theorem path_dat (j k : Int) : Dat 3 1 (.tup [.str "path", .int j, .int k]) := .tup (by simp) fun d hd => by
  simp only [List.mem_cons, List.not_mem_nil, or_false] at hd
  rcases hd with hd | hd | hd <;> subst hd
  · exact .str _ (by kernel_rfl)
  · exact .int _
  · exact .int _
theorem eq_ring (k : Int) : gEq (.tup [.str "ring", .int k]) (.tup [.str "ring", .int k]) = some (.val (.bl true)) := gEq_rf (ring_dat k) (by decide)
theorem eq_path (j k : Int) : gEq (.tup [.str "path", .int j, .int k]) (.tup [.str "path", .int j, .int k]) = some (.val (.bl true)) := gEq_rf (path_dat j k) (by decide)
theorem ne_path (j k : Int) : gNe (.tup [.str "path", .int j, .int k]) (.tup [.str "path", .int j, .int k]) = some (.val (.bl false)) := gNe_rf (path_dat j k) (by decide)
theorem rr_eq : gEq (.str "ring") (.str "ring") = some (.val (.bl true)) := by kernel_rfl
theorem pr_eq : gEq (.str "path") (.str "ring") = some (.val (.bl false)) := by kernel_rfl
theorem inot_s {i : Int} : gIsNot (.int i) .non = some (.val (.bl true)) := rfl
theorem inot_n : gIsNot .non .non = some (.val (.bl false)) := rfl
theorem is_s {i : Int} : gIs (.int i) .non = some (.val (.bl false)) := rfl
theorem is_n : gIs .non .non = some (.val (.bl true)) := rfl
theorem end_path {nx : Int → Option Int} {p l : Int} {k : Nat} {d : D} (h : EndIs nx p d) (q : PathTo nx p k l) : d = .int l := by
  rcases h with ⟨k', rg, rfl⟩ | ⟨k', l', pt, rfl⟩
  · exact (ring_path rg q).elim
  · rw [(path_unique pt q).2]
theorem on_right {a b : Numb} (h : POk a b) {M p : Int} (hM : M ≤ MOST) (p0 : 0 ≤ p) (p1 : p < M) : F__law_on_right [.fz (planD a b), .fz (.int M), .fz (.int p)] = .ok false (.bl true) [.fz (planD a b), .fz (.int M), .fz (.int p)] := by
  have S := strtP h (show 0 ≤ M by omega)
  obtain ⟨d, e1, f1⟩ := fate_spec h hM p0 p1
  have e2 := heir_spec h hM p0 p1
  rcases f1 with ⟨k, hk, rg, rfl⟩ | ⟨k, j, l, f, pt, pg, rfl⟩
  · obtain ⟨q, eq, rq⟩ := S.ring_next p0 p1 rg
    rw [eq] at e2
    have e2 : F_heir [.fz (planD a b), .fz (.int M), .fz (.int p)] = .ok false (.int q) [.fz (planD a b), .fz (.int M), .fz (.int p)] := e2
    obtain ⟨q0, q1⟩ := S.nxi p q eq
    obtain ⟨d, e3, f3⟩ := fate_spec h hM q0 q1
    cases fate_unique f3 (.inl ⟨k, hk, rq, rfl⟩)
    have k0 : (0 : Int) < (k : Int) := by have := rg.1; omega
    have k1 : (k : Int) ≤ 60 := by omega
    generalize planD a b = pp at *
    simp! [e__law_on_right, g__law_on_right, e1, e2, e3, rr_eq, inot_s, eq_ring, decide_eq_true k0, decide_eq_true k1]
  · obtain ⟨f0, f1⟩ := S.sw.iter_rng p0 p1 pg.1
    obtain ⟨l0, l1⟩ := S.iter_rng p0 p1 pt.1
    obtain ⟨d3, e3, w3⟩ := first_spec h hM p0 p1
    cases end_path w3 pg
    obtain ⟨d4, e4, w4⟩ := last_spec h hM p0 p1
    cases end_path w4 pt
    have e5 := giver_spec h hM f0 f1
    rw [pg.2] at e5
    have e5 : F_giver [.fz (planD a b), .fz (.int M), .fz (.int f)] = .ok false .non [.fz (planD a b), .fz (.int M), .fz (.int f)] := e5
    have e6 := heir_spec h hM l0 l1
    rw [pt.2] at e6
    have e6 : F_heir [.fz (planD a b), .fz (.int M), .fz (.int l)] = .ok false .non [.fz (planD a b), .fz (.int M), .fz (.int l)] := e6
    obtain ⟨d7, e7, w7⟩ := fate_spec h hM f0 f1
    have pf : PathTo (heirP a b M) f (j + k) l := ⟨by rw [iter_trans (S.sw.rev p0 p1 pg.1)]; exact pt.1, pt.2⟩
    cases fate_unique w7 (.inr ⟨j + k, 0, l, f, pf, ⟨rfl, pg.2⟩, rfl⟩)
    obtain ⟨d8, e8, w8⟩ := fate_spec h hM l0 l1
    obtain ⟨j', rfl⟩ : ∃ j' : Nat, d8 = .tup [.str "path", .int j', .int (0 : Nat)] := by
      rcases w8 with ⟨k', _, rg, rfl⟩ | ⟨k', j', l', f', pt', pg', rfl⟩
      · exact (ring_path rg (l := l) (k' := 0) ⟨rfl, pt.2⟩).elim
      · exact ⟨j', by rw [(path_unique pt' (k' := 0) (l' := l) ⟨rfl, pt.2⟩).1]⟩
    have c1 : ((j + k : Nat) : Int) = (j : Int) + (k : Int) := by omega
    have z1 : ((0 : Nat) : Int) = 0 := rfl
    rw [c1, z1] at e7
    rw [z1] at e8
    have zz : gNe (.int 0) (.int 0) = some (.val (.bl false)) := by kernel_rfl
    cases c : heirP a b M p with
    | none =>
      obtain ⟨rfl, rfl⟩ := path_zero pt c
      rw [c] at e2
      have e2 : F_heir [.fz (planD a b), .fz (.int M), .fz (.int l)] = .ok false .non [.fz (planD a b), .fz (.int M), .fz (.int l)] := e2
      rw [z1] at e1 e7
      generalize planD a b = pp at *
      simp! [e__law_on_right, g__law_on_right, e1, e2, e3, e4, e5, e6, e7, e8, pr_eq, inot_n, ne_path, zz, is_n]
    | some q =>
      rw [c] at e2
      have e2 : F_heir [.fz (planD a b), .fz (.int M), .fz (.int p)] = .ok false (.int q) [.fz (planD a b), .fz (.int M), .fz (.int p)] := e2
      obtain ⟨q0, q1⟩ := S.nxi p q c
      obtain ⟨d9, e9, w9⟩ := fate_spec h hM q0 q1
      cases k with
      | zero =>
        have := pt.1
        cases this
        rw [pt.2] at c
        cases c
      | succ k =>
        have gq := (S.iff p q p0 p1 q0 q1).mp c
        cases fate_unique w9 (.inr ⟨k, j + 1, l, f, path_next pt c, ⟨by rw [iter_succ, gq]; exact pg.1, pg.2⟩, rfl⟩)
        have c2 : ((j + 1 : Nat) : Int) = (j : Int) + 1 := by omega
        have c3 : ((k + 1 : Nat) : Int) - 1 = (k : Int) := by omega
        rw [c2] at e9
        generalize planD a b = pp at *
        simp! [e__law_on_right, g__law_on_right, e1, e2, e3, e4, e5, e6, e7, e8, e9, pr_eq, inot_n, ne_path, zz, is_s, c3, eq_path]
theorem steps_loop {a b : Numb} (h : POk a b) {M p : Int} (hM : M ≤ MOST) {R : Sl} : ∀ (n : Nat) (x : Int) {t5 : Sl}, 0 ≤ x → x < M → Free t5 → ∃ (o : Option Int) (t5' : Sl), forD (.nm 5) _law_steps_right_b0 ((chainG (heirP a b M) p n x).map D.int) [.fz (planD a b), .fz (.int M), .fz (.int p), R, .fz (.int x), t5] = .ok .nx [.fz (planD a b), .fz (.int M), .fz (.int p), R, .fz (oInt o), t5'] ∧ (o = none ∨ o = some p ∨ (chainG (heirP a b M) p n x).length = n + 1) := by
  intro n
  induction n with
  | zero =>
    intro x t5 x0 x1 f5
    have e := heir_spec h hM x0 x1
    have nn : gNe (.int x) (.int x) = some (.val (.bl false)) := by rw [gNe_int]; simp
    refine ⟨heirP a b M x, .fz (.int x), ?_, .inr (.inr rfl)⟩
    show forD (.nm 5) _law_steps_right_b0 [.int x] _ = _
    generalize heirP a b M x = o at *
    generalize planD a b = pp at *
    simp! [ev_for3, f5, _law_steps_right_b0, nn, e]
  | succ n ih =>
    intro x t5 x0 x1 f5
    have e := heir_spec h hM x0 x1
    have nn : gNe (.int x) (.int x) = some (.val (.bl false)) := by rw [gNe_int]; simp
    have one : ∀ o, heirP a b M x = o → chainG (heirP a b M) p (n + 1) x = [x] → forD (.nm 5) _law_steps_right_b0 ((chainG (heirP a b M) p (n + 1) x).map D.int) [.fz (planD a b), .fz (.int M), .fz (.int p), R, .fz (.int x), t5] = .ok .nx [.fz (planD a b), .fz (.int M), .fz (.int p), R, .fz (oInt o), .fz (.int x)] := fun o ho hc => by
      rw [hc]
      show forD (.nm 5) _law_steps_right_b0 [.int x] _ = _
      rw [ho] at e
      generalize planD a b = pp at *
      simp! [ev_for3, f5, _law_steps_right_b0, nn, e]
    cases c : heirP a b M x with
    | none =>
      have ce : chainG (heirP a b M) p (n + 1) x = [x] := by unfold chainG; rw [c]
      exact ⟨none, _, one none c ce, .inl rfl⟩
    | some y =>
      by_cases cy : y = p
      · have ce : chainG (heirP a b M) p (n + 1) x = [x] := by unfold chainG; rw [c]; exact if_pos cy
        exact ⟨some y, _, one (some y) c ce, .inr (.inl (by rw [cy]))⟩
      · have ce : chainG (heirP a b M) p (n + 1) x = x :: chainG (heirP a b M) p n y := by
          show (match heirP a b M x with | none => [x] | some y => if y = p then [x] else x :: chainG (heirP a b M) p n y) = _
          rw [c]
          exact if_neg cy
        rw [c] at e
        have e : F_heir [.fz (planD a b), .fz (.int M), .fz (.int x)] = .ok false (.int y) [.fz (planD a b), .fz (.int M), .fz (.int x)] := e
        obtain ⟨y0, y1⟩ := (strtP h (show 0 ≤ M by omega)).nxi x y c
        obtain ⟨o, t5', e2, ho⟩ := ih y (t5 := .fz (.int x)) y0 y1 .fz
        refine ⟨o, t5', ?_, ?_⟩
        · rw [ce, List.map_cons]
          generalize (chainG (heirP a b M) p n y).map D.int = rr at *
          generalize planD a b = pp at *
          have bd : _law_steps_right_b0 [.fz pp, .fz (.int M), .fz (.int p), R, .fz (.int x), .fz (.int x)] = .ok .nx [.fz pp, .fz (.int M), .fz (.int p), R, .fz (.int y), .fz (.int x)] := by simp! [_law_steps_right_b0, nn, e]
          simp! [ev_for3, f5, bd, e2]
        · rw [ce]
          rcases ho with ho | ho | ho
          · exact .inl ho
          · exact .inr (.inl ho)
          · exact .inr (.inr (by rw [List.length_cons, ho]))
theorem steps_right {a b : Numb} (h : POk a b) {M p : Int} (hM : M ≤ MOST) (p0 : 0 ≤ p) (p1 : p < M) : F__law_steps_right [.fz (planD a b), .fz (.int M), .fz (.int p)] = .ok false (.bl true) [.fz (planD a b), .fz (.int M), .fz (.int p)] := by
  have e1 := chain_spec h hM p0 p1
  obtain ⟨o, t5', e2, ho⟩ := steps_loop h (p := p) hM (R := .fz (.lst ((chainG (heirP a b M) p 59 p).map D.int))) 59 p (t5 := .un) p0 p1 .un
  have ll : ((((chainG (heirP a b M) p 59 p).map D.int).length : Nat) : Int) = ((chainG (heirP a b M) p 59 p).length : Int) := by rw [List.length_map]
  generalize hc : (chainG (heirP a b M) p 59 p).length = cl at *
  generalize (chainG (heirP a b M) p 59 p).map D.int = rr at *
  generalize planD a b = pp at *
  rcases ho with ho | ho | ho
  · subst ho
    have e2 : forD (.nm 5) _law_steps_right_b0 rr [.fz pp, .fz (.int M), .fz (.int p), .fz (.lst rr), .fz (.int p), .un] = .ok .nx [.fz pp, .fz (.int M), .fz (.int p), .fz (.lst rr), .fz .non, t5'] := e2
    simp! [e__law_steps_right, g__law_steps_right, e1, _law_steps_right_i0, e2, is_n]
  · subst ho
    have e2 : forD (.nm 5) _law_steps_right_b0 rr [.fz pp, .fz (.int M), .fz (.int p), .fz (.lst rr), .fz (.int p), .un] = .ok .nx [.fz pp, .fz (.int M), .fz (.int p), .fz (.lst rr), .fz (.int p), t5'] := e2
    simp! [e__law_steps_right, g__law_steps_right, e1, _law_steps_right_i0, e2, is_s]
  · have ll2 : (cl : Int) = 60 := by omega
    cases o with
    | none =>
      have e2 : forD (.nm 5) _law_steps_right_b0 rr [.fz pp, .fz (.int M), .fz (.int p), .fz (.lst rr), .fz (.int p), .un] = .ok .nx [.fz pp, .fz (.int M), .fz (.int p), .fz (.lst rr), .fz .non, t5'] := e2
      simp! [e__law_steps_right, g__law_steps_right, e1, _law_steps_right_i0, e2, is_n]
    | some y =>
      have e2 : forD (.nm 5) _law_steps_right_b0 rr [.fz pp, .fz (.int M), .fz (.int p), .fz (.lst rr), .fz (.int p), .un] = .ok .nx [.fz pp, .fz (.int M), .fz (.int p), .fz (.lst rr), .fz (.int y), t5'] := e2
      by_cases cy : y = p
      · simp! [e__law_steps_right, g__law_steps_right, e1, _law_steps_right_i0, e2, is_s, decide_eq_true cy]
      · simp! [e__law_steps_right, g__law_steps_right, e1, _law_steps_right_i0, e2, is_s, decide_eq_false cy, ll, ll2]
/-! the streets -/
theorem pw27 : gPow (.int 10) (.int 27) = some (.val (.int 1000000000000000000000000000)) := by kernel_rfl
theorem pw3 : gPow (.int 10) (.int 3) = some (.val (.int 1000)) := by kernel_rfl
theorem pw5 : gPow (.int 10) (.int 5) = some (.val (.int 100000)) := by kernel_rfl
theorem pw28 : gPow (.int 10) (.int 28) = some (.val (.int 10000000000000000000000000000)) := by kernel_rfl
theorem pw9 : gPow (.int 10) (.int 9) = some (.val (.int 1000000000)) := by kernel_rfl
theorem pw29 : gPow (.int 10) (.int 29) = some (.val (.int 100000000000000000000000000000)) := by kernel_rfl
theorem pw30 : gPow (.int 10) (.int 30) = some (.val (.int 1000000000000000000000000000000)) := by kernel_rfl
theorem rng_at4 {n k : Nat} {d : D} (h : ((rngI 0 n).map D.int)[k]? = some d) : k < n ∧ d = .int (k : Int) := by
  unfold rngI at h
  rw [List.map_map, List.getElem?_map] at h
  by_cases hk : k < n
  · rw [List.getElem?_range hk] at h
    exact ⟨hk, by simpa using h.symm⟩
  · rw [List.getElem?_eq_none (by simpa using hk)] at h
    cases h
def T4 (S C : Sl) (a b : Numb) (M m0 : Int) (j : Nat) (en : En) : Prop := ∃ d t5 t6, en = [S, C, .ow false d, .fz (planD a b), .fz (.int M), t5, t6, .un, .un] ∧ Dk (m0 + 4 * (j : Int)) d ∧ Free t5 ∧ Free t6
theorem turn4 {S C : Sl} {a b : Numb} (h : POk a b) {M m0 : Int} (hm : m0 < 4000000000) (M1 : 1000 ≤ M) (hM : M ≤ MOST) {j : Nat} (hj : j < 5) {en : En} (hI : T4 S C a b M m0 j en) : AsN (asgP (.nm 5) (.int (j : Int)) en) law_b0 (T4 S C a b M m0 (j + 1)) := by
  obtain ⟨d, t5, t6, rfl, k0, f5, f6⟩ := hI
  obtain ⟨r1, d1, e1, a0, a1, k1⟩ := pick_spec k0 (by omega) (n := 40) (by decide) (by decide)
  obtain ⟨r2, d2, e2, b0, b1, k2⟩ := pick_spec k1 (by omega) (n := 40) (by decide) (by decide)
  obtain ⟨r3, d3, e3, c0, c1, k3⟩ := pick_spec k2 (by omega) (n := 1000000000000000000000000000) (by decide) (by decide)
  obtain ⟨x, d4, e4, hx, k4⟩ := one_spec k3 (by omega) (xs := [D.int r1, .int (M - 1 - r2), .int (r3 % M)]) (by simp) (by simp)
  have md : gMod (.int r3) (.int M) = some (.val (.int (r3 % M))) := gMod_ev (by omega)
  have q0 := Int.emod_nonneg r3 (show M ≠ 0 by omega)
  have q1 := Int.emod_lt_of_pos r3 (show 0 < M by omega)
  obtain ⟨p, rfl, p0, p1⟩ : ∃ p : Int, x = .int p ∧ 0 ≤ p ∧ p < M := by
    simp only [List.mem_cons, List.not_mem_nil, or_false] at hx
    rcases hx with hx | hx | hx <;> exact ⟨_, hx, by omega, by omega⟩
  have l1 := on_right h hM p0 p1
  have l2 := steps_right h hM p0 p1
  unfold T4
  generalize planD a b = pp at *
  simp! [f5, law_b0, f6, e1, e2, pw27, e3, md, e4, l1, l2]
  exact ⟨d4, _, _, rfl, k4.mono (by omega), .fz, .fz⟩
def H4 (S C : Sl) (a b : Numb) (m0 : Int) (j : Nat) (en : En) : Prop := ∃ d t4 t5 t6, en = [S, C, .ow false d, .fz (planD a b), t4, t5, t6, .un, .un] ∧ Dk (m0 + 20 * (j : Int)) d ∧ Free t4 ∧ Free t5 ∧ Free t6
theorem house4 {S C : Sl} {a b : Numb} (h : POk a b) {M m0 : Int} (hm : m0 < 3900000000) (M1 : 1000 ≤ M) (hM : M ≤ MOST) {j : Nat} (hj : j < 2) {en : En} (hI : H4 S C a b m0 j en) : AsN (asgP (.nm 4) (.int M) en) law_b1 (H4 S C a b m0 (j + 1)) := by
  obtain ⟨d, t4, t5, t6, rfl, k0, f4, f5, f6⟩ := hI
  simp! [f4]
  unfold law_b1
  have i0 : law_i0 [S, C, .ow false d, .fz (planD a b), .fz (.int M), t5, t6, .un, .un] = .ok ((rngI 0 5).map D.int) [S, C, .ow false d, .fz (planD a b), .fz (.int M), t5, t6, .un, .un] := range1_ev (n := 5) rfl (by decide) (by decide)
  rw [ev_for, i0, bind_ok, ev_for1]
  have start : T4 S C a b M (m0 + 20 * (j : Int)) 0 [S, C, .ow false d, .fz (planD a b), .fz (.int M), t5, t6, .un, .un] := ⟨d, _, _, rfl, k0.mono (by omega), f5, f6⟩
  have lp := Nx.forI (p := .nm 5) (f := law_b0) (I := T4 S C a b M (m0 + 20 * (j : Int))) (ds := (rngI 0 5).map D.int) 0 start (fun k d en hd hI => by
    obtain ⟨hk, rfl⟩ := rng_at4 hd
    rw [Nat.zero_add] at hI ⊢
    exact turn4 h (by omega) M1 hM hk hI)
  rw [List.length_map, rngI_len, Nat.zero_add] at lp
  exact lp.mono fun en ⟨d, t5, t6, e, k, f5, f6⟩ => ⟨d, _, t5, t6, e, k.mono (by omega), .fz, f5, f6⟩
def Inv4 (S : D) (en : En) : Prop := ∃ C Dc t3 t4 t5 t6, en = [.fz S, C, Dc, t3, t4, t5, t6, .un, .un] ∧ Free C ∧ Free Dc ∧ Free t3 ∧ Free t4 ∧ Free t5 ∧ Free t6
theorem cell_ok {S : D} {i : Int} {en : En} (hi : Inv4 S en) : AsN (asgP (.nm 1) (.int i) en) law_b2 (Inv4 S) := by
  obtain ⟨C, Dc, t3, t4, t5, t6, rfl, fC, fD, f3, f4, f5, f6⟩ := hi
  obtain ⟨d0, e0, k0⟩ := deck_spec i 4 (by decide)
  obtain ⟨a, b, d1, e1, k1, h, _⟩ := make_plan k0 (by omega)
  obtain ⟨r1, d2, e2, a0, a1, k2⟩ := pick_spec k1 (by omega) (n := 100000) (by decide) (by decide)
  obtain ⟨r2, d3, e3, b0, b1, k3⟩ := pick_spec k2 (by omega) (n := 1000000000) (by decide) (by decide)
  simp! [fC]
  unfold law_b2
  refine Nx.seq (P := fun en => en = [.fz S, .fz (.int i), .ow false d0, t3, t4, t5, t6, .un, .un]) (by simp! [fD, e0]) fun en he => ?_
  subst he
  refine Nx.seq (P := fun en => en = [.fz S, .fz (.int i), .ow false d1, .fz (planD a b), t4, t5, t6, .un, .un]) (by simp! [f3, e1]) fun en he => ?_
  subst he
  have i1 : law_i1 [.fz S, .fz (.int i), .ow false d1, .fz (planD a b), t4, t5, t6, .un, .un] = .ok [.int (1000 + r1), .int (10000000000000000000000000000 + r2)] [.fz S, .fz (.int i), .ow false d3, .fz (planD a b), t4, t5, t6, .un, .un] := by
    generalize planD a b = pp at *
    simp! [law_i1, pw3, pw5, e2, pw28, pw9, e3]
  rw [ev_for, i1, bind_ok, ev_for1]
  have start : H4 (.fz S) (.fz (.int i)) a b 100 0 [.fz S, .fz (.int i), .ow false d3, .fz (planD a b), t4, t5, t6, .un, .un] := ⟨d3, _, _, _, rfl, k3.mono (by omega), f4, f5, f6⟩
  have lp := Nx.forI (p := .nm 4) (f := law_b1) (I := H4 (.fz S) (.fz (.int i)) a b 100) (ds := [.int (1000 + r1), .int (10000000000000000000000000000 + r2)]) 0 start (fun k d en hd hI => by
    rw [Nat.zero_add] at hI ⊢
    have hk : k < 2 := (List.getElem?_eq_some_iff.mp hd).1
    have : ∃ M, d = .int M ∧ 1000 ≤ M ∧ M ≤ MOST := by
      match k, hk with
      | 0, _ => cases hd; exact ⟨_, rfl, by omega, by unfold MOST; omega⟩
      | 1, _ => cases hd; exact ⟨_, rfl, by omega, by unfold MOST; omega⟩
    obtain ⟨M, rfl, M1, M2⟩ := this
    exact house4 h (by decide) M1 M2 hk hI)
  refine lp.mono fun en ⟨d, t4, t5, t6, e, k, f4, f5, f6⟩ => ?_
  exact ⟨_, _, _, t4, t5, t6, e, .fz, .ow, .fz, f4, f5, f6⟩
theorem mem_cut {x : D} {xs : List D} {lo hi : Option Int} (h : x ∈ PF.cutD xs lo hi) : x ∈ xs := List.mem_of_mem_drop (List.mem_of_mem_take h)
theorem cells_ok {ns : List Int} (h : ns.length ≤ 63) {r : En} : ∃ ds, law_i2 (.fz (.lst (ns.map D.int)) :: r) = .ok ds (.fz (.lst (ns.map D.int)) :: r) ∧ ∀ d ∈ ds, ∃ i : Int, d = .int i := by
  refine ⟨PF.cutD ([.int 0] ++ ns.map D.int) none (some 10), ?_, fun d hd => ?_⟩
  · unfold law_i2
    refine iSeq_lst' ?_
    have ad : gAdd (.lst [.int 0]) (.lst (ns.map D.int)) = some (.fresh (.lst ([.int 0] ++ ns.map D.int))) := gAdd_lst (by rw [List.length_map]; simp only [List.length_singleton]; omega)
    simp! [ad]
  · rcases List.mem_append.mp (mem_cut hd) with hd | hd
    · exact ⟨0, by simpa using hd⟩
    · obtain ⟨i, _, e⟩ := List.mem_map.mp hd
      exact ⟨i, e.symm⟩
/-! the written plans -/
def nP : Numb := ⟨true, 1, [1]⟩
def n4 : Numb := ⟨true, 1, [4]⟩
def nT : Numb := ⟨true, 2, [1, 2]⟩
def nU : Numb := ⟨false, 2, [3, 2]⟩
theorem nP_ok : nP.Ok := ⟨by decide, by decide, by decide, by decide, by decide, by decide⟩
theorem n4_ok : n4.Ok := ⟨by decide, by decide, by decide, by decide, by decide, by decide⟩
theorem nT_ok : nT.Ok := ⟨by decide, by decide, by decide, by decide, by decide, by decide⟩
theorem nU_ok : nU.Ok := ⟨by decide, by decide, by decide, by decide, by decide, by decide⟩
theorem h34 : POk nP n4 := ⟨nP_ok, n4_ok, rfl⟩
theorem hTU : POk nT nU := ⟨nT_ok, nU_ok, rfl⟩
theorem noP {M p : Int} : nP.no M p = p + 1 := by
  show p / 1 * 1 + ([1] : List Int).getD (p % 1).toNat 0 = p + 1
  rw [Int.emod_one, Int.ediv_one, Int.mul_one]
  rfl
theorem no4 {M p : Int} : n4.no M p = p + 4 := by
  show p / 1 * 1 + ([4] : List Int).getD (p % 1).toNat 0 = p + 4
  rw [Int.emod_one, Int.ediv_one, Int.mul_one]
  rfl
theorem heir3 {M p : Int} (h0 : 3 ≤ p) (h1 : p < M) : heirP nP n4 M p = some (p - 3) := (heir_iff h34).mpr ⟨by omega, by omega, by rw [noP, no4]; omega⟩
theorem heir3n {M p : Int} (h0 : p < 3) : heirP nP n4 M p = none := by
  cases c : heirP nP n4 M p with
  | none => rfl
  | some q =>
    have := (heir_iff h34).mp c
    rw [noP, no4] at this
    omega
theorem giver3 {M p : Int} (h0 : 0 ≤ p) (h1 : p + 3 < M) : giverP nP n4 M p = some (p + 3) := (giver_iff h34).mpr ⟨by omega, by omega, by rw [noP, no4]; omega⟩
theorem giver3n {M p : Int} (h0 : M ≤ p + 3) : giverP nP n4 M p = none := by
  cases c : giverP nP n4 M p with
  | none => rfl
  | some q =>
    have := (giver_iff h34).mp c
    rw [noP, no4] at this
    omega
theorem down3 {M p : Int} (h1 : p < M) : ∀ k : Nat, 3 * (k : Int) ≤ p → iter (heirP nP n4 M) k p = some (p - 3 * (k : Int))
  | 0, _ => by show some p = _; congr 1; omega
  | k + 1, h => by
    rw [iter_step (down3 h1 k (by omega)), heir3 (by omega) (by omega)]
    congr 1
    omega
theorem up3 {M p : Int} (h0 : 0 ≤ p) : ∀ k : Nat, p + 3 * (k : Int) < M → iter (giverP nP n4 M) k p = some (p + 3 * (k : Int))
  | 0, _ => by show some p = _; congr 1; omega
  | k + 1, h => by
    rw [iter_step (up3 h0 k (by omega)), giver3 (by omega) (by omega)]
    congr 1
    omega
theorem fate3 {M p : Int} (hM : M ≤ MOST) (p0 : 0 ≤ p) (p1 : p < M) : F_fate [.fz (planD nP n4), .fz (.int M), .fz (.int p)] = .ok false (.tup [.str "path", .int ((M - 1 - p) / 3), .int (p / 3)]) [.fz (planD nP n4), .fz (.int M), .fz (.int p)] := by
  obtain ⟨d, e, w⟩ := fate_spec h34 hM p0 p1
  have c1 : ((p / 3).toNat : Int) = p / 3 := by omega
  have c2 : (((M - 1 - p) / 3).toNat : Int) = (M - 1 - p) / 3 := by omega
  cases fate_unique w (.inr ⟨(p / 3).toNat, ((M - 1 - p) / 3).toNat, _, _, ⟨down3 p1 _ (by omega), heir3n (by omega)⟩, ⟨up3 p0 _ (by omega), giver3n (by omega)⟩, rfl⟩)
  rw [c1, c2] at e
  exact e
abbrev pThree : D := .tup [.tup [.str "near", .int 1, .tup [.int 1]], .tup [.str "near", .int 1, .tup [.int 4]]]
abbrev pTurn : D := .tup [.tup [.str "near", .int 2, .tup [.int 1, .int 2]], .tup [.str "far", .int 2, .tup [.int 3, .int 2]]]
theorem known_ev : ∃ k0 k1 k3 k4, F__law_known [] = .ok true (.lst [k0, k1, pThree, k3, k4]) [] := ⟨.tup [nP.d, .tup [.str "near", .int 2, .tup [.int 2, .int 1]]], .tup [nP.d, .tup [.str "far", .int 1, .tup [.int 1]]], .tup [.tup [.str "near", .int 2, .tup [.int 1]], .tup [.str "near", .int 2, .tup [.int 2]]], .tup [.tup [.str "near", .int 2, .tup [.int 1]], .tup [.str "near", .int 2, .tup [.int 5]]], by kernel_rfl⟩
theorem tail_t {ff fk fr fh : FS} {k0 k1 k3 k4 : D} (kn : fk [] = .ok true (.lst [k0, k1, pThree, k3, k4]) [])
    (q1 : ff [.fz pThree, .fz (.int 1000000000000000000000000000000), .fz (.int 0)] = .ok false (.tup [.str "path", .int 333333333333333333333333333333, .int 0]) [.fz pThree, .fz (.int 1000000000000000000000000000000), .fz (.int 0)])
    (q2 : ff [.fz pThree, .fz (.int 1000000000000000000000000000000), .fz (.int 100000000000000000000000000000)] = .ok false (.tup [.str "path", .int 299999999999999999999999999999, .int 33333333333333333333333333333]) [.fz pThree, .fz (.int 1000000000000000000000000000000), .fz (.int 100000000000000000000000000000)])
    (q3 : fr [.fz pTurn, .fz (.int 100000000000000000000000000000), .fz (.int 5)] = .ok false (.bl true) [.fz pTurn, .fz (.int 100000000000000000000000000000), .fz (.int 5)])
    (q4 : fr [.fz pTurn, .fz (.int 1001), .fz (.int 0)] = .ok false (.bl true) [.fz pTurn, .fz (.int 1001), .fz (.int 0)])
    (q5 : fh [.fz pThree, .fz (.int 1000000000000000000000000000000), .fz (.int 999999999999999999999999999999)] = .ok false (.int 999999999999999999999999999996) [.fz pThree, .fz (.int 1000000000000000000000000000000), .fz (.int 999999999999999999999999999999)]) {S C Dc t3 t4 t5 t6 : Sl} :
    Fw (kFn 1 ((sSeq (sSet 7 (eOp2 gIx (eFn fk [] aNil) (eC (.int 2))))
  (sSeq (sIf (tCmp' gNe (eFn ff [false, false, false] (aCons (eVar 7) (aCons (eOp2 gPow (eC (.int 10)) (eC (.int 30))) (aCons (eC (.int 0)) aNil)))) (eTup (aCons (eC (.str "path")) (aCons (eOp2 gDiv (eOp2 gSub (eOp2 gPow (eC (.int 10)) (eC (.int 30))) (eC (.int 1))) (eC (.int 3))) (aCons (eC (.int 0)) aNil))))) (sRet (eC (.bl false))) sNext)
  (sSeq (sIf (tCmp' gNe (eFn ff [false, false, false] (aCons (eVar 7) (aCons (eOp2 gPow (eC (.int 10)) (eC (.int 30))) (aCons (eOp2 gPow (eC (.int 10)) (eC (.int 29))) aNil)))) (eTup (aCons (eC (.str "path")) (aCons (eOp2 gDiv (eOp2 gSub (eOp2 gSub (eOp2 gPow (eC (.int 10)) (eC (.int 30))) (eC (.int 1))) (eOp2 gPow (eC (.int 10)) (eC (.int 29)))) (eC (.int 3))) (aCons (eOp2 gDiv (eOp2 gPow (eC (.int 10)) (eC (.int 29))) (eC (.int 3))) aNil))))) (sRet (eC (.bl false))) sNext)
  (sSeq (sSet 8 (eTup (aCons (eTup (aCons (eC (.str "near")) (aCons (eC (.int 2)) (aCons (eTup (aCons (eC (.int 1)) (aCons (eC (.int 2)) aNil))) aNil)))) (aCons (eTup (aCons (eC (.str "far")) (aCons (eC (.int 2)) (aCons (eTup (aCons (eC (.int 3)) (aCons (eC (.int 2)) aNil))) aNil)))) aNil))))
  (sSeq (sIf (tOr' (tNot' (tVal (eFn fr [false, false, false] (aCons (eVar 8) (aCons (eOp2 gPow (eC (.int 10)) (eC (.int 29))) (aCons (eC (.int 5)) aNil)))))) (tNot' (tVal (eFn fr [false, false, false] (aCons (eVar 8) (aCons (eC (.int 1001)) (aCons (eC (.int 0)) aNil))))))) (sRet (eC (.bl false))) sNext)
  (sRet (eOp2 gEq (eFn fh [false, false, false] (aCons (eVar 7) (aCons (eOp2 gPow (eC (.int 10)) (eC (.int 30))) (aCons (eOp2 gSub (eOp2 gPow (eC (.int 10)) (eC (.int 30))) (eC (.int 1))) aNil)))) (eOp2 gSub (eOp2 gPow (eC (.int 10)) (eC (.int 30))) (eC (.int 4)))))))))) [S, C, Dc, t3, t4, t5, t6, .un, .un])) (fun fr d outs => fr = false ∧ d = .bl true) := by
  have v1 : gDiv (.int 999999999999999999999999999999) (.int 3) = some (.val (.int 333333333333333333333333333333)) := by kernel_rfl
  have v2 : gDiv (.int 899999999999999999999999999999) (.int 3) = some (.val (.int 299999999999999999999999999999)) := by kernel_rfl
  have v3 : gDiv (.int 100000000000000000000000000000) (.int 3) = some (.val (.int 33333333333333333333333333333)) := by kernel_rfl
  refine Fw.seq (Q := fun en => en = [S, C, Dc, t3, t4, t5, t6, .fz pThree, .un]) (by simp! [kn]) fun en he => ?_
  subst he
  refine Fw.seq (Q := fun en => en = [S, C, Dc, t3, t4, t5, t6, .fz pThree, .un]) (by simp! [pw30, q1, v1, ne_path]) fun en he => ?_
  subst he
  refine Fw.seq (Q := fun en => en = [S, C, Dc, t3, t4, t5, t6, .fz pThree, .un]) (by simp! [pw30, pw29, q2, v2, v3, ne_path]) fun en he => ?_
  subst he
  refine Fw.seq (Q := fun en => en = [S, C, Dc, t3, t4, t5, t6, .fz pThree, .fz pTurn]) (by simp! []) fun en he => ?_
  subst he
  refine Fw.seq (Q := fun en => en = [S, C, Dc, t3, t4, t5, t6, .fz pThree, .fz pTurn]) (by simp! [pw29, q3, q4]) fun en he => ?_
  subst he
  simp! [pw30, q5]
theorem plain (ns : List Int) (h1 : ns.length ≤ 63) (h2 : ∀ z ∈ ns, Builtin.Int.intBits z ≤ 1048576) : ∃ outs, F_law [.fz (.lst (ns.map D.int))] = .ok false (.bl true) outs := by
  obtain ⟨ds, e1, hds⟩ := cells_ok h1 (r := [.un, .un, .un, .un, .un, .un, .un, .un])
  obtain ⟨k0, k1, k3, k4, kn⟩ := known_ev
  have q1 := fate3 (M := 1000000000000000000000000000000) (p := 0) (by decide) (by decide) (by decide)
  have q2 := fate3 (M := 1000000000000000000000000000000) (p := 100000000000000000000000000000) (by decide) (by decide) (by decide)
  have q3 := on_right hTU (M := 100000000000000000000000000000) (p := 5) (by decide) (by decide) (by decide)
  have q4 := on_right hTU (M := 1001) (p := 0) (by decide) (by decide) (by decide)
  have q5 := heir_spec h34 (M := 1000000000000000000000000000000) (p := 999999999999999999999999999999) (by decide) (by decide) (by decide)
  rw [heir3 (by decide) (by decide)] at q5
  have z : Fw (F_law [.fz (.lst (ns.map D.int))]) fun fr d outs => fr = false ∧ d = .bl true := by
    rw [e_law]
    unfold g_law
    rw [ev_seq, ev_for, e1, bind_ok, ev_for1]
    refine Fw.bnd (Nx.forP (P := Inv4 (.lst (ns.map D.int))) ⟨_, _, _, _, _, _, rfl, .un, .un, .un, .un, .un, .un⟩ fun x hx en hI => ?_) fun en hI => ?_
    · obtain ⟨i, rfl⟩ := hds x hx
      exact cell_ok hI
    · obtain ⟨C, Dc, t3, t4, t5, t6, rfl, _⟩ := hI
      exact tail_t kn q1 q2 q3 q4 q5
  obtain ⟨fr, d, outs, e, rfl, rfl⟩ := z
  exact ⟨outs, e⟩
end Wk04
namespace Wk04
open PySem PySem.Spec PyProof.Rows L2 PF LamX
def fn : List He.DefD := [⟨("_law_deck", none), "_law_deck", "_law_deck", defArgs s__law_deck, defBody s__law_deck, defScope s__law_deck, [], []⟩, ⟨("_law_pick", none), "_law_pick", "_law_pick", defArgs s__law_pick, defBody s__law_pick, defScope s__law_pick, [], []⟩, ⟨("_law_one", none), "_law_one", "_law_one", defArgs s__law_one, defBody s__law_one, defScope s__law_one, [], []⟩, ⟨("_law_table", none), "_law_table", "_law_table", defArgs s__law_table, defBody s__law_table, defScope s__law_table, [], []⟩, ⟨("_law_plan", none), "_law_plan", "_law_plan", defArgs s__law_plan, defBody s__law_plan, defScope s__law_plan, [], []⟩, ⟨("_law_known", none), "_law_known", "_law_known", defArgs s__law_known, defBody s__law_known, defScope s__law_known, [], []⟩, ⟨("has_items", none), "has_items", "has_items", defArgs s_has_items, defBody s_has_items, defScope s_has_items, [], []⟩, ⟨("is_within", none), "is_within", "is_within", defArgs s_is_within, defBody s_is_within, defScope s_is_within, [], []⟩, ⟨("is_numbering_value", none), "is_numbering_value", "is_numbering_value", defArgs s_is_numbering_value, defBody s_is_numbering_value, defScope s_is_numbering_value, [], []⟩, ⟨("is_plan_value", none), "is_plan_value", "is_plan_value", defArgs s_is_plan_value, defBody s_is_plan_value, defScope s_is_plan_value, [], []⟩, ⟨("need_plan", none), "need_plan", "need_plan", defArgs s_need_plan, defBody s_need_plan, defScope s_need_plan, [], []⟩, ⟨("need_count", none), "need_count", "need_count", defArgs s_need_count, defBody s_need_count, defScope s_need_count, [], []⟩, ⟨("need_house", none), "need_house", "need_house", defArgs s_need_house, defBody s_need_house, defScope s_need_house, [], []⟩, ⟨("leap", none), "leap", "leap", defArgs s_leap, defBody s_leap, defScope s_leap, [], []⟩, ⟨("period_of", none), "period_of", "period_of", defArgs s_period_of, defBody s_period_of, defScope s_period_of, [], []⟩, ⟨("index_of", none), "index_of", "index_of", defArgs s_index_of, defBody s_index_of, defScope s_index_of, [], []⟩, ⟨("place_of", none), "place_of", "place_of", defArgs s_place_of, defBody s_place_of, defScope s_place_of, [], []⟩, ⟨("number_of", none), "number_of", "number_of", defArgs s_number_of, defBody s_number_of, defScope s_number_of, [], []⟩, ⟨("heir_of", none), "heir_of", "heir_of", defArgs s_heir_of, defBody s_heir_of, defScope s_heir_of, [], []⟩, ⟨("giver_of", none), "giver_of", "giver_of", defArgs s_giver_of, defBody s_giver_of, defScope s_giver_of, [], []⟩, ⟨("step_of", none), "step_of", "step_of", defArgs s_step_of, defBody s_step_of, defScope s_step_of, [], []⟩, ⟨("walk", none), "walk", "walk", defArgs s_walk, defBody s_walk, defScope s_walk, [], []⟩, ⟨("fate_of", none), "fate_of", "fate_of", defArgs s_fate_of, defBody s_fate_of, defScope s_fate_of, [], []⟩, ⟨("fate", none), "fate", "fate", defArgs s_fate, defBody s_fate, defScope s_fate, [], []⟩, ⟨("heir", none), "heir", "heir", defArgs s_heir, defBody s_heir, defScope s_heir, [], []⟩, ⟨("first_giver", none), "first_giver", "first_giver", defArgs s_first_giver, defBody s_first_giver, defScope s_first_giver, [], []⟩, ⟨("last_heir", none), "last_heir", "last_heir", defArgs s_last_heir, defBody s_last_heir, defScope s_last_heir, [], []⟩, ⟨("giver", none), "giver", "giver", defArgs s_giver, defBody s_giver, defScope s_giver, [], []⟩, ⟨("_law_on_right", none), "_law_on_right", "_law_on_right", defArgs s__law_on_right, defBody s__law_on_right, defScope s__law_on_right, [], []⟩, ⟨("chain", none), "chain", "chain", defArgs s_chain, defBody s_chain, defScope s_chain, [], []⟩, ⟨("_law_steps_right", none), "_law_steps_right", "_law_steps_right", defArgs s__law_steps_right, defBody s__law_steps_right, defScope s__law_steps_right, [], []⟩, ⟨("law", none), "law", "law", defArgs s_law, defBody s_law, defScope s_law, [], []⟩]
def fa : List He.Fa := [.glo "_law_deck", .glo "_law_pick", .glo "_law_one", .glo "_law_table", .glo "_law_plan", .glo "_law_known", .glo "has_items", .glo "is_within", .glo "is_numbering_value", .glo "is_plan_value", .glo "need_plan", .glo "need_count", .glo "need_house", .glo "leap", .glo "period_of", .glo "index_of", .glo "place_of", .glo "number_of", .glo "heir_of", .glo "giver_of", .glo "step_of", .glo "walk", .glo "fate_of", .glo "fate", .glo "heir", .glo "first_giver", .glo "last_heir", .glo "giver", .glo "_law_on_right", .glo "chain", .glo "_law_steps_right", .glo "law", .glo "InvalidCount", .glo "InvalidPlace", .glo "InvalidPlan", .glo "ENDS", .free "all", .free "bool", .free "enumerate", .free "int", .free "isinstance", .free "len", .free "max", .free "min", .free "range", .free "set", .free "str", .free "tuple", .int "MOST" 1000000000000000000000000000000, .exc "InvalidCount", .exc "InvalidPlace", .exc "InvalidPlan"]
def ex (K : PySem.W.Frag) : Bool := He.tupB K "ENDS" [.str "far", .str "near"]
def tf : List He.Defn := []
abbrev R : PySem.W.OpenRow := PySem.W.OpenLaw.row PySem.Challenge.rw_newnumbers_k04_ways_of_thirty_figures
abbrev hk : PySem.W.Hook := He.hookX 5 fa fn [] tf ex
def ob (s : PySem.W.SharedT) : He.AlX := He.obsX 5 fa fn [] tf ex (HandSHeadRun.getT s)
theorem ob_eq (s : PySem.W.SharedT) : ob s = hk.obs s.abs := He.obsX_eq (HandSHeadRun.getT_eq s)
def loose : List Str := [("__name__" : Str), ("NumberError" : Str), ("InvalidPlan" : Str), ("InvalidCount" : Str), ("InvalidPlace" : Str), ("ENDS" : Str), ("MOST" : Str), ("is_within" : Str), ("has_items" : Str), ("is_numbering_value" : Str), ("is_plan_value" : Str), ("number_of" : Str), ("index_of" : Str), ("place_of" : Str), ("heir_of" : Str), ("giver_of" : Str), ("period_of" : Str), ("need_plan" : Str), ("need_count" : Str), ("need_house" : Str), ("heir" : Str), ("giver" : Str), ("step_of" : Str), ("leap" : Str), ("walk" : Str), ("fate_of" : Str), ("fate" : Str), ("last_heir" : Str), ("first_giver" : Str), ("chain" : Str), ("_law_deck" : Str), ("_law_pick" : Str), ("_law_one" : Str), ("_law_table" : Str), ("_law_plan" : Str), ("_law_known" : Str), ("_law_on_right" : Str), ("_law_steps_right" : Str)]
theorem run (w : World) : HandSHeadRun.RunEq R (PySem.W.view R.prog [41]) hk ob 6000 loose w := by
  intro os
  kernel_rfl
theorem facts_of {K : PySem.W.Frag} {mg : Str → Option Value} {w : World} {h hh : Heap} (X : K.In hh) (G : hh.Ns mainGlobals mg) (c : He.SaysX fa fn [] tf ex w h K) : ∃ Z : Facts K mg, Z.a_law = He.ga K "law" := by
  obtain ⟨d0, F0⟩ := c.t.d.def_ 0 rfl
  obtain ⟨d1, F1⟩ := c.t.d.def_ 1 rfl
  obtain ⟨d2, F2⟩ := c.t.d.def_ 2 rfl
  obtain ⟨d3, F3⟩ := c.t.d.def_ 3 rfl
  obtain ⟨d4, F4⟩ := c.t.d.def_ 4 rfl
  obtain ⟨d5, F5⟩ := c.t.d.def_ 5 rfl
  obtain ⟨d6, F6⟩ := c.t.d.def_ 6 rfl
  obtain ⟨d7, F7⟩ := c.t.d.def_ 7 rfl
  obtain ⟨d8, F8⟩ := c.t.d.def_ 8 rfl
  obtain ⟨d9, F9⟩ := c.t.d.def_ 9 rfl
  obtain ⟨d10, F10⟩ := c.t.d.def_ 10 rfl
  obtain ⟨d11, F11⟩ := c.t.d.def_ 11 rfl
  obtain ⟨d12, F12⟩ := c.t.d.def_ 12 rfl
  obtain ⟨d13, F13⟩ := c.t.d.def_ 13 rfl
  obtain ⟨d14, F14⟩ := c.t.d.def_ 14 rfl
  obtain ⟨d15, F15⟩ := c.t.d.def_ 15 rfl
  obtain ⟨d16, F16⟩ := c.t.d.def_ 16 rfl
  obtain ⟨d17, F17⟩ := c.t.d.def_ 17 rfl
  obtain ⟨d18, F18⟩ := c.t.d.def_ 18 rfl
  obtain ⟨d19, F19⟩ := c.t.d.def_ 19 rfl
  obtain ⟨d20, F20⟩ := c.t.d.def_ 20 rfl
  obtain ⟨d21, F21⟩ := c.t.d.def_ 21 rfl
  obtain ⟨d22, F22⟩ := c.t.d.def_ 22 rfl
  obtain ⟨d23, F23⟩ := c.t.d.def_ 23 rfl
  obtain ⟨d24, F24⟩ := c.t.d.def_ 24 rfl
  obtain ⟨d25, F25⟩ := c.t.d.def_ 25 rfl
  obtain ⟨d26, F26⟩ := c.t.d.def_ 26 rfl
  obtain ⟨d27, F27⟩ := c.t.d.def_ 27 rfl
  obtain ⟨d28, F28⟩ := c.t.d.def_ 28 rfl
  obtain ⟨d29, F29⟩ := c.t.d.def_ 29 rfl
  obtain ⟨d30, F30⟩ := c.t.d.def_ 30 rfl
  obtain ⟨d31, F31⟩ := c.t.d.def_ 31 rfl
  have m : ex K = true := c.more
  unfold ex at m
  have m0 := m
  exact ⟨{ a__law_deck := He.ga K "_law_deck", d__law_deck := d0, f__law_deck := F0, m__law_deck := He.glo_ok X G (c.t.d.fact 0 rfl), a__law_pick := He.ga K "_law_pick", d__law_pick := d1, f__law_pick := F1, m__law_pick := He.glo_ok X G (c.t.d.fact 1 rfl), a__law_one := He.ga K "_law_one", d__law_one := d2, f__law_one := F2, m__law_one := He.glo_ok X G (c.t.d.fact 2 rfl), a__law_table := He.ga K "_law_table", d__law_table := d3, f__law_table := F3, m__law_table := He.glo_ok X G (c.t.d.fact 3 rfl), a__law_plan := He.ga K "_law_plan", d__law_plan := d4, f__law_plan := F4, m__law_plan := He.glo_ok X G (c.t.d.fact 4 rfl), a__law_known := He.ga K "_law_known", d__law_known := d5, f__law_known := F5, m__law_known := He.glo_ok X G (c.t.d.fact 5 rfl), a_has_items := He.ga K "has_items", d_has_items := d6, f_has_items := F6, m_has_items := He.glo_ok X G (c.t.d.fact 6 rfl), a_is_within := He.ga K "is_within", d_is_within := d7, f_is_within := F7, m_is_within := He.glo_ok X G (c.t.d.fact 7 rfl), a_is_numbering_value := He.ga K "is_numbering_value", d_is_numbering_value := d8, f_is_numbering_value := F8, m_is_numbering_value := He.glo_ok X G (c.t.d.fact 8 rfl), a_is_plan_value := He.ga K "is_plan_value", d_is_plan_value := d9, f_is_plan_value := F9, m_is_plan_value := He.glo_ok X G (c.t.d.fact 9 rfl), a_need_plan := He.ga K "need_plan", d_need_plan := d10, f_need_plan := F10, m_need_plan := He.glo_ok X G (c.t.d.fact 10 rfl), a_need_count := He.ga K "need_count", d_need_count := d11, f_need_count := F11, m_need_count := He.glo_ok X G (c.t.d.fact 11 rfl), a_need_house := He.ga K "need_house", d_need_house := d12, f_need_house := F12, m_need_house := He.glo_ok X G (c.t.d.fact 12 rfl), a_leap := He.ga K "leap", d_leap := d13, f_leap := F13, m_leap := He.glo_ok X G (c.t.d.fact 13 rfl), a_period_of := He.ga K "period_of", d_period_of := d14, f_period_of := F14, m_period_of := He.glo_ok X G (c.t.d.fact 14 rfl), a_index_of := He.ga K "index_of", d_index_of := d15, f_index_of := F15, m_index_of := He.glo_ok X G (c.t.d.fact 15 rfl), a_place_of := He.ga K "place_of", d_place_of := d16, f_place_of := F16, m_place_of := He.glo_ok X G (c.t.d.fact 16 rfl), a_number_of := He.ga K "number_of", d_number_of := d17, f_number_of := F17, m_number_of := He.glo_ok X G (c.t.d.fact 17 rfl), a_heir_of := He.ga K "heir_of", d_heir_of := d18, f_heir_of := F18, m_heir_of := He.glo_ok X G (c.t.d.fact 18 rfl), a_giver_of := He.ga K "giver_of", d_giver_of := d19, f_giver_of := F19, m_giver_of := He.glo_ok X G (c.t.d.fact 19 rfl), a_step_of := He.ga K "step_of", d_step_of := d20, f_step_of := F20, m_step_of := He.glo_ok X G (c.t.d.fact 20 rfl), a_walk := He.ga K "walk", d_walk := d21, f_walk := F21, m_walk := He.glo_ok X G (c.t.d.fact 21 rfl), a_fate_of := He.ga K "fate_of", d_fate_of := d22, f_fate_of := F22, m_fate_of := He.glo_ok X G (c.t.d.fact 22 rfl), a_fate := He.ga K "fate", d_fate := d23, f_fate := F23, m_fate := He.glo_ok X G (c.t.d.fact 23 rfl), a_heir := He.ga K "heir", d_heir := d24, f_heir := F24, m_heir := He.glo_ok X G (c.t.d.fact 24 rfl), a_first_giver := He.ga K "first_giver", d_first_giver := d25, f_first_giver := F25, m_first_giver := He.glo_ok X G (c.t.d.fact 25 rfl), a_last_heir := He.ga K "last_heir", d_last_heir := d26, f_last_heir := F26, m_last_heir := He.glo_ok X G (c.t.d.fact 26 rfl), a_giver := He.ga K "giver", d_giver := d27, f_giver := F27, m_giver := He.glo_ok X G (c.t.d.fact 27 rfl), a__law_on_right := He.ga K "_law_on_right", d__law_on_right := d28, f__law_on_right := F28, m__law_on_right := He.glo_ok X G (c.t.d.fact 28 rfl), a_chain := He.ga K "chain", d_chain := d29, f_chain := F29, m_chain := He.glo_ok X G (c.t.d.fact 29 rfl), a__law_steps_right := He.ga K "_law_steps_right", d__law_steps_right := d30, f__law_steps_right := F30, m__law_steps_right := He.glo_ok X G (c.t.d.fact 30 rfl), a_law := He.ga K "law", d_law := d31, f_law := F31, m_law := He.glo_ok X G (c.t.d.fact 31 rfl), n_all := He.free_ok X G (c.t.d.fact 36 rfl), n_bool := He.free_ok X G (c.t.d.fact 37 rfl), n_enumerate := He.free_ok X G (c.t.d.fact 38 rfl), n_int := He.free_ok X G (c.t.d.fact 39 rfl), n_isinstance := He.free_ok X G (c.t.d.fact 40 rfl), n_len := He.free_ok X G (c.t.d.fact 41 rfl), n_max := He.free_ok X G (c.t.d.fact 42 rfl), n_min := He.free_ok X G (c.t.d.fact 43 rfl), n_range := He.free_ok X G (c.t.d.fact 44 rfl), n_set := He.free_ok X G (c.t.d.fact 45 rfl), n_str := He.free_ok X G (c.t.d.fact 46 rfl), n_tuple := He.free_ok X G (c.t.d.fact 47 rfl), i_MOST := He.int_ok X G (c.t.d.fact 48 rfl), c_InvalidCount := He.ga K "InvalidCount", m_InvalidCount := He.glo_ok X G (c.t.d.fact 32 rfl), c_InvalidPlace := He.ga K "InvalidPlace", m_InvalidPlace := He.glo_ok X G (c.t.d.fact 33 rfl), c_InvalidPlan := He.ga K "InvalidPlan", m_InvalidPlan := He.glo_ok X G (c.t.d.fact 34 rfl), e_InvalidCount := ⟨He.glo_ok X G (c.t.d.fact 32 rfl), (He.exc_ok (c.t.d.fact 49 rfl)).1, (He.exc_ok (c.t.d.fact 49 rfl)).2.1, (He.exc_ok (c.t.d.fact 49 rfl)).2.2.1, (He.exc_ok (c.t.d.fact 49 rfl)).2.2.2⟩, e_InvalidPlace := ⟨He.glo_ok X G (c.t.d.fact 33 rfl), (He.exc_ok (c.t.d.fact 50 rfl)).1, (He.exc_ok (c.t.d.fact 50 rfl)).2.1, (He.exc_ok (c.t.d.fact 50 rfl)).2.2.1, (He.exc_ok (c.t.d.fact 50 rfl)).2.2.2⟩, e_InvalidPlan := ⟨He.glo_ok X G (c.t.d.fact 34 rfl), (He.exc_ok (c.t.d.fact 51 rfl)).1, (He.exc_ok (c.t.d.fact 51 rfl)).2.1, (He.exc_ok (c.t.d.fact 51 rfl)).2.2.1, (He.exc_ok (c.t.d.fact 51 rfl)).2.2.2⟩, c_ENDS := He.ga K "ENDS", g_ENDS := He.glo_ok X G (c.t.d.fact 35 rfl), r_ENDS := fun H => .kt (He.tupB_ok m0 H) (.cons (.str _) (.cons (.str _) .nil)) }, rfl⟩
end Wk04
open PySem PySem.W PySem.Calls PyProof.Rows
theorem PySem.Challenge.cw_newnumbers_k04_ways_of_thirty_figures_holds : PySem.Challenge.rw_newnumbers_k04_ways_of_thirty_figures.Holds := by
  w_on; o_law
  refine HandSHeadRun.head_any (r := OpenLaw.row PySem.Challenge.rw_newnumbers_k04_ways_of_thirty_figures) (q := view (OpenLaw.row PySem.Challenge.rw_newnumbers_k04_ways_of_thirty_figures).prog [41]) (H := Wk04.hk) (ob := Wk04.ob) (M := 6000) (loose := Wk04.loose) (d := HandSHeadRun.topDef (OpenLaw.row PySem.Challenge.rw_newnumbers_k04_ways_of_thirty_figures).prog 41) (kwd := []) Wk04.ob_eq
    (by kernel_rfl) (fun s => by kernel_rfl) Wk04.run (by kernel_rfl) (by kernel_rfl) (by kernel_rfl) (by rfl) (by first | assumption | decide +kernel) (by decide +kernel) ⟨rfl, rfl, rfl, rfl, rfl, by decide +kernel⟩ ?hw ?hc
  case hw => w_witness2
  case hc =>
    refine LamX.walk_ofTsE (l := PySem.Challenge.rw_newnumbers_k04_ways_of_thirty_figures) (n := 63) (k := 9) (x := "script") (CX := fun w => L2N.CX PySem.Challenge.rw_newnumbers_k04_ways_of_thirty_figures.prog w) rfl (by decide) (by kernel_rfl) ⟨rfl, by decide, by decide⟩ ?F (fun w H s e s' h => PF.lawN_cx H s e s' h)
    intro w mg fa h Y G hmg0
    obtain ⟨K, KX, c⟩ := Y
    have hmg : mg ("law" : PySem.Str) = some (.ref fa) := by
      have e : (HandSHeadRun.topDef (OpenLaw.row PySem.Challenge.rw_newnumbers_k04_ways_of_thirty_figures).prog 41).name = ("law" : PySem.Str) := by kernel_rfl
      rw [← e]
      exact hmg0
    obtain ⟨Z, ea⟩ := Wk04.facts_of KX G c
    have e := hmg.symm.trans Z.m_law
    cases e
    have b := L2.FunD.bindsA (ps := ["script"]) Z.f_law fun _ _ _ _ _ _ us hl => match us, hl with | [_], _ => rfl
    refine ⟨K, KX, _, [], PF.spLaw K [] 63 1048576, fun p hp => (by cases hp), fun p hp => (by cases hp), fun p hp => (by cases hp), fun s v => b s [v] rfl, fun H a ns hl hb hH hS => ⟨a, ns, rfl, hS, hl, hb, fun p hp => (by cases hp), fun _ => rfl⟩, fun base KB NB TB => ?_⟩
    exact PF.fn_law (Wk04.ok_law Z) Wk04.plain
