import PyProof.Rows.All
import HandS.ForMost
import HandS.ForExc
import HandS.IsInst
import HandS.TupAny
import HandS.Wide
import HandS.Flow
import HandS.ExcOwn
import HandS.WordsExc
import HandS.Defaults
import HandS.Comp
import HandS.Iter
import HandS.Style
import HandS.Text
import HandS.Deep
import HandS.TupMul
import HandS.Small
import HandS.Conv
import HandS.Ends
import HandS.WordsDict
import HandS.Codes
import PyProof.StrOps2
import KE.GoesEnum
import HandS.Dict
import HandS.EndBits
import HandS.Head3
import HandS.HeadHook1
import HandS.HeadHook2
import HandS.HeadEnd
import HandS.List
import HandS.Set
import HandS.Strs
import HandS.More
import HandS.NoneIn
import HandS.RaiseMore
import PyProof.StrLawsRepr
import PyProof.ReprRoads
import PySem.Challenge.RW_downwords_k02_subwords_and_positions
set_option Elab.async false
set_option linter.all false
set_option maxRecDepth 100000
set_option maxHeartbeats 0
set_option autoImplicit false
/-! DLa: deep data D over the abstract heap, what a state of a def stands for (Wd). -/
namespace DL
open PySem PySem.Spec PyProof.Rows L2

/-- kinds of dicts: int and text keys; flat tuples of such; nested tuples -/
inductive DK where | K | T | N
  deriving DecidableEq
inductive D where
  | non | bl (b : Bool) | int (i : Int) | str (x : List Nat)
  | tup (xs : List D) | lst (xs : List D) | fro (xs : List D) | dct (k : DK) (kvs : List (D × D))
  | ins (c : Str) (fs : List (Str × D)) | obj (n : Nat) | fn (x : Str)
/-- an exception: its class, its fields -/
structure Ex where
  c : Str
  fs : List (Str × D)
inductive Sl where
  | un | val (d : D) | own (d : D)
structure Sts where
  ρ : List Sl
  S : List D
inductive Ou (α : Type) where
  | ok (a : α) (st : Sts) | xc (e : Ex) (st : Sts) | bad
def Ou.bind {α β : Type} : Ou α → (α → Sts → Ou β) → Ou β
  | .ok a st, f => f a st
  | .xc e st, _ => .xc e st
  | .bad, _ => .bad
inductive Fl where
  | nx (st : Sts) | rt (d : D) (st : Sts) | bk (st : Sts) | ct (st : Sts) | xc (e : Ex) (st : Sts) | bad

structure Md where
  K : PySem.W.Frag
  mg : Str → Option Value
abbrev md (X : Cx) : Md := ⟨X.K, X.mg⟩
structure Gh where
  F : Addr → Prop
  as : List Addr
def Gh.add (g : Gh) (p : Addr) : Gh := ⟨fun a => a = p ∨ g.F a, g.as⟩
def imm : HO → Prop
  | .tup _ => True
  | .frz _ _ => True
  | .xd _ => True
  | _ => False
/-- a list in the written part -/
def KL (K : PySem.W.Frag) (a : Addr) (xs : List V) : Prop :=
  ∃ (o : Obj) (its : Array Value) (n : Nat), K.lookup a = some o ∧ o.cls = .type "list" ∧ o.dict = none ∧ o.data = .seq its n ∧ its.size ≤ sizeLine ∧ Vals xs its.toList
/-- a list that nobody can write (the script) -/
def FR (K : PySem.W.Frag) (H : Hp) (a : Addr) (xs : List V) : Prop := (∃ o, H a = some (.frz o (.lst xs))) ∨ KL K a xs
def keyD : Key → D
  | .inl i => .int i
  | .inr x => .str x.cps.toList
def keyOk : Key → Prop
  | .inl _ => True
  | .inr x => ∀ c ∈ x.cps.toList, c < 1114112
def okS (x : List Nat) : Prop := ∀ c ∈ x, c < 1114112

mutual
def Rep (Γ : Md) (g : Gh) (H : Hp) : D → V → Prop
  | .non, v => v = .non
  | .bl b, v => v = .bl b
  | .int i, v => v = .int i
  | .str x, v => v = .str ⟨x.toArray⟩ ∧ okS x
  | .tup ds, v => ∃ a xs, v = .ref a ∧ H a = some (.tup xs) ∧ Reps Γ g H ds xs
  | .lst ds, v => ∃ a xs, v = .ref a ∧ (g.F a ∧ H a = some (.lst xs)) ∧ Reps Γ g H ds xs
  | .fro ds, v => ∃ a xs, v = .ref a ∧ FR Γ.K H a xs ∧ Reps Γ g H ds xs
  | .dct .K kvs, v => ∃ a ks, v = .ref a ∧ g.F a ∧ H a = some (.dK ks) ∧ RepK Γ g H kvs ks
  | .dct .T kvs, v => ∃ a ks, v = .ref a ∧ g.F a ∧ H a = some (.dT ks) ∧ RepT Γ g H kvs ks
  | .dct .N _, _ => False
  | .ins c fs, v => ∃ a C dx vs, v = .ref a ∧ g.F a ∧ H a = some (.ins C dx vs) ∧ Γ.mg c = some (.ref C) ∧ RepF Γ g H fs vs
  | .obj n, v => ∃ a, v = .ref a ∧ g.as[n]? = some a
  | .fn x, v => ∃ u, Γ.mg x = some u ∧ RelV v u
def Reps (Γ : Md) (g : Gh) (H : Hp) : List D → List V → Prop
  | [], vs => vs = []
  | d :: ds, vs => ∃ v r, vs = v :: r ∧ Rep Γ g H d v ∧ Reps Γ g H ds r
def RepK (Γ : Md) (g : Gh) (H : Hp) : List (D × D) → List (Key × V) → Prop
  | [], ks => ks = []
  | (a, d) :: ds, ks => ∃ k v r, ks = (k, v) :: r ∧ a = keyD k ∧ keyOk k ∧ Rep Γ g H d v ∧ RepK Γ g H ds r
def RepT (Γ : Md) (g : Gh) (H : Hp) : List (D × D) → List (List Key × V) → Prop
  | [], ks => ks = []
  | (a, d) :: ds, ks => ∃ k v r, ks = (k, v) :: r ∧ a = .tup (k.map keyD) ∧ (∀ z ∈ k, keyOk z) ∧ Rep Γ g H d v ∧ RepT Γ g H ds r
def RepF (Γ : Md) (g : Gh) (H : Hp) : List (Str × D) → List (Str × V) → Prop
  | [], fs => fs = []
  | (x, d) :: ds, fs => ∃ v r, fs = (x, v) :: r ∧ Rep Γ g H d v ∧ RepF Γ g H ds r
end
/-- a container's content at an address -/
def Cont (Γ : Md) (g : Gh) (H : Hp) : D → Addr → Prop
  | .lst ds, a => ∃ xs, H a = some (.lst xs) ∧ Reps Γ g H ds xs
  | .dct .K kvs, a => ∃ ks, H a = some (.dK ks) ∧ RepK Γ g H kvs ks
  | .dct .T kvs, a => ∃ ks, H a = some (.dT ks) ∧ RepT Γ g H kvs ks
  | .ins c fs, a => ∃ C dx vs, H a = some (.ins C dx vs) ∧ Γ.mg c = some (.ref C) ∧ RepF Γ g H fs vs
  | _, _ => False
/-- as Rep, the outermost list or dict may still change -/
def CRep (Γ : Md) (g : Gh) (H : Hp) : D → V → Prop
  | .lst ds, v => ∃ a xs, v = .ref a ∧ H a = some (.lst xs) ∧ Reps Γ g H ds xs
  | .dct .K kvs, v => ∃ a ks, v = .ref a ∧ H a = some (.dK ks) ∧ RepK Γ g H kvs ks
  | .dct .T kvs, v => ∃ a ks, v = .ref a ∧ H a = some (.dT ks) ∧ RepT Γ g H kvs ks
  | .ins c fs, v => ∃ a C dx vs, v = .ref a ∧ H a = some (.ins C dx vs) ∧ Γ.mg c = some (.ref C) ∧ RepF Γ g H fs vs
  | d, v => Rep Γ g H d v

structure Le (g : Gh) (H : Hp) (g' : Gh) (H' : Hp) : Prop where
  F : ∀ a, g.F a → g'.F a
  as : ∀ (n : Nat) (a : Addr), g.as[n]? = some a → g'.as[n]? = some a
  keep : ∀ a o, H a = some o → (g.F a ∨ imm o) → H' a = some o
theorem Le.refl {g : Gh} {H : Hp} : Le g H g H := ⟨fun _ h => h, fun _ _ h => h, fun _ _ h _ => h⟩
theorem Le.trans {g1 g2 g3 : Gh} {H1 H2 H3 : Hp} (a : Le g1 H1 g2 H2) (b : Le g2 H2 g3 H3) : Le g1 H1 g3 H3 :=
  ⟨fun x h => b.F x (a.F x h), fun n x h => b.as n x (a.as n x h), fun x o h k => b.keep x o (a.keep x o h k) (k.imp (a.F x) id)⟩

section
variable {Γ : Md} {g g' : Gh} {H H' : Hp}
theorem Le.tup {K : PySem.W.Frag} (l : Le g H g' H') {a : Addr} {xs : List V} (h : SqT K H a xs) : SqT K H' a xs := by
  rcases h with (h | ⟨o, h⟩) | h
  · exact .inl (.inl (l.keep _ _ h (.inr trivial)))
  · exact .inl (.inr ⟨o, l.keep _ _ h (.inr trivial)⟩)
  · exact .inr h
theorem Le.fr {K : PySem.W.Frag} (l : Le g H g' H') {a : Addr} {xs : List V} (h : FR K H a xs) : FR K H' a xs := by
  rcases h with ⟨o, h⟩ | h
  · exact .inl ⟨o, l.keep _ _ h (.inr trivial)⟩
  · exact .inr h
theorem FR.sq {K : PySem.W.Frag} {a : Addr} {xs : List V} (h : FR K H a xs) : SqL K H a xs := by
  rcases h with ⟨o, h⟩ | h
  · exact .inl (.inr ⟨o, h⟩)
  · exact .inr h
mutual
theorem Rep.mono (l : Le g H g' H') : ∀ (d : D) (v : V), Rep Γ g H d v → Rep Γ g' H' d v
  | .non, _, h => h
  | .bl _, _, h => h
  | .int _, _, h => h
  | .str _, _, h => h
  | .tup ds, _, h => by
    obtain ⟨a, xs, e, q, r⟩ := h
    exact ⟨a, xs, e, l.keep _ _ q (.inr trivial), Reps.mono l ds xs r⟩
  | .lst ds, _, h => by
    obtain ⟨a, xs, e, ⟨f, q⟩, r⟩ := h
    exact ⟨a, xs, e, ⟨l.F _ f, l.keep _ _ q (.inl f)⟩, Reps.mono l ds xs r⟩
  | .fro ds, _, h => by
    obtain ⟨a, xs, e, q, r⟩ := h
    exact ⟨a, xs, e, l.fr q, Reps.mono l ds xs r⟩
  | .dct .K kvs, _, h => by
    obtain ⟨a, ks, e, f, q, r⟩ := h
    exact ⟨a, ks, e, l.F _ f, l.keep _ _ q (.inl f), RepK.mono l kvs ks r⟩
  | .dct .T kvs, _, h => by
    obtain ⟨a, ks, e, f, q, r⟩ := h
    exact ⟨a, ks, e, l.F _ f, l.keep _ _ q (.inl f), RepT.mono l kvs ks r⟩
  | .dct .N _, _, h => h
  | .ins c fs, _, h => by
    obtain ⟨a, C, dx, vs, e, f, q, m, r⟩ := h
    exact ⟨a, C, dx, vs, e, l.F _ f, l.keep _ _ q (.inl f), m, RepF.mono l fs vs r⟩
  | .obj n, _, h => by
    obtain ⟨a, e, q⟩ := h
    exact ⟨a, e, l.as _ _ q⟩
  | .fn _, _, h => h
theorem Reps.mono (l : Le g H g' H') : ∀ (ds : List D) (vs : List V), Reps Γ g H ds vs → Reps Γ g' H' ds vs
  | [], _, h => h
  | d :: ds, _, h => by
    obtain ⟨v, r, e, q, z⟩ := h
    exact ⟨v, r, e, Rep.mono l d v q, Reps.mono l ds r z⟩
theorem RepK.mono (l : Le g H g' H') : ∀ (ds : List (D × D)) (ks : List (Key × V)), RepK Γ g H ds ks → RepK Γ g' H' ds ks
  | [], _, h => h
  | (a, d) :: ds, _, h => by
    obtain ⟨k, v, r, e, ea, eo, q, z⟩ := h
    exact ⟨k, v, r, e, ea, eo, Rep.mono l d v q, RepK.mono l ds r z⟩
theorem RepT.mono (l : Le g H g' H') : ∀ (ds : List (D × D)) (ks : List (List Key × V)), RepT Γ g H ds ks → RepT Γ g' H' ds ks
  | [], _, h => h
  | (a, d) :: ds, _, h => by
    obtain ⟨k, v, r, e, ea, eo, q, z⟩ := h
    exact ⟨k, v, r, e, ea, eo, Rep.mono l d v q, RepT.mono l ds r z⟩
theorem RepF.mono (l : Le g H g' H') : ∀ (ds : List (Str × D)) (ks : List (Str × V)), RepF Γ g H ds ks → RepF Γ g' H' ds ks
  | [], _, h => h
  | (a, d) :: ds, _, h => by
    obtain ⟨v, r, e, q, z⟩ := h
    exact ⟨v, r, e, Rep.mono l d v q, RepF.mono l ds r z⟩
end
theorem Reps.length : ∀ {ds : List D} {vs : List V}, Reps Γ g H ds vs → vs.length = ds.length
  | [], _, h => by rw [show _ = [] from h]; rfl
  | d :: ds, _, h => by
    obtain ⟨v, r, e, q, z⟩ := h
    rw [e, List.length_cons, List.length_cons, Reps.length z]
theorem Reps.get : ∀ {ds : List D} {vs : List V} {i : Nat} {d : D}, Reps Γ g H ds vs → ds[i]? = some d → ∃ v, vs[i]? = some v ∧ Rep Γ g H d v
  | [], _, _, _, _, e => by simp at e
  | d :: ds, _, 0, _, h, e => by
    obtain ⟨v, r, rfl, q, z⟩ := h
    simp at e; subst e
    exact ⟨v, rfl, q⟩
  | d :: ds, _, i + 1, _, h, e => by
    obtain ⟨v, r, rfl, q, z⟩ := h
    obtain ⟨u, h1, h2⟩ := Reps.get (i := i) z (by simpa using e)
    exact ⟨u, by simpa using h1, h2⟩
theorem Reps.get' : ∀ {ds : List D} {vs : List V} {i : Nat} {v : V}, Reps Γ g H ds vs → vs[i]? = some v → ∃ d, ds[i]? = some d ∧ Rep Γ g H d v
  | [], _, _, _, h, e => by rw [show _ = [] from h] at e; simp at e
  | d :: ds, _, 0, _, h, e => by
    obtain ⟨v, r, rfl, q, z⟩ := h
    simp at e; subst e
    exact ⟨d, rfl, q⟩
  | d :: ds, _, i + 1, _, h, e => by
    obtain ⟨v, r, rfl, q, z⟩ := h
    obtain ⟨u, h1, h2⟩ := Reps.get' (i := i) z (by simpa using e)
    exact ⟨u, by simpa using h1, h2⟩
theorem Reps.append : ∀ {ds es : List D} {vs us : List V}, Reps Γ g H ds vs → Reps Γ g H es us → Reps Γ g H (ds ++ es) (vs ++ us)
  | [], _, _, _, h, k => by rw [show _ = [] from h]; exact k
  | d :: ds, _, _, _, h, k => by
    obtain ⟨v, r, rfl, q, z⟩ := h
    exact ⟨v, r ++ _, rfl, q, Reps.append z k⟩
theorem Reps.one {d : D} {v : V} (h : Rep Γ g H d v) : Reps Γ g H [d] [v] := ⟨v, [], rfl, h, rfl⟩
theorem Rep.c : ∀ {d : D} {v : V}, Rep Γ g H d v → CRep Γ g H d v
  | .non, _, h => h
  | .bl _, _, h => h
  | .int _, _, h => h
  | .str _, _, h => h
  | .tup _, _, h => h
  | .lst ds, _, h => by
    obtain ⟨a, xs, e, ⟨_, q⟩, r⟩ := h
    exact ⟨a, xs, e, q, r⟩
  | .fro _, _, h => h
  | .dct .K _, _, h => by
    obtain ⟨a, ks, e, _, q, r⟩ := h
    exact ⟨a, ks, e, q, r⟩
  | .dct .T _, _, h => by
    obtain ⟨a, ks, e, _, q, r⟩ := h
    exact ⟨a, ks, e, q, r⟩
  | .dct .N _, _, h => h
  | .ins _ _, _, h => by
    obtain ⟨a, C, dx, vs, e, _, q, m, r⟩ := h
    exact ⟨a, C, dx, vs, e, q, m, r⟩
  | .obj _, _, h => h
  | .fn _, _, h => h
theorem Cont.c : ∀ {d : D} {a : Addr}, Cont Γ g H d a → CRep Γ g H d (.ref a)
  | .non, _, h => h.elim
  | .bl _, _, h => h.elim
  | .int _, _, h => h.elim
  | .str _, _, h => h.elim
  | .tup _, _, h => h.elim
  | .lst ds, _, h => by
    obtain ⟨xs, q, r⟩ := h
    exact ⟨_, xs, rfl, q, r⟩
  | .fro _, _, h => h.elim
  | .dct .K _, _, h => by
    obtain ⟨ks, q, r⟩ := h
    exact ⟨_, ks, rfl, q, r⟩
  | .dct .T _, _, h => by
    obtain ⟨ks, q, r⟩ := h
    exact ⟨_, ks, rfl, q, r⟩
  | .dct .N _, _, h => h.elim
  | .ins _ _, _, h => by
    obtain ⟨C, dx, vs, q, m, r⟩ := h
    exact ⟨_, C, dx, vs, rfl, q, m, r⟩
  | .obj _, _, h => h.elim
  | .fn _, _, h => h.elim
theorem Cont.there : ∀ {d : D} {a : Addr}, Cont Γ g H d a → ∃ o, H a = some o ∧ ¬ imm o
  | .non, _, h => h.elim
  | .bl _, _, h => h.elim
  | .int _, _, h => h.elim
  | .str _, _, h => h.elim
  | .tup _, _, h => h.elim
  | .fro _, _, h => h.elim
  | .lst ds, _, h => by
    obtain ⟨xs, q, r⟩ := h
    exact ⟨_, q, id⟩
  | .dct .K _, _, h => by
    obtain ⟨ks, q, r⟩ := h
    exact ⟨_, q, id⟩
  | .dct .T _, _, h => by
    obtain ⟨ks, q, r⟩ := h
    exact ⟨_, q, id⟩
  | .dct .N _, _, h => h.elim
  | .ins _ _, _, h => by
    obtain ⟨C, dx, vs, q, m, r⟩ := h
    exact ⟨_, q, id⟩
  | .obj _, _, h => h.elim
  | .fn _, _, h => h.elim
/-- a container that is frozen -/
theorem Cont.rep : ∀ {d : D} {a : Addr}, Cont Γ g H d a → g.F a → Rep Γ g H d (.ref a)
  | .non, _, h, _ => h.elim
  | .bl _, _, h, _ => h.elim
  | .int _, _, h, _ => h.elim
  | .str _, _, h, _ => h.elim
  | .tup _, _, h, _ => h.elim
  | .lst ds, _, h, f => by
    obtain ⟨xs, q, r⟩ := h
    exact ⟨_, xs, rfl, ⟨f, q⟩, r⟩
  | .fro _, _, h, _ => h.elim
  | .dct .K _, _, h, f => by
    obtain ⟨ks, q, r⟩ := h
    exact ⟨_, ks, rfl, f, q, r⟩
  | .dct .T _, _, h, f => by
    obtain ⟨ks, q, r⟩ := h
    exact ⟨_, ks, rfl, f, q, r⟩
  | .dct .N _, _, h, _ => h.elim
  | .ins _ _, _, h, f => by
    obtain ⟨C, dx, vs, q, m, r⟩ := h
    exact ⟨_, C, dx, vs, rfl, f, q, m, r⟩
  | .obj _, _, h, _ => h.elim
  | .fn _, _, h, _ => h.elim
/-- a container whose own object stays -/
theorem Cont.mono (l : Le g H g' H') : ∀ {d : D} {a : Addr}, (∀ o, H a = some o → H' a = some o) → Cont Γ g H d a → Cont Γ g' H' d a
  | .non, _, _, h => h.elim
  | .bl _, _, _, h => h.elim
  | .int _, _, _, h => h.elim
  | .str _, _, _, h => h.elim
  | .tup _, _, _, h => h.elim
  | .fro _, _, _, h => h.elim
  | .lst ds, _, k, h => by
    obtain ⟨xs, q, r⟩ := h
    exact ⟨xs, k _ q, Reps.mono l _ _ r⟩
  | .dct .K _, _, k, h => by
    obtain ⟨ks, q, r⟩ := h
    exact ⟨ks, k _ q, RepK.mono l _ _ r⟩
  | .dct .T _, _, k, h => by
    obtain ⟨ks, q, r⟩ := h
    exact ⟨ks, k _ q, RepT.mono l _ _ r⟩
  | .dct .N _, _, _, h => h.elim
  | .ins _ _, _, k, h => by
    obtain ⟨C, dx, vs, q, m, r⟩ := h
    exact ⟨C, dx, vs, k _ q, m, RepF.mono l _ _ r⟩
  | .obj _, _, _, h => h.elim
  | .fn _, _, _, h => h.elim
end
end DL
/-! DLb: the state of a def (Wd), growth, the judgements DE, DA, DT, DS. -/
namespace DL
abbrev Slots := L2.St
open PySem PySem.Spec PyProof.Rows L2

/-- where a def began: its heap, what was frozen, the shared objects; P: what must stand as it is -/
structure Base where
  H0 : Hp
  g0 : Gh
  P : List (Addr × HO) := []
/-- what has come since: the shared objects may have changed, all else stands -/
structure Gr (g0 : Gh) (H0 : Hp) (g : Gh) (H : Hp) : Prop where
  F : ∀ a, g0.F a → g.F a
  fresh : ∀ a, g.F a → g0.F a ∨ H0 a = none
  keep : ∀ a o, H0 a = some o → a ∉ g0.as → H a = some o
  as : ∀ (n : Nat) (a : Addr), g0.as[n]? = some a → g.as[n]? = some a
  new : ∀ a ∈ g.as, a ∈ g0.as ∨ H0 a = none
  tF : ∀ a, g.F a → ∃ o, H a = some o
  tas : ∀ a ∈ g.as, ∃ o, H a = some o ∧ ¬ imm o
  nd : g.as.Nodup
  sep : ∀ a ∈ g.as, ¬ g.F a
theorem Gr.refl {g : Gh} {H : Hp} (tF : ∀ a, g.F a → ∃ o, H a = some o) (tas : ∀ a ∈ g.as, ∃ o, H a = some o ∧ ¬ imm o) (nd : g.as.Nodup) (sep : ∀ a ∈ g.as, ¬ g.F a) : Gr g H g H :=
  ⟨fun _ h => h, fun _ h => .inl h, fun _ _ h _ => h, fun _ _ h => h, fun _ h => .inl h, tF, tas, nd, sep⟩
theorem mem_as {g g' : Gh} (h : ∀ (n : Nat) (a : Addr), g.as[n]? = some a → g'.as[n]? = some a) {a : Addr} (m : a ∈ g.as) : a ∈ g'.as := by
  obtain ⟨n, e⟩ := List.mem_iff_getElem?.mp m
  exact List.mem_iff_getElem?.mpr ⟨n, h n a e⟩
section
variable {Γ : Md} {g0 g g' g1 g2 : Gh} {H0 H H' H1 H2 : Hp}
theorem Gr.trans (x : Gr g0 H0 g1 H1) (y : Gr g1 H1 g2 H2) : Gr g0 H0 g2 H2 where
  F := fun a h => y.F a (x.F a h)
  fresh := fun a h => by
    rcases y.fresh a h with h | h
    · exact x.fresh a h
    · cases e : H0 a with
      | none => exact .inr rfl
      | some o =>
        by_cases m : a ∈ g0.as
        · obtain ⟨o', q, _⟩ := x.tas a (mem_as x.as m)
          rw [h] at q; cases q
        · rw [x.keep a o e m] at h; cases h
  keep := fun a o h m => by
    refine y.keep a o (x.keep a o h m) fun z => ?_
    rcases x.new a z with q | q
    · exact m q
    · rw [h] at q; cases q
  as := fun n a h => y.as n a (x.as n a h)
  new := fun a m => by
    rcases y.new a m with h | h
    · exact x.new a h
    · cases e : H0 a with
      | none => exact .inr rfl
      | some o =>
        by_cases m : a ∈ g0.as
        · exact .inl m
        · rw [x.keep a o e m] at h; cases h
  tF := y.tF
  tas := y.tas
  nd := y.nd
  sep := y.sep
theorem Gr.le (tas : ∀ a ∈ g0.as, ∃ o, H0 a = some o ∧ ¬ imm o) (sep : ∀ a ∈ g0.as, ¬ g0.F a) (x : Gr g0 H0 g H) : Le g0 H0 g H :=
  ⟨x.F, x.as, fun a o e h => x.keep a o e fun m => by
    rcases h with h | h
    · exact sep a m h
    · obtain ⟨o', q, z⟩ := tas a m
      rw [e] at q; cases q; exact z h⟩

/-- only new things came: frozen containers, tuples -/
structure Al (g : Gh) (H : Hp) (g' : Gh) (H' : Hp) : Prop where
  F : ∀ a, g.F a → g'.F a
  fresh : ∀ a, g'.F a → g.F a ∨ H a = none
  keep : ∀ a o, H a = some o → H' a = some o
  as : g'.as = g.as
  tF : ∀ a, g'.F a → ∃ o, H' a = some o
theorem Al.refl (tF : ∀ a, g.F a → ∃ o, H a = some o) : Al g H g H := ⟨fun _ h => h, fun _ h => .inl h, fun _ _ h => h, rfl, tF⟩
theorem Al.trans (x : Al g H g1 H1) (y : Al g1 H1 g2 H2) : Al g H g2 H2 where
  F := fun a h => y.F a (x.F a h)
  fresh := fun a h => by
    rcases y.fresh a h with h | h
    · exact x.fresh a h
    · cases e : H a with
      | none => exact .inr rfl
      | some o => rw [x.keep a o e] at h; cases h
  keep := fun a o h => y.keep a o (x.keep a o h)
  as := y.as.trans x.as
  tF := y.tF
theorem Al.le (x : Al g H g' H') : Le g H g' H' := ⟨x.F, fun n a h => by rw [x.as]; exact h, fun a o e _ => x.keep a o e⟩
/-- a new object, not frozen -/
theorem Al.laid (tF : ∀ a, g.F a → ∃ o, H a = some o) {p : Addr} (np : H p = none) (o : HO) : Al g H g (upd H p o) :=
  ⟨fun _ h => h, fun _ h => .inl h, fun a u e => by rw [upd_ne (ne_of_none e np)]; exact e, rfl, fun a h => by
    obtain ⟨u, e⟩ := tF a h
    exact ⟨u, by rw [upd_ne (ne_of_none e np)]; exact e⟩⟩
/-- a new object, frozen -/
theorem Al.laidF (tF : ∀ a, g.F a → ∃ o, H a = some o) {p : Addr} (np : H p = none) (o : HO) : Al g H (g.add p) (upd H p o) :=
  ⟨fun _ h => .inr h, fun a h => by
      rcases h with rfl | h
      · exact .inr np
      · exact .inl h, fun a u e => by rw [upd_ne (ne_of_none e np)]; exact e, rfl, fun a h => by
    rcases h with rfl | h
    · exact ⟨o, upd_same⟩
    · obtain ⟨u, e⟩ := tF a h
      exact ⟨u, by rw [upd_ne (ne_of_none e np)]; exact e⟩⟩
theorem Gr.al (x : Gr g0 H0 g H) (y : Al g H g' H') : Gr g0 H0 g' H' where
  F := fun a h => y.F a (x.F a h)
  fresh := fun a h => by
    rcases y.fresh a h with h | h
    · exact x.fresh a h
    · cases e : H0 a with
      | none => exact .inr rfl
      | some o =>
        by_cases m : a ∈ g0.as
        · obtain ⟨o', q, _⟩ := x.tas a (mem_as x.as m)
          rw [h] at q; cases q
        · rw [x.keep a o e m] at h; cases h
  keep := fun a o h m => y.keep a o (x.keep a o h m)
  as := fun n a h => by rw [y.as]; exact x.as n a h
  new := fun a m => x.new a (by rw [← y.as]; exact m)
  tF := y.tF
  tas := fun a m => by
    obtain ⟨o, e, z⟩ := x.tas a (by rw [← y.as]; exact m)
    exact ⟨o, y.keep a o e, z⟩
  nd := by rw [y.as]; exact x.nd
  sep := fun a m f => by
    rw [y.as] at m
    rcases y.fresh a f with h | h
    · exact x.sep a m h
    · obtain ⟨o, e, _⟩ := x.tas a m
      rw [e] at h; cases h
end

def SlOk (Γ : Md) (g : Gh) (H : Hp) (H0 : Hp) : Sl → Option V → Prop
  | .un, _ => True
  | .val d, o => ∃ v, o = some v ∧ Rep Γ g H d v
  | .own d, o => ∃ a, o = some (.ref a) ∧ Cont Γ g H d a ∧ ¬ g.F a ∧ a ∉ g.as ∧ H0 a = none
/-- the shared objects -/
structure ObsOk (Γ : Md) (g : Gh) (H : Hp) (S : List D) : Prop where
  len : g.as.length = S.length
  at_ : ∀ (n : Nat) d a, S[n]? = some d → g.as[n]? = some a → Cont Γ g H d a
/-- THE STATE: slots σ, heap H stand for st -/
structure Wd (Γ : Md) (b : Base) (g : Gh) (σ : Slots) (H : Hp) (st : Sts) : Prop where
  len : σ.length = st.ρ.length
  slot : ∀ (i : Nat) s, st.ρ[i]? = some s → ∃ o, σ[i]? = some o ∧ SlOk Γ g H b.H0 s o
  dist : ∀ (i j : Nat) d e a, st.ρ[i]? = some (.own d) → st.ρ[j]? = some (.own e) → σ[i]? = some (some (.ref a)) → σ[j]? = some (some (.ref a)) → i = j
  obs : ObsOk Γ g H st.S
  gr : Gr b.g0 b.H0 g H
  prot : ∀ p ∈ b.P, H p.1 = some p.2 ∧ ¬ g.F p.1 ∧ p.1 ∉ g.as ∧ ∀ (i : Nat) d, st.ρ[i]? = some (.own d) → σ[i]? ≠ some (some (.ref p.1))
section
variable {Γ : Md} {b : Base} {g g' : Gh} {σ : Slots} {H H' : Hp} {st : Sts}
/-- an address that is not tracked is nobody's -/
theorem Wd.not0 (w : Wd Γ b g σ H st) {p : Addr} (np : H p = none) : b.H0 p = none := by
  cases e : b.H0 p with
  | none => rfl
  | some o =>
    by_cases m : p ∈ b.g0.as
    · obtain ⟨o', q, _⟩ := w.gr.tas p (mem_as w.gr.as m)
      rw [np] at q; cases q
    · rw [w.gr.keep p o e m] at np; cases np
theorem Wd.notF (w : Wd Γ b g σ H st) {p : Addr} (np : H p = none) : ¬ g.F p := fun f => by
  obtain ⟨o, e⟩ := w.gr.tF p f
  rw [np] at e; cases e
theorem Wd.notAs (w : Wd Γ b g σ H st) {p : Addr} (np : H p = none) : p ∉ g.as := fun m => by
  obtain ⟨o, e, _⟩ := w.gr.tas p m
  rw [np] at e; cases e
/-- only new things came -/
theorem Wd.al (w : Wd Γ b g σ H st) (y : Al g H g' H') : Wd Γ b g' σ H' st where
  len := w.len
  slot := fun i s e => by
    obtain ⟨o, h1, h2⟩ := w.slot i s e
    refine ⟨o, h1, ?_⟩
    cases s with
    | un => trivial
    | val d =>
      obtain ⟨v, e1, r⟩ := h2
      exact ⟨v, e1, r.mono y.le _ _⟩
    | own d =>
      obtain ⟨a, e1, c, nf, na, n0⟩ := h2
      refine ⟨a, e1, c.mono y.le (fun o e => y.keep _ _ e), fun f => ?_, fun m => na (by rw [← y.as]; exact m), n0⟩
      rcases y.fresh a f with h | h
      · exact nf h
      · obtain ⟨o, e, _⟩ := c.there
        rw [e] at h; cases h
  dist := w.dist
  obs := ⟨by rw [y.as]; exact w.obs.len, fun n d a e1 e2 => (w.obs.at_ n d a e1 (by rw [← y.as]; exact e2)).mono y.le fun o e => y.keep _ _ e⟩
  gr := w.gr.al y
  prot := fun p hp => by
    obtain ⟨h1, h2, h3, h4⟩ := w.prot p hp
    refine ⟨y.keep _ _ h1, fun f => ?_, by rw [y.as]; exact h3, h4⟩
    rcases y.fresh _ f with f | f
    · exact h2 f
    · rw [h1] at f; cases f
/-- slots that nobody asks for any more -/
theorem Wd.forget (w : Wd Γ b g σ H st) {σ' : Slots} {ρ' : List Sl} (hl : σ'.length = ρ'.length) (k : ∀ (i : Nat) s, ρ'[i]? = some s → s = .un ∧ i < σ'.length ∨ st.ρ[i]? = some s ∧ σ'[i]? = σ[i]?) : Wd Γ b g σ' H ⟨ρ', st.S⟩ where
  len := hl
  slot := fun i s e => by
    rcases k i s e with ⟨rfl, h⟩ | ⟨h, q⟩
    · exact ⟨_, List.getElem?_eq_getElem h, trivial⟩
    · obtain ⟨o, h1, h2⟩ := w.slot i s h
      exact ⟨o, q.trans h1, h2⟩
  dist := fun i j d e a h1 h2 h3 h4 => by
    rcases k i _ h1 with ⟨z, _⟩ | ⟨h, q⟩
    · cases z
    · rcases k j _ h2 with ⟨z, _⟩ | ⟨h', q'⟩
      · cases z
      · exact w.dist i j d e a h h' (q.symm.trans h3) (q'.symm.trans h4)
  obs := w.obs
  gr := w.gr
  prot := fun p hp => by
    obtain ⟨h1, h2, h3, h4⟩ := w.prot p hp
    refine ⟨h1, h2, h3, fun i d e z => ?_⟩
    rcases k i _ e with ⟨y, _⟩ | ⟨h, q⟩
    · cases y
    · exact h4 i d h (q.symm.trans z)
/-- a value is stored in a slot -/
theorem Wd.set (w : Wd Γ b g σ H st) {i : Nat} {d : D} {v : V} (r : Rep Γ g H d v) : Wd Γ b g (σ.set i (some v)) H ⟨st.ρ.set i (.val d), st.S⟩ where
  len := by rw [List.length_set, List.length_set]; exact w.len
  slot := fun j s e => by
    by_cases h : i = j
    · subst h
      rw [List.getElem?_set_self'] at e ⊢
      have hl := w.len
      cases q : st.ρ[i]? with
      | none => rw [q] at e; cases e
      | some z =>
        rw [q] at e
        cases e
        obtain ⟨o, h1, _⟩ := w.slot i z q
        rw [h1]
        exact ⟨_, rfl, v, rfl, r⟩
    · rw [List.getElem?_set_ne h] at e ⊢
      exact w.slot j s e
  dist := fun j k d' e a h1 h2 h3 h4 => by
    have nj : i ≠ j := fun z => by
      subst z
      rw [List.getElem?_set_self'] at h1
      cases q : st.ρ[i]? with
      | none => rw [q] at h1; cases h1
      | some z => rw [q] at h1; cases h1
    have nk : i ≠ k := fun z => by
      subst z
      rw [List.getElem?_set_self'] at h2
      cases q : st.ρ[i]? with
      | none => rw [q] at h2; cases h2
      | some z => rw [q] at h2; cases h2
    rw [List.getElem?_set_ne nj] at h1 h3
    rw [List.getElem?_set_ne nk] at h2 h4
    exact w.dist j k d' e a h1 h2 h3 h4
  obs := w.obs
  gr := w.gr
  prot := fun p hp => by
    obtain ⟨h1, h2, h3, h4⟩ := w.prot p hp
    refine ⟨h1, h2, h3, fun j d' e z => ?_⟩
    by_cases hj : i = j
    · subst hj
      rw [List.getElem?_set_self'] at e
      cases q : st.ρ[i]? with
      | none => rw [q] at e; cases e
      | some y => rw [q] at e; cases e
    · rw [List.getElem?_set_ne hj] at e z
      exact h4 j d' e z
/-- a new container of one's own is stored in a slot -/
theorem Wd.setOwn (w : Wd Γ b g σ H st) {i : Nat} {d : D} {a : Addr} (c : Cont Γ g H d a) (nf : ¬ g.F a) (na : a ∉ g.as) (n0 : b.H0 a = none) (no : ∀ (j : Nat) e, st.ρ[j]? = some (.own e) → σ[j]? ≠ some (some (.ref a))) (np : ∀ p ∈ b.P, p.1 ≠ a) :
    Wd Γ b g (σ.set i (some (.ref a))) H ⟨st.ρ.set i (.own d), st.S⟩ where
  len := by rw [List.length_set, List.length_set]; exact w.len
  slot := fun j s e => by
    by_cases h : i = j
    · subst h
      rw [List.getElem?_set_self'] at e ⊢
      cases q : st.ρ[i]? with
      | none => rw [q] at e; cases e
      | some z =>
        rw [q] at e
        cases e
        obtain ⟨o, h1, _⟩ := w.slot i z q
        rw [h1]
        exact ⟨_, rfl, a, rfl, c, nf, na, n0⟩
    · rw [List.getElem?_set_ne h] at e ⊢
      exact w.slot j s e
  dist := fun j k d' e x h1 h2 h3 h4 => by
    have at_i : ∀ {o : Option V}, (σ.set i (some (.ref a)))[i]? = some o → o = some (.ref a) := fun {o} z => by
      rw [List.getElem?_set_self'] at z
      cases q : σ[i]? with
      | none => rw [q] at z; cases z
      | some y => rw [q] at z; cases z; rfl
    by_cases ej : i = j
    · subst ej
      by_cases ek : i = k
      · exact ek
      · rw [List.getElem?_set_ne ek] at h2 h4
        have e1 := at_i h3
        cases e1
        exact absurd h4 (no k e h2)
    · by_cases ek : i = k
      · subst ek
        rw [List.getElem?_set_ne ej] at h1 h3
        have e1 := at_i h4
        cases e1
        exact absurd h3 (no j d' h1)
      · rw [List.getElem?_set_ne ej] at h1 h3
        rw [List.getElem?_set_ne ek] at h2 h4
        exact w.dist j k d' e x h1 h2 h3 h4
  obs := w.obs
  gr := w.gr
  prot := fun p hp => by
    obtain ⟨h1, h2, h3, h4⟩ := w.prot p hp
    refine ⟨h1, h2, h3, fun j d' e z => ?_⟩
    by_cases hj : i = j
    · subst hj
      rw [List.getElem?_set_self'] at z
      cases q : σ[i]? with
      | none => rw [q] at z; cases z
      | some y =>
        rw [q] at z
        cases z
        exact np p hp rfl
    · rw [List.getElem?_set_ne hj] at e z
      exact h4 j d' e z
/-- a slot's container is frozen -/
theorem Wd.freeze (w : Wd Γ b g σ H st) {i : Nat} {d : D} {a : Addr} (h : st.ρ[i]? = some (.own d)) (ha : σ[i]? = some (some (.ref a))) :
    Wd Γ b (g.add a) σ H ⟨st.ρ.set i (.val d), st.S⟩ ∧ Rep Γ (g.add a) H d (.ref a) ∧ Le g H (g.add a) H := by
  have l : Le g H (g.add a) H := ⟨fun _ h => .inr h, fun _ _ h => h, fun _ _ e _ => e⟩
  obtain ⟨o, h1, h2⟩ := w.slot i _ h
  rw [ha] at h1; cases h1
  obtain ⟨a', e, c, nf, na, n0⟩ := h2
  cases e
  have r : Rep Γ (g.add a) H d (.ref a) := (c.mono l fun _ e => e).rep (.inl rfl)
  refine ⟨⟨?_, fun j s e => ?_, fun j k d' e x h1 h2 h3 h4 => ?_, ⟨w.obs.len, fun n d a e1 e2 => (w.obs.at_ n d a e1 e2).mono l fun _ e => e⟩,
    ⟨fun a h => .inr (w.gr.F a h), fun x h => ?_, w.gr.keep, w.gr.as, w.gr.new, fun x h => ?_, w.gr.tas, w.gr.nd, fun x m h => ?_⟩, fun p hp => ?_⟩, r, l⟩
  · rw [List.length_set]; exact w.len
  · by_cases hj : i = j
    · subst hj
      rw [List.getElem?_set_self', h] at e
      cases e
      exact ⟨_, ha, _, rfl, r⟩
    · rw [List.getElem?_set_ne hj] at e
      obtain ⟨o, h1, h2⟩ := w.slot j s e
      refine ⟨o, h1, ?_⟩
      cases s with
      | un => trivial
      | val d' =>
        obtain ⟨v, e1, r⟩ := h2
        exact ⟨v, e1, r.mono l _ _⟩
      | own d' =>
        obtain ⟨x, e1, c', nf', na', n0'⟩ := h2
        refine ⟨x, e1, c'.mono l (fun _ e => e), fun f => ?_, na', n0'⟩
        rcases f with rfl | f
        · subst e1
          exact hj (w.dist i j d d' _ h e ha h1)
        · exact nf' f
  · have nj : i ≠ j := fun z => by
      subst z
      rw [List.getElem?_set_self', h] at h1
      cases h1
    have nk : i ≠ k := fun z => by
      subst z
      rw [List.getElem?_set_self', h] at h2
      cases h2
    rw [List.getElem?_set_ne nj] at h1
    rw [List.getElem?_set_ne nk] at h2
    exact w.dist j k d' e x h1 h2 h3 h4
  · rcases h with rfl | h
    · exact .inr n0
    · exact w.gr.fresh x h
  · rcases h with rfl | h
    · obtain ⟨o, e, _⟩ := c.there
      exact ⟨o, e⟩
    · exact w.gr.tF x h
  · rcases h with rfl | h
    · exact na m
    · exact w.gr.sep x m h
  · obtain ⟨h1, h2, h3, h4⟩ := w.prot p hp
    refine ⟨h1, fun f => ?_, h3, fun j d' e z => ?_⟩
    · rcases f with f | f
      · exact h4 i d h (by rw [f]; exact ha)
      · exact h2 f
    · by_cases hj : i = j
      · subst hj
        rw [List.getElem?_set_self', h] at e
        cases e
      · rw [List.getElem?_set_ne hj] at e
        exact h4 j d' e z
theorem Wd.le {g' : Gh} {H' : Hp} (w : Wd Γ b g σ H st) (x : Gr g H g' H') : Le g H g' H' := x.le w.gr.tas w.gr.sep
end

/-! ### judgements -/
/-- an exception at the values' level -/
def RepX (Γ : Md) (g : Gh) (H : Hp) (e : Ex) (cls : Value) (dx : Option Addr) : Prop :=
  ∃ C, cls = .ref C ∧ Γ.mg e.c = some (.ref C) ∧ (e.fs = [] ∨ ∃ p vs, dx = some p ∧ H p = some (.xd vs) ∧ RepF Γ g H e.fs vs)
inductive Pre where
  | d (d : D) | s (i : Nat)
def RepP (Γ : Md) (g : Gh) (σ : Slots) (H : Hp) : Pre → V → Prop
  | .d d, v => Rep Γ g H d v
  | .s i, v => σ[i]? = some (some v)
def slD : Sl → Option D
  | .un => none
  | .val d => some d
  | .own d => some d
def rd0 : Pre → Sts → Option D
  | .d d, _ => some d
  | .s i, st => (st.ρ[i]?).bind slD
/-- a shared object's content -/
def deref (st : Sts) : D → Option D
  | .obj n => st.S[n]?
  | d => some d
/-- what is there to be read -/
def rd (p : Pre) (st : Sts) : Option D := (rd0 p st).bind (deref st)
def Fin {α : Type} (okc : α → Sts → Prop) (xcc : Ex → Sts → Prop) : Ou α → Prop
  | .ok a st => okc a st
  | .xc e st => xcc e st
  | .bad => False
theorem Fin.bind {α β : Type} {okc : β → Sts → Prop} {xcc : Ex → Sts → Prop} {m : Ou α} {k : α → Sts → Ou β} (h : Fin okc xcc (m.bind k)) : Fin (fun a s => Fin okc xcc (k a s)) xcc m := by
  cases m with
  | ok a s => exact h
  | xc e s => exact h
  | bad => exact h
theorem Fin.imp {α : Type} {okc okc' : α → Sts → Prop} {xcc xcc' : Ex → Sts → Prop} {m : Ou α} (h : Fin okc xcc m) (k : ∀ a s, okc a s → okc' a s) (k' : ∀ e s, xcc e s → xcc' e s) : Fin okc' xcc' m := by
  cases m with
  | ok a s => exact k a s h
  | xc e s => exact k' e s h
  | bad => exact h
section
variable (Γ : Md) (b : Base) (W : WX)
def XC (g : Gh) (H : Hp) (σ : Slots) : Ex → Sts → Prop := fun e st' => ∀ g' cls dx H', Le g H g' H' → Wd Γ b g' σ H' st' → RepX Γ g' H' e cls dx → W cls dx σ H'
def TDe (m : Sts → Ou D) : TE := fun σ H Q => ∃ g st, Wd Γ b g σ H st ∧ Fin (fun d st' => ∀ g' v H', Le g H g' H' → Wd Γ b g' σ H' st' → Rep Γ g' H' d v → Q v H') (XC Γ b W g H σ) (m st)
def TDp (m : Sts → Ou Pre) : TE := fun σ H Q => ∃ g st, Wd Γ b g σ H st ∧ Fin (fun p st' => ∀ g' v H', Le g H g' H' → Wd Γ b g' σ H' st' → RepP Γ g' σ H' p v → Q v H') (XC Γ b W g H σ) (m st)
/-- a new container of one's own -/
def TDo (m : Sts → Ou D) : TE := fun σ H Q => ∃ g st, Wd Γ b g σ H st ∧ Fin (fun d st' => ∀ g' a H', Le g H g' H' → Wd Γ b g' σ H' st' → Cont Γ g' H' d a → ¬ g'.F a → a ∉ g'.as → b.H0 a = none →
  (∀ (j : Nat) e, st'.ρ[j]? = some (.own e) → σ[j]? ≠ some (some (.ref a))) → (∀ p ∈ b.P, p.1 ≠ a) → Q (.ref a) H') (XC Γ b W g H σ) (m st)
def TDt (m : Sts → Ou Bool) : TT := fun σ H Q => ∃ g st, Wd Γ b g σ H st ∧ Fin (fun k st' => ∀ g' H', Le g H g' H' → Wd Γ b g' σ H' st' → Q k H') (XC Γ b W g H σ) (m st)
def TDa (m : Sts → Ou (List D)) : TA := fun σ H Q => ∃ g st, Wd Γ b g σ H st ∧ Fin (fun ds st' => ∀ g' vs H', Le g H g' H' → Wd Γ b g' σ H' st' → Reps Γ g' H' ds vs → Q vs H') (XC Γ b W g H σ) (m st)
/-- what a def hands back: frozen, or its own -/
def Rr (o : Bool) (g : Gh) (H : Hp) (d : D) (v : V) : Prop := match o with
  | false => Rep Γ g H d v
  | true => ∃ a, v = .ref a ∧ Cont Γ g H d a ∧ ¬ g.F a ∧ a ∉ g.as ∧ b.H0 a = none
/-- what is wanted behind a statement -/
def FinS (o : Bool) (E : Ends) (g : Gh) (H : Hp) : Fl → Prop
  | .nx st' => ∀ g' σ' H', Le g H g' H' → Wd Γ b g' σ' H' st' → E.nx σ' H'
  | .rt d st' => ∀ g' v σ' H', Le g H g' H' → Wd Γ b g' σ' H' st' → Rr Γ b o g' H' d v → E.rt v H'
  | .bk st' => ∀ g' σ' H', Le g H g' H' → Wd Γ b g' σ' H' st' → E.bk σ' H'
  | .ct st' => ∀ g' σ' H', Le g H g' H' → Wd Γ b g' σ' H' st' → E.ct σ' H'
  | .xc e st' => ∀ σ', XC Γ b W g H σ' e st'
  | .bad => False
def TDs (o : Bool) (c : Sts → Fl) : TS := fun E σ H => ∃ g st, Wd Γ b g σ H st ∧ FinS Γ b W o E g H (c st)
end
theorem XC.up {Γ : Md} {b : Base} {W : WX} {g g' : Gh} {H H' : Hp} {σ : Slots} {e : Ex} {s : Sts} (l : Le g H g' H') (h : XC Γ b W g H σ e s) : XC Γ b W g' H' σ e s :=
  fun g2 cls dx H2 l2 w r => h g2 cls dx H2 (l.trans l2) w r
theorem FinS.up {Γ : Md} {b : Base} {W : WX} {o : Bool} {E : Ends} {g g' : Gh} {H H' : Hp} (l : Le g H g' H') : ∀ {f : Fl}, FinS Γ b W o E g H f → FinS Γ b W o E g' H' f
  | .nx _, h => fun g2 σ2 H2 l2 w => h g2 σ2 H2 (l.trans l2) w
  | .rt _ _, h => fun g2 v σ2 H2 l2 w r => h g2 v σ2 H2 (l.trans l2) w r
  | .bk _, h => fun g2 σ2 H2 l2 w => h g2 σ2 H2 (l.trans l2) w
  | .ct _, h => fun g2 σ2 H2 l2 w => h g2 σ2 H2 (l.trans l2) w
  | .xc _ _, h => fun σ' => (h σ').up l
  | .bad, h => h
section
variable (X : Cx) (b : Base) (W : WX)
abbrev DE (e : Expr) (m : Sts → Ou D) : Prop := PE X e (TDe (md X) b W m)
abbrev DO (e : Expr) (m : Sts → Ou D) : Prop := PE X e (TDo (md X) b W m)
abbrev DA (e : Expr) (m : Sts → Ou Pre) : Prop := PE X e (TDp (md X) b W m)
abbrev DT (e : Expr) (m : Sts → Ou Bool) : Prop := PT X e (TDt (md X) b W m)
abbrev DArgs (es : List Expr) (m : Sts → Ou (List D)) : Prop := PA X es (TDa (md X) b W m)
abbrev DS (o : Bool) (s : Stmt) (c : Sts → Fl) : Prop := PS X s (TDs (md X) b W o c)
abbrev DSs (o : Bool) (s : List Stmt) (c : Sts → Fl) : Prop := PSs X s (TDs (md X) b W o c)
end
theorem PE.imp {X : Cx} {e : Expr} {t u : TE} (h : PE X e t) (k : ∀ σ H Q, u σ H Q → t σ H Q) : PE X e u := ⟨fun pins s σ H Q I q => h.run pins s σ H Q I (k σ H Q q)⟩
theorem PT.imp {X : Cx} {e : Expr} {t u : TT} (h : PT X e t) (k : ∀ σ H Q, u σ H Q → t σ H Q) : PT X e u := ⟨fun pins s σ H Q I q => h.run pins s σ H Q I (k σ H Q q)⟩
theorem PA.imp {X : Cx} {es : List Expr} {t u : TA} (h : PA X es t) (k : ∀ σ H Q, u σ H Q → t σ H Q) : PA X es u := ⟨fun pos pins s σ H Q I q => h.run pos pins s σ H Q I (k σ H Q q)⟩
theorem PS.imp {X : Cx} {e : Stmt} {t u : TS} (h : PS X e t) (k : ∀ D σ H, u D σ H → t D σ H) : PS X e u := ⟨fun pins s σ H D I q => h.run pins s σ H D I (k D σ H q)⟩
theorem PSs.imp {X : Cx} {e : List Stmt} {t u : TS} (h : PSs X e t) (k : ∀ D σ H, u D σ H → t D σ H) : PSs X e u := ⟨fun pins s σ H D I q => h.run pins s σ H D I (k D σ H q)⟩
end DL
/-! DLc: rules of expressions. -/
namespace DL
open PySem PySem.Spec PyProof.Rows L2
abbrev E := Sts → Ou D
abbrev EP' := Sts → Ou Pre
def ofO (o : Option D) (st : Sts) : Ou D := match o with
  | some d => .ok d st
  | none => .bad
def eC (d : D) : E := fun st => .ok d st
def slR (i : Nat) (st : Sts) : Option Sl → Ou D
  | some (.val d) => .ok d st
  | some (.own d) => .ok d ⟨st.ρ.set i (.val d), st.S⟩
  | _ => .bad
/-- a variable, what stands there is nobody's own from now on -/
def eVar (i : Nat) : E := fun st => slR i st st.ρ[i]?
def aV (i : Nat) : EP' := fun st => match rd0 (.s i) st with
  | some _ => .ok (.s i) st
  | none => .bad
def aE (m : E) : EP' := fun st => (m st).bind fun d s => .ok (.d d) s
def rd2 (p q : Pre) (st : Sts) (f : D → D → Option D) : Option D := (rd p st).bind fun x => (rd q st).bind fun y => f x y
def eBin (op : D → D → Option D) (a b : EP') : E := fun st => (a st).bind fun p s1 => (b s1).bind fun q s2 => ofO (rd2 p q s2 op) s2
def eUn (op : D → Option D) (a : EP') : E := fun st => (a st).bind fun p s1 => ofO ((rd p s1).bind op) s1
def eArgs : List E → Sts → Ou (List D)
  | [], st => .ok [] st
  | m :: ms, st => (m st).bind fun d s1 => (eArgs ms s1).bind fun ds s2 => .ok (d :: ds) s2
def eTup (ms : List E) : E := fun st => (eArgs ms st).bind fun ds s => .ok (.tup ds) s
def eLst (ms : List E) : E := fun st => (eArgs ms st).bind fun ds s => .ok (.lst ds) s
/-- a value by values -/
def rdL : List Pre → Sts → Option (List D)
  | [], _ => some []
  | p :: ps, st => (rd p st).bind fun d => (rdL ps st).bind fun ds => some (d :: ds)
def eArgsP : List EP' → Sts → Ou (List Pre)
  | [], st => .ok [] st
  | m :: ms, st => (m st).bind fun d s1 => (eArgsP ms s1).bind fun ds s2 => .ok (d :: ds) s2
/-- a built-in function by values -/
def eFun (f : List D → Option D) (ms : List EP') : E := fun st => (eArgsP ms st).bind fun ps s => ofO ((rdL ps s).bind f) s

section
variable {X : Cx} {b : Base} {W : WX}
theorem RepP.mono {Γ : Md} {g g' : Gh} {σ : Slots} {H H' : Hp} (l : Le g H g' H') : ∀ {p : Pre} {v : V}, RepP Γ g σ H p v → RepP Γ g' σ H' p v
  | .d _, _, h => Rep.mono l _ _ h
  | .s _, _, h => h
theorem RepP.c0 {Γ : Md} {b : Base} {g : Gh} {σ : Slots} {H : Hp} {st : Sts} (w : Wd Γ b g σ H st) {v : V} {d d' : D} (h : Rep Γ g H d v) (e : deref st d = some d') : CRep Γ g H d' v := by
  cases d with
  | obj n =>
    obtain ⟨a, rfl, q⟩ := h
    exact (w.obs.at_ n d' a e q).c
  | _ => cases e; exact Rep.c h
theorem RepP.c {Γ : Md} {b : Base} {g : Gh} {σ : Slots} {H : Hp} {st : Sts} (w : Wd Γ b g σ H st) : ∀ {p : Pre} {v : V} {d : D}, RepP Γ g σ H p v → rd p st = some d → CRep Γ g H d v
  | .d d0, _, _, h, e => RepP.c0 w (show Rep Γ g H d0 _ from h) e
  | .s i, v, d, h, e => by
    have h : σ[i]? = some (some v) := h
    cases q : st.ρ[i]? with
    | none => simp [rd, rd0, q] at e
    | some s =>
      obtain ⟨o, h1, h2⟩ := w.slot i s q
      rw [h] at h1
      cases h1
      cases s with
      | un => simp [rd, rd0, q, slD] at e
      | val d' =>
        obtain ⟨v', e1, r⟩ := h2
        cases e1
        exact RepP.c0 w r (by simpa [rd, rd0, q, slD] using e)
      | own d' =>
        obtain ⟨a, e1, c, _⟩ := h2
        cases e1
        have e' : deref st d' = some d := by simpa [rd, rd0, q, slD] using e
        cases d' with
        | obj n => exact c.elim
        | _ => cases e'; exact c.c
def TF (g : Gh) (H : Hp) : Prop := ∀ a, g.F a → ∃ o, H a = some o
/-- f, by values, is op -/
def OpD (X : Cx) (f : Value → Value → Sem Value) (op : D → D → Option D) : Prop :=
  OpR X f fun x y H Q => ∃ g dx dy d, TF g H ∧ CRep (md X) g H dx x ∧ CRep (md X) g H dy y ∧ op dx dy = some d ∧ ∀ g' v H', Al g H g' H' → Rep (md X) g' H' d v → Q v H'
def UnD (X : Cx) (f : Value → Sem Value) (op : D → Option D) : Prop :=
  UnR X f fun x H Q => ∃ g dx d, TF g H ∧ CRep (md X) g H dx x ∧ op dx = some d ∧ ∀ g' v H', Al g H g' H' → Rep (md X) g' H' d v → Q v H'
def CReps (Γ : Md) (g : Gh) (H : Hp) : List D → List V → Prop
  | [], vs => vs = []
  | d :: ds, vs => ∃ v r, vs = v :: r ∧ CRep Γ g H d v ∧ CReps Γ g H ds r
def CallD (X : Cx) (f : Value) (op : List D → Option D) : Prop :=
  CallR X f fun xs H Q => ∃ g ds d, TF g H ∧ CReps (md X) g H ds xs ∧ op ds = some d ∧ ∀ g' v H', Al g H g' H' → Rep (md X) g' H' d v → Q v H'

theorem de_c {e : Expr} {v : V} {d : D} (h : PE X e (tC v)) (r : ∀ g H, Rep (md X) g H d v) : DE X b W e (eC d) :=
  PE.imp h fun σ H Q ⟨g, st, w, k⟩ => k g v H Le.refl w (r g H)
theorem de_int {i : Int} {j pos} : DE X b W (.Constant (.int i) j pos) (eC (.int i)) := de_c pe_int fun _ _ => rfl
theorem de_bl {k : Bool} {j pos} : DE X b W (.Constant (.bool k) j pos) (eC (.bl k)) := de_c pe_bl fun _ _ => rfl
theorem de_non {j pos} : DE X b W (.Constant .none j pos) (eC .non) := de_c pe_non fun _ _ => rfl
theorem de_str {x : Str} {l : List Nat} {j pos} (h : x = ⟨l.toArray⟩) (ok : l.all (· < 1114112) = true) : DE X b W (.Constant (.str x) j pos) (eC (.str l)) :=
  de_c pe_str fun _ _ => ⟨by rw [h], fun c hc => by simpa using List.all_eq_true.mp ok c hc⟩
/-- a constant of the module -/
theorem de_gint {x : Str} {i : Int} {t : Tok} {pos : Pos} (hg : Gl X x) (hm : X.mg x = some (.int i t)) (hd : (x == ("__debug__" : Str)) = false := by decide +kernel) : DE X b W (.Name x pos) (eC (.int i)) :=
  de_c (pe_glob (v := .int i) hg hm ⟨t, rfl⟩ hd) fun _ _ => rfl
theorem de_gstr {x : Str} {l : List Nat} {t : Tok} {pos : Pos} (hg : Gl X x) (hm : X.mg x = some (.str ⟨l.toArray⟩ t)) (ok : l.all (· < 1114112) = true) (hd : (x == ("__debug__" : Str)) = false := by decide +kernel) : DE X b W (.Name x pos) (eC (.str l)) :=
  de_c (pe_glob (v := .str ⟨l.toArray⟩) hg hm ⟨t, rfl⟩ hd) fun _ _ => ⟨rfl, fun c hc => by simpa using List.all_eq_true.mp ok c hc⟩
theorem Wd.at {Γ : Md} {g : Gh} {σ : Slots} {H : Hp} {st : Sts} (w : Wd Γ b g σ H st) {i : Nat} {s : Sl} (q : st.ρ[i]? = some s) (hs : s ≠ .un) : ∃ v, σ[i]? = some (some v) := by
  obtain ⟨o, h1, h2⟩ := w.slot i s q
  cases s with
  | un => exact absurd rfl hs
  | val d =>
    obtain ⟨v, e, _⟩ := h2
    exact ⟨v, by rw [h1, e]⟩
  | own d =>
    obtain ⟨a, e, _⟩ := h2
    exact ⟨.ref a, by rw [h1, e]⟩
theorem de_var {e : Expr} {i : Nat} (h : PE X e (tVar i)) : DE X b W e (eVar i) := by
  refine PE.imp h fun σ H Q ⟨g, st, w, k⟩ => ?_
  unfold eVar at k
  cases q : st.ρ[i]? with
  | none => rw [q] at k; exact k.elim
  | some s =>
    rw [q] at k
    cases s with
    | un => exact k.elim
    | val d =>
      obtain ⟨o, h1, v, e1, r⟩ := w.slot i _ q
      exact ⟨v, by rw [h1, e1], k g v H Le.refl w r⟩
    | own d =>
      obtain ⟨o, h1, a, e1, _⟩ := w.slot i _ q
      have ha : σ[i]? = some (some (.ref a)) := by rw [h1, e1]
      obtain ⟨w', r, l⟩ := w.freeze q ha
      exact ⟨.ref a, ha, k _ _ H l w' r⟩
theorem da_var {e : Expr} {i : Nat} (h : PE X e (tVar i)) : DA X b W e (aV i) := by
  refine PE.imp h fun σ H Q ⟨g, st, w, k⟩ => ?_
  unfold aV at k
  cases q : st.ρ[i]? with
  | none => rw [show rd0 (.s i) st = none by simp [rd0, q]] at k; exact k.elim
  | some s =>
    cases s with
    | un => rw [show rd0 (.s i) st = none by simp [rd0, q, slD]] at k; exact k.elim
    | val d =>
      rw [show rd0 (.s i) st = some d by simp [rd0, q, slD]] at k
      obtain ⟨v, e⟩ := w.at q (by intro z; cases z)
      exact ⟨v, e, k g v H Le.refl w e⟩
    | own d =>
      rw [show rd0 (.s i) st = some d by simp [rd0, q, slD]] at k
      obtain ⟨v, e⟩ := w.at q (by intro z; cases z)
      exact ⟨v, e, k g v H Le.refl w e⟩
theorem da_of {e : Expr} {m : E} (h : DE X b W e m) : DA X b W e (aE m) := by
  refine PE.imp h fun σ H Q ⟨g, st, w, k⟩ => ⟨g, st, w, (Fin.bind k).imp (fun d s q g' v H' l w' r => q g' v H' l w' r) fun _ _ q => q⟩
/-- what is one's own, frozen at once -/
theorem de_own {e : Expr} {m : E} (h : DO X b W e m) : DE X b W e m := by
  refine PE.imp h fun σ H Q ⟨g, st, w, k⟩ => ⟨g, st, w, k.imp (fun d s q g' a H' l w' c nf na n0 no npr => ?_) fun _ _ q => q⟩
  obtain ⟨o, ea, _⟩ := c.there
  have l2 : Le g' H' (g'.add a) H' := ⟨fun _ h => .inr h, fun _ _ h => h, fun _ _ e _ => e⟩
  refine q (g'.add a) (.ref a) H' (l.trans l2) ⟨w'.len, fun i s e => ?_, w'.dist, ⟨w'.obs.len, fun n d a e1 e2 => (w'.obs.at_ n d a e1 e2).mono l2 fun _ e => e⟩,
    ⟨fun a h => .inr (w'.gr.F a h), fun x h => ?_, w'.gr.keep, w'.gr.as, w'.gr.new, fun x h => ?_, w'.gr.tas, w'.gr.nd, fun x m h => ?_⟩, fun p hp => ?_⟩ ((c.mono l2 fun _ e => e).rep (.inl rfl))
  · obtain ⟨o, h1, h2⟩ := w'.slot i s e
    refine ⟨o, h1, ?_⟩
    cases s with
    | un => trivial
    | val d' =>
      obtain ⟨v, e1, r⟩ := h2
      exact ⟨v, e1, r.mono l2 _ _⟩
    | own d' =>
      obtain ⟨x, e1, c', nf', na', n0'⟩ := h2
      refine ⟨x, e1, c'.mono l2 (fun _ e => e), fun f => ?_, na', n0'⟩
      rcases f with rfl | f
      · subst e1
        exact no i _ e h1
      · exact nf' f
  · rcases h with rfl | h
    · exact .inr n0
    · exact w'.gr.fresh x h
  · rcases h with rfl | h
    · exact ⟨o, ea⟩
    · exact w'.gr.tF x h
  · rcases h with rfl | h
    · exact na m
    · exact w'.gr.sep x m h
  · obtain ⟨h1, h2, h3, h4⟩ := w'.prot p hp
    refine ⟨h1, fun f => ?_, h3, h4⟩
    rcases f with f | f
    · exact npr p hp f
    · exact h2 f

theorem ofO_some {o : Option D} {st : Sts} {okc : D → Sts → Prop} {xcc : Ex → Sts → Prop} (h : Fin okc xcc (ofO o st)) : ∃ d, o = some d ∧ okc d st := by
  cases o with
  | none => exact h.elim
  | some d => exact ⟨d, rfl, h⟩
theorem rd2_some {p q : Pre} {st : Sts} {f : D → D → Option D} {d : D} (h : rd2 p q st f = some d) : ∃ x y, rd p st = some x ∧ rd q st = some y ∧ f x y = some d := by
  unfold rd2 at h
  cases e1 : rd p st with
  | none => rw [e1] at h; cases h
  | some x =>
    cases e2 : rd q st with
    | none => rw [e1, e2] at h; cases h
    | some y => rw [e1, e2] at h; exact ⟨x, y, rfl, rfl, h⟩
/-- two operands, then something by values -/
theorem bin2 {ma mb : EP'} {op : D → D → Option D} {r : R2}
    (hr : ∀ x y H Q, (∃ g dx dy d, TF g H ∧ CRep (md X) g H dx x ∧ CRep (md X) g H dy y ∧ op dx dy = some d ∧ ∀ g' v H', Al g H g' H' → Rep (md X) g' H' d v → Q v H') → r x y H Q) {σ : Slots} {H : Hp} {Q : VK}
    (h : TDe (md X) b W (eBin op ma mb) σ H Q) : tOp r (TDp (md X) b W ma) (TDp (md X) b W mb) σ H Q := by
  obtain ⟨g, st, w, k⟩ := h
  refine ⟨g, st, w, (Fin.bind k).imp (fun p s1 k1 g1 x H1 l1 w1 r1 => ?_) fun _ _ q => q⟩
  refine ⟨g1, s1, w1, (Fin.bind k1).imp (fun q s2 k2 g2 y H2 l2 w2 r2 => ?_) fun _ _ q => q.up l1⟩
  obtain ⟨d, e, k3⟩ := ofO_some k2
  obtain ⟨dx, dy, ex, ey, ed⟩ := rd2_some e
  refine hr x y H2 Q ⟨g2, dx, dy, d, w2.gr.tF, RepP.c w2 (r1.mono l2) ex, RepP.c w2 r2 ey, ed, fun g' v H' al rv => ?_⟩
  exact k3 g' v H' ((l1.trans l2).trans al.le) (w2.al al) rv
theorem de_bin {a c : Expr} {op : Operator} {f : D → D → Option D} {ma mb : EP'} {pos : Pos} (ho : OpD X (binaryOp op) f) (ha : DA X b W a ma) (hb : DA X b W c mb) : DE X b W (.BinOp a op c pos) (eBin f ma mb) :=
  PE.imp (pe_op ho ha hb) fun _ _ _ h => bin2 (fun _ _ _ _ z => z) h
theorem de_cmp {a c : Expr} {op : CmpOp} {f : D → D → Option D} {ma mb : EP'} {pos : Pos} (ho : OpD X (compareOp op) f) (ha : DA X b W a ma) (hb : DA X b W c mb) (hm : behindInMarks op c = false) : DE X b W (.Compare a [op] [c] pos) (eBin f ma mb) :=
  PE.imp (pe_cmpR ho ha hb hm) fun _ _ _ h => bin2 (fun _ _ _ _ z => z) h
theorem de_un {a : Expr} {op : UnaryOp} {f : D → Option D} {ma : EP'} {pos : Pos} (ho : UnD X (unaryOp op) f) (ha : DA X b W a ma) : DE X b W (.UnaryOp op a pos) (eUn f ma) := by
  refine PE.imp (pe_un ho ha) fun σ H Q ⟨g, st, w, k⟩ => ⟨g, st, w, (Fin.bind k).imp (fun p s1 k1 g1 x H1 l1 w1 r1 => ?_) fun _ _ q => q⟩
  obtain ⟨d, e, k3⟩ := ofO_some k1
  cases e1 : rd p s1 with
  | none => rw [e1] at e; cases e
  | some dx =>
    rw [e1] at e
    exact ⟨g1, dx, d, w1.gr.tF, RepP.c w1 r1 e1, e, fun g' v H' al rv => k3 g' v H' (l1.trans al.le) (w1.al al) rv⟩

/-! arguments -/
theorem dargs_nil : DArgs X b W [] (eArgs []) := PA.imp pa_nil fun σ H Q ⟨g, st, w, k⟩ => k g [] H Le.refl w rfl
theorem dargs_cons {e : Expr} {es : List Expr} {m : E} {ms : List E} (h : DE X b W e m) (hr : DArgs X b W es (eArgs ms)) (hs : starEach (e :: es) X.env = (false, eval e X.env) :: starEach es X.env := by rfl) : DArgs X b W (e :: es) (eArgs (m :: ms)) := by
  refine PA.imp (pa_cons h hr hs) fun σ H Q ⟨g, st, w, k⟩ => ⟨g, st, w, (Fin.bind k).imp (fun d s1 k1 g1 x H1 l1 w1 r1 => ?_) fun _ _ q => q⟩
  refine ⟨g1, s1, w1, (Fin.bind k1).imp (fun ds s2 k2 g2 vs H2 l2 w2 r2 => ?_) fun _ _ q => q.up l1⟩
  exact k2 g2 (x :: vs) H2 (l1.trans l2) w2 ⟨x, vs, rfl, r1.mono l2 _ _, r2⟩
theorem eArgs_len : ∀ {ms : List E} {st st' : Sts} {ds : List D}, eArgs ms st = .ok ds st' → ds.length = ms.length
  | [], _, _, _, h => by
    cases h
    rfl
  | m :: ms, st, st', ds, h => by
    unfold eArgs at h
    cases e1 : m st with
    | ok d s1 =>
      rw [e1] at h
      simp only [Ou.bind] at h
      cases e2 : eArgs ms s1 with
      | ok es s2 =>
        rw [e2] at h
        simp only [Ou.bind] at h
        cases h
        rw [List.length_cons, List.length_cons, eArgs_len e2]
      | xc e s => rw [e2] at h; cases h
      | bad => rw [e2] at h; cases h
    | xc e s => rw [e1] at h; cases h
    | bad => rw [e1] at h; cases h
def TDaP (Γ : Md) (b : Base) (W : WX) (m : Sts → Ou (List Pre)) : TA := fun σ H Q => ∃ g st, Wd Γ b g σ H st ∧ Fin (fun ps st' => ∀ g' vs H', Le g H g' H' → Wd Γ b g' σ H' st' → Paired (RepP Γ g' σ H') ps vs → Q vs H') (XC Γ b W g H σ) (m st)
theorem pairedP_mono {Γ : Md} {g g' : Gh} {σ : Slots} {H H' : Hp} (l : Le g H g' H') : ∀ {ps : List Pre} {vs : List V}, Paired (RepP Γ g σ H) ps vs → Paired (RepP Γ g' σ H') ps vs
  | _, _, .nil => .nil
  | _, _, .cons r t => .cons (r.mono l) (pairedP_mono l t)
theorem dargsP_nil : PA X [] (TDaP (md X) b W (eArgsP [])) := PA.imp pa_nil fun σ H Q ⟨g, st, w, k⟩ => k g [] H Le.refl w .nil
theorem dargsP_cons {e : Expr} {es : List Expr} {m : EP'} {ms : List EP'} (h : DA X b W e m) (hr : PA X es (TDaP (md X) b W (eArgsP ms))) (hs : starEach (e :: es) X.env = (false, eval e X.env) :: starEach es X.env := by rfl) : PA X (e :: es) (TDaP (md X) b W (eArgsP (m :: ms))) := by
  refine PA.imp (pa_cons h hr hs) fun σ H Q ⟨g, st, w, k⟩ => ⟨g, st, w, (Fin.bind k).imp (fun d s1 k1 g1 x H1 l1 w1 r1 => ?_) fun _ _ q => q⟩
  refine ⟨g1, s1, w1, (Fin.bind k1).imp (fun ds s2 k2 g2 vs H2 l2 w2 r2 => ?_) fun _ _ q => q.up l1⟩
  exact k2 g2 (x :: vs) H2 (l1.trans l2) w2 (.cons (r1.mono l2) r2)
theorem CReps.of {Γ : Md} {g : Gh} {σ : Slots} {H : Hp} {st : Sts} (w : Wd Γ b g σ H st) : ∀ {ps : List Pre} {vs : List V} {ds : List D}, Paired (RepP Γ g σ H) ps vs → rdL ps st = some ds → CReps Γ g H ds vs
  | _, _, _, .nil, e => by
    cases e
    rfl
  | p :: ps, v :: vs, ds, .cons r t, e => by
    unfold rdL at e
    cases e1 : rd p st with
    | none => rw [e1] at e; cases e
    | some d =>
      cases e2 : rdL ps st with
      | none => rw [e1, e2] at e; cases e
      | some es =>
        rw [e1, e2] at e
        cases e
        exact ⟨v, vs, rfl, RepP.c w r e1, CReps.of w t e2⟩
/-- a built-in function by values -/
theorem fun_by {ms : List EP'} {f : List D → Option D} {r : List V → Hp → VK → Prop}
    (hr : ∀ xs H Q, (∃ g ds d, TF g H ∧ CReps (md X) g H ds xs ∧ f ds = some d ∧ ∀ g' v H', Al g H g' H' → Rep (md X) g' H' d v → Q v H') → r xs H Q) {σ : Slots} {H : Hp} {Q : VK} (h : TDe (md X) b W (eFun f ms) σ H Q) :
    tCB r (TDaP (md X) b W (eArgsP ms)) σ H Q := by
  obtain ⟨g, st, w, k⟩ := h
  refine ⟨g, st, w, (Fin.bind k).imp (fun ps s1 k1 g1 xs H1 l1 w1 r1 => ?_) fun _ _ q => q⟩
  obtain ⟨d, e, k3⟩ := ofO_some k1
  cases e1 : rdL ps s1 with
  | none => rw [e1] at e; cases e
  | some ds =>
    rw [e1] at e
    exact hr xs H1 Q ⟨g1, ds, d, w1.gr.tF, CReps.of w1 r1 e1, e, fun g' v H' al rv => k3 g' v H' (l1.trans al.le) (w1.al al) rv⟩
theorem de_fun {x : Str} {id : String} {p pos : Pos} {e : Expr} {es : List Expr} {f : List D → Option D} {ms : List EP'} (hc : CallD X (.builtin id) f) (hg : Gl X x) (hm : X.mg x = none) (hv : bootBuiltins x = some (.builtin id)) (ha : PA X (e :: es) (TDaP (md X) b W (eArgsP ms)))
    (hn : x ≠ "__name__" := by decide +kernel) (hdb : (x == ("__debug__" : Str)) = false := by decide +kernel) (he : starEach (e :: es) X.env = (false, eval e X.env) :: starEach es X.env := by rfl) (hpl : (backTo pos (starEach es X.env)).any (·.1) = false := by rfl) :
    DE X b W (.Call (.Name x p) (e :: es) [] pos) (eFun f ms) := PE.imp (pe_callB hc hg hm hv ha hn hdb he hpl) fun _ _ _ h => fun_by (fun _ _ _ z => z) h

/-! displays -/
theorem Wd.notOwn {Γ : Md} {g : Gh} {σ : Slots} {H : Hp} {st : Sts} (w : Wd Γ b g σ H st) {p : Addr} (np : H p = none) : ∀ (j : Nat) e, st.ρ[j]? = some (.own e) → σ[j]? ≠ some (some (.ref p)) := fun j e h1 h2 => by
  obtain ⟨o, h3, a, h4, c, _⟩ := w.slot j _ h1
  rw [h2] at h3
  cases h3
  cases h4
  obtain ⟨o, h5, _⟩ := c.there
  rw [np] at h5; cases h5
theorem Wd.notProt {Γ : Md} {g : Gh} {σ : Slots} {H : Hp} {st : Sts} (w : Wd Γ b g σ H st) {p : Addr} (np : H p = none) : ∀ q ∈ b.P, q.1 ≠ p := fun q hq e => by
  obtain ⟨h1, _⟩ := w.prot q hq
  rw [e, np] at h1; cases h1
theorem de_tup {es : List Expr} {ms : List E} {k pos} (h : DArgs X b W es (eArgs ms)) (hl : ms.length ≤ sizeLine := by decide) : DE X b W (.Tuple es k pos) (eTup ms) := by
  refine PE.imp (pe_tup h) fun σ H Q ⟨g, st, w, k⟩ => ⟨g, st, w, ?_⟩
  cases e : eArgs ms st with
  | bad => rw [show eTup ms st = .bad by simp [eTup, e, Ou.bind]] at k; exact k
  | xc x s => rw [show eTup ms st = .xc x s by simp [eTup, e, Ou.bind]] at k; exact k
  | ok ds s =>
    rw [show eTup ms st = .ok (.tup ds) s by simp [eTup, e, Ou.bind]] at k
    intro g1 vs H1 l1 w1 r1
    refine ⟨by rw [r1.length, eArgs_len e]; exact hl, fun p np => ?_⟩
    have al := Al.laid w1.gr.tF np (.tup vs)
    exact k g1 (.ref p) _ (l1.trans al.le) (w1.al al) ⟨p, vs, rfl, upd_same, Reps.mono al.le _ _ r1⟩
theorem do_lst {es : List Expr} {ms : List E} {pos} (h : DArgs X b W es (eArgs ms)) (hl : ms.length ≤ sizeLine := by decide) : DO X b W (.List es pos) (eLst ms) := by
  refine PE.imp (pe_lst h) fun σ H Q ⟨g, st, w, k⟩ => ⟨g, st, w, ?_⟩
  cases e : eArgs ms st with
  | bad => rw [show eLst ms st = .bad by simp [eLst, e, Ou.bind]] at k; exact k
  | xc x s => rw [show eLst ms st = .xc x s by simp [eLst, e, Ou.bind]] at k; exact k
  | ok ds s =>
    rw [show eLst ms st = .ok (.lst ds) s by simp [eLst, e, Ou.bind]] at k
    intro g1 vs H1 l1 w1 r1
    refine ⟨by rw [r1.length, eArgs_len e]; exact hl, fun p np => ?_⟩
    have al := Al.laid w1.gr.tF np (.lst vs)
    refine k g1 p _ (l1.trans al.le) (w1.al al) ⟨vs, upd_same, Reps.mono al.le _ _ r1⟩ (w1.notF np) (w1.notAs np) (w1.not0 np) (w1.notOwn np) (w1.notProt np)
end
end DL
/-! DLd: tests, statements, loops. -/
namespace DL
open PySem PySem.Spec PyProof.Rows L2
abbrev T := Sts → Ou Bool
abbrev C := Sts → Fl
/-! ### tests -/
def truD : D → Option Bool
  | .non => some false
  | .bl k => some k
  | .int i => some (i != 0)
  | .str x => if x.length ≤ sizeLine then some (!x.isEmpty) else none
  | .tup xs => some (!xs.isEmpty)
  | .lst xs => some (!xs.isEmpty)
  | .dct .K kvs => some (!kvs.isEmpty)
  | _ => none
def tTru (m : EP') : T := fun st => (m st).bind fun p s => match (rd p s).bind truD with
  | some k => .ok k s
  | none => .bad
def tBool (m : E) : T := fun st => (m st).bind fun d s => match d with
  | .bl k => .ok k s
  | _ => .bad
def tNt (t : T) : T := fun st => (t st).bind fun k s => .ok (!k) s
def tAn (t u : T) : T := fun st => (t st).bind fun k s => match k with
  | true => u s
  | false => .ok false s
def tOrr (t u : T) : T := fun st => (t st).bind fun k s => match k with
  | true => .ok true s
  | false => u s
def eIf (t : T) (a c : E) : E := fun st => (t st).bind fun k s => match k with
  | true => a s
  | false => c s
def eNt (m : EP') : E := fun st => (m st).bind fun p s => match (rd p s).bind truD with
  | some k => .ok (.bl (!k)) s
  | none => .bad
def eAnd (a c : E) : E := fun st => (a st).bind fun d s => match truD d with
  | some true => c s
  | some false => .ok d s
  | none => .bad
def eOrr (a c : E) : E := fun st => (a st).bind fun d s => match truD d with
  | some true => .ok d s
  | some false => c s
  | none => .bad
section
variable {X : Cx} {b : Base} {W : WX}
theorem isEmpty_len {α β : Type} {xs : List α} {ys : List β} (h : xs.length = ys.length) : (!xs.isEmpty) = !ys.isEmpty := by
  cases xs <;> cases ys <;> simp_all
theorem RepK.length {Γ : Md} {g : Gh} {H : Hp} : ∀ {kvs : List (D × D)} {ks : List (Key × V)}, RepK Γ g H kvs ks → ks.length = kvs.length
  | [], _, h => by rw [show _ = [] from h]; rfl
  | (a, d) :: r, _, h => by
    obtain ⟨k, v, q, rfl, _, _, _, z⟩ := h
    rw [List.length_cons, List.length_cons, RepK.length z]
theorem tru_of {Γ : Md} {g : Gh} {H : Hp} {d : D} {v : V} {k : Bool} (r : CRep Γ g H d v) (e : truD d = some k) : TruV Γ.K v H k := by
  cases d with
  | non => rw [show v = .non from r]; exact (Option.some.inj e).symm
  | bl c => rw [show v = .bl c from r]; exact (Option.some.inj e).symm
  | int i => rw [show v = .int i from r]; exact (Option.some.inj e).symm
  | str x =>
    obtain ⟨e1, _⟩ := r
    rw [e1]
    simp only [truD] at e
    split at e
    · rename_i h
      cases e
      refine ⟨by simpa [Str.length] using h, ?_⟩
      cases x with
      | nil => rfl
      | cons c x => simp [Str.length] <;> omega
    · cases e
  | tup xs =>
    cases e
    obtain ⟨a, vs, e1, h, r⟩ := r
    rw [e1]
    exact .inr (.inl ⟨vs, SqT.of h, isEmpty_len r.length.symm⟩)
  | lst xs =>
    cases e
    obtain ⟨a, vs, e1, h, r⟩ := r
    rw [e1]
    exact .inl ⟨vs, SqL.of h, isEmpty_len r.length.symm⟩
  | dct kd kvs =>
    cases kd with
    | K =>
      cases e
      obtain ⟨a, ks, e1, h, r⟩ := r
      rw [e1]
      exact .inr (.inr ⟨ks, h, isEmpty_len r.length.symm⟩)
    | _ => cases e
  | _ => cases e
theorem dt_tru {a : Expr} {m : EP'} (ha : DA X b W a m) (he : ∀ whole, isTrue a X.env whole = (do let v ← whole; standAt a.pos; holding [v] (truthy v)) := by intro _; rfl) : DT X b W a (tTru m) := by
  refine PT.imp (pt_truth ha he) fun σ H Q ⟨g, st, w, k⟩ => ⟨g, st, w, (Fin.bind k).imp (fun p s1 k1 g1 x H1 l1 w1 r1 => ?_) fun _ _ q => q⟩
  cases e : (rd p s1).bind truD with
  | none => rw [e] at k1; exact k1.elim
  | some c =>
    rw [e] at k1
    cases e1 : rd p s1 with
    | none => rw [e1] at e; cases e
    | some d =>
      rw [e1] at e
      exact ⟨c, tru_of (RepP.c w1 r1 e1) e, k1 g1 H1 l1 w1⟩
theorem tBool_of {m : E} {σ : Slots} {H : Hp} {Q : Bool → Hp → Prop} (h : TDt (md X) b W (tBool m) σ H Q) : TDe (md X) b W m σ H fun x H' => ∃ k, x = .bl k ∧ Q k H' := by
  obtain ⟨g, st, w, k⟩ := h
  refine ⟨g, st, w, (Fin.bind k).imp (fun d s1 k1 g1 x H1 l1 w1 r1 => ?_) fun _ _ q => q⟩
  cases d with
  | bl c => exact ⟨c, r1, k1 g1 H1 l1 w1⟩
  | _ => exact k1.elim
theorem dt_cmp {a c : Expr} {op : CmpOp} {f : D → D → Option D} {ma mb : EP'} {pos : Pos} (ho : OpD X (compareOp op) f) (ha : DA X b W a ma) (hb : DA X b W c mb) (hm : behindInMarks op c = false) : DT X b W (.Compare a [op] [c] pos) (tBool (eBin f ma mb)) :=
  PT.imp (pt_cmpR ho ha hb hm) fun _ _ _ h => bin2 (fun _ _ _ _ z => z) (tBool_of h)
theorem dt_not {a : Expr} {t : T} {pos : Pos} (ha : DT X b W a t) : DT X b W (.UnaryOp .Not a pos) (tNt t) :=
  PT.imp (pt_not ha) fun σ H Q ⟨g, st, w, k⟩ => ⟨g, st, w, (Fin.bind k).imp (fun c s1 k1 g1 H1 l1 w1 => k1 g1 H1 l1 w1) fun _ _ q => q⟩
abbrev DW (X : Cx) (b : Base) (W : WX) (e : Expr) (m : T) : Prop := PW X e (TDt (md X) b W m)
theorem PW.imp {e : Expr} {t u : TT} (h : PW X e t) (k : ∀ σ H Q, u σ H Q → t σ H Q) : PW X e u := ⟨fun wh pins s σ H Q I q => h.run wh pins s σ H Q I (k σ H Q q)⟩
theorem dw_and1 {a : Expr} {t : T} {pos : Pos} (ha : DT X b W a t) : DW X b W (.BoolOp .And [a] pos) t := pw_and1 ha
theorem dw_or1 {a : Expr} {t : T} {pos : Pos} (ha : DT X b W a t) : DW X b W (.BoolOp .Or [a] pos) t := pw_or1 ha
theorem dw_and {a c : Expr} {rest : List Expr} {t u : T} {pos : Pos} (ha : DT X b W a t) (hb : DW X b W (.BoolOp .And (c :: rest) pos) u) : DW X b W (.BoolOp .And (a :: c :: rest) pos) (tAn t u) :=
  PW.imp (pw_and ha hb) fun σ H Q ⟨g, st, w, k⟩ => ⟨g, st, w, (Fin.bind k).imp (fun c s1 k1 g1 H1 l1 w1 => by
    cases c with
    | true =>
      rw [if_pos rfl]
      exact ⟨g1, s1, w1, k1.imp (fun _ _ q g' H' l w' => q g' H' (l1.trans l) w') fun _ _ q => q.up l1⟩
    | false =>
      rw [if_neg Bool.false_ne_true]
      exact k1 g1 H1 l1 w1) fun _ _ q => q⟩
theorem dw_or {a c : Expr} {rest : List Expr} {t u : T} {pos : Pos} (ha : DT X b W a t) (hb : DW X b W (.BoolOp .Or (c :: rest) pos) u) : DW X b W (.BoolOp .Or (a :: c :: rest) pos) (tOrr t u) :=
  PW.imp (pw_or ha hb) fun σ H Q ⟨g, st, w, k⟩ => ⟨g, st, w, (Fin.bind k).imp (fun c s1 k1 g1 H1 l1 w1 => by
    cases c with
    | true =>
      rw [if_pos rfl]
      exact k1 g1 H1 l1 w1
    | false =>
      rw [if_neg Bool.false_ne_true]
      exact ⟨g1, s1, w1, k1.imp (fun _ _ q g' H' l w' => q g' H' (l1.trans l) w') fun _ _ q => q.up l1⟩) fun _ _ q => q⟩
theorem dt_w {e : Expr} {t : T} (h : DW X b W e t) : DT X b W e t := h.pt
/-! values -/
theorem de_if {c a e : Expr} {t : T} {ma mb : E} {pos : Pos} (hc : DT X b W c t) (ha : DE X b W a ma) (hb : DE X b W e mb) : DE X b W (.IfExp c a e pos) (eIf t ma mb) :=
  PE.imp (pe_ifExp hc ha hb) fun σ H Q ⟨g, st, w, k⟩ => ⟨g, st, w, (Fin.bind k).imp (fun c s1 k1 g1 H1 l1 w1 => by
    cases c with
    | true =>
      rw [if_pos rfl]
      exact ⟨g1, s1, w1, k1.imp (fun _ _ q g' v H' l w' r => q g' v H' (l1.trans l) w' r) fun _ _ q => q.up l1⟩
    | false =>
      rw [if_neg Bool.false_ne_true]
      exact ⟨g1, s1, w1, k1.imp (fun _ _ q g' v H' l w' r => q g' v H' (l1.trans l) w' r) fun _ _ q => q.up l1⟩) fun _ _ q => q⟩
theorem de_not {a : Expr} {m : EP'} {pos : Pos} (ha : DA X b W a m) : DE X b W (.UnaryOp .Not a pos) (eNt m) := by
  refine PE.imp (pe_notT ha) fun σ H Q ⟨g, st, w, k⟩ => ⟨g, st, w, (Fin.bind k).imp (fun p s1 k1 g1 x H1 l1 w1 r1 => ?_) fun _ _ q => q⟩
  cases e : (rd p s1).bind truD with
  | none => rw [e] at k1; exact k1.elim
  | some c =>
    rw [e] at k1
    cases e1 : rd p s1 with
    | none => rw [e1] at e; cases e
    | some d =>
      rw [e1] at e
      exact ⟨c, tru_of (RepP.c w1 r1 e1) e, k1 g1 _ H1 l1 w1 rfl⟩
theorem de_one {op : BoolOp} {a : Expr} {m : E} {pos : Pos} (ha : DE X b W a m) : DE X b W (.BoolOp op [a] pos) m := pe_one ha
theorem de_and {a c : Expr} {rest : List Expr} {ma mb : E} {pos : Pos} (ha : DE X b W a ma) (hb : DE X b W (.BoolOp .And (c :: rest) pos) mb) : DE X b W (.BoolOp .And (a :: c :: rest) pos) (eAnd ma mb) := by
  refine PE.imp (pe_andT ha hb) fun σ H Q ⟨g, st, w, k⟩ => ⟨g, st, w, (Fin.bind k).imp (fun d s1 k1 g1 x H1 l1 w1 r1 => ?_) fun _ _ q => q⟩
  cases e : truD d with
  | none => rw [e] at k1; exact k1.elim
  | some c =>
    rw [e] at k1
    refine ⟨c, tru_of r1.c e, ?_⟩
    cases c with
    | true =>
      rw [if_pos rfl]
      exact ⟨g1, s1, w1, k1.imp (fun _ _ q g' v H' l w' r => q g' v H' (l1.trans l) w' r) fun _ _ q => q.up l1⟩
    | false =>
      rw [if_neg Bool.false_ne_true]
      exact k1 g1 x H1 l1 w1 r1
theorem de_or {a c : Expr} {rest : List Expr} {ma mb : E} {pos : Pos} (ha : DE X b W a ma) (hb : DE X b W (.BoolOp .Or (c :: rest) pos) mb) : DE X b W (.BoolOp .Or (a :: c :: rest) pos) (eOrr ma mb) := by
  refine PE.imp (pe_orT ha hb) fun σ H Q ⟨g, st, w, k⟩ => ⟨g, st, w, (Fin.bind k).imp (fun d s1 k1 g1 x H1 l1 w1 r1 => ?_) fun _ _ q => q⟩
  cases e : truD d with
  | none => rw [e] at k1; exact k1.elim
  | some c =>
    rw [e] at k1
    refine ⟨c, tru_of r1.c e, ?_⟩
    cases c with
    | true =>
      rw [if_pos rfl]
      exact k1 g1 x H1 l1 w1 r1
    | false =>
      rw [if_neg Bool.false_ne_true]
      exact ⟨g1, s1, w1, k1.imp (fun _ _ q g' v H' l w' r => q g' v H' (l1.trans l) w' r) fun _ _ q => q.up l1⟩
end

/-! ### statements -/
def sNil : C := fun st => .nx st
def sSeq (c d : C) : C := fun st => match c st with
  | .nx s => d s
  | r => r
def ouF {α : Type} (m : Ou α) (k : α → Sts → Fl) : Fl := match m with
  | .ok a s => k a s
  | .xc e s => .xc e s
  | .bad => .bad
def sIf (t : T) (c d : C) : C := fun st => ouF (t st) fun k s => match k with
  | true => c s
  | false => d s
def sRet (m : E) : C := fun st => ouF (m st) fun d s => .rt d s
def sRetN : C := fun st => .rt .non st
def sEx (m : E) : C := fun st => ouF (m st) fun _ s => .nx s
def sBk : C := fun st => .bk st
def sCt : C := fun st => .ct st
abbrev Tg := D → Sts → Option Sts
def nxO : Option Sts → Fl
  | some s => .nx s
  | none => .bad
def sAsg (m : E) (t : Tg) : C := fun st => ouF (m st) fun d s => nxO (t d s)
def tgN (i : Nat) : Tg := fun d st => some ⟨st.ρ.set i (.val d), st.S⟩
def sSetO (i : Nat) (m : E) : C := fun st => ouF (m st) fun d s => .nx ⟨s.ρ.set i (.own d), s.S⟩
/-- a new shared object -/
def sSetS (i : Nat) (m : E) : C := fun st => ouF (m st) fun d s => .nx ⟨s.ρ.set i (.val (.obj s.S.length)), s.S ++ [d]⟩
def wipeS (is : List Nat) (st : Sts) : Sts := ⟨is.foldl (fun ρ i => ρ.set i .un) st.ρ, st.S⟩
def sWipe (is : List Nat) (c : C) : C := fun st => match c st with
  | .nx s => .nx (wipeS is s)
  | .ct s => .ct (wipeS is s)
  | .bk s => .bk (wipeS is s)
  | r => r
def tgTs : List Tg → List D → Sts → Option Sts
  | [], [], st => some st
  | t :: ts, d :: ds, st => (t d st).bind fun s => tgTs ts ds s
  | _, _, _ => none
def tgT (ts : List Tg) : Tg := fun d st => match d with
  | .tup ds => tgTs ts ds st
  | _ => none
/-- behind a loop's turn -/
def turnF (r : Fl) (k : Sts → Fl) : Fl := match r with
  | .nx s => k s
  | .ct s => k s
  | .bk s => .nx s
  | r => r
def forL (tg : Tg) (body : C) : List D → Sts → Fl
  | [], st => .nx st
  | d :: ds, st => match tg d st with
    | some s => turnF (body s) fun s' => forL tg body ds s'
    | none => .bad
def sFor (it : Sts → Ou (List D)) (tg : Tg) (body : C) : C := fun st => ouF (it st) fun ds s => forL tg body ds s
/-- n turns at most -/
def whN (t : T) (body : C) : Nat → Sts → Fl
  | 0, _ => .bad
  | n + 1, st => ouF (t st) fun k s => match k with
    | false => .nx s
    | true => turnF (body s) fun s' => whN t body n s'
theorem whN_more {t : T} {body : C} : ∀ {n : Nat} {st : Sts} {m : Nat}, n ≤ m → whN t body n st ≠ .bad → whN t body m st = whN t body n st
  | 0, _, _, _, h => absurd rfl h
  | n + 1, st, 0, h, _ => absurd h (by omega)
  | n + 1, st, m + 1, h, k => by
    unfold whN at k ⊢
    cases e : t st with
    | ok d s =>
      rw [e] at k
      cases d with
      | false => rfl
      | true =>
        have k' : turnF (body s) (fun s' => whN t body n s') ≠ .bad := k
        show turnF (body s) (fun s' => whN t body m s') = turnF (body s) (fun s' => whN t body n s')
        cases ec : body s with
        | nx s5 => rw [ec] at k'; exact whN_more (by omega) k'
        | ct s5 => rw [ec] at k'; exact whN_more (by omega) k'
        | _ => rfl
    | _ => rfl
open Classical in
/-- as many turns as it takes -/
noncomputable def sWh (t : T) (body : C) : C := fun st => if h : ∃ n, whN t body n st ≠ .bad then whN t body (Classical.choose h) st else .bad
theorem sWh_eq {t : T} {body : C} {st : Sts} {r : Fl} (n : Nat) (h : whN t body n st = r) (hr : r ≠ .bad) : sWh t body st = r := by
  have hx : ∃ n, whN t body n st ≠ .bad := ⟨n, by rw [h]; exact hr⟩
  unfold sWh
  rw [dif_pos hx]
  have h2 := Classical.choose_spec hx
  rcases Nat.le_total n (Classical.choose hx) with z | z
  · rw [whN_more z (by rw [h]; exact hr), h]
  · rw [← whN_more z h2, h]
section
variable {X : Cx} {b : Base} {W : WX} {o : Bool}
theorem FinS.ou {α : Type} {E : Ends} {g : Gh} {H : Hp} {m : Ou α} {k : α → Sts → Fl} (h : FinS (md X) b W o E g H (ouF m k)) (σ : Slots) : Fin (fun a s => FinS (md X) b W o E g H (k a s)) (XC (md X) b W g H σ) m := by
  cases m with
  | ok a s => exact h
  | xc e s => exact h σ
  | bad => exact h
theorem dss_nil : DSs X b W o [] sNil := PSs.imp pss_nil fun D σ H ⟨g, st, w, k⟩ => k g σ H Le.refl w
theorem dss_one {s : Stmt} {c : C} (h : DS X b W o s c) : DSs X b W o [s] c := pss_one h
theorem dss_cons {s : Stmt} {r : List Stmt} {c d : C} (h : DS X b W o s c) (hr : DSs X b W o r d) : DSs X b W o (s :: r) (sSeq c d) := by
  refine PSs.imp (pss_cons h hr) fun D σ H ⟨g, st, w, k⟩ => ⟨g, st, w, ?_⟩
  unfold sSeq at k
  cases e : c st with
  | nx s => rw [e] at k; exact fun g' σ' H' l w' => ⟨g', s, w', FinS.up l k⟩
  | _ => rw [e] at k; exact k
theorem ds_pass {pos} : DS X b W o (.Pass pos) sNil := PS.imp ps_pass fun D σ H ⟨g, st, w, k⟩ => k g σ H Le.refl w
theorem ds_break {pos} : DS X b W o (.Break pos) sBk := PS.imp ps_break fun D σ H ⟨g, st, w, k⟩ => k g σ H Le.refl w
theorem ds_continue {pos} : DS X b W o (.Continue pos) sCt := PS.imp ps_continue fun D σ H ⟨g, st, w, k⟩ => k g σ H Le.refl w
theorem ds_ret {e : Expr} {m : E} {pos} (h : DE X b W e m) : DS X b W false (.Return (some e) pos) (sRet m) :=
  PS.imp (ps_ret h) fun D σ H ⟨g, st, w, k⟩ => ⟨g, st, w, (FinS.ou k σ).imp (fun d s q g' v H' l w' r => q g' v σ H' l w' r) fun _ _ q => q⟩
theorem ds_retO {e : Expr} {m : E} {pos} (h : DO X b W e m) : DS X b W true (.Return (some e) pos) (sRet m) :=
  PS.imp (ps_ret h) fun D σ H ⟨g, st, w, k⟩ => ⟨g, st, w, (FinS.ou k σ).imp (fun d s q g' a H' l w' c nf na n0 _ _ => q g' (.ref a) σ H' l w' ⟨a, rfl, c, nf, na, n0⟩) fun _ _ q => q⟩
theorem ds_retN {pos} : DS X b W false (.Return none pos) sRetN := PS.imp ps_retN fun D σ H ⟨g, st, w, k⟩ => k g .non σ H Le.refl w rfl
theorem ds_expr {e : Expr} {m : E} {pos : Pos} (h : DE X b W e m) (hs : swapsWith e none pos.line X.env = pure false := by rfl) : DS X b W o (.Expr e pos) (sEx m) :=
  PS.imp (ps_expr h hs) fun D σ H ⟨g, st, w, k⟩ => ⟨g, st, w, (FinS.ou k σ).imp (fun d s q g' v H' l w' r => q g' σ H' l w') fun _ _ q => q⟩
theorem ds_if {c : Expr} {p q : List Stmt} {t : T} {cp cq : C} {pos} (hc : DT X b W c t) (hp : DSs X b W o p cp) (hq : DSs X b W o q cq) : DS X b W o (.If c p q pos) (sIf t cp cq) :=
  PS.imp (ps_if hc hp hq) fun D σ H ⟨g, st, w, k⟩ => ⟨g, st, w, (FinS.ou k σ).imp (fun d s z g' H' l w' => by
    cases d with
    | true =>
      rw [if_pos rfl]
      exact ⟨g', s, w', FinS.up l z⟩
    | false =>
      rw [if_neg Bool.false_ne_true]
      exact ⟨g', s, w', FinS.up l z⟩) fun _ _ q => q⟩
theorem ds_set {i : Nat} {x : Str} {e : Expr} {m : E} {pos pos' : Pos} (hN : X.N.Nodup) (hi : X.N[i]? = some x) (hx : Loc X.env.scope x) (h : DE X b W e m) (hs : swapsWith e (some (.Name x pos')) pos.line X.env = pure false := by rfl)
    (hf : X.fn x = true ∨ X.env.scope.names.lookup x = some .local := by first | exact .inl rfl | exact .inr rfl | assumption) : DS X b W o (.Assign [.Name x pos'] e pos) (sAsg m (tgN i)) :=
  PS.imp (ps_set hN hi hx h hs hf) fun D σ H ⟨g, st, w, k⟩ => ⟨g, st, w, (FinS.ou k σ).imp (fun d s q g' v H' l w' r => q g' _ H' l (w'.set r)) fun _ _ q => q⟩
theorem ds_setO {i : Nat} {x : Str} {e : Expr} {m : E} {pos pos' : Pos} (hN : X.N.Nodup) (hi : X.N[i]? = some x) (hx : Loc X.env.scope x) (h : DO X b W e m) (hs : swapsWith e (some (.Name x pos')) pos.line X.env = pure false := by rfl)
    (hf : X.fn x = true ∨ X.env.scope.names.lookup x = some .local := by first | exact .inl rfl | exact .inr rfl | assumption) : DS X b W o (.Assign [.Name x pos'] e pos) (sSetO i m) :=
  PS.imp (ps_set hN hi hx h hs hf) fun D σ H ⟨g, st, w, k⟩ => ⟨g, st, w, (FinS.ou k σ).imp (fun d s q g' a H' l w' c nf na n0 no npr => q g' _ H' l (w'.setOwn c nf na n0 no npr)) fun _ _ q => q⟩
/-- a new shared object -/
theorem Wd.share {Γ : Md} {g : Gh} {σ : Slots} {H : Hp} {st : Sts} (w : Wd Γ b g σ H st) {i : Nat} {d : D} {a : Addr} (c : Cont Γ g H d a) (nf : ¬ g.F a) (na : a ∉ g.as) (n0 : b.H0 a = none) (no : ∀ (j : Nat) e, st.ρ[j]? = some (.own e) → σ[j]? ≠ some (some (.ref a))) (npr : ∀ p ∈ b.P, p.1 ≠ a) :
    Wd Γ b ⟨g.F, g.as ++ [a]⟩ (σ.set i (some (.ref a))) H ⟨st.ρ.set i (.val (.obj st.S.length)), st.S ++ [d]⟩ ∧ Le g H ⟨g.F, g.as ++ [a]⟩ H := by
  have l : Le g H ⟨g.F, g.as ++ [a]⟩ H := ⟨fun _ h => h, fun n x h => by
    rw [List.getElem?_append_left (List.getElem?_eq_some_iff.mp h).1]; exact h, fun _ _ e _ => e⟩
  have w1 : Wd Γ b ⟨g.F, g.as ++ [a]⟩ σ H ⟨st.ρ, st.S ++ [d]⟩ := by
    refine ⟨w.len, fun i s e => ?_, w.dist, ⟨by simp [w.obs.len], fun n e x h1 h2 => ?_⟩, ⟨w.gr.F, w.gr.fresh, w.gr.keep, fun n x h => l.as n x (w.gr.as n x h), fun x hx => ?_, w.gr.tF, fun x hx => ?_, ?_, fun x hx => ?_⟩, fun p hp => ?_⟩
    · obtain ⟨o, h1, h2⟩ := w.slot i s e
      refine ⟨o, h1, ?_⟩
      cases s with
      | un => trivial
      | val d' =>
        obtain ⟨v, e1, r⟩ := h2
        exact ⟨v, e1, r.mono l _ _⟩
      | own d' =>
        obtain ⟨x, e1, c', nf', na', n0'⟩ := h2
        refine ⟨x, e1, c'.mono l (fun _ e => e), nf', fun hx => ?_, n0'⟩
        rcases List.mem_append.mp hx with hx | hx
        · exact na' hx
        · have ex : x = a := by simpa using hx
          subst ex
          subst e1
          exact no i _ e h1
    · by_cases hn : n < st.S.length
      · rw [List.getElem?_append_left hn] at h1
        rw [List.getElem?_append_left (by rw [w.obs.len]; exact hn)] at h2
        exact (w.obs.at_ n e x h1 h2).mono l fun _ e => e
      · have hn2 : n = st.S.length := by
          have := (List.getElem?_eq_some_iff.mp h1).1
          simp at this
          omega
        subst hn2
        rw [List.getElem?_append_right (Nat.le_refl _)] at h1
        rw [List.getElem?_append_right (by rw [w.obs.len] <;> exact Nat.le_refl _)] at h2
        simp at h1
        simp [w.obs.len] at h2
        subst h1 h2
        exact c.mono l fun _ e => e
    · rcases List.mem_append.mp hx with hx | hx
      · exact w.gr.new x hx
      · have ex : x = a := by simpa using hx
        subst ex
        exact .inr n0
    · rcases List.mem_append.mp hx with hx | hx
      · exact w.gr.tas x hx
      · have ex : x = a := by simpa using hx
        subst ex
        exact c.there
    · refine List.nodup_append.mpr ⟨w.gr.nd, by simp, fun x hx y hy e => ?_⟩
      have ey : y = a := by simpa using hy
      subst ey
      subst e
      exact na hx
    · rcases List.mem_append.mp hx with hx | hx
      · exact w.gr.sep x hx
      · have ex : x = a := by simpa using hx
        subst ex
        exact nf
    · obtain ⟨h1, h2, h3, h4⟩ := w.prot p hp
      refine ⟨h1, h2, fun hx => ?_, h4⟩
      rcases List.mem_append.mp hx with hx | hx
      · exact h3 hx
      · exact npr p hp (by simpa using hx)
  exact ⟨w1.set (i := i) (d := .obj st.S.length) (v := .ref a) ⟨a, rfl, by simp [← w.obs.len]⟩, l⟩
theorem ds_setS {i : Nat} {x : Str} {e : Expr} {m : E} {pos pos' : Pos} (hN : X.N.Nodup) (hi : X.N[i]? = some x) (hx : Loc X.env.scope x) (h : DO X b W e m) (hs : swapsWith e (some (.Name x pos')) pos.line X.env = pure false := by rfl)
    (hf : X.fn x = true ∨ X.env.scope.names.lookup x = some .local := by first | exact .inl rfl | exact .inr rfl | assumption) : DS X b W o (.Assign [.Name x pos'] e pos) (sSetS i m) :=
  PS.imp (ps_set hN hi hx h hs hf) fun D σ H ⟨g, st, w, k⟩ => ⟨g, st, w, (FinS.ou k σ).imp (fun d s q g' a H' l w' c nf na n0 no npr => q _ _ H' (l.trans (w'.share (i := i) c nf na n0 no npr).2) (w'.share c nf na n0 no npr).1) fun _ _ q => q⟩

/-! targets -/
/-- behind a store -/
def FinO (okc : Sts → Prop) : Option Sts → Prop
  | some s => okc s
  | none => False
theorem FinO.bind {okc : Sts → Prop} {m : Option Sts} {k : Sts → Option Sts} (h : FinO okc (m.bind k)) : FinO (fun s => FinO okc (k s)) m := by
  cases m with
  | some s => exact h
  | none => exact h
theorem FinO.imp {okc okc' : Sts → Prop} {m : Option Sts} (h : FinO okc m) (k : ∀ s, okc s → okc' s) : FinO okc' m := by
  cases m with
  | some s => exact k s h
  | none => exact h
def TDg (Γ : Md) (b : Base) (t : Tg) : TG := fun v σ H Q => ∃ g st d, Wd Γ b g σ H st ∧ Rep Γ g H d v ∧ FinO (fun st' => ∀ g' σ' H', Le g H g' H' → Wd Γ b g' σ' H' st' → Q σ' H') (t d st)
def TDgs (Γ : Md) (b : Base) (ts : List Tg) : TGs := fun vs σ H Q => ∃ g st ds, Wd Γ b g σ H st ∧ Reps Γ g H ds vs ∧ FinO (fun st' => ∀ g' σ' H', Le g H g' H' → Wd Γ b g' σ' H' st' → Q σ' H') (tgTs ts ds st)
abbrev DG (X : Cx) (b : Base) (e : Expr) (t : Tg) : Prop := PG X e (TDg (md X) b t)
theorem PG.imp {e : Expr} {t u : TG} (h : PG X e t) (k : ∀ v σ H Q, u v σ H Q → t v σ H Q) : PG X e u := ⟨fun pins s σ H v u Q I r q => h.run pins s σ H v u Q I r (k v σ H Q q)⟩
theorem PGs.imp {es : List Expr} {t u : TGs} (h : PGs X es t) (k : ∀ v σ H Q, u v σ H Q → t v σ H Q) : PGs X es u := ⟨fun pins s σ H v u Q I r q => h.run pins s σ H v u Q I r (k v σ H Q q)⟩
theorem dg_name {i : Nat} {x : Str} {pos : Pos} (h : PG X (.Name x pos) (gName i)) : DG X b (.Name x pos) (tgN i) :=
  PG.imp h fun v σ H Q ⟨g, st, d, w, r, k⟩ => k g _ H Le.refl (w.set r)
theorem dgs_nil : PGs X [] (TDgs (md X) b []) := PGs.imp pgs_nil fun vs σ H Q ⟨g, st, ds, w, r, k⟩ => by
  cases ds with
  | nil => exact ⟨r, k g σ H Le.refl w⟩
  | cons d ds => exact k.elim
theorem dgs_cons {e : Expr} {es : List Expr} {t : Tg} {ts : List Tg} (h1 : DG X b e t) (h2 : PGs X es (TDgs (md X) b ts)) (hs : (assignEach (e :: es) X.env).map (·.2) = assign e X.env :: (assignEach es X.env).map (·.2) := by rfl) :
    PGs X (e :: es) (TDgs (md X) b (t :: ts)) := PGs.imp (pgs_cons h1 h2 hs) fun vs σ H Q ⟨g, st, ds, w, r, k⟩ => by
  cases ds with
  | nil => exact k.elim
  | cons d ds =>
    obtain ⟨v, vr, rfl, r1, r2⟩ := r
    refine ⟨v, vr, rfl, g, st, d, w, r1, (FinO.bind k).imp fun s1 k1 g1 σ1 H1 l1 w1 => ?_⟩
    exact ⟨g1, s1, ds, w1, Reps.mono l1 _ _ r2, FinO.imp k1 fun _ q g' σ' H' l w' => q g' σ' H' (l1.trans l) w'⟩
theorem tgTs_len : ∀ {ts : List Tg} {ds : List D} {st : Sts} {okc : Sts → Prop}, FinO okc (tgTs ts ds st) → ds.length = ts.length
  | [], [], _, _, _ => rfl
  | [], _ :: _, _, _, h => h.elim
  | _ :: _, [], _, _, h => h.elim
  | t :: ts, d :: ds, st, okc, h => by
    have h' : FinO okc ((t d st).bind fun s => tgTs ts ds s) := h
    cases e : t d st with
    | some s =>
      rw [e] at h'
      rw [List.length_cons, List.length_cons, tgTs_len h']
    | none => rw [e] at h'; exact h'.elim
/-- a tuple of that many -/
theorem dg_tup {es : List Expr} {ts : List Tg} {k : Nat} {pos : Pos} (hc : X.calm = true) (h : PGs X es (TDgs (md X) b ts)) (hn : (assignEach es X.env).length = ts.length := by rfl) (hst : (assignEach es X.env).findIdx? (·.1) = none := by rfl) :
    DG X b (.Tuple es k pos) (tgT ts) := PG.imp (pg_tup hc h hn hst) fun v σ H Q ⟨g, st, d, w, r, k⟩ => by
  cases d with
  | tup ds =>
    obtain ⟨a, xs, rfl, q, rs⟩ := r
    have hl := tgTs_len (show FinO _ (tgTs ts ds st) from k)
    exact ⟨a, xs, rfl, SqT.of q, by rw [rs.length, hl], g, st, ds, w, rs, k⟩
  | _ => exact k.elim
theorem nxO_some {E : Ends} {g : Gh} {H : Hp} {m : Option Sts} (h : FinS (md X) b W o E g H (nxO m)) : FinO (fun st' => ∀ g' σ' H', Le g H g' H' → Wd (md X) b g' σ' H' st' → E.nx σ' H') m := by
  cases m with
  | some s => exact h
  | none => exact h
theorem ds_asg {tg e : Expr} {m : E} {t : Tg} {pos : Pos} (he : DE X b W e m) (hg : DG X b tg t) (hs : swapsWithSole [tg] e pos.line X.env = pure false := by rfl) (hw : swappedStores [tg] e X.env = pure none := by rfl)
    (h1 : (assignEach [tg] X.env).map (·.2) = [assign tg X.env] := by rfl) : DS X b W o (.Assign [tg] e pos) (sAsg m t) :=
  PS.imp (ps_asg he hg hs hw h1) fun D σ H ⟨g, st, w, k⟩ => ⟨g, st, w, (FinS.ou k σ).imp (fun d s q g' v H' l w' r =>
    ⟨g', s, d, w', r, (nxO_some q).imp fun s' z g2 σ2 H2 l2 w2 => z g2 σ2 H2 (l.trans l2) w2⟩) fun _ _ q => q⟩
/-- a, b = x, y of plain local names -/
def sPar (i j : Nat) (ma mb : E) : C := fun st => ouF (ma st) fun d s => ouF (mb s) fun e s2 => .nx ⟨(s2.ρ.set i (.val d)).set j (.val e), s2.S⟩
theorem ds_par {i j : Nat} {x y : Str} {p q : Expr} {ma mb : E} {px py pt pos : Pos} {kt k2 pt2} (hc : X.calm = true) (hN : X.N.Nodup) (hi : X.N[i]? = some x) (hj : X.N[j]? = some y) (hij : i ≠ j)
    (hx : X.env.scope.names.lookup x = some .local) (hy : X.env.scope.names.lookup y = some .local) (ha : DE X b W p ma) (hb : DE X b W q mb)
    (hw : swappedStores [.Tuple [.Name x px, .Name y py] kt pt] (.Tuple [p, q] k2 pt2) X.env = pure (some [x, y]))
    (hs : swapsWithSole [.Tuple [.Name x px, .Name y py] kt pt] (.Tuple [p, q] k2 pt2) pos.line X.env = pure false := by rfl)
    (h1 : starEach [p, q] X.env = (false, eval p X.env) :: starEach [q] X.env := by rfl) (h2 : starEach [q] X.env = (false, eval q X.env) :: starEach [] X.env := by rfl) :
    DS X b W o (.Assign [.Tuple [.Name x px, .Name y py] kt pt] (.Tuple [p, q] k2 pt2) pos) (sPar i j ma mb) := by
  refine PS.imp (ps_par hc hN hi hj hij hx hy (pa_cons ha (pa_cons hb pa_nil h2) h1) hw hs) fun D σ H ⟨g, st, w, k⟩ => ⟨g, st, w, (FinS.ou k σ).imp (fun d s z g' v H' l w' r => ?_) fun _ _ q => q⟩
  refine ⟨g', s, w', (FinS.ou z σ).imp (fun e s2 z g2 u H2 l2 w2 r2 => ?_) fun _ _ q => q.up l⟩
  exact ⟨v, u, rfl, z g2 _ H2 (l.trans l2) ((w2.set (r.mono l2 _ _)).set r2)⟩
theorem wipe_fold : ∀ (is : List Nat) (ρ : List Sl), (is.foldl (fun ρ i => ρ.set i .un) ρ).length = ρ.length ∧ ∀ (j : Nat) (s : Sl), (is.foldl (fun ρ i => ρ.set i .un) ρ)[j]? = some s → s = .un ∧ j < ρ.length ∨ ρ[j]? = some s
  | [], ρ => ⟨rfl, fun j s h => .inr h⟩
  | i :: is, ρ => by
    obtain ⟨h1, h2⟩ := wipe_fold is (ρ.set i .un)
    refine ⟨by rw [List.foldl_cons, h1, List.length_set], fun j s h => ?_⟩
    rcases h2 j s h with ⟨e, q⟩ | q
    · exact .inl ⟨e, by simpa using q⟩
    · by_cases hij : i = j
      · subst hij
        rw [List.getElem?_set_self'] at q
        cases e : ρ[i]? with
        | none => rw [e] at q; cases q
        | some z =>
          rw [e] at q
          cases q
          exact .inl ⟨rfl, (List.getElem?_eq_some_iff.mp e).1⟩
      · rw [List.getElem?_set_ne hij] at q
        exact .inr q
theorem Wd.wipe {Γ : Md} {g : Gh} {σ : Slots} {H : Hp} {st : Sts} (w : Wd Γ b g σ H st) (is : List Nat) : Wd Γ b g σ H (wipeS is st) := by
  obtain ⟨h1, h2⟩ := wipe_fold is st.ρ
  refine w.forget (by rw [w.len, h1]) fun j s e => ?_
  rcases h2 j s e with ⟨e, q⟩ | q
  · exact .inl ⟨e, by rw [w.len]; exact q⟩
  · exact .inr ⟨q, rfl⟩
theorem dss_wipe {s : List Stmt} {c : C} (is : List Nat) (h : DSs X b W o s c) : DSs X b W o s (sWipe is c) := by
  refine PSs.imp h fun D σ H ⟨g, st, w, k⟩ => ⟨g, st, w, ?_⟩
  unfold sWipe at k
  cases e : c st with
  | nx s => rw [e] at k; exact fun g' σ' H' l w' => k g' σ' H' l (w'.wipe is)
  | ct s => rw [e] at k; exact fun g' σ' H' l w' => k g' σ' H' l (w'.wipe is)
  | bk s => rw [e] at k; exact fun g' σ' H' l w' => k g' σ' H' l (w'.wipe is)
  | _ => rw [e] at k; exact k
theorem ds_wipe {s : Stmt} {c : C} (is : List Nat) (h : DS X b W o s c) : DS X b W o s (sWipe is c) := by
  refine PS.imp h fun D σ H ⟨g, st, w, k⟩ => ⟨g, st, w, ?_⟩
  unfold sWipe at k
  cases e : c st with
  | nx s => rw [e] at k; exact fun g' σ' H' l w' => k g' σ' H' l (w'.wipe is)
  | ct s => rw [e] at k; exact fun g' σ' H' l w' => k g' σ' H' l (w'.wipe is)
  | bk s => rw [e] at k; exact fun g' σ' H' l w' => k g' σ' H' l (w'.wipe is)
  | _ => rw [e] at k; exact k

/-! loops -/
/-- an iterator that stands at the i-th of ds, whatever comes, as long as what it walks is kept -/
def ItOk (Γ : Md) (J : It) (ds : List D) (g0 : Gh) (H0 : Hp) : Prop :=
  ∀ (i : Nat) (g : Gh) (H : Hp), Le g0 H0 g H → TF g H → (∀ d, ds[i]? = some d → J.go i H ∧ ∀ x H', J.yld i H x H' → ∃ g', Al g H g' H' ∧ Rep Γ g' H' d x) ∧ (ds.length ≤ i → J.stop i H)
def TDi (Γ : Md) (b : Base) (W : WX) (m : Sts → Ou (List D)) : TI := fun σ H R => ∃ g st, Wd Γ b g σ H st ∧ Fin (fun ds st' => ∀ g' J H', Le g H g' H' → Wd Γ b g' σ H' st' → ItOk Γ J ds g' H' → R J H') (XC Γ b W g H σ) (m st)
abbrev DI (X : Cx) (b : Base) (W : WX) (tg e : Expr) (m : Sts → Ou (List D)) : Prop := PI X tg e (TDi (md X) b W m)
theorem PI.imp {tg e : Expr} {t u : TI} (h : PI X tg e t) (k : ∀ σ H R, u σ H R → t σ H R) : PI X tg e u := ⟨fun pins s σ H R I q => h.run pins s σ H R I (k σ H R q)⟩
/-- what stands behind the rest of a for loop, from a turn on -/
theorem ds_for {tg iter : Expr} {body : List Stmt} {it : Sts → Ou (List D)} {t : Tg} {c : C} {pos : Pos} (hp : PassesOwn (model X.prog X.w) X.A X.env X.xe) (hc : X.calm = true) (hi : DI X b W tg iter it) (hg : DG X b tg t) (hb : DSs X b W o body c)
    (hs : ∀ x, foldedSetIterable iter X.env x = pure x := by intro _; rfl) : DS X b W o (.For tg iter body [] pos) (sFor it t c) := by
  refine PS.imp (ps_for hp hc hi hg hb hs) fun D σ H ⟨g, st, w, k⟩ => ⟨g, st, w, (FinS.ou k σ).imp (fun ds s q g1 J H1 l1 w1 io => ?_) fun _ _ q => q⟩
  refine ⟨fun i m σ H => m = ds.length - i ∧ i ≤ ds.length ∧ ∃ g2 st2, Le g1 H1 g2 H ∧ Wd (md X) b g2 σ H st2 ∧ FinS (md X) b W o D g2 H (forL t c (ds.drop i) st2),
    ⟨ds.length, by simp, Nat.zero_le _, g1, s, Le.refl, w1, FinS.up l1 q⟩, ?_⟩
  rintro i m σ H ⟨rfl, hi', g2, st2, l2, w2, q2⟩
  by_cases hlt : i < ds.length
  · right
    have hd : ds[i]? = some ds[i] := by simp [hlt]
    obtain ⟨h1, _⟩ := io i g2 H l2 w2.gr.tF
    obtain ⟨go, hy⟩ := h1 _ hd
    have edrop : ds.drop i = ds[i] :: ds.drop (i + 1) := List.drop_eq_getElem_cons hlt
    refine ⟨go, fun σ H => ∃ g3 st3, Le g1 H1 g3 H ∧ Wd (md X) b g3 σ H st3 ∧ FinS (md X) b W o D g3 H (forL t c (ds.drop (i + 1)) st3),
      fun σ' H' h => ⟨ds.length - (i + 1), by omega, rfl, hlt, h⟩, fun x H3 y => ?_⟩
    obtain ⟨g3, al, r⟩ := hy x H3 y
    have w3 := w2.al al
    rw [edrop] at q2
    unfold forL at q2
    refine ⟨g3, st2, _, w3, r, ?_⟩
    cases e : t ds[i] st2 with
    | none => rw [e] at q2; exact q2
    | some s4 =>
      rw [e] at q2
      intro g4 σ4 H4 l4 w4
      refine ⟨g4, s4, w4, ?_⟩
      have la := (l2.trans al.le).trans l4
      have q3 : FinS (md X) b W o D g4 H4 (turnF (c s4) fun s' => forL t c (ds.drop (i + 1)) s') := FinS.up (al.le.trans l4) q2
      cases ec : c s4 with
      | nx s5 => rw [ec] at q3; exact fun g5 σ5 H5 l5 w5 => ⟨g5, s5, la.trans l5, w5, FinS.up l5 q3⟩
      | ct s5 => rw [ec] at q3; exact fun g5 σ5 H5 l5 w5 => ⟨g5, s5, la.trans l5, w5, FinS.up l5 q3⟩
      | bk s5 => rw [ec] at q3; exact q3
      | rt d s5 => rw [ec] at q3; exact q3
      | xc x s5 => rw [ec] at q3; exact q3
      | bad => rw [ec] at q3; exact q3
  · left
    have e : i = ds.length := by omega
    subst e
    refine ⟨(io ds.length g2 H l2 w2.gr.tF).2 (Nat.le_refl _), ?_⟩
    rw [List.drop_length] at q2
    exact q2 g2 σ H Le.refl w2
theorem ds_while {tst : Expr} {body : List Stmt} {t : T} {c : C} {pos : Pos} (hp : PassesOwn (model X.prog X.w) X.A X.env X.xe) (hc : DT X b W tst t) (hb : DSs X b W o body c) : DS X b W o (.While tst body [] pos) (sWh t c) := by
  refine PS.imp (ps_while hp hc hb) fun D σ H ⟨g, st, w, k⟩ => ?_
  obtain ⟨n0, k⟩ : ∃ n, FinS (md X) b W o D g H (whN t c n st) := by
    unfold sWh at k
    split at k
    · exact ⟨_, k⟩
    · exact k.elim
  refine ⟨fun m σ H => ∃ g2 st2, Wd (md X) b g2 σ H st2 ∧ FinS (md X) b W o D g2 H (whN t c m st2), ⟨n0, g, st, w, k⟩, ?_⟩
  rintro m σ H ⟨g2, st2, w2, q2⟩
  cases m with
  | zero => exact q2.elim
  | succ m =>
    refine ⟨g2, st2, w2, (FinS.ou q2 σ).imp (fun d s z g3 H3 l3 w3 => ?_) fun _ _ q => q⟩
    cases d with
    | false =>
      rw [if_neg Bool.false_ne_true]
      exact z g3 σ H3 l3 w3
    | true =>
      rw [if_pos rfl]
      refine ⟨fun σ H => ∃ g4 st4, Wd (md X) b g4 σ H st4 ∧ FinS (md X) b W o D g4 H (whN t c m st4), fun σ' H' h => ⟨m, Nat.lt_succ_self _, h⟩, g3, s, w3, ?_⟩
      have q3 : FinS (md X) b W o D g3 H3 (turnF (c s) fun s' => whN t c m s') := FinS.up l3 z
      cases ec : c s with
      | nx s5 => rw [ec] at q3; exact fun g5 σ5 H5 l5 w5 => ⟨g5, s5, w5, FinS.up l5 q3⟩
      | ct s5 => rw [ec] at q3; exact fun g5 σ5 H5 l5 w5 => ⟨g5, s5, w5, FinS.up l5 q3⟩
      | bk s5 => rw [ec] at q3; exact q3
      | rt d s5 => rw [ec] at q3; exact q3
      | xc x s5 => rw [ec] at q3; exact q3
      | bad => rw [ec] at q3; exact q3
end
end DL
/-! DLe: defs, their promises, calls. -/
namespace DL
open PySem PySem.Spec PyProof.Rows L2
inductive Fo where
  | ok (d : D) (S : List D) | xc (e : Ex) (S : List D) | bad
mutual
/-- no shared object in it -/
def D.clean : D → Bool
  | .obj _ => false
  | .tup ds => cleanL ds
  | .lst ds => cleanL ds
  | .fro ds => cleanL ds
  | .dct _ kvs => cleanK kvs
  | .ins _ fs => cleanF fs
  | _ => true
def cleanL : List D → Bool
  | [] => true
  | d :: ds => d.clean && cleanL ds
def cleanK : List (D × D) → Bool
  | [] => true
  | (_, d) :: ds => d.clean && cleanK ds
def cleanF : List (Str × D) → Bool
  | [] => true
  | (_, d) :: ds => d.clean && cleanF ds
end
/-- the shared objects of a def's own are dropped at its end -/
def retO (n : Nat) (d : D) (S : List D) : Fo := if S.length = n then .ok d S else if d.clean && (S.take n).all D.clean then .ok d (S.take n) else .bad
def retX (n : Nat) (e : Ex) (S : List D) : Fo := if S.length = n then .xc e S else if cleanF e.fs && (S.take n).all D.clean then .xc e (S.take n) else .bad
/-- a def of N slots by its body; o: it hands back a new container that is nobody else's -/
def fnD (o : Bool) (N : Nat) (body : C) (ds S : List D) : Fo := match body ⟨ds.map .val ++ List.replicate (N - ds.length) .un, S⟩ with
  | .rt d st => retO S.length d st.S
  | .nx st => if o then .bad else retO S.length .non st.S
  | .xc e st => retX S.length e st.S
  | _ => .bad
def FoOk (okc : D → List D → Prop) (xcc : Ex → List D → Prop) : Fo → Prop
  | .ok d S => okc d S
  | .xc e S => xcc e S
  | .bad => False
theorem retO_ok {n : Nat} {d : D} {S : List D} {okc : D → List D → Prop} {xcc : Ex → List D → Prop} (h : FoOk okc xcc (retO n d S)) : (S.length = n ∧ okc d S) ∨ (d.clean = true ∧ (S.take n).all D.clean = true ∧ okc d (S.take n)) := by
  unfold retO at h
  by_cases h1 : S.length = n
  · rw [if_pos h1] at h
    exact .inl ⟨h1, h⟩
  · rw [if_neg h1] at h
    by_cases h2 : (d.clean && (S.take n).all D.clean) = true
    · rw [if_pos h2] at h
      exact .inr ⟨(Bool.and_eq_true_iff.mp h2).1, (Bool.and_eq_true_iff.mp h2).2, h⟩
    · rw [if_neg h2] at h
      exact h.elim
theorem retX_ok {n : Nat} {e : Ex} {S : List D} {okc : D → List D → Prop} {xcc : Ex → List D → Prop} (h : FoOk okc xcc (retX n e S)) : (S.length = n ∧ xcc e S) ∨ (cleanF e.fs = true ∧ (S.take n).all D.clean = true ∧ xcc e (S.take n)) := by
  unfold retX at h
  by_cases h1 : S.length = n
  · rw [if_pos h1] at h
    exact .inl ⟨h1, h⟩
  · rw [if_neg h1] at h
    by_cases h2 : (cleanF e.fs && (S.take n).all D.clean) = true
    · rw [if_pos h2] at h
      exact .inr ⟨(Bool.and_eq_true_iff.mp h2).1, (Bool.and_eq_true_iff.mp h2).2, h⟩
    · rw [if_neg h2] at h
      exact h.elim
abbrev Fn := List D → List D → Fo
/-- a promise: it does as f says -/
def spD (Γ : Md) (o : Bool) (n : Nat) (f : Fn) : Sp := fun vs H Q E => ∃ g ds S, vs.length = n ∧ Reps Γ g H ds vs ∧ ObsOk Γ g H S ∧ Gr g H g H ∧
  FoOk (fun d S' => ∀ g' v H', Gr g H g' H' → ObsOk Γ g' H' S' → Rr Γ ⟨H, g, []⟩ o g' H' d v → Q v H') (fun e S' => ∀ g' cls dx H', Gr g H g' H' → ObsOk Γ g' H' S' → RepX Γ g' H' e cls dx → E cls dx H') (f ds S)
section
variable {Γ : Md} {g g' : Gh} {H H' : Hp}
mutual
theorem Rep.clean (hF : ∀ a, g.F a ↔ g'.F a) : ∀ (d : D) (v : V), d.clean = true → Rep Γ g H d v → Rep Γ g' H d v
  | .non, _, _, h => h
  | .bl _, _, _, h => h
  | .int _, _, _, h => h
  | .str _, _, _, h => h
  | .tup ds, _, c, h => by
    obtain ⟨a, xs, e, q, r⟩ := h
    exact ⟨a, xs, e, q, Reps.clean hF ds xs c r⟩
  | .lst ds, _, c, h => by
    obtain ⟨a, xs, e, ⟨f, q⟩, r⟩ := h
    exact ⟨a, xs, e, ⟨(hF a).mp f, q⟩, Reps.clean hF ds xs c r⟩
  | .fro ds, _, c, h => by
    obtain ⟨a, xs, e, q, r⟩ := h
    exact ⟨a, xs, e, q, Reps.clean hF ds xs c r⟩
  | .dct .K kvs, _, c, h => by
    obtain ⟨a, ks, e, f, q, r⟩ := h
    exact ⟨a, ks, e, (hF a).mp f, q, RepK.clean hF kvs ks c r⟩
  | .dct .T kvs, _, c, h => by
    obtain ⟨a, ks, e, f, q, r⟩ := h
    exact ⟨a, ks, e, (hF a).mp f, q, RepT.clean hF kvs ks c r⟩
  | .dct .N _, _, _, h => h
  | .ins cn fs, _, c, h => by
    obtain ⟨a, C, dx, vs, e, f, q, m, r⟩ := h
    exact ⟨a, C, dx, vs, e, (hF a).mp f, q, m, RepF.clean hF fs vs c r⟩
  | .obj n, _, c, h => by cases c
  | .fn _, _, _, h => h
theorem Reps.clean (hF : ∀ a, g.F a ↔ g'.F a) : ∀ (ds : List D) (vs : List V), cleanL ds = true → Reps Γ g H ds vs → Reps Γ g' H ds vs
  | [], _, _, h => h
  | d :: ds, _, c, h => by
    obtain ⟨v, r, e, q, z⟩ := h
    obtain ⟨c1, c2⟩ := Bool.and_eq_true_iff.mp c
    exact ⟨v, r, e, Rep.clean hF d v c1 q, Reps.clean hF ds r c2 z⟩
theorem RepK.clean (hF : ∀ a, g.F a ↔ g'.F a) : ∀ (ds : List (D × D)) (ks : List (Key × V)), cleanK ds = true → RepK Γ g H ds ks → RepK Γ g' H ds ks
  | [], _, _, h => h
  | (a, d) :: ds, _, c, h => by
    obtain ⟨k, v, r, e, ea, eo, q, z⟩ := h
    obtain ⟨c1, c2⟩ := Bool.and_eq_true_iff.mp c
    exact ⟨k, v, r, e, ea, eo, Rep.clean hF d v c1 q, RepK.clean hF ds r c2 z⟩
theorem RepT.clean (hF : ∀ a, g.F a ↔ g'.F a) : ∀ (ds : List (D × D)) (ks : List (List Key × V)), cleanK ds = true → RepT Γ g H ds ks → RepT Γ g' H ds ks
  | [], _, _, h => h
  | (a, d) :: ds, _, c, h => by
    obtain ⟨k, v, r, e, ea, eo, q, z⟩ := h
    obtain ⟨c1, c2⟩ := Bool.and_eq_true_iff.mp c
    exact ⟨k, v, r, e, ea, eo, Rep.clean hF d v c1 q, RepT.clean hF ds r c2 z⟩
theorem RepF.clean (hF : ∀ a, g.F a ↔ g'.F a) : ∀ (ds : List (Str × D)) (ks : List (Str × V)), cleanF ds = true → RepF Γ g H ds ks → RepF Γ g' H ds ks
  | [], _, _, h => h
  | (a, d) :: ds, _, c, h => by
    obtain ⟨v, r, e, q, z⟩ := h
    obtain ⟨c1, c2⟩ := Bool.and_eq_true_iff.mp c
    exact ⟨v, r, e, Rep.clean hF d v c1 q, RepF.clean hF ds r c2 z⟩
end
theorem Cont.clean (hF : ∀ a, g.F a ↔ g'.F a) : ∀ {d : D} {a : Addr}, d.clean = true → Cont Γ g H d a → Cont Γ g' H d a
  | .non, _, _, h => h.elim
  | .bl _, _, _, h => h.elim
  | .int _, _, _, h => h.elim
  | .str _, _, _, h => h.elim
  | .tup _, _, _, h => h.elim
  | .fro _, _, _, h => h.elim
  | .lst ds, _, c, h => by
    obtain ⟨xs, q, r⟩ := h
    exact ⟨xs, q, Reps.clean hF _ _ c r⟩
  | .dct .K _, _, c, h => by
    obtain ⟨ks, q, r⟩ := h
    exact ⟨ks, q, RepK.clean hF _ _ c r⟩
  | .dct .T _, _, c, h => by
    obtain ⟨ks, q, r⟩ := h
    exact ⟨ks, q, RepT.clean hF _ _ c r⟩
  | .dct .N _, _, _, h => h.elim
  | .ins _ _, _, c, h => by
    obtain ⟨C, dx, vs, q, m, r⟩ := h
    exact ⟨C, dx, vs, q, m, RepF.clean hF _ _ c r⟩
  | .obj _, _, _, h => h.elim
  | .fn _, _, _, h => h.elim
/-- without the later shared objects -/
theorem trim {S S' : List D} {n : Nat} (gr : Gr g H g' H') (ob0 : ObsOk Γ g H S) (ob : ObsOk Γ g' H' S') (hn : n = S.length) (hc : (S'.take n).all D.clean = true) (hl : n ≤ S'.length) :
    Gr g H ⟨g'.F, g'.as.take n⟩ H' ∧ ObsOk Γ ⟨g'.F, g'.as.take n⟩ H' (S'.take n) := by
  have ln : n = g.as.length := by rw [hn, ob0.len]
  refine ⟨⟨gr.F, gr.fresh, gr.keep, fun m a h => ?_, fun a h => gr.new a (List.mem_of_mem_take h), gr.tF, fun a h => gr.tas a (List.mem_of_mem_take h), gr.nd.sublist (List.take_sublist _ _), fun a h => gr.sep a (List.mem_of_mem_take h)⟩,
    ⟨by simp [List.length_take, ob.len], fun m d a h1 h2 => ?_⟩⟩
  · have hm : m < n := by rw [ln]; exact (List.getElem?_eq_some_iff.mp h).1
    show (g'.as.take n)[m]? = some a
    rw [List.getElem?_take_of_lt hm]
    exact gr.as m a h
  · have hm : m < n := by
      have := (List.getElem?_eq_some_iff.mp h1).1
      simp at this
      omega
    have cd : d.clean = true := List.all_eq_true.mp hc d (List.mem_of_getElem? h1)
    rw [List.getElem?_take_of_lt hm] at h1
    have h2' : (g'.as.take n)[m]? = some a := h2
    rw [List.getElem?_take_of_lt hm] at h2'
    exact Cont.clean (g := g') (g' := ⟨g'.F, g'.as.take n⟩) (fun _ => Iff.rfl) cd (ob.at_ m d a h1 h2')
end
theorem reps_map {Γ : Md} {g : Gh} {H : Hp} : ∀ {ds : List D} {vs : List V} {i : Nat} {s : Sl}, Reps Γ g H ds vs → (ds.map Sl.val)[i]? = some s → ∃ d v, s = .val d ∧ vs[i]? = some v ∧ Rep Γ g H d v := fun {ds vs i s} h e => by
  rw [List.getElem?_map] at e
  cases q : ds[i]? with
  | none => rw [q] at e; cases e
  | some d =>
    rw [q] at e
    cases e
    obtain ⟨v, h1, h2⟩ := h.get q
    exact ⟨d, v, rfl, h1, h2⟩
/-- the state at a def's entry -/
theorem wd_start {Γ : Md} {g : Gh} {H : Hp} {ds S : List D} {vs : List V} {N : List Str} (r : Reps Γ g H ds vs) (ob : ObsOk Γ g H S) (gr : Gr g H g H) (hl : vs.length ≤ N.length) :
    Wd Γ ⟨H, g, []⟩ g (L2.start N vs) H ⟨ds.map .val ++ List.replicate (N.length - ds.length) .un, S⟩ := by
  have el := r.length
  refine ⟨?_, fun i s e => ?_, fun i j d e a h1 _ _ _ => ?_, ob, gr, fun p hp => absurd hp (by simp)⟩
  · simp [L2.start, el]
  · have e : (ds.map Sl.val ++ List.replicate (N.length - ds.length) Sl.un)[i]? = some s := e
    by_cases hi : i < ds.length
    · rw [List.getElem?_append_left (by simpa using hi)] at e
      obtain ⟨d, v, rfl, h1, h2⟩ := reps_map r e
      refine ⟨some v, ?_, v, rfl, h2⟩
      unfold L2.start
      rw [List.getElem?_append_left (by simpa [el] using hi), List.getElem?_map, h1]
      rfl
    · rw [List.getElem?_append_right (by simpa using Nat.le_of_not_lt hi), List.getElem?_replicate] at e
      split at e
      · rename_i h
        cases e
        refine ⟨none, ?_, trivial⟩
        unfold L2.start
        rw [List.getElem?_append_right (by simpa [el] using Nat.le_of_not_lt hi), List.getElem?_replicate]
        rw [if_pos (by simp [el] at h ⊢; omega)]
      · cases e
  · have h1 : (ds.map Sl.val ++ List.replicate (N.length - ds.length) Sl.un)[i]? = some (.own d) := h1
    by_cases hi : i < ds.length
    · rw [List.getElem?_append_left (by simpa using hi)] at h1
      obtain ⟨d', v, q, _⟩ := reps_map r h1
      cases q
    · rw [List.getElem?_append_right (by simpa using Nat.le_of_not_lt hi), List.getElem?_replicate] at h1
      split at h1 <;> cases h1
/-- the wish of a def's body about exceptions -/
abbrev WF (E : XK) : WX := fun cls d _ H => E cls d H
/-- THE RULE of a def -/
theorem ok_fn {P : Program} {w : World} {K : PySem.W.Frag} {mg : Str → Option Value} {base : Heap} {x qual : Str} {params : Arguments} {body : List Stmt} {scope : Scope} {dvs : List V} {kws : List (Str × V)} {f : Addr} {fd : FuncData} {N ps : List Str} {k n : Nat} {o : Bool} {c : C} {F : Fn}
    (Fd : FunD K x qual params body scope dvs kws f fd) (S : FnScope N ps scope) (hn : ps.length = n) (hF : F = fnD o N.length c)
    (h : ∀ (X : Cx) (b : Base) (E : XK), X.prog = P → X.w = w → X.K = K → X.mg = mg → X.base = base → X.N = N → X.env.scope = scope → X.calm = true → (X.fn = fun _ => true) → X.stack = X.env :: X.outer → X.env.frame = some X.env.locals → X.ex = [] →
      Room k X.A → Takes X (WF E) → PassesOwn (model X.prog X.w) X.A X.env X.xe → (∃ cdv A outer s H0, X = cxOf (L2.CX P w) P w K mg base N qual scope f cdv A outer s H0 E) → DSs X b (WF E) o body c) :
    FnOk P w K mg base (L2.CX P w) (k + 1) f fd ps (spD ⟨K, mg⟩ o n F) := by
  subst hF
  refine Fd.ok S (fun vs H Q E hs => ?_) fun cdv A outer s H vs Q E hr hs => ?_
  · obtain ⟨g, ds, S', e, _⟩ := hs
    rw [e, hn]
  · obtain ⟨g, ds, S0, e, r, ob, gr, q⟩ := hs
    refine ⟨_, h (cxOf (L2.CX P w) P w K mg base N qual scope f cdv A outer s H E) ⟨H, g, []⟩ E rfl rfl rfl rfl rfl rfl rfl rfl rfl rfl rfl rfl hr (takes_of rfl rfl rfl rfl) (passes_of rfl) ⟨_, _, _, _, _, rfl⟩, ?_⟩
    have hpl : vs.length ≤ N.length := by
      rw [e, ← hn]
      have := congrArg List.length S.pre
      rw [List.length_take] at this
      omega
    refine ⟨g, _, wd_start r ob gr hpl, ?_⟩
    unfold fnD at q
    have hle : ∀ {g' : Gh} {σ' : Slots} {H' : Hp} {st : Sts}, Wd ⟨K, mg⟩ ⟨H, g, []⟩ g' σ' H' st → S0.length ≤ st.S.length := fun {g' σ' H' st} w => by
      rw [← ob.len, ← w.obs.len]
      cases hlen : g.as.length with
      | zero => exact Nat.zero_le _
      | succ m =>
        have z := w.gr.as m g.as[m] (List.getElem?_eq_getElem (show m < g.as.length by omega))
        have := (List.getElem?_eq_some_iff.mp z).1
        omega
    have rt : ∀ {d : D} {st : Sts} {g' : Gh} {v : V} {σ' : Slots} {H' : Hp}, FoOk (fun d S' => ∀ g' v H', Gr g H g' H' → ObsOk ⟨K, mg⟩ g' H' S' → Rr ⟨K, mg⟩ ⟨H, g, []⟩ o g' H' d v → Q v H')
        (fun e S' => ∀ g' cls dx H', Gr g H g' H' → ObsOk ⟨K, mg⟩ g' H' S' → RepX ⟨K, mg⟩ g' H' e cls dx → E cls dx H') (retO S0.length d st.S) → Wd ⟨K, mg⟩ ⟨H, g, []⟩ g' σ' H' st → Rr ⟨K, mg⟩ ⟨H, g, []⟩ o g' H' d v → Q v H' := fun {d st g' v σ' H'} q w r => by
      rcases retO_ok q with ⟨_, q⟩ | ⟨c1, c2, q⟩
      · exact q g' v H' w.gr w.obs r
      · obtain ⟨t1, t2⟩ := trim w.gr ob w.obs rfl c2 (hle w)
        refine q _ v H' t1 t2 ?_
        cases o with
        | false => exact Rep.clean (g := g') (g' := ⟨g'.F, g'.as.take S0.length⟩) (fun _ => Iff.rfl) _ _ c1 r
        | true =>
          obtain ⟨a, e, c, nf, na, n0⟩ := r
          exact ⟨a, e, Cont.clean (g := g') (g' := ⟨g'.F, g'.as.take S0.length⟩) (fun _ => Iff.rfl) c1 c, nf, fun m => na (List.mem_of_mem_take m), n0⟩
    cases ec : c ⟨ds.map .val ++ List.replicate (N.length - ds.length) .un, S0⟩ with
    | nx st =>
      rw [ec] at q
      intro g' σ' H' l w
      cases o with
      | false => exact rt (d := .non) q w rfl
      | true => exact q.elim
    | rt d st =>
      rw [ec] at q
      exact fun g' v σ' H' l w r => rt q w r
    | xc x st =>
      rw [ec] at q
      intro σ' g' cls dx H' l w r
      rcases retX_ok q with ⟨_, q⟩ | ⟨c1, c2, q⟩
      · exact q g' cls dx H' w.gr w.obs r
      · obtain ⟨t1, t2⟩ := trim w.gr ob w.obs rfl c2 (hle w)
        refine q _ cls dx H' t1 t2 ?_
        obtain ⟨C, e1, e2, z⟩ := r
        refine ⟨C, e1, e2, z.imp id fun ⟨p, vs, h1, h2, h3⟩ => ⟨p, vs, h1, h2, RepF.clean (g := g') (g' := ⟨g'.F, g'.as.take S0.length⟩) (fun _ => Iff.rfl) _ _ c1 h3⟩⟩
    | bk st => rw [ec] at q; exact q.elim
    | ct st => rw [ec] at q; exact q.elim
    | bad => rw [ec] at q; exact q.elim
/-! ### calls -/
def foE (r : Fo) (ρ : List Sl) : Ou D := match r with
  | .ok d S => .ok d ⟨ρ, S⟩
  | .xc e S => .xc e ⟨ρ, S⟩
  | .bad => .bad
def eCall (f : Fn) (ms : List E) : E := fun st => (eArgs ms st).bind fun ds s => foE (f ds s.S) s.ρ
section
variable {X : Cx} {b : Base} {W : WX}
/-- behind a call -/
theorem Wd.after {Γ : Md} {g g' : Gh} {σ : Slots} {H H' : Hp} {st : Sts} {S' : List D} (w : Wd Γ b g σ H st) (gr : Gr g H g' H') (ob : ObsOk Γ g' H' S') : Wd Γ b g' σ H' ⟨st.ρ, S'⟩ where
  len := w.len
  slot := fun i s e => by
    have l := w.le gr
    obtain ⟨o, h1, h2⟩ := w.slot i s e
    refine ⟨o, h1, ?_⟩
    cases s with
    | un => trivial
    | val d =>
      obtain ⟨v, e1, r⟩ := h2
      exact ⟨v, e1, r.mono l _ _⟩
    | own d =>
      obtain ⟨a, e1, c, nf, na, n0⟩ := h2
      refine ⟨a, e1, c.mono l (fun o e => gr.keep _ _ e na), fun f => ?_, fun m => ?_, n0⟩
      · rcases gr.fresh a f with h | h
        · exact nf h
        · obtain ⟨o, e, _⟩ := c.there
          rw [e] at h; cases h
      · rcases gr.new a m with h | h
        · exact na h
        · obtain ⟨o, e, _⟩ := c.there
          rw [e] at h; cases h
  dist := w.dist
  obs := ob
  gr := w.gr.trans gr
  prot := fun p hp => by
    obtain ⟨h1, h2, h3, h4⟩ := w.prot p hp
    refine ⟨gr.keep _ _ h1 h3, fun f => ?_, fun m => ?_, h4⟩
    · rcases gr.fresh _ f with f | f
      · exact h2 f
      · rw [h1] at f; cases f
    · rcases gr.new _ m with m | m
      · exact h3 m
      · rw [h1] at m; cases m
theorem Wd.gr0 {Γ : Md} {g : Gh} {σ : Slots} {H : Hp} {st : Sts} (w : Wd Γ b g σ H st) : Gr g H g H := Gr.refl w.gr.tF w.gr.tas w.gr.nd w.gr.sep
/-- a call by its promise, in the state -/
theorem call_at {Γ : Md} {n : Nat} {F : Fn} {g : Gh} {σ : Slots} {H : Hp} {st : Sts} {ds : List D} {vs : List V} {Q : VK} {g0 : Gh} {H0 : Hp} (l0 : Le g0 H0 g H) (w : Wd Γ b g σ H st) (r : Reps Γ g H ds vs) (hn : ds.length = n)
    (k : Fin (fun d st' => ∀ g' v H', Le g0 H0 g' H' → Wd Γ b g' σ H' st' → Rep Γ g' H' d v → Q v H') (XC Γ b W g0 H0 σ) (foE (F ds st.S) st.ρ)) : spD Γ false n F vs H Q (WE W σ) := by
  refine ⟨g, ds, st.S, by rw [r.length, hn], r, w.obs, w.gr0, ?_⟩
  cases e : F ds st.S with
  | ok d S' =>
    rw [e] at k
    exact fun g' v H' gr ob rr => k g' v H' (l0.trans (w.le gr)) (w.after gr ob) rr
  | xc x S' =>
    rw [e] at k
    exact fun g' cls dx H' gr ob rr => k g' cls dx H' (l0.trans (w.le gr)) (w.after gr ob) rr
  | bad => rw [e] at k; exact k
theorem call_atO {Γ : Md} {n : Nat} {F : Fn} {g : Gh} {σ : Slots} {H : Hp} {st : Sts} {ds : List D} {vs : List V} {Q : VK} {g0 : Gh} {H0 : Hp} (l0 : Le g0 H0 g H) (w : Wd Γ b g σ H st) (r : Reps Γ g H ds vs) (hn : ds.length = n)
    (k : Fin (fun d st' => ∀ g' a H', Le g0 H0 g' H' → Wd Γ b g' σ H' st' → Cont Γ g' H' d a → ¬ g'.F a → a ∉ g'.as → b.H0 a = none → (∀ (j : Nat) e, st'.ρ[j]? = some (.own e) → σ[j]? ≠ some (some (.ref a))) → (∀ p ∈ b.P, p.1 ≠ a) → Q (.ref a) H') (XC Γ b W g0 H0 σ) (foE (F ds st.S) st.ρ)) :
    spD Γ true n F vs H Q (WE W σ) := by
  refine ⟨g, ds, st.S, by rw [r.length, hn], r, w.obs, w.gr0, ?_⟩
  cases e : F ds st.S with
  | ok d S' =>
    rw [e] at k
    intro g' v H' gr ob rr
    obtain ⟨a, rfl, c, nf, na, n0⟩ := rr
    refine k g' a H' (l0.trans (w.le gr)) (w.after gr ob) c nf na (w.not0 n0) (w.notOwn n0) (w.notProt n0)
  | xc x S' =>
    rw [e] at k
    exact fun g' cls dx H' gr ob rr => k g' cls dx H' (l0.trans (w.le gr)) (w.after gr ob) rr
  | bad => rw [e] at k; exact k
theorem de_call {x : Str} {k n : Nat} {f : Addr} {fd : FuncData} {ps : List Str} {F : Fn} {p pos : Pos} {e : Expr} {es : List Expr} {ms : List E} (Fk : FnOk X.prog X.w X.K X.mg X.base (L2.CX X.prog X.w) k f fd ps (spD (md X) false n F)) (hr : Room k X.A) (hg : Gl X x) (hm : X.mg x = some (.ref f))
    (hk : PySem.W.keepIn X.K (.ref f) = true) (hb : Binds X.K fd ps []) (tk : Takes X W) (ha : DArgs X b W (e :: es) (eArgs ms)) (hn : ms.length = n := by rfl) (hdb : (x == ("__debug__" : Str)) = false := by decide +kernel)
    (he : starEach (e :: es) X.env = (false, eval e X.env) :: starEach es X.env := by rfl) (hpl : (backTo pos (starEach es X.env)).any (·.1) = false := by rfl) : DE X b W (.Call (.Name x p) (e :: es) [] pos) (eCall F ms) := by
  refine PE.imp (pe_callS Fk hr hg hm hk hb (fun σ => passAt tk σ) ha hdb he hpl) fun σ H Q ⟨g, st, w, q⟩ => ⟨g, st, w, ?_⟩
  cases ea : eArgs ms st with
  | bad => rw [show eCall F ms st = .bad by simp [eCall, ea, Ou.bind]] at q; exact q
  | xc y s => rw [show eCall F ms st = .xc y s by simp [eCall, ea, Ou.bind]] at q; exact q
  | ok ds s =>
    rw [show eCall F ms st = foE (F ds s.S) s.ρ by simp [eCall, ea, Ou.bind]] at q
    exact fun g1 vs H1 l1 w1 r1 => call_at l1 w1 r1 ((eArgs_len ea).trans hn) q
theorem do_call {x : Str} {k n : Nat} {f : Addr} {fd : FuncData} {ps : List Str} {F : Fn} {p pos : Pos} {e : Expr} {es : List Expr} {ms : List E} (Fk : FnOk X.prog X.w X.K X.mg X.base (L2.CX X.prog X.w) k f fd ps (spD (md X) true n F)) (hr : Room k X.A) (hg : Gl X x) (hm : X.mg x = some (.ref f))
    (hk : PySem.W.keepIn X.K (.ref f) = true) (hb : Binds X.K fd ps []) (tk : Takes X W) (ha : DArgs X b W (e :: es) (eArgs ms)) (hn : ms.length = n := by rfl) (hdb : (x == ("__debug__" : Str)) = false := by decide +kernel)
    (he : starEach (e :: es) X.env = (false, eval e X.env) :: starEach es X.env := by rfl) (hpl : (backTo pos (starEach es X.env)).any (·.1) = false := by rfl) : DO X b W (.Call (.Name x p) (e :: es) [] pos) (eCall F ms) := by
  refine PE.imp (pe_callS Fk hr hg hm hk hb (fun σ => passAt tk σ) ha hdb he hpl) fun σ H Q ⟨g, st, w, q⟩ => ⟨g, st, w, ?_⟩
  cases ea : eArgs ms st with
  | bad => rw [show eCall F ms st = .bad by simp [eCall, ea, Ou.bind]] at q; exact q
  | xc y s => rw [show eCall F ms st = .xc y s by simp [eCall, ea, Ou.bind]] at q; exact q
  | ok ds s =>
    rw [show eCall F ms st = foE (F ds s.S) s.ρ by simp [eCall, ea, Ou.bind]] at q
    exact fun g1 vs H1 l1 w1 r1 => call_atO l1 w1 r1 ((eArgs_len ea).trans hn) q
end
end DL
/-! DLf: what is walked, list comprehensions. -/
namespace DL
open PySem PySem.Spec PyProof.Rows L2
def Base.add (b : Base) (p : Addr × HO) : Base := ⟨b.H0, b.g0, p :: b.P⟩
section
variable {Γ : Md} {b : Base} {g g' : Gh} {σ : Slots} {H H' : Hp} {st : Sts}
theorem Wd.addP (w : Wd Γ b g σ H st) {p : Addr} {o : HO} (h1 : H p = some o) (h2 : ¬ g.F p) (h3 : p ∉ g.as) (h4 : ∀ (i : Nat) d, st.ρ[i]? = some (.own d) → σ[i]? ≠ some (some (.ref p))) : Wd Γ (b.add (p, o)) g σ H st :=
  ⟨w.len, w.slot, w.dist, w.obs, w.gr, fun q hq => by
    rcases List.mem_cons.mp hq with rfl | hq
    · exact ⟨h1, h2, h3, h4⟩
    · exact w.prot q hq⟩
theorem Wd.dropP {q : Addr × HO} (w : Wd Γ (b.add q) g σ H st) : Wd Γ b g σ H st := ⟨w.len, w.slot, w.dist, w.obs, w.gr, fun p hp => w.prot p (List.mem_cons_of_mem _ hp)⟩
theorem Wd.atP {p : Addr} {o : HO} (w : Wd Γ (b.add (p, o)) g σ H st) : H p = some o ∧ ¬ g.F p ∧ p ∉ g.as ∧ ∀ (i : Nat) d, st.ρ[i]? = some (.own d) → σ[i]? ≠ some (some (.ref p)) := w.prot (p, o) List.mem_cons_self
/-- an unfrozen object that is nobody's is written -/
theorem Le.write {p : Addr} {o : HO} (hp : ∀ u, H p = some u → ¬ imm u) (nf : ¬ g.F p) : Le g H g (upd H p o) := ⟨fun _ h => h, fun _ _ h => h, fun a u e k => by
  by_cases h : a = p
  · subst h
    rcases k with k | k
    · exact absurd k nf
    · exact absurd k (hp u e)
  · rw [upd_ne h]; exact e⟩
theorem Wd.writeP {p : Addr} {o o' : HO} (w : Wd Γ (b.add (p, o)) g σ H st) (hi : ¬ imm o) (n0 : b.H0 p = none) (npp : ∀ q ∈ b.P, q.1 ≠ p) : Wd Γ (b.add (p, o')) g σ (upd H p o') st := by
  obtain ⟨h1, h2, h3, h4⟩ := w.atP
  have l : Le g H g (upd H p o') := Le.write (fun u e => by rw [h1] at e; cases e; exact hi) h2
  refine ⟨w.len, fun i s e => ?_, w.dist, ⟨w.obs.len, fun n d a e1 e2 => ?_⟩, ⟨w.gr.F, w.gr.fresh, fun a u e m => ?_, w.gr.as, w.gr.new, fun a f => ?_, fun a m => ?_, w.gr.nd, w.gr.sep⟩, fun q hq => ?_⟩
  · obtain ⟨z, e1, e2⟩ := w.slot i s e
    refine ⟨z, e1, ?_⟩
    cases s with
    | un => trivial
    | val d =>
      obtain ⟨v, e3, r⟩ := e2
      exact ⟨v, e3, r.mono l _ _⟩
    | own d =>
      obtain ⟨a, e3, c, nf, na, n0'⟩ := e2
      have ne : a ≠ p := fun z => by
        subst z
        subst e3
        exact h4 i d e e1
      exact ⟨a, e3, c.mono l (fun u e => by rw [upd_ne ne]; exact e), nf, na, n0'⟩
  · have ne : a ≠ p := fun z => by
      subst z
      exact h3 (List.mem_of_getElem? e2)
    exact (w.obs.at_ n d a e1 e2).mono l fun u e => by rw [upd_ne ne]; exact e
  · have ne : a ≠ p := fun z => by
      subst z
      rw [show b.H0 a = some u from e] at n0
      cases n0
    rw [upd_ne ne]
    exact w.gr.keep a u e m
  · by_cases ne : a = p
    · subst ne; exact ⟨o', upd_same⟩
    · rw [upd_ne ne]; exact w.gr.tF a f
  · have ne : a ≠ p := fun z => by
      subst z
      exact h3 m
    rw [upd_ne ne]
    exact w.gr.tas a m
  · rcases List.mem_cons.mp hq with rfl | hq
    · exact ⟨upd_same, h2, h3, h4⟩
    · obtain ⟨q1, q2, q3, q4⟩ := w.prot q (List.mem_cons_of_mem _ hq)
      refine ⟨?_, q2, q3, q4⟩
      rw [upd_ne (npp q hq)]
      exact q1
theorem wipe_at (σ : Slots) : ∀ (vs : List Nat) (j : Nat), j ∉ vs → (L2.wipe σ vs)[j]? = σ[j]?
  | [], j, _ => rfl
  | v :: vs, j, h => by
    show ((L2.wipe σ vs).set v none)[j]? = σ[j]?
    rw [List.getElem?_set_ne (fun e => h (by rw [e]; exact List.mem_cons_self))]
    exact wipe_at σ vs j fun z => h (List.mem_cons_of_mem _ z)
theorem wipeS_un : ∀ (is : List Nat) (ρ : List Sl) (j : Nat) (s : Sl), j ∈ is → (is.foldl (fun ρ i => ρ.set i Sl.un) ρ)[j]? = some s → s = .un
  | i :: is, ρ, j, s, hj, e => by
    by_cases h : j ∈ is
    · exact wipeS_un is _ j s h e
    · have hj' : j = i := by
        rcases List.mem_cons.mp hj with z | z
        · exact z
        · exact absurd z h
      subst hj'
      rcases (wipe_fold is (ρ.set j .un)).2 j s e with ⟨z, _⟩ | z
      · exact z
      · rw [List.getElem?_set_self'] at z
        cases q : ρ[j]? with
        | none => rw [q] at z; cases z
        | some y => rw [q] at z; cases z; rfl
theorem Wd.wiped (w : Wd Γ b g σ H st) (is : List Nat) : Wd Γ b g (L2.wipe σ is) H (wipeS is st) := by
  obtain ⟨h1, h2⟩ := wipe_fold is st.ρ
  refine (w.wipe is).forget (σ' := L2.wipe σ is) (by rw [L2.wipe_length, w.len]; exact h1.symm) fun j s e => ?_
  by_cases hj : j ∈ is
  · refine .inl ⟨wipeS_un is st.ρ j s hj e, ?_⟩
    rw [L2.wipe_length, w.len]
    have := (List.getElem?_eq_some_iff.mp e).1
    rw [← h1]
    exact this
  · exact .inr ⟨e, wipe_at σ is j hj⟩
theorem Wd.unwiped {σ0 : Slots} {is : List Nat} (w : Wd Γ b g (L2.wipe σ0 is) H st) (hu : ∀ j ∈ is, ∀ s, st.ρ[j]? = some s → s = .un) : Wd Γ b g σ0 H st := by
  refine w.forget (st := st) (σ' := σ0) (ρ' := st.ρ) (by rw [← w.len, L2.wipe_length]) fun j s e => ?_
  by_cases hj : j ∈ is
  · refine .inl ⟨hu j hj s e, ?_⟩
    have := (List.getElem?_eq_some_iff.mp e).1
    rw [← w.len, L2.wipe_length] at this
    exact this
  · exact .inr ⟨e, (wipe_at σ0 is j hj).symm⟩
end
/-! ### targets of a comprehension: its own names alone -/
def TDgc (Γ : Md) (b : Base) (vs : List Nat) (t : Tg) : TG := fun v σ H Q => ∃ g st d, Wd Γ b g σ H st ∧ Rep Γ g H d v ∧ FinO (fun st' => ∀ g' σ' H', Le g H g' H' → Wd Γ b g' σ' H' st' → L2.wipe σ' vs = L2.wipe σ vs → Q σ' H') (t d st)
def TDgcs (Γ : Md) (b : Base) (vs : List Nat) (ts : List Tg) : TGs := fun us σ H Q => ∃ g st ds, Wd Γ b g σ H st ∧ Reps Γ g H ds us ∧ FinO (fun st' => ∀ g' σ' H', Le g H g' H' → Wd Γ b g' σ' H' st' → L2.wipe σ' vs = L2.wipe σ vs → Q σ' H') (tgTs ts ds st)
theorem wipe_set {σ : Slots} {i : Nat} {o : Option V} : ∀ {vs : List Nat}, i ∈ vs → L2.wipe (σ.set i o) vs = L2.wipe σ vs
  | v :: vs, h => by
    show (L2.wipe (σ.set i o) vs).set v none = (L2.wipe σ vs).set v none
    by_cases hi : i ∈ vs
    · rw [wipe_set hi]
    · have e : i = v := by
        rcases List.mem_cons.mp h with z | z
        · exact z
        · exact absurd z hi
      subst e
      apply List.ext_getElem?
      intro j
      by_cases hj : i = j
      · subst hj
        rw [List.getElem?_set_self', List.getElem?_set_self']
        have h1 : (L2.wipe (σ.set i o) vs).length = (L2.wipe σ vs).length := by rw [L2.wipe_length, L2.wipe_length, List.length_set]
        cases q1 : (L2.wipe (σ.set i o) vs)[i]? with
        | none =>
          have := List.getElem?_eq_none_iff.mp q1
          rw [List.getElem?_eq_none_iff.mpr (by rw [← h1]; exact this)]
        | some x =>
          have := (List.getElem?_eq_some_iff.mp q1).1
          rw [List.getElem?_eq_getElem (by rw [← h1]; exact this)]
          rfl
      · rw [List.getElem?_set_ne hj, List.getElem?_set_ne hj]
        by_cases hv : j ∈ vs
        · have u : ∀ τ : Slots, j < τ.length → (L2.wipe τ vs)[j]? = some none := fun τ hl => by
            have hl' : j < (L2.wipe τ vs).length := by rw [L2.wipe_length]; exact hl
            rw [List.getElem?_eq_getElem hl']
            congr 1
            cases q : (L2.wipe τ vs)[j] with
            | none => rfl
            | some x => exact absurd hv (L2.wipe_some (σ := τ) (vs := vs) (x := x) (by rw [List.getElem?_eq_getElem hl', q])).2
          by_cases hl : j < σ.length
          · rw [u σ hl, u _ (by rw [List.length_set]; exact hl)]
          · rw [List.getElem?_eq_none_iff.mpr (by rw [L2.wipe_length, List.length_set]; omega), List.getElem?_eq_none_iff.mpr (by rw [L2.wipe_length]; omega)]
        · rw [wipe_at _ vs j hv, wipe_at _ vs j hv, List.getElem?_set_ne hj]
theorem wipe_wipe {σ : Slots} {vs : List Nat} : L2.wipe (L2.wipe σ vs) vs = L2.wipe σ vs := by
  apply List.ext_getElem?
  intro j
  by_cases hj : j ∈ vs
  · have u : ∀ τ : Slots, j < τ.length → (L2.wipe τ vs)[j]? = some none := fun τ hl => by
      have hl' : j < (L2.wipe τ vs).length := by rw [L2.wipe_length]; exact hl
      rw [List.getElem?_eq_getElem hl']
      congr 1
      cases q : (L2.wipe τ vs)[j] with
      | none => rfl
      | some x => exact absurd hj (L2.wipe_some (σ := τ) (vs := vs) (x := x) (by rw [List.getElem?_eq_getElem hl', q])).2
    by_cases hl : j < σ.length
    · rw [u σ hl, u _ (by rw [L2.wipe_length]; exact hl)]
    · rw [List.getElem?_eq_none_iff.mpr (by rw [L2.wipe_length, L2.wipe_length]; omega), List.getElem?_eq_none_iff.mpr (by rw [L2.wipe_length]; omega)]
  · rw [wipe_at _ vs j hj]
section
variable {X : Cx} {b : Base} {W : WX} {o : Bool} {vs : List Nat}
abbrev DGc (X : Cx) (b : Base) (vs : List Nat) (e : Expr) (t : Tg) : Prop := PG X e (TDgc (md X) b vs t)
theorem dgc_name {i : Nat} {x : Str} {pos : Pos} (h : PG X (.Name x pos) (gName i)) (hi : i ∈ vs) : DGc X b vs (.Name x pos) (tgN i) :=
  PG.imp h fun v σ H Q ⟨g, st, d, w, r, k⟩ => k g _ H Le.refl (w.set r) (wipe_set hi)
theorem dgcs_nil : PGs X [] (TDgcs (md X) b vs []) := PGs.imp pgs_nil fun us σ H Q ⟨g, st, ds, w, r, k⟩ => by
  cases ds with
  | nil => exact ⟨r, k g σ H Le.refl w rfl⟩
  | cons d ds => exact k.elim
theorem dgcs_cons {e : Expr} {es : List Expr} {t : Tg} {ts : List Tg} (h1 : DGc X b vs e t) (h2 : PGs X es (TDgcs (md X) b vs ts)) (hs : (assignEach (e :: es) X.env).map (·.2) = assign e X.env :: (assignEach es X.env).map (·.2) := by rfl) :
    PGs X (e :: es) (TDgcs (md X) b vs (t :: ts)) := PGs.imp (pgs_cons h1 h2 hs) fun us σ H Q ⟨g, st, ds, w, r, k⟩ => by
  cases ds with
  | nil => exact k.elim
  | cons d ds =>
    obtain ⟨v, vr, rfl, r1, r2⟩ := r
    refine ⟨v, vr, rfl, g, st, d, w, r1, (FinO.bind k).imp fun s1 k1 g1 σ1 H1 l1 w1 e1 => ?_⟩
    exact ⟨g1, s1, ds, w1, Reps.mono l1 _ _ r2, FinO.imp k1 fun _ q g' σ' H' l w' e' => q g' σ' H' (l1.trans l) w' (e'.trans e1)⟩
theorem dgc_tup {es : List Expr} {ts : List Tg} {k : Nat} {pos : Pos} (hc : X.calm = true) (h : PGs X es (TDgcs (md X) b vs ts)) (hn : (assignEach es X.env).length = ts.length := by rfl) (hst : (assignEach es X.env).findIdx? (·.1) = none := by rfl) :
    DGc X b vs (.Tuple es k pos) (tgT ts) := PG.imp (pg_tup hc h hn hst) fun v σ H Q ⟨g, st, d, w, r, k⟩ => by
  cases d with
  | tup ds =>
    obtain ⟨a, xs, rfl, q, rs⟩ := r
    have hl := tgTs_len (show FinO _ (tgTs ts ds st) from k)
    exact ⟨a, xs, rfl, SqT.of q, by rw [rs.length, hl], g, st, ds, w, rs, k⟩
  | _ => exact k.elim
end
/-! ### list comprehensions -/
def tYs : T := fun st => .ok true st
abbrev W0 : WX := fun _ _ _ _ => False
abbrev DTs (X : Cx) (b : Base) (W : WX) (es : List Expr) (m : T) : Prop := PTs X es (TDt (md X) b W m)
theorem PTs.imp {X : Cx} {es : List Expr} {t u : TT} (h : PTs X es t) (k : ∀ σ H Q, u σ H Q → t σ H Q) : PTs X es u := ⟨fun pins s σ H Q I q => h.run pins s σ H Q I (k σ H Q q)⟩
theorem dts_nil {X : Cx} {b : Base} {W : WX} : DTs X b W [] tYs := PTs.imp pts_nil fun σ H Q ⟨g, st, w, k⟩ => k g H Le.refl w
theorem dts_one {X : Cx} {b : Base} {W : WX} {e : Expr} {m : T} (h : DT X b W e m) : DTs X b W [e] m := pts_one h
def compL (tg : Tg) (tt : T) (m : E) (vs : List Nat) : List D → List D → Sts → Ou (List D)
  | [], acc, st => .ok acc st
  | d :: ds, acc, st => match tg d st with
    | none => .bad
    | some s1 => match tt s1 with
      | .ok false s2 => compL tg tt m vs ds acc (wipeS vs s2)
      | .ok true s2 => (match m s2 with
        | .ok y s3 => if acc.length < sizeLine then compL tg tt m vs ds (acc ++ [y]) (wipeS vs s3) else .bad
        | _ => .bad)
      | _ => .bad
def eComp (it : Sts → Ou (List D)) (tg : Tg) (tt : T) (m : E) (vs : List Nat) : E := fun st => (it st).bind fun ds s => (compL tg tt m vs ds [] (wipeS vs s)).bind fun acc s' => .ok (.lst acc) s'
theorem compL_un {tg : Tg} {tt : T} {m : E} {vs : List Nat} : ∀ {ds acc : List D} {st st' : Sts} {r : List D}, compL tg tt m vs ds acc st = .ok r st' → (∀ j ∈ vs, ∀ s, st.ρ[j]? = some s → s = .un) → ∀ j ∈ vs, ∀ s, st'.ρ[j]? = some s → s = .un
  | [], acc, st, st', r, h, hu => by cases h; exact hu
  | d :: ds, acc, st, st', r, h, hu => by
    unfold compL at h
    split at h
    · cases h
    · split at h
      · exact compL_un h fun j hj s e => wipeS_un vs _ j s hj e
      · split at h
        · split at h
          · exact compL_un h fun j hj s e => wipeS_un vs _ j s hj e
          · cases h
        · cases h
      · cases h
section
variable {X : Cx} {b : Base} {W : WX}
theorem do_comp {tg iter elt : Expr} {ifs : List Expr} {scope : Scope} {own : List (Str × Nat)} {pos : Pos} {it : Sts → Ou (List D)} {t : Tg} {tt : T} {m : E} (hc : X.calm = true) (hN : X.N.Nodup) (hi : DI X b W tg iter it) (ok : BlkOk X.N X.env.scope scope own)
    (hg : ∀ (b' : Base) (s : Shared) (H : Hp) (C : Addr) (cl : List (Str × Addr)) (fp : List Addr), DGc (X.blk s H scope (compEnvC scope cl C X.env) fp) b' (own.map (·.2)) tg t)
    (ht : ∀ (b' : Base) (s : Shared) (H : Hp) (C : Addr) (cl : List (Str × Addr)) (fp : List Addr), DTs (X.blk s H scope (compEnvC scope cl C X.env) fp) b' W0 ifs tt)
    (he : ∀ (b' : Base) (s : Shared) (H : Hp) (C : Addr) (cl : List (Str × Addr)) (fp : List Addr), DE (X.blk s H scope (compEnvC scope cl C X.env) fp) b' W0 elt m) (hs : ∀ x, foldedSetIterable iter X.env x = pure x := by intro _; rfl) :
    DO X b W (.ListComp elt [⟨tg, iter, ifs, 0⟩] scope pos) (eComp it t tt m (own.map (·.2))) := by
  refine PE.imp (pe_lc (g := fun v σ H Q => ∃ b', TDgc (md X) b' (own.map (·.2)) t v σ H Q) (tt := fun σ H Q => ∃ b', TDt (md X) b' W0 tt σ H Q) (te := fun σ H Q => ∃ b', TDe (md X) b' W0 m σ H Q) hc hN hi ok
    (fun s H C cl fp => ⟨fun pins s' σ H' v u Q I r ⟨b', h⟩ => (hg b' s H C cl fp).run pins s' σ H' v u Q I r h⟩) (fun s H C cl fp => ⟨fun pins s' σ H' Q I ⟨b', h⟩ => (ht b' s H C cl fp).run pins s' σ H' Q I h⟩)
    (fun s H C cl fp => ⟨fun pins s' σ H' Q I ⟨b', h⟩ => (he b' s H C cl fp).run pins s' σ H' Q I h⟩) hs) fun σ H Q ⟨g, st, w, k⟩ => ⟨g, st, w, (Fin.bind k).imp (fun ds s k1 g1 J H1 l1 w1 io D0 hD => ?_) fun _ _ q => q⟩
  generalize hvs : own.map (·.2) = vs at k1 ⊢
  have wD : Wd (md X) (b.add (D0, .lst [])) g1 σ (upd H1 D0 (.lst [])) s := (w1.al (Al.laid w1.gr.tF hD (.lst []))).addP upd_same (w1.notF hD) (w1.notAs hD) (w1.notOwn hD)
  have n0 := w1.not0 hD
  have npp := w1.notProt hD
  have lD : Le g1 H1 g1 (upd H1 D0 (.lst [])) := (Al.laid w1.gr.tF hD (.lst [])).le
  refine ⟨fun i mm Hc => mm = ds.length - i ∧ i ≤ ds.length ∧ ∃ g2 st2 acc xs, Le g1 H1 g2 Hc ∧ Wd (md X) (b.add (D0, .lst xs)) g2 (L2.wipe σ vs) Hc st2 ∧ Reps (md X) g2 Hc acc xs ∧ (∀ j ∈ vs, ∀ s, st2.ρ[j]? = some s → s = .un) ∧
      Fin (fun acc' st' => ∀ g' xs' H', Le g1 H1 g' H' → Wd (md X) (b.add (D0, .lst xs')) g' (L2.wipe σ vs) H' st' → Reps (md X) g' H' acc' xs' → (∀ j ∈ vs, ∀ s, st'.ρ[j]? = some s → s = .un) → Q (.ref D0) H') (fun _ _ => False) (compL t tt m vs (ds.drop i) acc st2),
    ⟨ds.length, by simp, Nat.zero_le _, g1, wipeS vs s, [], [], lD, wD.wiped vs, rfl, fun j hj s e => wipeS_un vs _ j s hj e, ?_⟩, ?_⟩
  · -- the start
    have k2 := Fin.bind k1
    cases e : compL t tt m vs ds [] (wipeS vs s) with
    | bad => rw [e] at k2; exact k2.elim
    | xc x s' =>
      exfalso
      have nox : ∀ (ds acc : List D) (st : Sts) (x : Ex) (s' : Sts), compL t tt m vs ds acc st ≠ .xc x s' := by
        intro ds
        induction ds with
        | nil => intro acc st x s' h; cases h
        | cons d ds ih =>
          intro acc st x s' h
          unfold compL at h
          split at h
          · cases h
          · split at h
            · exact ih _ _ _ _ h
            · split at h
              · split at h
                · exact ih _ _ _ _ h
                · cases h
              · cases h
            · cases h
      exact nox _ _ _ _ _ e
    | ok acc' s' =>
      rw [e] at k2
      show Fin _ _ (compL t tt m vs (ds.drop 0) [] (wipeS vs s))
      rw [List.drop_zero, e]
      intro g' xs' H' l' w' r' hu
      obtain ⟨h1, h2, h3, h4⟩ := w'.atP
      have k3 : ∀ g' a H', Le g H g' H' → Wd (md X) b g' σ H' s' → Cont (md X) g' H' (.lst acc') a → ¬ g'.F a → a ∉ g'.as → b.H0 a = none → (∀ (j : Nat) e, s'.ρ[j]? = some (.own e) → σ[j]? ≠ some (some (.ref a))) → (∀ p ∈ b.P, p.1 ≠ a) → Q (.ref a) H' := k2
      have wf : Wd (md X) b g' σ H' s' := w'.dropP.unwiped hu
      refine k3 g' D0 H' (l1.trans l') wf ⟨xs', h1, r'⟩ h2 h3 n0 (fun j e he hz => ?_) npp
      by_cases hj : j ∈ vs
      · have := hu j hj _ he
        cases this
      · exact h4 j e he (by rw [wipe_at σ vs j hj]; exact hz)
  · -- a turn
    rintro i mm Hc ⟨rfl, hi', g2, st2, acc, xs, l2, w2, r2, hu2, q2⟩
    by_cases hlt : i < ds.length
    · right
      have hd : ds[i]? = some ds[i] := by simp [hlt]
      obtain ⟨h1, _⟩ := io i g2 Hc l2 w2.gr.tF
      obtain ⟨go, hy⟩ := h1 _ hd
      have edrop : ds.drop i = ds[i] :: ds.drop (i + 1) := List.drop_eq_getElem_cons hlt
      refine ⟨go, fun Hn => ∃ g3 st3 acc3 xs3, Le g1 H1 g3 Hn ∧ Wd (md X) (b.add (D0, .lst xs3)) g3 (L2.wipe σ vs) Hn st3 ∧ Reps (md X) g3 Hn acc3 xs3 ∧ (∀ j ∈ vs, ∀ s, st3.ρ[j]? = some s → s = .un) ∧
        Fin (fun acc' st' => ∀ g' xs' H', Le g1 H1 g' H' → Wd (md X) (b.add (D0, .lst xs')) g' (L2.wipe σ vs) H' st' → Reps (md X) g' H' acc' xs' → (∀ j ∈ vs, ∀ s, st'.ρ[j]? = some s → s = .un) → Q (.ref D0) H') (fun _ _ => False) (compL t tt m vs (ds.drop (i + 1)) acc3 st3),
        fun H' h => ⟨ds.length - (i + 1), by omega, rfl, hlt, h⟩, fun x H3 y => ?_⟩
      obtain ⟨g3, al, r⟩ := hy x H3 y
      have w3 := w2.al al
      rw [edrop] at q2
      unfold compL at q2
      refine ⟨b.add (D0, .lst xs), g3, st2, _, w3, r, ?_⟩
      cases e : t ds[i] st2 with
      | none => simp only [e] at q2; exact q2
      | some s4 =>
        simp only [e] at q2
        intro g4 σ4 H4 l4 w4 ew
        rw [wipe_wipe] at ew
        refine ⟨ew, b.add (D0, .lst xs), g4, s4, w4, ?_⟩
        have l24 := al.le.trans l4
        cases et : tt s4 with
        | bad => simp only [et] at q2; exact q2
        | xc x5 s5 => simp only [et] at q2; exact q2.elim
        | ok c s5 =>
          simp only [et] at q2
          intro g5 H5 l5 w5
          have l25 := l24.trans l5
          cases c with
          | false =>
            rw [if_neg Bool.false_ne_true]
            refine ⟨g5, wipeS vs s5, acc, xs, l2.trans l25, ?_, Reps.mono l25 _ _ r2, fun j hj s e => wipeS_un vs _ j s hj e, q2⟩
            rw [← ew]
            exact w5.wiped vs
          | true =>
            rw [if_pos rfl]
            refine ⟨b.add (D0, .lst xs), g5, s5, w5, ?_⟩
            cases em : m s5 with
            | bad => simp only [em] at q2; exact q2
            | xc x6 s6 => simp only [em] at q2; exact q2.elim
            | ok yv s6 =>
              simp only [em] at q2
              intro g6 v6 H6 l6 w6 r6
              obtain ⟨p1, p2, p3, p4⟩ := w6.atP
              have l26 := l25.trans l6
              have rl : xs.length = acc.length := r2.length
              by_cases hz : acc.length < sizeLine
              · rw [if_pos hz] at q2
                refine ⟨xs, p1, by rw [rl]; exact hz, ?_⟩
                have lw : Le g6 H6 g6 (upd H6 D0 (.lst (xs ++ [v6]))) := Le.write (fun u e => by rw [p1] at e; cases e; exact id) p2
                refine ⟨g6, wipeS vs s6, acc ++ [yv], xs ++ [v6], (l2.trans l26).trans lw, ?_, Reps.append (Reps.mono (l26.trans lw) _ _ r2) (Reps.one (r6.mono lw _ _)), fun j hj s e => wipeS_un vs _ j s hj e, q2⟩
                rw [← ew]
                exact (w6.writeP id n0 npp).wiped vs
              · rw [if_neg hz] at q2
                exact q2.elim
    · left
      have e : i = ds.length := by omega
      subst e
      refine ⟨(io ds.length g2 Hc l2 w2.gr.tF).2 (Nat.le_refl _), ?_⟩
      rw [List.drop_length] at q2
      exact q2 g2 xs Hc l2 w2 r2 hu2
end
end DL
/-! DLg: what a for walks. -/
namespace DL
open PySem PySem.Spec PyProof.Rows L2
abbrev Is := Sts → Ou (List D)
def charsD (x : List Nat) : List D := x.map fun c => .str [c]
def itemsD : D → Option (List D)
  | .lst ds => some ds
  | .fro ds => some ds
  | .tup ds => some ds
  | .str x => some (charsD x)
  | _ => none
def iSeq (m : E) : Is := fun st => (m st).bind fun d s => match itemsD d with
  | some ds => .ok ds s
  | none => .bad
def rangeD (a b : Int) : List D := (List.range (b - a).toNat).map fun (i : Nat) => .int (a + i)
def iRange1 (m : E) : Is := fun st => (eArgs [m] st).bind fun ds s => match ds with
  | [.int j] => if -(2 ^ 62) ≤ j ∧ j < 2 ^ 62 then .ok (rangeD 0 j) s else .bad
  | _ => .bad
def iRange2 (m n : E) : Is := fun st => (eArgs [m, n] st).bind fun ds s => match ds with
  | [.int i, .int j] => if -(2 ^ 62) ≤ i ∧ i < 2 ^ 62 ∧ -(2 ^ 62) ≤ j ∧ j < 2 ^ 62 then .ok (rangeD i j) s else .bad
  | _ => .bad
section
variable {X : Cx} {b : Base} {W : WX} {tg : Expr}
theorem itOk_list {Γ : Md} {g : Gh} {H : Hp} {a : Addr} {xs : List V} {ds : List D} (h : (g.F a ∧ H a = some (.lst xs)) ∨ FR Γ.K H a xs) (r : Reps Γ g H ds xs) : ItOk Γ (Itl Γ.K a) ds g H := by
  intro i g2 H2 l tF
  have h2 : SqL Γ.K H2 a xs := by
    rcases h with ⟨f, h⟩ | h
    · exact SqL.of (l.keep _ _ h (.inl f))
    · exact (l.fr h).sq
  have r2 := Reps.mono l _ _ r
  refine ⟨fun d e => ?_, fun hi => ⟨xs, h2, by rw [r.length]; exact hi⟩⟩
  obtain ⟨v, h3, h4⟩ := r2.get e
  refine ⟨⟨xs, v, h2, h3⟩, fun x H3 ⟨e1, y⟩ => ?_⟩
  subst e1
  have e2 := y xs h2
  rw [h3] at e2
  cases e2
  exact ⟨g2, Al.refl tF, h4⟩
theorem itOk_tup {Γ : Md} {g : Gh} {H : Hp} {a : Addr} {xs : List V} {ds : List D} (h : H a = some (.tup xs)) (r : Reps Γ g H ds xs) : ItOk Γ (Itt Γ.K a) ds g H := by
  intro i g2 H2 l tF
  have h2 : SqT Γ.K H2 a xs := SqT.of (l.keep _ _ h (.inr trivial))
  have r2 := Reps.mono l _ _ r
  refine ⟨fun d e => ?_, fun hi => ⟨xs, h2, by rw [r.length]; exact hi⟩⟩
  obtain ⟨v, h3, h4⟩ := r2.get e
  refine ⟨⟨xs, v, h2, h3⟩, fun x H3 ⟨e1, y⟩ => ?_⟩
  subst e1
  have e2 := y xs h2
  rw [h3] at e2
  cases e2
  exact ⟨g2, Al.refl tF, h4⟩
theorem itOk_str {Γ : Md} {g : Gh} {H : Hp} {x : List Nat} (ok : okS x) : ItOk Γ (Its ⟨x.toArray⟩) (charsD x) g H := by
  intro i g2 H2 l tF
  refine ⟨fun d e => ?_, fun hi => by simpa [charsD, Its] using hi⟩
  unfold charsD at e
  rw [List.getElem?_map] at e
  cases q : x[i]? with
  | none => rw [q] at e; cases e
  | some c =>
    rw [q] at e
    cases e
    have hl := (List.getElem?_eq_some_iff.mp q).1
    refine ⟨by simpa [Its] using hl, fun v H3 ⟨e1, c', h1, h2⟩ => ?_⟩
    subst e1
    have e3 : c' = c := by
      have h1' : x[i]? = some c' := by simpa using h1
      rw [q] at h1'
      exact (Option.some.inj h1').symm
    subst e3
    exact ⟨g2, Al.refl tF, h2, fun z hz => by
      have e4 : z = c' := by simpa using hz
      rw [e4]
      exact ok c' (List.mem_of_getElem? q)⟩
theorem itOk_range {Γ : Md} {g : Gh} {H : Hp} {lo hi : Int} : ItOk Γ (Itr lo (hi - lo).toNat) (rangeD lo hi) g H := by
  intro i g2 H2 l tF
  refine ⟨fun d e => ?_, fun h => by simpa [rangeD, Itr] using h⟩
  unfold rangeD at e
  rw [List.getElem?_map] at e
  cases q : (List.range (hi - lo).toNat)[i]? with
  | none => rw [q] at e; cases e
  | some k =>
    rw [q] at e
    cases e
    obtain ⟨h1, h2⟩ := List.getElem?_eq_some_iff.mp q
    rw [List.getElem_range] at h2
    subst h2
    refine ⟨by simpa [Itr] using h1, fun v H3 ⟨e1, e2⟩ => ?_⟩
    subst e1 e2
    exact ⟨g2, Al.refl tF, rfl⟩
/-- over a list, a tuple, a text -/
theorem di_seq {e : Expr} {m : E} (he : DE X b W e m) : DI X b W tg e (iSeq m) := by
  refine ⟨fun pins s σ H R I ⟨g, st, w, k⟩ => ?_⟩
  have k2 := Fin.bind k
  cases em : m st with
  | bad => rw [em] at k2; exact k2.elim
  | xc x s' =>
    rw [em] at k2
    exact (pi_list he).run pins s σ H R I ⟨g, st, w, by rw [em]; exact k2⟩
  | ok d s' =>
    rw [em] at k2
    cases d with
    | lst ds =>
      refine (pi_list he).run pins s σ H R I ⟨g, st, w, ?_⟩
      rw [em]
      intro g' v H' l w' r
      obtain ⟨a, xs, e1, h, rs⟩ := r
      exact ⟨a, e1, ⟨xs, SqL.of h.2⟩, k2 g' _ H' l w' (itOk_list (.inl h) rs)⟩
    | fro ds =>
      refine (pi_list he).run pins s σ H R I ⟨g, st, w, ?_⟩
      rw [em]
      intro g' v H' l w' r
      obtain ⟨a, xs, e1, h, rs⟩ := r
      exact ⟨a, e1, ⟨xs, h.sq⟩, k2 g' _ H' l w' (itOk_list (.inr h) rs)⟩
    | tup ds =>
      refine (pi_tup he).run pins s σ H R I ⟨g, st, w, ?_⟩
      rw [em]
      intro g' v H' l w' r
      obtain ⟨a, xs, e1, h, rs⟩ := r
      exact ⟨a, e1, ⟨xs, SqT.of h⟩, k2 g' _ H' l w' (itOk_tup h rs)⟩
    | str x =>
      refine (pi_str he).run pins s σ H R I ⟨g, st, w, ?_⟩
      rw [em]
      intro g' v H' l w' r
      obtain ⟨e1, ok⟩ := r
      exact ⟨_, e1, k2 g' _ H' l w' (itOk_str ok)⟩
    | _ => exact k2.elim
theorem di_range1 {a : Expr} {m : E} {p pos : Pos} (hg : Gl X "range") (hm : X.mg "range" = none) (ha : DArgs X b W [a] (eArgs [m])) (hs : starEach [a] X.env = [(false, eval a X.env)] := by rfl) : DI X b W tg (.Call (.Name "range" p) [a] [] pos) (iRange1 m) := by
  refine PI.imp (pi_range1 hg hm ha hs) fun σ H R ⟨g, st, w, k⟩ => ⟨g, st, w, (Fin.bind k).imp (fun ds s k1 g1 vs H1 l1 w1 r1 => ?_) fun _ _ q => q⟩
  split at k1
  · rename_i j
    obtain ⟨v, r, rfl, e, z⟩ := r1
    cases (show r = [] from z)
    cases (show v = .int j from e)
    by_cases hj : -(2 ^ 62) ≤ j ∧ j < 2 ^ 62
    · rw [if_pos hj] at k1
      refine ⟨j, rfl, hj.1, hj.2, ?_⟩
      have e0 : j.toNat = (j - 0).toNat := by simp
      rw [e0]
      exact k1 g1 _ H1 l1 w1 itOk_range
    · rw [if_neg hj] at k1
      exact k1.elim
  · exact k1.elim
theorem di_range2 {a c : Expr} {m n : E} {p pos : Pos} (hg : Gl X "range") (hm : X.mg "range" = none) (ha : DArgs X b W [a, c] (eArgs [m, n])) (hs : starEach [a, c] X.env = [(false, eval a X.env), (false, eval c X.env)] := by rfl) (hs2 : starEach [c] X.env = [(false, eval c X.env)] := by rfl) :
    DI X b W tg (.Call (.Name "range" p) [a, c] [] pos) (iRange2 m n) := by
  refine PI.imp (pi_range2 hg hm ha hs hs2) fun σ H R ⟨g, st, w, k⟩ => ⟨g, st, w, (Fin.bind k).imp (fun ds s k1 g1 vs H1 l1 w1 r1 => ?_) fun _ _ q => q⟩
  split at k1
  · rename_i i j
    obtain ⟨v, r, rfl, e, u, r', rfl, e', z⟩ := r1
    cases (show r' = [] from z)
    cases (show v = .int i from e)
    cases (show u = .int j from e')
    by_cases hj : -(2 ^ 62) ≤ i ∧ i < 2 ^ 62 ∧ -(2 ^ 62) ≤ j ∧ j < 2 ^ 62
    · rw [if_pos hj] at k1
      exact ⟨i, j, rfl, hj, k1 g1 _ H1 l1 w1 itOk_range⟩
    · rw [if_neg hj] at k1
      exact k1.elim
  · exact k1.elim
end
end DL
/-! DLv: operations by values. -/
namespace DL
open PySem PySem.Spec PyProof.Rows L2
def szOk (n : Nat) : Prop := n ≤ sizeLine
instance (n : Nat) : Decidable (szOk n) := inferInstanceAs (Decidable (n ≤ sizeLine))
def addD : D → D → Option D
  | .int i, .int j => some (.int (i + j))
  | .str x, .str y => if szOk (x.length + y.length) then some (.str (x ++ y)) else none
  | .tup x, .tup y => if szOk (x.length + y.length) then some (.tup (x ++ y)) else none
  | .lst x, .lst y => if szOk (x.length + y.length) then some (.lst (x ++ y)) else none
  | _, _ => none
def subD : D → D → Option D
  | .int i, .int j => some (.int (i - j))
  | _, _ => none
def modD : D → D → Option D
  | .int i, .int j => if 0 < j then some (.int (i % j)) else none
  | _, _ => none
def fdivD : D → D → Option D
  | .int i, .int j => if 0 < j ∧ j < 2 ^ 64 then some (.int (i / j)) else none
  | _, _ => none
def powD : D → D → Option D
  | .int i, .int j => if 0 ≤ j ∧ j ≤ 1000000 ∧ i.natAbs < 2 ^ 64 then some (.int (i ^ j.toNat)) else none
  | _, _ => none
def negD : D → Option D
  | .int i => some (.int (-i))
  | _ => none
section
variable {X : Cx}
theorem str_app {x y : List Nat} : (⟨x.toArray⟩ : Str) ++ ⟨y.toArray⟩ = ⟨(x ++ y).toArray⟩ := by
  show Str.mk _ = _
  simp
theorem opd_add : OpD X (binaryOp .Add) addD := by
  intro pins s σ H x y v u Q I rx ry ⟨g, dx, dy, d, tF, cx, cy, e, k⟩
  cases dx with
  | int i =>
    cases dy with
    | int j =>
      cases e
      exact op_add pins s σ H x y v u Q I rx ry ⟨i, j, cx, cy, k g _ H (Al.refl tF) rfl⟩
    | _ => cases e
  | str a =>
    cases dy with
    | str c =>
      simp only [addD] at e
      split at e
      · rename_i hz
        cases e
        obtain ⟨rfl, o1⟩ := cx
        obtain ⟨rfl, o2⟩ := cy
        exact op_add_str pins s σ H _ _ v u Q I rx ry ⟨_, _, rfl, rfl, by simpa [Str.length, szOk] using hz, k g _ H (Al.refl tF) ⟨by rw [str_app], fun z hz => (List.mem_append.mp hz).elim (o1 z) (o2 z)⟩⟩
      · cases e
    | _ => cases e
  | tup a =>
    cases dy with
    | tup c =>
      simp only [addD] at e
      split at e
      · rename_i hz
        cases e
        obtain ⟨p, xs, rfl, h1, r1⟩ := cx
        obtain ⟨q, ys, rfl, h2, r2⟩ := cy
        refine op_catA pins s σ H _ _ v u Q I rx ry ⟨p, q, xs, ys, rfl, rfl, SqT.of h1, SqT.of h2, by rw [r1.length, r2.length]; exact hz, fun e0 => ?_, fun e0 e1 => ?_, fun e0 e1 w nw => ?_⟩
        · have ea : a = [] := by
            subst e0
            cases a with
            | nil => rfl
            | cons _ _ => obtain ⟨_, _, z, _⟩ := r1; cases z
          subst ea
          exact k g _ H (Al.refl tF) ⟨q, ys, rfl, h2, r2⟩
        · have ec : c = [] := by
            subst e1
            cases c with
            | nil => rfl
            | cons _ _ => obtain ⟨_, _, z, _⟩ := r2; cases z
          subst ec
          rw [List.append_nil] at k
          exact k g _ H (Al.refl tF) ⟨p, xs, rfl, h1, r1⟩
        · have al := Al.laid tF nw (.tup (xs ++ ys))
          exact k g _ _ al ⟨w, _, rfl, upd_same, Reps.mono al.le _ _ (r1.append r2)⟩
      · cases e
    | _ => cases e
  | lst a =>
    cases dy with
    | lst c =>
      simp only [addD] at e
      split at e
      · rename_i hz
        cases e
        obtain ⟨p, xs, rfl, h1, r1⟩ := cx
        obtain ⟨q, ys, rfl, h2, r2⟩ := cy
        refine op_cat pins s σ H _ _ v u Q I rx ry ⟨p, q, xs, ys, rfl, rfl, h1, h2, by rw [r1.length, r2.length]; exact hz, fun w nw => ?_⟩
        have al := Al.laidF tF nw (.lst (xs ++ ys))
        exact k _ _ _ al ⟨w, _, rfl, ⟨.inl rfl, upd_same⟩, Reps.mono al.le _ _ (r1.append r2)⟩
      · cases e
    | _ => cases e
  | _ => cases e
theorem opd_int {f : Value → Value → Sem Value} {C : Int → Int → Prop} {h : Int → Int → V} {op : D → D → Option D} (ho : OpR X f (rI C h)) (hop : ∀ dx dy d, op dx dy = some d → ∃ i j e, dx = .int i ∧ dy = .int j ∧ C i j ∧ d = e ∧ ∀ g H, Rep (md X) g H e (h i j)) : OpD X f op := by
  intro pins s σ H x y v u Q I rx ry ⟨g, dx, dy, d, tF, cx, cy, e, k⟩
  obtain ⟨i, j, e', rfl, rfl, hC, rfl, r⟩ := hop dx dy d e
  exact ho pins s σ H x y v u Q I rx ry ⟨i, j, cx, cy, hC, k g _ H (Al.refl tF) (r g H)⟩
theorem opd_int0 {f : Value → Value → Sem Value} {h : Int → Int → V} {op : D → D → Option D} (ho : OpR X f (rI0 h)) (hop : ∀ dx dy d, op dx dy = some d → ∃ i j e, dx = .int i ∧ dy = .int j ∧ d = e ∧ ∀ g H, Rep (md X) g H e (h i j)) : OpD X f op := by
  intro pins s σ H x y v u Q I rx ry ⟨g, dx, dy, d, tF, cx, cy, e, k⟩
  obtain ⟨i, j, e', rfl, rfl, rfl, r⟩ := hop dx dy d e
  exact ho pins s σ H x y v u Q I rx ry ⟨i, j, cx, cy, k g _ H (Al.refl tF) (r g H)⟩
theorem opd_sub : OpD X (binaryOp .Sub) subD := opd_int0 op_sub fun dx dy d e => by
  cases dx with
  | int i => cases dy with
    | int j => cases e; exact ⟨i, j, _, rfl, rfl, rfl, fun _ _ => rfl⟩
    | _ => cases e
  | _ => cases e
theorem opd_mod : OpD X (binaryOp .Mod) modD := opd_int op_mod fun dx dy d e => by
  cases dx with
  | int i => cases dy with
    | int j =>
      simp only [modD] at e
      split at e
      · cases e; exact ⟨i, j, _, rfl, rfl, by assumption, rfl, fun _ _ => rfl⟩
      · cases e
    | _ => cases e
  | _ => cases e
theorem opd_fdiv : OpD X (binaryOp .FloorDiv) fdivD := opd_int op_fdivW fun dx dy d e => by
  cases dx with
  | int i => cases dy with
    | int j =>
      simp only [fdivD] at e
      split at e
      · rename_i h
        cases e
        exact ⟨i, j, _, rfl, rfl, wide_div (b := 64) h.1 (by omega) (by decide) (by decide), rfl, fun _ _ => rfl⟩
      · cases e
    | _ => cases e
  | _ => cases e
theorem opd_pow : OpD X (binaryOp .Pow) powD := opd_int op_pow fun dx dy d e => by
  cases dx with
  | int i => cases dy with
    | int j =>
      simp only [powD] at e
      split at e
      · rename_i h
        cases e
        exact ⟨i, j, _, rfl, rfl, h, rfl, fun _ _ => rfl⟩
      · cases e
    | _ => cases e
  | _ => cases e
theorem und_neg : UnD X (unaryOp .USub) negD := by
  intro pins s σ H x v Q I rx ⟨g, dx, d, tF, cx, e, k⟩
  cases dx with
  | int i =>
    cases e
    exact un_neg pins s σ H x v Q I rx ⟨i, cx, k g _ H (Al.refl tF) rfl⟩
  | _ => cases e
/-! comparisons of ints and texts -/
def ltL : List Nat → List Nat → Bool := fun x y => decide (x < y)
def ltD : D → D → Option D
  | .int i, .int j => some (.bl (decide (i < j)))
  | .str x, .str y => some (.bl (decide (x < y)))
  | _, _ => none
def leD : D → D → Option D
  | .int i, .int j => some (.bl (decide (i ≤ j)))
  | .str x, .str y => some (.bl (!decide (y < x)))
  | _, _ => none
def gtD : D → D → Option D
  | .int i, .int j => some (.bl (decide (j < i)))
  | .str x, .str y => some (.bl (decide (y < x)))
  | _, _ => none
def geD : D → D → Option D
  | .int i, .int j => some (.bl (decide (j ≤ i)))
  | .str x, .str y => some (.bl (!decide (x < y)))
  | _, _ => none
theorem opd_ord {f : Value → Value → Sem Value} {h : Int → Int → Bool} {hs : List Nat → List Nat → Bool} {op : D → D → Option D} (ho : OpR X f (rI0 fun i j => .bl (h i j)))
    (hos : OpR X f (fun x y H Q => ∃ i j : Str, x = .str i ∧ y = .str j ∧ Q (.bl (hs i.cps.toList j.cps.toList)) H))
    (hop : ∀ dx dy d, op dx dy = some d → (∃ i j, dx = .int i ∧ dy = .int j ∧ d = .bl (h i j)) ∨ ∃ x y, dx = .str x ∧ dy = .str y ∧ d = .bl (hs x y)) : OpD X f op := by
  intro pins s σ H x y v u Q I rx ry ⟨g, dx, dy, d, tF, cx, cy, e, k⟩
  rcases hop dx dy d e with ⟨i, j, rfl, rfl, rfl⟩ | ⟨a, c, rfl, rfl, rfl⟩
  · exact ho pins s σ H x y v u Q I rx ry ⟨i, j, cx, cy, k g _ H (Al.refl tF) rfl⟩
  · obtain ⟨rfl, _⟩ := cx
    obtain ⟨rfl, _⟩ := cy
    exact hos pins s σ H _ _ v u Q I rx ry ⟨_, _, rfl, rfl, k g _ H (Al.refl tF) rfl⟩
theorem ord_cases {h : Int → Int → Bool} {hs : List Nat → List Nat → Bool} {op : D → D → Option D} (h1 : ∀ i j, op (.int i) (.int j) = some (.bl (h i j))) (h2 : ∀ x y, op (.str x) (.str y) = some (.bl (hs x y)))
    (h3 : ∀ dx dy, (∀ i j, ¬ (dx = .int i ∧ dy = .int j)) → (∀ i j, ¬ (dx = .str i ∧ dy = .str j)) → op dx dy = none) : ∀ dx dy d, op dx dy = some d → (∃ i j, dx = .int i ∧ dy = .int j ∧ d = .bl (h i j)) ∨ ∃ x y, dx = .str x ∧ dy = .str y ∧ d = .bl (hs x y) := by
  intro dx dy d e
  by_cases c1 : ∃ i j, dx = .int i ∧ dy = .int j
  · obtain ⟨i, j, rfl, rfl⟩ := c1
    rw [h1] at e
    cases e
    exact .inl ⟨i, j, rfl, rfl, rfl⟩
  · by_cases c2 : ∃ i j, dx = .str i ∧ dy = .str j
    · obtain ⟨i, j, rfl, rfl⟩ := c2
      rw [h2] at e
      cases e
      exact .inr ⟨i, j, rfl, rfl, rfl⟩
    · rw [h3 dx dy (fun i j z => c1 ⟨i, j, z⟩) fun i j z => c2 ⟨i, j, z⟩] at e
      cases e
theorem opd_lt : OpD X (compareOp .Lt) ltD := opd_ord op_lt op_lt_str (ord_cases (fun _ _ => rfl) (fun _ _ => rfl) fun dx dy n1 n2 => by cases dx <;> cases dy <;> first | rfl | exact absurd ⟨rfl, rfl⟩ (n1 _ _) | exact absurd ⟨rfl, rfl⟩ (n2 _ _))
theorem opd_le : OpD X (compareOp .LtE) leD := opd_ord op_le op_le_str (ord_cases (fun _ _ => rfl) (fun _ _ => rfl) fun dx dy n1 n2 => by cases dx <;> cases dy <;> first | rfl | exact absurd ⟨rfl, rfl⟩ (n1 _ _) | exact absurd ⟨rfl, rfl⟩ (n2 _ _))
theorem opd_gt : OpD X (compareOp .Gt) gtD := opd_ord op_gt op_gt_str (ord_cases (fun _ _ => rfl) (fun _ _ => rfl) fun dx dy n1 n2 => by cases dx <;> cases dy <;> first | rfl | exact absurd ⟨rfl, rfl⟩ (n1 _ _) | exact absurd ⟨rfl, rfl⟩ (n2 _ _))
theorem opd_ge : OpD X (compareOp .GtE) geD := opd_ord op_ge op_ge_str (ord_cases (fun _ _ => rfl) (fun _ _ => rfl) fun dx dy n1 n2 => by cases dx <;> cases dy <;> first | rfl | exact absurd ⟨rfl, rfl⟩ (n1 _ _) | exact absurd ⟨rfl, rfl⟩ (n2 _ _))
end
/-! == of data -/
mutual
def toP : D → PyData
  | .bl k => .bool k
  | .int i => .int i
  | .str x => .str ⟨x.toArray⟩
  | .tup ds => .tuple (toPs ds)
  | .lst ds => .list (toPs ds)
  | _ => .none
def toPs : List D → List PyData
  | [] => []
  | d :: ds => toP d :: toPs ds
end
mutual
/-- plain data -/
def D.pl : D → Bool
  | .non => true
  | .bl _ => true
  | .int _ => true
  | .str _ => true
  | .tup ds => plL ds
  | .lst ds => plL ds
  | _ => false
def plL : List D → Bool
  | [] => true
  | d :: ds => d.pl && plL ds
end
mutual
def D.dep : D → Nat
  | .tup ds => depL ds + 1
  | .lst ds => depL ds + 1
  | _ => 0
def depL : List D → Nat
  | [] => 0
  | d :: ds => max d.dep (depL ds)
end
mutual
/-- as Python's == -/
def D.eq : D → D → Bool
  | .non, .non => true
  | .bl a, .bl c => a == c
  | .bl a, .int j => (if a then 1 else 0) == j
  | .int i, .bl c => i == (if c then 1 else 0)
  | .int i, .int j => i == j
  | .str x, .str y => x == y
  | .tup x, .tup y => eqL x y
  | .lst x, .lst y => eqL x y
  | _, _ => false
def eqL : List D → List D → Bool
  | [], [] => true
  | a :: x, c :: y => a.eq c && eqL x y
  | _, _ => false
end
mutual
theorem toP_eq : ∀ (a c : D), a.pl = true → c.pl = true → PyData.eqv (toP a) (toP c) = a.eq c
  | .non, .non, _, _ | .non, .bl _, _, _ | .non, .int _, _, _ | .non, .str _, _, _ | .non, .tup _, _, _ | .non, .lst _, _, _
  | .bl _, .non, _, _ | .bl _, .bl _, _, _ | .bl _, .int _, _, _ | .bl _, .str _, _, _ | .bl _, .tup _, _, _ | .bl _, .lst _, _, _
  | .int _, .non, _, _ | .int _, .bl _, _, _ | .int _, .int _, _, _ | .int _, .str _, _, _ | .int _, .tup _, _, _ | .int _, .lst _, _, _
  | .str _, .non, _, _ | .str _, .bl _, _, _ | .str _, .int _, _, _ | .str _, .tup _, _, _ | .str _, .lst _, _, _
  | .tup _, .non, _, _ | .tup _, .bl _, _, _ | .tup _, .int _, _, _ | .tup _, .str _, _, _ | .tup _, .lst _, _, _
  | .lst _, .non, _, _ | .lst _, .bl _, _, _ | .lst _, .int _, _, _ | .lst _, .str _, _, _ | .lst _, .tup _, _, _ => by simp [toP, PyData.eqv, D.eq]
  | .str x, .str y, _, _ => by
    simp only [toP, PyData.eqv, D.eq]
    rw [Bool.eq_iff_iff]
    simp
  | .tup x, .tup y, h1, h2 => by
    simp only [toP, PyData.eqv, D.eq]
    exact toPs_eq x y h1 h2
  | .lst x, .lst y, h1, h2 => by
    simp only [toP, PyData.eqv, D.eq]
    exact toPs_eq x y h1 h2
theorem toPs_eq : ∀ (x y : List D), plL x = true → plL y = true → PyData.eqvAll (toPs x) (toPs y) = eqL x y
  | [], [], _, _ => by simp [toPs, PyData.eqvAll, eqL]
  | [], _ :: _, _, _ => by simp [toPs, PyData.eqvAll, eqL]
  | _ :: _, [], _, _ => by simp [toPs, PyData.eqvAll, eqL]
  | a :: x, c :: y, h1, h2 => by
    obtain ⟨p1, p2⟩ := Bool.and_eq_true_iff.mp h1
    obtain ⟨q1, q2⟩ := Bool.and_eq_true_iff.mp h2
    simp only [toPs, PyData.eqvAll, eqL]
    rw [toP_eq a c p1 q1, toPs_eq x y p2 q2]
end
section
variable {Γ : Md} {g : Gh} {H : Hp}
mutual
theorem Rep.dp : ∀ (d : D) (v : V), d.pl = true → Rep Γ g H d v → Dp Γ.K H v (toP d) ∧ (toP d).canLay0 = true ∧ (toP d).depth = d.dep
  | .non, _, _, h => by rw [show _ = V.non from h]; exact ⟨.non, by simp [toP, PyData.canLay0], by simp [toP, PyData.depth, D.dep]⟩
  | .bl k, _, _, h => by rw [show _ = V.bl k from h]; exact ⟨.bl k, by simp [toP, PyData.canLay0], by simp [toP, PyData.depth, D.dep]⟩
  | .int i, _, _, h => by rw [show _ = V.int i from h]; exact ⟨.int i, by simp [toP, PyData.canLay0], by simp [toP, PyData.depth, D.dep]⟩
  | .str x, _, _, h => by
    obtain ⟨rfl, ok⟩ := h
    refine ⟨.str _, ?_, by simp [toP, PyData.depth, D.dep]⟩
    simp only [toP, PyData.canLay0]
    simpa [PySem.PyData.strOk, okS] using ok
  | .tup ds, _, hp, h => by
    obtain ⟨a, xs, rfl, q, r⟩ := h
    obtain ⟨h1, h2, h3⟩ := Reps.dp ds xs hp r
    exact ⟨.tup (SqT.of q) h1, by simpa [toP, PyData.canLay0] using h2, by simp [toP, PyData.depth, D.dep, h3]⟩
  | .fro _, _, hp, _ => by cases hp
  | .lst ds, _, hp, h => by
    obtain ⟨a, xs, rfl, ⟨_, q⟩, r⟩ := h
    obtain ⟨h1, h2, h3⟩ := Reps.dp ds xs hp r
    exact ⟨.lst (SqL.of q) h1, by simpa [toP, PyData.canLay0] using h2, by simp [toP, PyData.depth, D.dep, h3]⟩
  | .dct _ _, _, hp, _ => by cases hp
  | .ins _ _, _, hp, _ => by cases hp
  | .obj _, _, hp, _ => by cases hp
  | .fn _, _, hp, _ => by cases hp
theorem Reps.dp : ∀ (ds : List D) (vs : List V), plL ds = true → Reps Γ g H ds vs → DpAll Γ.K H vs (toPs ds) ∧ PyData.canLayAll0 (toPs ds) = true ∧ PyData.depthAll (toPs ds) = depL ds
  | [], _, _, h => by
    rw [show _ = ([] : List V) from h]
    exact ⟨.nil, by simp [toPs, PyData.canLayAll0], by simp [toPs, PyData.depthAll, depL]⟩
  | d :: ds, _, hp, h => by
    obtain ⟨v, r, rfl, q, z⟩ := h
    obtain ⟨p1, p2⟩ := Bool.and_eq_true_iff.mp hp
    obtain ⟨h1, h2, h3⟩ := Rep.dp d v p1 q
    obtain ⟨k1, k2, k3⟩ := Reps.dp ds r p2 z
    exact ⟨.cons h1 k1, by simp [toPs, PyData.canLayAll0, h2, k2], by simp [toPs, PyData.depthAll, depL, h3, k3]⟩
end
theorem CRep.dp {d : D} {v : V} (hp : d.pl = true) (h : CRep Γ g H d v) : Dp Γ.K H v (toP d) ∧ (toP d).canLay0 = true ∧ (toP d).depth = d.dep := by
  cases d with
  | lst ds =>
    obtain ⟨a, xs, rfl, q, r⟩ := h
    obtain ⟨h1, h2, h3⟩ := Reps.dp ds xs hp r
    exact ⟨.lst (SqL.of q) h1, by simpa [toP, PyData.canLay0] using h2, by simp [toP, PyData.depth, D.dep, h3]⟩
  | fro _ => cases hp
  | dct _ _ => cases hp
  | ins _ _ => cases hp
  | non => exact Rep.dp (g := g) _ _ hp h
  | bl _ => exact Rep.dp (g := g) _ _ hp h
  | int _ => exact Rep.dp (g := g) _ _ hp h
  | str _ => exact Rep.dp (g := g) _ _ hp h
  | tup _ => exact Rep.dp (g := g) _ _ hp h
  | obj _ => cases hp
  | fn _ => cases hp
end
def eqOk (a c : D) : Bool := a.pl && c.pl && decide (a.dep ≤ 60) && decide (c.dep ≤ 60)
def eqD (a c : D) : Option D := if eqOk a c then some (.bl (a.eq c)) else none
def neD (a c : D) : Option D := if eqOk a c then some (.bl (!a.eq c)) else none
section
variable {X : Cx}
theorem eqOk_sh {g : Gh} {H : Hp} {a c : D} {x y : V} (h : eqOk a c = true) (cx : CRep (md X) g H a x) (cy : CRep (md X) g H c y) :
    ∃ d e, Dp X.K H x d ∧ Dp X.K H y e ∧ SeqAt.shaped d = true ∧ SeqAt.shaped e = true ∧ PyData.eqv d e = a.eq c := by
  simp only [eqOk, Bool.and_eq_true, decide_eq_true_eq] at h
  obtain ⟨⟨⟨h1, h2⟩, h3⟩, h4⟩ := h
  obtain ⟨a1, a2, a3⟩ := cx.dp h1
  obtain ⟨c1, c2, c3⟩ := cy.dp h2
  exact ⟨_, _, a1, c1, by simp [SeqAt.shaped, a2, a3]; omega, by simp [SeqAt.shaped, c2, c3]; omega, toP_eq a c h1 h2⟩
theorem opd_eq (hu : X.A.units + 64 < cLine) : OpD X (compareOp .Eq) eqD := by
  intro pins s σ H x y v u Q I rx ry ⟨g, dx, dy, d, tF, cx, cy, e, k⟩
  simp only [eqD] at e
  split at e
  · rename_i h
    cases e
    obtain ⟨p, q, h1, h2, h3, h4, h5⟩ := eqOk_sh h cx cy
    exact op_eqD hu pins s σ H x y v u Q I rx ry ⟨p, q, h1, h2, h3, h4, by rw [h5]; exact k g _ H (Al.refl tF) rfl⟩
  · cases e
theorem opd_ne (hu : X.A.units + 64 < cLine) : OpD X (compareOp .NotEq) neD := by
  intro pins s σ H x y v u Q I rx ry ⟨g, dx, dy, d, tF, cx, cy, e, k⟩
  simp only [neD] at e
  split at e
  · rename_i h
    cases e
    obtain ⟨p, q, h1, h2, h3, h4, h5⟩ := eqOk_sh h cx cy
    exact op_neD hu pins s σ H x y v u Q I rx ry ⟨p, q, h1, h2, h3, h4, by rw [h5]; exact k g _ H (Al.refl tF) rfl⟩
  · cases e
end
end DL
/-! DLw: subscripts, slices, in, is, len, what changes a list or a dict. -/
namespace DL
open PySem PySem.Spec PyProof.Rows L2
/-! ### keys -/
def keyEq : D → D → Bool
  | .int i, .int j => i == j
  | .str x, .str y => x == y
  | _, _ => false
def keyOf : D → Option Key
  | .int i => some (.inl i)
  | .str x => some (.inr ⟨x.toArray⟩)
  | _ => none
def keysOf : List D → Option (List Key)
  | [] => some []
  | d :: ds => (keyOf d).bind fun k => (keysOf ds).bind fun ks => some (k :: ks)
def keyEqL : List D → List D → Bool
  | [], [] => true
  | a :: x, c :: y => keyEq a c && keyEqL x y
  | _, _ => false
/-- is the key of a dict of this kind -/
def sameKey : DK → D → D → Bool
  | .K, a, c => keyEq a c
  | _, .tup x, .tup y => keyEqL x y
  | _, _, _ => false
def goodKey : DK → D → Bool
  | .K, d => (keyOf d).isSome
  | .T, .tup x => (keysOf x).isSome
  | _, _ => false
def lookD (k : DK) : List (D × D) → D → Option D
  | [], _ => none
  | (a, d) :: r, c => if sameKey k a c then some d else lookD k r c
def putD (k : DK) (kvs : List (D × D)) (c e : D) : List (D × D) :=
  if (kvs.any fun kv => sameKey k kv.1 c) = true then kvs.map (fun kv => if sameKey k kv.1 c = true then (kv.1, e) else kv) else kvs ++ [(c, e)]
theorem keyOf_of {d : D} {k : Key} (h : keyOf d = some k) : d = keyD k := by
  cases d with
  | int i => cases h; rfl
  | str x => cases h; rfl
  | _ => cases h
theorem keyEq_iff (a c : Key) : keyEq (keyD a) (keyD c) = decide (a = c) := by
  cases a with
  | inl i => cases c with
    | inl j => simp [keyD, keyEq, Bool.beq_eq_decide_eq]
    | inr y => simp [keyD, keyEq]
  | inr x => cases c with
    | inl j => simp [keyD, keyEq]
    | inr y =>
      simp only [keyD, keyEq]
      rw [Bool.eq_iff_iff]
      obtain ⟨x⟩ := x
      obtain ⟨y⟩ := y
      simp
theorem keysOf_of : ∀ {ds : List D} {ks : List Key}, keysOf ds = some ks → ds = ks.map keyD
  | [], _, h => by cases h; rfl
  | d :: ds, ks, h => by
    unfold keysOf at h
    cases e1 : keyOf d with
    | none => rw [e1] at h; cases h
    | some k =>
      cases e2 : keysOf ds with
      | none => rw [e1, e2] at h; cases h
      | some r =>
        rw [e1, e2] at h
        cases h
        rw [keyOf_of e1, keysOf_of e2]
        rfl
theorem keyEqL_iff : ∀ (a c : List Key), keyEqL (a.map keyD) (c.map keyD) = decide (a = c)
  | [], [] => by simp [keyEqL]
  | [], _ :: _ => by simp [keyEqL]
  | _ :: _, [] => by simp [keyEqL]
  | a :: x, c :: y => by
    simp only [List.map_cons, keyEqL, keyEq_iff, keyEqL_iff x y]
    simp
section
variable {Γ : Md} {g g' : Gh} {H H' : Hp}
theorem look_K {k : Key} : ∀ {kvs : List (D × D)} {ks : List (Key × V)}, RepK Γ g H kvs ks → (∀ d, lookD .K kvs (keyD k) = some d → ∃ v, valV ks k = some v ∧ Rep Γ g H d v) ∧ (lookD .K kvs (keyD k) = none → valV ks k = none)
  | [], _, h => by
    rw [show _ = [] from h]
    exact ⟨fun _ z => absurd z (by simp [lookD]), fun _ => rfl⟩
  | (a, d) :: r, _, h => by
    obtain ⟨k', v, q, rfl, rfl, _, hr, hz⟩ := h
    have ih := look_K (k := k) hz
    simp only [lookD, sameKey, keyEq_iff, decide_eq_true_eq]
    by_cases e : k' = k
    · rw [if_pos e, valV_pos (p := (k', v)) e]
      exact ⟨fun d' z => by cases z; exact ⟨v, rfl, hr⟩, fun z => by cases z⟩
    · rw [if_neg e, valV_neg (p := (k', v)) e]
      exact ih
theorem look_T {k : List Key} : ∀ {kvs : List (D × D)} {ks : List (List Key × V)}, RepT Γ g H kvs ks → (∀ d, lookD .T kvs (.tup (k.map keyD)) = some d → ∃ v, valV ks k = some v ∧ Rep Γ g H d v) ∧ (lookD .T kvs (.tup (k.map keyD)) = none → valV ks k = none)
  | [], _, h => by
    rw [show _ = [] from h]
    exact ⟨fun _ z => absurd z (by simp [lookD]), fun _ => rfl⟩
  | (a, d) :: r, _, h => by
    obtain ⟨k', v, q, rfl, rfl, _, hr, hz⟩ := h
    have ih := look_T (k := k) hz
    simp only [lookD, sameKey, keyEqL_iff, decide_eq_true_eq]
    by_cases e : k' = k
    · rw [if_pos e, valV_pos (p := (k', v)) e]
      exact ⟨fun d' z => by cases z; exact ⟨v, rfl, hr⟩, fun z => by cases z⟩
    · rw [if_neg e, valV_neg (p := (k', v)) e]
      exact ih
theorem any_K {k : Key} : ∀ {kvs : List (D × D)} {ks : List (Key × V)}, RepK Γ g H kvs ks → (kvs.any fun kv => sameKey .K kv.1 (keyD k)) = ks.any fun kv => decide (kv.1 = k)
  | [], _, h => by rw [show _ = [] from h]; rfl
  | (a, d) :: r, _, h => by
    obtain ⟨k', v, q, rfl, rfl, _, hr, hz⟩ := h
    simp only [List.any_cons, sameKey, keyEq_iff]
    congr 1
    exact any_K hz
theorem map_K {k : Key} {e : D} {u : V} (ru : Rep Γ g H e u) : ∀ {kvs : List (D × D)} {ks : List (Key × V)}, RepK Γ g H kvs ks → RepK Γ g H (kvs.map fun kv => if sameKey .K kv.1 (keyD k) = true then (kv.1, e) else kv) (ks.map fun kv => if kv.1 = k then (kv.1, u) else kv)
  | [], _, h => by rw [show _ = [] from h]; rfl
  | (a, d) :: r, _, h => by
    obtain ⟨k', v, q, rfl, rfl, ok', hr, hz⟩ := h
    simp only [List.map_cons, sameKey, keyEq_iff, decide_eq_true_eq]
    by_cases ee : k' = k
    · rw [if_pos ee, if_pos ee]
      exact ⟨k', u, _, rfl, rfl, ok', ru, by simpa only [sameKey] using map_K ru hz⟩
    · rw [if_neg ee, if_neg ee]
      exact ⟨k', v, _, rfl, rfl, ok', hr, by simpa only [sameKey] using map_K ru hz⟩
theorem RepK.append : ∀ {a c : List (D × D)} {ks ls : List (Key × V)}, RepK Γ g H a ks → RepK Γ g H c ls → RepK Γ g H (a ++ c) (ks ++ ls)
  | [], _, _, _, h, q => by rw [show _ = [] from h]; exact q
  | (a, d) :: r, _, _, _, h, q => by
    obtain ⟨k', v, z, rfl, rfl, ok', hr, hz⟩ := h
    exact ⟨k', v, _, rfl, rfl, ok', hr, RepK.append hz q⟩
theorem put_K {k : Key} {e : D} {u : V} (ok : keyOk k) (ru : Rep Γ g H e u) {kvs : List (D × D)} {ks : List (Key × V)} (h : RepK Γ g H kvs ks) : RepK Γ g H (putD .K kvs (keyD k) e) (putK ks k u) := by
  unfold putD putK
  rw [any_K h]
  split
  · exact map_K ru h
  · exact RepK.append h ⟨k, u, [], rfl, rfl, ok, ru, rfl⟩
theorem any_T {k : List Key} : ∀ {kvs : List (D × D)} {ks : List (List Key × V)}, RepT Γ g H kvs ks → (kvs.any fun kv => sameKey .T kv.1 (.tup (k.map keyD))) = ks.any fun kv => decide (kv.1 = k)
  | [], _, h => by rw [show _ = [] from h]; rfl
  | (a, d) :: r, _, h => by
    obtain ⟨k', v, q, rfl, rfl, _, hr, hz⟩ := h
    simp only [List.any_cons, sameKey, keyEqL_iff]
    congr 1
    exact any_T hz
theorem map_T {k : List Key} {e : D} {u : V} (ru : Rep Γ g H e u) : ∀ {kvs : List (D × D)} {ks : List (List Key × V)}, RepT Γ g H kvs ks → RepT Γ g H (kvs.map fun kv => if sameKey .T kv.1 (.tup (k.map keyD)) = true then (kv.1, e) else kv) (ks.map fun kv => if kv.1 = k then (kv.1, u) else kv)
  | [], _, h => by rw [show _ = [] from h]; rfl
  | (a, d) :: r, _, h => by
    obtain ⟨k', v, q, rfl, rfl, ok', hr, hz⟩ := h
    simp only [List.map_cons, sameKey, keyEqL_iff, decide_eq_true_eq]
    by_cases ee : k' = k
    · rw [if_pos ee, if_pos ee]
      exact ⟨k', u, _, rfl, rfl, ok', ru, by simpa only [sameKey] using map_T ru hz⟩
    · rw [if_neg ee, if_neg ee]
      exact ⟨k', v, _, rfl, rfl, ok', hr, by simpa only [sameKey] using map_T ru hz⟩
theorem RepT.append : ∀ {a c : List (D × D)} {ks ls : List (List Key × V)}, RepT Γ g H a ks → RepT Γ g H c ls → RepT Γ g H (a ++ c) (ks ++ ls)
  | [], _, _, _, h, q => by rw [show _ = [] from h]; exact q
  | (a, d) :: r, _, _, _, h, q => by
    obtain ⟨k', v, z, rfl, rfl, ok', hr, hz⟩ := h
    exact ⟨k', v, _, rfl, rfl, ok', hr, RepT.append hz q⟩
theorem put_T {k : List Key} {e : D} {u : V} (ok : ∀ z ∈ k, keyOk z) (ru : Rep Γ g H e u) {kvs : List (D × D)} {ks : List (List Key × V)} (h : RepT Γ g H kvs ks) : RepT Γ g H (putD .T kvs (.tup (k.map keyD)) e) (putK ks k u) := by
  unfold putD putK
  rw [any_T h]
  split
  · exact map_T ru h
  · exact RepT.append h ⟨k, u, [], rfl, rfl, ok, ru, rfl⟩
theorem RepT.length : ∀ {kvs : List (D × D)} {ks : List (List Key × V)}, RepT Γ g H kvs ks → ks.length = kvs.length
  | [], _, h => by rw [show _ = [] from h]; rfl
  | (a, d) :: r, _, h => by
    obtain ⟨k, v, q, rfl, _, _, _, z⟩ := h
    rw [List.length_cons, List.length_cons, RepT.length z]
end
/-! ### subscripts -/
def ixD : D → D → Option D
  | .lst ds, .int i => atI ds i
  | .fro ds, .int i => atI ds i
  | .tup ds, .int i => atI ds i
  | .str x, .int i => if szOk x.length then (atI x i).map fun c => .str [c] else none
  | .dct k kvs, d => if goodKey k d then lookD k kvs d else none
  | _, _ => none
section
variable {X : Cx} {b : Base} {W : WX}
theorem atI_reps {Γ : Md} {g : Gh} {H : Hp} {ds : List D} {vs : List V} {i : Int} {d : D} (r : Reps Γ g H ds vs) (h : atI ds i = some d) : ∃ v, atI vs i = some v ∧ Rep Γ g H d v := by
  unfold atI at h ⊢
  rw [← r.length] at h
  cases e : ixN vs.length i with
  | none => rw [e] at h; cases h
  | some j =>
    rw [e] at h
    exact r.get h
theorem keyOf_rep {Γ : Md} {g : Gh} {H : Hp} {d : D} {v : V} {k : Key} (h : keyOf d = some k) (r : CRep Γ g H d v) : v = kV k ∧ keyOk k := by
  cases d with
  | int i => cases h; exact ⟨r, trivial⟩
  | str x => cases h; obtain ⟨e, ok⟩ := r; exact ⟨e, ok⟩
  | _ => cases h
theorem keysOf_rep {Γ : Md} {g : Gh} {H : Hp} : ∀ {ds : List D} {vs : List V} {ks : List Key}, keysOf ds = some ks → Reps Γ g H ds vs → vs = ks.map kV ∧ ∀ z ∈ ks, keyOk z
  | [], _, _, h, r => by
    cases h
    exact ⟨r, by simp⟩
  | d :: ds, _, ks, h, r => by
    unfold keysOf at h
    obtain ⟨v, vr, rfl, r1, r2⟩ := r
    cases e1 : keyOf d with
    | none => rw [e1] at h; cases h
    | some k =>
      cases e2 : keysOf ds with
      | none => rw [e1, e2] at h; cases h
      | some ks' =>
        rw [e1, e2] at h
        cases h
        obtain ⟨a1, a2⟩ := keyOf_rep e1 r1.c
        obtain ⟨b1, b2⟩ := keysOf_rep e2 r2
        refine ⟨by rw [a1, b1]; rfl, fun z hz => ?_⟩
        rcases List.mem_cons.mp hz with rfl | hz
        · exact a2
        · exact b2 z hz
/-- what a dict answers -/
theorem dget_of {Γ : Md} {g : Gh} {H : Hp} {k : DK} {kvs : List (D × D)} {d : D} {x y : V} (h : goodKey k d = true) (cx : CRep Γ g H (.dct k kvs) x) (cy : CRep Γ g H d y) :
    ∃ a o, x = .ref a ∧ DGet H a y o ∧ (∀ e, lookD k kvs d = some e → ∃ v, o = some v ∧ Rep Γ g H e v) ∧ (lookD k kvs d = none → o = none) := by
  cases k with
  | K =>
    obtain ⟨a, ks, rfl, hH, r⟩ := cx
    cases e1 : keyOf d with
    | none => simp [goodKey, e1] at h
    | some q =>
      obtain ⟨rfl, _⟩ := keyOf_rep e1 cy
      have e2 := keyOf_of e1
      subst e2
      exact ⟨a, _, rfl, DGet.k hH, (look_K r).1, (look_K r).2⟩
  | T =>
    obtain ⟨a, ks, rfl, hH, r⟩ := cx
    cases d with
    | tup ds =>
      cases e1 : keysOf ds with
      | none => simp [goodKey, e1] at h
      | some q =>
        obtain ⟨p, xs, rfl, hT, rs⟩ := cy
        obtain ⟨rfl, _⟩ := keysOf_rep e1 rs
        have e2 := keysOf_of e1
        subst e2
        exact ⟨a, _, rfl, DGet.t hH hT, (look_T r).1, (look_T r).2⟩
    | _ => cases h
  | N => cases h
theorem de_ix {o i : Expr} {ma mb : EP'} {pos : Pos} (hu : X.A.units + 1 < cLine) (ho : DA X b W o ma) (hi : DA X b W i mb) (hs : PlainIx i := by exact fun _ _ => rfl) : DE X b W (.Subscript o i pos) (eBin ixD ma mb) := by
  refine ⟨fun pins s σ H Q I ⟨g, st, w, k⟩ => ?_⟩
  by_cases hd : ∃ p s1 q s2 kd kvs, ma st = .ok p s1 ∧ mb s1 = .ok q s2 ∧ rd p s2 = some (.dct kd kvs)
  · obtain ⟨p, s1, q, s2, kd, kvs, e1, e2, e3⟩ := hd
    refine (pe_dget hu ho hi hs).run pins s σ H Q I ⟨g, st, w, ?_⟩
    have k1 := Fin.bind k
    rw [e1] at k1 ⊢
    have k2 := Fin.bind k1
    intro g1 x H1 l1 w1 r1
    refine ⟨g1, s1, w1, ?_⟩
    rw [e2] at k2 ⊢
    obtain ⟨d, e, k3⟩ := ofO_some k2
    intro g2 y H2 l2 w2 r2
    obtain ⟨dx, dy, ex, ey, ed⟩ := rd2_some e
    rw [e3] at ex
    cases ex
    simp only [ixD] at ed
    split at ed
    · rename_i hk
      obtain ⟨a, o', rfl, dg, h1, _⟩ := dget_of hk (RepP.c w2 (r1.mono l2) e3) (RepP.c w2 r2 ey)
      obtain ⟨v, rfl, rv⟩ := h1 d ed
      exact ⟨a, v, rfl, dg, k3 g2 v H2 (l1.trans l2) w2 rv⟩
    · cases ed
  · refine (pe_ix ix_seq ho hi hs).run pins s σ H Q I ?_
    refine ⟨g, st, w, ?_⟩
    have k1 := Fin.bind k
    cases e1 : ma st with
    | bad => rw [e1] at k1; exact k1.elim
    | xc x s' => rw [e1] at k1; exact k1
    | ok p s1 =>
      rw [e1] at k1
      intro g1 x H1 l1 w1 r1
      have k2 := Fin.bind k1
      refine ⟨g1, s1, w1, ?_⟩
      cases e2 : mb s1 with
      | bad => rw [e2] at k2; exact k2.elim
      | xc x s' => rw [e2] at k2; exact XC.up l1 k2
      | ok q s2 =>
        rw [e2] at k2
        intro g2 y H2 l2 w2 r2
        obtain ⟨d, e, k3⟩ := ofO_some k2
        obtain ⟨dx, dy, ex, ey, ed⟩ := rd2_some e
        have cx := RepP.c w2 (r1.mono l2) ex
        have cy := RepP.c w2 r2 ey
        have fin : ∀ v, Rep (md X) g2 H2 d v → Q v H2 := fun v r => k3 g2 v H2 (l1.trans l2) w2 r
        cases dx with
        | lst ds =>
          cases dy with
          | int i =>
            obtain ⟨a, xs, rfl, hH, rs⟩ := cx
            obtain ⟨v, h1, h2⟩ := atI_reps rs (show atI ds i = some d from ed)
            exact .inl ⟨a, xs, i, v, rfl, cy, SqL.of hH, h1, fin v h2⟩
          | _ => cases ed
        | fro ds =>
          cases dy with
          | int i =>
            obtain ⟨a, xs, rfl, hH, rs⟩ := cx
            obtain ⟨v, h1, h2⟩ := atI_reps rs (show atI ds i = some d from ed)
            exact .inl ⟨a, xs, i, v, rfl, cy, hH.sq, h1, fin v h2⟩
          | _ => cases ed
        | tup ds =>
          cases dy with
          | int i =>
            obtain ⟨a, xs, rfl, hH, rs⟩ := cx
            obtain ⟨v, h1, h2⟩ := atI_reps rs (show atI ds i = some d from ed)
            exact .inr (.inl ⟨a, xs, i, v, rfl, cy, SqT.of hH, h1, fin v h2⟩)
          | _ => cases ed
        | str z =>
          cases dy with
          | int i =>
            obtain ⟨rfl, ok⟩ := cx
            simp only [ixD] at ed
            split at ed
            · rename_i hz
              cases ec : atI z i with
              | none => rw [ec] at ed; cases ed
              | some c =>
                rw [ec] at ed
                cases ed
                refine .inr (.inr ⟨_, i, c, rfl, cy, by simpa [Str.length, szOk] using hz, ec, fin _ ⟨rfl, fun y hy => ?_⟩⟩)
                have e4 : y = c := by simpa using hy
                rw [e4]
                unfold atI at ec
                cases e5 : ixN z.length i with
                | none => rw [e5] at ec; cases ec
                | some j =>
                  rw [e5] at ec
                  exact ok c (List.mem_of_getElem? ec)
            · cases ed
          | _ => cases ed
        | dct kd kvs => exact (hd ⟨p, s1, q, s2, kd, kvs, e1, e2, ex⟩).elim
        | _ => cases ed
end
end DL
/-! DLx: what changes a list or a dict. -/
namespace DL
open PySem PySem.Spec PyProof.Rows L2
/-- the container at p is changed by f -/
def wrAt (p : Pre) (st : Sts) (f : D → Option D) : Option Sts :=
  let ob (n : Nat) : Option Sts := (st.S[n]?).bind fun d => (f d).map fun d' => ⟨st.ρ, st.S.set n d'⟩
  match p with
  | .s i => (match st.ρ[i]? with
    | some (.own d) => (f d).map fun d' => ⟨st.ρ.set i (.own d'), st.S⟩
    | some (.val (.obj n)) => ob n
    | _ => none)
  | .d (.obj n) => ob n
  | .d _ => none
section
variable {Γ : Md} {b : Base} {g : Gh} {σ : Slots} {H : Hp} {st : Sts}
theorem Wd.writeOwn (w : Wd Γ b g σ H st) {i : Nat} {d d' : D} {a : Addr} {o : HO} (h : st.ρ[i]? = some (.own d)) (ha : σ[i]? = some (some (.ref a))) (c : Cont Γ g (upd H a o) d' a) :
    Wd Γ b g σ (upd H a o) ⟨st.ρ.set i (.own d'), st.S⟩ ∧ Le g H g (upd H a o) := by
  obtain ⟨z, h1, h2⟩ := w.slot i _ h
  rw [ha] at h1; cases h1
  obtain ⟨a', e, c0, nf, na, n0⟩ := h2
  cases e
  obtain ⟨o0, e0, i0⟩ := c0.there
  have l : Le g H g (upd H a o) := Le.write (fun u e => by rw [e0] at e; cases e; exact i0) nf
  refine ⟨⟨by rw [List.length_set]; exact w.len, fun j s e => ?_, fun j k d1 d2 x h1 h2 h3 h4 => ?_, ⟨w.obs.len, fun n d a1 e1 e2 => ?_⟩, ⟨w.gr.F, w.gr.fresh, fun x u e m => ?_, w.gr.as, w.gr.new, fun x f => ?_, fun x m => ?_, w.gr.nd, w.gr.sep⟩, fun q hq => ?_⟩, l⟩
  · by_cases hj : i = j
    · subst hj
      rw [List.getElem?_set_self', h] at e
      cases e
      exact ⟨_, ha, a, rfl, c, nf, na, n0⟩
    · rw [List.getElem?_set_ne hj] at e
      obtain ⟨z, e1, e2⟩ := w.slot j s e
      refine ⟨z, e1, ?_⟩
      cases s with
      | un => trivial
      | val d1 =>
        obtain ⟨v, e3, r⟩ := e2
        exact ⟨v, e3, r.mono l _ _⟩
      | own d1 =>
        obtain ⟨x, e3, c1, nf1, na1, n01⟩ := e2
        have ne : x ≠ a := fun z => by
          subst z
          subst e3
          exact hj (w.dist i j d d1 _ h e ha e1)
        exact ⟨x, e3, c1.mono l (fun u e => by rw [upd_ne ne]; exact e), nf1, na1, n01⟩
  · have own : ∀ {k : Nat} {e : D}, (st.ρ.set i (.own d'))[k]? = some (.own e) → ∃ e', st.ρ[k]? = some (.own e') := fun {k e} z => by
      by_cases hk : i = k
      · subst hk; exact ⟨d, h⟩
      · rw [List.getElem?_set_ne hk] at z; exact ⟨e, z⟩
    obtain ⟨e1, q1⟩ := own h1
    obtain ⟨e2, q2⟩ := own h2
    exact w.dist j k e1 e2 x q1 q2 h3 h4
  · have ne : a1 ≠ a := fun z => by
      subst z
      exact na (List.mem_of_getElem? e2)
    exact (w.obs.at_ n d a1 e1 e2).mono l fun u e => by rw [upd_ne ne]; exact e
  · have ne : x ≠ a := fun z => by
      subst z
      rw [show b.H0 x = some u from e] at n0
      cases n0
    rw [upd_ne ne]
    exact w.gr.keep x u e m
  · by_cases ne : x = a
    · subst ne; exact ⟨o, upd_same⟩
    · rw [upd_ne ne]; exact w.gr.tF x f
  · have ne : x ≠ a := fun z => by
      subst z
      exact na m
    rw [upd_ne ne]
    exact w.gr.tas x m
  · obtain ⟨q1, q2, q3, q4⟩ := w.prot q hq
    have ne : q.1 ≠ a := fun z => q4 i d h (by rw [z]; exact ha)
    refine ⟨by rw [upd_ne ne]; exact q1, q2, q3, fun j d1 e z => ?_⟩
    by_cases hj : i = j
    · subst hj; exact q4 i d h z
    · rw [List.getElem?_set_ne hj] at e
      exact q4 j d1 e z
theorem Wd.writeObs (w : Wd Γ b g σ H st) {n : Nat} {d d' : D} {a : Addr} {o : HO} (h : st.S[n]? = some d) (ha : g.as[n]? = some a) (hi : ¬ imm o) (c : Cont Γ g (upd H a o) d' a) :
    Wd Γ b g σ (upd H a o) ⟨st.ρ, st.S.set n d'⟩ ∧ Le g H g (upd H a o) := by
  have ma : a ∈ g.as := List.mem_of_getElem? ha
  have nf : ¬ g.F a := w.gr.sep a ma
  obtain ⟨o0, e0, i0⟩ := w.gr.tas a ma
  have l : Le g H g (upd H a o) := Le.write (fun u e => by rw [e0] at e; cases e; exact i0) nf
  have hn : n < st.S.length := (List.getElem?_eq_some_iff.mp h).1
  refine ⟨⟨w.len, fun j s e => ?_, w.dist, ⟨by rw [List.length_set]; exact w.obs.len, fun m e x h1 h2 => ?_⟩, ⟨w.gr.F, w.gr.fresh, fun x u e m => ?_, w.gr.as, w.gr.new, fun x f => ?_, fun x m => ?_, w.gr.nd, w.gr.sep⟩, fun q hq => ?_⟩, l⟩
  · obtain ⟨z, e1, e2⟩ := w.slot j s e
    refine ⟨z, e1, ?_⟩
    cases s with
    | un => trivial
    | val d1 =>
      obtain ⟨v, e3, r⟩ := e2
      exact ⟨v, e3, r.mono l _ _⟩
    | own d1 =>
      obtain ⟨x, e3, c1, nf1, na1, n01⟩ := e2
      have ne : x ≠ a := fun z => by
        subst z
        exact na1 ma
      exact ⟨x, e3, c1.mono l (fun u e => by rw [upd_ne ne]; exact e), nf1, na1, n01⟩
  · by_cases hm : n = m
    · subst hm
      rw [List.getElem?_set_self hn] at h1
      rw [ha] at h2
      cases h1
      cases h2
      exact c
    · rw [List.getElem?_set_ne hm] at h1
      have ne : x ≠ a := fun z => by
        subst z
        obtain ⟨hn1, e1⟩ := List.getElem?_eq_some_iff.mp ha
        obtain ⟨hm1, e2⟩ := List.getElem?_eq_some_iff.mp h2
        exact hm ((List.getElem_inj w.gr.nd).mp (e1.trans e2.symm))
      exact (w.obs.at_ m e x h1 h2).mono l fun u e => by rw [upd_ne ne]; exact e
  · by_cases ne : x = a
    · subst ne
      rcases w.gr.new x ma with z | z
      · exact absurd z m
      · rw [show b.H0 x = some u from e] at z; cases z
    · rw [upd_ne ne]
      exact w.gr.keep x u e m
  · have ne : x ≠ a := fun z => by
      subst z
      exact nf f
    rw [upd_ne ne]
    exact w.gr.tF x f
  · by_cases ne : x = a
    · subst ne; exact ⟨o, upd_same, hi⟩
    · rw [upd_ne ne]; exact w.gr.tas x m
  · obtain ⟨q1, q2, q3, q4⟩ := w.prot q hq
    have ne : q.1 ≠ a := fun z => q3 (by rw [z]; exact ma)
    exact ⟨by rw [upd_ne ne]; exact q1, q2, q3, q4⟩
/-- a change, in the state -/
theorem wr_ok (w : Wd Γ b g σ H st) {p : Pre} {v : V} (r : RepP Γ g σ H p v) {f : D → Option D} {okc : Sts → Prop} (h : FinO okc (wrAt p st f)) :
    ∃ a d d', v = .ref a ∧ ¬ g.F a ∧ Cont Γ g H d a ∧ f d = some d' ∧ ∀ o, ¬ imm o → Cont Γ g (upd H a o) d' a → ∃ st', okc st' ∧ Wd Γ b g σ (upd H a o) st' ∧ Le g H g (upd H a o) := by
  have ob : ∀ (n : Nat), (∃ a, v = .ref a ∧ g.as[n]? = some a) → FinO okc ((st.S[n]?).bind fun d => (f d).map fun d' => (⟨st.ρ, st.S.set n d'⟩ : Sts)) →
      ∃ a d d', v = .ref a ∧ ¬ g.F a ∧ Cont Γ g H d a ∧ f d = some d' ∧ ∀ o, ¬ imm o → Cont Γ g (upd H a o) d' a → ∃ st', okc st' ∧ Wd Γ b g σ (upd H a o) st' ∧ Le g H g (upd H a o) := fun n ⟨a, e, ha⟩ h => by
    cases eS : st.S[n]? with
    | none => rw [eS] at h; exact h.elim
    | some d =>
      rw [eS] at h
      have h' : FinO okc ((f d).map fun d' => (⟨st.ρ, st.S.set n d'⟩ : Sts)) := h
      cases ef : f d with
      | none => rw [ef] at h'; exact h'.elim
      | some d' =>
        rw [ef] at h'
        exact ⟨a, d, d', e, w.gr.sep a (List.mem_of_getElem? ha), w.obs.at_ n d a eS ha, ef, fun o hi c => ⟨_, h', w.writeObs eS ha hi c⟩⟩
  cases p with
  | d d0 =>
    cases d0 with
    | obj n => exact ob n r h
    | _ => exact h.elim
  | s i =>
    have r : σ[i]? = some (some v) := r
    cases q : st.ρ[i]? with
    | none => simp only [wrAt, q] at h; exact h.elim
    | some s =>
      cases s with
      | un => simp only [wrAt, q] at h; exact h.elim
      | own d =>
        simp only [wrAt, q] at h
        obtain ⟨z, h1, h2⟩ := w.slot i _ q
        rw [r] at h1
        cases h1
        obtain ⟨a, e, c0, nf, _⟩ := h2
        cases e
        cases ef : f d with
        | none => rw [ef] at h; exact h.elim
        | some d' =>
          rw [ef] at h
          exact ⟨a, d, d', rfl, nf, c0, ef, fun o _ c => ⟨_, h, w.writeOwn q r c⟩⟩
      | val d =>
        obtain ⟨z, h1, h2⟩ := w.slot i _ q
        rw [r] at h1
        cases h1
        obtain ⟨v', e, rv⟩ := h2
        cases e
        cases d with
        | obj n =>
          simp only [wrAt, q] at h
          exact ob n rv h
        | _ => simp only [wrAt, q] at h; exact h.elim
end
/-! ### append, extend, pop, a store -/
def appD (y : D) : D → Option D
  | .lst ds => if ds.length < sizeLine then some (.lst (ds ++ [y])) else none
  | _ => none
def extD (y : D) : D → Option D
  | .lst ds => (match y with
    | .lst es => if szOk (ds.length + es.length) then some (.lst (ds ++ es)) else none
    | _ => none)
  | _ => none
def setAtD (i v : D) : D → Option D
  | .lst ds => (match i with
    | .int k => (ixN ds.length k).map fun j => .lst (ds.set j v)
    | _ => none)
  | .dct k kvs => if goodKey k i = true ∧ kvs.length < sizeLine then some (.dct k (putD k kvs i v)) else none
  | _ => none
/-- o.append(e) as a statement; e by values -/
def sMut (mo : EP') (me : E) (f : D → D → Option D) : C := fun st => ouF (mo st) fun p s1 => ouF (me s1) fun d s2 => nxO (wrAt p s2 (f d))
section
variable {X : Cx} {b : Base} {W : WX} {o : Bool}
theorem ouF_ou {α : Type} {E : Ends} {g : Gh} {H : Hp} {m : Ou α} {k : α → Sts → Fl} (h : FinS (md X) b W o E g H (ouF m k)) (σ : Slots) : Fin (fun a s => FinS (md X) b W o E g H (k a s)) (XC (md X) b W g H σ) m := FinS.ou h σ
theorem Cont.ty {Γ : Md} {g : Gh} {H : Hp} {ds : List D} {a : Addr} (c : Cont Γ g H (.lst ds) a) : tyV Γ.K "list" (.ref a) H := by
  obtain ⟨xs, q, _⟩ := c
  exact .inl ⟨rfl, xs, SqL.of q⟩
/-- what a receiver is ahead of its argument -/
theorem rd_ty {Γ : Md} {g : Gh} {σ : Slots} {H : Hp} {st : Sts} (w : Wd Γ b g σ H st) {p : Pre} {v : V} {ds : List D} (r : RepP Γ g σ H p v) (h : rd p st = some (.lst ds)) : tyV Γ.K "list" v H := by
  obtain ⟨a, xs, rfl, q, _⟩ := RepP.c w r h
  exact .inl ⟨rfl, xs, SqL.of q⟩
/-- the receiver is a list -/
def isL (p : Pre) (st : Sts) : Bool := match rd p st with
  | some (.lst _) => true
  | _ => false
def sMutL (mo : EP') (me : E) (f : D → D → Option D) : C := fun st => ouF (mo st) fun p s1 => if isL p s1 then ouF (me s1) fun d s2 => nxO (wrAt p s2 (f d)) else .bad
theorem isL_some {p : Pre} {st : Sts} (h : isL p st = true) : ∃ ds, rd p st = some (.lst ds) := by
  unfold isL at h
  split at h
  · exact ⟨_, by assumption⟩
  · cases h
theorem mutL_core {r : V → List V → Hp → VK → Prop} {mo : EP'} {me : E} {f : D → D → Option D} {D0 : Ends} {σ : Slots} {H : Hp} {g : Gh} {st : Sts} (w : Wd (md X) b g σ H st) (k : FinS (md X) b W o D0 g H (sMutL mo me f st))
    (hr : ∀ (g2 : Gh) (H2 : Hp) (v : V) (a : Addr) (d dx dx' : D) (Q : VK), Rep (md X) g2 H2 d v → Cont (md X) g2 H2 dx a → f d dx = some dx' → (∀ o', ¬ imm o' → Cont (md X) g2 (upd H2 a o') dx' a → Q .non (upd H2 a o')) → TF g2 H2 → ¬ g2.F a → r (.ref a) [v] H2 Q) :
    tBM X.K "list" r (TDp (md X) b W mo) (TDa (md X) b W (eArgs [me])) σ H fun _ H1 => D0.nx σ H1 := by
  refine ⟨g, st, w, (FinS.ou k σ).imp (fun p s1 k1 g1 x H1 l1 w1 r1 => ?_) fun _ _ q => q⟩
  by_cases hl : isL p s1 = true
  · rw [if_pos hl] at k1
    obtain ⟨ds, hd⟩ := isL_some hl
    refine ⟨rd_ty w1 r1 hd, g1, s1, w1, ?_⟩
    have k2 := FinS.ou k1 σ
    cases em : me s1 with
    | bad => rw [em] at k2; exact k2.elim
    | xc y s' =>
      rw [em] at k2
      rw [show eArgs [me] s1 = .xc y s' by simp [eArgs, em, Ou.bind]]
      exact XC.up l1 k2
    | ok d s2 =>
      rw [em] at k2
      rw [show eArgs [me] s1 = .ok [d] s2 by simp [eArgs, em, Ou.bind]]
      intro g2 vs H2 l2 w2 r2
      obtain ⟨v, vr, rfl, rv, hz⟩ := r2
      cases (show vr = [] from hz)
      obtain ⟨a, dx, dx', rfl, nfa, c, hf, hk⟩ := wr_ok w2 (r1.mono l2) (nxO_some k2)
      refine hr g2 H2 v a d dx dx' _ rv c hf (fun o' hi c' => ?_) w2.gr.tF nfa
      obtain ⟨st', q, w', l'⟩ := hk o' hi c'
      exact q g2 σ _ ((l1.trans l2).trans l') w'
  · rw [if_neg hl] at k1
    exact k1.elim
theorem ds_append {oe e : Expr} {apos cpos pos : Pos} {mo : EP'} {me : E} (ho : DA X b W oe mo) (he : DE X b W e me) (hsw : swapsWith (.Call (.Attribute oe "append" apos) [e] [] cpos) none pos.line X.env = pure false := by rfl)
    (hbase : attributeBase oe "append" X.env (eval oe X.env) = eval oe X.env := by rfl)
    (hfew : ((backTo cpos (starEach [e] X.env)).all (fun x => !x.1) && (backToKw cpos (keywordEach [] X.env)).all (fun x => x.1.isSome) && decide (([e] : List Expr).length + ([] : List Keyword).length + (if ([] : List Keyword).isEmpty then 0 else 1) < 30)) = true := by rfl)
    (hline : (apos.endLine == cpos.line) = true := by rfl) (hs : starEach [e] X.env = (false, eval e X.env) :: starEach [] X.env := by rfl) (hplain : (backTo cpos (starEach [] X.env)).any (·.1) = false := by rfl) :
    DS X b W o (.Expr (.Call (.Attribute oe "append" apos) [e] [] cpos) pos) (sMutL mo me appD) := by
  refine PS.imp (ps_expr (pe_bm PySem.F.plainAttrs_list PySem.F.slot_list_append PySem.F.type_list_append mt_append ho (dargs_cons he dargs_nil hs) hbase hfew hline hs hplain) hsw) fun D0 σ H ⟨g, st, w, k⟩ => mutL_core w k fun g2 H2 v a d dx dx' Q rv c hf hk tF nf => ?_
  cases dx with
  | lst ds =>
    obtain ⟨xs, hH, rs⟩ := c
    simp only [appD] at hf
    split at hf
    · rename_i hz
      cases hf
      refine ⟨a, xs, v, rfl, rfl, hH, by rw [rs.length]; exact hz, hk _ id ⟨_, upd_same, ?_⟩⟩
      have l : Le g2 H2 g2 (upd H2 a (.lst (xs ++ [v]))) := Le.write (fun u e => by rw [hH] at e; cases e; exact id) nf
      exact Reps.append (Reps.mono l _ _ rs) (Reps.one (rv.mono l _ _))
    · cases hf
  | _ => cases hf
theorem ds_extend {oe e : Expr} {apos cpos pos : Pos} {mo : EP'} {me : E} (ho : DA X b W oe mo) (he : DE X b W e me) (hsw : swapsWith (.Call (.Attribute oe "extend" apos) [e] [] cpos) none pos.line X.env = pure false := by rfl)
    (hbase : attributeBase oe "extend" X.env (eval oe X.env) = eval oe X.env := by rfl)
    (hfew : ((backTo cpos (starEach [e] X.env)).all (fun x => !x.1) && (backToKw cpos (keywordEach [] X.env)).all (fun x => x.1.isSome) && decide (([e] : List Expr).length + ([] : List Keyword).length + (if ([] : List Keyword).isEmpty then 0 else 1) < 30)) = true := by rfl)
    (hline : (apos.endLine == cpos.line) = true := by rfl) (hs : starEach [e] X.env = (false, eval e X.env) :: starEach [] X.env := by rfl) (hplain : (backTo cpos (starEach [] X.env)).any (·.1) = false := by rfl) :
    DS X b W o (.Expr (.Call (.Attribute oe "extend" apos) [e] [] cpos) pos) (sMutL mo me extD) := by
  refine PS.imp (ps_expr (pe_bm PySem.F.plainAttrs_list PySem.F.slot_list_extend PySem.F.type_list_extend mt_extend ho (dargs_cons he dargs_nil hs) hbase hfew hline hs hplain) hsw) fun D0 σ H ⟨g, st, w, k⟩ => mutL_core w k fun g2 H2 v a d dx dx' Q rv c hf hk tF nf => ?_
  cases dx with
  | lst ds =>
    obtain ⟨xs, hH, rs⟩ := c
    cases d with
    | lst es =>
      obtain ⟨c, ys, rfl, ⟨_, hY⟩, ry⟩ := rv
      simp only [extD] at hf
      split at hf
      · rename_i hz
        cases hf
        refine ⟨a, c, xs, ys, rfl, rfl, hH, hY, by rw [rs.length, ry.length]; exact hz, hk _ id ⟨_, upd_same, ?_⟩⟩
        have l : Le g2 H2 g2 (upd H2 a (.lst (xs ++ ys))) := Le.write (fun u e => by rw [hH] at e; cases e; exact id) nf
        exact Reps.append (Reps.mono l _ _ rs) (Reps.mono l _ _ ry)
      · cases hf
    | _ => cases hf
  | _ => cases hf
/-- o[i] = e, the target -/
def tgSub (mo : EP') (mi : E) : Tg := fun d st => match mo st with
  | .ok p s1 => (match mi s1 with
    | .ok i s2 => wrAt p s2 (setAtD i d)
    | _ => none)
  | _ => none
theorem dg_sub {oe i : Expr} {pos : Pos} {mo : EP'} {mi : E} (hu : X.A.units + 1 < cLine) (ho : DA X b W0 oe mo) (hi : DE X b W0 i mi)
    (ha : ∀ v, assign (.Subscript oe i pos) X.env v = (do
      let ov ← holding [v] (eval oe X.env)
      let iv ← holding [v, ov] (eval i X.env)
      standAt pos
      holding [v, ov, iv] (setItem ov iv v)
      release [v, ov, iv] []) := by intro _; rfl) : DG X b (.Subscript oe i pos) (tgSub mo mi) := by
  have hboth : PSet X (fun oo ii v H Q => rSetL oo ii v H Q ∨ rSetD oo ii v H Q) := by
    intro pins s σ H oo ii v ov iv u Q I ro ri rv h
    rcases h with h | h
    · exact set_list pins s σ H oo ii v ov iv u Q I ro ri rv h
    · exact set_dict hu pins s σ H oo ii v ov iv u Q I ro ri rv h
  refine PG.imp (pg_sub ho hi hboth ha) fun v σ H Q ⟨g, st, d, w, rd, k⟩ => ⟨g, st, w, ?_⟩
  unfold tgSub at k
  cases e1 : mo st with
  | bad => rw [e1] at k; exact k.elim
  | xc x s' => rw [e1] at k; exact k.elim
  | ok p s1 =>
    rw [e1] at k
    intro g1 x H1 l1 w1 r1
    refine ⟨g1, s1, w1, ?_⟩
    cases e2 : mi s1 with
    | bad => simp only [e2] at k; exact k.elim
    | xc x s' => simp only [e2] at k; exact k.elim
    | ok i s2 =>
      simp only [e2] at k
      intro g2 y H2 l2 w2 r2
      obtain ⟨a, dx, dx', rfl, nfa, c, hf, hk⟩ := wr_ok w2 (r1.mono l2) k
      have fin : ∀ o', ¬ imm o' → Cont (md X) g2 (upd H2 a o') dx' a → Q σ (upd H2 a o') := fun o' hi c' => by
        obtain ⟨st', q, w', l'⟩ := hk o' hi c'
        exact q g2 σ _ ((l1.trans l2).trans l') w'
      have rd2 := rd.mono (l1.trans l2) _ _
      cases dx with
      | lst ds =>
        obtain ⟨xs, hH, rs⟩ := c
        cases i with
        | int z =>
          cases (show y = .int z from r2)
          simp only [setAtD] at hf
          cases ej : ixN ds.length z with
          | none => rw [ej] at hf; cases hf
          | some j =>
            rw [ej] at hf
            cases hf
            have l : Le g2 H2 g2 (upd H2 a (.lst (xs.set j v))) := Le.write (fun u e => by rw [hH] at e; cases e; exact id) nfa
            refine .inl ⟨a, xs, z, j, rfl, rfl, hH, by rw [rs.length]; exact ej, fin _ id ⟨_, upd_same, ?_⟩⟩
            have go : ∀ {ds : List D} {vs : List V} {Hz : Hp} (j : Nat), Reps (md X) g2 Hz ds vs → Rep (md X) g2 Hz d v → Reps (md X) g2 Hz (ds.set j d) (vs.set j v) := by
              intro ds
              induction ds with
              | nil => intro vs Hz j h _; rw [show vs = [] from h]; rfl
              | cons e es ih =>
                intro vs Hz j h r
                obtain ⟨u, ur, rfl, q1, q2⟩ := h
                cases j with
                | zero => exact ⟨v, ur, rfl, r, q2⟩
                | succ j => exact ⟨u, _, rfl, q1, ih j q2 r⟩
            exact go j (Reps.mono l _ _ rs) (rd2.mono l _ _)
        | _ => cases hf
      | dct kd kvs =>
        simp only [setAtD] at hf
        split at hf
        · rename_i hg
          cases hf
          cases kd with
          | K =>
            obtain ⟨ks, hH, rk⟩ := c
            cases ek : keyOf i with
            | none => simp [goodKey, ek] at hg
            | some kk =>
              obtain ⟨rfl, ok⟩ := keyOf_rep ek r2.c
              have ei := keyOf_of ek
              subst ei
              have l : Le g2 H2 g2 (upd H2 a (.dK (putK ks kk v))) := Le.write (fun u e => by rw [hH] at e; cases e; exact id) nfa
              refine .inr ⟨a, _, rfl, DPut.k hH (by rw [rk.length]; exact hg.2), fin _ id ⟨_, upd_same, put_K ok (rd2.mono l _ _) (RepK.mono l _ _ rk)⟩⟩
          | T =>
            obtain ⟨ks, hH, rk⟩ := c
            cases i with
            | tup es =>
              cases ek : keysOf es with
              | none => simp [goodKey, ek] at hg
              | some kk =>
                obtain ⟨p', xs, rfl, hT, rs⟩ := r2
                obtain ⟨rfl, ok⟩ := keysOf_rep ek rs
                have ei := keysOf_of ek
                subst ei
                have l : Le g2 H2 g2 (upd H2 a (.dT (putK ks kk v))) := Le.write (fun u e => by rw [hH] at e; cases e; exact id) nfa
                refine .inr ⟨a, _, rfl, DPut.t hH hT (by rw [rk.length]; exact hg.2), fin _ id ⟨_, upd_same, put_T ok (rd2.mono l _ _) (RepT.mono l _ _ rk)⟩⟩
            | _ => simp [goodKey] at hg
          | N => simp [goodKey] at hg
        · cases hf
      | _ => cases hf
end
end DL
/-! DLy: more operations by values: *, in, is, len, slices, join, displays. -/
namespace DL
open PySem PySem.Spec PyProof.Rows L2
/-! ### new containers by values -/
def OpDo (X : Cx) (f : Value → Value → Sem Value) (op : D → D → Option D) : Prop :=
  OpR X f fun x y H Q => ∃ g dx dy d, TF g H ∧ CRep (md X) g H dx x ∧ CRep (md X) g H dy y ∧ op dx dy = some d ∧ ∀ p o, H p = none → Cont (md X) g (upd H p o) d p → Q (.ref p) (upd H p o)
def CallDo (X : Cx) (f : Value) (op : List D → Option D) : Prop :=
  CallR X f fun xs H Q => ∃ g ds d, TF g H ∧ CReps (md X) g H ds xs ∧ op ds = some d ∧ ∀ p o, H p = none → Cont (md X) g (upd H p o) d p → Q (.ref p) (upd H p o)
section
variable {X : Cx} {b : Base} {W : WX}
theorem Wd.new {Γ : Md} {g g0 : Gh} {σ : Slots} {H H0 : Hp} {st : Sts} (l : Le g0 H0 g H) (w : Wd Γ b g σ H st) {d : D} {Q : VK}
    (k : ∀ g' a H', Le g0 H0 g' H' → Wd Γ b g' σ H' st → Cont Γ g' H' d a → ¬ g'.F a → a ∉ g'.as → b.H0 a = none → (∀ (j : Nat) e, st.ρ[j]? = some (.own e) → σ[j]? ≠ some (some (.ref a))) → (∀ p ∈ b.P, p.1 ≠ a) → Q (.ref a) H') :
    ∀ p o, H p = none → Cont Γ g (upd H p o) d p → Q (.ref p) (upd H p o) := fun p o np c => by
  have al := Al.laid w.gr.tF np o
  exact k g p _ (l.trans al.le) (w.al al) c (w.notF np) (w.notAs np) (w.not0 np) (w.notOwn np) (w.notProt np)
theorem do_bin {a c : Expr} {op : Operator} {f : D → D → Option D} {ma mb : EP'} {pos : Pos} (ho : OpDo X (binaryOp op) f) (ha : DA X b W a ma) (hb : DA X b W c mb) : DO X b W (.BinOp a op c pos) (eBin f ma mb) := by
  refine PE.imp (pe_op ho ha hb) fun σ H Q ⟨g, st, w, k⟩ => ?_
  refine ⟨g, st, w, (Fin.bind k).imp (fun p s1 k1 g1 x H1 l1 w1 r1 => ?_) fun _ _ q => q⟩
  refine ⟨g1, s1, w1, (Fin.bind k1).imp (fun q s2 k2 g2 y H2 l2 w2 r2 => ?_) fun _ _ q => q.up l1⟩
  obtain ⟨d, e, k3⟩ := ofO_some k2
  obtain ⟨dx, dy, ex, ey, ed⟩ := rd2_some e
  exact ⟨g2, dx, dy, d, w2.gr.tF, RepP.c w2 (r1.mono l2) ex, RepP.c w2 r2 ey, ed, w2.new (l1.trans l2) k3⟩
theorem funO_by {ms : List EP'} {f : List D → Option D} {r : List V → Hp → VK → Prop}
    (hr : ∀ xs H Q, (∃ g ds d, TF g H ∧ CReps (md X) g H ds xs ∧ f ds = some d ∧ ∀ p o, H p = none → Cont (md X) g (upd H p o) d p → Q (.ref p) (upd H p o)) → r xs H Q) {σ : Slots} {H : Hp} {Q : VK} (h : TDo (md X) b W (eFun f ms) σ H Q) :
    tCB r (TDaP (md X) b W (eArgsP ms)) σ H Q := by
  obtain ⟨g, st, w, k⟩ := h
  refine ⟨g, st, w, (Fin.bind k).imp (fun ps s1 k1 g1 xs H1 l1 w1 r1 => ?_) fun _ _ q => q⟩
  obtain ⟨d, e, k3⟩ := ofO_some k1
  cases e1 : rdL ps s1 with
  | none => rw [e1] at e; cases e
  | some ds =>
    rw [e1] at e
    exact hr xs H1 Q ⟨g1, ds, d, w1.gr.tF, CReps.of w1 r1 e1, e, w1.new l1 k3⟩
theorem do_fun {x : Str} {id : String} {p pos : Pos} {e : Expr} {es : List Expr} {f : List D → Option D} {ms : List EP'} (hc : CallDo X (.builtin id) f) (hg : Gl X x) (hm : X.mg x = none) (hv : bootBuiltins x = some (.builtin id)) (ha : PA X (e :: es) (TDaP (md X) b W (eArgsP ms)))
    (hn : x ≠ "__name__" := by decide +kernel) (hdb : (x == ("__debug__" : Str)) = false := by decide +kernel) (he : starEach (e :: es) X.env = (false, eval e X.env) :: starEach es X.env := by rfl) (hpl : (backTo pos (starEach es X.env)).any (·.1) = false := by rfl) :
    DO X b W (.Call (.Name x p) (e :: es) [] pos) (eFun f ms) := PE.imp (pe_callB hc hg hm hv ha hn hdb he hpl) fun _ _ _ h => funO_by (fun _ _ _ z => z) h
theorem do_funT {x : Str} {id : String} {p pos : Pos} {e : Expr} {es : List Expr} {f : List D → Option D} {ms : List EP'} (hc : CallDo X (.type id) f) (hg : Gl X x) (hm : X.mg x = none) (hv : bootBuiltins x = some (.type id)) (ha : PA X (e :: es) (TDaP (md X) b W (eArgsP ms)))
    (hn : x ≠ "__name__" := by decide +kernel) (hdb : (x == ("__debug__" : Str)) = false := by decide +kernel) (he : starEach (e :: es) X.env = (false, eval e X.env) :: starEach es X.env := by rfl) (hpl : (backTo pos (starEach es X.env)).any (·.1) = false := by rfl) :
    DO X b W (.Call (.Name x p) (e :: es) [] pos) (eFun f ms) := PE.imp (pe_callTy hc hg hm hv ha hn hdb he hpl) fun _ _ _ h => funO_by (fun _ _ _ z => z) h
theorem de_funT {x : Str} {id : String} {p pos : Pos} {e : Expr} {es : List Expr} {f : List D → Option D} {ms : List EP'} (hc : CallD X (.type id) f) (hg : Gl X x) (hm : X.mg x = none) (hv : bootBuiltins x = some (.type id)) (ha : PA X (e :: es) (TDaP (md X) b W (eArgsP ms)))
    (hn : x ≠ "__name__" := by decide +kernel) (hdb : (x == ("__debug__" : Str)) = false := by decide +kernel) (he : starEach (e :: es) X.env = (false, eval e X.env) :: starEach es X.env := by rfl) (hpl : (backTo pos (starEach es X.env)).any (·.1) = false := by rfl) :
    DE X b W (.Call (.Name x p) (e :: es) [] pos) (eFun f ms) := PE.imp (pe_callTy hc hg hm hv ha hn hdb he hpl) fun _ _ _ h => fun_by (fun _ _ _ z => z) h
end
/-! ### * -/
def mulOk (i j : Int) : Bool := decide (i.natAbs < 2 ^ 64) || decide (j.natAbs < 2 ^ 64) || decide (i.natAbs.log2 + j.natAbs.log2 < 1000000)
def smallI (j : Int) : Bool := decide (-(2 ^ 62) ≤ j) && decide (j < 2 ^ 62)
def repS (x : List Nat) (j : Int) : List Nat := (List.replicate j.toNat x).flatten
def mulD : D → D → Option D
  | .int i, .int j => if mulOk i j then some (.int (i * j)) else none
  | .str x, .int j => if smallI j = true ∧ szOk (x.length * j.toNat) then some (.str (repS x j)) else none
  | _, _ => none
def repD : D → D → Option D
  | .lst xs, .int j => if smallI j = true ∧ szOk (xs.length * j.toNat) then some (.lst (List.replicate j.toNat xs).flatten) else none
  | _, _ => none
def catD : D → D → Option D
  | .lst x, .lst y => if szOk (x.length + y.length) then some (.lst (x ++ y)) else none
  | _, _ => none
section
variable {X : Cx}
theorem flat_foldl (x : Array Nat) : ∀ (n : Nat) (a : Array Nat), ((List.replicate n x).foldl (· ++ ·) a) = ⟨a.toList ++ (List.replicate n x.toList).flatten⟩
  | 0, a => by simp
  | n + 1, a => by
    rw [List.replicate_succ, List.foldl_cons, flat_foldl x n, List.replicate_succ, List.flatten_cons]
    simp
theorem rep1 (x : List Nat) : (List.replicate 1 x).flatten = x := by simp
theorem repS_ok {x : List Nat} {j : Int} (h : okS x) : okS (repS x j) := fun c hc => by
  unfold repS at hc
  rw [List.mem_flatten] at hc
  obtain ⟨l, h1, h2⟩ := hc
  rw [(List.mem_replicate.mp h1).2] at h2
  exact h c h2
theorem opd_mul : OpD X (binaryOp .Mult) mulD := by
  intro pins s σ H x y v u Q I rx ry ⟨g, dx, dy, d, tF, cx, cy, e, k⟩
  cases dx with
  | int i =>
    cases dy with
    | int j =>
      simp only [mulD] at e
      split at e
      · rename_i h
        cases e
        simp only [mulOk, Bool.or_eq_true, decide_eq_true_eq] at h
        rcases h with (h | h) | h
        · exact op_mul pins s σ H x y v u Q I rx ry ⟨i, j, cx, cy, .inl (by constructor <;> omega), k g _ H (Al.refl tF) rfl⟩
        · exact op_mul pins s σ H x y v u Q I rx ry ⟨i, j, cx, cy, .inr (by constructor <;> omega), k g _ H (Al.refl tF) rfl⟩
        · exact op_mulW pins s σ H x y v u Q I rx ry ⟨i, j, cx, cy, h, k g _ H (Al.refl tF) rfl⟩
      · cases e
    | _ => cases e
  | str a =>
    cases dy with
    | int j =>
      simp only [mulD] at e
      split at e
      · rename_i h
        cases e
        obtain ⟨hs, hz⟩ := h
        simp only [smallI, Bool.and_eq_true, decide_eq_true_eq] at hs
        obtain ⟨rfl, ok⟩ := cx
        cases (show y = .int j from cy)
        obtain ⟨t, rfl⟩ := rx
        obtain ⟨t', rfl⟩ := ry
        have hz' : a.length * j.toNat ≤ sizeLine := hz
        have esz : (sizeLine : Nat) < 2 ^ 62 := by decide
        have fin : ∀ tk (s' : Shared), Inv X pins σ H s' → ∀ z : Str, z = ⟨(repS a j).toArray⟩ → EP X pins σ Q (.str z tk) s' := fun tk s' I' z ez => by
          subst ez
          exact ⟨.str ⟨(repS a j).toArray⟩, H, I', ⟨tk, rfl⟩, k g _ H (Al.refl tF) ⟨rfl, repS_ok ok⟩⟩
        have hsz : (⟨a.toArray⟩ : Str).length = a.length := by simp [Str.length]
        refine PySem.P.mul_str ?_ ?_ ?_ ?_
        · simp; omega
        · intro h1 h2 h3
          rw [hsz] at h2 h3
          simp at h2
          have hj : 1 ≤ j := by omega
          have hl : 1 ≤ a.length := by
            cases a with
            | nil => simp at h2
            | cons _ _ => simp
          have h4 : (2 ^ 63 - 1) / j < (a.length : Int) := h3
          rw [Int.ediv_lt_iff_lt_mul (by omega)] at h4
          have h5 : ((a.length * j.toNat : Nat) : Int) = (a.length : Int) * j := by
            rw [Int.natCast_mul, Int.toNat_of_nonneg (by omega)]
          omega
        · intro _ _
          rw [hsz]
          unfold Builtin.Str.tooLong
          simpa using hz'
        · by_cases h1 : j < 1
          · rw [if_pos h1]
            refine ⟨by decide, fin _ _ (I.tok _) _ ?_⟩
            have : j.toNat = 0 := by omega
            simp [repS, this]
            rfl
          · rw [if_neg h1]
            by_cases h2 : (j == 1 || (⟨a.toArray⟩ : Str).length == 0) = true
            · rw [if_pos h2]
              refine fin _ _ I _ ?_
              rw [hsz] at h2
              simp at h2
              rcases h2 with h2 | h2
              · subst h2; simp [repS]
              · subst h2; simp [repS]
            · rw [if_neg h2]
              refine ⟨?_, fin _ _ (I.tok _) _ ?_⟩
              · show (Array.size _) ≤ _
                rw [flat_foldl]
                simpa [List.length_flatten] using (by rw [Nat.mul_comm]; exact hz')
              · rw [flat_foldl]
                simp [repS]
      · cases e
    | _ => cases e
  | _ => cases e
theorem reps_rep {Γ : Md} {g : Gh} {H : Hp} {xs : List D} {vs : List V} (h : Reps Γ g H xs vs) : ∀ n, Reps Γ g H (List.replicate n xs).flatten (List.replicate n vs).flatten
  | 0 => rfl
  | n + 1 => by
    rw [List.replicate_succ, List.flatten_cons, List.replicate_succ, List.flatten_cons]
    exact h.append (reps_rep h n)
theorem opo_rep : OpDo X (binaryOp .Mult) repD := by
  intro pins s σ H x y v u Q I rx ry ⟨g, dx, dy, d, tF, cx, cy, e, k⟩
  cases dx with
  | lst xs =>
    cases dy with
    | int j =>
      simp only [repD] at e
      split at e
      · rename_i h
        cases e
        obtain ⟨hs, hz⟩ := h
        simp only [smallI, Bool.and_eq_true, decide_eq_true_eq] at hs
        obtain ⟨a, vs, rfl, h1, r1⟩ := cx
        cases (show y = .int j from cy)
        refine op_rep pins s σ H _ _ v u Q I rx ry ⟨a, j, vs, rfl, rfl, h1, by omega, by omega, by rw [r1.length]; exact hz, fun p np => k p _ np ⟨_, upd_same, ?_⟩⟩
        exact reps_rep (Reps.mono (Al.laid tF np (.lst (List.replicate j.toNat vs).flatten)).le _ _ r1) _
      · cases e
    | _ => cases e
  | _ => cases e
theorem opo_cat : OpDo X (binaryOp .Add) catD := by
  intro pins s σ H x y v u Q I rx ry ⟨g, dx, dy, d, tF, cx, cy, e, k⟩
  cases dx with
  | lst a =>
    cases dy with
    | lst c =>
      simp only [catD] at e
      split at e
      · rename_i hz
        cases e
        obtain ⟨p, xs, rfl, h1, r1⟩ := cx
        obtain ⟨q, ys, rfl, h2, r2⟩ := cy
        refine op_cat pins s σ H _ _ v u Q I rx ry ⟨p, q, xs, ys, rfl, rfl, h1, h2, by rw [r1.length, r2.length]; exact hz, fun w nw => k w _ nw ⟨_, upd_same, Reps.mono (Al.laid tF nw _).le _ _ (r1.append r2)⟩⟩
      · cases e
    | _ => cases e
  | _ => cases e
end
/-! ### is -/
def isD : D → D → Option D
  | .fn _, _ => none
  | .non, .non => some (.bl true)
  | _, .non => some (.bl false)
  | .bl a, .bl c => some (.bl (decide (a = c)))
  | _, _ => none
def notD (d : D) : Option D := match d with
  | .bl k => some (.bl (!k))
  | _ => none
def isNotD (x y : D) : Option D := (isD x y).bind notD
section
variable {X : Cx}
theorem notNon {Γ : Md} {g : Gh} {H : Hp} {d : D} {v : V} (h : CRep Γ g H d v) (h1 : ∀ x, d ≠ .fn x) : v = .non → d = .non := fun e => by
  subst e
  cases d with
  | non => rfl
  | bl _ => cases h
  | int _ => cases h
  | str _ => obtain ⟨e, _⟩ := h; cases e
  | tup _ => obtain ⟨a, xs, e, _⟩ := h; cases e
  | lst _ => obtain ⟨a, xs, e, _⟩ := h; cases e
  | fro _ => obtain ⟨a, xs, e, _⟩ := h; cases e
  | dct k _ =>
    cases k with
    | K => obtain ⟨a, xs, e, _⟩ := h; cases e
    | T => obtain ⟨a, xs, e, _⟩ := h; cases e
    | N => exact h.elim
  | ins _ _ => obtain ⟨a, C, dx, vs, e, _⟩ := h; cases e
  | obj _ => obtain ⟨a, e, _⟩ := h; cases e
  | fn x => exact absurd rfl (h1 x)
theorem isD_some {x y d : D} (h : isD x y = some d) : (y = .non ∧ (∀ z, x ≠ .fn z) ∧ ∃ k, d = .bl k ∧ (k = true ↔ x = .non)) ∨ ∃ a c, x = .bl a ∧ y = .bl c ∧ d = .bl (decide (a = c)) := by
  cases y with
  | non =>
    left
    refine ⟨rfl, ?_⟩
    cases x <;> first | (cases h; done) | (cases h; exact ⟨(by intro z q; cases q), _, rfl, by simp⟩)
  | bl c =>
    cases x with
    | bl a => cases h; exact .inr ⟨a, c, rfl, rfl, rfl⟩
    | _ => cases h
  | _ => cases x <;> cases h
theorem opd_is : OpD X (compareOp .Is) isD := by
  intro pins s σ H x y v u Q I rx ry ⟨g, dx, dy, d, tF, cx, cy, e, k⟩
  rcases isD_some e with ⟨rfl, h1, c, rfl, h2⟩ | ⟨a, c, rfl, rfl, rfl⟩
  · refine op_isN pins s σ H x y v u Q I rx ry ⟨cy, k g _ H (Al.refl tF) ?_⟩
    show V.bl _ = V.bl c
    congr 1
    rw [Bool.eq_iff_iff, decide_eq_true_eq, h2]
    exact ⟨notNon cx h1, fun z => by subst z; exact cx⟩
  · exact op_isBl pins s σ H x y v u Q I rx ry ⟨a, c, cx, cy, k g _ H (Al.refl tF) rfl⟩
theorem opd_isNot : OpD X (compareOp .IsNot) isNotD := by
  intro pins s σ H x y v u Q I rx ry ⟨g, dx, dy, d, tF, cx, cy, e, k⟩
  cases e1 : isD dx dy with
  | none => simp [isNotD, e1] at e
  | some d1 =>
    simp only [isNotD, e1, Option.bind_some] at e
    rcases isD_some e1 with ⟨rfl, h1, c, rfl, h2⟩ | ⟨a, c, rfl, rfl, rfl⟩
    · cases e
      refine op_notN pins s σ H x y v u Q I rx ry ⟨cy, k g _ H (Al.refl tF) ?_⟩
      show V.bl _ = V.bl (!c)
      congr 2
      rw [Bool.eq_iff_iff, decide_eq_true_eq, h2]
      exact ⟨notNon cx h1, fun z => by subst z; exact cx⟩
    · cases e
      exact op_notBl pins s σ H x y v u Q I rx ry ⟨a, c, cx, cy, k g _ H (Al.refl tF) rfl⟩
end
/-! ### in: a sign in a text; an item in a list of data -/
def inD : D → D → Option D
  | x, .lst ds => if eqOk x (.lst ds) then some (.bl (ds.any fun z => z.eq x)) else none
  | .str [c], .str y => some (.bl (decide (c ∈ y)))
  | _, _ => none
def notInD (x y : D) : Option D := (inD x y).bind notD
section
variable {X : Cx}
theorem any_toPs (x : D) (hx : x.pl = true) : ∀ (ds : List D), plL ds = true → ((toPs ds).any fun z => PyData.eqv z (toP x)) = ds.any fun z => z.eq x
  | [], _ => rfl
  | d :: ds, h => by
    obtain ⟨h1, h2⟩ := Bool.and_eq_true_iff.mp h
    simp only [toPs, List.any_cons]
    rw [toP_eq d x h1 hx, any_toPs x hx ds h2]
theorem inD_some {x y d : D} (h : inD x y = some d) : (∃ ds, y = .lst ds ∧ eqOk x (.lst ds) = true ∧ d = .bl (ds.any fun z => z.eq x)) ∨ ∃ c z, x = .str [c] ∧ y = .str z ∧ d = .bl (decide (c ∈ z)) := by
  unfold inD at h
  split at h
  · split at h
    · cases h; exact .inl ⟨_, rfl, by assumption, rfl⟩
    · cases h
  · cases h; exact .inr ⟨_, _, rfl, rfl, rfl⟩
  · cases h
theorem inD_sh {g : Gh} {H : Hp} {a : D} {ds : List D} {x y : V} (h : eqOk a (.lst ds) = true) (cx : CRep (md X) g H a x) (cy : CRep (md X) g H (.lst ds) y) :
    ∃ d es, Dp X.K H x d ∧ Dp X.K H y (.list es) ∧ SeqAt.shaped d = true ∧ SeqAt.shaped (.list es) = true ∧ (es.any fun z => PyData.eqv z d) = ds.any fun z => z.eq a := by
  simp only [eqOk, Bool.and_eq_true, decide_eq_true_eq] at h
  obtain ⟨⟨⟨h1, h2⟩, h3⟩, h4⟩ := h
  obtain ⟨a1, a2, a3⟩ := cx.dp h1
  obtain ⟨c1, c2, c3⟩ := cy.dp h2
  simp only [toP] at c1 c2 c3
  exact ⟨_, _, a1, c1, by simp [SeqAt.shaped, a2, a3]; omega, by simp [SeqAt.shaped, c2, c3]; omega, any_toPs a h1 ds h2⟩
theorem opd_in (hu : X.A.units + 65 < cLine) : OpD X (compareOp .In) inD := by
  intro pins s σ H x y v u Q I rx ry ⟨g, dx, dy, d, tF, cx, cy, e, k⟩
  rcases inD_some e with ⟨ds, rfl, ho, rfl⟩ | ⟨c, z, rfl, rfl, rfl⟩
  · obtain ⟨d1, es, h1, h2, h3, h4, h5⟩ := inD_sh ho cx cy
    exact op_inD hu pins s σ H x y v u Q I rx ry ⟨d1, es, h1, h2, h3, h4, by rw [h5]; exact k g _ H (Al.refl tF) rfl⟩
  · obtain ⟨rfl, _⟩ := cx
    obtain ⟨rfl, _⟩ := cy
    exact op_in_sign pins s σ H _ _ v u Q I rx ry ⟨c, _, rfl, rfl, k g _ H (Al.refl tF) rfl⟩
theorem opd_notIn (hu : X.A.units + 65 < cLine) : OpD X (compareOp .NotIn) notInD := by
  intro pins s σ H x y v u Q I rx ry ⟨g, dx, dy, d, tF, cx, cy, e, k⟩
  cases e1 : inD dx dy with
  | none => simp [notInD, e1] at e
  | some d1 =>
    simp only [notInD, e1, Option.bind_some] at e
    rcases inD_some e1 with ⟨ds, rfl, ho, rfl⟩ | ⟨c, z, rfl, rfl, rfl⟩
    · cases e
      obtain ⟨d1, es, h1, h2, h3, h4, h5⟩ := inD_sh ho cx cy
      exact op_notInD hu pins s σ H x y v u Q I rx ry ⟨d1, es, h1, h2, h3, h4, by rw [h5]; exact k g _ H (Al.refl tF) rfl⟩
    · cases e
      obtain ⟨rfl, _⟩ := cx
      obtain ⟨rfl, _⟩ := cy
      exact op_notIn_sign pins s σ H _ _ v u Q I rx ry ⟨c, _, rfl, rfl, k g _ H (Al.refl tF) rfl⟩
end
/-! ### len, list, tuple -/
def lenD : List D → Option D
  | [.lst xs] => some (.int xs.length)
  | [.fro xs] => some (.int xs.length)
  | [.tup xs] => some (.int xs.length)
  | [.str x] => if szOk x.length then some (.int x.length) else none
  | [.dct .K kvs] => some (.int kvs.length)
  | _ => none
def listD : List D → Option D
  | [.lst xs] => some (.lst xs)
  | [.fro xs] => some (.lst xs)
  | [.tup xs] => some (.lst xs)
  | _ => none
def tupD : List D → Option D
  | [.lst xs] => some (.tup xs)
  | [.fro xs] => some (.tup xs)
  | [.tup xs] => some (.tup xs)
  | _ => none
section
variable {X : Cx}
theorem creps1 {Γ : Md} {g : Gh} {H : Hp} {d : D} {xs : List V} (h : CReps Γ g H [d] xs) : ∃ v, xs = [v] ∧ CRep Γ g H d v := by
  obtain ⟨v, r, rfl, h1, h2⟩ := h
  cases (show r = [] from h2)
  exact ⟨v, rfl, h1⟩
theorem calld_len : CallD X (.builtin "len") lenD := by
  intro pins s σ H xs us Q I r ⟨g, ds, d, tF, cs, e, k⟩
  unfold lenD at e
  split at e
  · cases e
    obtain ⟨v, rfl, a, ys, rfl, h, rs⟩ := creps1 cs
    exact call_len_seq pins s σ H _ us Q I r ⟨a, ys, rfl, .inl (SqL.of h), k g _ H (Al.refl tF) (by rw [rs.length]; rfl)⟩
  · cases e
    obtain ⟨v, rfl, a, ys, rfl, h, rs⟩ := creps1 cs
    exact call_len_seq pins s σ H _ us Q I r ⟨a, ys, rfl, .inl h.sq, k g _ H (Al.refl tF) (by rw [rs.length]; rfl)⟩
  · cases e
    obtain ⟨v, rfl, a, ys, rfl, h, rs⟩ := creps1 cs
    exact call_len_seq pins s σ H _ us Q I r ⟨a, ys, rfl, .inr (SqT.of h), k g _ H (Al.refl tF) (by rw [rs.length]; rfl)⟩
  · split at e
    · rename_i hz
      cases e
      obtain ⟨v, rfl, rfl, ok⟩ := creps1 cs
      exact call_len_str pins s σ H _ us Q I r ⟨_, rfl, by simpa [Str.length, szOk] using hz, k g _ H (Al.refl tF) (by simp [Str.length]; rfl)⟩
    · cases e
  · cases e
    obtain ⟨v, rfl, a, ks, rfl, h, rk⟩ := creps1 cs
    exact call_lenD pins s σ H _ us Q I r ⟨a, ks, rfl, h, k g _ H (Al.refl tF) (by rw [rk.length]; rfl)⟩
  · cases e
theorem callo_list : CallDo X (.type "list") listD := by
  intro pins s σ H xs us Q I r ⟨g, ds, d, tF, cs, e, k⟩
  unfold listD at e
  split at e
  · cases e
    obtain ⟨v, rfl, a, ys, rfl, h, rs⟩ := creps1 cs
    exact call_list_of pins s σ H _ us Q I r ⟨a, ys, rfl, .inl (SqL.of h), fun l nl => k l _ nl ⟨ys, upd_same, Reps.mono (Al.laid tF nl _).le _ _ rs⟩⟩
  · cases e
    obtain ⟨v, rfl, a, ys, rfl, h, rs⟩ := creps1 cs
    exact call_list_of pins s σ H _ us Q I r ⟨a, ys, rfl, .inl h.sq, fun l nl => k l _ nl ⟨ys, upd_same, Reps.mono (Al.laid tF nl _).le _ _ rs⟩⟩
  · cases e
    obtain ⟨v, rfl, a, ys, rfl, h, rs⟩ := creps1 cs
    exact call_list_of pins s σ H _ us Q I r ⟨a, ys, rfl, .inr (SqT.of h), fun l nl => k l _ nl ⟨ys, upd_same, Reps.mono (Al.laid tF nl _).le _ _ rs⟩⟩
  · cases e
theorem calld_tuple : CallD X (.type "tuple") tupD := by
  intro pins s σ H xs us Q I r ⟨g, ds, d, tF, cs, e, k⟩
  unfold tupD at e
  split at e
  · cases e
    obtain ⟨v, rfl, a, ys, rfl, h, rs⟩ := creps1 cs
    exact call_tuple_of pins s σ H _ us Q I r ⟨a, ys, rfl, .inl ⟨SqL.of h, fun l nl => k g _ _ (Al.laid tF nl _) ⟨l, ys, rfl, upd_same, Reps.mono (Al.laid tF nl _).le _ _ rs⟩⟩⟩
  · cases e
    obtain ⟨v, rfl, a, ys, rfl, h, rs⟩ := creps1 cs
    exact call_tuple_of pins s σ H _ us Q I r ⟨a, ys, rfl, .inl ⟨h.sq, fun l nl => k g _ _ (Al.laid tF nl _) ⟨l, ys, rfl, upd_same, Reps.mono (Al.laid tF nl _).le _ _ rs⟩⟩⟩
  · cases e
    obtain ⟨v, rfl, a, ys, rfl, h, rs⟩ := creps1 cs
    exact call_tuple_of pins s σ H _ us Q I r ⟨a, ys, rfl, .inr ⟨SqT.of h, k g _ H (Al.refl tF) ⟨a, ys, rfl, h, rs⟩⟩⟩
  · cases e
end
/-! ### slices -/
def cutL {α : Type} (xs : List α) (lo hi : Option Int) : List α := (xs.drop (HT.sIx xs.length 0 lo)).take (HT.sIx xs.length xs.length hi - HT.sIx xs.length 0 lo)
def cutD (lo hi : Option Int) : D → Option D
  | .lst xs => some (.lst (cutL xs lo hi))
  | .fro xs => some (.lst (cutL xs lo hi))
  | .tup xs => some (.tup (cutL xs lo hi))
  | .str x => if szOk x.length then some (.str (cutL x lo hi)) else none
  | _ => none
def ePart : Option E → Sts → Ou (Option Int)
  | none, st => .ok none st
  | some m, st => (m st).bind fun d s => match d with
    | .int i => .ok (some i) s
    | _ => .bad
def eSl (ma : EP') (ml mh : Option E) : E := fun st => (ma st).bind fun p s1 => (ePart ml s1).bind fun lo s2 => (ePart mh s2).bind fun hi s3 => ofO ((rd p s3).bind (cutD lo hi)) s3
def TDpo (Γ : Md) (b : Base) (W : WX) (m : Sts → Ou (Option Int)) : TO := fun σ H Q => ∃ g st, Wd Γ b g σ H st ∧ Fin (fun p st' => ∀ g' H', Le g H g' H' → Wd Γ b g' σ H' st' → Q p H') (XC Γ b W g H σ) (m st)
section
variable {X : Cx} {b : Base} {W : WX}
theorem PO.imp {e : Option Expr} {t u : TO} (h : PO X e t) (k : ∀ σ H Q, u σ H Q → t σ H Q) : PO X e u := ⟨fun pins s σ H Q I q => h.run pins s σ H Q I (k σ H Q q)⟩
theorem dpo_none : PO X none (TDpo (md X) b W (ePart none)) := PO.imp po_none fun σ H Q ⟨g, st, w, k⟩ => k g H Le.refl w
theorem dpo_some {e : Expr} {m : E} (h : DE X b W e m) : PO X (some e) (TDpo (md X) b W (ePart (some m))) := PO.imp (po_some h) fun σ H Q ⟨g, st, w, k⟩ =>
  ⟨g, st, w, (Fin.bind k).imp (fun d s1 k1 g1 v H1 l1 w1 r1 => by
    cases d with
    | int i => exact ⟨i, r1, k1 g1 H1 l1 w1⟩
    | _ => exact k1.elim) fun _ _ q => q⟩
theorem reps_cut {Γ : Md} {g : Gh} {H : Hp} {xs : List D} {vs : List V} (h : Reps Γ g H xs vs) (lo hi : Option Int) : Reps Γ g H (cutL xs lo hi) (cutV vs lo hi) := by
  have hd : ∀ {xs : List D} {vs : List V} (n : Nat), Reps Γ g H xs vs → Reps Γ g H (xs.drop n) (vs.drop n) := by
    intro xs
    induction xs with
    | nil => intro vs n h; rw [show vs = [] from h]; simp; rfl
    | cons d ds ih =>
      intro vs n h
      obtain ⟨v, r, rfl, h1, h2⟩ := h
      cases n with
      | zero => exact ⟨v, r, rfl, h1, h2⟩
      | succ n => simpa using ih n h2
  have ht : ∀ {xs : List D} {vs : List V} (n : Nat), Reps Γ g H xs vs → Reps Γ g H (xs.take n) (vs.take n) := by
    intro xs
    induction xs with
    | nil => intro vs n h; rw [show vs = [] from h]; simp; rfl
    | cons d ds ih =>
      intro vs n h
      obtain ⟨v, r, rfl, h1, h2⟩ := h
      cases n with
      | zero => exact rfl
      | succ n => exact ⟨v, r.take n, rfl, h1, ih n h2⟩
  unfold cutL cutV
  rw [h.length]
  exact ht _ (hd _ h)
theorem cut_sub {α : Type} {xs : List α} {lo hi : Option Int} {c : α} (h : c ∈ cutL xs lo hi) : c ∈ xs := List.mem_of_mem_drop (List.mem_of_mem_take h)
theorem sl_D {g : Gh} {st : Sts} : SlR X (fun x lo hi H Q => ∃ g dx d, TF g H ∧ CRep (md X) g H dx x ∧ cutD lo hi dx = some d ∧ ∀ g' v H', Al g H g' H' → Rep (md X) g' H' d v → Q v H') := by
  intro pins s σ H x v vl vu lo hi sl Q I rx hs pl pu ⟨g, dx, d, tF, cx, e, k⟩
  cases dx with
  | lst ds =>
    cases e
    obtain ⟨a, ys, rfl, h, rs⟩ := cx
    exact sl_list pins s σ H _ v vl vu lo hi sl Q I rx hs pl pu ⟨a, ys, rfl, SqL.of h, fun p np => k _ _ _ (Al.laidF tF np _) ⟨p, _, rfl, ⟨.inl rfl, upd_same⟩, Reps.mono (Al.laidF tF np _).le _ _ (reps_cut rs lo hi)⟩⟩
  | fro ds =>
    cases e
    obtain ⟨a, ys, rfl, h, rs⟩ := cx
    exact sl_list pins s σ H _ v vl vu lo hi sl Q I rx hs pl pu ⟨a, ys, rfl, h.sq, fun p np => k _ _ _ (Al.laidF tF np _) ⟨p, _, rfl, ⟨.inl rfl, upd_same⟩, Reps.mono (Al.laidF tF np _).le _ _ (reps_cut rs lo hi)⟩⟩
  | tup ds =>
    cases e
    obtain ⟨a, ys, rfl, h, rs⟩ := cx
    refine sl_tupA pins s σ H _ v vl vu lo hi sl Q I rx hs pl pu ⟨a, ys, rfl, SqT.of h, fun ⟨h1, h2⟩ => k g _ H (Al.refl tF) ⟨a, ys, rfl, h, ?_⟩, fun _ p np => k g _ _ (Al.laid tF np _) ⟨p, _, rfl, upd_same, Reps.mono (Al.laid tF np _).le _ _ (reps_cut rs lo hi)⟩⟩
    have e0 : cutL ds lo hi = ds := by
      unfold cutL
      rw [rs.length] at h1 h2
      rw [h1, h2]
      simp
    rw [e0]
    exact rs
  | str z =>
    simp only [cutD] at e
    split at e
    · rename_i hz
      cases e
      obtain ⟨rfl, ok⟩ := cx
      refine sl_str pins s σ H _ v vl vu lo hi sl Q I rx hs pl pu ⟨_, rfl, by simpa [Str.length, szOk] using hz, k g _ H (Al.refl tF) ⟨?_, fun c hc => ok c (cut_sub hc)⟩⟩
      simp [cutS, cutL, Str.length]
    · cases e
  | _ => cases e
theorem de_sl {e : Expr} {lo hi : Option Expr} {ma : EP'} {ml mh : Option E} {p2 pos : Pos} (he : DA X b W e ma) (hl : PO X lo (TDpo (md X) b W (ePart ml))) (hh : PO X hi (TDpo (md X) b W (ePart mh))) : DE X b W (.Subscript e (.Slice lo hi none p2) pos) (eSl ma ml mh) := by
  refine PE.imp (pe_slice (sl_D (g := ⟨fun _ => False, []⟩) (st := ⟨[], []⟩)) he hl hh) fun σ H Q ⟨g, st, w, k⟩ => ?_
  refine ⟨g, st, w, (Fin.bind k).imp (fun p s1 k1 g1 x H1 l1 w1 r1 => ?_) fun _ _ q => q⟩
  refine ⟨g1, s1, w1, (Fin.bind k1).imp (fun lo s2 k2 g2 H2 l2 w2 => ?_) fun _ _ q => q.up l1⟩
  refine ⟨g2, s2, w2, (Fin.bind k2).imp (fun hi s3 k3 g3 H3 l3 w3 => ?_) fun _ _ q => q.up (l1.trans l2)⟩
  obtain ⟨d, e, k4⟩ := ofO_some k3
  cases er : rd p s3 with
  | none => rw [er] at e; cases e
  | some dx =>
    rw [er] at e
    exact ⟨g3, dx, d, w3.gr.tF, RepP.c w3 ((r1.mono l2).mono l3) er, e, fun g' v H' al rv => k4 g' v H' (((l1.trans l2).trans l3).trans al.le) (w3.al al) rv⟩
end
end DL
/-! DLz: enumerate over lists and tuples. -/
namespace PySem
open Sem (wp)
set_option maxHeartbeats 1000000 in
theorem dl_enumerate_new1 {v : Value} {o : Obj} {H : Heap → Prop} (B : Begins v o H) :
    Meets (Builtin.«enumerate.__new__» ⟨[.type "enumerate", v], []⟩) (fun _ R s => H s.heap ∧
      R (.ok (.ret (.ref (s.heap.push o).objs.size))) { s with heap := (s.heap.push o).push { cls := .type "enumerate", data := .fields #[.none, .bool false, .ref s.heap.objs.size, rawInt 0, .none, .none] } }) :=
  .of_wp fun prog w A R s h => by
    obtain ⟨hp, g, d, tk, os⟩ := s; obtain ⟨h1, h⟩ := h
    have hsub := sub_enumerate
    have q1 : ∀ {A' : Around} {E : Value → Shared → Prop} {Q : Value → Shared → Prop}, Q (.ref hp.objs.size) ⟨hp.push o, g, d, tk, os⟩ → wpAny (model prog w) A' (pyIter v) Q E ⟨hp, g, d, tk, os⟩ :=
      fun q => B.iter prog w _ _ ⟨hp, g, d, tk, os⟩ _ h1 q
    wp_walk using q1
    refine wpAny_stack_any fun st => wpAny_pure ?_
    split
    · rename_i c _ _ _ _ _
      cases (c == Value.type "enumerate")
      · wp_walk using q1
        exact ⟨_, rfl, h⟩
      · wp_walk using q1
        exact ⟨_, rfl, h⟩
    · wp_walk using q1
      exact ⟨_, rfl, h⟩
section
variable {prog : Program} {w : World} {A : Around} {E : Value → Shared → Prop} {s : Shared}
theorem dl_enum_begins {v : Value} {o : Obj} {H : Heap → Prop} {Q : Value → Shared → Prop} (B : Begins v o H) (h1 : H s.heap)
    (h : ∀ h', IsEnum h' (s.heap.objs.size + 1) s.heap.objs.size 0 .none → h'.get? s.heap.objs.size = some o → h'.objs.size = s.heap.objs.size + 2 →
      (∀ b o, s.heap.get? b = some o → h'.get? b = some o) → Q (.ref (s.heap.objs.size + 1)) { s with heap := h' }) :
    wpAny (model prog w) A (call (.type "enumerate") [v]) Q E s := by
  refine callType_new F.called_enumerate (by decide) (F.typeCall_enumerate_1 _) (F.newCall_enumerate_1 _) (fun obj => F.args_object_init_2 obj _) F.entry_enumerate_new
    (dl_enumerate_new1 B) ⟨h1, ?_⟩
  have hz : (s.heap.push o).objs.size = s.heap.objs.size + 1 := Heap.size_push ..
  show _ ∧ _
  rw [hz]
  have he : IsEnum ((s.heap.push o).push { cls := .type "enumerate", data := .fields #[.none, .bool false, .ref s.heap.objs.size, rawInt 0, .none, .none] }) (s.heap.objs.size + 1) s.heap.objs.size 0 .none := by
    have := Heap.get?_push_size (s.heap.push o) (o := { cls := .type "enumerate", data := .fields #[.none, .bool false, .ref s.heap.objs.size, rawInt 0, .none, .none] }) rfl
    rw [hz] at this; exact this
  refine ⟨⟨_, he, rfl⟩, h _ he (Heap.get?_push_of_some _ (Heap.get?_push_size _ B.free)) (by rw [Heap.size_push, hz]) fun b o x => Heap.get?_push_of_some _ (Heap.get?_push_of_some _ x)⟩
end
end PySem
namespace DL
open PySem PySem.Spec PyProof.Rows L2
/-- the tuple at a, each item in a new pair -/
def Itet (K : PySem.W.Frag) (a : Addr) : It :=
  ⟨fun i H => ∃ (xs : List V) (x : V), SqT K H a xs ∧ xs[i]? = some x, fun i H v H' => ∃ T x, v = .ref T ∧ H T = none ∧ H' = upd H T (.tup [.int (i : Nat), x]) ∧ ∀ xs, SqT K H a xs → xs[i]? = some x, fun i H => ∃ xs : List V, SqT K H a xs ∧ xs.length ≤ i⟩
theorem turn_enumT {P : Program} {w : World} {K : PySem.W.Frag} {elts : List Expr} {kk : Nat} {tpos : Pos} (a e it : Addr) :
    Turn P w K (.Tuple elts kk tpos) (Itet K a) [e, it] e (fun i h => (∃ old, IsEnum h e it ((i : Nat) : Int) old) ∧ h.IsTupleIter it a i ∧ e ≠ it) where
  mem := by simp
  obj := fun i h st b hb => by
    obtain ⟨⟨old, he⟩, ⟨o, ho, hc, hd⟩, _⟩ := st
    have e' : b = e ∨ b = it := by simpa using hb
    rcases e' with z | z
    · rw [z]; exact ⟨_, he, fun v q => nomatch q⟩
    · rw [z]; exact ⟨o, ho, fun v q => by rw [hd] at q; cases q⟩
  keep := fun i h h' st k => let ⟨⟨old, he⟩, hi, hne⟩ := st; ⟨⟨old, k e (by simp) _ he⟩, hi.at fun o q => k it (by simp) o q, hne⟩
  item := by
    intro X hP hw hK hc i pins s σ H E I hf st hg
    subst hP hw hK
    obtain ⟨⟨old, he⟩, hit, hne⟩ := st
    obtain ⟨xs, x, hq, hx⟩ := hg
    obtain ⟨its, rv, p, hz⟩ := I.tuple hq
    obtain ⟨u, hu, ru⟩ := rv.get hx
    have hel : e < s.heap.objs.size := Heap.lt_size he
    have hil : it < s.heap.objs.size := by obtain ⟨_, q, _⟩ := hit; exact Heap.lt_size q
    have p' : s.heap.IsTuple a its.toArray := p
    have hai : a ≠ it := fun z => by
      obtain ⟨o1, q1, c1, _⟩ := p'
      obtain ⟨o2, q2, c2, _⟩ := hit
      rw [z, q2] at q1
      cases q1
      rw [c2] at c1
      exact absurd c1 (by simp)
    have hae : e ≠ a := fun z => by
      obtain ⟨o1, q1, c1, _⟩ := p'
      rw [← z, show s.heap.get? e = _ from he] at q1
      cases q1
      exact absurd c1 (by simp)
    have hlt : i < its.toArray.size := by
      have := (List.getElem?_eq_some_iff.mp hu).1
      simpa using this
    have hh : X.A.in1.handled = none := I.ok.hd hc
    refine wpAny_pyNext_enum_itemD (Draws.tuple (A := X.A.in1) hh it a hai its.toArray) he ⟨hit, p'⟩ hlt hne (by simp [hne, hae]) fun x' h' tk hP ho hs' hT hsz hk => ?_
    have ex : x' = u := by
      have hP' : its[i]? = some x' := by simpa using hP
      rw [hu] at hP'
      exact (Option.some.inj hP').symm
    subst ex
    refine ⟨_, rfl, wpAny_letOwnedTupleGo_enum (s := { s with heap := h', toks := tk + 1 }) ho fun h'' he' sb => ?_⟩
    have hT2 : h''.get? s.heap.objs.size = some { cls := .type "tuple", data := .seq #[.int i tk, x'] } := (sb.2 _ (Nat.ne_of_gt hel)).trans hT
    have new : ObjOk X.prog X.w (upd H s.heap.objs.size (.tup [.int (i : Nat), x])) h'' s.heap.objs.size (.tup [.int (i : Nat), x]) :=
      ⟨by show 2 ≤ sizeLine; decide, [.int i tk, x'], .cons ⟨_, rfl⟩ (.cons ru .nil), ⟨_, hT2, rfl, _, rfl⟩⟩
    have I1 : Inv X pins σ (upd H s.heap.objs.size (.tup [.int (i : Nat), x])) { s with heap := h'', toks := tk + 1 } :=
      I.turnedNew (ch := [e, it]) (fun b ob hb q => (sb.2 b (fun z => hb (by simp [z]))).trans (hk b ob (fun z => hb (by simp [z])) (fun z => hb (by simp [z])) q)) hf (Nat.le_refl _) new
    refine ⟨.ref s.heap.objs.size, _, I1, rfl, ⟨_, x, rfl, I.hok.fresh (Nat.le_refl _), rfl, fun ys hy => by rw [I.tuple_inj hy hq]; exact hx⟩, ⟨⟨x', ?_⟩, hs'.1.at fun o q => (sb.2 it (Ne.symm hne)).trans q, hne⟩, fun b hb => ?_⟩
    · have e1 : ((i + 1 : Nat) : Int) = (i : Int) + 1 := by omega
      rw [e1]; exact he'
    · have hb' : b < s.heap.objs.size := by
        have e' : b = e ∨ b = it := by simpa using hb
        rcases e' with z | z
        · rw [z]; exact hel
        · rw [z]; exact hil
      rw [upd_ne (Nat.ne_of_lt hb')]
      exact (hf b hb).1
  done := by
    intro X hP hw hK hc i pins s σ H E I hf st hg
    subst hP hw hK
    obtain ⟨⟨old, he⟩, hit, hne⟩ := st
    obtain ⟨xs, hq, hx⟩ := hg
    obtain ⟨its, rv, p, hz⟩ := I.tuple hq
    obtain ⟨f0, f1, f2, f3, f4, f5⟩ := hf it (by simp)
    have hl := rv.length
    have p' : s.heap.IsTuple a its.toArray := p
    have hT : s.TypeIs (.ref e) "enumerate" := ⟨_, he, rfl⟩
    unfold pyNext
    refine wpAny_bind (wpAny_attempt (wpAny_callSpecial?_slot (name := Str.ofString "__next__") hT F.slot_enumerate_next
      (wpAny_call_entry F.slot_enumerate_next hT F.entry_enumerate_next ?_ (F.args_enumerate_next_1 _))))
    show wpAny _ _ (field (.ref e) 2 >>= _) _ _ _
    refine wpAny_bind (wpAny_field he rfl (x := .ref it) rfl ?_)
    refine wpAny_bind (wpAny_nextOf_tuple_end (I.ok.hd hc) hit p' (by simp; omega) fun h' x he' hx' => ?_)
    obtain ⟨o, ho, hc⟩ := hx'
    refine wpAny_bind (wpAny_isInstance (T := "StopIteration") (b := true) ⟨o, ho, hc⟩ isSubtype_stop ?_)
    exact wpAny_pure ⟨rfl, I.turned (t' := s.toks) (fun b o hb q => he' b o hb q) f0 f1 f3 f4 f5⟩
  self := fun A i s Q E st h => let ⟨⟨_, he⟩, _⟩ := st; wpAny_pyIter_enum he h
def iEnumT (K : PySem.W.Frag) (ta : TA) : TI := fun σ H R => ta σ H fun vs H1 => ∃ a xs, vs = [.ref a] ∧ SqT K H1 a xs ∧ R (Itet K a) H1
theorem pi_enumT {X : Cx} {e : Expr} {ta : TA} {p pos tpos : Pos} {elts : List Expr} {kk : Nat} (hg : Gl X "enumerate") (hm : X.mg "enumerate" = none) (ha : PA X [e] ta) (hs : starEach [e] X.env = [(false, eval e X.env)] := by rfl) :
    PI X (.Tuple elts kk tpos) (.Call (.Name "enumerate" p) [e] [] pos) (iEnumT X.K ta) := by
  refine ⟨fun pins s σ H R I h => ?_⟩
  refine Call_ (ld_blt I hg hm boot_enumerate (PyProof.Rows.callWith_type1 (thn (ha.run pos pins s σ H _ I h) fun us s1 ⟨vs, H1, I1, r1, q1⟩ => ?_) hs rfl))
  obtain ⟨a, xs, ex, hq, q⟩ := q1
  subst ex
  cases r1 with
  | cons r rr =>
    cases rr
    cases r
    obtain ⟨its, rv, p', hz⟩ := I1.tuple hq
    refine dl_enum_begins (begins_tuple a its.toArray) p' fun h' he hit hsz hk => wpAny_pyIter_enum he ?_
    have I2 : Inv X pins σ H1 { s1 with heap := h' } := I1.kept (t' := s1.toks) hk
    refine ⟨s1.heap.objs.size + 1, [s1.heap.objs.size + 1, s1.heap.objs.size], _, _, H1, rfl, I2, turn_enumT a (s1.heap.objs.size + 1) s1.heap.objs.size, ⟨⟨.none, he⟩, ⟨_, hit, rfl, rfl⟩, Nat.succ_ne_self _⟩, fun b hb => ?_, q⟩
    have e' : b = s1.heap.objs.size + 1 ∨ b = s1.heap.objs.size := by simpa using hb
    have hle : s1.heap.objs.size ≤ b := by
      rcases e' with z | z
      · rw [z]; exact Nat.le_add_right _ _
      · rw [z]; exact Nat.le_refl _
    exact I1.fpOk hle (I1.hok.fresh hle)
end DL
/-! DLu: enumerate, join, dict displays, own values in parallel, what is handed back. -/
namespace DL
open PySem PySem.Spec PyProof.Rows L2
/-! ### enumerate -/
def enumF : Nat → List D → List D
  | _, [] => []
  | k, d :: ds => .tup [.int (k : Nat), d] :: enumF (k + 1) ds
def seqD : D → Option (List D)
  | .lst ds => some ds
  | .fro ds => some ds
  | .tup ds => some ds
  | _ => none
def iEnumD (m : E) : Is := fun st => (eArgs [m] st).bind fun ds s => match ds with
  | [d] => (match seqD d with
    | some es => .ok (enumF 0 es) s
    | none => .bad)
  | _ => .bad
theorem enumF_get : ∀ (k : Nat) (ds : List D) (i : Nat), (enumF k ds)[i]? = ds[i]?.map fun d => .tup [.int ((k + i : Nat) : Int), d]
  | k, [], i => by simp [enumF]
  | k, d :: ds, 0 => by simp [enumF]
  | k, d :: ds, i + 1 => by
    have := enumF_get (k + 1) ds i
    simp only [enumF, List.getElem?_cons_succ]
    rw [this]
    have e : k + 1 + i = k + (i + 1) := by omega
    rw [e]
theorem enumF_length : ∀ (k : Nat) (ds : List D), (enumF k ds).length = ds.length
  | k, [] => rfl
  | k, d :: ds => by rw [enumF, List.length_cons, List.length_cons, enumF_length]
section
variable {X : Cx} {b : Base} {W : WX} {tg : Expr}
theorem itOk_enum {Γ : Md} {g : Gh} {H : Hp} {a : Addr} {xs : List V} {ds : List D} (h : (g.F a ∧ H a = some (.lst xs)) ∨ FR Γ.K H a xs) (r : Reps Γ g H ds xs) : ItOk Γ (Ite Γ.K a) (enumF 0 ds) g H := by
  intro i g2 H2 l tF
  have h2 : SqL Γ.K H2 a xs := by
    rcases h with ⟨f, h⟩ | h
    · exact SqL.of (l.keep _ _ h (.inl f))
    · exact (l.fr h).sq
  have r2 := Reps.mono l _ _ r
  refine ⟨fun d e => ?_, fun hi => ⟨xs, h2, by rw [r.length, ← enumF_length 0]; exact hi⟩⟩
  rw [enumF_get] at e
  cases ed : ds[i]? with
  | none => rw [ed] at e; cases e
  | some d0 =>
    rw [ed] at e
    cases e
    obtain ⟨v, h3, h4⟩ := r2.get ed
    refine ⟨⟨xs, v, h2, h3⟩, fun x H3 ⟨T, x', e1, nT, e2, y⟩ => ?_⟩
    have e3 := y xs h2
    rw [h3] at e3
    cases e3
    subst e1 e2
    have al := Al.laid tF nT (.tup [.int (i : Nat), v])
    exact ⟨g2, al, T, _, rfl, upd_same, _, _, rfl, by simp [Rep], v, [], rfl, h4.mono al.le _ _, rfl⟩
theorem itOk_enumT {Γ : Md} {g : Gh} {H : Hp} {a : Addr} {xs : List V} {ds : List D} (h : H a = some (.tup xs)) (r : Reps Γ g H ds xs) : ItOk Γ (Itet Γ.K a) (enumF 0 ds) g H := by
  intro i g2 H2 l tF
  have h2 : SqT Γ.K H2 a xs := SqT.of (l.keep _ _ h (.inr trivial))
  have r2 := Reps.mono l _ _ r
  refine ⟨fun d e => ?_, fun hi => ⟨xs, h2, by rw [r.length, ← enumF_length 0]; exact hi⟩⟩
  rw [enumF_get] at e
  cases ed : ds[i]? with
  | none => rw [ed] at e; cases e
  | some d0 =>
    rw [ed] at e
    cases e
    obtain ⟨v, h3, h4⟩ := r2.get ed
    refine ⟨⟨xs, v, h2, h3⟩, fun x H3 ⟨T, x', e1, nT, e2, y⟩ => ?_⟩
    have e3 := y xs h2
    rw [h3] at e3
    cases e3
    subst e1 e2
    have al := Al.laid tF nT (.tup [.int (i : Nat), v])
    exact ⟨g2, al, T, _, rfl, upd_same, _, _, rfl, by simp [Rep], v, [], rfl, h4.mono al.le _ _, rfl⟩
theorem di_enum {e : Expr} {m : E} {p pos tpos : Pos} {elts : List Expr} {kk : Nat} (hg : Gl X "enumerate") (hm : X.mg "enumerate" = none) (ha : DArgs X b W [e] (eArgs [m])) (hs : starEach [e] X.env = [(false, eval e X.env)] := by rfl) :
    DI X b W (.Tuple elts kk tpos) (.Call (.Name "enumerate" p) [e] [] pos) (iEnumD m) := by
  refine ⟨fun pins s σ H R I ⟨g, st, w, k⟩ => ?_⟩
  have k2 := Fin.bind k
  cases em : eArgs [m] st with
  | bad => rw [em] at k2; exact k2.elim
  | xc x s' =>
    rw [em] at k2
    exact (pi_enum hg hm ha hs).run pins s σ H R I ⟨g, st, w, by rw [em]; exact k2⟩
  | ok es s' =>
    rw [em] at k2
    match es, k2, em with
    | [], k2, em => exact k2.elim
    | _ :: _ :: _, k2, em => exact k2.elim
    | [.lst ds], k2, em =>
      refine (pi_enum hg hm ha hs).run pins s σ H R I ⟨g, st, w, ?_⟩
      rw [em]
      intro g' vs H' l w' r
      obtain ⟨v, vr, rfl, ⟨a, xs, rfl, h, rs⟩, z⟩ := r
      cases (show vr = [] from z)
      exact ⟨a, xs, rfl, SqL.of h.2, k2 g' _ H' l w' (itOk_enum (.inl h) rs)⟩
    | [.fro ds], k2, em =>
      refine (pi_enum hg hm ha hs).run pins s σ H R I ⟨g, st, w, ?_⟩
      rw [em]
      intro g' vs H' l w' r
      obtain ⟨v, vr, rfl, ⟨a, xs, rfl, h, rs⟩, z⟩ := r
      cases (show vr = [] from z)
      exact ⟨a, xs, rfl, h.sq, k2 g' _ H' l w' (itOk_enum (.inr h) rs)⟩
    | [.tup ds], k2, em =>
      refine (pi_enumT hg hm ha hs).run pins s σ H R I ⟨g, st, w, ?_⟩
      rw [em]
      intro g' vs H' l w' r
      obtain ⟨v, vr, rfl, ⟨a, xs, rfl, h, rs⟩, z⟩ := r
      cases (show vr = [] from z)
      exact ⟨a, xs, rfl, SqT.of h, k2 g' _ H' l w' (itOk_enumT h rs)⟩
    | [.non], k2, em => exact k2.elim
    | [.bl _], k2, em => exact k2.elim
    | [.int _], k2, em => exact k2.elim
    | [.str _], k2, em => exact k2.elim
    | [.dct _ _], k2, em => exact k2.elim
    | [.ins _ _], k2, em => exact k2.elim
    | [.obj _], k2, em => exact k2.elim
    | [.fn _], k2, em => exact k2.elim
end
/-! ### join -/
abbrev joinL := TL.joinL
def strsOf : List D → Option (List (List Nat))
  | [] => some []
  | .str x :: ds => (strsOf ds).bind fun r => some (x :: r)
  | _ :: _ => none
def joinSz (a : List Nat) (xs : List (List Nat)) : Bool := decide ((xs.map (·.length)).sum + xs.length * a.length ≤ 16777216)
def joinD : D → D → Option D
  | .str a, d => (seqD d).bind fun ds => (strsOf ds).bind fun xs => if joinSz a xs then some (.str (joinL a xs)) else none
  | _, _ => none
def isStr : D → Bool
  | .str _ => true
  | _ => false
def eJoin (mo me : E) : E := fun st => (mo st).bind fun d s1 => if isStr d then (me s1).bind fun e s2 => ofO (joinD d e) s2 else .bad
theorem joinL_ok {a : List Nat} (ha : okS a) : ∀ {xs : List (List Nat)}, (∀ x ∈ xs, okS x) → okS (joinL a xs)
  | [], _ => fun c hc => absurd (show c ∈ ([] : List Nat) from hc) (by simp)
  | [p], h => h p (List.mem_singleton.mpr rfl)
  | p :: q :: r, h => fun c hc => by
    have hc' : c ∈ p ++ (a ++ joinL a (q :: r)) := hc
    rcases List.mem_append.mp hc' with z | z
    · exact h p List.mem_cons_self c z
    · rcases List.mem_append.mp z with z | z
      · exact ha c z
      · exact joinL_ok ha (fun x hx => h x (List.mem_cons_of_mem _ hx)) c z
theorem strsOf_reps {Γ : Md} {g : Gh} {H : Hp} : ∀ {ds : List D} {vs : List V} {xs : List (List Nat)}, strsOf ds = some xs → Reps Γ g H ds vs → vs = (xs.map fun x => (⟨x.toArray⟩ : Str)).map V.str ∧ ∀ x ∈ xs, okS x
  | [], vs, xs, h, r => by
    cases h
    exact ⟨r, fun x hx => by cases hx⟩
  | .str x :: ds, vs, xs, h, r => by
    obtain ⟨v, vr, rfl, ⟨rfl, ok⟩, z⟩ := r
    have h' : ((strsOf ds).bind fun r => some (x :: r)) = some xs := h
    cases e : strsOf ds with
    | none => rw [e] at h'; cases h'
    | some ys =>
      rw [e] at h'
      cases h'
      obtain ⟨h1, h2⟩ := strsOf_reps e z
      exact ⟨by rw [h1]; rfl, fun y hy => by
        rcases List.mem_cons.mp hy with rfl | hy
        · exact ok
        · exact h2 y hy⟩
  | .non :: _, _, _, h, _ => by cases h
  | .bl _ :: _, _, _, h, _ => by cases h
  | .int _ :: _, _, _, h, _ => by cases h
  | .tup _ :: _, _, _, h, _ => by cases h
  | .lst _ :: _, _, _, h, _ => by cases h
  | .fro _ :: _, _, _, h, _ => by cases h
  | .dct _ _ :: _, _, _, h, _ => by cases h
  | .ins _ _ :: _, _, _, h, _ => by cases h
  | .obj _ :: _, _, _, h, _ => by cases h
  | .fn _ :: _, _, _, h, _ => by cases h
theorem tl_mk (x : List Nat) : TL.tl (⟨x.toArray⟩ : Str) = x := by simp [TL.tl]
theorem join_mk (a : List Nat) (xs : List (List Nat)) : Txt.join (⟨a.toArray⟩ : Str) (xs.map fun x => (⟨x.toArray⟩ : Str)) = ⟨(joinL a xs).toArray⟩ := by
  rw [TL.join_eq]
  have h := TL.tl_join (⟨a.toArray⟩ : Str) (xs.map fun x => (⟨x.toArray⟩ : Str))
  rw [tl_mk, List.map_map] at h
  have e : (xs.map (TL.tl ∘ fun x => (⟨x.toArray⟩ : Str))) = xs := by
    have : (TL.tl ∘ fun x : List Nat => (⟨x.toArray⟩ : Str)) = id := funext fun x => tl_mk x
    rw [this, List.map_id]
  rw [e] at h
  cases hj : Str.join (⟨a.toArray⟩ : Str) (xs.map fun x => (⟨x.toArray⟩ : Str)) with
  | mk c =>
    rw [hj] at h
    have : c.toList = joinL a xs := h
    rw [← this]
section
variable {X : Cx} {b : Base} {W : WX}
theorem de_join {o e : Expr} {apos pos : Pos} {mo me : E} (ho : DE X b W o mo) (he : DE X b W e me) (hs : starEach [e] X.env = [(false, eval e X.env)] := by rfl) (hbase : attributeBase o "join" X.env (eval o X.env) = eval o X.env := by rfl) (hline : (apos.endLine == pos.line) = true := by rfl) :
    DE X b W (.Call (.Attribute o "join" apos) [e] [] pos) (eJoin mo me) := by
  refine PE.imp (pe_join ho he hs hbase hline) fun σ H Q ⟨g, st, w, k⟩ => ⟨g, st, w, (Fin.bind k).imp (fun d s1 k1 g1 x H1 l1 w1 r1 => ?_) fun _ _ q => q⟩
  by_cases hd : isStr d = true
  · rw [if_pos hd] at k1
    cases d with
    | str a =>
      obtain ⟨rfl, oka⟩ := r1
      refine ⟨⟨_, rfl⟩, g1, s1, w1, (Fin.bind k1).imp (fun d2 s2 k2 g2 y H2 l2 w2 r2 => ?_) fun _ _ q => q.up l1⟩
      obtain ⟨d, e, k3⟩ := ofO_some k2
      have e' : ((seqD d2).bind fun ds => (strsOf ds).bind fun xs => if joinSz a xs then some (D.str (joinL a xs)) else none) = some d := e
      cases e1 : seqD d2 with
      | none => rw [e1] at e'; cases e'
      | some ds =>
        rw [e1] at e'
        have e2 : ((strsOf ds).bind fun xs => if joinSz a xs then some (D.str (joinL a xs)) else none) = some d := e'
        cases e3 : strsOf ds with
        | none => rw [e3] at e2; cases e2
        | some xs =>
          rw [e3] at e2
          have e4 : (if joinSz a xs then some (D.str (joinL a xs)) else none) = some d := e2
          split at e4
          · rename_i hz
            cases e4
            have fin : ∀ p vs, y = .ref p → (SqL X.K H2 p vs ∨ SqT X.K H2 p vs) → Reps (md X) g2 H2 ds vs → ∃ (a' : Str) (p : Addr) (ys : List Str), V.str (⟨a.toArray⟩ : Str) = .str a' ∧ [y] = [.ref p] ∧ (SqL X.K H2 p (ys.map V.str) ∨ SqT X.K H2 p (ys.map V.str)) ∧ (ys.map (·.length)).sum + ys.length * a'.length ≤ 16777216 ∧ Q (.str (Txt.join a' ys)) H2 := fun p vs ey hq rs => by
              obtain ⟨h1, h2⟩ := strsOf_reps e3 rs
              subst ey h1
              refine ⟨_, p, _, rfl, rfl, hq, ?_, ?_⟩
              · have := of_decide_eq_true hz
                simpa [List.map_map, Function.comp_def, Str.length] using this
              · rw [join_mk]
                exact k3 g2 _ H2 (l1.trans l2) w2 ⟨rfl, joinL_ok oka h2⟩
            cases d2 with
            | lst ds' =>
              cases e1
              obtain ⟨p, vs, ey, h, rs⟩ := r2
              exact fin p vs ey (.inl (SqL.of h.2)) rs
            | fro ds' =>
              cases e1
              obtain ⟨p, vs, ey, h, rs⟩ := r2
              exact fin p vs ey (.inl h.sq) rs
            | tup ds' =>
              cases e1
              obtain ⟨p, vs, ey, h, rs⟩ := r2
              exact fin p vs ey (.inr (SqT.of h)) rs
            | _ => cases e1
          · cases e4
    | _ => cases hd
  · rw [if_neg hd] at k1
    exact k1.elim
end
/-! ### dict displays -/
def ePairs : List (E × E) → Sts → Ou (List (D × D))
  | [], st => .ok [] st
  | (mk, mv) :: r, st => (mk st).bind fun k s1 => (mv s1).bind fun v s2 => (ePairs r s2).bind fun ps s3 => .ok ((k, v) :: ps) s3
def mergeD (acc kvs : List (D × D)) : List (D × D) := kvs.foldl (fun acc kv => putD .K acc kv.1 kv.2) acc
def allKeys (kvs : List (D × D)) : Bool := kvs.all fun kv => goodKey .K kv.1
def dispOk (kvs : List (D × D)) : Bool := allKeys kvs && decide (kvs.length ≤ 15)
def eDisp (prs : List (E × E)) : E := fun st => (ePairs prs st).bind fun kvs s => if dispOk kvs then .ok (.dct .K (mergeD [] kvs)) s else .bad
def RepVV (Γ : Md) (g : Gh) (H : Hp) : List (D × D) → List (V × V) → Prop
  | [], ps => ps = []
  | (a, d) :: r, ps => ∃ x y q, ps = (x, y) :: q ∧ Rep Γ g H a x ∧ Rep Γ g H d y ∧ RepVV Γ g H r q
theorem RepVV.mono {Γ : Md} {g g' : Gh} {H H' : Hp} (l : Le g H g' H') : ∀ {kvs : List (D × D)} {ps : List (V × V)}, RepVV Γ g H kvs ps → RepVV Γ g' H' kvs ps
  | [], _, h => h
  | (a, d) :: r, _, h => by
    obtain ⟨x, y, q, rfl, h1, h2, h3⟩ := h
    exact ⟨x, y, q, rfl, h1.mono l _ _, h2.mono l _ _, RepVV.mono l h3⟩
theorem RepVV.keys {Γ : Md} {g : Gh} {H : Hp} : ∀ {kvs : List (D × D)} {ps : List (V × V)}, RepVV Γ g H kvs ps → allKeys kvs = true → ∃ ks : List (Key × V), ps = ks.map (fun kv => (kV kv.1, kv.2)) ∧ ks.length = kvs.length ∧
    ∀ acc accV, RepK Γ g H acc accV → RepK Γ g H (mergeD acc kvs) (mergeK accV ks)
  | [], _, h, _ => ⟨[], h, rfl, fun acc accV r => r⟩
  | (a, d) :: r, _, h, hk => by
    obtain ⟨x, y, q, rfl, h1, h2, h3⟩ := h
    obtain ⟨k1, k2⟩ := Bool.and_eq_true_iff.mp (show (goodKey .K a && allKeys r) = true from hk)
    obtain ⟨ks, e1, e2, e3⟩ := RepVV.keys h3 k2
    cases ek : keyOf a with
    | none => simp [goodKey, ek] at k1
    | some k =>
      obtain ⟨rfl, ok⟩ := keyOf_rep ek h1.c
      have ea := keyOf_of ek
      subst ea
      exact ⟨(k, y) :: ks, by rw [e1]; rfl, by rw [List.length_cons, List.length_cons, e2], fun acc accV ra => e3 _ _ (put_K ok h2 ra)⟩
section
variable {X : Cx} {b : Base} {W : WX}
theorem Wd.pure0 {Γ : Md} {b : Base} {g : Gh} {σ : Slots} {H : Hp} {st : Sts} {q : Addr × HO} (w : Wd Γ (b.add q) g σ H st) : Wd Γ b g σ H st := w.dropP
def TX (X : Cx) (W : WX) (m : E) : TE := fun σ H Q => ∃ b', TDe (md X) b' W m σ H Q
def trsOf (X : Cx) (W : WX) (prs : List (E × E)) : List (TE × TE) := prs.map fun x => (TX X W x.1, TX X W x.2)
abbrev DPs (X : Cx) (W : WX) (pos : Pos) (ks : List (Option Expr)) (vs : List Expr) (prs : List (E × E)) : Prop := PPs X pos ks vs (trsOf X W prs)
theorem dps_nil {pos : Pos} : DPs X W pos [] [] [] := pps_nil
theorem dps_cons {pos : Pos} {k v : Expr} {ks : List (Option Expr)} {vs : List Expr} {mk mv : E} {prs : List (E × E)} (hk : ∀ b', DE X b' W k mk) (hv : ∀ b', DE X b' W v mv) (hr : DPs X W pos ks vs prs) : DPs X W pos (some k :: ks) (v :: vs) ((mk, mv) :: prs) :=
  pps_cons (tk := TX X W mk) (tv := TX X W mv) ⟨fun pins s σ H Q I ⟨b', h⟩ => (hk b').run pins s σ H Q I h⟩ ⟨fun pins s σ H Q I ⟨b', h⟩ => (hv b').run pins s σ H Q I h⟩ hr
theorem pairs_ok {q : Addr × HO} {σ : Slots} : ∀ (prs : List (E × E)) (g : Gh) (H : Hp) (st : Sts) (Q : List (V × V) → Hp → Prop), Wd (md X) (b.add q) g σ H st →
    Fin (fun kvs st' => ∀ g' ps H', Le g H g' H' → Wd (md X) (b.add q) g' σ H' st' → RepVV (md X) g' H' kvs ps → Q ps H') (XC (md X) b W g H σ) (ePairs prs st) → tPairs (trsOf X W prs) σ H Q
  | [], g, H, st, Q, w, k => k g [] H Le.refl w rfl
  | (mk, mv) :: r, g, H, st, Q, w, k => by
    have xup : ∀ {g' : Gh} {H' : Hp} {e : Ex} {s : Sts}, Le g H g' H' → XC (md X) b W g H σ e s → XC (md X) (b.add q) W g' H' σ e s := fun l' h g2 cls dx H2 l2 w2 r2 => h g2 cls dx H2 (l'.trans l2) w2.dropP r2
    refine ⟨b.add q, g, st, w, (Fin.bind k).imp (fun kd s1 k1 g1 x H1 l1 w1 r1 => ?_) fun e s z => xup Le.refl z⟩
    refine ⟨b.add q, g1, s1, w1, (Fin.bind k1).imp (fun vd s2 k2 g2 y H2 l2 w2 r2 => ?_) fun e s z => xup l1 z⟩
    refine pairs_ok r g2 H2 s2 _ w2 ((Fin.bind k2).imp (fun kvs s3 k3 g3 ps H3 l3 w3 r3 => ?_) fun _ _ z => XC.up (l1.trans l2) z)
    exact k3 g3 _ H3 ((l1.trans l2).trans l3) w3 ⟨x, y, ps, rfl, r1.mono (l2.trans l3) _ _, r2.mono l3 _ _, r3⟩
theorem do_disp {pos : Pos} {keys : List (Option Expr)} {values : List Expr} {prs : List (E × E)} (h : DPs X W pos keys values prs) (hall : keys.all (·.isSome) = true := by rfl) (hl : keys.length = values.length := by rfl) (h0 : keys ≠ [] := by simp)
    (h15 : keys.length ≤ 15 := by decide) : DO X b W (.Dict keys values pos) (eDisp prs) := by
  refine PE.imp (pe_disp h hall hl h0 h15) fun σ H Q ⟨g, st, w, k⟩ p np => ?_
  have al := Al.laid w.gr.tF np (.dK [])
  have w1 : Wd (md X) (b.add (p, .dK [])) g σ (upd H p (.dK [])) st := (w.al al).addP upd_same (w.notF np) (w.notAs np) (w.notOwn np)
  have n0 := w.not0 np
  have npp := w.notProt np
  refine pairs_ok prs g _ st _ w1 ((Fin.bind k).imp (fun kvs s1 k1 g1 ps H1 l1 w2 r1 => ?_) fun _ _ z => XC.up al.le z)
  obtain ⟨p1, p2, p3, p4⟩ := w2.atP
  by_cases hk' : dispOk kvs = true
  · rw [if_pos hk'] at k1
    obtain ⟨hk, h15⟩ := Bool.and_eq_true_iff.mp hk'
    have l1 := al.le.trans l1
    obtain ⟨ks, e1, e2, e3⟩ := r1.keys hk
    refine ⟨p1, ks, e1, ?_, ?_⟩
    · rw [e2]; exact of_decide_eq_true h15
    · have lw : Le g1 H1 g1 (upd H1 p (.dK (mergeK [] ks))) := Le.write (fun u e => by rw [p1] at e; cases e; exact id) p2
      have w3 := (w2.writeP (o' := .dK (mergeK [] ks)) id n0 npp).dropP
      exact k1 g1 p _ (l1.trans lw) w3 ⟨_, upd_same, RepK.mono lw _ _ (e3 [] [] rfl)⟩ p2 p3 n0 p4 npp
  · rw [if_neg hk'] at k1
    exact k1.elim
end
/-! ### own values: in parallel, handed back; a, b = (x, y) -/
inductive Mo where
  | o | v
def slOf : Mo → D → Sl
  | .o, d => .own d
  | .v, d => .val d
/-- a, b = x, y; the first one's own -/
def sParO (i j : Nat) (ma mb : E) : C := fun st => ouF (ma st) fun d s => ouF (mb s) fun e s2 => .nx ⟨(s2.ρ.set j (.val e)).set i (.own d), s2.S⟩
/-- an own slot's container is handed back -/
def sRetV (i : Nat) : C := fun st => match st.ρ[i]? with
  | some (.own d) => .rt d st
  | _ => .bad
section
variable {X : Cx} {b : Base} {W : WX}
theorem ds_retV {e : Expr} {i : Nat} {pos} (h : PE X e (tVar i)) : DS X b W true (.Return (some e) pos) (sRetV i) := by
  refine PS.imp (ps_ret h) fun D σ H ⟨g, st, w, k⟩ => ?_
  unfold sRetV at k
  cases q : st.ρ[i]? with
  | none => rw [q] at k; exact k.elim
  | some s =>
    rw [q] at k
    cases s with
    | un => exact k.elim
    | val d => exact k.elim
    | own d =>
      obtain ⟨o, h1, a, e1, c, nf, na, n0⟩ := w.slot i _ q
      exact ⟨.ref a, by rw [h1, e1], k g (.ref a) σ H Le.refl w ⟨a, rfl, c, nf, na, n0⟩⟩
theorem ds_parO {o : Bool} {i j : Nat} {x y : Str} {p q : Expr} {ma mb : E} {px py pt pos : Pos} {kt k2 pt2} (hc : X.calm = true) (hN : X.N.Nodup) (hi : X.N[i]? = some x) (hj : X.N[j]? = some y) (hij : i ≠ j)
    (hx : X.env.scope.names.lookup x = some .local) (hy : X.env.scope.names.lookup y = some .local) (ha : DO X b W p ma) (hb : ∀ b', DE X b' W q mb)
    (hw : swappedStores [.Tuple [.Name x px, .Name y py] kt pt] (.Tuple [p, q] k2 pt2) X.env = pure (some [x, y]))
    (hs : swapsWithSole [.Tuple [.Name x px, .Name y py] kt pt] (.Tuple [p, q] k2 pt2) pos.line X.env = pure false := by rfl)
    (h1 : starEach [p, q] X.env = (false, eval p X.env) :: starEach [q] X.env := by rfl) (h2 : starEach [q] X.env = (false, eval q X.env) :: starEach [] X.env := by rfl) :
    DS X b W o (.Assign [.Tuple [.Name x px, .Name y py] kt pt] (.Tuple [p, q] k2 pt2) pos) (sParO i j ma mb) := by
  have hbx : PE X q (TX X W mb) := ⟨fun pins s σ H Q I ⟨b', h⟩ => (hb b').run pins s σ H Q I h⟩
  refine PS.imp (ps_par hc hN hi hj hij hx hy (pa_cons ha (pa_cons hbx pa_nil h2) h1) hw hs) fun D σ H ⟨g, st, w, k⟩ => ⟨g, st, w, (FinS.ou k σ).imp (fun d s z g' a H' l w' c nf na n0 no npr => ?_) fun _ _ q => q⟩
  obtain ⟨o1, ea, hi1⟩ := c.there
  have wb : Wd (md X) (b.add (a, o1)) g' σ H' s := w'.addP ea nf na no
  refine ⟨b.add (a, o1), g', s, wb, (FinS.ou z σ).imp (fun e s2 z g2 u H2 l2 w2 r2 => ?_) fun e s0 z g3 cls dx H3 l3 w3 r3 => (XC.up l z) g3 cls dx H3 l3 w3.dropP r3⟩
  obtain ⟨p1, p2, p3, p4⟩ := w2.atP
  have c2 : Cont (md X) g2 H2 d a := c.mono l2 fun o' e' => by rw [ea] at e'; cases e'; exact p1
  have w3 := (w2.dropP.set (i := j) r2)
  have w4 := w3.setOwn (i := i) c2 p2 p3 n0 (fun m e' h1 h2 => by
    by_cases hm : j = m
    · subst hm
      rw [List.getElem?_set_self'] at h1
      cases q1 : s2.ρ[j]? with
      | none => rw [q1] at h1; cases h1
      | some y1 => rw [q1] at h1; cases h1
    · rw [List.getElem?_set_ne hm] at h1 h2
      exact p4 m e' h1 h2) npr
  refine ⟨.ref a, u, rfl, ?_⟩
  rw [List.set_comm _ _ hij]
  exact z g2 _ H2 (l.trans l2) w4
end
end DL
/-! DLt: the rule of a def with its surroundings told; the law's end. -/
namespace DL
open PySem PySem.Spec PyProof.Rows L2
theorem takes0 {X : Cx} (hx : X.xe = fun _ _ => False) : Takes X W0 := fun u s' ⟨_, _, _, _, _, _, _, _, _, _, _, _, _, _, _, _, w⟩ => w.elim
theorem room65 {k : Nat} {A : Around} (r : Room k A) : A.units + 65 < cLine := by
  have h := r.un
  omega
theorem room1 {k : Nat} {A : Around} (r : Room k A) : A.units + 1 < cLine := by
  have h := r.un
  omega
theorem room64 {k : Nat} {A : Around} (r : Room k A) : A.units + 64 < cLine := by
  have h := r.un
  omega
theorem gname {X : Cx} (hN : X.N.Nodup) (i : Nat) {x : Str} {pos : Pos} (hi : X.N[i]? = some x := by rfl) (hx : Loc X.env.scope x := by first | exact Or.inl rfl | exact Or.inr rfl)
    (hf : X.fn x = true ∨ X.env.scope.names.lookup x = some .local := by first | exact Or.inl rfl | exact Or.inr rfl) : PG X (.Name x pos) (gName i) := pg_name hN hi hx hf
/-- what stands around a body -/
abbrev xOf (P : Program) (w : World) (K : PySem.W.Frag) (mg : Str → Option Value) (base : Heap) (N : List Str) (qual : Str) (scope : Scope) (f : Addr) (cdv : Value) (A : Around) (outer : List Env) (s : Shared) (H : Hp) (E : XK) : Cx := cxOf (L2.CX P w) P w K mg base N qual scope f cdv A outer s H E
theorem ok_fn2 {P : Program} {w : World} {K : PySem.W.Frag} {mg : Str → Option Value} {base : Heap} {x qual : Str} {params : Arguments} {body : List Stmt} {scope : Scope} {dvs : List V} {kws : List (Str × V)} {f : Addr} {fd : FuncData} {N ps : List Str} {k n : Nat} {o : Bool} {c : C} {F : Fn}
    (Fd : FunD K x qual params body scope dvs kws f fd) (S : FnScope N ps scope) (hn : ps.length = n) (hF : F = fnD o N.length c)
    (h : ∀ (b : Base) (cdv : Value) (A : Around) (outer : List Env) (s : Shared) (H : Hp) (E : XK), Room k (xOf P w K mg base N qual scope f cdv A outer s H E).A → Takes (xOf P w K mg base N qual scope f cdv A outer s H E) (WF E) → PassesOwn (model P w) (xOf P w K mg base N qual scope f cdv A outer s H E).A (xOf P w K mg base N qual scope f cdv A outer s H E).env (xOf P w K mg base N qual scope f cdv A outer s H E).xe →
      DSs (xOf P w K mg base N qual scope f cdv A outer s H E) b (WF E) o body c) :
    FnOk P w K mg base (L2.CX P w) (k + 1) f fd ps (spD ⟨K, mg⟩ o n F) :=
  ok_fn Fd S hn hF fun X b E _ _ _ _ _ _ _ _ _ _ _ _ hr tk hp ⟨cdv, A, outer, s, H, e⟩ => by
    subst e
    exact h b cdv A outer s H E hr tk hp
/-- the law's end -/
def lawIs (F : Fn) : Prop := ∀ ns : List Int, ns.length ≤ 63 → ∃ S, F [.fro (ns.map .int)] [] = .ok (.bl true) S
theorem reps_ints {Γ : Md} {g : Gh} {H : Hp} : ∀ (ns : List Int), Reps Γ g H (ns.map .int) (ns.map V.int)
  | [] => rfl
  | n :: ns => ⟨_, _, rfl, rfl, reps_ints ns⟩
theorem walk_dl {l : PySem.W.OpenLaw} {k : Nat} {q : Program} {loose : List Str} {XP : (Str → Option Value) → Heap → Prop} {YP : World → Heap → Prop} {d : DefRec} {x : Str} {D0 : Fn}
    (hn : l.most = some 63) (hdf : d.params.defaults = []) (hr : Room k callerA)
    (F : ∀ (w : World) (mg : Str → Option Value) (fa : Addr) (h : Heap), YP w h → h.Ns mainGlobals mg → mg d.name = some (.ref fa) →
      ∃ (K : PySem.W.Frag) (fd : FuncData), K.In h ∧ (∀ (s : Shared) (u : Value), BindsTo s fd ⟨[u], []⟩ [(x, u)]) ∧
        ∀ base : Heap, K.In base → base.Ns mainGlobals mg → FnOk l.prog w K mg base (L2.CX l.prog w) k fa fd [x] (spD ⟨K, mg⟩ false 1 D0))
    (hD : lawIs D0) : PySem.W.WalkO q loose XP YP l.row.toRowW d [] (fun f vs => PySem.call f vs) := by
  refine Att.attach_callB hn hdf fun w s₀ s₁ mg mb fa o pm cd doc a vs ns G Y ho hd hcd hmg hobj hints hlen hbits hg => ?_
  obtain ⟨K, fd, KX, hb, hF⟩ := F w mg fa _ Y G.T.g hmg
  refine law_call KX G.T.g G.T.b G.T.builtins G.T.nolimit hg hobj hints (Nat.le_trans hlen (by decide)) hr hF hb (fun H hO hS => ?_) fun H e s' hc => ?_
  · obtain ⟨S, e⟩ := hD ns hlen
    refine ⟨⟨fun _ => False, []⟩, [.fro (ns.map .int)], [], rfl, ⟨_, _, rfl, ⟨a, _, rfl, ?_, reps_ints ns⟩, rfl⟩, ⟨rfl, fun n d a h => by simp at h⟩, Gr.refl (fun _ h => h.elim) (fun _ h => by cases h) List.nodup_nil (fun _ h => by cases h), ?_⟩
    · rcases hS with (hS | ⟨o, hS⟩) | hS
      · rcases hO a with h | ⟨o, xs, h⟩
        · rw [hS] at h; cases h
        · rw [hS] at h; cases h
      · exact .inl ⟨o, hS⟩
      · exact .inr hS
    · rw [e]
      exact fun g' v H' _ _ r => r
  · obtain ⟨_, _, _, _, _, _, _, _, _, _, _, _, h⟩ := hc
    exact h
end DL
/-! DLs: any, all, sum, max, min of lists. -/
namespace DL
open PySem PySem.Spec PyProof.Rows L2
def blsOf : List D → Option (List Bool)
  | [] => some []
  | .bl k :: ds => (blsOf ds).bind fun r => some (k :: r)
  | _ :: _ => none
def intsOf : List D → Option (List Int)
  | [] => some []
  | .int k :: ds => (intsOf ds).bind fun r => some (k :: r)
  | _ :: _ => none
def anyD : List D → Option D
  | [.lst ds] => (blsOf ds).bind fun bs => some (.bl (bs.any id))
  | _ => none
def allD : List D → Option D
  | [.lst ds] => (blsOf ds).bind fun bs => some (.bl (bs.all id))
  | _ => none
def sumD : List D → Option D
  | [.lst ds] => (intsOf ds).bind fun ns => some (.int ns.sum)
  | _ => none
section
variable {X : Cx}
theorem blsOf_reps {Γ : Md} {g : Gh} {H : Hp} : ∀ {ds : List D} {vs : List V} {bs : List Bool}, blsOf ds = some bs → Reps Γ g H ds vs → vs = bs.map V.bl
  | [], vs, bs, h, r => by
    cases h
    exact r
  | .bl k :: ds, vs, bs, h, r => by
    obtain ⟨v, vr, rfl, e, z⟩ := r
    have h' : ((blsOf ds).bind fun r => some (k :: r)) = some bs := h
    cases e1 : blsOf ds with
    | none => rw [e1] at h'; cases h'
    | some cs =>
      rw [e1] at h'
      cases h'
      rw [blsOf_reps e1 z, show v = V.bl k from e]
      rfl
  | .non :: _, _, _, h, _ => by cases h
  | .int _ :: _, _, _, h, _ => by cases h
  | .str _ :: _, _, _, h, _ => by cases h
  | .tup _ :: _, _, _, h, _ => by cases h
  | .lst _ :: _, _, _, h, _ => by cases h
  | .fro _ :: _, _, _, h, _ => by cases h
  | .dct _ _ :: _, _, _, h, _ => by cases h
  | .ins _ _ :: _, _, _, h, _ => by cases h
  | .obj _ :: _, _, _, h, _ => by cases h
  | .fn _ :: _, _, _, h, _ => by cases h
theorem intsOf_reps {Γ : Md} {g : Gh} {H : Hp} : ∀ {ds : List D} {vs : List V} {bs : List Int}, intsOf ds = some bs → Reps Γ g H ds vs → vs = bs.map V.int
  | [], vs, bs, h, r => by
    cases h
    exact r
  | .int k :: ds, vs, bs, h, r => by
    obtain ⟨v, vr, rfl, e, z⟩ := r
    have h' : ((intsOf ds).bind fun r => some (k :: r)) = some bs := h
    cases e1 : intsOf ds with
    | none => rw [e1] at h'; cases h'
    | some cs =>
      rw [e1] at h'
      cases h'
      rw [intsOf_reps e1 z, show v = V.int k from e]
      rfl
  | .non :: _, _, _, h, _ => by cases h
  | .bl _ :: _, _, _, h, _ => by cases h
  | .str _ :: _, _, _, h, _ => by cases h
  | .tup _ :: _, _, _, h, _ => by cases h
  | .lst _ :: _, _, _, h, _ => by cases h
  | .fro _ :: _, _, _, h, _ => by cases h
  | .dct _ _ :: _, _, _, h, _ => by cases h
  | .ins _ _ :: _, _, _, h, _ => by cases h
  | .obj _ :: _, _, _, h, _ => by cases h
  | .fn _ :: _, _, _, h, _ => by cases h
theorem one_lst {f : List D → Option D} {ds : List D} {d : D} (h : f ds = some d) (hf : ∀ ds d, f ds = some d → ∃ xs, ds = [.lst xs]) : ∃ xs, ds = [.lst xs] := hf ds d h
theorem calld_any (hc : X.calm = true) : CallD X (.builtin "any") anyD := by
  intro pins s σ H xs us Q I r ⟨g, ds, d, tF, cs, e, k⟩
  unfold anyD at e
  split at e
  · rename_i zs
    cases e1 : blsOf zs with
    | none => rw [e1] at e; cases e
    | some bs =>
      rw [e1] at e
      cases e
      obtain ⟨v, rfl, a, ys, rfl, h, rs⟩ := creps1 cs
      have := blsOf_reps e1 rs
      subst this
      exact cr_any hc pins s σ H _ us Q I r ⟨a, bs, rfl, SqL.of h, k g _ H (Al.refl tF) rfl⟩
  · cases e
theorem calld_all (hc : X.calm = true) : CallD X (.builtin "all") allD := by
  intro pins s σ H xs us Q I r ⟨g, ds, d, tF, cs, e, k⟩
  unfold allD at e
  split at e
  · rename_i zs
    cases e1 : blsOf zs with
    | none => rw [e1] at e; cases e
    | some bs =>
      rw [e1] at e
      cases e
      obtain ⟨v, rfl, a, ys, rfl, h, rs⟩ := creps1 cs
      have := blsOf_reps e1 rs
      subst this
      exact cr_all hc pins s σ H _ us Q I r ⟨a, bs, rfl, SqL.of h, k g _ H (Al.refl tF) rfl⟩
  · cases e
theorem calld_sum (hc : X.calm = true) : CallD X (.builtin "sum") sumD := by
  intro pins s σ H xs us Q I r ⟨g, ds, d, tF, cs, e, k⟩
  unfold sumD at e
  split at e
  · rename_i zs
    cases e1 : intsOf zs with
    | none => rw [e1] at e; cases e
    | some bs =>
      rw [e1] at e
      cases e
      obtain ⟨v, rfl, a, ys, rfl, h, rs⟩ := creps1 cs
      have := intsOf_reps e1 rs
      subst this
      exact cr_sum hc pins s σ H _ us Q I r ⟨a, bs, rfl, SqL.of h, k g _ H (Al.refl tF) rfl⟩
  · cases e
end
end DL
/-! DMd: shared defs of the laws and of the program, by denotations. -/
namespace DM
open PySem PySem.Spec PyProof.Rows L2 DL
/-! _law_begin -/
noncomputable def c__law_begin : DL.C :=
    (sRet (eDisp [((eC (.str [99, 101, 108, 108, 115])), (eOrr (eSl (aV 0) none (some (eC (.int 63)))) (eLst [(eC (.int 0))]))), ((eC (.str [112, 108, 97, 99, 101])), (eC (.int 0))), ((eC (.str [108, 101, 102, 116])), (eC (.int 0)))]))
noncomputable def den__law_begin : Fn := fnD true 1 c__law_begin
/-! _law_draw -/
noncomputable def c__law_draw : DL.C :=
    (sSeq (sIf (tBool (eBin ltD (aE (eBin ixD (aV 0) (aE (eC (.str [108, 101, 102, 116]))))) (aV 1)))
      (sSeq (sPar 2 3 (eBin ixD (aV 0) (aE (eC (.str [112, 108, 97, 99, 101])))) (eFun lenD [(aE (eBin ixD (aV 0) (aE (eC (.str [99, 101, 108, 108, 115])))))]))
      (sSeq (sAsg (eTup [(eBin ixD (aE (eBin ixD (aV 0) (aE (eC (.str [99, 101, 108, 108, 115]))))) (aE (eBin modD (aV 2) (aV 3)))), (eBin addD (aV 2) (aE (eC (.int 1))))]) (tgT [(tgN 4), (tgSub (aV 0) (eC (.str [112, 108, 97, 99, 101])))]))
      (sSeq (sAsg (eBin modD (aE (eBin powD (aE (eBin addD (aE (eBin addD (aE (eBin modD (aV 4) (aE (eC (.int 2147483647))))) (aE (eBin mulD (aE (eC (.int 69621))) (aV 2))))) (aE (eC (.int 48271))))) (aE (eC (.int 17))))) (aE (eBin addD (aE (eBin powD (aE (eC (.int 10))) (aE (eC (.int 50))))) (aE (eC (.int 151)))))) (tgSub (aV 0) (eC (.str [108, 101, 102, 116]))))
      (sIf (tAn (tBool (eBin geD (aV 4) (aE (eBin powD (aE (eC (.int 10))) (aE (eC (.int 18))))))) (tBool (eBin ltD (aV 2) (aV 3))))
        (sAsg (eBin subD (aV 4) (aE (eBin powD (aE (eC (.int 10))) (aE (eC (.int 18)))))) (tgSub (aV 0) (eC (.str [108, 101, 102, 116]))))
        sNil))))
      sNil)
    (sSeq (sAsg (eTup [(eBin modD (aE (eBin ixD (aV 0) (aE (eC (.str [108, 101, 102, 116]))))) (aV 1)), (eBin fdivD (aE (eBin ixD (aV 0) (aE (eC (.str [108, 101, 102, 116]))))) (aV 1))]) (tgT [(tgN 5), (tgSub (aV 0) (eC (.str [108, 101, 102, 116])))]))
    (sRet (eVar 5))))
noncomputable def den__law_draw : Fn := fnD false 6 c__law_draw
/-! reads -/
noncomputable def c_reads : DL.C :=
    (sRet (eBin inD (aV 1) (aE (eBin ixD (aV 0) (aE (eC (.int 1)))))))
noncomputable def den_reads : Fn := fnD false 2 c_reads
/-! unfold -/
noncomputable def c_unfold : DL.C :=
    (sRet (eJoin (eC (.str [])) (eComp (iSeq (eVar 0)) (tgT [(tgN 2), (tgN 3)]) tYs (eIf (tBool (eBin eqD (aV 2) (aE (eC (.str [111, 112, 116]))))) (eVar 3) (eBin mulD (aV 3) (aV 1))) [2, 3])))
noncomputable def den_unfold : Fn := fnD false 4 c_unfold
/-! _law_words -/
noncomputable def c__law_words : DL.C :=
    (sSeq (sParO 2 3 (eLst [(eC (.str []))]) (eLst [(eC (.str []))]))
    (sSeq (sFor (iRange1 (eVar 1)) (tgN 4)
      (sWipe [4, 5, 6] (sSeq (sSetO 5 (eLst []))
      (sSeq (sFor (iSeq (eVar 3)) (tgN 6)
        (sWipe [6] (sMutL (aV 5) (eComp (iSeq (eVar 0)) (tgN 7) tYs (eBin addD (aV 6) (aV 7)) [7]) extD)))
      (sParO 2 3 (eBin catD (aV 2) (aV 5)) (eVar 5))))))
    (sRetV 2)))
noncomputable def den__law_words : Fn := fnD true 8 c__law_words
/-! _law_is_subword -/
noncomputable def c__law_is_subword : DL.C :=
    (sSeq (sFor (iSeq (eVar 1)) (tgN 2)
      (sWipe [2] (sIf (tAn (tBool (eBin neD (aV 0) (aE (eC (.str []))))) (tBool (eBin eqD (aE (eBin ixD (aV 0) (aE (eC (.int 0))))) (aV 2))))
        (sAsg (eSl (aV 0) (some (eC (.int 1))) none) (tgN 0))
        sNil)))
    (sRet (eBin eqD (aV 0) (aE (eC (.str []))))))
noncomputable def den__law_is_subword : Fn := fnD false 3 c__law_is_subword
/-! _law_in_product -/
noncomputable def c__law_in_product : DL.C :=
    (sSeq (sSetS 2 (eBin catD (aE (eLst [(eC (.bl true))])) (aE (eBin repD (aE (eLst [(eC (.bl false))])) (aE (eFun lenD [(aV 1)]))))))
    (sSeq (sFor (iSeq (eVar 0)) (tgT [(tgN 3), (tgN 4)])
      (sWipe [3, 4, 5, 6, 7] (sSeq (sAsg (eFun listD [(aV 2)]) (tgN 5))
      (sFor (iRange1 (eFun lenD [(aV 1)])) (tgN 6)
        (sWipe [6, 7] (sSeq (sAsg (eIf (tBool (eBin eqD (aV 3) (aE (eC (.str [115, 116, 97, 114]))))) (eVar 2) (eVar 5)) (tgN 7))
        (sIf (tAn (tTru (aE (eBin ixD (aV 7) (aV 6)))) (tBool (eBin inD (aE (eBin ixD (aV 1) (aV 6))) (aV 4))))
          (sAsg (eC (.bl true)) (tgSub (aV 2) (eBin addD (aV 6) (aE (eC (.int 1))))))
          sNil)))))))
    (sRet (eBin ixD (aV 2) (aE (eFun lenD [(aV 1)]))))))
noncomputable def den__law_in_product : Fn := fnD false 8 c__law_in_product
/-! _law_same -/
noncomputable def c__law_same : DL.C :=
    (sRet (eIf (tTru (aV 1)) (eBin isD (aV 0) (aE (eC (.bl true)))) (eBin isD (aV 0) (aE (eC (.bl false))))))
noncomputable def den__law_same : Fn := fnD false 2 c__law_same
/-! _law_pick -/
noncomputable def c__law_pick : DL.C :=
    (sRet (eBin ixD (aV 1) (aE (eCall den__law_draw [(eVar 0), (eFun lenD [(aV 1)])]))))
noncomputable def den__law_pick : Fn := fnD false 2 c__law_pick
/-! derived -/
noncomputable def c_derived : DL.C :=
    (sSeq (sFor (iEnumD (eVar 0)) (tgT [(tgN 2), (tgN 3)])
      (sWipe [2, 3] (sIf (tTru (aE (eCall den_reads [(eVar 3), (eVar 1)])))
        (sRet (eIf (tBool (eBin eqD (aE (eBin ixD (aV 3) (aE (eC (.int 0))))) (aE (eC (.str [115, 116, 97, 114]))))) (eSl (aV 0) (some (eVar 2)) none) (eSl (aV 0) (some (eBin addD (aV 2) (aE (eC (.int 1))))) none)))
        sNil)))
    (sRet (eC .non)))
noncomputable def den_derived : Fn := fnD false 4 c_derived
/-! _law_alphabet -/
noncomputable def c__law_alphabet : DL.C :=
    (sRet (eCall den__law_pick [(eVar 0), (eLst [(eC (.str [97, 98])), (eC (.str [97, 98])), (eC (.str [97, 98, 99])), (eC (.str [97])), (eC (.str [98, 120])), (eC (.str [99, 109, 122]))])]))
noncomputable def den__law_alphabet : Fn := fnD false 1 c__law_alphabet
/-! _law_factor -/
noncomputable def c__law_factor : DL.C :=
    (sSeq (sIf (tBool (eBin gtD (aE (eCall den__law_draw [(eVar 0), (eC (.int 3))])) (aE (eC (.int 0)))))
      (sRet (eTup [(eC (.str [111, 112, 116])), (eCall den__law_pick [(eVar 0), (eVar 1)])]))
      sNil)
    (sSeq (sAsg (eJoin (eC (.str [])) (eComp (iSeq (eVar 1)) (tgN 3) (tBool (eBin eqD (aE (eCall den__law_draw [(eVar 0), (eC (.int 2))])) (aE (eC (.int 0))))) (eVar 3) [3])) (tgN 2))
    (sRet (eTup [(eC (.str [115, 116, 97, 114])), (eIf (tBool (eBin neD (aV 2) (aE (eC (.str []))))) (eVar 2) (eCall den__law_pick [(eVar 0), (eVar 1)]))]))))
noncomputable def den__law_factor : Fn := fnD false 4 c__law_factor
/-! _law_word -/
noncomputable def c__law_word : DL.C :=
    (sRet (eJoin (eC (.str [])) (eComp (iRange1 (eCall den__law_draw [(eVar 0), (eBin addD (aV 2) (aE (eC (.int 1))))])) (tgN 3) tYs (eCall den__law_pick [(eVar 0), (eVar 1)]) [3])))
noncomputable def den__law_word : Fn := fnD false 4 c__law_word
/-! accepts -/
noncomputable def c_accepts : DL.C :=
    (sSeq (sFor (iSeq (eVar 1)) (tgN 2)
      (sWipe [2] (sSeq (sAsg (eCall den_derived [(eVar 0), (eVar 2)]) (tgN 0))
      (sIf (tBool (eBin isD (aV 0) (aE (eC .non))))
        (sRet (eC (.bl false)))
        sNil))))
    (sRet (eC (.bl true))))
noncomputable def den_accepts : Fn := fnD false 3 c_accepts
/-! _law_product -/
noncomputable def c__law_product : DL.C :=
    (sRet (eFun tupD [(aE (eComp (iRange1 (eCall den__law_draw [(eVar 0), (eBin addD (aV 2) (aE (eC (.int 1))))])) (tgN 3) tYs (eCall den__law_factor [(eVar 0), (eVar 1)]) [3]))]))
noncomputable def den__law_product : Fn := fnD false 4 c__law_product
/-! holds -/
noncomputable def c_holds : DL.C :=
    (sRet (eAnd (eBin eqD (aE (eBin ixD (aV 0) (aE (eC (.int 0))))) (aE (eC (.str [115, 116, 97, 114])))) (eFun allD [(aE (eComp (iSeq (eBin ixD (aV 1) (aE (eC (.int 1))))) (tgN 2) tYs (eBin inD (aV 2) (aE (eBin ixD (aV 0) (aE (eC (.int 1)))))) [2]))])))
noncomputable def den_holds : Fn := fnD false 3 c_holds
/-! residual_of -/
noncomputable def c_residual_of : DL.C :=
    (sSeq (sFor (iSeq (eVar 0)) (tgN 2)
      (sWipe [2] (sSeq (sWh (tAn (tBool (eBin neD (aV 1) (aE (eTup [])))) (tAn (tNt (tTru (aE (eCall den_holds [(eBin ixD (aV 1) (aE (eC (.int 0)))), (eVar 2)])))) (tBool (eBin neD (aE (eBin ixD (aV 1) (aE (eC (.int 0))))) (aV 2)))))
        (sAsg (eSl (aV 1) (some (eC (.int 1))) none) (tgN 1)))
      (sSeq (sIf (tBool (eBin eqD (aV 1) (aE (eTup []))))
        (sRet (eC .non))
        sNil)
      (sIf (tBool (eBin eqD (aE (eBin ixD (aE (eBin ixD (aV 1) (aE (eC (.int 0))))) (aE (eC (.int 0))))) (aE (eC (.str [111, 112, 116])))))
        (sAsg (eSl (aV 1) (some (eC (.int 1))) none) (tgN 1))
        sNil)))))
    (sRet (eVar 1)))
noncomputable def den_residual_of : Fn := fnD false 3 c_residual_of
/-! is_included -/
noncomputable def c_is_included : DL.C :=
    (sRet (eBin isNotD (aE (eCall den_residual_of [(eVar 0), (eVar 1)])) (aE (eC .non))))
noncomputable def den_is_included : Fn := fnD false 2 c_is_included
end DM
/-! DLq: sets of texts: their keys as a list; one text is added; a list of texts is added. -/
namespace DL
open PySem PySem.Spec PyProof.Rows L2
/-- the text of a set's entry -/
def txK (e : Int × Value) : Str := match e.2 with
  | .str x _ => x
  | _ => Str.empty
def TxE (w : World) (e : Int × Value) : Prop := ∃ x tk, e.2 = .str x tk ∧ e.1 = hashStr w x
/-- the set of texts at a, its keys in some order -/
def TxS (w : World) (h : Heap) (a : Addr) (ks : List Str) : Prop :=
  ∃ o es ep t, h.get? a = some o ∧ o.ExactSet ∧ o.data = .set es ep t ∧ (∀ e ∈ es.toList, TxE w e) ∧ (es.toList.map txK).Perm ks ∧ ks.Nodup ∧ es.size < scanBound ∧ t.fits es.size = true ∧ L2.Ris t.place.toList ∧ (w.params.followText "set-order" = true ∨ t.led = true)
theorem TxS.at {w : World} {h h' : Heap} {a : Addr} {ks : List Str} (R : TxS w h a ks) (k : ∀ o, h.get? a = some o → h'.get? a = some o) : TxS w h' a ks :=
  let ⟨o, es, ep, t, ho, r⟩ := R
  ⟨o, es, ep, t, k o ho, r⟩
theorem TxE.is {P : Program} {w : World} {e : Int × Value} (g : TxE w e) (x : Str) : (PySem.strKind P w).is x e.2 = true ↔ txK e = x := by
  obtain ⟨y, tk, h1, _⟩ := g
  unfold txK
  rw [h1]
  exact beq_iff_eq
theorem TxE.all {P : Program} {w : World} {l : List (Int × Value)} (g : ∀ e ∈ l, TxE w e) : ElemsOf (PySem.strKind P w) l := fun e he =>
  let ⟨x, tk, h1, h2⟩ := g e he
  ⟨⟨x, by rw [h1]; exact PySem.strKind_is P w x tk, h2⟩, by rw [h1]; rfl⟩
theorem TxE.mem {P : Program} {w : World} {l : List (Int × Value)} (g : ∀ e ∈ l, TxE w e) (x : Str) : x ∈ l.map txK ↔ ∃ e ∈ l, (PySem.strKind P w).is x e.2 = true :=
  List.mem_map.trans ⟨fun ⟨e, he, q⟩ => ⟨e, he, ((g e he).is x).mpr q⟩, fun ⟨e, he, q⟩ => ⟨e, he, ((g e he).is x).mp q⟩⟩
section
variable {P : Program} {w : World} {A : Around} {E : Value → Shared → Prop} {s : Shared} {a : Addr} {ks : List Str}
/-- behind the new entry: the table is stored, and laid anew if it is too full -/
theorem tx_tail {g : Bool → Sem Unit} (hg : ∀ (b : Bool) (s1 : Shared) (Q' : Unit → Shared → Prop), Q' () s1 → wpAny (model P w) A (g b) Q' E s1) {o : Obj} {es es1 : Array (Int × Value)} {ep : Nat} {t t2 : SetTable}
    (ho : s.heap.get? a = some o) (hex : o.ExactSet) (hd : o.data = .set es ep t) (g1 : ∀ e ∈ es1.toList, TxE w e) (pk : (es1.toList.map txK).Perm ks) (nd : ks.Nodup) (hb1 : es1.size < scanBound) (hf2 : t2.fits es1.size = true)
    (hr : L2.Ris t2.place.toList) (hl : w.params.followText "set-order" = true ∨ t2.led = true) {wasDummy : Bool} {R : Option Bool → Shared → Prop} (hR : ∀ h', Heap.SameBut a s.heap h' → TxS w h' a ks → R (some true) { s with heap := h' }) :
    wpAny (model P w) A (do
        storeSet a es1 t2
        if (!wasDummy && t2.tooFull) = true then do
            g (relayAll t2 es1 (SetTable.grown es1.size)).2.2
            storeSet a (relayAll t2 es1 (SetTable.grown es1.size)).1 (relayAll t2 es1 (SetTable.grown es1.size)).2.1
            pure (some true)
          else pure (some true)) R E s := by
  refine wpAny_bind (wpAny_storeSet_of ho hd ?_ (fits_of_scanBound hb1))
  have ho1 := L2.store_at (es' := es1) (t' := t2) ho hd
  have sb1 := Heap.SameBut.update s.heap a (Obj.putSet es1 t2)
  split
  · have pm := relayAll_perm t2 es1 (SetTable.grown es1.size)
    have hf3 := relayAll_fits t2 es1 (SetTable.grown es1.size)
    have hr3 := L2.relayAll_ris t2 es1 (SetTable.grown es1.size)
    have hl3 := L2.relayAll_led t2 es1 (SetTable.grown es1.size)
    generalize relayAll t2 es1 (SetTable.grown es1.size) = Z at pm hf3 hr3 hl3 ⊢
    obtain ⟨es2, t3, gave⟩ := Z
    dsimp only at pm hf3 hr3 hl3 ⊢
    have hsz : es2.size = es1.size := by rw [← Array.length_toList, pm.length_eq, Array.length_toList]
    have hb2 : es2.size < scanBound := hsz ▸ hb1
    refine wpAny_bind (hg _ _ _ ?_)
    refine wpAny_bind (wpAny_storeSet_of ho1 rfl ?_ (fits_of_scanBound hb2))
    have ho2 := L2.store_at (es' := es2) (t' := t3) ho1 rfl
    exact wpAny_pure (hR _ (sb1.trans (Heap.SameBut.update _ a _)) ⟨_, es2, _, t3, ho2, hex, rfl, fun e he => g1 e (pm.mem_iff.mp he), (pm.map txK).trans pk, nd, hb2, hf3, hr3, hl.imp id fun z => by rw [hl3]; exact z⟩)
  · exact wpAny_pure (hR _ sb1 ⟨_, es1, _, t2, ho1, hex, rfl, g1, pk, nd, hb1, hf2, hr, hl⟩)
def addK (ks : List Str) (x : Str) : List Str := if x ∈ ks then ks else x :: ks
theorem tx_add {x : Str} {tk : Tok} {Q : Bool → Shared → Prop} (R : TxS w s.heap a ks) (room : ks.length + 1 < scanBound) (hQ : ∀ b h', Heap.SameBut a s.heap h' → TxS w h' a (addK ks x) → Q b { s with heap := h' }) :
    wpAny (model P w) A (setAddHashed a (.str x tk) ((PySem.strKind P w).hash x)) Q E s := by
  obtain ⟨o, es, ep, t, ho, hex, hd, g, pk, nd, hb, hf, hr, hl⟩ := R
  have hkey : (PySem.strKind P w).is x (.str x tk) = true := PySem.strKind_is P w x tk
  have hsc : (Value.str x tk).scannable = true := rfl
  have hel : ElemsOf (PySem.strKind P w) es.toList := TxE.all g
  unfold setAddHashed setAddHashedIn
  refine wpAny_holding (wpAny_bind (wpAny_setState_of ho hd hf ?_))
  dsimp only
  rw [byScan_of hsc hb hel]
  simp only [↓reduceIte]
  unfold setAddByScan
  refine wpAny_bind (wpAny_bind (wpAny_rule (wpAny_bind (wpAny_setScan_of hkey ho hd hf hel ?_))))
  cases hfi : List.findIdx? (fun e => (PySem.strKind P w).is x e.2) es.toList with
  | some j =>
    dsimp only
    obtain ⟨hj, pj, _⟩ := List.findIdx?_eq_some_iff_getElem.mp hfi
    have hx : x ∈ ks := pk.mem_iff.mp ((TxE.mem (P := P) (w := w) g x).mpr ⟨es.toList[j], List.getElem_mem hj, pj⟩)
    exact wpAny_pure (wpAny_pure (hQ _ s.heap (Heap.SameBut.refl a s.heap) ⟨o, es, ep, t, ho, hex, hd, g, by rw [addK, if_pos hx]; exact pk, by rw [addK, if_pos hx]; exact nd, hb, hf, hr, hl⟩))
  | none =>
    dsimp only
    have hx : ¬ x ∈ ks := fun z => by
      obtain ⟨e, he, q⟩ := (TxE.mem (P := P) (w := w) g x).mp (pk.mem_iff.mpr z)
      rw [List.findIdx?_eq_none_iff.mp hfi e he] at q
      cases q
    have hgw : ∀ (b : Bool) {s1 : Shared} {Q' : Unit → Shared → Prop}, Q' () s1 → wpAny (model P w) A (match b with | true => rule "set.scan.the-table-gave-way" | false => pure ()) Q' E s1 :=
      fun b s1 Q' q => by cases b <;> first | exact wpAny_pure q | exact wpAny_rule q
    have pm := layNew_perm t es ((PySem.strKind P w).hash x) (.str x tk)
    have hf1 := layNew_fits t es ((PySem.strKind P w).hash x) (.str x tk)
    have hr1 := L2.layNew_ris t es ((PySem.strKind P w).hash x) (.str x tk) hr
    have hl1 := L2.layNew_led t es ((PySem.strKind P w).hash x) (.str x tk)
    generalize layNew t es ((PySem.strKind P w).hash x) (.str x tk) = Z at pm hf1 hr1 hl1 ⊢
    obtain ⟨es1, t1, wasDummy, gave⟩ := Z
    dsimp only at pm hf1 hr1 hl1 ⊢
    rw [Array.toList_push] at pm
    have pc : es1.toList.Perm (((PySem.strKind P w).hash x, Value.str x tk) :: es.toList) := pm.trans (List.perm_append_singleton _ _)
    have pk1 : (es1.toList.map txK).Perm (x :: ks) := (pc.map txK).trans (pk.cons x)
    have g1 : ∀ e ∈ es1.toList, TxE w e := fun e he => by
      rcases List.mem_cons.mp (pc.mem_iff.mp he) with z | z
      · rw [z]; exact ⟨x, tk, rfl, rfl⟩
      · exact g e z
    have nd1 : (x :: ks).Nodup := List.nodup_cons.mpr ⟨hx, nd⟩
    have hb1 : es1.size < scanBound := by
      have := pk1.length_eq
      rw [List.length_map, Array.length_toList, List.length_cons] at this
      omega
    have hled : w.params.followText "set-order" = true ∨ t1.led = true := hl.imp id fun z => by rw [hl1]; exact z
    have fin : ∀ h', Heap.SameBut a s.heap h' → TxS w h' a (x :: ks) → Q true { s with heap := h' } := fun h' sb r => hQ _ h' sb (by rw [addK, if_neg hx]; exact r)
    refine wpAny_bind (hgw _ ?_)
    split
    · refine wpAny_bind ?_
      rw [hashByValue_scannable 8 hsc]
      refine wpAny_pure ?_
      refine tx_tail ?_ ho hex hd g1 pk1 nd1 hb1 ?_ ?_ ?_ ?_
      · intro b s1 Q' q; cases b <;> first | exact wpAny_pure q | exact wpAny_rule q
      · first | (split <;> first | exact hf1 | exact SetTable.fits_plain_off hf1) | exact hf1
      · first | (split <;> exact hr1) | exact hr1
      · first | (split <;> exact hled) | exact hled
      · intro h' sb r; dsimp only; exact wpAny_pure (fin h' sb r)
    · refine wpAny_bind (wpAny_pure ?_)
      simp only [↓reduceIte]
      refine tx_tail ?_ ho hex hd g1 pk1 nd1 hb1 hf1 hr1 hled ?_
      · intro b s1 Q' q; cases b <;> first | exact wpAny_pure q | exact wpAny_rule q
      · intro h' sb r; dsimp only; exact wpAny_pure (fin h' sb r)
end
/-- the keys behind the first i items -/
def kU (val : Nat → Str) : Nat → List Str
  | 0 => []
  | i + 1 => addK (kU val i) (val i)
theorem kU_len (val : Nat → Str) : ∀ i, (kU val i).length ≤ i
  | 0 => Nat.le_refl _
  | i + 1 => by
    have := kU_len val i
    show (addK (kU val i) (val i)).length ≤ i + 1
    unfold addK
    split
    · omega
    · simp; omega
section
variable {P : Program} {w : World} {A : Around} {R : Result → Shared → Prop} {I : Addr} {fp wr : List Addr} {G : Array GenState → Array GenState → Prop} {n : Nat} {Pv : Nat → Value → Prop} {St : Nat → Shared → Prop}
theorem tx_loop (W : WalksS P w A.in1 I fp wr G n Pv St) (S : Addr) (hSf : S ∉ fp) (val : Nat → Str) (hval : ∀ i v, Pv i v → ∃ t, v = .str (val i) t) (hb : n + 1 < scanBound) :
    ∀ (k i : Nat) (s : Shared), n - i = k → i ≤ n → St i s → TxS w s.heap S (kU val i) → (∀ s', Moved (S :: wr) G s s' → TxS w s'.heap S (kU val n) → R (.ok (.ret .none)) s') →
      codeAny (model P w) A (.builtin "set.update.loop" ⟨[.ref S, .ref I], []⟩) R s := by
  have hSw : S ∉ wr := fun h => hSf (W.sub _ h)
  have hsub : ∀ b ∈ wr, b ∈ S :: wr := fun b hb => List.mem_cons_of_mem _ hb
  intro k
  induction k with
  | zero =>
    intro i s hk hi hst hS hR
    have hin : i = n := by omega
    subst hin
    refine codeAny_builtin F.entry_set_update_loop ?_
    rw [Around.under_plainId F.plain_set_update_loop _]
    show wpAny _ A.in1 (pyNext (.ref I) >>= _) _ _ s
    refine wpAny_bind (W.done s _ _ hst fun s' hm => ?_)
    show wpAny _ A.in1 (ret Value.none) _ _ s'
    exact wpAny_pure (hR s' (hm.mono hsub) (hS.at fun o ho => hm.heap S _ hSw ho))
  | succ k ih =>
    intro i s hk hi hst hS hR
    have hlt : i < n := by omega
    refine codeAny_builtin F.entry_set_update_loop ?_
    rw [Around.under_plainId F.plain_set_update_loop _]
    show wpAny _ A.in1 (pyNext (.ref I) >>= _) _ _ s
    refine wpAny_bind (W.item i s _ _ hlt hst fun v s' hP hst' hm => ?_)
    obtain ⟨t, rfl⟩ := hval i v hP
    have hS' : TxS w s'.heap S (kU val i) := hS.at fun o ho => hm.heap S _ hSw ho
    show wpAny _ A.in1 (holding [Value.str (val i) t] (setAdd S (.str (val i) t)) >>= _) _ _ s'
    refine wpAny_bind (wpAny_holding ?_)
    unfold setAdd
    refine wpAny_holding ?_
    refine wpAny_bind ((PySem.strKind P w).pyHash (k := val i) (PySem.strKind_is _ _ _ _) ?_)
    have hl := kU_len val i
    refine tx_add (s := { s' with toks := s'.toks + 1 }) hS' (by omega) fun b h' hsb hS2 => ?_
    refine wpAny_pure ⟨plainId_quiet F.plain_set_update_loop _, ih (i + 1) _ (by omega) hlt (W.frame _ s' _ _ hst' (Nat.le_succ _) fun b hb o e => ?_) hS2 fun s'' hm'' hS'' => ?_⟩
    · rw [hsb.2 b (fun h : b = S => hSf (by rw [← h]; exact hb))]; exact e
    · refine hR s'' (Moved.trans W.gtrans ((hm.mono hsub).then_heap (Nat.le_succ _) fun b o hb e => ?_) hm'') hS''
      rw [hsb.2 b (fun h : b = S => hb (by rw [h]; exact List.mem_cons_self))]; exact e
end
end DL
/-! DLr: set(list of texts). -/
namespace PySem
open Sem (wp)
section
variable {prog : Program} {w : World} {A : Around} {E : Value → Shared → Prop} {s : Shared}
/-- the new set, empty, as it is laid -/
abbrev dl0 (w : World) : Obj := { cls := .type "set", dict := none, data := .set #[] 0 (.fresh 0 0 (!w.params.followText "set-order")) }
theorem dl_set_new (a : Value) {Q1 : Value → Shared → Prop} (h : Q1 (.ref s.heap.objs.size) { s with heap := s.heap.push (dl0 w) }) :
    codeAny (model prog w) A (.call (.builtin "set.__new__") ⟨[.type "set", a], []⟩) (wants Q1 E) s := by
  refine codeAny_of_tree ?_
  show wpAny _ A.in1 (do checkBuiltinCall "set.__new__" ⟨[.type "set", a], []⟩; again (.builtin "set.__new__" ⟨[.type "set", a], []⟩)) _ _ s
  refine wpAny_bind (wpAny_of_eq (F.newCall_set_1 a) (wpAny_pure ⟨plainId_quiet F.plain_set_new _, codeAny_builtin F.entry_set_new ?_⟩))
  rw [Around.under_plainId F.plain_set_new _]
  unfold Builtin.«set.__new__» Builtin.Frozenset.newClass
  have hsub := sub_set_self
  obtain ⟨hp, g, d, tk, os⟩ := s
  dsimp only
  wp_walk
  refine wpAny_askSetting (wpAny_pure ?_)
  dsimp only
  simp only [newObj]
  exact wpAny_bind (wpAny_alloc (wpAny_pure (wpAny_pure h)))
theorem dl_fresh {h : Heap} (w : World) (a : Addr) (e : h.get? a = some (dl0 w)) : DL.TxS w h a [] := by
  exact ⟨_, #[], 0, _, e, ⟨rfl, rfl, rfl⟩, rfl, (fun e he => by simp at he), List.Perm.refl _, List.nodup_nil, (by decide), (by rfl), List.Pairwise.nil, by
    show _ ∨ (!w.params.followText "set-order") = true
    cases w.params.followText "set-order"
    · exact .inr rfl
    · exact .inl rfl⟩
set_option maxRecDepth 100000 in
set_option maxHeartbeats 3200000 in
theorem dl_set_list {l : Addr} {items : Array Value} {val : Nat → Str} {Q : Value → Shared → Prop} (hh : A.handled = none) (hl : s.heap.IsList l items) (hi : ∀ (i : Nat) (v : Value), items[i]? = some v → ∃ t, v = Value.str (val i) t) (hb : items.size + 1 < scanBound)
    (h : ∀ (h' : Heap) (tk : Nat), DL.TxS w h' s.heap.objs.size (DL.kU val items.size) → (∀ b o, b < s.heap.objs.size → s.heap.get? b = some o → h'.get? b = some o) → Q (.ref s.heap.objs.size) { s with heap := h', toks := tk }) :
    wpAny (model prog w) A (call (.type "set") [.ref l]) Q E s := by
  obtain ⟨c, tl, hmro⟩ := F.called_set.mro
  have hmade := F.called_set.made
  have hsub := F.called_set.sub
  refine wpAny_call (codeAny_of_tree ?_)
  show wpAny _ _ (callAny (.type "set") _) _ _ _
  refine wpAny_pure ⟨Code.quiet_builtin _ (by decide +kernel), codeAny_builtin F.entry_type_call ?_⟩
  rw [Around.under_plain (weight_type_call_type "set" [.ref l] []) rfl]
  have h1 := F.called_set.notType
  have h2 := F.called_set.canCreate
  have hct := F.typeCall_set_1 (.ref l)
  repeat (any_goals (first | assumption | wp_step))
  refine codeAny_mono (dl_set_new (.ref l) (E := E) (Q1 := fun obj s1 => obj = .ref s.heap.objs.size ∧ s1 = { s with heap := s.heap.push (dl0 w) }) ⟨rfl, rfl⟩) fun r s1 hr => ?_
  cases r with
  | error e => exact hr
  | ok fl =>
    cases fl with
    | ret obj =>
      obtain ⟨rfl, rfl⟩ := hr
      have hS : (s.heap.push (dl0 w)).get? s.heap.objs.size = some (dl0 w) := Heap.get?_push_size _ rfl
      have hT : Shared.TypeIs { s with heap := s.heap.push (dl0 w) } (.ref s.heap.objs.size) "set" := ⟨_, hS, rfl⟩
      have hli := F.called_set.init.lookup
      have hbi := F.called_set.init.bind (.ref s.heap.objs.size)
      repeat (any_goals (first | assumption | wp_step))
      refine codeAny_mono (codeAny_call_builtin (R := wants (fun r s2 => r = .none ∧ ∃ h' tk, s2 = { s with heap := h', toks := tk } ∧ DL.TxS w h' s.heap.objs.size (DL.kU val items.size) ∧
          (∀ b o, b < s.heap.objs.size → s.heap.get? b = some o → h'.get? b = some o)) E) F.called_set.init.plain F.entry_set_init (check_set_init_1 hT ?_)) fun r2 s2 hr2 => ?_
      · obtain ⟨ol, hol, hcl, nl, hdl⟩ := hl
        obtain ⟨ocls, odict, odata, oslots⟩ := ol
        simp only at hcl hdl
        subst hcl; subst hdl
        have hol' : (s.heap.push (dl0 w)).get? l = some { cls := .type "list", dict := odict, data := .seq items nl, slots := oslots } := Heap.get?_push_of_some _ hol
        have hsls := F.sub_list_set
        have hslf := F.sub_list_frozenset
        have hne : (Value.type "list" == Value.type "dict") = false := by decide
        have hl1 : (s.heap.push (dl0 w)).IsList l items := ⟨_, hol', rfl, nl, rfl⟩
        unfold Builtin.«set.__init__» noKeywords Builtin.Frozenset.updateFrom
        generalize hPI : pyIter = PI
        wp_walk
        subst hPI
        refine wpAny_pyIter_list hl1 ?_
        refine wpAny_bind (wpAny_runValue ?_)
        have hlS : l < s.heap.objs.size := Heap.lt_size hol
        have hh3 : A.in1.in1.in1.handled = none := by simp [hh]
        have hz : (s.heap.push (dl0 w)).objs.size = s.heap.objs.size + 1 := by rw [Heap.size_push]
        have hneI : l ≠ (s.heap.push (dl0 w)).objs.size := by rw [hz]; exact Nat.ne_of_lt (Nat.lt_succ_of_lt hlS)
        have hSf : s.heap.objs.size ∉ [(s.heap.push (dl0 w)).objs.size, l] := by
          rw [hz]
          simp only [List.mem_cons, List.not_mem_nil, or_false, not_or]
          exact ⟨Nat.ne_of_lt (Nat.lt_succ_self _), Nat.ne_of_gt hlS⟩
        refine DL.tx_loop ((Walks.list hh3 _ l hneI items).toS) s.heap.objs.size hSf val (fun i v hv => hi i v hv) hb (items.size - 0) 0 _ (by omega) (Nat.zero_le _) ⟨⟨_, Heap.get?_push_size _ rfl, rfl, rfl⟩, (hl1.push _)⟩ ?hS0 ?hR
        case hS0 => exact dl_fresh w _ (Heap.get?_push_of_some _ hS)
        case hR =>
          intro s' hm hS'
          obtain ⟨h', g', d', tk', os'⟩ := s'
          have eg : g' = s.gens := hm.gens
          have ed : d' = s.drawn := hm.drawn
          have eo : os' = s.os := hm.os
          subst eg; subst ed; subst eo
          show wpAny _ _ _ _ _ _
          refine wpAny_pure ?_
          show wpAny _ _ (ret Value.none) _ _ _
          refine wpAny_pure ⟨rfl, h', tk', rfl, hS', fun b o hb e => ?_⟩
          have hb1 : b ≠ s.heap.objs.size := Nat.ne_of_lt hb
          have hb2 : b ≠ (s.heap.push (dl0 w)).objs.size := by rw [hz]; exact Nat.ne_of_lt (Nat.lt_succ_of_lt hb)
          exact hm.heap b o (by simp only [List.mem_cons, List.not_mem_nil, or_false, not_or]; exact ⟨hb1, hb2⟩) (Heap.get?_push_of_some _ (Heap.get?_push_of_some _ e))
      · cases r2 with
        | error e => exact hr2
        | ok fl2 =>
          cases fl2 with
          | ret r =>
            obtain ⟨rfl, h', tk, rfl, hS', hk'⟩ := hr2
            repeat (any_goals (first | assumption | wp_step))
            exact h _ _ hS' hk'
          | _ => exact hr2.elim
    | _ => exact hr.elim
end
end PySem
/-! DLk: sorted(set of texts). -/
namespace DL
open PySem PySem.Spec PyProof.Rows L2
theorem tx_strs {w : World} : ∀ (l : List Value), (∀ v ∈ l, ∃ x tk, v = Value.str x tk) → StrsAre l (l.map fun v => txK (0, v))
  | [], _ => .nil
  | v :: l, h => by
    obtain ⟨x, tk, rfl⟩ := h v List.mem_cons_self
    exact .cons x tk (tx_strs (w := w) l fun u hu => h u (List.mem_cons_of_mem _ hu))
section
variable {P : Program} {w : World} {A : Around} {E : Value → Shared → Prop} {s : Shared} {a : Addr} {ks : List Str}
theorem tx_sorted {Q : Value → Shared → Prop} (R : TxS w s.heap a ks) (hh : A.handled = none) (h64 : ks.length < 64)
    (hQ : ∀ s' p (out : Array Value) (c : Nat) (ys : List Str), (∀ b o, s.heap.get? b = some o → s'.heap.get? b = some o) → s'.gens = s.gens → s'.os = s.os → s.heap.objs.size ≤ p →
      s'.heap.get? p = some (seqObj "list" out c) → StrsAre out.toList ys → ys.Perm ks → sortedS ys = true → Q (.ref p) s') :
    wpAny (model P w) A (call (.builtin "sorted") [.ref a]) Q E s := by
  obtain ⟨o, es, ep, t, ho, hex, hd, g, pk, nd, hb, hf, hr, hl⟩ := R
  refine Calls.call_function_entry kind_sorted plain_sorted entry_sorted (args_sorted1 _) ?_
  unfold Builtin.«sorted»
  refine wpAny_bind (m := checkCount "sorted" 1 1 _) (wpAny_pure ?_)
  refine wpAny_bind (L2.collect_set (A := A.in1) hh ⟨o, ho, hex.1, hd⟩ hf hb hr hl fun s1 vs k1 hz g1 o1 pm => ?_)
  have hvl : vs.length = ks.length := by rw [pm.length_eq, List.length_map, ← pk.length_eq, List.length_map]
  have hS : StrsAre vs (vs.map fun v => txK (0, v)) := tx_strs (w := w) vs fun v hv => by
    obtain ⟨e, he, q⟩ := List.mem_map.mp (pm.mem_iff.mp hv)
    obtain ⟨x, tk, h1, _⟩ := g e he
    exact ⟨x, tk, by rw [← q]; exact h1⟩
  have pv : (vs.map fun v => txK (0, v)).Perm ks := by
    have q := pm.map fun v => txK (0, v)
    rw [List.map_map] at q
    exact q.trans pk
  refine wpAny_bind (wpAny_newList ?_ (by rw [hvl, sizeLine_eq]; omega))
  have hoL : (s1.heap.push (seqObj "list" vs.toArray 0)).get? s1.heap.objs.size = some (seqObj "list" vs.toArray 0) := Heap.get?_push_size _ rfl
  refine wpAny_bind (wpAny_holding (wpAny_call_entry slot_list_sort ⟨_, hoL, rfl⟩ entry_list_sort
    (list_sort_treeK strKind_oneLt hoL hS.keysOf (fun v1 v2 rest e => keyKind_strs (by rw [← e]; exact hS)) (by rw [hvl]; exact h64) fun st' hp hs => ⟨_, rfl, ?_⟩) (args_list_sort _)))
  obtain ⟨ys, a1, a2, a3⟩ := sorted_out_str hS hp hs
  obtain ⟨c, hc⟩ := sortedHeap_at (vs := vs) (out := (arrOf st').map (·.2)) hoL
  refine wpAny_pure ⟨_, rfl, hQ _ s1.heap.objs.size _ c ys (fun b u e => ?_) g1 o1 hz hc a1 (a2.trans pv) a3⟩
  have q := k1 b u e
  have hlt := Heap.lt_size q
  show (sortedHeap (s1.heap.push (seqObj "list" vs.toArray 0)) s1.heap.objs.size vs _).get? b = some u
  rw [sortedHeap_old (Nat.ne_of_lt hlt) (by rw [Heap.size_push]; exact Nat.lt_succ_of_lt hlt)]
  exact Heap.get?_push_of_some _ q
end
def tSS (K : PySem.W.Frag) (ta : TE) : TE := fun σ H Q => ta σ H fun x H1 => ∃ (l : Addr) (xs : List Str), x = .ref l ∧ SqL K H1 l (xs.map V.str) ∧ xs.length < 64 ∧
  ∀ (ys : List Str) (p : Addr), ys.Perm (kU (fun i => xs.getD i Str.empty) xs.length) → sortedS ys = true → H1 p = none → Q (.ref p) (upd H1 p (.lst (ys.map V.str)))
theorem pe_sortset {X : Cx} {a : Expr} {ta : TE} {p p2 q pos : Pos} (hc : X.calm = true) (hg : Gl X "sorted") (hm : X.mg "sorted" = none) (hg2 : Gl X "set") (hm2 : X.mg "set" = none) (ha : PE X a ta)
    (na : starEach [a] X.env = (false, eval a X.env) :: starEach [] X.env := by rfl) : PE X (.Call (.Name "sorted" p) [.Call (.Name "set" p2) [a] [] q] [] pos) (tSS X.K ta) := by
  refine ⟨fun pins s σ H Q I h => ?_⟩
  refine Call_ (ld_blt I hg hm boot_sorted ?_)
  refine PyProof.Rows.callWith_builtin1 (PyProof.Rows.args_cons ?_ rfl) rfl rfl
  refine Call_ (ld_blt I hg2 hm2 boot_set ?_)
  refine PyProof.Rows.callWith_type1 (PyProof.Rows.args_cons (thn (ha.run pins s σ H _ I h) fun v s1 ⟨x, H1, I1, r1, q1⟩ => PyProof.Rows.args_nil ?_) na) na rfl
  obtain ⟨l, xs, rfl, hq, h1, q1⟩ := q1
  cases r1
  obtain ⟨its, r, pl, hz⟩ := I1.list hq
  have hl : its.length = xs.length := by rw [← r.length, List.length_map]
  have hb64 : (64 : Nat) + 1 < scanBound := by decide
  have hsz : its.toArray.size + 1 < scanBound := by rw [List.size_toArray, hl]; omega
  have hval : ∀ (i : Nat) (v : Value), its.toArray[i]? = some v → ∃ t, v = Value.str ((fun i => xs.getD i Str.empty) i) t := fun i v hv => SS.strs_at (strsAre_of r) i v (by simpa using hv)
  refine PySem.dl_set_list (val := fun i => xs.getD i Str.empty) (I1.ok.hd hc) pl.isList hval hsz fun h' tk hS hk => ?_
  refine PyProof.Rows.args_nil ?_
  have I2 : Inv X pins σ H1 { s1 with heap := h', toks := tk } := I1.kept fun b o e => hk b o (Heap.lt_size e) e
  have hl2 : its.toArray.size = xs.length := by rw [List.size_toArray, hl]
  rw [hl2] at hS
  have hkl := kU_len (fun i => xs.getD i Str.empty) xs.length
  have hS : TxS X.w ({ s1 with heap := h', toks := tk } : Shared).heap s1.heap.objs.size (kU (fun i => xs.getD i Str.empty) xs.length) := hS
  generalize ({ s1 with heap := h', toks := tk } : Shared) = s2 at I2 hS ⊢
  refine tx_sorted hS (I2.ok.hd hc) (by omega) fun s' p out c ys k g o hp hgt hi hpm hs => ?_
  have hlen : (ys.map V.str).length ≤ sizeLine := by rw [List.length_map, hpm.length_eq, sizeLine_eq]; omega
  have hn : H1 p = none := I2.hok.fresh hp
  have J : Inv X pins σ (upd H1 p (.lst (ys.map V.str))) { s2 with heap := s'.heap, gens := s'.gens, drawn := s'.drawn, toks := s'.toks } :=
    I2.call (ch := []) (Un.laid k hp hn) (I2.hok.laid k hp ⟨hlen, out.toList, c, vals_of_strs hi, hgt⟩) (by rw [g]; exact I2.bare) (fun _ z => nomatch z)
  have e : s' = { s2 with heap := s'.heap, gens := s'.gens, drawn := s'.drawn, toks := s'.toks } := by
    cases s'
    cases s2
    cases o
    rfl
  rw [e]
  exact ⟨.ref p, _, J, rfl, q1 ys p hpm hs hn⟩
end DL
/-! DXa: equations of the layer's combinators, to be used by simp from the outside in. -/
namespace DL
open PySem PySem.Spec PyProof.Rows L2
def isObj : D → Bool
  | .obj _ => true
  | _ => false
/-! ### what is done with a result: by name, so that nothing is computed but by rewriting -/
/-- k is not looked into -/
inductive Tag {α : Type} : (k : α) → Type where
  | mk (k : α) : Tag k
def bE {α β : Type} (m : Ou α) {k : α → Sts → Ou β} (_ : Tag k) : Ou β := m.bind k
def bF {α : Type} (m : Ou α) {k : α → Sts → Fl} (_ : Tag k) : Fl := ouF m k
def bO {α β : Type} (o : Option α) {k : α → Ou β} (_ : Tag k) : Ou β := match o with
  | some a => k a
  | none => .bad
def bN {α : Type} (o : Option α) {k : α → Fl} (_ : Tag k) : Fl := match o with
  | some a => k a
  | none => .bad
def bP {α β : Type} (o : Option α) {k : α → Option β} (_ : Tag k) : Option β := match o with
  | some a => k a
  | none => none
def bQ (r : Fl) {k : Sts → Fl} (_ : Tag k) : Fl := match r with
  | .nx s => k s
  | .rt v s => .rt v s
  | .bk s => .bk s
  | .ct s => .ct s
  | .xc e s => .xc e s
  | .bad => .bad
def bW (is : List Nat) (r : Fl) : Fl := match r with
  | .nx s => .nx (wipeS is s)
  | .ct s => .ct (wipeS is s)
  | .bk s => .bk (wipeS is s)
  | .rt v s => .rt v s
  | .xc e s => .xc e s
  | .bad => .bad
def bB (d : D) (s : Sts) : Ou Bool := match d with
  | .bl k => .ok k s
  | _ => .bad
def bI (d : D) (s : Sts) : Ou (Option Int) := match d with
  | .int i => .ok (some i) s
  | _ => .bad
def bC (r : Fo) (ρ : List Sl) : Ou D := foE r ρ
def bR (o : Bool) (n : Nat) (r : Fl) : Fo := match r with
  | .rt d st => retO n d st.S
  | .nx st => if o = true then .bad else retO n .non st.S
  | .xc e st => retX n e st.S
  | _ => .bad
def bA (o : Option Sl) (i : Nat) (st : Sts) : Ou Pre := match o with
  | some .un => .bad
  | some _ => .ok (.s i) st
  | none => .bad
theorem x_bNs {α : Type} (a : α) {k : α → Fl} (g : Tag k) : bN (some a) g = k a := id rfl
theorem x_bNn {α : Type} {k : α → Fl} (g : Tag k) : bN none g = .bad := id rfl
theorem x_bEo {α β : Type} (a : α) (s : Sts) {k : α → Sts → Ou β} (g : Tag k) : bE (.ok a s) g = k a s := id rfl
theorem x_bEx {α β : Type} (e : Ex) (s : Sts) {k : α → Sts → Ou β} (g : Tag k) : bE (.xc e s) g = .xc e s := id rfl
theorem x_bEb {α β : Type} {k : α → Sts → Ou β} (g : Tag k) : bE .bad g = .bad := id rfl
theorem x_bFo {α : Type} (a : α) (s : Sts) {k : α → Sts → Fl} (g : Tag k) : bF (.ok a s) g = k a s := id rfl
theorem x_bFx {α : Type} (e : Ex) (s : Sts) {k : α → Sts → Fl} (g : Tag k) : bF (.xc e s) g = .xc e s := id rfl
theorem x_bFb {α : Type} {k : α → Sts → Fl} (g : Tag k) : bF .bad g = .bad := id rfl
theorem x_bOs {α β : Type} (a : α) {k : α → Ou β} (g : Tag k) : bO (some a) g = k a := id rfl
theorem x_bOn {α β : Type} {k : α → Ou β} (g : Tag k) : bO none g = .bad := id rfl
theorem x_bPs {α β : Type} (a : α) {k : α → Option β} (g : Tag k) : bP (some a) g = k a := id rfl
theorem x_bPn {α β : Type} {k : α → Option β} (g : Tag k) : bP none g = none := id rfl
theorem x_bQn (s : Sts) {k : Sts → Fl} (g : Tag k) : bQ (.nx s) g = k s := id rfl
theorem x_bQr (v : D) (s : Sts) {k : Sts → Fl} (g : Tag k) : bQ (.rt v s) g = .rt v s := id rfl
theorem x_bQb (s : Sts) {k : Sts → Fl} (g : Tag k) : bQ (.bk s) g = .bk s := id rfl
theorem x_bQc (s : Sts) {k : Sts → Fl} (g : Tag k) : bQ (.ct s) g = .ct s := id rfl
theorem x_bQx (e : Ex) (s : Sts) {k : Sts → Fl} (g : Tag k) : bQ (.xc e s) g = .xc e s := id rfl
theorem x_bQd {k : Sts → Fl} (g : Tag k) : bQ .bad g = .bad := id rfl
theorem x_bWn (is : List Nat) (s : Sts) : bW is (.nx s) = .nx (wipeS is s) := id rfl
theorem x_bWr (is : List Nat) (v : D) (s : Sts) : bW is (.rt v s) = .rt v s := id rfl
theorem x_bWb (is : List Nat) (s : Sts) : bW is (.bk s) = .bk (wipeS is s) := id rfl
theorem x_bWc (is : List Nat) (s : Sts) : bW is (.ct s) = .ct (wipeS is s) := id rfl
theorem x_bWx (is : List Nat) (e : Ex) (s : Sts) : bW is (.xc e s) = .xc e s := id rfl
theorem x_bWd (is : List Nat) : bW is .bad = .bad := id rfl
theorem x_bBb (k : Bool) (s : Sts) : bB (.bl k) s = .ok k s := id rfl
theorem x_bIi (k : Int) (s : Sts) : bI (.int k) s = .ok (some k) s := id rfl
theorem x_bCo (d : D) (S : List D) (ρ : List Sl) : bC (.ok d S) ρ = .ok d ⟨ρ, S⟩ := id rfl
theorem x_bCx (e : Ex) (S : List D) (ρ : List Sl) : bC (.xc e S) ρ = .xc e ⟨ρ, S⟩ := id rfl
theorem x_bCb (ρ : List Sl) : bC .bad ρ = .bad := id rfl
theorem x_bRr (o : Bool) (n : Nat) (d : D) (ρ : List Sl) (S : List D) : bR o n (.rt d ⟨ρ, S⟩) = retO n d S := id rfl
theorem x_bRn (n : Nat) (ρ : List Sl) (S : List D) : bR false n (.nx ⟨ρ, S⟩) = retO n .non S := id rfl
theorem x_bRx (o : Bool) (n : Nat) (e : Ex) (ρ : List Sl) (S : List D) : bR o n (.xc e ⟨ρ, S⟩) = retX n e S := id rfl
theorem x_bAv (d : D) (i : Nat) (st : Sts) : bA (some (.val d)) i st = .ok (.s i) st := id rfl
theorem x_bAw (d : D) (i : Nat) (st : Sts) : bA (some (.own d)) i st = .ok (.s i) st := id rfl
/-! ### the combinators -/
theorem x_bind {α β : Type} (m : Ou α) (f : α → Sts → Ou β) : m.bind f = bE m (.mk f) := id rfl
theorem x_ouF {α : Type} (m : Ou α) (f : α → Sts → Fl) : ouF m f = bF m (.mk f) := id rfl
theorem x_C (d : D) (st : Sts) : eC d st = .ok d st := id rfl
theorem x_var (i : Nat) (st : Sts) : eVar i st = slR i st st.ρ[i]? := id rfl
theorem x_slV (i : Nat) (st : Sts) (d : D) : slR i st (some (.val d)) = .ok d st := id rfl
theorem x_slW (i : Nat) (st : Sts) (d : D) : slR i st (some (.own d)) = .ok d ⟨st.ρ.set i (.val d), st.S⟩ := id rfl
theorem x_aV (i : Nat) (st : Sts) : aV i st = bA st.ρ[i]? i st := by
  show (match (st.ρ[i]?).bind slD with
    | some _ => Ou.ok (Pre.s i) st
    | none => .bad) = _
  cases st.ρ[i]? with
  | none => rfl
  | some s => cases s <;> rfl
theorem x_aE (m : E) (st : Sts) : aE m st = (bE (m st) <| .mk fun d s => .ok (.d d) s) := id rfl
/-- what a slot holds, shared objects by their content -/
def slGet (o : Option Sl) (S : List D) : Option D := match o with
  | some (.val (.obj n)) => S[n]?
  | some (.val d) => some d
  | some (.own (.obj n)) => S[n]?
  | some (.own d) => some d
  | _ => none
theorem x_rdS (i : Nat) (st : Sts) : rd (.s i) st = slGet st.ρ[i]? st.S := by
  show ((st.ρ[i]?).bind slD).bind (deref st) = _
  unfold slGet
  cases st.ρ[i]? with
  | none => rfl
  | some s =>
    cases s with
    | un => rfl
    | val d => cases d <;> rfl
    | own d => cases d <;> rfl
theorem x_rdD (d : D) (st : Sts) : rd (.d d) st = deref st d := id rfl
theorem x_derefO (n : Nat) (st : Sts) : deref st (.obj n) = st.S[n]? := id rfl
theorem x_deref {st : Sts} {d : D} (h : isObj d = false) : deref st d = some d := by cases d <;> first | rfl | cases h
theorem x_getO (n : Nat) (S : List D) : slGet (some (.val (.obj n))) S = S[n]? := id rfl
theorem x_getV {d : D} {S : List D} (h : isObj d = false) : slGet (some (.val d)) S = some d := by cases d <;> first | rfl | cases h
theorem x_getW {d : D} {S : List D} (h : isObj d = false) : slGet (some (.own d)) S = some d := by cases d <;> first | rfl | cases h
theorem o_non : isObj .non = false := by simp [isObj]
theorem o_bl (x) : isObj (.bl x) = false := by simp [isObj]
theorem o_int (x) : isObj (.int x) = false := by simp [isObj]
theorem o_str (x) : isObj (.str x) = false := by simp [isObj]
theorem o_tup (x) : isObj (.tup x) = false := by simp [isObj]
theorem o_lst (x) : isObj (.lst x) = false := by simp [isObj]
theorem o_fro (x) : isObj (.fro x) = false := by simp [isObj]
theorem o_dct (k x) : isObj (.dct k x) = false := by simp [isObj]
theorem o_ins (k x) : isObj (.ins k x) = false := by simp [isObj]
theorem o_fn (x) : isObj (.fn x) = false := by simp [isObj]
theorem x_bin (op : D → D → Option D) (a c : EP') (st : Sts) : eBin op a c st = (bE (a st) <| .mk fun p s1 => bE (c s1) <| .mk fun q s2 => bO (rd p s2) <| .mk fun x => bO (rd q s2) <| .mk fun y => ofO (op x y) s2) := by
  show (a st).bind (fun p s1 => (c s1).bind fun q s2 => ofO (rd2 p q s2 op) s2) = _
  unfold bE
  congr 1
  funext p s1
  congr 1
  funext q s2
  unfold rd2 bO
  cases rd p s2 with
  | none => rfl
  | some x => cases rd q s2 <;> rfl
theorem x_ofS (d : D) (st : Sts) : ofO (some d) st = .ok d st := id rfl
theorem x_ofN (st : Sts) : ofO none st = .bad := id rfl
theorem x_un (op : D → Option D) (a : EP') (st : Sts) : eUn op a st = (bE (a st) <| .mk fun p s1 => bO (rd p s1) <| .mk fun x => ofO (op x) s1) := by
  show (a st).bind (fun p s1 => ofO ((rd p s1).bind op) s1) = _
  unfold bE
  congr 1
  funext p s1
  unfold bO
  cases rd p s1 <;> rfl
theorem x_argsN (st : Sts) : eArgs [] st = .ok [] st := by rw [eArgs]
theorem x_argsC (m : E) (ms : List E) (st : Sts) : eArgs (m :: ms) st = (bE (m st) <| .mk fun d s1 => bE (eArgs ms s1) <| .mk fun ds s2 => .ok (d :: ds) s2) := by
  rw [eArgs]; rfl
theorem x_tup (ms : List E) (st : Sts) : eTup ms st = (bE (eArgs ms st) <| .mk fun ds s => .ok (.tup ds) s) := id rfl
theorem x_lst (ms : List E) (st : Sts) : eLst ms st = (bE (eArgs ms st) <| .mk fun ds s => .ok (.lst ds) s) := id rfl
theorem x_rdLN (st : Sts) : rdL [] st = some [] := id rfl
theorem x_rdLC (p : Pre) (ps : List Pre) (st : Sts) : rdL (p :: ps) st = (bP (rd p st) <| .mk fun d => bP (rdL ps st) <| .mk fun ds => some (d :: ds)) := by
  rw [rdL]
  unfold bP
  cases rd p st with
  | none => rfl
  | some d => simp only [Option.bind_some]; cases rdL ps st <;> rfl
theorem x_argsPN (st : Sts) : eArgsP [] st = .ok [] st := by rw [eArgsP]
theorem x_argsPC (m : EP') (ms : List EP') (st : Sts) : eArgsP (m :: ms) st = (bE (m st) <| .mk fun d s1 => bE (eArgsP ms s1) <| .mk fun ds s2 => .ok (d :: ds) s2) := by
  rw [eArgsP]; rfl
theorem x_fun (f : List D → Option D) (ms : List EP') (st : Sts) : eFun f ms st = (bE (eArgsP ms st) <| .mk fun ps s => bO (rdL ps s) <| .mk fun ds => ofO (f ds) s) := by
  show (eArgsP ms st).bind (fun ps s => ofO ((rdL ps s).bind f) s) = _
  unfold bE
  congr 1
  funext ps s
  unfold bO
  cases rdL ps s <;> rfl
theorem x_tTru (m : EP') (st : Sts) : tTru m st = (bE (m st) <| .mk fun p s => bO (rd p s) <| .mk fun d => bO (truD d) <| .mk fun k => .ok k s) := by
  unfold tTru bE
  congr 1
  funext p s
  unfold bO
  cases rd p s with
  | none => rfl
  | some d => simp only [Option.bind_some]; cases truD d <;> rfl
theorem x_tBool (m : E) (st : Sts) : tBool m st = bE (m st) (.mk bB) := by
  unfold tBool bE
  congr 1
theorem x_tNt (t : T) (st : Sts) : tNt t st = (bE (t st) <| .mk fun k s => .ok (!k) s) := id rfl
theorem x_tAn (t u : T) (st : Sts) : tAn t u st = (bE (t st) <| .mk fun k s => if k = true then u s else .ok false s) := by
  unfold tAn bE
  congr 1
  funext k s
  cases k <;> rfl
theorem x_tOr (t u : T) (st : Sts) : tOrr t u st = (bE (t st) <| .mk fun k s => if k = true then .ok true s else u s) := by
  unfold tOrr bE
  congr 1
  funext k s
  cases k <;> rfl
theorem x_tYs (st : Sts) : tYs st = .ok true st := id rfl
theorem x_eIf (t : T) (a c : E) (st : Sts) : eIf t a c st = (bE (t st) <| .mk fun k s => if k = true then a s else c s) := by
  unfold eIf bE
  congr 1
  funext k s
  cases k <;> rfl
theorem x_eNt (m : EP') (st : Sts) : eNt m st = (bE (m st) <| .mk fun p s => bO (rd p s) <| .mk fun d => bO (truD d) <| .mk fun k => .ok (.bl (!k)) s) := by
  unfold eNt bE
  congr 1
  funext p s
  unfold bO
  cases rd p s with
  | none => rfl
  | some d => simp only [Option.bind_some]; cases truD d <;> rfl
theorem x_eAnd (a c : E) (st : Sts) : eAnd a c st = (bE (a st) <| .mk fun d s => bO (truD d) <| .mk fun k => if k = true then c s else .ok d s) := by
  unfold eAnd bE
  congr 1
  funext d s
  unfold bO
  cases truD d with
  | none => rfl
  | some k => cases k <;> rfl
theorem x_eOr (a c : E) (st : Sts) : eOrr a c st = (bE (a st) <| .mk fun d s => bO (truD d) <| .mk fun k => if k = true then .ok d s else c s) := by
  unfold eOrr bE
  congr 1
  funext d s
  unfold bO
  cases truD d with
  | none => rfl
  | some k => cases k <;> rfl
/-! statements -/
theorem x_nil (st : Sts) : sNil st = .nx st := id rfl
theorem x_seq (c d : C) (st : Sts) : sSeq c d st = bQ (c st) (.mk d) := by unfold sSeq bQ; cases c st <;> rfl
theorem x_if (t : T) (c d : C) (st : Sts) : sIf t c d st = (bF (t st) <| .mk fun k s => if k = true then c s else d s) := by
  unfold sIf bF
  congr 1
  funext k s
  cases k <;> rfl
theorem x_ret (m : E) (st : Sts) : sRet m st = (bF (m st) <| .mk fun d s => .rt d s) := id rfl
theorem x_retN (st : Sts) : sRetN st = .rt .non st := id rfl
theorem x_ex (m : E) (st : Sts) : sEx m st = (bF (m st) <| .mk fun _ s => .nx s) := id rfl
theorem x_bk (st : Sts) : sBk st = .bk st := id rfl
theorem x_ct (st : Sts) : sCt st = .ct st := id rfl
theorem x_nxS (s : Sts) : nxO (some s) = .nx s := id rfl
theorem x_nxN : nxO none = .bad := id rfl
theorem x_asg (m : E) (t : Tg) (st : Sts) : sAsg m t st = (bF (m st) <| .mk fun d s => nxO (t d s)) := id rfl
theorem x_tgN (i : Nat) (d : D) (ρ : List Sl) (S : List D) : tgN i d ⟨ρ, S⟩ = some ⟨ρ.set i (.val d), S⟩ := id rfl
theorem x_setO (i : Nat) (m : E) (st : Sts) : sSetO i m st = (bF (m st) <| .mk fun d s => .nx ⟨s.ρ.set i (.own d), s.S⟩) := id rfl
theorem x_setS (i : Nat) (m : E) (st : Sts) : sSetS i m st = (bF (m st) <| .mk fun d s => .nx ⟨s.ρ.set i (.val (.obj s.S.length)), s.S ++ [d]⟩) := id rfl
theorem x_wipe (is : List Nat) (c : C) (st : Sts) : sWipe is c st = bW is (c st) := by unfold sWipe bW; cases c st <;> rfl
theorem x_wipeN (st : Sts) : wipeS [] st = st := id rfl
theorem x_wipeC (i : Nat) (is : List Nat) (ρ : List Sl) (S : List D) : wipeS (i :: is) ⟨ρ, S⟩ = wipeS is ⟨ρ.set i .un, S⟩ := id rfl
theorem x_tgT (ts : List Tg) (ds : List D) (st : Sts) : tgT ts (.tup ds) st = tgTs ts ds st := id rfl
theorem x_tgsN (st : Sts) : tgTs [] [] st = some st := id rfl
theorem x_tgsC (t : Tg) (ts : List Tg) (d : D) (ds : List D) (st : Sts) : tgTs (t :: ts) (d :: ds) st = (bP (t d st) <| .mk fun s => tgTs ts ds s) := by rw [tgTs]; unfold bP; cases t d st <;> rfl
theorem x_forN (tg : Tg) (body : C) (st : Sts) : forL tg body [] st = .nx st := by rw [forL]
theorem x_for (it : Sts → Ou (List D)) (tg : Tg) (body : C) (st : Sts) : sFor it tg body st = (bF (it st) <| .mk fun ds s => forL tg body ds s) := id rfl
theorem x_par (i j : Nat) (ma mb : E) (st : Sts) : sPar i j ma mb st = (bF (ma st) <| .mk fun d s => bF (mb s) <| .mk fun e s2 => .nx ⟨(s2.ρ.set i (.val d)).set j (.val e), s2.S⟩) := id rfl
theorem x_parO (i j : Nat) (ma mb : E) (st : Sts) : sParO i j ma mb st = (bF (ma st) <| .mk fun d s => bF (mb s) <| .mk fun e s2 => .nx ⟨(s2.ρ.set j (.val e)).set i (.own d), s2.S⟩) := id rfl
def bV (o : Option Sl) (st : Sts) : Fl := match o with
  | some (.own d) => .rt d st
  | _ => .bad
theorem x_retV (i : Nat) (st : Sts) : sRetV i st = bV st.ρ[i]? st := id rfl
theorem x_bVo (d : D) (st : Sts) : bV (some (.own d)) st = .rt d st := id rfl
/-! calls -/
theorem x_call (f : Fn) (ms : List E) (st : Sts) : eCall f ms st = (bE (eArgs ms st) <| .mk fun ds s => bC (f ds s.S) s.ρ) := id rfl
theorem x_fnD (o : Bool) (N : Nat) (body : C) (ds S : List D) : fnD o N body ds S = bR o S.length (body ⟨ds.map .val ++ List.replicate (N - ds.length) .un, S⟩) := by
  unfold fnD bR
  cases body ⟨ds.map .val ++ List.replicate (N - ds.length) .un, S⟩ <;> rfl
theorem x_retO (n : Nat) (d : D) (S : List D) (h : S.length = n) : retO n d S = .ok d S := by unfold retO; rw [if_pos h]
theorem v_retO (n : Nat) (d : D) (S : List D) (h : S.length = n) : retO n d S = .ok d S := x_retO n d S h
theorem x_retX (n : Nat) (e : Ex) (S : List D) (h : S.length = n) : retX n e S = .xc e S := by unfold retX; rw [if_pos h]
/-! comprehensions, what is walked -/
theorem x_comp (it : Sts → Ou (List D)) (tg : Tg) (tt : T) (m : E) (vs : List Nat) (st : Sts) : eComp it tg tt m vs st = (bE (it st) <| .mk fun ds s => bE (compL tg tt m vs ds [] (wipeS vs s)) <| .mk fun acc s' => .ok (.lst acc) s') := id rfl
theorem x_iSeq (m : E) (st : Sts) : iSeq m st = (bE (m st) <| .mk fun d s => bO (itemsD d) <| .mk fun ds => .ok ds s) := by
  unfold iSeq bE
  congr 1
  funext d s
  unfold bO
  cases itemsD d <;> rfl
theorem x_itL (ds : List D) : itemsD (.lst ds) = some ds := id rfl
theorem x_itF (ds : List D) : itemsD (.fro ds) = some ds := id rfl
theorem x_itT (ds : List D) : itemsD (.tup ds) = some ds := id rfl
theorem x_itS (x : List Nat) : itemsD (.str x) = some (charsD x) := id rfl
def rngOk (j : Int) : Prop := -(2 ^ 62) ≤ j ∧ j < 2 ^ 62
instance (j : Int) : Decidable (rngOk j) := inferInstanceAs (Decidable (_ ∧ _))
def bG (d : D) (s : Sts) : Ou (List D) := match d with
  | .int j => if rngOk j then .ok (rangeD 0 j) s else .bad
  | _ => .bad
theorem x_bG (j : Int) (s : Sts) (h : rngOk j) : bG (.int j) s = .ok (rangeD 0 j) s := if_pos h
theorem x_rng1 (m : E) (st : Sts) : iRange1 m st = bE (m st) (.mk bG) := by
  unfold iRange1
  rw [x_bind, x_argsC]
  cases m st with
  | ok d s => cases d <;> rfl
  | _ => rfl
def bG2 (d e : D) (s : Sts) : Ou (List D) := match d, e with
  | .int i, .int j => if rngOk i ∧ rngOk j then .ok (rangeD i j) s else .bad
  | _, _ => .bad
theorem x_bG2 (i j : Int) (s : Sts) (hi : rngOk i) (hj : rngOk j) : bG2 (.int i) (.int j) s = .ok (rangeD i j) s := if_pos ⟨hi, hj⟩
theorem x_rng2 (m n : E) (st : Sts) : iRange2 m n st = (bE (m st) <| .mk fun d s1 => bE (n s1) <| .mk fun e s2 => bG2 d e s2) := by
  unfold iRange2
  rw [x_bind, x_argsC]
  simp only [x_argsC, x_argsN, bE]
  cases m st with
  | ok d s1 =>
    simp only [Ou.bind]
    cases n s1 with
    | ok e s2 => cases d <;> cases e <;> simp [bG2, rngOk, and_assoc]
    | _ => rfl
  | _ => rfl
theorem x_enum (m : E) (st : Sts) : iEnumD m st = (bE (m st) <| .mk fun d s => bO (seqD d) <| .mk fun es => .ok (enumF 0 es) s) := by
  unfold iEnumD
  rw [x_bind, x_argsC]
  simp only [x_argsN, bE]
  cases m st with
  | ok d s =>
    simp only [Ou.bind, bO]
    cases seqD d <;> rfl
  | _ => rfl
theorem x_sqL (ds : List D) : seqD (.lst ds) = some ds := id rfl
theorem x_sqF (ds : List D) : seqD (.fro ds) = some ds := id rfl
theorem x_sqT (ds : List D) : seqD (.tup ds) = some ds := id rfl
/-! changes -/
/-- a change of what a slot holds -/
def bM (o : Option Sl) (i : Nat) (st : Sts) (f : D → Option D) : Option Sts := match o with
  | some (.own d) => bP (f d) <| .mk fun d' => some ⟨st.ρ.set i (.own d'), st.S⟩
  | some (.val (.obj n)) => bP st.S[n]? <| .mk fun d => bP (f d) <| .mk fun d' => some ⟨st.ρ, st.S.set n d'⟩
  | _ => none
theorem x_bMo (d : D) (i : Nat) (ρ : List Sl) (S : List D) (f : D → Option D) : bM (some (.own d)) i ⟨ρ, S⟩ f = (bP (f d) <| .mk fun d' => some ⟨ρ.set i (.own d'), S⟩) := id rfl
theorem x_bMs (n : Nat) (i : Nat) (ρ : List Sl) (S : List D) (f : D → Option D) : bM (some (.val (.obj n))) i ⟨ρ, S⟩ f = (bP S[n]? <| .mk fun d => bP (f d) <| .mk fun d' => some ⟨ρ, S.set n d'⟩) := id rfl
theorem x_wrS (i : Nat) (st : Sts) (f : D → Option D) : wrAt (.s i) st f = bM st.ρ[i]? i st f := by
  unfold wrAt
  dsimp only
  unfold bM bP
  cases st.ρ[i]? with
  | none => rfl
  | some s =>
    cases s with
    | un => rfl
    | own d => dsimp only; cases f d <;> rfl
    | val d =>
      cases d with
      | obj n =>
        dsimp only
        cases st.S[n]? with
        | none => rfl
        | some d => simp only [Option.bind_some]; cases f d <;> rfl
      | _ => rfl
theorem x_wrD (n : Nat) (ρ : List Sl) (S : List D) (f : D → Option D) : wrAt (.d (.obj n)) ⟨ρ, S⟩ f = (bP S[n]? <| .mk fun d => bP (f d) <| .mk fun d' => some ⟨ρ, S.set n d'⟩) := by
  unfold wrAt
  dsimp only
  unfold bP
  cases S[n]? with
  | none => rfl
  | some d => simp only [Option.bind_some]; cases f d <;> rfl
def isLst : D → Bool
  | .lst _ => true
  | _ => false
theorem x_isLst (ds : List D) : isLst (.lst ds) = true := id rfl
theorem x_mutL (mo : EP') (me : E) (f : D → D → Option D) (st : Sts) : sMutL mo me f st = (bF (mo st) <| .mk fun p s1 => bN (rd p s1) <| .mk fun x => if isLst x = true then bF (me s1) <| .mk fun d s2 => nxO (wrAt p s2 (f d)) else .bad) := by
  unfold sMutL bF
  congr 1
  funext p s1
  unfold bN isL
  cases rd p s1 with
  | none => rfl
  | some x => cases x <;> rfl
def bT {α : Type} (m : Ou α) {k : α → Sts → Option Sts} (_ : Tag k) : Option Sts := match m with
  | .ok a s => k a s
  | _ => none
theorem x_bTo {α : Type} (a : α) (s : Sts) {k : α → Sts → Option Sts} (g : Tag k) : bT (.ok a s) g = k a s := id rfl
theorem x_tgSub (mo : EP') (mi : E) (d : D) (st : Sts) : tgSub mo mi d st = (bT (mo st) <| .mk fun p s1 => bT (mi s1) <| .mk fun i s2 => wrAt p s2 (setAtD i d)) := by
  unfold tgSub bT
  cases mo st with
  | ok p s1 => dsimp only; cases mi s1 <;> rfl
  | _ => rfl
theorem x_join (mo me : E) (st : Sts) : eJoin mo me st = (bE (mo st) <| .mk fun d s1 => if isStr d = true then bE (me s1) <| .mk fun e s2 => ofO (joinD d e) s2 else .bad) := id rfl
theorem x_isStr (x : List Nat) : isStr (.str x) = true := id rfl
theorem x_partN (st : Sts) : ePart none st = .ok none st := id rfl
theorem x_partS (m : E) (st : Sts) : ePart (some m) st = bE (m st) (.mk bI) := by
  show (m st).bind (fun d s => match d with
    | .int i => .ok (some i) s
    | _ => .bad) = _
  unfold bE
  congr 1
theorem x_sl (ma : EP') (ml mh : Option E) (st : Sts) : eSl ma ml mh st = (bE (ma st) <| .mk fun p s1 => bE (ePart ml s1) <| .mk fun lo s2 => bE (ePart mh s2) <| .mk fun hi s3 => bO (rd p s3) <| .mk fun x => ofO (cutD lo hi x) s3) := by
  show (ma st).bind (fun p s1 => (ePart ml s1).bind fun lo s2 => (ePart mh s2).bind fun hi s3 => ofO ((rd p s3).bind (cutD lo hi)) s3) = _
  unfold bE
  congr 1
  funext p s1
  congr 1
  funext lo s2
  congr 1
  funext hi s3
  unfold bO
  cases rd p s3 <;> rfl
theorem x_prsN (st : Sts) : ePairs [] st = .ok [] st := by rw [ePairs]
theorem x_prsC (mk mv : E) (r : List (E × E)) (st : Sts) : ePairs ((mk, mv) :: r) st = (bE (mk st) <| .mk fun k s1 => bE (mv s1) <| .mk fun v s2 => bE (ePairs r s2) <| .mk fun ps s3 => .ok ((k, v) :: ps) s3) := by
  rw [ePairs]; rfl
theorem x_disp (prs : List (E × E)) (st : Sts) : eDisp prs st = (bE (ePairs prs st) <| .mk fun kvs s => if dispOk kvs = true then .ok (.dct .K (mergeD [] kvs)) s else .bad) := id rfl
/-! operations -/
theorem sz_of {n : Nat} (h : n ≤ 16777216) : szOk n := by
  show n ≤ sizeLine
  rw [sizeLine_eq]; exact h
theorem v_addI (i j : Int) : addD (.int i) (.int j) = some (.int (i + j)) := id rfl
theorem v_addS (x y : List Nat) (h : szOk (x.length + y.length)) : addD (.str x) (.str y) = some (.str (x ++ y)) := if_pos h
theorem v_addT (x y : List D) (h : szOk (x.length + y.length)) : addD (.tup x) (.tup y) = some (.tup (x ++ y)) := if_pos h
theorem v_addL (x y : List D) (h : szOk (x.length + y.length)) : addD (.lst x) (.lst y) = some (.lst (x ++ y)) := if_pos h
theorem v_catL (x y : List D) (h : szOk (x.length + y.length)) : catD (.lst x) (.lst y) = some (.lst (x ++ y)) := if_pos h
theorem v_sub (i j : Int) : subD (.int i) (.int j) = some (.int (i - j)) := id rfl
theorem v_mod (i j : Int) (h : 0 < j) : modD (.int i) (.int j) = some (.int (i % j)) := if_pos h
theorem v_neg (i : Int) : negD (.int i) = some (.int (-i)) := id rfl
theorem v_ltI (i j : Int) : ltD (.int i) (.int j) = some (.bl (decide (i < j))) := id rfl
theorem v_leI (i j : Int) : leD (.int i) (.int j) = some (.bl (decide (i ≤ j))) := id rfl
theorem v_gtI (i j : Int) : gtD (.int i) (.int j) = some (.bl (decide (j < i))) := id rfl
theorem v_geI (i j : Int) : geD (.int i) (.int j) = some (.bl (decide (j ≤ i))) := id rfl
theorem v_ltS (i j : List Nat) : ltD (.str i) (.str j) = some (.bl (decide (i < j))) := id rfl
theorem v_leS (i j : List Nat) : leD (.str i) (.str j) = some (.bl (!decide (j < i))) := id rfl
theorem v_eqS (x y : List Nat) : eqD (.str x) (.str y) = some (.bl (decide (x = y))) := by
  have h : (x == y) = decide (x = y) := by rw [Bool.eq_iff_iff]; simp
  simp [eqD, eqOk, D.eq, D.pl, D.dep, h]
theorem v_eqI (x y : Int) : eqD (.int x) (.int y) = some (.bl (decide (x = y))) := by
  have h : (x == y) = decide (x = y) := by rw [Bool.eq_iff_iff]; simp
  simp [eqD, eqOk, D.eq, D.pl, D.dep, h]
theorem v_eqB (x y : Bool) : eqD (.bl x) (.bl y) = some (.bl (decide (x = y))) := by cases x <;> cases y <;> rfl
theorem v_neS (x y : List Nat) : neD (.str x) (.str y) = some (.bl (!decide (x = y))) := by
  have h : (x == y) = decide (x = y) := by rw [Bool.eq_iff_iff]; simp
  simp [neD, eqOk, D.eq, D.pl, D.dep, h]
theorem v_neI (x y : Int) : neD (.int x) (.int y) = some (.bl (!decide (x = y))) := by
  have h : (x == y) = decide (x = y) := by rw [Bool.eq_iff_iff]; simp
  simp [neD, eqOk, D.eq, D.pl, D.dep, h]
theorem v_neB (x y : Bool) : neD (.bl x) (.bl y) = some (.bl (!decide (x = y))) := by cases x <;> cases y <;> rfl
theorem v_inS (c : Nat) (y : List Nat) : inD (.str [c]) (.str y) = some (.bl (decide (c ∈ y))) := id rfl
theorem v_ninS (c : Nat) (y : List Nat) : notInD (.str [c]) (.str y) = some (.bl (!decide (c ∈ y))) := id rfl
theorem v_isNN : isD .non .non = some (.bl true) := id rfl
theorem v_isT (p : List D) : isD (.tup p) .non = some (.bl false) := id rfl
theorem v_isL (p : List D) : isD (.lst p) .non = some (.bl false) := id rfl
theorem v_isS (p : List Nat) : isD (.str p) .non = some (.bl false) := id rfl
theorem v_isI (p : Int) : isD (.int p) .non = some (.bl false) := id rfl
theorem v_isB (a c : Bool) : isD (.bl a) (.bl c) = some (.bl (decide (a = c))) := id rfl
theorem v_isNot (x y : D) (k : Bool) (h : isD x y = some (.bl k)) : isNotD x y = some (.bl (!k)) := by unfold isNotD; rw [h]; rfl
theorem v_ixL (ds : List D) (i : Int) : ixD (.lst ds) (.int i) = atI ds i := id rfl
theorem v_ixF (ds : List D) (i : Int) : ixD (.fro ds) (.int i) = atI ds i := id rfl
theorem v_ixT (ds : List D) (i : Int) : ixD (.tup ds) (.int i) = atI ds i := id rfl
theorem v_ixS (x : List Nat) (i : Int) (h : szOk x.length) : ixD (.str x) (.int i) = (bP (atI x i) <| .mk fun c => some (.str [c])) := by
  show (if szOk x.length then (atI x i).map fun c => D.str [c] else none) = _
  rw [if_pos h]
  cases atI x i <;> rfl
theorem v_ixK (kvs : List (D × D)) (k : List Nat) : ixD (.dct .K kvs) (.str k) = lookD .K kvs (.str k) := id rfl
theorem v_ixKI (kvs : List (D × D)) (k : Int) : ixD (.dct .K kvs) (.int k) = lookD .K kvs (.int k) := id rfl
theorem v_at0 {α : Type} (x : α) (xs : List α) : atI (x :: xs) 0 = some x := by
  have := L2.atI_nat (xs := x :: xs) (j := 0) (v := x) rfl
  exact this
theorem v_at1 {α : Type} (x y : α) (xs : List α) : atI (x :: y :: xs) 1 = some y := by
  have := L2.atI_nat (xs := x :: y :: xs) (j := 1) (v := y) rfl
  exact this
theorem v_at2 {α : Type} (x y z : α) (xs : List α) : atI (x :: y :: z :: xs) 2 = some z := by
  have := L2.atI_nat (xs := x :: y :: z :: xs) (j := 2) (v := z) rfl
  exact this
theorem v_lenL (xs : List D) : lenD [.lst xs] = some (.int xs.length) := id rfl
theorem v_lenF (xs : List D) : lenD [.fro xs] = some (.int xs.length) := id rfl
theorem v_lenT (xs : List D) : lenD [.tup xs] = some (.int xs.length) := id rfl
theorem v_lenS (x : List Nat) (h : szOk x.length) : lenD [.str x] = some (.int x.length) := if_pos h
theorem v_lenK (x : List (D × D)) : lenD [.dct .K x] = some (.int x.length) := id rfl
theorem v_lstL (xs : List D) : listD [.lst xs] = some (.lst xs) := id rfl
theorem v_lstT (xs : List D) : listD [.tup xs] = some (.lst xs) := id rfl
theorem v_lstF (xs : List D) : listD [.fro xs] = some (.lst xs) := id rfl
theorem v_tupL (xs : List D) : tupD [.lst xs] = some (.tup xs) := id rfl
theorem v_tupT (xs : List D) : tupD [.tup xs] = some (.tup xs) := id rfl
theorem v_tupF (xs : List D) : tupD [.fro xs] = some (.tup xs) := id rfl
theorem v_cutL (lo hi : Option Int) (xs : List D) : cutD lo hi (.lst xs) = some (.lst (cutL xs lo hi)) := id rfl
theorem v_cutT (lo hi : Option Int) (xs : List D) : cutD lo hi (.tup xs) = some (.tup (cutL xs lo hi)) := id rfl
theorem v_cutS (lo hi : Option Int) (x : List Nat) (h : szOk x.length) : cutD lo hi (.str x) = some (.str (cutL x lo hi)) := if_pos h
theorem v_app (y : D) (ds : List D) (h : szOk (ds.length + 1)) : appD y (.lst ds) = some (.lst (ds ++ [y])) := if_pos (show ds.length < sizeLine from h)
theorem v_ext (ds es : List D) (h : szOk (ds.length + es.length)) : extD (.lst es) (.lst ds) = some (.lst (ds ++ es)) := if_pos h
theorem v_truN : truD .non = some false := id rfl
theorem v_truB (k : Bool) : truD (.bl k) = some k := id rfl
theorem v_truI (i : Int) : truD (.int i) = some (i != 0) := id rfl
theorem v_truT (xs : List D) : truD (.tup xs) = some (!xs.isEmpty) := id rfl
theorem v_truL (xs : List D) : truD (.lst xs) = some (!xs.isEmpty) := id rfl
theorem v_truS (x : List Nat) (h : szOk x.length) : truD (.str x) = some (!x.isEmpty) := if_pos h
theorem v_rep (xs : List D) (j : Int) (h1 : smallI j = true) (h2 : szOk (xs.length * j.toNat)) : repD (.lst xs) (.int j) = some (.lst (List.replicate j.toNat xs).flatten) := if_pos ⟨h1, h2⟩
theorem v_mulS (xs : List Nat) (j : Int) (h1 : smallI j = true) (h2 : szOk (xs.length * j.toNat)) : mulD (.str xs) (.int j) = some (.str (repS xs j)) := if_pos ⟨h1, h2⟩
theorem v_mulI (i j : Int) (h : mulOk i j = true) : mulD (.int i) (.int j) = some (.int (i * j)) := if_pos h
theorem v_setL (ds : List D) (k : Int) (v : D) : setAtD (.int k) v (.lst ds) = (bP (ixN ds.length k) <| .mk fun j => some (.lst (ds.set j v))) := by
  show (ixN ds.length k).map _ = _
  cases ixN ds.length k <;> rfl
end DL
/-! DXb: comprehensions and loops by their turns. -/
namespace DL
open PySem PySem.Spec PyProof.Rows L2
/-- one turn of a comprehension: what is kept, the state behind it -/
def cStep (tg : Tg) (tt : T) (m : E) (vs : List Nat) (d : D) (st : Sts) : Option (Option D × Sts) := match tg d st with
  | none => none
  | some s1 => (match tt s1 with
    | .ok k s2 => if k = true then (match m s2 with
        | .ok y s3 => some (some y, wipeS vs s3)
        | _ => none) else some (none, wipeS vs s2)
    | _ => none)
def bK (k : Bool) (a b : Option (Option D × Sts)) : Option (Option D × Sts) := if k = true then a else b
def bU {α : Type} (m : Ou α) {k : α → Sts → Option (Option D × Sts)} (_ : Tag k) : Option (Option D × Sts) := match m with
  | .ok a s => k a s
  | _ => none
theorem x_bUo {α : Type} (a : α) (s : Sts) {k : α → Sts → Option (Option D × Sts)} (g : Tag k) : bU (.ok a s) g = k a s := id rfl
theorem x_cStep (tg : Tg) (tt : T) (m : E) (vs : List Nat) (d : D) (st : Sts) : cStep tg tt m vs d st = (bP (tg d st) <| .mk fun s1 => bU (tt s1) <| .mk fun k s2 => if k = true then (bU (m s2) <| .mk fun y s3 => some (some y, wipeS vs s3)) else some (none, wipeS vs s2)) := by
  unfold cStep bP bU
  cases tg d st with
  | none => rfl
  | some s1 =>
    dsimp only
    cases tt s1 with
    | ok k s2 =>
      dsimp only
      cases k with
      | false => rfl
      | true => simp only [if_true]; cases m s2 <;> rfl
    | _ => rfl
theorem x_compN (tg : Tg) (tt : T) (m : E) (vs : List Nat) (acc : List D) (st : Sts) : compL tg tt m vs [] acc st = .ok acc st := by rw [compL]
section
variable {tg : Tg} {tt : T} {m : E} {vs : List Nat} {d : D} {ds acc : List D} {st s : Sts}
theorem compL_keep {y : D} (h : cStep tg tt m vs d st = some (some y, s)) (hz : acc.length < 16777216) : compL tg tt m vs (d :: ds) acc st = compL tg tt m vs ds (acc ++ [y]) s := by
  unfold cStep at h
  rw [compL]
  cases e1 : tg d st with
  | none => rw [e1] at h; cases h
  | some s1 =>
    rw [e1] at h
    dsimp only at h ⊢
    cases e2 : tt s1 with
    | ok k s2 =>
      rw [e2] at h
      cases k with
      | false => simp at h
      | true =>
        simp only [if_true] at h ⊢
        cases e3 : m s2 with
        | ok y' s3 =>
          rw [e3] at h
          simp only [Option.some.injEq, Prod.mk.injEq] at h
          obtain ⟨rfl, rfl⟩ := h
          dsimp only
          rw [if_pos (show acc.length < sizeLine by rw [sizeLine_eq]; exact hz)]
        | _ => rw [e3] at h; cases h
    | _ => rw [e2] at h; cases h
theorem compL_skip (h : cStep tg tt m vs d st = some (none, s)) : compL tg tt m vs (d :: ds) acc st = compL tg tt m vs ds acc s := by
  unfold cStep at h
  rw [compL]
  cases e1 : tg d st with
  | none => rw [e1] at h; cases h
  | some s1 =>
    rw [e1] at h
    dsimp only at h ⊢
    cases e2 : tt s1 with
    | ok k s2 =>
      rw [e2] at h
      cases k with
      | false =>
        simp at h
        subst h
        rfl
      | true =>
        simp only [if_true] at h
        cases e3 : m s2 with
        | ok y' s3 => rw [e3] at h; simp at h
        | _ => rw [e3] at h; cases h
    | _ => rw [e2] at h; cases h
end
/-- the state stays: what is kept is a function of the item -/
theorem comp_pure {α : Type} {tg : Tg} {tt : T} {m : E} {vs : List Nat} {st : Sts} (e : α → D) (f : α → Option D) : ∀ (xs : List α) (acc : List D), (∀ x ∈ xs, cStep tg tt m vs (e x) st = some (f x, st)) → acc.length + xs.length ≤ 16777216 →
    compL tg tt m vs (xs.map e) acc st = .ok (acc ++ xs.filterMap f) st
  | [], acc, _, _ => by simp [compL]
  | x :: xs, acc, h, hz => by
    have h1 := h x List.mem_cons_self
    simp only [List.length_cons] at hz
    rw [List.map_cons]
    cases q : f x with
    | none =>
      rw [q] at h1
      rw [compL_skip h1, comp_pure e f xs acc (fun y hy => h y (List.mem_cons_of_mem _ hy)) (by omega), List.filterMap_cons_none q]
    | some y =>
      rw [q] at h1
      rw [compL_keep h1 (by omega), comp_pure e f xs (acc ++ [y]) (fun y hy => h y (List.mem_cons_of_mem _ hy)) (by rw [List.length_append, List.length_singleton]; omega), List.filterMap_cons_some q]
      simp
/-- .. of every item -/
theorem comp_map {α : Type} {tg : Tg} {tt : T} {m : E} {vs : List Nat} {st : Sts} (e : α → D) (f : α → D) (xs : List α) (h : ∀ x ∈ xs, cStep tg tt m vs (e x) st = some (some (f x), st)) (hz : xs.length ≤ 16777216) :
    compL tg tt m vs (xs.map e) [] st = .ok (xs.map f) st := by
  have := comp_pure (tg := tg) (tt := tt) (m := m) (vs := vs) (st := st) e (fun x => some (f x)) xs [] h (by simpa using hz)
  rw [this, List.filterMap_eq_map']
  simp
/-- .. of the items with a property -/
theorem comp_filter {α : Type} {tg : Tg} {tt : T} {m : E} {vs : List Nat} {st : Sts} (e : α → D) (p : α → Bool) (f : α → D) (xs : List α) (h : ∀ x ∈ xs, cStep tg tt m vs (e x) st = some (if p x = true then some (f x) else none, st)) (hz : xs.length ≤ 16777216) :
    compL tg tt m vs (xs.map e) [] st = .ok ((xs.filter p).map f) st := by
  have := comp_pure (tg := tg) (tt := tt) (m := m) (vs := vs) (st := st) e (fun x => if p x = true then some (f x) else none) xs [] h (by simpa using hz)
  rw [this, List.nil_append]
  congr 1
  clear this h hz
  induction xs with
  | nil => rfl
  | cons x xs ih =>
    by_cases hp : p x = true
    · rw [List.filterMap_cons_some (by rw [if_pos hp]), List.filter_cons_of_pos hp, List.map_cons, ih]
    · rw [List.filterMap_cons_none (by rw [if_neg hp]), List.filter_cons_of_neg hp, ih]
/-- the state changes within a family; each turn keeps something good or nothing -/
theorem comp_fam {τ : Type} {tg : Tg} {tt : T} {m : E} {vs : List Nat} (mk : τ → Sts) (I : Nat → τ → Prop) (G : D → Prop) (N : Nat) : ∀ (ds : List D) (acc : List D) (n : Nat) (t : τ),
    (∀ d ∈ ds, ∀ n t, I n t → n < N → ∃ o t', cStep tg tt m vs d (mk t) = some (o, mk t') ∧ I (n + 1) t' ∧ ∀ y, o = some y → G y) → acc.length + ds.length ≤ 16777216 → I n t → n + ds.length ≤ N →
    ∃ ys t', compL tg tt m vs ds acc (mk t) = .ok (acc ++ ys) (mk t') ∧ ys.length ≤ ds.length ∧ (∀ y ∈ ys, G y) ∧ I (n + ds.length) t'
  | [], acc, n, t, _, _, hi, _ => ⟨[], t, by simp [compL], by simp, by simp, hi⟩
  | d :: ds, acc, n, t, h, hz, hi, hN => by
    simp only [List.length_cons] at hz hN
    obtain ⟨o, t1, e1, i1, g1⟩ := h d List.mem_cons_self n t hi (by omega)
    have hr := fun d' (hd : d' ∈ ds) => h d' (List.mem_cons_of_mem _ hd)
    cases o with
    | none =>
      obtain ⟨ys, t2, e2, l2, g2, i2⟩ := comp_fam mk I G N ds acc (n + 1) t1 hr (by omega) i1 (by omega)
      exact ⟨ys, t2, by rw [compL_skip e1, e2], by simp only [List.length_cons]; omega, g2, by rw [List.length_cons, show n + (ds.length + 1) = n + 1 + ds.length by omega]; exact i2⟩
    | some y =>
      obtain ⟨ys, t2, e2, l2, g2, i2⟩ := comp_fam mk I G N ds (acc ++ [y]) (n + 1) t1 hr (by rw [List.length_append, List.length_singleton]; omega) i1 (by omega)
      refine ⟨y :: ys, t2, by rw [compL_keep e1 (by omega), e2]; simp, by simp only [List.length_cons]; omega, fun z hz => ?_, by rw [List.length_cons, show n + (ds.length + 1) = n + 1 + ds.length by omega]; exact i2⟩
      rcases List.mem_cons.mp hz with rfl | hz
      · exact g1 _ rfl
      · exact g2 z hz
/-- .. each turn keeps something good -/
theorem comp_famA {τ : Type} {tg : Tg} {tt : T} {m : E} {vs : List Nat} (mk : τ → Sts) (I : Nat → τ → Prop) (G : D → Prop) (N : Nat) : ∀ (ds : List D) (acc : List D) (n : Nat) (t : τ),
    (∀ d ∈ ds, ∀ n t, I n t → n < N → ∃ y t', cStep tg tt m vs d (mk t) = some (some y, mk t') ∧ I (n + 1) t' ∧ G y) → acc.length + ds.length ≤ 16777216 → I n t → n + ds.length ≤ N →
    ∃ ys t', compL tg tt m vs ds acc (mk t) = .ok (acc ++ ys) (mk t') ∧ ys.length = ds.length ∧ (∀ y ∈ ys, G y) ∧ I (n + ds.length) t'
  | [], acc, n, t, _, _, hi, _ => ⟨[], t, by simp [compL], by simp, by simp, hi⟩
  | d :: ds, acc, n, t, h, hz, hi, hN => by
    simp only [List.length_cons] at hz hN
    obtain ⟨y, t1, e1, i1, g1⟩ := h d List.mem_cons_self n t hi (by omega)
    have hr := fun d' (hd : d' ∈ ds) => h d' (List.mem_cons_of_mem _ hd)
    obtain ⟨ys, t2, e2, l2, g2, i2⟩ := comp_famA mk I G N ds (acc ++ [y]) (n + 1) t1 hr (by rw [List.length_append, List.length_singleton]; omega) i1 (by omega)
    refine ⟨y :: ys, t2, by rw [compL_keep e1 (by omega), e2]; simp, by simp only [List.length_cons]; omega, fun z hz => ?_, by rw [List.length_cons, show n + (ds.length + 1) = n + 1 + ds.length by omega]; exact i2⟩
    rcases List.mem_cons.mp hz with rfl | hz
    · exact g1
    · exact g2 z hz
/-! ### for loops -/
/-- one turn of a loop -/
def fStep (tg : Tg) (body : C) (d : D) (st : Sts) : Fl := match tg d st with
  | none => .bad
  | some s => (match body s with
    | .ct s => .nx s
    | r => r)
def bH (r : Fl) : Fl := match r with
  | .ct s => .nx s
  | r => r
theorem x_bHn (s : Sts) : bH (.nx s) = .nx s := id rfl
theorem x_bHc (s : Sts) : bH (.ct s) = .nx s := id rfl
theorem x_bHb (s : Sts) : bH (.bk s) = .bk s := id rfl
theorem x_bHr (v : D) (s : Sts) : bH (.rt v s) = .rt v s := id rfl
theorem x_bHx (e : Ex) (s : Sts) : bH (.xc e s) = .xc e s := id rfl
theorem x_bHd : bH .bad = .bad := id rfl
theorem x_fStep (tg : Tg) (body : C) (d : D) (st : Sts) : fStep tg body d st = (bN (tg d st) <| .mk fun s => bH (body s)) := by
  unfold fStep bN bH
  cases tg d st with
  | none => rfl
  | some s => dsimp only
theorem forL_step (tg : Tg) (body : C) (d : D) (ds : List D) (st : Sts) : forL tg body (d :: ds) st = (match fStep tg body d st with
  | .nx s => forL tg body ds s
  | .bk s => .nx s
  | r => r) := by
  rw [forL]
  unfold fStep
  cases tg d st with
  | none => rfl
  | some s => first | rfl | (dsimp only; done) | (dsimp only; cases body s <;> rfl)
/-- the state is a function of the turns -/
theorem for_fold {α β : Type} {tg : Tg} {body : C} (e : α → D) (mk : β → Sts) (step : β → α → β) : ∀ (xs : List α) (b : β), (∀ b, ∀ x ∈ xs, fStep tg body (e x) (mk b) = .nx (mk (step b x))) → forL tg body (xs.map e) (mk b) = .nx (mk (xs.foldl step b))
  | [], b, _ => by simp [forL]
  | x :: xs, b, h => by
    rw [List.map_cons, forL_step, h b x List.mem_cons_self]
    exact for_fold e mk step xs (step b x) fun b y hy => h b y (List.mem_cons_of_mem _ hy)
/-- .. by an invariant over what is done, what is left -/
theorem for_inv {α β : Type} {tg : Tg} {body : C} (e : α → D) (mk : β → Sts) (I : List α → β → Prop) : ∀ (xs : List α) (b : β), (∀ x r b, (∃ p, xs = p ++ x :: r) → I (x :: r) b → ∃ b', fStep tg body (e x) (mk b) = .nx (mk b') ∧ I r b') → I xs b →
    ∃ b', forL tg body (xs.map e) (mk b) = .nx (mk b') ∧ I [] b'
  | [], b, _, i => ⟨b, by simp [forL], i⟩
  | x :: xs, b, h, i => by
    obtain ⟨b1, e1, i1⟩ := h x xs b ⟨[], rfl⟩ i
    obtain ⟨b2, e2, i2⟩ := for_inv e mk I xs b1 (fun y r b ⟨p, hp⟩ => h y r b ⟨x :: p, by rw [hp]; rfl⟩) i1
    exact ⟨b2, by rw [List.map_cons, forL_step, e1]; exact e2, i2⟩
/-- turns that leave the state -/
theorem for_same {tg : Tg} {body : C} {st : Sts} : ∀ (ds : List D), (∀ d ∈ ds, fStep tg body d st = .nx st) → forL tg body ds st = .nx st
  | [], _ => by simp [forL]
  | d :: ds, h => by
    rw [forL_step, h d List.mem_cons_self]
    exact for_same ds fun x hx => h x (List.mem_cons_of_mem _ hx)
/-- the state within a family, the turns counted -/
theorem for_fam {τ : Type} {tg : Tg} {body : C} (mk : τ → Sts) (I : Nat → τ → Prop) (N : Nat) : ∀ (ds : List D) (n : Nat) (t : τ), (∀ d ∈ ds, ∀ n t, I n t → n < N → ∃ t', fStep tg body d (mk t) = .nx (mk t') ∧ I (n + 1) t') → I n t → n + ds.length ≤ N →
    ∃ t', forL tg body ds (mk t) = .nx (mk t') ∧ I (n + ds.length) t'
  | [], n, t, _, hi, _ => ⟨t, by simp [forL], hi⟩
  | d :: ds, n, t, h, hi, hN => by
    simp only [List.length_cons] at hN
    obtain ⟨t1, e1, i1⟩ := h d List.mem_cons_self n t hi (by omega)
    obtain ⟨t2, e2, i2⟩ := for_fam mk I N ds (n + 1) t1 (fun x hx => h x (List.mem_cons_of_mem _ hx)) i1 (by omega)
    exact ⟨t2, by rw [forL_step, e1]; exact e2, by rw [List.length_cons, show n + (ds.length + 1) = n + 1 + ds.length by omega]; exact i2⟩
/-- a search: the first item with a property ends it -/
theorem for_find {α : Type} {tg : Tg} {body : C} {st : Sts} (e : α → D) (p : α → Bool) (r : α → Fl) : ∀ (xs : List α), (∀ x ∈ xs, fStep tg body (e x) st = if p x = true then r x else .nx st) → (∀ x ∈ xs, ∃ d s, r x = .rt d s) →
    forL tg body (xs.map e) st = (match xs.find? p with
      | some x => r x
      | none => .nx st)
  | [], _, _ => by simp [forL]
  | x :: xs, h, hr => by
    rw [List.map_cons, forL_step, h x List.mem_cons_self]
    by_cases hp : p x = true
    · rw [if_pos hp, List.find?_cons_of_pos hp]
      obtain ⟨d, s, q⟩ := hr x List.mem_cons_self
      rw [q]
      exact q.symm
    · rw [if_neg hp, List.find?_cons_of_neg hp]
      exact for_find e p r xs (fun y hy => h y (List.mem_cons_of_mem _ hy)) fun y hy => hr y (List.mem_cons_of_mem _ hy)
/-! ### while -/
theorem whN_step (t : T) (body : C) (n : Nat) (st : Sts) : whN t body (n + 1) st = (match t st with
  | .ok k s => if k = true then (match body s with
      | .nx s => whN t body n s
      | .ct s => whN t body n s
      | .bk s => .nx s
      | r => r) else .nx s
  | .xc e s => .xc e s
  | .bad => .bad) := by
  rw [whN]
  unfold ouF
  cases t st with
  | ok k s =>
    cases k with
    | false => rfl
    | true => simp only [if_true]; unfold turnF; cases body s <;> rfl
  | _ => rfl
end DL
/-! DLm: sorted(set(list of texts)) by data. -/
namespace DL
open PySem PySem.Spec PyProof.Rows L2
/-- a text is put into an ascending list without doubles -/
def insU (x : List Nat) : List (List Nat) → List (List Nat)
  | [] => [x]
  | y :: r => if x < y then x :: y :: r else if x = y then y :: r else y :: insU x r
def sortU (xs : List (List Nat)) : List (List Nat) := xs.foldr insU []
theorem mem_insU {x z : List Nat} : ∀ {l : List (List Nat)}, z ∈ insU x l ↔ z = x ∨ z ∈ l
  | [] => by simp [insU]
  | y :: r => by
    unfold insU
    split
    · simp
    · split
      · rename_i h; subst h; simp
      · simp [mem_insU (l := r)]
        constructor
        · rintro (h | h | h) <;> simp [h]
        · rintro (h | h | h) <;> simp [h]
theorem mem_sortU {z : List Nat} : ∀ {l : List (List Nat)}, z ∈ sortU l ↔ z ∈ l
  | [] => by simp [sortU]
  | y :: r => by
    show z ∈ insU y (sortU r) ↔ _
    rw [mem_insU, mem_sortU (l := r), List.mem_cons]
theorem asc_insU {x : List Nat} : ∀ {l : List (List Nat)}, l.Pairwise (· < ·) → (insU x l).Pairwise (· < ·)
  | [], _ => by simp [insU]
  | y :: r, h => by
    obtain ⟨h1, h2⟩ := List.pairwise_cons.mp h
    unfold insU
    split
    · rename_i hx
      refine List.pairwise_cons.mpr ⟨fun z hz => ?_, h⟩
      rcases List.mem_cons.mp hz with rfl | hz
      · exact hx
      · exact List.lt_trans hx (h1 z hz)
    · split
      · exact h
      · rename_i hx hn
        refine List.pairwise_cons.mpr ⟨fun z hz => ?_, asc_insU h2⟩
        rcases mem_insU.mp hz with rfl | hz
        · rcases Classical.em (y < z) with k | k
          · exact k
          · exact absurd (List.le_antisymm (List.not_lt.mp k) (List.not_lt.mp hx)) hn
        · exact h1 z hz
theorem asc_sortU : ∀ l : List (List Nat), (sortU l).Pairwise (· < ·)
  | [] => List.Pairwise.nil
  | y :: r => asc_insU (asc_sortU r)
/-- ascending lists with the same members -/
theorem asc_ext : ∀ {a b : List (List Nat)}, a.Pairwise (· < ·) → b.Pairwise (· < ·) → (∀ z, z ∈ a ↔ z ∈ b) → a = b
  | [], [], _, _, _ => rfl
  | [], y :: r, _, _, h => absurd ((h y).mpr List.mem_cons_self) (by simp)
  | x :: r, [], _, _, h => absurd ((h x).mp List.mem_cons_self) (by simp)
  | x :: r, y :: t, h1, h2, h => by
    obtain ⟨a1, a2⟩ := List.pairwise_cons.mp h1
    obtain ⟨b1, b2⟩ := List.pairwise_cons.mp h2
    have e : x = y := by
      rcases List.mem_cons.mp ((h x).mp List.mem_cons_self) with e | m
      · exact e
      · rcases List.mem_cons.mp ((h y).mpr List.mem_cons_self) with e | m'
        · exact e.symm
        · exact absurd (List.lt_trans (a1 y m') (b1 x m)) (List.lt_irrefl x)
    subst e
    rw [asc_ext a2 b2 fun z => ?_]
    constructor
    · intro hz
      rcases List.mem_cons.mp ((h z).mp (List.mem_cons_of_mem _ hz)) with rfl | q
      · exact absurd (a1 z hz) (List.lt_irrefl z)
      · exact q
    · intro hz
      rcases List.mem_cons.mp ((h z).mpr (List.mem_cons_of_mem _ hz)) with rfl | q
      · exact absurd (b1 z hz) (List.lt_irrefl z)
      · exact q
theorem rising_le : ∀ (p : Str) (l : List Str), risingS p l = true → ∀ x ∈ l, ¬ (x.cps.toList < p.cps.toList)
  | p, [], _, x, hx => by simp at hx
  | p, y :: r, h, x, hx => by
    simp only [risingS, Bool.and_eq_true, Bool.not_eq_true', ltCps_eq, decide_eq_false_iff_not] at h
    rcases List.mem_cons.mp hx with rfl | hx
    · exact h.1
    · have q := rising_le y r h.2 x hx
      exact fun k => q (Std.lt_of_lt_of_le k (List.not_lt.mp h.1))
theorem sortedS_pw : ∀ (l : List Str), sortedS l = true → l.Pairwise fun a b => ¬ (b.cps.toList < a.cps.toList)
  | [], _ => List.Pairwise.nil
  | [x], _ => List.pairwise_singleton _ _
  | x :: y :: r, h => by
    refine List.pairwise_cons.mpr ⟨fun z hz => rising_le x (y :: r) h z hz, ?_⟩
    refine sortedS_pw (y :: r) ?_
    have h' : risingS x (y :: r) = true := h
    simp only [risingS, Bool.and_eq_true] at h'
    exact h'.2
theorem kU_mem {val : Nat → Str} {z : Str} : ∀ {n : Nat}, z ∈ kU val n ↔ ∃ i, i < n ∧ z = val i
  | 0 => by simp [kU]
  | n + 1 => by
    have e : z ∈ kU val (n + 1) ↔ z = val n ∨ z ∈ kU val n := by
      show z ∈ addK (kU val n) (val n) ↔ _
      unfold addK
      split
      · rename_i h
        exact ⟨.inr, fun q => q.elim (fun q => q ▸ h) id⟩
      · exact List.mem_cons
    rw [e, kU_mem (n := n)]
    constructor
    · rintro (h | ⟨i, hi, h⟩)
      · exact ⟨n, by omega, h⟩
      · exact ⟨i, by omega, h⟩
    · rintro ⟨i, hi, h⟩
      by_cases q : i = n
      · exact .inl (q ▸ h)
      · exact .inr ⟨i, by omega, h⟩
theorem kU_nodup {val : Nat → Str} : ∀ n : Nat, (kU val n).Nodup
  | 0 => List.nodup_nil
  | n + 1 => by
    show (addK (kU val n) (val n)).Nodup
    unfold addK
    split
    · exact kU_nodup n
    · rename_i h
      exact List.nodup_cons.mpr ⟨h, kU_nodup n⟩
theorem str_ext {x y : Str} (h : x.cps.toList = y.cps.toList) : x = y := by
  cases x; cases y
  simpa using h
theorem sorted_is {xs : List (List Nat)} {ys : List Str} (hp : ys.Perm (kU (fun i => (xs.map fun x => (⟨x.toArray⟩ : Str)).getD i Str.empty) (xs.map fun x => (⟨x.toArray⟩ : Str)).length)) (hs : sortedS ys = true) : ys.map (fun y => y.cps.toList) = sortU xs := by
  have nd : ys.Nodup := hp.nodup_iff.mpr (kU_nodup _)
  have pw := sortedS_pw ys hs
  refine asc_ext ?_ (asc_sortU xs) fun z => ?_
  · rw [List.pairwise_map]
    refine (pw.and nd).imp ?_
    rintro a b ⟨h1, h2⟩
    rcases Classical.em (a.cps.toList < b.cps.toList) with k | k
    · exact k
    · exact absurd (str_ext (List.le_antisymm (List.not_lt.mp h1) (List.not_lt.mp k))) h2
  · rw [mem_sortU]
    constructor
    · intro hz
      obtain ⟨y, hy, rfl⟩ := List.mem_map.mp hz
      obtain ⟨i, hi, e⟩ := kU_mem.mp (hp.mem_iff.mp hy)
      rw [List.length_map] at hi
      rw [List.getD_eq_getElem?_getD, List.getElem?_map, List.getElem?_eq_getElem hi] at e
      subst e
      simp
    · intro hz
      obtain ⟨i, hi, e⟩ := List.mem_iff_getElem.mp hz
      refine List.mem_map.mpr ⟨⟨z.toArray⟩, hp.mem_iff.mpr (kU_mem.mpr ⟨i, by rw [List.length_map]; exact hi, ?_⟩), by simp⟩
      rw [List.getD_eq_getElem?_getD, List.getElem?_map, List.getElem?_eq_getElem hi, e]
      rfl
def eSortSet (m : E) : E := fun st => (m st).bind fun d s => match d with
  | .lst ds => (match strsOf ds with
    | some xs => if xs.length < 64 then .ok (.lst ((sortU xs).map .str)) s else .bad
    | none => .bad)
  | _ => .bad
def bX (d : D) (s : Sts) : Ou D := match d with
  | .lst ds => (match strsOf ds with
    | some xs => if xs.length < 64 then .ok (.lst ((sortU xs).map .str)) s else .bad
    | none => .bad)
  | _ => .bad
theorem x_bX (ds : List D) (xs : List (List Nat)) (s : Sts) (h1 : strsOf ds = some xs) (h2 : xs.length < 64) : bX (.lst ds) s = .ok (.lst ((sortU xs).map .str)) s := by
  unfold bX
  dsimp only
  rw [h1]
  exact if_pos h2
theorem x_sortSet (m : E) (st : Sts) : eSortSet m st = bE (m st) (.mk bX) := by
  unfold eSortSet bE
  congr 1
theorem reps_strs {Γ : Md} {g : Gh} {H : Hp} : ∀ (ys : List Str), (∀ y ∈ ys, okS y.cps.toList) → Reps Γ g H (ys.map fun y => D.str y.cps.toList) (ys.map V.str)
  | [], _ => rfl
  | y :: ys, h => ⟨.str y, ys.map V.str, rfl, ⟨by cases y; simp, h y List.mem_cons_self⟩, reps_strs ys fun z hz => h z (List.mem_cons_of_mem _ hz)⟩
section
variable {X : Cx} {b : Base} {W : WX}
theorem do_sortSet {a : Expr} {m : E} {p p2 q pos : Pos} (hc : X.calm = true) (hg : Gl X "sorted") (hm : X.mg "sorted" = none) (hg2 : Gl X "set") (hm2 : X.mg "set" = none) (ha : DE X b W a m)
    (na : starEach [a] X.env = (false, eval a X.env) :: starEach [] X.env := by rfl) : DO X b W (.Call (.Name "sorted" p) [.Call (.Name "set" p2) [a] [] q] [] pos) (eSortSet m) := by
  refine PE.imp (pe_sortset hc hg hm hg2 hm2 ha na) fun σ H Q ⟨g, st, w, k⟩ => ⟨g, st, w, (Fin.bind k).imp (fun d s1 k1 g1 x H1 l1 w1 r1 => ?_) fun _ _ q => q⟩
  cases d with
  | lst ds =>
    obtain ⟨l, vs, rfl, ⟨hF, hl⟩, rs⟩ := r1
    dsimp only at k1
    cases e : strsOf ds with
    | none => rw [e] at k1; exact k1.elim
    | some xs =>
      rw [e] at k1
      dsimp only at k1
      by_cases h64 : xs.length < 64
      · rw [if_pos h64] at k1
        obtain ⟨h1, h2⟩ := strsOf_reps e rs
        subst h1
        refine ⟨l, xs.map fun x => (⟨x.toArray⟩ : Str), rfl, SqL.of hl, by rw [List.length_map]; exact h64, fun ys p hp hs np => ?_⟩
        have es := sorted_is hp hs
        refine w1.new l1 k1 p _ np ⟨_, upd_same, ?_⟩
        have e2 : (sortU xs).map D.str = ys.map fun y => D.str y.cps.toList := by rw [← es, List.map_map]; rfl
        rw [e2]
        refine reps_strs ys fun y hy => ?_
        have : y.cps.toList ∈ sortU xs := by rw [← es]; exact List.mem_map.mpr ⟨y, hy, rfl⟩
        exact h2 _ (mem_sortU.mp this)
      · rw [if_neg h64] at k1
        exact k1.elim
  | _ => exact k1.elim
end
end DL
/-! DLn: a list unpacked into names. -/
namespace DL
open PySem PySem.Spec PyProof.Rows L2
def tgU (ts : List Tg) : Tg := fun d st => match d with
  | .lst ds => tgTs ts ds st
  | _ => none
theorem x_tgU (ts : List Tg) (ds : List D) (st : Sts) : tgU ts (.lst ds) st = tgTs ts ds st := id rfl
section
variable {X : Cx} {b : Base} {W : WX}
theorem dg_unl {es : List Expr} {ts : List Tg} {k : Nat} {pos : Pos} (hc : X.calm = true) (h : PGs X es (TDgs (md X) b ts)) (hn : (assignEach es X.env).length = ts.length := by rfl) (hst : (assignEach es X.env).findIdx? (·.1) = none := by rfl) :
    DG X b (.Tuple es k pos) (tgU ts) := PG.imp (pg_unl hc h hn hst) fun v σ H Q ⟨g, st, d, w, r, k⟩ => by
  cases d with
  | lst ds =>
    obtain ⟨a, xs, rfl, ⟨_, q⟩, rs⟩ := r
    have hl := tgTs_len (show FinO _ (tgTs ts ds st) from k)
    exact ⟨a, xs, rfl, SqL.of q, by rw [rs.length, hl], g, st, ds, w, rs, k⟩
  | _ => exact k.elim
end
end DL
/-! DLo: name = [..]: comprehensions that are stored. -/
namespace DL
open PySem PySem.Spec PyProof.Rows L2
section
variable {X : Cx} {b : Base} {W : WX}
/-- what a comprehension asks, out of its denotation -/
theorem comp_imp {it : Sts → Ou (List D)} {t : Tg} {tt : T} {m : E} (own : List (Str × Nat)) : ∀ (σ : Slots) (H : Hp) (Q : VK), TDo (md X) b W (eComp it t tt m (own.map (·.2))) σ H Q →
    tLc (TDi (md X) b W it) (fun v σ H Q => ∃ b', TDgc (md X) b' (own.map (·.2)) t v σ H Q) (fun σ H Q => ∃ b', TDt (md X) b' W0 tt σ H Q) (fun σ H Q => ∃ b', TDe (md X) b' W0 m σ H Q) (own.map (·.2)) σ H Q := by
  refine fun σ H Q ⟨g, st, w, k⟩ => ⟨g, st, w, (Fin.bind k).imp (fun ds s k1 g1 J H1 l1 w1 io D0 hD => ?_) fun _ _ q => q⟩
  generalize hvs : own.map (·.2) = vs at k1 ⊢
  have wD : Wd (md X) (b.add (D0, .lst [])) g1 σ (upd H1 D0 (.lst [])) s := (w1.al (Al.laid w1.gr.tF hD (.lst []))).addP upd_same (w1.notF hD) (w1.notAs hD) (w1.notOwn hD)
  have n0 := w1.not0 hD
  have npp := w1.notProt hD
  have lD : Le g1 H1 g1 (upd H1 D0 (.lst [])) := (Al.laid w1.gr.tF hD (.lst [])).le
  refine ⟨fun i mm Hc => mm = ds.length - i ∧ i ≤ ds.length ∧ ∃ g2 st2 acc xs, Le g1 H1 g2 Hc ∧ Wd (md X) (b.add (D0, .lst xs)) g2 (L2.wipe σ vs) Hc st2 ∧ Reps (md X) g2 Hc acc xs ∧ (∀ j ∈ vs, ∀ s, st2.ρ[j]? = some s → s = .un) ∧
      Fin (fun acc' st' => ∀ g' xs' H', Le g1 H1 g' H' → Wd (md X) (b.add (D0, .lst xs')) g' (L2.wipe σ vs) H' st' → Reps (md X) g' H' acc' xs' → (∀ j ∈ vs, ∀ s, st'.ρ[j]? = some s → s = .un) → Q (.ref D0) H') (fun _ _ => False) (compL t tt m vs (ds.drop i) acc st2),
    ⟨ds.length, by simp, Nat.zero_le _, g1, wipeS vs s, [], [], lD, wD.wiped vs, rfl, fun j hj s e => wipeS_un vs _ j s hj e, ?_⟩, ?_⟩
  · -- the start
    have k2 := Fin.bind k1
    cases e : compL t tt m vs ds [] (wipeS vs s) with
    | bad => rw [e] at k2; exact k2.elim
    | xc x s' =>
      exfalso
      have nox : ∀ (ds acc : List D) (st : Sts) (x : Ex) (s' : Sts), compL t tt m vs ds acc st ≠ .xc x s' := by
        intro ds
        induction ds with
        | nil => intro acc st x s' h; cases h
        | cons d ds ih =>
          intro acc st x s' h
          unfold compL at h
          split at h
          · cases h
          · split at h
            · exact ih _ _ _ _ h
            · split at h
              · split at h
                · exact ih _ _ _ _ h
                · cases h
              · cases h
            · cases h
      exact nox _ _ _ _ _ e
    | ok acc' s' =>
      rw [e] at k2
      show Fin _ _ (compL t tt m vs (ds.drop 0) [] (wipeS vs s))
      rw [List.drop_zero, e]
      intro g' xs' H' l' w' r' hu
      obtain ⟨h1, h2, h3, h4⟩ := w'.atP
      have k3 : ∀ g' a H', Le g H g' H' → Wd (md X) b g' σ H' s' → Cont (md X) g' H' (.lst acc') a → ¬ g'.F a → a ∉ g'.as → b.H0 a = none → (∀ (j : Nat) e, s'.ρ[j]? = some (.own e) → σ[j]? ≠ some (some (.ref a))) → (∀ p ∈ b.P, p.1 ≠ a) → Q (.ref a) H' := k2
      have wf : Wd (md X) b g' σ H' s' := w'.dropP.unwiped hu
      refine k3 g' D0 H' (l1.trans l') wf ⟨xs', h1, r'⟩ h2 h3 n0 (fun j e he hz => ?_) npp
      by_cases hj : j ∈ vs
      · have := hu j hj _ he
        cases this
      · exact h4 j e he (by rw [wipe_at σ vs j hj]; exact hz)
  · -- a turn
    rintro i mm Hc ⟨rfl, hi', g2, st2, acc, xs, l2, w2, r2, hu2, q2⟩
    by_cases hlt : i < ds.length
    · right
      have hd : ds[i]? = some ds[i] := by simp [hlt]
      obtain ⟨h1, _⟩ := io i g2 Hc l2 w2.gr.tF
      obtain ⟨go, hy⟩ := h1 _ hd
      have edrop : ds.drop i = ds[i] :: ds.drop (i + 1) := List.drop_eq_getElem_cons hlt
      refine ⟨go, fun Hn => ∃ g3 st3 acc3 xs3, Le g1 H1 g3 Hn ∧ Wd (md X) (b.add (D0, .lst xs3)) g3 (L2.wipe σ vs) Hn st3 ∧ Reps (md X) g3 Hn acc3 xs3 ∧ (∀ j ∈ vs, ∀ s, st3.ρ[j]? = some s → s = .un) ∧
        Fin (fun acc' st' => ∀ g' xs' H', Le g1 H1 g' H' → Wd (md X) (b.add (D0, .lst xs')) g' (L2.wipe σ vs) H' st' → Reps (md X) g' H' acc' xs' → (∀ j ∈ vs, ∀ s, st'.ρ[j]? = some s → s = .un) → Q (.ref D0) H') (fun _ _ => False) (compL t tt m vs (ds.drop (i + 1)) acc3 st3),
        fun H' h => ⟨ds.length - (i + 1), by omega, rfl, hlt, h⟩, fun x H3 y => ?_⟩
      obtain ⟨g3, al, r⟩ := hy x H3 y
      have w3 := w2.al al
      rw [edrop] at q2
      unfold compL at q2
      refine ⟨b.add (D0, .lst xs), g3, st2, _, w3, r, ?_⟩
      cases e : t ds[i] st2 with
      | none => simp only [e] at q2; exact q2
      | some s4 =>
        simp only [e] at q2
        intro g4 σ4 H4 l4 w4 ew
        rw [wipe_wipe] at ew
        refine ⟨ew, b.add (D0, .lst xs), g4, s4, w4, ?_⟩
        have l24 := al.le.trans l4
        cases et : tt s4 with
        | bad => simp only [et] at q2; exact q2
        | xc x5 s5 => simp only [et] at q2; exact q2.elim
        | ok c s5 =>
          simp only [et] at q2
          intro g5 H5 l5 w5
          have l25 := l24.trans l5
          cases c with
          | false =>
            rw [if_neg Bool.false_ne_true]
            refine ⟨g5, wipeS vs s5, acc, xs, l2.trans l25, ?_, Reps.mono l25 _ _ r2, fun j hj s e => wipeS_un vs _ j s hj e, q2⟩
            rw [← ew]
            exact w5.wiped vs
          | true =>
            rw [if_pos rfl]
            refine ⟨b.add (D0, .lst xs), g5, s5, w5, ?_⟩
            cases em : m s5 with
            | bad => simp only [em] at q2; exact q2
            | xc x6 s6 => simp only [em] at q2; exact q2.elim
            | ok yv s6 =>
              simp only [em] at q2
              intro g6 v6 H6 l6 w6 r6
              obtain ⟨p1, p2, p3, p4⟩ := w6.atP
              have l26 := l25.trans l6
              have rl : xs.length = acc.length := r2.length
              by_cases hz : acc.length < sizeLine
              · rw [if_pos hz] at q2
                refine ⟨xs, p1, by rw [rl]; exact hz, ?_⟩
                have lw : Le g6 H6 g6 (upd H6 D0 (.lst (xs ++ [v6]))) := Le.write (fun u e => by rw [p1] at e; cases e; exact id) p2
                refine ⟨g6, wipeS vs s6, acc ++ [yv], xs ++ [v6], (l2.trans l26).trans lw, ?_, Reps.append (Reps.mono (l26.trans lw) _ _ r2) (Reps.one (r6.mono lw _ _)), fun j hj s e => wipeS_un vs _ j s hj e, q2⟩
                rw [← ew]
                exact (w6.writeP id n0 npp).wiped vs
              · rw [if_neg hz] at q2
                exact q2.elim
    · left
      have e : i = ds.length := by omega
      subst e
      refine ⟨(io ds.length g2 Hc l2 w2.gr.tF).2 (Nat.le_refl _), ?_⟩
      rw [List.drop_length] at q2
      exact q2 g2 xs Hc l2 w2 r2 hu2
/-- what is one's own, frozen at once -/
theorem own_imp {m : E} {σ : Slots} {H : Hp} {Q : VK} (h : TDe (md X) b W m σ H Q) : TDo (md X) b W m σ H Q := by
  obtain ⟨g, st, w, k⟩ := h
  refine ⟨g, st, w, k.imp (fun d s q g' a H' l w' c nf na n0 no npr => ?_) fun _ _ q => q⟩
  obtain ⟨o, ea, _⟩ := c.there
  have l2 : Le g' H' (g'.add a) H' := ⟨fun _ h => .inr h, fun _ _ h => h, fun _ _ e _ => e⟩
  refine q (g'.add a) (.ref a) H' (l.trans l2) ⟨w'.len, fun i s e => ?_, w'.dist, ⟨w'.obs.len, fun n d a e1 e2 => (w'.obs.at_ n d a e1 e2).mono l2 fun _ e => e⟩,
    ⟨fun a h => .inr (w'.gr.F a h), fun x h => ?_, w'.gr.keep, w'.gr.as, w'.gr.new, fun x h => ?_, w'.gr.tas, w'.gr.nd, fun x m h => ?_⟩, fun p hp => ?_⟩ ((c.mono l2 fun _ e => e).rep (.inl rfl))
  · obtain ⟨o, h1, h2⟩ := w'.slot i s e
    refine ⟨o, h1, ?_⟩
    cases s with
    | un => trivial
    | val d' =>
      obtain ⟨v, e1, r⟩ := h2
      exact ⟨v, e1, r.mono l2 _ _⟩
    | own d' =>
      obtain ⟨x, e1, c', nf', na', n0'⟩ := h2
      refine ⟨x, e1, c'.mono l2 (fun _ e => e), fun f => ?_, na', n0'⟩
      rcases f with rfl | f
      · subst e1
        exact no i _ e h1
      · exact nf' f
  · rcases h with rfl | h
    · exact .inr n0
    · exact w'.gr.fresh x h
  · rcases h with rfl | h
    · exact ⟨o, ea⟩
    · exact w'.gr.tF x h
  · rcases h with rfl | h
    · exact na m
    · exact w'.gr.sep x m h
  · obtain ⟨h1, h2, h3, h4⟩ := w'.prot p hp
    refine ⟨h1, fun f => ?_, h3, h4⟩
    rcases f with f | f
    · exact npr p hp f
    · exact h2 f
theorem ds_setOC {o : Bool} {i : Nat} {y : Str} {py : Pos} {tg iter elt : Expr} {ifs : List Expr} {scope : Scope} {own : List (Str × Nat)} {pos spos : Pos} {it : Sts → Ou (List D)} {t : Tg} {tt : T} {m : E} (hc : X.calm = true) (hN : X.N.Nodup) (hy : X.N[i]? = some y) (hyl : X.env.scope.names.lookup y = some .local)
    (hsw : swapsWith (.ListComp elt [⟨tg, iter, ifs, 0⟩] scope pos) (some (.Name y py)) spos.line X.env = pure true) (hi : DI X b W tg iter it) (ok : BlkOk X.N X.env.scope scope own)
    (hg : ∀ (b' : Base) (s : Shared) (H : Hp) (C : Addr) (cl : List (Str × Addr)) (fp : List Addr), DGc (X.blk s H scope (compEnvC scope cl C X.env) fp) b' (own.map (·.2)) tg t)
    (ht : ∀ (b' : Base) (s : Shared) (H : Hp) (C : Addr) (cl : List (Str × Addr)) (fp : List Addr), DTs (X.blk s H scope (compEnvC scope cl C X.env) fp) b' W0 ifs tt)
    (he : ∀ (b' : Base) (s : Shared) (H : Hp) (C : Addr) (cl : List (Str × Addr)) (fp : List Addr), DE (X.blk s H scope (compEnvC scope cl C X.env) fp) b' W0 elt m) (hs : ∀ x, foldedSetIterable iter X.env x = pure x := by intro _; rfl) :
    DS X b W o (.Assign [.Name y py] (.ListComp elt [⟨tg, iter, ifs, 0⟩] scope pos) spos) (sSetO i (eComp it t tt m (own.map (·.2)))) :=
  PS.imp (ps_setLc (g := fun v σ H Q => ∃ b', TDgc (md X) b' (own.map (·.2)) t v σ H Q) (tt := fun σ H Q => ∃ b', TDt (md X) b' W0 tt σ H Q) (te := fun σ H Q => ∃ b', TDe (md X) b' W0 m σ H Q) hc hN hy hyl hsw hi ok
    (fun s H C cl fp => ⟨fun pins s' σ H' v u Q I r ⟨b', h⟩ => (hg b' s H C cl fp).run pins s' σ H' v u Q I r h⟩) (fun s H C cl fp => ⟨fun pins s' σ H' Q I ⟨b', h⟩ => (ht b' s H C cl fp).run pins s' σ H' Q I h⟩)
    (fun s H C cl fp => ⟨fun pins s' σ H' Q I ⟨b', h⟩ => (he b' s H C cl fp).run pins s' σ H' Q I h⟩) hs) fun D σ H ⟨g, st, w, k⟩ => comp_imp (W := W) own σ H _ ⟨g, st, w, (FinS.ou k σ).imp (fun d s q g' a H' l w' c nf na n0 no npr => q g' _ H' l (w'.setOwn c nf na n0 no npr)) fun _ _ q => q⟩
theorem ds_setSC {o : Bool} {i : Nat} {y : Str} {py : Pos} {tg iter elt : Expr} {ifs : List Expr} {scope : Scope} {own : List (Str × Nat)} {pos spos : Pos} {it : Sts → Ou (List D)} {t : Tg} {tt : T} {m : E} (hc : X.calm = true) (hN : X.N.Nodup) (hy : X.N[i]? = some y) (hyl : X.env.scope.names.lookup y = some .local)
    (hsw : swapsWith (.ListComp elt [⟨tg, iter, ifs, 0⟩] scope pos) (some (.Name y py)) spos.line X.env = pure true) (hi : DI X b W tg iter it) (ok : BlkOk X.N X.env.scope scope own)
    (hg : ∀ (b' : Base) (s : Shared) (H : Hp) (C : Addr) (cl : List (Str × Addr)) (fp : List Addr), DGc (X.blk s H scope (compEnvC scope cl C X.env) fp) b' (own.map (·.2)) tg t)
    (ht : ∀ (b' : Base) (s : Shared) (H : Hp) (C : Addr) (cl : List (Str × Addr)) (fp : List Addr), DTs (X.blk s H scope (compEnvC scope cl C X.env) fp) b' W0 ifs tt)
    (he : ∀ (b' : Base) (s : Shared) (H : Hp) (C : Addr) (cl : List (Str × Addr)) (fp : List Addr), DE (X.blk s H scope (compEnvC scope cl C X.env) fp) b' W0 elt m) (hs : ∀ x, foldedSetIterable iter X.env x = pure x := by intro _; rfl) :
    DS X b W o (.Assign [.Name y py] (.ListComp elt [⟨tg, iter, ifs, 0⟩] scope pos) spos) (sSetS i (eComp it t tt m (own.map (·.2)))) :=
  PS.imp (ps_setLc (g := fun v σ H Q => ∃ b', TDgc (md X) b' (own.map (·.2)) t v σ H Q) (tt := fun σ H Q => ∃ b', TDt (md X) b' W0 tt σ H Q) (te := fun σ H Q => ∃ b', TDe (md X) b' W0 m σ H Q) hc hN hy hyl hsw hi ok
    (fun s H C cl fp => ⟨fun pins s' σ H' v u Q I r ⟨b', h⟩ => (hg b' s H C cl fp).run pins s' σ H' v u Q I r h⟩) (fun s H C cl fp => ⟨fun pins s' σ H' Q I ⟨b', h⟩ => (ht b' s H C cl fp).run pins s' σ H' Q I h⟩)
    (fun s H C cl fp => ⟨fun pins s' σ H' Q I ⟨b', h⟩ => (he b' s H C cl fp).run pins s' σ H' Q I h⟩) hs) fun D σ H ⟨g, st, w, k⟩ => comp_imp (W := W) own σ H _ ⟨g, st, w, (FinS.ou k σ).imp (fun d s q g' a H' l w' c nf na n0 no npr => q _ _ H' (l.trans (w'.share (i := i) c nf na n0 no npr).2) (w'.share c nf na n0 no npr).1) fun _ _ q => q⟩
theorem ds_setC {o : Bool} {i : Nat} {y : Str} {py : Pos} {tg iter elt : Expr} {ifs : List Expr} {scope : Scope} {own : List (Str × Nat)} {pos spos : Pos} {it : Sts → Ou (List D)} {t : Tg} {tt : T} {m : E} (hc : X.calm = true) (hN : X.N.Nodup) (hy : X.N[i]? = some y) (hyl : X.env.scope.names.lookup y = some .local)
    (hsw : swapsWith (.ListComp elt [⟨tg, iter, ifs, 0⟩] scope pos) (some (.Name y py)) spos.line X.env = pure true) (hi : DI X b W tg iter it) (ok : BlkOk X.N X.env.scope scope own)
    (hg : ∀ (b' : Base) (s : Shared) (H : Hp) (C : Addr) (cl : List (Str × Addr)) (fp : List Addr), DGc (X.blk s H scope (compEnvC scope cl C X.env) fp) b' (own.map (·.2)) tg t)
    (ht : ∀ (b' : Base) (s : Shared) (H : Hp) (C : Addr) (cl : List (Str × Addr)) (fp : List Addr), DTs (X.blk s H scope (compEnvC scope cl C X.env) fp) b' W0 ifs tt)
    (he : ∀ (b' : Base) (s : Shared) (H : Hp) (C : Addr) (cl : List (Str × Addr)) (fp : List Addr), DE (X.blk s H scope (compEnvC scope cl C X.env) fp) b' W0 elt m) (hs : ∀ x, foldedSetIterable iter X.env x = pure x := by intro _; rfl) :
    DS X b W o (.Assign [.Name y py] (.ListComp elt [⟨tg, iter, ifs, 0⟩] scope pos) spos) (sAsg (eComp it t tt m (own.map (·.2))) (tgN i)) :=
  PS.imp (ps_setLc (g := fun v σ H Q => ∃ b', TDgc (md X) b' (own.map (·.2)) t v σ H Q) (tt := fun σ H Q => ∃ b', TDt (md X) b' W0 tt σ H Q) (te := fun σ H Q => ∃ b', TDe (md X) b' W0 m σ H Q) hc hN hy hyl hsw hi ok
    (fun s H C cl fp => ⟨fun pins s' σ H' v u Q I r ⟨b', h⟩ => (hg b' s H C cl fp).run pins s' σ H' v u Q I r h⟩) (fun s H C cl fp => ⟨fun pins s' σ H' Q I ⟨b', h⟩ => (ht b' s H C cl fp).run pins s' σ H' Q I h⟩)
    (fun s H C cl fp => ⟨fun pins s' σ H' Q I ⟨b', h⟩ => (he b' s H C cl fp).run pins s' σ H' Q I h⟩) hs) fun D σ H ⟨g, st, w, k⟩ => comp_imp (W := W) own σ H _ (own_imp ⟨g, st, w, (FinS.ou k σ).imp (fun d s q g' v H' l w' r => q g' _ H' l (w'.set r)) fun _ _ q => q⟩)
end
end DL
/-! DLp: isinstance, repr of one value that is no container, chained comparisons, slices backwards, in a tuple. -/
namespace DL
open PySem PySem.Spec PyProof.Rows L2
/-! ### isinstance -/
def tyOf : D → Option String
  | .non => some "NoneType"
  | .bl _ => some "bool"
  | .int _ => some "int"
  | .str _ => some "str"
  | .tup _ => some "tuple"
  | .lst _ => some "list"
  | .fro _ => some "list"
  | .dct .K _ => some "dict"
  | .dct .T _ => some "dict"
  | _ => none
def isi1 (c : String) (d : D) : Option D := (tyOf d).bind fun t => (kitB t c).map .bl
/-- isinstance(x, (c1, c2)) -/
def isi2 (c1 c2 : String) (d : D) : Option D := (tyOf d).bind fun t => (kitB t c1).bind fun a => (kitB t c2).map fun b => .bl (a || b)
section
variable {X : Cx} {b : Base} {W : WX}
theorem ty_of {Γ : Md} {g : Gh} {H : Hp} {d : D} {v : V} {t : String} (h : CRep Γ g H d v) (e : tyOf d = some t) : TyX Γ.K H v (.type t) := by
  cases d with
  | non => cases e; rw [show v = .non from h]; exact .base .non
  | bl k => cases e; rw [show v = .bl k from h]; exact .base (.bl k)
  | int i => cases e; rw [show v = .int i from h]; exact .base (.int i)
  | str x => cases e; rw [h.1]; exact .base (.str _)
  | tup ds => cases e; obtain ⟨a, xs, rfl, q, _⟩ := h; exact .base (.tup q)
  | lst ds => cases e; obtain ⟨a, xs, rfl, q, _⟩ := h; exact .base (.lst q)
  | fro ds =>
    cases e
    obtain ⟨a, xs, rfl, q, _⟩ := h
    rcases q with ⟨o, q⟩ | ⟨o, its, n, q, c, _⟩
    · exact .base (.frz q)
    · exact .kList q c
  | dct k kvs =>
    cases k with
    | K => cases e; obtain ⟨a, xs, rfl, q, _⟩ := h; exact .base (.dK q)
    | T => cases e; obtain ⟨a, xs, rfl, q, _⟩ := h; exact .base (.dT q)
    | N => cases e
  | _ => cases e
theorem de_isi {c : String} {p p2 pos : Pos} {e : Expr} {m : EP'} {x : Str} (hg : Gl X "isinstance") (hm : X.mg "isinstance" = none) (hg2 : Gl X x) (hm2 : X.mg x = none) (ha : DA X b W e m) (hv : bootBuiltins x = some (.type c) := by rfl)
    (he : starEach (e :: [.Name x p2]) X.env = (false, eval e X.env) :: starEach [.Name x p2] X.env := by rfl) (hpl : (backTo pos (starEach [.Name x p2] X.env)).any (·.1) = false := by rfl) (hn : x ≠ "__name__" := by decide +kernel) (hdb : (x == ("__debug__" : Str)) = false := by decide +kernel) :
    DE X b W (.Call (.Name "isinstance" p) (e :: [.Name x p2]) [] pos) (eUn (isi1 c) m) := by
  refine PE.imp (pe_callB call_isi hg hm boot_isinstance (pa_cons ha (pa_cons (pe_bltn (v := .ty c) hg2 hm2 hv rfl hn hdb) pa_nil) he) (he := he) (hpl := hpl)) fun σ H Q ⟨g, st, w, k⟩ => ?_
  refine ⟨g, st, w, (Fin.bind k).imp (fun p s1 k1 g1 v H1 l1 w1 r1 => ?_) fun _ _ q => q⟩
  obtain ⟨d, e1, k2⟩ := ofO_some k1
  cases e2 : rd p s1 with
  | none => rw [e2] at e1; cases e1
  | some dx =>
    rw [e2] at e1
    have e1 : isi1 c dx = some d := e1
    unfold isi1 at e1
    cases e3 : tyOf dx with
    | none => rw [e3] at e1; cases e1
    | some t =>
      rw [e3] at e1
      have e1 : (kitB t c).map D.bl = some d := e1
      cases e4 : kitB t c with
      | none => rw [e4] at e1; cases e1
      | some k =>
        rw [e4] at e1
        cases e1
        exact ⟨v, .ty c, .type t, .type c, k, rfl, .ty c, ty_of (RepP.c w1 r1 e2) e3, kit_ty e4, k2 g1 _ H1 l1 w1 rfl⟩
theorem de_isi2 {c1 c2 : String} {p p1 p2 tp pos : Pos} {kt} {e : Expr} {m : EP'} {x y : Str} (hg : Gl X "isinstance") (hm : X.mg "isinstance" = none) (hg1 : Gl X x) (hm1 : X.mg x = none) (hg2 : Gl X y) (hm2 : X.mg y = none) (ha : DA X b W e m) (hv1 : bootBuiltins x = some (.type c1) := by rfl) (hv2 : bootBuiltins y = some (.type c2) := by rfl)
    (he : starEach (e :: [.Tuple [.Name x p1, .Name y p2] kt tp]) X.env = (false, eval e X.env) :: starEach [.Tuple [.Name x p1, .Name y p2] kt tp] X.env := by rfl) (hpl : (backTo pos (starEach [.Tuple [.Name x p1, .Name y p2] kt tp] X.env)).any (·.1) = false := by rfl)
    (hn1 : x ≠ "__name__" := by decide +kernel) (hdb1 : (x == ("__debug__" : Str)) = false := by decide +kernel) (hn : y ≠ "__name__" := by decide +kernel) (hdb : (y == ("__debug__" : Str)) = false := by decide +kernel) :
    DE X b W (.Call (.Name "isinstance" p) (e :: [.Tuple [.Name x p1, .Name y p2] kt tp]) [] pos) (eUn (isi2 c1 c2) m) := by
  refine PE.imp (pe_callB call_isiT hg hm boot_isinstance (pa_cons ha (pa_cons (pe_tup (pa_cons (pe_bltn (v := .ty c1) hg1 hm1 hv1 rfl hn1 hdb1) (pa_cons (pe_bltn (v := .ty c2) hg2 hm2 hv2 rfl hn hdb) pa_nil))) pa_nil) he) (he := he) (hpl := hpl)) fun σ H Q ⟨g, st, w, k⟩ => ?_
  refine ⟨g, st, w, (Fin.bind k).imp (fun p s1 k1 g1 v H1 l1 w1 r1 => ?_) fun _ _ q => q⟩
  obtain ⟨d, e1, k2⟩ := ofO_some k1
  cases e2 : rd p s1 with
  | none => rw [e2] at e1; cases e1
  | some dx =>
    rw [e2] at e1
    have e1 : isi2 c1 c2 dx = some d := e1
    unfold isi2 at e1
    cases e3 : tyOf dx with
    | none => rw [e3] at e1; cases e1
    | some t =>
      rw [e3] at e1
      have e1 : ((kitB t c1).bind fun a => (kitB t c2).map fun b => D.bl (a || b)) = some d := e1
      cases e4 : kitB t c1 with
      | none => rw [e4] at e1; cases e1
      | some k =>
        cases e5 : kitB t c2 with
        | none => rw [e4, e5] at e1; cases e1
        | some k' =>
          rw [e4, e5] at e1
          cases e1
          refine ⟨by show 2 ≤ sizeLine; decide, fun tp ntp => ?_⟩
          have al := Al.laid w1.gr.tF ntp (.tup [.ty c1, .ty c2])
          have w2 := w1.al al
          have r2 := r1.mono (σ := σ) al.le
          refine ⟨v, tp, [.ty c1, .ty c2], .type t, [.type c1, .type c2], k || k', rfl, upd_same, .cons (.ty c1) (.cons (.ty c2) .nil), ty_of (RepP.c w2 r2 e2) e3, ?_, k2 g1 _ _ (l1.trans al.le) w2 rfl⟩
          refine kitAny_cons (kit_ty e4) (fun hk => ?_) (fun hk => by rw [hk]; rfl)
          refine kitAny_cons (kit_ty e5) (fun hk' => ?_) (fun hk' => by rw [hk']; simp)
          rw [hk, hk']
          exact kitAny_nil
/-! ### repr of what is no container -/
def shownOf : D → Option (List Nat)
  | .non => some [78, 111, 110, 101]
  | .bl k => some (if k then [84, 114, 117, 101] else [70, 97, 108, 115, 101])
  | .int i => if i.natAbs.log2 < 1920 then some (toString i : Str).cps.toList else none
  | .str x => if 10 * x.length + 2 ≤ sizeLine ∧ (reprText ⟨x.toArray⟩).cps.toList.all (· < 1114112) = true then some (reprText ⟨x.toArray⟩).cps.toList else none
  | _ => none
def repr1 (d : D) : Option D := (shownOf d).map .str
def reprD : List D → Option D
  | [d] => repr1 d
  | _ => none
theorem mk_cps (x : Str) : (⟨x.cps.toList.toArray⟩ : Str) = x := by cases x; simp
theorem shown_int (i : Int) : okS (toString i : Str).cps.toList := fun c hc => by
  have h : (toString i : Str).cps.toList = (toString i : String).toList.map Char.toNat := by rw [Str.ofString_eq_toList]
  rw [h] at hc
  obtain ⟨d, _, rfl⟩ := List.mem_map.mp hc
  have := d.valid
  unfold UInt32.isValidChar Nat.isValidChar at this
  show d.val.toNat < 1114112
  omega
theorem calld_repr : CallD X (.builtin "repr") reprD := by
  intro pins s σ H xs us Q I r ⟨g, ds, d, tF, cs, e, k⟩
  unfold reprD at e
  split at e
  · rename_i dx
    obtain ⟨v, rfl, c⟩ := creps1 cs
    obtain ⟨u, rfl, rv⟩ := vals1 r
    unfold repr1 at e
    cases dx with
    | non =>
      cases e
      rw [show v = .non from c] at rv
      cases (show u = Value.none from rv)
      exact P.repr_of_none ⟨.str "None", H, I.tok _, ⟨_, rfl⟩, k g _ H (Al.refl tF) ⟨rfl, fun c hc => by simp at hc; omega⟩⟩
    | bl b =>
      cases e
      rw [show v = .bl b from c] at rv
      cases (show u = Value.bool b from rv)
      refine P.repr_of_bool ⟨.str (if b then "True" else "False"), H, I.tok _, ⟨_, rfl⟩, k g _ H (Al.refl tF) ⟨?_, ?_⟩⟩
      · cases b <;> rfl
      · intro c hc
        cases b <;> simp at hc <;> omega
    | int i =>
      rw [show v = .int i from c] at rv
      obtain ⟨t, rfl⟩ := rv
      have e : ((if i.natAbs.log2 < 1920 then some (toString i : Str).cps.toList else none).map D.str) = some d := e
      by_cases hz : i.natAbs.log2 < 1920
      · rw [if_pos hz] at e
        cases e
        exact P.repr_of_int hz ⟨.str (toString i), H, I.tok _, ⟨_, rfl⟩, k g _ H (Al.refl tF) ⟨by rw [mk_cps], shown_int i⟩⟩
      · rw [if_neg hz] at e
        cases e
    | str x =>
      obtain ⟨ev, ok⟩ := c
      rw [ev] at rv
      obtain ⟨t, rfl⟩ := rv
      have e : ((if 10 * x.length + 2 ≤ sizeLine ∧ (reprText ⟨x.toArray⟩).cps.toList.all (· < 1114112) = true then some (reprText ⟨x.toArray⟩).cps.toList else none).map D.str) = some d := e
      by_cases hz : 10 * x.length + 2 ≤ sizeLine ∧ (reprText ⟨x.toArray⟩).cps.toList.all (· < 1114112) = true
      · rw [if_pos hz] at e
        cases e
        refine P.repr_of_str ⟨.str (reprText ⟨x.toArray⟩), H, I.tok _, ⟨_, rfl⟩, k g _ H (Al.refl tF) ⟨by rw [mk_cps], fun c hc => by simpa using List.all_eq_true.mp hz.2 c hc⟩⟩ ?_
        refine Nat.le_trans (StrLaws.reprText_len _ fun c hc => ?_) (Nat.le_trans ?_ hz.1)
        · have := ok c (by simpa using hc)
          exact Nat.lt_of_lt_of_le this (by decide)
        · simp [Str.length]
      · rw [if_neg hz] at e
        cases e
    | _ => cases e
  · cases e
/-! ### a < b < c -/
def eChain (op op' : D → D → Option D) (ma mb mc : EP') : E := fun st => (ma st).bind fun p s1 => (mb s1).bind fun q s2 => match rd2 p q s2 op with
  | some (.bl true) => (mc s2).bind fun r s3 => ofO (rd2 q r s3 op') s3
  | some (.bl false) => .ok (.bl false) s2
  | _ => .bad
def bJ (d : D) (a b : Ou D) : Ou D := match d with
  | .bl k => if k = true then a else b
  | _ => .bad
theorem x_bJ (k : Bool) (a b : Ou D) : bJ (.bl k) a b = if k = true then a else b := id rfl
theorem x_chain (op op' : D → D → Option D) (ma mb mc : EP') (st : Sts) : eChain op op' ma mb mc st = (bE (ma st) <| .mk fun p s1 => bE (mb s1) <| .mk fun q s2 => bO (rd p s2) <| .mk fun x => bO (rd q s2) <| .mk fun y => bO (op x y) <| .mk fun d =>
    bJ d (bE (mc s2) <| .mk fun r s3 => bO (rd q s3) <| .mk fun y => bO (rd r s3) <| .mk fun z => ofO (op' y z) s3) (.ok (.bl false) s2)) := by
  unfold eChain bE
  congr 1
  funext p s1
  congr 1
  funext q s2
  unfold bO rd2
  cases rd p s2 with
  | none => rfl
  | some x =>
    cases rd q s2 with
    | none => rfl
    | some y =>
      simp only [Option.bind_some]
      cases op x y with
      | none => rfl
      | some d =>
        cases d with
        | bl k =>
          cases k with
          | true =>
            show Ou.bind _ _ = Ou.bind _ _
            congr 1
            funext r s3
            cases rd q s3 with
            | none => rfl
            | some y => cases rd r s3 <;> rfl
          | false => rfl
        | _ => rfl
theorem chain_imp {op op' : D → D → Option D} {f f' : Value → Value → Sem Value} {ma mb mc : EP'} {σ : Slots} {H : Hp} {Q : VK} (h : TDe (md X) b W (eChain op op' ma mb mc) σ H Q) :
    tChain (fun x y H Q => ∃ g dx dy d, TF g H ∧ CRep (md X) g H dx x ∧ CRep (md X) g H dy y ∧ op dx dy = some d ∧ ∀ g' v H', Al g H g' H' → Rep (md X) g' H' d v → Q v H')
      (fun x y H Q => ∃ g dx dy d, TF g H ∧ CRep (md X) g H dx x ∧ CRep (md X) g H dy y ∧ op' dx dy = some d ∧ ∀ g' v H', Al g H g' H' → Rep (md X) g' H' d v → Q v H') (TDp (md X) b W ma) (TDp (md X) b W mb) (TDp (md X) b W mc) σ H Q := by
  obtain ⟨g, st, w, k⟩ := h
  refine ⟨g, st, w, (Fin.bind k).imp (fun p s1 k1 g1 x H1 l1 w1 r1 => ?_) fun _ _ q => q⟩
  refine ⟨g1, s1, w1, (Fin.bind k1).imp (fun q s2 k2 g2 y H2 l2 w2 r2 => ?_) fun _ _ q => q.up l1⟩
  cases e : rd2 p q s2 op with
  | none => rw [e] at k2; exact k2.elim
  | some d =>
    rw [e] at k2
    obtain ⟨dx, dy, ex, ey, ed⟩ := rd2_some e
    cases d with
    | bl c =>
      refine ⟨g2, dx, dy, .bl c, w2.gr.tF, RepP.c w2 (r1.mono l2) ex, RepP.c w2 r2 ey, ed, fun g' v H' al rv => ⟨c, rv, ?_⟩⟩
      have w3 := w2.al al
      cases c with
      | false =>
        rw [if_neg Bool.false_ne_true]
        exact k2 g' _ H' ((l1.trans l2).trans al.le) w3 rfl
      | true =>
        rw [if_pos rfl]
        refine ⟨g', s2, w3, (Fin.bind k2).imp (fun r s3 k3 g4 z H4 l4 w4 r4 => ?_) fun _ _ q => (q.up (l1.trans l2)).up al.le⟩
        obtain ⟨d2, e2, k4⟩ := ofO_some k3
        obtain ⟨dy2, dz, ey2, ez, ed2⟩ := rd2_some e2
        refine ⟨g4, dy2, dz, d2, w4.gr.tF, RepP.c w4 ((r2.mono al.le).mono l4) ey2, RepP.c w4 r4 ez, ed2, fun g5 v5 H5 al5 rv5 => ?_⟩
        exact k4 g5 v5 H5 ((((l1.trans l2).trans al.le).trans l4).trans al5.le) (w4.al al5) rv5
    | _ => exact k2.elim
theorem de_chain {a1 a2 a3 : Expr} {o1 o2 : CmpOp} {op op' : D → D → Option D} {ma mb mc : EP'} {pos : Pos} (ho : OpD X (compareOp o1) op) (ho' : OpD X (compareOp o2) op') (ha : DA X b W a1 ma) (hb : DA X b W a2 mb) (hc : DA X b W a3 mc)
    (hm : lastMarks [o1, o2] [a2, a3] = false := by with_unfolding_all rfl) : DE X b W (.Compare a1 [o1, o2] [a2, a3] pos) (eChain op op' ma mb mc) :=
  PE.imp (pe_chain ho ho' ha hb hc hm) fun _ _ _ h => chain_imp (f := compareOp o1) (f' := compareOp o2) h
theorem dt_chain {a1 a2 a3 : Expr} {o1 o2 : CmpOp} {op op' : D → D → Option D} {ma mb mc : EP'} {pos : Pos} (ho : OpD X (compareOp o1) op) (ho' : OpD X (compareOp o2) op') (ha : DA X b W a1 ma) (hb : DA X b W a2 mb) (hc : DA X b W a3 mc)
    (hm : lastMarks [o1, o2] [a2, a3] = false := by with_unfolding_all rfl) : DT X b W (.Compare a1 [o1, o2] [a2, a3] pos) (tBool (eChain op op' ma mb mc)) :=
  PT.imp (pt_chain ho ho' ha hb hc hm) fun _ _ _ h => chain_imp (f := compareOp o1) (f' := compareOp o2) (tBool_of h)
theorem v_isi (c : String) (d : D) (t : String) (k : Bool) (h1 : tyOf d = some t) (h2 : kitB t c = some k) : isi1 c d = some (.bl k) := by
  unfold isi1; rw [h1]; show (kitB t c).map D.bl = _; rw [h2]; rfl
end
end DL
/-! DLh: o.pop(), x in a tuple of flat things, lists backwards. -/
namespace DL
open PySem PySem.Spec PyProof.Rows L2
def popD : D → Option D
  | .lst ds => some (.lst ds.dropLast)
  | _ => none
/-- o.pop(): the last item -/
def ePop (mo : EP') : E := fun st => (mo st).bind fun p s1 => match rd p s1 with
  | some (.lst ds) => (match ds.getLast? with
    | some y => (match wrAt p s1 popD with
      | some s2 => .ok y s2
      | none => .bad)
    | none => .bad)
  | _ => .bad
def bY (x : D) (o : Option Sts) : Ou D := match x with
  | .lst ds => (match ds.getLast? with
    | some y => (match o with
      | some s2 => .ok y s2
      | none => .bad)
    | none => .bad)
  | _ => .bad
theorem x_bY (ds : List D) (y : D) (s : Sts) (h : ds.getLast? = some y) : bY (.lst ds) (some s) = .ok y s := by
  unfold bY
  dsimp only
  rw [h]
theorem x_pop (mo : EP') (st : Sts) : ePop mo st = (bE (mo st) <| .mk fun p s1 => bO (rd p s1) <| .mk fun x => bY x (wrAt p s1 popD)) := by
  unfold ePop bE
  congr 1
  funext p s1
  unfold bO bY
  cases rd p s1 with
  | none => rfl
  | some x => cases x <;> rfl
theorem v_pop (ds : List D) : popD (.lst ds) = some (.lst ds.dropLast) := id rfl
/-! in a tuple -/
def flatD : D → Bool
  | .non => true
  | .bl _ => true
  | .int _ => true
  | .str _ => true
  | _ => false
def inTD : D → D → Option D
  | x, .tup ds => if flatD x = true ∧ ds.all flatD = true then some (.bl (ds.any fun z => z.eq x)) else none
  | _, _ => none
def notInTD (x y : D) : Option D := (inTD x y).bind notD
theorem v_inT (x : D) (ds : List D) (h1 : flatD x = true) (h2 : ds.all flatD = true) : inTD x (.tup ds) = some (.bl (ds.any fun z => z.eq x)) := if_pos ⟨h1, h2⟩
def revD : D → Option D
  | .lst xs => some (.lst xs.reverse)
  | .fro xs => some (.lst xs.reverse)
  | _ => none
theorem v_rev (xs : List D) : revD (.lst xs) = some (.lst xs.reverse) := id rfl
section
variable {X : Cx} {b : Base} {W : WX}
theorem FinO_some {okc : Sts → Prop} {s : Sts} (h : okc s) : FinO okc (some s) := h
theorem Reps.dropLast {Γ : Md} {g : Gh} {H : Hp} : ∀ {ds : List D} {vs : List V}, Reps Γ g H ds vs → Reps Γ g H ds.dropLast vs.dropLast
  | [], _, h => by rw [show _ = [] from h]; rfl
  | [d], _, h => by
    obtain ⟨v, r, rfl, q, z⟩ := h
    cases (show r = [] from z)
    rfl
  | d :: e :: ds, _, h => by
    obtain ⟨v, r, rfl, q, z⟩ := h
    obtain ⟨v2, r2, rfl, q2, z2⟩ := z
    exact ⟨v, _, rfl, q, Reps.dropLast (ds := e :: ds) (vs := v2 :: r2) ⟨v2, r2, rfl, q2, z2⟩⟩
theorem de_pop {oe : Expr} {apos cpos : Pos} {mo : EP'} (ho : DA X b W oe mo) (hbase : attributeBase oe "pop" X.env (eval oe X.env) = eval oe X.env := by rfl) (hline : (apos.endLine == cpos.line) = true := by rfl) :
    DE X b W (.Call (.Attribute oe "pop" apos) [] [] cpos) (ePop mo) := by
  refine PE.imp (pe_bm0 PySem.F.plainAttrs_list PySem.F.slot_list_pop PySem.F.type_list_pop mt_pop ho hbase hline) fun σ H Q ⟨g, st, w, k⟩ => ⟨g, st, w, (Fin.bind k).imp (fun p s1 k1 g1 x H1 l1 w1 r1 => ?_) fun _ _ q => q⟩
  cases e : rd p s1 with
  | none => rw [e] at k1; exact k1.elim
  | some dx =>
    rw [e] at k1
    cases dx with
    | lst ds =>
      dsimp only at k1
      cases ey : ds.getLast? with
      | none => rw [ey] at k1; exact k1.elim
      | some y =>
        rw [ey] at k1
        dsimp only at k1
        cases ew : wrAt p s1 popD with
        | none => rw [ew] at k1; exact k1.elim
        | some s2 =>
          rw [ew] at k1
          obtain ⟨a, d, d', rfl, nf, c, hf, hk⟩ := wr_ok w1 r1 (okc := fun s => s = s2) (by rw [ew]; rfl)
          refine ⟨rd_ty w1 r1 e, ?_⟩
          have hc := RepP.c w1 r1 e
          obtain ⟨a2, vs, ea, q, rs⟩ := hc
          cases ea
          cases d with
          | lst ds2 =>
            cases hf
            obtain ⟨vs2, q2, rs2⟩ := c
            rw [q] at q2
            cases q2
            have hlast : ds[ds.length - 1]? = some y := by rw [← List.getLast?_eq_getElem?]; exact ey
            obtain ⟨v, hv, rv⟩ := rs.get hlast
            rw [← rs.length] at hv
            have l : Le g1 H1 g1 (upd H1 a (.lst vs.dropLast)) := Le.write (fun u e => by rw [q] at e; cases e; exact id) nf
            obtain ⟨st', hs, w', l'⟩ := hk (.lst vs.dropLast) id ⟨_, upd_same, Reps.mono l _ _ rs2.dropLast⟩
            subst hs
            exact ⟨a, vs, v, rfl, rfl, q, hv, k1 g1 v _ (l1.trans l') w' (rv.mono l' _ _)⟩
          | _ => cases hf
    | _ => exact k1.elim
theorem flat_rep {Γ : Md} {g : Gh} {H : Hp} {d : D} {v : V} (f : flatD d = true) (h : Rep Γ g H d v) : flatV v = true := by
  cases d with
  | non => rw [show v = .non from h]; rfl
  | bl k => rw [show v = .bl k from h]; rfl
  | int k => rw [show v = .int k from h]; rfl
  | str x => rw [h.1]; rfl
  | _ => cases f
theorem flat_eq {Γ : Md} {g : Gh} {H : Hp} {d e : D} {u v : V} (fd : flatD d = true) (fe : flatD e = true) (hd : Rep Γ g H d u) (he : Rep Γ g H e v) : eqV u v = d.eq e := by
  cases d with
  | non => rw [show u = .non from hd]; cases e with
    | non => rw [show v = .non from he]; simp [eqV, D.eq]
    | bl k => rw [show v = .bl k from he]; simp [eqV, D.eq]
    | int k => rw [show v = .int k from he]; simp [eqV, D.eq]
    | str x => rw [he.1]; simp [eqV, D.eq]
    | _ => cases fe
  | bl k => rw [show u = .bl k from hd]; cases e with
    | non => rw [show v = .non from he]; simp [eqV, D.eq]
    | bl k => rw [show v = .bl k from he]; simp [eqV, D.eq]
    | int k => rw [show v = .int k from he]; simp [eqV, D.eq]
    | str x => rw [he.1]; simp [eqV, D.eq]
    | _ => cases fe
  | int k => rw [show u = .int k from hd]; cases e with
    | non => rw [show v = .non from he]; simp [eqV, D.eq]
    | bl k => rw [show v = .bl k from he]; simp [eqV, D.eq]
    | int k => rw [show v = .int k from he]; simp [eqV, D.eq]
    | str x => rw [he.1]; simp [eqV, D.eq]
    | _ => cases fe
  | str x => rw [hd.1]; cases e with
    | non => rw [show v = .non from he]; simp [eqV, D.eq]
    | bl k => rw [show v = .bl k from he]; simp [eqV, D.eq]
    | int k => rw [show v = .int k from he]; simp [eqV, D.eq]
    | str y => rw [he.1]; simp only [eqV, D.eq]; rw [Bool.eq_iff_iff]; simp
    | _ => cases fe
  | _ => cases fd
theorem flats_ok {Γ : Md} {g : Gh} {H : Hp} {e : D} {v : V} (fe : flatD e = true) (he : Rep Γ g H e v) : ∀ {ds : List D} {vs : List V}, ds.all flatD = true → Reps Γ g H ds vs → vs.all flatV = true ∧ inV v vs = ds.any fun z => z.eq e
  | [], _, _, h => by rw [show _ = [] from h]; exact ⟨rfl, rfl⟩
  | d :: ds, _, hf, h => by
    obtain ⟨u, r, rfl, q, z⟩ := h
    simp only [List.all_cons, Bool.and_eq_true] at hf
    obtain ⟨h1, h2⟩ := flats_ok fe he hf.2 z
    refine ⟨by simp [flat_rep hf.1 q, h1], ?_⟩
    unfold inV at h2 ⊢
    rw [List.any_cons, List.any_cons, h2, flat_eq hf.1 fe q he]
theorem opd_inT : OpD X (compareOp .In) inTD := by
  intro pins s σ H x y v u Q I rx ry ⟨g, dx, dy, d, tF, cx, cy, e, k⟩
  unfold inTD at e
  split at e
  · rename_i ds
    split at e
    · rename_i h
      cases e
      have rx' : Rep (md X) g H dx x := by
        cases dx <;> first | exact cx | exact absurd h.1 (by simp [flatD])
      obtain ⟨a, vs, rfl, q, rs⟩ := cy
      obtain ⟨h1, h2⟩ := flats_ok h.1 rx' h.2 rs
      refine op_in_seq pins s σ H x _ v u Q I rx ry ⟨a, vs, rfl, .inr (SqT.of q), flat_rep h.1 rx', h1, ?_⟩
      rw [if_neg Bool.false_ne_true, h2]
      exact k g _ H (Al.refl tF) rfl
    · cases e
  · cases e
theorem opd_notInT : OpD X (compareOp .NotIn) notInTD := by
  intro pins s σ H x y v u Q I rx ry ⟨g, dx, dy, d, tF, cx, cy, e, k⟩
  unfold notInTD inTD at e
  split at e
  · rename_i ds
    split at e
    · rename_i h
      cases e
      have rx' : Rep (md X) g H dx x := by
        cases dx <;> first | exact cx | exact absurd h.1 (by simp [flatD])
      obtain ⟨a, vs, rfl, q, rs⟩ := cy
      obtain ⟨h1, h2⟩ := flats_ok h.1 rx' h.2 rs
      refine op_notIn_seq pins s σ H x _ v u Q I rx ry ⟨a, vs, rfl, .inr (SqT.of q), flat_rep h.1 rx', h1, ?_⟩
      rw [if_pos rfl, h2]
      exact k g _ H (Al.refl tF) rfl
    · cases e
  · cases e
theorem v_notInT (x : D) (ds : List D) (h1 : flatD x = true) (h2 : ds.all flatD = true) : notInTD x (.tup ds) = some (.bl (!ds.any fun z => z.eq x)) := by
  unfold notInTD; rw [v_inT x ds h1 h2]; rfl
/-- what is never reached -/
def sBad : C := fun _ => .bad
def eBad : E := fun _ => .bad
theorem ds_bad {o : Bool} {s : Stmt} : DS X b W o s sBad := ⟨fun _ _ _ _ _ _ ⟨_, _, _, k⟩ => k.elim⟩
theorem de_bad {e : Expr} : DE X b W e eBad := ⟨fun _ _ _ _ _ _ ⟨_, _, _, k⟩ => k.elim⟩
theorem x_sBad (st : Sts) : sBad st = .bad := id rfl
theorem x_eBad (st : Sts) : eBad st = .bad := id rfl
/-- xs[::-1], xs a list -/
theorem do_rev {e : Expr} {m : EP'} {k : Nat} {p1 p2 p3 pos : Pos} (he : DA X b W e m) : DO X b W (.Subscript e (.Slice none none (some (.UnaryOp .USub (.Constant (.int 1) k p1) p2)) p3) pos) (eUn revD m) := by
  refine PE.imp (pe_revL he) fun σ H Q ⟨g, st, w, k⟩ => ⟨g, st, w, (Fin.bind k).imp (fun p s1 k1 g1 x H1 l1 w1 r1 => ?_) fun _ _ q => q⟩
  obtain ⟨d, e, k3⟩ := ofO_some k1
  cases e1 : rd p s1 with
  | none => rw [e1] at e; cases e
  | some dx =>
    rw [e1] at e
    have c := RepP.c w1 r1 e1
    have rv : ∀ {ds : List D} {vs : List V}, Reps (md X) g1 H1 ds vs → Reps (md X) g1 H1 ds.reverse vs.reverse := by
      intro ds
      induction ds with
      | nil => intro vs h; rw [show vs = [] from h]; rfl
      | cons d ds ih =>
        intro vs h
        obtain ⟨v, r, rfl, q, z⟩ := h
        rw [List.reverse_cons, List.reverse_cons]
        exact Reps.append (ih z) (Reps.one q)
    cases dx with
    | lst ds =>
      cases (show some (D.lst ds.reverse) = some d from e)
      obtain ⟨a, vs, rfl, q, rs⟩ := c
      refine ⟨a, vs, rfl, SqL.of q, fun np hnp => ?_⟩
      exact w1.new l1 k3 np _ hnp ⟨_, upd_same, Reps.mono (Al.laid w1.gr.tF hnp _).le _ _ (rv rs)⟩
    | fro ds =>
      cases (show some (D.lst ds.reverse) = some d from e)
      obtain ⟨a, vs, rfl, q, rs⟩ := c
      refine ⟨a, vs, rfl, q.sq, fun np hnp => ?_⟩
      exact w1.new l1 k3 np _ hnp ⟨_, upd_same, Reps.mono (Al.laid w1.gr.tF hnp _).le _ _ (rv rs)⟩
    | _ => cases e
end
end DL
/-! DLi: set(text), sorted(set(text)), text[::-1], list(text). -/
namespace PySem
open Sem (wp)
section
variable {prog : Program} {w : World} {A : Around} {E : Value → Shared → Prop} {s : Shared}
set_option maxRecDepth 100000 in
set_option maxHeartbeats 3200000 in
theorem dl_set_str {x : Str} {t0 : Tok} {Q : Value → Shared → Prop} (hh : A.handled = none) (hb : x.cps.size + 1 < scanBound)
    (h : ∀ (h' : Heap) (tk : Nat), DL.TxS w h' s.heap.objs.size (DL.kU (fun i => ⟨#[x.cps.getD i 0]⟩) x.cps.size) → (∀ b o, b < s.heap.objs.size → s.heap.get? b = some o → h'.get? b = some o) → Q (.ref s.heap.objs.size) { s with heap := h', toks := tk }) :
    wpAny (model prog w) A (call (.type "set") [.str x t0]) Q E s := by
  obtain ⟨c, tl, hmro⟩ := F.called_set.mro
  have hmade := F.called_set.made
  have hsub := F.called_set.sub
  refine wpAny_call (codeAny_of_tree ?_)
  show wpAny _ _ (callAny (.type "set") _) _ _ _
  refine wpAny_pure ⟨Code.quiet_builtin _ (by decide +kernel), codeAny_builtin F.entry_type_call ?_⟩
  rw [Around.under_plain (weight_type_call_type "set" [.str x t0] []) rfl]
  have h1 := F.called_set.notType
  have h2 := F.called_set.canCreate
  have hct := F.typeCall_set_1 (.str x t0)
  repeat (any_goals (first | assumption | wp_step))
  refine codeAny_mono (dl_set_new (.str x t0) (E := E) (Q1 := fun obj s1 => obj = .ref s.heap.objs.size ∧ s1 = { s with heap := s.heap.push (dl0 w) }) ⟨rfl, rfl⟩) fun r s1 hr => ?_
  cases r with
  | error e => exact hr
  | ok fl =>
    cases fl with
    | ret obj =>
      obtain ⟨rfl, rfl⟩ := hr
      have hS : (s.heap.push (dl0 w)).get? s.heap.objs.size = some (dl0 w) := Heap.get?_push_size _ rfl
      have hT : Shared.TypeIs { s with heap := s.heap.push (dl0 w) } (.ref s.heap.objs.size) "set" := ⟨_, hS, rfl⟩
      have hli := F.called_set.init.lookup
      have hbi := F.called_set.init.bind (.ref s.heap.objs.size)
      repeat (any_goals (first | assumption | wp_step))
      refine codeAny_mono (codeAny_call_builtin (R := wants (fun r s2 => r = .none ∧ ∃ h' tk, s2 = { s with heap := h', toks := tk } ∧ DL.TxS w h' s.heap.objs.size (DL.kU (fun i => ⟨#[x.cps.getD i 0]⟩) x.cps.size) ∧
          (∀ b o, b < s.heap.objs.size → s.heap.get? b = some o → h'.get? b = some o)) E) F.called_set.init.plain F.entry_set_init (check_set_init_1 hT ?_)) fun r2 s2 hr2 => ?_
      · have hsls := F.sub_str_set
        have hslf := F.sub_str_frozenset
        have hne : (Value.type "str" == Value.type "dict") = false := by decide
        unfold Builtin.«set.__init__» noKeywords Builtin.Frozenset.updateFrom
        generalize hPI : pyIter = PI
        wp_walk
        subst hPI
        refine wpAny_pyIter_str fun o St hW hSt => ?_
        refine wpAny_bind (wpAny_runValue ?_)
        have hh3 : A.in1.in1.in1.handled = none := by simp [hh]
        have hz : (s.heap.push (dl0 w)).objs.size = s.heap.objs.size + 1 := by rw [Heap.size_push]
        have hSf : s.heap.objs.size ∉ [(s.heap.push (dl0 w)).objs.size] := by
          rw [hz]
          simp only [List.mem_cons, List.not_mem_nil, or_false]
          exact Nat.ne_of_lt (Nat.lt_succ_self _)
        refine DL.tx_loop ((hW _ hh3).toS) s.heap.objs.size hSf (fun i => ⟨#[x.cps.getD i 0]⟩) (fun i v hv => ?_) hb (x.cps.size - 0) 0 _ (by omega) (Nat.zero_le _) hSt ?hS0 ?hR
        · obtain ⟨c, u, hc, rfl⟩ := hv
          exact ⟨u, by simp [Array.getD_eq_getD_getElem?, hc]⟩
        case hS0 => exact dl_fresh w _ (Heap.get?_push_of_some _ hS)
        case hR =>
          intro s' hm hS'
          obtain ⟨h', g', d', tk', os'⟩ := s'
          have eg : g' = s.gens := hm.gens
          have ed : d' = s.drawn := hm.drawn
          have eo : os' = s.os := hm.os
          subst eg; subst ed; subst eo
          show wpAny _ _ _ _ _ _
          refine wpAny_pure ?_
          show wpAny _ _ (ret Value.none) _ _ _
          refine wpAny_pure ⟨rfl, h', tk', rfl, hS', fun b o hb e => ?_⟩
          have hb1 : b ≠ s.heap.objs.size := Nat.ne_of_lt hb
          have hb2 : b ≠ (s.heap.push (dl0 w)).objs.size := by rw [hz]; exact Nat.ne_of_lt (Nat.lt_succ_of_lt hb)
          exact hm.heap b o (by simp only [List.mem_cons, List.not_mem_nil, or_false, not_or]; exact ⟨hb1, hb2⟩) (Heap.get?_push_of_some _ (Heap.get?_push_of_some _ e))
      · cases r2 with
        | error e => exact hr2
        | ok fl2 =>
          cases fl2 with
          | ret r =>
            obtain ⟨rfl, h', tk, rfl, hS', hk'⟩ := hr2
            repeat (any_goals (first | assumption | wp_step))
            exact h _ _ hS' hk'
          | _ => exact hr2.elim
    | _ => exact hr.elim
end
end PySem
namespace DL
open PySem PySem.Spec PyProof.Rows L2
def tSSS (ta : TE) : TE := fun σ H Q => ta σ H fun x H1 => ∃ z : Str, x = .str z ∧ z.cps.size < 64 ∧
  ∀ (ys : List Str) (p : Addr), ys.Perm (kU (fun i => ⟨#[z.cps.getD i 0]⟩) z.cps.size) → sortedS ys = true → H1 p = none → Q (.ref p) (upd H1 p (.lst (ys.map V.str)))
theorem pe_sortsetS {X : Cx} {a : Expr} {ta : TE} {p p2 q pos : Pos} (hc : X.calm = true) (hg : Gl X "sorted") (hm : X.mg "sorted" = none) (hg2 : Gl X "set") (hm2 : X.mg "set" = none) (ha : PE X a ta)
    (na : starEach [a] X.env = (false, eval a X.env) :: starEach [] X.env := by rfl) : PE X (.Call (.Name "sorted" p) [.Call (.Name "set" p2) [a] [] q] [] pos) (tSSS ta) := by
  refine ⟨fun pins s σ H Q I h => ?_⟩
  refine Call_ (ld_blt I hg hm boot_sorted ?_)
  refine PyProof.Rows.callWith_builtin1 (PyProof.Rows.args_cons ?_ rfl) rfl rfl
  refine Call_ (ld_blt I hg2 hm2 boot_set ?_)
  refine PyProof.Rows.callWith_type1 (PyProof.Rows.args_cons (thn (ha.run pins s σ H _ I h) fun v s1 ⟨x, H1, I1, r1, q1⟩ => PyProof.Rows.args_nil ?_) na) na rfl
  obtain ⟨z, rfl, h1, q1⟩ := q1
  obtain ⟨t, rfl⟩ := r1
  have hb64 : (64 : Nat) + 1 < scanBound := by decide
  refine PySem.dl_set_str (I1.ok.hd hc) (by omega) fun h' tk hS hk => ?_
  refine PyProof.Rows.args_nil ?_
  have I2 : Inv X pins σ H1 { s1 with heap := h', toks := tk } := I1.kept fun b o e => hk b o (Heap.lt_size e) e
  have hkl := kU_len (fun i => (⟨#[z.cps.getD i 0]⟩ : Str)) z.cps.size
  have hS : TxS X.w ({ s1 with heap := h', toks := tk } : Shared).heap s1.heap.objs.size (kU (fun i => ⟨#[z.cps.getD i 0]⟩) z.cps.size) := hS
  generalize ({ s1 with heap := h', toks := tk } : Shared) = s2 at I2 hS ⊢
  refine tx_sorted hS (I2.ok.hd hc) (by omega) fun s' p out c ys k g o hp hgt hi hpm hs => ?_
  have hlen : (ys.map V.str).length ≤ sizeLine := by rw [List.length_map, hpm.length_eq, sizeLine_eq]; omega
  have hn : H1 p = none := I2.hok.fresh hp
  have J : Inv X pins σ (upd H1 p (.lst (ys.map V.str))) { s2 with heap := s'.heap, gens := s'.gens, drawn := s'.drawn, toks := s'.toks } :=
    I2.call (ch := []) (Un.laid k hp hn) (I2.hok.laid k hp ⟨hlen, out.toList, c, vals_of_strs hi, hgt⟩) (by rw [g]; exact I2.bare) (fun _ z => nomatch z)
  have e : s' = { s2 with heap := s'.heap, gens := s'.gens, drawn := s'.drawn, toks := s'.toks } := by
    cases s'
    cases s2
    cases o
    rfl
  rw [e]
  exact ⟨.ref p, _, J, rfl, q1 ys p hpm hs hn⟩
theorem kU_congr {v u : Nat → Str} : ∀ {n : Nat}, (∀ i, i < n → v i = u i) → kU v n = kU u n
  | 0, _ => rfl
  | n + 1, h => by
    show addK (kU v n) (v n) = addK (kU u n) (u n)
    rw [kU_congr fun i hi => h i (Nat.lt_succ_of_lt hi), h n (Nat.lt_succ_self n)]
def sortC (x : List Nat) : List (List Nat) := sortU (x.map fun c => [c])
def setTx (d : D) (s : Sts) : Ou D := match d with
  | .str x => if x.length < 64 then .ok (.lst ((sortC x).map .str)) s else .bad
  | _ => .bad
def eSortSetS (m : E) : E := fun st => (m st).bind setTx
theorem x_setTx (x : List Nat) (s : Sts) (h : x.length < 64) : setTx (.str x) s = .ok (.lst ((sortC x).map .str)) s := if_pos h
theorem x_sortSetS (m : E) (st : Sts) : eSortSetS m st = bE (m st) (.mk setTx) := id rfl
section
variable {X : Cx} {b : Base} {W : WX}
theorem do_sortSetS {a : Expr} {m : E} {p p2 q pos : Pos} (hc : X.calm = true) (hg : Gl X "sorted") (hm : X.mg "sorted" = none) (hg2 : Gl X "set") (hm2 : X.mg "set" = none) (ha : DE X b W a m)
    (na : starEach [a] X.env = (false, eval a X.env) :: starEach [] X.env := by rfl) : DO X b W (.Call (.Name "sorted" p) [.Call (.Name "set" p2) [a] [] q] [] pos) (eSortSetS m) := by
  refine PE.imp (pe_sortsetS hc hg hm hg2 hm2 ha na) fun σ H Q ⟨g, st, w, k⟩ => ⟨g, st, w, (Fin.bind k).imp (fun d s1 k1 g1 x H1 l1 w1 r1 => ?_) fun _ _ q => q⟩
  cases d with
  | str xs =>
    obtain ⟨rfl, hok⟩ := r1
    by_cases h64 : xs.length < 64
    · rw [show setTx (.str xs) s1 = _ from if_pos h64] at k1
      refine ⟨⟨xs.toArray⟩, rfl, by simpa using h64, fun ys p hp hs np => ?_⟩
      have hp2 : ys.Perm (kU (fun i => ((xs.map fun c => [c]).map fun x => (⟨x.toArray⟩ : Str)).getD i Str.empty) ((xs.map fun c => [c]).map fun x => (⟨x.toArray⟩ : Str)).length) := by
        have e : ((xs.map fun c => [c]).map fun x => (⟨x.toArray⟩ : Str)).length = xs.toArray.size := by simp
        rw [e]
        rw [kU_congr (u := fun i => ⟨#[xs.toArray.getD i 0]⟩) fun i hi => ?_]
        · exact hp
        · have hi2 : i < xs.length := by simpa using hi
          simp [List.getD_eq_getElem?_getD, Array.getD_eq_getD_getElem?, hi2]
      have es := sorted_is hp2 hs
      refine w1.new l1 k1 p _ np ⟨_, upd_same, ?_⟩
      have e2 : (sortC xs).map D.str = ys.map fun y => D.str y.cps.toList := by unfold sortC; rw [← es, List.map_map]; rfl
      rw [e2]
      refine reps_strs ys fun y hy => ?_
      have hm : y.cps.toList ∈ sortU (xs.map fun c => [c]) := by rw [← es]; exact List.mem_map.mpr ⟨y, hy, rfl⟩
      obtain ⟨c, hc, e⟩ := List.mem_map.mp (mem_sortU.mp hm)
      rw [← e]
      intro c' hc'
      rw [List.mem_singleton.mp hc']
      exact hok c hc
    · rw [show setTx (.str xs) s1 = _ from if_neg h64] at k1
      exact k1.elim
  | _ => exact k1.elim
end
/-! text[::-1] -/
theorem revIdx (n : Nat) : Builtin.Str.strSliceIndices none none (-1) n = (List.range n).reverse := by
  show sliceRange ((n : Int) - 1) (-1) (-1) = _
  rw [PySem.W.krv_sliceRange, PySem.W.krv_range]
def tRevS (te : TE) : TE := fun σ H Q => te σ H fun x H1 => ∃ z : Str, x = .str z ∧ z.length ≤ sizeLine ∧ Q (.str ⟨z.cps.toList.reverse.toArray⟩) H1
theorem pe_revS {X : Cx} {e : Expr} {te : TE} {k : Nat} {p1 p2 p3 pos : Pos} (he : PE X e te) : PE X (.Subscript e (.Slice none none (some (.UnaryOp .USub (.Constant (.int 1) k p1) p2)) p3) pos) (tRevS te) := by
  refine ⟨fun pins s σ H Q I h => ?_⟩
  refine Subscript_ (thn (he.run pins s σ H _ I h) fun v s1 ⟨x, H1, I1, r1, q1⟩ => ?_)
  obtain ⟨z, ex, hz, q⟩ := q1
  subst ex
  obtain ⟨t, rfl⟩ := r1
  have hst : PO X (some (.UnaryOp .USub (.Constant (.int 1) k p1) p2)) (tPart (tUn (rU fun i => .int (-i)) (tC (.int 1)))) := po_some (pe_un un_neg pe_int)
  refine wpAny_Slice (thn (po_none.run pins s1 σ H1 (fun o H2 => o = none ∧ H2 = H1) I1 ⟨rfl, rfl⟩) fun vl s2 ⟨l, H2, I2, pl, el, e2⟩ => ?_)
  subst el e2
  refine thn (po_none.run pins s2 σ H2 (fun o H3 => o = none ∧ H3 = H2) I2 ⟨rfl, rfl⟩) fun vu s3 ⟨u, H3, I3, pu, eu, e3⟩ => ?_
  subst eu e3
  refine thn (hst.run pins s3 σ H3 (fun o H4 => o = some (-1) ∧ H4 = H3) I3 ⟨1, rfl, -1, rfl, rfl, rfl⟩) fun vs s4 ⟨o, H4, I4, ps, eo, e4⟩ => ?_
  subst eo e4
  have I5 : Inv X pins σ H4 { s4 with heap := s4.heap.push { cls := .type "slice", data := .fields #[vl, vu, vs] } } := I4.kept (t' := s4.toks) fun b ob q => Heap.get?_push_of_some _ q
  show wpAny (model X.prog X.w) X.A (subscriptTail e (.Slice none none (some (.UnaryOp .USub (.Constant (.int 1) k p1) p2)) p3) (.str z t) (.ref s4.heap.objs.size)) (EP X pins σ Q) X.xe { s4 with heap := s4.heap.push { cls := .type "slice", data := .fields #[vl, vu, vs] } }
  refine tail_any (ops := [.str z t, .ref s4.heap.objs.size]) (typeIs_str _ _ _) (F.slot_str_getitem.lookup) ?_ (by with_unfolding_all rfl)
  cases pl
  cases pu
  cases ps with
  | int i tv =>
    refine wpAny_getItem_str_slice (l := none) (u := none) (st := some (-1, tv)) ⟨_, Heap.get?_push_size _ rfl, rfl, rfl⟩ rfl ?_
    have ee : Builtin.Str.strSliceIndices none none (-1) z.length = (List.range z.cps.size).reverse := revIdx _
    have e3 : ((Builtin.Str.strSliceIndices none none (-1) z.length).filterMap (z.cps[·]?)) = z.cps.toList.reverse := by
      rw [ee, List.filterMap_reverse, PySem.W.krv_all]
    have em : sliceMade z t none none (some (-1, tv)) = Made.str ⟨z.cps.toList.reverse.toArray⟩ := by
      unfold sliceMade slicePicked
      show (if ((-1 : Int) == 1 && _) = true then _ else Made.str ⟨((Builtin.Str.strSliceIndices none none (-1) z.length).filterMap (z.cps[·]?)).toArray⟩) = _
      rw [e3]
      rfl
    rw [em]
    refine ⟨?_, .str _, H4, I5.tok _, ⟨_, rfl⟩, q⟩
    show (z.cps.toList.reverse.toArray).size ≤ sizeLine
    rw [List.size_toArray, List.length_reverse, Array.length_toList]
    exact hz
def revSD : D → Option D
  | .str x => if szOk x.length then some (.str x.reverse) else none
  | _ => none
theorem v_revS (x : List Nat) (h : szOk x.length) : revSD (.str x) = some (.str x.reverse) := if_pos h
section
variable {X : Cx} {b : Base} {W : WX}
theorem de_revS {e : Expr} {m : EP'} {k : Nat} {p1 p2 p3 pos : Pos} (he : DA X b W e m) : DE X b W (.Subscript e (.Slice none none (some (.UnaryOp .USub (.Constant (.int 1) k p1) p2)) p3) pos) (eUn revSD m) := by
  refine PE.imp (pe_revS he) fun σ H Q ⟨g, st, w, k⟩ => ⟨g, st, w, (Fin.bind k).imp (fun p s1 k1 g1 x H1 l1 w1 r1 => ?_) fun _ _ q => q⟩
  obtain ⟨d, e, k3⟩ := ofO_some k1
  cases e1 : rd p s1 with
  | none => rw [e1] at e; cases e
  | some dx =>
    rw [e1] at e
    have c := RepP.c w1 r1 e1
    cases dx with
    | str z =>
      obtain ⟨rfl, hok⟩ := (show Rep (md X) g1 H1 (.str z) x from c)
      by_cases hz : szOk z.length
      · rw [show (some (D.str z)).bind revSD = _ from if_pos hz] at e
        cases e
        refine ⟨⟨z.toArray⟩, rfl, ?_, ?_⟩
        · show z.toArray.size ≤ sizeLine
          rw [List.size_toArray]; exact hz
        · exact k3 g1 _ H1 l1 w1 ⟨by simp, fun c hc => hok c (List.mem_reverse.mp hc)⟩
      · rw [show (some (D.str z)).bind revSD = _ from if_neg hz] at e
        cases e
    | _ => cases e
/-! list(text) -/
def listXD : List D → Option D
  | [.str x] => if szOk x.length then some (.lst (x.map fun c => .str [c])) else none
  | ds => listD ds
theorem v_listXs (x : List Nat) (h : szOk x.length) : listXD [.str x] = some (.lst (x.map fun c => .str [c])) := if_pos h
theorem v_listXt (xs : List D) : listXD [.tup xs] = some (.lst xs) := id rfl
theorem v_listXl (xs : List D) : listXD [.lst xs] = some (.lst xs) := id rfl
theorem signs_vals (x : Str) : ∀ (vs : List Value) (cs : List Nat), (∀ (i : Nat) (v : Value), vs[i]? = some v → ∃ u, v = .str ⟨#[cs.getD i 0]⟩ u) → vs.length = cs.length → Vals (cs.map fun c => V.str ⟨#[c]⟩) vs
  | [], [], _, _ => .nil
  | [], _ :: _, _, h => by simp at h
  | _ :: _, [], _, h => by simp at h
  | v :: vs, c :: cs, h, hl => by
    obtain ⟨u, rfl⟩ := h 0 v rfl
    exact .cons ⟨u, rfl⟩ (signs_vals x vs cs (fun i v hv => by simpa using h (i + 1) v (by simpa using hv)) (by simpa using hl))
theorem callo_listX (hc : X.calm = true) : CallDo X (.type "list") listXD := by
  intro pins s σ H xs us Q I r ⟨g, ds, d, tF, cs, e, k⟩
  unfold listXD at e
  split at e
  · rename_i x
    by_cases hx : szOk x.length
    · rw [if_pos hx] at e
      cases e
      obtain ⟨v, rfl, c⟩ := creps1 cs
      obtain ⟨rfl, hok⟩ := (show Rep (md X) g H (.str x) v from c)
      obtain ⟨u, rfl, rx⟩ := vals1 r
      obtain ⟨t, rfl⟩ := rx
      refine call_list_str (I.ok.hd hc) ⟨x.toArray⟩ t (fun h' tk acc' c' hk hS hacc => ?_) (by show x.toArray.size ≤ sizeLine; rw [List.size_toArray]; exact hx)
      have hsz : acc'.toList.length = x.length := by rw [Array.length_toList, hacc.1]; simp
      have hv : Vals (x.map fun c => V.str ⟨#[c]⟩) acc'.toList := signs_vals Str.empty _ _ (fun i v hv => by
        obtain ⟨c, u, hc, rfl⟩ := hacc.2 i v (by simpa using hv)
        have hc2 : x[i]? = some c := by simpa using hc
        exact ⟨u, by simp [List.getD_eq_getElem?_getD, hc2]⟩) hsz
      have np : H s.heap.objs.size = none := I.hok.fresh (Nat.le_refl _)
      refine ⟨.ref s.heap.objs.size, _, I.laid (t' := tk) (o := .lst (x.map fun c => V.str ⟨#[c]⟩)) hk (Nat.le_refl _) ⟨by rw [List.length_map]; exact hx, acc'.toList, c', hv, hS⟩, rfl, k _ _ np ⟨_, upd_same, ?_⟩⟩
      have rr : ∀ {H' : Hp} (l : List Nat), (∀ c ∈ l, c < 1114112) → Reps (md X) g H' (l.map fun c => D.str [c]) (l.map fun c => V.str ⟨#[c]⟩) := by
        intro H' l
        induction l with
        | nil => intro _; rfl
        | cons c l ih => intro h; exact ⟨_, _, rfl, ⟨rfl, fun z hz => by rw [List.mem_singleton.mp hz]; exact h c List.mem_cons_self⟩, ih fun z hz => h z (List.mem_cons_of_mem _ hz)⟩
      exact rr x hok
    · rw [if_neg hx] at e
      cases e
  · exact callo_list pins s σ H xs us Q I r ⟨g, _, d, tF, cs, e, k⟩
/-! {} -/
theorem do_disp0 {pos : Pos} : DO X b W (.Dict [] [] pos) (eDisp []) := by
  refine PE.imp pe_dnewK fun σ H Q ⟨g, st, w, k⟩ p np => ?_
  rw [show eDisp [] st = .ok (.dct .K []) st from rfl] at k
  exact w.new Le.refl k p _ np ⟨_, upd_same, rfl⟩
theorem noObj {c : String} {d x : D} (h : isi1 c d = some x) : isObj d = false := by
  cases d <;> first | rfl | cases h
end
end DL
/-! DLj: defs that are run with no repr of a container under way (so that repr of a tuple or a list is known); repr of tuples and lists. -/
namespace DL
open PySem PySem.Spec PyProof.Rows L2
/-- a def's promise where no repr of a container is under way -/
structure FnOkG (P : Program) (w : World) (K : PySem.W.Frag) (mg : Str → Option Value) (base : Heap) (CX : CXT) (k : Nat) (f : Addr) (fd : FuncData) (ps : List Str) (sp : Sp) : Prop where
  len : ∀ vs H Q E, sp vs H Q E → vs.length = ps.length
  run : ∀ (A : Around) (outer : List Env) (s : Shared) (H : Hp) (args : Args) (us : List Value) (vs : List V) (Q : VK) (E : XK), A.guards = some [] → Room k A → Env0 P w K mg base A outer s H → BindsTo s fd args (ps.zip us) → Vals vs us → sp vs H Q E →
    codeAny (model P w) A (.call (.ref f) args) (CR CX outer P w H s Q E) s
theorem fn_ofG {CX : CXT} {P : Program} {w : World} {K : PySem.W.Frag} {mg : Str → Option Value} {base : Heap} {k : Nat} {f : Addr} {name qual : Str} {params : Arguments} {body : List Stmt} {scope : Scope} {dV kV doc pm cdv ct oc : Value} {an od : Option Addr}
    {osl : Array (Option Value)} {N ps : List Str} {sp : Sp} (lk : K.lookup f = some ⟨oc, od, .func (PySem.W.fnOf name qual params body scope dV kV doc pm an cdv ct), osl⟩) (hcd : PySem.W.codeIn K cdv qual = true) (S : FnScope N ps scope)
    (len : ∀ vs H Q E, sp vs H Q E → vs.length = ps.length)
    (hbody : ∀ (A : Around) (outer : List Env) (s : Shared) (H : Hp) (vs : List V) (Q : VK) (E : XK), A.guards = some [] → Room k (A.deeper (envOfC qual scope s.heap.objs.size f cdv)) → sp vs H Q E →
      ∃ t, PSs (cxOf CX P w K mg base N qual scope f cdv A outer s H E) body t ∧ t { nx := fun _ H' => Q .non H', rt := Q } (start N vs) H) :
    FnOkG P w K mg base CX (k + 1) f (PySem.W.fnOf name qual params body scope dV kV doc pm an cdv ct) ps sp := by
  refine ⟨len, fun A outer s H args us vs Q E hgd hr e0 hb r hsp => ?_⟩
  have hl := len _ _ _ _ hsp
  have KX : K.In s.heap := e0.mod.kin.keeps fun b o e => (e0.bs b o e).1
  have lim : s.heap.NoLimit := e0.mod.nolimit.keeps fun b o e => (e0.bs b o e).1
  have hkind : ∀ y ∈ ps.zip us, scope.names.lookup y.1 = some .local ∨ (scope.names.lookup y.1 = some .cell ∧ ((cellsFrom (s.heap.objs.size + 1) scope.names []).lookup y.1).isSome = true) := fun ⟨n, v⟩ hy => by
    rcases S.par n (List.of_mem_zip hy).1 with q | q
    · exact .inl q
    · exact .inr ⟨q, PySem.W.cellsFrom_some _ _ _ (.inl q)⟩
  refine codeAny_call_function hr.depth (KX _ _ lk) rfl S.co S.gen rfl (PySem.W.codeRec_of KX hcd) (hb _ _ _ _ ?_)
  refine wpAny_newFunctionEnv_cells S.kind hkind fun env he s1 x => ?_
  subst he
  refine ⟨lim.keeps x.toInCall.keep, codeAny_func ?_⟩
  obtain ⟨t, ht, hq⟩ := hbody A outer s H vs Q E hgd (hr.deeper _) hsp
  have I : Inv (cxOf CX P w K mg base N qual scope f cdv A outer s H E) [] (start N vs) H s1 := inv_start S hr.hd e0 hl r x
  refine wpAny_mono (ht.run [] s1 (start N vs) H _ I hq) (fun fl s' hs => ?_) fun e s' hs => hs
  have fin : ∀ {σ' : L2.St} {H' : Hp} {v : V} {u : Value}, Inv (cxOf CX P w K mg base N qual scope f cdv A outer s H E) [] σ' H' s' → RelV v u → Q v H' → CE outer P w H s Q u s' :=
    fun {σ' H' v u} J rv q => ⟨v, H', J.os, J.bare, J.base, J.hok, rv, q⟩
  cases fl with
  | ret u =>
    obtain ⟨v, σ', H', J, rv, q⟩ := hs
    exact fin J rv q
  | next =>
    obtain ⟨σ', H', J, q⟩ := hs
    exact fin (v := V.non) (u := Value.none) J rfl q
  | brk =>
    obtain ⟨_, _, _, q⟩ := hs
    exact False.elim q
  | cont =>
    obtain ⟨_, _, _, q⟩ := hs
    exact False.elim q
theorem fnD_okG {P : Program} {w : World} {K : PySem.W.Frag} {mg : Str → Option Value} {base : Heap} {x qual : Str} {params : Arguments} {body : List Stmt} {scope : Scope} {dvs : List V} {kws : List (Str × V)} {f : Addr} {fd : FuncData} {CX : CXT} {N ps : List Str} {k : Nat} {sp : Sp}
    (F : FunD K x qual params body scope dvs kws f fd) (S : FnScope N ps scope) (len : ∀ vs H Q E, sp vs H Q E → vs.length = ps.length)
    (hbody : ∀ (cdv : Value) (A : Around) (outer : List Env) (s : Shared) (H : Hp) (vs : List V) (Q : VK) (E : XK), A.guards = some [] → Room k (A.deeper (envOfC qual scope s.heap.objs.size f cdv)) → sp vs H Q E →
      ∃ t, PSs (cxOf CX P w K mg base N qual scope f cdv A outer s H E) body t ∧ t { nx := fun _ H' => Q .non H', rt := Q } (start N vs) H) : FnOkG P w K mg base CX (k + 1) f fd ps sp := by
  obtain ⟨oc, od, dV, kV, doc, pm, an, cdv, ct, osl, rfl, lk, hcd, _, _⟩ := F.ex
  exact fn_ofG lk hcd S len fun A outer s H vs Q E hgd hr hsp => hbody cdv A outer s H vs Q E hgd hr hsp
/-- the rule of a def, no repr of a container under way -/
theorem ok_fnG {P : Program} {w : World} {K : PySem.W.Frag} {mg : Str → Option Value} {base : Heap} {x qual : Str} {params : Arguments} {body : List Stmt} {scope : Scope} {dvs : List V} {kws : List (Str × V)} {f : Addr} {fd : FuncData} {N ps : List Str} {k n : Nat} {o : Bool} {c : C} {F : Fn}
    (Fd : FunD K x qual params body scope dvs kws f fd) (S : FnScope N ps scope) (hn : ps.length = n) (hF : F = fnD o N.length c)
    (h : ∀ (X : Cx) (b : Base) (E : XK), X.prog = P → X.w = w → X.K = K → X.mg = mg → X.base = base → X.N = N → X.env.scope = scope → X.calm = true → (X.fn = fun _ => true) → X.stack = X.env :: X.outer → X.env.frame = some X.env.locals → X.ex = [] →
      X.A.guards = some [] → Room k X.A → Takes X (WF E) → PassesOwn (model X.prog X.w) X.A X.env X.xe → (∃ cdv A outer s H0, X = cxOf (L2.CX P w) P w K mg base N qual scope f cdv A outer s H0 E) → DSs X b (WF E) o body c) :
    FnOkG P w K mg base (L2.CX P w) (k + 1) f fd ps (spD ⟨K, mg⟩ o n F) := by
  subst hF
  refine fnD_okG Fd S (fun vs H Q E hs => ?_) fun cdv A outer s H vs Q E hgd hr hs => ?_
  · obtain ⟨g, ds, S', e, _⟩ := hs
    rw [e, hn]
  · obtain ⟨g, ds, S0, e, r, ob, gr, q⟩ := hs
    refine ⟨_, h (cxOf (L2.CX P w) P w K mg base N qual scope f cdv A outer s H E) ⟨H, g, []⟩ E rfl rfl rfl rfl rfl rfl rfl rfl rfl rfl rfl rfl hgd hr (takes_of rfl rfl rfl rfl) (passes_of rfl) ⟨_, _, _, _, _, rfl⟩, ?_⟩
    have hpl : vs.length ≤ N.length := by
      rw [e, ← hn]
      have := congrArg List.length S.pre
      rw [List.length_take] at this
      omega
    refine ⟨g, _, wd_start r ob gr hpl, ?_⟩
    unfold fnD at q
    have hle : ∀ {g' : Gh} {σ' : Slots} {H' : Hp} {st : Sts}, Wd ⟨K, mg⟩ ⟨H, g, []⟩ g' σ' H' st → S0.length ≤ st.S.length := fun {g' σ' H' st} w => by
      rw [← ob.len, ← w.obs.len]
      cases hlen : g.as.length with
      | zero => exact Nat.zero_le _
      | succ m =>
        have z := w.gr.as m g.as[m] (List.getElem?_eq_getElem (show m < g.as.length by omega))
        have := (List.getElem?_eq_some_iff.mp z).1
        omega
    have rt : ∀ {d : D} {st : Sts} {g' : Gh} {v : V} {σ' : Slots} {H' : Hp}, FoOk (fun d S' => ∀ g' v H', Gr g H g' H' → ObsOk ⟨K, mg⟩ g' H' S' → Rr ⟨K, mg⟩ ⟨H, g, []⟩ o g' H' d v → Q v H')
        (fun e S' => ∀ g' cls dx H', Gr g H g' H' → ObsOk ⟨K, mg⟩ g' H' S' → RepX ⟨K, mg⟩ g' H' e cls dx → E cls dx H') (retO S0.length d st.S) → Wd ⟨K, mg⟩ ⟨H, g, []⟩ g' σ' H' st → Rr ⟨K, mg⟩ ⟨H, g, []⟩ o g' H' d v → Q v H' := fun {d st g' v σ' H'} q w r => by
      rcases retO_ok q with ⟨_, q⟩ | ⟨c1, c2, q⟩
      · exact q g' v H' w.gr w.obs r
      · obtain ⟨t1, t2⟩ := trim w.gr ob w.obs rfl c2 (hle w)
        refine q _ v H' t1 t2 ?_
        cases o with
        | false => exact Rep.clean (g := g') (g' := ⟨g'.F, g'.as.take S0.length⟩) (fun _ => Iff.rfl) _ _ c1 r
        | true =>
          obtain ⟨a, e, c, nf, na, n0⟩ := r
          exact ⟨a, e, Cont.clean (g := g') (g' := ⟨g'.F, g'.as.take S0.length⟩) (fun _ => Iff.rfl) c1 c, nf, fun m => na (List.mem_of_mem_take m), n0⟩
    cases ec : c ⟨ds.map .val ++ List.replicate (N.length - ds.length) .un, S0⟩ with
    | nx st =>
      rw [ec] at q
      intro g' σ' H' l w
      cases o with
      | false => exact rt (d := .non) q w rfl
      | true => exact q.elim
    | rt d st =>
      rw [ec] at q
      exact fun g' v σ' H' l w r => rt q w r
    | xc x st =>
      rw [ec] at q
      intro σ' g' cls dx H' l w r
      rcases retX_ok q with ⟨_, q⟩ | ⟨c1, c2, q⟩
      · exact q g' cls dx H' w.gr w.obs r
      · obtain ⟨t1, t2⟩ := trim w.gr ob w.obs rfl c2 (hle w)
        refine q _ cls dx H' t1 t2 ?_
        obtain ⟨C, e1, e2, z⟩ := r
        refine ⟨C, e1, e2, z.imp id fun ⟨p, vs, h1, h2, h3⟩ => ⟨p, vs, h1, h2, RepF.clean (g := g') (g' := ⟨g'.F, g'.as.take S0.length⟩) (fun _ => Iff.rfl) _ _ c1 h3⟩⟩
    | bk st => rw [ec] at q; exact q.elim
    | ct st => rw [ec] at q; exact q.elim
    | bad => rw [ec] at q; exact q.elim
theorem ok_fn2G {P : Program} {w : World} {K : PySem.W.Frag} {mg : Str → Option Value} {base : Heap} {x qual : Str} {params : Arguments} {body : List Stmt} {scope : Scope} {dvs : List V} {kws : List (Str × V)} {f : Addr} {fd : FuncData} {N ps : List Str} {k n : Nat} {o : Bool} {c : C} {F : Fn}
    (Fd : FunD K x qual params body scope dvs kws f fd) (S : FnScope N ps scope) (hn : ps.length = n) (hF : F = fnD o N.length c)
    (h : ∀ (b : Base) (cdv : Value) (A : Around) (outer : List Env) (s : Shared) (H : Hp) (E : XK), (xOf P w K mg base N qual scope f cdv A outer s H E).A.guards = some [] → Room k (xOf P w K mg base N qual scope f cdv A outer s H E).A → Takes (xOf P w K mg base N qual scope f cdv A outer s H E) (WF E) → PassesOwn (model P w) (xOf P w K mg base N qual scope f cdv A outer s H E).A (xOf P w K mg base N qual scope f cdv A outer s H E).env (xOf P w K mg base N qual scope f cdv A outer s H E).xe →
      DSs (xOf P w K mg base N qual scope f cdv A outer s H E) b (WF E) o body c) :
    FnOkG P w K mg base (L2.CX P w) (k + 1) f fd ps (spD ⟨K, mg⟩ o n F) :=
  ok_fnG Fd S hn hF fun X b E _ _ _ _ _ _ _ _ _ _ _ _ hgd hr tk hp ⟨cdv, A, outer, s, H, e⟩ => by
    subst e
    exact h b cdv A outer s H E hgd hr tk hp
theorem law_callG {P : Program} {w : World} {K : PySem.W.Frag} {mg mb : Str → Option Value} {CX : CXT} {k : Nat} {fa a : Addr} {fd : FuncData} {x : Str} {sp : Sp} {s₁ : Shared} {vs : List Value} {ns : List Int}
    (KX : K.In s₁.heap) (hns : s₁.heap.Ns mainGlobals mg) (hb : s₁.heap.Ns builtinsNs mb) (hbb : ∀ x : Str, x ≠ "__name__" → mb x = bootBuiltins x) (hlim : s₁.heap.NoLimit) (hg : s₁.gens = #[])
    (ha : s₁.heap.get? a = some { cls := .type "list", data := .seq vs.toArray }) (hi : IntsAre vs ns) (hl : ns.length ≤ sizeLine) (hr : Room k callerA)
    (F : ∀ base : Heap, K.In base → base.Ns mainGlobals mg → FnOkG P w K mg base CX k fa fd [x] sp) (hbind : ∀ (s : Shared) (u : Value), BindsTo s fd ⟨[u], []⟩ [(x, u)])
    (hsp : ∀ H : Hp, Only H → SqL K H a (ns.map V.int) → sp [.ref a] H (fun v _ => v = .bl true) fun _ _ _ => False)
    (hCX : ∀ H e s', CX [] H s₁ (fun _ _ _ => False) e s' → False) :
    codeAny (model P w) callerA (.call (.ref fa) ⟨[.ref a], []⟩) (fun r s' => r = .ok (.ret (.bool true)) ∧ OldK s₁.heap s'.heap ∧ s'.os = s₁.os ∧ AllBare s'.gens) s₁ := by
  have rv := vals_ints hi
  have lenV := hi.length
  -- from an abstract heap in which nothing but the script may be tracked
  have core : ∀ H : Hp, Only H → SqL K H a (ns.map V.int) → HOk P w H s₁.heap → (∀ b, H b ≠ none → b = a) → (H a ≠ none → K.lookup a = none) →
      codeAny (model P w) callerA (.call (.ref fa) ⟨[.ref a], []⟩) (fun r s' => r = .ok (.ret (.bool true)) ∧ OldK s₁.heap s'.heap ∧ s'.os = s₁.os ∧ AllBare s'.gens) s₁ := by
    intro H hO hS hok hA hK
    have base_of : ∀ {b : Addr} {o : Obj}, s₁.heap.get? b = some o → H b = none → (hidT s₁.heap H).get? b = some o := fun e n => hidT_get e n
    have noA : ∀ {b : Addr} {o : Obj} {es : Array DictEntry} {ep : Nat}, s₁.heap.get? b = some o → o.data = .dict es ep → H b = none := fun {b o es ep} e d => by
      cases q : H b with
      | none => rfl
      | some u =>
        have e' : b = a := hA b (by rw [q]; simp)
        subst e'
        rw [ha] at e; cases e
        have d' : Data.seq vs.toArray _ = Data.dict es ep := d
        cases d'
    have nsK : ∀ {b : Addr} {m : Str → Option Value}, s₁.heap.Ns b m → (hidT s₁.heap H).Ns b m := fun {b m} ⟨o, es, ep, e, d, r⟩ => ⟨o, es, ep, base_of e (noA e d), d, r⟩
    have hKb : K.In (hidT s₁.heap H) := fun b o e => base_of (KX b o e) (by
      cases q : H b with
      | none => rfl
      | some u =>
        have e' : b = a := hA b (by rw [q]; simp)
        subst e'
        rw [hK (by rw [q]; simp)] at e; cases e)
    have hM : Mod K mg (hidT s₁.heap H) := ⟨hKb, nsK hns, ⟨mb, nsK hb, hbb⟩, let ⟨mc, h1, h2⟩ := hlim; ⟨mc, nsK h1, h2⟩⟩
    have e0 : Env0 P w K mg (hidT s₁.heap H) callerA [] s₁ H := ⟨rfl, hM, fun b o e => of_hidT e, Nat.le_of_eq (hidT_size _ _), trivial, fun b hb => absurd (show b ∈ ([] : List Addr) from hb) (by simp), hok, .of_eq hg⟩
    refine codeAny_mono ((F _ hKb (nsK hns)).run callerA [] s₁ H ⟨[.ref a], []⟩ [.ref a] [.ref a] _ _ rfl hr e0 (hbind s₁ (.ref a)) (.cons rfl .nil) (hsp H hO hS)) fun r s' h => ?_
    cases r with
    | error e => exact (hCX H e s' h).elim
    | ok fl =>
      cases fl with
      | next => exact False.elim h
      | brk => exact False.elim h
      | cont => exact False.elim h
      | ret u =>
        obtain ⟨v, H', os, bare, un, hok', r', q⟩ := h
        have q' : v = .bl true := q
        subst q'
        obtain rfl : u = Value.bool true := r'
        refine ⟨rfl, OldK.of_keep fun b o e => ?_, os, bare⟩
        cases q : H b with
        | none => exact un.keep b o e q (by intro z; exact absurd (show b ∈ ([] : List Addr) from z) (by simp)) (by simp)
        | some u =>
          rcases hO b with z | ⟨ob, xs, z⟩
          · rw [q] at z; cases z
          · have z2 := un.frzs b ob _ z
            obtain ⟨e1, _⟩ := hok b _ z
            obtain ⟨e2, _⟩ := hok' b _ z2
            rw [e] at e1; cases e1
            exact e2
  cases hk : K.lookup a with
  | some o =>
    -- the script is one of the module's own objects
    have e := KX a o hk
    rw [ha] at e
    cases e
    refine core (fun _ => none) (fun _ => .inl rfl) (.inr ⟨_, vs.toArray, _, hk, rfl, rfl, rfl, by rw [List.size_toArray, lenV]; exact hl, by simpa using rv⟩) (fun b u z => by have z' : (none : Option HO) = some u := z; cases z') (fun b z => absurd rfl z) fun z => absurd rfl z
  | none =>
    refine core (fun b => if b = a then some (.frz { cls := .type "list", data := .seq vs.toArray } (.lst (ns.map V.int))) else none) (fun b => ?_) (.inl (.inr ⟨{ cls := .type "list", data := .seq vs.toArray }, if_pos rfl⟩)) (fun b u z => ?_) (fun b z => ?_) fun _ => hk
    · by_cases hb : b = a
      · exact .inr ⟨_, _, if_pos hb⟩
      · exact .inl (if_neg hb)
    · by_cases hb : b = a
      · have z' := (if_pos hb).symm.trans z
        cases z'
        subst hb
        exact ⟨ha, by rw [List.length_map]; exact hl, vs, _, rv, ha⟩
      · have z' := (if_neg hb).symm.trans z
        cases z'
    · by_cases hb : b = a
      · exact hb
      · exact absurd (if_neg hb) z
theorem walk_dlG {l : PySem.W.OpenLaw} {k : Nat} {q : Program} {loose : List Str} {XP : (Str → Option Value) → Heap → Prop} {YP : World → Heap → Prop} {d : DefRec} {x : Str} {D0 : Fn}
    (hn : l.most = some 63) (hdf : d.params.defaults = []) (hr : Room k callerA)
    (F : ∀ (w : World) (mg : Str → Option Value) (fa : Addr) (h : Heap), YP w h → h.Ns mainGlobals mg → mg d.name = some (.ref fa) →
      ∃ (K : PySem.W.Frag) (fd : FuncData), K.In h ∧ (∀ (s : Shared) (u : Value), BindsTo s fd ⟨[u], []⟩ [(x, u)]) ∧
        ∀ base : Heap, K.In base → base.Ns mainGlobals mg → FnOkG l.prog w K mg base (L2.CX l.prog w) k fa fd [x] (spD ⟨K, mg⟩ false 1 D0))
    (hD : lawIs D0) : PySem.W.WalkO q loose XP YP l.row.toRowW d [] (fun f vs => PySem.call f vs) := by
  refine Att.attach_callB hn hdf fun w s₀ s₁ mg mb fa o pm cd doc a vs ns G Y ho hd hcd hmg hobj hints hlen hbits hg => ?_
  obtain ⟨K, fd, KX, hb, hF⟩ := F w mg fa _ Y G.T.g hmg
  refine law_callG KX G.T.g G.T.b G.T.builtins G.T.nolimit hg hobj hints (Nat.le_trans hlen (by decide)) hr hF hb (fun H hO hS => ?_) fun H e s' hc => ?_
  · obtain ⟨S, e⟩ := hD ns hlen
    refine ⟨⟨fun _ => False, []⟩, [.fro (ns.map .int)], [], rfl, ⟨_, _, rfl, ⟨a, _, rfl, ?_, reps_ints ns⟩, rfl⟩, ⟨rfl, fun n d a h => by simp at h⟩, Gr.refl (fun _ h => h.elim) (fun _ h => by cases h) List.nodup_nil (fun _ h => by cases h), ?_⟩
    · rcases hS with (hS | ⟨o, hS⟩) | hS
      · rcases hO a with h | ⟨o, xs, h⟩
        · rw [hS] at h; cases h
        · rw [hS] at h; cases h
      · exact .inl ⟨o, hS⟩
      · exact .inr hS
    · rw [e]
      exact fun g' v H' _ _ r => r
  · obtain ⟨_, _, _, _, _, _, _, _, _, _, _, _, h⟩ := hc
    exact h

section
variable {X : Cx} {CX : CXT} {k : Nat} {f C : Addr} {fd : FuncData} {ps : List Str} {sp : Sp} {E : L2.St → XK} {x m : Str} {p pos apos : Pos} {e o : Expr} {es : List Expr} {ta : TE} {t : TA}
theorem run_fnSG {pins : List (Addr × Obj)} {σ : L2.St} {H : Hp} {s : Shared} {Q : VK} {us : List Value} {vs : List V} (F : FnOkG X.prog X.w X.K X.mg X.base CX k f fd ps sp) (hgd : X.A.guards = some []) (hr : Room k X.A) (hb : Binds X.K fd ps []) (hx : PassesAt CX X σ (E σ))
    (I : Inv X pins σ H s) (r : Vals vs us) (h : sp vs H Q (E σ)) : wpAny (model X.prog X.w) X.A (call (.ref f) us) (EP X pins σ Q) X.xe s := by
  have hl : us.length = ps.length := by rw [← r.length]; exact F.len _ _ _ _ h
  have b := hb s us I.kIn (by rw [List.append_nil]; exact hl)
  rw [List.append_nil] at b
  refine wpAny_call (codeAny_mono (F.run X.A X.stack s H ⟨us, []⟩ us vs Q (E σ) hgd hr I.env0 b r h) fun r s' hq => ?_)
  cases r with
  | error e => exact hx pins H s e s' I hq
  | ok fl =>
    cases fl with
    | ret u => exact I.after hq
    | next => exact False.elim hq
    | brk => exact False.elim hq
    | cont => exact False.elim hq
theorem pe_callSG (F : FnOkG X.prog X.w X.K X.mg X.base CX k f fd ps sp) (hgd : X.A.guards = some []) (hr : Room k X.A) (hg : Gl X x) (hm : X.mg x = some (.ref f)) (hk : PySem.W.keepIn X.K (.ref f) = true) (hb : Binds X.K fd ps []) (hx : ∀ σ, PassesAt CX X σ (E σ))
    (ha : PA X (e :: es) t) (hdb : (x == ("__debug__" : Str)) = false := by decide) (he : starEach (e :: es) X.env = (false, eval e X.env) :: starEach es X.env := by rfl) (hpl : (backTo pos (starEach es X.env)).any (·.1) = false := by rfl) :
    PE X (.Call (.Name x p) (e :: es) [] pos) (tCallS sp E t) := by
  refine ⟨fun pins s σ H Q I h => ?_⟩
  refine wpAny_Call_Name_kw (ld_glob I hg hm ?_ hdb)
  refine PySem.W.callWith_K (h₀ := X.base) I.ok.mod.kin hk (thn (ha.run pos pins s σ H _ I h) fun us s1 ⟨vs, H1, I1, r, q⟩ => ⟨I1.kIn, ?_⟩) he hpl
  exact run_fnSG F hgd hr hb (hx σ) I1 r q
end
section
variable {X : Cx} {b : Base} {W : WX}
theorem de_callG {x : Str} {k n : Nat} {f : Addr} {fd : FuncData} {ps : List Str} {F : Fn} {p pos : Pos} {e : Expr} {es : List Expr} {ms : List E} (Fk : FnOkG X.prog X.w X.K X.mg X.base (L2.CX X.prog X.w) k f fd ps (spD (md X) false n F)) (hgd : X.A.guards = some []) (hr : Room k X.A) (hg : Gl X x) (hm : X.mg x = some (.ref f))
    (hk : PySem.W.keepIn X.K (.ref f) = true) (hb : Binds X.K fd ps []) (tk : Takes X W) (ha : DArgs X b W (e :: es) (eArgs ms)) (hn : ms.length = n := by rfl) (hdb : (x == ("__debug__" : Str)) = false := by decide +kernel)
    (he : starEach (e :: es) X.env = (false, eval e X.env) :: starEach es X.env := by rfl) (hpl : (backTo pos (starEach es X.env)).any (·.1) = false := by rfl) : DE X b W (.Call (.Name x p) (e :: es) [] pos) (eCall F ms) := by
  refine PE.imp (pe_callSG Fk hgd hr hg hm hk hb (fun σ => passAt tk σ) ha hdb he hpl) fun σ H Q ⟨g, st, w, q⟩ => ⟨g, st, w, ?_⟩
  cases ea : eArgs ms st with
  | bad => rw [show eCall F ms st = .bad by simp [eCall, ea, Ou.bind]] at q; exact q
  | xc y s => rw [show eCall F ms st = .xc y s by simp [eCall, ea, Ou.bind]] at q; exact q
  | ok ds s =>
    rw [show eCall F ms st = foE (F ds s.S) s.ρ by simp [eCall, ea, Ou.bind]] at q
    exact fun g1 vs H1 l1 w1 r1 => call_at l1 w1 r1 ((eArgs_len ea).trans hn) q
theorem do_callG {x : Str} {k n : Nat} {f : Addr} {fd : FuncData} {ps : List Str} {F : Fn} {p pos : Pos} {e : Expr} {es : List Expr} {ms : List E} (Fk : FnOkG X.prog X.w X.K X.mg X.base (L2.CX X.prog X.w) k f fd ps (spD (md X) true n F)) (hgd : X.A.guards = some []) (hr : Room k X.A) (hg : Gl X x) (hm : X.mg x = some (.ref f))
    (hk : PySem.W.keepIn X.K (.ref f) = true) (hb : Binds X.K fd ps []) (tk : Takes X W) (ha : DArgs X b W (e :: es) (eArgs ms)) (hn : ms.length = n := by rfl) (hdb : (x == ("__debug__" : Str)) = false := by decide +kernel)
    (he : starEach (e :: es) X.env = (false, eval e X.env) :: starEach es X.env := by rfl) (hpl : (backTo pos (starEach es X.env)).any (·.1) = false := by rfl) : DO X b W (.Call (.Name x p) (e :: es) [] pos) (eCall F ms) := by
  refine PE.imp (pe_callSG Fk hgd hr hg hm hk hb (fun σ => passAt tk σ) ha hdb he hpl) fun σ H Q ⟨g, st, w, q⟩ => ⟨g, st, w, ?_⟩
  cases ea : eArgs ms st with
  | bad => rw [show eCall F ms st = .bad by simp [eCall, ea, Ou.bind]] at q; exact q
  | xc y s => rw [show eCall F ms st = .xc y s by simp [eCall, ea, Ou.bind]] at q; exact q
  | ok ds s =>
    rw [show eCall F ms st = foE (F ds s.S) s.ρ by simp [eCall, ea, Ou.bind]] at q
    exact fun g1 vs H1 l1 w1 r1 => call_atO l1 w1 r1 ((eArgs_len ea).trans hn) q
end

/-! repr of tuples and lists -/
mutual
def pyOf : D → Option PyData
  | .non => some .none
  | .bl b => some (.bool b)
  | .int i => some (.int i)
  | .str x => some (.str ⟨x.toArray⟩)
  | .tup ds => (pyOfs ds).map .tuple
  | .lst ds => (pyOfs ds).map .list
  | _ => none
def pyOfs : List D → Option (List PyData)
  | [] => some []
  | d :: ds => (pyOf d).bind fun p => (pyOfs ds).map fun ps => p :: ps
end
def reprOk (p : PyData) : Bool := p.showable && !p.hasDict && decide (p.depth ≤ 50) && decide (p.shown.length ≤ sizeLine) && p.shown.cps.toList.all (· < 1114112)
def reprG1 (d : D) : Option D := match d with
  | .tup _ => (pyOf d).bind fun p => if reprOk p = true then some (.str p.shown.cps.toList) else none
  | .lst _ => (pyOf d).bind fun p => if reprOk p = true then some (.str p.shown.cps.toList) else none
  | d => repr1 d
def reprGD : List D → Option D
  | [d] => reprG1 d
  | _ => none
mutual
theorem dp_of {Γ : Md} {g : Gh} {H : Hp} : ∀ (d : D) (v : V) (p : PyData), Rep Γ g H d v → pyOf d = some p → Dp Γ.K H v p
  | .non, v, p, r, e => by cases e; rw [show v = .non from r]; exact .non
  | .bl b, v, p, r, e => by cases e; rw [show v = .bl b from r]; exact .bl b
  | .int i, v, p, r, e => by cases e; rw [show v = .int i from r]; exact .int i
  | .str x, v, p, r, e => by cases e; rw [r.1]; exact .str _
  | .tup ds, v, p, r, e => by
    obtain ⟨a, xs, rfl, h, q⟩ := r
    cases e2 : pyOfs ds with
    | none => rw [pyOf, e2] at e; cases e
    | some ps =>
      rw [pyOf, e2] at e
      cases e
      exact .tup (SqT.of h) (dp_ofs ds xs ps q e2)
  | .lst ds, v, p, r, e => by
    obtain ⟨a, xs, rfl, h, q⟩ := r
    cases e2 : pyOfs ds with
    | none => rw [pyOf, e2] at e; cases e
    | some ps =>
      rw [pyOf, e2] at e
      cases e
      exact .lst (SqL.of h.2) (dp_ofs ds xs ps q e2)
  | .fro _, _, _, _, e => by cases e
  | .dct _ _, _, _, _, e => by cases e
  | .ins _ _, _, _, _, e => by cases e
  | .obj _, _, _, _, e => by cases e
  | .fn _, _, _, _, e => by cases e
theorem dp_ofs {Γ : Md} {g : Gh} {H : Hp} : ∀ (ds : List D) (vs : List V) (ps : List PyData), Reps Γ g H ds vs → pyOfs ds = some ps → DpAll Γ.K H vs ps
  | [], vs, ps, r, e => by
    cases e
    rw [show vs = [] from r]
    exact .nil
  | d :: ds, vs, ps, r, e => by
    obtain ⟨v, rr, rfl, h1, h2⟩ := r
    cases e1 : pyOf d with
    | none => rw [pyOfs, e1] at e; cases e
    | some p =>
      cases e2 : pyOfs ds with
      | none => rw [pyOfs, e1, e2] at e; cases e
      | some qs =>
        rw [pyOfs, e1, e2] at e
        cases e
        exact .cons (dp_of d v p h1 e1) (dp_ofs ds rr qs h2 e2)
end
section
variable {X : Cx} {b : Base} {W : WX}
theorem calld_reprG {k : Nat} (hgd : X.A.guards = some []) (hr : Room k X.A) : CallD X (.builtin "repr") reprGD := by
  intro pins s σ H xs us Q I r ⟨g, ds, d, tF, cs, e, k⟩
  have big : ∀ {v : V} {a : Addr} {p : PyData}, v = .ref a → Dp X.K H v p → ∀ u, RelV v u → (∀ (x : List Nat), (p.shown.cps.toList = x) → reprOk p = true → d = .str x) → reprOk p = true → us = [u] → wpAny (model X.prog X.w) X.A (call (.builtin "repr") us) (EP X pins σ Q) X.xe s := by
    intro v a p ev rp u ru hd ho eu
    subst eu
    subst ev
    obtain rfl : u = Value.ref a := ru
    obtain ⟨as, rd⟩ := Dp.reads I p _ _ rp rfl
    have hd := hd _ rfl ho
    subst hd
    simp only [reprOk, Bool.and_eq_true, decide_eq_true_eq, Bool.not_eq_true'] at ho
    obtain ⟨⟨⟨⟨h1, h2⟩, h3⟩, h4⟩, h5⟩ := ho
    have hu := hr.un
    refine repr_of_reads' rd h1 (fun z => by rw [h2] at z; cases z) hgd (by omega) (fun _ _ q => q) (fun h' u tk hk => ?_) h4
    exact ⟨.str p.shown, H, I.kept hk, ⟨_, rfl⟩, by
      have := k g (.str p.shown) H (Al.refl tF) ⟨by rw [mk_cps], fun c hc => by simpa using List.all_eq_true.mp h5 c hc⟩
      exact this⟩
  unfold reprGD at e
  split at e
  · rename_i dx
    obtain ⟨v, rfl, c⟩ := creps1 cs
    obtain ⟨u, rfl, rv⟩ := vals1 r
    have sc : reprD [dx] = some d → wpAny (model X.prog X.w) X.A (call (.builtin "repr") [u]) (EP X pins σ Q) X.xe s := fun e' =>
      calld_repr pins s σ H _ _ Q I r ⟨g, [dx], d, tF, cs, e', k⟩
    unfold reprG1 at e
    split at e
    · rename_i ds
      cases ep : pyOf (.tup ds) with
      | none => rw [ep] at e; cases e
      | some p =>
        rw [ep] at e
        have e : (if reprOk p = true then some (D.str p.shown.cps.toList) else none) = some d := e
        by_cases ho : reprOk p = true
        · rw [if_pos ho] at e
          cases e
          have c : Rep (md X) g H (.tup ds) v := c
          obtain ⟨a, xs, ev, _⟩ := id c
          exact big ev (dp_of _ _ _ c ep) u rv (fun x hx _ => by rw [hx]) ho rfl
        · rw [if_neg ho] at e; cases e
    · rename_i ds
      cases ep : pyOf (.lst ds) with
      | none => rw [ep] at e; cases e
      | some p =>
        rw [ep] at e
        have e : (if reprOk p = true then some (D.str p.shown.cps.toList) else none) = some d := e
        by_cases ho : reprOk p = true
        · rw [if_pos ho] at e
          cases e
          obtain ⟨a, xs, ev, h, q⟩ := (show CRep (md X) g H (.lst ds) v from c)
          subst ev
          cases e2 : pyOfs ds with
          | none => rw [pyOf, e2] at ep; cases ep
          | some ps =>
            rw [pyOf, e2] at ep
            cases ep
            exact big rfl (.lst (SqL.of h) (dp_ofs ds xs ps q e2)) u rv (fun x hx _ => by rw [hx]) ho rfl
        · rw [if_neg ho] at e; cases e
    · exact sc e
  · cases e
end

/-! enumerate(text) -/
def Ites (x : Str) : It :=
  ⟨fun i H => i < x.cps.size, fun i H v H' => ∃ T c, v = .ref T ∧ H T = none ∧ x.cps[i]? = some c ∧ H' = upd H T (.tup [.int (i : Nat), .str ⟨#[c]⟩]), fun i H => x.cps.size ≤ i⟩
theorem turn_enumS {P : Program} {w : World} {K : PySem.W.Frag} {elts : List Expr} {kk : Nat} {tpos : Pos} (x : Str) (t : Tok) (e it : Addr) :
    Turn P w K (.Tuple elts kk tpos) (Ites x) [e, it] e (fun i h => (∃ old, IsEnum h e it ((i : Nat) : Int) old) ∧ h.IsStrIter it (strIterType x) x t i ∧ e ≠ it ∧ i ≤ x.cps.size) where
  mem := by simp
  obj := fun i h st b hb => by
    obtain ⟨⟨old, he⟩, ⟨o, ho, hc, hd⟩, _⟩ := st
    have e' : b = e ∨ b = it := by simpa using hb
    rcases e' with z | z
    · rw [z]; exact ⟨_, he, fun v q => nomatch q⟩
    · rw [z]; exact ⟨o, ho, fun v q => by rw [hd] at q; cases q⟩
  keep := fun i h h' st k => let ⟨⟨old, he⟩, ⟨o, ho, r⟩, hne⟩ := st; ⟨⟨old, k e (by simp) _ he⟩, ⟨o, k it (by simp) o ho, r⟩, hne⟩
  item := by
    intro X hP hw hK hc i pins s σ H E I hf st hg
    subst hP hw hK
    obtain ⟨⟨old, he⟩, hit, hne, hin⟩ := st
    have hlt : i < x.cps.size := hg
    have hel : e < s.heap.objs.size := Heap.lt_size he
    have hil : it < s.heap.objs.size := by obtain ⟨_, q, _⟩ := hit; exact Heap.lt_size q
    have hh : X.A.in1.handled = none := I.ok.hd hc
    refine wpAny_pyNext_enum_itemD (Draws.text (A := X.A.in1) hh it x t) he hit hlt hne (by simp [hne]) fun x' h' tk hP ho hs' hT hsz hk => ?_
    obtain ⟨c, u, hcx, rfl⟩ := hP
    refine ⟨_, rfl, wpAny_letOwnedTupleGo_enum (s := { s with heap := h', toks := tk + 1 }) ho fun h'' he' sb => ?_⟩
    have hT2 : h''.get? s.heap.objs.size = some { cls := .type "tuple", data := .seq #[.int i tk, .str ⟨#[c]⟩ u] } := (sb.2 _ (Nat.ne_of_gt hel)).trans hT
    have new : ObjOk X.prog X.w (upd H s.heap.objs.size (.tup [.int (i : Nat), .str ⟨#[c]⟩])) h'' s.heap.objs.size (.tup [.int (i : Nat), .str ⟨#[c]⟩]) :=
      ⟨by show 2 ≤ sizeLine; decide, [.int i tk, .str ⟨#[c]⟩ u], .cons ⟨_, rfl⟩ (.cons ⟨_, rfl⟩ .nil), ⟨_, hT2, rfl, _, rfl⟩⟩
    have I1 : Inv X pins σ (upd H s.heap.objs.size (.tup [.int (i : Nat), .str ⟨#[c]⟩])) { s with heap := h'', toks := tk + 1 } :=
      I.turnedNew (ch := [e, it]) (fun b ob hb q => (sb.2 b (fun z => hb (by simp [z]))).trans (hk b ob (fun z => hb (by simp [z])) (fun z => hb (by simp [z])) q)) hf (Nat.le_refl _) new
    refine ⟨.ref s.heap.objs.size, _, I1, rfl, ⟨_, c, rfl, I.hok.fresh (Nat.le_refl _), hcx, rfl⟩, ⟨⟨.str ⟨#[c]⟩ u, ?_⟩, ?_, hne, hlt⟩, fun b hb => ?_⟩
    · have e1 : ((i + 1 : Nat) : Int) = (i : Int) + 1 := by omega
      rw [e1]; exact he'
    · obtain ⟨o, q, r⟩ := hs'
      exact ⟨o, (sb.2 it (Ne.symm hne)).trans q, r⟩
    · have hb' : b < s.heap.objs.size := by
        have e' : b = e ∨ b = it := by simpa using hb
        rcases e' with z | z
        · rw [z]; exact hel
        · rw [z]; exact hil
      rw [upd_ne (Nat.ne_of_lt hb')]
      exact (hf b hb).1
  done := by
    intro X hP hw hK hc i pins s σ H E I hf st hg
    subst hP hw hK
    obtain ⟨⟨old, he⟩, hit, hne, hin⟩ := st
    have hle : x.cps.size ≤ i := hg
    obtain ⟨f0, f1, f2, f3, f4, f5⟩ := hf it (by simp)
    obtain rfl : i = x.cps.size := Nat.le_antisymm hin hle
    exact wpAny_pyNext_enum_endD (Draws.text (A := X.A.in1) (I.ok.hd hc) it x t) he hit fun h' eb => ⟨rfl, I.turned (t' := s.toks) (fun b o hb q => eb b o hb q) f0 f1 f3 f4 f5⟩
  self := fun A i s Q E st h => let ⟨⟨_, he⟩, _⟩ := st; wpAny_pyIter_enum he h
theorem begins_text (x : Str) (t : Tok) : Begins (.str x t) { cls := .type (strIterType x), data := .fields #[.str x t, .int 0 0] } fun _ => True where
  iter := fun prog w A E s Q _ h => wpAny_pyIter_strU h
  keeps := fun _ _ _ _ => trivial
  free := rfl
def iEnumSt (ta : TA) : TI := fun σ H R => ta σ H fun vs H1 => ∃ x : Str, vs = [.str x] ∧ R (Ites x) H1
theorem pi_enumSt {X : Cx} {e : Expr} {ta : TA} {p pos tpos : Pos} {elts : List Expr} {kk : Nat} (hg : Gl X "enumerate") (hm : X.mg "enumerate" = none) (ha : PA X [e] ta) (hs : starEach [e] X.env = [(false, eval e X.env)] := by rfl) :
    PI X (.Tuple elts kk tpos) (.Call (.Name "enumerate" p) [e] [] pos) (iEnumSt ta) := by
  refine ⟨fun pins s σ H R I h => ?_⟩
  refine Call_ (ld_blt I hg hm boot_enumerate (PyProof.Rows.callWith_type1 (thn (ha.run pos pins s σ H _ I h) fun us s1 ⟨vs, H1, I1, r1, q1⟩ => ?_) hs rfl))
  obtain ⟨x, ex, q⟩ := q1
  subst ex
  cases r1 with
  | cons r rr =>
    cases rr
    obtain ⟨t, rfl⟩ := r
    refine dl_enum_begins (begins_text x t) trivial fun h' he hit hsz hk => wpAny_pyIter_enum he ?_
    have I2 : Inv X pins σ H1 { s1 with heap := h' } := I1.kept (t' := s1.toks) hk
    refine ⟨s1.heap.objs.size + 1, [s1.heap.objs.size + 1, s1.heap.objs.size], _, _, H1, rfl, I2, turn_enumS x t (s1.heap.objs.size + 1) s1.heap.objs.size, ⟨⟨.none, he⟩, ⟨_, hit, rfl, rfl⟩, Nat.succ_ne_self _, Nat.zero_le _⟩, fun b hb => ?_, q⟩
    have e' : b = s1.heap.objs.size + 1 ∨ b = s1.heap.objs.size := by simpa using hb
    have hle : s1.heap.objs.size ≤ b := by
      rcases e' with z | z
      · rw [z]; exact Nat.le_add_right _ _
      · rw [z]; exact Nat.le_refl _
    exact I1.fpOk hle (I1.hok.fresh hle)
def signsD (x : List Nat) : List D := x.map fun c => .str [c]
def enumS1 (d : D) (s : Sts) : Ou (List D) := match d with
  | .str x => .ok (enumF 0 (charsD x)) s
  | _ => .bad
def iEnumS (m : E) : Is := fun st => (eArgs [m] st).bind fun ds s => match ds with
  | [d] => enumS1 d s
  | _ => .bad
theorem x_enumS1 (x : List Nat) (s : Sts) : enumS1 (.str x) s = .ok (enumF 0 (charsD x)) s := id rfl
theorem x_enumSt (m : E) (st : Sts) : iEnumS m st = bE (m st) (.mk enumS1) := by
  unfold iEnumS
  rw [x_bind, x_argsC]
  simp only [x_argsN, bE]
  cases m st with
  | ok d s => rfl
  | xc e s => rfl
  | bad => rfl
theorem itOk_enumS {Γ : Md} {g : Gh} {H : Hp} {x : List Nat} (hx : okS x) : ItOk Γ (Ites ⟨x.toArray⟩) (enumF 0 (charsD x)) g H := by
  intro i g2 H2 l tF
  refine ⟨fun d e => ?_, fun hi => ?_⟩
  · rw [enumF_get] at e
    cases ed : x[i]? with
    | none =>
      have e2 : (charsD x)[i]? = none := by
        rw [show charsD x = x.map fun c => D.str [c] from rfl, List.getElem?_map, ed]; rfl
      rw [e2] at e; cases e
    | some c =>
      have e2 : (charsD x)[i]? = some (.str [c]) := by
        rw [show charsD x = x.map fun c => D.str [c] from rfl, List.getElem?_map, ed]; rfl
      rw [e2] at e
      cases e
      refine ⟨by show i < x.toArray.size; rw [List.size_toArray]; exact (List.getElem?_eq_some_iff.mp ed).1, fun v H3 ⟨T, c', e1, nT, hc, e3⟩ => ?_⟩
      have hc2 : c' = c := by
        have : x[i]? = some c' := by simpa using hc
        rw [ed] at this
        exact (Option.some.inj this).symm
      subst hc2
      subst e1 e3
      have al := Al.laid tF nT (.tup [.int (i : Nat), .str ⟨#[c']⟩])
      exact ⟨g2, al, T, _, rfl, upd_same, _, _, rfl, by simp [Rep], _, [], rfl, ⟨rfl, fun z hz => by rw [List.mem_singleton.mp hz]; exact hx _ (List.mem_of_getElem? ed)⟩, rfl⟩
  · show x.toArray.size ≤ i
    rw [List.size_toArray]
    rw [enumF_length] at hi
    simpa [charsD] using hi
section
variable {X : Cx} {b : Base} {W : WX}
theorem di_enumS {e : Expr} {m : E} {p pos tpos : Pos} {elts : List Expr} {kk : Nat} (hg : Gl X "enumerate") (hm : X.mg "enumerate" = none) (ha : DArgs X b W [e] (eArgs [m])) (hs : starEach [e] X.env = [(false, eval e X.env)] := by rfl) :
    DI X b W (.Tuple elts kk tpos) (.Call (.Name "enumerate" p) [e] [] pos) (iEnumS m) := by
  refine ⟨fun pins s σ H R I ⟨g, st, w, k⟩ => ?_⟩
  refine (pi_enumSt hg hm ha hs).run pins s σ H R I ⟨g, st, w, ?_⟩
  refine (Fin.bind k).imp (fun ds s1 k1 g1 vs H1 l1 w1 r1 => ?_) fun _ _ q => q
  match ds, k1, r1 with
  | [.str x], k1, r1 =>
    obtain ⟨v, vr, rfl, ⟨rfl, hx⟩, z⟩ := r1
    cases (show vr = [] from z)
    exact ⟨⟨x.toArray⟩, rfl, k1 g1 _ H1 l1 w1 (itOk_enumS hx)⟩
  | [], k1, _ => exact k1.elim
  | [.non], k1, _ => exact k1.elim
  | [.bl _], k1, _ => exact k1.elim
  | [.int _], k1, _ => exact k1.elim
  | [.tup _], k1, _ => exact k1.elim
  | [.lst _], k1, _ => exact k1.elim
  | [.fro _], k1, _ => exact k1.elim
  | [.dct _ _], k1, _ => exact k1.elim
  | [.ins _ _], k1, _ => exact k1.elim
  | [.obj _], k1, _ => exact k1.elim
  | [.fn _], k1, _ => exact k1.elim
  | _ :: _ :: _, k1, _ => exact k1.elim
end
end DL
/-! DN: denotations of the laws' and the program's defs. -/
namespace DM
open PySem PySem.Spec PyProof.Rows L2 DL
/-! _law_alphabet_2 -/
noncomputable def q__law_alphabet_2_1 : DL.E := eComp (iRange1 (eBin addD (aE (eC (.int 1))) (aE (eCall den__law_draw [(eVar 0), (eC (.int 3))])))) (tgN 3) tYs (eBin ixD (aV 1) (aE (eCall den__law_draw [(eVar 0), (eC (.int 26))]))) [3]
noncomputable def c__law_alphabet_2 : DL.C :=
    (sSeq (sAsg (eC (.str [97, 98, 99, 100, 101, 102, 103, 104, 105, 106, 107, 108, 109, 110, 111, 112, 113, 114, 115, 116, 117, 118, 119, 120, 121, 122])) (tgN 1))
    (sSeq (sAsg q__law_alphabet_2_1 (tgN 2))
    (sRet (eCall den__law_pick [(eVar 0), (eBin catD (aE (eLst [(eC (.str [97, 98])), (eC (.str [97, 98, 99])), (eC (.str [97])), (eC (.str [98, 120])), (eC (.str [99, 109, 122]))])) (aE (eBin repD (aE (eLst [(eJoin (eC (.str [])) (eSortSet (eVar 2)))])) (aE (eC (.int 5))))))]))))
noncomputable def den__law_alphabet_2 : Fn := fnD false 4 c__law_alphabet_2
/-! is_ascending -/
noncomputable def q_is_ascending_1 : DL.E := eComp (iRange1 (eBin subD (aE (eFun lenD [(aV 0)])) (aE (eC (.int 1))))) (tgN 1) tYs (eBin ltD (aE (eBin ixD (aV 0) (aV 1))) (aE (eBin ixD (aV 0) (aE (eBin addD (aV 1) (aE (eC (.int 1)))))))) [1]
noncomputable def q_is_ascending_2 : DL.E := eComp (iRange1 (eBin subD (aE (eFun lenD [(aV 0)])) (aE (eC (.int 1))))) (tgN 1) tYs (eBin ltD (aE (eBin ixD (aV 0) (aV 1))) (aE (eBin ixD (aV 0) (aE (eBin addD (aV 1) (aE (eC (.int 1)))))))) [1]
noncomputable def c_is_ascending : DL.C :=
    (sRet (eFun allD [(aE q_is_ascending_1)]))
noncomputable def den_is_ascending : Fn := fnD false 2 c_is_ascending
/-! _law_holds -/
noncomputable def q__law_holds_1 : DL.E := eComp (iSeq (eBin ixD (aV 1) (aE (eC (.int 1))))) (tgN 2) (tBool (eBin notInD (aV 2) (aE (eBin ixD (aV 0) (aE (eC (.int 1))))))) (eVar 2) [2]
noncomputable def c__law_holds : DL.C :=
    (sRet (eAnd (eBin eqD (aE (eBin ixD (aV 0) (aE (eC (.int 0))))) (aE (eC (.str [115, 116, 97, 114])))) (eBin eqD (aE q__law_holds_1) (aE (eLst [])))))
noncomputable def den__law_holds : Fn := fnD false 3 c__law_holds
/-! is_factor -/
noncomputable def q_is_factor_1 : DL.E := eComp (iSeq (eBin ixD (aV 1) (aE (eC (.int 1))))) (tgN 2) tYs (eBin inD (aV 2) (aV 0)) [2]
noncomputable def q_is_factor_2 : DL.E := eComp (iSeq (eBin ixD (aV 1) (aE (eC (.int 1))))) (tgN 2) tYs (eBin inD (aV 2) (aV 0)) [2]
noncomputable def c_is_factor : DL.C :=
    (sSeq (sIf (tOrr (tNt (tTru (aE (eUn (isi1 "tuple") (aV 1))))) (tOrr (tBool (eBin neD (aE (eFun lenD [(aV 1)])) (aE (eC (.int 2))))) (tNt (tTru (aE (eUn (isi1 "str") (aE (eBin ixD (aV 1) (aE (eC (.int 1)))))))))))
      (sRet (eC (.bl false)))
      sNil)
    (sSeq (sIf (tOrr (tNt (tTru (aE (eUn (isi1 "str") (aE (eBin ixD (aV 1) (aE (eC (.int 0))))))))) (tNt (tTru (aE (eFun allD [(aE q_is_factor_1)])))))
      (sRet (eC (.bl false)))
      sNil)
    (sSeq (sIf (tBool (eBin eqD (aE (eBin ixD (aV 1) (aE (eC (.int 0))))) (aE (eC (.str [111, 112, 116])))))
      (sRet (eBin eqD (aE (eFun lenD [(aE (eBin ixD (aV 1) (aE (eC (.int 1)))))])) (aE (eC (.int 1)))))
      sNil)
    (sRet (eAnd (eBin eqD (aE (eBin ixD (aV 1) (aE (eC (.int 0))))) (aE (eC (.str [115, 116, 97, 114])))) (eAnd (eBin gtD (aE (eFun lenD [(aE (eBin ixD (aV 1) (aE (eC (.int 1)))))])) (aE (eC (.int 0)))) (eCall den_is_ascending [(eBin ixD (aV 1) (aE (eC (.int 1))))])))))))
noncomputable def den_is_factor : Fn := fnD false 3 c_is_factor
/-! reduce_product -/
noncomputable def b_reduce_product_1 : DL.C := (sEx (ePop (aV 1)))
noncomputable def t_reduce_product_2 : DL.T := (tAn (tBool (eBin neD (aV 1) (aE (eLst [])))) (tTru (aE (eCall den_holds [(eVar 2), (eBin ixD (aV 1) (aE (eUn negD (aE (eC (.int 1))))))]))))
noncomputable def b_reduce_product_3 : DL.C := (sWipe [2] (sSeq (sWh t_reduce_product_2 b_reduce_product_1)
      (sIf (tOrr (tBool (eBin eqD (aV 1) (aE (eLst [])))) (tNt (tTru (aE (eCall den_holds [(eBin ixD (aV 1) (aE (eUn negD (aE (eC (.int 1)))))), (eVar 2)])))))
        (sMutL (aV 1) (eVar 2) appD)
        sNil)))
noncomputable def c_reduce_product : DL.C :=
    (sSeq (sSetO 1 (eLst []))
    (sSeq (sFor (iSeq (eVar 0)) (tgN 2) b_reduce_product_3)
    (sRet (eFun tupD [(aV 1)]))))
noncomputable def den_reduce_product : Fn := fnD false 3 c_reduce_product
/-! is_product -/
noncomputable def q_is_product_1 : DL.E := eComp (iSeq (eVar 1)) (tgN 2) tYs (eCall den_is_factor [(eVar 0), (eVar 2)]) [2]
noncomputable def q_is_product_2 : DL.E := eComp (iSeq (eVar 1)) (tgN 2) tYs (eCall den_is_factor [(eVar 0), (eVar 2)]) [2]
noncomputable def c_is_product : DL.C :=
    (sRet (eAnd (eUn (isi1 "tuple") (aV 1)) (eFun allD [(aE q_is_product_1)])))
noncomputable def den_is_product : Fn := fnD false 3 c_is_product
/-! first_positions -/
noncomputable def b_first_positions_1 : DL.C := (sWipe [3, 4] (sIf (tAn (tBool (eBin ltD (aE (eFun lenD [(aV 2)])) (aE (eFun lenD [(aV 0)])))) (tBool (eBin eqD (aE (eBin ixD (aV 0) (aE (eFun lenD [(aV 2)])))) (aV 4))))
        (sMutL (aV 2) (eVar 3) appD)
        sNil))
noncomputable def c_first_positions : DL.C :=
    (sSeq (sSetO 2 (eLst []))
    (sSeq (sFor (iEnumS (eVar 1)) (tgT [(tgN 3), (tgN 4)]) b_first_positions_1)
    (sRet (eIf (tBool (eBin eqD (aE (eFun lenD [(aV 2)])) (aE (eFun lenD [(aV 0)])))) (eFun tupD [(aV 2)]) (eC .non)))))
noncomputable def den_first_positions : Fn := fnD false 5 c_first_positions
/-! _law_all_subwords -/
noncomputable def q__law_all_subwords_1 : DL.E := eComp (iSeq (eVar 1)) (tgN 3) tYs (eBin addD (aV 3) (aV 2)) [3]
noncomputable def b__law_all_subwords_2 : DL.C := (sWipe [2] (sAsg (eBin catD (aV 1) (aE q__law_all_subwords_1)) (tgN 1)))
noncomputable def c__law_all_subwords : DL.C :=
    (sSeq (sAsg (eLst [(eC (.str []))]) (tgN 1))
    (sSeq (sFor (iSeq (eVar 0)) (tgN 2) b__law_all_subwords_2)
    (sRet (eVar 1))))
noncomputable def den__law_all_subwords : Fn := fnD false 4 c__law_all_subwords
/-! _law_places -/
noncomputable def b__law_places_1 : DL.C := (sAsg (eBin addD (aV 3) (aE (eC (.int 1)))) (tgN 3))
noncomputable def t__law_places_2 : DL.T := (tAn (tBool (eBin ltD (aV 3) (aE (eFun lenD [(aV 1)])))) (tBool (eBin neD (aE (eBin ixD (aV 1) (aV 3))) (aV 4))))
noncomputable def b__law_places_3 : DL.C := (sWipe [4] (sSeq (sWh t__law_places_2 b__law_places_1)
      (sSeq (sIf (tBool (eBin eqD (aV 3) (aE (eFun lenD [(aV 1)]))))
        (sRet (eC .non))
        sNil)
      (sSeq (sMutL (aV 2) (eVar 3) appD)
      (sAsg (eBin addD (aV 3) (aE (eC (.int 1)))) (tgN 3))))))
noncomputable def c__law_places : DL.C :=
    (sSeq (sParO 2 3 (eLst []) (eC (.int 0)))
    (sSeq (sFor (iSeq (eVar 0)) (tgN 4) b__law_places_3)
    (sRet (eFun tupD [(aV 2)]))))
noncomputable def den__law_places : Fn := fnD false 5 c__law_places
/-! is_subword -/
noncomputable def c_is_subword : DL.C :=
    (sRet (eBin isNotD (aE (eCall den_first_positions [(eVar 0), (eVar 1)])) (aE (eC .non))))
noncomputable def den_is_subword : Fn := fnD false 2 c_is_subword
/-! law_k02 -/
noncomputable def q_law_k02_1 : DL.E := eComp (iSeq (eVar 4)) (tgN 6) (tBool (eBin gtD (aE (eCall den__law_draw [(eVar 1), (eC (.int 3))])) (aE (eC (.int 0))))) (eVar 6) [6]
noncomputable def b_law_k02_2 : DL.C := (sWipe [2, 3, 4, 5, 7, 8] (sSeq (sAsg (eCall den__law_alphabet_2 [(eVar 1)]) (tgN 3))
      (sSeq (sAsg (eCall den__law_word [(eVar 1), (eVar 3), (eCall den__law_pick [(eVar 1), (eLst [(eC (.int 4)), (eC (.int 8)), (eC (.int 12)), (eC (.int 60))])])]) (tgN 4))
      (sSeq (sAsg (eJoin (eC (.str [])) q_law_k02_1) (tgN 5))
      (sSeq (sIf (tBool (eBin eqD (aE (eCall den__law_draw [(eVar 1), (eC (.int 2))])) (aE (eC (.int 0)))))
        (sSeq (sAsg (eCall den__law_draw [(eVar 1), (eBin addD (aE (eFun lenD [(aV 5)])) (aE (eC (.int 1))))]) (tgN 7))
        (sAsg (eBin addD (aE (eBin addD (aE (eSl (aV 5) none (some (eVar 7)))) (aE (eCall den__law_pick [(eVar 1), (eVar 3)])))) (aE (eSl (aV 5) (some (eBin addD (aV 7) (aE (eCall den__law_draw [(eVar 1), (eC (.int 2))])))) none))) (tgN 5)))
        sNil)
      (sSeq (sAsg (eCall den__law_pick [(eVar 1), (eLst [(eVar 5), (eVar 5), (eVar 5), (eVar 4), (eC (.str [])), (eCall den__law_word [(eVar 1), (eVar 3), (eC (.int 4))])])]) (tgN 5))
      (sSeq (sAsg (eCall den__law_places [(eVar 5), (eVar 4)]) (tgN 8))
      (sSeq (sIf (tOrr (tNt (tTru (aE (eCall den__law_same [(eCall den_is_subword [(eVar 5), (eVar 4)]), (eBin isNotD (aV 8) (aE (eC .non)))])))) (tBool (eBin neD (aE (eFun reprGD [(aE (eCall den_first_positions [(eVar 5), (eVar 4)]))])) (aE (eFun reprGD [(aV 8)])))))
        (sRet (eC (.bl false)))
        sNil)
      (sSeq (sIf (tAn (tBool (eBin ltD (aE (eFun lenD [(aV 4)])) (aE (eC (.int 7))))) (tBool (eBin neD (aE (eCall den_is_subword [(eVar 5), (eVar 4)])) (aE (eBin inD (aV 5) (aE (eCall den__law_all_subwords [(eVar 4)])))))))
        (sRet (eC (.bl false)))
        sNil)
      (sIf (tBool (eBin neD (aE (eCall den_is_subword [(eVar 5), (eVar 4)])) (aE (eCall den__law_is_subword [(eVar 5), (eVar 4)]))))
        (sRet (eC (.bl false)))
        sNil))))))))))
noncomputable def c_law_k02 : DL.C :=
    (sSeq (sSetS 1 (eCall den__law_begin [(eVar 0)]))
    (sSeq (sFor (iRange1 (eC (.int 5))) (tgN 2) b_law_k02_2)
    (sRet (eC (.bl true)))))
noncomputable def den_law_k02 : Fn := fnD false 9 c_law_k02
end DM
namespace K02
open PySem PySem.Spec PyProof.Rows L2 DL DM
def top (i : Nat) : Stmt := PySem.Challenge.pw_downwords_k02_subwords_and_positions.main.body.getD i (.Pass ⟨0, 0, 0, 0⟩)
abbrev s_first_positions : Stmt := top 1
abbrev s_is_subword : Stmt := top 2
abbrev s__law_begin : Stmt := top 4
abbrev s__law_draw : Stmt := top 5
abbrev s__law_pick : Stmt := top 6
abbrev s__law_alphabet : Stmt := top 7
abbrev s__law_word : Stmt := top 8
abbrev s__law_is_subword : Stmt := top 9
abbrev s__law_same : Stmt := top 10
abbrev s__law_all_subwords : Stmt := top 11
abbrev s__law_places : Stmt := top 12
abbrev s_law : Stmt := top 13
abbrev FnP (K : PySem.W.Frag) (x : Str) (st : Stmt) (f : Addr) (fd : FuncData) : Prop := FunD K x x (defArgs st) (defBody st) (defScope st) [] [] f fd
structure Fs (K : PySem.W.Frag) (mg : Str → Option Value) where
  a_first_positions : Addr
  fd_first_positions : FuncData
  F_first_positions : FnP K "first_positions" s_first_positions a_first_positions fd_first_positions
  b_first_positions : Binds K fd_first_positions ["word", "other"] []
  g_first_positions : mg "first_positions" = some (.ref a_first_positions)
  a_is_subword : Addr
  fd_is_subword : FuncData
  F_is_subword : FnP K "is_subword" s_is_subword a_is_subword fd_is_subword
  b_is_subword : Binds K fd_is_subword ["word", "other"] []
  g_is_subword : mg "is_subword" = some (.ref a_is_subword)
  a__law_begin : Addr
  fd__law_begin : FuncData
  F__law_begin : FnP K "_law_begin" s__law_begin a__law_begin fd__law_begin
  b__law_begin : Binds K fd__law_begin ["_law_script"] []
  g__law_begin : mg "_law_begin" = some (.ref a__law_begin)
  a__law_draw : Addr
  fd__law_draw : FuncData
  F__law_draw : FnP K "_law_draw" s__law_draw a__law_draw fd__law_draw
  b__law_draw : Binds K fd__law_draw ["_law_tape", "_law_many"] []
  g__law_draw : mg "_law_draw" = some (.ref a__law_draw)
  a__law_pick : Addr
  fd__law_pick : FuncData
  F__law_pick : FnP K "_law_pick" s__law_pick a__law_pick fd__law_pick
  b__law_pick : Binds K fd__law_pick ["_law_tape", "_law_items"] []
  g__law_pick : mg "_law_pick" = some (.ref a__law_pick)
  a__law_alphabet : Addr
  fd__law_alphabet : FuncData
  F__law_alphabet : FnP K "_law_alphabet" s__law_alphabet a__law_alphabet fd__law_alphabet
  b__law_alphabet : Binds K fd__law_alphabet ["_law_tape"] []
  g__law_alphabet : mg "_law_alphabet" = some (.ref a__law_alphabet)
  a__law_word : Addr
  fd__law_word : FuncData
  F__law_word : FnP K "_law_word" s__law_word a__law_word fd__law_word
  b__law_word : Binds K fd__law_word ["_law_tape", "_law_alphabet_here", "_law_longest"] []
  g__law_word : mg "_law_word" = some (.ref a__law_word)
  a__law_is_subword : Addr
  fd__law_is_subword : FuncData
  F__law_is_subword : FnP K "_law_is_subword" s__law_is_subword a__law_is_subword fd__law_is_subword
  b__law_is_subword : Binds K fd__law_is_subword ["_law_word_here", "_law_other"] []
  g__law_is_subword : mg "_law_is_subword" = some (.ref a__law_is_subword)
  a__law_same : Addr
  fd__law_same : FuncData
  F__law_same : FnP K "_law_same" s__law_same a__law_same fd__law_same
  b__law_same : Binds K fd__law_same ["_law_found", "_law_due"] []
  g__law_same : mg "_law_same" = some (.ref a__law_same)
  a__law_all_subwords : Addr
  fd__law_all_subwords : FuncData
  F__law_all_subwords : FnP K "_law_all_subwords" s__law_all_subwords a__law_all_subwords fd__law_all_subwords
  b__law_all_subwords : Binds K fd__law_all_subwords ["_law_word_here"] []
  g__law_all_subwords : mg "_law_all_subwords" = some (.ref a__law_all_subwords)
  a__law_places : Addr
  fd__law_places : FuncData
  F__law_places : FnP K "_law_places" s__law_places a__law_places fd__law_places
  b__law_places : Binds K fd__law_places ["_law_word_here", "_law_other"] []
  g__law_places : mg "_law_places" = some (.ref a__law_places)
  a_law : Addr
  fd_law : FuncData
  F_law : FnP K "law" s_law a_law fd_law
  b_law : Binds K fd_law ["_law_script"] []
  g_law : mg "law" = some (.ref a_law)
  n_enumerate : mg "enumerate" = none
  n_len : mg "len" = none
  n_range : mg "range" = none
  n_repr : mg "repr" = none
  n_set : mg "set" = none
  n_sorted : mg "sorted" = none
  n_tuple : mg "tuple" = none
section
variable {P : Program} {w : World} {K : PySem.W.Frag} {mg : Str → Option Value} {base : Heap}
/-! first_positions -/
theorem sc_first_positions : FnScope ["word", "other", "found", "index", "letter"] ["word", "other"] (defScope s_first_positions) := ⟨rfl, rfl, rfl, by decide +kernel, rfl, by decide +kernel, by decide +kernel⟩
theorem ok_first_positions (Φ : Fs K mg) (m : Nat) : FnOk P w K mg base (L2.CX P w) (m + 1) Φ.a_first_positions Φ.fd_first_positions ["word", "other"] (spD ⟨K, mg⟩ false 2 den_first_positions) :=
  ok_fn2 (N := ["word", "other", "found", "index", "letter"]) (c := c_first_positions) Φ.F_first_positions sc_first_positions rfl rfl fun b cdv A outer s H E hr tk hp =>
    (dss_cons (ds_setO sc_first_positions.nd rfl (by first | exact .inl rfl | exact .inr rfl) (do_lst dargs_nil))
    (dss_cons (ds_for hp rfl (di_enumS rfl Φ.n_enumerate (dargs_cons (de_var (pv 1)) dargs_nil)) (dg_tup rfl (dgs_cons (dg_name (gname sc_first_positions.nd 3)) (dgs_cons (dg_name (gname sc_first_positions.nd 4)) dgs_nil)))
      (dss_wipe [3, 4] (dss_one (ds_if (dt_w (dw_and (dt_cmp opd_lt (da_of (de_fun calld_len rfl Φ.n_len rfl (dargsP_cons (da_var (pv 2)) dargsP_nil))) (da_of (de_fun calld_len rfl Φ.n_len rfl (dargsP_cons (da_var (pv 0)) dargsP_nil))) rfl) (dw_and1 (dt_cmp (opd_eq (room64 hr)) (da_of (de_ix (room1 hr) (da_var (pv 0)) (da_of (de_fun calld_len rfl Φ.n_len rfl (dargsP_cons (da_var (pv 2)) dargsP_nil))))) (da_var (pv 4)) rfl))))
        (dss_one (ds_append (da_var (pv 2)) (de_var (pv 3))))
        dss_nil))))
    (dss_one (ds_ret (de_if (dt_cmp (opd_eq (room64 hr)) (da_of (de_fun calld_len rfl Φ.n_len rfl (dargsP_cons (da_var (pv 2)) dargsP_nil))) (da_of (de_fun calld_len rfl Φ.n_len rfl (dargsP_cons (da_var (pv 0)) dargsP_nil))) rfl) (de_funT calld_tuple rfl Φ.n_tuple rfl (dargsP_cons (da_var (pv 2)) dargsP_nil)) de_non)))))
/-! _law_begin -/
theorem sc__law_begin : FnScope ["_law_script"] ["_law_script"] (defScope s__law_begin) := ⟨rfl, rfl, rfl, by decide +kernel, rfl, by decide +kernel, by decide +kernel⟩
theorem ok__law_begin (Φ : Fs K mg) (m : Nat) : FnOk P w K mg base (L2.CX P w) (m + 1) Φ.a__law_begin Φ.fd__law_begin ["_law_script"] (spD ⟨K, mg⟩ true 1 den__law_begin) :=
  ok_fn2 (N := ["_law_script"]) (c := c__law_begin) Φ.F__law_begin sc__law_begin rfl rfl fun b cdv A outer s H E hr tk hp =>
    (dss_one (ds_retO (do_disp (dps_cons (fun _ => (de_str (l := [99, 101, 108, 108, 115]) (by decide +kernel) (by decide +kernel))) (fun _ => (de_or (de_sl (da_var (pv 0)) dpo_none (dpo_some de_int)) (de_one (de_own (do_lst (dargs_cons de_int dargs_nil)))))) (dps_cons (fun _ => (de_str (l := [112, 108, 97, 99, 101]) (by decide +kernel) (by decide +kernel))) (fun _ => de_int) (dps_cons (fun _ => (de_str (l := [108, 101, 102, 116]) (by decide +kernel) (by decide +kernel))) (fun _ => de_int) dps_nil))))))
/-! _law_draw -/
theorem sc__law_draw : FnScope ["_law_tape", "_law_many", "_law_place", "_law_count", "_law_cell", "_law_found"] ["_law_tape", "_law_many"] (defScope s__law_draw) := ⟨rfl, rfl, rfl, by decide +kernel, rfl, by decide +kernel, by decide +kernel⟩
theorem ok__law_draw (Φ : Fs K mg) (m : Nat) : FnOk P w K mg base (L2.CX P w) (m + 1) Φ.a__law_draw Φ.fd__law_draw ["_law_tape", "_law_many"] (spD ⟨K, mg⟩ false 2 den__law_draw) :=
  ok_fn2 (N := ["_law_tape", "_law_many", "_law_place", "_law_count", "_law_cell", "_law_found"]) (c := c__law_draw) Φ.F__law_draw sc__law_draw rfl rfl fun b cdv A outer s H E hr tk hp =>
    (dss_cons (ds_if (dt_cmp opd_lt (da_of (de_ix (room1 hr) (da_var (pv 0)) (da_of (de_str (l := [108, 101, 102, 116]) (by decide +kernel) (by decide +kernel))))) (da_var (pv 1)) rfl)
      (dss_cons (ds_par rfl sc__law_draw.nd rfl rfl (by decide) rfl rfl (de_ix (room1 hr) (da_var (pv 0)) (da_of (de_str (l := [112, 108, 97, 99, 101]) (by decide +kernel) (by decide +kernel)))) (de_fun calld_len rfl Φ.n_len rfl (dargsP_cons (da_of (de_ix (room1 hr) (da_var (pv 0)) (da_of (de_str (l := [99, 101, 108, 108, 115]) (by decide +kernel) (by decide +kernel))))) dargsP_nil)) rfl)
      (dss_cons (ds_asg (de_tup (dargs_cons (de_ix (room1 hr) (da_of (de_ix (room1 hr) (da_var (pv 0)) (da_of (de_str (l := [99, 101, 108, 108, 115]) (by decide +kernel) (by decide +kernel))))) (da_of (de_bin opd_mod (da_var (pv 2)) (da_var (pv 3))))) (dargs_cons (de_bin opd_add (da_var (pv 2)) (da_of de_int)) dargs_nil))) (dg_tup rfl (dgs_cons (dg_name (gname sc__law_draw.nd 4)) (dgs_cons (dg_sub (room1 hr) (da_var (pv 0)) (de_str (l := [112, 108, 97, 99, 101]) (by decide +kernel) (by decide +kernel))) dgs_nil))))
      (dss_cons (ds_asg (de_bin opd_mod (da_of (de_bin opd_pow (da_of (de_bin opd_add (da_of (de_bin opd_add (da_of (de_bin opd_mod (da_var (pv 4)) (da_of de_int))) (da_of (de_bin opd_mul (da_of de_int) (da_var (pv 2)))))) (da_of de_int))) (da_of de_int))) (da_of (de_bin opd_add (da_of (de_bin opd_pow (da_of de_int) (da_of de_int))) (da_of de_int)))) (dg_sub (room1 hr) (da_var (pv 0)) (de_str (l := [108, 101, 102, 116]) (by decide +kernel) (by decide +kernel))))
      (dss_one (ds_if (dt_w (dw_and (dt_cmp opd_ge (da_var (pv 4)) (da_of (de_bin opd_pow (da_of de_int) (da_of de_int))) rfl) (dw_and1 (dt_cmp opd_lt (da_var (pv 2)) (da_var (pv 3)) rfl))))
        (dss_one (ds_asg (de_bin opd_sub (da_var (pv 4)) (da_of (de_bin opd_pow (da_of de_int) (da_of de_int)))) (dg_sub (room1 hr) (da_var (pv 0)) (de_str (l := [108, 101, 102, 116]) (by decide +kernel) (by decide +kernel)))))
        dss_nil)))))
      dss_nil)
    (dss_cons (ds_asg (de_tup (dargs_cons (de_bin opd_mod (da_of (de_ix (room1 hr) (da_var (pv 0)) (da_of (de_str (l := [108, 101, 102, 116]) (by decide +kernel) (by decide +kernel))))) (da_var (pv 1))) (dargs_cons (de_bin opd_fdiv (da_of (de_ix (room1 hr) (da_var (pv 0)) (da_of (de_str (l := [108, 101, 102, 116]) (by decide +kernel) (by decide +kernel))))) (da_var (pv 1))) dargs_nil))) (dg_tup rfl (dgs_cons (dg_name (gname sc__law_draw.nd 5)) (dgs_cons (dg_sub (room1 hr) (da_var (pv 0)) (de_str (l := [108, 101, 102, 116]) (by decide +kernel) (by decide +kernel))) dgs_nil))))
    (dss_one (ds_ret (de_var (pv 5))))))
/-! _law_is_subword -/
theorem sc__law_is_subword : FnScope ["_law_word_here", "_law_other", "_law_letter"] ["_law_word_here", "_law_other"] (defScope s__law_is_subword) := ⟨rfl, rfl, rfl, by decide +kernel, rfl, by decide +kernel, by decide +kernel⟩
theorem ok__law_is_subword (Φ : Fs K mg) (m : Nat) : FnOk P w K mg base (L2.CX P w) (m + 1) Φ.a__law_is_subword Φ.fd__law_is_subword ["_law_word_here", "_law_other"] (spD ⟨K, mg⟩ false 2 den__law_is_subword) :=
  ok_fn2 (N := ["_law_word_here", "_law_other", "_law_letter"]) (c := c__law_is_subword) Φ.F__law_is_subword sc__law_is_subword rfl rfl fun b cdv A outer s H E hr tk hp =>
    (dss_cons (ds_for hp rfl (di_seq (de_var (pv 1))) (dg_name (gname sc__law_is_subword.nd 2))
      (dss_wipe [2] (dss_one (ds_if (dt_w (dw_and (dt_cmp (opd_ne (room64 hr)) (da_var (pv 0)) (da_of (de_str (l := []) (by decide +kernel) (by decide +kernel))) rfl) (dw_and1 (dt_cmp (opd_eq (room64 hr)) (da_of (de_ix (room1 hr) (da_var (pv 0)) (da_of de_int))) (da_var (pv 2)) rfl))))
        (dss_one (ds_set sc__law_is_subword.nd rfl (by first | exact .inl rfl | exact .inr rfl) (de_sl (da_var (pv 0)) (dpo_some de_int) dpo_none)))
        dss_nil))))
    (dss_one (ds_ret (de_cmp (opd_eq (room64 hr)) (da_var (pv 0)) (da_of (de_str (l := []) (by decide +kernel) (by decide +kernel))) rfl))))
/-! _law_same -/
theorem sc__law_same : FnScope ["_law_found", "_law_due"] ["_law_found", "_law_due"] (defScope s__law_same) := ⟨rfl, rfl, rfl, by decide +kernel, rfl, by decide +kernel, by decide +kernel⟩
theorem ok__law_same (Φ : Fs K mg) (m : Nat) : FnOk P w K mg base (L2.CX P w) (m + 1) Φ.a__law_same Φ.fd__law_same ["_law_found", "_law_due"] (spD ⟨K, mg⟩ false 2 den__law_same) :=
  ok_fn2 (N := ["_law_found", "_law_due"]) (c := c__law_same) Φ.F__law_same sc__law_same rfl rfl fun b cdv A outer s H E hr tk hp =>
    (dss_one (ds_ret (de_if (dt_tru (da_var (pv 1))) (de_cmp opd_is (da_var (pv 0)) (da_of de_bl) rfl) (de_cmp opd_is (da_var (pv 0)) (da_of de_bl) rfl))))
/-! _law_all_subwords -/
theorem sc__law_all_subwords : FnScope ["_law_word_here", "_law_found", "_law_letter", "_law_one"] ["_law_word_here"] (defScope s__law_all_subwords) := ⟨rfl, rfl, rfl, by decide +kernel, rfl, by decide +kernel, by decide +kernel⟩
theorem ok__law_all_subwords (Φ : Fs K mg) (m : Nat) : FnOk P w K mg base (L2.CX P w) (m + 1) Φ.a__law_all_subwords Φ.fd__law_all_subwords ["_law_word_here"] (spD ⟨K, mg⟩ false 1 den__law_all_subwords) :=
  ok_fn2 (N := ["_law_word_here", "_law_found", "_law_letter", "_law_one"]) (c := c__law_all_subwords) Φ.F__law_all_subwords sc__law_all_subwords rfl rfl fun b cdv A outer s H E hr tk hp =>
    (dss_cons (ds_set sc__law_all_subwords.nd rfl (by first | exact .inl rfl | exact .inr rfl) (de_own (do_lst (dargs_cons (de_str (l := []) (by decide +kernel) (by decide +kernel)) dargs_nil))))
    (dss_cons (ds_for hp rfl (di_seq (de_var (pv 0))) (dg_name (gname sc__law_all_subwords.nd 2))
      (dss_wipe [2] (dss_one (ds_set sc__law_all_subwords.nd rfl (by first | exact .inl rfl | exact .inr rfl) (de_own (do_bin opo_cat (da_var (pv 1)) (da_of (de_own (do_comp (own := [("_law_one", 3)]) rfl sc__law_all_subwords.nd (di_seq (de_var (pv 1))) (blkOk_by (by kernel_rfl)) (fun _ _ _ _ _ _ => (dgc_name (gname sc__law_all_subwords.nd 3) (by decide))) (fun _ _ _ _ _ _ => dts_nil) (fun _ _ _ _ _ _ => (de_bin opd_add (da_var (pv 3)) (da_var (pv 2)))))))))))))
    (dss_one (ds_ret (de_var (pv 1))))))
/-! _law_places -/
theorem sc__law_places : FnScope ["_law_word_here", "_law_other", "_law_found", "_law_place", "_law_letter"] ["_law_word_here", "_law_other"] (defScope s__law_places) := ⟨rfl, rfl, rfl, by decide +kernel, rfl, by decide +kernel, by decide +kernel⟩
theorem ok__law_places (Φ : Fs K mg) (m : Nat) : FnOk P w K mg base (L2.CX P w) (m + 1) Φ.a__law_places Φ.fd__law_places ["_law_word_here", "_law_other"] (spD ⟨K, mg⟩ false 2 den__law_places) :=
  ok_fn2 (N := ["_law_word_here", "_law_other", "_law_found", "_law_place", "_law_letter"]) (c := c__law_places) Φ.F__law_places sc__law_places rfl rfl fun b cdv A outer s H E hr tk hp =>
    (dss_cons (ds_parO rfl sc__law_places.nd rfl rfl (by decide) rfl rfl (do_lst dargs_nil) (fun _ => de_int) rfl)
    (dss_cons (ds_for hp rfl (di_seq (de_var (pv 0))) (dg_name (gname sc__law_places.nd 4))
      (dss_wipe [4] (dss_cons (ds_while hp (dt_w (dw_and (dt_cmp opd_lt (da_var (pv 3)) (da_of (de_fun calld_len rfl Φ.n_len rfl (dargsP_cons (da_var (pv 1)) dargsP_nil))) rfl) (dw_and1 (dt_cmp (opd_ne (room64 hr)) (da_of (de_ix (room1 hr) (da_var (pv 1)) (da_var (pv 3)))) (da_var (pv 4)) rfl))))
        (dss_one (ds_set sc__law_places.nd rfl (by first | exact .inl rfl | exact .inr rfl) (de_bin opd_add (da_var (pv 3)) (da_of de_int)))))
      (dss_cons (ds_if (dt_cmp (opd_eq (room64 hr)) (da_var (pv 3)) (da_of (de_fun calld_len rfl Φ.n_len rfl (dargsP_cons (da_var (pv 1)) dargsP_nil))) rfl)
        (dss_one (ds_ret de_non))
        dss_nil)
      (dss_cons (ds_append (da_var (pv 2)) (de_var (pv 3)))
      (dss_one (ds_set sc__law_places.nd rfl (by first | exact .inl rfl | exact .inr rfl) (de_bin opd_add (da_var (pv 3)) (da_of de_int)))))))))
    (dss_one (ds_ret (de_funT calld_tuple rfl Φ.n_tuple rfl (dargsP_cons (da_var (pv 2)) dargsP_nil))))))
/-! is_subword -/
theorem sc_is_subword : FnScope ["word", "other"] ["word", "other"] (defScope s_is_subword) := ⟨rfl, rfl, rfl, by decide +kernel, rfl, by decide +kernel, by decide +kernel⟩
theorem ok_is_subword (Φ : Fs K mg) (m : Nat) : FnOk P w K mg base (L2.CX P w) (m + 2) Φ.a_is_subword Φ.fd_is_subword ["word", "other"] (spD ⟨K, mg⟩ false 2 den_is_subword) :=
  ok_fn2 (N := ["word", "other"]) (c := c_is_subword) Φ.F_is_subword sc_is_subword rfl rfl fun b cdv A outer s H E hr tk hp =>
    (dss_one (ds_ret (de_cmp opd_isNot (da_of (de_call (ok_first_positions Φ (m + 0)) hr rfl Φ.g_first_positions Φ.F_first_positions.kp Φ.b_first_positions tk (dargs_cons (de_var (pv 0)) (dargs_cons (de_var (pv 1)) dargs_nil)))) (da_of de_non) rfl)))
/-! _law_pick -/
theorem sc__law_pick : FnScope ["_law_tape", "_law_items"] ["_law_tape", "_law_items"] (defScope s__law_pick) := ⟨rfl, rfl, rfl, by decide +kernel, rfl, by decide +kernel, by decide +kernel⟩
theorem ok__law_pick (Φ : Fs K mg) (m : Nat) : FnOk P w K mg base (L2.CX P w) (m + 2) Φ.a__law_pick Φ.fd__law_pick ["_law_tape", "_law_items"] (spD ⟨K, mg⟩ false 2 den__law_pick) :=
  ok_fn2 (N := ["_law_tape", "_law_items"]) (c := c__law_pick) Φ.F__law_pick sc__law_pick rfl rfl fun b cdv A outer s H E hr tk hp =>
    (dss_one (ds_ret (de_ix (room1 hr) (da_var (pv 1)) (da_of (de_call (ok__law_draw Φ (m + 0)) hr rfl Φ.g__law_draw Φ.F__law_draw.kp Φ.b__law_draw tk (dargs_cons (de_var (pv 0)) (dargs_cons (de_fun calld_len rfl Φ.n_len rfl (dargsP_cons (da_var (pv 1)) dargsP_nil)) dargs_nil)))))))
/-! _law_alphabet -/
theorem sc__law_alphabet : FnScope ["_law_tape", "_law_letters", "_law_drawn", "_law_k"] ["_law_tape"] (defScope s__law_alphabet) := ⟨rfl, rfl, rfl, by decide +kernel, rfl, by decide +kernel, by decide +kernel⟩
theorem ok__law_alphabet (Φ : Fs K mg) (m : Nat) : FnOk P w K mg base (L2.CX P w) (m + 3) Φ.a__law_alphabet Φ.fd__law_alphabet ["_law_tape"] (spD ⟨K, mg⟩ false 1 den__law_alphabet_2) :=
  ok_fn2 (N := ["_law_tape", "_law_letters", "_law_drawn", "_law_k"]) (c := c__law_alphabet_2) Φ.F__law_alphabet sc__law_alphabet rfl rfl fun b cdv A outer s H E hr tk hp =>
    (dss_cons (ds_set sc__law_alphabet.nd rfl (by first | exact .inl rfl | exact .inr rfl) (de_str (l := [97, 98, 99, 100, 101, 102, 103, 104, 105, 106, 107, 108, 109, 110, 111, 112, 113, 114, 115, 116, 117, 118, 119, 120, 121, 122]) (by decide +kernel) (by decide +kernel)))
    (dss_cons (ds_setC (own := [("_law_k", 3)]) rfl sc__law_alphabet.nd rfl rfl (sw_true rfl rfl rfl (by decide +kernel)) (di_range1 rfl Φ.n_range (dargs_cons (de_bin opd_add (da_of de_int) (da_of (de_call (ok__law_draw Φ (m + 1)) hr rfl Φ.g__law_draw Φ.F__law_draw.kp Φ.b__law_draw tk (dargs_cons (de_var (pv 0)) (dargs_cons de_int dargs_nil))))) dargs_nil)) (blkOk_by (by kernel_rfl)) (fun _ _ _ _ _ _ => (dgc_name (gname sc__law_alphabet.nd 3) (by decide))) (fun _ _ _ _ _ _ => dts_nil) (fun _ _ _ _ _ _ => (de_ix (room1 hr) (da_var (pv 1)) (da_of (de_call (ok__law_draw Φ (m + 1)) hr rfl Φ.g__law_draw Φ.F__law_draw.kp Φ.b__law_draw (takes0 rfl) (dargs_cons (de_var (pv 0)) (dargs_cons de_int dargs_nil)))))))
    (dss_one (ds_ret (de_call (ok__law_pick Φ (m + 0)) hr rfl Φ.g__law_pick Φ.F__law_pick.kp Φ.b__law_pick tk (dargs_cons (de_var (pv 0)) (dargs_cons (de_own (do_bin opo_cat (da_of (de_own (do_lst (dargs_cons (de_str (l := [97, 98]) (by decide +kernel) (by decide +kernel)) (dargs_cons (de_str (l := [97, 98, 99]) (by decide +kernel) (by decide +kernel)) (dargs_cons (de_str (l := [97]) (by decide +kernel) (by decide +kernel)) (dargs_cons (de_str (l := [98, 120]) (by decide +kernel) (by decide +kernel)) (dargs_cons (de_str (l := [99, 109, 122]) (by decide +kernel) (by decide +kernel)) dargs_nil)))))))) (da_of (de_own (do_bin opo_rep (da_of (de_own (do_lst (dargs_cons (de_join (de_str (l := []) (by decide +kernel) (by decide +kernel)) (de_own (do_sortSet rfl rfl Φ.n_sorted rfl Φ.n_set (de_var (pv 2))))) dargs_nil)))) (da_of de_int)))))) dargs_nil)))))))
/-! _law_word -/
theorem sc__law_word : FnScope ["_law_tape", "_law_alphabet_here", "_law_longest", "_law_k"] ["_law_tape", "_law_alphabet_here", "_law_longest"] (defScope s__law_word) := ⟨rfl, rfl, rfl, by decide +kernel, rfl, by decide +kernel, by decide +kernel⟩
theorem ok__law_word (Φ : Fs K mg) (m : Nat) : FnOk P w K mg base (L2.CX P w) (m + 3) Φ.a__law_word Φ.fd__law_word ["_law_tape", "_law_alphabet_here", "_law_longest"] (spD ⟨K, mg⟩ false 3 den__law_word) :=
  ok_fn2 (N := ["_law_tape", "_law_alphabet_here", "_law_longest", "_law_k"]) (c := c__law_word) Φ.F__law_word sc__law_word rfl rfl fun b cdv A outer s H E hr tk hp =>
    (dss_one (ds_ret (de_join (de_str (l := []) (by decide +kernel) (by decide +kernel)) (de_own (do_comp (own := [("_law_k", 3)]) rfl sc__law_word.nd (di_range1 rfl Φ.n_range (dargs_cons (de_call (ok__law_draw Φ (m + 1)) hr rfl Φ.g__law_draw Φ.F__law_draw.kp Φ.b__law_draw tk (dargs_cons (de_var (pv 0)) (dargs_cons (de_bin opd_add (da_var (pv 2)) (da_of de_int)) dargs_nil))) dargs_nil)) (blkOk_by (by kernel_rfl)) (fun _ _ _ _ _ _ => (dgc_name (gname sc__law_word.nd 3) (by decide))) (fun _ _ _ _ _ _ => dts_nil) (fun _ _ _ _ _ _ => (de_call (ok__law_pick Φ (m + 0)) hr rfl Φ.g__law_pick Φ.F__law_pick.kp Φ.b__law_pick (takes0 rfl) (dargs_cons (de_var (pv 0)) (dargs_cons (de_var (pv 1)) dargs_nil)))))))))
/-! law -/
theorem sc_law : FnScope ["_law_script", "_law_tape", "_law_turn", "_law_alphabet_here", "_law_other", "_law_word_here", "_law_letter", "_law_place", "_law_due"] ["_law_script"] (defScope s_law) := ⟨rfl, rfl, rfl, by decide +kernel, rfl, by decide +kernel, by decide +kernel⟩
theorem ok_law (Φ : Fs K mg) (m : Nat) : FnOkG P w K mg base (L2.CX P w) (m + 4) Φ.a_law Φ.fd_law ["_law_script"] (spD ⟨K, mg⟩ false 1 den_law_k02) :=
  ok_fn2G (N := ["_law_script", "_law_tape", "_law_turn", "_law_alphabet_here", "_law_other", "_law_word_here", "_law_letter", "_law_place", "_law_due"]) (c := c_law_k02) Φ.F_law sc_law rfl rfl fun b cdv A outer s H E hgd hr tk hp =>
    (dss_cons (ds_setS sc_law.nd rfl (by first | exact .inl rfl | exact .inr rfl) (do_call (ok__law_begin Φ (m + 2)) hr rfl Φ.g__law_begin Φ.F__law_begin.kp Φ.b__law_begin tk (dargs_cons (de_var (pv 0)) dargs_nil)))
    (dss_cons (ds_for hp rfl (di_range1 rfl Φ.n_range (dargs_cons de_int dargs_nil)) (dg_name (gname sc_law.nd 2))
      (dss_wipe [2, 3, 4, 5, 7, 8] (dss_cons (ds_set sc_law.nd rfl (by first | exact .inl rfl | exact .inr rfl) (de_call (ok__law_alphabet Φ (m + 0)) hr rfl Φ.g__law_alphabet Φ.F__law_alphabet.kp Φ.b__law_alphabet tk (dargs_cons (de_var (pv 1)) dargs_nil)))
      (dss_cons (ds_set sc_law.nd rfl (by first | exact .inl rfl | exact .inr rfl) (de_call (ok__law_word Φ (m + 0)) hr rfl Φ.g__law_word Φ.F__law_word.kp Φ.b__law_word tk (dargs_cons (de_var (pv 1)) (dargs_cons (de_var (pv 3)) (dargs_cons (de_call (ok__law_pick Φ (m + 1)) hr rfl Φ.g__law_pick Φ.F__law_pick.kp Φ.b__law_pick tk (dargs_cons (de_var (pv 1)) (dargs_cons (de_own (do_lst (dargs_cons de_int (dargs_cons de_int (dargs_cons de_int (dargs_cons de_int dargs_nil)))))) dargs_nil))) dargs_nil)))))
      (dss_cons (ds_set sc_law.nd rfl (by first | exact .inl rfl | exact .inr rfl) (de_join (de_str (l := []) (by decide +kernel) (by decide +kernel)) (de_own (do_comp (own := [("_law_letter", 6)]) rfl sc_law.nd (di_seq (de_var (pv 4))) (blkOk_by (by kernel_rfl)) (fun _ _ _ _ _ _ => (dgc_name (gname sc_law.nd 6) (by decide))) (fun _ _ _ _ _ _ => (dts_one (dt_cmp opd_gt (da_of (de_call (ok__law_draw Φ (m + 2)) hr rfl Φ.g__law_draw Φ.F__law_draw.kp Φ.b__law_draw (takes0 rfl) (dargs_cons (de_var (pv 1)) (dargs_cons de_int dargs_nil)))) (da_of de_int) rfl))) (fun _ _ _ _ _ _ => (de_var (pv 6)))))))
      (dss_cons (ds_if (dt_cmp (opd_eq (room64 hr)) (da_of (de_call (ok__law_draw Φ (m + 2)) hr rfl Φ.g__law_draw Φ.F__law_draw.kp Φ.b__law_draw tk (dargs_cons (de_var (pv 1)) (dargs_cons de_int dargs_nil)))) (da_of de_int) rfl)
        (dss_cons (ds_set sc_law.nd rfl (by first | exact .inl rfl | exact .inr rfl) (de_call (ok__law_draw Φ (m + 2)) hr rfl Φ.g__law_draw Φ.F__law_draw.kp Φ.b__law_draw tk (dargs_cons (de_var (pv 1)) (dargs_cons (de_bin opd_add (da_of (de_fun calld_len rfl Φ.n_len rfl (dargsP_cons (da_var (pv 5)) dargsP_nil))) (da_of de_int)) dargs_nil))))
        (dss_one (ds_set sc_law.nd rfl (by first | exact .inl rfl | exact .inr rfl) (de_bin opd_add (da_of (de_bin opd_add (da_of (de_sl (da_var (pv 5)) dpo_none (dpo_some (de_var (pv 7))))) (da_of (de_call (ok__law_pick Φ (m + 1)) hr rfl Φ.g__law_pick Φ.F__law_pick.kp Φ.b__law_pick tk (dargs_cons (de_var (pv 1)) (dargs_cons (de_var (pv 3)) dargs_nil)))))) (da_of (de_sl (da_var (pv 5)) (dpo_some (de_bin opd_add (da_var (pv 7)) (da_of (de_call (ok__law_draw Φ (m + 2)) hr rfl Φ.g__law_draw Φ.F__law_draw.kp Φ.b__law_draw tk (dargs_cons (de_var (pv 1)) (dargs_cons de_int dargs_nil)))))) dpo_none))))))
        dss_nil)
      (dss_cons (ds_set sc_law.nd rfl (by first | exact .inl rfl | exact .inr rfl) (de_call (ok__law_pick Φ (m + 1)) hr rfl Φ.g__law_pick Φ.F__law_pick.kp Φ.b__law_pick tk (dargs_cons (de_var (pv 1)) (dargs_cons (de_own (do_lst (dargs_cons (de_var (pv 5)) (dargs_cons (de_var (pv 5)) (dargs_cons (de_var (pv 5)) (dargs_cons (de_var (pv 4)) (dargs_cons (de_str (l := []) (by decide +kernel) (by decide +kernel)) (dargs_cons (de_call (ok__law_word Φ (m + 0)) hr rfl Φ.g__law_word Φ.F__law_word.kp Φ.b__law_word tk (dargs_cons (de_var (pv 1)) (dargs_cons (de_var (pv 3)) (dargs_cons de_int dargs_nil)))) dargs_nil)))))))) dargs_nil))))
      (dss_cons (ds_set sc_law.nd rfl (by first | exact .inl rfl | exact .inr rfl) (de_call (ok__law_places Φ (m + 2)) hr rfl Φ.g__law_places Φ.F__law_places.kp Φ.b__law_places tk (dargs_cons (de_var (pv 5)) (dargs_cons (de_var (pv 4)) dargs_nil))))
      (dss_cons (ds_if (dt_w (dw_or (dt_not (dt_tru (da_of (de_call (ok__law_same Φ (m + 2)) hr rfl Φ.g__law_same Φ.F__law_same.kp Φ.b__law_same tk (dargs_cons (de_call (ok_is_subword Φ (m + 1)) hr rfl Φ.g_is_subword Φ.F_is_subword.kp Φ.b_is_subword tk (dargs_cons (de_var (pv 5)) (dargs_cons (de_var (pv 4)) dargs_nil))) (dargs_cons (de_cmp opd_isNot (da_var (pv 8)) (da_of de_non) rfl) dargs_nil)))))) (dw_or1 (dt_cmp (opd_ne (room64 hr)) (da_of (de_fun (calld_reprG hgd hr) rfl Φ.n_repr rfl (dargsP_cons (da_of (de_call (ok_first_positions Φ (m + 2)) hr rfl Φ.g_first_positions Φ.F_first_positions.kp Φ.b_first_positions tk (dargs_cons (de_var (pv 5)) (dargs_cons (de_var (pv 4)) dargs_nil)))) dargsP_nil))) (da_of (de_fun (calld_reprG hgd hr) rfl Φ.n_repr rfl (dargsP_cons (da_var (pv 8)) dargsP_nil))) rfl))))
        (dss_one (ds_ret de_bl))
        dss_nil)
      (dss_cons (ds_if (dt_w (dw_and (dt_cmp opd_lt (da_of (de_fun calld_len rfl Φ.n_len rfl (dargsP_cons (da_var (pv 4)) dargsP_nil))) (da_of de_int) rfl) (dw_and1 (dt_cmp (opd_ne (room64 hr)) (da_of (de_call (ok_is_subword Φ (m + 1)) hr rfl Φ.g_is_subword Φ.F_is_subword.kp Φ.b_is_subword tk (dargs_cons (de_var (pv 5)) (dargs_cons (de_var (pv 4)) dargs_nil)))) (da_of (de_cmp (opd_in (room65 hr)) (da_var (pv 5)) (da_of (de_call (ok__law_all_subwords Φ (m + 2)) hr rfl Φ.g__law_all_subwords Φ.F__law_all_subwords.kp Φ.b__law_all_subwords tk (dargs_cons (de_var (pv 4)) dargs_nil))) rfl)) rfl))))
        (dss_one (ds_ret de_bl))
        dss_nil)
      (dss_one (ds_if (dt_cmp (opd_ne (room64 hr)) (da_of (de_call (ok_is_subword Φ (m + 1)) hr rfl Φ.g_is_subword Φ.F_is_subword.kp Φ.b_is_subword tk (dargs_cons (de_var (pv 5)) (dargs_cons (de_var (pv 4)) dargs_nil)))) (da_of (de_call (ok__law_is_subword Φ (m + 2)) hr rfl Φ.g__law_is_subword Φ.F__law_is_subword.kp Φ.b__law_is_subword tk (dargs_cons (de_var (pv 5)) (dargs_cons (de_var (pv 4)) dargs_nil)))) rfl)
        (dss_one (ds_ret de_bl))
        dss_nil))))))))))))
    (dss_one (ds_ret de_bl))))
end
/-! the head -/
def d_first_positions : He.DefD := ⟨("first_positions", none), "first_positions", "first_positions", defArgs s_first_positions, defBody s_first_positions, defScope s_first_positions, [], []⟩
def d_is_subword : He.DefD := ⟨("is_subword", none), "is_subword", "is_subword", defArgs s_is_subword, defBody s_is_subword, defScope s_is_subword, [], []⟩
def d__law_begin : He.DefD := ⟨("_law_begin", none), "_law_begin", "_law_begin", defArgs s__law_begin, defBody s__law_begin, defScope s__law_begin, [], []⟩
def d__law_draw : He.DefD := ⟨("_law_draw", none), "_law_draw", "_law_draw", defArgs s__law_draw, defBody s__law_draw, defScope s__law_draw, [], []⟩
def d__law_pick : He.DefD := ⟨("_law_pick", none), "_law_pick", "_law_pick", defArgs s__law_pick, defBody s__law_pick, defScope s__law_pick, [], []⟩
def d__law_alphabet : He.DefD := ⟨("_law_alphabet", none), "_law_alphabet", "_law_alphabet", defArgs s__law_alphabet, defBody s__law_alphabet, defScope s__law_alphabet, [], []⟩
def d__law_word : He.DefD := ⟨("_law_word", none), "_law_word", "_law_word", defArgs s__law_word, defBody s__law_word, defScope s__law_word, [], []⟩
def d__law_is_subword : He.DefD := ⟨("_law_is_subword", none), "_law_is_subword", "_law_is_subword", defArgs s__law_is_subword, defBody s__law_is_subword, defScope s__law_is_subword, [], []⟩
def d__law_same : He.DefD := ⟨("_law_same", none), "_law_same", "_law_same", defArgs s__law_same, defBody s__law_same, defScope s__law_same, [], []⟩
def d__law_all_subwords : He.DefD := ⟨("_law_all_subwords", none), "_law_all_subwords", "_law_all_subwords", defArgs s__law_all_subwords, defBody s__law_all_subwords, defScope s__law_all_subwords, [], []⟩
def d__law_places : He.DefD := ⟨("_law_places", none), "_law_places", "_law_places", defArgs s__law_places, defBody s__law_places, defScope s__law_places, [], []⟩
def d_law : He.DefD := ⟨("law", none), "law", "law", defArgs s_law, defBody s_law, defScope s_law, [], []⟩
def fn : List He.DefD := [d_first_positions, d_is_subword, d__law_begin, d__law_draw, d__law_pick, d__law_alphabet, d__law_word, d__law_is_subword, d__law_same, d__law_all_subwords, d__law_places, d_law]
def fa : List He.Fa := [.glo "first_positions", .glo "is_subword", .glo "_law_begin", .glo "_law_draw", .glo "_law_pick", .glo "_law_alphabet", .glo "_law_word", .glo "_law_is_subword", .glo "_law_same", .glo "_law_all_subwords", .glo "_law_places", .glo "law", .free "enumerate", .free "len", .free "range", .free "repr", .free "set", .free "sorted", .free "tuple"]
abbrev R : PySem.W.OpenRow := PySem.W.OpenLaw.row PySem.Challenge.rw_downwords_k02_subwords_and_positions
abbrev hk : PySem.W.Hook := He.hookD 4 fa fn
def ob (s : PySem.W.SharedT) : He.AlD := He.obsDG 4 fa fn (HandSHeadRun.getT s)
theorem ob_eq (s : PySem.W.SharedT) : ob s = hk.obs s.abs := He.obsDG_eq (HandSHeadRun.getT_eq s)
def loose : List Str := ["first_positions", "is_subword", "_law_begin", "_law_draw", "_law_pick", "_law_alphabet", "_law_word", "_law_is_subword", "_law_same", "_law_all_subwords", "_law_places"]
theorem run (w : World) : HandSHeadRun.RunEq R (PySem.W.view R.prog [13]) hk ob 2000 loose w := by
  intro os
  kernel_rfl
theorem facts {K : PySem.W.Frag} {h : Heap} {mg : Str → Option Value} (X : K.In h) (G : h.Ns mainGlobals mg) (c : He.SaysD fa fn K) : Nonempty (Fs K mg) := by
  obtain ⟨fd_first_positions, F_first_positions⟩ := c.def_ 0 (d := d_first_positions) rfl
  obtain ⟨fd_is_subword, F_is_subword⟩ := c.def_ 1 (d := d_is_subword) rfl
  obtain ⟨fd__law_begin, F__law_begin⟩ := c.def_ 2 (d := d__law_begin) rfl
  obtain ⟨fd__law_draw, F__law_draw⟩ := c.def_ 3 (d := d__law_draw) rfl
  obtain ⟨fd__law_pick, F__law_pick⟩ := c.def_ 4 (d := d__law_pick) rfl
  obtain ⟨fd__law_alphabet, F__law_alphabet⟩ := c.def_ 5 (d := d__law_alphabet) rfl
  obtain ⟨fd__law_word, F__law_word⟩ := c.def_ 6 (d := d__law_word) rfl
  obtain ⟨fd__law_is_subword, F__law_is_subword⟩ := c.def_ 7 (d := d__law_is_subword) rfl
  obtain ⟨fd__law_same, F__law_same⟩ := c.def_ 8 (d := d__law_same) rfl
  obtain ⟨fd__law_all_subwords, F__law_all_subwords⟩ := c.def_ 9 (d := d__law_all_subwords) rfl
  obtain ⟨fd__law_places, F__law_places⟩ := c.def_ 10 (d := d__law_places) rfl
  obtain ⟨fd_law, F_law⟩ := c.def_ 11 (d := d_law) rfl
  exact ⟨{
    a_first_positions := _, fd_first_positions := fd_first_positions, F_first_positions := F_first_positions, b_first_positions := F_first_positions.bindsN fun _ _ _ _ _ _ us hl => match us, hl with | [_, _], _ => rfl,
    g_first_positions := He.glo_ok X G (c.fact 0 (f := .glo "first_positions") rfl),
    a_is_subword := _, fd_is_subword := fd_is_subword, F_is_subword := F_is_subword, b_is_subword := F_is_subword.bindsN fun _ _ _ _ _ _ us hl => match us, hl with | [_, _], _ => rfl,
    g_is_subword := He.glo_ok X G (c.fact 1 (f := .glo "is_subword") rfl),
    a__law_begin := _, fd__law_begin := fd__law_begin, F__law_begin := F__law_begin, b__law_begin := F__law_begin.bindsN fun _ _ _ _ _ _ us hl => match us, hl with | [_], _ => rfl,
    g__law_begin := He.glo_ok X G (c.fact 2 (f := .glo "_law_begin") rfl),
    a__law_draw := _, fd__law_draw := fd__law_draw, F__law_draw := F__law_draw, b__law_draw := F__law_draw.bindsN fun _ _ _ _ _ _ us hl => match us, hl with | [_, _], _ => rfl,
    g__law_draw := He.glo_ok X G (c.fact 3 (f := .glo "_law_draw") rfl),
    a__law_pick := _, fd__law_pick := fd__law_pick, F__law_pick := F__law_pick, b__law_pick := F__law_pick.bindsN fun _ _ _ _ _ _ us hl => match us, hl with | [_, _], _ => rfl,
    g__law_pick := He.glo_ok X G (c.fact 4 (f := .glo "_law_pick") rfl),
    a__law_alphabet := _, fd__law_alphabet := fd__law_alphabet, F__law_alphabet := F__law_alphabet, b__law_alphabet := F__law_alphabet.bindsN fun _ _ _ _ _ _ us hl => match us, hl with | [_], _ => rfl,
    g__law_alphabet := He.glo_ok X G (c.fact 5 (f := .glo "_law_alphabet") rfl),
    a__law_word := _, fd__law_word := fd__law_word, F__law_word := F__law_word, b__law_word := F__law_word.bindsN fun _ _ _ _ _ _ us hl => match us, hl with | [_, _, _], _ => rfl,
    g__law_word := He.glo_ok X G (c.fact 6 (f := .glo "_law_word") rfl),
    a__law_is_subword := _, fd__law_is_subword := fd__law_is_subword, F__law_is_subword := F__law_is_subword, b__law_is_subword := F__law_is_subword.bindsN fun _ _ _ _ _ _ us hl => match us, hl with | [_, _], _ => rfl,
    g__law_is_subword := He.glo_ok X G (c.fact 7 (f := .glo "_law_is_subword") rfl),
    a__law_same := _, fd__law_same := fd__law_same, F__law_same := F__law_same, b__law_same := F__law_same.bindsN fun _ _ _ _ _ _ us hl => match us, hl with | [_, _], _ => rfl,
    g__law_same := He.glo_ok X G (c.fact 8 (f := .glo "_law_same") rfl),
    a__law_all_subwords := _, fd__law_all_subwords := fd__law_all_subwords, F__law_all_subwords := F__law_all_subwords, b__law_all_subwords := F__law_all_subwords.bindsN fun _ _ _ _ _ _ us hl => match us, hl with | [_], _ => rfl,
    g__law_all_subwords := He.glo_ok X G (c.fact 9 (f := .glo "_law_all_subwords") rfl),
    a__law_places := _, fd__law_places := fd__law_places, F__law_places := F__law_places, b__law_places := F__law_places.bindsN fun _ _ _ _ _ _ us hl => match us, hl with | [_, _], _ => rfl,
    g__law_places := He.glo_ok X G (c.fact 10 (f := .glo "_law_places") rfl),
    a_law := _, fd_law := fd_law, F_law := F_law, b_law := F_law.bindsN fun _ _ _ _ _ _ us hl => match us, hl with | [_], _ => rfl,
    g_law := He.glo_ok X G (c.fact 11 (f := .glo "law") rfl),
    n_enumerate := He.free_ok X G (c.fact 12 (f := .free "enumerate") rfl),
    n_len := He.free_ok X G (c.fact 13 (f := .free "len") rfl),
    n_range := He.free_ok X G (c.fact 14 (f := .free "range") rfl),
    n_repr := He.free_ok X G (c.fact 15 (f := .free "repr") rfl),
    n_set := He.free_ok X G (c.fact 16 (f := .free "set") rfl),
    n_sorted := He.free_ok X G (c.fact 17 (f := .free "sorted") rfl),
    n_tuple := He.free_ok X G (c.fact 18 (f := .free "tuple") rfl) }⟩

open PySem.W PySem.Calls
theorem holds_of (hD : lawIs den_law_k02) : PySem.Challenge.rw_downwords_k02_subwords_and_positions.Holds := by
  w_on; o_law
  refine HandSHeadRun.head_any (r := OpenLaw.row PySem.Challenge.rw_downwords_k02_subwords_and_positions) (q := view (OpenLaw.row PySem.Challenge.rw_downwords_k02_subwords_and_positions).prog [13]) (H := hk) (ob := ob) (M := 2000) (loose := loose) (d := HandSHeadRun.topDef (OpenLaw.row PySem.Challenge.rw_downwords_k02_subwords_and_positions).prog 13) (kwd := []) ob_eq
    (by kernel_rfl) (fun s => by kernel_rfl) run (by kernel_rfl) (by kernel_rfl) (by kernel_rfl) (by rfl) (by first | assumption | decide +kernel) (by decide +kernel) ⟨rfl, rfl, rfl, rfl, rfl, by decide +kernel⟩ ?hw ?hc
  case hw => w_witness2
  case hc =>
    refine walk_dlG (l := PySem.Challenge.rw_downwords_k02_subwords_and_positions) (k := 4) (x := "_law_script") rfl (by kernel_rfl) ⟨rfl, by decide, by decide⟩ ?F hD
    intro w mg fa h Y G hmg0
    obtain ⟨K, KX, c⟩ := Y
    obtain ⟨Φ⟩ := facts KX G c
    have hmg : mg ("law" : PySem.Str) = some (.ref fa) := by
      have e : (HandSHeadRun.topDef (OpenLaw.row PySem.Challenge.rw_downwords_k02_subwords_and_positions).prog 13).name = ("law" : PySem.Str) := by kernel_rfl
      rw [← e]
      exact hmg0
    have e := hmg.symm.trans Φ.g_law
    cases e
    obtain ⟨F⟩ : Nonempty (FnP K "law" s_law Φ.a_law Φ.fd_law) := ⟨Φ.F_law⟩
    have b := FunD.bindsA (ps := ["_law_script"]) F fun _ _ _ _ _ _ us hl => match us, hl with | [_], _ => rfl
    exact ⟨K, Φ.fd_law, KX, fun s v => b s [v] rfl, fun base _ _ => ok_law Φ 0⟩
end K02
/-! DMe: equations of the layer's operations at plain values. -/
namespace DM
open PySem PySem.Spec PyProof.Rows L2 DL
theorem eqD_ss (x y : List Nat) : eqD (.str x) (.str y) = some (.bl (x == y)) := by simp [eqD, eqOk, D.eq, D.pl, D.dep]
theorem eqD_ii (x y : Int) : eqD (.int x) (.int y) = some (.bl (x == y)) := by simp [eqD, eqOk, D.eq, D.pl, D.dep]
theorem eqD_bb (x y : Bool) : eqD (.bl x) (.bl y) = some (.bl (x == y)) := by simp [eqD, eqOk, D.eq, D.pl, D.dep]
theorem neD_ss (x y : List Nat) : neD (.str x) (.str y) = some (.bl (!(x == y))) := by simp [neD, eqOk, D.eq, D.pl, D.dep]
theorem neD_ii (x y : Int) : neD (.int x) (.int y) = some (.bl (!(x == y))) := by simp [neD, eqOk, D.eq, D.pl, D.dep]
theorem neD_bb (x y : Bool) : neD (.bl x) (.bl y) = some (.bl (!(x == y))) := by simp [neD, eqOk, D.eq, D.pl, D.dep]
theorem inD_s (c : Nat) (y : List Nat) : inD (.str [c]) (.str y) = some (.bl (decide (c ∈ y))) := rfl
theorem isD_n (d : D) : isD .non .non = some (.bl true) := rfl
theorem isD_t (p : List D) : isD (.tup p) .non = some (.bl false) := rfl
theorem isD_b (a c : Bool) : isD (.bl a) (.bl c) = some (.bl (decide (a = c))) := rfl
end DM
/-! DMl: what the shared defs answer. -/
namespace DM
open PySem PySem.Spec PyProof.Rows L2 DL
def tapeD (cells : List Int) (p l : Int) : D := .dct .K [(.str [99, 101, 108, 108, 115], .lst (cells.map .int)), (.str [112, 108, 97, 99, 101], .int p), (.str [108, 101, 102, 116], .int l)]
theorem atI_nn {α : Type} {xs : List α} {i : Int} (h0 : 0 ≤ i) (h1 : i < xs.length) : ∃ j : Nat, i = j ∧ ∃ hj : j < xs.length, L2.atI xs i = some xs[j] := by
  refine ⟨i.toNat, by omega, by omega, ?_⟩
  unfold L2.atI L2.ixN
  rw [if_pos h0, if_pos h1]
  simp
theorem draw_ok {cells : List Int} {p l many : Int} {S : List D} (hc : cells ≠ []) (hp : 0 ≤ p) (hp2 : p < 1099511627776) (hm : 0 < many) (hm2 : many < 18446744073709551616) :
    ∃ r p' l', den__law_draw [.obj 0, .int many] (tapeD cells p l :: S) = .ok (.int r) (tapeD cells p' l' :: S) ∧ 0 ≤ r ∧ r < many ∧ p ≤ p' ∧ p' ≤ p + 1 := by
  by_cases h : l < many
  · have hl : (0 : Int) < cells.length := by
      cases cells with
      | nil => exact absurd rfl hc
      | cons _ _ => simp
    obtain ⟨c, hcell⟩ : ∃ c, atI (cells.map D.int) (p % (cells.length : Int)) = some (.int c) := by
      obtain ⟨j, _, hj, e⟩ := atI_nn (xs := cells.map D.int) (Int.emod_nonneg p (show (cells.length : Int) ≠ 0 by omega)) (by rw [List.length_map]; exact Int.emod_lt_of_pos p hl)
      exact ⟨cells[j]'(by simpa using hj), by rw [e]; simp⟩
    have hlN : 0 < cells.length := by omega
    have h1 := Int.emod_nonneg c (show (2147483647 : Int) ≠ 0 by decide)
    have h2 := Int.emod_lt_of_pos c (show (0 : Int) < 2147483647 by decide)
    have hb : (c % 2147483647 + 69621 * p + 48271).natAbs < 18446744073709551616 := by omega
    have hb1 : (69621 * p).natAbs < 18446744073709551616 := by omega
    have fin : ∀ L : Int, 0 ≤ L % many ∧ L % many < many ∧ p ≤ p + 1 ∧ p + 1 ≤ p + 1 := fun L => ⟨Int.emod_nonneg _ (by omega), Int.emod_lt_of_pos _ hm, by omega, by omega⟩
    by_cases ha : 1000000000000000000 ≤ c
    · by_cases hq : p < cells.length
      · refine ⟨(c - 1000000000000000000) % many, p + 1, (c - 1000000000000000000) / many, ?_, fin _⟩
        simp [den__law_draw, c__law_draw, fnD, tapeD, DL.Ou.bind, DL.aV, DL.aE, DL.eC, DL.eVar, DL.slR, DL.eBin, DL.eUn, DL.rd2, DL.rd, DL.rd0, DL.deref, DL.slD, DL.ofO, DL.eArgs, DL.eArgsP, DL.eTup, DL.eLst, DL.rdL, DL.eFun, DL.eIf, DL.eNt, DL.eAnd, DL.eOrr, DL.tTru, DL.tBool, DL.tNt, DL.tAn, DL.tOrr, DL.truD, DL.sNil, DL.sSeq, DL.ouF, DL.sIf, DL.sRet, DL.sRetN, DL.sEx, DL.sAsg, DL.tgN, DL.nxO, DL.sSetO, DL.sSetS, DL.sWipe, DL.wipeS, DL.tgTs, DL.tgT, DL.sPar, DL.sParO, DL.sRetV, DL.tgSub, DL.wrAt, DL.setAtD, DL.lenD, DL.ixD, DL.ltD, DL.leD, DL.gtD, DL.geD, DL.addD, DL.subD, DL.mulD, DL.modD, DL.fdivD, DL.powD, DL.negD, DL.isNotD, DL.notD, DL.notInD, DL.lookD, DL.putD, DL.sameKey, DL.keyEq, DL.goodKey, DL.keyOf, DL.keysOf, DL.mergeD, DL.allKeys, DL.dispOk, DL.ePairs, DL.eDisp, DL.eCall, DL.foE, DL.retO, DL.listD, DL.tupD, DL.joinD, DL.seqD, DL.strsOf, DL.isStr, DL.eJoin, DL.eSl, DL.ePart, DL.cutD, DL.sBk, DL.sCt, DL.turnF, DL.forL, DL.compL, DL.eComp, DL.tYs, DL.itemsD, DL.iSeq, DL.iRange1, DL.iRange2, DL.iEnumD, DL.sFor, DL.sMutL, DL.isL, DL.appD, DL.extD, DL.repD, DL.catD, DL.szOk, DL.smallI, DL.mulOk, DM.eqD_ss, DM.eqD_ii, DM.eqD_bb, DM.neD_ss, DM.neD_ii, DM.neD_bb, DM.inD_s, DM.isD_n, DM.isD_t, DM.isD_b, sizeLine_eq, h, hm, hm2, hl, hlN, hcell, hb, ha, hq]
      · refine ⟨((c % 2147483647 + 69621 * p + 48271) ^ 17 % 100000000000000000000000000000000000000000000000151) % many, p + 1, ((c % 2147483647 + 69621 * p + 48271) ^ 17 % 100000000000000000000000000000000000000000000000151) / many, ?_, fin _⟩
        simp [den__law_draw, c__law_draw, fnD, tapeD, DL.Ou.bind, DL.aV, DL.aE, DL.eC, DL.eVar, DL.slR, DL.eBin, DL.eUn, DL.rd2, DL.rd, DL.rd0, DL.deref, DL.slD, DL.ofO, DL.eArgs, DL.eArgsP, DL.eTup, DL.eLst, DL.rdL, DL.eFun, DL.eIf, DL.eNt, DL.eAnd, DL.eOrr, DL.tTru, DL.tBool, DL.tNt, DL.tAn, DL.tOrr, DL.truD, DL.sNil, DL.sSeq, DL.ouF, DL.sIf, DL.sRet, DL.sRetN, DL.sEx, DL.sAsg, DL.tgN, DL.nxO, DL.sSetO, DL.sSetS, DL.sWipe, DL.wipeS, DL.tgTs, DL.tgT, DL.sPar, DL.sParO, DL.sRetV, DL.tgSub, DL.wrAt, DL.setAtD, DL.lenD, DL.ixD, DL.ltD, DL.leD, DL.gtD, DL.geD, DL.addD, DL.subD, DL.mulD, DL.modD, DL.fdivD, DL.powD, DL.negD, DL.isNotD, DL.notD, DL.notInD, DL.lookD, DL.putD, DL.sameKey, DL.keyEq, DL.goodKey, DL.keyOf, DL.keysOf, DL.mergeD, DL.allKeys, DL.dispOk, DL.ePairs, DL.eDisp, DL.eCall, DL.foE, DL.retO, DL.listD, DL.tupD, DL.joinD, DL.seqD, DL.strsOf, DL.isStr, DL.eJoin, DL.eSl, DL.ePart, DL.cutD, DL.sBk, DL.sCt, DL.turnF, DL.forL, DL.compL, DL.eComp, DL.tYs, DL.itemsD, DL.iSeq, DL.iRange1, DL.iRange2, DL.iEnumD, DL.sFor, DL.sMutL, DL.isL, DL.appD, DL.extD, DL.repD, DL.catD, DL.szOk, DL.smallI, DL.mulOk, DM.eqD_ss, DM.eqD_ii, DM.eqD_bb, DM.neD_ss, DM.neD_ii, DM.neD_bb, DM.inD_s, DM.isD_n, DM.isD_t, DM.isD_b, sizeLine_eq, h, hm, hm2, hl, hlN, hcell, hb, ha, hq]
    · refine ⟨((c % 2147483647 + 69621 * p + 48271) ^ 17 % 100000000000000000000000000000000000000000000000151) % many, p + 1, ((c % 2147483647 + 69621 * p + 48271) ^ 17 % 100000000000000000000000000000000000000000000000151) / many, ?_, fin _⟩
      simp [den__law_draw, c__law_draw, fnD, tapeD, DL.Ou.bind, DL.aV, DL.aE, DL.eC, DL.eVar, DL.slR, DL.eBin, DL.eUn, DL.rd2, DL.rd, DL.rd0, DL.deref, DL.slD, DL.ofO, DL.eArgs, DL.eArgsP, DL.eTup, DL.eLst, DL.rdL, DL.eFun, DL.eIf, DL.eNt, DL.eAnd, DL.eOrr, DL.tTru, DL.tBool, DL.tNt, DL.tAn, DL.tOrr, DL.truD, DL.sNil, DL.sSeq, DL.ouF, DL.sIf, DL.sRet, DL.sRetN, DL.sEx, DL.sAsg, DL.tgN, DL.nxO, DL.sSetO, DL.sSetS, DL.sWipe, DL.wipeS, DL.tgTs, DL.tgT, DL.sPar, DL.sParO, DL.sRetV, DL.tgSub, DL.wrAt, DL.setAtD, DL.lenD, DL.ixD, DL.ltD, DL.leD, DL.gtD, DL.geD, DL.addD, DL.subD, DL.mulD, DL.modD, DL.fdivD, DL.powD, DL.negD, DL.isNotD, DL.notD, DL.notInD, DL.lookD, DL.putD, DL.sameKey, DL.keyEq, DL.goodKey, DL.keyOf, DL.keysOf, DL.mergeD, DL.allKeys, DL.dispOk, DL.ePairs, DL.eDisp, DL.eCall, DL.foE, DL.retO, DL.listD, DL.tupD, DL.joinD, DL.seqD, DL.strsOf, DL.isStr, DL.eJoin, DL.eSl, DL.ePart, DL.cutD, DL.sBk, DL.sCt, DL.turnF, DL.forL, DL.compL, DL.eComp, DL.tYs, DL.itemsD, DL.iSeq, DL.iRange1, DL.iRange2, DL.iEnumD, DL.sFor, DL.sMutL, DL.isL, DL.appD, DL.extD, DL.repD, DL.catD, DL.szOk, DL.smallI, DL.mulOk, DM.eqD_ss, DM.eqD_ii, DM.eqD_bb, DM.neD_ss, DM.neD_ii, DM.neD_bb, DM.inD_s, DM.isD_n, DM.isD_t, DM.isD_b, sizeLine_eq, h, hm, hm2, hl, hlN, hcell, hb, ha]
  · refine ⟨l % many, p, l / many, ?_, Int.emod_nonneg _ (by omega), Int.emod_lt_of_pos _ hm, by omega, by omega⟩
    simp [den__law_draw, c__law_draw, fnD, tapeD, DL.Ou.bind, DL.aV, DL.aE, DL.eC, DL.eVar, DL.slR, DL.eBin, DL.eUn, DL.rd2, DL.rd, DL.rd0, DL.deref, DL.slD, DL.ofO, DL.eArgs, DL.eArgsP, DL.eTup, DL.eLst, DL.rdL, DL.eFun, DL.eIf, DL.eNt, DL.eAnd, DL.eOrr, DL.tTru, DL.tBool, DL.tNt, DL.tAn, DL.tOrr, DL.truD, DL.sNil, DL.sSeq, DL.ouF, DL.sIf, DL.sRet, DL.sRetN, DL.sEx, DL.sAsg, DL.tgN, DL.nxO, DL.sSetO, DL.sSetS, DL.sWipe, DL.wipeS, DL.tgTs, DL.tgT, DL.sPar, DL.sParO, DL.sRetV, DL.tgSub, DL.wrAt, DL.setAtD, DL.lenD, DL.ixD, DL.ltD, DL.leD, DL.gtD, DL.geD, DL.addD, DL.subD, DL.mulD, DL.modD, DL.fdivD, DL.powD, DL.negD, DL.isNotD, DL.notD, DL.notInD, DL.lookD, DL.putD, DL.sameKey, DL.keyEq, DL.goodKey, DL.keyOf, DL.keysOf, DL.mergeD, DL.allKeys, DL.dispOk, DL.ePairs, DL.eDisp, DL.eCall, DL.foE, DL.retO, DL.listD, DL.tupD, DL.joinD, DL.seqD, DL.strsOf, DL.isStr, DL.eJoin, DL.eSl, DL.ePart, DL.cutD, DL.sBk, DL.sCt, DL.turnF, DL.forL, DL.compL, DL.eComp, DL.tYs, DL.itemsD, DL.iSeq, DL.iRange1, DL.iRange2, DL.iEnumD, DL.sFor, DL.sMutL, DL.isL, DL.appD, DL.extD, DL.repD, DL.catD, DL.szOk, DL.smallI, DL.mulOk, DM.eqD_ss, DM.eqD_ii, DM.eqD_bb, DM.neD_ss, DM.neD_ii, DM.neD_bb, DM.inD_s, DM.isD_n, DM.isD_t, DM.isD_b, sizeLine_eq, h, hm, hm2]
/-- the tape -/
def Tp (n : Nat) (T : D) : Prop := ∃ (cells : List Int) (p l : Int), T = tapeD cells p l ∧ cells ≠ [] ∧ 0 ≤ p ∧ p ≤ n
theorem Tp.up {n m : Nat} {T : D} (h : Tp n T) (k : n ≤ m) : Tp m T := by
  obtain ⟨c, p, l, e, h1, h2, h3⟩ := h
  exact ⟨c, p, l, e, h1, h2, by omega⟩
theorem draw {n : Nat} {T : D} {S : List D} {many : Int} (h : Tp n T) (hn : n < 1099511627776) (hm : 0 < many) (hm2 : many < 18446744073709551616) : ∃ r T', den__law_draw [.obj 0, .int many] (T :: S) = .ok (.int r) (T' :: S) ∧ 0 ≤ r ∧ r < many ∧ Tp (n + 1) T' := by
  obtain ⟨c, p, l, rfl, h1, h2, h3⟩ := h
  obtain ⟨r, p', l', e, r1, r2, r3, r4⟩ := draw_ok (S := S) (l := l) h1 h2 (by omega) hm hm2
  exact ⟨r, _, e, r1, r2, ⟨c, p', l', rfl, h1, by omega, by omega⟩⟩
theorem begin_ok {ns : List Int} : ∃ (cells : List Int), den__law_begin [.fro (ns.map .int)] [] = .ok (tapeD cells 0 0) [] ∧ cells ≠ [] := by
  have e : ∀ xs : List Int, cutL (xs.map D.int) none (some 63) = (cutL xs none (some 63)).map D.int := fun xs => by
    simp [cutL, List.map_take, List.map_drop]
  by_cases h : cutL ns none (some 63) = []
  · refine ⟨[0], ?_, by simp⟩
    simp [den__law_begin, c__law_begin, fnD, tapeD, DL.Ou.bind, DL.aV, DL.aE, DL.eC, DL.eVar, DL.slR, DL.eBin, DL.eUn, DL.rd2, DL.rd, DL.rd0, DL.deref, DL.slD, DL.ofO, DL.eArgs, DL.eArgsP, DL.eTup, DL.eLst, DL.rdL, DL.eFun, DL.eIf, DL.eNt, DL.eAnd, DL.eOrr, DL.tTru, DL.tBool, DL.tNt, DL.tAn, DL.tOrr, DL.truD, DL.sNil, DL.sSeq, DL.ouF, DL.sIf, DL.sRet, DL.sRetN, DL.sEx, DL.sAsg, DL.tgN, DL.nxO, DL.sSetO, DL.sSetS, DL.sWipe, DL.wipeS, DL.tgTs, DL.tgT, DL.sPar, DL.sParO, DL.sRetV, DL.tgSub, DL.wrAt, DL.setAtD, DL.lenD, DL.ixD, DL.ltD, DL.leD, DL.gtD, DL.geD, DL.addD, DL.subD, DL.mulD, DL.modD, DL.fdivD, DL.powD, DL.negD, DL.isNotD, DL.notD, DL.notInD, DL.lookD, DL.putD, DL.sameKey, DL.keyEq, DL.goodKey, DL.keyOf, DL.keysOf, DL.mergeD, DL.allKeys, DL.dispOk, DL.ePairs, DL.eDisp, DL.eCall, DL.foE, DL.retO, DL.listD, DL.tupD, DL.joinD, DL.seqD, DL.strsOf, DL.isStr, DL.eJoin, DL.eSl, DL.ePart, DL.cutD, DL.sBk, DL.sCt, DL.turnF, DL.forL, DL.compL, DL.eComp, DL.tYs, DL.itemsD, DL.iSeq, DL.iRange1, DL.iRange2, DL.iEnumD, DL.sFor, DL.sMutL, DL.isL, DL.appD, DL.extD, DL.repD, DL.catD, DL.szOk, DL.smallI, DL.mulOk, DM.eqD_ss, DM.eqD_ii, DM.eqD_bb, DM.neD_ss, DM.neD_ii, DM.neD_bb, DM.inD_s, DM.isD_n, DM.isD_t, DM.isD_b, sizeLine_eq, e, h]
  · refine ⟨cutL ns none (some 63), ?_, h⟩
    have h2 : (cutL ns none (some 63)).isEmpty = false := by simpa using h
    simp [den__law_begin, c__law_begin, fnD, tapeD, DL.Ou.bind, DL.aV, DL.aE, DL.eC, DL.eVar, DL.slR, DL.eBin, DL.eUn, DL.rd2, DL.rd, DL.rd0, DL.deref, DL.slD, DL.ofO, DL.eArgs, DL.eArgsP, DL.eTup, DL.eLst, DL.rdL, DL.eFun, DL.eIf, DL.eNt, DL.eAnd, DL.eOrr, DL.tTru, DL.tBool, DL.tNt, DL.tAn, DL.tOrr, DL.truD, DL.sNil, DL.sSeq, DL.ouF, DL.sIf, DL.sRet, DL.sRetN, DL.sEx, DL.sAsg, DL.tgN, DL.nxO, DL.sSetO, DL.sSetS, DL.sWipe, DL.wipeS, DL.tgTs, DL.tgT, DL.sPar, DL.sParO, DL.sRetV, DL.tgSub, DL.wrAt, DL.setAtD, DL.lenD, DL.ixD, DL.ltD, DL.leD, DL.gtD, DL.geD, DL.addD, DL.subD, DL.mulD, DL.modD, DL.fdivD, DL.powD, DL.negD, DL.isNotD, DL.notD, DL.notInD, DL.lookD, DL.putD, DL.sameKey, DL.keyEq, DL.goodKey, DL.keyOf, DL.keysOf, DL.mergeD, DL.allKeys, DL.dispOk, DL.ePairs, DL.eDisp, DL.eCall, DL.foE, DL.retO, DL.listD, DL.tupD, DL.joinD, DL.seqD, DL.strsOf, DL.isStr, DL.eJoin, DL.eSl, DL.ePart, DL.cutD, DL.sBk, DL.sCt, DL.turnF, DL.forL, DL.compL, DL.eComp, DL.tYs, DL.itemsD, DL.iSeq, DL.iRange1, DL.iRange2, DL.iEnumD, DL.sFor, DL.sMutL, DL.isL, DL.appD, DL.extD, DL.repD, DL.catD, DL.szOk, DL.smallI, DL.mulOk, DM.eqD_ss, DM.eqD_ii, DM.eqD_bb, DM.neD_ss, DM.neD_ii, DM.neD_bb, DM.inD_s, DM.isD_n, DM.isD_t, DM.isD_b, sizeLine_eq, e, h2]
/-! picks -/
theorem pick_lst {n : Nat} {T : D} {S : List D} {xs : List D} (h : Tp n T) (hn : n < 1099511627776) (hx : xs ≠ []) (hl : xs.length < 18446744073709551616) : ∃ x T', den__law_pick [.obj 0, .lst xs] (T :: S) = .ok x (T' :: S) ∧ x ∈ xs ∧ Tp (n + 1) T' := by
  obtain ⟨r, T', e, r1, r2, t⟩ := draw (S := S) (many := xs.length) h hn (by cases xs with | nil => exact absurd rfl hx | cons _ _ => simp) (by omega)
  obtain ⟨j, ej, hj, ea⟩ := atI_nn (xs := xs) r1 r2
  refine ⟨xs[j], T', ?_, List.getElem_mem hj, t⟩
  simp [den__law_pick, c__law_pick, fnD, DL.Ou.bind, DL.aV, DL.aE, DL.eC, DL.eVar, DL.slR, DL.eBin, DL.eUn, DL.rd2, DL.rd, DL.rd0, DL.deref, DL.slD, DL.ofO, DL.eArgs, DL.eArgsP, DL.eTup, DL.eLst, DL.rdL, DL.eFun, DL.eIf, DL.eNt, DL.eAnd, DL.eOrr, DL.tTru, DL.tBool, DL.tNt, DL.tAn, DL.tOrr, DL.truD, DL.sNil, DL.sSeq, DL.ouF, DL.sIf, DL.sRet, DL.sRetN, DL.sEx, DL.sAsg, DL.tgN, DL.nxO, DL.sSetO, DL.sSetS, DL.sWipe, DL.wipeS, DL.tgTs, DL.tgT, DL.sPar, DL.sParO, DL.sRetV, DL.tgSub, DL.wrAt, DL.setAtD, DL.lenD, DL.ixD, DL.ltD, DL.leD, DL.gtD, DL.geD, DL.addD, DL.subD, DL.mulD, DL.modD, DL.fdivD, DL.powD, DL.negD, DL.isNotD, DL.notD, DL.notInD, DL.lookD, DL.putD, DL.sameKey, DL.keyEq, DL.goodKey, DL.keyOf, DL.keysOf, DL.mergeD, DL.allKeys, DL.dispOk, DL.ePairs, DL.eDisp, DL.eCall, DL.foE, DL.retO, DL.listD, DL.tupD, DL.joinD, DL.seqD, DL.strsOf, DL.isStr, DL.eJoin, DL.eSl, DL.ePart, DL.cutD, DL.sBk, DL.sCt, DL.turnF, DL.forL, DL.compL, DL.eComp, DL.tYs, DL.itemsD, DL.iSeq, DL.iRange1, DL.iRange2, DL.iEnumD, DL.sFor, DL.sMutL, DL.isL, DL.appD, DL.extD, DL.repD, DL.catD, DL.szOk, DL.smallI, DL.mulOk, DM.eqD_ss, DM.eqD_ii, DM.eqD_bb, DM.neD_ss, DM.neD_ii, DM.neD_bb, DM.inD_s, DM.isD_n, DM.isD_t, DM.isD_b, sizeLine_eq, e, ea]
theorem pick_str {n : Nat} {T : D} {S : List D} {xs : List Nat} (h : Tp n T) (hn : n < 1099511627776) (hx : xs ≠ []) (hl : xs.length ≤ 16777216) : ∃ x T', den__law_pick [.obj 0, .str xs] (T :: S) = .ok (.str [x]) (T' :: S) ∧ x ∈ xs ∧ Tp (n + 1) T' := by
  obtain ⟨r, T', e, r1, r2, t⟩ := draw (S := S) (many := xs.length) h hn (by cases xs with | nil => exact absurd rfl hx | cons _ _ => simp) (by omega)
  obtain ⟨j, ej, hj, ea⟩ := atI_nn (xs := xs) r1 r2
  refine ⟨xs[j], T', ?_, List.getElem_mem hj, t⟩
  simp [den__law_pick, c__law_pick, fnD, DL.Ou.bind, DL.aV, DL.aE, DL.eC, DL.eVar, DL.slR, DL.eBin, DL.eUn, DL.rd2, DL.rd, DL.rd0, DL.deref, DL.slD, DL.ofO, DL.eArgs, DL.eArgsP, DL.eTup, DL.eLst, DL.rdL, DL.eFun, DL.eIf, DL.eNt, DL.eAnd, DL.eOrr, DL.tTru, DL.tBool, DL.tNt, DL.tAn, DL.tOrr, DL.truD, DL.sNil, DL.sSeq, DL.ouF, DL.sIf, DL.sRet, DL.sRetN, DL.sEx, DL.sAsg, DL.tgN, DL.nxO, DL.sSetO, DL.sSetS, DL.sWipe, DL.wipeS, DL.tgTs, DL.tgT, DL.sPar, DL.sParO, DL.sRetV, DL.tgSub, DL.wrAt, DL.setAtD, DL.lenD, DL.ixD, DL.ltD, DL.leD, DL.gtD, DL.geD, DL.addD, DL.subD, DL.mulD, DL.modD, DL.fdivD, DL.powD, DL.negD, DL.isNotD, DL.notD, DL.notInD, DL.lookD, DL.putD, DL.sameKey, DL.keyEq, DL.goodKey, DL.keyOf, DL.keysOf, DL.mergeD, DL.allKeys, DL.dispOk, DL.ePairs, DL.eDisp, DL.eCall, DL.foE, DL.retO, DL.listD, DL.tupD, DL.joinD, DL.seqD, DL.strsOf, DL.isStr, DL.eJoin, DL.eSl, DL.ePart, DL.cutD, DL.sBk, DL.sCt, DL.turnF, DL.forL, DL.compL, DL.eComp, DL.tYs, DL.itemsD, DL.iSeq, DL.iRange1, DL.iRange2, DL.iEnumD, DL.sFor, DL.sMutL, DL.isL, DL.appD, DL.extD, DL.repD, DL.catD, DL.szOk, DL.smallI, DL.mulOk, DM.eqD_ss, DM.eqD_ii, DM.eqD_bb, DM.neD_ss, DM.neD_ii, DM.neD_bb, DM.inD_s, DM.isD_n, DM.isD_t, DM.isD_b, sizeLine_eq, e, ea, hl]
end DM
/-! DMi: induction over for loops and comprehensions; the shared defs of products. -/
namespace DM
noncomputable section
open PySem PySem.Spec PyProof.Rows L2 DL
def aft (P : Sts → Prop) (Post : Fl → Prop) : Fl → Prop
  | .nx s => P s
  | .ct s => P s
  | .bk s => Post (.nx s)
  | .rt d s => Post (.rt d s)
  | .xc e s => Post (.xc e s)
  | .bad => False
theorem for_ind (P : List D → Sts → Prop) (Post : Fl → Prop) {tg : Tg} {body : DL.C} (hend : ∀ st, P [] st → Post (.nx st)) (step : ∀ d ds st, P (d :: ds) st → ∃ s1, tg d st = some s1 ∧ aft (P ds) Post (body s1)) :
    ∀ (ds : List D) (st : Sts), P ds st → Post (forL tg body ds st)
  | [], st, h => hend st h
  | d :: ds, st, h => by
    obtain ⟨s1, e1, h2⟩ := step d ds st h
    unfold forL
    rw [e1]
    show Post (turnF (body s1) fun s' => forL tg body ds s')
    cases eb : body s1 with
    | nx s => rw [eb] at h2; exact for_ind P Post hend step ds s h2
    | ct s => rw [eb] at h2; exact for_ind P Post hend step ds s h2
    | bk s => rw [eb] at h2; exact h2
    | rt d s => rw [eb] at h2; exact h2
    | xc e s => rw [eb] at h2; exact h2
    | bad => rw [eb] at h2; exact h2.elim
theorem comp_ind (P : List D → List D → Sts → Prop) {tg : Tg} {tt : DL.T} {m : DL.E} {vs : List Nat}
    (step : ∀ d ds acc st, P (d :: ds) acc st → ∃ s1, tg d st = some s1 ∧ ((∃ s2, tt s1 = .ok false s2 ∧ P ds acc (wipeS vs s2)) ∨ ∃ s2 y s3, tt s1 = .ok true s2 ∧ m s2 = .ok y s3 ∧ acc.length < sizeLine ∧ P ds (acc ++ [y]) (wipeS vs s3))) :
    ∀ (ds acc : List D) (st : Sts), P ds acc st → ∃ acc' st', compL tg tt m vs ds acc st = .ok acc' st' ∧ P [] acc' st'
  | [], acc, st, h => ⟨acc, st, rfl, h⟩
  | d :: ds, acc, st, h => by
    obtain ⟨s1, e1, h2⟩ := step d ds acc st h
    unfold compL
    rw [e1]
    rcases h2 with ⟨s2, e2, h3⟩ | ⟨s2, y, s3, e2, e3, hz, h3⟩
    · simp only [e2]
      exact comp_ind P step ds acc _ h3
    · simp only [e2, e3, if_pos hz]
      exact comp_ind P step ds _ _ h3
/-! factors, products -/
abbrev Fac := Bool × List Nat
def facD : Fac → D
  | (true, l) => .tup [.str [115, 116, 97, 114], .str l]
  | (false, l) => .tup [.str [111, 112, 116], .str l]
def prodD (p : List Fac) : D := .tup (p.map facD)
/-- one good factor: a letter or some letters -/
def FacOk (f : Fac) : Prop := f.2 ≠ [] ∧ f.2.length ≤ 26 ∧ (f.1 = false → f.2.length = 1)
def inL : List Fac → List Nat → Bool
  | [], w => w.isEmpty
  | (true, l) :: p, [] => inL p []
  | (true, l) :: p, c :: w => inL p (c :: w) || (decide (c ∈ l) && inL ((true, l) :: p) w)
  | (false, l) :: p, [] => inL p []
  | (false, l) :: p, c :: w => inL p (c :: w) || (decide (c ∈ l) && inL p w)
theorem inL_nil : ∀ p : List Fac, inL p [] = true
  | [] => by simp [inL]
  | (true, l) :: p => by rw [inL]; exact inL_nil p
  | (false, l) :: p => by rw [inL]; exact inL_nil p
/-- fewer letters -/
theorem inL_down : ∀ (p : List Fac) (c : Nat) (w : List Nat), inL p (c :: w) = true → inL p w = true
  | [], c, w, h => by simp [inL] at h
  | (true, l) :: p, c, [], h => inL_nil _
  | (true, l) :: p, c, d :: w, h => by
    rw [inL] at h
    rcases Bool.or_eq_true_iff.mp h with h | h
    · rw [inL, inL_down p c (d :: w) h]; rfl
    · exact (Bool.and_eq_true_iff.mp h).2
  | (false, l) :: p, c, [], h => inL_nil _
  | (false, l) :: p, c, d :: w, h => by
    rw [inL] at h ⊢
    rcases Bool.or_eq_true_iff.mp h with h | h
    · rw [inL_down p c (d :: w) h]; rfl
    · rw [(Bool.and_eq_true_iff.mp h).2]; rfl
theorem inL_more (f : Fac) (p : List Fac) (w : List Nat) (h : inL p w = true) : inL (f :: p) w = true := by
  obtain ⟨b, l⟩ := f
  cases w with
  | nil => exact inL_nil _
  | cons c w => cases b <;> rw [inL, h] <;> rfl
def derL : List Fac → Nat → Option (List Fac)
  | [], _ => none
  | (b, l) :: p, c => if c ∈ l then some (if b then (b, l) :: p else p) else derL p c
theorem inL_der : ∀ (p : List Fac) (c : Nat) (w : List Nat), inL p (c :: w) = match derL p c with
    | none => false
    | some q => inL q w
  | [], c, w => by simp [inL, derL]
  | (true, l) :: p, c, w => by
    rw [inL, derL]
    by_cases h : c ∈ l
    · simp only [h, if_true, decide_true, Bool.true_and]
      cases e : inL p (c :: w) with
      | false => rfl
      | true => rw [inL_more _ _ _ (inL_down p c w e)]; rfl
    · simp only [h, if_false, decide_false, Bool.false_and, Bool.or_false]
      exact inL_der p c w
  | (false, l) :: p, c, w => by
    rw [inL, derL]
    by_cases h : c ∈ l
    · simp only [h, if_true, decide_true, Bool.true_and]
      cases e : inL p (c :: w) with
      | false => rfl
      | true => rw [if_neg Bool.false_ne_true, inL_down p c w e]; rfl
    · simp only [h, if_false, decide_false, Bool.false_and, Bool.or_false]
      exact inL_der p c w
/-! derived, accepts -/
theorem facD_ix (f : Fac) : ∃ k, facD f = .tup [.str k, .str f.2] ∧ (k = [115, 116, 97, 114] ↔ f.1 = true) := by
  obtain ⟨b, l⟩ := f
  cases b
  · exact ⟨_, rfl, by simp⟩
  · exact ⟨_, rfl, by simp⟩
theorem reads_ok (f : Fac) (c : Nat) (S : List D) : den_reads [facD f, .str [c]] S = .ok (.bl (decide (c ∈ f.2))) S := by
  obtain ⟨k, e, _⟩ := facD_ix f
  have ea : L2.atI [D.str k, D.str f.2] 1 = some (.str f.2) := rfl
  rw [e]
  simp [den_reads, c_reads, fnD, DL.Ou.bind, DL.aV, DL.aE, DL.eC, DL.eVar, DL.slR, DL.eBin, DL.eUn, DL.rd2, DL.rd, DL.rd0, DL.deref, DL.slD, DL.ofO, DL.eArgs, DL.eArgsP, DL.eTup, DL.eLst, DL.rdL, DL.eFun, DL.eIf, DL.eNt, DL.eAnd, DL.eOrr, DL.tTru, DL.tBool, DL.tNt, DL.tAn, DL.tOrr, DL.truD, DL.sNil, DL.sSeq, DL.ouF, DL.sIf, DL.sRet, DL.sRetN, DL.sEx, DL.sAsg, DL.tgN, DL.nxO, DL.sSetO, DL.sSetS, DL.sWipe, DL.wipeS, DL.tgTs, DL.tgT, DL.sPar, DL.sParO, DL.sRetV, DL.tgSub, DL.wrAt, DL.setAtD, DL.lenD, DL.ixD, DL.ltD, DL.leD, DL.gtD, DL.geD, DL.addD, DL.subD, DL.mulD, DL.modD, DL.fdivD, DL.powD, DL.negD, DL.isNotD, DL.notD, DL.notInD, DL.lookD, DL.putD, DL.sameKey, DL.keyEq, DL.goodKey, DL.keyOf, DL.keysOf, DL.mergeD, DL.allKeys, DL.dispOk, DL.ePairs, DL.eDisp, DL.eCall, DL.foE, DL.retO, DL.listD, DL.tupD, DL.joinD, DL.seqD, DL.strsOf, DL.isStr, DL.eJoin, DL.eSl, DL.ePart, DL.cutD, DL.sBk, DL.sCt, DL.turnF, DL.forL, DL.compL, DL.eComp, DL.tYs, DL.itemsD, DL.iSeq, DL.iRange1, DL.iRange2, DL.iEnumD, DL.sFor, DL.sMutL, DL.isL, DL.appD, DL.extD, DL.repD, DL.catD, DL.szOk, DL.smallI, DL.mulOk, DM.eqD_ss, DM.eqD_ii, DM.eqD_bb, DM.neD_ss, DM.neD_ii, DM.neD_bb, DM.inD_s, DM.isD_n, DM.isD_t, DM.isD_b, sizeLine_eq, ea]
theorem cut_from {α : Type} (xs : List α) (i : Nat) : cutL xs (some (i : Int)) none = xs.drop i := by
  unfold cutL
  rw [HT.sIx_nat, HT.sIx_none]
  by_cases h : i ≤ xs.length
  · rw [Nat.min_eq_left h, List.take_of_length_le (by simp)]
  · rw [Nat.min_eq_right (by omega), List.drop_of_length_le (Nat.le_refl _), List.drop_of_length_le (by omega)]
    simp
def derQ (p : List Fac) (c : Nat) (S : List D) (r : Fl) : Prop := match derL p c with
  | none => r = .nx ⟨[.val (prodD p), .val (.str [c]), .un, .un], S⟩
  | some q => ∃ st, r = .rt (prodD q) st ∧ st.S = S
def derB : DL.C := (sWipe [2, 3] (sIf (tTru (aE (eCall den_reads [(eVar 3), (eVar 1)])))
        (sRet (eIf (tBool (eBin eqD (aE (eBin ixD (aV 3) (aE (eC (.int 0))))) (aE (eC (.str [115, 116, 97, 114]))))) (eSl (aV 0) (some (eVar 2)) none) (eSl (aV 0) (some (eBin addD (aV 2) (aE (eC (.int 1))))) none)))
        sNil))
theorem derived_ok (p : List Fac) (c : Nat) (S : List D) : den_derived [prodD p, .str [c]] S = .ok (match derL p c with
    | none => .non
    | some q => prodD q) S := by
  have key : derQ p c S (forL (tgT [(tgN 2), (tgN 3)]) derB (enumF 0 (p.map facD)) ⟨[.val (prodD p), .val (.str [c]), .un, .un], S⟩) := by
    refine for_ind (fun ds st => ∃ i, ds = enumF i ((p.drop i).map facD) ∧ st = ⟨[.val (prodD p), .val (.str [c]), .un, .un], S⟩ ∧ derL p c = derL (p.drop i) c) (derQ p c S) ?_ ?_ _ _ ⟨0, rfl, rfl, rfl⟩
    · rintro st ⟨i, e, rfl, h⟩
      cases hd : p.drop i with
      | nil => simp only [derQ, h, hd, derL]
      | cons f r => rw [hd] at e; cases e
    · rintro d ds st ⟨i, e, rfl, h⟩
      cases hd : p.drop i with
      | nil => rw [hd] at e; cases e
      | cons f r =>
        rw [hd] at e h
        simp only [List.map_cons, enumF, List.cons.injEq] at e
        obtain ⟨rfl, rfl⟩ := e
        refine ⟨⟨[.val (prodD p), .val (.str [c]), .val (.int i), .val (facD f)], S⟩, by simp [DL.Ou.bind, DL.aV, DL.aE, DL.eC, DL.eVar, DL.slR, DL.eBin, DL.eUn, DL.rd2, DL.rd, DL.rd0, DL.deref, DL.slD, DL.ofO, DL.eArgs, DL.eArgsP, DL.eTup, DL.eLst, DL.rdL, DL.eFun, DL.eIf, DL.eNt, DL.eAnd, DL.eOrr, DL.tTru, DL.tBool, DL.tNt, DL.tAn, DL.tOrr, DL.truD, DL.sNil, DL.sSeq, DL.ouF, DL.sIf, DL.sRet, DL.sRetN, DL.sEx, DL.sAsg, DL.tgN, DL.nxO, DL.sSetO, DL.sSetS, DL.sWipe, DL.wipeS, DL.tgTs, DL.tgT, DL.sPar, DL.sParO, DL.sRetV, DL.tgSub, DL.wrAt, DL.setAtD, DL.lenD, DL.ixD, DL.ltD, DL.leD, DL.gtD, DL.geD, DL.addD, DL.subD, DL.mulD, DL.modD, DL.fdivD, DL.powD, DL.negD, DL.isNotD, DL.notD, DL.notInD, DL.lookD, DL.putD, DL.sameKey, DL.keyEq, DL.goodKey, DL.keyOf, DL.keysOf, DL.mergeD, DL.allKeys, DL.dispOk, DL.ePairs, DL.eDisp, DL.eCall, DL.foE, DL.retO, DL.listD, DL.tupD, DL.joinD, DL.seqD, DL.strsOf, DL.isStr, DL.eJoin, DL.eSl, DL.ePart, DL.cutD, DL.sBk, DL.sCt, DL.turnF, DL.forL, DL.compL, DL.eComp, DL.tYs, DL.itemsD, DL.iSeq, DL.iRange1, DL.iRange2, DL.iEnumD, DL.sFor, DL.sMutL, DL.isL, DL.appD, DL.extD, DL.repD, DL.catD, DL.szOk, DL.smallI, DL.mulOk, DM.eqD_ss, DM.eqD_ii, DM.eqD_bb, DM.neD_ss, DM.neD_ii, DM.neD_bb, DM.inD_s, DM.isD_n, DM.isD_t, DM.isD_b, sizeLine_eq], ?_⟩
        have hr : p.drop (i + 1) = r := by
          rw [← List.tail_drop, hd]
          rfl
        obtain ⟨k, ek, hk⟩ := facD_ix f
        have e0 : L2.atI [D.str k, D.str f.2] 0 = some (.str k) := rfl
        have rk := reads_ok f c S
        rw [ek] at rk
        by_cases hc : c ∈ f.2
        · have hdl : derL p c = some (if f.1 then p.drop i else r) := by
            rw [h, hd, derL]
            simp [hc]
          have c1 : cutL (p.map facD) (some (i : Int)) none = (p.drop i).map facD := by rw [cut_from, List.map_drop]
          have c2 : cutL (p.map facD) (some ((i : Int) + 1)) none = r.map facD := by
            have := cut_from (p.map facD) (i + 1)
            rw [← List.map_drop, hr] at this
            exact this
          cases hf : f.1 with
          | true =>
            have hk2 := hk.mpr hf
            subst hk2
            simp [aft, derQ, hdl, hf, derB, prodD, DL.Ou.bind, DL.aV, DL.aE, DL.eC, DL.eVar, DL.slR, DL.eBin, DL.eUn, DL.rd2, DL.rd, DL.rd0, DL.deref, DL.slD, DL.ofO, DL.eArgs, DL.eArgsP, DL.eTup, DL.eLst, DL.rdL, DL.eFun, DL.eIf, DL.eNt, DL.eAnd, DL.eOrr, DL.tTru, DL.tBool, DL.tNt, DL.tAn, DL.tOrr, DL.truD, DL.sNil, DL.sSeq, DL.ouF, DL.sIf, DL.sRet, DL.sRetN, DL.sEx, DL.sAsg, DL.tgN, DL.nxO, DL.sSetO, DL.sSetS, DL.sWipe, DL.wipeS, DL.tgTs, DL.tgT, DL.sPar, DL.sParO, DL.sRetV, DL.tgSub, DL.wrAt, DL.setAtD, DL.lenD, DL.ixD, DL.ltD, DL.leD, DL.gtD, DL.geD, DL.addD, DL.subD, DL.mulD, DL.modD, DL.fdivD, DL.powD, DL.negD, DL.isNotD, DL.notD, DL.notInD, DL.lookD, DL.putD, DL.sameKey, DL.keyEq, DL.goodKey, DL.keyOf, DL.keysOf, DL.mergeD, DL.allKeys, DL.dispOk, DL.ePairs, DL.eDisp, DL.eCall, DL.foE, DL.retO, DL.listD, DL.tupD, DL.joinD, DL.seqD, DL.strsOf, DL.isStr, DL.eJoin, DL.eSl, DL.ePart, DL.cutD, DL.sBk, DL.sCt, DL.turnF, DL.forL, DL.compL, DL.eComp, DL.tYs, DL.itemsD, DL.iSeq, DL.iRange1, DL.iRange2, DL.iEnumD, DL.sFor, DL.sMutL, DL.isL, DL.appD, DL.extD, DL.repD, DL.catD, DL.szOk, DL.smallI, DL.mulOk, DM.eqD_ss, DM.eqD_ii, DM.eqD_bb, DM.neD_ss, DM.neD_ii, DM.neD_bb, DM.inD_s, DM.isD_n, DM.isD_t, DM.isD_b, sizeLine_eq, rk, hc, ek, e0, c1]
          | false =>
            have hk2 : k ≠ [115, 116, 97, 114] := fun z => by rw [hk.mp z] at hf; cases hf
            have hk3 : (k == [115, 116, 97, 114]) = false := by simpa using hk2
            simp [aft, derQ, hdl, hf, derB, prodD, DL.Ou.bind, DL.aV, DL.aE, DL.eC, DL.eVar, DL.slR, DL.eBin, DL.eUn, DL.rd2, DL.rd, DL.rd0, DL.deref, DL.slD, DL.ofO, DL.eArgs, DL.eArgsP, DL.eTup, DL.eLst, DL.rdL, DL.eFun, DL.eIf, DL.eNt, DL.eAnd, DL.eOrr, DL.tTru, DL.tBool, DL.tNt, DL.tAn, DL.tOrr, DL.truD, DL.sNil, DL.sSeq, DL.ouF, DL.sIf, DL.sRet, DL.sRetN, DL.sEx, DL.sAsg, DL.tgN, DL.nxO, DL.sSetO, DL.sSetS, DL.sWipe, DL.wipeS, DL.tgTs, DL.tgT, DL.sPar, DL.sParO, DL.sRetV, DL.tgSub, DL.wrAt, DL.setAtD, DL.lenD, DL.ixD, DL.ltD, DL.leD, DL.gtD, DL.geD, DL.addD, DL.subD, DL.mulD, DL.modD, DL.fdivD, DL.powD, DL.negD, DL.isNotD, DL.notD, DL.notInD, DL.lookD, DL.putD, DL.sameKey, DL.keyEq, DL.goodKey, DL.keyOf, DL.keysOf, DL.mergeD, DL.allKeys, DL.dispOk, DL.ePairs, DL.eDisp, DL.eCall, DL.foE, DL.retO, DL.listD, DL.tupD, DL.joinD, DL.seqD, DL.strsOf, DL.isStr, DL.eJoin, DL.eSl, DL.ePart, DL.cutD, DL.sBk, DL.sCt, DL.turnF, DL.forL, DL.compL, DL.eComp, DL.tYs, DL.itemsD, DL.iSeq, DL.iRange1, DL.iRange2, DL.iEnumD, DL.sFor, DL.sMutL, DL.isL, DL.appD, DL.extD, DL.repD, DL.catD, DL.szOk, DL.smallI, DL.mulOk, DM.eqD_ss, DM.eqD_ii, DM.eqD_bb, DM.neD_ss, DM.neD_ii, DM.neD_bb, DM.inD_s, DM.isD_n, DM.isD_t, DM.isD_b, sizeLine_eq, rk, hc, ek, e0, c2, hk3]
        · have nx : ∃ j, enumF (i + 1) (r.map facD) = enumF j ((p.drop j).map facD) ∧ derL p c = derL (p.drop j) c := ⟨i + 1, by rw [hr], by rw [h, derL, if_neg hc, hr]⟩
          simp [aft, derB, prodD, DL.Ou.bind, DL.aV, DL.aE, DL.eC, DL.eVar, DL.slR, DL.eBin, DL.eUn, DL.rd2, DL.rd, DL.rd0, DL.deref, DL.slD, DL.ofO, DL.eArgs, DL.eArgsP, DL.eTup, DL.eLst, DL.rdL, DL.eFun, DL.eIf, DL.eNt, DL.eAnd, DL.eOrr, DL.tTru, DL.tBool, DL.tNt, DL.tAn, DL.tOrr, DL.truD, DL.sNil, DL.sSeq, DL.ouF, DL.sIf, DL.sRet, DL.sRetN, DL.sEx, DL.sAsg, DL.tgN, DL.nxO, DL.sSetO, DL.sSetS, DL.sWipe, DL.wipeS, DL.tgTs, DL.tgT, DL.sPar, DL.sParO, DL.sRetV, DL.tgSub, DL.wrAt, DL.setAtD, DL.lenD, DL.ixD, DL.ltD, DL.leD, DL.gtD, DL.geD, DL.addD, DL.subD, DL.mulD, DL.modD, DL.fdivD, DL.powD, DL.negD, DL.isNotD, DL.notD, DL.notInD, DL.lookD, DL.putD, DL.sameKey, DL.keyEq, DL.goodKey, DL.keyOf, DL.keysOf, DL.mergeD, DL.allKeys, DL.dispOk, DL.ePairs, DL.eDisp, DL.eCall, DL.foE, DL.retO, DL.listD, DL.tupD, DL.joinD, DL.seqD, DL.strsOf, DL.isStr, DL.eJoin, DL.eSl, DL.ePart, DL.cutD, DL.sBk, DL.sCt, DL.turnF, DL.forL, DL.compL, DL.eComp, DL.tYs, DL.itemsD, DL.iSeq, DL.iRange1, DL.iRange2, DL.iEnumD, DL.sFor, DL.sMutL, DL.isL, DL.appD, DL.extD, DL.repD, DL.catD, DL.szOk, DL.smallI, DL.mulOk, DM.eqD_ss, DM.eqD_ii, DM.eqD_bb, DM.neD_ss, DM.neD_ii, DM.neD_bb, DM.inD_s, DM.isD_n, DM.isD_t, DM.isD_b, sizeLine_eq, rk, hc, ek]
          simpa [List.map_drop] using nx
  have ec : c_derived = sSeq (sFor (iEnumD (eVar 0)) (tgT [(tgN 2), (tgN 3)]) derB) (sRet (eC .non)) := rfl
  unfold derQ at key
  cases e : derL p c with
  | none =>
    rw [e] at key
    simp only [prodD] at key
    simp [den_derived, ec, fnD, prodD, DL.Ou.bind, DL.aV, DL.aE, DL.eC, DL.eVar, DL.slR, DL.eBin, DL.eUn, DL.rd2, DL.rd, DL.rd0, DL.deref, DL.slD, DL.ofO, DL.eArgs, DL.eArgsP, DL.eTup, DL.eLst, DL.rdL, DL.eFun, DL.eIf, DL.eNt, DL.eAnd, DL.eOrr, DL.tTru, DL.tBool, DL.tNt, DL.tAn, DL.tOrr, DL.truD, DL.sNil, DL.sSeq, DL.ouF, DL.sIf, DL.sRet, DL.sRetN, DL.sEx, DL.sAsg, DL.tgN, DL.nxO, DL.sSetO, DL.sSetS, DL.sWipe, DL.wipeS, DL.tgTs, DL.tgT, DL.sPar, DL.sParO, DL.sRetV, DL.tgSub, DL.wrAt, DL.setAtD, DL.lenD, DL.ixD, DL.ltD, DL.leD, DL.gtD, DL.geD, DL.addD, DL.subD, DL.mulD, DL.modD, DL.fdivD, DL.powD, DL.negD, DL.isNotD, DL.notD, DL.notInD, DL.lookD, DL.putD, DL.sameKey, DL.keyEq, DL.goodKey, DL.keyOf, DL.keysOf, DL.mergeD, DL.allKeys, DL.dispOk, DL.ePairs, DL.eDisp, DL.eCall, DL.foE, DL.retO, DL.listD, DL.tupD, DL.joinD, DL.seqD, DL.strsOf, DL.isStr, DL.eJoin, DL.eSl, DL.ePart, DL.cutD, DL.sBk, DL.sCt, DL.turnF, DL.forL, DL.compL, DL.eComp, DL.tYs, DL.itemsD, DL.iSeq, DL.iRange1, DL.iRange2, DL.iEnumD, DL.sFor, DL.sMutL, DL.isL, DL.appD, DL.extD, DL.repD, DL.catD, DL.szOk, DL.smallI, DL.mulOk, DM.eqD_ss, DM.eqD_ii, DM.eqD_bb, DM.neD_ss, DM.neD_ii, DM.neD_bb, DM.inD_s, DM.isD_n, DM.isD_t, DM.isD_b, sizeLine_eq, key]
  | some q =>
    rw [e] at key
    obtain ⟨st, k1, k2⟩ := key
    simp only [prodD] at k1
    simp [den_derived, ec, fnD, prodD, DL.Ou.bind, DL.aV, DL.aE, DL.eC, DL.eVar, DL.slR, DL.eBin, DL.eUn, DL.rd2, DL.rd, DL.rd0, DL.deref, DL.slD, DL.ofO, DL.eArgs, DL.eArgsP, DL.eTup, DL.eLst, DL.rdL, DL.eFun, DL.eIf, DL.eNt, DL.eAnd, DL.eOrr, DL.tTru, DL.tBool, DL.tNt, DL.tAn, DL.tOrr, DL.truD, DL.sNil, DL.sSeq, DL.ouF, DL.sIf, DL.sRet, DL.sRetN, DL.sEx, DL.sAsg, DL.tgN, DL.nxO, DL.sSetO, DL.sSetS, DL.sWipe, DL.wipeS, DL.tgTs, DL.tgT, DL.sPar, DL.sParO, DL.sRetV, DL.tgSub, DL.wrAt, DL.setAtD, DL.lenD, DL.ixD, DL.ltD, DL.leD, DL.gtD, DL.geD, DL.addD, DL.subD, DL.mulD, DL.modD, DL.fdivD, DL.powD, DL.negD, DL.isNotD, DL.notD, DL.notInD, DL.lookD, DL.putD, DL.sameKey, DL.keyEq, DL.goodKey, DL.keyOf, DL.keysOf, DL.mergeD, DL.allKeys, DL.dispOk, DL.ePairs, DL.eDisp, DL.eCall, DL.foE, DL.retO, DL.listD, DL.tupD, DL.joinD, DL.seqD, DL.strsOf, DL.isStr, DL.eJoin, DL.eSl, DL.ePart, DL.cutD, DL.sBk, DL.sCt, DL.turnF, DL.forL, DL.compL, DL.eComp, DL.tYs, DL.itemsD, DL.iSeq, DL.iRange1, DL.iRange2, DL.iEnumD, DL.sFor, DL.sMutL, DL.isL, DL.appD, DL.extD, DL.repD, DL.catD, DL.szOk, DL.smallI, DL.mulOk, DM.eqD_ss, DM.eqD_ii, DM.eqD_bb, DM.neD_ss, DM.neD_ii, DM.neD_bb, DM.inD_s, DM.isD_n, DM.isD_t, DM.isD_b, sizeLine_eq, k1, k2]
def accB : DL.C := (sWipe [2] (sSeq (sAsg (eCall den_derived [(eVar 0), (eVar 2)]) (tgN 0))
      (sIf (tBool (eBin isD (aV 0) (aE (eC .non))))
        (sRet (eC (.bl false)))
        sNil)))
def accQ (p : List Fac) (w : List Nat) (S : List D) (r : Fl) : Prop := (inL p w = true ∧ ∃ st, r = .nx st ∧ st.S = S) ∨ (inL p w = false ∧ ∃ st, r = .rt (.bl false) st ∧ st.S = S)
theorem accepts_ok (p : List Fac) (w : List Nat) (S : List D) : den_accepts [prodD p, .str w] S = .ok (.bl (inL p w)) S := by
  have key : accQ p w S (forL (tgN 2) accB (charsD w) ⟨[.val (prodD p), .val (.str w), .un], S⟩) := by
    refine for_ind (fun ds st => ∃ q v, ds = charsD v ∧ st = ⟨[.val (prodD q), .val (.str w), .un], S⟩ ∧ inL p w = inL q v) (accQ p w S) ?_ ?_ _ _ ⟨p, w, rfl, rfl, rfl⟩
    · rintro st ⟨q, v, e, rfl, h⟩
      cases v with
      | nil => exact .inl ⟨by rw [h, inL_nil], _, rfl, rfl⟩
      | cons c v => cases e
    · rintro d ds st ⟨q, v, e, rfl, h⟩
      cases v with
      | nil => cases e
      | cons c v =>
        obtain ⟨rfl, rfl⟩ := List.cons.inj e
        refine ⟨⟨[.val (prodD q), .val (.str w), .val (.str [c])], S⟩, rfl, ?_⟩
        have dk := derived_ok q c S
        have hi := inL_der q c v
        cases hd : derL q c with
        | none =>
          rw [hd] at dk hi
          have hf : inL p w = false := h.trans hi
          simp [accB, DL.Ou.bind, DL.aV, DL.aE, DL.eC, DL.eVar, DL.slR, DL.eBin, DL.eUn, DL.rd2, DL.rd, DL.rd0, DL.deref, DL.slD, DL.ofO, DL.eArgs, DL.eArgsP, DL.eTup, DL.eLst, DL.rdL, DL.eFun, DL.eIf, DL.eNt, DL.eAnd, DL.eOrr, DL.tTru, DL.tBool, DL.tNt, DL.tAn, DL.tOrr, DL.truD, DL.sNil, DL.sSeq, DL.ouF, DL.sIf, DL.sRet, DL.sRetN, DL.sEx, DL.sAsg, DL.tgN, DL.nxO, DL.sSetO, DL.sSetS, DL.sWipe, DL.wipeS, DL.tgTs, DL.tgT, DL.sPar, DL.sParO, DL.sRetV, DL.tgSub, DL.wrAt, DL.setAtD, DL.lenD, DL.ixD, DL.ltD, DL.leD, DL.gtD, DL.geD, DL.addD, DL.subD, DL.mulD, DL.modD, DL.fdivD, DL.powD, DL.negD, DL.isNotD, DL.notD, DL.notInD, DL.lookD, DL.putD, DL.sameKey, DL.keyEq, DL.goodKey, DL.keyOf, DL.keysOf, DL.mergeD, DL.allKeys, DL.dispOk, DL.ePairs, DL.eDisp, DL.eCall, DL.foE, DL.retO, DL.listD, DL.tupD, DL.joinD, DL.seqD, DL.strsOf, DL.isStr, DL.eJoin, DL.eSl, DL.ePart, DL.cutD, DL.sBk, DL.sCt, DL.turnF, DL.forL, DL.compL, DL.eComp, DL.tYs, DL.itemsD, DL.iSeq, DL.iRange1, DL.iRange2, DL.iEnumD, DL.sFor, DL.sMutL, DL.isL, DL.appD, DL.extD, DL.repD, DL.catD, DL.szOk, DL.smallI, DL.mulOk, DM.eqD_ss, DM.eqD_ii, DM.eqD_bb, DM.neD_ss, DM.neD_ii, DM.neD_bb, DM.inD_s, DM.isD_n, DM.isD_t, DM.isD_b, sizeLine_eq, dk, aft, accQ, hf]
        | some q' =>
          rw [hd] at dk hi
          have hf : inL p w = inL q' v := h.trans hi
          have ei : isD (prodD q') .non = some (.bl false) := rfl
          simp only [prodD] at dk ei
          simp [accB, prodD, Ou.bind, aV, aE, eC, eVar, slR, eBin, rd2, rd, rd0, deref, slD, ofO, eArgs, tBool, sNil, sSeq, ouF, sIf, sRet, sAsg, tgN, nxO, sWipe, wipeS, eCall, foE, dk, ei, aft]
          exact ⟨q', ⟨v, rfl, rfl, hf⟩⟩
  have ec : c_accepts = sSeq (sFor (iSeq (eVar 1)) (tgN 2) accB) (sRet (eC (.bl true))) := rfl
  rcases key with ⟨h, st, k1, k2⟩ | ⟨h, st, k1, k2⟩
  · simp [den_accepts, ec, fnD, DL.Ou.bind, DL.aV, DL.aE, DL.eC, DL.eVar, DL.slR, DL.eBin, DL.eUn, DL.rd2, DL.rd, DL.rd0, DL.deref, DL.slD, DL.ofO, DL.eArgs, DL.eArgsP, DL.eTup, DL.eLst, DL.rdL, DL.eFun, DL.eIf, DL.eNt, DL.eAnd, DL.eOrr, DL.tTru, DL.tBool, DL.tNt, DL.tAn, DL.tOrr, DL.truD, DL.sNil, DL.sSeq, DL.ouF, DL.sIf, DL.sRet, DL.sRetN, DL.sEx, DL.sAsg, DL.tgN, DL.nxO, DL.sSetO, DL.sSetS, DL.sWipe, DL.wipeS, DL.tgTs, DL.tgT, DL.sPar, DL.sParO, DL.sRetV, DL.tgSub, DL.wrAt, DL.setAtD, DL.lenD, DL.ixD, DL.ltD, DL.leD, DL.gtD, DL.geD, DL.addD, DL.subD, DL.mulD, DL.modD, DL.fdivD, DL.powD, DL.negD, DL.isNotD, DL.notD, DL.notInD, DL.lookD, DL.putD, DL.sameKey, DL.keyEq, DL.goodKey, DL.keyOf, DL.keysOf, DL.mergeD, DL.allKeys, DL.dispOk, DL.ePairs, DL.eDisp, DL.eCall, DL.foE, DL.retO, DL.listD, DL.tupD, DL.joinD, DL.seqD, DL.strsOf, DL.isStr, DL.eJoin, DL.eSl, DL.ePart, DL.cutD, DL.sBk, DL.sCt, DL.turnF, DL.forL, DL.compL, DL.eComp, DL.tYs, DL.itemsD, DL.iSeq, DL.iRange1, DL.iRange2, DL.iEnumD, DL.sFor, DL.sMutL, DL.isL, DL.appD, DL.extD, DL.repD, DL.catD, DL.szOk, DL.smallI, DL.mulOk, DM.eqD_ss, DM.eqD_ii, DM.eqD_bb, DM.neD_ss, DM.neD_ii, DM.neD_bb, DM.inD_s, DM.isD_n, DM.isD_t, DM.isD_b, sizeLine_eq, k1, k2, h]
  · simp [den_accepts, ec, fnD, DL.Ou.bind, DL.aV, DL.aE, DL.eC, DL.eVar, DL.slR, DL.eBin, DL.eUn, DL.rd2, DL.rd, DL.rd0, DL.deref, DL.slD, DL.ofO, DL.eArgs, DL.eArgsP, DL.eTup, DL.eLst, DL.rdL, DL.eFun, DL.eIf, DL.eNt, DL.eAnd, DL.eOrr, DL.tTru, DL.tBool, DL.tNt, DL.tAn, DL.tOrr, DL.truD, DL.sNil, DL.sSeq, DL.ouF, DL.sIf, DL.sRet, DL.sRetN, DL.sEx, DL.sAsg, DL.tgN, DL.nxO, DL.sSetO, DL.sSetS, DL.sWipe, DL.wipeS, DL.tgTs, DL.tgT, DL.sPar, DL.sParO, DL.sRetV, DL.tgSub, DL.wrAt, DL.setAtD, DL.lenD, DL.ixD, DL.ltD, DL.leD, DL.gtD, DL.geD, DL.addD, DL.subD, DL.mulD, DL.modD, DL.fdivD, DL.powD, DL.negD, DL.isNotD, DL.notD, DL.notInD, DL.lookD, DL.putD, DL.sameKey, DL.keyEq, DL.goodKey, DL.keyOf, DL.keysOf, DL.mergeD, DL.allKeys, DL.dispOk, DL.ePairs, DL.eDisp, DL.eCall, DL.foE, DL.retO, DL.listD, DL.tupD, DL.joinD, DL.seqD, DL.strsOf, DL.isStr, DL.eJoin, DL.eSl, DL.ePart, DL.cutD, DL.sBk, DL.sCt, DL.turnF, DL.forL, DL.compL, DL.eComp, DL.tYs, DL.itemsD, DL.iSeq, DL.iRange1, DL.iRange2, DL.iEnumD, DL.sFor, DL.sMutL, DL.isL, DL.appD, DL.extD, DL.repD, DL.catD, DL.szOk, DL.smallI, DL.mulOk, DM.eqD_ss, DM.eqD_ii, DM.eqD_bb, DM.neD_ss, DM.neD_ii, DM.neD_bb, DM.inD_s, DM.isD_n, DM.isD_t, DM.isD_b, sizeLine_eq, k1, k2, h]
/-! unfold -/
def unfF (n : Int) (f : Fac) : List Nat := if f.1 then repS f.2 n else f.2
def unfL (p : List Fac) (n : Int) : List Nat := (p.map (unfF n)).flatten
theorem joinL_flat : ∀ xs : List (List Nat), joinL [] xs = xs.flatten
  | [] => rfl
  | [x] => by show x = _; simp
  | x :: y :: r => by
    show x ++ ([] ++ joinL [] (y :: r)) = _
    rw [joinL_flat (y :: r)]
    simp
theorem strsOf_map : ∀ xs : List (List Nat), strsOf (xs.map .str) = some xs
  | [] => rfl
  | x :: r => by
    show (strsOf (r.map .str)).bind _ = _
    rw [strsOf_map r]
    rfl
theorem sum_le {α : Type} (f : α → Nat) (b : Nat) : ∀ (xs : List α), (∀ x ∈ xs, f x ≤ b) → (xs.map f).sum ≤ xs.length * b
  | [], _ => by simp
  | x :: r, h => by
    have h1 := h x List.mem_cons_self
    have h2 := sum_le f b r fun y hy => h y (List.mem_cons_of_mem _ hy)
    simp only [List.map_cons, List.sum_cons, List.length_cons]
    rw [Nat.succ_mul]
    omega
/-- texts put together -/
theorem join_ok (xs : List (List Nat)) (b : Nat) (hb : ∀ x ∈ xs, x.length ≤ b) (hz : xs.length * b ≤ 16777216) : joinD (.str []) (.lst (xs.map .str)) = some (.str xs.flatten) := by
  have hs : joinSz [] xs = true := by
    have := sum_le (fun x : List Nat => x.length) b xs hb
    simp [joinSz]
    omega
  show ((strsOf (xs.map .str)).bind fun xs => if joinSz [] xs then some (D.str (joinL [] xs)) else none) = _
  rw [strsOf_map]
  show (if joinSz [] xs then some (D.str (joinL [] xs)) else none) = _
  rw [if_pos hs, joinL_flat]
theorem repS_len (x : List Nat) (n : Int) : (repS x n).length = n.toNat * x.length := by simp [repS, List.length_flatten]
def unfE : DL.E := (eIf (tBool (eBin eqD (aV 2) (aE (eC (.str [111, 112, 116]))))) (eVar 3) (eBin mulD (aV 3) (aV 1)))
theorem unfold_ok (p : List Fac) (n : Int) (S : List D) (hp : p.length ≤ 100) (hf : ∀ f ∈ p, f.2.length ≤ 26) (h0 : 0 ≤ n) (hn : n ≤ 1000) : den_unfold [prodD p, .int n] S = .ok (.str (unfL p n)) S := by
  have hlen : ∀ f ∈ p, (unfF n f).length ≤ 26000 := fun f hfm => by
    unfold unfF
    have h1 := hf f hfm
    split
    · rw [repS_len]
      have h2 : n.toNat ≤ 1000 := by omega
      calc n.toNat * f.2.length ≤ 1000 * 26 := Nat.mul_le_mul h2 h1
        _ = 26000 := rfl
    · omega
  obtain ⟨acc, st, k1, rfl, q, r, e1, e2, k2⟩ := comp_ind (tg := tgT [(tgN 2), (tgN 3)]) (tt := tYs) (m := unfE) (vs := [2, 3]) (fun rem acc st => st = ⟨[.val (prodD p), .val (.int n), .un, .un], S⟩ ∧ ∃ q r, p = q ++ r ∧ rem = r.map facD ∧ acc = q.map (fun f => D.str (unfF n f))) (by
    rintro d ds acc st ⟨rfl, q, r, e1, e2, rfl⟩
    cases r with
    | nil => cases e2
    | cons f r =>
      obtain ⟨rfl, rfl⟩ := List.cons.inj e2
      obtain ⟨k, ek, hk⟩ := facD_ix f
      have hfm : f ∈ p := by rw [e1]; simp
      have hl := hf f hfm
      have hq : q.length ≤ 100 := by
        have := congrArg List.length e1
        simp at this
        omega
      refine ⟨⟨[.val (prodD p), .val (.int n), .val (.str k), .val (.str f.2)], S⟩, by simp [ek, DL.Ou.bind, DL.aV, DL.aE, DL.eC, DL.eVar, DL.slR, DL.eBin, DL.eUn, DL.rd2, DL.rd, DL.rd0, DL.deref, DL.slD, DL.ofO, DL.eArgs, DL.eArgsP, DL.eTup, DL.eLst, DL.rdL, DL.eFun, DL.eIf, DL.eNt, DL.eAnd, DL.eOrr, DL.tTru, DL.tBool, DL.tNt, DL.tAn, DL.tOrr, DL.truD, DL.sNil, DL.sSeq, DL.ouF, DL.sIf, DL.sRet, DL.sRetN, DL.sEx, DL.sAsg, DL.tgN, DL.nxO, DL.sSetO, DL.sSetS, DL.sWipe, DL.wipeS, DL.tgTs, DL.tgT, DL.sPar, DL.sParO, DL.sRetV, DL.tgSub, DL.wrAt, DL.setAtD, DL.lenD, DL.ixD, DL.ltD, DL.leD, DL.gtD, DL.geD, DL.addD, DL.subD, DL.mulD, DL.modD, DL.fdivD, DL.powD, DL.negD, DL.isNotD, DL.notD, DL.notInD, DL.lookD, DL.putD, DL.sameKey, DL.keyEq, DL.goodKey, DL.keyOf, DL.keysOf, DL.mergeD, DL.allKeys, DL.dispOk, DL.ePairs, DL.eDisp, DL.eCall, DL.foE, DL.retO, DL.listD, DL.tupD, DL.joinD, DL.seqD, DL.strsOf, DL.isStr, DL.eJoin, DL.eSl, DL.ePart, DL.cutD, DL.sBk, DL.sCt, DL.turnF, DL.forL, DL.compL, DL.eComp, DL.tYs, DL.itemsD, DL.iSeq, DL.iRange1, DL.iRange2, DL.iEnumD, DL.sFor, DL.sMutL, DL.isL, DL.appD, DL.extD, DL.repD, DL.catD, DL.szOk, DL.smallI, DL.mulOk, DM.eqD_ss, DM.eqD_ii, DM.eqD_bb, DM.neD_ss, DM.neD_ii, DM.neD_bb, DM.inD_s, DM.isD_n, DM.isD_t, DM.isD_b, sizeLine_eq], .inr ⟨⟨[.val (prodD p), .val (.int n), .val (.str k), .val (.str f.2)], S⟩, .str (unfF n f), ⟨[.val (prodD p), .val (.int n), .val (.str k), .val (.str f.2)], S⟩, rfl, ?_, ?_, rfl, q ++ [f], r, by rw [e1]; simp, rfl, by simp⟩⟩
      · obtain ⟨b, l⟩ := f
        cases b with
        | true =>
          have hk2 := hk.mpr rfl
          subst hk2
          have h1 : l.length * n.toNat ≤ 16777216 := by
            have h2 : n.toNat ≤ 1000 := by omega
            calc l.length * n.toNat ≤ 26 * 1000 := Nat.mul_le_mul hl h2
              _ ≤ 16777216 := by decide
          have h3 : -4611686018427387904 ≤ n := by omega
          have h4 : n < 4611686018427387904 := by omega
          simp [unfE, unfF, prodD, DL.Ou.bind, DL.aV, DL.aE, DL.eC, DL.eVar, DL.slR, DL.eBin, DL.eUn, DL.rd2, DL.rd, DL.rd0, DL.deref, DL.slD, DL.ofO, DL.eArgs, DL.eArgsP, DL.eTup, DL.eLst, DL.rdL, DL.eFun, DL.eIf, DL.eNt, DL.eAnd, DL.eOrr, DL.tTru, DL.tBool, DL.tNt, DL.tAn, DL.tOrr, DL.truD, DL.sNil, DL.sSeq, DL.ouF, DL.sIf, DL.sRet, DL.sRetN, DL.sEx, DL.sAsg, DL.tgN, DL.nxO, DL.sSetO, DL.sSetS, DL.sWipe, DL.wipeS, DL.tgTs, DL.tgT, DL.sPar, DL.sParO, DL.sRetV, DL.tgSub, DL.wrAt, DL.setAtD, DL.lenD, DL.ixD, DL.ltD, DL.leD, DL.gtD, DL.geD, DL.addD, DL.subD, DL.mulD, DL.modD, DL.fdivD, DL.powD, DL.negD, DL.isNotD, DL.notD, DL.notInD, DL.lookD, DL.putD, DL.sameKey, DL.keyEq, DL.goodKey, DL.keyOf, DL.keysOf, DL.mergeD, DL.allKeys, DL.dispOk, DL.ePairs, DL.eDisp, DL.eCall, DL.foE, DL.retO, DL.listD, DL.tupD, DL.joinD, DL.seqD, DL.strsOf, DL.isStr, DL.eJoin, DL.eSl, DL.ePart, DL.cutD, DL.sBk, DL.sCt, DL.turnF, DL.forL, DL.compL, DL.eComp, DL.tYs, DL.itemsD, DL.iSeq, DL.iRange1, DL.iRange2, DL.iEnumD, DL.sFor, DL.sMutL, DL.isL, DL.appD, DL.extD, DL.repD, DL.catD, DL.szOk, DL.smallI, DL.mulOk, DM.eqD_ss, DM.eqD_ii, DM.eqD_bb, DM.neD_ss, DM.neD_ii, DM.neD_bb, DM.inD_s, DM.isD_n, DM.isD_t, DM.isD_b, sizeLine_eq, h1, h3, h4]
        | false =>
          have hk2 : k = [111, 112, 116] := by
            have : facD (false, l) = D.tup [.str [111, 112, 116], .str l] := rfl
            rw [this] at ek
            simp at ek
            exact ek.symm
          subst hk2
          simp [unfE, unfF, prodD, DL.Ou.bind, DL.aV, DL.aE, DL.eC, DL.eVar, DL.slR, DL.eBin, DL.eUn, DL.rd2, DL.rd, DL.rd0, DL.deref, DL.slD, DL.ofO, DL.eArgs, DL.eArgsP, DL.eTup, DL.eLst, DL.rdL, DL.eFun, DL.eIf, DL.eNt, DL.eAnd, DL.eOrr, DL.tTru, DL.tBool, DL.tNt, DL.tAn, DL.tOrr, DL.truD, DL.sNil, DL.sSeq, DL.ouF, DL.sIf, DL.sRet, DL.sRetN, DL.sEx, DL.sAsg, DL.tgN, DL.nxO, DL.sSetO, DL.sSetS, DL.sWipe, DL.wipeS, DL.tgTs, DL.tgT, DL.sPar, DL.sParO, DL.sRetV, DL.tgSub, DL.wrAt, DL.setAtD, DL.lenD, DL.ixD, DL.ltD, DL.leD, DL.gtD, DL.geD, DL.addD, DL.subD, DL.mulD, DL.modD, DL.fdivD, DL.powD, DL.negD, DL.isNotD, DL.notD, DL.notInD, DL.lookD, DL.putD, DL.sameKey, DL.keyEq, DL.goodKey, DL.keyOf, DL.keysOf, DL.mergeD, DL.allKeys, DL.dispOk, DL.ePairs, DL.eDisp, DL.eCall, DL.foE, DL.retO, DL.listD, DL.tupD, DL.joinD, DL.seqD, DL.strsOf, DL.isStr, DL.eJoin, DL.eSl, DL.ePart, DL.cutD, DL.sBk, DL.sCt, DL.turnF, DL.forL, DL.compL, DL.eComp, DL.tYs, DL.itemsD, DL.iSeq, DL.iRange1, DL.iRange2, DL.iEnumD, DL.sFor, DL.sMutL, DL.isL, DL.appD, DL.extD, DL.repD, DL.catD, DL.szOk, DL.smallI, DL.mulOk, DM.eqD_ss, DM.eqD_ii, DM.eqD_bb, DM.neD_ss, DM.neD_ii, DM.neD_bb, DM.inD_s, DM.isD_n, DM.isD_t, DM.isD_b, sizeLine_eq]
      · rw [List.length_map, sizeLine_eq]; omega) (p.map facD) [] ⟨[.val (prodD p), .val (.int n), .un, .un], S⟩ ⟨rfl, [], p, rfl, rfl, rfl⟩
  have er : r = [] := by
    cases r with
    | nil => rfl
    | cons _ _ => cases e2
  subst er
  simp at e1
  subst e1
  have hj := join_ok (p.map (unfF n)) 26000 (fun x hx => by
    obtain ⟨f, h1, rfl⟩ := List.mem_map.mp hx
    exact hlen f h1) (by rw [List.length_map]; omega)
  rw [List.map_map] at hj
  have ec : c_unfold = (sRet (eJoin (eC (.str [])) (eComp (iSeq (eVar 0)) (tgT [(tgN 2), (tgN 3)]) tYs unfE [2, 3]))) := rfl
  rw [k2] at k1
  simp only [prodD] at k1
  have hj2 : joinD (.str []) (.lst (p.map fun f => D.str (unfF n f))) = some (.str (unfL p n)) := hj
  simp [den_unfold, ec, fnD, prodD, eComp, iSeq, itemsD, eVar, slR, eC, sRet, ouF, eJoin, Ou.bind, isStr, wipeS, k1, hj2, ofO, retO]
end
end DM
/-! DMj: subwords, the check of a product by places. -/
namespace DM
noncomputable section
open PySem PySem.Spec PyProof.Rows L2 DL
def resid : List Nat → List Nat → List Nat
  | w, [] => w
  | [], _ :: u => resid [] u
  | c :: w, x :: u => if c = x then resid w u else resid (c :: w) u
def isSub (w u : List Nat) : Bool := (resid w u).isEmpty
def subB : DL.C := (sWipe [2] (sIf (tAn (tBool (eBin neD (aV 0) (aE (eC (.str []))))) (tBool (eBin eqD (aE (eBin ixD (aV 0) (aE (eC (.int 0))))) (aV 2))))
        (sAsg (eSl (aV 0) (some (eC (.int 1))) none) (tgN 0))
        sNil))
theorem subword_ok (w u : List Nat) (S : List D) (hw : w.length ≤ 16777216) : den__law_is_subword [.str w, .str u] S = .ok (.bl (isSub w u)) S := by
  have key : (fun r : Fl => r = .nx ⟨[.val (.str (resid w u)), .val (.str u), .un], S⟩) (forL (tgN 2) subB (charsD u) ⟨[.val (.str w), .val (.str u), .un], S⟩) := by
    refine for_ind (fun ds st => ∃ v x, ds = charsD x ∧ st = ⟨[.val (.str v), .val (.str u), .un], S⟩ ∧ resid w u = resid v x ∧ v.length ≤ 16777216) (fun r : Fl => r = .nx ⟨[.val (.str (resid w u)), .val (.str u), .un], S⟩) ?_ ?_ _ _ ⟨w, u, rfl, rfl, rfl, hw⟩
    · rintro st ⟨v, x, e, rfl, h, _⟩
      cases x with
      | nil =>
        have hr : resid w u = v := by rw [h]; cases v <;> rfl
        rw [hr]
      | cons c x => cases e
    · rintro d ds st ⟨v, x, e, rfl, h, hv⟩
      cases x with
      | nil => cases e
      | cons c x =>
        obtain ⟨rfl, rfl⟩ := List.cons.inj e
        refine ⟨⟨[.val (.str v), .val (.str u), .val (.str [c])], S⟩, rfl, ?_⟩
        cases v with
        | nil =>
          simp [subB, DL.Ou.bind, DL.aV, DL.aE, DL.eC, DL.eVar, DL.slR, DL.eBin, DL.eUn, DL.rd2, DL.rd, DL.rd0, DL.deref, DL.slD, DL.ofO, DL.eArgs, DL.eArgsP, DL.eTup, DL.eLst, DL.rdL, DL.eFun, DL.eIf, DL.eNt, DL.eAnd, DL.eOrr, DL.tTru, DL.tBool, DL.tNt, DL.tAn, DL.tOrr, DL.truD, DL.sNil, DL.sSeq, DL.ouF, DL.sIf, DL.sRet, DL.sRetN, DL.sEx, DL.sAsg, DL.tgN, DL.nxO, DL.sSetO, DL.sSetS, DL.sWipe, DL.wipeS, DL.tgTs, DL.tgT, DL.sPar, DL.sParO, DL.sRetV, DL.tgSub, DL.wrAt, DL.setAtD, DL.lenD, DL.ixD, DL.ltD, DL.leD, DL.gtD, DL.geD, DL.addD, DL.subD, DL.mulD, DL.modD, DL.fdivD, DL.powD, DL.negD, DL.isNotD, DL.notD, DL.notInD, DL.lookD, DL.putD, DL.sameKey, DL.keyEq, DL.goodKey, DL.keyOf, DL.keysOf, DL.mergeD, DL.allKeys, DL.dispOk, DL.ePairs, DL.eDisp, DL.eCall, DL.foE, DL.retO, DL.listD, DL.tupD, DL.joinD, DL.seqD, DL.strsOf, DL.isStr, DL.eJoin, DL.eSl, DL.ePart, DL.cutD, DL.sBk, DL.sCt, DL.turnF, DL.forL, DL.compL, DL.eComp, DL.tYs, DL.itemsD, DL.iSeq, DL.iRange1, DL.iRange2, DL.iEnumD, DL.sFor, DL.sMutL, DL.isL, DL.appD, DL.extD, DL.repD, DL.catD, DL.szOk, DL.smallI, DL.mulOk, DM.eqD_ss, DM.eqD_ii, DM.eqD_bb, DM.neD_ss, DM.neD_ii, DM.neD_bb, DM.inD_s, DM.isD_n, DM.isD_t, DM.isD_b, sizeLine_eq, aft]
          exact ⟨[], x, rfl, rfl, h, by simp⟩
        | cons a v =>
          have hv' : v.length + 1 ≤ 16777216 := by simpa using hv
          have hx : L2.atI (a :: v) 0 = some a := by
            have := atI_nn (xs := a :: v) (i := 0) (by decide) (by simp)
            obtain ⟨j, ej, hj, ea⟩ := this
            have : j = 0 := by omega
            subst this
            exact ea
          have hc : cutL (a :: v) (some 1) none = v := cut_from (a :: v) 1
          by_cases hac : a = c
          · subst hac
            simp [subB, DL.Ou.bind, DL.aV, DL.aE, DL.eC, DL.eVar, DL.slR, DL.eBin, DL.eUn, DL.rd2, DL.rd, DL.rd0, DL.deref, DL.slD, DL.ofO, DL.eArgs, DL.eArgsP, DL.eTup, DL.eLst, DL.rdL, DL.eFun, DL.eIf, DL.eNt, DL.eAnd, DL.eOrr, DL.tTru, DL.tBool, DL.tNt, DL.tAn, DL.tOrr, DL.truD, DL.sNil, DL.sSeq, DL.ouF, DL.sIf, DL.sRet, DL.sRetN, DL.sEx, DL.sAsg, DL.tgN, DL.nxO, DL.sSetO, DL.sSetS, DL.sWipe, DL.wipeS, DL.tgTs, DL.tgT, DL.sPar, DL.sParO, DL.sRetV, DL.tgSub, DL.wrAt, DL.setAtD, DL.lenD, DL.ixD, DL.ltD, DL.leD, DL.gtD, DL.geD, DL.addD, DL.subD, DL.mulD, DL.modD, DL.fdivD, DL.powD, DL.negD, DL.isNotD, DL.notD, DL.notInD, DL.lookD, DL.putD, DL.sameKey, DL.keyEq, DL.goodKey, DL.keyOf, DL.keysOf, DL.mergeD, DL.allKeys, DL.dispOk, DL.ePairs, DL.eDisp, DL.eCall, DL.foE, DL.retO, DL.listD, DL.tupD, DL.joinD, DL.seqD, DL.strsOf, DL.isStr, DL.eJoin, DL.eSl, DL.ePart, DL.cutD, DL.sBk, DL.sCt, DL.turnF, DL.forL, DL.compL, DL.eComp, DL.tYs, DL.itemsD, DL.iSeq, DL.iRange1, DL.iRange2, DL.iEnumD, DL.sFor, DL.sMutL, DL.isL, DL.appD, DL.extD, DL.repD, DL.catD, DL.szOk, DL.smallI, DL.mulOk, DM.eqD_ss, DM.eqD_ii, DM.eqD_bb, DM.neD_ss, DM.neD_ii, DM.neD_bb, DM.inD_s, DM.isD_n, DM.isD_t, DM.isD_b, sizeLine_eq, aft, hv', hx, hc]
            exact ⟨v, x, rfl, rfl, by rw [h, resid, if_pos rfl], by omega⟩
          · have hac2 : (a == c) = false := by simpa using hac
            simp [subB, DL.Ou.bind, DL.aV, DL.aE, DL.eC, DL.eVar, DL.slR, DL.eBin, DL.eUn, DL.rd2, DL.rd, DL.rd0, DL.deref, DL.slD, DL.ofO, DL.eArgs, DL.eArgsP, DL.eTup, DL.eLst, DL.rdL, DL.eFun, DL.eIf, DL.eNt, DL.eAnd, DL.eOrr, DL.tTru, DL.tBool, DL.tNt, DL.tAn, DL.tOrr, DL.truD, DL.sNil, DL.sSeq, DL.ouF, DL.sIf, DL.sRet, DL.sRetN, DL.sEx, DL.sAsg, DL.tgN, DL.nxO, DL.sSetO, DL.sSetS, DL.sWipe, DL.wipeS, DL.tgTs, DL.tgT, DL.sPar, DL.sParO, DL.sRetV, DL.tgSub, DL.wrAt, DL.setAtD, DL.lenD, DL.ixD, DL.ltD, DL.leD, DL.gtD, DL.geD, DL.addD, DL.subD, DL.mulD, DL.modD, DL.fdivD, DL.powD, DL.negD, DL.isNotD, DL.notD, DL.notInD, DL.lookD, DL.putD, DL.sameKey, DL.keyEq, DL.goodKey, DL.keyOf, DL.keysOf, DL.mergeD, DL.allKeys, DL.dispOk, DL.ePairs, DL.eDisp, DL.eCall, DL.foE, DL.retO, DL.listD, DL.tupD, DL.joinD, DL.seqD, DL.strsOf, DL.isStr, DL.eJoin, DL.eSl, DL.ePart, DL.cutD, DL.sBk, DL.sCt, DL.turnF, DL.forL, DL.compL, DL.eComp, DL.tYs, DL.itemsD, DL.iSeq, DL.iRange1, DL.iRange2, DL.iEnumD, DL.sFor, DL.sMutL, DL.isL, DL.appD, DL.extD, DL.repD, DL.catD, DL.szOk, DL.smallI, DL.mulOk, DM.eqD_ss, DM.eqD_ii, DM.eqD_bb, DM.neD_ss, DM.neD_ii, DM.neD_bb, DM.inD_s, DM.isD_n, DM.isD_t, DM.isD_b, sizeLine_eq, aft, hv', hx, hc, hac2]
            exact ⟨a :: v, x, rfl, rfl, by rw [h, resid, if_neg hac], hv⟩
  have ec : c__law_is_subword = sSeq (sFor (iSeq (eVar 1)) (tgN 2) subB) (sRet (eBin eqD (aV 0) (aE (eC (.str []))))) := rfl
  have key2 : forL (tgN 2) subB (charsD u) ⟨[.val (.str w), .val (.str u), .un], S⟩ = .nx ⟨[.val (.str (resid w u)), .val (.str u), .un], S⟩ := key
  have e2 : (resid w u == []) = isSub w u := by unfold isSub; cases resid w u <;> rfl
  simp [den__law_is_subword, ec, fnD, DL.Ou.bind, DL.aV, DL.aE, DL.eC, DL.eVar, DL.slR, DL.eBin, DL.eUn, DL.rd2, DL.rd, DL.rd0, DL.deref, DL.slD, DL.ofO, DL.eArgs, DL.eArgsP, DL.eTup, DL.eLst, DL.rdL, DL.eFun, DL.eIf, DL.eNt, DL.eAnd, DL.eOrr, DL.tTru, DL.tBool, DL.tNt, DL.tAn, DL.tOrr, DL.truD, DL.sNil, DL.sSeq, DL.ouF, DL.sIf, DL.sRet, DL.sRetN, DL.sEx, DL.sAsg, DL.tgN, DL.nxO, DL.sSetO, DL.sSetS, DL.sWipe, DL.wipeS, DL.tgTs, DL.tgT, DL.sPar, DL.sParO, DL.sRetV, DL.tgSub, DL.wrAt, DL.setAtD, DL.lenD, DL.ixD, DL.ltD, DL.leD, DL.gtD, DL.geD, DL.addD, DL.subD, DL.mulD, DL.modD, DL.fdivD, DL.powD, DL.negD, DL.isNotD, DL.notD, DL.notInD, DL.lookD, DL.putD, DL.sameKey, DL.keyEq, DL.goodKey, DL.keyOf, DL.keysOf, DL.mergeD, DL.allKeys, DL.dispOk, DL.ePairs, DL.eDisp, DL.eCall, DL.foE, DL.retO, DL.listD, DL.tupD, DL.joinD, DL.seqD, DL.strsOf, DL.isStr, DL.eJoin, DL.eSl, DL.ePart, DL.cutD, DL.sBk, DL.sCt, DL.turnF, DL.forL, DL.compL, DL.eComp, DL.tYs, DL.itemsD, DL.iSeq, DL.iRange1, DL.iRange2, DL.iEnumD, DL.sFor, DL.sMutL, DL.isL, DL.appD, DL.extD, DL.repD, DL.catD, DL.szOk, DL.smallI, DL.mulOk, DM.eqD_ss, DM.eqD_ii, DM.eqD_bb, DM.neD_ss, DM.neD_ii, DM.neD_bb, DM.inD_s, DM.isD_n, DM.isD_t, DM.isD_b, sizeLine_eq, key2, e2]
/-! a word is a subword of a product's unfolding if and only if the product holds it -/
theorem resid_app : ∀ (u v w : List Nat), resid w (u ++ v) = resid (resid w u) v
  | [], v, w => by cases w <;> rfl
  | x :: u, v, [] => by
    show resid [] (u ++ v) = _
    rw [resid_app u v []]
    rfl
  | x :: u, v, c :: w => by
    show (if c = x then resid w (u ++ v) else resid (c :: w) (u ++ v)) = resid (if c = x then resid w u else resid (c :: w) u) v
    split
    · exact resid_app u v w
    · exact resid_app u v (c :: w)
theorem resid_nil : ∀ u : List Nat, resid [] u = []
  | [] => rfl
  | x :: u => by show resid [] u = []; exact resid_nil u
/-- one run over some letters -/
theorem resid_run (l : List Nat) : ∀ (u : List Nat), (∀ x ∈ u, x ∈ l) → ∀ w : List Nat, (resid w u).dropWhile (fun c => decide (c ∈ l)) = w.dropWhile (fun c => decide (c ∈ l)) ∧ (resid w u).length ≤ w.length
  | [], _, w => by cases w <;> exact ⟨rfl, Nat.le_refl _⟩
  | x :: u, h, [] => by
    rw [resid_nil]
    exact ⟨rfl, Nat.le_refl _⟩
  | x :: u, h, c :: w => by
    show (if c = x then resid w u else resid (c :: w) u).dropWhile _ = _ ∧ (if c = x then resid w u else resid (c :: w) u).length ≤ _
    by_cases e : c = x
    · rw [if_pos e]
      obtain ⟨h1, h2⟩ := resid_run l u (fun y hy => h y (List.mem_cons_of_mem _ hy)) w
      refine ⟨?_, by simp; omega⟩
      rw [h1]
      have hc : c ∈ l := by rw [e]; exact h x List.mem_cons_self
      simp [List.dropWhile_cons, hc]
    · rw [if_neg e]
      exact resid_run l u (fun y hy => h y (List.mem_cons_of_mem _ hy)) (c :: w)
/-- the head is read -/
theorem resid_head {c : Nat} {w : List Nat} : ∀ {u : List Nat}, c ∈ u → (resid (c :: w) u).length ≤ w.length
  | x :: u, h => by
    show (if c = x then resid w u else resid (c :: w) u).length ≤ _
    by_cases e : c = x
    · rw [if_pos e]
      exact (resid_run (u) u (fun _ z => z) w).2
    · rw [if_neg e]
      have h2 : c ∈ u := by
        rcases List.mem_cons.mp h with z | z
        · exact absurd z e
        · exact z
      exact resid_head h2
theorem resid_none {c : Nat} {w : List Nat} : ∀ {u : List Nat}, ¬ c ∈ u → resid (c :: w) u = c :: w
  | [], _ => rfl
  | x :: u, h => by
    show (if c = x then resid w u else resid (c :: w) u) = _
    rw [if_neg (fun e => h (by rw [e]; exact List.mem_cons_self))]
    exact resid_none fun z => h (List.mem_cons_of_mem _ z)
theorem resid_rep (l : List Nat) : ∀ (n : Nat) (w : List Nat), w.length ≤ n → resid w (List.replicate n l).flatten = w.dropWhile fun c => decide (c ∈ l)
  | 0, w, h => by
    cases w with
    | nil => rfl
    | cons c w => simp at h
  | n + 1, [], h => by rw [resid_nil]; rfl
  | n + 1, c :: w, h => by
    rw [List.replicate_succ, List.flatten_cons, resid_app]
    by_cases hc : c ∈ l
    · have h1 := resid_head (w := w) hc
      rw [resid_rep l n _ (by simp at h; omega)]
      exact (resid_run l l (fun _ z => z) (c :: w)).1
    · have hn : ∀ m, resid (c :: w) (List.replicate m l).flatten = c :: w := fun m => resid_none fun z => by
        rw [List.mem_flatten] at z
        obtain ⟨q, h1, h2⟩ := z
        rw [(List.mem_replicate.mp h1).2] at h2
        exact hc h2
      rw [resid_none hc, hn]
      simp [List.dropWhile_cons, hc]
theorem inL_star (l : List Nat) (p : List Fac) : ∀ w : List Nat, inL ((true, l) :: p) w = inL p (w.dropWhile fun c => decide (c ∈ l))
  | [] => by rw [inL]; rfl
  | c :: w => by
    rw [inL]
    by_cases hc : c ∈ l
    · simp only [hc, decide_true, Bool.true_and]
      rw [show (c :: w).dropWhile (fun c => decide (c ∈ l)) = w.dropWhile (fun c => decide (c ∈ l)) by simp [List.dropWhile_cons, hc], ← inL_star l p w]
      cases e : inL p (c :: w) with
      | false => rfl
      | true => rw [inL_more _ _ _ (inL_down p c w e)]; rfl
    · simp only [hc, decide_false, Bool.false_and, Bool.or_false]
      rw [show (c :: w).dropWhile (fun c => decide (c ∈ l)) = c :: w by simp [List.dropWhile_cons, hc]]
theorem len_drop (f : Nat → Bool) : ∀ w : List Nat, (w.dropWhile f).length ≤ w.length
  | [] => Nat.le_refl _
  | c :: w => by
    rw [List.dropWhile_cons]
    split
    · have := len_drop f w
      simp
      omega
    · exact Nat.le_refl _
theorem unf_in : ∀ (p : List Fac), (∀ f ∈ p, f.1 = false → f.2.length = 1) → ∀ (n : Nat) (w : List Nat), w.length ≤ n → isSub w (unfL p n) = inL p w
  | [], _, n, w, h => by
    show (resid w []).isEmpty = inL [] w
    rw [inL]
    cases w <;> rfl
  | (true, l) :: p, hp, n, w, h => by
    have ih := unf_in p fun f hf => hp f (List.mem_cons_of_mem _ hf)
    have e : unfL ((true, l) :: p) n = (List.replicate n l).flatten ++ unfL p n := by simp [unfL, unfF, repS]
    rw [e, inL_star]
    unfold isSub
    rw [resid_app, resid_rep l n w h]
    exact ih n _ (Nat.le_trans (len_drop _ _) h)
  | (false, l) :: p, hp, n, w, h => by
    have ih := unf_in p fun f hf => hp f (List.mem_cons_of_mem _ hf)
    have hl : l.length = 1 := hp (false, l) List.mem_cons_self rfl
    obtain ⟨x, rfl⟩ : ∃ x, l = [x] := by
      match l, hl with
      | [x], _ => exact ⟨x, rfl⟩
    have e : unfL ((false, [x]) :: p) n = [x] ++ unfL p n := by simp [unfL, unfF]
    rw [e]
    unfold isSub
    rw [resid_app]
    cases w with
    | nil => rw [resid_nil, resid_nil, inL_nil]; rfl
    | cons c w =>
      rw [inL]
      have h' : w.length ≤ n := by simp at h; omega
      by_cases hc : c = x
      · have e2 : resid (c :: w) [x] = w := by show (if c = x then resid w [] else _) = w; rw [if_pos hc]; cases w <;> rfl
        rw [e2]
        have := ih n w h'
        unfold isSub at this
        rw [this]
        simp only [List.mem_singleton, hc, decide_true, Bool.true_and]
        cases e3 : inL p (x :: w) with
        | false => rfl
        | true => rw [inL_down p x w e3]; rfl
      · have e2 : resid (c :: w) [x] = c :: w := by show (if c = x then _ else resid (c :: w) []) = _; rw [if_neg hc]; rfl
        rw [e2]
        have := ih n (c :: w) h
        unfold isSub at this
        rw [this]
        simp [hc]
end
end DM
/-! DMk: the check of a product by places. -/
namespace DM
noncomputable section
open PySem PySem.Spec PyProof.Rows L2 DL
def starG (l : List Nat) : List Bool → List Nat → List Bool
  | b :: b' :: r, c :: w => b :: starG l ((b' || (b && decide (c ∈ l))) :: r) w
  | bs, _ => bs
def optT (l : List Nat) : Bool → List Bool → List Nat → List Bool
  | b, b' :: r, c :: w => (b' || (b && decide (c ∈ l))) :: optT l b' r w
  | _, bs, _ => bs
def dp : List Bool → List Nat → List Fac → Bool
  | [], _, _ => false
  | b :: _, [], p => b && inL p []
  | b :: bs, c :: w, p => (b && inL p (c :: w)) || dp bs w p
theorem dp_or {b x : Bool} {r : List Bool} : ∀ {w : List Nat} {p : List Fac}, dp ((b || x) :: r) w p = ((x && inL p w) || dp (b :: r) w p)
  | [], p => by simp only [dp]; cases b <;> cases x <;> cases inL p [] <;> rfl
  | c :: w, p => by simp only [dp]; cases b <;> cases x <;> cases inL p (c :: w) <;> cases dp r w p <;> rfl
theorem dp_star (l : List Nat) (p : List Fac) : ∀ (w : List Nat) (bs : List Bool), bs.length = w.length + 1 → dp (starG l bs w) w p = dp bs w ((true, l) :: p)
  | [], [b], _ => by
    show (b && inL p []) = (b && inL ((true, l) :: p) [])
    rw [inL_nil, inL_nil]
  | [], [], h => by simp at h
  | [], _ :: _ :: _, h => by simp at h
  | c :: w, [], h => by simp at h
  | c :: w, [b], h => by simp at h
  | c :: w, b :: b' :: r, h => by
    show ((b && inL p (c :: w)) || dp (starG l ((b' || (b && decide (c ∈ l))) :: r) w) w p) = ((b && inL ((true, l) :: p) (c :: w)) || dp (b' :: r) w ((true, l) :: p))
    rw [dp_star l p w _ (by simp at h ⊢; omega), dp_or, inL]
    cases b <;> cases inL p (c :: w) <;> cases decide (c ∈ l) <;> cases inL ((true, l) :: p) w <;> cases dp (b' :: r) w ((true, l) :: p) <;> rfl
theorem dp_opt (l : List Nat) (p : List Fac) : ∀ (w : List Nat) (b : Bool) (bs : List Bool), bs.length = w.length → dp (b :: optT l b bs w) w p = dp (b :: bs) w ((false, l) :: p)
  | [], b, [], _ => by
    show (b && inL p []) = (b && inL ((false, l) :: p) [])
    rw [inL_nil, inL_nil]
  | [], b, _ :: _, h => by simp at h
  | c :: w, b, [], h => by simp at h
  | c :: w, b, b' :: r, h => by
    show ((b && inL p (c :: w)) || dp ((b' || (b && decide (c ∈ l))) :: optT l b' r w) w p) = ((b && inL ((false, l) :: p) (c :: w)) || dp (b' :: r) w ((false, l) :: p))
    rw [dp_or, dp_opt l p w b' r (by simpa using h), inL]
    cases b <;> cases inL p (c :: w) <;> cases decide (c ∈ l) <;> cases inL p w <;> cases dp (b' :: r) w ((false, l) :: p) <;> rfl
theorem dp_false (p : List Fac) : ∀ (w : List Nat), dp (List.replicate (w.length + 1) false) w p = false
  | [] => rfl
  | c :: w => by
    rw [List.length_cons, List.replicate_succ]
    show ((false && _) || dp (List.replicate (w.length + 1) false) w p) = false
    rw [dp_false p w]
    rfl
theorem dp_start (p : List Fac) : ∀ (w : List Nat), dp (true :: List.replicate w.length false) w p = inL p w
  | [] => by show (true && inL p []) = _; simp
  | c :: w => by
    show ((true && inL p (c :: w)) || dp (List.replicate (w.length + 1) false) w p) = _
    rw [dp_false]
    simp
theorem dp_end : ∀ (w : List Nat) (bs : List Bool), bs.length = w.length + 1 → ∃ b, bs[w.length]? = some b ∧ dp bs w [] = b
  | [], [b], _ => ⟨b, rfl, by show (b && inL [] []) = b; simp [inL]⟩
  | [], [], h => by simp at h
  | [], _ :: _ :: _, h => by simp at h
  | c :: w, [], h => by simp at h
  | c :: w, b :: bs, h => by
    obtain ⟨x, h1, h2⟩ := dp_end w bs (by simpa using h)
    refine ⟨x, by simpa using h1, ?_⟩
    show ((b && inL [] (c :: w)) || dp bs w []) = x
    rw [h2]
    simp [inL]
theorem starG_len (l : List Nat) : ∀ (w : List Nat) (bs : List Bool), (starG l bs w).length = bs.length
  | [], bs => by cases bs with | nil => rfl | cons b r => cases r <;> rfl
  | c :: w, [] => rfl
  | c :: w, [b] => rfl
  | c :: w, b :: b' :: r => by
    show (b :: starG l _ w).length = _
    rw [List.length_cons, starG_len l w]
    rfl
theorem optT_len (l : List Nat) : ∀ (w : List Nat) (b : Bool) (bs : List Bool), (optT l b bs w).length = bs.length
  | [], b, bs => by cases bs <;> rfl
  | c :: w, b, [] => rfl
  | c :: w, b, b' :: r => by
    show (_ :: optT l b' r w).length = _
    rw [List.length_cons, optT_len l w, List.length_cons]
theorem atI_nat {α : Type} {xs : List α} {k : Nat} {x : α} (h : xs[k]? = some x) : L2.atI xs (k : Int) = some x := by
  have hk := (List.getElem?_eq_some_iff.mp h).1
  unfold L2.atI L2.ixN
  rw [if_pos (by omega), if_pos (by omega)]
  simpa using h
theorem ixN_nat {n k : Nat} (h : k < n) : L2.ixN n (k : Int) = some k := by
  unfold L2.ixN
  rw [if_pos (by omega), if_pos (by omega)]
  simp
theorem rangeD_eq (n : Nat) : rangeD 0 (n : Int) = (List.range' 0 n).map fun (i : Nat) => D.int (i : Int) := by
  unfold rangeD
  rw [List.range_eq_range']
  simp
def blsD (bs : List Bool) : D := .lst (bs.map .bl)
/-- one turn's body -/
def turB : DL.C := (sWipe [6, 7] (sSeq (sAsg (eIf (tBool (eBin eqD (aV 3) (aE (eC (.str [115, 116, 97, 114]))))) (eVar 2) (eVar 5)) (tgN 7))
        (sIf (tAn (tTru (aE (eBin ixD (aV 7) (aV 6)))) (tBool (eBin inD (aE (eBin ixD (aV 1) (aV 6))) (aV 4))))
          (sAsg (eC (.bl true)) (tgSub (aV 2) (eBin addD (aV 6) (aE (eC (.int 1))))))
          sNil)))
theorem turn_star {p : D} {w l : List Nat} {k c : Nat} {b b' : Bool} {bf T u : D} {dn r : List Bool} (hk : dn.length = k) (hw : w[k]? = some c) (hw2 : w.length ≤ 100000) :
    turB ⟨[.val p, .val (.str w), .val (.obj 1), .val (.str [115, 116, 97, 114]), .val (.str l), .val bf, .val (.int k), .un], [T, blsD (dn ++ b :: b' :: r)]⟩ =
      .nx ⟨[.val p, .val (.str w), .val (.obj 1), .val (.str [115, 116, 97, 114]), .val (.str l), .val bf, .un, .un], [T, blsD (dn ++ b :: (b' || (b && decide (c ∈ l))) :: r)]⟩ := by
  have h1 : L2.atI ((dn ++ b :: b' :: r).map D.bl) (k : Int) = some (.bl b) := atI_nat (by subst hk; simp)
  have h2 : L2.atI w (k : Int) = some c := atI_nat hw
  have h3 : L2.ixN ((dn ++ b :: b' :: r).map D.bl).length ((k : Int) + 1) = some (k + 1) := by
    have := ixN_nat (n := ((dn ++ b :: b' :: r).map D.bl).length) (k := k + 1) (by subst hk; simp)
    exact this
  have h4 : ((dn ++ b :: b' :: r).map D.bl).set (k + 1) (.bl true) = (dn ++ b :: true :: r).map D.bl := by
    subst hk
    simp [List.set_append]
  have h5 : w.length ≤ 16777216 := by omega
  simp only [List.map_append, List.map_cons] at h1 h3 h4
  cases b with
  | false => simp [turB, blsD, DL.Ou.bind, DL.aV, DL.aE, DL.eC, DL.eVar, DL.slR, DL.eBin, DL.eUn, DL.rd2, DL.rd, DL.rd0, DL.deref, DL.slD, DL.ofO, DL.eArgs, DL.eArgsP, DL.eTup, DL.eLst, DL.rdL, DL.eFun, DL.eIf, DL.eNt, DL.eAnd, DL.eOrr, DL.tTru, DL.tBool, DL.tNt, DL.tAn, DL.tOrr, DL.truD, DL.sNil, DL.sSeq, DL.ouF, DL.sIf, DL.sRet, DL.sRetN, DL.sEx, DL.sAsg, DL.tgN, DL.nxO, DL.sSetO, DL.sSetS, DL.sWipe, DL.wipeS, DL.tgTs, DL.tgT, DL.sPar, DL.sParO, DL.sRetV, DL.tgSub, DL.wrAt, DL.setAtD, DL.lenD, DL.ixD, DL.ltD, DL.leD, DL.gtD, DL.geD, DL.addD, DL.subD, DL.mulD, DL.modD, DL.fdivD, DL.powD, DL.negD, DL.isNotD, DL.notD, DL.notInD, DL.lookD, DL.putD, DL.sameKey, DL.keyEq, DL.goodKey, DL.keyOf, DL.keysOf, DL.mergeD, DL.allKeys, DL.dispOk, DL.ePairs, DL.eDisp, DL.eCall, DL.foE, DL.retO, DL.listD, DL.tupD, DL.joinD, DL.seqD, DL.strsOf, DL.isStr, DL.eJoin, DL.eSl, DL.ePart, DL.cutD, DL.sBk, DL.sCt, DL.turnF, DL.forL, DL.compL, DL.eComp, DL.tYs, DL.itemsD, DL.iSeq, DL.iRange1, DL.iRange2, DL.iEnumD, DL.sFor, DL.sMutL, DL.isL, DL.appD, DL.extD, DL.repD, DL.catD, DL.szOk, DL.smallI, DL.mulOk, DM.eqD_ss, DM.eqD_ii, DM.eqD_bb, DM.neD_ss, DM.neD_ii, DM.neD_bb, DM.inD_s, DM.isD_n, DM.isD_t, DM.isD_b, sizeLine_eq, h1, h2, h5]
  | true =>
    by_cases hc : c ∈ l
    · simp only [hc, decide_true, Bool.and_true, Bool.or_true]
      simp [turB, blsD, DL.Ou.bind, DL.aV, DL.aE, DL.eC, DL.eVar, DL.slR, DL.eBin, DL.eUn, DL.rd2, DL.rd, DL.rd0, DL.deref, DL.slD, DL.ofO, DL.eArgs, DL.eArgsP, DL.eTup, DL.eLst, DL.rdL, DL.eFun, DL.eIf, DL.eNt, DL.eAnd, DL.eOrr, DL.tTru, DL.tBool, DL.tNt, DL.tAn, DL.tOrr, DL.truD, DL.sNil, DL.sSeq, DL.ouF, DL.sIf, DL.sRet, DL.sRetN, DL.sEx, DL.sAsg, DL.tgN, DL.nxO, DL.sSetO, DL.sSetS, DL.sWipe, DL.wipeS, DL.tgTs, DL.tgT, DL.sPar, DL.sParO, DL.sRetV, DL.tgSub, DL.wrAt, DL.setAtD, DL.lenD, DL.ixD, DL.ltD, DL.leD, DL.gtD, DL.geD, DL.addD, DL.subD, DL.mulD, DL.modD, DL.fdivD, DL.powD, DL.negD, DL.isNotD, DL.notD, DL.notInD, DL.lookD, DL.putD, DL.sameKey, DL.keyEq, DL.goodKey, DL.keyOf, DL.keysOf, DL.mergeD, DL.allKeys, DL.dispOk, DL.ePairs, DL.eDisp, DL.eCall, DL.foE, DL.retO, DL.listD, DL.tupD, DL.joinD, DL.seqD, DL.strsOf, DL.isStr, DL.eJoin, DL.eSl, DL.ePart, DL.cutD, DL.sBk, DL.sCt, DL.turnF, DL.forL, DL.compL, DL.eComp, DL.tYs, DL.itemsD, DL.iSeq, DL.iRange1, DL.iRange2, DL.iEnumD, DL.sFor, DL.sMutL, DL.isL, DL.appD, DL.extD, DL.repD, DL.catD, DL.szOk, DL.smallI, DL.mulOk, DM.eqD_ss, DM.eqD_ii, DM.eqD_bb, DM.neD_ss, DM.neD_ii, DM.neD_bb, DM.inD_s, DM.isD_n, DM.isD_t, DM.isD_b, sizeLine_eq, h1, h2, h5, hc]
      simp at h3
      simp [h3, h4]
    · simp [turB, blsD, DL.Ou.bind, DL.aV, DL.aE, DL.eC, DL.eVar, DL.slR, DL.eBin, DL.eUn, DL.rd2, DL.rd, DL.rd0, DL.deref, DL.slD, DL.ofO, DL.eArgs, DL.eArgsP, DL.eTup, DL.eLst, DL.rdL, DL.eFun, DL.eIf, DL.eNt, DL.eAnd, DL.eOrr, DL.tTru, DL.tBool, DL.tNt, DL.tAn, DL.tOrr, DL.truD, DL.sNil, DL.sSeq, DL.ouF, DL.sIf, DL.sRet, DL.sRetN, DL.sEx, DL.sAsg, DL.tgN, DL.nxO, DL.sSetO, DL.sSetS, DL.sWipe, DL.wipeS, DL.tgTs, DL.tgT, DL.sPar, DL.sParO, DL.sRetV, DL.tgSub, DL.wrAt, DL.setAtD, DL.lenD, DL.ixD, DL.ltD, DL.leD, DL.gtD, DL.geD, DL.addD, DL.subD, DL.mulD, DL.modD, DL.fdivD, DL.powD, DL.negD, DL.isNotD, DL.notD, DL.notInD, DL.lookD, DL.putD, DL.sameKey, DL.keyEq, DL.goodKey, DL.keyOf, DL.keysOf, DL.mergeD, DL.allKeys, DL.dispOk, DL.ePairs, DL.eDisp, DL.eCall, DL.foE, DL.retO, DL.listD, DL.tupD, DL.joinD, DL.seqD, DL.strsOf, DL.isStr, DL.eJoin, DL.eSl, DL.ePart, DL.cutD, DL.sBk, DL.sCt, DL.turnF, DL.forL, DL.compL, DL.eComp, DL.tYs, DL.itemsD, DL.iSeq, DL.iRange1, DL.iRange2, DL.iEnumD, DL.sFor, DL.sMutL, DL.isL, DL.appD, DL.extD, DL.repD, DL.catD, DL.szOk, DL.smallI, DL.mulOk, DM.eqD_ss, DM.eqD_ii, DM.eqD_bb, DM.neD_ss, DM.neD_ii, DM.neD_bb, DM.inD_s, DM.isD_n, DM.isD_t, DM.isD_b, sizeLine_eq, h1, h2, h5, hc]
theorem turn_opt {p : D} {w l : List Nat} {k c : Nat} {b b' x : Bool} {og : List Bool} {T u : D} {dn r : List Bool} (hk : dn.length = k) (ho : og[k]? = some b) (hw : w[k]? = some c) (hw2 : w.length ≤ 100000) :
    turB ⟨[.val p, .val (.str w), .val (.obj 1), .val (.str [111, 112, 116]), .val (.str l), .val (blsD og), .val (.int k), .un], [T, blsD (dn ++ x :: b' :: r)]⟩ =
      .nx ⟨[.val p, .val (.str w), .val (.obj 1), .val (.str [111, 112, 116]), .val (.str l), .val (blsD og), .un, .un], [T, blsD (dn ++ x :: (b' || (b && decide (c ∈ l))) :: r)]⟩ := by
  have h1 : L2.atI (og.map D.bl) (k : Int) = some (.bl b) := atI_nat (by rw [List.getElem?_map, ho]; rfl)
  have h2 : L2.atI w (k : Int) = some c := atI_nat hw
  have h3 : L2.ixN ((dn ++ x :: b' :: r).map D.bl).length ((k : Int) + 1) = some (k + 1) := by
    have := ixN_nat (n := ((dn ++ x :: b' :: r).map D.bl).length) (k := k + 1) (by subst hk; simp)
    exact this
  have h4 : ((dn ++ x :: b' :: r).map D.bl).set (k + 1) (.bl true) = (dn ++ x :: true :: r).map D.bl := by
    subst hk
    simp [List.set_append]
  have h5 : w.length ≤ 16777216 := by omega
  simp only [List.map_append, List.map_cons] at h3 h4
  cases b with
  | false => simp [turB, blsD, DL.Ou.bind, DL.aV, DL.aE, DL.eC, DL.eVar, DL.slR, DL.eBin, DL.eUn, DL.rd2, DL.rd, DL.rd0, DL.deref, DL.slD, DL.ofO, DL.eArgs, DL.eArgsP, DL.eTup, DL.eLst, DL.rdL, DL.eFun, DL.eIf, DL.eNt, DL.eAnd, DL.eOrr, DL.tTru, DL.tBool, DL.tNt, DL.tAn, DL.tOrr, DL.truD, DL.sNil, DL.sSeq, DL.ouF, DL.sIf, DL.sRet, DL.sRetN, DL.sEx, DL.sAsg, DL.tgN, DL.nxO, DL.sSetO, DL.sSetS, DL.sWipe, DL.wipeS, DL.tgTs, DL.tgT, DL.sPar, DL.sParO, DL.sRetV, DL.tgSub, DL.wrAt, DL.setAtD, DL.lenD, DL.ixD, DL.ltD, DL.leD, DL.gtD, DL.geD, DL.addD, DL.subD, DL.mulD, DL.modD, DL.fdivD, DL.powD, DL.negD, DL.isNotD, DL.notD, DL.notInD, DL.lookD, DL.putD, DL.sameKey, DL.keyEq, DL.goodKey, DL.keyOf, DL.keysOf, DL.mergeD, DL.allKeys, DL.dispOk, DL.ePairs, DL.eDisp, DL.eCall, DL.foE, DL.retO, DL.listD, DL.tupD, DL.joinD, DL.seqD, DL.strsOf, DL.isStr, DL.eJoin, DL.eSl, DL.ePart, DL.cutD, DL.sBk, DL.sCt, DL.turnF, DL.forL, DL.compL, DL.eComp, DL.tYs, DL.itemsD, DL.iSeq, DL.iRange1, DL.iRange2, DL.iEnumD, DL.sFor, DL.sMutL, DL.isL, DL.appD, DL.extD, DL.repD, DL.catD, DL.szOk, DL.smallI, DL.mulOk, DM.eqD_ss, DM.eqD_ii, DM.eqD_bb, DM.neD_ss, DM.neD_ii, DM.neD_bb, DM.inD_s, DM.isD_n, DM.isD_t, DM.isD_b, sizeLine_eq, h1, h2, h5]
  | true =>
    by_cases hc : c ∈ l
    · simp only [hc, decide_true, Bool.and_true, Bool.or_true]
      simp [turB, blsD, DL.Ou.bind, DL.aV, DL.aE, DL.eC, DL.eVar, DL.slR, DL.eBin, DL.eUn, DL.rd2, DL.rd, DL.rd0, DL.deref, DL.slD, DL.ofO, DL.eArgs, DL.eArgsP, DL.eTup, DL.eLst, DL.rdL, DL.eFun, DL.eIf, DL.eNt, DL.eAnd, DL.eOrr, DL.tTru, DL.tBool, DL.tNt, DL.tAn, DL.tOrr, DL.truD, DL.sNil, DL.sSeq, DL.ouF, DL.sIf, DL.sRet, DL.sRetN, DL.sEx, DL.sAsg, DL.tgN, DL.nxO, DL.sSetO, DL.sSetS, DL.sWipe, DL.wipeS, DL.tgTs, DL.tgT, DL.sPar, DL.sParO, DL.sRetV, DL.tgSub, DL.wrAt, DL.setAtD, DL.lenD, DL.ixD, DL.ltD, DL.leD, DL.gtD, DL.geD, DL.addD, DL.subD, DL.mulD, DL.modD, DL.fdivD, DL.powD, DL.negD, DL.isNotD, DL.notD, DL.notInD, DL.lookD, DL.putD, DL.sameKey, DL.keyEq, DL.goodKey, DL.keyOf, DL.keysOf, DL.mergeD, DL.allKeys, DL.dispOk, DL.ePairs, DL.eDisp, DL.eCall, DL.foE, DL.retO, DL.listD, DL.tupD, DL.joinD, DL.seqD, DL.strsOf, DL.isStr, DL.eJoin, DL.eSl, DL.ePart, DL.cutD, DL.sBk, DL.sCt, DL.turnF, DL.forL, DL.compL, DL.eComp, DL.tYs, DL.itemsD, DL.iSeq, DL.iRange1, DL.iRange2, DL.iEnumD, DL.sFor, DL.sMutL, DL.isL, DL.appD, DL.extD, DL.repD, DL.catD, DL.szOk, DL.smallI, DL.mulOk, DM.eqD_ss, DM.eqD_ii, DM.eqD_bb, DM.neD_ss, DM.neD_ii, DM.neD_bb, DM.inD_s, DM.isD_n, DM.isD_t, DM.isD_b, sizeLine_eq, h1, h2, h5, hc]
      simp at h3
      simp [h3, h4]
    · simp [turB, blsD, DL.Ou.bind, DL.aV, DL.aE, DL.eC, DL.eVar, DL.slR, DL.eBin, DL.eUn, DL.rd2, DL.rd, DL.rd0, DL.deref, DL.slD, DL.ofO, DL.eArgs, DL.eArgsP, DL.eTup, DL.eLst, DL.rdL, DL.eFun, DL.eIf, DL.eNt, DL.eAnd, DL.eOrr, DL.tTru, DL.tBool, DL.tNt, DL.tAn, DL.tOrr, DL.truD, DL.sNil, DL.sSeq, DL.ouF, DL.sIf, DL.sRet, DL.sRetN, DL.sEx, DL.sAsg, DL.tgN, DL.nxO, DL.sSetO, DL.sSetS, DL.sWipe, DL.wipeS, DL.tgTs, DL.tgT, DL.sPar, DL.sParO, DL.sRetV, DL.tgSub, DL.wrAt, DL.setAtD, DL.lenD, DL.ixD, DL.ltD, DL.leD, DL.gtD, DL.geD, DL.addD, DL.subD, DL.mulD, DL.modD, DL.fdivD, DL.powD, DL.negD, DL.isNotD, DL.notD, DL.notInD, DL.lookD, DL.putD, DL.sameKey, DL.keyEq, DL.goodKey, DL.keyOf, DL.keysOf, DL.mergeD, DL.allKeys, DL.dispOk, DL.ePairs, DL.eDisp, DL.eCall, DL.foE, DL.retO, DL.listD, DL.tupD, DL.joinD, DL.seqD, DL.strsOf, DL.isStr, DL.eJoin, DL.eSl, DL.ePart, DL.cutD, DL.sBk, DL.sCt, DL.turnF, DL.forL, DL.compL, DL.eComp, DL.tYs, DL.itemsD, DL.iSeq, DL.iRange1, DL.iRange2, DL.iEnumD, DL.sFor, DL.sMutL, DL.isL, DL.appD, DL.extD, DL.repD, DL.catD, DL.szOk, DL.smallI, DL.mulOk, DM.eqD_ss, DM.eqD_ii, DM.eqD_bb, DM.neD_ss, DM.neD_ii, DM.neD_bb, DM.inD_s, DM.isD_n, DM.isD_t, DM.isD_b, sizeLine_eq, h1, h2, h5, hc]
theorem inner_star {p : D} {w l : List Nat} {bf T : D} (hw2 : w.length ≤ 100000) : ∀ (v : List Nat) (k : Nat) (dn cur : List Bool), dn.length = k → cur.length = v.length + 1 → w.drop k = v →
    forL (tgN 6) turB ((List.range' k v.length).map fun (i : Nat) => D.int (i : Int)) ⟨[.val p, .val (.str w), .val (.obj 1), .val (.str [115, 116, 97, 114]), .val (.str l), .val bf, .un, .un], [T, blsD (dn ++ cur)]⟩ =
      .nx ⟨[.val p, .val (.str w), .val (.obj 1), .val (.str [115, 116, 97, 114]), .val (.str l), .val bf, .un, .un], [T, blsD (dn ++ starG l cur v)]⟩
  | [], k, dn, cur, hk, hc, hv => by
    have : starG l cur [] = cur := by cases cur with | nil => rfl | cons b r => cases r <;> rfl
    rw [this]
    rfl
  | c :: v, k, dn, b :: b' :: r, hk, hc, hv => by
    have hwk : w[k]? = some c := by
      have : (w.drop k)[0]? = some c := by rw [hv]; rfl
      simpa using this
    have hv2 : w.drop (k + 1) = v := by rw [← List.tail_drop, hv]; rfl
    have t := turn_star (p := p) (bf := bf) (T := T) (u := T) (l := l) (b := b) (b' := b') (r := r) hk hwk hw2
    rw [List.length_cons, List.range'_succ, List.map_cons]
    unfold forL
    show turnF (turB ⟨[.val p, .val (.str w), .val (.obj 1), .val (.str [115, 116, 97, 114]), .val (.str l), .val bf, .val (.int k), .un], [T, blsD (dn ++ b :: b' :: r)]⟩) _ = _
    rw [t]
    have ih := inner_star (p := p) (bf := bf) (T := T) (l := l) hw2 v (k + 1) (dn ++ [b]) ((b' || (b && decide (c ∈ l))) :: r) (by simp [hk]) (by simp at hc ⊢; omega) hv2
    rw [List.append_assoc, List.append_assoc] at ih
    exact ih
  | c :: v, k, dn, [], hk, hc, hv => by simp at hc
  | c :: v, k, dn, [b], hk, hc, hv => by simp at hc
theorem inner_opt {p : D} {w l : List Nat} {T : D} {og : List Bool} (hw2 : w.length ≤ 100000) : ∀ (v : List Nat) (k : Nat) (dn : List Bool) (x b : Bool) (r : List Bool), dn.length = k → r.length = v.length → w.drop k = v → og.drop k = b :: r →
    forL (tgN 6) turB ((List.range' k v.length).map fun (i : Nat) => D.int (i : Int)) ⟨[.val p, .val (.str w), .val (.obj 1), .val (.str [111, 112, 116]), .val (.str l), .val (blsD og), .un, .un], [T, blsD (dn ++ x :: r)]⟩ =
      .nx ⟨[.val p, .val (.str w), .val (.obj 1), .val (.str [111, 112, 116]), .val (.str l), .val (blsD og), .un, .un], [T, blsD (dn ++ x :: optT l b r v)]⟩
  | [], k, dn, x, b, r, hk, hc, hv, ho => by
    have : optT l b r [] = r := by cases r <;> rfl
    rw [this]
    rfl
  | c :: v, k, dn, x, b, b' :: r, hk, hc, hv, ho => by
    have hwk : w[k]? = some c := by
      have : (w.drop k)[0]? = some c := by rw [hv]; rfl
      simpa using this
    have hok : og[k]? = some b := by
      have : (og.drop k)[0]? = some b := by rw [ho]; rfl
      simpa using this
    have hv2 : w.drop (k + 1) = v := by rw [← List.tail_drop, hv]; rfl
    have ho2 : og.drop (k + 1) = b' :: r := by rw [← List.tail_drop, ho]; rfl
    have t := turn_opt (p := p) (T := T) (u := T) (l := l) (b' := b') (x := x) (r := r) hk hok hwk hw2
    rw [List.length_cons, List.range'_succ, List.map_cons]
    unfold forL
    show turnF (turB ⟨[.val p, .val (.str w), .val (.obj 1), .val (.str [111, 112, 116]), .val (.str l), .val (blsD og), .val (.int k), .un], [T, blsD (dn ++ x :: b' :: r)]⟩) _ = _
    rw [t]
    have ih := inner_opt (p := p) (T := T) (l := l) (og := og) hw2 v (k + 1) (dn ++ [x]) (b' || (b && decide (c ∈ l))) b' r (by simp [hk]) (by simpa using hc) hv2 ho2
    rw [List.append_assoc, List.append_assoc] at ih
    exact ih
  | c :: v, k, dn, x, b, [], hk, hc, hv, ho => by simp at hc
def facB : DL.C := (sWipe [3, 4, 5, 6, 7] (sSeq (sAsg (eFun listD [(aV 2)]) (tgN 5))
      (sFor (iRange1 (eFun lenD [(aV 1)])) (tgN 6) turB)))
theorem fac_ok {p : D} {w : List Nat} {T : D} {f : Fac} {bs : List Bool} (hw2 : w.length ≤ 100000) (hb : bs.length = w.length + 1) : ∃ bs', bs'.length = w.length + 1 ∧ (∀ q, dp bs' w q = dp bs w (f :: q)) ∧ ∃ k l, facD f = .tup [.str k, .str l] ∧
    facB ⟨[.val p, .val (.str w), .val (.obj 1), .val (.str k), .val (.str l), .un, .un, .un], [T, blsD bs]⟩ = .nx ⟨[.val p, .val (.str w), .val (.obj 1), .un, .un, .un, .un, .un], [T, blsD bs']⟩ := by
  obtain ⟨b, l⟩ := f
  have h5 : w.length ≤ 16777216 := by omega
  have h6 : (-4611686018427387904 : Int) ≤ (w.length : Int) := by omega
  have h7 : (w.length : Int) < 4611686018427387904 := by omega
  have hr := rangeD_eq w.length
  cases b with
  | true =>
    refine ⟨starG l bs w, by rw [starG_len, hb], fun q => dp_star l q w bs hb, [115, 116, 97, 114], l, rfl, ?_⟩
    have h := inner_star (p := p) (T := T) (l := l) (bf := blsD bs) hw2 w 0 [] bs rfl hb rfl
    simp only [List.nil_append] at h
    simp [facB, DL.Ou.bind, DL.aV, DL.aE, DL.eC, DL.eVar, DL.slR, DL.eBin, DL.eUn, DL.rd2, DL.rd, DL.rd0, DL.deref, DL.slD, DL.ofO, DL.eArgs, DL.eArgsP, DL.eTup, DL.eLst, DL.rdL, DL.eFun, DL.eIf, DL.eNt, DL.eAnd, DL.eOrr, DL.tTru, DL.tBool, DL.tNt, DL.tAn, DL.tOrr, DL.truD, DL.sNil, DL.sSeq, DL.ouF, DL.sIf, DL.sRet, DL.sRetN, DL.sEx, DL.sAsg, DL.tgN, DL.nxO, DL.sSetO, DL.sSetS, DL.sWipe, DL.wipeS, DL.tgTs, DL.tgT, DL.sPar, DL.sParO, DL.sRetV, DL.tgSub, DL.wrAt, DL.setAtD, DL.lenD, DL.ixD, DL.ltD, DL.leD, DL.gtD, DL.geD, DL.addD, DL.subD, DL.mulD, DL.modD, DL.fdivD, DL.powD, DL.negD, DL.isNotD, DL.notD, DL.notInD, DL.lookD, DL.putD, DL.sameKey, DL.keyEq, DL.goodKey, DL.keyOf, DL.keysOf, DL.mergeD, DL.allKeys, DL.dispOk, DL.ePairs, DL.eDisp, DL.eCall, DL.foE, DL.retO, DL.listD, DL.tupD, DL.joinD, DL.seqD, DL.strsOf, DL.isStr, DL.eJoin, DL.eSl, DL.ePart, DL.cutD, DL.sBk, DL.sCt, DL.turnF, DL.forL, DL.compL, DL.eComp, DL.tYs, DL.itemsD, DL.iSeq, DL.iRange1, DL.iRange2, DL.iEnumD, DL.sFor, DL.sMutL, DL.isL, DL.appD, DL.extD, DL.repD, DL.catD, DL.szOk, DL.smallI, DL.mulOk, DM.eqD_ss, DM.eqD_ii, DM.eqD_bb, DM.neD_ss, DM.neD_ii, DM.neD_bb, DM.inD_s, DM.isD_n, DM.isD_t, DM.isD_b, sizeLine_eq, blsD, h5, h6, h7, hr] at h ⊢
    simp [h]
  | false =>
    cases bs with
    | nil => simp at hb
    | cons b r =>
      refine ⟨b :: optT l b r w, by rw [List.length_cons, optT_len]; simpa using hb, fun q => dp_opt l q w b r (by simpa using hb), [111, 112, 116], l, rfl, ?_⟩
      have h := inner_opt (p := p) (T := T) (l := l) (og := b :: r) hw2 w 0 [] b b r rfl (by simpa using hb) rfl rfl
      simp only [List.nil_append] at h
      simp [facB, DL.Ou.bind, DL.aV, DL.aE, DL.eC, DL.eVar, DL.slR, DL.eBin, DL.eUn, DL.rd2, DL.rd, DL.rd0, DL.deref, DL.slD, DL.ofO, DL.eArgs, DL.eArgsP, DL.eTup, DL.eLst, DL.rdL, DL.eFun, DL.eIf, DL.eNt, DL.eAnd, DL.eOrr, DL.tTru, DL.tBool, DL.tNt, DL.tAn, DL.tOrr, DL.truD, DL.sNil, DL.sSeq, DL.ouF, DL.sIf, DL.sRet, DL.sRetN, DL.sEx, DL.sAsg, DL.tgN, DL.nxO, DL.sSetO, DL.sSetS, DL.sWipe, DL.wipeS, DL.tgTs, DL.tgT, DL.sPar, DL.sParO, DL.sRetV, DL.tgSub, DL.wrAt, DL.setAtD, DL.lenD, DL.ixD, DL.ltD, DL.leD, DL.gtD, DL.geD, DL.addD, DL.subD, DL.mulD, DL.modD, DL.fdivD, DL.powD, DL.negD, DL.isNotD, DL.notD, DL.notInD, DL.lookD, DL.putD, DL.sameKey, DL.keyEq, DL.goodKey, DL.keyOf, DL.keysOf, DL.mergeD, DL.allKeys, DL.dispOk, DL.ePairs, DL.eDisp, DL.eCall, DL.foE, DL.retO, DL.listD, DL.tupD, DL.joinD, DL.seqD, DL.strsOf, DL.isStr, DL.eJoin, DL.eSl, DL.ePart, DL.cutD, DL.sBk, DL.sCt, DL.turnF, DL.forL, DL.compL, DL.eComp, DL.tYs, DL.itemsD, DL.iSeq, DL.iRange1, DL.iRange2, DL.iEnumD, DL.sFor, DL.sMutL, DL.isL, DL.appD, DL.extD, DL.repD, DL.catD, DL.szOk, DL.smallI, DL.mulOk, DM.eqD_ss, DM.eqD_ii, DM.eqD_bb, DM.neD_ss, DM.neD_ii, DM.neD_bb, DM.inD_s, DM.isD_n, DM.isD_t, DM.isD_b, sizeLine_eq, blsD, h5, h6, h7, hr] at h ⊢
      simp [h]
theorem ip_rep (n : Nat) : (List.replicate n [D.bl false]).flatten = (List.replicate n false).map D.bl := by
  induction n with
  | zero => rfl
  | succ n ih => rw [List.replicate_succ, List.flatten_cons, ih, List.replicate_succ]; rfl
def ipS : DL.E := eBin catD (aE (eLst [(eC (.bl true))])) (aE (eBin repD (aE (eLst [(eC (.bl false))])) (aE (eFun lenD [(aV 1)]))))
def ipR : DL.C := sRet (eBin ixD (aV 2) (aE (eFun lenD [(aV 1)])))
theorem ip_repD (n : Nat) (h : n ≤ 100000) : repD (.lst [.bl false]) (.int n) = some (.lst ((List.replicate n false).map D.bl)) := by
  have h1 : smallI n = true := by
    unfold smallI
    rw [Bool.and_eq_true]
    exact ⟨decide_eq_true (by omega), decide_eq_true (by omega)⟩
  have h2 : szOk ([D.bl false].length * (n : Int).toNat) := by
    show 1 * (n : Int).toNat ≤ sizeLine
    rw [sizeLine_eq]
    omega
  show (if smallI n = true ∧ szOk ([D.bl false].length * (n : Int).toNat) then some (D.lst (List.replicate (n : Int).toNat [D.bl false]).flatten) else none) = _
  rw [if_pos ⟨h1, h2⟩, Int.toNat_natCast, ip_rep]
theorem ip_catD (xs : List D) (h : xs.length ≤ 100000) : catD (.lst [.bl true]) (.lst xs) = some (.lst (.bl true :: xs)) := by
  have h2 : szOk ([D.bl true].length + xs.length) := by
    show 1 + xs.length ≤ sizeLine
    rw [sizeLine_eq]
    omega
  show (if szOk ([D.bl true].length + xs.length) then some (D.lst ([D.bl true] ++ xs)) else none) = _
  rw [if_pos h2]
  rfl
theorem lenD_s (x : List Nat) (h : x.length ≤ 16777216) : lenD [.str x] = some (.int x.length) := by
  have h2 : szOk x.length := by
    show x.length ≤ sizeLine
    rw [sizeLine_eq]
    exact h
  show (if szOk x.length then some (D.int x.length) else none) = _
  rw [if_pos h2]
theorem eBin_eq {op : D → D → Option D} {ma mb : EP'} {st s1 s2 : Sts} {p q : Pre} {x y d : D} (h1 : ma st = .ok p s1) (h2 : mb s1 = .ok q s2) (h3 : rd p s2 = some x) (h4 : rd q s2 = some y) (h5 : op x y = some d) : eBin op ma mb st = .ok d s2 := by
  unfold eBin
  rw [h1]
  show (mb s1).bind _ = _
  rw [h2]
  show ofO (rd2 p q s2 op) s2 = _
  unfold rd2
  rw [h3]
  show ofO ((rd q s2).bind fun y => op x y) s2 = _
  rw [h4]
  show ofO (op x y) s2 = _
  rw [h5]
  rfl
theorem eFun1_eq {f : List D → Option D} {m : EP'} {st s1 : Sts} {p : Pre} {x d : D} (h1 : m st = .ok p s1) (h2 : rd p s1 = some x) (h3 : f [x] = some d) : eFun f [m] st = .ok d s1 := by
  have e1 : eArgsP [m] st = .ok [p] s1 := by
    show (m st).bind _ = _
    rw [h1]
    rfl
  have e2 : rdL [p] s1 = some [x] := by
    show (rd p s1).bind _ = _
    rw [h2]
    rfl
  unfold eFun
  rw [e1]
  show ofO ((rdL [p] s1).bind f) s1 = _
  rw [e2]
  show ofO (f [x]) s1 = _
  rw [h3]
  rfl
theorem aE_eq {m : DL.E} {st s1 : Sts} {d : D} (h : m st = .ok d s1) : aE m st = .ok (.d d) s1 := by
  unfold aE
  rw [h]
  rfl
theorem eArgs_c {m : DL.E} {ms : List DL.E} {st s1 s2 : Sts} {d : D} {ds : List D} (h1 : m st = .ok d s1) (h2 : eArgs ms s1 = .ok ds s2) : eArgs (m :: ms) st = .ok (d :: ds) s2 := by
  rw [eArgs, h1]
  simp only [Ou.bind]
  rw [h2]
theorem eArgs_n {st : Sts} : eArgs [] st = .ok [] st := by rw [eArgs]
theorem eCall_eq {f : Fn} {ms : List DL.E} {st s : Sts} {ds : List D} {d : D} {S' : List D} (h : eArgs ms st = .ok ds s) (h2 : f ds s.S = .ok d S') : eCall f ms st = .ok d ⟨s.ρ, S'⟩ := by
  unfold eCall
  rw [h]
  simp only [Ou.bind]
  rw [h2]
  simp only [foE]
theorem sSetO_eq {i : Nat} {m : DL.E} {st s : Sts} {d : D} (h : m st = .ok d s) : sSetO i m st = .nx ⟨s.ρ.set i (.own d), s.S⟩ := by
  unfold sSetO
  rw [h]
  simp only [ouF]
theorem sSeq_nx {c d : DL.C} {st s : Sts} (h : c st = .nx s) : sSeq c d st = d s := by
  unfold sSeq
  rw [h]
theorem sSeq_rt {c e : DL.C} {st s : Sts} {d : D} (h : c st = .rt d s) : sSeq c e st = .rt d s := by
  unfold sSeq
  rw [h]
theorem sRet_eq {m : DL.E} {st s : Sts} {d : D} (h : m st = .ok d s) : sRet m st = .rt d s := by
  unfold sRet
  rw [h]
  rfl
theorem sFor_eq {it : Sts → Ou (List D)} {tg : Tg} {body : DL.C} {st s : Sts} {ds : List D} (h : it st = .ok ds s) : sFor it tg body st = forL tg body ds s := by
  unfold sFor
  rw [h]
  rfl
theorem sWipe_nx {is : List Nat} {c : DL.C} {st s : Sts} (h : c st = .nx s) : sWipe is c st = .nx (wipeS is s) := by
  unfold sWipe
  rw [h]
theorem sWipe_rt {is : List Nat} {c : DL.C} {st s : Sts} {d : D} (h : c st = .rt d s) : sWipe is c st = .rt d s := by
  unfold sWipe
  rw [h]
theorem tBool_eq {m : DL.E} {st s : Sts} {k : Bool} (h : m st = .ok (.bl k) s) : tBool m st = .ok k s := by
  unfold tBool
  rw [h]
  rfl
theorem tTru_eq {m : EP'} {st s : Sts} {p : Pre} {d : D} {k : Bool} (h : m st = .ok p s) (h2 : rd p s = some d) (h3 : truD d = some k) : tTru m st = .ok k s := by
  unfold tTru
  rw [h]
  simp only [Ou.bind]
  rw [h2]
  show (match truD d with | some k => Ou.ok k s | none => .bad) = _
  rw [h3]
theorem tNt_eq {t : DL.T} {st s : Sts} {k : Bool} (h : t st = .ok k s) : tNt t st = .ok (!k) s := by
  unfold tNt
  rw [h]
  rfl
theorem tAn_t {t u : DL.T} {st s : Sts} (h : t st = .ok true s) : tAn t u st = u s := by
  unfold tAn
  rw [h]
  rfl
theorem tAn_f {t u : DL.T} {st s : Sts} (h : t st = .ok false s) : tAn t u st = .ok false s := by
  unfold tAn
  rw [h]
  rfl
theorem sIf_t {t : DL.T} {c d : DL.C} {st s : Sts} (h : t st = .ok true s) : sIf t c d st = c s := by
  unfold sIf
  rw [h]
  rfl
theorem sIf_f {t : DL.T} {c d : DL.C} {st s : Sts} (h : t st = .ok false s) : sIf t c d st = d s := by
  unfold sIf
  rw [h]
  rfl
theorem sAsg_eq {m : DL.E} {t : Tg} {st s s' : Sts} {d : D} (h : m st = .ok d s) (h2 : t d s = some s') : sAsg m t st = .nx s' := by
  unfold sAsg
  rw [h]
  show nxO (t d s) = _
  rw [h2]
  rfl
theorem ip_a1 (p : D) (w : List Nat) (T : D) (hw2 : w.length ≤ 100000) : sSetS 2 ipS ⟨[.val p, .val (.str w), .un, .un, .un, .un, .un, .un], [T]⟩ =
      .nx ⟨[.val p, .val (.str w), .val (.obj 1), .un, .un, .un, .un, .un], [T, blsD (true :: List.replicate w.length false)]⟩ := by
  have h1 := lenD_s w (by omega)
  have h2 := ip_repD w.length hw2
  have h3 := ip_catD ((List.replicate w.length false).map D.bl) (by simpa using hw2)
  generalize hst : (⟨[.val p, .val (.str w), .un, .un, .un, .un, .un, .un], [T]⟩ : Sts) = st
  have a0 : aV 1 st = .ok (.s 1) st := by subst hst; rfl
  have b0 : rd (.s 1) st = some (.str w) := by subst hst; rfl
  have a1 : eFun lenD [aV 1] st = .ok (.int w.length) st := eFun1_eq a0 b0 h1
  have a2 : eLst [eC (.bl false)] st = .ok (.lst [.bl false]) st := rfl
  have a3 : eLst [eC (.bl true)] st = .ok (.lst [.bl true]) st := rfl
  have a4 := eBin_eq (aE_eq a2) (aE_eq a1) rfl rfl h2
  have a5 : ipS st = .ok _ st := eBin_eq (aE_eq a3) (aE_eq a4) rfl rfl h3
  unfold sSetS
  rw [a5]
  subst hst
  rfl
theorem ip_a3 (p : D) (w : List Nat) (T : D) (bs : List Bool) (b : Bool) (hw2 : w.length ≤ 100000) (e3 : L2.atI (bs.map D.bl) (w.length : Int) = some (.bl b)) : ipR ⟨[.val p, .val (.str w), .val (.obj 1), .un, .un, .un, .un, .un], [T, blsD bs]⟩ =
      .rt (.bl b) ⟨[.val p, .val (.str w), .val (.obj 1), .un, .un, .un, .un, .un], [T, blsD bs]⟩ := by
  have h5 : w.length ≤ 16777216 := by omega
  simp [ipR, blsD, DL.Ou.bind, DL.aV, DL.aE, DL.eC, DL.eVar, DL.slR, DL.eBin, DL.eUn, DL.rd2, DL.rd, DL.rd0, DL.deref, DL.slD, DL.ofO, DL.eArgs, DL.eArgsP, DL.eTup, DL.eLst, DL.rdL, DL.eFun, DL.eIf, DL.eNt, DL.eAnd, DL.eOrr, DL.tTru, DL.tBool, DL.tNt, DL.tAn, DL.tOrr, DL.truD, DL.sNil, DL.sSeq, DL.ouF, DL.sIf, DL.sRet, DL.sRetN, DL.sEx, DL.sAsg, DL.tgN, DL.nxO, DL.sSetO, DL.sSetS, DL.sWipe, DL.wipeS, DL.tgTs, DL.tgT, DL.sPar, DL.sParO, DL.sRetV, DL.tgSub, DL.wrAt, DL.setAtD, DL.lenD, DL.ixD, DL.ltD, DL.leD, DL.gtD, DL.geD, DL.addD, DL.subD, DL.mulD, DL.modD, DL.fdivD, DL.powD, DL.negD, DL.isNotD, DL.notD, DL.notInD, DL.lookD, DL.putD, DL.sameKey, DL.keyEq, DL.goodKey, DL.keyOf, DL.keysOf, DL.mergeD, DL.allKeys, DL.dispOk, DL.ePairs, DL.eDisp, DL.eCall, DL.foE, DL.retO, DL.listD, DL.tupD, DL.joinD, DL.seqD, DL.strsOf, DL.isStr, DL.eJoin, DL.eSl, DL.ePart, DL.cutD, DL.sBk, DL.sCt, DL.turnF, DL.forL, DL.compL, DL.eComp, DL.tYs, DL.itemsD, DL.iSeq, DL.iRange1, DL.iRange2, DL.iEnumD, DL.sFor, DL.sMutL, DL.isL, DL.appD, DL.extD, DL.repD, DL.catD, DL.szOk, DL.smallI, DL.mulOk, DM.eqD_ss, DM.eqD_ii, DM.eqD_bb, DM.neD_ss, DM.neD_ii, DM.neD_bb, DM.inD_s, DM.isD_n, DM.isD_t, DM.isD_b, sizeLine_eq, h5, e3]
theorem in_product_ok (p : List Fac) (w : List Nat) (T : D) (hT : T.clean = true) (hw2 : w.length ≤ 100000) : den__law_in_product [prodD p, .str w] [T] = .ok (.bl (inL p w)) [T] := by
  have key : (fun r : Fl => ∃ bs, r = .nx ⟨[.val (prodD p), .val (.str w), .val (.obj 1), .un, .un, .un, .un, .un], [T, blsD bs]⟩ ∧ bs.length = w.length + 1 ∧ dp bs w [] = inL p w) (forL (tgT [(tgN 3), (tgN 4)]) facB (p.map facD) ⟨[.val (prodD p), .val (.str w), .val (.obj 1), .un, .un, .un, .un, .un], [T, blsD (true :: List.replicate w.length false)]⟩) := by
    refine for_ind (fun ds st => ∃ q bs, ds = q.map facD ∧ st = ⟨[.val (prodD p), .val (.str w), .val (.obj 1), .un, .un, .un, .un, .un], [T, blsD bs]⟩ ∧ bs.length = w.length + 1 ∧ dp bs w q = inL p w) (fun r : Fl => ∃ bs, r = .nx ⟨[.val (prodD p), .val (.str w), .val (.obj 1), .un, .un, .un, .un, .un], [T, blsD bs]⟩ ∧ bs.length = w.length + 1 ∧ dp bs w [] = inL p w) ?_ ?_ _ _ ⟨p, _, rfl, rfl, by simp, dp_start p w⟩
    · rintro st ⟨q, bs, e, rfl, h1, h2⟩
      cases q with
      | nil => exact ⟨bs, rfl, h1, h2⟩
      | cons _ _ => cases e
    · rintro d ds st ⟨q, bs, e, rfl, h1, h2⟩
      cases q with
      | nil => cases e
      | cons f q =>
        obtain ⟨rfl, rfl⟩ := List.cons.inj e
        obtain ⟨bs', b1, b2, k, l, ek, b3⟩ := fac_ok (p := prodD p) (T := T) (f := f) hw2 h1
        refine ⟨⟨[.val (prodD p), .val (.str w), .val (.obj 1), .val (.str k), .val (.str l), .un, .un, .un], [T, blsD bs]⟩, by simp [ek, DL.Ou.bind, DL.aV, DL.aE, DL.eC, DL.eVar, DL.slR, DL.eBin, DL.eUn, DL.rd2, DL.rd, DL.rd0, DL.deref, DL.slD, DL.ofO, DL.eArgs, DL.eArgsP, DL.eTup, DL.eLst, DL.rdL, DL.eFun, DL.eIf, DL.eNt, DL.eAnd, DL.eOrr, DL.tTru, DL.tBool, DL.tNt, DL.tAn, DL.tOrr, DL.truD, DL.sNil, DL.sSeq, DL.ouF, DL.sIf, DL.sRet, DL.sRetN, DL.sEx, DL.sAsg, DL.tgN, DL.nxO, DL.sSetO, DL.sSetS, DL.sWipe, DL.wipeS, DL.tgTs, DL.tgT, DL.sPar, DL.sParO, DL.sRetV, DL.tgSub, DL.wrAt, DL.setAtD, DL.lenD, DL.ixD, DL.ltD, DL.leD, DL.gtD, DL.geD, DL.addD, DL.subD, DL.mulD, DL.modD, DL.fdivD, DL.powD, DL.negD, DL.isNotD, DL.notD, DL.notInD, DL.lookD, DL.putD, DL.sameKey, DL.keyEq, DL.goodKey, DL.keyOf, DL.keysOf, DL.mergeD, DL.allKeys, DL.dispOk, DL.ePairs, DL.eDisp, DL.eCall, DL.foE, DL.retO, DL.listD, DL.tupD, DL.joinD, DL.seqD, DL.strsOf, DL.isStr, DL.eJoin, DL.eSl, DL.ePart, DL.cutD, DL.sBk, DL.sCt, DL.turnF, DL.forL, DL.compL, DL.eComp, DL.tYs, DL.itemsD, DL.iSeq, DL.iRange1, DL.iRange2, DL.iEnumD, DL.sFor, DL.sMutL, DL.isL, DL.appD, DL.extD, DL.repD, DL.catD, DL.szOk, DL.smallI, DL.mulOk, DM.eqD_ss, DM.eqD_ii, DM.eqD_bb, DM.neD_ss, DM.neD_ii, DM.neD_bb, DM.inD_s, DM.isD_n, DM.isD_t, DM.isD_b, sizeLine_eq], ?_⟩
        rw [b3]
        exact ⟨q, bs', rfl, rfl, b1, by rw [b2]; exact h2⟩
  obtain ⟨bs, k1, k2, k3⟩ := key
  obtain ⟨b, e1, e2⟩ := dp_end w bs k2
  have e3 : L2.atI (bs.map D.bl) (w.length : Int) = some (.bl (inL p w)) := atI_nat (by rw [List.getElem?_map, e1, ← k3, e2]; rfl)
  have a2 : sFor (iSeq (eVar 0)) (tgT [(tgN 3), (tgN 4)]) facB ⟨[.val (prodD p), .val (.str w), .val (.obj 1), .un, .un, .un, .un, .un], [T, blsD (true :: List.replicate w.length false)]⟩ =
      .nx ⟨[.val (prodD p), .val (.str w), .val (.obj 1), .un, .un, .un, .un, .un], [T, blsD bs]⟩ := k1
  have a4 : c__law_in_product ⟨[.val (prodD p), .val (.str w), .un, .un, .un, .un, .un, .un], [T]⟩ = .rt (.bl (inL p w)) ⟨[.val (prodD p), .val (.str w), .val (.obj 1), .un, .un, .un, .un, .un], [T, blsD bs]⟩ := by
    show sSeq (sSetS 2 ipS) (sSeq (sFor (iSeq (eVar 0)) (tgT [(tgN 3), (tgN 4)]) facB) ipR) _ = _
    simp only [sSeq, ip_a1 _ _ _ hw2, a2, ip_a3 _ _ _ _ _ hw2 e3]
  have a6 : ∀ r : Fl, c__law_in_product ⟨[.val (prodD p), .val (.str w), .un, .un, .un, .un, .un, .un], [T]⟩ = r → den__law_in_product [prodD p, .str w] [T] = (match r with
      | .rt d st => retO 1 d st.S
      | .nx st => retO 1 .non st.S
      | .xc e st => retX 1 e st.S
      | _ => .bad) := fun r e => by
    rw [← e]
    rfl
  rw [a6 _ a4]
  simp [retO, hT, D.clean]
end
end DM
/-! DMm: factors, products, words that are drawn. -/
namespace DM
noncomputable section
open PySem PySem.Spec PyProof.Rows L2 DL
def strD (c : Nat) : D := .str [c]
theorem joinc_ok (ys : List Nat) (h : ys.length ≤ 16777216) : joinD (.str []) (.lst (ys.map strD)) = some (.str ys) := by
  have := join_ok (ys.map fun c => [c]) 1 (fun x hx => by
    obtain ⟨c, _, rfl⟩ := List.mem_map.mp hx
    simp) (by rw [List.length_map]; omega)
  rw [List.map_map] at this
  have e : (ys.map fun c => [c]).flatten = ys := by
    clear this h
    induction ys with
    | nil => rfl
    | cons y ys ih => simp [ih]
  rw [e] at this
  exact this
def facT : DL.T := tBool (eBin eqD (aE (eCall den__law_draw [(eVar 0), (eC (.int 2))])) (aE (eC (.int 0))))
theorem facT_ok {n : Nat} {T : D} {S : List D} {x : Sl} {u v : Sl} (h : Tp n T) (hn : n < 1099511627776) : ∃ k T', facT ⟨[.val (.obj 0), x, u, v], T :: S⟩ = .ok k ⟨[.val (.obj 0), x, u, v], T' :: S⟩ ∧ Tp (n + 1) T' := by
  obtain ⟨r, T', e, r1, r2, t⟩ := draw (S := S) (many := 2) h hn (by decide) (by decide)
  exact ⟨r == 0, T', by simp [facT, DL.Ou.bind, DL.aV, DL.aE, DL.eC, DL.eVar, DL.slR, DL.eBin, DL.eUn, DL.rd2, DL.rd, DL.rd0, DL.deref, DL.slD, DL.ofO, DL.eArgs, DL.eArgsP, DL.eTup, DL.eLst, DL.rdL, DL.eFun, DL.eIf, DL.eNt, DL.eAnd, DL.eOrr, DL.tTru, DL.tBool, DL.tNt, DL.tAn, DL.tOrr, DL.truD, DL.sNil, DL.sSeq, DL.ouF, DL.sIf, DL.sRet, DL.sRetN, DL.sEx, DL.sAsg, DL.tgN, DL.nxO, DL.sSetO, DL.sSetS, DL.sWipe, DL.wipeS, DL.tgTs, DL.tgT, DL.sPar, DL.sParO, DL.sRetV, DL.tgSub, DL.wrAt, DL.setAtD, DL.lenD, DL.ixD, DL.ltD, DL.leD, DL.gtD, DL.geD, DL.addD, DL.subD, DL.mulD, DL.modD, DL.fdivD, DL.powD, DL.negD, DL.isNotD, DL.notD, DL.notInD, DL.lookD, DL.putD, DL.sameKey, DL.keyEq, DL.goodKey, DL.keyOf, DL.keysOf, DL.mergeD, DL.allKeys, DL.dispOk, DL.ePairs, DL.eDisp, DL.eCall, DL.foE, DL.retO, DL.listD, DL.tupD, DL.isStr, DL.eJoin, DL.eSl, DL.ePart, DL.cutD, DL.sBk, DL.sCt, DL.turnF, DL.eComp, DL.tYs, DL.itemsD, DL.iSeq, DL.iRange1, DL.iRange2, DL.iEnumD, DL.sFor, DL.sMutL, DL.isL, DL.appD, DL.extD, DL.repD, DL.catD, DL.szOk, DL.smallI, DL.mulOk, DM.eqD_ss, DM.eqD_ii, DM.eqD_bb, DM.neD_ss, DM.neD_ii, DM.neD_bb, DM.inD_s, DM.isD_n, DM.isD_t, DM.isD_b, sizeLine_eq, e], t⟩
theorem compL_false {tg : Tg} {tt : DL.T} {m : DL.E} {vs : List Nat} {d : D} {ds acc : List D} {st s1 s2 : Sts} (h1 : tg d st = some s1) (h2 : tt s1 = .ok false s2) : compL tg tt m vs (d :: ds) acc st = compL tg tt m vs ds acc (wipeS vs s2) := by
  rw [compL, h1]
  simp only [h2]
theorem compL_true {tg : Tg} {tt : DL.T} {m : DL.E} {vs : List Nat} {d y : D} {ds acc : List D} {st s1 s2 s3 : Sts} (h1 : tg d st = some s1) (h2 : tt s1 = .ok true s2) (h3 : m s2 = .ok y s3) (hz : acc.length < 16777216) : compL tg tt m vs (d :: ds) acc st = compL tg tt m vs ds (acc ++ [y]) (wipeS vs s3) := by
  rw [compL, h1]
  simp only [h2, h3]
  rw [if_pos (by rw [sizeLine_eq]; exact hz)]
theorem fac_comp {xs : List Nat} {S : List D} {N : Nat} (hN : N < 1099511627776) (hx : xs.length ≤ 1000) : ∀ (zs : List Nat) (acc : List Nat) (n : Nat) (T : D), Tp n T → n + zs.length ≤ N → (∀ z ∈ zs, z ∈ xs) → (∀ z ∈ acc, z ∈ xs) → acc.length + zs.length ≤ xs.length →
    ∃ (ys : List Nat) (T' : D), compL (tgN 3) facT (eVar 3) [3] (charsD zs) (acc.map strD) ⟨[.val (.obj 0), .val (.str xs), .un, .un], T :: S⟩ = .ok (ys.map strD) ⟨[.val (.obj 0), .val (.str xs), .un, .un], T' :: S⟩ ∧ Tp (n + zs.length) T' ∧ (∀ z ∈ ys, z ∈ xs) ∧ ys.length ≤ xs.length
  | [], acc, n, T, ht, hn, hz, ha, hl => ⟨acc, T, rfl, ht, ha, by simpa using hl⟩
  | z :: zs, acc, n, T, ht, hn, hz, ha, hl => by
    simp only [List.length_cons] at hn hl
    obtain ⟨k, T1, e1, t1⟩ := facT_ok (S := S) (x := .val (.str xs)) (u := .un) (v := .val (strD z)) ht (by omega)
    have ec : charsD (z :: zs) = strD z :: charsD zs := rfl
    rw [ec]
    cases k with
    | false =>
      obtain ⟨ys, T', h1, h2, h3, h4⟩ := fac_comp (S := S) hN hx zs acc (n + 1) T1 t1 (by omega) (fun y hy => hz y (List.mem_cons_of_mem _ hy)) ha (by omega)
      refine ⟨ys, T', ?_, h2.up (by simp; omega), h3, h4⟩
      have q := compL_false (tg := tgN 3) (m := eVar 3) (vs := [3]) (d := strD z) (ds := charsD zs) (acc := acc.map strD) (st := ⟨[.val (.obj 0), .val (.str xs), .un, .un], T :: S⟩) rfl e1
      rw [q, ← h1]
      rfl
    | true =>
      obtain ⟨ys, T', h1, h2, h3, h4⟩ := fac_comp (S := S) hN hx zs (acc ++ [z]) (n + 1) T1 t1 (by omega) (fun y hy => hz y (List.mem_cons_of_mem _ hy)) (fun y hy => by
        rcases List.mem_append.mp hy with q | q
        · exact ha y q
        · have : y = z := by simpa using q
          rw [this]
          exact hz z List.mem_cons_self) (by simp; omega)
      refine ⟨ys, T', ?_, h2.up (by simp; omega), h3, h4⟩
      have q := compL_true (tg := tgN 3) (m := eVar 3) (vs := [3]) (d := strD z) (y := strD z) (ds := charsD zs) (acc := acc.map strD) (st := ⟨[.val (.obj 0), .val (.str xs), .un, .un], T :: S⟩) (s3 := ⟨[.val (.obj 0), .val (.str xs), .un, .val (strD z)], T1 :: S⟩) rfl e1 rfl (by rw [List.length_map]; omega)
      rw [q, ← h1, List.map_append]
      rfl
theorem factor_ok {n : Nat} {T : D} {S : List D} {xs : List Nat} (h : Tp n T) (hn : n + xs.length + 2 < 1099511627776) (hx : xs ≠ []) (hl : xs.length ≤ 26) :
    ∃ f T', den__law_factor [.obj 0, .str xs] (T :: S) = .ok (facD f) (T' :: S) ∧ Tp (n + xs.length + 2) T' ∧ FacOk f ∧ ∀ c ∈ f.2, c ∈ xs := by
  obtain ⟨r, T1, e, r1, r2, t⟩ := draw (S := S) (many := 3) h (by omega) (by decide) (by decide)
  have ec : c__law_factor = (sSeq (sIf (tBool (eBin gtD (aE (eCall den__law_draw [(eVar 0), (eC (.int 3))])) (aE (eC (.int 0)))))
      (sRet (eTup [(eC (.str [111, 112, 116])), (eCall den__law_pick [(eVar 0), (eVar 1)])]))
      sNil)
    (sSeq (sAsg (eJoin (eC (.str [])) (eComp (iSeq (eVar 1)) (tgN 3) facT (eVar 3) [3])) (tgN 2))
    (sRet (eTup [(eC (.str [115, 116, 97, 114])), (eIf (tBool (eBin neD (aV 2) (aE (eC (.str []))))) (eVar 2) (eCall den__law_pick [(eVar 0), (eVar 1)]))])))) := rfl
  by_cases hr : 0 < r
  · obtain ⟨x, T2, e2, hx2, t2⟩ := pick_str (S := S) t (by omega) hx (by omega)
    refine ⟨(false, [x]), T2, ?_, t2.up (by omega), ⟨by simp, by simp, fun _ => rfl⟩, fun c hc => by rw [List.mem_singleton.mp hc]; exact hx2⟩
    simp [den__law_factor, ec, fnD, DL.Ou.bind, DL.aV, DL.aE, DL.eC, DL.eVar, DL.slR, DL.eBin, DL.eUn, DL.rd2, DL.rd, DL.rd0, DL.deref, DL.slD, DL.ofO, DL.eArgs, DL.eArgsP, DL.eTup, DL.eLst, DL.rdL, DL.eFun, DL.eIf, DL.eNt, DL.eAnd, DL.eOrr, DL.tTru, DL.tBool, DL.tNt, DL.tAn, DL.tOrr, DL.truD, DL.sNil, DL.sSeq, DL.ouF, DL.sIf, DL.sRet, DL.sRetN, DL.sEx, DL.sAsg, DL.tgN, DL.nxO, DL.sSetO, DL.sSetS, DL.sWipe, DL.wipeS, DL.tgTs, DL.tgT, DL.sPar, DL.sParO, DL.sRetV, DL.tgSub, DL.wrAt, DL.setAtD, DL.lenD, DL.ixD, DL.ltD, DL.leD, DL.gtD, DL.geD, DL.addD, DL.subD, DL.mulD, DL.modD, DL.fdivD, DL.powD, DL.negD, DL.isNotD, DL.notD, DL.notInD, DL.lookD, DL.putD, DL.sameKey, DL.keyEq, DL.goodKey, DL.keyOf, DL.keysOf, DL.mergeD, DL.allKeys, DL.dispOk, DL.ePairs, DL.eDisp, DL.eCall, DL.foE, DL.retO, DL.listD, DL.tupD, DL.isStr, DL.eJoin, DL.eSl, DL.ePart, DL.cutD, DL.sBk, DL.sCt, DL.turnF, DL.eComp, DL.tYs, DL.itemsD, DL.iSeq, DL.iRange1, DL.iRange2, DL.iEnumD, DL.sFor, DL.sMutL, DL.isL, DL.appD, DL.extD, DL.repD, DL.catD, DL.szOk, DL.smallI, DL.mulOk, DM.eqD_ss, DM.eqD_ii, DM.eqD_bb, DM.neD_ss, DM.neD_ii, DM.neD_bb, DM.inD_s, DM.isD_n, DM.isD_t, DM.isD_b, sizeLine_eq, e, hr, e2, facD]
  · obtain ⟨ys, T2, k1, t2, h3, h4⟩ := fac_comp (xs := xs) (S := S) (N := n + 1 + xs.length) (by omega) (by omega) xs [] (n + 1) T1 t (Nat.le_refl _) (fun _ z => z) (fun _ z => by cases z) (by simp)
    have hj := joinc_ok ys (by omega)
    have k2 : compL (tgN 3) facT (eVar 3) [3] (charsD xs) [] ⟨[.val (.obj 0), .val (.str xs), .un, .un], T1 :: S⟩ = .ok (ys.map strD) ⟨[.val (.obj 0), .val (.str xs), .un, .un], T2 :: S⟩ := k1
    by_cases hy : ys = []
    · obtain ⟨x, T3, e2, hx2, t3⟩ := pick_str (S := S) t2 (by omega) hx (by omega)
      refine ⟨(true, [x]), T3, ?_, t3.up (by omega), ⟨by simp, by simp, fun z => by cases z⟩, fun c hc => by rw [List.mem_singleton.mp hc]; exact hx2⟩
      subst hy
      simp only [List.map_nil] at k2 hj
      simp [den__law_factor, ec, fnD, DL.Ou.bind, DL.aV, DL.aE, DL.eC, DL.eVar, DL.slR, DL.eBin, DL.eUn, DL.rd2, DL.rd, DL.rd0, DL.deref, DL.slD, DL.ofO, DL.eArgs, DL.eArgsP, DL.eTup, DL.eLst, DL.rdL, DL.eFun, DL.eIf, DL.eNt, DL.eAnd, DL.eOrr, DL.tTru, DL.tBool, DL.tNt, DL.tAn, DL.tOrr, DL.truD, DL.sNil, DL.sSeq, DL.ouF, DL.sIf, DL.sRet, DL.sRetN, DL.sEx, DL.sAsg, DL.tgN, DL.nxO, DL.sSetO, DL.sSetS, DL.sWipe, DL.wipeS, DL.tgTs, DL.tgT, DL.sPar, DL.sParO, DL.sRetV, DL.tgSub, DL.wrAt, DL.setAtD, DL.lenD, DL.ixD, DL.ltD, DL.leD, DL.gtD, DL.geD, DL.addD, DL.subD, DL.mulD, DL.modD, DL.fdivD, DL.powD, DL.negD, DL.isNotD, DL.notD, DL.notInD, DL.lookD, DL.putD, DL.sameKey, DL.keyEq, DL.goodKey, DL.keyOf, DL.keysOf, DL.mergeD, DL.allKeys, DL.dispOk, DL.ePairs, DL.eDisp, DL.eCall, DL.foE, DL.retO, DL.listD, DL.tupD, DL.isStr, DL.eJoin, DL.eSl, DL.ePart, DL.cutD, DL.sBk, DL.sCt, DL.turnF, DL.eComp, DL.tYs, DL.itemsD, DL.iSeq, DL.iRange1, DL.iRange2, DL.iEnumD, DL.sFor, DL.sMutL, DL.isL, DL.appD, DL.extD, DL.repD, DL.catD, DL.szOk, DL.smallI, DL.mulOk, DM.eqD_ss, DM.eqD_ii, DM.eqD_bb, DM.neD_ss, DM.neD_ii, DM.neD_bb, DM.inD_s, DM.isD_n, DM.isD_t, DM.isD_b, sizeLine_eq, e, hr, e2, facD, k2, hj]
    · refine ⟨(true, ys), T2, ?_, t2.up (by omega), ⟨hy, by show ys.length ≤ 26; omega, fun z => by cases z⟩, h3⟩
      have hy2 : (ys == []) = false := by cases ys with | nil => exact absurd rfl hy | cons _ _ => rfl
      simp [den__law_factor, ec, fnD, DL.Ou.bind, DL.aV, DL.aE, DL.eC, DL.eVar, DL.slR, DL.eBin, DL.eUn, DL.rd2, DL.rd, DL.rd0, DL.deref, DL.slD, DL.ofO, DL.eArgs, DL.eArgsP, DL.eTup, DL.eLst, DL.rdL, DL.eFun, DL.eIf, DL.eNt, DL.eAnd, DL.eOrr, DL.tTru, DL.tBool, DL.tNt, DL.tAn, DL.tOrr, DL.truD, DL.sNil, DL.sSeq, DL.ouF, DL.sIf, DL.sRet, DL.sRetN, DL.sEx, DL.sAsg, DL.tgN, DL.nxO, DL.sSetO, DL.sSetS, DL.sWipe, DL.wipeS, DL.tgTs, DL.tgT, DL.sPar, DL.sParO, DL.sRetV, DL.tgSub, DL.wrAt, DL.setAtD, DL.lenD, DL.ixD, DL.ltD, DL.leD, DL.gtD, DL.geD, DL.addD, DL.subD, DL.mulD, DL.modD, DL.fdivD, DL.powD, DL.negD, DL.isNotD, DL.notD, DL.notInD, DL.lookD, DL.putD, DL.sameKey, DL.keyEq, DL.goodKey, DL.keyOf, DL.keysOf, DL.mergeD, DL.allKeys, DL.dispOk, DL.ePairs, DL.eDisp, DL.eCall, DL.foE, DL.retO, DL.listD, DL.tupD, DL.isStr, DL.eJoin, DL.eSl, DL.ePart, DL.cutD, DL.sBk, DL.sCt, DL.turnF, DL.eComp, DL.tYs, DL.itemsD, DL.iSeq, DL.iRange1, DL.iRange2, DL.iEnumD, DL.sFor, DL.sMutL, DL.isL, DL.appD, DL.extD, DL.repD, DL.catD, DL.szOk, DL.smallI, DL.mulOk, DM.eqD_ss, DM.eqD_ii, DM.eqD_bb, DM.neD_ss, DM.neD_ii, DM.neD_bb, DM.inD_s, DM.isD_n, DM.isD_t, DM.isD_b, sizeLine_eq, e, hr, facD, k2, hj, hy2]
theorem gen_comp {Good : D → Prop} {m : DL.E} {a1 a2 : Sl} {S : List D} {b N : Nat} (hm : ∀ (n : Nat) (T : D) (x : Sl), Tp n T → n + b ≤ N → ∃ d T', m ⟨[.val (.obj 0), a1, a2, x], T :: S⟩ = .ok d ⟨[.val (.obj 0), a1, a2, x], T' :: S⟩ ∧ Tp (n + b) T' ∧ Good d) :
    ∀ (ds acc : List D) (n : Nat) (T : D), Tp n T → n + ds.length * b ≤ N → acc.length + ds.length ≤ 16777216 → ∃ (rs : List D) (T' : D), compL (tgN 3) tYs m [3] ds acc ⟨[.val (.obj 0), a1, a2, .un], T :: S⟩ = .ok (acc ++ rs) ⟨[.val (.obj 0), a1, a2, .un], T' :: S⟩ ∧ Tp (n + ds.length * b) T' ∧ rs.length = ds.length ∧ ∀ d ∈ rs, Good d
  | [], acc, n, T, ht, hn, hl => ⟨[], T, by rw [List.append_nil]; rfl, by simpa using ht, rfl, fun _ h => by cases h⟩
  | d :: ds, acc, n, T, ht, hn, hl => by
    simp only [List.length_cons, Nat.succ_mul] at hn hl
    obtain ⟨y, T1, e1, t1, g1⟩ := hm n T (.val d) ht (by omega)
    obtain ⟨rs, T', h1, h2, h3, h4⟩ := gen_comp hm ds (acc ++ [y]) (n + b) T1 t1 (by omega) (by simp; omega)
    refine ⟨y :: rs, T', ?_, h2.up (by simp only [List.length_cons, Nat.succ_mul]; omega), by simp [h3], fun z hz => ?_⟩
    · have q := compL_true (tg := tgN 3) (tt := tYs) (m := m) (vs := [3]) (d := d) (y := y) (ds := ds) (acc := acc) (st := ⟨[.val (.obj 0), a1, a2, .un], T :: S⟩) (s3 := ⟨[.val (.obj 0), a1, a2, .val d], T1 :: S⟩) rfl rfl e1 (by omega)
      rw [q]
      have e2 : acc ++ y :: rs = (acc ++ [y]) ++ rs := by simp
      rw [e2, ← h1]
      rfl
    · rcases List.mem_cons.mp hz with rfl | hz
      · exact g1
      · exact h4 z hz
theorem good_map {α : Type} {Good : D → Prop} {f : α → D} {G : α → Prop} (h : ∀ d, Good d → ∃ a, d = f a ∧ G a) : ∀ rs : List D, (∀ d ∈ rs, Good d) → ∃ as : List α, rs = as.map f ∧ ∀ a ∈ as, G a
  | [], _ => ⟨[], rfl, fun _ z => by cases z⟩
  | d :: rs, hg => by
    obtain ⟨a, ea, ga⟩ := h d (hg d List.mem_cons_self)
    obtain ⟨as, eas, gas⟩ := good_map h rs fun d hd => hg d (List.mem_cons_of_mem _ hd)
    exact ⟨a :: as, by rw [ea, eas]; rfl, fun z hz => by
      rcases List.mem_cons.mp hz with rfl | hz
      · exact ga
      · exact gas z hz⟩
theorem rangeD_len (n : Int) : (rangeD 0 n).length = n.toNat := by simp [rangeD]
/-- a word all of whose letters are in xs -/
def Over (xs w : List Nat) : Prop := ∀ c ∈ w, c ∈ xs
theorem product_ok {n L : Nat} {T : D} {S : List D} {xs : List Nat} (h : Tp n T) (hn : n + 1 + L * 28 < 1099511627776) (hx : xs ≠ []) (hl : xs.length ≤ 26) (hL : L ≤ 1000) :
    ∃ p T', den__law_product [.obj 0, .str xs, .int L] (T :: S) = .ok (prodD p) (T' :: S) ∧ Tp (n + 1 + L * 28) T' ∧ p.length ≤ L ∧ ∀ f ∈ p, FacOk f ∧ Over xs f.2 := by
  obtain ⟨r, T1, e, r1, r2, t⟩ := draw (S := S) (many := (L : Int) + 1) h (by omega) (by omega) (by omega)
  obtain ⟨rs, T2, k1, k2, k3, k4⟩ := gen_comp (Good := fun d => ∃ f, d = facD f ∧ (FacOk f ∧ Over xs f.2)) (m := eCall den__law_factor [(eVar 0), (eVar 1)]) (a1 := .val (.str xs)) (a2 := .val (.int L)) (S := S) (b := 28) (N := n + 1 + L * 28) (fun n' T' x ht hn' => by
    obtain ⟨f, T'', e1, t1, f1, f2⟩ := factor_ok (S := S) (xs := xs) ht (by omega) hx hl
    refine ⟨facD f, T'', ?_, t1.up (by omega), f, rfl, f1, f2⟩
    simp [DL.Ou.bind, DL.aV, DL.aE, DL.eC, DL.eVar, DL.slR, DL.eBin, DL.eUn, DL.rd2, DL.rd, DL.rd0, DL.deref, DL.slD, DL.ofO, DL.eArgs, DL.eArgsP, DL.eTup, DL.eLst, DL.rdL, DL.eFun, DL.eIf, DL.eNt, DL.eAnd, DL.eOrr, DL.tTru, DL.tBool, DL.tNt, DL.tAn, DL.tOrr, DL.truD, DL.sNil, DL.sSeq, DL.ouF, DL.sIf, DL.sRet, DL.sRetN, DL.sEx, DL.sAsg, DL.tgN, DL.nxO, DL.sSetO, DL.sSetS, DL.sWipe, DL.wipeS, DL.tgTs, DL.tgT, DL.sPar, DL.sParO, DL.sRetV, DL.tgSub, DL.wrAt, DL.setAtD, DL.lenD, DL.ixD, DL.ltD, DL.leD, DL.gtD, DL.geD, DL.addD, DL.subD, DL.mulD, DL.modD, DL.fdivD, DL.powD, DL.negD, DL.isNotD, DL.notD, DL.notInD, DL.lookD, DL.putD, DL.sameKey, DL.keyEq, DL.goodKey, DL.keyOf, DL.keysOf, DL.mergeD, DL.allKeys, DL.dispOk, DL.ePairs, DL.eDisp, DL.eCall, DL.foE, DL.retO, DL.listD, DL.tupD, DL.isStr, DL.eJoin, DL.eSl, DL.ePart, DL.cutD, DL.sBk, DL.sCt, DL.turnF, DL.eComp, DL.tYs, DL.itemsD, DL.iSeq, DL.iRange1, DL.iRange2, DL.iEnumD, DL.sFor, DL.sMutL, DL.isL, DL.appD, DL.extD, DL.repD, DL.catD, DL.szOk, DL.smallI, DL.mulOk, DM.eqD_ss, DM.eqD_ii, DM.eqD_bb, DM.neD_ss, DM.neD_ii, DM.neD_bb, DM.inD_s, DM.isD_n, DM.isD_t, DM.isD_b, sizeLine_eq, e1]) (rangeD 0 r) [] (n + 1) T1 t (by rw [rangeD_len]; omega) (by rw [rangeD_len]; simp; omega)
  obtain ⟨p, rfl, hp⟩ := good_map (fun d z => z) rs k4
  rw [rangeD_len] at k2 k3
  rw [List.length_map] at k3
  refine ⟨p, T2, ?_, k2.up (by omega), by omega, hp⟩
  rw [List.nil_append] at k1
  have ha : -4611686018427387904 ≤ r := by omega
  have hb : r < 4611686018427387904 := by omega
  simp [den__law_product, c__law_product, fnD, DL.Ou.bind, DL.aV, DL.aE, DL.eC, DL.eVar, DL.slR, DL.eBin, DL.eUn, DL.rd2, DL.rd, DL.rd0, DL.deref, DL.slD, DL.ofO, DL.eArgs, DL.eArgsP, DL.eTup, DL.eLst, DL.rdL, DL.eFun, DL.eIf, DL.eNt, DL.eAnd, DL.eOrr, DL.tTru, DL.tBool, DL.tNt, DL.tAn, DL.tOrr, DL.truD, DL.sNil, DL.sSeq, DL.ouF, DL.sIf, DL.sRet, DL.sRetN, DL.sEx, DL.sAsg, DL.tgN, DL.nxO, DL.sSetO, DL.sSetS, DL.sWipe, DL.wipeS, DL.tgTs, DL.tgT, DL.sPar, DL.sParO, DL.sRetV, DL.tgSub, DL.wrAt, DL.setAtD, DL.lenD, DL.ixD, DL.ltD, DL.leD, DL.gtD, DL.geD, DL.addD, DL.subD, DL.mulD, DL.modD, DL.fdivD, DL.powD, DL.negD, DL.isNotD, DL.notD, DL.notInD, DL.lookD, DL.putD, DL.sameKey, DL.keyEq, DL.goodKey, DL.keyOf, DL.keysOf, DL.mergeD, DL.allKeys, DL.dispOk, DL.ePairs, DL.eDisp, DL.eCall, DL.foE, DL.retO, DL.listD, DL.tupD, DL.isStr, DL.eJoin, DL.eSl, DL.ePart, DL.cutD, DL.sBk, DL.sCt, DL.turnF, DL.eComp, DL.tYs, DL.itemsD, DL.iSeq, DL.iRange1, DL.iRange2, DL.iEnumD, DL.sFor, DL.sMutL, DL.isL, DL.appD, DL.extD, DL.repD, DL.catD, DL.szOk, DL.smallI, DL.mulOk, DM.eqD_ss, DM.eqD_ii, DM.eqD_bb, DM.neD_ss, DM.neD_ii, DM.neD_bb, DM.inD_s, DM.isD_n, DM.isD_t, DM.isD_b, sizeLine_eq, e, ha, hb, k1, prodD]
theorem word_ok {n L : Nat} {T : D} {S : List D} {xs : List Nat} (h : Tp n T) (hn : n + 1 + L < 1099511627776) (hx : xs ≠ []) (hl : xs.length ≤ 26) (hL : L ≤ 1000) :
    ∃ w T', den__law_word [.obj 0, .str xs, .int L] (T :: S) = .ok (.str w) (T' :: S) ∧ Tp (n + 1 + L) T' ∧ w.length ≤ L ∧ Over xs w := by
  obtain ⟨r, T1, e, r1, r2, t⟩ := draw (S := S) (many := (L : Int) + 1) h (by omega) (by omega) (by omega)
  obtain ⟨rs, T2, k1, k2, k3, k4⟩ := gen_comp (Good := fun d => ∃ c, d = strD c ∧ c ∈ xs) (m := eCall den__law_pick [(eVar 0), (eVar 1)]) (a1 := .val (.str xs)) (a2 := .val (.int L)) (S := S) (b := 1) (N := n + 1 + L) (fun n' T' x ht hn' => by
    obtain ⟨c, T'', e1, c1, t1⟩ := pick_str (S := S) (xs := xs) ht (by omega) hx (by omega)
    refine ⟨strD c, T'', ?_, t1, c, rfl, c1⟩
    simp [DL.Ou.bind, DL.aV, DL.aE, DL.eC, DL.eVar, DL.slR, DL.eBin, DL.eUn, DL.rd2, DL.rd, DL.rd0, DL.deref, DL.slD, DL.ofO, DL.eArgs, DL.eArgsP, DL.eTup, DL.eLst, DL.rdL, DL.eFun, DL.eIf, DL.eNt, DL.eAnd, DL.eOrr, DL.tTru, DL.tBool, DL.tNt, DL.tAn, DL.tOrr, DL.truD, DL.sNil, DL.sSeq, DL.ouF, DL.sIf, DL.sRet, DL.sRetN, DL.sEx, DL.sAsg, DL.tgN, DL.nxO, DL.sSetO, DL.sSetS, DL.sWipe, DL.wipeS, DL.tgTs, DL.tgT, DL.sPar, DL.sParO, DL.sRetV, DL.tgSub, DL.wrAt, DL.setAtD, DL.lenD, DL.ixD, DL.ltD, DL.leD, DL.gtD, DL.geD, DL.addD, DL.subD, DL.mulD, DL.modD, DL.fdivD, DL.powD, DL.negD, DL.isNotD, DL.notD, DL.notInD, DL.lookD, DL.putD, DL.sameKey, DL.keyEq, DL.goodKey, DL.keyOf, DL.keysOf, DL.mergeD, DL.allKeys, DL.dispOk, DL.ePairs, DL.eDisp, DL.eCall, DL.foE, DL.retO, DL.listD, DL.tupD, DL.isStr, DL.eJoin, DL.eSl, DL.ePart, DL.cutD, DL.sBk, DL.sCt, DL.turnF, DL.eComp, DL.tYs, DL.itemsD, DL.iSeq, DL.iRange1, DL.iRange2, DL.iEnumD, DL.sFor, DL.sMutL, DL.isL, DL.appD, DL.extD, DL.repD, DL.catD, DL.szOk, DL.smallI, DL.mulOk, DM.eqD_ss, DM.eqD_ii, DM.eqD_bb, DM.neD_ss, DM.neD_ii, DM.neD_bb, DM.inD_s, DM.isD_n, DM.isD_t, DM.isD_b, sizeLine_eq, e1, strD]) (rangeD 0 r) [] (n + 1) T1 t (by rw [rangeD_len]; omega) (by rw [rangeD_len]; simp; omega)
  obtain ⟨w, rfl, hw⟩ := good_map (fun d z => z) rs k4
  rw [rangeD_len] at k2 k3
  rw [List.length_map] at k3
  refine ⟨w, T2, ?_, k2.up (by omega), by omega, hw⟩
  rw [List.nil_append] at k1
  have ha : -4611686018427387904 ≤ r := by omega
  have hb : r < 4611686018427387904 := by omega
  have hj := joinc_ok w (by omega)
  simp [den__law_word, c__law_word, fnD, DL.Ou.bind, DL.aV, DL.aE, DL.eC, DL.eVar, DL.slR, DL.eBin, DL.eUn, DL.rd2, DL.rd, DL.rd0, DL.deref, DL.slD, DL.ofO, DL.eArgs, DL.eArgsP, DL.eTup, DL.eLst, DL.rdL, DL.eFun, DL.eIf, DL.eNt, DL.eAnd, DL.eOrr, DL.tTru, DL.tBool, DL.tNt, DL.tAn, DL.tOrr, DL.truD, DL.sNil, DL.sSeq, DL.ouF, DL.sIf, DL.sRet, DL.sRetN, DL.sEx, DL.sAsg, DL.tgN, DL.nxO, DL.sSetO, DL.sSetS, DL.sWipe, DL.wipeS, DL.tgTs, DL.tgT, DL.sPar, DL.sParO, DL.sRetV, DL.tgSub, DL.wrAt, DL.setAtD, DL.lenD, DL.ixD, DL.ltD, DL.leD, DL.gtD, DL.geD, DL.addD, DL.subD, DL.mulD, DL.modD, DL.fdivD, DL.powD, DL.negD, DL.isNotD, DL.notD, DL.notInD, DL.lookD, DL.putD, DL.sameKey, DL.keyEq, DL.goodKey, DL.keyOf, DL.keysOf, DL.mergeD, DL.allKeys, DL.dispOk, DL.ePairs, DL.eDisp, DL.eCall, DL.foE, DL.retO, DL.listD, DL.tupD, DL.isStr, DL.eJoin, DL.eSl, DL.ePart, DL.cutD, DL.sBk, DL.sCt, DL.turnF, DL.eComp, DL.tYs, DL.itemsD, DL.iSeq, DL.iRange1, DL.iRange2, DL.iEnumD, DL.sFor, DL.sMutL, DL.isL, DL.appD, DL.extD, DL.repD, DL.catD, DL.szOk, DL.smallI, DL.mulOk, DM.eqD_ss, DM.eqD_ii, DM.eqD_bb, DM.neD_ss, DM.neD_ii, DM.neD_bb, DM.inD_s, DM.isD_n, DM.isD_t, DM.isD_b, sizeLine_eq, e, ha, hb, k1, hj]
theorem same_ok (a b : Bool) (S : List D) : den__law_same [.bl a, .bl b] S = .ok (.bl (a == b)) S := by
  cases a <;> cases b <;> simp [den__law_same, c__law_same, fnD, DL.Ou.bind, DL.aV, DL.aE, DL.eC, DL.eVar, DL.slR, DL.eBin, DL.eUn, DL.rd2, DL.rd, DL.rd0, DL.deref, DL.slD, DL.ofO, DL.eArgs, DL.eArgsP, DL.eTup, DL.eLst, DL.rdL, DL.eFun, DL.eIf, DL.eNt, DL.eAnd, DL.eOrr, DL.tTru, DL.tBool, DL.tNt, DL.tAn, DL.tOrr, DL.truD, DL.sNil, DL.sSeq, DL.ouF, DL.sIf, DL.sRet, DL.sRetN, DL.sEx, DL.sAsg, DL.tgN, DL.nxO, DL.sSetO, DL.sSetS, DL.sWipe, DL.wipeS, DL.tgTs, DL.tgT, DL.sPar, DL.sParO, DL.sRetV, DL.tgSub, DL.wrAt, DL.setAtD, DL.lenD, DL.ixD, DL.ltD, DL.leD, DL.gtD, DL.geD, DL.addD, DL.subD, DL.mulD, DL.modD, DL.fdivD, DL.powD, DL.negD, DL.isNotD, DL.notD, DL.notInD, DL.lookD, DL.putD, DL.sameKey, DL.keyEq, DL.goodKey, DL.keyOf, DL.keysOf, DL.mergeD, DL.allKeys, DL.dispOk, DL.ePairs, DL.eDisp, DL.eCall, DL.foE, DL.retO, DL.listD, DL.tupD, DL.isStr, DL.eJoin, DL.eSl, DL.ePart, DL.cutD, DL.sBk, DL.sCt, DL.turnF, DL.eComp, DL.tYs, DL.itemsD, DL.iSeq, DL.iRange1, DL.iRange2, DL.iEnumD, DL.sFor, DL.sMutL, DL.isL, DL.appD, DL.extD, DL.repD, DL.catD, DL.szOk, DL.smallI, DL.mulOk, DM.eqD_ss, DM.eqD_ii, DM.eqD_bb, DM.neD_ss, DM.neD_ii, DM.neD_bb, DM.inD_s, DM.isD_n, DM.isD_t, DM.isD_b, sizeLine_eq]
end
end DM
/-! DMo: inclusion of products. -/
namespace DM
noncomputable section
open PySem PySem.Spec PyProof.Rows L2 DL
def holdsL (g f : Fac) : Bool := g.1 && f.2.all fun c => decide (c ∈ g.2)
/-- from the first factor on that holds f or is f -/
def skipL (f : Fac) : List Fac → List Fac
  | [] => []
  | g :: q => if holdsL g f || decide (g = f) then g :: q else skipL f q
def resL : List Fac → List Fac → Option (List Fac)
  | [], q => some q
  | f :: p, q => match skipL f q with
    | [] => none
    | g :: r => resL p (if g.1 then g :: r else r)
/-- all of a word taken off -/
def derW : List Fac → List Nat → Option (List Fac)
  | q, [] => some q
  | q, c :: w => (derL q c).bind fun r => derW r w
theorem inL_derW : ∀ (w : List Nat) (q : List Fac), inL q w = (derW q w).isSome
  | [], q => by rw [inL_nil]; rfl
  | c :: w, q => by
    rw [inL_der, derW]
    cases derL q c with
    | none => rfl
    | some r => exact inL_derW w r
theorem derW_app : ∀ (u v : List Nat) (q : List Fac), derW q (u ++ v) = (derW q u).bind fun r => derW r v
  | [], v, q => rfl
  | c :: u, v, q => by
    rw [List.cons_append, derW, derW]
    cases derL q c with
    | none => rfl
    | some r => exact derW_app u v r
def OptOk (q : List Fac) : Prop := ∀ f ∈ q, f.1 = false → f.2.length = 1
theorem derL_suf : ∀ (q : List Fac) (c : Nat) (r : List Fac), derL q c = some r → ∃ a, q = a ++ r
  | [], c, r, h => by cases h
  | (b, l) :: q, c, r, h => by
    rw [derL] at h
    by_cases hc : c ∈ l
    · rw [if_pos hc] at h
      cases b
      · cases h; exact ⟨[(false, l)], rfl⟩
      · cases h; exact ⟨[], rfl⟩
    · rw [if_neg hc] at h
      obtain ⟨a, e⟩ := derL_suf q c r h
      exact ⟨(b, l) :: a, by rw [e]; rfl⟩
theorem derW_suf : ∀ (w : List Nat) (q r : List Fac), derW q w = some r → ∃ a, q = a ++ r
  | [], q, r, h => by cases h; exact ⟨[], rfl⟩
  | c :: w, q, r, h => by
    rw [derW] at h
    cases e : derL q c with
    | none => rw [e] at h; cases h
    | some s =>
      rw [e] at h
      obtain ⟨a, ea⟩ := derL_suf q c s e
      obtain ⟨b, eb⟩ := derW_suf w s r h
      exact ⟨a ++ b, by rw [ea, eb, List.append_assoc]⟩
theorem skip_suf (f : Fac) : ∀ q : List Fac, ∃ a, q = a ++ skipL f q
  | [] => ⟨[], rfl⟩
  | g :: q => by
    rw [skipL]
    split
    · exact ⟨[], rfl⟩
    · obtain ⟨a, e⟩ := skip_suf f q
      exact ⟨g :: a, by rw [List.cons_append, ← e]⟩
theorem inL_suf (w : List Nat) (r : List Fac) (h : inL r w = true) : ∀ a : List Fac, inL (a ++ r) w = true
  | [] => h
  | f :: a => inL_more f (a ++ r) w (inL_suf w r h a)
/-- an optional letter: as its sign -/
theorem skip_opt (c : Nat) : ∀ q : List Fac, OptOk q → derL q c = match skipL (false, [c]) q with
    | [] => none
    | g :: r => some (if g.1 then g :: r else r)
  | [], _ => rfl
  | (b, l) :: q, h => by
    rw [derL, skipL]
    have ih := skip_opt c q fun f hf => h f (List.mem_cons_of_mem _ hf)
    cases b with
    | true =>
      by_cases hc : c ∈ l
      · simp [holdsL, hc]
      · simp [holdsL, hc, ih]
    | false =>
      have hl := h (false, l) List.mem_cons_self rfl
      obtain ⟨x, rfl⟩ : ∃ x, l = [x] := by
        match l, hl with
        | [x], _ => exact ⟨x, rfl⟩
      by_cases hc : c = x
      · subst hc
        simp [holdsL]
      · have hc2 : ¬ x = c := fun e => hc e.symm
        simp [holdsL, hc, hc2, ih]
theorem optOk_suf {a q : List Fac} (h : OptOk (a ++ q)) : OptOk q := fun f hf => h f (List.mem_append_right _ hf)
/-- a star's letters, some of them, against a list whose first holder of all is h -/
theorem star_step (l : List Nat) : ∀ (u : List Nat), (∀ x ∈ u, x ∈ l) → ∀ (pre : List Fac) (h : Fac) (rest : List Fac), holdsL h (true, l) = true → (∀ g ∈ pre, holdsL g (true, l) = false) →
    ∃ pre', derW (pre ++ h :: rest) u = some (pre' ++ h :: rest) ∧ pre'.length ≤ pre.length ∧ (∀ g ∈ pre', holdsL g (true, l) = false) ∧ ∃ a, pre = a ++ pre'
  | [], _, pre, h, rest, hh, hp => ⟨pre, rfl, Nat.le_refl _, hp, [], rfl⟩
  | x :: u, hu, pre, h, rest, hh, hp => by
    have one : ∀ pre : List Fac, (∀ g ∈ pre, holdsL g (true, l) = false) → ∃ pre1, derL (pre ++ h :: rest) x = some (pre1 ++ h :: rest) ∧ pre1.length ≤ pre.length ∧ (∀ g ∈ pre1, holdsL g (true, l) = false) ∧ ∃ a, pre = a ++ pre1 := by
      intro pre
      induction pre with
      | nil =>
        intro _
        obtain ⟨b, hl⟩ := h
        have hb : b = true := (Bool.and_eq_true_iff.mp hh).1
        have hx : x ∈ hl := of_decide_eq_true (List.all_eq_true.mp (Bool.and_eq_true_iff.mp hh).2 x (hu x List.mem_cons_self))
        subst hb
        exact ⟨[], by show (if x ∈ hl then _ else _) = _; rw [if_pos hx]; rfl, Nat.le_refl _, (fun _ z => by cases z), [], rfl⟩
      | cons g pre ih =>
        intro hp
        obtain ⟨b, gl⟩ := g
        have ih' := ih fun g hg => hp g (List.mem_cons_of_mem _ hg)
        by_cases hx : x ∈ gl
        · cases b with
          | true => exact ⟨(true, gl) :: pre, by show (if x ∈ gl then _ else _) = _; rw [if_pos hx]; rfl, Nat.le_refl _, hp, [], rfl⟩
          | false => exact ⟨pre, by show (if x ∈ gl then _ else _) = _; rw [if_pos hx]; rfl, Nat.le_succ _, fun g hg => hp g (List.mem_cons_of_mem _ hg), [(false, gl)], rfl⟩
        · obtain ⟨pre1, h1, h2, h3, a, h4⟩ := ih'
          exact ⟨pre1, by show (if x ∈ gl then _ else derL (pre ++ h :: rest) x) = _; rw [if_neg hx, h1], Nat.le_trans h2 (Nat.le_succ _), h3, (b, gl) :: a, by rw [h4]; rfl⟩
    obtain ⟨pre1, h1, h2, h3, a1, h4⟩ := one pre hp
    obtain ⟨pre2, k1, k2, k3, a2, k4⟩ := star_step l u (fun y hy => hu y (List.mem_cons_of_mem _ hy)) pre1 h rest hh h3
    exact ⟨pre2, by rw [derW, h1]; exact k1, Nat.le_trans k2 h2, k3, a1 ++ a2, by rw [h4, k4, List.append_assoc]⟩
theorem holds_self (l : List Nat) : holdsL (true, l) (true, l) = true := by simp [holdsL]
theorem skip_some (f : Fac) : ∀ (q : List Fac) (h : Fac) (rest : List Fac), skipL f q = h :: rest → ∃ pre, q = pre ++ h :: rest ∧ (∀ g ∈ pre, holdsL g f = false) ∧ (holdsL h f = true ∨ h = f)
  | [], h, rest, e => by cases e
  | g :: q, h, rest, e => by
    rw [skipL] at e
    by_cases c : (holdsL g f || decide (g = f)) = true
    · rw [if_pos c] at e
      cases e
      refine ⟨[], rfl, (fun _ z => by cases z), ?_⟩
      rcases Bool.or_eq_true_iff.mp c with z | z
      · exact .inl z
      · exact .inr (of_decide_eq_true z)
    · rw [if_neg c] at e
      obtain ⟨pre, e1, e2, e3⟩ := skip_some f q h rest e
      refine ⟨g :: pre, by rw [e1]; rfl, fun z hz => ?_, e3⟩
      rcases List.mem_cons.mp hz with rfl | hz
      · cases hh : holdsL z f with
        | false => rfl
        | true => rw [hh] at c; exact absurd rfl c
      · exact e2 z hz
theorem skip_none (f : Fac) : ∀ (q : List Fac), skipL f q = [] ↔ ∀ g ∈ q, (holdsL g f || decide (g = f)) = false
  | [] => ⟨(fun _ _ z => by cases z), fun _ => rfl⟩
  | g :: q => by
    rw [skipL]
    by_cases c : (holdsL g f || decide (g = f)) = true
    · rw [if_pos c]
      exact ⟨(fun z => by cases z), (fun z => by rw [z g List.mem_cons_self] at c; cases c)⟩
    · rw [if_neg c, skip_none f q]
      constructor
      · intro z x hx
        rcases List.mem_cons.mp hx with rfl | hx
        · exact Bool.eq_false_iff.mpr c
        · exact z x hx
      · intro z x hx
        exact z x (List.mem_cons_of_mem _ hx)
theorem der_same : ∀ (u : List Nat) (g : Fac) (q : List Fac), derW (g :: q) u = some (g :: q) → ∀ x ∈ u, g.1 = true ∧ x ∈ g.2
  | [], _, _, _, _, hx => by cases hx
  | c :: u, g, q, h, x, hx => by
    rw [derW] at h
    cases e : derL (g :: q) c with
    | none => rw [e] at h; cases h
    | some s =>
      rw [e] at h
      have h' : derW s u = some (g :: q) := h
      obtain ⟨a, ea⟩ := derL_suf _ _ _ e
      obtain ⟨b, eb⟩ := derW_suf _ _ _ h'
      have l1 := congrArg List.length ea
      have l2 := congrArg List.length eb
      simp at l1 l2
      have ea0 : a = [] := List.length_eq_zero_iff.mp (by omega)
      subst ea0
      have es : s = g :: q := ea.symm
      subst es
      have first : g.1 = true ∧ c ∈ g.2 := by
        obtain ⟨bb, gl⟩ := g
        rw [derL] at e
        by_cases hc : c ∈ gl
        · rw [if_pos hc] at e
          cases bb with
          | true => exact ⟨rfl, hc⟩
          | false =>
            have := congrArg List.length (Option.some.inj e)
            simp at this
        · rw [if_neg hc] at e
          obtain ⟨a2, ea2⟩ := derL_suf _ _ _ e
          have := congrArg List.length ea2
          simp at this
          omega
      rcases List.mem_cons.mp hx with rfl | hx
      · exact first
      · exact der_same u g q h' x hx
theorem der_shrink {l : List Nat} {g : Fac} {q r : List Fac} (hl : l ≠ []) (h : derW (g :: q) l = some r) (hg : holdsL g (true, l) = false) : r.length < (g :: q).length := by
  obtain ⟨a, ea⟩ := derW_suf _ _ _ h
  cases a with
  | cons x a =>
    have := congrArg List.length ea
    simp at this
    simp
    omega
  | nil =>
    have er : r = g :: q := ea.symm
    subst er
    have hs := der_same l g q h
    exfalso
    cases l with
    | nil => exact absurd rfl hl
    | cons c l =>
      have hb := (hs c List.mem_cons_self).1
      have : holdsL g (true, c :: l) = true := by
        unfold holdsL
        rw [hb, Bool.true_and, List.all_eq_true]
        exact fun x hx => decide_eq_true (hs x hx).2
      rw [this] at hg
      cases hg
theorem der_hold {l : List Nat} {h : Fac} {rest : List Fac} (hh : holdsL h (true, l) = true) : ∀ n, derW (h :: rest) (List.replicate n l).flatten = some (h :: rest)
  | 0 => rfl
  | n + 1 => by
    rw [List.replicate_succ, List.flatten_cons, derW_app]
    obtain ⟨pre', h1, h2, _⟩ := star_step l l (fun _ z => z) [] h rest hh (fun _ z => by cases z)
    have e : pre' = [] := List.length_eq_zero_iff.mp (by simpa using h2)
    subst e
    simp only [List.nil_append] at h1
    rw [h1]
    exact der_hold hh n
/-- a star: as so many copies of its letters -/
theorem star_all {l : List Nat} (hl : l ≠ []) : ∀ (n : Nat) (q : List Fac), q.length < n → derW q (List.replicate n l).flatten = match skipL (true, l) q with
    | [] => none
    | g :: r => some (g :: r)
  | 0, q, h => by omega
  | n + 1, q, h => by
    cases q with
    | nil =>
      cases l with
      | nil => exact absurd rfl hl
      | cons c l => rfl
    | cons g q =>
      by_cases hg : holdsL g (true, l) = true
      · rw [der_hold hg]
        simp only [skipL, hg, Bool.true_or, if_true]
      · have hg' : holdsL g (true, l) = false := Bool.eq_false_iff.mpr hg
        have hne : decide (g = (true, l)) = false := decide_eq_false fun e => by
          rw [e, holds_self] at hg'
          cases hg'
        have hsk : skipL (true, l) (g :: q) = skipL (true, l) q := by
          rw [skipL, if_neg (by rw [hg', hne]; decide)]
        rw [List.replicate_succ, List.flatten_cons, derW_app]
        cases e : derW (g :: q) l with
        | none =>
          cases es : skipL (true, l) (g :: q) with
          | nil => rfl
          | cons h rest =>
            obtain ⟨pre, e1, e2, e3⟩ := skip_some _ _ _ _ es
            have hh : holdsL h (true, l) = true := e3.elim id fun z => by rw [z]; exact holds_self l
            obtain ⟨pre', k1, _⟩ := star_step l l (fun _ z => z) pre h rest hh e2
            rw [← e1, e] at k1
            cases k1
        | some r =>
          have hlt := der_shrink hl e hg'
          show derW r (List.replicate n l).flatten = _
          rw [star_all hl n r (by simp at h hlt; omega)]
          have hsr : skipL (true, l) r = skipL (true, l) (g :: q) := by
            cases es : skipL (true, l) (g :: q) with
            | nil =>
              rw [skip_none] at es ⊢
              obtain ⟨a, ea⟩ := derW_suf _ _ _ e
              intro x hx
              exact es x (by rw [ea]; exact List.mem_append_right _ hx)
            | cons h rest =>
              obtain ⟨pre, e1, e2, e3⟩ := skip_some _ _ _ _ es
              have hh : holdsL h (true, l) = true := e3.elim id fun z => by rw [z]; exact holds_self l
              obtain ⟨pre', k1, k2, k3, k4⟩ := star_step l l (fun _ z => z) pre h rest hh e2
              rw [← e1, e] at k1
              have er := Option.some.inj k1
              subst er
              clear k1 e hlt k2 k4
              induction pre' with
              | nil =>
                show skipL (true, l) (h :: rest) = _
                rw [skipL, if_pos (by rw [hh]; rfl)]
              | cons x pre' ih =>
                have hx := k3 x List.mem_cons_self
                have hx2 : decide (x = (true, l)) = false := decide_eq_false fun e => by
                  rw [e, holds_self] at hx
                  cases hx
                show skipL (true, l) (x :: (pre' ++ h :: rest)) = _
                rw [skipL, if_neg (by rw [hx, hx2]; decide)]
                exact ih fun y hy => k3 y (List.mem_cons_of_mem _ hy)
          rw [hsr]
theorem skip_star_kind {l : List Nat} {q : List Fac} {h : Fac} {rest : List Fac} (e : skipL (true, l) q = h :: rest) : h.1 = true := by
  obtain ⟨pre, e1, e2, e3⟩ := skip_some _ _ _ _ e
  rcases e3 with e3 | e3
  · exact (Bool.and_eq_true_iff.mp e3).1
  · rw [e3]
/-- THE LAW of inclusion, first half -/
theorem res_der : ∀ (p : List Fac), (∀ f ∈ p, FacOk f) → ∀ (q : List Fac), OptOk q → ∀ n : Nat, q.length < n → resL p q = derW q (unfL p n)
  | [], _, q, _, n, _ => rfl
  | (true, l) :: p, hp, q, hq, n, hn => by
    have hl : l ≠ [] := (hp (true, l) List.mem_cons_self).1
    have eu : unfL ((true, l) :: p) n = (List.replicate n l).flatten ++ unfL p n := by simp [unfL, unfF, repS]
    rw [eu, derW_app, star_all hl n q hn, resL]
    cases e : skipL (true, l) q with
    | nil => rfl
    | cons h rest =>
      have hk := skip_star_kind e
      obtain ⟨a, ea⟩ := skip_suf (true, l) q
      rw [e] at ea
      show resL p (if h.1 then h :: rest else rest) = derW (h :: rest) (unfL p n)
      rw [hk, if_pos rfl]
      have hlen := congrArg List.length ea
      simp at hlen
      exact res_der p (fun f hf => hp f (List.mem_cons_of_mem _ hf)) _ (optOk_suf (a := a) (by rw [← ea]; exact hq)) n (by simp; omega)
  | (false, l) :: p, hp, q, hq, n, hn => by
    have hl : l.length = 1 := (hp (false, l) List.mem_cons_self).2.2 rfl
    obtain ⟨x, rfl⟩ : ∃ x, l = [x] := by
      match l, hl with
      | [x], _ => exact ⟨x, rfl⟩
    have eu : unfL ((false, [x]) :: p) n = x :: unfL p n := by simp [unfL, unfF]
    rw [eu, derW, skip_opt x q hq, resL]
    cases e : skipL (false, [x]) q with
    | nil => rfl
    | cons h rest =>
      obtain ⟨a, ea⟩ := skip_suf (false, [x]) q
      rw [e] at ea
      have hlen := congrArg List.length ea
      simp at hlen
      have ho := optOk_suf (a := a) (q := h :: rest) (by rw [← ea]; exact hq)
      show resL p (if h.1 then h :: rest else rest) = derW (if h.1 then h :: rest else rest) (unfL p n)
      cases h.1 with
      | true => exact res_der p (fun f hf => hp f (List.mem_cons_of_mem _ hf)) _ ho n (by simp; omega)
      | false => exact res_der p (fun f hf => hp f (List.mem_cons_of_mem _ hf)) _ (fun f hf => ho f (List.mem_cons_of_mem _ hf)) n (by omega)
/-- THE LAW of inclusion, second half: all words -/
theorem res_words : ∀ (p : List Fac), (∀ f ∈ p, FacOk f) → ∀ (q : List Fac), OptOk q → (resL p q).isSome = true → ∀ w, inL p w = true → inL q w = true
  | [], _, q, _, _, w, hw => by
    cases w with
    | nil => exact inL_nil q
    | cons c w => simp [inL] at hw
  | (true, l) :: p, hp, q, hq, hr, w, hw => by
    rw [resL] at hr
    cases e : skipL (true, l) q with
    | nil => rw [e] at hr; cases hr
    | cons h rest =>
      rw [e] at hr
      have hr' : (resL p (if h.1 then h :: rest else rest)).isSome = true := hr
      rw [skip_star_kind e, if_pos rfl] at hr'
      obtain ⟨pre, e1, e2, e3⟩ := skip_some _ _ _ _ e
      have hh : holdsL h (true, l) = true := e3.elim id fun z => by rw [z]; exact holds_self l
      have ih := res_words p (fun f hf => hp f (List.mem_cons_of_mem _ hf)) (h :: rest) (optOk_suf (a := pre) (by rw [← e1]; exact hq)) hr'
      rw [e1]
      refine inL_suf w (h :: rest) ?_ pre
      rw [inL_star] at hw
      have h2 := ih _ hw
      clear hw ih
      obtain ⟨hb, hl⟩ := h
      have hbt : hb = true := (Bool.and_eq_true_iff.mp hh).1
      subst hbt
      have hsub : ∀ c ∈ l, c ∈ hl := fun c hc => of_decide_eq_true (List.all_eq_true.mp (Bool.and_eq_true_iff.mp hh).2 c hc)
      induction w with
      | nil => exact inL_nil _
      | cons c w ihw =>
        by_cases hc : c ∈ l
        · rw [show (c :: w).dropWhile (fun c => decide (c ∈ l)) = w.dropWhile (fun c => decide (c ∈ l)) by simp [List.dropWhile_cons, hc]] at h2
          rw [inL, ihw h2]
          simp [hsub c hc]
        · rw [show (c :: w).dropWhile (fun c => decide (c ∈ l)) = c :: w by simp [List.dropWhile_cons, hc]] at h2
          exact h2
  | (false, l) :: p, hp, q, hq, hr, w, hw => by
    have hl : l.length = 1 := (hp (false, l) List.mem_cons_self).2.2 rfl
    obtain ⟨x, rfl⟩ : ∃ x, l = [x] := by
      match l, hl with
      | [x], _ => exact ⟨x, rfl⟩
    rw [resL] at hr
    have hd := skip_opt x q hq
    cases e : skipL (false, [x]) q with
    | nil => rw [e] at hr; cases hr
    | cons h rest =>
      rw [e] at hr hd
      have hr' : (resL p (if h.1 then h :: rest else rest)).isSome = true := hr
      have hd' : derL q x = some (if h.1 then h :: rest else rest) := hd
      obtain ⟨a, ea⟩ := derL_suf _ _ _ hd'
      have ih := res_words p (fun f hf => hp f (List.mem_cons_of_mem _ hf)) _ (optOk_suf (a := a) (by rw [← ea]; exact hq)) hr'
      have hx : ∀ v, inL q (x :: v) = inL (if h.1 then h :: rest else rest) v := fun v => by rw [inL_der, hd']
      cases w with
      | nil => exact inL_nil _
      | cons c w =>
        rw [inL] at hw
        rcases Bool.or_eq_true_iff.mp hw with hw | hw
        · rw [ea]
          exact inL_suf _ _ (ih _ hw) a
        · obtain ⟨h1, h2⟩ := Bool.and_eq_true_iff.mp hw
          have hc : c = x := by simpa using h1
          rw [hc, hx]
          exact ih _ h2
end
end DM
/-! DMp: holds, residual_of, is_included. -/
namespace DM
noncomputable section
open PySem PySem.Spec PyProof.Rows L2 DL
theorem rd_fac {i : Nat} {st : Sts} {g : Fac} (h : st.ρ[i]? = some (.val (facD g))) : rd (.s i) st = some (facD g) := by
  show ((st.ρ[i]?).bind slD).bind (deref st) = _
  rw [h]
  obtain ⟨b, l⟩ := g
  cases b <;> rfl
def hldM : DL.E := eBin inD (aV 2) (aE (eBin ixD (aV 0) (aE (eC (.int 1)))))
theorem hld_comp (g f : Fac) (S : List D) : ∀ (zs : List Nat) (acc : List Bool), acc.length + zs.length ≤ 1000 →
    compL (tgN 2) tYs hldM [2] (charsD zs) (acc.map D.bl) ⟨[.val (facD g), .val (facD f), .un], S⟩ = .ok ((acc ++ zs.map fun c => decide (c ∈ g.2)).map D.bl) ⟨[.val (facD g), .val (facD f), .un], S⟩
  | [], acc, h => by rw [List.map_nil, List.append_nil]; rfl
  | z :: zs, acc, h => by
    simp only [List.length_cons] at h
    obtain ⟨k, ek, _⟩ := facD_ix g
    have e1 : hldM ⟨[.val (facD g), .val (facD f), .val (strD z)], S⟩ = .ok (.bl (decide (z ∈ g.2))) ⟨[.val (facD g), .val (facD f), .val (strD z)], S⟩ := by
      refine eBin_eq (p := .s 2) (q := .d (.str g.2)) (x := strD z) (y := .str g.2) rfl (aE_eq (eBin_eq (p := .s 0) (q := .d (.int 1)) (x := facD g) (y := .int 1) rfl rfl (rd_fac rfl) rfl ?_)) rfl rfl rfl
      rw [ek]
      rfl
    have q := compL_true (tg := tgN 2) (tt := tYs) (m := hldM) (vs := [2]) (d := strD z) (y := .bl (decide (z ∈ g.2))) (ds := charsD zs) (acc := acc.map D.bl) (st := ⟨[.val (facD g), .val (facD f), .un], S⟩) (s3 := ⟨[.val (facD g), .val (facD f), .val (strD z)], S⟩) rfl rfl e1 (by rw [List.length_map]; omega)
    have ih := hld_comp g f S zs (acc ++ [decide (z ∈ g.2)]) (by simp; omega)
    show compL (tgN 2) tYs hldM [2] (strD z :: charsD zs) _ _ = _
    rw [q]
    have e2 : acc ++ (z :: zs).map (fun c => decide (c ∈ g.2)) = (acc ++ [decide (z ∈ g.2)]) ++ zs.map fun c => decide (c ∈ g.2) := by simp
    rw [e2, ← ih, List.map_append]
    rfl
theorem blsOf_map : ∀ bs : List Bool, blsOf (bs.map .bl) = some bs
  | [] => rfl
  | b :: bs => by
    show (blsOf (bs.map D.bl)).bind _ = _
    rw [blsOf_map bs]
    rfl
theorem holds_ok (g f : Fac) (S : List D) (hf : f.2.length ≤ 1000) : den_holds [facD g, facD f] S = .ok (.bl (holdsL g f)) S := by
  obtain ⟨k, ek, hk⟩ := facD_ix g
  generalize hst : (⟨[.val (facD g), .val (facD f), .un], S⟩ : Sts) = st
  have a1 : eBin eqD (aE (eBin ixD (aV 0) (aE (eC (.int 0))))) (aE (eC (.str [115, 116, 97, 114]))) st = .ok (.bl (k == [115, 116, 97, 114])) st := by
    subst hst
    refine eBin_eq (p := .d (.str k)) (q := .d (.str [115, 116, 97, 114])) (aE_eq (eBin_eq (p := .s 0) (q := .d (.int 0)) (x := facD g) (y := .int 0) rfl rfl (rd_fac rfl) rfl ?_)) rfl rfl rfl (eqD_ss _ _)
    rw [ek]
    rfl
  have ekb : (k == [115, 116, 97, 114]) = g.1 := by
    cases hb : g.1 with
    | true => rw [hk.mpr hb]; rfl
    | false =>
      have : k ≠ [115, 116, 97, 114] := fun e => by rw [hk.mp e] at hb; cases hb
      simpa using this
  rw [ekb] at a1
  have a2 : iSeq (eBin ixD (aV 1) (aE (eC (.int 1)))) st = .ok (charsD f.2) st := by
    obtain ⟨k2, ek2, _⟩ := facD_ix f
    have b : eBin ixD (aV 1) (aE (eC (.int 1))) st = .ok (.str f.2) st := by
      subst hst
      refine eBin_eq (p := .s 1) (q := .d (.int 1)) (x := facD f) (y := .int 1) rfl rfl (rd_fac rfl) rfl ?_
      rw [ek2]
      rfl
    unfold iSeq
    rw [b]
    rfl
  have a3 : eComp (iSeq (eBin ixD (aV 1) (aE (eC (.int 1))))) (tgN 2) tYs hldM [2] st = .ok (.lst ((f.2.map fun c => decide (c ∈ g.2)).map D.bl)) st := by
    have hc := hld_comp g f S f.2 [] (by simpa using hf)
    have hw : wipeS [2] st = st := by subst hst; rfl
    unfold eComp
    rw [a2]
    simp only [Ou.bind]
    rw [hw]
    rw [← hst] at *
    rw [show ([] : List D) = ([] : List Bool).map D.bl from rfl, hc]
    rfl
  have a4 : eFun allD [(aE (eComp (iSeq (eBin ixD (aV 1) (aE (eC (.int 1))))) (tgN 2) tYs hldM [2]))] st = .ok (.bl (f.2.all fun c => decide (c ∈ g.2))) st := by
    refine eFun1_eq (aE_eq a3) rfl ?_
    show (blsOf ((f.2.map fun c => decide (c ∈ g.2)).map D.bl)).bind _ = _
    rw [blsOf_map]
    show some (D.bl ((f.2.map fun c => decide (c ∈ g.2)).all id)) = _
    rw [List.all_map]
    rfl
  have a5 : c_holds st = .rt (.bl (holdsL g f)) st := by
    show sRet (eAnd (eBin eqD (aE (eBin ixD (aV 0) (aE (eC (.int 0))))) (aE (eC (.str [115, 116, 97, 114])))) (eFun allD [(aE (eComp (iSeq (eBin ixD (aV 1) (aE (eC (.int 1))))) (tgN 2) tYs hldM [2]))])) st = _
    unfold sRet eAnd
    rw [a1]
    unfold holdsL
    cases g.1 with
    | false => rfl
    | true =>
      show ouF (eFun allD [(aE (eComp (iSeq (eBin ixD (aV 1) (aE (eC (.int 1))))) (tgN 2) tYs hldM [2]))] st) _ = _
      rw [a4]
      rfl
  show (match c_holds ⟨[.val (facD g), .val (facD f), .un], S⟩ with
    | .rt d st => retO S.length d st.S
    | .nx st => if false then Fo.bad else retO S.length .non st.S
    | .xc e st => retX S.length e st.S
    | _ => .bad) = _
  rw [hst, a5, ← hst]
  simp [retO]
/-! == of factors and products -/
theorem plL_map : ∀ q : List Fac, plL (q.map facD) = true
  | [] => rfl
  | (b, l) :: q => by
    show ((facD (b, l)).pl && plL (q.map facD)) = true
    rw [plL_map q]
    cases b <;> rfl
theorem dep_fac (f : Fac) : (facD f).dep = 1 := by
  obtain ⟨b, l⟩ := f
  cases b <;> simp [facD, D.dep, depL]
theorem depL_map : ∀ q : List Fac, depL (q.map facD) ≤ 1
  | [] => by simp [depL]
  | f :: q => by
    rw [List.map_cons, depL, dep_fac]
    have := depL_map q
    omega
theorem pl_fac (f : Fac) : (facD f).pl = true := by
  obtain ⟨b, l⟩ := f
  cases b <;> simp [facD, D.pl, plL]
theorem eq_fac (g f : Fac) : (facD g).eq (facD f) = decide (g = f) := by
  obtain ⟨b, l⟩ := g
  obtain ⟨c, m⟩ := f
  cases b <;> cases c <;> simp [facD, D.eq, eqL] <;> rw [Bool.eq_iff_iff] <;> simp
theorem neD_fac (g f : Fac) : neD (facD g) (facD f) = some (.bl (!decide (g = f))) := by
  unfold neD eqOk
  rw [pl_fac, pl_fac, dep_fac, dep_fac, eq_fac]
  rfl
theorem eqL_nil : ∀ q : List Fac, eqL (q.map facD) [] = q.isEmpty
  | [] => by simp [eqL]
  | f :: q => by simp [eqL]
theorem ok_nil (q : List Fac) : eqOk (prodD q) (.tup []) = true := by
  have h := depL_map q
  simp [eqOk, prodD, D.pl, plL_map, D.dep, depL, plL]
  omega
theorem eqD_nil (q : List Fac) : eqD (prodD q) (.tup []) = some (.bl q.isEmpty) := by
  unfold eqD
  rw [if_pos (ok_nil q)]
  show some (D.bl ((D.tup (q.map facD)).eq (.tup []))) = _
  rw [D.eq, eqL_nil]
theorem neD_nil (q : List Fac) : neD (prodD q) (.tup []) = some (.bl (!q.isEmpty)) := by
  unfold neD
  rw [if_pos (ok_nil q)]
  show some (D.bl (!(D.tup (q.map facD)).eq (.tup []))) = _
  rw [D.eq, eqL_nil]
/-! residual_of -/
def rst (p q : List Fac) (w2 : Sl) (S : List D) : Sts := ⟨[.val (prodD p), .val (prodD q), w2], S⟩
def rT : DL.T := (tAn (tBool (eBin neD (aV 1) (aE (eTup [])))) (tAn (tNt (tTru (aE (eCall den_holds [(eBin ixD (aV 1) (aE (eC (.int 0)))), (eVar 2)])))) (tBool (eBin neD (aE (eBin ixD (aV 1) (aE (eC (.int 0))))) (aV 2)))))
def rB : DL.C := (sAsg (eSl (aV 1) (some (eC (.int 1))) none) (tgN 1))
theorem rT_nil (p : List Fac) (f : Fac) (S : List D) : rT (rst p [] (.val (facD f)) S) = .ok false (rst p [] (.val (facD f)) S) := by
  have a1 : eBin neD (aV 1) (aE (eTup [])) (rst p [] (.val (facD f)) S) = .ok (.bl false) (rst p [] (.val (facD f)) S) :=
    eBin_eq (p := .s 1) (q := .d (.tup [])) (x := prodD []) (y := .tup []) rfl rfl rfl rfl (neD_nil [])
  unfold rT tAn tBool
  rw [a1]
  rfl
theorem ix0 (p : List Fac) (g : Fac) (q : List Fac) (w : Sl) (S : List D) : eBin ixD (aV 1) (aE (eC (.int 0))) (rst p (g :: q) w S) = .ok (facD g) (rst p (g :: q) w S) := by
  refine eBin_eq (p := .s 1) (q := .d (.int 0)) (x := prodD (g :: q)) (y := .int 0) rfl rfl rfl rfl ?_
  show L2.atI ((g :: q).map facD) 0 = _
  exact atI_nat (k := 0) rfl
theorem rT_cons (p : List Fac) (g f : Fac) (q : List Fac) (S : List D) (hf : f.2.length ≤ 1000) : rT (rst p (g :: q) (.val (facD f)) S) = .ok (!(holdsL g f || decide (g = f))) (rst p (g :: q) (.val (facD f)) S) := by
  have a1 : eBin neD (aV 1) (aE (eTup [])) (rst p (g :: q) (.val (facD f)) S) = .ok (.bl true) (rst p (g :: q) (.val (facD f)) S) :=
    eBin_eq (p := .s 1) (q := .d (.tup [])) (x := prodD (g :: q)) (y := .tup []) rfl rfl rfl rfl (neD_nil (g :: q))
  have a2 := ix0 p g q (.val (facD f)) S
  have a3 : eCall den_holds [(eBin ixD (aV 1) (aE (eC (.int 0)))), (eVar 2)] (rst p (g :: q) (.val (facD f)) S) = .ok (.bl (holdsL g f)) (rst p (g :: q) (.val (facD f)) S) :=
    eCall_eq (eArgs_c a2 (eArgs_c (show eVar 2 _ = .ok (facD f) _ from rfl) eArgs_n)) (holds_ok g f S hf)
  have a4 : eBin neD (aE (eBin ixD (aV 1) (aE (eC (.int 0))))) (aV 2) (rst p (g :: q) (.val (facD f)) S) = .ok (.bl (!decide (g = f))) (rst p (g :: q) (.val (facD f)) S) :=
    eBin_eq (p := .d (facD g)) (q := .s 2) (x := facD g) (y := facD f) (aE_eq a2) rfl (by obtain ⟨b, l⟩ := g; cases b <;> rfl) (rd_fac rfl) (neD_fac g f)
  unfold rT
  rw [tAn_t (tBool_eq a1)]
  have a5 := tNt_eq (tTru_eq (aE_eq a3) rfl rfl : tTru (aE (eCall den_holds [(eBin ixD (aV 1) (aE (eC (.int 0)))), (eVar 2)])) (rst p (g :: q) (.val (facD f)) S) = .ok (holdsL g f) _)
  cases hh : holdsL g f with
  | true =>
    rw [hh] at a5
    rw [tAn_f a5]
    rfl
  | false =>
    rw [hh] at a5
    rw [tAn_t a5, tBool_eq a4]
    rfl
theorem rB_ok (p : List Fac) (g : Fac) (q : List Fac) (w : Sl) (S : List D) : rB (rst p (g :: q) w S) = .nx (rst p q w S) := by
  have h1 : cutL ((g :: q).map facD) (some (1 : Int)) none = q.map facD := cut_from ((g :: q).map facD) 1
  have h2 : eSl (aV 1) (some (eC (.int 1))) none (rst p (g :: q) w S) = .ok (prodD q) (rst p (g :: q) w S) := by
    show ofO (some (D.tup (cutL ((g :: q).map facD) (some (1 : Int)) none))) (rst p (g :: q) w S) = _
    rw [h1]
    rfl
  exact sAsg_eq h2 rfl
theorem r_wh (p : List Fac) (f : Fac) (S : List D) (hf : f.2.length ≤ 1000) : ∀ (q : List Fac) (n : Nat), q.length < n → whN rT rB n (rst p q (.val (facD f)) S) = .nx (rst p (skipL f q) (.val (facD f)) S)
  | _, 0, h => by omega
  | [], n + 1, _ => by
    unfold whN
    rw [rT_nil]
    rfl
  | g :: q, n + 1, h => by
    unfold whN
    rw [rT_cons p g f q S hf, skipL]
    cases holdsL g f || decide (g = f) with
    | true => rfl
    | false =>
      show turnF (rB (rst p (g :: q) (.val (facD f)) S)) _ = _
      rw [rB_ok]
      exact r_wh p f S hf q n (by simp at h; omega)
def rF : DL.C := (sWipe [2] (sSeq (sWh rT rB) (sSeq (sIf (tBool (eBin eqD (aV 1) (aE (eTup [])))) (sRet (eC .non)) sNil)
      (sIf (tBool (eBin eqD (aE (eBin ixD (aE (eBin ixD (aV 1) (aE (eC (.int 0))))) (aE (eC (.int 0))))) (aE (eC (.str [111, 112, 116])))))
        (sAsg (eSl (aV 1) (some (eC (.int 1))) none) (tgN 1))
        sNil))))
theorem rF_none (p q : List Fac) (f : Fac) (S : List D) (hf : f.2.length ≤ 1000) (h : skipL f q = []) : rF (rst p q (.val (facD f)) S) = .rt .non (rst p [] (.val (facD f)) S) := by
  have h1 := sWh_eq (q.length + 1) (r_wh p f S hf q (q.length + 1) (by omega)) (by intro z; cases z)
  rw [h] at h1
  have a1 : eBin eqD (aV 1) (aE (eTup [])) (rst p [] (.val (facD f)) S) = .ok (.bl true) (rst p [] (.val (facD f)) S) :=
    eBin_eq (p := .s 1) (q := .d (.tup [])) (x := prodD []) (y := .tup []) rfl rfl rfl rfl (eqD_nil [])
  refine sWipe_rt ?_
  rw [sSeq_nx h1]
  refine sSeq_rt ?_
  rw [sIf_t (tBool_eq a1)]
  rfl
theorem rF_some (p q : List Fac) (f g : Fac) (r : List Fac) (S : List D) (hf : f.2.length ≤ 1000) (h : skipL f q = g :: r) : rF (rst p q (.val (facD f)) S) = .nx (rst p (if g.1 then g :: r else r) .un S) := by
  have h1 := sWh_eq (q.length + 1) (r_wh p f S hf q (q.length + 1) (by omega)) (by intro z; cases z)
  rw [h] at h1
  have a1 : eBin eqD (aV 1) (aE (eTup [])) (rst p (g :: r) (.val (facD f)) S) = .ok (.bl false) (rst p (g :: r) (.val (facD f)) S) :=
    eBin_eq (p := .s 1) (q := .d (.tup [])) (x := prodD (g :: r)) (y := .tup []) rfl rfl rfl rfl (eqD_nil (g :: r))
  have a2 := ix0 p g r (.val (facD f)) S
  obtain ⟨k, ek, hk⟩ := facD_ix g
  have a3 : eBin ixD (aE (eBin ixD (aV 1) (aE (eC (.int 0))))) (aE (eC (.int 0))) (rst p (g :: r) (.val (facD f)) S) = .ok (.str k) (rst p (g :: r) (.val (facD f)) S) := by
    refine eBin_eq (p := .d (facD g)) (q := .d (.int 0)) (x := facD g) (y := .int 0) (aE_eq a2) rfl (by obtain ⟨b, l⟩ := g; cases b <;> rfl) rfl ?_
    rw [ek]
    rfl
  have a4 : eBin eqD (aE (eBin ixD (aE (eBin ixD (aV 1) (aE (eC (.int 0))))) (aE (eC (.int 0))))) (aE (eC (.str [111, 112, 116]))) (rst p (g :: r) (.val (facD f)) S) = .ok (.bl (!g.1)) (rst p (g :: r) (.val (facD f)) S) := by
    refine eBin_eq (p := .d (.str k)) (q := .d (.str [111, 112, 116])) (aE_eq a3) rfl rfl rfl ?_
    rw [eqD_ss]
    congr 2
    obtain ⟨b, l⟩ := g
    cases b with
    | true =>
      have e := hk.mpr rfl
      rw [e]
      rfl
    | false =>
      have : D.tup [.str [111, 112, 116], .str l] = .tup [.str k, .str l] := ek
      simp at this
      rw [← this]
      rfl
  refine (sWipe_nx (s := rst p (if g.1 then g :: r else r) (.val (facD f)) S) ?_).trans rfl
  have e2 : sIf (tBool (eBin eqD (aV 1) (aE (eTup [])))) (sRet (eC .non)) sNil (rst p (g :: r) (.val (facD f)) S) = .nx (rst p (g :: r) (.val (facD f)) S) := by
    rw [sIf_f (tBool_eq a1)]
    rfl
  rw [sSeq_nx h1, sSeq_nx e2]
  cases hg : g.1 with
  | true =>
    rw [hg] at a4
    rw [sIf_f (tBool_eq a4)]
    rfl
  | false =>
    rw [hg] at a4
    rw [sIf_t (tBool_eq a4)]
    exact rB_ok p g r (.val (facD f)) S
theorem residual_ok (p q : List Fac) (S : List D) (hp : ∀ f ∈ p, f.2.length ≤ 1000) : den_residual_of [prodD p, prodD q] S = .ok (match resL p q with
    | none => .non
    | some r => prodD r) S := by
  have key : ∀ (fs : List Fac), (∀ f ∈ fs, f.2.length ≤ 1000) → ∀ q, forL (tgN 2) rF (fs.map facD) (rst p q .un S) = (match resL fs q with
      | none => .rt .non (rst p [] (.val (facD (fs.getLastD (true, [])))) S)
      | some r => .nx (rst p r .un S)) ∨ (resL fs q = none ∧ ∃ f, forL (tgN 2) rF (fs.map facD) (rst p q .un S) = .rt .non (rst p [] (.val (facD f)) S)) := by
    intro fs
    induction fs with
    | nil => intro _ q; exact .inl rfl
    | cons f fs ih =>
      intro hfs q
      have hf := hfs f List.mem_cons_self
      have e0 : forL (tgN 2) rF ((f :: fs).map facD) (rst p q .un S) = turnF (rF (rst p q (.val (facD f)) S)) fun s' => forL (tgN 2) rF (fs.map facD) s' := rfl
      cases hs : skipL f q with
      | nil =>
        right
        refine ⟨by rw [resL, hs], f, ?_⟩
        rw [e0, rF_none p q f S hf hs]
        rfl
      | cons g r =>
        have e1 : resL (f :: fs) q = resL fs (if g.1 then g :: r else r) := by rw [resL, hs]
        rw [e0, rF_some p q f g r S hf hs, e1]
        show (forL (tgN 2) rF (fs.map facD) (rst p (if g.1 then g :: r else r) .un S) = _) ∨ _
        rcases ih (fun f hf => hfs f (List.mem_cons_of_mem _ hf)) (if g.1 then g :: r else r) with h | ⟨h1, f', h2⟩
        · cases hr : resL fs (if g.1 then g :: r else r) with
          | some s =>
            left
            rw [h, hr]
          | none =>
            right
            exact ⟨rfl, _, by rw [hr] at h; exact h⟩
        · exact .inr ⟨h1, f', h2⟩
  have ec : c_residual_of = sSeq (sFor (iSeq (eVar 0)) (tgN 2) rF) (sRet (eVar 1)) := rfl
  have fin : ∀ (r : Fl), c_residual_of (rst p q .un S) = r → den_residual_of [prodD p, prodD q] S = (match r with
      | .rt d st => retO S.length d st.S
      | .nx st => retO S.length .non st.S
      | .xc e st => retX S.length e st.S
      | _ => .bad) := fun r e => by
    rw [← e]
    rfl
  have hF : sFor (iSeq (eVar 0)) (tgN 2) rF (rst p q .un S) = forL (tgN 2) rF (p.map facD) (rst p q .un S) := sFor_eq rfl
  rcases key p hp q with h | ⟨h1, f, h2⟩
  · cases hr : resL p q with
    | none =>
      rw [hr] at h
      have h9 : c_residual_of (rst p q .un S) = .rt .non (rst p [] (.val (facD (p.getLastD (true, [])))) S) := by
        rw [ec]
        exact sSeq_rt (hF.trans h)
      rw [fin _ h9]
      simp [retO, rst]
    | some r =>
      rw [hr] at h
      have h9 : c_residual_of (rst p q .un S) = .rt (prodD r) (rst p r .un S) := by
        rw [ec, sSeq_nx (hF.trans h)]
        exact sRet_eq (show eVar 1 (rst p r .un S) = .ok (prodD r) (rst p r .un S) from rfl)
      rw [fin _ h9]
      simp [retO, rst]
  · have h9 : c_residual_of (rst p q .un S) = .rt .non (rst p [] (.val (facD f)) S) := by
      rw [ec]
      exact sSeq_rt (hF.trans h2)
    rw [fin _ h9, h1]
    simp [retO, rst]
theorem included_ok (p q : List Fac) (S : List D) (hp : ∀ f ∈ p, f.2.length ≤ 1000) : den_is_included [prodD p, prodD q] S = .ok (.bl (resL p q).isSome) S := by
  have h := residual_ok p q S hp
  cases hr : resL p q with
  | none =>
    rw [hr] at h
    simp [den_is_included, c_is_included, fnD, DL.Ou.bind, DL.aV, DL.aE, DL.eC, DL.eVar, DL.slR, DL.eBin, DL.eUn, DL.rd2, DL.rd, DL.rd0, DL.deref, DL.slD, DL.ofO, DL.eArgs, DL.eArgsP, DL.eTup, DL.eLst, DL.rdL, DL.eFun, DL.eIf, DL.eNt, DL.eAnd, DL.eOrr, DL.tTru, DL.tBool, DL.tNt, DL.tAn, DL.tOrr, DL.truD, DL.sNil, DL.sSeq, DL.ouF, DL.sIf, DL.sRet, DL.sRetN, DL.sEx, DL.sAsg, DL.tgN, DL.nxO, DL.sSetO, DL.sSetS, DL.sWipe, DL.wipeS, DL.tgTs, DL.tgT, DL.sPar, DL.sParO, DL.sRetV, DL.tgSub, DL.wrAt, DL.setAtD, DL.lenD, DL.ixD, DL.ltD, DL.leD, DL.gtD, DL.geD, DL.addD, DL.subD, DL.mulD, DL.modD, DL.fdivD, DL.powD, DL.negD, DL.isNotD, DL.notD, DL.notInD, DL.lookD, DL.putD, DL.sameKey, DL.keyEq, DL.goodKey, DL.keyOf, DL.keysOf, DL.mergeD, DL.allKeys, DL.dispOk, DL.ePairs, DL.eDisp, DL.eCall, DL.foE, DL.retO, DL.listD, DL.tupD, DL.isStr, DL.eJoin, DL.eSl, DL.ePart, DL.cutD, DL.sBk, DL.sCt, DL.turnF, DL.eComp, DL.tYs, DL.itemsD, DL.iSeq, DL.iRange1, DL.iRange2, DL.iEnumD, DL.sFor, DL.sMutL, DL.isL, DL.appD, DL.extD, DL.repD, DL.catD, DL.szOk, DL.smallI, DL.mulOk, DM.eqD_ss, DM.eqD_ii, DM.eqD_bb, DM.neD_ss, DM.neD_ii, DM.neD_bb, DM.inD_s, DM.isD_n, DM.isD_t, DM.isD_b, sizeLine_eq, h]
  | some r =>
    rw [hr] at h
    simp only [prodD] at h
    simp [den_is_included, c_is_included, fnD, prodD, DL.Ou.bind, DL.aV, DL.aE, DL.eC, DL.eVar, DL.slR, DL.eBin, DL.eUn, DL.rd2, DL.rd, DL.rd0, DL.deref, DL.slD, DL.ofO, DL.eArgs, DL.eArgsP, DL.eTup, DL.eLst, DL.rdL, DL.eFun, DL.eIf, DL.eNt, DL.eAnd, DL.eOrr, DL.tTru, DL.tBool, DL.tNt, DL.tAn, DL.tOrr, DL.truD, DL.sNil, DL.sSeq, DL.ouF, DL.sIf, DL.sRet, DL.sRetN, DL.sEx, DL.sAsg, DL.tgN, DL.nxO, DL.sSetO, DL.sSetS, DL.sWipe, DL.wipeS, DL.tgTs, DL.tgT, DL.sPar, DL.sParO, DL.sRetV, DL.tgSub, DL.wrAt, DL.setAtD, DL.lenD, DL.ixD, DL.ltD, DL.leD, DL.gtD, DL.geD, DL.addD, DL.subD, DL.mulD, DL.modD, DL.fdivD, DL.powD, DL.negD, DL.isNotD, DL.notD, DL.notInD, DL.lookD, DL.putD, DL.sameKey, DL.keyEq, DL.goodKey, DL.keyOf, DL.keysOf, DL.mergeD, DL.allKeys, DL.dispOk, DL.ePairs, DL.eDisp, DL.eCall, DL.foE, DL.retO, DL.listD, DL.tupD, DL.isStr, DL.eJoin, DL.eSl, DL.ePart, DL.cutD, DL.sBk, DL.sCt, DL.turnF, DL.eComp, DL.tYs, DL.itemsD, DL.iSeq, DL.iRange1, DL.iRange2, DL.iEnumD, DL.sFor, DL.sMutL, DL.isL, DL.appD, DL.extD, DL.repD, DL.catD, DL.szOk, DL.smallI, DL.mulOk, DM.eqD_ss, DM.eqD_ii, DM.eqD_bb, DM.neD_ss, DM.neD_ii, DM.neD_bb, DM.inD_s, DM.isD_n, DM.isD_t, DM.isD_b, sizeLine_eq, h]
end
end DM
/-! DMn: what many laws begin with: the alphabets, lists of words. -/
namespace DM
noncomputable section
open PySem PySem.Spec PyProof.Rows L2 DL
theorem cleanL_ints : ∀ xs : List Int, cleanL (xs.map D.int) = true
  | [] => rfl
  | x :: xs => by
    show (true && cleanL (xs.map D.int)) = true
    rw [cleanL_ints xs]
    rfl
theorem tp_clean {n : Nat} {T : D} (h : Tp n T) : T.clean = true := by
  obtain ⟨c, p, l, rfl, _⟩ := h
  show (cleanL (c.map D.int) && (true && (true && true))) = true
  rw [cleanL_ints]
  rfl
def alphs : List (List Nat) := [[97, 98], [97, 98], [97, 98, 99], [97], [98, 120], [99, 109, 122]]
theorem alphabet_ok {n : Nat} {T : D} {S : List D} (h : Tp n T) (hn : n < 1099511627776) : ∃ A T', den__law_alphabet [.obj 0] (T :: S) = .ok (.str A) (T' :: S) ∧ A ∈ alphs ∧ Tp (n + 1) T' := by
  obtain ⟨x, T', e, hx, t⟩ := pick_lst (S := S) (xs := alphs.map D.str) h hn (by decide) (by decide)
  obtain ⟨A, hA, rfl⟩ := List.mem_map.mp hx
  refine ⟨A, T', ?_, hA, t⟩
  simp only [alphs, List.map_cons, List.map_nil] at e
  simp [den__law_alphabet, c__law_alphabet, fnD, DL.Ou.bind, DL.aV, DL.aE, DL.eC, DL.eVar, DL.slR, DL.eBin, DL.eUn, DL.rd2, DL.rd, DL.rd0, DL.deref, DL.slD, DL.ofO, DL.eArgs, DL.eArgsP, DL.eTup, DL.eLst, DL.rdL, DL.eFun, DL.eIf, DL.eNt, DL.eAnd, DL.eOrr, DL.tTru, DL.tBool, DL.tNt, DL.tAn, DL.tOrr, DL.truD, DL.sNil, DL.sSeq, DL.ouF, DL.sIf, DL.sRet, DL.sRetN, DL.sEx, DL.sAsg, DL.tgN, DL.nxO, DL.sSetO, DL.sSetS, DL.sWipe, DL.wipeS, DL.tgTs, DL.tgT, DL.sPar, DL.sParO, DL.sRetV, DL.tgSub, DL.wrAt, DL.setAtD, DL.lenD, DL.ixD, DL.ltD, DL.leD, DL.gtD, DL.geD, DL.addD, DL.subD, DL.mulD, DL.modD, DL.fdivD, DL.powD, DL.negD, DL.isNotD, DL.notD, DL.notInD, DL.lookD, DL.putD, DL.sameKey, DL.keyEq, DL.goodKey, DL.keyOf, DL.keysOf, DL.mergeD, DL.allKeys, DL.dispOk, DL.ePairs, DL.eDisp, DL.eCall, DL.foE, DL.retO, DL.listD, DL.tupD, DL.isStr, DL.eJoin, DL.eSl, DL.ePart, DL.cutD, DL.sBk, DL.sCt, DL.turnF, DL.eComp, DL.tYs, DL.itemsD, DL.iSeq, DL.iRange1, DL.iRange2, DL.iEnumD, DL.sFor, DL.sMutL, DL.isL, DL.appD, DL.extD, DL.repD, DL.catD, DL.szOk, DL.smallI, DL.mulOk, DM.eqD_ss, DM.eqD_ii, DM.eqD_bb, DM.neD_ss, DM.neD_ii, DM.neD_bb, DM.inD_s, DM.isD_n, DM.isD_t, DM.isD_b, sizeLine_eq, e]
theorem alph_good : ∀ A ∈ alphs, A ≠ [] ∧ A.length ≤ 26 := by decide
def wordsF (A : List Nat) : Nat → List (List Nat) × List (List Nat)
  | 0 => ([[]], [[]])
  | n + 1 => ((wordsF A n).1 ++ (wordsF A n).2.flatMap fun w => A.map fun c => w ++ [c], (wordsF A n).2.flatMap fun w => A.map fun c => w ++ [c])
def wok (ws : List (List Nat)) : Bool := decide (ws.length ≤ 200) && ws.all fun w => decide (w.length ≤ 4)
theorem filt_comp {st : D → Sl → Sts} {j N : Nat} {vs : List Nat} {tt : DL.T} (htg : ∀ T d x, tgN j d (st T x) = some (st T (.val d))) (hw : ∀ T x, wipeS vs (st T x) = st T .un)
    (htt : ∀ (n : Nat) (T d : D), Tp n T → n < N → ∃ k T', tt (st T (.val d)) = .ok k (st T' (.val d)) ∧ Tp (n + 1) T') (hv : ∀ T d, eVar j (st T (.val d)) = .ok d (st T (.val d))) :
    ∀ (zs acc : List Nat) (n : Nat) (T : D), Tp n T → n + zs.length ≤ N → acc.length + zs.length ≤ 100000 → ∃ (ys : List Nat) (T' : D), compL (tgN j) tt (eVar j) vs (charsD zs) (acc.map strD) (st T .un) = .ok (ys.map strD) (st T' .un) ∧ Tp (n + zs.length) T' ∧ ys.length ≤ acc.length + zs.length
  | [], acc, n, T, ht, hn, hl => ⟨acc, T, rfl, ht, by simp⟩
  | z :: zs, acc, n, T, ht, hn, hl => by
    simp only [List.length_cons] at hn hl
    obtain ⟨k, T1, e1, t1⟩ := htt n T (strD z) ht (by omega)
    have ec : charsD (z :: zs) = strD z :: charsD zs := rfl
    rw [ec]
    cases k with
    | false =>
      obtain ⟨ys, T', h1, h2, h3⟩ := filt_comp htg hw htt hv zs acc (n + 1) T1 t1 (by omega) (by omega)
      refine ⟨ys, T', ?_, h2.up (by simp; omega), by simp; omega⟩
      rw [compL_false (htg T (strD z) .un) e1, hw, h1]
    | true =>
      obtain ⟨ys, T', h1, h2, h3⟩ := filt_comp htg hw htt hv zs (acc ++ [z]) (n + 1) T1 t1 (by omega) (by simp; omega)
      refine ⟨ys, T', ?_, h2.up (by simp; omega), by simp at h3 ⊢; omega⟩
      rw [compL_true (htg T (strD z) .un) e1 (hv T1 (strD z)) (by rw [List.length_map]; omega), hw, ← h1, List.map_append]
      rfl
end
end DM
/-! MA: what is drawn, counted in coarse units; alphabets. -/
namespace DM
noncomputable section
open PySem PySem.Spec PyProof.Rows L2 DL
/-- the tape behind k drawn things -/
def Tk (k : Nat) (T : D) : Prop := Tp (k * 4096) T
theorem Tk.up {n m : Nat} {T : D} (h : Tk n T) (k : n ≤ m) : Tk m T := Tp.up h (by omega)
theorem Tk.of {k n : Nat} {T : D} (h : Tp n T) (hn : n ≤ k * 4096) : Tk k T := Tp.up h hn
theorem tk_clean {n : Nat} {T : D} (h : Tk n T) : T.clean = true := tp_clean h
theorem t_begin {ns : List Int} : ∃ T, den__law_begin [.fro (ns.map .int)] [] = .ok T [] ∧ Tk 0 T := by
  obtain ⟨cells, e, h⟩ := begin_ok (ns := ns)
  exact ⟨_, e, cells, 0, 0, rfl, h, by omega, by omega⟩
section
variable {k : Nat} {T : D} {S : List D}
theorem t_draw {many : Int} (h : Tk k T) (hk : k < 100000000) (hm : 0 < many) (hm2 : many < 18446744073709551616) : ∃ r T', den__law_draw [.obj 0, .int many] (T :: S) = .ok (.int r) (T' :: S) ∧ 0 ≤ r ∧ r < many ∧ Tk (k + 1) T' := by
  obtain ⟨r, T', e, h1, h2, t⟩ := draw (S := S) (many := many) h (by omega) hm hm2
  exact ⟨r, T', e, h1, h2, Tk.of t (by omega)⟩
/-- a draw as a number -/
theorem t_drawN {many : Nat} (h : Tk k T) (hk : k < 100000000) (hm : 0 < many) (hm2 : many < 18446744073709551616) : ∃ (r : Nat) (T' : D), den__law_draw [.obj 0, .int many] (T :: S) = .ok (.int r) (T' :: S) ∧ r < many ∧ Tk (k + 1) T' := by
  obtain ⟨r, T', e, h1, h2, t⟩ := t_draw (S := S) (many := many) h hk (by omega) (by omega)
  exact ⟨r.toNat, T', by rw [e]; congr 2; omega, by omega, t⟩
theorem t_pickL {xs : List D} (h : Tk k T) (hk : k < 100000000) (hx : xs ≠ []) (hl : xs.length < 18446744073709551616) : ∃ x T', den__law_pick [.obj 0, .lst xs] (T :: S) = .ok x (T' :: S) ∧ x ∈ xs ∧ Tk (k + 1) T' := by
  obtain ⟨x, T', e, h1, t⟩ := pick_lst (S := S) (xs := xs) h (by omega) hx hl
  exact ⟨x, T', e, h1, Tk.of t (by omega)⟩
theorem t_pickS {xs : List Nat} (h : Tk k T) (hk : k < 100000000) (hx : xs ≠ []) (hl : xs.length ≤ 16777216) : ∃ x T', den__law_pick [.obj 0, .str xs] (T :: S) = .ok (.str [x]) (T' :: S) ∧ x ∈ xs ∧ Tk (k + 1) T' := by
  obtain ⟨x, T', e, h1, t⟩ := pick_str (S := S) (xs := xs) h (by omega) hx hl
  exact ⟨x, T', e, h1, Tk.of t (by omega)⟩
theorem t_factor {A : List Nat} (h : Tk k T) (hk : k < 100000000) (hx : A ≠ []) (hl : A.length ≤ 26) : ∃ f T', den__law_factor [.obj 0, .str A] (T :: S) = .ok (facD f) (T' :: S) ∧ Tk (k + 1) T' ∧ FacOk f ∧ Over A f.2 := by
  obtain ⟨f, T', e, t, h1, h2⟩ := factor_ok (S := S) (xs := A) h (by omega) hx hl
  exact ⟨f, T', e, Tk.of t (by omega), h1, h2⟩
theorem t_product {A : List Nat} {L : Nat} (h : Tk k T) (hk : k < 100000000) (hx : A ≠ []) (hl : A.length ≤ 26) (hL : L ≤ 100) : ∃ p T', den__law_product [.obj 0, .str A, .int L] (T :: S) = .ok (prodD p) (T' :: S) ∧ Tk (k + 1) T' ∧ p.length ≤ L ∧ ∀ f ∈ p, FacOk f ∧ Over A f.2 := by
  obtain ⟨f, T', e, t, h1, h2⟩ := product_ok (S := S) (L := L) (xs := A) h (by omega) hx hl (by omega)
  exact ⟨f, T', e, Tk.of t (by omega), h1, h2⟩
theorem t_word {A : List Nat} {L : Nat} (h : Tk k T) (hk : k < 100000000) (hx : A ≠ []) (hl : A.length ≤ 26) (hL : L ≤ 1000) : ∃ w T', den__law_word [.obj 0, .str A, .int L] (T :: S) = .ok (.str w) (T' :: S) ∧ Tk (k + 1) T' ∧ w.length ≤ L ∧ Over A w := by
  obtain ⟨f, T', e, t, h1, h2⟩ := word_ok (S := S) (L := L) (xs := A) h (by omega) hx hl (by omega)
  exact ⟨f, T', e, Tk.of t (by omega), h1, h2⟩
end
/-! alphabets -/
/-- one to three lowercase letters, ascending -/
structure GoodA (A : List Nat) : Prop where
  ne : A ≠ []
  le : A.length ≤ 3
  asc : A.Pairwise (· < ·)
  low : ∀ c ∈ A, 97 ≤ c ∧ c ≤ 122
instance (A : List Nat) : Decidable (GoodA A) := decidable_of_iff (A ≠ [] ∧ A.length ≤ 3 ∧ A.Pairwise (· < ·) ∧ ∀ c ∈ A, 97 ≤ c ∧ c ≤ 122) ⟨fun ⟨a, b, c, d⟩ => ⟨a, b, c, d⟩, fun ⟨a, b, c, d⟩ => ⟨a, b, c, d⟩⟩
theorem GoodA.l26 {A : List Nat} (h : GoodA A) : A.length ≤ 26 := Nat.le_trans h.le (by decide)
def lowL : List Nat := [97, 98, 99, 100, 101, 102, 103, 104, 105, 106, 107, 108, 109, 110, 111, 112, 113, 114, 115, 116, 117, 118, 119, 120, 121, 122]
/-- the joined signs of ascending single signs -/
theorem sing_join : ∀ (l : List (List Nat)), (∀ x ∈ l, ∃ c, x = [c] ∧ 97 ≤ c ∧ c ≤ 122) → l.Pairwise (· < ·) → l.flatten.length = l.length ∧ l.flatten.Pairwise (· < ·) ∧ ∀ c ∈ l.flatten, [c] ∈ l
  | [], _, _ => ⟨rfl, List.Pairwise.nil, by simp⟩
  | x :: l, h, pw => by
    obtain ⟨p1, p2⟩ := List.pairwise_cons.mp pw
    obtain ⟨i1, i2, i3⟩ := sing_join l (fun y hy => h y (List.mem_cons_of_mem _ hy)) p2
    obtain ⟨c, rfl, h1, h2⟩ := h x List.mem_cons_self
    refine ⟨by simp [i1], ?_, fun d hd => ?_⟩
    · simp only [List.flatten_cons, List.cons_append, List.nil_append]
      refine List.pairwise_cons.mpr ⟨fun d hd => ?_, i2⟩
      have := p1 _ (i3 d hd)
      rcases List.cons_lt_cons_iff.mp this with h | ⟨_, h⟩
      · exact h
      · exact absurd h (List.lt_irrefl _)
    · simp only [List.flatten_cons, List.cons_append, List.nil_append] at hd
      rcases List.mem_cons.mp hd with rfl | hd
      · exact List.mem_cons_self
      · exact List.mem_cons_of_mem _ (i3 d hd)
theorem insU_len (x : List Nat) : ∀ l : List (List Nat), (insU x l).length ≤ l.length + 1
  | [] => by simp [insU]
  | y :: r => by
    unfold insU
    split
    · simp
    · split
      · simp
      · have := insU_len x r
        simp; omega
theorem sortU_len : ∀ l : List (List Nat), (sortU l).length ≤ l.length
  | [] => by simp [sortU]
  | y :: r => by
    have h1 := insU_len y (sortU r)
    have h2 := sortU_len r
    show (insU y (sortU r)).length ≤ _
    simp; omega
theorem good_sort {xs : List (List Nat)} (h0 : xs ≠ []) (h3 : xs.length ≤ 3) (h : ∀ x ∈ xs, ∃ c, x = [c] ∧ 97 ≤ c ∧ c ≤ 122) : GoodA (sortU xs).flatten := by
  obtain ⟨a1, a2, a3⟩ := sing_join (sortU xs) (fun x hx => h x (mem_sortU.mp hx)) (asc_sortU xs)
  refine ⟨fun e => ?_, by rw [a1]; exact Nat.le_trans (sortU_len xs) h3, a2, fun c hc => ?_⟩
  · cases xs with
    | nil => exact h0 rfl
    | cons x r =>
      have hx : x ∈ sortU (x :: r) := mem_sortU.mpr List.mem_cons_self
      obtain ⟨c, rfl, _⟩ := h x List.mem_cons_self
      have : c ∈ (sortU ([c] :: r)).flatten := List.mem_flatten.mpr ⟨_, hx, by simp⟩
      rw [e] at this
      simp at this
  · obtain ⟨d, e, h1, h2⟩ := h _ (mem_sortU.mp (a3 c hc))
    cases e
    exact ⟨h1, h2⟩
theorem strs_list {G : List Nat → Prop} : ∀ (ys : List D), (∀ y ∈ ys, ∃ x, y = .str x ∧ G x) → ∃ xs : List (List Nat), ys = xs.map .str ∧ ∀ x ∈ xs, G x
  | [], _ => ⟨[], rfl, by simp⟩
  | y :: ys, h => by
    obtain ⟨xs, e, g⟩ := strs_list ys fun z hz => h z (List.mem_cons_of_mem _ hz)
    obtain ⟨x, rfl, gx⟩ := h y List.mem_cons_self
    exact ⟨x :: xs, by rw [e]; rfl, fun z hz => by
      rcases List.mem_cons.mp hz with rfl | hz
      · exact gx
      · exact g z hz⟩
def al2S (w : Sl) (T : D) (S : List D) : Sts := ⟨[.val (.obj 0), .val (.str lowL), .un, w], T :: S⟩
theorem drawn_low {k : Nat} {T : D} {S : List D} (h : Tk k T) (hk : k < 100000000 - 10) :
    ∃ (xs : List (List Nat)) (T' : D), q__law_alphabet_2_1 (al2S .un T S) = .ok (.lst (xs.map .str)) (al2S .un T' S) ∧ Tk (k + 4) T' ∧ xs ≠ [] ∧ xs.length ≤ 3 ∧ ∀ x ∈ xs, ∃ c, x = [c] ∧ 97 ≤ c ∧ c ≤ 122 := by
  obtain ⟨r, T1, e1, r1, t1⟩ := t_drawN (S := S) (many := 3) h (by omega) (by omega) (by omega)
  have key := comp_famA (tg := tgN 3) (tt := tYs) (m := (eBin ixD (aV 1) (aE (eCall den__law_draw [(eVar 0), (eC (.int 26))])))) (vs := [3]) (fun T => al2S .un T S) (fun n T => Tk (k + 1 + n) T) (fun y => ∃ x, y = .str x ∧ ∃ c, x = [c] ∧ 97 ≤ c ∧ c ≤ 122) 3
    (rangeD 0 (1 + r)) [] 0 T1 (fun d hd n T' i hn => by
      obtain ⟨j, T2, e2, j1, t2⟩ := t_drawN (S := S) (many := 26) i (by omega) (by omega) (by omega)
      have hj : j < lowL.length := j1
      have at1 : L2.atI lowL (j : Int) = some lowL[j] := L2.atI_nat (List.getElem?_eq_getElem hj)
      have e2' : den__law_draw [D.obj 0, D.int 26] (T' :: S) = Fo.ok (D.int j) (T2 :: S) := e2
      refine ⟨.str [lowL[j]], T2, ?_, t2, _, rfl, _, rfl, ?_⟩
      · have hz : szOk lowL.length := sz_of (by decide)
        simp (disch := first | (simp only [DL.o_non, DL.o_bl, DL.o_int, DL.o_str, DL.o_tup, DL.o_lst, DL.o_fro, DL.o_dct, DL.o_ins, DL.o_fn, List.length_cons, List.length_append, List.length_nil, List.length_singleton]; done) | ((with_reducible refine DL.sz_of ?_); (try simp only [List.length_cons, List.length_append, List.length_map, List.length_nil, List.length_singleton, List.length_take, List.length_drop, List.length_reverse, List.length_replicate]); omega) | (with_reducible assumption)) [↓DL.x_bNs, ↓DL.x_bNn, ↓DL.x_bEo, ↓DL.x_bEx, ↓DL.x_bEb, ↓DL.x_bFo, ↓DL.x_bFx, ↓DL.x_bFb, ↓DL.x_bOs, ↓DL.x_bOn, ↓DL.x_bPs, ↓DL.x_bPn, ↓DL.x_bQn, ↓DL.x_bQr, ↓DL.x_bQb, ↓DL.x_bQc, ↓DL.x_bQx, ↓DL.x_bQd, ↓DL.x_bWn, ↓DL.x_bWr, ↓DL.x_bWb, ↓DL.x_bWc, ↓DL.x_bWx, ↓DL.x_bWd, ↓DL.x_bBb, ↓DL.x_bIi, ↓DL.x_bCo, ↓DL.x_bCx, ↓DL.x_bCb, ↓DL.x_bRr, ↓DL.x_bRn, ↓DL.x_bRx, ↓DL.x_bAv, ↓DL.x_bAw, ↓DL.x_bind, ↓DL.x_ouF, ↓DL.x_C, ↓DL.x_var, ↓DL.x_slV, ↓DL.x_slW, ↓DL.x_aV, ↓DL.x_aE, ↓DL.x_rdS, ↓DL.x_rdD, ↓DL.x_derefO, ↓DL.x_deref, ↓DL.x_getO, ↓DL.x_getV, ↓DL.x_getW, DL.o_non, DL.o_bl, DL.o_int, DL.o_str, DL.o_tup, DL.o_lst, DL.o_fro, DL.o_dct, DL.o_ins, DL.o_fn, ↓DL.x_bin, ↓DL.x_ofS, ↓DL.x_ofN, ↓DL.x_un, ↓DL.x_argsN, ↓DL.x_argsC, ↓DL.x_tup, ↓DL.x_lst, ↓DL.x_rdLN, ↓DL.x_rdLC, ↓DL.x_argsPN, ↓DL.x_argsPC, ↓DL.x_fun, ↓DL.x_tTru, ↓DL.x_tBool, ↓DL.x_tNt, ↓DL.x_tAn, ↓DL.x_tOr, ↓DL.x_tYs, ↓DL.x_eIf, ↓DL.x_eNt, ↓DL.x_eAnd, ↓DL.x_eOr, ↓DL.x_nil, ↓DL.x_seq, ↓DL.x_if, ↓DL.x_ret, ↓DL.x_retN, ↓DL.x_ex, ↓DL.x_bk, ↓DL.x_ct, ↓DL.x_nxS, ↓DL.x_nxN, ↓DL.x_asg, ↓DL.x_tgN, ↓DL.x_setO, ↓DL.x_setS, ↓DL.x_wipe, ↓DL.x_wipeN, ↓DL.x_wipeC, ↓DL.x_tgT, ↓DL.x_tgsN, ↓DL.x_tgsC, ↓DL.x_forN, ↓DL.x_for, ↓DL.x_par, ↓DL.x_parO, ↓DL.x_retV, ↓DL.x_bVo, ↓DL.x_call, ↓DL.x_fnD, ↓DL.x_retO, DL.v_retO, ↓DL.x_retX, ↓DL.x_comp, ↓DL.x_iSeq, ↓DL.x_itL, ↓DL.x_itF, ↓DL.x_itT, ↓DL.x_itS, ↓DL.x_bG, ↓DL.x_rng1, ↓DL.x_bG2, ↓DL.x_rng2, ↓DL.x_enum, ↓DL.x_sqL, ↓DL.x_sqF, ↓DL.x_sqT, ↓DL.x_bMo, ↓DL.x_bMs, ↓DL.x_wrS, ↓DL.x_wrD, ↓DL.x_isLst, ↓DL.x_mutL, ↓DL.x_bTo, ↓DL.x_tgSub, ↓DL.x_join, ↓DL.x_isStr, ↓DL.x_partN, ↓DL.x_partS, ↓DL.x_sl, ↓DL.x_prsN, ↓DL.x_prsC, ↓DL.x_disp, DL.v_addI, DL.v_addS, DL.v_addT, DL.v_addL, DL.v_catL, DL.v_sub, DL.v_mod, DL.v_neg, DL.v_ltI, DL.v_leI, DL.v_gtI, DL.v_geI, DL.v_ltS, DL.v_leS, DL.v_eqS, DL.v_eqI, DL.v_eqB, DL.v_neS, DL.v_neI, DL.v_neB, DL.v_inS, DL.v_ninS, DL.v_isNN, DL.v_isT, DL.v_isL, DL.v_isS, DL.v_isI, DL.v_isB, DL.v_isNot, DL.v_ixL, DL.v_ixF, DL.v_ixT, DL.v_ixS, DL.v_ixK, DL.v_ixKI, DL.v_at0, DL.v_at1, DL.v_at2, DL.v_lenL, DL.v_lenF, DL.v_lenT, DL.v_lenS, DL.v_lenK, DL.v_lstL, DL.v_lstT, DL.v_lstF, DL.v_tupL, DL.v_tupT, DL.v_tupF, DL.v_cutL, DL.v_cutT, DL.v_cutS, DL.v_app, DL.v_ext, DL.v_truN, DL.v_truB, DL.v_truI, DL.v_truT, DL.v_truL, DL.v_truS, DL.v_rep, DL.v_mulS, DL.v_mulI, DL.v_setL, ↓DL.x_bUo, ↓DL.x_cStep, ↓DL.x_compN, ↓DL.x_bHn, ↓DL.x_bHc, ↓DL.x_bHb, ↓DL.x_bHr, ↓DL.x_bHx, ↓DL.x_bHd, ↓DL.x_fStep, ↓DL.x_bX, ↓DL.x_sortSet, ↓DL.x_tgU, ↓DL.x_bJ, ↓DL.x_chain, DL.v_isi, ↓DL.x_bY, ↓DL.x_pop, DL.v_pop, DL.v_inT, DL.v_rev, DL.v_notInT, ↓DL.x_sBad, ↓DL.x_eBad, ↓DL.x_setTx, ↓DL.x_sortSetS, DL.v_revS, DL.v_listXs, DL.v_listXt, DL.v_listXl, ↓DL.x_enumS1, ↓DL.x_enumSt, List.getElem?_cons_zero, List.getElem?_cons_succ, List.set_cons_zero, List.set_cons_succ, al2S, e2', at1]
      · have : ∀ c ∈ lowL, 97 ≤ c ∧ c ≤ 122 := by decide
        exact this _ (List.getElem_mem hj)) (by simp [rangeD_len]; omega) t1 (by rw [rangeD_len]; omega)
  obtain ⟨ys, T3, e3, l3, g3, t3⟩ := key
  obtain ⟨xs, rfl, gx⟩ := strs_list ys g3
  rw [rangeD_len] at l3 t3
  rw [List.length_map] at l3
  refine ⟨xs, T3, ?_, t3.up (by omega), fun e => by rw [e] at l3; simp at l3; omega, by omega, gx⟩
  have hr : rngOk (1 + (r : Int)) := ⟨by omega, by omega⟩
  have e1' : den__law_draw [D.obj 0, D.int 3] (T :: S) = Fo.ok (D.int r) (T1 :: S) := e1
  rw [List.nil_append] at e3
  simp only [al2S] at e3
  simp (disch := first | (simp only [DL.o_non, DL.o_bl, DL.o_int, DL.o_str, DL.o_tup, DL.o_lst, DL.o_fro, DL.o_dct, DL.o_ins, DL.o_fn, List.length_cons, List.length_append, List.length_nil, List.length_singleton]; done) | ((with_reducible refine DL.sz_of ?_); (try simp only [List.length_cons, List.length_append, List.length_map, List.length_nil, List.length_singleton, List.length_take, List.length_drop, List.length_reverse, List.length_replicate]); omega) | (with_reducible assumption)) [↓DL.x_bNs, ↓DL.x_bNn, ↓DL.x_bEo, ↓DL.x_bEx, ↓DL.x_bEb, ↓DL.x_bFo, ↓DL.x_bFx, ↓DL.x_bFb, ↓DL.x_bOs, ↓DL.x_bOn, ↓DL.x_bPs, ↓DL.x_bPn, ↓DL.x_bQn, ↓DL.x_bQr, ↓DL.x_bQb, ↓DL.x_bQc, ↓DL.x_bQx, ↓DL.x_bQd, ↓DL.x_bWn, ↓DL.x_bWr, ↓DL.x_bWb, ↓DL.x_bWc, ↓DL.x_bWx, ↓DL.x_bWd, ↓DL.x_bBb, ↓DL.x_bIi, ↓DL.x_bCo, ↓DL.x_bCx, ↓DL.x_bCb, ↓DL.x_bRr, ↓DL.x_bRn, ↓DL.x_bRx, ↓DL.x_bAv, ↓DL.x_bAw, ↓DL.x_bind, ↓DL.x_ouF, ↓DL.x_C, ↓DL.x_var, ↓DL.x_slV, ↓DL.x_slW, ↓DL.x_aV, ↓DL.x_aE, ↓DL.x_rdS, ↓DL.x_rdD, ↓DL.x_derefO, ↓DL.x_deref, ↓DL.x_getO, ↓DL.x_getV, ↓DL.x_getW, DL.o_non, DL.o_bl, DL.o_int, DL.o_str, DL.o_tup, DL.o_lst, DL.o_fro, DL.o_dct, DL.o_ins, DL.o_fn, ↓DL.x_bin, ↓DL.x_ofS, ↓DL.x_ofN, ↓DL.x_un, ↓DL.x_argsN, ↓DL.x_argsC, ↓DL.x_tup, ↓DL.x_lst, ↓DL.x_rdLN, ↓DL.x_rdLC, ↓DL.x_argsPN, ↓DL.x_argsPC, ↓DL.x_fun, ↓DL.x_tTru, ↓DL.x_tBool, ↓DL.x_tNt, ↓DL.x_tAn, ↓DL.x_tOr, ↓DL.x_tYs, ↓DL.x_eIf, ↓DL.x_eNt, ↓DL.x_eAnd, ↓DL.x_eOr, ↓DL.x_nil, ↓DL.x_seq, ↓DL.x_if, ↓DL.x_ret, ↓DL.x_retN, ↓DL.x_ex, ↓DL.x_bk, ↓DL.x_ct, ↓DL.x_nxS, ↓DL.x_nxN, ↓DL.x_asg, ↓DL.x_tgN, ↓DL.x_setO, ↓DL.x_setS, ↓DL.x_wipe, ↓DL.x_wipeN, ↓DL.x_wipeC, ↓DL.x_tgT, ↓DL.x_tgsN, ↓DL.x_tgsC, ↓DL.x_forN, ↓DL.x_for, ↓DL.x_par, ↓DL.x_parO, ↓DL.x_retV, ↓DL.x_bVo, ↓DL.x_call, ↓DL.x_fnD, ↓DL.x_retO, DL.v_retO, ↓DL.x_retX, ↓DL.x_comp, ↓DL.x_iSeq, ↓DL.x_itL, ↓DL.x_itF, ↓DL.x_itT, ↓DL.x_itS, ↓DL.x_bG, ↓DL.x_rng1, ↓DL.x_bG2, ↓DL.x_rng2, ↓DL.x_enum, ↓DL.x_sqL, ↓DL.x_sqF, ↓DL.x_sqT, ↓DL.x_bMo, ↓DL.x_bMs, ↓DL.x_wrS, ↓DL.x_wrD, ↓DL.x_isLst, ↓DL.x_mutL, ↓DL.x_bTo, ↓DL.x_tgSub, ↓DL.x_join, ↓DL.x_isStr, ↓DL.x_partN, ↓DL.x_partS, ↓DL.x_sl, ↓DL.x_prsN, ↓DL.x_prsC, ↓DL.x_disp, DL.v_addI, DL.v_addS, DL.v_addT, DL.v_addL, DL.v_catL, DL.v_sub, DL.v_mod, DL.v_neg, DL.v_ltI, DL.v_leI, DL.v_gtI, DL.v_geI, DL.v_ltS, DL.v_leS, DL.v_eqS, DL.v_eqI, DL.v_eqB, DL.v_neS, DL.v_neI, DL.v_neB, DL.v_inS, DL.v_ninS, DL.v_isNN, DL.v_isT, DL.v_isL, DL.v_isS, DL.v_isI, DL.v_isB, DL.v_isNot, DL.v_ixL, DL.v_ixF, DL.v_ixT, DL.v_ixS, DL.v_ixK, DL.v_ixKI, DL.v_at0, DL.v_at1, DL.v_at2, DL.v_lenL, DL.v_lenF, DL.v_lenT, DL.v_lenS, DL.v_lenK, DL.v_lstL, DL.v_lstT, DL.v_lstF, DL.v_tupL, DL.v_tupT, DL.v_tupF, DL.v_cutL, DL.v_cutT, DL.v_cutS, DL.v_app, DL.v_ext, DL.v_truN, DL.v_truB, DL.v_truI, DL.v_truT, DL.v_truL, DL.v_truS, DL.v_rep, DL.v_mulS, DL.v_mulI, DL.v_setL, ↓DL.x_bUo, ↓DL.x_cStep, ↓DL.x_compN, ↓DL.x_bHn, ↓DL.x_bHc, ↓DL.x_bHb, ↓DL.x_bHr, ↓DL.x_bHx, ↓DL.x_bHd, ↓DL.x_fStep, ↓DL.x_bX, ↓DL.x_sortSet, ↓DL.x_tgU, ↓DL.x_bJ, ↓DL.x_chain, DL.v_isi, ↓DL.x_bY, ↓DL.x_pop, DL.v_pop, DL.v_inT, DL.v_rev, DL.v_notInT, ↓DL.x_sBad, ↓DL.x_eBad, ↓DL.x_setTx, ↓DL.x_sortSetS, DL.v_revS, DL.v_listXs, DL.v_listXt, DL.v_listXl, ↓DL.x_enumS1, ↓DL.x_enumSt, List.getElem?_cons_zero, List.getElem?_cons_succ, List.set_cons_zero, List.set_cons_succ, q__law_alphabet_2_1, al2S, e1', hr, e3]
theorem t_alphabet {k : Nat} {T : D} {S : List D} (h : Tk k T) (hk : k < 100000000 - 10) : ∃ A T', den__law_alphabet_2 [.obj 0] (T :: S) = .ok (.str A) (T' :: S) ∧ GoodA A ∧ Tk (k + 5) T' := by
  obtain ⟨xs, T1, e1, t1, x1, x2, x3⟩ := drawn_low (S := S) h hk
  have hg := good_sort x1 x2 x3
  obtain ⟨x, T2, e2, hx, t2⟩ := t_pickL (S := S) (xs := [.str [97, 98], .str [97, 98, 99], .str [97], .str [98, 120], .str [99, 109, 122], .str (sortU xs).flatten, .str (sortU xs).flatten, .str (sortU xs).flatten, .str (sortU xs).flatten, .str (sortU xs).flatten]) t1 (by omega) (by simp) (by simp)
  have hA : ∃ A, x = .str A ∧ GoodA A := by
    simp only [List.mem_cons, List.not_mem_nil, or_false] at hx
    rcases hx with rfl | rfl | rfl | rfl | rfl | rfl | rfl | rfl | rfl | rfl
    · exact ⟨_, rfl, by decide⟩
    · exact ⟨_, rfl, by decide⟩
    · exact ⟨_, rfl, by decide⟩
    · exact ⟨_, rfl, by decide⟩
    · exact ⟨_, rfl, by decide⟩
    all_goals exact ⟨_, rfl, hg⟩
  obtain ⟨A, rfl, gA⟩ := hA
  refine ⟨A, T2, ?_, gA, t2⟩
  have hj : joinD (.str []) (.lst ((sortU xs).map .str)) = some (.str (sortU xs).flatten) := join_ok (sortU xs) 1 (fun y hy => by
    obtain ⟨c, rfl, _⟩ := x3 y (mem_sortU.mp hy)
    simp) (by have := sortU_len xs; omega)
  have h64 : xs.length < 64 := by omega
  have hrp : smallI 5 = true := by decide
  have e1' : q__law_alphabet_2_1 ⟨[.val (.obj 0), .val (.str [97, 98, 99, 100, 101, 102, 103, 104, 105, 106, 107, 108, 109, 110, 111, 112, 113, 114, 115, 116, 117, 118, 119, 120, 121, 122]), .un, .un], T :: S⟩ = .ok (.lst (xs.map .str)) ⟨[.val (.obj 0), .val (.str [97, 98, 99, 100, 101, 102, 103, 104, 105, 106, 107, 108, 109, 110, 111, 112, 113, 114, 115, 116, 117, 118, 119, 120, 121, 122]), .un, .un], T1 :: S⟩ := e1
  have hX : ∀ s, bX (.lst (xs.map .str)) s = .ok (.lst ((sortU xs).map .str)) s := fun s => x_bX _ _ s (strsOf_map xs) h64
  simp (disch := first | (simp only [DL.o_non, DL.o_bl, DL.o_int, DL.o_str, DL.o_tup, DL.o_lst, DL.o_fro, DL.o_dct, DL.o_ins, DL.o_fn, List.length_cons, List.length_append, List.length_nil, List.length_singleton]; done) | ((with_reducible refine DL.sz_of ?_); (try simp only [List.length_cons, List.length_append, List.length_map, List.length_nil, List.length_singleton, List.length_take, List.length_drop, List.length_reverse, List.length_replicate]); omega) | (with_reducible assumption)) [den__law_alphabet_2, c__law_alphabet_2, ↓DL.x_bNs, ↓DL.x_bNn, ↓DL.x_bEo, ↓DL.x_bEx, ↓DL.x_bEb, ↓DL.x_bFo, ↓DL.x_bFx, ↓DL.x_bFb, ↓DL.x_bOs, ↓DL.x_bOn, ↓DL.x_bPs, ↓DL.x_bPn, ↓DL.x_bQn, ↓DL.x_bQr, ↓DL.x_bQb, ↓DL.x_bQc, ↓DL.x_bQx, ↓DL.x_bQd, ↓DL.x_bWn, ↓DL.x_bWr, ↓DL.x_bWb, ↓DL.x_bWc, ↓DL.x_bWx, ↓DL.x_bWd, ↓DL.x_bBb, ↓DL.x_bIi, ↓DL.x_bCo, ↓DL.x_bCx, ↓DL.x_bCb, ↓DL.x_bRr, ↓DL.x_bRn, ↓DL.x_bRx, ↓DL.x_bAv, ↓DL.x_bAw, ↓DL.x_bind, ↓DL.x_ouF, ↓DL.x_C, ↓DL.x_var, ↓DL.x_slV, ↓DL.x_slW, ↓DL.x_aV, ↓DL.x_aE, ↓DL.x_rdS, ↓DL.x_rdD, ↓DL.x_derefO, ↓DL.x_deref, ↓DL.x_getO, ↓DL.x_getV, ↓DL.x_getW, DL.o_non, DL.o_bl, DL.o_int, DL.o_str, DL.o_tup, DL.o_lst, DL.o_fro, DL.o_dct, DL.o_ins, DL.o_fn, ↓DL.x_bin, ↓DL.x_ofS, ↓DL.x_ofN, ↓DL.x_un, ↓DL.x_argsN, ↓DL.x_argsC, ↓DL.x_tup, ↓DL.x_lst, ↓DL.x_rdLN, ↓DL.x_rdLC, ↓DL.x_argsPN, ↓DL.x_argsPC, ↓DL.x_fun, ↓DL.x_tTru, ↓DL.x_tBool, ↓DL.x_tNt, ↓DL.x_tAn, ↓DL.x_tOr, ↓DL.x_tYs, ↓DL.x_eIf, ↓DL.x_eNt, ↓DL.x_eAnd, ↓DL.x_eOr, ↓DL.x_nil, ↓DL.x_seq, ↓DL.x_if, ↓DL.x_ret, ↓DL.x_retN, ↓DL.x_ex, ↓DL.x_bk, ↓DL.x_ct, ↓DL.x_nxS, ↓DL.x_nxN, ↓DL.x_asg, ↓DL.x_tgN, ↓DL.x_setO, ↓DL.x_setS, ↓DL.x_wipe, ↓DL.x_wipeN, ↓DL.x_wipeC, ↓DL.x_tgT, ↓DL.x_tgsN, ↓DL.x_tgsC, ↓DL.x_forN, ↓DL.x_for, ↓DL.x_par, ↓DL.x_parO, ↓DL.x_retV, ↓DL.x_bVo, ↓DL.x_call, ↓DL.x_fnD, ↓DL.x_retO, DL.v_retO, ↓DL.x_retX, ↓DL.x_comp, ↓DL.x_iSeq, ↓DL.x_itL, ↓DL.x_itF, ↓DL.x_itT, ↓DL.x_itS, ↓DL.x_bG, ↓DL.x_rng1, ↓DL.x_bG2, ↓DL.x_rng2, ↓DL.x_enum, ↓DL.x_sqL, ↓DL.x_sqF, ↓DL.x_sqT, ↓DL.x_bMo, ↓DL.x_bMs, ↓DL.x_wrS, ↓DL.x_wrD, ↓DL.x_isLst, ↓DL.x_mutL, ↓DL.x_bTo, ↓DL.x_tgSub, ↓DL.x_join, ↓DL.x_isStr, ↓DL.x_partN, ↓DL.x_partS, ↓DL.x_sl, ↓DL.x_prsN, ↓DL.x_prsC, ↓DL.x_disp, DL.v_addI, DL.v_addS, DL.v_addT, DL.v_addL, DL.v_catL, DL.v_sub, DL.v_mod, DL.v_neg, DL.v_ltI, DL.v_leI, DL.v_gtI, DL.v_geI, DL.v_ltS, DL.v_leS, DL.v_eqS, DL.v_eqI, DL.v_eqB, DL.v_neS, DL.v_neI, DL.v_neB, DL.v_inS, DL.v_ninS, DL.v_isNN, DL.v_isT, DL.v_isL, DL.v_isS, DL.v_isI, DL.v_isB, DL.v_isNot, DL.v_ixL, DL.v_ixF, DL.v_ixT, DL.v_ixS, DL.v_ixK, DL.v_ixKI, DL.v_at0, DL.v_at1, DL.v_at2, DL.v_lenL, DL.v_lenF, DL.v_lenT, DL.v_lenS, DL.v_lenK, DL.v_lstL, DL.v_lstT, DL.v_lstF, DL.v_tupL, DL.v_tupT, DL.v_tupF, DL.v_cutL, DL.v_cutT, DL.v_cutS, DL.v_app, DL.v_ext, DL.v_truN, DL.v_truB, DL.v_truI, DL.v_truT, DL.v_truL, DL.v_truS, DL.v_rep, DL.v_mulS, DL.v_mulI, DL.v_setL, ↓DL.x_bUo, ↓DL.x_cStep, ↓DL.x_compN, ↓DL.x_bHn, ↓DL.x_bHc, ↓DL.x_bHb, ↓DL.x_bHr, ↓DL.x_bHx, ↓DL.x_bHd, ↓DL.x_fStep, ↓DL.x_bX, ↓DL.x_sortSet, ↓DL.x_tgU, ↓DL.x_bJ, ↓DL.x_chain, DL.v_isi, ↓DL.x_bY, ↓DL.x_pop, DL.v_pop, DL.v_inT, DL.v_rev, DL.v_notInT, ↓DL.x_sBad, ↓DL.x_eBad, ↓DL.x_setTx, ↓DL.x_sortSetS, DL.v_revS, DL.v_listXs, DL.v_listXt, DL.v_listXl, ↓DL.x_enumS1, ↓DL.x_enumSt, List.getElem?_cons_zero, List.getElem?_cons_succ, List.set_cons_zero, List.set_cons_succ, e1', hX, hj, hrp, e2]
end
end DM
/-! MB: subwords as sublists; unfoldings. -/
namespace DM
noncomputable section
open PySem PySem.Spec PyProof.Rows L2 DL
theorem resid_sub : ∀ (w u : List Nat), resid w u = [] ↔ w.Sublist u
  | [], [] => by simp [resid]
  | c :: w, [] => by simp [resid]
  | [], x :: u => by simp [resid, resid_nil]
  | c :: w, x :: u => by
    rw [resid]
    split
    · rename_i h
      subst h
      rw [resid_sub w u]
      exact (List.cons_sublist_cons).symm
    · rename_i h
      rw [resid_sub (c :: w) u]
      constructor
      · exact fun k => k.cons _
      · intro k
        cases k with
        | cons _ k => exact k
        | cons_cons _ _ => exact absurd rfl h
theorem isSub_iff (w u : List Nat) : isSub w u = true ↔ w.Sublist u := by
  unfold isSub
  rw [List.isEmpty_iff]
  exact resid_sub w u
def OptL (p : List Fac) : Prop := ∀ f ∈ p, f.1 = false → f.2.length = 1
theorem unf_mono (p : List Fac) {m n : Nat} (h : m ≤ n) : (unfL p m).Sublist (unfL p n) := by
  induction p with
  | nil => simp [unfL]
  | cons f p ih =>
    have e : ∀ k : Nat, unfL (f :: p) k = unfF k f ++ unfL p k := fun k => by simp [unfL]
    rw [e, e]
    refine List.Sublist.append ?_ ih
    unfold unfF
    split
    · unfold repS
      obtain ⟨d, rfl⟩ := Nat.le.dest h
      simp only [Int.toNat_natCast]
      rw [← List.replicate_append_replicate, List.flatten_append]
      exact List.sublist_append_left _ _
    · exact List.Sublist.refl _
theorem in_of_unf {p : List Fac} (hp : OptL p) {w : List Nat} {n : Nat} (h : w.Sublist (unfL p n)) : inL p w = true := by
  rw [← unf_in p hp (max n w.length) w (Nat.le_max_right _ _)]
  exact (isSub_iff _ _).mpr (h.trans (unf_mono p (Nat.le_max_left _ _)))
theorem unf_of_in {p : List Fac} (hp : OptL p) {w : List Nat} {n : Nat} (hn : w.length ≤ n) (h : inL p w = true) : w.Sublist (unfL p n) := by
  rw [← unf_in p hp n w hn] at h
  exact (isSub_iff _ _).mp h
theorem in_sub {p : List Fac} (hp : OptL p) {v w : List Nat} (h : v.Sublist w) (hw : inL p w = true) : inL p v = true :=
  in_of_unf hp (h.trans (unf_of_in hp (Nat.le_refl _) hw))
theorem in_unf {p : List Fac} (hp : OptL p) (n : Nat) : inL p (unfL p n) = true := in_of_unf hp (List.Sublist.refl _)
theorem facOk_opt {p : List Fac} (h : ∀ f ∈ p, FacOk f) : OptL p := fun f hf => (h f hf).2.2
theorem unf_le : ∀ {p : List Fac}, (∀ f ∈ p, FacOk f) → ∀ (n : Nat), (unfL p n).length ≤ p.length * (26 * n + 1)
  | [], _, n => by simp [unfL]
  | f :: p, h, n => by
    have ih := unf_le (p := p) (fun g hg => h g (List.mem_cons_of_mem _ hg)) n
    have e : unfL (f :: p) n = unfF n f ++ unfL p n := by simp [unfL]
    obtain ⟨_, h2, h3⟩ := h f List.mem_cons_self
    have hf : (unfF n f).length ≤ 26 * n + 1 := by
      unfold unfF
      split
      · rw [repS_len]
        have : n * f.2.length ≤ n * 26 := Nat.mul_le_mul_left n h2
        simp only [Int.toNat_natCast]
        omega
      · rename_i hb
        rw [h3 (by simpa using hb)]
        omega
    rw [e, List.length_append, List.length_cons, Nat.add_mul]
    omega
/-- one product inside another by a long unfolding -/
theorem in_long {p q : List Fac} (hp : ∀ f ∈ p, FacOk f) (hq : ∀ f ∈ q, FacOk f) {n : Nat} (hn : q.length < n) : inL q (unfL p n) = (resL p q).isSome := by
  rw [inL_derW, res_der p hp q (facOk_opt hq) n hn]
end
end DM
/-! MD: reduced products: the same words; one reduced product for each language. -/
namespace DM
noncomputable section
open PySem PySem.Spec PyProof.Rows L2 DL
theorem in_append : ∀ (p q : List Fac) (w : List Nat), inL (p ++ q) w = true ↔ ∃ u v, w = u ++ v ∧ inL p u = true ∧ inL q v = true
  | [], q, w => by
    constructor
    · exact fun h => ⟨[], w, rfl, inL_nil _, h⟩
    · rintro ⟨u, v, rfl, h1, h2⟩
      cases u with
      | nil => exact h2
      | cons c u => simp [inL] at h1
  | f :: p, q, [] => by
    constructor
    · exact fun _ => ⟨[], [], rfl, inL_nil _, inL_nil _⟩
    · exact fun _ => inL_nil _
  | (true, l) :: p, q, c :: w => by
    rw [List.cons_append, inL, Bool.or_eq_true, Bool.and_eq_true]
    rw [in_append p q (c :: w), ← List.cons_append, in_append ((true, l) :: p) q w]
    constructor
    · rintro (⟨u, v, e, h1, h2⟩ | ⟨hc, u, v, rfl, h1, h2⟩)
      · exact ⟨u, v, e, inL_more _ _ _ h1, h2⟩
      · refine ⟨c :: u, v, rfl, ?_, h2⟩
        rw [inL, hc, h1]; simp
    · rintro ⟨u, v, e, h1, h2⟩
      cases u with
      | nil => exact .inl ⟨[], v, e, inL_nil _, h2⟩
      | cons d u =>
        simp only [List.cons_append, List.cons.injEq] at e
        obtain ⟨rfl, rfl⟩ := e
        rw [inL, Bool.or_eq_true, Bool.and_eq_true] at h1
        rcases h1 with h1 | ⟨hc, h1⟩
        · exact .inl ⟨c :: u, v, rfl, h1, h2⟩
        · exact .inr ⟨hc, u, v, rfl, h1, h2⟩
  | (false, l) :: p, q, c :: w => by
    rw [List.cons_append, inL, Bool.or_eq_true, Bool.and_eq_true]
    rw [in_append p q (c :: w), in_append p q w]
    constructor
    · rintro (⟨u, v, e, h1, h2⟩ | ⟨hc, u, v, rfl, h1, h2⟩)
      · exact ⟨u, v, e, inL_more _ _ _ h1, h2⟩
      · refine ⟨c :: u, v, rfl, ?_, h2⟩
        rw [inL, hc, h1]; simp
    · rintro ⟨u, v, e, h1, h2⟩
      cases u with
      | nil => exact .inl ⟨[], v, e, inL_nil _, h2⟩
      | cons d u =>
        simp only [List.cons_append, List.cons.injEq] at e
        obtain ⟨rfl, rfl⟩ := e
        rw [inL, Bool.or_eq_true, Bool.and_eq_true] at h1
        rcases h1 with h1 | ⟨hc, h1⟩
        · exact .inl ⟨c :: u, v, rfl, h1, h2⟩
        · exact .inr ⟨hc, u, v, rfl, h1, h2⟩
/-- the words of a star -/
theorem in_star (l : List Nat) : ∀ (w : List Nat), inL [(true, l)] w = true ↔ ∀ c ∈ w, c ∈ l
  | [] => by simp [inL_nil]
  | c :: w => by
    rw [inL, Bool.or_eq_true, Bool.and_eq_true, in_star l w]
    simp [inL]
theorem in_one {f : Fac} {w : List Nat} (h : inL [f] w = true) : ∀ c ∈ w, c ∈ f.2 := by
  obtain ⟨b, l⟩ := f
  cases b with
  | true => exact (in_star l w).mp h
  | false =>
    cases w with
    | nil => simp
    | cons c w =>
      rw [inL, Bool.or_eq_true, Bool.and_eq_true] at h
      rcases h with h | ⟨hc, h⟩
      · simp [inL] at h
      · cases w with
        | nil => simpa using hc
        | cons d w => simp [inL] at h
theorem holds_iff (g f : Fac) : holdsL g f = true ↔ g.1 = true ∧ ∀ c ∈ f.2, c ∈ g.2 := by
  unfold holdsL
  simp
/-- a factor in front of a star that holds it -/
theorem in_hold1 {g f : Fac} (h : holdsL f g = true) (a b : List Fac) (w : List Nat) : inL (a ++ g :: f :: b) w = inL (a ++ f :: b) w := by
  obtain ⟨h1, h2⟩ := (holds_iff _ _).mp h
  obtain ⟨k, l⟩ := f
  cases h1
  rw [Bool.eq_iff_iff, in_append, in_append]
  constructor
  · rintro ⟨u, v, rfl, hu, hv⟩
    rw [show g :: (true, l) :: b = [g] ++ ([(true, l)] ++ b) from rfl, in_append] at hv
    obtain ⟨v1, v2, rfl, h3, h4⟩ := hv
    rw [in_append] at h4
    obtain ⟨v3, v4, rfl, h5, h6⟩ := h4
    refine ⟨u, v1 ++ (v3 ++ v4), rfl, hu, ?_⟩
    rw [show (true, l) :: b = [(true, l)] ++ b from rfl, in_append]
    refine ⟨v1 ++ v3, v4, by simp, ?_, h6⟩
    rw [in_star] at h5 ⊢
    intro c hc
    rcases List.mem_append.mp hc with hc | hc
    · exact h2 c (in_one h3 c hc)
    · exact h5 c hc
  · rintro ⟨u, v, rfl, hu, hv⟩
    exact ⟨u, v, rfl, hu, inL_more _ _ _ hv⟩
/-- a factor behind a star that holds it -/
theorem in_hold2 {g f : Fac} (h : holdsL g f = true) (a b : List Fac) (w : List Nat) : inL (a ++ g :: f :: b) w = inL (a ++ g :: b) w := by
  obtain ⟨h1, h2⟩ := (holds_iff _ _).mp h
  obtain ⟨k, l⟩ := g
  cases h1
  rw [Bool.eq_iff_iff, in_append, in_append]
  constructor
  · rintro ⟨u, v, rfl, hu, hv⟩
    rw [show (true, l) :: f :: b = [(true, l)] ++ ([f] ++ b) from rfl, in_append] at hv
    obtain ⟨v1, v2, rfl, h3, h4⟩ := hv
    rw [in_append] at h4
    obtain ⟨v3, v4, rfl, h5, h6⟩ := h4
    refine ⟨u, v1 ++ (v3 ++ v4), rfl, hu, ?_⟩
    rw [show (true, l) :: b = [(true, l)] ++ b from rfl, in_append]
    refine ⟨v1 ++ v3, v4, by simp, ?_, h6⟩
    rw [in_star] at h3 ⊢
    intro c hc
    rcases List.mem_append.mp hc with hc | hc
    · exact h3 c hc
    · exact h2 c (in_one h5 c hc)
  · rintro ⟨u, v, rfl, hu, hv⟩
    refine ⟨u, v, rfl, hu, ?_⟩
    rw [show (true, l) :: b = [(true, l)] ++ b from rfl, in_append] at hv
    obtain ⟨v1, v2, rfl, h3, h4⟩ := hv
    rw [show (true, l) :: f :: b = [(true, l)] ++ (f :: b) from rfl, in_append]
    exact ⟨v1, v2, rfl, h3, inL_more _ _ _ h4⟩
/-! reducing: the stack's top is the head -/
def redPush (st : List Fac) (f : Fac) : List Fac := match st.dropWhile (fun g => holdsL f g) with
  | [] => [f]
  | g :: r => if holdsL g f = true then g :: r else f :: g :: r
def redL (p : List Fac) : List Fac := (p.foldl redPush []).reverse
theorem redPush_words (f : Fac) (b : List Fac) (w : List Nat) : ∀ st : List Fac, inL ((redPush st f).reverse ++ b) w = inL (st.reverse ++ f :: b) w
  | [] => rfl
  | g :: st => by
    by_cases hg : holdsL f g = true
    · have e : redPush (g :: st) f = redPush st f := by unfold redPush; rw [List.dropWhile_cons_of_pos hg]
      rw [e, redPush_words f b w st, List.reverse_cons, List.append_assoc]
      exact (in_hold1 hg st.reverse b w).symm
    · have e : redPush (g :: st) f = if holdsL g f = true then g :: st else f :: g :: st := by unfold redPush; rw [List.dropWhile_cons_of_neg hg]
      rw [e]
      split
      · rename_i h
        rw [List.reverse_cons, List.append_assoc, List.append_assoc]
        exact (in_hold2 h st.reverse b w).symm
      · simp
theorem red_fold_words (w : List Nat) : ∀ (p st : List Fac), inL ((p.foldl redPush st).reverse) w = inL (st.reverse ++ p) w
  | [], st => by simp
  | f :: p, st => by
    rw [List.foldl_cons, red_fold_words w p (redPush st f), redPush_words]
theorem red_words (p : List Fac) (w : List Nat) : inL (redL p) w = inL p w := by
  unfold redL
  rw [red_fold_words]
  rfl
/-- neighbours do not hold each other (in either order) -/
def Red : List Fac → Prop
  | [] => True
  | [_] => True
  | f :: g :: r => holdsL f g = false ∧ holdsL g f = false ∧ Red (g :: r)
theorem Red.tail {f : Fac} {p : List Fac} (h : Red (f :: p)) : Red p := by
  cases p with
  | nil => trivial
  | cons g r => exact h.2.2
theorem red_drop (f : Fac) : ∀ st : List Fac, Red st → Red (st.dropWhile fun g => holdsL f g)
  | [], h => h
  | g :: st, h => by
    by_cases hg : holdsL f g = true
    · rw [List.dropWhile_cons_of_pos hg]; exact red_drop f st h.tail
    · rw [List.dropWhile_cons_of_neg hg]; exact h
theorem redPush_red (f : Fac) (st : List Fac) (h : Red st) : Red (redPush st f) := by
  have hd := red_drop f st h
  unfold redPush
  cases e : st.dropWhile (fun g => holdsL f g) with
  | nil => trivial
  | cons g r =>
    rw [e] at hd
    have hg : holdsL f g = false := by
      have := List.head?_dropWhile_not (fun g => holdsL f g) st
      rw [e] at this
      simpa using this
    dsimp only
    split
    · exact hd
    · rename_i hn
      exact ⟨hg, by simpa using hn, hd⟩
theorem red_fold : ∀ (p st : List Fac), Red st → Red (p.foldl redPush st)
  | [], st, h => h
  | f :: p, st, h => red_fold p _ (redPush_red f st h)
theorem red_snoc : ∀ (p : List Fac) (f : Fac), Red p → (∀ g, p.getLast? = some g → holdsL g f = false ∧ holdsL f g = false) → Red (p ++ [f])
  | [], f, _, _ => trivial
  | [g], f, _, h => ⟨(h g rfl).1, (h g rfl).2, trivial⟩
  | g :: g2 :: r, f, hp, h => ⟨hp.1, hp.2.1, red_snoc (g2 :: r) f hp.2.2 fun x hx => h x (by rw [List.getLast?_cons_cons]; exact hx)⟩
theorem red_rev : ∀ (p : List Fac), Red p → Red p.reverse
  | [], _ => trivial
  | [f], _ => trivial
  | f :: g :: r, h => by
    rw [List.reverse_cons]
    refine red_snoc _ f (red_rev (g :: r) h.2.2) fun x hx => ?_
    rw [List.reverse_cons, List.getLast?_append] at hx
    simp at hx
    subst hx
    exact ⟨h.2.1, h.1⟩
theorem redL_red (p : List Fac) : Red (redL p) := red_rev _ (red_fold p [] trivial)
theorem red_self : ∀ (p st : List Fac), Red (st.reverse ++ p) → p.foldl redPush st = p.reverse ++ st
  | [], st, _ => rfl
  | f :: p, st, h => by
    have e : redPush st f = f :: st := by
      cases st with
      | nil => rfl
      | cons g st =>
        have hh : holdsL g f = false ∧ holdsL f g = false := by
          have key : ∀ (a : List Fac), Red (a ++ g :: f :: p) → holdsL g f = false ∧ holdsL f g = false := by
            intro a
            induction a with
            | nil => exact fun h => ⟨h.1, h.2.1⟩
            | cons x a ih => exact fun h => ih h.tail
          rw [List.reverse_cons, List.append_assoc] at h
          exact key _ h
        unfold redPush
        rw [List.dropWhile_cons_of_neg (by rw [hh.2]; simp)]
        dsimp only
        rw [if_neg (by rw [hh.1]; simp)]
    rw [List.foldl_cons, e, red_self p (f :: st) (by rw [List.reverse_cons, List.append_assoc]; exact h)]
    simp
theorem redL_self {p : List Fac} (h : Red p) : redL p = p := by
  unfold redL
  rw [red_self p [] h]
  simp
theorem redPush_mem {f x : Fac} {st : List Fac} (h : x ∈ redPush st f) : x = f ∨ x ∈ st := by
  unfold redPush at h
  cases e : st.dropWhile (fun g => holdsL f g) with
  | nil =>
    rw [e] at h
    exact .inl (by simpa using h)
  | cons g r =>
    rw [e] at h
    have hs : ∀ y ∈ g :: r, y ∈ st := fun y hy => (List.dropWhile_sublist (fun g => holdsL f g)).subset (by rw [e]; exact hy)
    dsimp only at h
    split at h
    · exact .inr (hs x h)
    · rcases List.mem_cons.mp h with h | h
      · exact .inl h
      · exact .inr (hs x h)
theorem red_fold_mem {x : Fac} : ∀ (p st : List Fac), x ∈ p.foldl redPush st → x ∈ p ∨ x ∈ st
  | [], st, h => .inr h
  | f :: p, st, h => by
    rcases red_fold_mem p _ h with h | h
    · exact .inl (List.mem_cons_of_mem _ h)
    · rcases redPush_mem h with h | h
      · exact .inl (by rw [h]; exact List.mem_cons_self)
      · exact .inr h
theorem redL_mem {x : Fac} {p : List Fac} (h : x ∈ redL p) : x ∈ p := by
  rcases red_fold_mem p [] (List.mem_reverse.mp h) with h | h
  · exact h
  · simp at h
theorem redPush_len (f : Fac) (st : List Fac) : (redPush st f).length ≤ st.length + 1 := by
  unfold redPush
  have hl := (List.dropWhile_sublist (l := st) (fun g => holdsL f g)).length_le
  cases e : st.dropWhile (fun g => holdsL f g) with
  | nil => simp
  | cons g r =>
    rw [e] at hl
    dsimp only
    simp at hl
    split <;> simp <;> omega
theorem red_fold_len : ∀ (p st : List Fac), (p.foldl redPush st).length ≤ st.length + p.length
  | [], st => by simp
  | f :: p, st => by
    have h1 := red_fold_len p (redPush st f)
    have h2 := redPush_len f st
    simp; omega
theorem redL_len (p : List Fac) : (redL p).length ≤ p.length := by
  have := red_fold_len p []
  unfold redL
  simpa using this
end
end DM
/-! MU: two reduced products that include each other are one. -/
namespace DM
noncomputable section
open PySem PySem.Spec PyProof.Rows L2 DL
def leF (f g : Fac) : Prop := f = g ∨ holdsL g f = true
/-- where each factor goes -/
structure Emb (p q : List Fac) (φ : Nat → Nat) : Prop where
  lt : ∀ i, i < p.length → φ i < q.length
  mono : ∀ i j, i ≤ j → j < p.length → φ i ≤ φ j
  le : ∀ i f, p[i]? = some f → ∃ g, q[φ i]? = some g ∧ leF f g
  star : ∀ i j, i < j → j < p.length → φ i = φ j → ∃ g, q[φ i]? = some g ∧ g.1 = true
theorem emb_of : ∀ (p q : List Fac), (resL p q).isSome = true → ∃ φ, Emb p q φ
  | [], q, _ => ⟨fun _ => 0, ⟨fun i h => by simp at h, fun i j _ h => by simp at h, fun i f h => by simp at h, fun i j _ h => by simp at h⟩⟩
  | f :: p, q, h => by
    rw [resL] at h
    cases e : skipL f q with
    | nil => rw [e] at h; cases h
    | cons g r =>
      rw [e] at h
      dsimp only at h
      obtain ⟨pre, eq, _, hg⟩ := skip_some f q g r e
      have hle : leF f g := hg.symm.imp (fun h => h.symm) id
      obtain ⟨φ, E⟩ := emb_of p _ h
      have hq : q[pre.length]? = some g := by rw [eq]; simp
      by_cases hb : g.1 = true
      · rw [if_pos hb] at E
        have at_ : ∀ i x, (g :: r)[i]? = some x → q[pre.length + i]? = some x := fun i x hx => by rw [eq, List.getElem?_append_right (by omega)]; simpa using hx
        refine ⟨fun i => match i with | 0 => pre.length | i + 1 => pre.length + φ i, ⟨?_, ?_, ?_, ?_⟩⟩
        · intro i hi
          cases i with
          | zero => rw [eq]; simp
          | succ i =>
            have := E.lt i (by simpa using hi)
            rw [eq]; simp at this ⊢; omega
        · intro i j hij hj
          cases i with
          | zero => cases j <;> simp
          | succ i =>
            cases j with
            | zero => omega
            | succ j =>
              have := E.mono i j (by omega) (by simpa using hj)
              simpa using this
        · intro i x hx
          cases i with
          | zero =>
            simp at hx
            subst hx
            exact ⟨g, hq, hle⟩
          | succ i =>
            obtain ⟨y, hy, hl⟩ := E.le i x (by simpa using hx)
            exact ⟨y, at_ _ _ hy, hl⟩
        · intro i j hij hj he
          cases i with
          | zero => exact ⟨g, hq, hb⟩
          | succ i =>
            cases j with
            | zero => omega
            | succ j =>
              obtain ⟨y, hy, hs⟩ := E.star i j (by omega) (by simpa using hj) (by simpa using he)
              exact ⟨y, at_ _ _ hy, hs⟩
      · rw [if_neg hb] at E
        have at_ : ∀ i x, r[i]? = some x → q[pre.length + 1 + i]? = some x := fun i x hx => by
          rw [eq, List.getElem?_append_right (by omega), show pre.length + 1 + i - pre.length = i + 1 by omega]; simpa using hx
        refine ⟨fun i => match i with | 0 => pre.length | i + 1 => pre.length + 1 + φ i, ⟨?_, ?_, ?_, ?_⟩⟩
        · intro i hi
          cases i with
          | zero => rw [eq]; simp
          | succ i =>
            have := E.lt i (by simpa using hi)
            rw [eq]; simp at this ⊢; omega
        · intro i j hij hj
          cases i with
          | zero => cases j <;> simp <;> omega
          | succ i =>
            cases j with
            | zero => omega
            | succ j =>
              have := E.mono i j (by omega) (by simpa using hj)
              simpa using this
        · intro i x hx
          cases i with
          | zero =>
            simp at hx
            subst hx
            exact ⟨g, hq, hle⟩
          | succ i =>
            obtain ⟨y, hy, hl⟩ := E.le i x (by simpa using hx)
            exact ⟨y, at_ _ _ hy, hl⟩
        · intro i j hij hj he
          cases i with
          | zero =>
            cases j with
            | zero => omega
            | succ j => simp at he; omega
          | succ i =>
            cases j with
            | zero => omega
            | succ j =>
              obtain ⟨y, hy, hs⟩ := E.star i j (by omega) (by simpa using hj) (by simpa using he)
              exact ⟨y, at_ _ _ hy, hs⟩
theorem leF_trans {f g h : Fac} (a : leF f g) (b : leF g h) : leF f h := by
  rcases a with rfl | a
  · exact b
  · rcases b with rfl | b
    · exact .inr a
    · obtain ⟨a1, a2⟩ := (holds_iff _ _).mp a
      obtain ⟨b1, b2⟩ := (holds_iff _ _).mp b
      exact .inr ((holds_iff _ _).mpr ⟨b1, fun c hc => b2 c (a2 c hc)⟩)
theorem leF_star {f g : Fac} (a : leF f g) (h : f.1 = true) : g.1 = true := by
  rcases a with rfl | a
  · exact h
  · exact ((holds_iff _ _).mp a).1
/-- a star holds what is below it -/
theorem leF_hold {f g : Fac} (a : leF f g) (h : g.1 = true) : holdsL g f = true := by
  rcases a with rfl | a
  · exact (holds_iff _ _).mpr ⟨h, fun c hc => hc⟩
  · exact a
theorem red_at : ∀ {p : List Fac} {i : Nat} {f g : Fac}, Red p → p[i]? = some f → p[i + 1]? = some g → holdsL f g = false ∧ holdsL g f = false
  | [], i, f, g, _, h, _ => by simp at h
  | [x], i, f, g, _, h, k => by simp at k
  | x :: y :: r, 0, f, g, h, h1, h2 => by
    simp at h1 h2
    subst h1 h2
    exact ⟨h.1, h.2.1⟩
  | x :: y :: r, i + 1, f, g, h, h1, h2 => red_at (p := y :: r) (i := i) h.2.2 (by simpa using h1) (by simpa using h2)
section
variable {p q : List Fac} {φ ψ : Nat → Nat}
/-- there and back, two factors at one: the place is a star -/
theorem back_star (E : Emb p q φ) (F : Emb q p ψ) {i j : Nat} (hij : i < j) (hj : j < p.length) (he : ψ (φ i) = ψ (φ j)) : ∃ f, p[ψ (φ i)]? = some f ∧ f.1 = true := by
  have h1 := E.mono i j (Nat.le_of_lt hij) hj
  rcases Nat.lt_or_ge (φ i) (φ j) with h | h
  · exact F.star _ _ h (E.lt j hj) he
  · have e : φ i = φ j := by omega
    obtain ⟨g, hg, hs⟩ := E.star i j hij hj e
    obtain ⟨f, hf, hl⟩ := F.le _ g hg
    exact ⟨f, hf, leF_star hl hs⟩
theorem back_le (E : Emb p q φ) (F : Emb q p ψ) {i : Nat} {f : Fac} (h : p[i]? = some f) : ∃ g, p[ψ (φ i)]? = some g ∧ leF f g := by
  obtain ⟨y, hy, hl⟩ := E.le i f h
  obtain ⟨z, hz, hl2⟩ := F.le _ y hy
  exact ⟨z, hz, leF_trans hl hl2⟩
/-- two neighbours that go to one of them -/
theorem no_neigh (hp : Red p) (E : Emb p q φ) (F : Emb q p ψ) {i : Nat} (hi : i + 1 < p.length) (m : Nat) (hm : m = i ∨ m = i + 1) (h1 : ψ (φ i) = m) (h2 : ψ (φ (i + 1)) = m) : False := by
  obtain ⟨f, hf⟩ : ∃ f, p[i]? = some f := ⟨p[i], by simp⟩
  obtain ⟨g, hg⟩ : ∃ g, p[i + 1]? = some g := ⟨p[i + 1], by simp⟩
  obtain ⟨n1, n2⟩ := red_at hp hf hg
  obtain ⟨x, hx, hs⟩ := back_star E F (Nat.lt_succ_self i) hi (h1.trans h2.symm)
  obtain ⟨y, hy, hl1⟩ := back_le E F hf
  obtain ⟨z, hz, hl2⟩ := back_le E F hg
  rw [h1] at hx hy
  rw [h2] at hz
  rw [hx] at hy hz
  cases hy
  cases hz
  rcases hm with rfl | rfl
  · rw [hf] at hx
    cases hx
    rw [leF_hold hl2 hs] at n1
    cases n1
  · rw [hg] at hx
    cases hx
    rw [leF_hold hl1 hs] at n2
    cases n2
theorem back_id (hp : Red p) (E : Emb p q φ) (F : Emb q p ψ) : ∀ i, i < p.length → ψ (φ i) = i := by
  have mono : ∀ i j, i ≤ j → j < p.length → ψ (φ i) ≤ ψ (φ j) := fun i j h hj => F.mono _ _ (E.mono i j h hj) (E.lt j hj)
  have inb : ∀ i, i < p.length → ψ (φ i) < p.length := fun i hi => F.lt _ (E.lt i hi)
  -- nothing goes up
  have up : ∀ k i, i < p.length → p.length - i ≤ k → ψ (φ i) ≤ i := by
    intro k
    induction k with
    | zero => intro i hi hk; omega
    | succ k ih =>
      intro i hi hk
      rcases Nat.lt_or_ge i (ψ (φ i)) with h | h
      · exfalso
        have hm := inb i hi
        have e1 : ψ (φ (ψ (φ i))) ≤ ψ (φ i) := ih _ hm (by omega)
        have e2 : ψ (φ i) ≤ ψ (φ (ψ (φ i))) := mono i _ (by omega) hm
        have e3 : ψ (φ (ψ (φ i) - 1)) = ψ (φ i) := by
          have a := mono i (ψ (φ i) - 1) (by omega) (by omega)
          have b := mono (ψ (φ i) - 1) (ψ (φ i)) (by omega) hm
          omega
        have e4 : ψ (φ i) - 1 + 1 = ψ (φ i) := by omega
        exact no_neigh hp E F (i := ψ (φ i) - 1) (by omega) (ψ (φ i)) (.inr e4.symm) e3 (by rw [e4]; omega)
      · exact h
  have dn : ∀ i, i < p.length → i ≤ ψ (φ i) := by
    intro i
    induction i using Nat.strongRecOn with
    | ind i ih =>
      intro hi
      rcases Nat.lt_or_ge (ψ (φ i)) i with h | h
      · exfalso
        have hm := inb i hi
        have e1 : ψ (φ i) ≤ ψ (φ (ψ (φ i))) := ih _ h hm
        have e2 : ψ (φ (ψ (φ i))) ≤ ψ (φ i) := mono _ i (by omega) hi
        have e3 : ψ (φ (ψ (φ i) + 1)) = ψ (φ i) := by
          have a := mono (ψ (φ i)) (ψ (φ i) + 1) (by omega) (by omega)
          have b := mono (ψ (φ i) + 1) i (by omega) hi
          omega
        exact no_neigh hp E F (i := ψ (φ i)) (by omega) (ψ (φ i)) (.inl rfl) (by omega) e3
      · exact h
  intro i hi
  have := up _ i hi (Nat.le_refl _)
  have := dn i hi
  omega
end
/-- the letters of each factor ascend -/
def AscF (p : List Fac) : Prop := ∀ f ∈ p, f.2.Pairwise (· < ·)
theorem asc_nat : ∀ {a b : List Nat}, a.Pairwise (· < ·) → b.Pairwise (· < ·) → (∀ z, z ∈ a ↔ z ∈ b) → a = b
  | [], [], _, _, _ => rfl
  | [], y :: r, _, _, h => absurd ((h y).mpr List.mem_cons_self) (by simp)
  | x :: r, [], _, _, h => absurd ((h x).mp List.mem_cons_self) (by simp)
  | x :: r, y :: t, h1, h2, h => by
    obtain ⟨a1, a2⟩ := List.pairwise_cons.mp h1
    obtain ⟨b1, b2⟩ := List.pairwise_cons.mp h2
    have e : x = y := by
      rcases List.mem_cons.mp ((h x).mp List.mem_cons_self) with e | m
      · exact e
      · rcases List.mem_cons.mp ((h y).mpr List.mem_cons_self) with e | m'
        · exact e.symm
        · have := a1 y m'
          have := b1 x m
          omega
    subst e
    rw [asc_nat a2 b2 fun z => ?_]
    constructor
    · intro hz
      rcases List.mem_cons.mp ((h z).mp (List.mem_cons_of_mem _ hz)) with rfl | q
      · have := a1 z hz; omega
      · exact q
    · intro hz
      rcases List.mem_cons.mp ((h z).mpr (List.mem_cons_of_mem _ hz)) with rfl | q
      · have := b1 z hz; omega
      · exact q
theorem leF_anti {f g : Fac} (hf : f.2.Pairwise (· < ·)) (hg : g.2.Pairwise (· < ·)) (a : leF f g) (b : leF g f) : f = g := by
  rcases a with rfl | a
  · rfl
  · rcases b with rfl | b
    · rfl
    · obtain ⟨a1, a2⟩ := (holds_iff _ _).mp a
      obtain ⟨b1, b2⟩ := (holds_iff _ _).mp b
      obtain ⟨k, l⟩ := f
      obtain ⟨k', l'⟩ := g
      cases a1; cases b1
      have e : l = l' := asc_nat hf hg fun z => ⟨a2 z, b2 z⟩
      rw [e]
theorem red_unique {p q : List Fac} (hp : Red p) (hq : Red q) (ap : AscF p) (aq : AscF q) (h1 : (resL p q).isSome = true) (h2 : (resL q p).isSome = true) : p = q := by
  obtain ⟨φ, E⟩ := emb_of p q h1
  obtain ⟨ψ, F⟩ := emb_of q p h2
  have i1 := back_id hp E F
  have i2 := back_id hq F E
  have up1 : ∀ i, i < p.length → i ≤ φ i := by
    intro i
    induction i with
    | zero => intro _; omega
    | succ i ih =>
      intro hi
      have a := ih (by omega)
      have b := E.mono i (i + 1) (by omega) hi
      have c : φ i ≠ φ (i + 1) := fun e => by
        have x := i1 i (by omega)
        have y := i1 (i + 1) hi
        rw [e] at x
        omega
      omega
  have up2 : ∀ i, i < q.length → i ≤ ψ i := by
    intro i
    induction i with
    | zero => intro _; omega
    | succ i ih =>
      intro hi
      have a := ih (by omega)
      have b := F.mono i (i + 1) (by omega) hi
      have c : ψ i ≠ ψ (i + 1) := fun e => by
        have x := i2 i (by omega)
        have y := i2 (i + 1) hi
        rw [e] at x
        omega
      omega
  have e1 : ∀ i, i < p.length → φ i = i := fun i hi => by
    have a := up1 i hi
    have b := up2 (φ i) (E.lt i hi)
    have c := i1 i hi
    omega
  have hl : p.length = q.length := by
    have e2 : ∀ i, i < q.length → ψ i = i := fun i hi => by
      have a := up2 i hi
      have b := up1 (ψ i) (F.lt i hi)
      have c := i2 i hi
      omega
    rcases Nat.lt_trichotomy p.length q.length with h | h | h
    · have a := F.lt (q.length - 1) (by omega)
      have b := e2 (q.length - 1) (by omega)
      omega
    · exact h
    · have a := E.lt (p.length - 1) (by omega)
      have b := e1 (p.length - 1) (by omega)
      omega
  refine List.ext_getElem hl fun i h1 h2 => ?_
  have hp1 : p[i]? = some p[i] := by simp
  have hq1 : q[i]? = some q[i] := by simp
  obtain ⟨g, hg, l1⟩ := E.le i _ hp1
  rw [e1 i h1, hq1] at hg
  cases hg
  obtain ⟨f, hf, l2⟩ := F.le i _ hq1
  have e3 : ψ i = i := by have := i1 i h1; rw [e1 i h1] at this; exact this
  rw [e3, hp1] at hf
  cases hf
  exact leF_anti (ap _ (List.getElem_mem h1)) (aq _ (List.getElem_mem h2)) l1 l2
/-- the language decides -/
theorem inc_words {p q : List Fac} (hp : ∀ f ∈ p, FacOk f) (hq : ∀ f ∈ q, FacOk f) : (resL p q).isSome = true ↔ ∀ w, inL p w = true → inL q w = true := by
  constructor
  · exact fun h w => res_words p hp q (facOk_opt hq) h w
  · intro h
    rw [← in_long hp hq (Nat.lt_succ_self q.length)]
    exact h _ (in_unf (facOk_opt hp) _)
theorem words_unique {p q : List Fac} (hp : ∀ f ∈ p, FacOk f) (hq : ∀ f ∈ q, FacOk f) (rp : Red p) (rq : Red q) (ap : AscF p) (aq : AscF q) (h : ∀ w, inL p w = inL q w) : p = q :=
  red_unique rp rq ap aq ((inc_words hp hq).mpr fun w hw => by rw [← h]; exact hw) ((inc_words hq hp).mpr fun w hw => by rw [h]; exact hw)
end
end DM
/-! MC: a law of turns. -/
namespace DM
noncomputable section
open PySem PySem.Spec PyProof.Rows L2 DL
/-- the state ahead of a turn: script, tape, turn, the rest unset -/
def lwS (m : Nat) (X0 T : D) (w : Sl) : Sts := ⟨.val X0 :: .val (.obj 0) :: w :: List.replicate m .un, [T]⟩
theorem law_turns (m N c : Nat) (body : DL.C) (hN : N * c < 60000000) (hN2 : N < 1000) (h : ∀ (X0 T : D) (t : Int) (k : Nat), Tk k T → k < 60000000 → ∃ T', body (lwS m X0 T (.val (.int t))) = .nx (lwS m X0 T' .un) ∧ Tk (k + c) T') :
    lawIs (fnD false (m + 3) (sSeq (sSetS 1 (eCall den__law_begin [(eVar 0)])) (sSeq (sFor (iRange1 (eC (.int N))) (tgN 2) body) (sRet (eC (.bl true)))))) := by
  intro ns _
  obtain ⟨T, e1, t1⟩ := t_begin (ns := ns)
  obtain ⟨T', e2, t2⟩ := for_fam (tg := tgN 2) (body := body) (fun T => lwS m (.fro (ns.map .int)) T .un) (fun n T => Tk (n * c) T) N (rangeD 0 N) 0 T (fun d hd n T i hn => by
    have hb : n * c < 60000000 := Nat.lt_of_le_of_lt (Nat.mul_le_mul_right c (Nat.le_of_lt hn)) hN
    simp only [rangeD, List.mem_map] at hd
    obtain ⟨j, _, rfl⟩ := hd
    obtain ⟨T', e, t⟩ := h (.fro (ns.map .int)) T (0 + (j : Int)) _ i hb
    refine ⟨T', ?_, t.up (by rw [Nat.add_mul]; omega)⟩
    unfold fStep
    have e' : body (lwS m (.fro (ns.map .int)) T (.val (.int (0 + (j : Int))))) = .nx (lwS m (.fro (ns.map .int)) T' .un) := e
    show (match body (lwS m (.fro (ns.map .int)) T (.val (.int (0 + (j : Int))))) with
      | .ct s => Fl.nx s
      | r => r) = _
    rw [e']) (by simpa using t1) (by rw [rangeD_len]; omega)
  refine ⟨[], ?_⟩
  have hr : rngOk (N : Int) := ⟨by omega, by omega⟩
  have e1' : den__law_begin [.fro (ns.map .int)] [] = .ok T [] := e1
  simp only [lwS] at e2
  have hrep : List.replicate (m + 2) Sl.un = Sl.un :: Sl.un :: List.replicate m Sl.un := rfl
  rw [x_fnD]
  simp only [List.map_cons, List.map_nil, List.length_cons, List.length_nil, List.cons_append, List.nil_append, show m + 3 - (0 + 1) = m + 2 from rfl, hrep]
  simp (disch := first | (simp only [DL.o_non, DL.o_bl, DL.o_int, DL.o_str, DL.o_tup, DL.o_lst, DL.o_fro, DL.o_dct, DL.o_ins, DL.o_fn, List.length_cons, List.length_append, List.length_nil, List.length_singleton]; done) | ((with_reducible refine DL.sz_of ?_); (try simp only [List.length_cons, List.length_append, List.length_map, List.length_nil, List.length_singleton, List.length_take, List.length_drop, List.length_reverse, List.length_replicate]); omega) | (with_reducible assumption)) [↓DL.x_bNs, ↓DL.x_bNn, ↓DL.x_bEo, ↓DL.x_bEx, ↓DL.x_bEb, ↓DL.x_bFo, ↓DL.x_bFx, ↓DL.x_bFb, ↓DL.x_bOs, ↓DL.x_bOn, ↓DL.x_bPs, ↓DL.x_bPn, ↓DL.x_bQn, ↓DL.x_bQr, ↓DL.x_bQb, ↓DL.x_bQc, ↓DL.x_bQx, ↓DL.x_bQd, ↓DL.x_bWn, ↓DL.x_bWr, ↓DL.x_bWb, ↓DL.x_bWc, ↓DL.x_bWx, ↓DL.x_bWd, ↓DL.x_bBb, ↓DL.x_bIi, ↓DL.x_bCo, ↓DL.x_bCx, ↓DL.x_bCb, ↓DL.x_bRr, ↓DL.x_bRn, ↓DL.x_bRx, ↓DL.x_bAv, ↓DL.x_bAw, ↓DL.x_bind, ↓DL.x_ouF, ↓DL.x_C, ↓DL.x_var, ↓DL.x_slV, ↓DL.x_slW, ↓DL.x_aV, ↓DL.x_aE, ↓DL.x_rdS, ↓DL.x_rdD, ↓DL.x_derefO, ↓DL.x_deref, ↓DL.x_getO, ↓DL.x_getV, ↓DL.x_getW, DL.o_non, DL.o_bl, DL.o_int, DL.o_str, DL.o_tup, DL.o_lst, DL.o_fro, DL.o_dct, DL.o_ins, DL.o_fn, ↓DL.x_bin, ↓DL.x_ofS, ↓DL.x_ofN, ↓DL.x_un, ↓DL.x_argsN, ↓DL.x_argsC, ↓DL.x_tup, ↓DL.x_lst, ↓DL.x_rdLN, ↓DL.x_rdLC, ↓DL.x_argsPN, ↓DL.x_argsPC, ↓DL.x_fun, ↓DL.x_tTru, ↓DL.x_tBool, ↓DL.x_tNt, ↓DL.x_tAn, ↓DL.x_tOr, ↓DL.x_tYs, ↓DL.x_eIf, ↓DL.x_eNt, ↓DL.x_eAnd, ↓DL.x_eOr, ↓DL.x_nil, ↓DL.x_seq, ↓DL.x_if, ↓DL.x_ret, ↓DL.x_retN, ↓DL.x_ex, ↓DL.x_bk, ↓DL.x_ct, ↓DL.x_nxS, ↓DL.x_nxN, ↓DL.x_asg, ↓DL.x_tgN, ↓DL.x_setO, ↓DL.x_setS, ↓DL.x_wipe, ↓DL.x_wipeN, ↓DL.x_wipeC, ↓DL.x_tgT, ↓DL.x_tgsN, ↓DL.x_tgsC, ↓DL.x_forN, ↓DL.x_for, ↓DL.x_par, ↓DL.x_parO, ↓DL.x_retV, ↓DL.x_bVo, ↓DL.x_call, ↓DL.x_fnD, ↓DL.x_retO, DL.v_retO, ↓DL.x_retX, ↓DL.x_comp, ↓DL.x_iSeq, ↓DL.x_itL, ↓DL.x_itF, ↓DL.x_itT, ↓DL.x_itS, ↓DL.x_bG, ↓DL.x_rng1, ↓DL.x_bG2, ↓DL.x_rng2, ↓DL.x_enum, ↓DL.x_sqL, ↓DL.x_sqF, ↓DL.x_sqT, ↓DL.x_bMo, ↓DL.x_bMs, ↓DL.x_wrS, ↓DL.x_wrD, ↓DL.x_isLst, ↓DL.x_mutL, ↓DL.x_bTo, ↓DL.x_tgSub, ↓DL.x_join, ↓DL.x_isStr, ↓DL.x_partN, ↓DL.x_partS, ↓DL.x_sl, ↓DL.x_prsN, ↓DL.x_prsC, ↓DL.x_disp, DL.v_addI, DL.v_addS, DL.v_addT, DL.v_addL, DL.v_catL, DL.v_sub, DL.v_mod, DL.v_neg, DL.v_ltI, DL.v_leI, DL.v_gtI, DL.v_geI, DL.v_ltS, DL.v_leS, DL.v_eqS, DL.v_eqI, DL.v_eqB, DL.v_neS, DL.v_neI, DL.v_neB, DL.v_inS, DL.v_ninS, DL.v_isNN, DL.v_isT, DL.v_isL, DL.v_isS, DL.v_isI, DL.v_isB, DL.v_isNot, DL.v_ixL, DL.v_ixF, DL.v_ixT, DL.v_ixS, DL.v_ixK, DL.v_ixKI, DL.v_at0, DL.v_at1, DL.v_at2, DL.v_lenL, DL.v_lenF, DL.v_lenT, DL.v_lenS, DL.v_lenK, DL.v_lstL, DL.v_lstT, DL.v_lstF, DL.v_tupL, DL.v_tupT, DL.v_tupF, DL.v_cutL, DL.v_cutT, DL.v_cutS, DL.v_app, DL.v_ext, DL.v_truN, DL.v_truB, DL.v_truI, DL.v_truT, DL.v_truL, DL.v_truS, DL.v_rep, DL.v_mulS, DL.v_mulI, DL.v_setL, ↓DL.x_bUo, ↓DL.x_cStep, ↓DL.x_compN, ↓DL.x_bHn, ↓DL.x_bHc, ↓DL.x_bHb, ↓DL.x_bHr, ↓DL.x_bHx, ↓DL.x_bHd, ↓DL.x_fStep, ↓DL.x_bX, ↓DL.x_sortSet, ↓DL.x_tgU, ↓DL.x_bJ, ↓DL.x_chain, DL.v_isi, ↓DL.x_bY, ↓DL.x_pop, DL.v_pop, DL.v_inT, DL.v_rev, DL.v_notInT, ↓DL.x_sBad, ↓DL.x_eBad, ↓DL.x_setTx, ↓DL.x_sortSetS, DL.v_revS, DL.v_listXs, DL.v_listXt, DL.v_listXl, ↓DL.x_enumS1, ↓DL.x_enumSt, List.getElem?_cons_zero, List.getElem?_cons_succ, List.set_cons_zero, List.set_cons_succ, e1', hr, e2]
  rfl
end
end DM
/-! ME: drawn letters are sublists; factors and products over an alphabet, as they are drawn. -/
namespace DM
noncomputable section
open PySem PySem.Spec PyProof.Rows L2 DL
theorem fac_eq (f : Fac) : facD f = .tup [.str (if f.1 then [115, 116, 97, 114] else [111, 112, 116]), .str f.2] := by
  obtain ⟨b, l⟩ := f
  cases b <;> rfl
theorem prod_eq (p : List Fac) : prodD p = .tup (p.map facD) := rfl
/-- signs are kept or left out by draws: [c for c in w if draw(many) ..] -/
theorem comp_draw {tg : Tg} {tt : DL.T} {m : DL.E} {vs : List Nat} (mk : D → Sts) (hs : ∀ (c : Nat) (k : Nat) (T : D), Tk k T → k < 95000000 → ∃ (b : Bool) (T' : D), cStep tg tt m vs (strD c) (mk T) = some (if b = true then some (strD c) else none, mk T') ∧ Tk (k + 1) T') (zs acc : List Nat) (k : Nat) (T : D)
    (h : Tk k T) (hk : k + zs.length < 95000000) (hl : acc.length + zs.length ≤ 100000) :
    ∃ (v : List Nat) (T' : D), compL tg tt m vs (charsD zs) (acc.map strD) (mk T) = .ok ((acc ++ v).map strD) (mk T') ∧ Tk (k + zs.length) T' ∧ v.Sublist zs := by
  induction zs generalizing acc k T with
  | nil => exact ⟨[], T, by simp [charsD, compL], h, List.Sublist.refl _⟩
  | cons z zs ih =>
    simp only [List.length_cons] at hk hl
    obtain ⟨b, T1, e1, t1⟩ := hs z k T h (by omega)
    cases b with
    | true =>
      obtain ⟨v, T2, e2, t2, v2⟩ := ih (acc ++ [z]) (k + 1) T1 t1 (by omega) (by simp; omega)
      refine ⟨z :: v, T2, ?_, t2.up (by simp; omega), v2.cons_cons z⟩
      show compL _ _ _ _ (strD z :: charsD zs) _ _ = _
      rw [compL_keep (by rw [e1]; rfl) (by simp; omega), ← List.map_singleton (f := strD), ← List.map_append, e2]
      simp
    | false =>
      obtain ⟨v, T2, e2, t2, v2⟩ := ih acc (k + 1) T1 t1 (by omega) (by omega)
      refine ⟨v, T2, ?_, t2.up (by simp; omega), v2.cons z⟩
      show compL _ _ _ _ (strD z :: charsD zs) _ _ = _
      rw [compL_skip (by rw [e1]; rfl), e2]
/-- a factor over an alphabet -/
structure FacA (A : List Nat) (f : Fac) : Prop where
  ok : FacOk f
  sub : f.2.Sublist A
theorem FacA.asc {A : List Nat} {f : Fac} (h : FacA A f) (hA : GoodA A) : f.2.Pairwise (· < ·) := hA.asc.sublist h.sub
theorem FacA.over {A : List Nat} {f : Fac} (h : FacA A f) : Over A f.2 := fun c hc => h.sub.subset hc
theorem FacA.le {A : List Nat} {f : Fac} (h : FacA A f) (hA : GoodA A) : f.2.length ≤ 3 := Nat.le_trans h.sub.length_le hA.le
section
variable {k : Nat} {T : D} {S : List D} {A : List Nat}
theorem d_factor (h : Tk k T) (hk : k < 90000000) (hA : GoodA A) : ∃ f T', den__law_factor [.obj 0, .str A] (T :: S) = .ok (facD f) (T' :: S) ∧ Tk (k + 10) T' ∧ FacA A f := by
  obtain ⟨r, T1, e1, r1, t1⟩ := t_drawN (S := S) (many := 3) h (by omega) (by omega) (by omega)
  have e1' : den__law_draw [D.obj 0, D.int 3] (T :: S) = Fo.ok (D.int r) (T1 :: S) := e1
  have hle := hA.le
  by_cases hr : 0 < r
  · obtain ⟨c, T2, e2, hc, t2⟩ := t_pickS (S := S) t1 (by omega) hA.ne (by omega)
    refine ⟨(false, [c]), T2, ?_, t2.up (by omega), ⟨⟨by simp, by simp, by simp⟩, by simpa using hc⟩⟩
    simp (disch := first | (simp only [DL.o_non, DL.o_bl, DL.o_int, DL.o_str, DL.o_tup, DL.o_lst, DL.o_fro, DL.o_dct, DL.o_ins, DL.o_fn, List.length_cons, List.length_append, List.length_nil, List.length_singleton]; done) | ((with_reducible refine DL.sz_of ?_); (try simp only [List.length_cons, List.length_append, List.length_map, List.length_nil, List.length_singleton, List.length_take, List.length_drop, List.length_reverse, List.length_replicate]); omega) | (with_reducible assumption)) [den__law_factor, c__law_factor, ↓DL.x_bNs, ↓DL.x_bNn, ↓DL.x_bEo, ↓DL.x_bEx, ↓DL.x_bEb, ↓DL.x_bFo, ↓DL.x_bFx, ↓DL.x_bFb, ↓DL.x_bOs, ↓DL.x_bOn, ↓DL.x_bPs, ↓DL.x_bPn, ↓DL.x_bQn, ↓DL.x_bQr, ↓DL.x_bQb, ↓DL.x_bQc, ↓DL.x_bQx, ↓DL.x_bQd, ↓DL.x_bWn, ↓DL.x_bWr, ↓DL.x_bWb, ↓DL.x_bWc, ↓DL.x_bWx, ↓DL.x_bWd, ↓DL.x_bBb, ↓DL.x_bIi, ↓DL.x_bCo, ↓DL.x_bCx, ↓DL.x_bCb, ↓DL.x_bRr, ↓DL.x_bRn, ↓DL.x_bRx, ↓DL.x_bAv, ↓DL.x_bAw, ↓DL.x_bind, ↓DL.x_ouF, ↓DL.x_C, ↓DL.x_var, ↓DL.x_slV, ↓DL.x_slW, ↓DL.x_aV, ↓DL.x_aE, ↓DL.x_rdS, ↓DL.x_rdD, ↓DL.x_derefO, ↓DL.x_deref, ↓DL.x_getO, ↓DL.x_getV, ↓DL.x_getW, DL.o_non, DL.o_bl, DL.o_int, DL.o_str, DL.o_tup, DL.o_lst, DL.o_fro, DL.o_dct, DL.o_ins, DL.o_fn, ↓DL.x_bin, ↓DL.x_ofS, ↓DL.x_ofN, ↓DL.x_un, ↓DL.x_argsN, ↓DL.x_argsC, ↓DL.x_tup, ↓DL.x_lst, ↓DL.x_rdLN, ↓DL.x_rdLC, ↓DL.x_argsPN, ↓DL.x_argsPC, ↓DL.x_fun, ↓DL.x_tTru, ↓DL.x_tBool, ↓DL.x_tNt, ↓DL.x_tAn, ↓DL.x_tOr, ↓DL.x_tYs, ↓DL.x_eIf, ↓DL.x_eNt, ↓DL.x_eAnd, ↓DL.x_eOr, ↓DL.x_nil, ↓DL.x_seq, ↓DL.x_if, ↓DL.x_ret, ↓DL.x_retN, ↓DL.x_ex, ↓DL.x_bk, ↓DL.x_ct, ↓DL.x_nxS, ↓DL.x_nxN, ↓DL.x_asg, ↓DL.x_tgN, ↓DL.x_setO, ↓DL.x_setS, ↓DL.x_wipe, ↓DL.x_wipeN, ↓DL.x_wipeC, ↓DL.x_tgT, ↓DL.x_tgsN, ↓DL.x_tgsC, ↓DL.x_forN, ↓DL.x_for, ↓DL.x_par, ↓DL.x_parO, ↓DL.x_retV, ↓DL.x_bVo, ↓DL.x_call, ↓DL.x_fnD, ↓DL.x_retO, DL.v_retO, ↓DL.x_retX, ↓DL.x_comp, ↓DL.x_iSeq, ↓DL.x_itL, ↓DL.x_itF, ↓DL.x_itT, ↓DL.x_itS, ↓DL.x_bG, ↓DL.x_rng1, ↓DL.x_bG2, ↓DL.x_rng2, ↓DL.x_enum, ↓DL.x_sqL, ↓DL.x_sqF, ↓DL.x_sqT, ↓DL.x_bMo, ↓DL.x_bMs, ↓DL.x_wrS, ↓DL.x_wrD, ↓DL.x_isLst, ↓DL.x_mutL, ↓DL.x_bTo, ↓DL.x_tgSub, ↓DL.x_join, ↓DL.x_isStr, ↓DL.x_partN, ↓DL.x_partS, ↓DL.x_sl, ↓DL.x_prsN, ↓DL.x_prsC, ↓DL.x_disp, DL.v_addI, DL.v_addS, DL.v_addT, DL.v_addL, DL.v_catL, DL.v_sub, DL.v_mod, DL.v_neg, DL.v_ltI, DL.v_leI, DL.v_gtI, DL.v_geI, DL.v_ltS, DL.v_leS, DL.v_eqS, DL.v_eqI, DL.v_eqB, DL.v_neS, DL.v_neI, DL.v_neB, DL.v_inS, DL.v_ninS, DL.v_isNN, DL.v_isT, DL.v_isL, DL.v_isS, DL.v_isI, DL.v_isB, DL.v_isNot, DL.v_ixL, DL.v_ixF, DL.v_ixT, DL.v_ixS, DL.v_ixK, DL.v_ixKI, DL.v_at0, DL.v_at1, DL.v_at2, DL.v_lenL, DL.v_lenF, DL.v_lenT, DL.v_lenS, DL.v_lenK, DL.v_lstL, DL.v_lstT, DL.v_lstF, DL.v_tupL, DL.v_tupT, DL.v_tupF, DL.v_cutL, DL.v_cutT, DL.v_cutS, DL.v_app, DL.v_ext, DL.v_truN, DL.v_truB, DL.v_truI, DL.v_truT, DL.v_truL, DL.v_truS, DL.v_rep, DL.v_mulS, DL.v_mulI, DL.v_setL, ↓DL.x_bUo, ↓DL.x_cStep, ↓DL.x_compN, ↓DL.x_bHn, ↓DL.x_bHc, ↓DL.x_bHb, ↓DL.x_bHr, ↓DL.x_bHx, ↓DL.x_bHd, ↓DL.x_fStep, ↓DL.x_bX, ↓DL.x_sortSet, ↓DL.x_tgU, ↓DL.x_bJ, ↓DL.x_chain, DL.v_isi, ↓DL.x_bY, ↓DL.x_pop, DL.v_pop, DL.v_inT, DL.v_rev, DL.v_notInT, ↓DL.x_sBad, ↓DL.x_eBad, ↓DL.x_setTx, ↓DL.x_sortSetS, DL.v_revS, DL.v_listXs, DL.v_listXt, DL.v_listXl, ↓DL.x_enumS1, ↓DL.x_enumSt, List.getElem?_cons_zero, List.getElem?_cons_succ, List.set_cons_zero, List.set_cons_succ, e1', hr, e2, fac_eq]
  · have key := comp_draw (tg := tgN 3) (tt := tBool (eBin eqD (aE (eCall den__law_draw [(eVar 0), (eC (.int 2))])) (aE (eC (.int 0))))) (m := eVar 3) (vs := [3]) (fun T => ⟨[.val (.obj 0), .val (.str A), .un, .un], T :: S⟩) (fun c k T h hk => by
      obtain ⟨r, T1, e1, r1, t1⟩ := t_drawN (S := S) (many := 2) h (by omega) (by omega) (by omega)
      have e1' : den__law_draw [D.obj 0, D.int 2] (T :: S) = Fo.ok (D.int r) (T1 :: S) := e1
      refine ⟨decide (r = 0), T1, ?_, t1⟩
      by_cases h0 : r = 0
      · subst h0
        simp (disch := first | (simp only [DL.o_non, DL.o_bl, DL.o_int, DL.o_str, DL.o_tup, DL.o_lst, DL.o_fro, DL.o_dct, DL.o_ins, DL.o_fn, List.length_cons, List.length_append, List.length_nil, List.length_singleton]; done) | ((with_reducible refine DL.sz_of ?_); (try simp only [List.length_cons, List.length_append, List.length_map, List.length_nil, List.length_singleton, List.length_take, List.length_drop, List.length_reverse, List.length_replicate]); omega) | (with_reducible assumption)) [↓DL.x_bNs, ↓DL.x_bNn, ↓DL.x_bEo, ↓DL.x_bEx, ↓DL.x_bEb, ↓DL.x_bFo, ↓DL.x_bFx, ↓DL.x_bFb, ↓DL.x_bOs, ↓DL.x_bOn, ↓DL.x_bPs, ↓DL.x_bPn, ↓DL.x_bQn, ↓DL.x_bQr, ↓DL.x_bQb, ↓DL.x_bQc, ↓DL.x_bQx, ↓DL.x_bQd, ↓DL.x_bWn, ↓DL.x_bWr, ↓DL.x_bWb, ↓DL.x_bWc, ↓DL.x_bWx, ↓DL.x_bWd, ↓DL.x_bBb, ↓DL.x_bIi, ↓DL.x_bCo, ↓DL.x_bCx, ↓DL.x_bCb, ↓DL.x_bRr, ↓DL.x_bRn, ↓DL.x_bRx, ↓DL.x_bAv, ↓DL.x_bAw, ↓DL.x_bind, ↓DL.x_ouF, ↓DL.x_C, ↓DL.x_var, ↓DL.x_slV, ↓DL.x_slW, ↓DL.x_aV, ↓DL.x_aE, ↓DL.x_rdS, ↓DL.x_rdD, ↓DL.x_derefO, ↓DL.x_deref, ↓DL.x_getO, ↓DL.x_getV, ↓DL.x_getW, DL.o_non, DL.o_bl, DL.o_int, DL.o_str, DL.o_tup, DL.o_lst, DL.o_fro, DL.o_dct, DL.o_ins, DL.o_fn, ↓DL.x_bin, ↓DL.x_ofS, ↓DL.x_ofN, ↓DL.x_un, ↓DL.x_argsN, ↓DL.x_argsC, ↓DL.x_tup, ↓DL.x_lst, ↓DL.x_rdLN, ↓DL.x_rdLC, ↓DL.x_argsPN, ↓DL.x_argsPC, ↓DL.x_fun, ↓DL.x_tTru, ↓DL.x_tBool, ↓DL.x_tNt, ↓DL.x_tAn, ↓DL.x_tOr, ↓DL.x_tYs, ↓DL.x_eIf, ↓DL.x_eNt, ↓DL.x_eAnd, ↓DL.x_eOr, ↓DL.x_nil, ↓DL.x_seq, ↓DL.x_if, ↓DL.x_ret, ↓DL.x_retN, ↓DL.x_ex, ↓DL.x_bk, ↓DL.x_ct, ↓DL.x_nxS, ↓DL.x_nxN, ↓DL.x_asg, ↓DL.x_tgN, ↓DL.x_setO, ↓DL.x_setS, ↓DL.x_wipe, ↓DL.x_wipeN, ↓DL.x_wipeC, ↓DL.x_tgT, ↓DL.x_tgsN, ↓DL.x_tgsC, ↓DL.x_forN, ↓DL.x_for, ↓DL.x_par, ↓DL.x_parO, ↓DL.x_retV, ↓DL.x_bVo, ↓DL.x_call, ↓DL.x_fnD, ↓DL.x_retO, DL.v_retO, ↓DL.x_retX, ↓DL.x_comp, ↓DL.x_iSeq, ↓DL.x_itL, ↓DL.x_itF, ↓DL.x_itT, ↓DL.x_itS, ↓DL.x_bG, ↓DL.x_rng1, ↓DL.x_bG2, ↓DL.x_rng2, ↓DL.x_enum, ↓DL.x_sqL, ↓DL.x_sqF, ↓DL.x_sqT, ↓DL.x_bMo, ↓DL.x_bMs, ↓DL.x_wrS, ↓DL.x_wrD, ↓DL.x_isLst, ↓DL.x_mutL, ↓DL.x_bTo, ↓DL.x_tgSub, ↓DL.x_join, ↓DL.x_isStr, ↓DL.x_partN, ↓DL.x_partS, ↓DL.x_sl, ↓DL.x_prsN, ↓DL.x_prsC, ↓DL.x_disp, DL.v_addI, DL.v_addS, DL.v_addT, DL.v_addL, DL.v_catL, DL.v_sub, DL.v_mod, DL.v_neg, DL.v_ltI, DL.v_leI, DL.v_gtI, DL.v_geI, DL.v_ltS, DL.v_leS, DL.v_eqS, DL.v_eqI, DL.v_eqB, DL.v_neS, DL.v_neI, DL.v_neB, DL.v_inS, DL.v_ninS, DL.v_isNN, DL.v_isT, DL.v_isL, DL.v_isS, DL.v_isI, DL.v_isB, DL.v_isNot, DL.v_ixL, DL.v_ixF, DL.v_ixT, DL.v_ixS, DL.v_ixK, DL.v_ixKI, DL.v_at0, DL.v_at1, DL.v_at2, DL.v_lenL, DL.v_lenF, DL.v_lenT, DL.v_lenS, DL.v_lenK, DL.v_lstL, DL.v_lstT, DL.v_lstF, DL.v_tupL, DL.v_tupT, DL.v_tupF, DL.v_cutL, DL.v_cutT, DL.v_cutS, DL.v_app, DL.v_ext, DL.v_truN, DL.v_truB, DL.v_truI, DL.v_truT, DL.v_truL, DL.v_truS, DL.v_rep, DL.v_mulS, DL.v_mulI, DL.v_setL, ↓DL.x_bUo, ↓DL.x_cStep, ↓DL.x_compN, ↓DL.x_bHn, ↓DL.x_bHc, ↓DL.x_bHb, ↓DL.x_bHr, ↓DL.x_bHx, ↓DL.x_bHd, ↓DL.x_fStep, ↓DL.x_bX, ↓DL.x_sortSet, ↓DL.x_tgU, ↓DL.x_bJ, ↓DL.x_chain, DL.v_isi, ↓DL.x_bY, ↓DL.x_pop, DL.v_pop, DL.v_inT, DL.v_rev, DL.v_notInT, ↓DL.x_sBad, ↓DL.x_eBad, ↓DL.x_setTx, ↓DL.x_sortSetS, DL.v_revS, DL.v_listXs, DL.v_listXt, DL.v_listXl, ↓DL.x_enumS1, ↓DL.x_enumSt, List.getElem?_cons_zero, List.getElem?_cons_succ, List.set_cons_zero, List.set_cons_succ, strD, e1']
      · simp (disch := first | (simp only [DL.o_non, DL.o_bl, DL.o_int, DL.o_str, DL.o_tup, DL.o_lst, DL.o_fro, DL.o_dct, DL.o_ins, DL.o_fn, List.length_cons, List.length_append, List.length_nil, List.length_singleton]; done) | ((with_reducible refine DL.sz_of ?_); (try simp only [List.length_cons, List.length_append, List.length_map, List.length_nil, List.length_singleton, List.length_take, List.length_drop, List.length_reverse, List.length_replicate]); omega) | (with_reducible assumption)) [↓DL.x_bNs, ↓DL.x_bNn, ↓DL.x_bEo, ↓DL.x_bEx, ↓DL.x_bEb, ↓DL.x_bFo, ↓DL.x_bFx, ↓DL.x_bFb, ↓DL.x_bOs, ↓DL.x_bOn, ↓DL.x_bPs, ↓DL.x_bPn, ↓DL.x_bQn, ↓DL.x_bQr, ↓DL.x_bQb, ↓DL.x_bQc, ↓DL.x_bQx, ↓DL.x_bQd, ↓DL.x_bWn, ↓DL.x_bWr, ↓DL.x_bWb, ↓DL.x_bWc, ↓DL.x_bWx, ↓DL.x_bWd, ↓DL.x_bBb, ↓DL.x_bIi, ↓DL.x_bCo, ↓DL.x_bCx, ↓DL.x_bCb, ↓DL.x_bRr, ↓DL.x_bRn, ↓DL.x_bRx, ↓DL.x_bAv, ↓DL.x_bAw, ↓DL.x_bind, ↓DL.x_ouF, ↓DL.x_C, ↓DL.x_var, ↓DL.x_slV, ↓DL.x_slW, ↓DL.x_aV, ↓DL.x_aE, ↓DL.x_rdS, ↓DL.x_rdD, ↓DL.x_derefO, ↓DL.x_deref, ↓DL.x_getO, ↓DL.x_getV, ↓DL.x_getW, DL.o_non, DL.o_bl, DL.o_int, DL.o_str, DL.o_tup, DL.o_lst, DL.o_fro, DL.o_dct, DL.o_ins, DL.o_fn, ↓DL.x_bin, ↓DL.x_ofS, ↓DL.x_ofN, ↓DL.x_un, ↓DL.x_argsN, ↓DL.x_argsC, ↓DL.x_tup, ↓DL.x_lst, ↓DL.x_rdLN, ↓DL.x_rdLC, ↓DL.x_argsPN, ↓DL.x_argsPC, ↓DL.x_fun, ↓DL.x_tTru, ↓DL.x_tBool, ↓DL.x_tNt, ↓DL.x_tAn, ↓DL.x_tOr, ↓DL.x_tYs, ↓DL.x_eIf, ↓DL.x_eNt, ↓DL.x_eAnd, ↓DL.x_eOr, ↓DL.x_nil, ↓DL.x_seq, ↓DL.x_if, ↓DL.x_ret, ↓DL.x_retN, ↓DL.x_ex, ↓DL.x_bk, ↓DL.x_ct, ↓DL.x_nxS, ↓DL.x_nxN, ↓DL.x_asg, ↓DL.x_tgN, ↓DL.x_setO, ↓DL.x_setS, ↓DL.x_wipe, ↓DL.x_wipeN, ↓DL.x_wipeC, ↓DL.x_tgT, ↓DL.x_tgsN, ↓DL.x_tgsC, ↓DL.x_forN, ↓DL.x_for, ↓DL.x_par, ↓DL.x_parO, ↓DL.x_retV, ↓DL.x_bVo, ↓DL.x_call, ↓DL.x_fnD, ↓DL.x_retO, DL.v_retO, ↓DL.x_retX, ↓DL.x_comp, ↓DL.x_iSeq, ↓DL.x_itL, ↓DL.x_itF, ↓DL.x_itT, ↓DL.x_itS, ↓DL.x_bG, ↓DL.x_rng1, ↓DL.x_bG2, ↓DL.x_rng2, ↓DL.x_enum, ↓DL.x_sqL, ↓DL.x_sqF, ↓DL.x_sqT, ↓DL.x_bMo, ↓DL.x_bMs, ↓DL.x_wrS, ↓DL.x_wrD, ↓DL.x_isLst, ↓DL.x_mutL, ↓DL.x_bTo, ↓DL.x_tgSub, ↓DL.x_join, ↓DL.x_isStr, ↓DL.x_partN, ↓DL.x_partS, ↓DL.x_sl, ↓DL.x_prsN, ↓DL.x_prsC, ↓DL.x_disp, DL.v_addI, DL.v_addS, DL.v_addT, DL.v_addL, DL.v_catL, DL.v_sub, DL.v_mod, DL.v_neg, DL.v_ltI, DL.v_leI, DL.v_gtI, DL.v_geI, DL.v_ltS, DL.v_leS, DL.v_eqS, DL.v_eqI, DL.v_eqB, DL.v_neS, DL.v_neI, DL.v_neB, DL.v_inS, DL.v_ninS, DL.v_isNN, DL.v_isT, DL.v_isL, DL.v_isS, DL.v_isI, DL.v_isB, DL.v_isNot, DL.v_ixL, DL.v_ixF, DL.v_ixT, DL.v_ixS, DL.v_ixK, DL.v_ixKI, DL.v_at0, DL.v_at1, DL.v_at2, DL.v_lenL, DL.v_lenF, DL.v_lenT, DL.v_lenS, DL.v_lenK, DL.v_lstL, DL.v_lstT, DL.v_lstF, DL.v_tupL, DL.v_tupT, DL.v_tupF, DL.v_cutL, DL.v_cutT, DL.v_cutS, DL.v_app, DL.v_ext, DL.v_truN, DL.v_truB, DL.v_truI, DL.v_truT, DL.v_truL, DL.v_truS, DL.v_rep, DL.v_mulS, DL.v_mulI, DL.v_setL, ↓DL.x_bUo, ↓DL.x_cStep, ↓DL.x_compN, ↓DL.x_bHn, ↓DL.x_bHc, ↓DL.x_bHb, ↓DL.x_bHr, ↓DL.x_bHx, ↓DL.x_bHd, ↓DL.x_fStep, ↓DL.x_bX, ↓DL.x_sortSet, ↓DL.x_tgU, ↓DL.x_bJ, ↓DL.x_chain, DL.v_isi, ↓DL.x_bY, ↓DL.x_pop, DL.v_pop, DL.v_inT, DL.v_rev, DL.v_notInT, ↓DL.x_sBad, ↓DL.x_eBad, ↓DL.x_setTx, ↓DL.x_sortSetS, DL.v_revS, DL.v_listXs, DL.v_listXt, DL.v_listXl, ↓DL.x_enumS1, ↓DL.x_enumSt, List.getElem?_cons_zero, List.getElem?_cons_succ, List.set_cons_zero, List.set_cons_succ, strD, e1', h0]) A [] (k + 1) T1 t1 (by omega) (by simp; omega)
    obtain ⟨v, T2, e2, t2, hv⟩ := key
    simp only [List.map_nil, List.nil_append] at e2
    have hj := joinc_ok v (by have := hv.length_le; omega)
    cases v with
    | nil =>
      obtain ⟨c, T3, e3, hc, t3⟩ := t_pickS (S := S) t2 (by omega) hA.ne (by omega)
      refine ⟨(true, [c]), T3, ?_, t3.up (by omega), ⟨⟨by simp, by simp, by simp⟩, by simpa using hc⟩⟩
      simp only [List.map_nil] at e2 hj
      simp (disch := first | (simp only [DL.o_non, DL.o_bl, DL.o_int, DL.o_str, DL.o_tup, DL.o_lst, DL.o_fro, DL.o_dct, DL.o_ins, DL.o_fn, List.length_cons, List.length_append, List.length_nil, List.length_singleton]; done) | ((with_reducible refine DL.sz_of ?_); (try simp only [List.length_cons, List.length_append, List.length_map, List.length_nil, List.length_singleton, List.length_take, List.length_drop, List.length_reverse, List.length_replicate]); omega) | (with_reducible assumption)) [den__law_factor, c__law_factor, ↓DL.x_bNs, ↓DL.x_bNn, ↓DL.x_bEo, ↓DL.x_bEx, ↓DL.x_bEb, ↓DL.x_bFo, ↓DL.x_bFx, ↓DL.x_bFb, ↓DL.x_bOs, ↓DL.x_bOn, ↓DL.x_bPs, ↓DL.x_bPn, ↓DL.x_bQn, ↓DL.x_bQr, ↓DL.x_bQb, ↓DL.x_bQc, ↓DL.x_bQx, ↓DL.x_bQd, ↓DL.x_bWn, ↓DL.x_bWr, ↓DL.x_bWb, ↓DL.x_bWc, ↓DL.x_bWx, ↓DL.x_bWd, ↓DL.x_bBb, ↓DL.x_bIi, ↓DL.x_bCo, ↓DL.x_bCx, ↓DL.x_bCb, ↓DL.x_bRr, ↓DL.x_bRn, ↓DL.x_bRx, ↓DL.x_bAv, ↓DL.x_bAw, ↓DL.x_bind, ↓DL.x_ouF, ↓DL.x_C, ↓DL.x_var, ↓DL.x_slV, ↓DL.x_slW, ↓DL.x_aV, ↓DL.x_aE, ↓DL.x_rdS, ↓DL.x_rdD, ↓DL.x_derefO, ↓DL.x_deref, ↓DL.x_getO, ↓DL.x_getV, ↓DL.x_getW, DL.o_non, DL.o_bl, DL.o_int, DL.o_str, DL.o_tup, DL.o_lst, DL.o_fro, DL.o_dct, DL.o_ins, DL.o_fn, ↓DL.x_bin, ↓DL.x_ofS, ↓DL.x_ofN, ↓DL.x_un, ↓DL.x_argsN, ↓DL.x_argsC, ↓DL.x_tup, ↓DL.x_lst, ↓DL.x_rdLN, ↓DL.x_rdLC, ↓DL.x_argsPN, ↓DL.x_argsPC, ↓DL.x_fun, ↓DL.x_tTru, ↓DL.x_tBool, ↓DL.x_tNt, ↓DL.x_tAn, ↓DL.x_tOr, ↓DL.x_tYs, ↓DL.x_eIf, ↓DL.x_eNt, ↓DL.x_eAnd, ↓DL.x_eOr, ↓DL.x_nil, ↓DL.x_seq, ↓DL.x_if, ↓DL.x_ret, ↓DL.x_retN, ↓DL.x_ex, ↓DL.x_bk, ↓DL.x_ct, ↓DL.x_nxS, ↓DL.x_nxN, ↓DL.x_asg, ↓DL.x_tgN, ↓DL.x_setO, ↓DL.x_setS, ↓DL.x_wipe, ↓DL.x_wipeN, ↓DL.x_wipeC, ↓DL.x_tgT, ↓DL.x_tgsN, ↓DL.x_tgsC, ↓DL.x_forN, ↓DL.x_for, ↓DL.x_par, ↓DL.x_parO, ↓DL.x_retV, ↓DL.x_bVo, ↓DL.x_call, ↓DL.x_fnD, ↓DL.x_retO, DL.v_retO, ↓DL.x_retX, ↓DL.x_comp, ↓DL.x_iSeq, ↓DL.x_itL, ↓DL.x_itF, ↓DL.x_itT, ↓DL.x_itS, ↓DL.x_bG, ↓DL.x_rng1, ↓DL.x_bG2, ↓DL.x_rng2, ↓DL.x_enum, ↓DL.x_sqL, ↓DL.x_sqF, ↓DL.x_sqT, ↓DL.x_bMo, ↓DL.x_bMs, ↓DL.x_wrS, ↓DL.x_wrD, ↓DL.x_isLst, ↓DL.x_mutL, ↓DL.x_bTo, ↓DL.x_tgSub, ↓DL.x_join, ↓DL.x_isStr, ↓DL.x_partN, ↓DL.x_partS, ↓DL.x_sl, ↓DL.x_prsN, ↓DL.x_prsC, ↓DL.x_disp, DL.v_addI, DL.v_addS, DL.v_addT, DL.v_addL, DL.v_catL, DL.v_sub, DL.v_mod, DL.v_neg, DL.v_ltI, DL.v_leI, DL.v_gtI, DL.v_geI, DL.v_ltS, DL.v_leS, DL.v_eqS, DL.v_eqI, DL.v_eqB, DL.v_neS, DL.v_neI, DL.v_neB, DL.v_inS, DL.v_ninS, DL.v_isNN, DL.v_isT, DL.v_isL, DL.v_isS, DL.v_isI, DL.v_isB, DL.v_isNot, DL.v_ixL, DL.v_ixF, DL.v_ixT, DL.v_ixS, DL.v_ixK, DL.v_ixKI, DL.v_at0, DL.v_at1, DL.v_at2, DL.v_lenL, DL.v_lenF, DL.v_lenT, DL.v_lenS, DL.v_lenK, DL.v_lstL, DL.v_lstT, DL.v_lstF, DL.v_tupL, DL.v_tupT, DL.v_tupF, DL.v_cutL, DL.v_cutT, DL.v_cutS, DL.v_app, DL.v_ext, DL.v_truN, DL.v_truB, DL.v_truI, DL.v_truT, DL.v_truL, DL.v_truS, DL.v_rep, DL.v_mulS, DL.v_mulI, DL.v_setL, ↓DL.x_bUo, ↓DL.x_cStep, ↓DL.x_compN, ↓DL.x_bHn, ↓DL.x_bHc, ↓DL.x_bHb, ↓DL.x_bHr, ↓DL.x_bHx, ↓DL.x_bHd, ↓DL.x_fStep, ↓DL.x_bX, ↓DL.x_sortSet, ↓DL.x_tgU, ↓DL.x_bJ, ↓DL.x_chain, DL.v_isi, ↓DL.x_bY, ↓DL.x_pop, DL.v_pop, DL.v_inT, DL.v_rev, DL.v_notInT, ↓DL.x_sBad, ↓DL.x_eBad, ↓DL.x_setTx, ↓DL.x_sortSetS, DL.v_revS, DL.v_listXs, DL.v_listXt, DL.v_listXl, ↓DL.x_enumS1, ↓DL.x_enumSt, List.getElem?_cons_zero, List.getElem?_cons_succ, List.set_cons_zero, List.set_cons_succ, e1', hr, e2, hj, e3, fac_eq]
    | cons c v =>
      simp only [List.map_cons] at e2 hj
      refine ⟨(true, c :: v), T2, ?_, t2.up (by omega), ⟨⟨by simp, by have := hv.length_le; simp at this ⊢; omega, by simp⟩, hv⟩⟩
      simp (disch := first | (simp only [DL.o_non, DL.o_bl, DL.o_int, DL.o_str, DL.o_tup, DL.o_lst, DL.o_fro, DL.o_dct, DL.o_ins, DL.o_fn, List.length_cons, List.length_append, List.length_nil, List.length_singleton]; done) | ((with_reducible refine DL.sz_of ?_); (try simp only [List.length_cons, List.length_append, List.length_map, List.length_nil, List.length_singleton, List.length_take, List.length_drop, List.length_reverse, List.length_replicate]); omega) | (with_reducible assumption)) [den__law_factor, c__law_factor, ↓DL.x_bNs, ↓DL.x_bNn, ↓DL.x_bEo, ↓DL.x_bEx, ↓DL.x_bEb, ↓DL.x_bFo, ↓DL.x_bFx, ↓DL.x_bFb, ↓DL.x_bOs, ↓DL.x_bOn, ↓DL.x_bPs, ↓DL.x_bPn, ↓DL.x_bQn, ↓DL.x_bQr, ↓DL.x_bQb, ↓DL.x_bQc, ↓DL.x_bQx, ↓DL.x_bQd, ↓DL.x_bWn, ↓DL.x_bWr, ↓DL.x_bWb, ↓DL.x_bWc, ↓DL.x_bWx, ↓DL.x_bWd, ↓DL.x_bBb, ↓DL.x_bIi, ↓DL.x_bCo, ↓DL.x_bCx, ↓DL.x_bCb, ↓DL.x_bRr, ↓DL.x_bRn, ↓DL.x_bRx, ↓DL.x_bAv, ↓DL.x_bAw, ↓DL.x_bind, ↓DL.x_ouF, ↓DL.x_C, ↓DL.x_var, ↓DL.x_slV, ↓DL.x_slW, ↓DL.x_aV, ↓DL.x_aE, ↓DL.x_rdS, ↓DL.x_rdD, ↓DL.x_derefO, ↓DL.x_deref, ↓DL.x_getO, ↓DL.x_getV, ↓DL.x_getW, DL.o_non, DL.o_bl, DL.o_int, DL.o_str, DL.o_tup, DL.o_lst, DL.o_fro, DL.o_dct, DL.o_ins, DL.o_fn, ↓DL.x_bin, ↓DL.x_ofS, ↓DL.x_ofN, ↓DL.x_un, ↓DL.x_argsN, ↓DL.x_argsC, ↓DL.x_tup, ↓DL.x_lst, ↓DL.x_rdLN, ↓DL.x_rdLC, ↓DL.x_argsPN, ↓DL.x_argsPC, ↓DL.x_fun, ↓DL.x_tTru, ↓DL.x_tBool, ↓DL.x_tNt, ↓DL.x_tAn, ↓DL.x_tOr, ↓DL.x_tYs, ↓DL.x_eIf, ↓DL.x_eNt, ↓DL.x_eAnd, ↓DL.x_eOr, ↓DL.x_nil, ↓DL.x_seq, ↓DL.x_if, ↓DL.x_ret, ↓DL.x_retN, ↓DL.x_ex, ↓DL.x_bk, ↓DL.x_ct, ↓DL.x_nxS, ↓DL.x_nxN, ↓DL.x_asg, ↓DL.x_tgN, ↓DL.x_setO, ↓DL.x_setS, ↓DL.x_wipe, ↓DL.x_wipeN, ↓DL.x_wipeC, ↓DL.x_tgT, ↓DL.x_tgsN, ↓DL.x_tgsC, ↓DL.x_forN, ↓DL.x_for, ↓DL.x_par, ↓DL.x_parO, ↓DL.x_retV, ↓DL.x_bVo, ↓DL.x_call, ↓DL.x_fnD, ↓DL.x_retO, DL.v_retO, ↓DL.x_retX, ↓DL.x_comp, ↓DL.x_iSeq, ↓DL.x_itL, ↓DL.x_itF, ↓DL.x_itT, ↓DL.x_itS, ↓DL.x_bG, ↓DL.x_rng1, ↓DL.x_bG2, ↓DL.x_rng2, ↓DL.x_enum, ↓DL.x_sqL, ↓DL.x_sqF, ↓DL.x_sqT, ↓DL.x_bMo, ↓DL.x_bMs, ↓DL.x_wrS, ↓DL.x_wrD, ↓DL.x_isLst, ↓DL.x_mutL, ↓DL.x_bTo, ↓DL.x_tgSub, ↓DL.x_join, ↓DL.x_isStr, ↓DL.x_partN, ↓DL.x_partS, ↓DL.x_sl, ↓DL.x_prsN, ↓DL.x_prsC, ↓DL.x_disp, DL.v_addI, DL.v_addS, DL.v_addT, DL.v_addL, DL.v_catL, DL.v_sub, DL.v_mod, DL.v_neg, DL.v_ltI, DL.v_leI, DL.v_gtI, DL.v_geI, DL.v_ltS, DL.v_leS, DL.v_eqS, DL.v_eqI, DL.v_eqB, DL.v_neS, DL.v_neI, DL.v_neB, DL.v_inS, DL.v_ninS, DL.v_isNN, DL.v_isT, DL.v_isL, DL.v_isS, DL.v_isI, DL.v_isB, DL.v_isNot, DL.v_ixL, DL.v_ixF, DL.v_ixT, DL.v_ixS, DL.v_ixK, DL.v_ixKI, DL.v_at0, DL.v_at1, DL.v_at2, DL.v_lenL, DL.v_lenF, DL.v_lenT, DL.v_lenS, DL.v_lenK, DL.v_lstL, DL.v_lstT, DL.v_lstF, DL.v_tupL, DL.v_tupT, DL.v_tupF, DL.v_cutL, DL.v_cutT, DL.v_cutS, DL.v_app, DL.v_ext, DL.v_truN, DL.v_truB, DL.v_truI, DL.v_truT, DL.v_truL, DL.v_truS, DL.v_rep, DL.v_mulS, DL.v_mulI, DL.v_setL, ↓DL.x_bUo, ↓DL.x_cStep, ↓DL.x_compN, ↓DL.x_bHn, ↓DL.x_bHc, ↓DL.x_bHb, ↓DL.x_bHr, ↓DL.x_bHx, ↓DL.x_bHd, ↓DL.x_fStep, ↓DL.x_bX, ↓DL.x_sortSet, ↓DL.x_tgU, ↓DL.x_bJ, ↓DL.x_chain, DL.v_isi, ↓DL.x_bY, ↓DL.x_pop, DL.v_pop, DL.v_inT, DL.v_rev, DL.v_notInT, ↓DL.x_sBad, ↓DL.x_eBad, ↓DL.x_setTx, ↓DL.x_sortSetS, DL.v_revS, DL.v_listXs, DL.v_listXt, DL.v_listXl, ↓DL.x_enumS1, ↓DL.x_enumSt, List.getElem?_cons_zero, List.getElem?_cons_succ, List.set_cons_zero, List.set_cons_succ, e1', hr, e2, hj, fac_eq]
/-- a product over an alphabet -/
def ProdA (A : List Nat) (p : List Fac) : Prop := ∀ f ∈ p, FacA A f
theorem ProdA.ok {p : List Fac} (h : ProdA A p) : ∀ f ∈ p, FacOk f := fun f hf => (h f hf).ok
theorem ProdA.asc {p : List Fac} (h : ProdA A p) (hA : GoodA A) : AscF p := fun f hf => (h f hf).asc hA
theorem facs_list {G : Fac → Prop} : ∀ (ys : List D), (∀ y ∈ ys, ∃ x, y = facD x ∧ G x) → ∃ xs : List Fac, ys = xs.map facD ∧ ∀ x ∈ xs, G x
  | [], _ => ⟨[], rfl, by simp⟩
  | y :: ys, h => by
    obtain ⟨xs, e, g⟩ := facs_list ys fun z hz => h z (List.mem_cons_of_mem _ hz)
    obtain ⟨x, rfl, gx⟩ := h y List.mem_cons_self
    exact ⟨x :: xs, by rw [e]; rfl, fun z hz => by
      rcases List.mem_cons.mp hz with rfl | hz
      · exact gx
      · exact g z hz⟩
theorem d_product {L : Nat} (h : Tk k T) (hk : k < 80000000) (hA : GoodA A) (hL : L ≤ 50) : ∃ p T', den__law_product [.obj 0, .str A, .int L] (T :: S) = .ok (prodD p) (T' :: S) ∧ Tk (k + 1000) T' ∧ p.length ≤ L ∧ ProdA A p := by
  obtain ⟨r, T1, e1, r1, t1⟩ := t_drawN (S := S) (many := L + 1) h (by omega) (by omega) (by omega)
  have e1' : den__law_draw [D.obj 0, D.int ((L : Int) + 1)] (T :: S) = Fo.ok (D.int r) (T1 :: S) := e1
  obtain ⟨ys, T2, e2, l2, g2, t2⟩ := comp_famA (tg := tgN 3) (tt := tYs) (m := eCall den__law_factor [(eVar 0), (eVar 1)]) (vs := [3]) (fun T => ⟨[.val (.obj 0), .val (.str A), .val (.int L), .un], T :: S⟩) (fun n T => Tk (k + 1 + n * 10) T) (fun y => ∃ f, y = facD f ∧ FacA A f) 100
    (rangeD 0 r) [] 0 T1 (fun d hd n T i hn => by
      obtain ⟨f, T3, e3, t3, f3⟩ := d_factor (S := S) i (by omega) hA
      exact ⟨facD f, T3, by simp (disch := first | (simp only [DL.o_non, DL.o_bl, DL.o_int, DL.o_str, DL.o_tup, DL.o_lst, DL.o_fro, DL.o_dct, DL.o_ins, DL.o_fn, List.length_cons, List.length_append, List.length_nil, List.length_singleton]; done) | ((with_reducible refine DL.sz_of ?_); (try simp only [List.length_cons, List.length_append, List.length_map, List.length_nil, List.length_singleton, List.length_take, List.length_drop, List.length_reverse, List.length_replicate]); omega) | (with_reducible assumption)) [↓DL.x_bNs, ↓DL.x_bNn, ↓DL.x_bEo, ↓DL.x_bEx, ↓DL.x_bEb, ↓DL.x_bFo, ↓DL.x_bFx, ↓DL.x_bFb, ↓DL.x_bOs, ↓DL.x_bOn, ↓DL.x_bPs, ↓DL.x_bPn, ↓DL.x_bQn, ↓DL.x_bQr, ↓DL.x_bQb, ↓DL.x_bQc, ↓DL.x_bQx, ↓DL.x_bQd, ↓DL.x_bWn, ↓DL.x_bWr, ↓DL.x_bWb, ↓DL.x_bWc, ↓DL.x_bWx, ↓DL.x_bWd, ↓DL.x_bBb, ↓DL.x_bIi, ↓DL.x_bCo, ↓DL.x_bCx, ↓DL.x_bCb, ↓DL.x_bRr, ↓DL.x_bRn, ↓DL.x_bRx, ↓DL.x_bAv, ↓DL.x_bAw, ↓DL.x_bind, ↓DL.x_ouF, ↓DL.x_C, ↓DL.x_var, ↓DL.x_slV, ↓DL.x_slW, ↓DL.x_aV, ↓DL.x_aE, ↓DL.x_rdS, ↓DL.x_rdD, ↓DL.x_derefO, ↓DL.x_deref, ↓DL.x_getO, ↓DL.x_getV, ↓DL.x_getW, DL.o_non, DL.o_bl, DL.o_int, DL.o_str, DL.o_tup, DL.o_lst, DL.o_fro, DL.o_dct, DL.o_ins, DL.o_fn, ↓DL.x_bin, ↓DL.x_ofS, ↓DL.x_ofN, ↓DL.x_un, ↓DL.x_argsN, ↓DL.x_argsC, ↓DL.x_tup, ↓DL.x_lst, ↓DL.x_rdLN, ↓DL.x_rdLC, ↓DL.x_argsPN, ↓DL.x_argsPC, ↓DL.x_fun, ↓DL.x_tTru, ↓DL.x_tBool, ↓DL.x_tNt, ↓DL.x_tAn, ↓DL.x_tOr, ↓DL.x_tYs, ↓DL.x_eIf, ↓DL.x_eNt, ↓DL.x_eAnd, ↓DL.x_eOr, ↓DL.x_nil, ↓DL.x_seq, ↓DL.x_if, ↓DL.x_ret, ↓DL.x_retN, ↓DL.x_ex, ↓DL.x_bk, ↓DL.x_ct, ↓DL.x_nxS, ↓DL.x_nxN, ↓DL.x_asg, ↓DL.x_tgN, ↓DL.x_setO, ↓DL.x_setS, ↓DL.x_wipe, ↓DL.x_wipeN, ↓DL.x_wipeC, ↓DL.x_tgT, ↓DL.x_tgsN, ↓DL.x_tgsC, ↓DL.x_forN, ↓DL.x_for, ↓DL.x_par, ↓DL.x_parO, ↓DL.x_retV, ↓DL.x_bVo, ↓DL.x_call, ↓DL.x_fnD, ↓DL.x_retO, DL.v_retO, ↓DL.x_retX, ↓DL.x_comp, ↓DL.x_iSeq, ↓DL.x_itL, ↓DL.x_itF, ↓DL.x_itT, ↓DL.x_itS, ↓DL.x_bG, ↓DL.x_rng1, ↓DL.x_bG2, ↓DL.x_rng2, ↓DL.x_enum, ↓DL.x_sqL, ↓DL.x_sqF, ↓DL.x_sqT, ↓DL.x_bMo, ↓DL.x_bMs, ↓DL.x_wrS, ↓DL.x_wrD, ↓DL.x_isLst, ↓DL.x_mutL, ↓DL.x_bTo, ↓DL.x_tgSub, ↓DL.x_join, ↓DL.x_isStr, ↓DL.x_partN, ↓DL.x_partS, ↓DL.x_sl, ↓DL.x_prsN, ↓DL.x_prsC, ↓DL.x_disp, DL.v_addI, DL.v_addS, DL.v_addT, DL.v_addL, DL.v_catL, DL.v_sub, DL.v_mod, DL.v_neg, DL.v_ltI, DL.v_leI, DL.v_gtI, DL.v_geI, DL.v_ltS, DL.v_leS, DL.v_eqS, DL.v_eqI, DL.v_eqB, DL.v_neS, DL.v_neI, DL.v_neB, DL.v_inS, DL.v_ninS, DL.v_isNN, DL.v_isT, DL.v_isL, DL.v_isS, DL.v_isI, DL.v_isB, DL.v_isNot, DL.v_ixL, DL.v_ixF, DL.v_ixT, DL.v_ixS, DL.v_ixK, DL.v_ixKI, DL.v_at0, DL.v_at1, DL.v_at2, DL.v_lenL, DL.v_lenF, DL.v_lenT, DL.v_lenS, DL.v_lenK, DL.v_lstL, DL.v_lstT, DL.v_lstF, DL.v_tupL, DL.v_tupT, DL.v_tupF, DL.v_cutL, DL.v_cutT, DL.v_cutS, DL.v_app, DL.v_ext, DL.v_truN, DL.v_truB, DL.v_truI, DL.v_truT, DL.v_truL, DL.v_truS, DL.v_rep, DL.v_mulS, DL.v_mulI, DL.v_setL, ↓DL.x_bUo, ↓DL.x_cStep, ↓DL.x_compN, ↓DL.x_bHn, ↓DL.x_bHc, ↓DL.x_bHb, ↓DL.x_bHr, ↓DL.x_bHx, ↓DL.x_bHd, ↓DL.x_fStep, ↓DL.x_bX, ↓DL.x_sortSet, ↓DL.x_tgU, ↓DL.x_bJ, ↓DL.x_chain, DL.v_isi, ↓DL.x_bY, ↓DL.x_pop, DL.v_pop, DL.v_inT, DL.v_rev, DL.v_notInT, ↓DL.x_sBad, ↓DL.x_eBad, ↓DL.x_setTx, ↓DL.x_sortSetS, DL.v_revS, DL.v_listXs, DL.v_listXt, DL.v_listXl, ↓DL.x_enumS1, ↓DL.x_enumSt, List.getElem?_cons_zero, List.getElem?_cons_succ, List.set_cons_zero, List.set_cons_succ, e3], t3.up (by omega), f, rfl, f3⟩) (by simp [rangeD_len]; omega) (by simpa using t1) (by rw [rangeD_len]; omega)
  obtain ⟨p, rfl, gp⟩ := facs_list ys g2
  rw [rangeD_len, List.length_map] at l2
  rw [rangeD_len] at t2
  refine ⟨p, T2, ?_, t2.up (by omega), by omega, gp⟩
  have hr : rngOk (r : Int) := ⟨by omega, by omega⟩
  simp only [List.nil_append] at e2
  simp (disch := first | (simp only [DL.o_non, DL.o_bl, DL.o_int, DL.o_str, DL.o_tup, DL.o_lst, DL.o_fro, DL.o_dct, DL.o_ins, DL.o_fn, List.length_cons, List.length_append, List.length_nil, List.length_singleton]; done) | ((with_reducible refine DL.sz_of ?_); (try simp only [List.length_cons, List.length_append, List.length_map, List.length_nil, List.length_singleton, List.length_take, List.length_drop, List.length_reverse, List.length_replicate]); omega) | (with_reducible assumption)) [den__law_product, c__law_product, ↓DL.x_bNs, ↓DL.x_bNn, ↓DL.x_bEo, ↓DL.x_bEx, ↓DL.x_bEb, ↓DL.x_bFo, ↓DL.x_bFx, ↓DL.x_bFb, ↓DL.x_bOs, ↓DL.x_bOn, ↓DL.x_bPs, ↓DL.x_bPn, ↓DL.x_bQn, ↓DL.x_bQr, ↓DL.x_bQb, ↓DL.x_bQc, ↓DL.x_bQx, ↓DL.x_bQd, ↓DL.x_bWn, ↓DL.x_bWr, ↓DL.x_bWb, ↓DL.x_bWc, ↓DL.x_bWx, ↓DL.x_bWd, ↓DL.x_bBb, ↓DL.x_bIi, ↓DL.x_bCo, ↓DL.x_bCx, ↓DL.x_bCb, ↓DL.x_bRr, ↓DL.x_bRn, ↓DL.x_bRx, ↓DL.x_bAv, ↓DL.x_bAw, ↓DL.x_bind, ↓DL.x_ouF, ↓DL.x_C, ↓DL.x_var, ↓DL.x_slV, ↓DL.x_slW, ↓DL.x_aV, ↓DL.x_aE, ↓DL.x_rdS, ↓DL.x_rdD, ↓DL.x_derefO, ↓DL.x_deref, ↓DL.x_getO, ↓DL.x_getV, ↓DL.x_getW, DL.o_non, DL.o_bl, DL.o_int, DL.o_str, DL.o_tup, DL.o_lst, DL.o_fro, DL.o_dct, DL.o_ins, DL.o_fn, ↓DL.x_bin, ↓DL.x_ofS, ↓DL.x_ofN, ↓DL.x_un, ↓DL.x_argsN, ↓DL.x_argsC, ↓DL.x_tup, ↓DL.x_lst, ↓DL.x_rdLN, ↓DL.x_rdLC, ↓DL.x_argsPN, ↓DL.x_argsPC, ↓DL.x_fun, ↓DL.x_tTru, ↓DL.x_tBool, ↓DL.x_tNt, ↓DL.x_tAn, ↓DL.x_tOr, ↓DL.x_tYs, ↓DL.x_eIf, ↓DL.x_eNt, ↓DL.x_eAnd, ↓DL.x_eOr, ↓DL.x_nil, ↓DL.x_seq, ↓DL.x_if, ↓DL.x_ret, ↓DL.x_retN, ↓DL.x_ex, ↓DL.x_bk, ↓DL.x_ct, ↓DL.x_nxS, ↓DL.x_nxN, ↓DL.x_asg, ↓DL.x_tgN, ↓DL.x_setO, ↓DL.x_setS, ↓DL.x_wipe, ↓DL.x_wipeN, ↓DL.x_wipeC, ↓DL.x_tgT, ↓DL.x_tgsN, ↓DL.x_tgsC, ↓DL.x_forN, ↓DL.x_for, ↓DL.x_par, ↓DL.x_parO, ↓DL.x_retV, ↓DL.x_bVo, ↓DL.x_call, ↓DL.x_fnD, ↓DL.x_retO, DL.v_retO, ↓DL.x_retX, ↓DL.x_comp, ↓DL.x_iSeq, ↓DL.x_itL, ↓DL.x_itF, ↓DL.x_itT, ↓DL.x_itS, ↓DL.x_bG, ↓DL.x_rng1, ↓DL.x_bG2, ↓DL.x_rng2, ↓DL.x_enum, ↓DL.x_sqL, ↓DL.x_sqF, ↓DL.x_sqT, ↓DL.x_bMo, ↓DL.x_bMs, ↓DL.x_wrS, ↓DL.x_wrD, ↓DL.x_isLst, ↓DL.x_mutL, ↓DL.x_bTo, ↓DL.x_tgSub, ↓DL.x_join, ↓DL.x_isStr, ↓DL.x_partN, ↓DL.x_partS, ↓DL.x_sl, ↓DL.x_prsN, ↓DL.x_prsC, ↓DL.x_disp, DL.v_addI, DL.v_addS, DL.v_addT, DL.v_addL, DL.v_catL, DL.v_sub, DL.v_mod, DL.v_neg, DL.v_ltI, DL.v_leI, DL.v_gtI, DL.v_geI, DL.v_ltS, DL.v_leS, DL.v_eqS, DL.v_eqI, DL.v_eqB, DL.v_neS, DL.v_neI, DL.v_neB, DL.v_inS, DL.v_ninS, DL.v_isNN, DL.v_isT, DL.v_isL, DL.v_isS, DL.v_isI, DL.v_isB, DL.v_isNot, DL.v_ixL, DL.v_ixF, DL.v_ixT, DL.v_ixS, DL.v_ixK, DL.v_ixKI, DL.v_at0, DL.v_at1, DL.v_at2, DL.v_lenL, DL.v_lenF, DL.v_lenT, DL.v_lenS, DL.v_lenK, DL.v_lstL, DL.v_lstT, DL.v_lstF, DL.v_tupL, DL.v_tupT, DL.v_tupF, DL.v_cutL, DL.v_cutT, DL.v_cutS, DL.v_app, DL.v_ext, DL.v_truN, DL.v_truB, DL.v_truI, DL.v_truT, DL.v_truL, DL.v_truS, DL.v_rep, DL.v_mulS, DL.v_mulI, DL.v_setL, ↓DL.x_bUo, ↓DL.x_cStep, ↓DL.x_compN, ↓DL.x_bHn, ↓DL.x_bHc, ↓DL.x_bHb, ↓DL.x_bHr, ↓DL.x_bHx, ↓DL.x_bHd, ↓DL.x_fStep, ↓DL.x_bX, ↓DL.x_sortSet, ↓DL.x_tgU, ↓DL.x_bJ, ↓DL.x_chain, DL.v_isi, ↓DL.x_bY, ↓DL.x_pop, DL.v_pop, DL.v_inT, DL.v_rev, DL.v_notInT, ↓DL.x_sBad, ↓DL.x_eBad, ↓DL.x_setTx, ↓DL.x_sortSetS, DL.v_revS, DL.v_listXs, DL.v_listXt, DL.v_listXl, ↓DL.x_enumS1, ↓DL.x_enumSt, List.getElem?_cons_zero, List.getElem?_cons_succ, List.set_cons_zero, List.set_cons_succ, e1', hr, e2, prod_eq]
end
end
end DM
/-! MF: is_ascending, is_factor, is_product at good data; holds as the law says it; reduce_product. -/
namespace DM
noncomputable section
open PySem PySem.Spec PyProof.Rows L2 DL
/-- neighbours compared -/
def adj : List Nat → List Bool
  | a :: b :: r => decide (a < b) :: adj (b :: r)
  | _ => []
theorem adj_all : ∀ (w : List Nat), w.Pairwise (· < ·) → (adj w).all id = true
  | [], _ => rfl
  | [_], _ => rfl
  | a :: b :: r, h => by
    obtain ⟨h1, h2⟩ := List.pairwise_cons.mp h
    have := adj_all (b :: r) h2
    simp [adj, this, h1 b List.mem_cons_self]
theorem adj_len : ∀ (w : List Nat), (adj w).length = w.length - 1
  | [] => rfl
  | [_] => rfl
  | a :: b :: r => by
    have := adj_len (b :: r)
    simp [adj, this]
theorem asc_comp (w : List Nat) (S : List D) (hw : w.length ≤ 1000) (n i : Nat) (v : List Nat) (acc : List D) (hv : w.drop i = v) (hn : v.length = n + 1) (ha : acc.length + n ≤ 1000) :
    compL (tgN 1) tYs (eBin ltD (aE (eBin ixD (aV 0) (aV 1))) (aE (eBin ixD (aV 0) (aE (eBin addD (aV 1) (aE (eC (.int 1)))))))) [1] ((List.range' i n).map fun (j : Nat) => D.int (j : Int)) acc ⟨[.val (.str w), .un], S⟩ = .ok (acc ++ (adj v).map .bl) ⟨[.val (.str w), .un], S⟩ := by
  induction n generalizing i v acc with
  | zero =>
    match v, hn with
    | [a], _ => simp [compL, adj]
  | succ n ih =>
    match v, hn with
    | a :: b :: r, hn =>
      have h0 : w[i]? = some a := by rw [← List.head?_drop, hv]; rfl
      have hv1 : w.drop (i + 1) = b :: r := by rw [← List.tail_drop, hv]; rfl
      have h1 : w[i + 1]? = some b := by rw [← List.head?_drop, hv1]; rfl
      have a0 : L2.atI w (i : Int) = some a := L2.atI_nat h0
      have a1 : L2.atI w ((i : Int) + 1) = some b := by rw [← L2.atI_nat h1]; congr 1
      rw [List.range'_succ, List.map_cons]
      have hlt : ([a] < [b]) ↔ a < b := by
        constructor
        · intro h
          rcases List.cons_lt_cons_iff.mp h with h | ⟨_, h⟩
          · exact h
          · exact absurd h (List.lt_irrefl _)
        · exact fun h => List.cons_lt_cons_iff.mpr (.inl h)
      have st : cStep (tgN 1) tYs (eBin ltD (aE (eBin ixD (aV 0) (aV 1))) (aE (eBin ixD (aV 0) (aE (eBin addD (aV 1) (aE (eC (.int 1)))))))) [1] (D.int (i : Int)) ⟨[.val (.str w), .un], S⟩ = some (some (.bl (decide (a < b))), ⟨[.val (.str w), .un], S⟩) := by
        simp (disch := first | (simp only [DL.o_non, DL.o_bl, DL.o_int, DL.o_str, DL.o_tup, DL.o_lst, DL.o_fro, DL.o_dct, DL.o_ins, DL.o_fn, List.length_cons, List.length_append, List.length_nil, List.length_singleton]; done) | ((with_reducible refine DL.sz_of ?_); (try simp only [List.length_cons, List.length_append, List.length_map, List.length_nil, List.length_singleton, List.length_take, List.length_drop, List.length_reverse, List.length_replicate]); omega) | (with_reducible assumption)) [↓DL.x_bNs, ↓DL.x_bNn, ↓DL.x_bEo, ↓DL.x_bEx, ↓DL.x_bEb, ↓DL.x_bFo, ↓DL.x_bFx, ↓DL.x_bFb, ↓DL.x_bOs, ↓DL.x_bOn, ↓DL.x_bPs, ↓DL.x_bPn, ↓DL.x_bQn, ↓DL.x_bQr, ↓DL.x_bQb, ↓DL.x_bQc, ↓DL.x_bQx, ↓DL.x_bQd, ↓DL.x_bWn, ↓DL.x_bWr, ↓DL.x_bWb, ↓DL.x_bWc, ↓DL.x_bWx, ↓DL.x_bWd, ↓DL.x_bBb, ↓DL.x_bIi, ↓DL.x_bCo, ↓DL.x_bCx, ↓DL.x_bCb, ↓DL.x_bRr, ↓DL.x_bRn, ↓DL.x_bRx, ↓DL.x_bAv, ↓DL.x_bAw, ↓DL.x_bind, ↓DL.x_ouF, ↓DL.x_C, ↓DL.x_var, ↓DL.x_slV, ↓DL.x_slW, ↓DL.x_aV, ↓DL.x_aE, ↓DL.x_rdS, ↓DL.x_rdD, ↓DL.x_derefO, ↓DL.x_deref, ↓DL.x_getO, ↓DL.x_getV, ↓DL.x_getW, DL.o_non, DL.o_bl, DL.o_int, DL.o_str, DL.o_tup, DL.o_lst, DL.o_fro, DL.o_dct, DL.o_ins, DL.o_fn, ↓DL.x_bin, ↓DL.x_ofS, ↓DL.x_ofN, ↓DL.x_un, ↓DL.x_argsN, ↓DL.x_argsC, ↓DL.x_tup, ↓DL.x_lst, ↓DL.x_rdLN, ↓DL.x_rdLC, ↓DL.x_argsPN, ↓DL.x_argsPC, ↓DL.x_fun, ↓DL.x_tTru, ↓DL.x_tBool, ↓DL.x_tNt, ↓DL.x_tAn, ↓DL.x_tOr, ↓DL.x_tYs, ↓DL.x_eIf, ↓DL.x_eNt, ↓DL.x_eAnd, ↓DL.x_eOr, ↓DL.x_nil, ↓DL.x_seq, ↓DL.x_if, ↓DL.x_ret, ↓DL.x_retN, ↓DL.x_ex, ↓DL.x_bk, ↓DL.x_ct, ↓DL.x_nxS, ↓DL.x_nxN, ↓DL.x_asg, ↓DL.x_tgN, ↓DL.x_setO, ↓DL.x_setS, ↓DL.x_wipe, ↓DL.x_wipeN, ↓DL.x_wipeC, ↓DL.x_tgT, ↓DL.x_tgsN, ↓DL.x_tgsC, ↓DL.x_forN, ↓DL.x_for, ↓DL.x_par, ↓DL.x_parO, ↓DL.x_retV, ↓DL.x_bVo, ↓DL.x_call, ↓DL.x_fnD, ↓DL.x_retO, DL.v_retO, ↓DL.x_retX, ↓DL.x_comp, ↓DL.x_iSeq, ↓DL.x_itL, ↓DL.x_itF, ↓DL.x_itT, ↓DL.x_itS, ↓DL.x_bG, ↓DL.x_rng1, ↓DL.x_bG2, ↓DL.x_rng2, ↓DL.x_enum, ↓DL.x_sqL, ↓DL.x_sqF, ↓DL.x_sqT, ↓DL.x_bMo, ↓DL.x_bMs, ↓DL.x_wrS, ↓DL.x_wrD, ↓DL.x_isLst, ↓DL.x_mutL, ↓DL.x_bTo, ↓DL.x_tgSub, ↓DL.x_join, ↓DL.x_isStr, ↓DL.x_partN, ↓DL.x_partS, ↓DL.x_sl, ↓DL.x_prsN, ↓DL.x_prsC, ↓DL.x_disp, DL.v_addI, DL.v_addS, DL.v_addT, DL.v_addL, DL.v_catL, DL.v_sub, DL.v_mod, DL.v_neg, DL.v_ltI, DL.v_leI, DL.v_gtI, DL.v_geI, DL.v_ltS, DL.v_leS, DL.v_eqS, DL.v_eqI, DL.v_eqB, DL.v_neS, DL.v_neI, DL.v_neB, DL.v_inS, DL.v_ninS, DL.v_isNN, DL.v_isT, DL.v_isL, DL.v_isS, DL.v_isI, DL.v_isB, DL.v_isNot, DL.v_ixL, DL.v_ixF, DL.v_ixT, DL.v_ixS, DL.v_ixK, DL.v_ixKI, DL.v_at0, DL.v_at1, DL.v_at2, DL.v_lenL, DL.v_lenF, DL.v_lenT, DL.v_lenS, DL.v_lenK, DL.v_lstL, DL.v_lstT, DL.v_lstF, DL.v_tupL, DL.v_tupT, DL.v_tupF, DL.v_cutL, DL.v_cutT, DL.v_cutS, DL.v_app, DL.v_ext, DL.v_truN, DL.v_truB, DL.v_truI, DL.v_truT, DL.v_truL, DL.v_truS, DL.v_rep, DL.v_mulS, DL.v_mulI, DL.v_setL, ↓DL.x_bUo, ↓DL.x_cStep, ↓DL.x_compN, ↓DL.x_bHn, ↓DL.x_bHc, ↓DL.x_bHb, ↓DL.x_bHr, ↓DL.x_bHx, ↓DL.x_bHd, ↓DL.x_fStep, ↓DL.x_bX, ↓DL.x_sortSet, ↓DL.x_tgU, ↓DL.x_bJ, ↓DL.x_chain, DL.v_isi, ↓DL.x_bY, ↓DL.x_pop, DL.v_pop, DL.v_inT, DL.v_rev, DL.v_notInT, ↓DL.x_sBad, ↓DL.x_eBad, ↓DL.x_setTx, ↓DL.x_sortSetS, DL.v_revS, DL.v_listXs, DL.v_listXt, DL.v_listXl, ↓DL.x_enumS1, ↓DL.x_enumSt, List.getElem?_cons_zero, List.getElem?_cons_succ, List.set_cons_zero, List.set_cons_succ, a0, a1, hlt]
      rw [compL_keep st (by omega), ih (i + 1) (b :: r) _ hv1 (by simpa using hn) (by simp; omega)]
      simp [adj]
theorem ascending_ok (w : List Nat) (S : List D) (h0 : w ≠ []) (hw : w.length ≤ 1000) : den_is_ascending [.str w] S = .ok (.bl ((adj w).all id)) S := by
  obtain ⟨n, hn⟩ : ∃ n, w.length = n + 1 := ⟨w.length - 1, by have : 0 < w.length := List.length_pos_iff.mpr h0; omega⟩
  have hc := asc_comp w S hw n 0 w [] rfl hn (by simp; omega)
  simp only [List.nil_append] at hc
  have hr : rngOk (n : Int) := ⟨by omega, by omega⟩
  have hs : ((w.length : Int) - 1) = (n : Int) := by omega
  have hb := blsOf_map (adj w)
  have ha : allD [.lst ((adj w).map .bl)] = some (.bl ((adj w).all id)) := by
    show (blsOf ((adj w).map D.bl)).bind _ = _
    rw [hb]
    rfl
  simp (disch := first | (simp only [DL.o_non, DL.o_bl, DL.o_int, DL.o_str, DL.o_tup, DL.o_lst, DL.o_fro, DL.o_dct, DL.o_ins, DL.o_fn, List.length_cons, List.length_append, List.length_nil, List.length_singleton]; done) | ((with_reducible refine DL.sz_of ?_); (try simp only [List.length_cons, List.length_append, List.length_map, List.length_nil, List.length_singleton, List.length_take, List.length_drop, List.length_reverse, List.length_replicate]); omega) | (with_reducible assumption)) [den_is_ascending, c_is_ascending, q_is_ascending_1, ↓DL.x_bNs, ↓DL.x_bNn, ↓DL.x_bEo, ↓DL.x_bEx, ↓DL.x_bEb, ↓DL.x_bFo, ↓DL.x_bFx, ↓DL.x_bFb, ↓DL.x_bOs, ↓DL.x_bOn, ↓DL.x_bPs, ↓DL.x_bPn, ↓DL.x_bQn, ↓DL.x_bQr, ↓DL.x_bQb, ↓DL.x_bQc, ↓DL.x_bQx, ↓DL.x_bQd, ↓DL.x_bWn, ↓DL.x_bWr, ↓DL.x_bWb, ↓DL.x_bWc, ↓DL.x_bWx, ↓DL.x_bWd, ↓DL.x_bBb, ↓DL.x_bIi, ↓DL.x_bCo, ↓DL.x_bCx, ↓DL.x_bCb, ↓DL.x_bRr, ↓DL.x_bRn, ↓DL.x_bRx, ↓DL.x_bAv, ↓DL.x_bAw, ↓DL.x_bind, ↓DL.x_ouF, ↓DL.x_C, ↓DL.x_var, ↓DL.x_slV, ↓DL.x_slW, ↓DL.x_aV, ↓DL.x_aE, ↓DL.x_rdS, ↓DL.x_rdD, ↓DL.x_derefO, ↓DL.x_deref, ↓DL.x_getO, ↓DL.x_getV, ↓DL.x_getW, DL.o_non, DL.o_bl, DL.o_int, DL.o_str, DL.o_tup, DL.o_lst, DL.o_fro, DL.o_dct, DL.o_ins, DL.o_fn, ↓DL.x_bin, ↓DL.x_ofS, ↓DL.x_ofN, ↓DL.x_un, ↓DL.x_argsN, ↓DL.x_argsC, ↓DL.x_tup, ↓DL.x_lst, ↓DL.x_rdLN, ↓DL.x_rdLC, ↓DL.x_argsPN, ↓DL.x_argsPC, ↓DL.x_fun, ↓DL.x_tTru, ↓DL.x_tBool, ↓DL.x_tNt, ↓DL.x_tAn, ↓DL.x_tOr, ↓DL.x_tYs, ↓DL.x_eIf, ↓DL.x_eNt, ↓DL.x_eAnd, ↓DL.x_eOr, ↓DL.x_nil, ↓DL.x_seq, ↓DL.x_if, ↓DL.x_ret, ↓DL.x_retN, ↓DL.x_ex, ↓DL.x_bk, ↓DL.x_ct, ↓DL.x_nxS, ↓DL.x_nxN, ↓DL.x_asg, ↓DL.x_tgN, ↓DL.x_setO, ↓DL.x_setS, ↓DL.x_wipe, ↓DL.x_wipeN, ↓DL.x_wipeC, ↓DL.x_tgT, ↓DL.x_tgsN, ↓DL.x_tgsC, ↓DL.x_forN, ↓DL.x_for, ↓DL.x_par, ↓DL.x_parO, ↓DL.x_retV, ↓DL.x_bVo, ↓DL.x_call, ↓DL.x_fnD, ↓DL.x_retO, DL.v_retO, ↓DL.x_retX, ↓DL.x_comp, ↓DL.x_iSeq, ↓DL.x_itL, ↓DL.x_itF, ↓DL.x_itT, ↓DL.x_itS, ↓DL.x_bG, ↓DL.x_rng1, ↓DL.x_bG2, ↓DL.x_rng2, ↓DL.x_enum, ↓DL.x_sqL, ↓DL.x_sqF, ↓DL.x_sqT, ↓DL.x_bMo, ↓DL.x_bMs, ↓DL.x_wrS, ↓DL.x_wrD, ↓DL.x_isLst, ↓DL.x_mutL, ↓DL.x_bTo, ↓DL.x_tgSub, ↓DL.x_join, ↓DL.x_isStr, ↓DL.x_partN, ↓DL.x_partS, ↓DL.x_sl, ↓DL.x_prsN, ↓DL.x_prsC, ↓DL.x_disp, DL.v_addI, DL.v_addS, DL.v_addT, DL.v_addL, DL.v_catL, DL.v_sub, DL.v_mod, DL.v_neg, DL.v_ltI, DL.v_leI, DL.v_gtI, DL.v_geI, DL.v_ltS, DL.v_leS, DL.v_eqS, DL.v_eqI, DL.v_eqB, DL.v_neS, DL.v_neI, DL.v_neB, DL.v_inS, DL.v_ninS, DL.v_isNN, DL.v_isT, DL.v_isL, DL.v_isS, DL.v_isI, DL.v_isB, DL.v_isNot, DL.v_ixL, DL.v_ixF, DL.v_ixT, DL.v_ixS, DL.v_ixK, DL.v_ixKI, DL.v_at0, DL.v_at1, DL.v_at2, DL.v_lenL, DL.v_lenF, DL.v_lenT, DL.v_lenS, DL.v_lenK, DL.v_lstL, DL.v_lstT, DL.v_lstF, DL.v_tupL, DL.v_tupT, DL.v_tupF, DL.v_cutL, DL.v_cutT, DL.v_cutS, DL.v_app, DL.v_ext, DL.v_truN, DL.v_truB, DL.v_truI, DL.v_truT, DL.v_truL, DL.v_truS, DL.v_rep, DL.v_mulS, DL.v_mulI, DL.v_setL, ↓DL.x_bUo, ↓DL.x_cStep, ↓DL.x_compN, ↓DL.x_bHn, ↓DL.x_bHc, ↓DL.x_bHb, ↓DL.x_bHr, ↓DL.x_bHx, ↓DL.x_bHd, ↓DL.x_fStep, ↓DL.x_bX, ↓DL.x_sortSet, ↓DL.x_tgU, ↓DL.x_bJ, ↓DL.x_chain, DL.v_isi, ↓DL.x_bY, ↓DL.x_pop, DL.v_pop, DL.v_inT, DL.v_rev, DL.v_notInT, ↓DL.x_sBad, ↓DL.x_eBad, ↓DL.x_setTx, ↓DL.x_sortSetS, DL.v_revS, DL.v_listXs, DL.v_listXt, DL.v_listXl, ↓DL.x_enumS1, ↓DL.x_enumSt, List.getElem?_cons_zero, List.getElem?_cons_succ, List.set_cons_zero, List.set_cons_succ, hs, hr, rangeD_eq, hc, ha]
theorem tup_isi : isi1 "tuple" (.tup []) = some (.bl true) := by kernel_rfl
theorem isi_tup (xs : List D) : isi1 "tuple" (.tup xs) = some (.bl true) := v_isi _ _ "tuple" true rfl (by kernel_rfl)
theorem isi_str (xs : List Nat) : isi1 "str" (.str xs) = some (.bl true) := v_isi _ _ "str" true rfl (by kernel_rfl)
theorem allD_true (n : Nat) (bs : List Bool) (h : bs.all id = true) : allD [.lst (bs.map .bl)] = some (.bl true) := by
  show (blsOf (bs.map D.bl)).bind _ = _
  rw [blsOf_map, ← h]
  rfl
theorem allD_map {α : Type} (f : α → Bool) (xs : List α) : allD [.lst (xs.map fun x => .bl (f x))] = some (.bl (xs.all f)) := by
  have e : (xs.map fun x => D.bl (f x)) = (xs.map f).map D.bl := by rw [List.map_map]; rfl
  rw [e]
  show (blsOf ((xs.map f).map D.bl)).bind _ = _
  rw [blsOf_map]
  show some (D.bl ((xs.map f).all id)) = _
  rw [List.all_map]
  rfl
theorem charsD_eq (w : List Nat) : charsD w = w.map strD := rfl
theorem isfac_comp {x y : D} {A l : List Nat} {d : D} {S : List D} (hd : d = .tup [x, .str l]) (hl : l.length ≤ 1000) :
    q_is_factor_1 ⟨[.val (.str A), .val d, .un], S⟩ = .ok (.lst (l.map fun c => .bl (decide (c ∈ A)))) ⟨[.val (.str A), .val d, .un], S⟩ := by
  subst hd
  have hc := comp_map (tg := tgN 2) (tt := tYs) (m := eBin inD (aV 2) (aV 0)) (vs := [2]) (st := ⟨[.val (.str A), .val (.tup [x, .str l]), .un], S⟩) strD (fun c => .bl (decide (c ∈ A))) l (fun c _ => by
    simp (disch := first | (simp only [DL.o_non, DL.o_bl, DL.o_int, DL.o_str, DL.o_tup, DL.o_lst, DL.o_fro, DL.o_dct, DL.o_ins, DL.o_fn, List.length_cons, List.length_append, List.length_nil, List.length_singleton]; done) | ((with_reducible refine DL.sz_of ?_); (try simp only [List.length_cons, List.length_append, List.length_map, List.length_nil, List.length_singleton, List.length_take, List.length_drop, List.length_reverse, List.length_replicate]); omega) | (with_reducible assumption)) [↓DL.x_bNs, ↓DL.x_bNn, ↓DL.x_bEo, ↓DL.x_bEx, ↓DL.x_bEb, ↓DL.x_bFo, ↓DL.x_bFx, ↓DL.x_bFb, ↓DL.x_bOs, ↓DL.x_bOn, ↓DL.x_bPs, ↓DL.x_bPn, ↓DL.x_bQn, ↓DL.x_bQr, ↓DL.x_bQb, ↓DL.x_bQc, ↓DL.x_bQx, ↓DL.x_bQd, ↓DL.x_bWn, ↓DL.x_bWr, ↓DL.x_bWb, ↓DL.x_bWc, ↓DL.x_bWx, ↓DL.x_bWd, ↓DL.x_bBb, ↓DL.x_bIi, ↓DL.x_bCo, ↓DL.x_bCx, ↓DL.x_bCb, ↓DL.x_bRr, ↓DL.x_bRn, ↓DL.x_bRx, ↓DL.x_bAv, ↓DL.x_bAw, ↓DL.x_bind, ↓DL.x_ouF, ↓DL.x_C, ↓DL.x_var, ↓DL.x_slV, ↓DL.x_slW, ↓DL.x_aV, ↓DL.x_aE, ↓DL.x_rdS, ↓DL.x_rdD, ↓DL.x_derefO, ↓DL.x_deref, ↓DL.x_getO, ↓DL.x_getV, ↓DL.x_getW, DL.o_non, DL.o_bl, DL.o_int, DL.o_str, DL.o_tup, DL.o_lst, DL.o_fro, DL.o_dct, DL.o_ins, DL.o_fn, ↓DL.x_bin, ↓DL.x_ofS, ↓DL.x_ofN, ↓DL.x_un, ↓DL.x_argsN, ↓DL.x_argsC, ↓DL.x_tup, ↓DL.x_lst, ↓DL.x_rdLN, ↓DL.x_rdLC, ↓DL.x_argsPN, ↓DL.x_argsPC, ↓DL.x_fun, ↓DL.x_tTru, ↓DL.x_tBool, ↓DL.x_tNt, ↓DL.x_tAn, ↓DL.x_tOr, ↓DL.x_tYs, ↓DL.x_eIf, ↓DL.x_eNt, ↓DL.x_eAnd, ↓DL.x_eOr, ↓DL.x_nil, ↓DL.x_seq, ↓DL.x_if, ↓DL.x_ret, ↓DL.x_retN, ↓DL.x_ex, ↓DL.x_bk, ↓DL.x_ct, ↓DL.x_nxS, ↓DL.x_nxN, ↓DL.x_asg, ↓DL.x_tgN, ↓DL.x_setO, ↓DL.x_setS, ↓DL.x_wipe, ↓DL.x_wipeN, ↓DL.x_wipeC, ↓DL.x_tgT, ↓DL.x_tgsN, ↓DL.x_tgsC, ↓DL.x_forN, ↓DL.x_for, ↓DL.x_par, ↓DL.x_parO, ↓DL.x_retV, ↓DL.x_bVo, ↓DL.x_call, ↓DL.x_fnD, ↓DL.x_retO, DL.v_retO, ↓DL.x_retX, ↓DL.x_comp, ↓DL.x_iSeq, ↓DL.x_itL, ↓DL.x_itF, ↓DL.x_itT, ↓DL.x_itS, ↓DL.x_bG, ↓DL.x_rng1, ↓DL.x_bG2, ↓DL.x_rng2, ↓DL.x_enum, ↓DL.x_sqL, ↓DL.x_sqF, ↓DL.x_sqT, ↓DL.x_bMo, ↓DL.x_bMs, ↓DL.x_wrS, ↓DL.x_wrD, ↓DL.x_isLst, ↓DL.x_mutL, ↓DL.x_bTo, ↓DL.x_tgSub, ↓DL.x_join, ↓DL.x_isStr, ↓DL.x_partN, ↓DL.x_partS, ↓DL.x_sl, ↓DL.x_prsN, ↓DL.x_prsC, ↓DL.x_disp, DL.v_addI, DL.v_addS, DL.v_addT, DL.v_addL, DL.v_catL, DL.v_sub, DL.v_mod, DL.v_neg, DL.v_ltI, DL.v_leI, DL.v_gtI, DL.v_geI, DL.v_ltS, DL.v_leS, DL.v_eqS, DL.v_eqI, DL.v_eqB, DL.v_neS, DL.v_neI, DL.v_neB, DL.v_inS, DL.v_ninS, DL.v_isNN, DL.v_isT, DL.v_isL, DL.v_isS, DL.v_isI, DL.v_isB, DL.v_isNot, DL.v_ixL, DL.v_ixF, DL.v_ixT, DL.v_ixS, DL.v_ixK, DL.v_ixKI, DL.v_at0, DL.v_at1, DL.v_at2, DL.v_lenL, DL.v_lenF, DL.v_lenT, DL.v_lenS, DL.v_lenK, DL.v_lstL, DL.v_lstT, DL.v_lstF, DL.v_tupL, DL.v_tupT, DL.v_tupF, DL.v_cutL, DL.v_cutT, DL.v_cutS, DL.v_app, DL.v_ext, DL.v_truN, DL.v_truB, DL.v_truI, DL.v_truT, DL.v_truL, DL.v_truS, DL.v_rep, DL.v_mulS, DL.v_mulI, DL.v_setL, ↓DL.x_bUo, ↓DL.x_cStep, ↓DL.x_compN, ↓DL.x_bHn, ↓DL.x_bHc, ↓DL.x_bHb, ↓DL.x_bHr, ↓DL.x_bHx, ↓DL.x_bHd, ↓DL.x_fStep, ↓DL.x_bX, ↓DL.x_sortSet, ↓DL.x_tgU, ↓DL.x_bJ, ↓DL.x_chain, DL.v_isi, ↓DL.x_bY, ↓DL.x_pop, DL.v_pop, DL.v_inT, DL.v_rev, DL.v_notInT, ↓DL.x_sBad, ↓DL.x_eBad, ↓DL.x_setTx, ↓DL.x_sortSetS, DL.v_revS, DL.v_listXs, DL.v_listXt, DL.v_listXl, ↓DL.x_enumS1, ↓DL.x_enumSt, List.getElem?_cons_zero, List.getElem?_cons_succ, List.set_cons_zero, List.set_cons_succ, strD]) (by omega)
  simp (disch := first | (simp only [DL.o_non, DL.o_bl, DL.o_int, DL.o_str, DL.o_tup, DL.o_lst, DL.o_fro, DL.o_dct, DL.o_ins, DL.o_fn, List.length_cons, List.length_append, List.length_nil, List.length_singleton]; done) | ((with_reducible refine DL.sz_of ?_); (try simp only [List.length_cons, List.length_append, List.length_map, List.length_nil, List.length_singleton, List.length_take, List.length_drop, List.length_reverse, List.length_replicate]); omega) | (with_reducible assumption)) [q_is_factor_1, ↓DL.x_bNs, ↓DL.x_bNn, ↓DL.x_bEo, ↓DL.x_bEx, ↓DL.x_bEb, ↓DL.x_bFo, ↓DL.x_bFx, ↓DL.x_bFb, ↓DL.x_bOs, ↓DL.x_bOn, ↓DL.x_bPs, ↓DL.x_bPn, ↓DL.x_bQn, ↓DL.x_bQr, ↓DL.x_bQb, ↓DL.x_bQc, ↓DL.x_bQx, ↓DL.x_bQd, ↓DL.x_bWn, ↓DL.x_bWr, ↓DL.x_bWb, ↓DL.x_bWc, ↓DL.x_bWx, ↓DL.x_bWd, ↓DL.x_bBb, ↓DL.x_bIi, ↓DL.x_bCo, ↓DL.x_bCx, ↓DL.x_bCb, ↓DL.x_bRr, ↓DL.x_bRn, ↓DL.x_bRx, ↓DL.x_bAv, ↓DL.x_bAw, ↓DL.x_bind, ↓DL.x_ouF, ↓DL.x_C, ↓DL.x_var, ↓DL.x_slV, ↓DL.x_slW, ↓DL.x_aV, ↓DL.x_aE, ↓DL.x_rdS, ↓DL.x_rdD, ↓DL.x_derefO, ↓DL.x_deref, ↓DL.x_getO, ↓DL.x_getV, ↓DL.x_getW, DL.o_non, DL.o_bl, DL.o_int, DL.o_str, DL.o_tup, DL.o_lst, DL.o_fro, DL.o_dct, DL.o_ins, DL.o_fn, ↓DL.x_bin, ↓DL.x_ofS, ↓DL.x_ofN, ↓DL.x_un, ↓DL.x_argsN, ↓DL.x_argsC, ↓DL.x_tup, ↓DL.x_lst, ↓DL.x_rdLN, ↓DL.x_rdLC, ↓DL.x_argsPN, ↓DL.x_argsPC, ↓DL.x_fun, ↓DL.x_tTru, ↓DL.x_tBool, ↓DL.x_tNt, ↓DL.x_tAn, ↓DL.x_tOr, ↓DL.x_tYs, ↓DL.x_eIf, ↓DL.x_eNt, ↓DL.x_eAnd, ↓DL.x_eOr, ↓DL.x_nil, ↓DL.x_seq, ↓DL.x_if, ↓DL.x_ret, ↓DL.x_retN, ↓DL.x_ex, ↓DL.x_bk, ↓DL.x_ct, ↓DL.x_nxS, ↓DL.x_nxN, ↓DL.x_asg, ↓DL.x_tgN, ↓DL.x_setO, ↓DL.x_setS, ↓DL.x_wipe, ↓DL.x_wipeN, ↓DL.x_wipeC, ↓DL.x_tgT, ↓DL.x_tgsN, ↓DL.x_tgsC, ↓DL.x_forN, ↓DL.x_for, ↓DL.x_par, ↓DL.x_parO, ↓DL.x_retV, ↓DL.x_bVo, ↓DL.x_call, ↓DL.x_fnD, ↓DL.x_retO, DL.v_retO, ↓DL.x_retX, ↓DL.x_comp, ↓DL.x_iSeq, ↓DL.x_itL, ↓DL.x_itF, ↓DL.x_itT, ↓DL.x_itS, ↓DL.x_bG, ↓DL.x_rng1, ↓DL.x_bG2, ↓DL.x_rng2, ↓DL.x_enum, ↓DL.x_sqL, ↓DL.x_sqF, ↓DL.x_sqT, ↓DL.x_bMo, ↓DL.x_bMs, ↓DL.x_wrS, ↓DL.x_wrD, ↓DL.x_isLst, ↓DL.x_mutL, ↓DL.x_bTo, ↓DL.x_tgSub, ↓DL.x_join, ↓DL.x_isStr, ↓DL.x_partN, ↓DL.x_partS, ↓DL.x_sl, ↓DL.x_prsN, ↓DL.x_prsC, ↓DL.x_disp, DL.v_addI, DL.v_addS, DL.v_addT, DL.v_addL, DL.v_catL, DL.v_sub, DL.v_mod, DL.v_neg, DL.v_ltI, DL.v_leI, DL.v_gtI, DL.v_geI, DL.v_ltS, DL.v_leS, DL.v_eqS, DL.v_eqI, DL.v_eqB, DL.v_neS, DL.v_neI, DL.v_neB, DL.v_inS, DL.v_ninS, DL.v_isNN, DL.v_isT, DL.v_isL, DL.v_isS, DL.v_isI, DL.v_isB, DL.v_isNot, DL.v_ixL, DL.v_ixF, DL.v_ixT, DL.v_ixS, DL.v_ixK, DL.v_ixKI, DL.v_at0, DL.v_at1, DL.v_at2, DL.v_lenL, DL.v_lenF, DL.v_lenT, DL.v_lenS, DL.v_lenK, DL.v_lstL, DL.v_lstT, DL.v_lstF, DL.v_tupL, DL.v_tupT, DL.v_tupF, DL.v_cutL, DL.v_cutT, DL.v_cutS, DL.v_app, DL.v_ext, DL.v_truN, DL.v_truB, DL.v_truI, DL.v_truT, DL.v_truL, DL.v_truS, DL.v_rep, DL.v_mulS, DL.v_mulI, DL.v_setL, ↓DL.x_bUo, ↓DL.x_cStep, ↓DL.x_compN, ↓DL.x_bHn, ↓DL.x_bHc, ↓DL.x_bHb, ↓DL.x_bHr, ↓DL.x_bHx, ↓DL.x_bHd, ↓DL.x_fStep, ↓DL.x_bX, ↓DL.x_sortSet, ↓DL.x_tgU, ↓DL.x_bJ, ↓DL.x_chain, DL.v_isi, ↓DL.x_bY, ↓DL.x_pop, DL.v_pop, DL.v_inT, DL.v_rev, DL.v_notInT, ↓DL.x_sBad, ↓DL.x_eBad, ↓DL.x_setTx, ↓DL.x_sortSetS, DL.v_revS, DL.v_listXs, DL.v_listXt, DL.v_listXl, ↓DL.x_enumS1, ↓DL.x_enumSt, List.getElem?_cons_zero, List.getElem?_cons_succ, List.set_cons_zero, List.set_cons_succ, charsD_eq, hc]
theorem factor_good {A : List Nat} {f : Fac} (S : List D) (hA : GoodA A) (hf : FacA A f) : den_is_factor [.str A, facD f] S = .ok (.bl true) S := by
  have hl : f.2.length ≤ 1000 := Nat.le_trans (hf.le hA) (by decide)
  have h1 := isfac_comp (A := A) (S := S) (y := .non) (fac_eq f) hl
  have h2 := allD_map (fun c => decide (c ∈ A)) f.2
  have h3 : (f.2.all fun c => decide (c ∈ A)) = true := List.all_eq_true.mpr fun c hc => by simpa using hf.over c hc
  rw [h3] at h2
  have h4 := ascending_ok f.2 S hf.ok.1 hl
  rw [adj_all _ (hf.asc hA)] at h4
  have h5 : 0 < f.2.length := List.length_pos_iff.mpr hf.ok.1
  obtain ⟨b, l⟩ := f
  simp only at h1 h2 h4 hl h5
  have hne : l ≠ [] := hf.ok.1
  cases b with
  | true =>
    simp only [fac_eq, if_true] at h1 ⊢
    simp (disch := first | (simp only [DL.o_non, DL.o_bl, DL.o_int, DL.o_str, DL.o_tup, DL.o_lst, DL.o_fro, DL.o_dct, DL.o_ins, DL.o_fn, List.length_cons, List.length_append, List.length_nil, List.length_singleton]; done) | ((with_reducible refine DL.sz_of ?_); (try simp only [List.length_cons, List.length_append, List.length_map, List.length_nil, List.length_singleton, List.length_take, List.length_drop, List.length_reverse, List.length_replicate]); omega) | (with_reducible assumption)) [den_is_factor, c_is_factor, ↓DL.x_bNs, ↓DL.x_bNn, ↓DL.x_bEo, ↓DL.x_bEx, ↓DL.x_bEb, ↓DL.x_bFo, ↓DL.x_bFx, ↓DL.x_bFb, ↓DL.x_bOs, ↓DL.x_bOn, ↓DL.x_bPs, ↓DL.x_bPn, ↓DL.x_bQn, ↓DL.x_bQr, ↓DL.x_bQb, ↓DL.x_bQc, ↓DL.x_bQx, ↓DL.x_bQd, ↓DL.x_bWn, ↓DL.x_bWr, ↓DL.x_bWb, ↓DL.x_bWc, ↓DL.x_bWx, ↓DL.x_bWd, ↓DL.x_bBb, ↓DL.x_bIi, ↓DL.x_bCo, ↓DL.x_bCx, ↓DL.x_bCb, ↓DL.x_bRr, ↓DL.x_bRn, ↓DL.x_bRx, ↓DL.x_bAv, ↓DL.x_bAw, ↓DL.x_bind, ↓DL.x_ouF, ↓DL.x_C, ↓DL.x_var, ↓DL.x_slV, ↓DL.x_slW, ↓DL.x_aV, ↓DL.x_aE, ↓DL.x_rdS, ↓DL.x_rdD, ↓DL.x_derefO, ↓DL.x_deref, ↓DL.x_getO, ↓DL.x_getV, ↓DL.x_getW, DL.o_non, DL.o_bl, DL.o_int, DL.o_str, DL.o_tup, DL.o_lst, DL.o_fro, DL.o_dct, DL.o_ins, DL.o_fn, ↓DL.x_bin, ↓DL.x_ofS, ↓DL.x_ofN, ↓DL.x_un, ↓DL.x_argsN, ↓DL.x_argsC, ↓DL.x_tup, ↓DL.x_lst, ↓DL.x_rdLN, ↓DL.x_rdLC, ↓DL.x_argsPN, ↓DL.x_argsPC, ↓DL.x_fun, ↓DL.x_tTru, ↓DL.x_tBool, ↓DL.x_tNt, ↓DL.x_tAn, ↓DL.x_tOr, ↓DL.x_tYs, ↓DL.x_eIf, ↓DL.x_eNt, ↓DL.x_eAnd, ↓DL.x_eOr, ↓DL.x_nil, ↓DL.x_seq, ↓DL.x_if, ↓DL.x_ret, ↓DL.x_retN, ↓DL.x_ex, ↓DL.x_bk, ↓DL.x_ct, ↓DL.x_nxS, ↓DL.x_nxN, ↓DL.x_asg, ↓DL.x_tgN, ↓DL.x_setO, ↓DL.x_setS, ↓DL.x_wipe, ↓DL.x_wipeN, ↓DL.x_wipeC, ↓DL.x_tgT, ↓DL.x_tgsN, ↓DL.x_tgsC, ↓DL.x_forN, ↓DL.x_for, ↓DL.x_par, ↓DL.x_parO, ↓DL.x_retV, ↓DL.x_bVo, ↓DL.x_call, ↓DL.x_fnD, ↓DL.x_retO, DL.v_retO, ↓DL.x_retX, ↓DL.x_comp, ↓DL.x_iSeq, ↓DL.x_itL, ↓DL.x_itF, ↓DL.x_itT, ↓DL.x_itS, ↓DL.x_bG, ↓DL.x_rng1, ↓DL.x_bG2, ↓DL.x_rng2, ↓DL.x_enum, ↓DL.x_sqL, ↓DL.x_sqF, ↓DL.x_sqT, ↓DL.x_bMo, ↓DL.x_bMs, ↓DL.x_wrS, ↓DL.x_wrD, ↓DL.x_isLst, ↓DL.x_mutL, ↓DL.x_bTo, ↓DL.x_tgSub, ↓DL.x_join, ↓DL.x_isStr, ↓DL.x_partN, ↓DL.x_partS, ↓DL.x_sl, ↓DL.x_prsN, ↓DL.x_prsC, ↓DL.x_disp, DL.v_addI, DL.v_addS, DL.v_addT, DL.v_addL, DL.v_catL, DL.v_sub, DL.v_mod, DL.v_neg, DL.v_ltI, DL.v_leI, DL.v_gtI, DL.v_geI, DL.v_ltS, DL.v_leS, DL.v_eqS, DL.v_eqI, DL.v_eqB, DL.v_neS, DL.v_neI, DL.v_neB, DL.v_inS, DL.v_ninS, DL.v_isNN, DL.v_isT, DL.v_isL, DL.v_isS, DL.v_isI, DL.v_isB, DL.v_isNot, DL.v_ixL, DL.v_ixF, DL.v_ixT, DL.v_ixS, DL.v_ixK, DL.v_ixKI, DL.v_at0, DL.v_at1, DL.v_at2, DL.v_lenL, DL.v_lenF, DL.v_lenT, DL.v_lenS, DL.v_lenK, DL.v_lstL, DL.v_lstT, DL.v_lstF, DL.v_tupL, DL.v_tupT, DL.v_tupF, DL.v_cutL, DL.v_cutT, DL.v_cutS, DL.v_app, DL.v_ext, DL.v_truN, DL.v_truB, DL.v_truI, DL.v_truT, DL.v_truL, DL.v_truS, DL.v_rep, DL.v_mulS, DL.v_mulI, DL.v_setL, ↓DL.x_bUo, ↓DL.x_cStep, ↓DL.x_compN, ↓DL.x_bHn, ↓DL.x_bHc, ↓DL.x_bHb, ↓DL.x_bHr, ↓DL.x_bHx, ↓DL.x_bHd, ↓DL.x_fStep, ↓DL.x_bX, ↓DL.x_sortSet, ↓DL.x_tgU, ↓DL.x_bJ, ↓DL.x_chain, DL.v_isi, ↓DL.x_bY, ↓DL.x_pop, DL.v_pop, DL.v_inT, DL.v_rev, DL.v_notInT, ↓DL.x_sBad, ↓DL.x_eBad, ↓DL.x_setTx, ↓DL.x_sortSetS, DL.v_revS, DL.v_listXs, DL.v_listXt, DL.v_listXl, ↓DL.x_enumS1, ↓DL.x_enumSt, List.getElem?_cons_zero, List.getElem?_cons_succ, List.set_cons_zero, List.set_cons_succ, isi_tup, isi_str, h1, h2, h4, h5]
  | false =>
    have h6 : l.length = 1 := hf.ok.2.2 rfl
    simp only [fac_eq, if_false, Bool.false_eq_true] at h1 ⊢
    simp (disch := first | (simp only [DL.o_non, DL.o_bl, DL.o_int, DL.o_str, DL.o_tup, DL.o_lst, DL.o_fro, DL.o_dct, DL.o_ins, DL.o_fn, List.length_cons, List.length_append, List.length_nil, List.length_singleton]; done) | ((with_reducible refine DL.sz_of ?_); (try simp only [List.length_cons, List.length_append, List.length_map, List.length_nil, List.length_singleton, List.length_take, List.length_drop, List.length_reverse, List.length_replicate]); omega) | (with_reducible assumption)) [den_is_factor, c_is_factor, ↓DL.x_bNs, ↓DL.x_bNn, ↓DL.x_bEo, ↓DL.x_bEx, ↓DL.x_bEb, ↓DL.x_bFo, ↓DL.x_bFx, ↓DL.x_bFb, ↓DL.x_bOs, ↓DL.x_bOn, ↓DL.x_bPs, ↓DL.x_bPn, ↓DL.x_bQn, ↓DL.x_bQr, ↓DL.x_bQb, ↓DL.x_bQc, ↓DL.x_bQx, ↓DL.x_bQd, ↓DL.x_bWn, ↓DL.x_bWr, ↓DL.x_bWb, ↓DL.x_bWc, ↓DL.x_bWx, ↓DL.x_bWd, ↓DL.x_bBb, ↓DL.x_bIi, ↓DL.x_bCo, ↓DL.x_bCx, ↓DL.x_bCb, ↓DL.x_bRr, ↓DL.x_bRn, ↓DL.x_bRx, ↓DL.x_bAv, ↓DL.x_bAw, ↓DL.x_bind, ↓DL.x_ouF, ↓DL.x_C, ↓DL.x_var, ↓DL.x_slV, ↓DL.x_slW, ↓DL.x_aV, ↓DL.x_aE, ↓DL.x_rdS, ↓DL.x_rdD, ↓DL.x_derefO, ↓DL.x_deref, ↓DL.x_getO, ↓DL.x_getV, ↓DL.x_getW, DL.o_non, DL.o_bl, DL.o_int, DL.o_str, DL.o_tup, DL.o_lst, DL.o_fro, DL.o_dct, DL.o_ins, DL.o_fn, ↓DL.x_bin, ↓DL.x_ofS, ↓DL.x_ofN, ↓DL.x_un, ↓DL.x_argsN, ↓DL.x_argsC, ↓DL.x_tup, ↓DL.x_lst, ↓DL.x_rdLN, ↓DL.x_rdLC, ↓DL.x_argsPN, ↓DL.x_argsPC, ↓DL.x_fun, ↓DL.x_tTru, ↓DL.x_tBool, ↓DL.x_tNt, ↓DL.x_tAn, ↓DL.x_tOr, ↓DL.x_tYs, ↓DL.x_eIf, ↓DL.x_eNt, ↓DL.x_eAnd, ↓DL.x_eOr, ↓DL.x_nil, ↓DL.x_seq, ↓DL.x_if, ↓DL.x_ret, ↓DL.x_retN, ↓DL.x_ex, ↓DL.x_bk, ↓DL.x_ct, ↓DL.x_nxS, ↓DL.x_nxN, ↓DL.x_asg, ↓DL.x_tgN, ↓DL.x_setO, ↓DL.x_setS, ↓DL.x_wipe, ↓DL.x_wipeN, ↓DL.x_wipeC, ↓DL.x_tgT, ↓DL.x_tgsN, ↓DL.x_tgsC, ↓DL.x_forN, ↓DL.x_for, ↓DL.x_par, ↓DL.x_parO, ↓DL.x_retV, ↓DL.x_bVo, ↓DL.x_call, ↓DL.x_fnD, ↓DL.x_retO, DL.v_retO, ↓DL.x_retX, ↓DL.x_comp, ↓DL.x_iSeq, ↓DL.x_itL, ↓DL.x_itF, ↓DL.x_itT, ↓DL.x_itS, ↓DL.x_bG, ↓DL.x_rng1, ↓DL.x_bG2, ↓DL.x_rng2, ↓DL.x_enum, ↓DL.x_sqL, ↓DL.x_sqF, ↓DL.x_sqT, ↓DL.x_bMo, ↓DL.x_bMs, ↓DL.x_wrS, ↓DL.x_wrD, ↓DL.x_isLst, ↓DL.x_mutL, ↓DL.x_bTo, ↓DL.x_tgSub, ↓DL.x_join, ↓DL.x_isStr, ↓DL.x_partN, ↓DL.x_partS, ↓DL.x_sl, ↓DL.x_prsN, ↓DL.x_prsC, ↓DL.x_disp, DL.v_addI, DL.v_addS, DL.v_addT, DL.v_addL, DL.v_catL, DL.v_sub, DL.v_mod, DL.v_neg, DL.v_ltI, DL.v_leI, DL.v_gtI, DL.v_geI, DL.v_ltS, DL.v_leS, DL.v_eqS, DL.v_eqI, DL.v_eqB, DL.v_neS, DL.v_neI, DL.v_neB, DL.v_inS, DL.v_ninS, DL.v_isNN, DL.v_isT, DL.v_isL, DL.v_isS, DL.v_isI, DL.v_isB, DL.v_isNot, DL.v_ixL, DL.v_ixF, DL.v_ixT, DL.v_ixS, DL.v_ixK, DL.v_ixKI, DL.v_at0, DL.v_at1, DL.v_at2, DL.v_lenL, DL.v_lenF, DL.v_lenT, DL.v_lenS, DL.v_lenK, DL.v_lstL, DL.v_lstT, DL.v_lstF, DL.v_tupL, DL.v_tupT, DL.v_tupF, DL.v_cutL, DL.v_cutT, DL.v_cutS, DL.v_app, DL.v_ext, DL.v_truN, DL.v_truB, DL.v_truI, DL.v_truT, DL.v_truL, DL.v_truS, DL.v_rep, DL.v_mulS, DL.v_mulI, DL.v_setL, ↓DL.x_bUo, ↓DL.x_cStep, ↓DL.x_compN, ↓DL.x_bHn, ↓DL.x_bHc, ↓DL.x_bHb, ↓DL.x_bHr, ↓DL.x_bHx, ↓DL.x_bHd, ↓DL.x_fStep, ↓DL.x_bX, ↓DL.x_sortSet, ↓DL.x_tgU, ↓DL.x_bJ, ↓DL.x_chain, DL.v_isi, ↓DL.x_bY, ↓DL.x_pop, DL.v_pop, DL.v_inT, DL.v_rev, DL.v_notInT, ↓DL.x_sBad, ↓DL.x_eBad, ↓DL.x_setTx, ↓DL.x_sortSetS, DL.v_revS, DL.v_listXs, DL.v_listXt, DL.v_listXl, ↓DL.x_enumS1, ↓DL.x_enumSt, List.getElem?_cons_zero, List.getElem?_cons_succ, List.set_cons_zero, List.set_cons_succ, isi_tup, isi_str, h1, h2, h6]
theorem product_good {A : List Nat} {p : List Fac} (S : List D) (hA : GoodA A) (hp : ProdA A p) (hl : p.length ≤ 1000) : den_is_product [.str A, prodD p] S = .ok (.bl true) S := by
  have hc := comp_map (tg := tgN 2) (tt := tYs) (m := eCall den_is_factor [(eVar 0), (eVar 2)]) (vs := [2]) (st := ⟨[.val (.str A), .val (prodD p), .un], S⟩) facD (fun _ => .bl true) p (fun f hf => by
    have h := factor_good S hA (hp f hf)
    rw [fac_eq] at h ⊢
    simp (disch := first | (simp only [DL.o_non, DL.o_bl, DL.o_int, DL.o_str, DL.o_tup, DL.o_lst, DL.o_fro, DL.o_dct, DL.o_ins, DL.o_fn, List.length_cons, List.length_append, List.length_nil, List.length_singleton]; done) | ((with_reducible refine DL.sz_of ?_); (try simp only [List.length_cons, List.length_append, List.length_map, List.length_nil, List.length_singleton, List.length_take, List.length_drop, List.length_reverse, List.length_replicate]); omega) | (with_reducible assumption)) [↓DL.x_bNs, ↓DL.x_bNn, ↓DL.x_bEo, ↓DL.x_bEx, ↓DL.x_bEb, ↓DL.x_bFo, ↓DL.x_bFx, ↓DL.x_bFb, ↓DL.x_bOs, ↓DL.x_bOn, ↓DL.x_bPs, ↓DL.x_bPn, ↓DL.x_bQn, ↓DL.x_bQr, ↓DL.x_bQb, ↓DL.x_bQc, ↓DL.x_bQx, ↓DL.x_bQd, ↓DL.x_bWn, ↓DL.x_bWr, ↓DL.x_bWb, ↓DL.x_bWc, ↓DL.x_bWx, ↓DL.x_bWd, ↓DL.x_bBb, ↓DL.x_bIi, ↓DL.x_bCo, ↓DL.x_bCx, ↓DL.x_bCb, ↓DL.x_bRr, ↓DL.x_bRn, ↓DL.x_bRx, ↓DL.x_bAv, ↓DL.x_bAw, ↓DL.x_bind, ↓DL.x_ouF, ↓DL.x_C, ↓DL.x_var, ↓DL.x_slV, ↓DL.x_slW, ↓DL.x_aV, ↓DL.x_aE, ↓DL.x_rdS, ↓DL.x_rdD, ↓DL.x_derefO, ↓DL.x_deref, ↓DL.x_getO, ↓DL.x_getV, ↓DL.x_getW, DL.o_non, DL.o_bl, DL.o_int, DL.o_str, DL.o_tup, DL.o_lst, DL.o_fro, DL.o_dct, DL.o_ins, DL.o_fn, ↓DL.x_bin, ↓DL.x_ofS, ↓DL.x_ofN, ↓DL.x_un, ↓DL.x_argsN, ↓DL.x_argsC, ↓DL.x_tup, ↓DL.x_lst, ↓DL.x_rdLN, ↓DL.x_rdLC, ↓DL.x_argsPN, ↓DL.x_argsPC, ↓DL.x_fun, ↓DL.x_tTru, ↓DL.x_tBool, ↓DL.x_tNt, ↓DL.x_tAn, ↓DL.x_tOr, ↓DL.x_tYs, ↓DL.x_eIf, ↓DL.x_eNt, ↓DL.x_eAnd, ↓DL.x_eOr, ↓DL.x_nil, ↓DL.x_seq, ↓DL.x_if, ↓DL.x_ret, ↓DL.x_retN, ↓DL.x_ex, ↓DL.x_bk, ↓DL.x_ct, ↓DL.x_nxS, ↓DL.x_nxN, ↓DL.x_asg, ↓DL.x_tgN, ↓DL.x_setO, ↓DL.x_setS, ↓DL.x_wipe, ↓DL.x_wipeN, ↓DL.x_wipeC, ↓DL.x_tgT, ↓DL.x_tgsN, ↓DL.x_tgsC, ↓DL.x_forN, ↓DL.x_for, ↓DL.x_par, ↓DL.x_parO, ↓DL.x_retV, ↓DL.x_bVo, ↓DL.x_call, ↓DL.x_fnD, ↓DL.x_retO, DL.v_retO, ↓DL.x_retX, ↓DL.x_comp, ↓DL.x_iSeq, ↓DL.x_itL, ↓DL.x_itF, ↓DL.x_itT, ↓DL.x_itS, ↓DL.x_bG, ↓DL.x_rng1, ↓DL.x_bG2, ↓DL.x_rng2, ↓DL.x_enum, ↓DL.x_sqL, ↓DL.x_sqF, ↓DL.x_sqT, ↓DL.x_bMo, ↓DL.x_bMs, ↓DL.x_wrS, ↓DL.x_wrD, ↓DL.x_isLst, ↓DL.x_mutL, ↓DL.x_bTo, ↓DL.x_tgSub, ↓DL.x_join, ↓DL.x_isStr, ↓DL.x_partN, ↓DL.x_partS, ↓DL.x_sl, ↓DL.x_prsN, ↓DL.x_prsC, ↓DL.x_disp, DL.v_addI, DL.v_addS, DL.v_addT, DL.v_addL, DL.v_catL, DL.v_sub, DL.v_mod, DL.v_neg, DL.v_ltI, DL.v_leI, DL.v_gtI, DL.v_geI, DL.v_ltS, DL.v_leS, DL.v_eqS, DL.v_eqI, DL.v_eqB, DL.v_neS, DL.v_neI, DL.v_neB, DL.v_inS, DL.v_ninS, DL.v_isNN, DL.v_isT, DL.v_isL, DL.v_isS, DL.v_isI, DL.v_isB, DL.v_isNot, DL.v_ixL, DL.v_ixF, DL.v_ixT, DL.v_ixS, DL.v_ixK, DL.v_ixKI, DL.v_at0, DL.v_at1, DL.v_at2, DL.v_lenL, DL.v_lenF, DL.v_lenT, DL.v_lenS, DL.v_lenK, DL.v_lstL, DL.v_lstT, DL.v_lstF, DL.v_tupL, DL.v_tupT, DL.v_tupF, DL.v_cutL, DL.v_cutT, DL.v_cutS, DL.v_app, DL.v_ext, DL.v_truN, DL.v_truB, DL.v_truI, DL.v_truT, DL.v_truL, DL.v_truS, DL.v_rep, DL.v_mulS, DL.v_mulI, DL.v_setL, ↓DL.x_bUo, ↓DL.x_cStep, ↓DL.x_compN, ↓DL.x_bHn, ↓DL.x_bHc, ↓DL.x_bHb, ↓DL.x_bHr, ↓DL.x_bHx, ↓DL.x_bHd, ↓DL.x_fStep, ↓DL.x_bX, ↓DL.x_sortSet, ↓DL.x_tgU, ↓DL.x_bJ, ↓DL.x_chain, DL.v_isi, ↓DL.x_bY, ↓DL.x_pop, DL.v_pop, DL.v_inT, DL.v_rev, DL.v_notInT, ↓DL.x_sBad, ↓DL.x_eBad, ↓DL.x_setTx, ↓DL.x_sortSetS, DL.v_revS, DL.v_listXs, DL.v_listXt, DL.v_listXl, ↓DL.x_enumS1, ↓DL.x_enumSt, List.getElem?_cons_zero, List.getElem?_cons_succ, List.set_cons_zero, List.set_cons_succ, h]) (by omega)
  have h2 := allD_map (fun _ : Fac => true) p
  have h3 : (p.all fun _ => true) = true := by simp
  rw [h3] at h2
  simp only [prod_eq] at hc
  simp (disch := first | (simp only [DL.o_non, DL.o_bl, DL.o_int, DL.o_str, DL.o_tup, DL.o_lst, DL.o_fro, DL.o_dct, DL.o_ins, DL.o_fn, List.length_cons, List.length_append, List.length_nil, List.length_singleton]; done) | ((with_reducible refine DL.sz_of ?_); (try simp only [List.length_cons, List.length_append, List.length_map, List.length_nil, List.length_singleton, List.length_take, List.length_drop, List.length_reverse, List.length_replicate]); omega) | (with_reducible assumption)) [den_is_product, c_is_product, q_is_product_1, ↓DL.x_bNs, ↓DL.x_bNn, ↓DL.x_bEo, ↓DL.x_bEx, ↓DL.x_bEb, ↓DL.x_bFo, ↓DL.x_bFx, ↓DL.x_bFb, ↓DL.x_bOs, ↓DL.x_bOn, ↓DL.x_bPs, ↓DL.x_bPn, ↓DL.x_bQn, ↓DL.x_bQr, ↓DL.x_bQb, ↓DL.x_bQc, ↓DL.x_bQx, ↓DL.x_bQd, ↓DL.x_bWn, ↓DL.x_bWr, ↓DL.x_bWb, ↓DL.x_bWc, ↓DL.x_bWx, ↓DL.x_bWd, ↓DL.x_bBb, ↓DL.x_bIi, ↓DL.x_bCo, ↓DL.x_bCx, ↓DL.x_bCb, ↓DL.x_bRr, ↓DL.x_bRn, ↓DL.x_bRx, ↓DL.x_bAv, ↓DL.x_bAw, ↓DL.x_bind, ↓DL.x_ouF, ↓DL.x_C, ↓DL.x_var, ↓DL.x_slV, ↓DL.x_slW, ↓DL.x_aV, ↓DL.x_aE, ↓DL.x_rdS, ↓DL.x_rdD, ↓DL.x_derefO, ↓DL.x_deref, ↓DL.x_getO, ↓DL.x_getV, ↓DL.x_getW, DL.o_non, DL.o_bl, DL.o_int, DL.o_str, DL.o_tup, DL.o_lst, DL.o_fro, DL.o_dct, DL.o_ins, DL.o_fn, ↓DL.x_bin, ↓DL.x_ofS, ↓DL.x_ofN, ↓DL.x_un, ↓DL.x_argsN, ↓DL.x_argsC, ↓DL.x_tup, ↓DL.x_lst, ↓DL.x_rdLN, ↓DL.x_rdLC, ↓DL.x_argsPN, ↓DL.x_argsPC, ↓DL.x_fun, ↓DL.x_tTru, ↓DL.x_tBool, ↓DL.x_tNt, ↓DL.x_tAn, ↓DL.x_tOr, ↓DL.x_tYs, ↓DL.x_eIf, ↓DL.x_eNt, ↓DL.x_eAnd, ↓DL.x_eOr, ↓DL.x_nil, ↓DL.x_seq, ↓DL.x_if, ↓DL.x_ret, ↓DL.x_retN, ↓DL.x_ex, ↓DL.x_bk, ↓DL.x_ct, ↓DL.x_nxS, ↓DL.x_nxN, ↓DL.x_asg, ↓DL.x_tgN, ↓DL.x_setO, ↓DL.x_setS, ↓DL.x_wipe, ↓DL.x_wipeN, ↓DL.x_wipeC, ↓DL.x_tgT, ↓DL.x_tgsN, ↓DL.x_tgsC, ↓DL.x_forN, ↓DL.x_for, ↓DL.x_par, ↓DL.x_parO, ↓DL.x_retV, ↓DL.x_bVo, ↓DL.x_call, ↓DL.x_fnD, ↓DL.x_retO, DL.v_retO, ↓DL.x_retX, ↓DL.x_comp, ↓DL.x_iSeq, ↓DL.x_itL, ↓DL.x_itF, ↓DL.x_itT, ↓DL.x_itS, ↓DL.x_bG, ↓DL.x_rng1, ↓DL.x_bG2, ↓DL.x_rng2, ↓DL.x_enum, ↓DL.x_sqL, ↓DL.x_sqF, ↓DL.x_sqT, ↓DL.x_bMo, ↓DL.x_bMs, ↓DL.x_wrS, ↓DL.x_wrD, ↓DL.x_isLst, ↓DL.x_mutL, ↓DL.x_bTo, ↓DL.x_tgSub, ↓DL.x_join, ↓DL.x_isStr, ↓DL.x_partN, ↓DL.x_partS, ↓DL.x_sl, ↓DL.x_prsN, ↓DL.x_prsC, ↓DL.x_disp, DL.v_addI, DL.v_addS, DL.v_addT, DL.v_addL, DL.v_catL, DL.v_sub, DL.v_mod, DL.v_neg, DL.v_ltI, DL.v_leI, DL.v_gtI, DL.v_geI, DL.v_ltS, DL.v_leS, DL.v_eqS, DL.v_eqI, DL.v_eqB, DL.v_neS, DL.v_neI, DL.v_neB, DL.v_inS, DL.v_ninS, DL.v_isNN, DL.v_isT, DL.v_isL, DL.v_isS, DL.v_isI, DL.v_isB, DL.v_isNot, DL.v_ixL, DL.v_ixF, DL.v_ixT, DL.v_ixS, DL.v_ixK, DL.v_ixKI, DL.v_at0, DL.v_at1, DL.v_at2, DL.v_lenL, DL.v_lenF, DL.v_lenT, DL.v_lenS, DL.v_lenK, DL.v_lstL, DL.v_lstT, DL.v_lstF, DL.v_tupL, DL.v_tupT, DL.v_tupF, DL.v_cutL, DL.v_cutT, DL.v_cutS, DL.v_app, DL.v_ext, DL.v_truN, DL.v_truB, DL.v_truI, DL.v_truT, DL.v_truL, DL.v_truS, DL.v_rep, DL.v_mulS, DL.v_mulI, DL.v_setL, ↓DL.x_bUo, ↓DL.x_cStep, ↓DL.x_compN, ↓DL.x_bHn, ↓DL.x_bHc, ↓DL.x_bHb, ↓DL.x_bHr, ↓DL.x_bHx, ↓DL.x_bHd, ↓DL.x_fStep, ↓DL.x_bX, ↓DL.x_sortSet, ↓DL.x_tgU, ↓DL.x_bJ, ↓DL.x_chain, DL.v_isi, ↓DL.x_bY, ↓DL.x_pop, DL.v_pop, DL.v_inT, DL.v_rev, DL.v_notInT, ↓DL.x_sBad, ↓DL.x_eBad, ↓DL.x_setTx, ↓DL.x_sortSetS, DL.v_revS, DL.v_listXs, DL.v_listXt, DL.v_listXl, ↓DL.x_enumS1, ↓DL.x_enumSt, List.getElem?_cons_zero, List.getElem?_cons_succ, List.set_cons_zero, List.set_cons_succ, prod_eq, isi_tup, hc, h2]
end
end DM
/-! MR: repr of texts of plain signs. -/
namespace DM
noncomputable section
open PySem PySem.Spec PyProof.Rows L2 DL
theorem rchar_ok : ∀ c, c < 128 → (Builtin.Str.reprChar 39 c).all (· < 1114112) = true ∧ (Builtin.Str.reprChar 34 c).all (· < 1114112) = true := by
  have h : (List.range 128).all (fun c => (Builtin.Str.reprChar 39 c).all (· < 1114112) && (Builtin.Str.reprChar 34 c).all (· < 1114112)) = true := by decide +kernel
  intro c hc
  have := List.all_eq_true.mp h c (List.mem_range.mpr hc)
  simpa using this
theorem rfold_ok (q : Nat) (hq : ∀ c, c < 128 → (Builtin.Str.reprChar q c).all (· < 1114112) = true) : ∀ (l : List Nat) (acc : Array Nat), (∀ c ∈ l, c < 128) → acc.toList.all (· < 1114112) = true → ((l.foldl (fun out c => out ++ (Builtin.Str.reprChar q c).toArray) acc)).toList.all (· < 1114112) = true
  | [], acc, _, h => h
  | c :: l, acc, hl, h => by
    rw [List.foldl_cons]
    refine rfold_ok q hq l _ (fun d hd => hl d (List.mem_cons_of_mem _ hd)) ?_
    rw [Array.toList_append, List.all_append, h]
    simpa using hq c (hl c List.mem_cons_self)
theorem rtext_ok {w : List Nat} (h : ∀ c ∈ w, c < 128) : (reprText ⟨w.toArray⟩).cps.toList.all (· < 1114112) = true := by
  unfold reprText
  have e : (reprQuote ⟨w.toArray⟩ = 34) ∨ (reprQuote ⟨w.toArray⟩ = 39) := by
    unfold reprQuote
    split
    · exact .inl rfl
    · exact .inr rfl
  have key : ∀ q, (q = 34 ∨ q = 39) → ((w.toArray.foldl (fun out c => out ++ (Builtin.Str.reprChar q c).toArray) #[q]).push q).toList.all (· < 1114112) = true := by
    intro q hq
    rw [Array.toList_push, List.all_append, ← Array.foldl_toList]
    have h1 : ∀ c, c < 128 → (Builtin.Str.reprChar q c).all (· < 1114112) = true := fun c hc => by
      rcases hq with rfl | rfl
      · exact (rchar_ok c hc).2
      · exact (rchar_ok c hc).1
    have h2 : q < 1114112 := by rcases hq with rfl | rfl <;> decide
    rw [rfold_ok q h1 w _ h (by simpa using h2)]
    simpa using h2
  exact key _ e
/-- repr of a text of plain signs -/
def reprS (w : List Nat) : List Nat := (reprText ⟨w.toArray⟩).cps.toList
theorem reprD_s {w : List Nat} (h : ∀ c ∈ w, c < 128) (hl : w.length ≤ 1000000) : reprD [.str w] = some (.str (reprS w)) := by
  show (shownOf (.str w)).map D.str = _
  unfold shownOf
  dsimp only
  rw [if_pos ⟨by rw [sizeLine_eq]; omega, rtext_ok h⟩]
  rfl
end
end DM
/-! ML: sorted(set(text)); things that are no texts. -/
namespace DM
noncomputable section
open PySem PySem.Spec PyProof.Rows L2 DL
theorem adj_iff : ∀ (w : List Nat), (adj w).all id = true ↔ w.Pairwise (· < ·)
  | [] => by simp [adj]
  | [_] => by simp [adj]
  | a :: b :: r => by
    refine ⟨fun h => ?_, adj_all _⟩
    have e : (adj (a :: b :: r)).all id = (decide (a < b) && (adj (b :: r)).all id) := rfl
    rw [e, Bool.and_eq_true] at h
    have h2 := (adj_iff (b :: r)).mp h.2
    have h1 : a < b := by simpa using h.1
    refine List.pairwise_cons.mpr ⟨fun z hz => ?_, h2⟩
    rcases List.mem_cons.mp hz with rfl | hz
    · exact h1
    · exact Nat.lt_trans h1 ((List.pairwise_cons.mp h2).1 z hz)
theorem sing_lt {a b : Nat} : ([a] < [b]) ↔ a < b := by
  constructor
  · intro h
    rcases List.cons_lt_cons_iff.mp h with h | ⟨_, h⟩
    · exact h
    · exact absurd h (List.lt_irrefl _)
  · exact fun h => List.cons_lt_cons_iff.mpr (.inl h)
theorem sing_flat : ∀ (l : List (List Nat)), (∀ x ∈ l, ∃ c, x = [c]) → l.Pairwise (· < ·) → l.flatten.Pairwise (· < ·) ∧ ∀ c ∈ l.flatten, [c] ∈ l
  | [], _, _ => ⟨List.Pairwise.nil, by simp⟩
  | x :: l, h, pw => by
    obtain ⟨p1, p2⟩ := List.pairwise_cons.mp pw
    obtain ⟨i2, i3⟩ := sing_flat l (fun y hy => h y (List.mem_cons_of_mem _ hy)) p2
    obtain ⟨c, rfl⟩ := h x List.mem_cons_self
    refine ⟨?_, fun d hd => ?_⟩
    · simp only [List.flatten_cons, List.cons_append, List.nil_append]
      exact List.pairwise_cons.mpr ⟨fun d hd => sing_lt.mp (p1 _ (i3 d hd)), i2⟩
    · simp only [List.flatten_cons, List.cons_append, List.nil_append] at hd
      rcases List.mem_cons.mp hd with rfl | hd
      · exact List.mem_cons_self
      · exact List.mem_cons_of_mem _ (i3 d hd)
theorem flat_sing : ∀ w : List Nat, (w.map fun c => [c]).flatten = w
  | [] => rfl
  | c :: w => by simp [flat_sing w]
theorem sortC_iff (w : List Nat) : (sortC w).flatten = w ↔ w.Pairwise (· < ·) := by
  constructor
  · intro h
    rw [← h]
    refine (sing_flat _ (fun x hx => ?_) (asc_sortU _)).1
    obtain ⟨c, _, e⟩ := List.mem_map.mp (mem_sortU.mp hx)
    exact ⟨c, e.symm⟩
  · intro h
    have e : sortC w = w.map fun c => [c] := by
      refine asc_ext (asc_sortU _) ?_ fun z => mem_sortU
      rw [List.pairwise_map]
      exact h.imp fun h => sing_lt.mpr h
    rw [e, flat_sing]
theorem sortC_len (w : List Nat) : (sortC w).length ≤ w.length := by
  unfold sortC
  have := sortU_len (w.map fun c => [c])
  simpa using this
theorem flat_len : ∀ (l : List (List Nat)), (∀ x ∈ l, ∃ c, x = [c]) → l.flatten.length = l.length
  | [], _ => rfl
  | x :: l, h => by
    obtain ⟨c, rfl⟩ := h x List.mem_cons_self
    simp [flat_len l fun y hy => h y (List.mem_cons_of_mem _ hy)]
theorem sortC_flat (w : List Nat) : (sortC w).flatten.length ≤ w.length := by
  rw [flat_len]
  · exact sortC_len w
  · intro x hx
    obtain ⟨c, _, e⟩ := List.mem_map.mp (mem_sortU.mp hx)
    exact ⟨c, e.symm⟩
/-- no text -/
def NoS (d : D) : Prop := isi1 "str" d = some (.bl false)
theorem noS_lst (xs : List D) : NoS (.lst xs) := v_isi _ _ "list" false rfl (by kernel_rfl)
theorem noS_tup (xs : List D) : NoS (.tup xs) := v_isi _ _ "tuple" false rfl (by kernel_rfl)
theorem noS_non : NoS .non := v_isi _ _ "NoneType" false rfl (by kernel_rfl)
theorem noS_bl (b : Bool) : NoS (.bl b) := v_isi _ _ "bool" false rfl (by kernel_rfl)
theorem noS_int (b : Int) : NoS (.int b) := v_isi _ _ "int" false rfl (by kernel_rfl)
theorem noS_dct (b : List (D × D)) : NoS (.dct .K b) := v_isi _ _ "dict" false rfl (by kernel_rfl)
/-- no tuple -/
def NoT (d : D) : Prop := isi1 "tuple" d = some (.bl false)
theorem noT_lst (xs : List D) : NoT (.lst xs) := v_isi _ _ "list" false rfl (by kernel_rfl)
theorem noT_str (xs : List Nat) : NoT (.str xs) := v_isi _ _ "str" false rfl (by kernel_rfl)
theorem noT_non : NoT .non := v_isi _ _ "NoneType" false rfl (by kernel_rfl)
theorem noT_bl (b : Bool) : NoT (.bl b) := v_isi _ _ "bool" false rfl (by kernel_rfl)
theorem noT_int (b : Int) : NoT (.int b) := v_isi _ _ "int" false rfl (by kernel_rfl)
theorem noT_dct (b : List (D × D)) : NoT (.dct .K b) := v_isi _ _ "dict" false rfl (by kernel_rfl)
theorem cut_to {α : Type} (xs : List α) (i : Nat) : cutL xs none (some (i : Int)) = xs.take i := by
  unfold cutL
  rw [HT.sIx_nat, HT.sIx_none]
  simp
theorem join_sortC (w : List Nat) (hw : w.length ≤ 1000) : joinD (.str []) (.lst ((sortC w).map .str)) = some (.str (sortC w).flatten) := join_ok (sortC w) 1 (fun y hy => by
    obtain ⟨c, _, e⟩ := List.mem_map.mp (mem_sortU.mp hy)
    rw [← e]; simp) (by have := sortC_len w; omega)
end
end DM
/-! MT: the least positions of a subword; repr of a tuple of small ints. -/
namespace DM
noncomputable section
open PySem PySem.Spec PyProof.Rows L2 DL
def posL : List Nat → List Nat → Nat → Option (List Nat)
  | [], _, _ => some []
  | _ :: _, [], _ => none
  | c :: w, d :: u, i => if c = d then (posL w u (i + 1)).map (i :: ·) else posL (c :: w) u (i + 1)
theorem posL_nil (u : List Nat) (i : Nat) : posL [] u i = some [] := by cases u <;> rfl
theorem posL_sub : ∀ (w u : List Nat) (i : Nat), (posL w u i).isSome = isSub w u
  | [], [], _ => rfl
  | [], _ :: u, i => by
    have := posL_sub [] u i
    rw [posL_nil] at this ⊢
    unfold isSub at this ⊢
    rw [resid]
    exact this
  | _ :: _, [], _ => rfl
  | c :: w, d :: u, i => by
    unfold isSub
    rw [posL, resid]
    by_cases h : c = d
    · rw [if_pos h, if_pos h]
      have := posL_sub w u (i + 1)
      unfold isSub at this
      rw [← this]
      cases posL w u (i + 1) <;> rfl
    · rw [if_neg h, if_neg h]
      exact posL_sub (c :: w) u (i + 1)
theorem posL_bd : ∀ (w u : List Nat) (i : Nat) (ns : List Nat), posL w u i = some ns → ns.length = w.length ∧ ∀ n ∈ ns, n < i + u.length
  | [], u, i, ns, h => by
    rw [posL_nil] at h
    cases h
    exact ⟨rfl, by simp⟩
  | _ :: _, [], _, _, h => by cases h
  | c :: w, d :: u, i, ns, h => by
    rw [posL] at h
    by_cases hc : c = d
    · rw [if_pos hc] at h
      cases e : posL w u (i + 1) with
      | none => rw [e] at h; cases h
      | some ms =>
        rw [e] at h
        cases h
        obtain ⟨h1, h2⟩ := posL_bd w u (i + 1) ms e
        refine ⟨by simp [h1], fun n hn => ?_⟩
        simp only [List.length_cons]
        rcases List.mem_cons.mp hn with rfl | hn
        · omega
        · have := h2 n hn; omega
    · rw [if_neg hc] at h
      obtain ⟨h1, h2⟩ := posL_bd (c :: w) u (i + 1) ns h
      refine ⟨h1, fun n hn => ?_⟩
      have := h2 n hn
      simp only [List.length_cons]
      omega
def natD (n : Nat) : D := .int (n : Int)
/-- None or the tuple of the positions -/
def posD : Option (List Nat) → D
  | none => .non
  | some ns => .tup (ns.map natD)
section
variable {S : List D} {w U : List Nat}
def fpS (w U fs : List Nat) (S : List D) : Sts := ⟨[.val (.str w), .val (.str U), .own (.lst (fs.map natD)), .un, .un], S⟩
theorem fp_loop (hw : w.length ≤ 1000) : ∀ (u : List Nat) (i : Nat) (fs : List Nat), fs.length ≤ w.length →
    ∃ gs, forL (tgT [(tgN 3), (tgN 4)]) b_first_positions_1 (enumF i (charsD u)) (fpS w U fs S) = .nx (fpS w U gs S) ∧ gs.length ≤ w.length ∧ (if gs.length = w.length then some gs else none) = (posL (w.drop fs.length) u i).map (fs ++ ·) := by
  intro u
  induction u with
  | nil =>
    intro i fs hf
    refine ⟨fs, by simp [charsD, enumF, forL], hf, ?_⟩
    by_cases h : fs.length = w.length
    · rw [if_pos h, List.drop_of_length_le (by omega), posL_nil]
      simp
    · rw [if_neg h]
      cases e : w.drop fs.length with
      | nil =>
        have := List.drop_eq_nil_iff.mp e
        omega
      | cons c r => rfl
  | cons d u ih =>
    intro i fs hf
    by_cases h : fs.length < w.length
    · have hg : w[fs.length]? = some w[fs.length] := by simp
      have at1 : L2.atI w ((fs.length : Nat) : Int) = some w[fs.length] := L2.atI_nat hg
      have hdr : w.drop fs.length = w[fs.length] :: w.drop (fs.length + 1) := List.drop_eq_getElem_cons h
      generalize w[fs.length] = c at at1 hdr
      have hlt : (fs.length : Int) < (w.length : Int) := by omega
      by_cases hc : c = d
      · subst hc
        obtain ⟨gs, e, g1, g2⟩ := ih (i + 1) (fs ++ [i]) (by simp; omega)
        refine ⟨gs, ?_, g1, ?_⟩
        · have step : fStep (tgT [(tgN 3), (tgN 4)]) b_first_positions_1 (.tup [.int (i : Nat), .str [c]]) (fpS w U fs S) = .nx (fpS w U (fs ++ [i]) S) := by
            have hm : (fs ++ [i]).map natD = fs.map natD ++ [.int (i : Int)] := by simp [natD]
            simp only [fpS, hm]
            generalize hX : fs.map natD = X
            have hl : X.length = fs.length := by rw [← hX]; simp
            have hX1 : X.length ≤ 1000 := by omega
            rw [← hl] at at1 hlt
            have hlt2 : X.length < w.length := by omega
            simp (disch := first | (simp only [DL.o_non, DL.o_bl, DL.o_int, DL.o_str, DL.o_tup, DL.o_lst, DL.o_fro, DL.o_dct, DL.o_ins, DL.o_fn, List.length_cons, List.length_append, List.length_nil, List.length_singleton]; done) | ((with_reducible refine DL.sz_of ?_); (try simp only [List.length_cons, List.length_append, List.length_map, List.length_nil, List.length_singleton, List.length_take, List.length_drop, List.length_reverse, List.length_replicate]); omega) | (with_reducible assumption)) [↓DL.x_bNs, ↓DL.x_bNn, ↓DL.x_bEo, ↓DL.x_bEx, ↓DL.x_bEb, ↓DL.x_bFo, ↓DL.x_bFx, ↓DL.x_bFb, ↓DL.x_bOs, ↓DL.x_bOn, ↓DL.x_bPs, ↓DL.x_bPn, ↓DL.x_bQn, ↓DL.x_bQr, ↓DL.x_bQb, ↓DL.x_bQc, ↓DL.x_bQx, ↓DL.x_bQd, ↓DL.x_bWn, ↓DL.x_bWr, ↓DL.x_bWb, ↓DL.x_bWc, ↓DL.x_bWx, ↓DL.x_bWd, ↓DL.x_bBb, ↓DL.x_bIi, ↓DL.x_bCo, ↓DL.x_bCx, ↓DL.x_bCb, ↓DL.x_bRr, ↓DL.x_bRn, ↓DL.x_bRx, ↓DL.x_bAv, ↓DL.x_bAw, ↓DL.x_bind, ↓DL.x_ouF, ↓DL.x_C, ↓DL.x_var, ↓DL.x_slV, ↓DL.x_slW, ↓DL.x_aV, ↓DL.x_aE, ↓DL.x_rdS, ↓DL.x_rdD, ↓DL.x_derefO, ↓DL.x_deref, ↓DL.x_getO, ↓DL.x_getV, ↓DL.x_getW, DL.o_non, DL.o_bl, DL.o_int, DL.o_str, DL.o_tup, DL.o_lst, DL.o_fro, DL.o_dct, DL.o_ins, DL.o_fn, ↓DL.x_bin, ↓DL.x_ofS, ↓DL.x_ofN, ↓DL.x_un, ↓DL.x_argsN, ↓DL.x_argsC, ↓DL.x_tup, ↓DL.x_lst, ↓DL.x_rdLN, ↓DL.x_rdLC, ↓DL.x_argsPN, ↓DL.x_argsPC, ↓DL.x_fun, ↓DL.x_tTru, ↓DL.x_tBool, ↓DL.x_tNt, ↓DL.x_tAn, ↓DL.x_tOr, ↓DL.x_tYs, ↓DL.x_eIf, ↓DL.x_eNt, ↓DL.x_eAnd, ↓DL.x_eOr, ↓DL.x_nil, ↓DL.x_seq, ↓DL.x_if, ↓DL.x_ret, ↓DL.x_retN, ↓DL.x_ex, ↓DL.x_bk, ↓DL.x_ct, ↓DL.x_nxS, ↓DL.x_nxN, ↓DL.x_asg, ↓DL.x_tgN, ↓DL.x_setO, ↓DL.x_setS, ↓DL.x_wipe, ↓DL.x_wipeN, ↓DL.x_wipeC, ↓DL.x_tgT, ↓DL.x_tgsN, ↓DL.x_tgsC, ↓DL.x_forN, ↓DL.x_for, ↓DL.x_par, ↓DL.x_parO, ↓DL.x_retV, ↓DL.x_bVo, ↓DL.x_call, ↓DL.x_fnD, ↓DL.x_retO, DL.v_retO, ↓DL.x_retX, ↓DL.x_comp, ↓DL.x_iSeq, ↓DL.x_itL, ↓DL.x_itF, ↓DL.x_itT, ↓DL.x_itS, ↓DL.x_bG, ↓DL.x_rng1, ↓DL.x_bG2, ↓DL.x_rng2, ↓DL.x_enum, ↓DL.x_sqL, ↓DL.x_sqF, ↓DL.x_sqT, ↓DL.x_bMo, ↓DL.x_bMs, ↓DL.x_wrS, ↓DL.x_wrD, ↓DL.x_isLst, ↓DL.x_mutL, ↓DL.x_bTo, ↓DL.x_tgSub, ↓DL.x_join, ↓DL.x_isStr, ↓DL.x_partN, ↓DL.x_partS, ↓DL.x_sl, ↓DL.x_prsN, ↓DL.x_prsC, ↓DL.x_disp, DL.v_addI, DL.v_addS, DL.v_addT, DL.v_addL, DL.v_catL, DL.v_sub, DL.v_mod, DL.v_neg, DL.v_ltI, DL.v_leI, DL.v_gtI, DL.v_geI, DL.v_ltS, DL.v_leS, DL.v_eqS, DL.v_eqI, DL.v_eqB, DL.v_neS, DL.v_neI, DL.v_neB, DL.v_inS, DL.v_ninS, DL.v_isNN, DL.v_isT, DL.v_isL, DL.v_isS, DL.v_isI, DL.v_isB, DL.v_isNot, DL.v_ixL, DL.v_ixF, DL.v_ixT, DL.v_ixS, DL.v_ixK, DL.v_ixKI, DL.v_at0, DL.v_at1, DL.v_at2, DL.v_lenL, DL.v_lenF, DL.v_lenT, DL.v_lenS, DL.v_lenK, DL.v_lstL, DL.v_lstT, DL.v_lstF, DL.v_tupL, DL.v_tupT, DL.v_tupF, DL.v_cutL, DL.v_cutT, DL.v_cutS, DL.v_app, DL.v_ext, DL.v_truN, DL.v_truB, DL.v_truI, DL.v_truT, DL.v_truL, DL.v_truS, DL.v_rep, DL.v_mulS, DL.v_mulI, DL.v_setL, ↓DL.x_bUo, ↓DL.x_cStep, ↓DL.x_compN, ↓DL.x_bHn, ↓DL.x_bHc, ↓DL.x_bHb, ↓DL.x_bHr, ↓DL.x_bHx, ↓DL.x_bHd, ↓DL.x_fStep, ↓DL.x_bX, ↓DL.x_sortSet, ↓DL.x_tgU, ↓DL.x_bJ, ↓DL.x_chain, DL.v_isi, ↓DL.x_bY, ↓DL.x_pop, DL.v_pop, DL.v_inT, DL.v_rev, DL.v_notInT, ↓DL.x_sBad, ↓DL.x_eBad, ↓DL.x_setTx, ↓DL.x_sortSetS, DL.v_revS, DL.v_listXs, DL.v_listXt, DL.v_listXl, ↓DL.x_enumS1, ↓DL.x_enumSt, List.getElem?_cons_zero, List.getElem?_cons_succ, List.set_cons_zero, List.set_cons_succ, b_first_positions_1, at1, hlt, hlt2]
          show forL _ _ (.tup [.int (i : Nat), .str [c]] :: enumF (i + 1) (charsD u)) _ = _
          rw [forL_step, step]
          exact e
        · rw [g2, hdr, posL, if_pos rfl]
          simp only [List.length_append, List.length_singleton]
          cases posL (w.drop (fs.length + 1)) u (i + 1) <;> simp
      · obtain ⟨gs, e, g1, g2⟩ := ih (i + 1) fs hf
        refine ⟨gs, ?_, g1, ?_⟩
        · have step : fStep (tgT [(tgN 3), (tgN 4)]) b_first_positions_1 (.tup [.int (i : Nat), .str [d]]) (fpS w U fs S) = .nx (fpS w U fs S) := by
            simp only [fpS]
            generalize hX : fs.map natD = X
            have hl : X.length = fs.length := by rw [← hX]; simp
            rw [← hl] at at1 hlt
            have hlt2 : X.length < w.length := by omega
            simp (disch := first | (simp only [DL.o_non, DL.o_bl, DL.o_int, DL.o_str, DL.o_tup, DL.o_lst, DL.o_fro, DL.o_dct, DL.o_ins, DL.o_fn, List.length_cons, List.length_append, List.length_nil, List.length_singleton]; done) | ((with_reducible refine DL.sz_of ?_); (try simp only [List.length_cons, List.length_append, List.length_map, List.length_nil, List.length_singleton, List.length_take, List.length_drop, List.length_reverse, List.length_replicate]); omega) | (with_reducible assumption)) [↓DL.x_bNs, ↓DL.x_bNn, ↓DL.x_bEo, ↓DL.x_bEx, ↓DL.x_bEb, ↓DL.x_bFo, ↓DL.x_bFx, ↓DL.x_bFb, ↓DL.x_bOs, ↓DL.x_bOn, ↓DL.x_bPs, ↓DL.x_bPn, ↓DL.x_bQn, ↓DL.x_bQr, ↓DL.x_bQb, ↓DL.x_bQc, ↓DL.x_bQx, ↓DL.x_bQd, ↓DL.x_bWn, ↓DL.x_bWr, ↓DL.x_bWb, ↓DL.x_bWc, ↓DL.x_bWx, ↓DL.x_bWd, ↓DL.x_bBb, ↓DL.x_bIi, ↓DL.x_bCo, ↓DL.x_bCx, ↓DL.x_bCb, ↓DL.x_bRr, ↓DL.x_bRn, ↓DL.x_bRx, ↓DL.x_bAv, ↓DL.x_bAw, ↓DL.x_bind, ↓DL.x_ouF, ↓DL.x_C, ↓DL.x_var, ↓DL.x_slV, ↓DL.x_slW, ↓DL.x_aV, ↓DL.x_aE, ↓DL.x_rdS, ↓DL.x_rdD, ↓DL.x_derefO, ↓DL.x_deref, ↓DL.x_getO, ↓DL.x_getV, ↓DL.x_getW, DL.o_non, DL.o_bl, DL.o_int, DL.o_str, DL.o_tup, DL.o_lst, DL.o_fro, DL.o_dct, DL.o_ins, DL.o_fn, ↓DL.x_bin, ↓DL.x_ofS, ↓DL.x_ofN, ↓DL.x_un, ↓DL.x_argsN, ↓DL.x_argsC, ↓DL.x_tup, ↓DL.x_lst, ↓DL.x_rdLN, ↓DL.x_rdLC, ↓DL.x_argsPN, ↓DL.x_argsPC, ↓DL.x_fun, ↓DL.x_tTru, ↓DL.x_tBool, ↓DL.x_tNt, ↓DL.x_tAn, ↓DL.x_tOr, ↓DL.x_tYs, ↓DL.x_eIf, ↓DL.x_eNt, ↓DL.x_eAnd, ↓DL.x_eOr, ↓DL.x_nil, ↓DL.x_seq, ↓DL.x_if, ↓DL.x_ret, ↓DL.x_retN, ↓DL.x_ex, ↓DL.x_bk, ↓DL.x_ct, ↓DL.x_nxS, ↓DL.x_nxN, ↓DL.x_asg, ↓DL.x_tgN, ↓DL.x_setO, ↓DL.x_setS, ↓DL.x_wipe, ↓DL.x_wipeN, ↓DL.x_wipeC, ↓DL.x_tgT, ↓DL.x_tgsN, ↓DL.x_tgsC, ↓DL.x_forN, ↓DL.x_for, ↓DL.x_par, ↓DL.x_parO, ↓DL.x_retV, ↓DL.x_bVo, ↓DL.x_call, ↓DL.x_fnD, ↓DL.x_retO, DL.v_retO, ↓DL.x_retX, ↓DL.x_comp, ↓DL.x_iSeq, ↓DL.x_itL, ↓DL.x_itF, ↓DL.x_itT, ↓DL.x_itS, ↓DL.x_bG, ↓DL.x_rng1, ↓DL.x_bG2, ↓DL.x_rng2, ↓DL.x_enum, ↓DL.x_sqL, ↓DL.x_sqF, ↓DL.x_sqT, ↓DL.x_bMo, ↓DL.x_bMs, ↓DL.x_wrS, ↓DL.x_wrD, ↓DL.x_isLst, ↓DL.x_mutL, ↓DL.x_bTo, ↓DL.x_tgSub, ↓DL.x_join, ↓DL.x_isStr, ↓DL.x_partN, ↓DL.x_partS, ↓DL.x_sl, ↓DL.x_prsN, ↓DL.x_prsC, ↓DL.x_disp, DL.v_addI, DL.v_addS, DL.v_addT, DL.v_addL, DL.v_catL, DL.v_sub, DL.v_mod, DL.v_neg, DL.v_ltI, DL.v_leI, DL.v_gtI, DL.v_geI, DL.v_ltS, DL.v_leS, DL.v_eqS, DL.v_eqI, DL.v_eqB, DL.v_neS, DL.v_neI, DL.v_neB, DL.v_inS, DL.v_ninS, DL.v_isNN, DL.v_isT, DL.v_isL, DL.v_isS, DL.v_isI, DL.v_isB, DL.v_isNot, DL.v_ixL, DL.v_ixF, DL.v_ixT, DL.v_ixS, DL.v_ixK, DL.v_ixKI, DL.v_at0, DL.v_at1, DL.v_at2, DL.v_lenL, DL.v_lenF, DL.v_lenT, DL.v_lenS, DL.v_lenK, DL.v_lstL, DL.v_lstT, DL.v_lstF, DL.v_tupL, DL.v_tupT, DL.v_tupF, DL.v_cutL, DL.v_cutT, DL.v_cutS, DL.v_app, DL.v_ext, DL.v_truN, DL.v_truB, DL.v_truI, DL.v_truT, DL.v_truL, DL.v_truS, DL.v_rep, DL.v_mulS, DL.v_mulI, DL.v_setL, ↓DL.x_bUo, ↓DL.x_cStep, ↓DL.x_compN, ↓DL.x_bHn, ↓DL.x_bHc, ↓DL.x_bHb, ↓DL.x_bHr, ↓DL.x_bHx, ↓DL.x_bHd, ↓DL.x_fStep, ↓DL.x_bX, ↓DL.x_sortSet, ↓DL.x_tgU, ↓DL.x_bJ, ↓DL.x_chain, DL.v_isi, ↓DL.x_bY, ↓DL.x_pop, DL.v_pop, DL.v_inT, DL.v_rev, DL.v_notInT, ↓DL.x_sBad, ↓DL.x_eBad, ↓DL.x_setTx, ↓DL.x_sortSetS, DL.v_revS, DL.v_listXs, DL.v_listXt, DL.v_listXl, ↓DL.x_enumS1, ↓DL.x_enumSt, List.getElem?_cons_zero, List.getElem?_cons_succ, List.set_cons_zero, List.set_cons_succ, b_first_positions_1, at1, hlt, hlt2, hc]
          show forL _ _ (.tup [.int (i : Nat), .str [d]] :: enumF (i + 1) (charsD u)) _ = _
          rw [forL_step, step]
          exact e
        · rw [g2, hdr, posL, if_neg hc]
    · obtain ⟨gs, e, g1, g2⟩ := ih (i + 1) fs hf
      refine ⟨gs, ?_, g1, ?_⟩
      · have step : fStep (tgT [(tgN 3), (tgN 4)]) b_first_positions_1 (.tup [.int (i : Nat), .str [d]]) (fpS w U fs S) = .nx (fpS w U fs S) := by
          simp only [fpS]
          generalize hX : fs.map natD = X
          have hl : X.length = fs.length := by rw [← hX]; simp
          have hlt2 : ¬ X.length < w.length := by omega
          have hlt : ¬ (X.length : Int) < (w.length : Int) := by omega
          simp (disch := first | (simp only [DL.o_non, DL.o_bl, DL.o_int, DL.o_str, DL.o_tup, DL.o_lst, DL.o_fro, DL.o_dct, DL.o_ins, DL.o_fn, List.length_cons, List.length_append, List.length_nil, List.length_singleton]; done) | ((with_reducible refine DL.sz_of ?_); (try simp only [List.length_cons, List.length_append, List.length_map, List.length_nil, List.length_singleton, List.length_take, List.length_drop, List.length_reverse, List.length_replicate]); omega) | (with_reducible assumption)) [↓DL.x_bNs, ↓DL.x_bNn, ↓DL.x_bEo, ↓DL.x_bEx, ↓DL.x_bEb, ↓DL.x_bFo, ↓DL.x_bFx, ↓DL.x_bFb, ↓DL.x_bOs, ↓DL.x_bOn, ↓DL.x_bPs, ↓DL.x_bPn, ↓DL.x_bQn, ↓DL.x_bQr, ↓DL.x_bQb, ↓DL.x_bQc, ↓DL.x_bQx, ↓DL.x_bQd, ↓DL.x_bWn, ↓DL.x_bWr, ↓DL.x_bWb, ↓DL.x_bWc, ↓DL.x_bWx, ↓DL.x_bWd, ↓DL.x_bBb, ↓DL.x_bIi, ↓DL.x_bCo, ↓DL.x_bCx, ↓DL.x_bCb, ↓DL.x_bRr, ↓DL.x_bRn, ↓DL.x_bRx, ↓DL.x_bAv, ↓DL.x_bAw, ↓DL.x_bind, ↓DL.x_ouF, ↓DL.x_C, ↓DL.x_var, ↓DL.x_slV, ↓DL.x_slW, ↓DL.x_aV, ↓DL.x_aE, ↓DL.x_rdS, ↓DL.x_rdD, ↓DL.x_derefO, ↓DL.x_deref, ↓DL.x_getO, ↓DL.x_getV, ↓DL.x_getW, DL.o_non, DL.o_bl, DL.o_int, DL.o_str, DL.o_tup, DL.o_lst, DL.o_fro, DL.o_dct, DL.o_ins, DL.o_fn, ↓DL.x_bin, ↓DL.x_ofS, ↓DL.x_ofN, ↓DL.x_un, ↓DL.x_argsN, ↓DL.x_argsC, ↓DL.x_tup, ↓DL.x_lst, ↓DL.x_rdLN, ↓DL.x_rdLC, ↓DL.x_argsPN, ↓DL.x_argsPC, ↓DL.x_fun, ↓DL.x_tTru, ↓DL.x_tBool, ↓DL.x_tNt, ↓DL.x_tAn, ↓DL.x_tOr, ↓DL.x_tYs, ↓DL.x_eIf, ↓DL.x_eNt, ↓DL.x_eAnd, ↓DL.x_eOr, ↓DL.x_nil, ↓DL.x_seq, ↓DL.x_if, ↓DL.x_ret, ↓DL.x_retN, ↓DL.x_ex, ↓DL.x_bk, ↓DL.x_ct, ↓DL.x_nxS, ↓DL.x_nxN, ↓DL.x_asg, ↓DL.x_tgN, ↓DL.x_setO, ↓DL.x_setS, ↓DL.x_wipe, ↓DL.x_wipeN, ↓DL.x_wipeC, ↓DL.x_tgT, ↓DL.x_tgsN, ↓DL.x_tgsC, ↓DL.x_forN, ↓DL.x_for, ↓DL.x_par, ↓DL.x_parO, ↓DL.x_retV, ↓DL.x_bVo, ↓DL.x_call, ↓DL.x_fnD, ↓DL.x_retO, DL.v_retO, ↓DL.x_retX, ↓DL.x_comp, ↓DL.x_iSeq, ↓DL.x_itL, ↓DL.x_itF, ↓DL.x_itT, ↓DL.x_itS, ↓DL.x_bG, ↓DL.x_rng1, ↓DL.x_bG2, ↓DL.x_rng2, ↓DL.x_enum, ↓DL.x_sqL, ↓DL.x_sqF, ↓DL.x_sqT, ↓DL.x_bMo, ↓DL.x_bMs, ↓DL.x_wrS, ↓DL.x_wrD, ↓DL.x_isLst, ↓DL.x_mutL, ↓DL.x_bTo, ↓DL.x_tgSub, ↓DL.x_join, ↓DL.x_isStr, ↓DL.x_partN, ↓DL.x_partS, ↓DL.x_sl, ↓DL.x_prsN, ↓DL.x_prsC, ↓DL.x_disp, DL.v_addI, DL.v_addS, DL.v_addT, DL.v_addL, DL.v_catL, DL.v_sub, DL.v_mod, DL.v_neg, DL.v_ltI, DL.v_leI, DL.v_gtI, DL.v_geI, DL.v_ltS, DL.v_leS, DL.v_eqS, DL.v_eqI, DL.v_eqB, DL.v_neS, DL.v_neI, DL.v_neB, DL.v_inS, DL.v_ninS, DL.v_isNN, DL.v_isT, DL.v_isL, DL.v_isS, DL.v_isI, DL.v_isB, DL.v_isNot, DL.v_ixL, DL.v_ixF, DL.v_ixT, DL.v_ixS, DL.v_ixK, DL.v_ixKI, DL.v_at0, DL.v_at1, DL.v_at2, DL.v_lenL, DL.v_lenF, DL.v_lenT, DL.v_lenS, DL.v_lenK, DL.v_lstL, DL.v_lstT, DL.v_lstF, DL.v_tupL, DL.v_tupT, DL.v_tupF, DL.v_cutL, DL.v_cutT, DL.v_cutS, DL.v_app, DL.v_ext, DL.v_truN, DL.v_truB, DL.v_truI, DL.v_truT, DL.v_truL, DL.v_truS, DL.v_rep, DL.v_mulS, DL.v_mulI, DL.v_setL, ↓DL.x_bUo, ↓DL.x_cStep, ↓DL.x_compN, ↓DL.x_bHn, ↓DL.x_bHc, ↓DL.x_bHb, ↓DL.x_bHr, ↓DL.x_bHx, ↓DL.x_bHd, ↓DL.x_fStep, ↓DL.x_bX, ↓DL.x_sortSet, ↓DL.x_tgU, ↓DL.x_bJ, ↓DL.x_chain, DL.v_isi, ↓DL.x_bY, ↓DL.x_pop, DL.v_pop, DL.v_inT, DL.v_rev, DL.v_notInT, ↓DL.x_sBad, ↓DL.x_eBad, ↓DL.x_setTx, ↓DL.x_sortSetS, DL.v_revS, DL.v_listXs, DL.v_listXt, DL.v_listXl, ↓DL.x_enumS1, ↓DL.x_enumSt, List.getElem?_cons_zero, List.getElem?_cons_succ, List.set_cons_zero, List.set_cons_succ, b_first_positions_1, hlt, hlt2]
        show forL _ _ (.tup [.int (i : Nat), .str [d]] :: enumF (i + 1) (charsD u)) _ = _
        rw [forL_step, step]
        exact e
      · rw [g2, List.drop_of_length_le (by omega), posL_nil, posL_nil]
theorem first_ok (w U : List Nat) (S : List D) (hw : w.length ≤ 1000) (hU : U.length ≤ 1000) : den_first_positions [.str w, .str U] S = .ok (posD (posL w U 0)) S := by
  obtain ⟨gs, e, g1, g2⟩ := fp_loop (S := S) (w := w) (U := U) hw U 0 [] (by simp)
  simp only [List.length_nil, List.drop_zero, List.nil_append, Option.map_id'] at g2
  rw [← g2]
  simp only [fpS, List.map_nil] at e
  have hl : (gs.map natD).length = gs.length := by simp
  by_cases h : gs.length = w.length
  · rw [if_pos h]
    have hi : (gs.length : Int) = (w.length : Int) := by omega
    show _ = Fo.ok (.tup (gs.map natD)) S
    generalize gs.map natD = X at e hl
    rw [← hl] at hi
    simp (disch := first | (simp only [DL.o_non, DL.o_bl, DL.o_int, DL.o_str, DL.o_tup, DL.o_lst, DL.o_fro, DL.o_dct, DL.o_ins, DL.o_fn, List.length_cons, List.length_append, List.length_nil, List.length_singleton]; done) | ((with_reducible refine DL.sz_of ?_); (try simp only [List.length_cons, List.length_append, List.length_map, List.length_nil, List.length_singleton, List.length_take, List.length_drop, List.length_reverse, List.length_replicate]); omega) | (with_reducible assumption)) [den_first_positions, c_first_positions, ↓DL.x_bNs, ↓DL.x_bNn, ↓DL.x_bEo, ↓DL.x_bEx, ↓DL.x_bEb, ↓DL.x_bFo, ↓DL.x_bFx, ↓DL.x_bFb, ↓DL.x_bOs, ↓DL.x_bOn, ↓DL.x_bPs, ↓DL.x_bPn, ↓DL.x_bQn, ↓DL.x_bQr, ↓DL.x_bQb, ↓DL.x_bQc, ↓DL.x_bQx, ↓DL.x_bQd, ↓DL.x_bWn, ↓DL.x_bWr, ↓DL.x_bWb, ↓DL.x_bWc, ↓DL.x_bWx, ↓DL.x_bWd, ↓DL.x_bBb, ↓DL.x_bIi, ↓DL.x_bCo, ↓DL.x_bCx, ↓DL.x_bCb, ↓DL.x_bRr, ↓DL.x_bRn, ↓DL.x_bRx, ↓DL.x_bAv, ↓DL.x_bAw, ↓DL.x_bind, ↓DL.x_ouF, ↓DL.x_C, ↓DL.x_var, ↓DL.x_slV, ↓DL.x_slW, ↓DL.x_aV, ↓DL.x_aE, ↓DL.x_rdS, ↓DL.x_rdD, ↓DL.x_derefO, ↓DL.x_deref, ↓DL.x_getO, ↓DL.x_getV, ↓DL.x_getW, DL.o_non, DL.o_bl, DL.o_int, DL.o_str, DL.o_tup, DL.o_lst, DL.o_fro, DL.o_dct, DL.o_ins, DL.o_fn, ↓DL.x_bin, ↓DL.x_ofS, ↓DL.x_ofN, ↓DL.x_un, ↓DL.x_argsN, ↓DL.x_argsC, ↓DL.x_tup, ↓DL.x_lst, ↓DL.x_rdLN, ↓DL.x_rdLC, ↓DL.x_argsPN, ↓DL.x_argsPC, ↓DL.x_fun, ↓DL.x_tTru, ↓DL.x_tBool, ↓DL.x_tNt, ↓DL.x_tAn, ↓DL.x_tOr, ↓DL.x_tYs, ↓DL.x_eIf, ↓DL.x_eNt, ↓DL.x_eAnd, ↓DL.x_eOr, ↓DL.x_nil, ↓DL.x_seq, ↓DL.x_if, ↓DL.x_ret, ↓DL.x_retN, ↓DL.x_ex, ↓DL.x_bk, ↓DL.x_ct, ↓DL.x_nxS, ↓DL.x_nxN, ↓DL.x_asg, ↓DL.x_tgN, ↓DL.x_setO, ↓DL.x_setS, ↓DL.x_wipe, ↓DL.x_wipeN, ↓DL.x_wipeC, ↓DL.x_tgT, ↓DL.x_tgsN, ↓DL.x_tgsC, ↓DL.x_forN, ↓DL.x_for, ↓DL.x_par, ↓DL.x_parO, ↓DL.x_retV, ↓DL.x_bVo, ↓DL.x_call, ↓DL.x_fnD, ↓DL.x_retO, DL.v_retO, ↓DL.x_retX, ↓DL.x_comp, ↓DL.x_iSeq, ↓DL.x_itL, ↓DL.x_itF, ↓DL.x_itT, ↓DL.x_itS, ↓DL.x_bG, ↓DL.x_rng1, ↓DL.x_bG2, ↓DL.x_rng2, ↓DL.x_enum, ↓DL.x_sqL, ↓DL.x_sqF, ↓DL.x_sqT, ↓DL.x_bMo, ↓DL.x_bMs, ↓DL.x_wrS, ↓DL.x_wrD, ↓DL.x_isLst, ↓DL.x_mutL, ↓DL.x_bTo, ↓DL.x_tgSub, ↓DL.x_join, ↓DL.x_isStr, ↓DL.x_partN, ↓DL.x_partS, ↓DL.x_sl, ↓DL.x_prsN, ↓DL.x_prsC, ↓DL.x_disp, DL.v_addI, DL.v_addS, DL.v_addT, DL.v_addL, DL.v_catL, DL.v_sub, DL.v_mod, DL.v_neg, DL.v_ltI, DL.v_leI, DL.v_gtI, DL.v_geI, DL.v_ltS, DL.v_leS, DL.v_eqS, DL.v_eqI, DL.v_eqB, DL.v_neS, DL.v_neI, DL.v_neB, DL.v_inS, DL.v_ninS, DL.v_isNN, DL.v_isT, DL.v_isL, DL.v_isS, DL.v_isI, DL.v_isB, DL.v_isNot, DL.v_ixL, DL.v_ixF, DL.v_ixT, DL.v_ixS, DL.v_ixK, DL.v_ixKI, DL.v_at0, DL.v_at1, DL.v_at2, DL.v_lenL, DL.v_lenF, DL.v_lenT, DL.v_lenS, DL.v_lenK, DL.v_lstL, DL.v_lstT, DL.v_lstF, DL.v_tupL, DL.v_tupT, DL.v_tupF, DL.v_cutL, DL.v_cutT, DL.v_cutS, DL.v_app, DL.v_ext, DL.v_truN, DL.v_truB, DL.v_truI, DL.v_truT, DL.v_truL, DL.v_truS, DL.v_rep, DL.v_mulS, DL.v_mulI, DL.v_setL, ↓DL.x_bUo, ↓DL.x_cStep, ↓DL.x_compN, ↓DL.x_bHn, ↓DL.x_bHc, ↓DL.x_bHb, ↓DL.x_bHr, ↓DL.x_bHx, ↓DL.x_bHd, ↓DL.x_fStep, ↓DL.x_bX, ↓DL.x_sortSet, ↓DL.x_tgU, ↓DL.x_bJ, ↓DL.x_chain, DL.v_isi, ↓DL.x_bY, ↓DL.x_pop, DL.v_pop, DL.v_inT, DL.v_rev, DL.v_notInT, ↓DL.x_sBad, ↓DL.x_eBad, ↓DL.x_setTx, ↓DL.x_sortSetS, DL.v_revS, DL.v_listXs, DL.v_listXt, DL.v_listXl, ↓DL.x_enumS1, ↓DL.x_enumSt, List.getElem?_cons_zero, List.getElem?_cons_succ, List.set_cons_zero, List.set_cons_succ, e, hi]
  · rw [if_neg h]
    have hi : ¬ (gs.length : Int) = (w.length : Int) := by omega
    show _ = Fo.ok .non S
    generalize gs.map natD = X at e hl
    rw [← hl] at hi
    simp (disch := first | (simp only [DL.o_non, DL.o_bl, DL.o_int, DL.o_str, DL.o_tup, DL.o_lst, DL.o_fro, DL.o_dct, DL.o_ins, DL.o_fn, List.length_cons, List.length_append, List.length_nil, List.length_singleton]; done) | ((with_reducible refine DL.sz_of ?_); (try simp only [List.length_cons, List.length_append, List.length_map, List.length_nil, List.length_singleton, List.length_take, List.length_drop, List.length_reverse, List.length_replicate]); omega) | (with_reducible assumption)) [den_first_positions, c_first_positions, ↓DL.x_bNs, ↓DL.x_bNn, ↓DL.x_bEo, ↓DL.x_bEx, ↓DL.x_bEb, ↓DL.x_bFo, ↓DL.x_bFx, ↓DL.x_bFb, ↓DL.x_bOs, ↓DL.x_bOn, ↓DL.x_bPs, ↓DL.x_bPn, ↓DL.x_bQn, ↓DL.x_bQr, ↓DL.x_bQb, ↓DL.x_bQc, ↓DL.x_bQx, ↓DL.x_bQd, ↓DL.x_bWn, ↓DL.x_bWr, ↓DL.x_bWb, ↓DL.x_bWc, ↓DL.x_bWx, ↓DL.x_bWd, ↓DL.x_bBb, ↓DL.x_bIi, ↓DL.x_bCo, ↓DL.x_bCx, ↓DL.x_bCb, ↓DL.x_bRr, ↓DL.x_bRn, ↓DL.x_bRx, ↓DL.x_bAv, ↓DL.x_bAw, ↓DL.x_bind, ↓DL.x_ouF, ↓DL.x_C, ↓DL.x_var, ↓DL.x_slV, ↓DL.x_slW, ↓DL.x_aV, ↓DL.x_aE, ↓DL.x_rdS, ↓DL.x_rdD, ↓DL.x_derefO, ↓DL.x_deref, ↓DL.x_getO, ↓DL.x_getV, ↓DL.x_getW, DL.o_non, DL.o_bl, DL.o_int, DL.o_str, DL.o_tup, DL.o_lst, DL.o_fro, DL.o_dct, DL.o_ins, DL.o_fn, ↓DL.x_bin, ↓DL.x_ofS, ↓DL.x_ofN, ↓DL.x_un, ↓DL.x_argsN, ↓DL.x_argsC, ↓DL.x_tup, ↓DL.x_lst, ↓DL.x_rdLN, ↓DL.x_rdLC, ↓DL.x_argsPN, ↓DL.x_argsPC, ↓DL.x_fun, ↓DL.x_tTru, ↓DL.x_tBool, ↓DL.x_tNt, ↓DL.x_tAn, ↓DL.x_tOr, ↓DL.x_tYs, ↓DL.x_eIf, ↓DL.x_eNt, ↓DL.x_eAnd, ↓DL.x_eOr, ↓DL.x_nil, ↓DL.x_seq, ↓DL.x_if, ↓DL.x_ret, ↓DL.x_retN, ↓DL.x_ex, ↓DL.x_bk, ↓DL.x_ct, ↓DL.x_nxS, ↓DL.x_nxN, ↓DL.x_asg, ↓DL.x_tgN, ↓DL.x_setO, ↓DL.x_setS, ↓DL.x_wipe, ↓DL.x_wipeN, ↓DL.x_wipeC, ↓DL.x_tgT, ↓DL.x_tgsN, ↓DL.x_tgsC, ↓DL.x_forN, ↓DL.x_for, ↓DL.x_par, ↓DL.x_parO, ↓DL.x_retV, ↓DL.x_bVo, ↓DL.x_call, ↓DL.x_fnD, ↓DL.x_retO, DL.v_retO, ↓DL.x_retX, ↓DL.x_comp, ↓DL.x_iSeq, ↓DL.x_itL, ↓DL.x_itF, ↓DL.x_itT, ↓DL.x_itS, ↓DL.x_bG, ↓DL.x_rng1, ↓DL.x_bG2, ↓DL.x_rng2, ↓DL.x_enum, ↓DL.x_sqL, ↓DL.x_sqF, ↓DL.x_sqT, ↓DL.x_bMo, ↓DL.x_bMs, ↓DL.x_wrS, ↓DL.x_wrD, ↓DL.x_isLst, ↓DL.x_mutL, ↓DL.x_bTo, ↓DL.x_tgSub, ↓DL.x_join, ↓DL.x_isStr, ↓DL.x_partN, ↓DL.x_partS, ↓DL.x_sl, ↓DL.x_prsN, ↓DL.x_prsC, ↓DL.x_disp, DL.v_addI, DL.v_addS, DL.v_addT, DL.v_addL, DL.v_catL, DL.v_sub, DL.v_mod, DL.v_neg, DL.v_ltI, DL.v_leI, DL.v_gtI, DL.v_geI, DL.v_ltS, DL.v_leS, DL.v_eqS, DL.v_eqI, DL.v_eqB, DL.v_neS, DL.v_neI, DL.v_neB, DL.v_inS, DL.v_ninS, DL.v_isNN, DL.v_isT, DL.v_isL, DL.v_isS, DL.v_isI, DL.v_isB, DL.v_isNot, DL.v_ixL, DL.v_ixF, DL.v_ixT, DL.v_ixS, DL.v_ixK, DL.v_ixKI, DL.v_at0, DL.v_at1, DL.v_at2, DL.v_lenL, DL.v_lenF, DL.v_lenT, DL.v_lenS, DL.v_lenK, DL.v_lstL, DL.v_lstT, DL.v_lstF, DL.v_tupL, DL.v_tupT, DL.v_tupF, DL.v_cutL, DL.v_cutT, DL.v_cutS, DL.v_app, DL.v_ext, DL.v_truN, DL.v_truB, DL.v_truI, DL.v_truT, DL.v_truL, DL.v_truS, DL.v_rep, DL.v_mulS, DL.v_mulI, DL.v_setL, ↓DL.x_bUo, ↓DL.x_cStep, ↓DL.x_compN, ↓DL.x_bHn, ↓DL.x_bHc, ↓DL.x_bHb, ↓DL.x_bHr, ↓DL.x_bHx, ↓DL.x_bHd, ↓DL.x_fStep, ↓DL.x_bX, ↓DL.x_sortSet, ↓DL.x_tgU, ↓DL.x_bJ, ↓DL.x_chain, DL.v_isi, ↓DL.x_bY, ↓DL.x_pop, DL.v_pop, DL.v_inT, DL.v_rev, DL.v_notInT, ↓DL.x_sBad, ↓DL.x_eBad, ↓DL.x_setTx, ↓DL.x_sortSetS, DL.v_revS, DL.v_listXs, DL.v_listXt, DL.v_listXl, ↓DL.x_enumS1, ↓DL.x_enumSt, List.getElem?_cons_zero, List.getElem?_cons_succ, List.set_cons_zero, List.set_cons_succ, e, hi]
theorem issub_ok (w U : List Nat) (S : List D) (hw : w.length ≤ 1000) (hU : U.length ≤ 1000) : den_is_subword [.str w, .str U] S = .ok (.bl (isSub w U)) S := by
  have h := first_ok w U S hw hU
  have h2 := posL_sub w U 0
  cases hp : posL w U 0 with
  | none =>
    rw [hp] at h h2
    rw [← h2]
    have hn : isNotD .non .non = some (.bl false) := rfl
    simp only [posD] at h
    simp (disch := first | (simp only [DL.o_non, DL.o_bl, DL.o_int, DL.o_str, DL.o_tup, DL.o_lst, DL.o_fro, DL.o_dct, DL.o_ins, DL.o_fn, List.length_cons, List.length_append, List.length_nil, List.length_singleton]; done) | ((with_reducible refine DL.sz_of ?_); (try simp only [List.length_cons, List.length_append, List.length_map, List.length_nil, List.length_singleton, List.length_take, List.length_drop, List.length_reverse, List.length_replicate]); omega) | (with_reducible assumption)) [den_is_subword, c_is_subword, ↓DL.x_bNs, ↓DL.x_bNn, ↓DL.x_bEo, ↓DL.x_bEx, ↓DL.x_bEb, ↓DL.x_bFo, ↓DL.x_bFx, ↓DL.x_bFb, ↓DL.x_bOs, ↓DL.x_bOn, ↓DL.x_bPs, ↓DL.x_bPn, ↓DL.x_bQn, ↓DL.x_bQr, ↓DL.x_bQb, ↓DL.x_bQc, ↓DL.x_bQx, ↓DL.x_bQd, ↓DL.x_bWn, ↓DL.x_bWr, ↓DL.x_bWb, ↓DL.x_bWc, ↓DL.x_bWx, ↓DL.x_bWd, ↓DL.x_bBb, ↓DL.x_bIi, ↓DL.x_bCo, ↓DL.x_bCx, ↓DL.x_bCb, ↓DL.x_bRr, ↓DL.x_bRn, ↓DL.x_bRx, ↓DL.x_bAv, ↓DL.x_bAw, ↓DL.x_bind, ↓DL.x_ouF, ↓DL.x_C, ↓DL.x_var, ↓DL.x_slV, ↓DL.x_slW, ↓DL.x_aV, ↓DL.x_aE, ↓DL.x_rdS, ↓DL.x_rdD, ↓DL.x_derefO, ↓DL.x_deref, ↓DL.x_getO, ↓DL.x_getV, ↓DL.x_getW, DL.o_non, DL.o_bl, DL.o_int, DL.o_str, DL.o_tup, DL.o_lst, DL.o_fro, DL.o_dct, DL.o_ins, DL.o_fn, ↓DL.x_bin, ↓DL.x_ofS, ↓DL.x_ofN, ↓DL.x_un, ↓DL.x_argsN, ↓DL.x_argsC, ↓DL.x_tup, ↓DL.x_lst, ↓DL.x_rdLN, ↓DL.x_rdLC, ↓DL.x_argsPN, ↓DL.x_argsPC, ↓DL.x_fun, ↓DL.x_tTru, ↓DL.x_tBool, ↓DL.x_tNt, ↓DL.x_tAn, ↓DL.x_tOr, ↓DL.x_tYs, ↓DL.x_eIf, ↓DL.x_eNt, ↓DL.x_eAnd, ↓DL.x_eOr, ↓DL.x_nil, ↓DL.x_seq, ↓DL.x_if, ↓DL.x_ret, ↓DL.x_retN, ↓DL.x_ex, ↓DL.x_bk, ↓DL.x_ct, ↓DL.x_nxS, ↓DL.x_nxN, ↓DL.x_asg, ↓DL.x_tgN, ↓DL.x_setO, ↓DL.x_setS, ↓DL.x_wipe, ↓DL.x_wipeN, ↓DL.x_wipeC, ↓DL.x_tgT, ↓DL.x_tgsN, ↓DL.x_tgsC, ↓DL.x_forN, ↓DL.x_for, ↓DL.x_par, ↓DL.x_parO, ↓DL.x_retV, ↓DL.x_bVo, ↓DL.x_call, ↓DL.x_fnD, ↓DL.x_retO, DL.v_retO, ↓DL.x_retX, ↓DL.x_comp, ↓DL.x_iSeq, ↓DL.x_itL, ↓DL.x_itF, ↓DL.x_itT, ↓DL.x_itS, ↓DL.x_bG, ↓DL.x_rng1, ↓DL.x_bG2, ↓DL.x_rng2, ↓DL.x_enum, ↓DL.x_sqL, ↓DL.x_sqF, ↓DL.x_sqT, ↓DL.x_bMo, ↓DL.x_bMs, ↓DL.x_wrS, ↓DL.x_wrD, ↓DL.x_isLst, ↓DL.x_mutL, ↓DL.x_bTo, ↓DL.x_tgSub, ↓DL.x_join, ↓DL.x_isStr, ↓DL.x_partN, ↓DL.x_partS, ↓DL.x_sl, ↓DL.x_prsN, ↓DL.x_prsC, ↓DL.x_disp, DL.v_addI, DL.v_addS, DL.v_addT, DL.v_addL, DL.v_catL, DL.v_sub, DL.v_mod, DL.v_neg, DL.v_ltI, DL.v_leI, DL.v_gtI, DL.v_geI, DL.v_ltS, DL.v_leS, DL.v_eqS, DL.v_eqI, DL.v_eqB, DL.v_neS, DL.v_neI, DL.v_neB, DL.v_inS, DL.v_ninS, DL.v_isNN, DL.v_isT, DL.v_isL, DL.v_isS, DL.v_isI, DL.v_isB, DL.v_isNot, DL.v_ixL, DL.v_ixF, DL.v_ixT, DL.v_ixS, DL.v_ixK, DL.v_ixKI, DL.v_at0, DL.v_at1, DL.v_at2, DL.v_lenL, DL.v_lenF, DL.v_lenT, DL.v_lenS, DL.v_lenK, DL.v_lstL, DL.v_lstT, DL.v_lstF, DL.v_tupL, DL.v_tupT, DL.v_tupF, DL.v_cutL, DL.v_cutT, DL.v_cutS, DL.v_app, DL.v_ext, DL.v_truN, DL.v_truB, DL.v_truI, DL.v_truT, DL.v_truL, DL.v_truS, DL.v_rep, DL.v_mulS, DL.v_mulI, DL.v_setL, ↓DL.x_bUo, ↓DL.x_cStep, ↓DL.x_compN, ↓DL.x_bHn, ↓DL.x_bHc, ↓DL.x_bHb, ↓DL.x_bHr, ↓DL.x_bHx, ↓DL.x_bHd, ↓DL.x_fStep, ↓DL.x_bX, ↓DL.x_sortSet, ↓DL.x_tgU, ↓DL.x_bJ, ↓DL.x_chain, DL.v_isi, ↓DL.x_bY, ↓DL.x_pop, DL.v_pop, DL.v_inT, DL.v_rev, DL.v_notInT, ↓DL.x_sBad, ↓DL.x_eBad, ↓DL.x_setTx, ↓DL.x_sortSetS, DL.v_revS, DL.v_listXs, DL.v_listXt, DL.v_listXl, ↓DL.x_enumS1, ↓DL.x_enumSt, List.getElem?_cons_zero, List.getElem?_cons_succ, List.set_cons_zero, List.set_cons_succ, h, hn]
  | some ns =>
    rw [hp] at h h2
    rw [← h2]
    simp only [posD] at h
    have hn : ∀ X, isNotD (.tup X) .non = some (.bl true) := fun X => rfl
    simp (disch := first | (simp only [DL.o_non, DL.o_bl, DL.o_int, DL.o_str, DL.o_tup, DL.o_lst, DL.o_fro, DL.o_dct, DL.o_ins, DL.o_fn, List.length_cons, List.length_append, List.length_nil, List.length_singleton]; done) | ((with_reducible refine DL.sz_of ?_); (try simp only [List.length_cons, List.length_append, List.length_map, List.length_nil, List.length_singleton, List.length_take, List.length_drop, List.length_reverse, List.length_replicate]); omega) | (with_reducible assumption)) [den_is_subword, c_is_subword, ↓DL.x_bNs, ↓DL.x_bNn, ↓DL.x_bEo, ↓DL.x_bEx, ↓DL.x_bEb, ↓DL.x_bFo, ↓DL.x_bFx, ↓DL.x_bFb, ↓DL.x_bOs, ↓DL.x_bOn, ↓DL.x_bPs, ↓DL.x_bPn, ↓DL.x_bQn, ↓DL.x_bQr, ↓DL.x_bQb, ↓DL.x_bQc, ↓DL.x_bQx, ↓DL.x_bQd, ↓DL.x_bWn, ↓DL.x_bWr, ↓DL.x_bWb, ↓DL.x_bWc, ↓DL.x_bWx, ↓DL.x_bWd, ↓DL.x_bBb, ↓DL.x_bIi, ↓DL.x_bCo, ↓DL.x_bCx, ↓DL.x_bCb, ↓DL.x_bRr, ↓DL.x_bRn, ↓DL.x_bRx, ↓DL.x_bAv, ↓DL.x_bAw, ↓DL.x_bind, ↓DL.x_ouF, ↓DL.x_C, ↓DL.x_var, ↓DL.x_slV, ↓DL.x_slW, ↓DL.x_aV, ↓DL.x_aE, ↓DL.x_rdS, ↓DL.x_rdD, ↓DL.x_derefO, ↓DL.x_deref, ↓DL.x_getO, ↓DL.x_getV, ↓DL.x_getW, DL.o_non, DL.o_bl, DL.o_int, DL.o_str, DL.o_tup, DL.o_lst, DL.o_fro, DL.o_dct, DL.o_ins, DL.o_fn, ↓DL.x_bin, ↓DL.x_ofS, ↓DL.x_ofN, ↓DL.x_un, ↓DL.x_argsN, ↓DL.x_argsC, ↓DL.x_tup, ↓DL.x_lst, ↓DL.x_rdLN, ↓DL.x_rdLC, ↓DL.x_argsPN, ↓DL.x_argsPC, ↓DL.x_fun, ↓DL.x_tTru, ↓DL.x_tBool, ↓DL.x_tNt, ↓DL.x_tAn, ↓DL.x_tOr, ↓DL.x_tYs, ↓DL.x_eIf, ↓DL.x_eNt, ↓DL.x_eAnd, ↓DL.x_eOr, ↓DL.x_nil, ↓DL.x_seq, ↓DL.x_if, ↓DL.x_ret, ↓DL.x_retN, ↓DL.x_ex, ↓DL.x_bk, ↓DL.x_ct, ↓DL.x_nxS, ↓DL.x_nxN, ↓DL.x_asg, ↓DL.x_tgN, ↓DL.x_setO, ↓DL.x_setS, ↓DL.x_wipe, ↓DL.x_wipeN, ↓DL.x_wipeC, ↓DL.x_tgT, ↓DL.x_tgsN, ↓DL.x_tgsC, ↓DL.x_forN, ↓DL.x_for, ↓DL.x_par, ↓DL.x_parO, ↓DL.x_retV, ↓DL.x_bVo, ↓DL.x_call, ↓DL.x_fnD, ↓DL.x_retO, DL.v_retO, ↓DL.x_retX, ↓DL.x_comp, ↓DL.x_iSeq, ↓DL.x_itL, ↓DL.x_itF, ↓DL.x_itT, ↓DL.x_itS, ↓DL.x_bG, ↓DL.x_rng1, ↓DL.x_bG2, ↓DL.x_rng2, ↓DL.x_enum, ↓DL.x_sqL, ↓DL.x_sqF, ↓DL.x_sqT, ↓DL.x_bMo, ↓DL.x_bMs, ↓DL.x_wrS, ↓DL.x_wrD, ↓DL.x_isLst, ↓DL.x_mutL, ↓DL.x_bTo, ↓DL.x_tgSub, ↓DL.x_join, ↓DL.x_isStr, ↓DL.x_partN, ↓DL.x_partS, ↓DL.x_sl, ↓DL.x_prsN, ↓DL.x_prsC, ↓DL.x_disp, DL.v_addI, DL.v_addS, DL.v_addT, DL.v_addL, DL.v_catL, DL.v_sub, DL.v_mod, DL.v_neg, DL.v_ltI, DL.v_leI, DL.v_gtI, DL.v_geI, DL.v_ltS, DL.v_leS, DL.v_eqS, DL.v_eqI, DL.v_eqB, DL.v_neS, DL.v_neI, DL.v_neB, DL.v_inS, DL.v_ninS, DL.v_isNN, DL.v_isT, DL.v_isL, DL.v_isS, DL.v_isI, DL.v_isB, DL.v_isNot, DL.v_ixL, DL.v_ixF, DL.v_ixT, DL.v_ixS, DL.v_ixK, DL.v_ixKI, DL.v_at0, DL.v_at1, DL.v_at2, DL.v_lenL, DL.v_lenF, DL.v_lenT, DL.v_lenS, DL.v_lenK, DL.v_lstL, DL.v_lstT, DL.v_lstF, DL.v_tupL, DL.v_tupT, DL.v_tupF, DL.v_cutL, DL.v_cutT, DL.v_cutS, DL.v_app, DL.v_ext, DL.v_truN, DL.v_truB, DL.v_truI, DL.v_truT, DL.v_truL, DL.v_truS, DL.v_rep, DL.v_mulS, DL.v_mulI, DL.v_setL, ↓DL.x_bUo, ↓DL.x_cStep, ↓DL.x_compN, ↓DL.x_bHn, ↓DL.x_bHc, ↓DL.x_bHb, ↓DL.x_bHr, ↓DL.x_bHx, ↓DL.x_bHd, ↓DL.x_fStep, ↓DL.x_bX, ↓DL.x_sortSet, ↓DL.x_tgU, ↓DL.x_bJ, ↓DL.x_chain, DL.v_isi, ↓DL.x_bY, ↓DL.x_pop, DL.v_pop, DL.v_inT, DL.v_rev, DL.v_notInT, ↓DL.x_sBad, ↓DL.x_eBad, ↓DL.x_setTx, ↓DL.x_sortSetS, DL.v_revS, DL.v_listXs, DL.v_listXt, DL.v_listXl, ↓DL.x_enumS1, ↓DL.x_enumSt, List.getElem?_cons_zero, List.getElem?_cons_succ, List.set_cons_zero, List.set_cons_succ, h, hn]
/-! the law's places -/
def lpS (w U fs : List Nat) (p : Nat) (c : Sl) (S : List D) : Sts := ⟨[.val (.str w), .val (.str U), .own (.lst (fs.map natD)), .val (.int p), c], S⟩
theorem lp_wh (hU : U.length ≤ 1000) (fs : List Nat) (c : Nat) (v : List Nat) : ∀ (n p : Nat), U.length - p < n → p ≤ U.length →
    ∃ q, whN t__law_places_2 b__law_places_1 n (lpS w U fs p (.val (.str [c])) S) = .nx (lpS w U fs q (.val (.str [c])) S) ∧ q ≤ U.length ∧
      posL (c :: v) (U.drop p) p = (if q = U.length then none else (posL v (U.drop (q + 1)) (q + 1)).map (q :: ·)) := by
  intro n
  induction n with
  | zero => intro p h; omega
  | succ n ih =>
    intro p hn hp
    by_cases h : p < U.length
    · have hlt : (p : Int) < (U.length : Int) := by omega
      have hdr : U.drop p = U[p] :: U.drop (p + 1) := List.drop_eq_getElem_cons h
      have hg : U[p]? = some U[p] := by simp
      have at1 : L2.atI U (p : Int) = some U[p] := L2.atI_nat hg
      generalize U[p] = d at at1 hdr
      by_cases hc : d = c
      · subst hc
        refine ⟨p, ?_, hp, ?_⟩
        · have ht : t__law_places_2 (lpS w U fs p (.val (.str [d])) S) = .ok false (lpS w U fs p (.val (.str [d])) S) := by
            simp (disch := first | (simp only [DL.o_non, DL.o_bl, DL.o_int, DL.o_str, DL.o_tup, DL.o_lst, DL.o_fro, DL.o_dct, DL.o_ins, DL.o_fn, List.length_cons, List.length_append, List.length_nil, List.length_singleton]; done) | ((with_reducible refine DL.sz_of ?_); (try simp only [List.length_cons, List.length_append, List.length_map, List.length_nil, List.length_singleton, List.length_take, List.length_drop, List.length_reverse, List.length_replicate]); omega) | (with_reducible assumption)) [↓DL.x_bNs, ↓DL.x_bNn, ↓DL.x_bEo, ↓DL.x_bEx, ↓DL.x_bEb, ↓DL.x_bFo, ↓DL.x_bFx, ↓DL.x_bFb, ↓DL.x_bOs, ↓DL.x_bOn, ↓DL.x_bPs, ↓DL.x_bPn, ↓DL.x_bQn, ↓DL.x_bQr, ↓DL.x_bQb, ↓DL.x_bQc, ↓DL.x_bQx, ↓DL.x_bQd, ↓DL.x_bWn, ↓DL.x_bWr, ↓DL.x_bWb, ↓DL.x_bWc, ↓DL.x_bWx, ↓DL.x_bWd, ↓DL.x_bBb, ↓DL.x_bIi, ↓DL.x_bCo, ↓DL.x_bCx, ↓DL.x_bCb, ↓DL.x_bRr, ↓DL.x_bRn, ↓DL.x_bRx, ↓DL.x_bAv, ↓DL.x_bAw, ↓DL.x_bind, ↓DL.x_ouF, ↓DL.x_C, ↓DL.x_var, ↓DL.x_slV, ↓DL.x_slW, ↓DL.x_aV, ↓DL.x_aE, ↓DL.x_rdS, ↓DL.x_rdD, ↓DL.x_derefO, ↓DL.x_deref, ↓DL.x_getO, ↓DL.x_getV, ↓DL.x_getW, DL.o_non, DL.o_bl, DL.o_int, DL.o_str, DL.o_tup, DL.o_lst, DL.o_fro, DL.o_dct, DL.o_ins, DL.o_fn, ↓DL.x_bin, ↓DL.x_ofS, ↓DL.x_ofN, ↓DL.x_un, ↓DL.x_argsN, ↓DL.x_argsC, ↓DL.x_tup, ↓DL.x_lst, ↓DL.x_rdLN, ↓DL.x_rdLC, ↓DL.x_argsPN, ↓DL.x_argsPC, ↓DL.x_fun, ↓DL.x_tTru, ↓DL.x_tBool, ↓DL.x_tNt, ↓DL.x_tAn, ↓DL.x_tOr, ↓DL.x_tYs, ↓DL.x_eIf, ↓DL.x_eNt, ↓DL.x_eAnd, ↓DL.x_eOr, ↓DL.x_nil, ↓DL.x_seq, ↓DL.x_if, ↓DL.x_ret, ↓DL.x_retN, ↓DL.x_ex, ↓DL.x_bk, ↓DL.x_ct, ↓DL.x_nxS, ↓DL.x_nxN, ↓DL.x_asg, ↓DL.x_tgN, ↓DL.x_setO, ↓DL.x_setS, ↓DL.x_wipe, ↓DL.x_wipeN, ↓DL.x_wipeC, ↓DL.x_tgT, ↓DL.x_tgsN, ↓DL.x_tgsC, ↓DL.x_forN, ↓DL.x_for, ↓DL.x_par, ↓DL.x_parO, ↓DL.x_retV, ↓DL.x_bVo, ↓DL.x_call, ↓DL.x_fnD, ↓DL.x_retO, DL.v_retO, ↓DL.x_retX, ↓DL.x_comp, ↓DL.x_iSeq, ↓DL.x_itL, ↓DL.x_itF, ↓DL.x_itT, ↓DL.x_itS, ↓DL.x_bG, ↓DL.x_rng1, ↓DL.x_bG2, ↓DL.x_rng2, ↓DL.x_enum, ↓DL.x_sqL, ↓DL.x_sqF, ↓DL.x_sqT, ↓DL.x_bMo, ↓DL.x_bMs, ↓DL.x_wrS, ↓DL.x_wrD, ↓DL.x_isLst, ↓DL.x_mutL, ↓DL.x_bTo, ↓DL.x_tgSub, ↓DL.x_join, ↓DL.x_isStr, ↓DL.x_partN, ↓DL.x_partS, ↓DL.x_sl, ↓DL.x_prsN, ↓DL.x_prsC, ↓DL.x_disp, DL.v_addI, DL.v_addS, DL.v_addT, DL.v_addL, DL.v_catL, DL.v_sub, DL.v_mod, DL.v_neg, DL.v_ltI, DL.v_leI, DL.v_gtI, DL.v_geI, DL.v_ltS, DL.v_leS, DL.v_eqS, DL.v_eqI, DL.v_eqB, DL.v_neS, DL.v_neI, DL.v_neB, DL.v_inS, DL.v_ninS, DL.v_isNN, DL.v_isT, DL.v_isL, DL.v_isS, DL.v_isI, DL.v_isB, DL.v_isNot, DL.v_ixL, DL.v_ixF, DL.v_ixT, DL.v_ixS, DL.v_ixK, DL.v_ixKI, DL.v_at0, DL.v_at1, DL.v_at2, DL.v_lenL, DL.v_lenF, DL.v_lenT, DL.v_lenS, DL.v_lenK, DL.v_lstL, DL.v_lstT, DL.v_lstF, DL.v_tupL, DL.v_tupT, DL.v_tupF, DL.v_cutL, DL.v_cutT, DL.v_cutS, DL.v_app, DL.v_ext, DL.v_truN, DL.v_truB, DL.v_truI, DL.v_truT, DL.v_truL, DL.v_truS, DL.v_rep, DL.v_mulS, DL.v_mulI, DL.v_setL, ↓DL.x_bUo, ↓DL.x_cStep, ↓DL.x_compN, ↓DL.x_bHn, ↓DL.x_bHc, ↓DL.x_bHb, ↓DL.x_bHr, ↓DL.x_bHx, ↓DL.x_bHd, ↓DL.x_fStep, ↓DL.x_bX, ↓DL.x_sortSet, ↓DL.x_tgU, ↓DL.x_bJ, ↓DL.x_chain, DL.v_isi, ↓DL.x_bY, ↓DL.x_pop, DL.v_pop, DL.v_inT, DL.v_rev, DL.v_notInT, ↓DL.x_sBad, ↓DL.x_eBad, ↓DL.x_setTx, ↓DL.x_sortSetS, DL.v_revS, DL.v_listXs, DL.v_listXt, DL.v_listXl, ↓DL.x_enumS1, ↓DL.x_enumSt, List.getElem?_cons_zero, List.getElem?_cons_succ, List.set_cons_zero, List.set_cons_succ, t__law_places_2, lpS, at1, hlt, h]
          rw [whN_step, ht]
          rfl
        · rw [hdr, posL, if_pos rfl, if_neg (by omega)]
      · obtain ⟨q, e, q1, q2⟩ := ih (p + 1) (by omega) (by omega)
        refine ⟨q, ?_, q1, ?_⟩
        · have ht : t__law_places_2 (lpS w U fs p (.val (.str [c])) S) = .ok true (lpS w U fs p (.val (.str [c])) S) := by
            simp (disch := first | (simp only [DL.o_non, DL.o_bl, DL.o_int, DL.o_str, DL.o_tup, DL.o_lst, DL.o_fro, DL.o_dct, DL.o_ins, DL.o_fn, List.length_cons, List.length_append, List.length_nil, List.length_singleton]; done) | ((with_reducible refine DL.sz_of ?_); (try simp only [List.length_cons, List.length_append, List.length_map, List.length_nil, List.length_singleton, List.length_take, List.length_drop, List.length_reverse, List.length_replicate]); omega) | (with_reducible assumption)) [↓DL.x_bNs, ↓DL.x_bNn, ↓DL.x_bEo, ↓DL.x_bEx, ↓DL.x_bEb, ↓DL.x_bFo, ↓DL.x_bFx, ↓DL.x_bFb, ↓DL.x_bOs, ↓DL.x_bOn, ↓DL.x_bPs, ↓DL.x_bPn, ↓DL.x_bQn, ↓DL.x_bQr, ↓DL.x_bQb, ↓DL.x_bQc, ↓DL.x_bQx, ↓DL.x_bQd, ↓DL.x_bWn, ↓DL.x_bWr, ↓DL.x_bWb, ↓DL.x_bWc, ↓DL.x_bWx, ↓DL.x_bWd, ↓DL.x_bBb, ↓DL.x_bIi, ↓DL.x_bCo, ↓DL.x_bCx, ↓DL.x_bCb, ↓DL.x_bRr, ↓DL.x_bRn, ↓DL.x_bRx, ↓DL.x_bAv, ↓DL.x_bAw, ↓DL.x_bind, ↓DL.x_ouF, ↓DL.x_C, ↓DL.x_var, ↓DL.x_slV, ↓DL.x_slW, ↓DL.x_aV, ↓DL.x_aE, ↓DL.x_rdS, ↓DL.x_rdD, ↓DL.x_derefO, ↓DL.x_deref, ↓DL.x_getO, ↓DL.x_getV, ↓DL.x_getW, DL.o_non, DL.o_bl, DL.o_int, DL.o_str, DL.o_tup, DL.o_lst, DL.o_fro, DL.o_dct, DL.o_ins, DL.o_fn, ↓DL.x_bin, ↓DL.x_ofS, ↓DL.x_ofN, ↓DL.x_un, ↓DL.x_argsN, ↓DL.x_argsC, ↓DL.x_tup, ↓DL.x_lst, ↓DL.x_rdLN, ↓DL.x_rdLC, ↓DL.x_argsPN, ↓DL.x_argsPC, ↓DL.x_fun, ↓DL.x_tTru, ↓DL.x_tBool, ↓DL.x_tNt, ↓DL.x_tAn, ↓DL.x_tOr, ↓DL.x_tYs, ↓DL.x_eIf, ↓DL.x_eNt, ↓DL.x_eAnd, ↓DL.x_eOr, ↓DL.x_nil, ↓DL.x_seq, ↓DL.x_if, ↓DL.x_ret, ↓DL.x_retN, ↓DL.x_ex, ↓DL.x_bk, ↓DL.x_ct, ↓DL.x_nxS, ↓DL.x_nxN, ↓DL.x_asg, ↓DL.x_tgN, ↓DL.x_setO, ↓DL.x_setS, ↓DL.x_wipe, ↓DL.x_wipeN, ↓DL.x_wipeC, ↓DL.x_tgT, ↓DL.x_tgsN, ↓DL.x_tgsC, ↓DL.x_forN, ↓DL.x_for, ↓DL.x_par, ↓DL.x_parO, ↓DL.x_retV, ↓DL.x_bVo, ↓DL.x_call, ↓DL.x_fnD, ↓DL.x_retO, DL.v_retO, ↓DL.x_retX, ↓DL.x_comp, ↓DL.x_iSeq, ↓DL.x_itL, ↓DL.x_itF, ↓DL.x_itT, ↓DL.x_itS, ↓DL.x_bG, ↓DL.x_rng1, ↓DL.x_bG2, ↓DL.x_rng2, ↓DL.x_enum, ↓DL.x_sqL, ↓DL.x_sqF, ↓DL.x_sqT, ↓DL.x_bMo, ↓DL.x_bMs, ↓DL.x_wrS, ↓DL.x_wrD, ↓DL.x_isLst, ↓DL.x_mutL, ↓DL.x_bTo, ↓DL.x_tgSub, ↓DL.x_join, ↓DL.x_isStr, ↓DL.x_partN, ↓DL.x_partS, ↓DL.x_sl, ↓DL.x_prsN, ↓DL.x_prsC, ↓DL.x_disp, DL.v_addI, DL.v_addS, DL.v_addT, DL.v_addL, DL.v_catL, DL.v_sub, DL.v_mod, DL.v_neg, DL.v_ltI, DL.v_leI, DL.v_gtI, DL.v_geI, DL.v_ltS, DL.v_leS, DL.v_eqS, DL.v_eqI, DL.v_eqB, DL.v_neS, DL.v_neI, DL.v_neB, DL.v_inS, DL.v_ninS, DL.v_isNN, DL.v_isT, DL.v_isL, DL.v_isS, DL.v_isI, DL.v_isB, DL.v_isNot, DL.v_ixL, DL.v_ixF, DL.v_ixT, DL.v_ixS, DL.v_ixK, DL.v_ixKI, DL.v_at0, DL.v_at1, DL.v_at2, DL.v_lenL, DL.v_lenF, DL.v_lenT, DL.v_lenS, DL.v_lenK, DL.v_lstL, DL.v_lstT, DL.v_lstF, DL.v_tupL, DL.v_tupT, DL.v_tupF, DL.v_cutL, DL.v_cutT, DL.v_cutS, DL.v_app, DL.v_ext, DL.v_truN, DL.v_truB, DL.v_truI, DL.v_truT, DL.v_truL, DL.v_truS, DL.v_rep, DL.v_mulS, DL.v_mulI, DL.v_setL, ↓DL.x_bUo, ↓DL.x_cStep, ↓DL.x_compN, ↓DL.x_bHn, ↓DL.x_bHc, ↓DL.x_bHb, ↓DL.x_bHr, ↓DL.x_bHx, ↓DL.x_bHd, ↓DL.x_fStep, ↓DL.x_bX, ↓DL.x_sortSet, ↓DL.x_tgU, ↓DL.x_bJ, ↓DL.x_chain, DL.v_isi, ↓DL.x_bY, ↓DL.x_pop, DL.v_pop, DL.v_inT, DL.v_rev, DL.v_notInT, ↓DL.x_sBad, ↓DL.x_eBad, ↓DL.x_setTx, ↓DL.x_sortSetS, DL.v_revS, DL.v_listXs, DL.v_listXt, DL.v_listXl, ↓DL.x_enumS1, ↓DL.x_enumSt, List.getElem?_cons_zero, List.getElem?_cons_succ, List.set_cons_zero, List.set_cons_succ, t__law_places_2, lpS, at1, hlt, h, hc]
          have hb : b__law_places_1 (lpS w U fs p (.val (.str [c])) S) = .nx (lpS w U fs (p + 1) (.val (.str [c])) S) := by
            simp (disch := first | (simp only [DL.o_non, DL.o_bl, DL.o_int, DL.o_str, DL.o_tup, DL.o_lst, DL.o_fro, DL.o_dct, DL.o_ins, DL.o_fn, List.length_cons, List.length_append, List.length_nil, List.length_singleton]; done) | ((with_reducible refine DL.sz_of ?_); (try simp only [List.length_cons, List.length_append, List.length_map, List.length_nil, List.length_singleton, List.length_take, List.length_drop, List.length_reverse, List.length_replicate]); omega) | (with_reducible assumption)) [↓DL.x_bNs, ↓DL.x_bNn, ↓DL.x_bEo, ↓DL.x_bEx, ↓DL.x_bEb, ↓DL.x_bFo, ↓DL.x_bFx, ↓DL.x_bFb, ↓DL.x_bOs, ↓DL.x_bOn, ↓DL.x_bPs, ↓DL.x_bPn, ↓DL.x_bQn, ↓DL.x_bQr, ↓DL.x_bQb, ↓DL.x_bQc, ↓DL.x_bQx, ↓DL.x_bQd, ↓DL.x_bWn, ↓DL.x_bWr, ↓DL.x_bWb, ↓DL.x_bWc, ↓DL.x_bWx, ↓DL.x_bWd, ↓DL.x_bBb, ↓DL.x_bIi, ↓DL.x_bCo, ↓DL.x_bCx, ↓DL.x_bCb, ↓DL.x_bRr, ↓DL.x_bRn, ↓DL.x_bRx, ↓DL.x_bAv, ↓DL.x_bAw, ↓DL.x_bind, ↓DL.x_ouF, ↓DL.x_C, ↓DL.x_var, ↓DL.x_slV, ↓DL.x_slW, ↓DL.x_aV, ↓DL.x_aE, ↓DL.x_rdS, ↓DL.x_rdD, ↓DL.x_derefO, ↓DL.x_deref, ↓DL.x_getO, ↓DL.x_getV, ↓DL.x_getW, DL.o_non, DL.o_bl, DL.o_int, DL.o_str, DL.o_tup, DL.o_lst, DL.o_fro, DL.o_dct, DL.o_ins, DL.o_fn, ↓DL.x_bin, ↓DL.x_ofS, ↓DL.x_ofN, ↓DL.x_un, ↓DL.x_argsN, ↓DL.x_argsC, ↓DL.x_tup, ↓DL.x_lst, ↓DL.x_rdLN, ↓DL.x_rdLC, ↓DL.x_argsPN, ↓DL.x_argsPC, ↓DL.x_fun, ↓DL.x_tTru, ↓DL.x_tBool, ↓DL.x_tNt, ↓DL.x_tAn, ↓DL.x_tOr, ↓DL.x_tYs, ↓DL.x_eIf, ↓DL.x_eNt, ↓DL.x_eAnd, ↓DL.x_eOr, ↓DL.x_nil, ↓DL.x_seq, ↓DL.x_if, ↓DL.x_ret, ↓DL.x_retN, ↓DL.x_ex, ↓DL.x_bk, ↓DL.x_ct, ↓DL.x_nxS, ↓DL.x_nxN, ↓DL.x_asg, ↓DL.x_tgN, ↓DL.x_setO, ↓DL.x_setS, ↓DL.x_wipe, ↓DL.x_wipeN, ↓DL.x_wipeC, ↓DL.x_tgT, ↓DL.x_tgsN, ↓DL.x_tgsC, ↓DL.x_forN, ↓DL.x_for, ↓DL.x_par, ↓DL.x_parO, ↓DL.x_retV, ↓DL.x_bVo, ↓DL.x_call, ↓DL.x_fnD, ↓DL.x_retO, DL.v_retO, ↓DL.x_retX, ↓DL.x_comp, ↓DL.x_iSeq, ↓DL.x_itL, ↓DL.x_itF, ↓DL.x_itT, ↓DL.x_itS, ↓DL.x_bG, ↓DL.x_rng1, ↓DL.x_bG2, ↓DL.x_rng2, ↓DL.x_enum, ↓DL.x_sqL, ↓DL.x_sqF, ↓DL.x_sqT, ↓DL.x_bMo, ↓DL.x_bMs, ↓DL.x_wrS, ↓DL.x_wrD, ↓DL.x_isLst, ↓DL.x_mutL, ↓DL.x_bTo, ↓DL.x_tgSub, ↓DL.x_join, ↓DL.x_isStr, ↓DL.x_partN, ↓DL.x_partS, ↓DL.x_sl, ↓DL.x_prsN, ↓DL.x_prsC, ↓DL.x_disp, DL.v_addI, DL.v_addS, DL.v_addT, DL.v_addL, DL.v_catL, DL.v_sub, DL.v_mod, DL.v_neg, DL.v_ltI, DL.v_leI, DL.v_gtI, DL.v_geI, DL.v_ltS, DL.v_leS, DL.v_eqS, DL.v_eqI, DL.v_eqB, DL.v_neS, DL.v_neI, DL.v_neB, DL.v_inS, DL.v_ninS, DL.v_isNN, DL.v_isT, DL.v_isL, DL.v_isS, DL.v_isI, DL.v_isB, DL.v_isNot, DL.v_ixL, DL.v_ixF, DL.v_ixT, DL.v_ixS, DL.v_ixK, DL.v_ixKI, DL.v_at0, DL.v_at1, DL.v_at2, DL.v_lenL, DL.v_lenF, DL.v_lenT, DL.v_lenS, DL.v_lenK, DL.v_lstL, DL.v_lstT, DL.v_lstF, DL.v_tupL, DL.v_tupT, DL.v_tupF, DL.v_cutL, DL.v_cutT, DL.v_cutS, DL.v_app, DL.v_ext, DL.v_truN, DL.v_truB, DL.v_truI, DL.v_truT, DL.v_truL, DL.v_truS, DL.v_rep, DL.v_mulS, DL.v_mulI, DL.v_setL, ↓DL.x_bUo, ↓DL.x_cStep, ↓DL.x_compN, ↓DL.x_bHn, ↓DL.x_bHc, ↓DL.x_bHb, ↓DL.x_bHr, ↓DL.x_bHx, ↓DL.x_bHd, ↓DL.x_fStep, ↓DL.x_bX, ↓DL.x_sortSet, ↓DL.x_tgU, ↓DL.x_bJ, ↓DL.x_chain, DL.v_isi, ↓DL.x_bY, ↓DL.x_pop, DL.v_pop, DL.v_inT, DL.v_rev, DL.v_notInT, ↓DL.x_sBad, ↓DL.x_eBad, ↓DL.x_setTx, ↓DL.x_sortSetS, DL.v_revS, DL.v_listXs, DL.v_listXt, DL.v_listXl, ↓DL.x_enumS1, ↓DL.x_enumSt, List.getElem?_cons_zero, List.getElem?_cons_succ, List.set_cons_zero, List.set_cons_succ, b__law_places_1, lpS]
          rw [whN_step, ht]
          dsimp only
          rw [if_pos rfl, hb]
          exact e
        · rw [hdr, posL, if_neg (fun e => hc e.symm)]
          exact q2
    · have hpe : p = U.length := by omega
      refine ⟨p, ?_, hp, ?_⟩
      · have hlt : ¬ (p : Int) < (U.length : Int) := by omega
        have ht : t__law_places_2 (lpS w U fs p (.val (.str [c])) S) = .ok false (lpS w U fs p (.val (.str [c])) S) := by
          simp (disch := first | (simp only [DL.o_non, DL.o_bl, DL.o_int, DL.o_str, DL.o_tup, DL.o_lst, DL.o_fro, DL.o_dct, DL.o_ins, DL.o_fn, List.length_cons, List.length_append, List.length_nil, List.length_singleton]; done) | ((with_reducible refine DL.sz_of ?_); (try simp only [List.length_cons, List.length_append, List.length_map, List.length_nil, List.length_singleton, List.length_take, List.length_drop, List.length_reverse, List.length_replicate]); omega) | (with_reducible assumption)) [↓DL.x_bNs, ↓DL.x_bNn, ↓DL.x_bEo, ↓DL.x_bEx, ↓DL.x_bEb, ↓DL.x_bFo, ↓DL.x_bFx, ↓DL.x_bFb, ↓DL.x_bOs, ↓DL.x_bOn, ↓DL.x_bPs, ↓DL.x_bPn, ↓DL.x_bQn, ↓DL.x_bQr, ↓DL.x_bQb, ↓DL.x_bQc, ↓DL.x_bQx, ↓DL.x_bQd, ↓DL.x_bWn, ↓DL.x_bWr, ↓DL.x_bWb, ↓DL.x_bWc, ↓DL.x_bWx, ↓DL.x_bWd, ↓DL.x_bBb, ↓DL.x_bIi, ↓DL.x_bCo, ↓DL.x_bCx, ↓DL.x_bCb, ↓DL.x_bRr, ↓DL.x_bRn, ↓DL.x_bRx, ↓DL.x_bAv, ↓DL.x_bAw, ↓DL.x_bind, ↓DL.x_ouF, ↓DL.x_C, ↓DL.x_var, ↓DL.x_slV, ↓DL.x_slW, ↓DL.x_aV, ↓DL.x_aE, ↓DL.x_rdS, ↓DL.x_rdD, ↓DL.x_derefO, ↓DL.x_deref, ↓DL.x_getO, ↓DL.x_getV, ↓DL.x_getW, DL.o_non, DL.o_bl, DL.o_int, DL.o_str, DL.o_tup, DL.o_lst, DL.o_fro, DL.o_dct, DL.o_ins, DL.o_fn, ↓DL.x_bin, ↓DL.x_ofS, ↓DL.x_ofN, ↓DL.x_un, ↓DL.x_argsN, ↓DL.x_argsC, ↓DL.x_tup, ↓DL.x_lst, ↓DL.x_rdLN, ↓DL.x_rdLC, ↓DL.x_argsPN, ↓DL.x_argsPC, ↓DL.x_fun, ↓DL.x_tTru, ↓DL.x_tBool, ↓DL.x_tNt, ↓DL.x_tAn, ↓DL.x_tOr, ↓DL.x_tYs, ↓DL.x_eIf, ↓DL.x_eNt, ↓DL.x_eAnd, ↓DL.x_eOr, ↓DL.x_nil, ↓DL.x_seq, ↓DL.x_if, ↓DL.x_ret, ↓DL.x_retN, ↓DL.x_ex, ↓DL.x_bk, ↓DL.x_ct, ↓DL.x_nxS, ↓DL.x_nxN, ↓DL.x_asg, ↓DL.x_tgN, ↓DL.x_setO, ↓DL.x_setS, ↓DL.x_wipe, ↓DL.x_wipeN, ↓DL.x_wipeC, ↓DL.x_tgT, ↓DL.x_tgsN, ↓DL.x_tgsC, ↓DL.x_forN, ↓DL.x_for, ↓DL.x_par, ↓DL.x_parO, ↓DL.x_retV, ↓DL.x_bVo, ↓DL.x_call, ↓DL.x_fnD, ↓DL.x_retO, DL.v_retO, ↓DL.x_retX, ↓DL.x_comp, ↓DL.x_iSeq, ↓DL.x_itL, ↓DL.x_itF, ↓DL.x_itT, ↓DL.x_itS, ↓DL.x_bG, ↓DL.x_rng1, ↓DL.x_bG2, ↓DL.x_rng2, ↓DL.x_enum, ↓DL.x_sqL, ↓DL.x_sqF, ↓DL.x_sqT, ↓DL.x_bMo, ↓DL.x_bMs, ↓DL.x_wrS, ↓DL.x_wrD, ↓DL.x_isLst, ↓DL.x_mutL, ↓DL.x_bTo, ↓DL.x_tgSub, ↓DL.x_join, ↓DL.x_isStr, ↓DL.x_partN, ↓DL.x_partS, ↓DL.x_sl, ↓DL.x_prsN, ↓DL.x_prsC, ↓DL.x_disp, DL.v_addI, DL.v_addS, DL.v_addT, DL.v_addL, DL.v_catL, DL.v_sub, DL.v_mod, DL.v_neg, DL.v_ltI, DL.v_leI, DL.v_gtI, DL.v_geI, DL.v_ltS, DL.v_leS, DL.v_eqS, DL.v_eqI, DL.v_eqB, DL.v_neS, DL.v_neI, DL.v_neB, DL.v_inS, DL.v_ninS, DL.v_isNN, DL.v_isT, DL.v_isL, DL.v_isS, DL.v_isI, DL.v_isB, DL.v_isNot, DL.v_ixL, DL.v_ixF, DL.v_ixT, DL.v_ixS, DL.v_ixK, DL.v_ixKI, DL.v_at0, DL.v_at1, DL.v_at2, DL.v_lenL, DL.v_lenF, DL.v_lenT, DL.v_lenS, DL.v_lenK, DL.v_lstL, DL.v_lstT, DL.v_lstF, DL.v_tupL, DL.v_tupT, DL.v_tupF, DL.v_cutL, DL.v_cutT, DL.v_cutS, DL.v_app, DL.v_ext, DL.v_truN, DL.v_truB, DL.v_truI, DL.v_truT, DL.v_truL, DL.v_truS, DL.v_rep, DL.v_mulS, DL.v_mulI, DL.v_setL, ↓DL.x_bUo, ↓DL.x_cStep, ↓DL.x_compN, ↓DL.x_bHn, ↓DL.x_bHc, ↓DL.x_bHb, ↓DL.x_bHr, ↓DL.x_bHx, ↓DL.x_bHd, ↓DL.x_fStep, ↓DL.x_bX, ↓DL.x_sortSet, ↓DL.x_tgU, ↓DL.x_bJ, ↓DL.x_chain, DL.v_isi, ↓DL.x_bY, ↓DL.x_pop, DL.v_pop, DL.v_inT, DL.v_rev, DL.v_notInT, ↓DL.x_sBad, ↓DL.x_eBad, ↓DL.x_setTx, ↓DL.x_sortSetS, DL.v_revS, DL.v_listXs, DL.v_listXt, DL.v_listXl, ↓DL.x_enumS1, ↓DL.x_enumSt, List.getElem?_cons_zero, List.getElem?_cons_succ, List.set_cons_zero, List.set_cons_succ, t__law_places_2, lpS, hlt, h]
        rw [whN_step, ht]
        rfl
      · rw [if_pos hpe, List.drop_of_length_le (by omega)]
        rfl
theorem lp_loop (hU : U.length ≤ 1000) : ∀ (v : List Nat) (p : Nat) (fs : List Nat), p ≤ U.length → fs.length + v.length ≤ 1000 →
    match posL v (U.drop p) p with
    | none => ∃ st, forL (tgN 4) b__law_places_3 (charsD v) (lpS w U fs p .un S) = .rt .non ⟨st, S⟩
    | some ns => ∃ q, forL (tgN 4) b__law_places_3 (charsD v) (lpS w U fs p .un S) = .nx (lpS w U (fs ++ ns) q .un S) := by
  intro v
  induction v with
  | nil =>
    intro p fs hp _
    rw [posL_nil]
    exact ⟨p, by simp [charsD, forL]⟩
  | cons c v ih =>
    intro p fs hp hz
    simp only [List.length_cons] at hz
    obtain ⟨q, e, q1, q2⟩ := lp_wh (S := S) (w := w) hU fs c v (U.length - p + 1) p (by omega) hp
    have hw := sWh_eq (t := t__law_places_2) (body := b__law_places_1) _ e (by simp)
    rw [q2]
    by_cases hq : q = U.length
    · rw [if_pos hq]
      have hi : (q : Int) = (U.length : Int) := by omega
      refine ⟨[.val (.str w), .val (.str U), .own (.lst (fs.map natD)), .val (.int q), .val (.str [c])], ?_⟩
      show forL _ _ (.str [c] :: charsD v) _ = _
      rw [forL_step]
      have step : fStep (tgN 4) b__law_places_3 (.str [c]) (lpS w U fs p .un S) = .rt .non ⟨[.val (.str w), .val (.str U), .own (.lst (fs.map natD)), .val (.int q), .val (.str [c])], S⟩ := by
        simp only [lpS] at hw ⊢
        simp (disch := first | (simp only [DL.o_non, DL.o_bl, DL.o_int, DL.o_str, DL.o_tup, DL.o_lst, DL.o_fro, DL.o_dct, DL.o_ins, DL.o_fn, List.length_cons, List.length_append, List.length_nil, List.length_singleton]; done) | ((with_reducible refine DL.sz_of ?_); (try simp only [List.length_cons, List.length_append, List.length_map, List.length_nil, List.length_singleton, List.length_take, List.length_drop, List.length_reverse, List.length_replicate]); omega) | (with_reducible assumption)) [↓DL.x_bNs, ↓DL.x_bNn, ↓DL.x_bEo, ↓DL.x_bEx, ↓DL.x_bEb, ↓DL.x_bFo, ↓DL.x_bFx, ↓DL.x_bFb, ↓DL.x_bOs, ↓DL.x_bOn, ↓DL.x_bPs, ↓DL.x_bPn, ↓DL.x_bQn, ↓DL.x_bQr, ↓DL.x_bQb, ↓DL.x_bQc, ↓DL.x_bQx, ↓DL.x_bQd, ↓DL.x_bWn, ↓DL.x_bWr, ↓DL.x_bWb, ↓DL.x_bWc, ↓DL.x_bWx, ↓DL.x_bWd, ↓DL.x_bBb, ↓DL.x_bIi, ↓DL.x_bCo, ↓DL.x_bCx, ↓DL.x_bCb, ↓DL.x_bRr, ↓DL.x_bRn, ↓DL.x_bRx, ↓DL.x_bAv, ↓DL.x_bAw, ↓DL.x_bind, ↓DL.x_ouF, ↓DL.x_C, ↓DL.x_var, ↓DL.x_slV, ↓DL.x_slW, ↓DL.x_aV, ↓DL.x_aE, ↓DL.x_rdS, ↓DL.x_rdD, ↓DL.x_derefO, ↓DL.x_deref, ↓DL.x_getO, ↓DL.x_getV, ↓DL.x_getW, DL.o_non, DL.o_bl, DL.o_int, DL.o_str, DL.o_tup, DL.o_lst, DL.o_fro, DL.o_dct, DL.o_ins, DL.o_fn, ↓DL.x_bin, ↓DL.x_ofS, ↓DL.x_ofN, ↓DL.x_un, ↓DL.x_argsN, ↓DL.x_argsC, ↓DL.x_tup, ↓DL.x_lst, ↓DL.x_rdLN, ↓DL.x_rdLC, ↓DL.x_argsPN, ↓DL.x_argsPC, ↓DL.x_fun, ↓DL.x_tTru, ↓DL.x_tBool, ↓DL.x_tNt, ↓DL.x_tAn, ↓DL.x_tOr, ↓DL.x_tYs, ↓DL.x_eIf, ↓DL.x_eNt, ↓DL.x_eAnd, ↓DL.x_eOr, ↓DL.x_nil, ↓DL.x_seq, ↓DL.x_if, ↓DL.x_ret, ↓DL.x_retN, ↓DL.x_ex, ↓DL.x_bk, ↓DL.x_ct, ↓DL.x_nxS, ↓DL.x_nxN, ↓DL.x_asg, ↓DL.x_tgN, ↓DL.x_setO, ↓DL.x_setS, ↓DL.x_wipe, ↓DL.x_wipeN, ↓DL.x_wipeC, ↓DL.x_tgT, ↓DL.x_tgsN, ↓DL.x_tgsC, ↓DL.x_forN, ↓DL.x_for, ↓DL.x_par, ↓DL.x_parO, ↓DL.x_retV, ↓DL.x_bVo, ↓DL.x_call, ↓DL.x_fnD, ↓DL.x_retO, DL.v_retO, ↓DL.x_retX, ↓DL.x_comp, ↓DL.x_iSeq, ↓DL.x_itL, ↓DL.x_itF, ↓DL.x_itT, ↓DL.x_itS, ↓DL.x_bG, ↓DL.x_rng1, ↓DL.x_bG2, ↓DL.x_rng2, ↓DL.x_enum, ↓DL.x_sqL, ↓DL.x_sqF, ↓DL.x_sqT, ↓DL.x_bMo, ↓DL.x_bMs, ↓DL.x_wrS, ↓DL.x_wrD, ↓DL.x_isLst, ↓DL.x_mutL, ↓DL.x_bTo, ↓DL.x_tgSub, ↓DL.x_join, ↓DL.x_isStr, ↓DL.x_partN, ↓DL.x_partS, ↓DL.x_sl, ↓DL.x_prsN, ↓DL.x_prsC, ↓DL.x_disp, DL.v_addI, DL.v_addS, DL.v_addT, DL.v_addL, DL.v_catL, DL.v_sub, DL.v_mod, DL.v_neg, DL.v_ltI, DL.v_leI, DL.v_gtI, DL.v_geI, DL.v_ltS, DL.v_leS, DL.v_eqS, DL.v_eqI, DL.v_eqB, DL.v_neS, DL.v_neI, DL.v_neB, DL.v_inS, DL.v_ninS, DL.v_isNN, DL.v_isT, DL.v_isL, DL.v_isS, DL.v_isI, DL.v_isB, DL.v_isNot, DL.v_ixL, DL.v_ixF, DL.v_ixT, DL.v_ixS, DL.v_ixK, DL.v_ixKI, DL.v_at0, DL.v_at1, DL.v_at2, DL.v_lenL, DL.v_lenF, DL.v_lenT, DL.v_lenS, DL.v_lenK, DL.v_lstL, DL.v_lstT, DL.v_lstF, DL.v_tupL, DL.v_tupT, DL.v_tupF, DL.v_cutL, DL.v_cutT, DL.v_cutS, DL.v_app, DL.v_ext, DL.v_truN, DL.v_truB, DL.v_truI, DL.v_truT, DL.v_truL, DL.v_truS, DL.v_rep, DL.v_mulS, DL.v_mulI, DL.v_setL, ↓DL.x_bUo, ↓DL.x_cStep, ↓DL.x_compN, ↓DL.x_bHn, ↓DL.x_bHc, ↓DL.x_bHb, ↓DL.x_bHr, ↓DL.x_bHx, ↓DL.x_bHd, ↓DL.x_fStep, ↓DL.x_bX, ↓DL.x_sortSet, ↓DL.x_tgU, ↓DL.x_bJ, ↓DL.x_chain, DL.v_isi, ↓DL.x_bY, ↓DL.x_pop, DL.v_pop, DL.v_inT, DL.v_rev, DL.v_notInT, ↓DL.x_sBad, ↓DL.x_eBad, ↓DL.x_setTx, ↓DL.x_sortSetS, DL.v_revS, DL.v_listXs, DL.v_listXt, DL.v_listXl, ↓DL.x_enumS1, ↓DL.x_enumSt, List.getElem?_cons_zero, List.getElem?_cons_succ, List.set_cons_zero, List.set_cons_succ, b__law_places_3, hw, hi]
      rw [step]
    · rw [if_neg hq]
      have hi : ¬ (q : Int) = (U.length : Int) := by omega
      have step : fStep (tgN 4) b__law_places_3 (.str [c]) (lpS w U fs p .un S) = .nx (lpS w U (fs ++ [q]) (q + 1) .un S) := by
        have hm : (fs ++ [q]).map natD = fs.map natD ++ [.int (q : Int)] := by simp [natD]
        have hl : (fs.map natD).length = fs.length := by simp
        simp only [lpS, hm] at hw ⊢
        generalize fs.map natD = X at hw hl
        simp (disch := first | (simp only [DL.o_non, DL.o_bl, DL.o_int, DL.o_str, DL.o_tup, DL.o_lst, DL.o_fro, DL.o_dct, DL.o_ins, DL.o_fn, List.length_cons, List.length_append, List.length_nil, List.length_singleton]; done) | ((with_reducible refine DL.sz_of ?_); (try simp only [List.length_cons, List.length_append, List.length_map, List.length_nil, List.length_singleton, List.length_take, List.length_drop, List.length_reverse, List.length_replicate]); omega) | (with_reducible assumption)) [↓DL.x_bNs, ↓DL.x_bNn, ↓DL.x_bEo, ↓DL.x_bEx, ↓DL.x_bEb, ↓DL.x_bFo, ↓DL.x_bFx, ↓DL.x_bFb, ↓DL.x_bOs, ↓DL.x_bOn, ↓DL.x_bPs, ↓DL.x_bPn, ↓DL.x_bQn, ↓DL.x_bQr, ↓DL.x_bQb, ↓DL.x_bQc, ↓DL.x_bQx, ↓DL.x_bQd, ↓DL.x_bWn, ↓DL.x_bWr, ↓DL.x_bWb, ↓DL.x_bWc, ↓DL.x_bWx, ↓DL.x_bWd, ↓DL.x_bBb, ↓DL.x_bIi, ↓DL.x_bCo, ↓DL.x_bCx, ↓DL.x_bCb, ↓DL.x_bRr, ↓DL.x_bRn, ↓DL.x_bRx, ↓DL.x_bAv, ↓DL.x_bAw, ↓DL.x_bind, ↓DL.x_ouF, ↓DL.x_C, ↓DL.x_var, ↓DL.x_slV, ↓DL.x_slW, ↓DL.x_aV, ↓DL.x_aE, ↓DL.x_rdS, ↓DL.x_rdD, ↓DL.x_derefO, ↓DL.x_deref, ↓DL.x_getO, ↓DL.x_getV, ↓DL.x_getW, DL.o_non, DL.o_bl, DL.o_int, DL.o_str, DL.o_tup, DL.o_lst, DL.o_fro, DL.o_dct, DL.o_ins, DL.o_fn, ↓DL.x_bin, ↓DL.x_ofS, ↓DL.x_ofN, ↓DL.x_un, ↓DL.x_argsN, ↓DL.x_argsC, ↓DL.x_tup, ↓DL.x_lst, ↓DL.x_rdLN, ↓DL.x_rdLC, ↓DL.x_argsPN, ↓DL.x_argsPC, ↓DL.x_fun, ↓DL.x_tTru, ↓DL.x_tBool, ↓DL.x_tNt, ↓DL.x_tAn, ↓DL.x_tOr, ↓DL.x_tYs, ↓DL.x_eIf, ↓DL.x_eNt, ↓DL.x_eAnd, ↓DL.x_eOr, ↓DL.x_nil, ↓DL.x_seq, ↓DL.x_if, ↓DL.x_ret, ↓DL.x_retN, ↓DL.x_ex, ↓DL.x_bk, ↓DL.x_ct, ↓DL.x_nxS, ↓DL.x_nxN, ↓DL.x_asg, ↓DL.x_tgN, ↓DL.x_setO, ↓DL.x_setS, ↓DL.x_wipe, ↓DL.x_wipeN, ↓DL.x_wipeC, ↓DL.x_tgT, ↓DL.x_tgsN, ↓DL.x_tgsC, ↓DL.x_forN, ↓DL.x_for, ↓DL.x_par, ↓DL.x_parO, ↓DL.x_retV, ↓DL.x_bVo, ↓DL.x_call, ↓DL.x_fnD, ↓DL.x_retO, DL.v_retO, ↓DL.x_retX, ↓DL.x_comp, ↓DL.x_iSeq, ↓DL.x_itL, ↓DL.x_itF, ↓DL.x_itT, ↓DL.x_itS, ↓DL.x_bG, ↓DL.x_rng1, ↓DL.x_bG2, ↓DL.x_rng2, ↓DL.x_enum, ↓DL.x_sqL, ↓DL.x_sqF, ↓DL.x_sqT, ↓DL.x_bMo, ↓DL.x_bMs, ↓DL.x_wrS, ↓DL.x_wrD, ↓DL.x_isLst, ↓DL.x_mutL, ↓DL.x_bTo, ↓DL.x_tgSub, ↓DL.x_join, ↓DL.x_isStr, ↓DL.x_partN, ↓DL.x_partS, ↓DL.x_sl, ↓DL.x_prsN, ↓DL.x_prsC, ↓DL.x_disp, DL.v_addI, DL.v_addS, DL.v_addT, DL.v_addL, DL.v_catL, DL.v_sub, DL.v_mod, DL.v_neg, DL.v_ltI, DL.v_leI, DL.v_gtI, DL.v_geI, DL.v_ltS, DL.v_leS, DL.v_eqS, DL.v_eqI, DL.v_eqB, DL.v_neS, DL.v_neI, DL.v_neB, DL.v_inS, DL.v_ninS, DL.v_isNN, DL.v_isT, DL.v_isL, DL.v_isS, DL.v_isI, DL.v_isB, DL.v_isNot, DL.v_ixL, DL.v_ixF, DL.v_ixT, DL.v_ixS, DL.v_ixK, DL.v_ixKI, DL.v_at0, DL.v_at1, DL.v_at2, DL.v_lenL, DL.v_lenF, DL.v_lenT, DL.v_lenS, DL.v_lenK, DL.v_lstL, DL.v_lstT, DL.v_lstF, DL.v_tupL, DL.v_tupT, DL.v_tupF, DL.v_cutL, DL.v_cutT, DL.v_cutS, DL.v_app, DL.v_ext, DL.v_truN, DL.v_truB, DL.v_truI, DL.v_truT, DL.v_truL, DL.v_truS, DL.v_rep, DL.v_mulS, DL.v_mulI, DL.v_setL, ↓DL.x_bUo, ↓DL.x_cStep, ↓DL.x_compN, ↓DL.x_bHn, ↓DL.x_bHc, ↓DL.x_bHb, ↓DL.x_bHr, ↓DL.x_bHx, ↓DL.x_bHd, ↓DL.x_fStep, ↓DL.x_bX, ↓DL.x_sortSet, ↓DL.x_tgU, ↓DL.x_bJ, ↓DL.x_chain, DL.v_isi, ↓DL.x_bY, ↓DL.x_pop, DL.v_pop, DL.v_inT, DL.v_rev, DL.v_notInT, ↓DL.x_sBad, ↓DL.x_eBad, ↓DL.x_setTx, ↓DL.x_sortSetS, DL.v_revS, DL.v_listXs, DL.v_listXt, DL.v_listXl, ↓DL.x_enumS1, ↓DL.x_enumSt, List.getElem?_cons_zero, List.getElem?_cons_succ, List.set_cons_zero, List.set_cons_succ, b__law_places_3, hw, hi]
      have h2 := ih (q + 1) (fs ++ [q]) (by omega) (by simp; omega)
      cases hp2 : posL v (U.drop (q + 1)) (q + 1) with
      | none =>
        rw [hp2] at h2
        obtain ⟨st, h2⟩ := h2
        refine ⟨st, ?_⟩
        show forL _ _ (.str [c] :: charsD v) _ = _
        rw [forL_step, step]
        exact h2
      | some ns =>
        rw [hp2] at h2
        obtain ⟨q', h2⟩ := h2
        refine ⟨q', ?_⟩
        show forL _ _ (.str [c] :: charsD v) _ = _
        rw [forL_step, step]
        rw [List.append_assoc] at h2
        exact h2
theorem places_ok (w U : List Nat) (S : List D) (hw : w.length ≤ 1000) (hU : U.length ≤ 1000) : den__law_places [.str w, .str U] S = .ok (posD (posL w U 0)) S := by
  have h := lp_loop (S := S) (w := w) (U := U) hU w 0 [] (Nat.zero_le _) (by simpa using hw)
  rw [List.drop_zero] at h
  cases hp : posL w U 0 with
  | none =>
    rw [hp] at h
    obtain ⟨st, e⟩ := h
    simp only [lpS, List.map_nil, Int.ofNat_zero, Int.cast_ofNat_Int] at e
    show _ = Fo.ok .non S
    have e' : forL (tgN 4) b__law_places_3 (charsD w) ⟨[.val (.str w), .val (.str U), .own (.lst []), .val (.int 0), .un], S⟩ = .rt .non ⟨st, S⟩ := e
    simp (disch := first | (simp only [DL.o_non, DL.o_bl, DL.o_int, DL.o_str, DL.o_tup, DL.o_lst, DL.o_fro, DL.o_dct, DL.o_ins, DL.o_fn, List.length_cons, List.length_append, List.length_nil, List.length_singleton]; done) | ((with_reducible refine DL.sz_of ?_); (try simp only [List.length_cons, List.length_append, List.length_map, List.length_nil, List.length_singleton, List.length_take, List.length_drop, List.length_reverse, List.length_replicate]); omega) | (with_reducible assumption)) [den__law_places, c__law_places, ↓DL.x_bNs, ↓DL.x_bNn, ↓DL.x_bEo, ↓DL.x_bEx, ↓DL.x_bEb, ↓DL.x_bFo, ↓DL.x_bFx, ↓DL.x_bFb, ↓DL.x_bOs, ↓DL.x_bOn, ↓DL.x_bPs, ↓DL.x_bPn, ↓DL.x_bQn, ↓DL.x_bQr, ↓DL.x_bQb, ↓DL.x_bQc, ↓DL.x_bQx, ↓DL.x_bQd, ↓DL.x_bWn, ↓DL.x_bWr, ↓DL.x_bWb, ↓DL.x_bWc, ↓DL.x_bWx, ↓DL.x_bWd, ↓DL.x_bBb, ↓DL.x_bIi, ↓DL.x_bCo, ↓DL.x_bCx, ↓DL.x_bCb, ↓DL.x_bRr, ↓DL.x_bRn, ↓DL.x_bRx, ↓DL.x_bAv, ↓DL.x_bAw, ↓DL.x_bind, ↓DL.x_ouF, ↓DL.x_C, ↓DL.x_var, ↓DL.x_slV, ↓DL.x_slW, ↓DL.x_aV, ↓DL.x_aE, ↓DL.x_rdS, ↓DL.x_rdD, ↓DL.x_derefO, ↓DL.x_deref, ↓DL.x_getO, ↓DL.x_getV, ↓DL.x_getW, DL.o_non, DL.o_bl, DL.o_int, DL.o_str, DL.o_tup, DL.o_lst, DL.o_fro, DL.o_dct, DL.o_ins, DL.o_fn, ↓DL.x_bin, ↓DL.x_ofS, ↓DL.x_ofN, ↓DL.x_un, ↓DL.x_argsN, ↓DL.x_argsC, ↓DL.x_tup, ↓DL.x_lst, ↓DL.x_rdLN, ↓DL.x_rdLC, ↓DL.x_argsPN, ↓DL.x_argsPC, ↓DL.x_fun, ↓DL.x_tTru, ↓DL.x_tBool, ↓DL.x_tNt, ↓DL.x_tAn, ↓DL.x_tOr, ↓DL.x_tYs, ↓DL.x_eIf, ↓DL.x_eNt, ↓DL.x_eAnd, ↓DL.x_eOr, ↓DL.x_nil, ↓DL.x_seq, ↓DL.x_if, ↓DL.x_ret, ↓DL.x_retN, ↓DL.x_ex, ↓DL.x_bk, ↓DL.x_ct, ↓DL.x_nxS, ↓DL.x_nxN, ↓DL.x_asg, ↓DL.x_tgN, ↓DL.x_setO, ↓DL.x_setS, ↓DL.x_wipe, ↓DL.x_wipeN, ↓DL.x_wipeC, ↓DL.x_tgT, ↓DL.x_tgsN, ↓DL.x_tgsC, ↓DL.x_forN, ↓DL.x_for, ↓DL.x_par, ↓DL.x_parO, ↓DL.x_retV, ↓DL.x_bVo, ↓DL.x_call, ↓DL.x_fnD, ↓DL.x_retO, DL.v_retO, ↓DL.x_retX, ↓DL.x_comp, ↓DL.x_iSeq, ↓DL.x_itL, ↓DL.x_itF, ↓DL.x_itT, ↓DL.x_itS, ↓DL.x_bG, ↓DL.x_rng1, ↓DL.x_bG2, ↓DL.x_rng2, ↓DL.x_enum, ↓DL.x_sqL, ↓DL.x_sqF, ↓DL.x_sqT, ↓DL.x_bMo, ↓DL.x_bMs, ↓DL.x_wrS, ↓DL.x_wrD, ↓DL.x_isLst, ↓DL.x_mutL, ↓DL.x_bTo, ↓DL.x_tgSub, ↓DL.x_join, ↓DL.x_isStr, ↓DL.x_partN, ↓DL.x_partS, ↓DL.x_sl, ↓DL.x_prsN, ↓DL.x_prsC, ↓DL.x_disp, DL.v_addI, DL.v_addS, DL.v_addT, DL.v_addL, DL.v_catL, DL.v_sub, DL.v_mod, DL.v_neg, DL.v_ltI, DL.v_leI, DL.v_gtI, DL.v_geI, DL.v_ltS, DL.v_leS, DL.v_eqS, DL.v_eqI, DL.v_eqB, DL.v_neS, DL.v_neI, DL.v_neB, DL.v_inS, DL.v_ninS, DL.v_isNN, DL.v_isT, DL.v_isL, DL.v_isS, DL.v_isI, DL.v_isB, DL.v_isNot, DL.v_ixL, DL.v_ixF, DL.v_ixT, DL.v_ixS, DL.v_ixK, DL.v_ixKI, DL.v_at0, DL.v_at1, DL.v_at2, DL.v_lenL, DL.v_lenF, DL.v_lenT, DL.v_lenS, DL.v_lenK, DL.v_lstL, DL.v_lstT, DL.v_lstF, DL.v_tupL, DL.v_tupT, DL.v_tupF, DL.v_cutL, DL.v_cutT, DL.v_cutS, DL.v_app, DL.v_ext, DL.v_truN, DL.v_truB, DL.v_truI, DL.v_truT, DL.v_truL, DL.v_truS, DL.v_rep, DL.v_mulS, DL.v_mulI, DL.v_setL, ↓DL.x_bUo, ↓DL.x_cStep, ↓DL.x_compN, ↓DL.x_bHn, ↓DL.x_bHc, ↓DL.x_bHb, ↓DL.x_bHr, ↓DL.x_bHx, ↓DL.x_bHd, ↓DL.x_fStep, ↓DL.x_bX, ↓DL.x_sortSet, ↓DL.x_tgU, ↓DL.x_bJ, ↓DL.x_chain, DL.v_isi, ↓DL.x_bY, ↓DL.x_pop, DL.v_pop, DL.v_inT, DL.v_rev, DL.v_notInT, ↓DL.x_sBad, ↓DL.x_eBad, ↓DL.x_setTx, ↓DL.x_sortSetS, DL.v_revS, DL.v_listXs, DL.v_listXt, DL.v_listXl, ↓DL.x_enumS1, ↓DL.x_enumSt, List.getElem?_cons_zero, List.getElem?_cons_succ, List.set_cons_zero, List.set_cons_succ, e']
  | some ns =>
    rw [hp] at h
    obtain ⟨q, e⟩ := h
    simp only [lpS, List.nil_append] at e
    show _ = Fo.ok (.tup (ns.map natD)) S
    generalize ns.map natD = X at e
    have e' : forL (tgN 4) b__law_places_3 (charsD w) ⟨[.val (.str w), .val (.str U), .own (.lst []), .val (.int 0), .un], S⟩ = .nx ⟨[.val (.str w), .val (.str U), .own (.lst X), .val (.int q), .un], S⟩ := e
    simp (disch := first | (simp only [DL.o_non, DL.o_bl, DL.o_int, DL.o_str, DL.o_tup, DL.o_lst, DL.o_fro, DL.o_dct, DL.o_ins, DL.o_fn, List.length_cons, List.length_append, List.length_nil, List.length_singleton]; done) | ((with_reducible refine DL.sz_of ?_); (try simp only [List.length_cons, List.length_append, List.length_map, List.length_nil, List.length_singleton, List.length_take, List.length_drop, List.length_reverse, List.length_replicate]); omega) | (with_reducible assumption)) [den__law_places, c__law_places, ↓DL.x_bNs, ↓DL.x_bNn, ↓DL.x_bEo, ↓DL.x_bEx, ↓DL.x_bEb, ↓DL.x_bFo, ↓DL.x_bFx, ↓DL.x_bFb, ↓DL.x_bOs, ↓DL.x_bOn, ↓DL.x_bPs, ↓DL.x_bPn, ↓DL.x_bQn, ↓DL.x_bQr, ↓DL.x_bQb, ↓DL.x_bQc, ↓DL.x_bQx, ↓DL.x_bQd, ↓DL.x_bWn, ↓DL.x_bWr, ↓DL.x_bWb, ↓DL.x_bWc, ↓DL.x_bWx, ↓DL.x_bWd, ↓DL.x_bBb, ↓DL.x_bIi, ↓DL.x_bCo, ↓DL.x_bCx, ↓DL.x_bCb, ↓DL.x_bRr, ↓DL.x_bRn, ↓DL.x_bRx, ↓DL.x_bAv, ↓DL.x_bAw, ↓DL.x_bind, ↓DL.x_ouF, ↓DL.x_C, ↓DL.x_var, ↓DL.x_slV, ↓DL.x_slW, ↓DL.x_aV, ↓DL.x_aE, ↓DL.x_rdS, ↓DL.x_rdD, ↓DL.x_derefO, ↓DL.x_deref, ↓DL.x_getO, ↓DL.x_getV, ↓DL.x_getW, DL.o_non, DL.o_bl, DL.o_int, DL.o_str, DL.o_tup, DL.o_lst, DL.o_fro, DL.o_dct, DL.o_ins, DL.o_fn, ↓DL.x_bin, ↓DL.x_ofS, ↓DL.x_ofN, ↓DL.x_un, ↓DL.x_argsN, ↓DL.x_argsC, ↓DL.x_tup, ↓DL.x_lst, ↓DL.x_rdLN, ↓DL.x_rdLC, ↓DL.x_argsPN, ↓DL.x_argsPC, ↓DL.x_fun, ↓DL.x_tTru, ↓DL.x_tBool, ↓DL.x_tNt, ↓DL.x_tAn, ↓DL.x_tOr, ↓DL.x_tYs, ↓DL.x_eIf, ↓DL.x_eNt, ↓DL.x_eAnd, ↓DL.x_eOr, ↓DL.x_nil, ↓DL.x_seq, ↓DL.x_if, ↓DL.x_ret, ↓DL.x_retN, ↓DL.x_ex, ↓DL.x_bk, ↓DL.x_ct, ↓DL.x_nxS, ↓DL.x_nxN, ↓DL.x_asg, ↓DL.x_tgN, ↓DL.x_setO, ↓DL.x_setS, ↓DL.x_wipe, ↓DL.x_wipeN, ↓DL.x_wipeC, ↓DL.x_tgT, ↓DL.x_tgsN, ↓DL.x_tgsC, ↓DL.x_forN, ↓DL.x_for, ↓DL.x_par, ↓DL.x_parO, ↓DL.x_retV, ↓DL.x_bVo, ↓DL.x_call, ↓DL.x_fnD, ↓DL.x_retO, DL.v_retO, ↓DL.x_retX, ↓DL.x_comp, ↓DL.x_iSeq, ↓DL.x_itL, ↓DL.x_itF, ↓DL.x_itT, ↓DL.x_itS, ↓DL.x_bG, ↓DL.x_rng1, ↓DL.x_bG2, ↓DL.x_rng2, ↓DL.x_enum, ↓DL.x_sqL, ↓DL.x_sqF, ↓DL.x_sqT, ↓DL.x_bMo, ↓DL.x_bMs, ↓DL.x_wrS, ↓DL.x_wrD, ↓DL.x_isLst, ↓DL.x_mutL, ↓DL.x_bTo, ↓DL.x_tgSub, ↓DL.x_join, ↓DL.x_isStr, ↓DL.x_partN, ↓DL.x_partS, ↓DL.x_sl, ↓DL.x_prsN, ↓DL.x_prsC, ↓DL.x_disp, DL.v_addI, DL.v_addS, DL.v_addT, DL.v_addL, DL.v_catL, DL.v_sub, DL.v_mod, DL.v_neg, DL.v_ltI, DL.v_leI, DL.v_gtI, DL.v_geI, DL.v_ltS, DL.v_leS, DL.v_eqS, DL.v_eqI, DL.v_eqB, DL.v_neS, DL.v_neI, DL.v_neB, DL.v_inS, DL.v_ninS, DL.v_isNN, DL.v_isT, DL.v_isL, DL.v_isS, DL.v_isI, DL.v_isB, DL.v_isNot, DL.v_ixL, DL.v_ixF, DL.v_ixT, DL.v_ixS, DL.v_ixK, DL.v_ixKI, DL.v_at0, DL.v_at1, DL.v_at2, DL.v_lenL, DL.v_lenF, DL.v_lenT, DL.v_lenS, DL.v_lenK, DL.v_lstL, DL.v_lstT, DL.v_lstF, DL.v_tupL, DL.v_tupT, DL.v_tupF, DL.v_cutL, DL.v_cutT, DL.v_cutS, DL.v_app, DL.v_ext, DL.v_truN, DL.v_truB, DL.v_truI, DL.v_truT, DL.v_truL, DL.v_truS, DL.v_rep, DL.v_mulS, DL.v_mulI, DL.v_setL, ↓DL.x_bUo, ↓DL.x_cStep, ↓DL.x_compN, ↓DL.x_bHn, ↓DL.x_bHc, ↓DL.x_bHb, ↓DL.x_bHr, ↓DL.x_bHx, ↓DL.x_bHd, ↓DL.x_fStep, ↓DL.x_bX, ↓DL.x_sortSet, ↓DL.x_tgU, ↓DL.x_bJ, ↓DL.x_chain, DL.v_isi, ↓DL.x_bY, ↓DL.x_pop, DL.v_pop, DL.v_inT, DL.v_rev, DL.v_notInT, ↓DL.x_sBad, ↓DL.x_eBad, ↓DL.x_setTx, ↓DL.x_sortSetS, DL.v_revS, DL.v_listXs, DL.v_listXt, DL.v_listXl, ↓DL.x_enumS1, ↓DL.x_enumSt, List.getElem?_cons_zero, List.getElem?_cons_succ, List.set_cons_zero, List.set_cons_succ, e']
end
end
end DM
/-! MG: reduce_product; the law's own holds. -/
namespace DM
noncomputable section
open PySem PySem.Spec PyProof.Rows L2 DL
theorem eqD_strs (x : List Nat) : eqD (.lst (x.map strD)) (.lst []) = some (.bl x.isEmpty) := by
  have h1 : ∀ x : List Nat, plL (x.map strD) = true ∧ depL (x.map strD) = 0 := by
    intro x
    induction x with
    | nil => exact ⟨rfl, rfl⟩
    | cons c x ih => exact ⟨by simp [plL, strD, D.pl, ih.1], by simp [depL, strD, D.dep, ih.2]⟩
  have h : eqOk (.lst (x.map strD)) (.lst []) = true := by
    obtain ⟨a, b⟩ := h1 x
    simp [eqOk, D.pl, D.dep, a, b, plL, depL]
  unfold eqD
  rw [if_pos h]
  cases x <;> rfl
theorem lholds_ok (g f : Fac) (S : List D) (hf : f.2.length ≤ 1000) : den__law_holds [facD g, facD f] S = .ok (.bl (holdsL g f)) S := by
  have hc := comp_filter (tg := tgN 2) (tt := tBool (eBin notInD (aV 2) (aE (eBin ixD (aV 0) (aE (eC (.int 1))))))) (m := eVar 2) (vs := [2]) (st := ⟨[.val (facD g), .val (facD f), .un], S⟩) strD (fun c => !decide (c ∈ g.2)) strD f.2 (fun c _ => by
    rw [fac_eq g]
    by_cases h : c ∈ g.2
    · simp (disch := first | (simp only [DL.o_non, DL.o_bl, DL.o_int, DL.o_str, DL.o_tup, DL.o_lst, DL.o_fro, DL.o_dct, DL.o_ins, DL.o_fn, List.length_cons, List.length_append, List.length_nil, List.length_singleton]; done) | ((with_reducible refine DL.sz_of ?_); (try simp only [List.length_cons, List.length_append, List.length_map, List.length_nil, List.length_singleton, List.length_take, List.length_drop, List.length_reverse, List.length_replicate]); omega) | (with_reducible assumption)) [↓DL.x_bNs, ↓DL.x_bNn, ↓DL.x_bEo, ↓DL.x_bEx, ↓DL.x_bEb, ↓DL.x_bFo, ↓DL.x_bFx, ↓DL.x_bFb, ↓DL.x_bOs, ↓DL.x_bOn, ↓DL.x_bPs, ↓DL.x_bPn, ↓DL.x_bQn, ↓DL.x_bQr, ↓DL.x_bQb, ↓DL.x_bQc, ↓DL.x_bQx, ↓DL.x_bQd, ↓DL.x_bWn, ↓DL.x_bWr, ↓DL.x_bWb, ↓DL.x_bWc, ↓DL.x_bWx, ↓DL.x_bWd, ↓DL.x_bBb, ↓DL.x_bIi, ↓DL.x_bCo, ↓DL.x_bCx, ↓DL.x_bCb, ↓DL.x_bRr, ↓DL.x_bRn, ↓DL.x_bRx, ↓DL.x_bAv, ↓DL.x_bAw, ↓DL.x_bind, ↓DL.x_ouF, ↓DL.x_C, ↓DL.x_var, ↓DL.x_slV, ↓DL.x_slW, ↓DL.x_aV, ↓DL.x_aE, ↓DL.x_rdS, ↓DL.x_rdD, ↓DL.x_derefO, ↓DL.x_deref, ↓DL.x_getO, ↓DL.x_getV, ↓DL.x_getW, DL.o_non, DL.o_bl, DL.o_int, DL.o_str, DL.o_tup, DL.o_lst, DL.o_fro, DL.o_dct, DL.o_ins, DL.o_fn, ↓DL.x_bin, ↓DL.x_ofS, ↓DL.x_ofN, ↓DL.x_un, ↓DL.x_argsN, ↓DL.x_argsC, ↓DL.x_tup, ↓DL.x_lst, ↓DL.x_rdLN, ↓DL.x_rdLC, ↓DL.x_argsPN, ↓DL.x_argsPC, ↓DL.x_fun, ↓DL.x_tTru, ↓DL.x_tBool, ↓DL.x_tNt, ↓DL.x_tAn, ↓DL.x_tOr, ↓DL.x_tYs, ↓DL.x_eIf, ↓DL.x_eNt, ↓DL.x_eAnd, ↓DL.x_eOr, ↓DL.x_nil, ↓DL.x_seq, ↓DL.x_if, ↓DL.x_ret, ↓DL.x_retN, ↓DL.x_ex, ↓DL.x_bk, ↓DL.x_ct, ↓DL.x_nxS, ↓DL.x_nxN, ↓DL.x_asg, ↓DL.x_tgN, ↓DL.x_setO, ↓DL.x_setS, ↓DL.x_wipe, ↓DL.x_wipeN, ↓DL.x_wipeC, ↓DL.x_tgT, ↓DL.x_tgsN, ↓DL.x_tgsC, ↓DL.x_forN, ↓DL.x_for, ↓DL.x_par, ↓DL.x_parO, ↓DL.x_retV, ↓DL.x_bVo, ↓DL.x_call, ↓DL.x_fnD, ↓DL.x_retO, DL.v_retO, ↓DL.x_retX, ↓DL.x_comp, ↓DL.x_iSeq, ↓DL.x_itL, ↓DL.x_itF, ↓DL.x_itT, ↓DL.x_itS, ↓DL.x_bG, ↓DL.x_rng1, ↓DL.x_bG2, ↓DL.x_rng2, ↓DL.x_enum, ↓DL.x_sqL, ↓DL.x_sqF, ↓DL.x_sqT, ↓DL.x_bMo, ↓DL.x_bMs, ↓DL.x_wrS, ↓DL.x_wrD, ↓DL.x_isLst, ↓DL.x_mutL, ↓DL.x_bTo, ↓DL.x_tgSub, ↓DL.x_join, ↓DL.x_isStr, ↓DL.x_partN, ↓DL.x_partS, ↓DL.x_sl, ↓DL.x_prsN, ↓DL.x_prsC, ↓DL.x_disp, DL.v_addI, DL.v_addS, DL.v_addT, DL.v_addL, DL.v_catL, DL.v_sub, DL.v_mod, DL.v_neg, DL.v_ltI, DL.v_leI, DL.v_gtI, DL.v_geI, DL.v_ltS, DL.v_leS, DL.v_eqS, DL.v_eqI, DL.v_eqB, DL.v_neS, DL.v_neI, DL.v_neB, DL.v_inS, DL.v_ninS, DL.v_isNN, DL.v_isT, DL.v_isL, DL.v_isS, DL.v_isI, DL.v_isB, DL.v_isNot, DL.v_ixL, DL.v_ixF, DL.v_ixT, DL.v_ixS, DL.v_ixK, DL.v_ixKI, DL.v_at0, DL.v_at1, DL.v_at2, DL.v_lenL, DL.v_lenF, DL.v_lenT, DL.v_lenS, DL.v_lenK, DL.v_lstL, DL.v_lstT, DL.v_lstF, DL.v_tupL, DL.v_tupT, DL.v_tupF, DL.v_cutL, DL.v_cutT, DL.v_cutS, DL.v_app, DL.v_ext, DL.v_truN, DL.v_truB, DL.v_truI, DL.v_truT, DL.v_truL, DL.v_truS, DL.v_rep, DL.v_mulS, DL.v_mulI, DL.v_setL, ↓DL.x_bUo, ↓DL.x_cStep, ↓DL.x_compN, ↓DL.x_bHn, ↓DL.x_bHc, ↓DL.x_bHb, ↓DL.x_bHr, ↓DL.x_bHx, ↓DL.x_bHd, ↓DL.x_fStep, ↓DL.x_bX, ↓DL.x_sortSet, ↓DL.x_tgU, ↓DL.x_bJ, ↓DL.x_chain, DL.v_isi, ↓DL.x_bY, ↓DL.x_pop, DL.v_pop, DL.v_inT, DL.v_rev, DL.v_notInT, ↓DL.x_sBad, ↓DL.x_eBad, ↓DL.x_setTx, ↓DL.x_sortSetS, DL.v_revS, DL.v_listXs, DL.v_listXt, DL.v_listXl, ↓DL.x_enumS1, ↓DL.x_enumSt, List.getElem?_cons_zero, List.getElem?_cons_succ, List.set_cons_zero, List.set_cons_succ, strD, h]
    · simp (disch := first | (simp only [DL.o_non, DL.o_bl, DL.o_int, DL.o_str, DL.o_tup, DL.o_lst, DL.o_fro, DL.o_dct, DL.o_ins, DL.o_fn, List.length_cons, List.length_append, List.length_nil, List.length_singleton]; done) | ((with_reducible refine DL.sz_of ?_); (try simp only [List.length_cons, List.length_append, List.length_map, List.length_nil, List.length_singleton, List.length_take, List.length_drop, List.length_reverse, List.length_replicate]); omega) | (with_reducible assumption)) [↓DL.x_bNs, ↓DL.x_bNn, ↓DL.x_bEo, ↓DL.x_bEx, ↓DL.x_bEb, ↓DL.x_bFo, ↓DL.x_bFx, ↓DL.x_bFb, ↓DL.x_bOs, ↓DL.x_bOn, ↓DL.x_bPs, ↓DL.x_bPn, ↓DL.x_bQn, ↓DL.x_bQr, ↓DL.x_bQb, ↓DL.x_bQc, ↓DL.x_bQx, ↓DL.x_bQd, ↓DL.x_bWn, ↓DL.x_bWr, ↓DL.x_bWb, ↓DL.x_bWc, ↓DL.x_bWx, ↓DL.x_bWd, ↓DL.x_bBb, ↓DL.x_bIi, ↓DL.x_bCo, ↓DL.x_bCx, ↓DL.x_bCb, ↓DL.x_bRr, ↓DL.x_bRn, ↓DL.x_bRx, ↓DL.x_bAv, ↓DL.x_bAw, ↓DL.x_bind, ↓DL.x_ouF, ↓DL.x_C, ↓DL.x_var, ↓DL.x_slV, ↓DL.x_slW, ↓DL.x_aV, ↓DL.x_aE, ↓DL.x_rdS, ↓DL.x_rdD, ↓DL.x_derefO, ↓DL.x_deref, ↓DL.x_getO, ↓DL.x_getV, ↓DL.x_getW, DL.o_non, DL.o_bl, DL.o_int, DL.o_str, DL.o_tup, DL.o_lst, DL.o_fro, DL.o_dct, DL.o_ins, DL.o_fn, ↓DL.x_bin, ↓DL.x_ofS, ↓DL.x_ofN, ↓DL.x_un, ↓DL.x_argsN, ↓DL.x_argsC, ↓DL.x_tup, ↓DL.x_lst, ↓DL.x_rdLN, ↓DL.x_rdLC, ↓DL.x_argsPN, ↓DL.x_argsPC, ↓DL.x_fun, ↓DL.x_tTru, ↓DL.x_tBool, ↓DL.x_tNt, ↓DL.x_tAn, ↓DL.x_tOr, ↓DL.x_tYs, ↓DL.x_eIf, ↓DL.x_eNt, ↓DL.x_eAnd, ↓DL.x_eOr, ↓DL.x_nil, ↓DL.x_seq, ↓DL.x_if, ↓DL.x_ret, ↓DL.x_retN, ↓DL.x_ex, ↓DL.x_bk, ↓DL.x_ct, ↓DL.x_nxS, ↓DL.x_nxN, ↓DL.x_asg, ↓DL.x_tgN, ↓DL.x_setO, ↓DL.x_setS, ↓DL.x_wipe, ↓DL.x_wipeN, ↓DL.x_wipeC, ↓DL.x_tgT, ↓DL.x_tgsN, ↓DL.x_tgsC, ↓DL.x_forN, ↓DL.x_for, ↓DL.x_par, ↓DL.x_parO, ↓DL.x_retV, ↓DL.x_bVo, ↓DL.x_call, ↓DL.x_fnD, ↓DL.x_retO, DL.v_retO, ↓DL.x_retX, ↓DL.x_comp, ↓DL.x_iSeq, ↓DL.x_itL, ↓DL.x_itF, ↓DL.x_itT, ↓DL.x_itS, ↓DL.x_bG, ↓DL.x_rng1, ↓DL.x_bG2, ↓DL.x_rng2, ↓DL.x_enum, ↓DL.x_sqL, ↓DL.x_sqF, ↓DL.x_sqT, ↓DL.x_bMo, ↓DL.x_bMs, ↓DL.x_wrS, ↓DL.x_wrD, ↓DL.x_isLst, ↓DL.x_mutL, ↓DL.x_bTo, ↓DL.x_tgSub, ↓DL.x_join, ↓DL.x_isStr, ↓DL.x_partN, ↓DL.x_partS, ↓DL.x_sl, ↓DL.x_prsN, ↓DL.x_prsC, ↓DL.x_disp, DL.v_addI, DL.v_addS, DL.v_addT, DL.v_addL, DL.v_catL, DL.v_sub, DL.v_mod, DL.v_neg, DL.v_ltI, DL.v_leI, DL.v_gtI, DL.v_geI, DL.v_ltS, DL.v_leS, DL.v_eqS, DL.v_eqI, DL.v_eqB, DL.v_neS, DL.v_neI, DL.v_neB, DL.v_inS, DL.v_ninS, DL.v_isNN, DL.v_isT, DL.v_isL, DL.v_isS, DL.v_isI, DL.v_isB, DL.v_isNot, DL.v_ixL, DL.v_ixF, DL.v_ixT, DL.v_ixS, DL.v_ixK, DL.v_ixKI, DL.v_at0, DL.v_at1, DL.v_at2, DL.v_lenL, DL.v_lenF, DL.v_lenT, DL.v_lenS, DL.v_lenK, DL.v_lstL, DL.v_lstT, DL.v_lstF, DL.v_tupL, DL.v_tupT, DL.v_tupF, DL.v_cutL, DL.v_cutT, DL.v_cutS, DL.v_app, DL.v_ext, DL.v_truN, DL.v_truB, DL.v_truI, DL.v_truT, DL.v_truL, DL.v_truS, DL.v_rep, DL.v_mulS, DL.v_mulI, DL.v_setL, ↓DL.x_bUo, ↓DL.x_cStep, ↓DL.x_compN, ↓DL.x_bHn, ↓DL.x_bHc, ↓DL.x_bHb, ↓DL.x_bHr, ↓DL.x_bHx, ↓DL.x_bHd, ↓DL.x_fStep, ↓DL.x_bX, ↓DL.x_sortSet, ↓DL.x_tgU, ↓DL.x_bJ, ↓DL.x_chain, DL.v_isi, ↓DL.x_bY, ↓DL.x_pop, DL.v_pop, DL.v_inT, DL.v_rev, DL.v_notInT, ↓DL.x_sBad, ↓DL.x_eBad, ↓DL.x_setTx, ↓DL.x_sortSetS, DL.v_revS, DL.v_listXs, DL.v_listXt, DL.v_listXl, ↓DL.x_enumS1, ↓DL.x_enumSt, List.getElem?_cons_zero, List.getElem?_cons_succ, List.set_cons_zero, List.set_cons_succ, strD, h]) (by omega)
  have he := eqD_strs (f.2.filter fun c => !decide (c ∈ g.2))
  have hh : (f.2.filter fun c => !decide (c ∈ g.2)).isEmpty = f.2.all fun c => decide (c ∈ g.2) := by
    rw [Bool.eq_iff_iff]
    simp [List.filter_eq_nil_iff]
  rw [hh] at he
  simp only [fac_eq] at hc ⊢
  obtain ⟨b, l⟩ := g
  cases b with
  | true =>
    simp only [if_true] at hc ⊢
    simp (disch := first | (simp only [DL.o_non, DL.o_bl, DL.o_int, DL.o_str, DL.o_tup, DL.o_lst, DL.o_fro, DL.o_dct, DL.o_ins, DL.o_fn, List.length_cons, List.length_append, List.length_nil, List.length_singleton]; done) | ((with_reducible refine DL.sz_of ?_); (try simp only [List.length_cons, List.length_append, List.length_map, List.length_nil, List.length_singleton, List.length_take, List.length_drop, List.length_reverse, List.length_replicate]); omega) | (with_reducible assumption)) [den__law_holds, c__law_holds, q__law_holds_1, ↓DL.x_bNs, ↓DL.x_bNn, ↓DL.x_bEo, ↓DL.x_bEx, ↓DL.x_bEb, ↓DL.x_bFo, ↓DL.x_bFx, ↓DL.x_bFb, ↓DL.x_bOs, ↓DL.x_bOn, ↓DL.x_bPs, ↓DL.x_bPn, ↓DL.x_bQn, ↓DL.x_bQr, ↓DL.x_bQb, ↓DL.x_bQc, ↓DL.x_bQx, ↓DL.x_bQd, ↓DL.x_bWn, ↓DL.x_bWr, ↓DL.x_bWb, ↓DL.x_bWc, ↓DL.x_bWx, ↓DL.x_bWd, ↓DL.x_bBb, ↓DL.x_bIi, ↓DL.x_bCo, ↓DL.x_bCx, ↓DL.x_bCb, ↓DL.x_bRr, ↓DL.x_bRn, ↓DL.x_bRx, ↓DL.x_bAv, ↓DL.x_bAw, ↓DL.x_bind, ↓DL.x_ouF, ↓DL.x_C, ↓DL.x_var, ↓DL.x_slV, ↓DL.x_slW, ↓DL.x_aV, ↓DL.x_aE, ↓DL.x_rdS, ↓DL.x_rdD, ↓DL.x_derefO, ↓DL.x_deref, ↓DL.x_getO, ↓DL.x_getV, ↓DL.x_getW, DL.o_non, DL.o_bl, DL.o_int, DL.o_str, DL.o_tup, DL.o_lst, DL.o_fro, DL.o_dct, DL.o_ins, DL.o_fn, ↓DL.x_bin, ↓DL.x_ofS, ↓DL.x_ofN, ↓DL.x_un, ↓DL.x_argsN, ↓DL.x_argsC, ↓DL.x_tup, ↓DL.x_lst, ↓DL.x_rdLN, ↓DL.x_rdLC, ↓DL.x_argsPN, ↓DL.x_argsPC, ↓DL.x_fun, ↓DL.x_tTru, ↓DL.x_tBool, ↓DL.x_tNt, ↓DL.x_tAn, ↓DL.x_tOr, ↓DL.x_tYs, ↓DL.x_eIf, ↓DL.x_eNt, ↓DL.x_eAnd, ↓DL.x_eOr, ↓DL.x_nil, ↓DL.x_seq, ↓DL.x_if, ↓DL.x_ret, ↓DL.x_retN, ↓DL.x_ex, ↓DL.x_bk, ↓DL.x_ct, ↓DL.x_nxS, ↓DL.x_nxN, ↓DL.x_asg, ↓DL.x_tgN, ↓DL.x_setO, ↓DL.x_setS, ↓DL.x_wipe, ↓DL.x_wipeN, ↓DL.x_wipeC, ↓DL.x_tgT, ↓DL.x_tgsN, ↓DL.x_tgsC, ↓DL.x_forN, ↓DL.x_for, ↓DL.x_par, ↓DL.x_parO, ↓DL.x_retV, ↓DL.x_bVo, ↓DL.x_call, ↓DL.x_fnD, ↓DL.x_retO, DL.v_retO, ↓DL.x_retX, ↓DL.x_comp, ↓DL.x_iSeq, ↓DL.x_itL, ↓DL.x_itF, ↓DL.x_itT, ↓DL.x_itS, ↓DL.x_bG, ↓DL.x_rng1, ↓DL.x_bG2, ↓DL.x_rng2, ↓DL.x_enum, ↓DL.x_sqL, ↓DL.x_sqF, ↓DL.x_sqT, ↓DL.x_bMo, ↓DL.x_bMs, ↓DL.x_wrS, ↓DL.x_wrD, ↓DL.x_isLst, ↓DL.x_mutL, ↓DL.x_bTo, ↓DL.x_tgSub, ↓DL.x_join, ↓DL.x_isStr, ↓DL.x_partN, ↓DL.x_partS, ↓DL.x_sl, ↓DL.x_prsN, ↓DL.x_prsC, ↓DL.x_disp, DL.v_addI, DL.v_addS, DL.v_addT, DL.v_addL, DL.v_catL, DL.v_sub, DL.v_mod, DL.v_neg, DL.v_ltI, DL.v_leI, DL.v_gtI, DL.v_geI, DL.v_ltS, DL.v_leS, DL.v_eqS, DL.v_eqI, DL.v_eqB, DL.v_neS, DL.v_neI, DL.v_neB, DL.v_inS, DL.v_ninS, DL.v_isNN, DL.v_isT, DL.v_isL, DL.v_isS, DL.v_isI, DL.v_isB, DL.v_isNot, DL.v_ixL, DL.v_ixF, DL.v_ixT, DL.v_ixS, DL.v_ixK, DL.v_ixKI, DL.v_at0, DL.v_at1, DL.v_at2, DL.v_lenL, DL.v_lenF, DL.v_lenT, DL.v_lenS, DL.v_lenK, DL.v_lstL, DL.v_lstT, DL.v_lstF, DL.v_tupL, DL.v_tupT, DL.v_tupF, DL.v_cutL, DL.v_cutT, DL.v_cutS, DL.v_app, DL.v_ext, DL.v_truN, DL.v_truB, DL.v_truI, DL.v_truT, DL.v_truL, DL.v_truS, DL.v_rep, DL.v_mulS, DL.v_mulI, DL.v_setL, ↓DL.x_bUo, ↓DL.x_cStep, ↓DL.x_compN, ↓DL.x_bHn, ↓DL.x_bHc, ↓DL.x_bHb, ↓DL.x_bHr, ↓DL.x_bHx, ↓DL.x_bHd, ↓DL.x_fStep, ↓DL.x_bX, ↓DL.x_sortSet, ↓DL.x_tgU, ↓DL.x_bJ, ↓DL.x_chain, DL.v_isi, ↓DL.x_bY, ↓DL.x_pop, DL.v_pop, DL.v_inT, DL.v_rev, DL.v_notInT, ↓DL.x_sBad, ↓DL.x_eBad, ↓DL.x_setTx, ↓DL.x_sortSetS, DL.v_revS, DL.v_listXs, DL.v_listXt, DL.v_listXl, ↓DL.x_enumS1, ↓DL.x_enumSt, List.getElem?_cons_zero, List.getElem?_cons_succ, List.set_cons_zero, List.set_cons_succ, charsD_eq, hc, he, holdsL]
  | false =>
    simp only [if_false, Bool.false_eq_true] at hc ⊢
    simp (disch := first | (simp only [DL.o_non, DL.o_bl, DL.o_int, DL.o_str, DL.o_tup, DL.o_lst, DL.o_fro, DL.o_dct, DL.o_ins, DL.o_fn, List.length_cons, List.length_append, List.length_nil, List.length_singleton]; done) | ((with_reducible refine DL.sz_of ?_); (try simp only [List.length_cons, List.length_append, List.length_map, List.length_nil, List.length_singleton, List.length_take, List.length_drop, List.length_reverse, List.length_replicate]); omega) | (with_reducible assumption)) [den__law_holds, c__law_holds, q__law_holds_1, ↓DL.x_bNs, ↓DL.x_bNn, ↓DL.x_bEo, ↓DL.x_bEx, ↓DL.x_bEb, ↓DL.x_bFo, ↓DL.x_bFx, ↓DL.x_bFb, ↓DL.x_bOs, ↓DL.x_bOn, ↓DL.x_bPs, ↓DL.x_bPn, ↓DL.x_bQn, ↓DL.x_bQr, ↓DL.x_bQb, ↓DL.x_bQc, ↓DL.x_bQx, ↓DL.x_bQd, ↓DL.x_bWn, ↓DL.x_bWr, ↓DL.x_bWb, ↓DL.x_bWc, ↓DL.x_bWx, ↓DL.x_bWd, ↓DL.x_bBb, ↓DL.x_bIi, ↓DL.x_bCo, ↓DL.x_bCx, ↓DL.x_bCb, ↓DL.x_bRr, ↓DL.x_bRn, ↓DL.x_bRx, ↓DL.x_bAv, ↓DL.x_bAw, ↓DL.x_bind, ↓DL.x_ouF, ↓DL.x_C, ↓DL.x_var, ↓DL.x_slV, ↓DL.x_slW, ↓DL.x_aV, ↓DL.x_aE, ↓DL.x_rdS, ↓DL.x_rdD, ↓DL.x_derefO, ↓DL.x_deref, ↓DL.x_getO, ↓DL.x_getV, ↓DL.x_getW, DL.o_non, DL.o_bl, DL.o_int, DL.o_str, DL.o_tup, DL.o_lst, DL.o_fro, DL.o_dct, DL.o_ins, DL.o_fn, ↓DL.x_bin, ↓DL.x_ofS, ↓DL.x_ofN, ↓DL.x_un, ↓DL.x_argsN, ↓DL.x_argsC, ↓DL.x_tup, ↓DL.x_lst, ↓DL.x_rdLN, ↓DL.x_rdLC, ↓DL.x_argsPN, ↓DL.x_argsPC, ↓DL.x_fun, ↓DL.x_tTru, ↓DL.x_tBool, ↓DL.x_tNt, ↓DL.x_tAn, ↓DL.x_tOr, ↓DL.x_tYs, ↓DL.x_eIf, ↓DL.x_eNt, ↓DL.x_eAnd, ↓DL.x_eOr, ↓DL.x_nil, ↓DL.x_seq, ↓DL.x_if, ↓DL.x_ret, ↓DL.x_retN, ↓DL.x_ex, ↓DL.x_bk, ↓DL.x_ct, ↓DL.x_nxS, ↓DL.x_nxN, ↓DL.x_asg, ↓DL.x_tgN, ↓DL.x_setO, ↓DL.x_setS, ↓DL.x_wipe, ↓DL.x_wipeN, ↓DL.x_wipeC, ↓DL.x_tgT, ↓DL.x_tgsN, ↓DL.x_tgsC, ↓DL.x_forN, ↓DL.x_for, ↓DL.x_par, ↓DL.x_parO, ↓DL.x_retV, ↓DL.x_bVo, ↓DL.x_call, ↓DL.x_fnD, ↓DL.x_retO, DL.v_retO, ↓DL.x_retX, ↓DL.x_comp, ↓DL.x_iSeq, ↓DL.x_itL, ↓DL.x_itF, ↓DL.x_itT, ↓DL.x_itS, ↓DL.x_bG, ↓DL.x_rng1, ↓DL.x_bG2, ↓DL.x_rng2, ↓DL.x_enum, ↓DL.x_sqL, ↓DL.x_sqF, ↓DL.x_sqT, ↓DL.x_bMo, ↓DL.x_bMs, ↓DL.x_wrS, ↓DL.x_wrD, ↓DL.x_isLst, ↓DL.x_mutL, ↓DL.x_bTo, ↓DL.x_tgSub, ↓DL.x_join, ↓DL.x_isStr, ↓DL.x_partN, ↓DL.x_partS, ↓DL.x_sl, ↓DL.x_prsN, ↓DL.x_prsC, ↓DL.x_disp, DL.v_addI, DL.v_addS, DL.v_addT, DL.v_addL, DL.v_catL, DL.v_sub, DL.v_mod, DL.v_neg, DL.v_ltI, DL.v_leI, DL.v_gtI, DL.v_geI, DL.v_ltS, DL.v_leS, DL.v_eqS, DL.v_eqI, DL.v_eqB, DL.v_neS, DL.v_neI, DL.v_neB, DL.v_inS, DL.v_ninS, DL.v_isNN, DL.v_isT, DL.v_isL, DL.v_isS, DL.v_isI, DL.v_isB, DL.v_isNot, DL.v_ixL, DL.v_ixF, DL.v_ixT, DL.v_ixS, DL.v_ixK, DL.v_ixKI, DL.v_at0, DL.v_at1, DL.v_at2, DL.v_lenL, DL.v_lenF, DL.v_lenT, DL.v_lenS, DL.v_lenK, DL.v_lstL, DL.v_lstT, DL.v_lstF, DL.v_tupL, DL.v_tupT, DL.v_tupF, DL.v_cutL, DL.v_cutT, DL.v_cutS, DL.v_app, DL.v_ext, DL.v_truN, DL.v_truB, DL.v_truI, DL.v_truT, DL.v_truL, DL.v_truS, DL.v_rep, DL.v_mulS, DL.v_mulI, DL.v_setL, ↓DL.x_bUo, ↓DL.x_cStep, ↓DL.x_compN, ↓DL.x_bHn, ↓DL.x_bHc, ↓DL.x_bHb, ↓DL.x_bHr, ↓DL.x_bHx, ↓DL.x_bHd, ↓DL.x_fStep, ↓DL.x_bX, ↓DL.x_sortSet, ↓DL.x_tgU, ↓DL.x_bJ, ↓DL.x_chain, DL.v_isi, ↓DL.x_bY, ↓DL.x_pop, DL.v_pop, DL.v_inT, DL.v_rev, DL.v_notInT, ↓DL.x_sBad, ↓DL.x_eBad, ↓DL.x_setTx, ↓DL.x_sortSetS, DL.v_revS, DL.v_listXs, DL.v_listXt, DL.v_listXl, ↓DL.x_enumS1, ↓DL.x_enumSt, List.getElem?_cons_zero, List.getElem?_cons_succ, List.set_cons_zero, List.set_cons_succ, holdsL]
/-! reduce_product -/
def rdS (p fs : List Fac) (w : Sl) (S : List D) : Sts := ⟨[.val (prodD p), .own (.lst (fs.map facD)), w], S⟩
theorem at_neg1 {α : Type} (xs : List α) (v : α) : L2.atI (xs ++ [v]) (-1) = some v := by
  unfold L2.atI L2.ixN
  rw [if_neg (by omega)]
  have h : -(((xs ++ [v]).length : Nat) : Int) ≤ -1 := by simp; omega
  rw [if_pos h]
  have e : (-1 + (((xs ++ [v]).length : Nat) : Int)).toNat = xs.length := by simp; omega
  show (xs ++ [v])[(-1 + (((xs ++ [v]).length : Nat) : Int)).toNat]? = _
  rw [e]
  simp
theorem neD_nilF (fs : List Fac) : neD (.lst (fs.map facD)) (.lst []) = some (.bl (!fs.isEmpty)) := by
  have h : eqOk (.lst (fs.map facD)) (.lst []) = true := by
    have h1 := plL_map fs
    have h2 := depL_map fs
    simp [eqOk, D.pl, D.dep, h1, plL, depL]
    omega
  unfold neD
  rw [if_pos h]
  cases fs <;> rfl
theorem eqD_nilF (fs : List Fac) : eqD (.lst (fs.map facD)) (.lst []) = some (.bl fs.isEmpty) := by
  have h : eqOk (.lst (fs.map facD)) (.lst []) = true := by
    have h1 := plL_map fs
    have h2 := depL_map fs
    simp [eqOk, D.pl, D.dep, h1, plL, depL]
    omega
  unfold eqD
  rw [if_pos h]
  cases fs <;> rfl
theorem isObj_fac (f : Fac) : isObj (facD f) = false := by rw [fac_eq]; rfl
theorem rd_test (p : List Fac) (st : List Fac) (f : Fac) (S : List D) (hl : ∀ g ∈ st, g.2.length ≤ 1000) : t_reduce_product_2 (rdS p st.reverse (.val (facD f)) S) = .ok (match st with
    | [] => false
    | g :: _ => holdsL f g) (rdS p st.reverse (.val (facD f)) S) := by
  cases st with
  | nil =>
    have h := neD_nilF []
    simp only [List.map_nil] at h
    simp (disch := first | (simp only [DL.o_non, DL.o_bl, DL.o_int, DL.o_str, DL.o_tup, DL.o_lst, DL.o_fro, DL.o_dct, DL.o_ins, DL.o_fn, List.length_cons, List.length_append, List.length_nil, List.length_singleton]; done) | ((with_reducible refine DL.sz_of ?_); (try simp only [List.length_cons, List.length_append, List.length_map, List.length_nil, List.length_singleton, List.length_take, List.length_drop, List.length_reverse, List.length_replicate]); omega) | (with_reducible assumption)) [t_reduce_product_2, rdS, ↓DL.x_bNs, ↓DL.x_bNn, ↓DL.x_bEo, ↓DL.x_bEx, ↓DL.x_bEb, ↓DL.x_bFo, ↓DL.x_bFx, ↓DL.x_bFb, ↓DL.x_bOs, ↓DL.x_bOn, ↓DL.x_bPs, ↓DL.x_bPn, ↓DL.x_bQn, ↓DL.x_bQr, ↓DL.x_bQb, ↓DL.x_bQc, ↓DL.x_bQx, ↓DL.x_bQd, ↓DL.x_bWn, ↓DL.x_bWr, ↓DL.x_bWb, ↓DL.x_bWc, ↓DL.x_bWx, ↓DL.x_bWd, ↓DL.x_bBb, ↓DL.x_bIi, ↓DL.x_bCo, ↓DL.x_bCx, ↓DL.x_bCb, ↓DL.x_bRr, ↓DL.x_bRn, ↓DL.x_bRx, ↓DL.x_bAv, ↓DL.x_bAw, ↓DL.x_bind, ↓DL.x_ouF, ↓DL.x_C, ↓DL.x_var, ↓DL.x_slV, ↓DL.x_slW, ↓DL.x_aV, ↓DL.x_aE, ↓DL.x_rdS, ↓DL.x_rdD, ↓DL.x_derefO, ↓DL.x_deref, ↓DL.x_getO, ↓DL.x_getV, ↓DL.x_getW, DL.o_non, DL.o_bl, DL.o_int, DL.o_str, DL.o_tup, DL.o_lst, DL.o_fro, DL.o_dct, DL.o_ins, DL.o_fn, ↓DL.x_bin, ↓DL.x_ofS, ↓DL.x_ofN, ↓DL.x_un, ↓DL.x_argsN, ↓DL.x_argsC, ↓DL.x_tup, ↓DL.x_lst, ↓DL.x_rdLN, ↓DL.x_rdLC, ↓DL.x_argsPN, ↓DL.x_argsPC, ↓DL.x_fun, ↓DL.x_tTru, ↓DL.x_tBool, ↓DL.x_tNt, ↓DL.x_tAn, ↓DL.x_tOr, ↓DL.x_tYs, ↓DL.x_eIf, ↓DL.x_eNt, ↓DL.x_eAnd, ↓DL.x_eOr, ↓DL.x_nil, ↓DL.x_seq, ↓DL.x_if, ↓DL.x_ret, ↓DL.x_retN, ↓DL.x_ex, ↓DL.x_bk, ↓DL.x_ct, ↓DL.x_nxS, ↓DL.x_nxN, ↓DL.x_asg, ↓DL.x_tgN, ↓DL.x_setO, ↓DL.x_setS, ↓DL.x_wipe, ↓DL.x_wipeN, ↓DL.x_wipeC, ↓DL.x_tgT, ↓DL.x_tgsN, ↓DL.x_tgsC, ↓DL.x_forN, ↓DL.x_for, ↓DL.x_par, ↓DL.x_parO, ↓DL.x_retV, ↓DL.x_bVo, ↓DL.x_call, ↓DL.x_fnD, ↓DL.x_retO, DL.v_retO, ↓DL.x_retX, ↓DL.x_comp, ↓DL.x_iSeq, ↓DL.x_itL, ↓DL.x_itF, ↓DL.x_itT, ↓DL.x_itS, ↓DL.x_bG, ↓DL.x_rng1, ↓DL.x_bG2, ↓DL.x_rng2, ↓DL.x_enum, ↓DL.x_sqL, ↓DL.x_sqF, ↓DL.x_sqT, ↓DL.x_bMo, ↓DL.x_bMs, ↓DL.x_wrS, ↓DL.x_wrD, ↓DL.x_isLst, ↓DL.x_mutL, ↓DL.x_bTo, ↓DL.x_tgSub, ↓DL.x_join, ↓DL.x_isStr, ↓DL.x_partN, ↓DL.x_partS, ↓DL.x_sl, ↓DL.x_prsN, ↓DL.x_prsC, ↓DL.x_disp, DL.v_addI, DL.v_addS, DL.v_addT, DL.v_addL, DL.v_catL, DL.v_sub, DL.v_mod, DL.v_neg, DL.v_ltI, DL.v_leI, DL.v_gtI, DL.v_geI, DL.v_ltS, DL.v_leS, DL.v_eqS, DL.v_eqI, DL.v_eqB, DL.v_neS, DL.v_neI, DL.v_neB, DL.v_inS, DL.v_ninS, DL.v_isNN, DL.v_isT, DL.v_isL, DL.v_isS, DL.v_isI, DL.v_isB, DL.v_isNot, DL.v_ixL, DL.v_ixF, DL.v_ixT, DL.v_ixS, DL.v_ixK, DL.v_ixKI, DL.v_at0, DL.v_at1, DL.v_at2, DL.v_lenL, DL.v_lenF, DL.v_lenT, DL.v_lenS, DL.v_lenK, DL.v_lstL, DL.v_lstT, DL.v_lstF, DL.v_tupL, DL.v_tupT, DL.v_tupF, DL.v_cutL, DL.v_cutT, DL.v_cutS, DL.v_app, DL.v_ext, DL.v_truN, DL.v_truB, DL.v_truI, DL.v_truT, DL.v_truL, DL.v_truS, DL.v_rep, DL.v_mulS, DL.v_mulI, DL.v_setL, ↓DL.x_bUo, ↓DL.x_cStep, ↓DL.x_compN, ↓DL.x_bHn, ↓DL.x_bHc, ↓DL.x_bHb, ↓DL.x_bHr, ↓DL.x_bHx, ↓DL.x_bHd, ↓DL.x_fStep, ↓DL.x_bX, ↓DL.x_sortSet, ↓DL.x_tgU, ↓DL.x_bJ, ↓DL.x_chain, DL.v_isi, ↓DL.x_bY, ↓DL.x_pop, DL.v_pop, DL.v_inT, DL.v_rev, DL.v_notInT, ↓DL.x_sBad, ↓DL.x_eBad, ↓DL.x_setTx, ↓DL.x_sortSetS, DL.v_revS, DL.v_listXs, DL.v_listXt, DL.v_listXl, ↓DL.x_enumS1, ↓DL.x_enumSt, List.getElem?_cons_zero, List.getElem?_cons_succ, List.set_cons_zero, List.set_cons_succ, h]
  | cons g st =>
    have h := neD_nilF (st.reverse ++ [g])
    have h2 := at_neg1 (st.reverse.map facD) (facD g)
    have h3 := holds_ok f g S (hl g List.mem_cons_self)
    have e : (g :: st).reverse.map facD = st.reverse.map facD ++ [facD g] := by simp
    rw [List.map_append, List.map_cons, List.map_nil] at h
    have hn : (st.reverse ++ [g]).isEmpty = false := by simp
    rw [hn] at h
    unfold rdS
    rw [e]
    generalize hX : st.reverse.map facD = X at h h2
    simp only [fac_eq] at h h2 h3 ⊢
    simp (disch := first | (simp only [DL.o_non, DL.o_bl, DL.o_int, DL.o_str, DL.o_tup, DL.o_lst, DL.o_fro, DL.o_dct, DL.o_ins, DL.o_fn, List.length_cons, List.length_append, List.length_nil, List.length_singleton]; done) | ((with_reducible refine DL.sz_of ?_); (try simp only [List.length_cons, List.length_append, List.length_map, List.length_nil, List.length_singleton, List.length_take, List.length_drop, List.length_reverse, List.length_replicate]); omega) | (with_reducible assumption)) [t_reduce_product_2, ↓DL.x_bNs, ↓DL.x_bNn, ↓DL.x_bEo, ↓DL.x_bEx, ↓DL.x_bEb, ↓DL.x_bFo, ↓DL.x_bFx, ↓DL.x_bFb, ↓DL.x_bOs, ↓DL.x_bOn, ↓DL.x_bPs, ↓DL.x_bPn, ↓DL.x_bQn, ↓DL.x_bQr, ↓DL.x_bQb, ↓DL.x_bQc, ↓DL.x_bQx, ↓DL.x_bQd, ↓DL.x_bWn, ↓DL.x_bWr, ↓DL.x_bWb, ↓DL.x_bWc, ↓DL.x_bWx, ↓DL.x_bWd, ↓DL.x_bBb, ↓DL.x_bIi, ↓DL.x_bCo, ↓DL.x_bCx, ↓DL.x_bCb, ↓DL.x_bRr, ↓DL.x_bRn, ↓DL.x_bRx, ↓DL.x_bAv, ↓DL.x_bAw, ↓DL.x_bind, ↓DL.x_ouF, ↓DL.x_C, ↓DL.x_var, ↓DL.x_slV, ↓DL.x_slW, ↓DL.x_aV, ↓DL.x_aE, ↓DL.x_rdS, ↓DL.x_rdD, ↓DL.x_derefO, ↓DL.x_deref, ↓DL.x_getO, ↓DL.x_getV, ↓DL.x_getW, DL.o_non, DL.o_bl, DL.o_int, DL.o_str, DL.o_tup, DL.o_lst, DL.o_fro, DL.o_dct, DL.o_ins, DL.o_fn, ↓DL.x_bin, ↓DL.x_ofS, ↓DL.x_ofN, ↓DL.x_un, ↓DL.x_argsN, ↓DL.x_argsC, ↓DL.x_tup, ↓DL.x_lst, ↓DL.x_rdLN, ↓DL.x_rdLC, ↓DL.x_argsPN, ↓DL.x_argsPC, ↓DL.x_fun, ↓DL.x_tTru, ↓DL.x_tBool, ↓DL.x_tNt, ↓DL.x_tAn, ↓DL.x_tOr, ↓DL.x_tYs, ↓DL.x_eIf, ↓DL.x_eNt, ↓DL.x_eAnd, ↓DL.x_eOr, ↓DL.x_nil, ↓DL.x_seq, ↓DL.x_if, ↓DL.x_ret, ↓DL.x_retN, ↓DL.x_ex, ↓DL.x_bk, ↓DL.x_ct, ↓DL.x_nxS, ↓DL.x_nxN, ↓DL.x_asg, ↓DL.x_tgN, ↓DL.x_setO, ↓DL.x_setS, ↓DL.x_wipe, ↓DL.x_wipeN, ↓DL.x_wipeC, ↓DL.x_tgT, ↓DL.x_tgsN, ↓DL.x_tgsC, ↓DL.x_forN, ↓DL.x_for, ↓DL.x_par, ↓DL.x_parO, ↓DL.x_retV, ↓DL.x_bVo, ↓DL.x_call, ↓DL.x_fnD, ↓DL.x_retO, DL.v_retO, ↓DL.x_retX, ↓DL.x_comp, ↓DL.x_iSeq, ↓DL.x_itL, ↓DL.x_itF, ↓DL.x_itT, ↓DL.x_itS, ↓DL.x_bG, ↓DL.x_rng1, ↓DL.x_bG2, ↓DL.x_rng2, ↓DL.x_enum, ↓DL.x_sqL, ↓DL.x_sqF, ↓DL.x_sqT, ↓DL.x_bMo, ↓DL.x_bMs, ↓DL.x_wrS, ↓DL.x_wrD, ↓DL.x_isLst, ↓DL.x_mutL, ↓DL.x_bTo, ↓DL.x_tgSub, ↓DL.x_join, ↓DL.x_isStr, ↓DL.x_partN, ↓DL.x_partS, ↓DL.x_sl, ↓DL.x_prsN, ↓DL.x_prsC, ↓DL.x_disp, DL.v_addI, DL.v_addS, DL.v_addT, DL.v_addL, DL.v_catL, DL.v_sub, DL.v_mod, DL.v_neg, DL.v_ltI, DL.v_leI, DL.v_gtI, DL.v_geI, DL.v_ltS, DL.v_leS, DL.v_eqS, DL.v_eqI, DL.v_eqB, DL.v_neS, DL.v_neI, DL.v_neB, DL.v_inS, DL.v_ninS, DL.v_isNN, DL.v_isT, DL.v_isL, DL.v_isS, DL.v_isI, DL.v_isB, DL.v_isNot, DL.v_ixL, DL.v_ixF, DL.v_ixT, DL.v_ixS, DL.v_ixK, DL.v_ixKI, DL.v_at0, DL.v_at1, DL.v_at2, DL.v_lenL, DL.v_lenF, DL.v_lenT, DL.v_lenS, DL.v_lenK, DL.v_lstL, DL.v_lstT, DL.v_lstF, DL.v_tupL, DL.v_tupT, DL.v_tupF, DL.v_cutL, DL.v_cutT, DL.v_cutS, DL.v_app, DL.v_ext, DL.v_truN, DL.v_truB, DL.v_truI, DL.v_truT, DL.v_truL, DL.v_truS, DL.v_rep, DL.v_mulS, DL.v_mulI, DL.v_setL, ↓DL.x_bUo, ↓DL.x_cStep, ↓DL.x_compN, ↓DL.x_bHn, ↓DL.x_bHc, ↓DL.x_bHb, ↓DL.x_bHr, ↓DL.x_bHx, ↓DL.x_bHd, ↓DL.x_fStep, ↓DL.x_bX, ↓DL.x_sortSet, ↓DL.x_tgU, ↓DL.x_bJ, ↓DL.x_chain, DL.v_isi, ↓DL.x_bY, ↓DL.x_pop, DL.v_pop, DL.v_inT, DL.v_rev, DL.v_notInT, ↓DL.x_sBad, ↓DL.x_eBad, ↓DL.x_setTx, ↓DL.x_sortSetS, DL.v_revS, DL.v_listXs, DL.v_listXt, DL.v_listXl, ↓DL.x_enumS1, ↓DL.x_enumSt, List.getElem?_cons_zero, List.getElem?_cons_succ, List.set_cons_zero, List.set_cons_succ, h, h2, h3]
theorem rd_pop (p : List Fac) (st : List Fac) (g : Fac) (w : Sl) (S : List D) : b_reduce_product_1 (rdS p (g :: st).reverse w S) = .nx (rdS p st.reverse w S) := by
  have e : (g :: st).reverse.map facD = st.reverse.map facD ++ [facD g] := by simp
  unfold rdS
  rw [e]
  generalize hX : st.reverse.map facD = X
  have hY : ∀ s, bY (.lst (X ++ [facD g])) (some s) = .ok (facD g) s := fun s => x_bY _ _ s (by simp)
  simp (disch := first | (simp only [DL.o_non, DL.o_bl, DL.o_int, DL.o_str, DL.o_tup, DL.o_lst, DL.o_fro, DL.o_dct, DL.o_ins, DL.o_fn, List.length_cons, List.length_append, List.length_nil, List.length_singleton]; done) | ((with_reducible refine DL.sz_of ?_); (try simp only [List.length_cons, List.length_append, List.length_map, List.length_nil, List.length_singleton, List.length_take, List.length_drop, List.length_reverse, List.length_replicate]); omega) | (with_reducible assumption)) [b_reduce_product_1, ↓DL.x_bNs, ↓DL.x_bNn, ↓DL.x_bEo, ↓DL.x_bEx, ↓DL.x_bEb, ↓DL.x_bFo, ↓DL.x_bFx, ↓DL.x_bFb, ↓DL.x_bOs, ↓DL.x_bOn, ↓DL.x_bPs, ↓DL.x_bPn, ↓DL.x_bQn, ↓DL.x_bQr, ↓DL.x_bQb, ↓DL.x_bQc, ↓DL.x_bQx, ↓DL.x_bQd, ↓DL.x_bWn, ↓DL.x_bWr, ↓DL.x_bWb, ↓DL.x_bWc, ↓DL.x_bWx, ↓DL.x_bWd, ↓DL.x_bBb, ↓DL.x_bIi, ↓DL.x_bCo, ↓DL.x_bCx, ↓DL.x_bCb, ↓DL.x_bRr, ↓DL.x_bRn, ↓DL.x_bRx, ↓DL.x_bAv, ↓DL.x_bAw, ↓DL.x_bind, ↓DL.x_ouF, ↓DL.x_C, ↓DL.x_var, ↓DL.x_slV, ↓DL.x_slW, ↓DL.x_aV, ↓DL.x_aE, ↓DL.x_rdS, ↓DL.x_rdD, ↓DL.x_derefO, ↓DL.x_deref, ↓DL.x_getO, ↓DL.x_getV, ↓DL.x_getW, DL.o_non, DL.o_bl, DL.o_int, DL.o_str, DL.o_tup, DL.o_lst, DL.o_fro, DL.o_dct, DL.o_ins, DL.o_fn, ↓DL.x_bin, ↓DL.x_ofS, ↓DL.x_ofN, ↓DL.x_un, ↓DL.x_argsN, ↓DL.x_argsC, ↓DL.x_tup, ↓DL.x_lst, ↓DL.x_rdLN, ↓DL.x_rdLC, ↓DL.x_argsPN, ↓DL.x_argsPC, ↓DL.x_fun, ↓DL.x_tTru, ↓DL.x_tBool, ↓DL.x_tNt, ↓DL.x_tAn, ↓DL.x_tOr, ↓DL.x_tYs, ↓DL.x_eIf, ↓DL.x_eNt, ↓DL.x_eAnd, ↓DL.x_eOr, ↓DL.x_nil, ↓DL.x_seq, ↓DL.x_if, ↓DL.x_ret, ↓DL.x_retN, ↓DL.x_ex, ↓DL.x_bk, ↓DL.x_ct, ↓DL.x_nxS, ↓DL.x_nxN, ↓DL.x_asg, ↓DL.x_tgN, ↓DL.x_setO, ↓DL.x_setS, ↓DL.x_wipe, ↓DL.x_wipeN, ↓DL.x_wipeC, ↓DL.x_tgT, ↓DL.x_tgsN, ↓DL.x_tgsC, ↓DL.x_forN, ↓DL.x_for, ↓DL.x_par, ↓DL.x_parO, ↓DL.x_retV, ↓DL.x_bVo, ↓DL.x_call, ↓DL.x_fnD, ↓DL.x_retO, DL.v_retO, ↓DL.x_retX, ↓DL.x_comp, ↓DL.x_iSeq, ↓DL.x_itL, ↓DL.x_itF, ↓DL.x_itT, ↓DL.x_itS, ↓DL.x_bG, ↓DL.x_rng1, ↓DL.x_bG2, ↓DL.x_rng2, ↓DL.x_enum, ↓DL.x_sqL, ↓DL.x_sqF, ↓DL.x_sqT, ↓DL.x_bMo, ↓DL.x_bMs, ↓DL.x_wrS, ↓DL.x_wrD, ↓DL.x_isLst, ↓DL.x_mutL, ↓DL.x_bTo, ↓DL.x_tgSub, ↓DL.x_join, ↓DL.x_isStr, ↓DL.x_partN, ↓DL.x_partS, ↓DL.x_sl, ↓DL.x_prsN, ↓DL.x_prsC, ↓DL.x_disp, DL.v_addI, DL.v_addS, DL.v_addT, DL.v_addL, DL.v_catL, DL.v_sub, DL.v_mod, DL.v_neg, DL.v_ltI, DL.v_leI, DL.v_gtI, DL.v_geI, DL.v_ltS, DL.v_leS, DL.v_eqS, DL.v_eqI, DL.v_eqB, DL.v_neS, DL.v_neI, DL.v_neB, DL.v_inS, DL.v_ninS, DL.v_isNN, DL.v_isT, DL.v_isL, DL.v_isS, DL.v_isI, DL.v_isB, DL.v_isNot, DL.v_ixL, DL.v_ixF, DL.v_ixT, DL.v_ixS, DL.v_ixK, DL.v_ixKI, DL.v_at0, DL.v_at1, DL.v_at2, DL.v_lenL, DL.v_lenF, DL.v_lenT, DL.v_lenS, DL.v_lenK, DL.v_lstL, DL.v_lstT, DL.v_lstF, DL.v_tupL, DL.v_tupT, DL.v_tupF, DL.v_cutL, DL.v_cutT, DL.v_cutS, DL.v_app, DL.v_ext, DL.v_truN, DL.v_truB, DL.v_truI, DL.v_truT, DL.v_truL, DL.v_truS, DL.v_rep, DL.v_mulS, DL.v_mulI, DL.v_setL, ↓DL.x_bUo, ↓DL.x_cStep, ↓DL.x_compN, ↓DL.x_bHn, ↓DL.x_bHc, ↓DL.x_bHb, ↓DL.x_bHr, ↓DL.x_bHx, ↓DL.x_bHd, ↓DL.x_fStep, ↓DL.x_bX, ↓DL.x_sortSet, ↓DL.x_tgU, ↓DL.x_bJ, ↓DL.x_chain, DL.v_isi, ↓DL.x_bY, ↓DL.x_pop, DL.v_pop, DL.v_inT, DL.v_rev, DL.v_notInT, ↓DL.x_sBad, ↓DL.x_eBad, ↓DL.x_setTx, ↓DL.x_sortSetS, DL.v_revS, DL.v_listXs, DL.v_listXt, DL.v_listXl, ↓DL.x_enumS1, ↓DL.x_enumSt, List.getElem?_cons_zero, List.getElem?_cons_succ, List.set_cons_zero, List.set_cons_succ, hY]
theorem rd_wh (p : List Fac) (f : Fac) (S : List D) (st : List Fac) (n : Nat) (hn : st.length < n) (hl : ∀ g ∈ st, g.2.length ≤ 1000) :
    whN t_reduce_product_2 b_reduce_product_1 n (rdS p st.reverse (.val (facD f)) S) = .nx (rdS p (st.dropWhile fun g => holdsL f g).reverse (.val (facD f)) S) := by
  induction st generalizing n with
  | nil =>
    obtain ⟨n, rfl⟩ : ∃ m, n = m + 1 := ⟨n - 1, by simp at hn; omega⟩
    rw [whN_step, rd_test p [] f S (by simp)]
    simp
  | cons g st ih =>
    obtain ⟨n, rfl⟩ : ∃ m, n = m + 1 := ⟨n - 1, by simp at hn; omega⟩
    simp only [List.length_cons] at hn
    rw [whN_step, rd_test p (g :: st) f S hl]
    by_cases hg : holdsL f g = true
    · dsimp only
      rw [if_pos hg, rd_pop]
      dsimp only
      rw [ih n (by omega) (fun x hx => hl x (List.mem_cons_of_mem _ hx)), List.dropWhile_cons_of_pos hg]
    · dsimp only
      rw [if_neg hg, List.dropWhile_cons_of_neg hg]
theorem rd_turn (p : List Fac) (f : Fac) (S : List D) (st : List Fac) (hf : f.2.length ≤ 1000) (hz : st.length ≤ 100000) (hl : ∀ g ∈ st, g.2.length ≤ 1000) :
    fStep (tgN 2) b_reduce_product_3 (facD f) (rdS p st.reverse .un S) = .nx (rdS p (redPush st f).reverse .un S) := by
  have hw := sWh_eq (t := t_reduce_product_2) (body := b_reduce_product_1) (st.length + 1) (rd_wh p f S st _ (Nat.lt_succ_self _) hl) (by simp)
  have hd : ∀ g ∈ st.dropWhile (fun g => holdsL f g), g.2.length ≤ 1000 := fun g hg => hl g ((List.dropWhile_sublist _).subset hg)
  have hz2 := (List.dropWhile_sublist (l := st) (fun g => holdsL f g)).length_le
  unfold redPush
  generalize hD : st.dropWhile (fun g => holdsL f g) = ds at hw hd hz2
  cases ds with
  | nil =>
    have h := eqD_nilF []
    simp only [List.map_nil] at h
    simp only [rdS, List.reverse_nil, List.map_nil] at hw ⊢
    generalize hZ : st.reverse.map facD = Z at hw ⊢
    simp only [fac_eq] at hw ⊢
    simp (disch := first | (simp only [DL.o_non, DL.o_bl, DL.o_int, DL.o_str, DL.o_tup, DL.o_lst, DL.o_fro, DL.o_dct, DL.o_ins, DL.o_fn, List.length_cons, List.length_append, List.length_nil, List.length_singleton]; done) | ((with_reducible refine DL.sz_of ?_); (try simp only [List.length_cons, List.length_append, List.length_map, List.length_nil, List.length_singleton, List.length_take, List.length_drop, List.length_reverse, List.length_replicate]); omega) | (with_reducible assumption)) [b_reduce_product_3, ↓DL.x_bNs, ↓DL.x_bNn, ↓DL.x_bEo, ↓DL.x_bEx, ↓DL.x_bEb, ↓DL.x_bFo, ↓DL.x_bFx, ↓DL.x_bFb, ↓DL.x_bOs, ↓DL.x_bOn, ↓DL.x_bPs, ↓DL.x_bPn, ↓DL.x_bQn, ↓DL.x_bQr, ↓DL.x_bQb, ↓DL.x_bQc, ↓DL.x_bQx, ↓DL.x_bQd, ↓DL.x_bWn, ↓DL.x_bWr, ↓DL.x_bWb, ↓DL.x_bWc, ↓DL.x_bWx, ↓DL.x_bWd, ↓DL.x_bBb, ↓DL.x_bIi, ↓DL.x_bCo, ↓DL.x_bCx, ↓DL.x_bCb, ↓DL.x_bRr, ↓DL.x_bRn, ↓DL.x_bRx, ↓DL.x_bAv, ↓DL.x_bAw, ↓DL.x_bind, ↓DL.x_ouF, ↓DL.x_C, ↓DL.x_var, ↓DL.x_slV, ↓DL.x_slW, ↓DL.x_aV, ↓DL.x_aE, ↓DL.x_rdS, ↓DL.x_rdD, ↓DL.x_derefO, ↓DL.x_deref, ↓DL.x_getO, ↓DL.x_getV, ↓DL.x_getW, DL.o_non, DL.o_bl, DL.o_int, DL.o_str, DL.o_tup, DL.o_lst, DL.o_fro, DL.o_dct, DL.o_ins, DL.o_fn, ↓DL.x_bin, ↓DL.x_ofS, ↓DL.x_ofN, ↓DL.x_un, ↓DL.x_argsN, ↓DL.x_argsC, ↓DL.x_tup, ↓DL.x_lst, ↓DL.x_rdLN, ↓DL.x_rdLC, ↓DL.x_argsPN, ↓DL.x_argsPC, ↓DL.x_fun, ↓DL.x_tTru, ↓DL.x_tBool, ↓DL.x_tNt, ↓DL.x_tAn, ↓DL.x_tOr, ↓DL.x_tYs, ↓DL.x_eIf, ↓DL.x_eNt, ↓DL.x_eAnd, ↓DL.x_eOr, ↓DL.x_nil, ↓DL.x_seq, ↓DL.x_if, ↓DL.x_ret, ↓DL.x_retN, ↓DL.x_ex, ↓DL.x_bk, ↓DL.x_ct, ↓DL.x_nxS, ↓DL.x_nxN, ↓DL.x_asg, ↓DL.x_tgN, ↓DL.x_setO, ↓DL.x_setS, ↓DL.x_wipe, ↓DL.x_wipeN, ↓DL.x_wipeC, ↓DL.x_tgT, ↓DL.x_tgsN, ↓DL.x_tgsC, ↓DL.x_forN, ↓DL.x_for, ↓DL.x_par, ↓DL.x_parO, ↓DL.x_retV, ↓DL.x_bVo, ↓DL.x_call, ↓DL.x_fnD, ↓DL.x_retO, DL.v_retO, ↓DL.x_retX, ↓DL.x_comp, ↓DL.x_iSeq, ↓DL.x_itL, ↓DL.x_itF, ↓DL.x_itT, ↓DL.x_itS, ↓DL.x_bG, ↓DL.x_rng1, ↓DL.x_bG2, ↓DL.x_rng2, ↓DL.x_enum, ↓DL.x_sqL, ↓DL.x_sqF, ↓DL.x_sqT, ↓DL.x_bMo, ↓DL.x_bMs, ↓DL.x_wrS, ↓DL.x_wrD, ↓DL.x_isLst, ↓DL.x_mutL, ↓DL.x_bTo, ↓DL.x_tgSub, ↓DL.x_join, ↓DL.x_isStr, ↓DL.x_partN, ↓DL.x_partS, ↓DL.x_sl, ↓DL.x_prsN, ↓DL.x_prsC, ↓DL.x_disp, DL.v_addI, DL.v_addS, DL.v_addT, DL.v_addL, DL.v_catL, DL.v_sub, DL.v_mod, DL.v_neg, DL.v_ltI, DL.v_leI, DL.v_gtI, DL.v_geI, DL.v_ltS, DL.v_leS, DL.v_eqS, DL.v_eqI, DL.v_eqB, DL.v_neS, DL.v_neI, DL.v_neB, DL.v_inS, DL.v_ninS, DL.v_isNN, DL.v_isT, DL.v_isL, DL.v_isS, DL.v_isI, DL.v_isB, DL.v_isNot, DL.v_ixL, DL.v_ixF, DL.v_ixT, DL.v_ixS, DL.v_ixK, DL.v_ixKI, DL.v_at0, DL.v_at1, DL.v_at2, DL.v_lenL, DL.v_lenF, DL.v_lenT, DL.v_lenS, DL.v_lenK, DL.v_lstL, DL.v_lstT, DL.v_lstF, DL.v_tupL, DL.v_tupT, DL.v_tupF, DL.v_cutL, DL.v_cutT, DL.v_cutS, DL.v_app, DL.v_ext, DL.v_truN, DL.v_truB, DL.v_truI, DL.v_truT, DL.v_truL, DL.v_truS, DL.v_rep, DL.v_mulS, DL.v_mulI, DL.v_setL, ↓DL.x_bUo, ↓DL.x_cStep, ↓DL.x_compN, ↓DL.x_bHn, ↓DL.x_bHc, ↓DL.x_bHb, ↓DL.x_bHr, ↓DL.x_bHx, ↓DL.x_bHd, ↓DL.x_fStep, ↓DL.x_bX, ↓DL.x_sortSet, ↓DL.x_tgU, ↓DL.x_bJ, ↓DL.x_chain, DL.v_isi, ↓DL.x_bY, ↓DL.x_pop, DL.v_pop, DL.v_inT, DL.v_rev, DL.v_notInT, ↓DL.x_sBad, ↓DL.x_eBad, ↓DL.x_setTx, ↓DL.x_sortSetS, DL.v_revS, DL.v_listXs, DL.v_listXt, DL.v_listXl, ↓DL.x_enumS1, ↓DL.x_enumSt, List.getElem?_cons_zero, List.getElem?_cons_succ, List.set_cons_zero, List.set_cons_succ, hw, h, fac_eq]
  | cons g r =>
    have h := eqD_nilF (r.reverse ++ [g])
    have hn : (r.reverse ++ [g]).isEmpty = false := by simp
    rw [hn, List.map_append, List.map_cons, List.map_nil] at h
    have h2 := at_neg1 (r.reverse.map facD) (facD g)
    have h3 := holds_ok g f S hf
    have e : (g :: r).reverse.map facD = r.reverse.map facD ++ [facD g] := by simp
    have hlen : (r.reverse.map facD).length + 2 ≤ 200000 := by simp at hz2 ⊢; omega
    unfold rdS at hw ⊢
    rw [e] at hw
    generalize hZ : st.reverse.map facD = Z at hw ⊢
    have e2 : (f :: g :: r).reverse.map facD = r.reverse.map facD ++ [facD g] ++ [facD f] := by simp
    by_cases hh : holdsL g f = true
    · rw [hh] at h3
      dsimp only
      rw [if_pos hh, e]
      generalize hX : r.reverse.map facD = X at h h2 hw hlen
      simp only [fac_eq] at h h2 h3 hw ⊢
      simp (disch := first | (simp only [DL.o_non, DL.o_bl, DL.o_int, DL.o_str, DL.o_tup, DL.o_lst, DL.o_fro, DL.o_dct, DL.o_ins, DL.o_fn, List.length_cons, List.length_append, List.length_nil, List.length_singleton]; done) | ((with_reducible refine DL.sz_of ?_); (try simp only [List.length_cons, List.length_append, List.length_map, List.length_nil, List.length_singleton, List.length_take, List.length_drop, List.length_reverse, List.length_replicate]); omega) | (with_reducible assumption)) [b_reduce_product_3, ↓DL.x_bNs, ↓DL.x_bNn, ↓DL.x_bEo, ↓DL.x_bEx, ↓DL.x_bEb, ↓DL.x_bFo, ↓DL.x_bFx, ↓DL.x_bFb, ↓DL.x_bOs, ↓DL.x_bOn, ↓DL.x_bPs, ↓DL.x_bPn, ↓DL.x_bQn, ↓DL.x_bQr, ↓DL.x_bQb, ↓DL.x_bQc, ↓DL.x_bQx, ↓DL.x_bQd, ↓DL.x_bWn, ↓DL.x_bWr, ↓DL.x_bWb, ↓DL.x_bWc, ↓DL.x_bWx, ↓DL.x_bWd, ↓DL.x_bBb, ↓DL.x_bIi, ↓DL.x_bCo, ↓DL.x_bCx, ↓DL.x_bCb, ↓DL.x_bRr, ↓DL.x_bRn, ↓DL.x_bRx, ↓DL.x_bAv, ↓DL.x_bAw, ↓DL.x_bind, ↓DL.x_ouF, ↓DL.x_C, ↓DL.x_var, ↓DL.x_slV, ↓DL.x_slW, ↓DL.x_aV, ↓DL.x_aE, ↓DL.x_rdS, ↓DL.x_rdD, ↓DL.x_derefO, ↓DL.x_deref, ↓DL.x_getO, ↓DL.x_getV, ↓DL.x_getW, DL.o_non, DL.o_bl, DL.o_int, DL.o_str, DL.o_tup, DL.o_lst, DL.o_fro, DL.o_dct, DL.o_ins, DL.o_fn, ↓DL.x_bin, ↓DL.x_ofS, ↓DL.x_ofN, ↓DL.x_un, ↓DL.x_argsN, ↓DL.x_argsC, ↓DL.x_tup, ↓DL.x_lst, ↓DL.x_rdLN, ↓DL.x_rdLC, ↓DL.x_argsPN, ↓DL.x_argsPC, ↓DL.x_fun, ↓DL.x_tTru, ↓DL.x_tBool, ↓DL.x_tNt, ↓DL.x_tAn, ↓DL.x_tOr, ↓DL.x_tYs, ↓DL.x_eIf, ↓DL.x_eNt, ↓DL.x_eAnd, ↓DL.x_eOr, ↓DL.x_nil, ↓DL.x_seq, ↓DL.x_if, ↓DL.x_ret, ↓DL.x_retN, ↓DL.x_ex, ↓DL.x_bk, ↓DL.x_ct, ↓DL.x_nxS, ↓DL.x_nxN, ↓DL.x_asg, ↓DL.x_tgN, ↓DL.x_setO, ↓DL.x_setS, ↓DL.x_wipe, ↓DL.x_wipeN, ↓DL.x_wipeC, ↓DL.x_tgT, ↓DL.x_tgsN, ↓DL.x_tgsC, ↓DL.x_forN, ↓DL.x_for, ↓DL.x_par, ↓DL.x_parO, ↓DL.x_retV, ↓DL.x_bVo, ↓DL.x_call, ↓DL.x_fnD, ↓DL.x_retO, DL.v_retO, ↓DL.x_retX, ↓DL.x_comp, ↓DL.x_iSeq, ↓DL.x_itL, ↓DL.x_itF, ↓DL.x_itT, ↓DL.x_itS, ↓DL.x_bG, ↓DL.x_rng1, ↓DL.x_bG2, ↓DL.x_rng2, ↓DL.x_enum, ↓DL.x_sqL, ↓DL.x_sqF, ↓DL.x_sqT, ↓DL.x_bMo, ↓DL.x_bMs, ↓DL.x_wrS, ↓DL.x_wrD, ↓DL.x_isLst, ↓DL.x_mutL, ↓DL.x_bTo, ↓DL.x_tgSub, ↓DL.x_join, ↓DL.x_isStr, ↓DL.x_partN, ↓DL.x_partS, ↓DL.x_sl, ↓DL.x_prsN, ↓DL.x_prsC, ↓DL.x_disp, DL.v_addI, DL.v_addS, DL.v_addT, DL.v_addL, DL.v_catL, DL.v_sub, DL.v_mod, DL.v_neg, DL.v_ltI, DL.v_leI, DL.v_gtI, DL.v_geI, DL.v_ltS, DL.v_leS, DL.v_eqS, DL.v_eqI, DL.v_eqB, DL.v_neS, DL.v_neI, DL.v_neB, DL.v_inS, DL.v_ninS, DL.v_isNN, DL.v_isT, DL.v_isL, DL.v_isS, DL.v_isI, DL.v_isB, DL.v_isNot, DL.v_ixL, DL.v_ixF, DL.v_ixT, DL.v_ixS, DL.v_ixK, DL.v_ixKI, DL.v_at0, DL.v_at1, DL.v_at2, DL.v_lenL, DL.v_lenF, DL.v_lenT, DL.v_lenS, DL.v_lenK, DL.v_lstL, DL.v_lstT, DL.v_lstF, DL.v_tupL, DL.v_tupT, DL.v_tupF, DL.v_cutL, DL.v_cutT, DL.v_cutS, DL.v_app, DL.v_ext, DL.v_truN, DL.v_truB, DL.v_truI, DL.v_truT, DL.v_truL, DL.v_truS, DL.v_rep, DL.v_mulS, DL.v_mulI, DL.v_setL, ↓DL.x_bUo, ↓DL.x_cStep, ↓DL.x_compN, ↓DL.x_bHn, ↓DL.x_bHc, ↓DL.x_bHb, ↓DL.x_bHr, ↓DL.x_bHx, ↓DL.x_bHd, ↓DL.x_fStep, ↓DL.x_bX, ↓DL.x_sortSet, ↓DL.x_tgU, ↓DL.x_bJ, ↓DL.x_chain, DL.v_isi, ↓DL.x_bY, ↓DL.x_pop, DL.v_pop, DL.v_inT, DL.v_rev, DL.v_notInT, ↓DL.x_sBad, ↓DL.x_eBad, ↓DL.x_setTx, ↓DL.x_sortSetS, DL.v_revS, DL.v_listXs, DL.v_listXt, DL.v_listXl, ↓DL.x_enumS1, ↓DL.x_enumSt, List.getElem?_cons_zero, List.getElem?_cons_succ, List.set_cons_zero, List.set_cons_succ, hw, h, h2, h3]
    · rw [show holdsL g f = false by simpa using hh] at h3
      dsimp only
      rw [if_neg hh, e2]
      generalize hX : r.reverse.map facD = X at h h2 hw hlen
      simp only [fac_eq] at h h2 h3 hw ⊢
      simp (disch := first | (simp only [DL.o_non, DL.o_bl, DL.o_int, DL.o_str, DL.o_tup, DL.o_lst, DL.o_fro, DL.o_dct, DL.o_ins, DL.o_fn, List.length_cons, List.length_append, List.length_nil, List.length_singleton]; done) | ((with_reducible refine DL.sz_of ?_); (try simp only [List.length_cons, List.length_append, List.length_map, List.length_nil, List.length_singleton, List.length_take, List.length_drop, List.length_reverse, List.length_replicate]); omega) | (with_reducible assumption)) [b_reduce_product_3, ↓DL.x_bNs, ↓DL.x_bNn, ↓DL.x_bEo, ↓DL.x_bEx, ↓DL.x_bEb, ↓DL.x_bFo, ↓DL.x_bFx, ↓DL.x_bFb, ↓DL.x_bOs, ↓DL.x_bOn, ↓DL.x_bPs, ↓DL.x_bPn, ↓DL.x_bQn, ↓DL.x_bQr, ↓DL.x_bQb, ↓DL.x_bQc, ↓DL.x_bQx, ↓DL.x_bQd, ↓DL.x_bWn, ↓DL.x_bWr, ↓DL.x_bWb, ↓DL.x_bWc, ↓DL.x_bWx, ↓DL.x_bWd, ↓DL.x_bBb, ↓DL.x_bIi, ↓DL.x_bCo, ↓DL.x_bCx, ↓DL.x_bCb, ↓DL.x_bRr, ↓DL.x_bRn, ↓DL.x_bRx, ↓DL.x_bAv, ↓DL.x_bAw, ↓DL.x_bind, ↓DL.x_ouF, ↓DL.x_C, ↓DL.x_var, ↓DL.x_slV, ↓DL.x_slW, ↓DL.x_aV, ↓DL.x_aE, ↓DL.x_rdS, ↓DL.x_rdD, ↓DL.x_derefO, ↓DL.x_deref, ↓DL.x_getO, ↓DL.x_getV, ↓DL.x_getW, DL.o_non, DL.o_bl, DL.o_int, DL.o_str, DL.o_tup, DL.o_lst, DL.o_fro, DL.o_dct, DL.o_ins, DL.o_fn, ↓DL.x_bin, ↓DL.x_ofS, ↓DL.x_ofN, ↓DL.x_un, ↓DL.x_argsN, ↓DL.x_argsC, ↓DL.x_tup, ↓DL.x_lst, ↓DL.x_rdLN, ↓DL.x_rdLC, ↓DL.x_argsPN, ↓DL.x_argsPC, ↓DL.x_fun, ↓DL.x_tTru, ↓DL.x_tBool, ↓DL.x_tNt, ↓DL.x_tAn, ↓DL.x_tOr, ↓DL.x_tYs, ↓DL.x_eIf, ↓DL.x_eNt, ↓DL.x_eAnd, ↓DL.x_eOr, ↓DL.x_nil, ↓DL.x_seq, ↓DL.x_if, ↓DL.x_ret, ↓DL.x_retN, ↓DL.x_ex, ↓DL.x_bk, ↓DL.x_ct, ↓DL.x_nxS, ↓DL.x_nxN, ↓DL.x_asg, ↓DL.x_tgN, ↓DL.x_setO, ↓DL.x_setS, ↓DL.x_wipe, ↓DL.x_wipeN, ↓DL.x_wipeC, ↓DL.x_tgT, ↓DL.x_tgsN, ↓DL.x_tgsC, ↓DL.x_forN, ↓DL.x_for, ↓DL.x_par, ↓DL.x_parO, ↓DL.x_retV, ↓DL.x_bVo, ↓DL.x_call, ↓DL.x_fnD, ↓DL.x_retO, DL.v_retO, ↓DL.x_retX, ↓DL.x_comp, ↓DL.x_iSeq, ↓DL.x_itL, ↓DL.x_itF, ↓DL.x_itT, ↓DL.x_itS, ↓DL.x_bG, ↓DL.x_rng1, ↓DL.x_bG2, ↓DL.x_rng2, ↓DL.x_enum, ↓DL.x_sqL, ↓DL.x_sqF, ↓DL.x_sqT, ↓DL.x_bMo, ↓DL.x_bMs, ↓DL.x_wrS, ↓DL.x_wrD, ↓DL.x_isLst, ↓DL.x_mutL, ↓DL.x_bTo, ↓DL.x_tgSub, ↓DL.x_join, ↓DL.x_isStr, ↓DL.x_partN, ↓DL.x_partS, ↓DL.x_sl, ↓DL.x_prsN, ↓DL.x_prsC, ↓DL.x_disp, DL.v_addI, DL.v_addS, DL.v_addT, DL.v_addL, DL.v_catL, DL.v_sub, DL.v_mod, DL.v_neg, DL.v_ltI, DL.v_leI, DL.v_gtI, DL.v_geI, DL.v_ltS, DL.v_leS, DL.v_eqS, DL.v_eqI, DL.v_eqB, DL.v_neS, DL.v_neI, DL.v_neB, DL.v_inS, DL.v_ninS, DL.v_isNN, DL.v_isT, DL.v_isL, DL.v_isS, DL.v_isI, DL.v_isB, DL.v_isNot, DL.v_ixL, DL.v_ixF, DL.v_ixT, DL.v_ixS, DL.v_ixK, DL.v_ixKI, DL.v_at0, DL.v_at1, DL.v_at2, DL.v_lenL, DL.v_lenF, DL.v_lenT, DL.v_lenS, DL.v_lenK, DL.v_lstL, DL.v_lstT, DL.v_lstF, DL.v_tupL, DL.v_tupT, DL.v_tupF, DL.v_cutL, DL.v_cutT, DL.v_cutS, DL.v_app, DL.v_ext, DL.v_truN, DL.v_truB, DL.v_truI, DL.v_truT, DL.v_truL, DL.v_truS, DL.v_rep, DL.v_mulS, DL.v_mulI, DL.v_setL, ↓DL.x_bUo, ↓DL.x_cStep, ↓DL.x_compN, ↓DL.x_bHn, ↓DL.x_bHc, ↓DL.x_bHb, ↓DL.x_bHr, ↓DL.x_bHx, ↓DL.x_bHd, ↓DL.x_fStep, ↓DL.x_bX, ↓DL.x_sortSet, ↓DL.x_tgU, ↓DL.x_bJ, ↓DL.x_chain, DL.v_isi, ↓DL.x_bY, ↓DL.x_pop, DL.v_pop, DL.v_inT, DL.v_rev, DL.v_notInT, ↓DL.x_sBad, ↓DL.x_eBad, ↓DL.x_setTx, ↓DL.x_sortSetS, DL.v_revS, DL.v_listXs, DL.v_listXt, DL.v_listXl, ↓DL.x_enumS1, ↓DL.x_enumSt, List.getElem?_cons_zero, List.getElem?_cons_succ, List.set_cons_zero, List.set_cons_succ, hw, h, h2, h3]
theorem reduce_ok (p : List Fac) (S : List D) (hl : p.length ≤ 10000) (hf : ∀ f ∈ p, f.2.length ≤ 1000) : den_reduce_product [prodD p] S = .ok (prodD (redL p)) S := by
  have key : ∀ (q st : List Fac), (∀ f ∈ q, f.2.length ≤ 1000) → (∀ f ∈ st, f.2.length ≤ 1000) → st.length + q.length ≤ 100000 → forL (tgN 2) b_reduce_product_3 (q.map facD) (rdS p st.reverse .un S) = .nx (rdS p (q.foldl redPush st).reverse .un S) := by
    intro q
    induction q with
    | nil => intro st _ _ _; simp [forL]
    | cons f q ih =>
      intro st hq hs hz
      simp only [List.length_cons] at hz
      rw [List.map_cons, forL_step, rd_turn p f S st (hq f List.mem_cons_self) (by omega) hs]
      dsimp only
      have hl := redPush_len f st
      rw [ih (redPush st f) (fun x hx => hq x (List.mem_cons_of_mem _ hx)) (fun x hx => by
        rcases redPush_mem hx with rfl | hx
        · exact hq _ List.mem_cons_self
        · exact hs x hx) (by omega)]
      rfl
  have h := key p [] hf (by simp) (by simp; omega)
  have e : ((p.foldl redPush []).reverse) = redL p := rfl
  rw [e] at h
  simp only [rdS, List.reverse_nil, List.map_nil, prod_eq] at h
  simp (disch := first | (simp only [DL.o_non, DL.o_bl, DL.o_int, DL.o_str, DL.o_tup, DL.o_lst, DL.o_fro, DL.o_dct, DL.o_ins, DL.o_fn, List.length_cons, List.length_append, List.length_nil, List.length_singleton]; done) | ((with_reducible refine DL.sz_of ?_); (try simp only [List.length_cons, List.length_append, List.length_map, List.length_nil, List.length_singleton, List.length_take, List.length_drop, List.length_reverse, List.length_replicate]); omega) | (with_reducible assumption)) [den_reduce_product, c_reduce_product, ↓DL.x_bNs, ↓DL.x_bNn, ↓DL.x_bEo, ↓DL.x_bEx, ↓DL.x_bEb, ↓DL.x_bFo, ↓DL.x_bFx, ↓DL.x_bFb, ↓DL.x_bOs, ↓DL.x_bOn, ↓DL.x_bPs, ↓DL.x_bPn, ↓DL.x_bQn, ↓DL.x_bQr, ↓DL.x_bQb, ↓DL.x_bQc, ↓DL.x_bQx, ↓DL.x_bQd, ↓DL.x_bWn, ↓DL.x_bWr, ↓DL.x_bWb, ↓DL.x_bWc, ↓DL.x_bWx, ↓DL.x_bWd, ↓DL.x_bBb, ↓DL.x_bIi, ↓DL.x_bCo, ↓DL.x_bCx, ↓DL.x_bCb, ↓DL.x_bRr, ↓DL.x_bRn, ↓DL.x_bRx, ↓DL.x_bAv, ↓DL.x_bAw, ↓DL.x_bind, ↓DL.x_ouF, ↓DL.x_C, ↓DL.x_var, ↓DL.x_slV, ↓DL.x_slW, ↓DL.x_aV, ↓DL.x_aE, ↓DL.x_rdS, ↓DL.x_rdD, ↓DL.x_derefO, ↓DL.x_deref, ↓DL.x_getO, ↓DL.x_getV, ↓DL.x_getW, DL.o_non, DL.o_bl, DL.o_int, DL.o_str, DL.o_tup, DL.o_lst, DL.o_fro, DL.o_dct, DL.o_ins, DL.o_fn, ↓DL.x_bin, ↓DL.x_ofS, ↓DL.x_ofN, ↓DL.x_un, ↓DL.x_argsN, ↓DL.x_argsC, ↓DL.x_tup, ↓DL.x_lst, ↓DL.x_rdLN, ↓DL.x_rdLC, ↓DL.x_argsPN, ↓DL.x_argsPC, ↓DL.x_fun, ↓DL.x_tTru, ↓DL.x_tBool, ↓DL.x_tNt, ↓DL.x_tAn, ↓DL.x_tOr, ↓DL.x_tYs, ↓DL.x_eIf, ↓DL.x_eNt, ↓DL.x_eAnd, ↓DL.x_eOr, ↓DL.x_nil, ↓DL.x_seq, ↓DL.x_if, ↓DL.x_ret, ↓DL.x_retN, ↓DL.x_ex, ↓DL.x_bk, ↓DL.x_ct, ↓DL.x_nxS, ↓DL.x_nxN, ↓DL.x_asg, ↓DL.x_tgN, ↓DL.x_setO, ↓DL.x_setS, ↓DL.x_wipe, ↓DL.x_wipeN, ↓DL.x_wipeC, ↓DL.x_tgT, ↓DL.x_tgsN, ↓DL.x_tgsC, ↓DL.x_forN, ↓DL.x_for, ↓DL.x_par, ↓DL.x_parO, ↓DL.x_retV, ↓DL.x_bVo, ↓DL.x_call, ↓DL.x_fnD, ↓DL.x_retO, DL.v_retO, ↓DL.x_retX, ↓DL.x_comp, ↓DL.x_iSeq, ↓DL.x_itL, ↓DL.x_itF, ↓DL.x_itT, ↓DL.x_itS, ↓DL.x_bG, ↓DL.x_rng1, ↓DL.x_bG2, ↓DL.x_rng2, ↓DL.x_enum, ↓DL.x_sqL, ↓DL.x_sqF, ↓DL.x_sqT, ↓DL.x_bMo, ↓DL.x_bMs, ↓DL.x_wrS, ↓DL.x_wrD, ↓DL.x_isLst, ↓DL.x_mutL, ↓DL.x_bTo, ↓DL.x_tgSub, ↓DL.x_join, ↓DL.x_isStr, ↓DL.x_partN, ↓DL.x_partS, ↓DL.x_sl, ↓DL.x_prsN, ↓DL.x_prsC, ↓DL.x_disp, DL.v_addI, DL.v_addS, DL.v_addT, DL.v_addL, DL.v_catL, DL.v_sub, DL.v_mod, DL.v_neg, DL.v_ltI, DL.v_leI, DL.v_gtI, DL.v_geI, DL.v_ltS, DL.v_leS, DL.v_eqS, DL.v_eqI, DL.v_eqB, DL.v_neS, DL.v_neI, DL.v_neB, DL.v_inS, DL.v_ninS, DL.v_isNN, DL.v_isT, DL.v_isL, DL.v_isS, DL.v_isI, DL.v_isB, DL.v_isNot, DL.v_ixL, DL.v_ixF, DL.v_ixT, DL.v_ixS, DL.v_ixK, DL.v_ixKI, DL.v_at0, DL.v_at1, DL.v_at2, DL.v_lenL, DL.v_lenF, DL.v_lenT, DL.v_lenS, DL.v_lenK, DL.v_lstL, DL.v_lstT, DL.v_lstF, DL.v_tupL, DL.v_tupT, DL.v_tupF, DL.v_cutL, DL.v_cutT, DL.v_cutS, DL.v_app, DL.v_ext, DL.v_truN, DL.v_truB, DL.v_truI, DL.v_truT, DL.v_truL, DL.v_truS, DL.v_rep, DL.v_mulS, DL.v_mulI, DL.v_setL, ↓DL.x_bUo, ↓DL.x_cStep, ↓DL.x_compN, ↓DL.x_bHn, ↓DL.x_bHc, ↓DL.x_bHb, ↓DL.x_bHr, ↓DL.x_bHx, ↓DL.x_bHd, ↓DL.x_fStep, ↓DL.x_bX, ↓DL.x_sortSet, ↓DL.x_tgU, ↓DL.x_bJ, ↓DL.x_chain, DL.v_isi, ↓DL.x_bY, ↓DL.x_pop, DL.v_pop, DL.v_inT, DL.v_rev, DL.v_notInT, ↓DL.x_sBad, ↓DL.x_eBad, ↓DL.x_setTx, ↓DL.x_sortSetS, DL.v_revS, DL.v_listXs, DL.v_listXt, DL.v_listXl, ↓DL.x_enumS1, ↓DL.x_enumSt, List.getElem?_cons_zero, List.getElem?_cons_succ, List.set_cons_zero, List.set_cons_succ, prod_eq, h]
end
end DM
/-! LK02: the law of k02. -/
namespace DM
noncomputable section
open PySem PySem.Spec PyProof.Rows L2 DL
/-! repr of the positions -/
def okT (x : Str) : Prop := x.cps.toList.all (fun c => decide (c < 1114112)) = true
theorem okT_app {a b : Str} (ha : okT a) (hb : okT b) : okT (a ++ b) := by
  show ((a.cps ++ b.cps).toList.all _) = true
  rw [Array.toList_append, List.all_append]
  rw [show a.cps.toList.all _ = true from ha, show b.cps.toList.all _ = true from hb]
  rfl
theorem okT_join {sep : Str} (hs : okT sep) : ∀ ts : List Str, (∀ t ∈ ts, okT t) → okT (Str.join sep ts)
  | [], _ => rfl
  | [x], h => h x List.mem_cons_self
  | x :: y :: r, h => okT_app (okT_app (h x List.mem_cons_self) hs) (okT_join hs (y :: r) fun t ht => h t (List.mem_cons_of_mem _ ht))
def natP (n : Nat) : PyData := .int (n : Int)
theorem pyOfs_nats : ∀ ns : List Nat, pyOfs (ns.map natD) = some (ns.map natP)
  | [] => rfl
  | n :: ns => by
    show (pyOf (natD n)).bind (fun p => (pyOfs (ns.map natD)).map fun ps => p :: ps) = _
    rw [pyOfs_nats ns]
    rfl
theorem small_text : ∀ n, n < 100 → okT (PyData.shown (natP n)) ∧ (PyData.shown (natP n)).length ≤ 8 := by
  have h : (List.range 100).all (fun n => (PyData.shown (natP n)).cps.toList.all (fun c => decide (c < 1114112)) && decide ((PyData.shown (natP n)).length ≤ 8)) = true := by decide +kernel
  intro n hn
  have := List.all_eq_true.mp h n (List.mem_range.mpr hn)
  simpa [okT] using this
theorem small_log : ∀ n, n < 100 → n.log2 < 10 := by decide
theorem nats_facts : ∀ ns : List Nat, (∀ n ∈ ns, n < 100) → PyData.showableAll (ns.map natP) = true ∧ PyData.hasDictAll (ns.map natP) = false ∧ PyData.depthAll (ns.map natP) = 0 ∧ PyData.leavesShortAll 8 (ns.map natP) = true ∧
    PyData.weightAll (ns.map natP) ≤ 20 * ns.length ∧ ∀ t ∈ PyData.shownAll (ns.map natP), okT t
  | [], _ => ⟨rfl, rfl, rfl, rfl, by simp [PyData.weightAll], by simp [PyData.shownAll]⟩
  | n :: ns, h => by
    obtain ⟨a, b, c, d, e, f⟩ := nats_facts ns fun m hm => h m (List.mem_cons_of_mem _ hm)
    have hn := h n List.mem_cons_self
    have hl := small_log n hn
    obtain ⟨t1, t2⟩ := small_text n hn
    refine ⟨?_, ?_, ?_, ?_, ?_, ?_⟩
    · simp only [List.map_cons, PyData.showableAll, a, Bool.and_true]
      simp only [natP, PyData.showable, Int.natAbs_natCast, decide_eq_true_eq]
      omega
    · simp only [List.map_cons, PyData.hasDictAll, b, Bool.or_false]
      rfl
    · simp only [List.map_cons, PyData.depthAll, c]
      rfl
    · simp only [List.map_cons, PyData.leavesShortAll, d, Bool.and_true]
      simp only [natP, PyData.leavesShort, decide_eq_true_eq]
      exact t2
    · simp only [List.map_cons, PyData.weightAll, List.length_cons]
      have : PyData.weight (natP n) ≤ 11 := by
        simp only [natP, PyData.weight, Int.natAbs_natCast]
        split <;> omega
      omega
    · intro t ht
      simp only [List.map_cons, PyData.shownAll] at ht
      rcases List.mem_cons.mp ht with rfl | ht
      · exact t1
      · exact f t ht
theorem repr_nats (ns : List Nat) (hl : ns.length ≤ 1000) (hb : ∀ n ∈ ns, n < 100) : ∃ z, reprGD [.tup (ns.map natD)] = some (.str z) := by
  obtain ⟨a, b, c, d, e, f⟩ := nats_facts ns hb
  have hp : pyOf (.tup (ns.map natD)) = some (.tuple (ns.map natP)) := by
    show (pyOfs (ns.map natD)).map PyData.tuple = _
    rw [pyOfs_nats]
    rfl
  have hok : reprOk (.tuple (ns.map natP)) = true := by
    have h1 : PyData.showable (.tuple (ns.map natP)) = true := a
    have h2 : PyData.hasDict (.tuple (ns.map natP)) = false := b
    have h3 : PyData.depth (.tuple (ns.map natP)) ≤ 50 := by
      show PyData.depthAll (ns.map natP) + 1 ≤ 50
      omega
    have h4 : (PyData.shown (.tuple (ns.map natP))).length ≤ sizeLine := PyData.shown_fits (B := 8) (by omega) (by omega) d (by
      show PyData.weightAll (ns.map natP) ≤ 2 ^ 20
      omega)
    have h5 : okT (PyData.shown (.tuple (ns.map natP))) := by
      show okT (tupleText (PyData.shownAll (ns.map natP)))
      unfold tupleText
      refine okT_app (okT_app (by unfold okT; decide +kernel) (okT_join (by unfold okT; decide +kernel) _ f)) ?_
      split <;> (unfold okT; decide +kernel)
    have h5' : (PyData.shown (.tuple (ns.map natP))).cps.toList.all (fun c => decide (c < 1114112)) = true := h5
    simp only [reprOk, h1, h2, h3, h4, h5', decide_true, Bool.not_false, Bool.and_self]
  refine ⟨(PyData.tuple (ns.map natP)).shown.cps.toList, ?_⟩
  show (pyOf (.tup (ns.map natD))).bind (fun p => if reprOk p = true then some (D.str p.shown.cps.toList) else none) = _
  rw [hp]
  exact if_pos hok
/-! all subwords -/
def subsL (u : List Nat) : List (List Nat) := u.foldl (fun fs c => fs ++ fs.map (· ++ [c])) [[]]
theorem mem_subs (u : List Nat) : ∀ w, w ∈ subsL u ↔ w.Sublist u := by
  have key : ∀ (r : List Nat) (w : List Nat), w ∈ subsL r.reverse ↔ w.Sublist r.reverse := by
    intro r
    induction r with
    | nil => intro w; simp [subsL]
    | cons c r ih =>
      intro w
      have e : subsL (c :: r).reverse = subsL r.reverse ++ (subsL r.reverse).map (· ++ [c]) := by
        simp [subsL, List.foldl_append]
      rw [e, List.mem_append, List.mem_map, ih, List.reverse_cons, List.sublist_append_iff]
      constructor
      · rintro (h | ⟨v, hv, rfl⟩)
        · exact ⟨w, [], by simp, h, List.nil_sublist _⟩
        · exact ⟨v, [c], rfl, (ih v).mp hv, List.Sublist.refl _⟩
      · rintro ⟨a, b, rfl, ha, hb⟩
        have hb2 : b = [] ∨ b = [c] := by
          cases hb with
          | cons _ h => exact .inl (List.sublist_nil.mp h)
          | cons_cons _ h => exact .inr (by rw [List.sublist_nil.mp h])
        rcases hb2 with rfl | rfl
        · exact .inl (by simpa using ha)
        · exact .inr ⟨a, (ih a).mpr ha, rfl⟩
  intro w
  have := key u.reverse w
  rwa [List.reverse_reverse] at this
section
variable {S : List D}
def asS (u : List Nat) (fs : List (List Nat)) (S : List D) : Sts := ⟨[.val (.str u), .val (.lst (fs.map .str)), .un, .un], S⟩
theorem as_loop (u : List Nat) : ∀ (v : List Nat) (fs : List (List Nat)), fs.length * 2 ^ v.length ≤ 1000 → (∀ f ∈ fs, f.length + v.length ≤ 100) →
    forL (tgN 2) b__law_all_subwords_2 (charsD v) (asS u fs S) = .nx (asS u (v.foldl (fun fs c => fs ++ fs.map (· ++ [c])) fs) S) := by
  intro v
  induction v with
  | nil => intro fs _ _; simp [charsD, forL]
  | cons c v ih =>
    intro fs h1 h2
    simp only [List.length_cons, Nat.pow_succ] at h1 h2
    have hpos : 1 ≤ 2 ^ v.length := Nat.one_le_two_pow
    have hm : fs.length * 2 ≤ fs.length * (2 ^ v.length * 2) := Nat.mul_le_mul_left _ (by omega)
    have hfl : fs.length * 2 ≤ 1000 := Nat.le_trans hm h1
    have hc := comp_map (tg := tgN 3) (tt := tYs) (m := eBin addD (aV 3) (aV 2)) (vs := [3]) (st := ⟨[.val (.str u), .val (.lst (fs.map .str)), .val (.str [c]), .un], S⟩) D.str (fun f => .str (f ++ [c])) fs (fun f hf => by
      have := h2 f hf
      have h3 : f.length ≤ 100 := by omega
      simp (disch := first | (simp only [DL.o_non, DL.o_bl, DL.o_int, DL.o_str, DL.o_tup, DL.o_lst, DL.o_fro, DL.o_dct, DL.o_ins, DL.o_fn, List.length_cons, List.length_append, List.length_nil, List.length_singleton]; done) | ((with_reducible refine DL.sz_of ?_); (try simp only [List.length_cons, List.length_append, List.length_map, List.length_nil, List.length_singleton, List.length_take, List.length_drop, List.length_reverse, List.length_replicate]); omega) | (with_reducible assumption)) [↓DL.x_bNs, ↓DL.x_bNn, ↓DL.x_bEo, ↓DL.x_bEx, ↓DL.x_bEb, ↓DL.x_bFo, ↓DL.x_bFx, ↓DL.x_bFb, ↓DL.x_bOs, ↓DL.x_bOn, ↓DL.x_bPs, ↓DL.x_bPn, ↓DL.x_bQn, ↓DL.x_bQr, ↓DL.x_bQb, ↓DL.x_bQc, ↓DL.x_bQx, ↓DL.x_bQd, ↓DL.x_bWn, ↓DL.x_bWr, ↓DL.x_bWb, ↓DL.x_bWc, ↓DL.x_bWx, ↓DL.x_bWd, ↓DL.x_bBb, ↓DL.x_bIi, ↓DL.x_bCo, ↓DL.x_bCx, ↓DL.x_bCb, ↓DL.x_bRr, ↓DL.x_bRn, ↓DL.x_bRx, ↓DL.x_bAv, ↓DL.x_bAw, ↓DL.x_bind, ↓DL.x_ouF, ↓DL.x_C, ↓DL.x_var, ↓DL.x_slV, ↓DL.x_slW, ↓DL.x_aV, ↓DL.x_aE, ↓DL.x_rdS, ↓DL.x_rdD, ↓DL.x_derefO, ↓DL.x_deref, ↓DL.x_getO, ↓DL.x_getV, ↓DL.x_getW, DL.o_non, DL.o_bl, DL.o_int, DL.o_str, DL.o_tup, DL.o_lst, DL.o_fro, DL.o_dct, DL.o_ins, DL.o_fn, ↓DL.x_bin, ↓DL.x_ofS, ↓DL.x_ofN, ↓DL.x_un, ↓DL.x_argsN, ↓DL.x_argsC, ↓DL.x_tup, ↓DL.x_lst, ↓DL.x_rdLN, ↓DL.x_rdLC, ↓DL.x_argsPN, ↓DL.x_argsPC, ↓DL.x_fun, ↓DL.x_tTru, ↓DL.x_tBool, ↓DL.x_tNt, ↓DL.x_tAn, ↓DL.x_tOr, ↓DL.x_tYs, ↓DL.x_eIf, ↓DL.x_eNt, ↓DL.x_eAnd, ↓DL.x_eOr, ↓DL.x_nil, ↓DL.x_seq, ↓DL.x_if, ↓DL.x_ret, ↓DL.x_retN, ↓DL.x_ex, ↓DL.x_bk, ↓DL.x_ct, ↓DL.x_nxS, ↓DL.x_nxN, ↓DL.x_asg, ↓DL.x_tgN, ↓DL.x_setO, ↓DL.x_setS, ↓DL.x_wipe, ↓DL.x_wipeN, ↓DL.x_wipeC, ↓DL.x_tgT, ↓DL.x_tgsN, ↓DL.x_tgsC, ↓DL.x_forN, ↓DL.x_for, ↓DL.x_par, ↓DL.x_parO, ↓DL.x_retV, ↓DL.x_bVo, ↓DL.x_call, ↓DL.x_fnD, ↓DL.x_retO, DL.v_retO, ↓DL.x_retX, ↓DL.x_comp, ↓DL.x_iSeq, ↓DL.x_itL, ↓DL.x_itF, ↓DL.x_itT, ↓DL.x_itS, ↓DL.x_bG, ↓DL.x_rng1, ↓DL.x_bG2, ↓DL.x_rng2, ↓DL.x_enum, ↓DL.x_sqL, ↓DL.x_sqF, ↓DL.x_sqT, ↓DL.x_bMo, ↓DL.x_bMs, ↓DL.x_wrS, ↓DL.x_wrD, ↓DL.x_isLst, ↓DL.x_mutL, ↓DL.x_bTo, ↓DL.x_tgSub, ↓DL.x_join, ↓DL.x_isStr, ↓DL.x_partN, ↓DL.x_partS, ↓DL.x_sl, ↓DL.x_prsN, ↓DL.x_prsC, ↓DL.x_disp, DL.v_addI, DL.v_addS, DL.v_addT, DL.v_addL, DL.v_catL, DL.v_sub, DL.v_mod, DL.v_neg, DL.v_ltI, DL.v_leI, DL.v_gtI, DL.v_geI, DL.v_ltS, DL.v_leS, DL.v_eqS, DL.v_eqI, DL.v_eqB, DL.v_neS, DL.v_neI, DL.v_neB, DL.v_inS, DL.v_ninS, DL.v_isNN, DL.v_isT, DL.v_isL, DL.v_isS, DL.v_isI, DL.v_isB, DL.v_isNot, DL.v_ixL, DL.v_ixF, DL.v_ixT, DL.v_ixS, DL.v_ixK, DL.v_ixKI, DL.v_at0, DL.v_at1, DL.v_at2, DL.v_lenL, DL.v_lenF, DL.v_lenT, DL.v_lenS, DL.v_lenK, DL.v_lstL, DL.v_lstT, DL.v_lstF, DL.v_tupL, DL.v_tupT, DL.v_tupF, DL.v_cutL, DL.v_cutT, DL.v_cutS, DL.v_app, DL.v_ext, DL.v_truN, DL.v_truB, DL.v_truI, DL.v_truT, DL.v_truL, DL.v_truS, DL.v_rep, DL.v_mulS, DL.v_mulI, DL.v_setL, ↓DL.x_bUo, ↓DL.x_cStep, ↓DL.x_compN, ↓DL.x_bHn, ↓DL.x_bHc, ↓DL.x_bHb, ↓DL.x_bHr, ↓DL.x_bHx, ↓DL.x_bHd, ↓DL.x_fStep, ↓DL.x_bX, ↓DL.x_sortSet, ↓DL.x_tgU, ↓DL.x_bJ, ↓DL.x_chain, DL.v_isi, ↓DL.x_bY, ↓DL.x_pop, DL.v_pop, DL.v_inT, DL.v_rev, DL.v_notInT, ↓DL.x_sBad, ↓DL.x_eBad, ↓DL.x_setTx, ↓DL.x_sortSetS, DL.v_revS, DL.v_listXs, DL.v_listXt, DL.v_listXl, ↓DL.x_enumS1, ↓DL.x_enumSt, List.getElem?_cons_zero, List.getElem?_cons_succ, List.set_cons_zero, List.set_cons_succ]) (by omega)
    have step : fStep (tgN 2) b__law_all_subwords_2 (.str [c]) (asS u fs S) = .nx (asS u (fs ++ fs.map (· ++ [c])) S) := by
      have e : (fs ++ fs.map (· ++ [c])).map D.str = fs.map D.str ++ fs.map fun f => D.str (f ++ [c]) := by simp
      have l1 : (fs.map D.str).length = fs.length := by simp
      have l2 : (fs.map fun f => D.str (f ++ [c])).length = fs.length := by simp
      simp only [asS, e] at hc ⊢
      generalize (fs.map fun f => D.str (f ++ [c])) = Y at hc l2
      generalize fs.map D.str = X at hc l1
      simp (disch := first | (simp only [DL.o_non, DL.o_bl, DL.o_int, DL.o_str, DL.o_tup, DL.o_lst, DL.o_fro, DL.o_dct, DL.o_ins, DL.o_fn, List.length_cons, List.length_append, List.length_nil, List.length_singleton]; done) | ((with_reducible refine DL.sz_of ?_); (try simp only [List.length_cons, List.length_append, List.length_map, List.length_nil, List.length_singleton, List.length_take, List.length_drop, List.length_reverse, List.length_replicate]); omega) | (with_reducible assumption)) [↓DL.x_bNs, ↓DL.x_bNn, ↓DL.x_bEo, ↓DL.x_bEx, ↓DL.x_bEb, ↓DL.x_bFo, ↓DL.x_bFx, ↓DL.x_bFb, ↓DL.x_bOs, ↓DL.x_bOn, ↓DL.x_bPs, ↓DL.x_bPn, ↓DL.x_bQn, ↓DL.x_bQr, ↓DL.x_bQb, ↓DL.x_bQc, ↓DL.x_bQx, ↓DL.x_bQd, ↓DL.x_bWn, ↓DL.x_bWr, ↓DL.x_bWb, ↓DL.x_bWc, ↓DL.x_bWx, ↓DL.x_bWd, ↓DL.x_bBb, ↓DL.x_bIi, ↓DL.x_bCo, ↓DL.x_bCx, ↓DL.x_bCb, ↓DL.x_bRr, ↓DL.x_bRn, ↓DL.x_bRx, ↓DL.x_bAv, ↓DL.x_bAw, ↓DL.x_bind, ↓DL.x_ouF, ↓DL.x_C, ↓DL.x_var, ↓DL.x_slV, ↓DL.x_slW, ↓DL.x_aV, ↓DL.x_aE, ↓DL.x_rdS, ↓DL.x_rdD, ↓DL.x_derefO, ↓DL.x_deref, ↓DL.x_getO, ↓DL.x_getV, ↓DL.x_getW, DL.o_non, DL.o_bl, DL.o_int, DL.o_str, DL.o_tup, DL.o_lst, DL.o_fro, DL.o_dct, DL.o_ins, DL.o_fn, ↓DL.x_bin, ↓DL.x_ofS, ↓DL.x_ofN, ↓DL.x_un, ↓DL.x_argsN, ↓DL.x_argsC, ↓DL.x_tup, ↓DL.x_lst, ↓DL.x_rdLN, ↓DL.x_rdLC, ↓DL.x_argsPN, ↓DL.x_argsPC, ↓DL.x_fun, ↓DL.x_tTru, ↓DL.x_tBool, ↓DL.x_tNt, ↓DL.x_tAn, ↓DL.x_tOr, ↓DL.x_tYs, ↓DL.x_eIf, ↓DL.x_eNt, ↓DL.x_eAnd, ↓DL.x_eOr, ↓DL.x_nil, ↓DL.x_seq, ↓DL.x_if, ↓DL.x_ret, ↓DL.x_retN, ↓DL.x_ex, ↓DL.x_bk, ↓DL.x_ct, ↓DL.x_nxS, ↓DL.x_nxN, ↓DL.x_asg, ↓DL.x_tgN, ↓DL.x_setO, ↓DL.x_setS, ↓DL.x_wipe, ↓DL.x_wipeN, ↓DL.x_wipeC, ↓DL.x_tgT, ↓DL.x_tgsN, ↓DL.x_tgsC, ↓DL.x_forN, ↓DL.x_for, ↓DL.x_par, ↓DL.x_parO, ↓DL.x_retV, ↓DL.x_bVo, ↓DL.x_call, ↓DL.x_fnD, ↓DL.x_retO, DL.v_retO, ↓DL.x_retX, ↓DL.x_comp, ↓DL.x_iSeq, ↓DL.x_itL, ↓DL.x_itF, ↓DL.x_itT, ↓DL.x_itS, ↓DL.x_bG, ↓DL.x_rng1, ↓DL.x_bG2, ↓DL.x_rng2, ↓DL.x_enum, ↓DL.x_sqL, ↓DL.x_sqF, ↓DL.x_sqT, ↓DL.x_bMo, ↓DL.x_bMs, ↓DL.x_wrS, ↓DL.x_wrD, ↓DL.x_isLst, ↓DL.x_mutL, ↓DL.x_bTo, ↓DL.x_tgSub, ↓DL.x_join, ↓DL.x_isStr, ↓DL.x_partN, ↓DL.x_partS, ↓DL.x_sl, ↓DL.x_prsN, ↓DL.x_prsC, ↓DL.x_disp, DL.v_addI, DL.v_addS, DL.v_addT, DL.v_addL, DL.v_catL, DL.v_sub, DL.v_mod, DL.v_neg, DL.v_ltI, DL.v_leI, DL.v_gtI, DL.v_geI, DL.v_ltS, DL.v_leS, DL.v_eqS, DL.v_eqI, DL.v_eqB, DL.v_neS, DL.v_neI, DL.v_neB, DL.v_inS, DL.v_ninS, DL.v_isNN, DL.v_isT, DL.v_isL, DL.v_isS, DL.v_isI, DL.v_isB, DL.v_isNot, DL.v_ixL, DL.v_ixF, DL.v_ixT, DL.v_ixS, DL.v_ixK, DL.v_ixKI, DL.v_at0, DL.v_at1, DL.v_at2, DL.v_lenL, DL.v_lenF, DL.v_lenT, DL.v_lenS, DL.v_lenK, DL.v_lstL, DL.v_lstT, DL.v_lstF, DL.v_tupL, DL.v_tupT, DL.v_tupF, DL.v_cutL, DL.v_cutT, DL.v_cutS, DL.v_app, DL.v_ext, DL.v_truN, DL.v_truB, DL.v_truI, DL.v_truT, DL.v_truL, DL.v_truS, DL.v_rep, DL.v_mulS, DL.v_mulI, DL.v_setL, ↓DL.x_bUo, ↓DL.x_cStep, ↓DL.x_compN, ↓DL.x_bHn, ↓DL.x_bHc, ↓DL.x_bHb, ↓DL.x_bHr, ↓DL.x_bHx, ↓DL.x_bHd, ↓DL.x_fStep, ↓DL.x_bX, ↓DL.x_sortSet, ↓DL.x_tgU, ↓DL.x_bJ, ↓DL.x_chain, DL.v_isi, ↓DL.x_bY, ↓DL.x_pop, DL.v_pop, DL.v_inT, DL.v_rev, DL.v_notInT, ↓DL.x_sBad, ↓DL.x_eBad, ↓DL.x_setTx, ↓DL.x_sortSetS, DL.v_revS, DL.v_listXs, DL.v_listXt, DL.v_listXl, ↓DL.x_enumS1, ↓DL.x_enumSt, List.getElem?_cons_zero, List.getElem?_cons_succ, List.set_cons_zero, List.set_cons_succ, b__law_all_subwords_2, q__law_all_subwords_1, hc]
    show forL _ _ (.str [c] :: charsD v) _ = _
    rw [forL_step, step]
    refine ih _ ?_ ?_
    · simp only [List.length_append, List.length_map]
      have : (fs.length + fs.length) * 2 ^ v.length = fs.length * (2 ^ v.length * 2) := by
        rw [← Nat.two_mul, Nat.mul_comm 2, Nat.mul_assoc, Nat.mul_comm 2]
      omega
    · intro f hf
      rcases List.mem_append.mp hf with hf | hf
      · have := h2 f hf; omega
      · obtain ⟨g, hg, rfl⟩ := List.mem_map.mp hf
        have := h2 g hg
        simp only [List.length_append, List.length_singleton]
        omega
theorem allsub_ok (u : List Nat) (S : List D) (hu : u.length ≤ 6) : den__law_all_subwords [.str u] S = .ok (.lst ((subsL u).map .str)) S := by
  have h := as_loop (S := S) u u [[]] (by
    have : 2 ^ u.length ≤ 2 ^ 6 := Nat.pow_le_pow_right (by omega) hu
    simp only [List.length_singleton]
    omega) (by simp; omega)
  simp only [asS, List.map_cons, List.map_nil] at h
  unfold subsL
  generalize (u.foldl (fun fs c => fs ++ fs.map (· ++ [c])) [[]]).map D.str = Z at h ⊢
  simp (disch := first | (simp only [DL.o_non, DL.o_bl, DL.o_int, DL.o_str, DL.o_tup, DL.o_lst, DL.o_fro, DL.o_dct, DL.o_ins, DL.o_fn, List.length_cons, List.length_append, List.length_nil, List.length_singleton]; done) | ((with_reducible refine DL.sz_of ?_); (try simp only [List.length_cons, List.length_append, List.length_map, List.length_nil, List.length_singleton, List.length_take, List.length_drop, List.length_reverse, List.length_replicate]); omega) | (with_reducible assumption)) [den__law_all_subwords, c__law_all_subwords, ↓DL.x_bNs, ↓DL.x_bNn, ↓DL.x_bEo, ↓DL.x_bEx, ↓DL.x_bEb, ↓DL.x_bFo, ↓DL.x_bFx, ↓DL.x_bFb, ↓DL.x_bOs, ↓DL.x_bOn, ↓DL.x_bPs, ↓DL.x_bPn, ↓DL.x_bQn, ↓DL.x_bQr, ↓DL.x_bQb, ↓DL.x_bQc, ↓DL.x_bQx, ↓DL.x_bQd, ↓DL.x_bWn, ↓DL.x_bWr, ↓DL.x_bWb, ↓DL.x_bWc, ↓DL.x_bWx, ↓DL.x_bWd, ↓DL.x_bBb, ↓DL.x_bIi, ↓DL.x_bCo, ↓DL.x_bCx, ↓DL.x_bCb, ↓DL.x_bRr, ↓DL.x_bRn, ↓DL.x_bRx, ↓DL.x_bAv, ↓DL.x_bAw, ↓DL.x_bind, ↓DL.x_ouF, ↓DL.x_C, ↓DL.x_var, ↓DL.x_slV, ↓DL.x_slW, ↓DL.x_aV, ↓DL.x_aE, ↓DL.x_rdS, ↓DL.x_rdD, ↓DL.x_derefO, ↓DL.x_deref, ↓DL.x_getO, ↓DL.x_getV, ↓DL.x_getW, DL.o_non, DL.o_bl, DL.o_int, DL.o_str, DL.o_tup, DL.o_lst, DL.o_fro, DL.o_dct, DL.o_ins, DL.o_fn, ↓DL.x_bin, ↓DL.x_ofS, ↓DL.x_ofN, ↓DL.x_un, ↓DL.x_argsN, ↓DL.x_argsC, ↓DL.x_tup, ↓DL.x_lst, ↓DL.x_rdLN, ↓DL.x_rdLC, ↓DL.x_argsPN, ↓DL.x_argsPC, ↓DL.x_fun, ↓DL.x_tTru, ↓DL.x_tBool, ↓DL.x_tNt, ↓DL.x_tAn, ↓DL.x_tOr, ↓DL.x_tYs, ↓DL.x_eIf, ↓DL.x_eNt, ↓DL.x_eAnd, ↓DL.x_eOr, ↓DL.x_nil, ↓DL.x_seq, ↓DL.x_if, ↓DL.x_ret, ↓DL.x_retN, ↓DL.x_ex, ↓DL.x_bk, ↓DL.x_ct, ↓DL.x_nxS, ↓DL.x_nxN, ↓DL.x_asg, ↓DL.x_tgN, ↓DL.x_setO, ↓DL.x_setS, ↓DL.x_wipe, ↓DL.x_wipeN, ↓DL.x_wipeC, ↓DL.x_tgT, ↓DL.x_tgsN, ↓DL.x_tgsC, ↓DL.x_forN, ↓DL.x_for, ↓DL.x_par, ↓DL.x_parO, ↓DL.x_retV, ↓DL.x_bVo, ↓DL.x_call, ↓DL.x_fnD, ↓DL.x_retO, DL.v_retO, ↓DL.x_retX, ↓DL.x_comp, ↓DL.x_iSeq, ↓DL.x_itL, ↓DL.x_itF, ↓DL.x_itT, ↓DL.x_itS, ↓DL.x_bG, ↓DL.x_rng1, ↓DL.x_bG2, ↓DL.x_rng2, ↓DL.x_enum, ↓DL.x_sqL, ↓DL.x_sqF, ↓DL.x_sqT, ↓DL.x_bMo, ↓DL.x_bMs, ↓DL.x_wrS, ↓DL.x_wrD, ↓DL.x_isLst, ↓DL.x_mutL, ↓DL.x_bTo, ↓DL.x_tgSub, ↓DL.x_join, ↓DL.x_isStr, ↓DL.x_partN, ↓DL.x_partS, ↓DL.x_sl, ↓DL.x_prsN, ↓DL.x_prsC, ↓DL.x_disp, DL.v_addI, DL.v_addS, DL.v_addT, DL.v_addL, DL.v_catL, DL.v_sub, DL.v_mod, DL.v_neg, DL.v_ltI, DL.v_leI, DL.v_gtI, DL.v_geI, DL.v_ltS, DL.v_leS, DL.v_eqS, DL.v_eqI, DL.v_eqB, DL.v_neS, DL.v_neI, DL.v_neB, DL.v_inS, DL.v_ninS, DL.v_isNN, DL.v_isT, DL.v_isL, DL.v_isS, DL.v_isI, DL.v_isB, DL.v_isNot, DL.v_ixL, DL.v_ixF, DL.v_ixT, DL.v_ixS, DL.v_ixK, DL.v_ixKI, DL.v_at0, DL.v_at1, DL.v_at2, DL.v_lenL, DL.v_lenF, DL.v_lenT, DL.v_lenS, DL.v_lenK, DL.v_lstL, DL.v_lstT, DL.v_lstF, DL.v_tupL, DL.v_tupT, DL.v_tupF, DL.v_cutL, DL.v_cutT, DL.v_cutS, DL.v_app, DL.v_ext, DL.v_truN, DL.v_truB, DL.v_truI, DL.v_truT, DL.v_truL, DL.v_truS, DL.v_rep, DL.v_mulS, DL.v_mulI, DL.v_setL, ↓DL.x_bUo, ↓DL.x_cStep, ↓DL.x_compN, ↓DL.x_bHn, ↓DL.x_bHc, ↓DL.x_bHb, ↓DL.x_bHr, ↓DL.x_bHx, ↓DL.x_bHd, ↓DL.x_fStep, ↓DL.x_bX, ↓DL.x_sortSet, ↓DL.x_tgU, ↓DL.x_bJ, ↓DL.x_chain, DL.v_isi, ↓DL.x_bY, ↓DL.x_pop, DL.v_pop, DL.v_inT, DL.v_rev, DL.v_notInT, ↓DL.x_sBad, ↓DL.x_eBad, ↓DL.x_setTx, ↓DL.x_sortSetS, DL.v_revS, DL.v_listXs, DL.v_listXt, DL.v_listXl, ↓DL.x_enumS1, ↓DL.x_enumSt, List.getElem?_cons_zero, List.getElem?_cons_succ, List.set_cons_zero, List.set_cons_succ, h]
end
theorem pl_strs : ∀ xs : List (List Nat), plL (xs.map D.str) = true ∧ depL (xs.map D.str) = 0
  | [] => ⟨rfl, rfl⟩
  | x :: xs => by
    obtain ⟨a, b⟩ := pl_strs xs
    exact ⟨by simp [plL, D.pl, a], by simp [depL, D.dep, b]⟩
theorem inD_strs (w : List Nat) (xs : List (List Nat)) : inD (.str w) (.lst (xs.map .str)) = some (.bl (decide (w ∈ xs))) := by
  obtain ⟨a, b⟩ := pl_strs xs
  have ho : eqOk (.str w) (.lst (xs.map .str)) = true := by simp [eqOk, D.pl, D.dep, a, b]
  show (if eqOk (.str w) (.lst (xs.map .str)) = true then some (D.bl ((xs.map D.str).any fun z => z.eq (.str w))) else none) = _
  rw [if_pos ho]
  congr 2
  have e0 : ∀ x y : List Nat, (D.str x).eq (.str y) = decide (x = y) := fun x y => by
    show (x == y) = _
    rw [Bool.eq_iff_iff]; simp
  rw [List.any_map, Bool.eq_iff_iff, List.any_eq_true]
  simp only [Function.comp, e0, decide_eq_true_eq]
  constructor
  · rintro ⟨x, hx, rfl⟩; exact hx
  · exact fun h => ⟨w, h, rfl⟩

section
variable {k : Nat} {T : D} {A : List Nat}
def s02 (X0 T : D) (t a o w c p d : Sl) : Sts := ⟨[.val X0, .val (.obj 0), t, a, o, w, c, p, d], [T]⟩
variable {X0 : D} {t : Int}
theorem repr_pos {w u : List Nat} (hu : u.length < 100) (hw : w.length ≤ 1000) : ∃ z, reprGD [posD (posL w u 0)] = some (.str z) := by
  cases h : posL w u 0 with
  | none => exact ⟨[78, 111, 110, 101], rfl⟩
  | some ns =>
    obtain ⟨h1, h2⟩ := posL_bd w u 0 ns h
    exact repr_nats ns (by omega) fun n hn => by have := h2 n hn; omega
/-- what the law asks of a word and another -/
theorem asks02 (W U : List Nat) (S : List D) (hW : W.length ≤ 100) (hU : U.length < 100) : (isObj (posD (posL W U 0)) = false ∧ isNotD (posD (posL W U 0)) .non = some (.bl (isSub W U))) ∧ ∃ z, reprGD [posD (posL W U 0)] = some (.str z) := by
  refine ⟨⟨?_, ?_⟩, repr_pos hU (by omega)⟩
  · cases posL W U 0 <;> rfl
  · have h2 := posL_sub W U 0
    cases hp : posL W U 0 with
    | none => rw [hp] at h2; rw [← h2]; rfl
    | some ns => rw [hp] at h2; rw [← h2]; rfl
theorem turn02 (h : Tk k T) (hk : k < 60000000) :
    ∃ T', b_law_k02_2 (s02 X0 T (.val (.int t)) .un .un .un .un .un .un) = .nx (s02 X0 T' .un .un .un .un .un .un .un) ∧ Tk (k + 200) T' := by
  obtain ⟨A, T1, e1, gA, t1⟩ := t_alphabet (S := []) h (by omega)
  obtain ⟨x, T2, e2, hx, t2⟩ := t_pickL (S := []) (xs := [.int 4, .int 8, .int 12, .int 60]) t1 (by omega) (by simp) (by simp)
  obtain ⟨L, rfl, hL⟩ : ∃ L : Nat, x = .int L ∧ L ≤ 60 := by
    simp only [List.mem_cons, List.not_mem_nil, or_false] at hx
    rcases hx with rfl | rfl | rfl | rfl
    · exact ⟨4, rfl, by omega⟩
    · exact ⟨8, rfl, by omega⟩
    · exact ⟨12, rfl, by omega⟩
    · exact ⟨60, rfl, by omega⟩
  obtain ⟨U, T3, e3, t3, u1, u2⟩ := t_word (S := []) (L := L) t2 (by omega) gA.ne gA.l26 (by omega)
  obtain ⟨v, T4, e4, t4, hv⟩ := comp_draw (tg := tgN 6) (tt := tBool (eBin gtD (aE (eCall den__law_draw [(eVar 1), (eC (.int 3))])) (aE (eC (.int 0))))) (m := eVar 6) (vs := [6]) (fun T => s02 X0 T (.val (.int t)) (.val (.str A)) (.val (.str U)) .un .un .un .un) (fun c k T h hk => by
    obtain ⟨r, T1, e1, r1, t1⟩ := t_drawN (S := []) (many := 3) h (by omega) (by omega) (by omega)
    have e1' : den__law_draw [D.obj 0, D.int 3] [T] = Fo.ok (D.int r) [T1] := e1
    refine ⟨decide (0 < r), T1, ?_, t1⟩
    by_cases h0 : 0 < r
    · simp (disch := first | (simp only [DL.o_non, DL.o_bl, DL.o_int, DL.o_str, DL.o_tup, DL.o_lst, DL.o_fro, DL.o_dct, DL.o_ins, DL.o_fn, List.length_cons, List.length_append, List.length_nil, List.length_singleton]; done) | ((with_reducible refine DL.sz_of ?_); (try simp only [List.length_cons, List.length_append, List.length_map, List.length_nil, List.length_singleton, List.length_take, List.length_drop, List.length_reverse, List.length_replicate]); omega) | (with_reducible assumption)) [↓DL.x_bNs, ↓DL.x_bNn, ↓DL.x_bEo, ↓DL.x_bEx, ↓DL.x_bEb, ↓DL.x_bFo, ↓DL.x_bFx, ↓DL.x_bFb, ↓DL.x_bOs, ↓DL.x_bOn, ↓DL.x_bPs, ↓DL.x_bPn, ↓DL.x_bQn, ↓DL.x_bQr, ↓DL.x_bQb, ↓DL.x_bQc, ↓DL.x_bQx, ↓DL.x_bQd, ↓DL.x_bWn, ↓DL.x_bWr, ↓DL.x_bWb, ↓DL.x_bWc, ↓DL.x_bWx, ↓DL.x_bWd, ↓DL.x_bBb, ↓DL.x_bIi, ↓DL.x_bCo, ↓DL.x_bCx, ↓DL.x_bCb, ↓DL.x_bRr, ↓DL.x_bRn, ↓DL.x_bRx, ↓DL.x_bAv, ↓DL.x_bAw, ↓DL.x_bind, ↓DL.x_ouF, ↓DL.x_C, ↓DL.x_var, ↓DL.x_slV, ↓DL.x_slW, ↓DL.x_aV, ↓DL.x_aE, ↓DL.x_rdS, ↓DL.x_rdD, ↓DL.x_derefO, ↓DL.x_deref, ↓DL.x_getO, ↓DL.x_getV, ↓DL.x_getW, DL.o_non, DL.o_bl, DL.o_int, DL.o_str, DL.o_tup, DL.o_lst, DL.o_fro, DL.o_dct, DL.o_ins, DL.o_fn, ↓DL.x_bin, ↓DL.x_ofS, ↓DL.x_ofN, ↓DL.x_un, ↓DL.x_argsN, ↓DL.x_argsC, ↓DL.x_tup, ↓DL.x_lst, ↓DL.x_rdLN, ↓DL.x_rdLC, ↓DL.x_argsPN, ↓DL.x_argsPC, ↓DL.x_fun, ↓DL.x_tTru, ↓DL.x_tBool, ↓DL.x_tNt, ↓DL.x_tAn, ↓DL.x_tOr, ↓DL.x_tYs, ↓DL.x_eIf, ↓DL.x_eNt, ↓DL.x_eAnd, ↓DL.x_eOr, ↓DL.x_nil, ↓DL.x_seq, ↓DL.x_if, ↓DL.x_ret, ↓DL.x_retN, ↓DL.x_ex, ↓DL.x_bk, ↓DL.x_ct, ↓DL.x_nxS, ↓DL.x_nxN, ↓DL.x_asg, ↓DL.x_tgN, ↓DL.x_setO, ↓DL.x_setS, ↓DL.x_wipe, ↓DL.x_wipeN, ↓DL.x_wipeC, ↓DL.x_tgT, ↓DL.x_tgsN, ↓DL.x_tgsC, ↓DL.x_forN, ↓DL.x_for, ↓DL.x_par, ↓DL.x_parO, ↓DL.x_retV, ↓DL.x_bVo, ↓DL.x_call, ↓DL.x_fnD, ↓DL.x_retO, DL.v_retO, ↓DL.x_retX, ↓DL.x_comp, ↓DL.x_iSeq, ↓DL.x_itL, ↓DL.x_itF, ↓DL.x_itT, ↓DL.x_itS, ↓DL.x_bG, ↓DL.x_rng1, ↓DL.x_bG2, ↓DL.x_rng2, ↓DL.x_enum, ↓DL.x_sqL, ↓DL.x_sqF, ↓DL.x_sqT, ↓DL.x_bMo, ↓DL.x_bMs, ↓DL.x_wrS, ↓DL.x_wrD, ↓DL.x_isLst, ↓DL.x_mutL, ↓DL.x_bTo, ↓DL.x_tgSub, ↓DL.x_join, ↓DL.x_isStr, ↓DL.x_partN, ↓DL.x_partS, ↓DL.x_sl, ↓DL.x_prsN, ↓DL.x_prsC, ↓DL.x_disp, DL.v_addI, DL.v_addS, DL.v_addT, DL.v_addL, DL.v_catL, DL.v_sub, DL.v_mod, DL.v_neg, DL.v_ltI, DL.v_leI, DL.v_gtI, DL.v_geI, DL.v_ltS, DL.v_leS, DL.v_eqS, DL.v_eqI, DL.v_eqB, DL.v_neS, DL.v_neI, DL.v_neB, DL.v_inS, DL.v_ninS, DL.v_isNN, DL.v_isT, DL.v_isL, DL.v_isS, DL.v_isI, DL.v_isB, DL.v_isNot, DL.v_ixL, DL.v_ixF, DL.v_ixT, DL.v_ixS, DL.v_ixK, DL.v_ixKI, DL.v_at0, DL.v_at1, DL.v_at2, DL.v_lenL, DL.v_lenF, DL.v_lenT, DL.v_lenS, DL.v_lenK, DL.v_lstL, DL.v_lstT, DL.v_lstF, DL.v_tupL, DL.v_tupT, DL.v_tupF, DL.v_cutL, DL.v_cutT, DL.v_cutS, DL.v_app, DL.v_ext, DL.v_truN, DL.v_truB, DL.v_truI, DL.v_truT, DL.v_truL, DL.v_truS, DL.v_rep, DL.v_mulS, DL.v_mulI, DL.v_setL, ↓DL.x_bUo, ↓DL.x_cStep, ↓DL.x_compN, ↓DL.x_bHn, ↓DL.x_bHc, ↓DL.x_bHb, ↓DL.x_bHr, ↓DL.x_bHx, ↓DL.x_bHd, ↓DL.x_fStep, ↓DL.x_bX, ↓DL.x_sortSet, ↓DL.x_tgU, ↓DL.x_bJ, ↓DL.x_chain, DL.v_isi, ↓DL.x_bY, ↓DL.x_pop, DL.v_pop, DL.v_inT, DL.v_rev, DL.v_notInT, ↓DL.x_sBad, ↓DL.x_eBad, ↓DL.x_setTx, ↓DL.x_sortSetS, DL.v_revS, DL.v_listXs, DL.v_listXt, DL.v_listXl, ↓DL.x_enumS1, ↓DL.x_enumSt, List.getElem?_cons_zero, List.getElem?_cons_succ, List.set_cons_zero, List.set_cons_succ, s02, strD, e1', h0]
    · have hr : r = 0 := by omega
      subst hr
      have e1'' : den__law_draw [D.obj 0, D.int 3] [T] = Fo.ok (D.int 0) [T1] := e1'
      simp (disch := first | (simp only [DL.o_non, DL.o_bl, DL.o_int, DL.o_str, DL.o_tup, DL.o_lst, DL.o_fro, DL.o_dct, DL.o_ins, DL.o_fn, List.length_cons, List.length_append, List.length_nil, List.length_singleton]; done) | ((with_reducible refine DL.sz_of ?_); (try simp only [List.length_cons, List.length_append, List.length_map, List.length_nil, List.length_singleton, List.length_take, List.length_drop, List.length_reverse, List.length_replicate]); omega) | (with_reducible assumption)) [↓DL.x_bNs, ↓DL.x_bNn, ↓DL.x_bEo, ↓DL.x_bEx, ↓DL.x_bEb, ↓DL.x_bFo, ↓DL.x_bFx, ↓DL.x_bFb, ↓DL.x_bOs, ↓DL.x_bOn, ↓DL.x_bPs, ↓DL.x_bPn, ↓DL.x_bQn, ↓DL.x_bQr, ↓DL.x_bQb, ↓DL.x_bQc, ↓DL.x_bQx, ↓DL.x_bQd, ↓DL.x_bWn, ↓DL.x_bWr, ↓DL.x_bWb, ↓DL.x_bWc, ↓DL.x_bWx, ↓DL.x_bWd, ↓DL.x_bBb, ↓DL.x_bIi, ↓DL.x_bCo, ↓DL.x_bCx, ↓DL.x_bCb, ↓DL.x_bRr, ↓DL.x_bRn, ↓DL.x_bRx, ↓DL.x_bAv, ↓DL.x_bAw, ↓DL.x_bind, ↓DL.x_ouF, ↓DL.x_C, ↓DL.x_var, ↓DL.x_slV, ↓DL.x_slW, ↓DL.x_aV, ↓DL.x_aE, ↓DL.x_rdS, ↓DL.x_rdD, ↓DL.x_derefO, ↓DL.x_deref, ↓DL.x_getO, ↓DL.x_getV, ↓DL.x_getW, DL.o_non, DL.o_bl, DL.o_int, DL.o_str, DL.o_tup, DL.o_lst, DL.o_fro, DL.o_dct, DL.o_ins, DL.o_fn, ↓DL.x_bin, ↓DL.x_ofS, ↓DL.x_ofN, ↓DL.x_un, ↓DL.x_argsN, ↓DL.x_argsC, ↓DL.x_tup, ↓DL.x_lst, ↓DL.x_rdLN, ↓DL.x_rdLC, ↓DL.x_argsPN, ↓DL.x_argsPC, ↓DL.x_fun, ↓DL.x_tTru, ↓DL.x_tBool, ↓DL.x_tNt, ↓DL.x_tAn, ↓DL.x_tOr, ↓DL.x_tYs, ↓DL.x_eIf, ↓DL.x_eNt, ↓DL.x_eAnd, ↓DL.x_eOr, ↓DL.x_nil, ↓DL.x_seq, ↓DL.x_if, ↓DL.x_ret, ↓DL.x_retN, ↓DL.x_ex, ↓DL.x_bk, ↓DL.x_ct, ↓DL.x_nxS, ↓DL.x_nxN, ↓DL.x_asg, ↓DL.x_tgN, ↓DL.x_setO, ↓DL.x_setS, ↓DL.x_wipe, ↓DL.x_wipeN, ↓DL.x_wipeC, ↓DL.x_tgT, ↓DL.x_tgsN, ↓DL.x_tgsC, ↓DL.x_forN, ↓DL.x_for, ↓DL.x_par, ↓DL.x_parO, ↓DL.x_retV, ↓DL.x_bVo, ↓DL.x_call, ↓DL.x_fnD, ↓DL.x_retO, DL.v_retO, ↓DL.x_retX, ↓DL.x_comp, ↓DL.x_iSeq, ↓DL.x_itL, ↓DL.x_itF, ↓DL.x_itT, ↓DL.x_itS, ↓DL.x_bG, ↓DL.x_rng1, ↓DL.x_bG2, ↓DL.x_rng2, ↓DL.x_enum, ↓DL.x_sqL, ↓DL.x_sqF, ↓DL.x_sqT, ↓DL.x_bMo, ↓DL.x_bMs, ↓DL.x_wrS, ↓DL.x_wrD, ↓DL.x_isLst, ↓DL.x_mutL, ↓DL.x_bTo, ↓DL.x_tgSub, ↓DL.x_join, ↓DL.x_isStr, ↓DL.x_partN, ↓DL.x_partS, ↓DL.x_sl, ↓DL.x_prsN, ↓DL.x_prsC, ↓DL.x_disp, DL.v_addI, DL.v_addS, DL.v_addT, DL.v_addL, DL.v_catL, DL.v_sub, DL.v_mod, DL.v_neg, DL.v_ltI, DL.v_leI, DL.v_gtI, DL.v_geI, DL.v_ltS, DL.v_leS, DL.v_eqS, DL.v_eqI, DL.v_eqB, DL.v_neS, DL.v_neI, DL.v_neB, DL.v_inS, DL.v_ninS, DL.v_isNN, DL.v_isT, DL.v_isL, DL.v_isS, DL.v_isI, DL.v_isB, DL.v_isNot, DL.v_ixL, DL.v_ixF, DL.v_ixT, DL.v_ixS, DL.v_ixK, DL.v_ixKI, DL.v_at0, DL.v_at1, DL.v_at2, DL.v_lenL, DL.v_lenF, DL.v_lenT, DL.v_lenS, DL.v_lenK, DL.v_lstL, DL.v_lstT, DL.v_lstF, DL.v_tupL, DL.v_tupT, DL.v_tupF, DL.v_cutL, DL.v_cutT, DL.v_cutS, DL.v_app, DL.v_ext, DL.v_truN, DL.v_truB, DL.v_truI, DL.v_truT, DL.v_truL, DL.v_truS, DL.v_rep, DL.v_mulS, DL.v_mulI, DL.v_setL, ↓DL.x_bUo, ↓DL.x_cStep, ↓DL.x_compN, ↓DL.x_bHn, ↓DL.x_bHc, ↓DL.x_bHb, ↓DL.x_bHr, ↓DL.x_bHx, ↓DL.x_bHd, ↓DL.x_fStep, ↓DL.x_bX, ↓DL.x_sortSet, ↓DL.x_tgU, ↓DL.x_bJ, ↓DL.x_chain, DL.v_isi, ↓DL.x_bY, ↓DL.x_pop, DL.v_pop, DL.v_inT, DL.v_rev, DL.v_notInT, ↓DL.x_sBad, ↓DL.x_eBad, ↓DL.x_setTx, ↓DL.x_sortSetS, DL.v_revS, DL.v_listXs, DL.v_listXt, DL.v_listXl, ↓DL.x_enumS1, ↓DL.x_enumSt, List.getElem?_cons_zero, List.getElem?_cons_succ, List.set_cons_zero, List.set_cons_succ, s02, strD, e1'']) U [] (k + 5 + 1 + 1) T3 t3 (by omega) (by simp; omega)
  simp only [List.map_nil, List.nil_append] at e4
  have hvl : v.length ≤ 60 := Nat.le_trans hv.length_le (by omega)
  have hj := joinc_ok v (by omega)
  generalize v.map strD = V at e4 hj
  obtain ⟨r, T5, e5, l5, t5⟩ := t_drawN (S := []) (many := 2) t4 (by omega) (by omega) (by omega)
  have e2' : den__law_pick [D.obj 0, D.lst [D.int 4, D.int 8, D.int 12, D.int 60]] [T1] = Fo.ok (D.int L) [T2] := e2
  have e5' : den__law_draw [D.obj 0, D.int 2] [T4] = Fo.ok (D.int r) [T5] := e5
  have hne : ∀ a : Bool, neD (.bl a) (.bl a) = some (.bl false) := fun a => by cases a <;> rfl
  have ending : ∀ (v' : List Nat) (T6 : D) (m : Nat), v'.length ≤ 61 → m ≤ k + 100 → Tk m T6 → ∃ (w4 W : List Nat) (T7 T8 : D), den__law_word [.obj 0, .str A, .int 4] [T6] = .ok (.str w4) [T7] ∧
      den__law_pick [.obj 0, .lst [.str v', .str v', .str v', .str U, .str [], .str w4]] [T7] = .ok (.str W) [T8] ∧ W.length ≤ 100 ∧ Tk (k + 200) T8 := by
    intro v' T6 m hv' hm t6
    obtain ⟨w4, T7, e7, t7, w1, w2⟩ := t_word (S := []) (L := 4) t6 (by omega) gA.ne gA.l26 (by omega)
    obtain ⟨y, T8, e8, hy, t8⟩ := t_pickL (S := []) (xs := [.str v', .str v', .str v', .str U, .str [], .str w4]) t7 (by omega) (by simp) (by simp)
    simp only [List.mem_cons, List.not_mem_nil, or_false] at hy
    have tt : Tk (k + 200) T8 := t8.up (by omega)
    rcases hy with rfl | rfl | rfl | rfl | rfl | rfl
    · exact ⟨w4, _, T7, T8, e7, e8, by omega, tt⟩
    · exact ⟨w4, _, T7, T8, e7, e8, by omega, tt⟩
    · exact ⟨w4, _, T7, T8, e7, e8, by omega, tt⟩
    · exact ⟨w4, _, T7, T8, e7, e8, by omega, tt⟩
    · exact ⟨w4, _, T7, T8, e7, e8, by simp, tt⟩
    · exact ⟨w4, _, T7, T8, e7, e8, by omega, tt⟩
  have final : ∀ (W : List Nat) (T8 : D), W.length ≤ 100 → True := fun _ _ _ => trivial
  by_cases h0 : r = 0
  · subst h0
    have e5'' : den__law_draw [D.obj 0, D.int 2] [T4] = Fo.ok (D.int 0) [T5] := e5'
    obtain ⟨pl, T6, e6, l6, t6⟩ := t_drawN (S := []) (many := v.length + 1) t5 (by omega) (by omega) (by omega)
    obtain ⟨y, T6a, e6a, _, t6a⟩ := t_pickS (S := []) (xs := A) t6 (by omega) gA.ne (by have := gA.le; omega)
    obtain ⟨d, T6b, e6b, l6b, t6b⟩ := t_drawN (S := []) (many := 2) t6a (by omega) (by omega) (by omega)
    have e6' : den__law_draw [D.obj 0, D.int ((v.length : Int) + 1)] [T5] = Fo.ok (D.int pl) [T6] := e6
    have e6b' : den__law_draw [D.obj 0, D.int 2] [T6a] = Fo.ok (D.int d) [T6b] := e6b
    have c1 : cutL v none (some (pl : Int)) = v.take pl := cut_to v pl
    have c2 : cutL v (some ((pl : Int) + (d : Int))) none = v.drop (pl + d) := by rw [← Int.natCast_add, cut_from]
    obtain ⟨w4, W, T7, T8, e7, e8, hW, t8⟩ := ending (v.take pl ++ y :: v.drop (pl + d)) T6b _ (by simp; omega) (by omega) t6b
    refine ⟨T8, ?_, t8⟩
    have f1 := places_ok W U [T8] (by omega) (by omega)
    have f2 := first_ok W U [T8] (by omega) (by omega)
    have f3 := issub_ok W U [T8] (by omega) (by omega)
    have f4 := subword_ok W U [T8] (by omega)
    have f5 := same_ok (isSub W U) (isSub W U) [T8]
    obtain ⟨⟨o1, o2⟩, z, o3⟩ := asks02 W U [T8] hW (by omega)
    rw [beq_self_eq_true] at f5
    have hs := hne (isSub W U)
    have hmem : decide (W ∈ subsL U) = isSub W U := by
      rw [Bool.eq_iff_iff, decide_eq_true_eq, mem_subs, isSub_iff]
    have hin := inD_strs W (subsL U)
    rw [hmem] at hin
    generalize isSub W U = b at f3 f4 f5 o2 hs hin
    generalize posD (posL W U 0) = P at f1 f2 o1 o2 o3
    by_cases h7 : U.length < 7
    · have hi7 : (U.length : Int) < 7 := by omega
      have f6 := allsub_ok U [T8] (by omega)
      generalize (subsL U).map D.str = Z at f6 hin
      simp only [s02] at e4 ⊢
      simp (disch := first | (simp only [DL.o_non, DL.o_bl, DL.o_int, DL.o_str, DL.o_tup, DL.o_lst, DL.o_fro, DL.o_dct, DL.o_ins, DL.o_fn, List.length_cons, List.length_append, List.length_nil, List.length_singleton]; done) | ((with_reducible refine DL.sz_of ?_); (try simp only [List.length_cons, List.length_append, List.length_map, List.length_nil, List.length_singleton, List.length_take, List.length_drop, List.length_reverse, List.length_replicate]); omega) | (with_reducible assumption)) [↓DL.x_bNs, ↓DL.x_bNn, ↓DL.x_bEo, ↓DL.x_bEx, ↓DL.x_bEb, ↓DL.x_bFo, ↓DL.x_bFx, ↓DL.x_bFb, ↓DL.x_bOs, ↓DL.x_bOn, ↓DL.x_bPs, ↓DL.x_bPn, ↓DL.x_bQn, ↓DL.x_bQr, ↓DL.x_bQb, ↓DL.x_bQc, ↓DL.x_bQx, ↓DL.x_bQd, ↓DL.x_bWn, ↓DL.x_bWr, ↓DL.x_bWb, ↓DL.x_bWc, ↓DL.x_bWx, ↓DL.x_bWd, ↓DL.x_bBb, ↓DL.x_bIi, ↓DL.x_bCo, ↓DL.x_bCx, ↓DL.x_bCb, ↓DL.x_bRr, ↓DL.x_bRn, ↓DL.x_bRx, ↓DL.x_bAv, ↓DL.x_bAw, ↓DL.x_bind, ↓DL.x_ouF, ↓DL.x_C, ↓DL.x_var, ↓DL.x_slV, ↓DL.x_slW, ↓DL.x_aV, ↓DL.x_aE, ↓DL.x_rdS, ↓DL.x_rdD, ↓DL.x_derefO, ↓DL.x_deref, ↓DL.x_getO, ↓DL.x_getV, ↓DL.x_getW, DL.o_non, DL.o_bl, DL.o_int, DL.o_str, DL.o_tup, DL.o_lst, DL.o_fro, DL.o_dct, DL.o_ins, DL.o_fn, ↓DL.x_bin, ↓DL.x_ofS, ↓DL.x_ofN, ↓DL.x_un, ↓DL.x_argsN, ↓DL.x_argsC, ↓DL.x_tup, ↓DL.x_lst, ↓DL.x_rdLN, ↓DL.x_rdLC, ↓DL.x_argsPN, ↓DL.x_argsPC, ↓DL.x_fun, ↓DL.x_tTru, ↓DL.x_tBool, ↓DL.x_tNt, ↓DL.x_tAn, ↓DL.x_tOr, ↓DL.x_tYs, ↓DL.x_eIf, ↓DL.x_eNt, ↓DL.x_eAnd, ↓DL.x_eOr, ↓DL.x_nil, ↓DL.x_seq, ↓DL.x_if, ↓DL.x_ret, ↓DL.x_retN, ↓DL.x_ex, ↓DL.x_bk, ↓DL.x_ct, ↓DL.x_nxS, ↓DL.x_nxN, ↓DL.x_asg, ↓DL.x_tgN, ↓DL.x_setO, ↓DL.x_setS, ↓DL.x_wipe, ↓DL.x_wipeN, ↓DL.x_wipeC, ↓DL.x_tgT, ↓DL.x_tgsN, ↓DL.x_tgsC, ↓DL.x_forN, ↓DL.x_for, ↓DL.x_par, ↓DL.x_parO, ↓DL.x_retV, ↓DL.x_bVo, ↓DL.x_call, ↓DL.x_fnD, ↓DL.x_retO, DL.v_retO, ↓DL.x_retX, ↓DL.x_comp, ↓DL.x_iSeq, ↓DL.x_itL, ↓DL.x_itF, ↓DL.x_itT, ↓DL.x_itS, ↓DL.x_bG, ↓DL.x_rng1, ↓DL.x_bG2, ↓DL.x_rng2, ↓DL.x_enum, ↓DL.x_sqL, ↓DL.x_sqF, ↓DL.x_sqT, ↓DL.x_bMo, ↓DL.x_bMs, ↓DL.x_wrS, ↓DL.x_wrD, ↓DL.x_isLst, ↓DL.x_mutL, ↓DL.x_bTo, ↓DL.x_tgSub, ↓DL.x_join, ↓DL.x_isStr, ↓DL.x_partN, ↓DL.x_partS, ↓DL.x_sl, ↓DL.x_prsN, ↓DL.x_prsC, ↓DL.x_disp, DL.v_addI, DL.v_addS, DL.v_addT, DL.v_addL, DL.v_catL, DL.v_sub, DL.v_mod, DL.v_neg, DL.v_ltI, DL.v_leI, DL.v_gtI, DL.v_geI, DL.v_ltS, DL.v_leS, DL.v_eqS, DL.v_eqI, DL.v_eqB, DL.v_neS, DL.v_neI, DL.v_neB, DL.v_inS, DL.v_ninS, DL.v_isNN, DL.v_isT, DL.v_isL, DL.v_isS, DL.v_isI, DL.v_isB, DL.v_isNot, DL.v_ixL, DL.v_ixF, DL.v_ixT, DL.v_ixS, DL.v_ixK, DL.v_ixKI, DL.v_at0, DL.v_at1, DL.v_at2, DL.v_lenL, DL.v_lenF, DL.v_lenT, DL.v_lenS, DL.v_lenK, DL.v_lstL, DL.v_lstT, DL.v_lstF, DL.v_tupL, DL.v_tupT, DL.v_tupF, DL.v_cutL, DL.v_cutT, DL.v_cutS, DL.v_app, DL.v_ext, DL.v_truN, DL.v_truB, DL.v_truI, DL.v_truT, DL.v_truL, DL.v_truS, DL.v_rep, DL.v_mulS, DL.v_mulI, DL.v_setL, ↓DL.x_bUo, ↓DL.x_cStep, ↓DL.x_compN, ↓DL.x_bHn, ↓DL.x_bHc, ↓DL.x_bHb, ↓DL.x_bHr, ↓DL.x_bHx, ↓DL.x_bHd, ↓DL.x_fStep, ↓DL.x_bX, ↓DL.x_sortSet, ↓DL.x_tgU, ↓DL.x_bJ, ↓DL.x_chain, DL.v_isi, ↓DL.x_bY, ↓DL.x_pop, DL.v_pop, DL.v_inT, DL.v_rev, DL.v_notInT, ↓DL.x_sBad, ↓DL.x_eBad, ↓DL.x_setTx, ↓DL.x_sortSetS, DL.v_revS, DL.v_listXs, DL.v_listXt, DL.v_listXl, ↓DL.x_enumS1, ↓DL.x_enumSt, List.getElem?_cons_zero, List.getElem?_cons_succ, List.set_cons_zero, List.set_cons_succ, b_law_k02_2, q_law_k02_1, e1, e2', e3, e4, hj, e5'', e6', e6a, e6b', c1, c2, e7, e8, f1, f2, f3, f4, f5, f6, o1, o2, o3, hs, hin, hi7, h7]
    · have hi7 : ¬ (U.length : Int) < 7 := by omega
      simp only [s02] at e4 ⊢
      simp (disch := first | (simp only [DL.o_non, DL.o_bl, DL.o_int, DL.o_str, DL.o_tup, DL.o_lst, DL.o_fro, DL.o_dct, DL.o_ins, DL.o_fn, List.length_cons, List.length_append, List.length_nil, List.length_singleton]; done) | ((with_reducible refine DL.sz_of ?_); (try simp only [List.length_cons, List.length_append, List.length_map, List.length_nil, List.length_singleton, List.length_take, List.length_drop, List.length_reverse, List.length_replicate]); omega) | (with_reducible assumption)) [↓DL.x_bNs, ↓DL.x_bNn, ↓DL.x_bEo, ↓DL.x_bEx, ↓DL.x_bEb, ↓DL.x_bFo, ↓DL.x_bFx, ↓DL.x_bFb, ↓DL.x_bOs, ↓DL.x_bOn, ↓DL.x_bPs, ↓DL.x_bPn, ↓DL.x_bQn, ↓DL.x_bQr, ↓DL.x_bQb, ↓DL.x_bQc, ↓DL.x_bQx, ↓DL.x_bQd, ↓DL.x_bWn, ↓DL.x_bWr, ↓DL.x_bWb, ↓DL.x_bWc, ↓DL.x_bWx, ↓DL.x_bWd, ↓DL.x_bBb, ↓DL.x_bIi, ↓DL.x_bCo, ↓DL.x_bCx, ↓DL.x_bCb, ↓DL.x_bRr, ↓DL.x_bRn, ↓DL.x_bRx, ↓DL.x_bAv, ↓DL.x_bAw, ↓DL.x_bind, ↓DL.x_ouF, ↓DL.x_C, ↓DL.x_var, ↓DL.x_slV, ↓DL.x_slW, ↓DL.x_aV, ↓DL.x_aE, ↓DL.x_rdS, ↓DL.x_rdD, ↓DL.x_derefO, ↓DL.x_deref, ↓DL.x_getO, ↓DL.x_getV, ↓DL.x_getW, DL.o_non, DL.o_bl, DL.o_int, DL.o_str, DL.o_tup, DL.o_lst, DL.o_fro, DL.o_dct, DL.o_ins, DL.o_fn, ↓DL.x_bin, ↓DL.x_ofS, ↓DL.x_ofN, ↓DL.x_un, ↓DL.x_argsN, ↓DL.x_argsC, ↓DL.x_tup, ↓DL.x_lst, ↓DL.x_rdLN, ↓DL.x_rdLC, ↓DL.x_argsPN, ↓DL.x_argsPC, ↓DL.x_fun, ↓DL.x_tTru, ↓DL.x_tBool, ↓DL.x_tNt, ↓DL.x_tAn, ↓DL.x_tOr, ↓DL.x_tYs, ↓DL.x_eIf, ↓DL.x_eNt, ↓DL.x_eAnd, ↓DL.x_eOr, ↓DL.x_nil, ↓DL.x_seq, ↓DL.x_if, ↓DL.x_ret, ↓DL.x_retN, ↓DL.x_ex, ↓DL.x_bk, ↓DL.x_ct, ↓DL.x_nxS, ↓DL.x_nxN, ↓DL.x_asg, ↓DL.x_tgN, ↓DL.x_setO, ↓DL.x_setS, ↓DL.x_wipe, ↓DL.x_wipeN, ↓DL.x_wipeC, ↓DL.x_tgT, ↓DL.x_tgsN, ↓DL.x_tgsC, ↓DL.x_forN, ↓DL.x_for, ↓DL.x_par, ↓DL.x_parO, ↓DL.x_retV, ↓DL.x_bVo, ↓DL.x_call, ↓DL.x_fnD, ↓DL.x_retO, DL.v_retO, ↓DL.x_retX, ↓DL.x_comp, ↓DL.x_iSeq, ↓DL.x_itL, ↓DL.x_itF, ↓DL.x_itT, ↓DL.x_itS, ↓DL.x_bG, ↓DL.x_rng1, ↓DL.x_bG2, ↓DL.x_rng2, ↓DL.x_enum, ↓DL.x_sqL, ↓DL.x_sqF, ↓DL.x_sqT, ↓DL.x_bMo, ↓DL.x_bMs, ↓DL.x_wrS, ↓DL.x_wrD, ↓DL.x_isLst, ↓DL.x_mutL, ↓DL.x_bTo, ↓DL.x_tgSub, ↓DL.x_join, ↓DL.x_isStr, ↓DL.x_partN, ↓DL.x_partS, ↓DL.x_sl, ↓DL.x_prsN, ↓DL.x_prsC, ↓DL.x_disp, DL.v_addI, DL.v_addS, DL.v_addT, DL.v_addL, DL.v_catL, DL.v_sub, DL.v_mod, DL.v_neg, DL.v_ltI, DL.v_leI, DL.v_gtI, DL.v_geI, DL.v_ltS, DL.v_leS, DL.v_eqS, DL.v_eqI, DL.v_eqB, DL.v_neS, DL.v_neI, DL.v_neB, DL.v_inS, DL.v_ninS, DL.v_isNN, DL.v_isT, DL.v_isL, DL.v_isS, DL.v_isI, DL.v_isB, DL.v_isNot, DL.v_ixL, DL.v_ixF, DL.v_ixT, DL.v_ixS, DL.v_ixK, DL.v_ixKI, DL.v_at0, DL.v_at1, DL.v_at2, DL.v_lenL, DL.v_lenF, DL.v_lenT, DL.v_lenS, DL.v_lenK, DL.v_lstL, DL.v_lstT, DL.v_lstF, DL.v_tupL, DL.v_tupT, DL.v_tupF, DL.v_cutL, DL.v_cutT, DL.v_cutS, DL.v_app, DL.v_ext, DL.v_truN, DL.v_truB, DL.v_truI, DL.v_truT, DL.v_truL, DL.v_truS, DL.v_rep, DL.v_mulS, DL.v_mulI, DL.v_setL, ↓DL.x_bUo, ↓DL.x_cStep, ↓DL.x_compN, ↓DL.x_bHn, ↓DL.x_bHc, ↓DL.x_bHb, ↓DL.x_bHr, ↓DL.x_bHx, ↓DL.x_bHd, ↓DL.x_fStep, ↓DL.x_bX, ↓DL.x_sortSet, ↓DL.x_tgU, ↓DL.x_bJ, ↓DL.x_chain, DL.v_isi, ↓DL.x_bY, ↓DL.x_pop, DL.v_pop, DL.v_inT, DL.v_rev, DL.v_notInT, ↓DL.x_sBad, ↓DL.x_eBad, ↓DL.x_setTx, ↓DL.x_sortSetS, DL.v_revS, DL.v_listXs, DL.v_listXt, DL.v_listXl, ↓DL.x_enumS1, ↓DL.x_enumSt, List.getElem?_cons_zero, List.getElem?_cons_succ, List.set_cons_zero, List.set_cons_succ, b_law_k02_2, q_law_k02_1, e1, e2', e3, e4, hj, e5'', e6', e6a, e6b', c1, c2, e7, e8, f1, f2, f3, f4, f5, o1, o2, o3, hs, hi7, h7]
  · have h0i : ¬ (r : Int) = 0 := by omega
    obtain ⟨w4, W, T7, T8, e7, e8, hW, t8⟩ := ending v T5 _ (by omega) (by omega) t5
    refine ⟨T8, ?_, t8⟩
    have f1 := places_ok W U [T8] (by omega) (by omega)
    have f2 := first_ok W U [T8] (by omega) (by omega)
    have f3 := issub_ok W U [T8] (by omega) (by omega)
    have f4 := subword_ok W U [T8] (by omega)
    have f5 := same_ok (isSub W U) (isSub W U) [T8]
    obtain ⟨⟨o1, o2⟩, z, o3⟩ := asks02 W U [T8] hW (by omega)
    rw [beq_self_eq_true] at f5
    have hs := hne (isSub W U)
    have hmem : decide (W ∈ subsL U) = isSub W U := by
      rw [Bool.eq_iff_iff, decide_eq_true_eq, mem_subs, isSub_iff]
    have hin := inD_strs W (subsL U)
    rw [hmem] at hin
    generalize isSub W U = b at f3 f4 f5 o2 hs hin
    generalize posD (posL W U 0) = P at f1 f2 o1 o2 o3
    by_cases h7 : U.length < 7
    · have hi7 : (U.length : Int) < 7 := by omega
      have f6 := allsub_ok U [T8] (by omega)
      generalize (subsL U).map D.str = Z at f6 hin
      simp only [s02] at e4 ⊢
      simp (disch := first | (simp only [DL.o_non, DL.o_bl, DL.o_int, DL.o_str, DL.o_tup, DL.o_lst, DL.o_fro, DL.o_dct, DL.o_ins, DL.o_fn, List.length_cons, List.length_append, List.length_nil, List.length_singleton]; done) | ((with_reducible refine DL.sz_of ?_); (try simp only [List.length_cons, List.length_append, List.length_map, List.length_nil, List.length_singleton, List.length_take, List.length_drop, List.length_reverse, List.length_replicate]); omega) | (with_reducible assumption)) [↓DL.x_bNs, ↓DL.x_bNn, ↓DL.x_bEo, ↓DL.x_bEx, ↓DL.x_bEb, ↓DL.x_bFo, ↓DL.x_bFx, ↓DL.x_bFb, ↓DL.x_bOs, ↓DL.x_bOn, ↓DL.x_bPs, ↓DL.x_bPn, ↓DL.x_bQn, ↓DL.x_bQr, ↓DL.x_bQb, ↓DL.x_bQc, ↓DL.x_bQx, ↓DL.x_bQd, ↓DL.x_bWn, ↓DL.x_bWr, ↓DL.x_bWb, ↓DL.x_bWc, ↓DL.x_bWx, ↓DL.x_bWd, ↓DL.x_bBb, ↓DL.x_bIi, ↓DL.x_bCo, ↓DL.x_bCx, ↓DL.x_bCb, ↓DL.x_bRr, ↓DL.x_bRn, ↓DL.x_bRx, ↓DL.x_bAv, ↓DL.x_bAw, ↓DL.x_bind, ↓DL.x_ouF, ↓DL.x_C, ↓DL.x_var, ↓DL.x_slV, ↓DL.x_slW, ↓DL.x_aV, ↓DL.x_aE, ↓DL.x_rdS, ↓DL.x_rdD, ↓DL.x_derefO, ↓DL.x_deref, ↓DL.x_getO, ↓DL.x_getV, ↓DL.x_getW, DL.o_non, DL.o_bl, DL.o_int, DL.o_str, DL.o_tup, DL.o_lst, DL.o_fro, DL.o_dct, DL.o_ins, DL.o_fn, ↓DL.x_bin, ↓DL.x_ofS, ↓DL.x_ofN, ↓DL.x_un, ↓DL.x_argsN, ↓DL.x_argsC, ↓DL.x_tup, ↓DL.x_lst, ↓DL.x_rdLN, ↓DL.x_rdLC, ↓DL.x_argsPN, ↓DL.x_argsPC, ↓DL.x_fun, ↓DL.x_tTru, ↓DL.x_tBool, ↓DL.x_tNt, ↓DL.x_tAn, ↓DL.x_tOr, ↓DL.x_tYs, ↓DL.x_eIf, ↓DL.x_eNt, ↓DL.x_eAnd, ↓DL.x_eOr, ↓DL.x_nil, ↓DL.x_seq, ↓DL.x_if, ↓DL.x_ret, ↓DL.x_retN, ↓DL.x_ex, ↓DL.x_bk, ↓DL.x_ct, ↓DL.x_nxS, ↓DL.x_nxN, ↓DL.x_asg, ↓DL.x_tgN, ↓DL.x_setO, ↓DL.x_setS, ↓DL.x_wipe, ↓DL.x_wipeN, ↓DL.x_wipeC, ↓DL.x_tgT, ↓DL.x_tgsN, ↓DL.x_tgsC, ↓DL.x_forN, ↓DL.x_for, ↓DL.x_par, ↓DL.x_parO, ↓DL.x_retV, ↓DL.x_bVo, ↓DL.x_call, ↓DL.x_fnD, ↓DL.x_retO, DL.v_retO, ↓DL.x_retX, ↓DL.x_comp, ↓DL.x_iSeq, ↓DL.x_itL, ↓DL.x_itF, ↓DL.x_itT, ↓DL.x_itS, ↓DL.x_bG, ↓DL.x_rng1, ↓DL.x_bG2, ↓DL.x_rng2, ↓DL.x_enum, ↓DL.x_sqL, ↓DL.x_sqF, ↓DL.x_sqT, ↓DL.x_bMo, ↓DL.x_bMs, ↓DL.x_wrS, ↓DL.x_wrD, ↓DL.x_isLst, ↓DL.x_mutL, ↓DL.x_bTo, ↓DL.x_tgSub, ↓DL.x_join, ↓DL.x_isStr, ↓DL.x_partN, ↓DL.x_partS, ↓DL.x_sl, ↓DL.x_prsN, ↓DL.x_prsC, ↓DL.x_disp, DL.v_addI, DL.v_addS, DL.v_addT, DL.v_addL, DL.v_catL, DL.v_sub, DL.v_mod, DL.v_neg, DL.v_ltI, DL.v_leI, DL.v_gtI, DL.v_geI, DL.v_ltS, DL.v_leS, DL.v_eqS, DL.v_eqI, DL.v_eqB, DL.v_neS, DL.v_neI, DL.v_neB, DL.v_inS, DL.v_ninS, DL.v_isNN, DL.v_isT, DL.v_isL, DL.v_isS, DL.v_isI, DL.v_isB, DL.v_isNot, DL.v_ixL, DL.v_ixF, DL.v_ixT, DL.v_ixS, DL.v_ixK, DL.v_ixKI, DL.v_at0, DL.v_at1, DL.v_at2, DL.v_lenL, DL.v_lenF, DL.v_lenT, DL.v_lenS, DL.v_lenK, DL.v_lstL, DL.v_lstT, DL.v_lstF, DL.v_tupL, DL.v_tupT, DL.v_tupF, DL.v_cutL, DL.v_cutT, DL.v_cutS, DL.v_app, DL.v_ext, DL.v_truN, DL.v_truB, DL.v_truI, DL.v_truT, DL.v_truL, DL.v_truS, DL.v_rep, DL.v_mulS, DL.v_mulI, DL.v_setL, ↓DL.x_bUo, ↓DL.x_cStep, ↓DL.x_compN, ↓DL.x_bHn, ↓DL.x_bHc, ↓DL.x_bHb, ↓DL.x_bHr, ↓DL.x_bHx, ↓DL.x_bHd, ↓DL.x_fStep, ↓DL.x_bX, ↓DL.x_sortSet, ↓DL.x_tgU, ↓DL.x_bJ, ↓DL.x_chain, DL.v_isi, ↓DL.x_bY, ↓DL.x_pop, DL.v_pop, DL.v_inT, DL.v_rev, DL.v_notInT, ↓DL.x_sBad, ↓DL.x_eBad, ↓DL.x_setTx, ↓DL.x_sortSetS, DL.v_revS, DL.v_listXs, DL.v_listXt, DL.v_listXl, ↓DL.x_enumS1, ↓DL.x_enumSt, List.getElem?_cons_zero, List.getElem?_cons_succ, List.set_cons_zero, List.set_cons_succ, b_law_k02_2, q_law_k02_1, e1, e2', e3, e4, hj, e5', h0, e7, e8, f1, f2, f3, f4, f5, f6, o1, o2, o3, hs, hin, hi7, h7]
    · have hi7 : ¬ (U.length : Int) < 7 := by omega
      simp only [s02] at e4 ⊢
      simp (disch := first | (simp only [DL.o_non, DL.o_bl, DL.o_int, DL.o_str, DL.o_tup, DL.o_lst, DL.o_fro, DL.o_dct, DL.o_ins, DL.o_fn, List.length_cons, List.length_append, List.length_nil, List.length_singleton]; done) | ((with_reducible refine DL.sz_of ?_); (try simp only [List.length_cons, List.length_append, List.length_map, List.length_nil, List.length_singleton, List.length_take, List.length_drop, List.length_reverse, List.length_replicate]); omega) | (with_reducible assumption)) [↓DL.x_bNs, ↓DL.x_bNn, ↓DL.x_bEo, ↓DL.x_bEx, ↓DL.x_bEb, ↓DL.x_bFo, ↓DL.x_bFx, ↓DL.x_bFb, ↓DL.x_bOs, ↓DL.x_bOn, ↓DL.x_bPs, ↓DL.x_bPn, ↓DL.x_bQn, ↓DL.x_bQr, ↓DL.x_bQb, ↓DL.x_bQc, ↓DL.x_bQx, ↓DL.x_bQd, ↓DL.x_bWn, ↓DL.x_bWr, ↓DL.x_bWb, ↓DL.x_bWc, ↓DL.x_bWx, ↓DL.x_bWd, ↓DL.x_bBb, ↓DL.x_bIi, ↓DL.x_bCo, ↓DL.x_bCx, ↓DL.x_bCb, ↓DL.x_bRr, ↓DL.x_bRn, ↓DL.x_bRx, ↓DL.x_bAv, ↓DL.x_bAw, ↓DL.x_bind, ↓DL.x_ouF, ↓DL.x_C, ↓DL.x_var, ↓DL.x_slV, ↓DL.x_slW, ↓DL.x_aV, ↓DL.x_aE, ↓DL.x_rdS, ↓DL.x_rdD, ↓DL.x_derefO, ↓DL.x_deref, ↓DL.x_getO, ↓DL.x_getV, ↓DL.x_getW, DL.o_non, DL.o_bl, DL.o_int, DL.o_str, DL.o_tup, DL.o_lst, DL.o_fro, DL.o_dct, DL.o_ins, DL.o_fn, ↓DL.x_bin, ↓DL.x_ofS, ↓DL.x_ofN, ↓DL.x_un, ↓DL.x_argsN, ↓DL.x_argsC, ↓DL.x_tup, ↓DL.x_lst, ↓DL.x_rdLN, ↓DL.x_rdLC, ↓DL.x_argsPN, ↓DL.x_argsPC, ↓DL.x_fun, ↓DL.x_tTru, ↓DL.x_tBool, ↓DL.x_tNt, ↓DL.x_tAn, ↓DL.x_tOr, ↓DL.x_tYs, ↓DL.x_eIf, ↓DL.x_eNt, ↓DL.x_eAnd, ↓DL.x_eOr, ↓DL.x_nil, ↓DL.x_seq, ↓DL.x_if, ↓DL.x_ret, ↓DL.x_retN, ↓DL.x_ex, ↓DL.x_bk, ↓DL.x_ct, ↓DL.x_nxS, ↓DL.x_nxN, ↓DL.x_asg, ↓DL.x_tgN, ↓DL.x_setO, ↓DL.x_setS, ↓DL.x_wipe, ↓DL.x_wipeN, ↓DL.x_wipeC, ↓DL.x_tgT, ↓DL.x_tgsN, ↓DL.x_tgsC, ↓DL.x_forN, ↓DL.x_for, ↓DL.x_par, ↓DL.x_parO, ↓DL.x_retV, ↓DL.x_bVo, ↓DL.x_call, ↓DL.x_fnD, ↓DL.x_retO, DL.v_retO, ↓DL.x_retX, ↓DL.x_comp, ↓DL.x_iSeq, ↓DL.x_itL, ↓DL.x_itF, ↓DL.x_itT, ↓DL.x_itS, ↓DL.x_bG, ↓DL.x_rng1, ↓DL.x_bG2, ↓DL.x_rng2, ↓DL.x_enum, ↓DL.x_sqL, ↓DL.x_sqF, ↓DL.x_sqT, ↓DL.x_bMo, ↓DL.x_bMs, ↓DL.x_wrS, ↓DL.x_wrD, ↓DL.x_isLst, ↓DL.x_mutL, ↓DL.x_bTo, ↓DL.x_tgSub, ↓DL.x_join, ↓DL.x_isStr, ↓DL.x_partN, ↓DL.x_partS, ↓DL.x_sl, ↓DL.x_prsN, ↓DL.x_prsC, ↓DL.x_disp, DL.v_addI, DL.v_addS, DL.v_addT, DL.v_addL, DL.v_catL, DL.v_sub, DL.v_mod, DL.v_neg, DL.v_ltI, DL.v_leI, DL.v_gtI, DL.v_geI, DL.v_ltS, DL.v_leS, DL.v_eqS, DL.v_eqI, DL.v_eqB, DL.v_neS, DL.v_neI, DL.v_neB, DL.v_inS, DL.v_ninS, DL.v_isNN, DL.v_isT, DL.v_isL, DL.v_isS, DL.v_isI, DL.v_isB, DL.v_isNot, DL.v_ixL, DL.v_ixF, DL.v_ixT, DL.v_ixS, DL.v_ixK, DL.v_ixKI, DL.v_at0, DL.v_at1, DL.v_at2, DL.v_lenL, DL.v_lenF, DL.v_lenT, DL.v_lenS, DL.v_lenK, DL.v_lstL, DL.v_lstT, DL.v_lstF, DL.v_tupL, DL.v_tupT, DL.v_tupF, DL.v_cutL, DL.v_cutT, DL.v_cutS, DL.v_app, DL.v_ext, DL.v_truN, DL.v_truB, DL.v_truI, DL.v_truT, DL.v_truL, DL.v_truS, DL.v_rep, DL.v_mulS, DL.v_mulI, DL.v_setL, ↓DL.x_bUo, ↓DL.x_cStep, ↓DL.x_compN, ↓DL.x_bHn, ↓DL.x_bHc, ↓DL.x_bHb, ↓DL.x_bHr, ↓DL.x_bHx, ↓DL.x_bHd, ↓DL.x_fStep, ↓DL.x_bX, ↓DL.x_sortSet, ↓DL.x_tgU, ↓DL.x_bJ, ↓DL.x_chain, DL.v_isi, ↓DL.x_bY, ↓DL.x_pop, DL.v_pop, DL.v_inT, DL.v_rev, DL.v_notInT, ↓DL.x_sBad, ↓DL.x_eBad, ↓DL.x_setTx, ↓DL.x_sortSetS, DL.v_revS, DL.v_listXs, DL.v_listXt, DL.v_listXl, ↓DL.x_enumS1, ↓DL.x_enumSt, List.getElem?_cons_zero, List.getElem?_cons_succ, List.set_cons_zero, List.set_cons_succ, b_law_k02_2, q_law_k02_1, e1, e2', e3, e4, hj, e5', h0, e7, e8, f1, f2, f3, f4, f5, o1, o2, o3, hs, hi7, h7]
theorem law_k02_ok : lawIs den_law_k02 :=
  law_turns 6 5 200 b_law_k02_2 (by decide) (by decide) fun X0 T t k h hk => turn02 h hk
end
end
end DM
theorem PySem.Challenge.cw_downwords_k02_subwords_and_positions_holds : PySem.Challenge.rw_downwords_k02_subwords_and_positions.Holds := by
  exact K02.holds_of DM.law_k02_ok
