import PyProof.Rows.All
import Wide.All
import OpenK.AllK
import Wide.FinOn
import HandS.ForMost
import HandS.ForExc
import HandS.Style
import HandS.Defaults
import HandS.Zip
import HandS.Iter
import HandS.Comp
import HandS.IsInst
import HandS.Text
import HandS.TupAny
import HandS.TupLe
import HandS.Wide
import HandS.WideBits
import HandS.Deep
import HandS.RaiseMore
import HandS.TupMul
import PyProof.StrOps2
import PyProof.ListStr
import HandS.Dict
import HandS.WordsDict
import HandS.TupLen
import HandS.Ends
import HandS.HeadEnd
import PyProof.CollectIter
import HandS.More
import HandS.SortInts
import HandS.HeadHook2
import HandS.DictComp
import HandS.DictTup
import HandS.SetTxt0
import HandS.Strs
import HandS.Set
import PyProof.ReprRoads
import PyProof.CallFns
import HandS.HeadHook1
import HandS.HeadHook3
import HandS.NoneIn
import KE.KDictZip
import KE.GoesZip
import KE.GoesMore
import KE.GoesEnum
import HandS.ExcInit
import HandS.Small
import PyProof.NeKinds
import KE.SortData
import HandS.Conv
import KE.KIntText
import PyProof.FitsInt
import PyProof.ReprBulk
import HandS.Head0
import HandS.Head1
import HandS.Head2
import HandS.HeadHook4
import PySem.Challenge.RW_owedonce_k07_things_of_anything
set_option Elab.async false
set_option linter.all false
set_option maxRecDepth 100000
set_option maxHeartbeats 4000000
namespace VS
open PySem L2
/-! ### values -/
abbrev DK := Sum Key (List Key)
/-- what never changes -/
inductive I where
  | non | bl (b : Bool) | int (i : Int) | str (s : Str)
  | tup (l : List I) | lst (l : List I) | dct (t : Bool) (kvs : List (DK × I)) | ref (r : Nat) | fn (k : Nat)
/-- what one name alone holds -/
inductive O where
  | im (i : I) | lst (l : List O) | tup (l : List O) | dct (t : Bool) (kvs : List (DK × O)) | ins (c : Nat) (fs : List (Str × O)) | hole
mutual
def frz : O → I
  | .im i => i
  | .lst l => .lst (frzL l)
  | .tup l => .tup (frzL l)
  | .dct t kvs => .dct t (frzD kvs)
  | .ins _ _ => .non
  | .hole => .non
def frzL : List O → List I
  | [] => []
  | o :: r => frz o :: frzL r
def frzD : List (DK × O) → List (DK × I)
  | [] => []
  | (k, o) :: r => (k, frz o) :: frzD r
end
mutual
/-- it may be frozen -/
def fzb : O → Bool
  | .im _ => true
  | .lst l => fzbL l
  | .tup l => fzbL l
  | .dct _ kvs => fzbD kvs
  | .ins _ _ => false
  | .hole => false
def fzbL : List O → Bool
  | [] => true
  | o :: r => fzb o && fzbL r
def fzbD : List (DK × O) → Bool
  | [] => true
  | (_, o) :: r => fzb o && fzbD r
end
/-- the program's defs and classes by numbers -/
structure Pn where
  fa : Nat → Option Addr
  cl : Nat → Option Addr
  /-- an exception's field -/
  fld : Nat → Str
structure Pg where
  K : PySem.W.Frag
  n : Pn
/-- ghosts: what is frozen; where the shared objects stand -/
structure Gh where
  Z : Addr → Prop
  rho : List Addr
  /-- slots that stay as they are -/
  pn : List (Nat × V)
abbrev Fp := Addr → Prop
def Fp.dj (F G : Fp) : Prop := ∀ b, F b → G b → False
def emp : Fp := fun _ => False
def ins1 (p : Addr) (F : Fp) : Fp := fun b => b = p ∨ F b
def un (F G : Fp) : Fp := fun b => F b ∨ G b
/-- one of the module's own lists -/
def LsK (K : PySem.W.Frag) (p : Addr) (vs : List V) : Prop := ∃ (its : Array Value) (k : Nat), K.lookup p = some { cls := .type "list", data := .seq its k } ∧ its.size ≤ sizeLine ∧ Vals vs its.toList
/-- a list that may be read -/
def LsR (K : PySem.W.Frag) (H : Hp) (p : Addr) (vs : List V) : Prop := Rd H p (.lst vs) ∨ LsK K p vs
/-- a list that stays: known and frozen -/
def FzL (K : PySem.W.Frag) (g : Gh) (H : Hp) (p : Addr) (vs : List V) : Prop := (Rd H p (.lst vs) ∧ g.Z p) ∨ LsK K p vs
theorem FzL.r {K g H p vs} (h : FzL K g H p vs) : LsR K H p vs := h.imp And.left id
theorem LsR.sq {K H p vs} (h : LsR K H p vs) : SqL K H p vs := by
  rcases h with h | ⟨its, k, h, hz, r⟩
  · exact .inl h
  · exact .inr ⟨_, its, k, h, rfl, rfl, rfl, hz, r⟩
theorem FzL.sq {K g H p vs} (h : FzL K g H p vs) : SqL K H p vs := h.r.sq
/-- what may be a dict's key -/
def keyI : I → Option Key
  | .int i => some (.inl i)
  | .str s => some (.inr s)
  | _ => none
def keyL : List I → Option (List Key)
  | [] => some []
  | i :: r => match keyI i, keyL r with
    | some k, some ks => some (k :: ks)
    | _, _ => none
/-- a tuple that may be read; one that may be a key is no constant of the module -/
structure TuR (K : PySem.W.Frag) (H : Hp) (p : Addr) (l : List I) (vs : List V) : Prop where
  sq : SqT K H p vs
  dir : keyL l ≠ none → H p = some (.tup vs)
theorem TuR.of {K H p l vs} (h : H p = some (.tup vs)) : TuR K H p l vs := ⟨.inl (.of h), fun _ => h⟩
mutual
inductive RepI (P : Pg) (g : Gh) (H : Hp) : I → V → Prop
  | non : RepI P g H .non .non
  | bl (b) : RepI P g H (.bl b) (.bl b)
  | int (i) : RepI P g H (.int i) (.int i)
  | str (s) : RepI P g H (.str s) (.str s)
  | tup {l p vs} : TuR P.K H p l vs → RepIL P g H l vs → RepI P g H (.tup l) (.ref p)
  | lst {l p vs} : FzL P.K g H p vs → RepIL P g H l vs → RepI P g H (.lst l) (.ref p)
  | dctK {kvs p ks} : H p = some (.dK ks) → g.Z p → kvs.map Prod.fst = ks.map (fun x => Sum.inl x.1) → RepIL P g H (kvs.map Prod.snd) (ks.map Prod.snd) → RepI P g H (.dct false kvs) (.ref p)
  | dctT {kvs p ks} : H p = some (.dT ks) → g.Z p → kvs.map Prod.fst = ks.map (fun x => Sum.inr x.1) → RepIL P g H (kvs.map Prod.snd) (ks.map Prod.snd) → RepI P g H (.dct true kvs) (.ref p)
  | ref {r p} : g.rho[r]? = some p → RepI P g H (.ref r) (.ref p)
  | fn {k f} : P.n.fa k = some f → RepI P g H (.fn k) (.ref f)
inductive RepIL (P : Pg) (g : Gh) (H : Hp) : List I → List V → Prop
  | nil : RepIL P g H [] []
  | cons {i v l vs} : RepI P g H i v → RepIL P g H l vs → RepIL P g H (i :: l) (v :: vs)
end
mutual
inductive RepO (P : Pg) (g : Gh) (H : Hp) : O → V → Fp → Prop
  | im {i v} : RepI P g H i v → RepO P g H (.im i) v emp
  | lst {l p vs F} : H p = some (.lst vs) → ¬ g.Z p → RepOL P g H l vs F → ¬ F p → RepO P g H (.lst l) (.ref p) (ins1 p F)
  | tup {l p vs F} : H p = some (.tup vs) → RepOL P g H l vs F → RepO P g H (.tup l) (.ref p) F
  | dctK {kvs p ks F} : H p = some (.dK ks) → ¬ g.Z p → kvs.map Prod.fst = ks.map (fun x => Sum.inl x.1) → RepOL P g H (kvs.map Prod.snd) (ks.map Prod.snd) F → ¬ F p → RepO P g H (.dct false kvs) (.ref p) (ins1 p F)
  | dctT {kvs p ks F} : H p = some (.dT ks) → ¬ g.Z p → kvs.map Prod.fst = ks.map (fun x => Sum.inr x.1) → RepOL P g H (kvs.map Prod.snd) (ks.map Prod.snd) F → ¬ F p → RepO P g H (.dct true kvs) (.ref p) (ins1 p F)
  | ins {c fs p C dx fs' F} : P.n.cl c = some C → H p = some (.ins C dx fs') → ¬ g.Z p → fs.map Prod.fst = fs'.map Prod.fst → RepOL P g H (fs.map Prod.snd) (fs'.map Prod.snd) F → ¬ F p → RepO P g H (.ins c fs) (.ref p) (ins1 p F)
inductive RepOL (P : Pg) (g : Gh) (H : Hp) : List O → List V → Fp → Prop
  | nil : RepOL P g H [] [] emp
  | cons {o v l vs F G} : RepO P g H o v F → RepOL P g H l vs G → Fp.dj F G → RepOL P g H (o :: l) (v :: vs) (un F G)
end
/-- what may be changed -/
def mtb : HO → Bool
  | .lst _ => true
  | .dK _ => true
  | .dT _ => true
  | .ins _ _ _ => true
  | _ => false
def Mt (H : Hp) (b : Addr) : Prop := ∃ o, H b = some o ∧ mtb o = true
/-- what may have changed: FX -/
structure Ch (FX : Fp) (g : Gh) (H : Hp) (g' : Gh) (H' : Hp) : Prop where
  keep : ∀ b o, H b = some o → ¬ FX b → H' b = some o
  dom : ∀ b o, H b = some o → ∃ o', H' b = some o'
  mt : ∀ b, FX b → Mt H b ∧ ¬ g.Z b
  zle : ∀ b, g.Z b → g'.Z b
  znew : ∀ b, g'.Z b → g.Z b ∨ FX b ∨ H b = none
  rho : ∃ r, g'.rho = g.rho ++ r
theorem Ch.refl {FX g H} (h : ∀ b, FX b → Mt H b ∧ ¬ g.Z b) : Ch FX g H g H :=
  ⟨fun _ _ e _ => e, fun _ o e => ⟨o, e⟩, h, fun _ z => z, fun _ z => .inl z, ⟨[], by simp⟩⟩
theorem Ch.refl0 {g H} : Ch emp g H g H := .refl fun _ h => h.elim
theorem Ch.back {FX g H g' H'} (c : Ch FX g H g' H') {b} (e : H' b = none) : H b = none := by
  cases q : H b with
  | none => rfl
  | some o =>
    obtain ⟨o', e'⟩ := c.dom b o q
    rw [e] at e'; cases e'
theorem Ch.trans {FX FY g H g1 H1 g2 H2} (a : Ch FX g H g1 H1) (b : Ch FY g1 H1 g2 H2) (s : ∀ c, FY c → FX c ∨ H c = none) : Ch FX g H g2 H2 where
  keep c o e n := b.keep c o (a.keep c o e n) fun y => (s c y).elim n fun z => by rw [e] at z; cases z
  dom c o e := let ⟨o', e'⟩ := a.dom c o e; b.dom c o' e'
  mt := a.mt
  zle c z := b.zle c (a.zle c z)
  znew c z := by
    rcases b.znew c z with z | z | z
    · exact a.znew c z
    · rcases s c z with z | z
      · exact .inr (.inl z)
      · exact .inr (.inr z)
    · exact .inr (.inr (a.back z))
  rho := by
    obtain ⟨r, e⟩ := a.rho
    obtain ⟨r', e'⟩ := b.rho
    exact ⟨r ++ r', by rw [e', e, List.append_assoc]⟩
theorem Ch.wider {FX FY g H g1 H1} (a : Ch FX g H g1 H1) (s : ∀ c, FX c → FY c) (h : ∀ b, FY b → Mt H b ∧ ¬ g.Z b) : Ch FY g H g1 H1 where
  keep c o e n := a.keep c o e fun x => n (s c x)
  dom := a.dom
  mt := h
  zle := a.zle
  znew c z := by
    rcases a.znew c z with z | z | z
    · exact .inl z
    · exact .inr (.inl (s c z))
    · exact .inr (.inr z)
  rho := a.rho
section
variable {P : Pg} {g g' : Gh} {H H' : Hp} {FX F : Fp}
theorem Ch.nmt (c : Ch FX g H g' H') {b o} (e : H b = some o) (h : mtb o = false) : H' b = some o :=
  c.keep b o e fun x => by
    obtain ⟨⟨o', e', m⟩, _⟩ := c.mt b x
    rw [e] at e'; cases e'
    rw [h] at m; cases m
theorem Ch.tup (c : Ch FX g H g' H') {K p vs} (h : SqT K H p vs) : SqT K H' p vs := by
  rcases h with (h | ⟨o, h⟩) | h
  · exact .inl (.inl (c.nmt h rfl))
  · exact .inl (.inr ⟨o, c.nmt h rfl⟩)
  · exact .inr h
theorem Ch.tu (c : Ch FX g H g' H') {K p l vs} (h : TuR K H p l vs) : TuR K H' p l vs := ⟨c.tup h.sq, fun k => c.nmt (h.dir k) rfl⟩
theorem Ch.rd (c : Ch FX g H g' H') {p u} (h : H p = some u) (z : g.Z p) : H' p = some u := c.keep _ _ h fun x => (c.mt p x).2 z
theorem Ch.lst (c : Ch FX g H g' H') {K p vs} (h : FzL K g H p vs) : FzL K g' H' p vs :=
  h.imp (fun h => ⟨h.1.imp (fun e => c.rd e h.2) fun ⟨o, e⟩ => ⟨o, c.rd e h.2⟩, c.zle p h.2⟩) id
theorem Ch.at (c : Ch FX g H g' H') {r : Nat} {p : Addr} (h : g.rho[r]? = some p) : g'.rho[r]? = some p := by
  obtain ⟨q, e⟩ := c.rho
  rw [e, List.getElem?_append_left (List.getElem?_eq_some_iff.mp h).1]
  exact h
theorem RepI.ch (c : Ch FX g H g' H') {i v} (r : RepI P g H i v) : RepI P g' H' i v :=
  RepI.rec (motive_1 := fun i v _ => RepI P g' H' i v) (motive_2 := fun l vs _ => RepIL P g' H' l vs)
    .non .bl .int .str (fun a _ b => .tup (c.tu a) b) (fun a _ b => .lst (c.lst a) b)
    (fun a z k _ b => .dctK (c.rd a z) (c.zle _ z) k b) (fun a z k _ b => .dctT (c.rd a z) (c.zle _ z) k b) (fun a => .ref (c.at a)) (fun a => .fn a) .nil (fun _ _ a b => .cons a b) r
theorem RepIL.ch (c : Ch FX g H g' H') {i v} (r : RepIL P g H i v) : RepIL P g' H' i v :=
  RepIL.rec (motive_1 := fun i v _ => RepI P g' H' i v) (motive_2 := fun l vs _ => RepIL P g' H' l vs)
    .non .bl .int .str (fun a _ b => .tup (c.tu a) b) (fun a _ b => .lst (c.lst a) b)
    (fun a z k _ b => .dctK (c.rd a z) (c.zle _ z) k b) (fun a z k _ b => .dctT (c.rd a z) (c.zle _ z) k b) (fun a => .ref (c.at a)) (fun a => .fn a) .nil (fun _ _ a b => .cons a b) r
theorem Fp.dj.l {F G F' : Fp} (h : Fp.dj (un F F') G) : Fp.dj F G := fun b a c => h b (.inl a) c
theorem Fp.dj.r {F G F' : Fp} (h : Fp.dj (un F' F) G) : Fp.dj F G := fun b a c => h b (.inr a) c
theorem Fp.dj.i {F G : Fp} {p} (h : Fp.dj (ins1 p F) G) : Fp.dj F G := fun b a c => h b (.inr a) c
theorem nz (c : Ch FX g H g' H') {p o} (e : H p = some o) (z : ¬ g.Z p) (n : ¬ FX p) : ¬ g'.Z p := fun z' => by
  rcases c.znew p z' with y | y | y
  · exact z y
  · exact n y
  · rw [e] at y; cases y
theorem RepO.ch (c : Ch FX g H g' H') {o v F} (r : RepO P g H o v F) : Fp.dj F FX → RepO P g' H' o v F :=
  RepO.rec (motive_1 := fun o v F _ => Fp.dj F FX → RepO P g' H' o v F) (motive_2 := fun l vs F _ => Fp.dj F FX → RepOL P g' H' l vs F)
    (fun a _ => .im (a.ch c))
    (fun e z _ n ih d => .lst (c.keep _ _ e (d _ (.inl rfl))) (nz c e z (d _ (.inl rfl))) (ih d.i) n)
    (fun e _ ih d => .tup (c.nmt e rfl) (ih d))
    (fun e z k _ n ih d => .dctK (c.keep _ _ e (d _ (.inl rfl))) (nz c e z (d _ (.inl rfl))) k (ih d.i) n)
    (fun e z k _ n ih d => .dctT (c.keep _ _ e (d _ (.inl rfl))) (nz c e z (d _ (.inl rfl))) k (ih d.i) n)
    (fun q e z k _ n ih d => .ins q (c.keep _ _ e (d _ (.inl rfl))) (nz c e z (d _ (.inl rfl))) k (ih d.i) n)
    (fun _ => .nil) (fun _ _ dd a b d => .cons (a d.l) (b d.r) dd) r
theorem RepOL.ch (c : Ch FX g H g' H') {o v F} (r : RepOL P g H o v F) : Fp.dj F FX → RepOL P g' H' o v F :=
  RepOL.rec (motive_1 := fun o v F _ => Fp.dj F FX → RepO P g' H' o v F) (motive_2 := fun l vs F _ => Fp.dj F FX → RepOL P g' H' l vs F)
    (fun a _ => .im (a.ch c))
    (fun e z _ n ih d => .lst (c.keep _ _ e (d _ (.inl rfl))) (nz c e z (d _ (.inl rfl))) (ih d.i) n)
    (fun e _ ih d => .tup (c.nmt e rfl) (ih d))
    (fun e z k _ n ih d => .dctK (c.keep _ _ e (d _ (.inl rfl))) (nz c e z (d _ (.inl rfl))) k (ih d.i) n)
    (fun e z k _ n ih d => .dctT (c.keep _ _ e (d _ (.inl rfl))) (nz c e z (d _ (.inl rfl))) k (ih d.i) n)
    (fun q e z k _ n ih d => .ins q (c.keep _ _ e (d _ (.inl rfl))) (nz c e z (d _ (.inl rfl))) k (ih d.i) n)
    (fun _ => .nil) (fun _ _ dd a b d => .cons (a d.l) (b d.r) dd) r
/-- a footprint is of things that may be changed -/
theorem RepO.mt {o v F} (r : RepO P g H o v F) : ∀ b, F b → Mt H b ∧ ¬ g.Z b :=
  RepO.rec (motive_1 := fun _ _ F _ => ∀ b, F b → Mt H b ∧ ¬ g.Z b) (motive_2 := fun _ _ F _ => ∀ b, F b → Mt H b ∧ ¬ g.Z b)
    (fun _ _ h => h.elim)
    (fun e z _ _ ih b h => h.elim (fun q => by rw [q]; exact ⟨⟨_, e, rfl⟩, z⟩) (ih b))
    (fun _ _ ih => ih)
    (fun e z _ _ _ ih b h => h.elim (fun q => by rw [q]; exact ⟨⟨_, e, rfl⟩, z⟩) (ih b))
    (fun e z _ _ _ ih b h => h.elim (fun q => by rw [q]; exact ⟨⟨_, e, rfl⟩, z⟩) (ih b))
    (fun _ e z _ _ _ ih b h => h.elim (fun q => by rw [q]; exact ⟨⟨_, e, rfl⟩, z⟩) (ih b))
    (fun _ h => h.elim) (fun _ _ _ a b c h => h.elim (a c) (b c)) r
theorem RepOL.mt {o v F} (r : RepOL P g H o v F) : ∀ b, F b → Mt H b ∧ ¬ g.Z b :=
  RepOL.rec (motive_1 := fun _ _ F _ => ∀ b, F b → Mt H b ∧ ¬ g.Z b) (motive_2 := fun _ _ F _ => ∀ b, F b → Mt H b ∧ ¬ g.Z b)
    (fun _ _ h => h.elim)
    (fun e z _ _ ih b h => h.elim (fun q => by rw [q]; exact ⟨⟨_, e, rfl⟩, z⟩) (ih b))
    (fun _ _ ih => ih)
    (fun e z _ _ _ ih b h => h.elim (fun q => by rw [q]; exact ⟨⟨_, e, rfl⟩, z⟩) (ih b))
    (fun e z _ _ _ ih b h => h.elim (fun q => by rw [q]; exact ⟨⟨_, e, rfl⟩, z⟩) (ih b))
    (fun _ e z _ _ _ ih b h => h.elim (fun q => by rw [q]; exact ⟨⟨_, e, rfl⟩, z⟩) (ih b))
    (fun _ h => h.elim) (fun _ _ _ a b c h => h.elim (a c) (b c)) r
end
end VS

namespace VS
open PySem L2
/-! ### the state -/
structure St where
  sl : List O
  sto : List O
abbrev Lo := Sum Nat Nat
structure RepS (P : Pg) (g : Gh) (H : Hp) (st : St) (σ : L2.St) (F : Lo → Fp) : Prop where
  len : st.sl.length = σ.length
  slot : ∀ (i : Nat) (o : O), st.sl[i]? = some o → (o = .hole ∧ ∀ b, ¬ F (.inl i) b) ∨ ∃ v, σ[i]? = some (some v) ∧ RepO P g H o v (F (.inl i))
  sto : ∀ (r : Nat) (o : O), st.sto[r]? = some o → ∃ p, g.rho[r]? = some p ∧ RepO P g H o (.ref p) (F (.inr r))
  ln : g.rho.length = st.sto.length
  dj : ∀ l l', l ≠ l' → Fp.dj (F l) (F l')
  out1 : ∀ (i : Nat) b, st.sl.length ≤ i → ¬ F (.inl i) b
  out2 : ∀ (r : Nat) b, st.sto.length ≤ r → ¬ F (.inr r) b
  pin : ∀ p ∈ g.pn, σ[p.1]? = some (some p.2)
  zd : ∀ b, g.Z b → ∃ o, H b = some o
def tot (F : Lo → Fp) : Fp := fun b => ∃ l, F l b
section
variable {P : Pg} {g g' : Gh} {H H' : Hp} {st : St} {σ : L2.St} {F : Lo → Fp} {FX : Fp}
theorem RepS.mt (r : RepS P g H st σ F) : ∀ b, tot F b → Mt H b ∧ ¬ g.Z b := by
  rintro b ⟨l | l, h⟩
  · by_cases q : l < st.sl.length
    · rcases r.slot l st.sl[l] (by simp [q]) with ⟨_, n⟩ | ⟨v, _, z⟩
      · exact absurd h (n b)
      · exact z.mt b h
    · exact absurd h (r.out1 l b (by omega))
  · by_cases q : l < st.sto.length
    · obtain ⟨p, _, z⟩ := r.sto l st.sto[l] (by simp [q])
      exact z.mt b h
    · exact absurd h (r.out2 l b (by omega))
theorem RepS.ch (r : RepS P g H st σ F) (c : Ch FX g H g' H') (d : Fp.dj (tot F) FX) (e : g'.rho = g.rho) (ep : g'.pn = g.pn) (zd : ∀ b, g'.Z b → ∃ o, H' b = some o) : RepS P g' H' st σ F where
  len := r.len
  slot i o h := by
    rcases r.slot i o h with q | ⟨v, q, z⟩
    · exact .inl q
    · exact .inr ⟨v, q, z.ch c fun b x y => d b ⟨_, x⟩ y⟩
  sto i o h := by
    obtain ⟨p, q, z⟩ := r.sto i o h
    exact ⟨p, c.at q, z.ch c fun b x y => d b ⟨_, x⟩ y⟩
  ln := by rw [e]; exact r.ln
  dj := r.dj
  out1 := r.out1
  out2 := r.out2
  pin := by rw [ep]; exact r.pin
  zd := zd
end
/-! ### what is told -/
inductive Rs (α : Type) where
  | ok (a : α) | ex (c : Nat) (i : List I)
inductive Fl where
  | nx | rt (o : O) | bk | ct
abbrev M (α : Type) := St → Option (Rs α × St)
abbrev EM := M O
abbrev AM := M (List O)
abbrev BM := M Bool
abbrev SM := M Fl
def bnd {α β : Type} (m : M α) (k : α → M β) : M β := fun st => match m st with
  | none => none
  | some (.ok a, st') => k a st'
  | some (.ex c i, st') => some (.ex c i, st')
def ret {α : Type} (a : α) : M α := fun st => some (.ok a, st)
/-- a value by an option -/
def lift {α : Type} (o : Option α) : M α := fun st => match o with
  | none => none
  | some a => some (.ok a, st)
def ExAt (P : Pg) (g : Gh) (H : Hp) (c : Nat) (i : List I) (cls : Value) (d : Option Addr) : Prop :=
  ∃ C, P.n.cl c = some C ∧ cls = .ref C ∧ match i with
    | [] => True
    | [x] => ∃ dd v, d = some dd ∧ H dd = some (.xd [(P.n.fld c, v)]) ∧ RepI P g H x v
    | _ => False
structure PostS (P : Pg) (g : Gh) (H : Hp) (F : Lo → Fp) (g' : Gh) (H' : Hp) (F' : Lo → Fp) (st' : St) (σ' : L2.St) (Fv : Fp) : Prop where
  rs : RepS P g' H' st' σ' F'
  dj : Fp.dj Fv (tot F')
  ch : Ch (tot F) g H g' H'
  sub : ∀ b, tot F' b ∨ Fv b → tot F b ∨ H b = none
  pn : g'.pn = g.pn
/-- f run from st: what is wanted of each end -/
def RunAt {α : Type} (f : M α) (st : St) (ok : St → α → Prop) (ex : St → Nat → List I → Prop) : Prop := match f st with
  | none => False
  | some (.ok a, st') => ok st' a
  | some (.ex c i, st') => ex st' c i
/-- an exception -/
def exc (P : Pg) (W : WX) (g : Gh) (H : Hp) (F : Lo → Fp) : St → Nat → List I → Prop := fun st' c i =>
  ∀ g' H' F' σ cls d, PostS P g H F g' H' F' st' σ emp → ExAt P g' H' c i cls d → W cls d σ H'
def OkE (P : Pg) (W : WX) (f : EM) : TE := fun σ H Q => ∃ g st F, RepS P g H st σ F ∧
  RunAt f st (fun st' o => ∀ g' H' F' v Fv, PostS P g H F g' H' F' st' σ Fv → RepO P g' H' o v Fv → Q v H') (exc P W g H F)
def OkA (P : Pg) (W : WX) (f : AM) : TA := fun σ H Q => ∃ g st F, RepS P g H st σ F ∧
  RunAt f st (fun st' os => ∀ g' H' F' vs Fv, PostS P g H F g' H' F' st' σ Fv → RepOL P g' H' os vs Fv → Q vs H') (exc P W g H F)
def OkB (P : Pg) (W : WX) (f : BM) : TT := fun σ H Q => ∃ g st F, RepS P g H st σ F ∧
  RunAt f st (fun st' b => ∀ g' H' F', PostS P g H F g' H' F' st' σ emp → Q b H') (exc P W g H F)
section
variable {P : Pg} {W : WX} {α β : Type}
theorem RunAt.imp {f : M α} {st} {ok ok' : St → α → Prop} {ex ex' : St → Nat → List I → Prop} (h : RunAt f st ok ex) (h1 : ∀ s a, ok s a → ok' s a) (h2 : ∀ s c i, ex s c i → ex' s c i) : RunAt f st ok' ex' := by
  unfold RunAt at h ⊢
  split at h
  · exact h
  · exact h1 _ _ h
  · exact h2 _ _ _ h
theorem RunAt.bnd {f : M α} {k : α → M β} {st} {ok : St → β → Prop} {ex : St → Nat → List I → Prop} (h : RunAt (bnd f k) st ok ex) : RunAt f st (fun s a => RunAt (k a) s ok ex) ex := by
  unfold RunAt VS.bnd at h
  unfold RunAt
  split at h
  · exact h.elim
  all_goals (rename_i e; split at e <;> simp_all)
theorem RunAt.ret {a : α} {st} {ok : St → α → Prop} {ex : St → Nat → List I → Prop} (h : RunAt (ret a) st ok ex) : ok st a := h
theorem RunAt.lift {o : Option α} {st} {ok : St → α → Prop} {ex : St → Nat → List I → Prop} (h : RunAt (lift o) st ok ex) : ∃ a, o = some a ∧ ok st a := by
  cases o with
  | none => exact h.elim
  | some a => exact ⟨a, rfl, h⟩
theorem PostS.refl {g H F st σ} (r : RepS P g H st σ F) : PostS P g H F g H F st σ emp := ⟨r, fun _ h => h.elim, .refl r.mt, fun b h => h.elim .inl fun z => z.elim, rfl⟩
/-- two steps -/
theorem PostS.trans {g H F g1 H1 F1 st1 σ1 Fv g2 H2 F2 st2 σ2 Fw} (a : PostS P g H F g1 H1 F1 st1 σ1 Fv) (b : PostS P g1 H1 F1 g2 H2 F2 st2 σ2 Fw) : PostS P g H F g2 H2 F2 st2 σ2 Fw where
  rs := b.rs
  dj := b.dj
  ch := a.ch.trans b.ch fun c h => a.sub c (.inl h)
  sub c h := by
    rcases b.sub c h with h | h
    · exact a.sub c (.inl h)
    · exact .inr (a.ch.back h)
  pn := b.pn.trans a.pn
/-- .. with the first step's value kept -/
theorem PostS.both {g H F g1 H1 F1 st1 σ1 Fv g2 H2 F2 st2 σ2 Fw o v} (a : PostS P g H F g1 H1 F1 st1 σ1 Fv) (ra : RepO P g1 H1 o v Fv) (b : PostS P g1 H1 F1 g2 H2 F2 st2 σ2 Fw) :
    PostS P g H F g2 H2 F2 st2 σ2 (un Fv Fw) ∧ RepO P g2 H2 o v Fv ∧ Fp.dj Fv Fw := by
  have t := a.trans b
  have n : ∀ c, Fv c → tot F2 c ∨ Fw c → False := fun c h k => by
    rcases b.sub c k with z | z
    · exact a.dj c h z
    · obtain ⟨⟨_, e, _⟩, _⟩ := ra.mt c h
      rw [e] at z; cases z
  refine ⟨⟨b.rs, fun c h k => h.elim (fun h => n c h (.inl k)) fun h => b.dj c h k, t.ch, fun c h => ?_, t.pn⟩, ra.ch b.ch a.dj, fun c h k => n c h (.inr k)⟩
  rcases h with h | h | h
  · exact t.sub c (.inl h)
  · exact a.sub c (.inr h)
  · exact t.sub c (.inr h)
theorem exc_step {σ : L2.St} {g H F g1 H1 F1 st1 Fv st2 c i} (p : PostS P g H F g1 H1 F1 st1 σ Fv) (h : exc P W g H F st2 c i) : exc P W g1 H1 F1 st2 c i := fun g2 H2 F2 τ cls d q e => h g2 H2 F2 τ cls d (p.trans q) e
theorem PE.imp {X : Cx} {e : Expr} {t t' : TE} (h : PE X e t) (i : ∀ σ H Q, t' σ H Q → t σ H Q) : PE X e t' := ⟨fun pins s σ H Q I q => h.run pins s σ H Q I (i _ _ _ q)⟩
theorem PA.imp {X : Cx} {e : List Expr} {t t' : TA} (h : PA X e t) (i : ∀ σ H Q, t' σ H Q → t σ H Q) : PA X e t' := ⟨fun pos pins s σ H Q I q => h.run pos pins s σ H Q I (i _ _ _ q)⟩
theorem PT.imp {X : Cx} {e : Expr} {t t' : TT} (h : PT X e t) (i : ∀ σ H Q, t' σ H Q → t σ H Q) : PT X e t' := ⟨fun pins s σ H Q I q => h.run pins s σ H Q I (i _ _ _ q)⟩
theorem PS.imp {X : Cx} {e : Stmt} {t t' : TS} (h : PS X e t) (i : ∀ D σ H, t' D σ H → t D σ H) : PS X e t' := ⟨fun pins s σ H Q I q => h.run pins s σ H Q I (i _ _ _ q)⟩
theorem PSs.imp {X : Cx} {e : List Stmt} {t t' : TS} (h : PSs X e t) (i : ∀ D σ H, t' D σ H → t D σ H) : PSs X e t' := ⟨fun pins s σ H Q I q => h.run pins s σ H Q I (i _ _ _ q)⟩
end
end VS

namespace VS
open PySem L2
/-! ### views of values: what an operation reads -/
def allIm : List O → Option (List I)
  | [] => some []
  | .im i :: r => (allIm r).map (i :: ·)
  | _ :: _ => none
def allImD : List (DK × O) → Option (List (DK × I))
  | [] => some []
  | (k, .im i) :: r => (allImD r).map ((k, i) :: ·)
  | _ :: _ => none
def flat : O → Option I
  | .im i => some i
  | .lst l => (allIm l).map .lst
  | .tup l => (allIm l).map .tup
  | .dct t kvs => (allImD kvs).map (.dct t)
  | _ => none
@[simp] theorem allIm_map (l : List I) : allIm (l.map O.im) = some l := by
  induction l with
  | nil => rfl
  | cons a r ih => simp [allIm, ih]
theorem allIm_eq : ∀ {l : List O} {is : List I}, allIm l = some is → l = is.map O.im
  | [], is, h => by cases h; rfl
  | .im i :: r, is, h => by
    simp only [allIm, Option.map_eq_some_iff] at h
    obtain ⟨js, e, rfl⟩ := h
    rw [allIm_eq e]; rfl
  | .lst _ :: _, _, h => by cases h
  | .tup _ :: _, _, h => by cases h
  | .dct _ _ :: _, _, h => by cases h
  | .ins _ _ :: _, _, h => by cases h
  | .hole :: _, _, h => by cases h
theorem allImD_eq : ∀ {l : List (DK × O)} {is : List (DK × I)}, allImD l = some is → l = is.map fun x => (x.1, O.im x.2)
  | [], is, h => by cases h; rfl
  | (k, .im i) :: r, is, h => by
    simp only [allImD, Option.map_eq_some_iff] at h
    obtain ⟨js, e, rfl⟩ := h
    rw [allImD_eq e]; rfl
  | (_, .lst _) :: _, _, h => by cases h
  | (_, .tup _) :: _, _, h => by cases h
  | (_, .dct _ _) :: _, _, h => by cases h
  | (_, .ins _ _) :: _, _, h => by cases h
  | (_, .hole) :: _, _, h => by cases h
@[simp] theorem allImD_map (l : List (DK × I)) : allImD (l.map fun x => (x.1, O.im x.2)) = some l := by
  induction l with
  | nil => rfl
  | cons a r ih => simp [allImD, ih]
inductive RepF (P : Pg) (g : Gh) (H : Hp) : I → V → Prop
  | im {i v} : RepI P g H i v → RepF P g H i v
  | lst {l p vs} : LsR P.K H p vs → RepIL P g H l vs → RepF P g H (.lst l) (.ref p)
  | dctK {kvs p ks} : H p = some (.dK ks) → kvs.map Prod.fst = ks.map (fun x => Sum.inl x.1) → RepIL P g H (kvs.map Prod.snd) (ks.map Prod.snd) → RepF P g H (.dct false kvs) (.ref p)
  | dctT {kvs p ks} : H p = some (.dT ks) → kvs.map Prod.fst = ks.map (fun x => Sum.inr x.1) → RepIL P g H (kvs.map Prod.snd) (ks.map Prod.snd) → RepF P g H (.dct true kvs) (.ref p)
abbrev RepFL (P : Pg) (g : Gh) (H : Hp) : List I → List V → Prop := Paired (RepF P g H)
section
variable {P : Pg} {g g' : Gh} {H H' : Hp} {st st' : St} {σ : L2.St} {F F' : Lo → Fp} {FX Fv : Fp}
theorem RepOL.im : ∀ {is : List I} {vs F}, RepOL P g H (is.map O.im) vs F → RepIL P g H is vs ∧ F = emp
  | [], _, _, r => by cases r; exact ⟨.nil, rfl⟩
  | i :: is, vs, F, r => by
    cases r with
    | cons a b d =>
      cases a with
      | im a =>
        obtain ⟨x, e⟩ := RepOL.im b
        subst e
        exact ⟨.cons a x, by funext b; simp [un, emp]⟩
theorem RepIL.o : ∀ {is : List I} {vs}, RepIL P g H is vs → RepOL P g H (is.map O.im) vs emp
  | [], _, r => by cases r; exact .nil
  | i :: is, vs, r => by
    cases r with
    | cons a b =>
      have q := RepOL.cons (RepO.im a) (RepIL.o b) fun _ h => h.elim
      have e : un emp emp = emp := by funext b; simp [un, emp]
      rw [e] at q
      exact q
theorem RepIL.allIm {os : List O} {is : List I} {vs F} (e : allIm os = some is) (r : RepOL P g H os vs F) : RepIL P g H is vs ∧ F = emp := by
  rw [allIm_eq e] at r; exact r.im
theorem RepO.flat {o i v F} (e : flat o = some i) (r : RepO P g H o v F) : RepF P g H i v := by
  cases r with
  | im a => cases e; exact .im a
  | lst h z r n =>
    simp only [VS.flat, Option.map_eq_some_iff] at e
    obtain ⟨is, e, rfl⟩ := e
    exact .lst (.inl (.of h)) (RepIL.allIm e r).1
  | tup h r =>
    simp only [VS.flat, Option.map_eq_some_iff] at e
    obtain ⟨is, e, rfl⟩ := e
    exact .im (.tup (.of h) (RepIL.allIm e r).1)
  | dctK h z k r n =>
    simp only [VS.flat, Option.map_eq_some_iff] at e
    obtain ⟨is, e, rfl⟩ := e
    have e := allImD_eq e
    subst e
    refine .dctK h (by simpa [List.map_map, Function.comp_def] using k) ?_
    have e2 : (is.map fun x => (x.1, O.im x.2)).map Prod.snd = (is.map Prod.snd).map O.im := by simp [List.map_map, Function.comp_def]
    rw [e2] at r
    exact r.im.1
  | dctT h z k r n =>
    simp only [VS.flat, Option.map_eq_some_iff] at e
    obtain ⟨is, e, rfl⟩ := e
    have e := allImD_eq e
    subst e
    refine .dctT h (by simpa [List.map_map, Function.comp_def] using k) ?_
    have e2 : (is.map fun x => (x.1, O.im x.2)).map Prod.snd = (is.map Prod.snd).map O.im := by simp [List.map_map, Function.comp_def]
    rw [e2] at r
    exact r.im.1
  | ins _ _ _ _ _ _ => cases e
/-! ### an operation that reads -/
structure PostR (P : Pg) (g : Gh) (H : Hp) (g' : Gh) (H' : Hp) (o : O) (v : V) (Fv : Fp) : Prop where
  ro : RepO P g' H' o v Fv
  ch : Ch emp g H g' H'
  fr : ∀ b, Fv b → H b = none
  rho : g'.rho = g.rho
  zz : g'.Z = g.Z
  pn : g'.pn = g.pn
def RdOp (P : Pg) (f : List I → Option O) : List V → Hp → VK → Prop := fun vs H Q => ∃ g is, (∀ b, g.Z b → ∃ o, H b = some o) ∧ RepFL P g H is vs ∧ ∃ o, f is = some o ∧ ∀ g' H' v Fv, PostR P g H g' H' o v Fv → Q v H'
theorem PostR.toS {o v} (rs : RepS P g H st σ F) (p : PostR P g H g' H' o v Fv) : PostS P g H F g' H' F st σ Fv where
  rs := rs.ch p.ch (fun _ _ h => h.elim) p.rho p.pn fun b z => by
    rw [p.zz] at z
    obtain ⟨o, e⟩ := rs.zd b z
    exact p.ch.dom b o e
  dj b h k := by
    obtain ⟨⟨_, e, _⟩, _⟩ := rs.mt b k
    rw [p.fr b h] at e; cases e
  ch := p.ch.wider (fun _ h => h.elim) rs.mt
  sub b h := h.elim .inl fun h => .inr (p.fr b h)
  pn := p.pn
theorem PostR.same {i v} (r : RepI P g H i v) : PostR P g H g H (.im i) v emp := ⟨.im r, .refl0, fun _ h => h.elim, rfl, rfl, rfl⟩
/-- a new object -/
theorem Ch.new {p o} (h : H p = none) : Ch emp g H g (upd H p o) where
  keep b u e _ := by rw [upd_ne (ne_of_none e h)]; exact e
  dom b u e := ⟨u, by rw [upd_ne (ne_of_none e h)]; exact e⟩
  mt _ h := h.elim
  zle _ z := z
  znew _ z := .inl z
  rho := ⟨[], by simp⟩
end
/-! ### operands -/
inductive Op where
  | o (x : O) | b (k : Nat)
abbrev OM := M Op
abbrev OL := M (List Op)
/-- what is seen of a value: of a shared object what it holds -/
def flo (st : St) : O → Option I
  | .im (.ref r) => match st.sto[r]? with
    | some o => flat o
    | none => none
  | x => flat x
def fl (st : St) : Op → Option I
  | .o x => flo st x
  | .b k => match st.sl[k]? with
    | some o => flo st o
    | none => none
def flL (st : St) : List Op → Option (List I)
  | [] => some []
  | x :: r => match fl st x, flL st r with
    | some i, some is => some (i :: is)
    | _, _ => none
def vl (m : EM) : OM := bnd m fun o => ret (.o o)
def bo (k : Nat) : OM := fun st => match st.sl[k]? with
  | none => none
  | some .hole => none
  | some _ => some (.ok (.b k), st)
def oNil : OL := ret []
def oCons (a : OM) (r : OL) : OL := bnd a fun x => bnd r fun xs => ret (x :: xs)
/-- what an operand's value is -/
def RepOp (P : Pg) (g : Gh) (H : Hp) (σ : L2.St) : Op → V → Fp → Prop
  | .o x, v, F => RepO P g H x v F
  | .b k, v, F => σ[k]? = some (some v) ∧ F = emp
inductive RepOpL (P : Pg) (g : Gh) (H : Hp) (σ : L2.St) : List Op → List V → Fp → Prop
  | nil : RepOpL P g H σ [] [] emp
  | cons {o v l vs F G} : RepOp P g H σ o v F → RepOpL P g H σ l vs G → Fp.dj F G → RepOpL P g H σ (o :: l) (v :: vs) (un F G)
def OkO (P : Pg) (W : WX) (f : OM) : TE := fun σ H Q => ∃ g st F, RepS P g H st σ F ∧
  RunAt f st (fun st' o => ∀ g' H' F' v Fv, PostS P g H F g' H' F' st' σ Fv → RepOp P g' H' σ o v Fv → Q v H') (exc P W g H F)
def OkOL (P : Pg) (W : WX) (f : OL) : TA := fun σ H Q => ∃ g st F, RepS P g H st σ F ∧
  RunAt f st (fun st' os => ∀ g' H' F' vs Fv, PostS P g H F g' H' F' st' σ Fv → RepOpL P g' H' σ os vs Fv → Q vs H') (exc P W g H F)
section
variable {P : Pg} {W : WX} {X : Cx} {e a b : Expr} {g g' : Gh} {H H' : Hp} {st st' : St} {σ : L2.St} {F F' : Lo → Fp} {FX Fv : Fp}
theorem RepOp.mt {o v} (r : RepOp P g H σ o v Fv) : ∀ b, Fv b → Mt H b ∧ ¬ g.Z b := by
  cases o with
  | o x => exact RepO.mt r
  | b k =>
    obtain ⟨_, e⟩ := r
    subst e
    exact fun _ h => h.elim
theorem RepOp.ch {o v} (c : Ch FX g H g' H') (r : RepOp P g H σ o v Fv) (d : Fp.dj Fv FX) : RepOp P g' H' σ o v Fv := by
  cases o with
  | o x => exact RepO.ch c r d
  | b k => exact r
theorem RepOp.fl {o v i} (rs : RepS P g H st σ F) (r : RepOp P g H σ o v Fv) (e : fl st o = some i) : RepF P g H i v := by
  have one : ∀ {x : O} {F'}, flo st x = some i → RepO P g H x v F' → RepF P g H i v := fun {x F'} e r => by
    unfold flo at e
    split at e
    · rename_i q
      split at e
      · rename_i o' ho
        cases r with
        | im r =>
          cases r with
          | ref hr =>
            obtain ⟨p, hp, rr⟩ := rs.sto _ _ ho
            rw [hr] at hp
            cases hp
            exact rr.flat e
      · cases e
    · exact r.flat e
  cases o with
  | o x => exact one e r
  | b k =>
    unfold VS.fl at e
    cases q : st.sl[k]? with
    | none => simp [q] at e
    | some x =>
      simp only [q] at e
      rcases rs.slot k x q with ⟨rfl, _⟩ | ⟨u, hu, ru⟩
      · cases e
      · rw [r.1] at hu; cases hu
        exact one e ru
theorem RepOpL.fl (rs : RepS P g H st σ F) : ∀ {os vs is Fv}, RepOpL P g H σ os vs Fv → flL st os = some is → RepFL P g H is vs
  | [], _, _, _, r, e => by cases r; cases e; exact .nil
  | o :: os, _, is, _, r, e => by
    cases r with
    | cons ra rb d =>
      unfold flL at e
      split at e
      · rename_i h1 h2
        cases e
        exact .cons (ra.fl rs h1) (RepOpL.fl rs rb h2)
      · cases e
/-- two steps with the first one's operand kept -/
theorem PostS.bothO {g H F g1 H1 F1 st1 Fv g2 H2 F2 st2 Fw o v} (a : PostS P g H F g1 H1 F1 st1 σ Fv) (ra : RepOp P g1 H1 σ o v Fv) (b : PostS P g1 H1 F1 g2 H2 F2 st2 σ Fw) :
    PostS P g H F g2 H2 F2 st2 σ (un Fv Fw) ∧ RepOp P g2 H2 σ o v Fv ∧ Fp.dj Fv Fw := by
  have t := a.trans b
  have n : ∀ c, Fv c → tot F2 c ∨ Fw c → False := fun c h k => by
    rcases b.sub c k with z | z
    · exact a.dj c h z
    · obtain ⟨⟨_, e, _⟩, _⟩ := ra.mt c h
      rw [e] at z; cases z
  refine ⟨⟨b.rs, fun c h k => h.elim (fun h => n c h (.inl k)) fun h => b.dj c h k, t.ch, fun c h => ?_, t.pn⟩, ra.ch b.ch a.dj, fun c h k => n c h (.inr k)⟩
  rcases h with h | h | h
  · exact t.sub c (.inl h)
  · exact a.sub c (.inr h)
  · exact t.sub c (.inr h)
/-- behind operands, an operation that reads -/
theorem PostS.read {g H F g1 H1 F1 st1 Fv g2 H2 o v Fw} (a : PostS P g H F g1 H1 F1 st1 σ Fv) (p : PostR P g1 H1 g2 H2 o v Fw) : PostS P g H F g2 H2 F1 st1 σ Fw := a.trans (p.toS a.rs)
theorem eo_vl {f : EM} (h : PE X e (OkE P W f)) : PE X e (OkO P W (vl f)) := PE.imp h fun σ H Q ⟨g, st, F, r, h⟩ =>
  ⟨g, st, F, r, h.bnd.imp (fun s o k g' H' F' v Fv p ro => k.ret g' H' F' v Fv p ro) fun _ _ _ z => z⟩
theorem eo_bo {k : Nat} (h : PE X e (tVar k)) : PE X e (OkO P W (bo k)) := PE.imp h fun σ H Q ⟨g, st, F, r, h⟩ => by
  unfold RunAt bo at h
  cases q : st.sl[k]? with
  | none => simp [q] at h
  | some o =>
    rcases r.slot k o q with ⟨rfl, _⟩ | ⟨v, hv, _⟩
    · simp [q] at h
    · refine ⟨v, hv, ?_⟩
      have h' : ∀ g' H' F' v Fv, PostS P g H F g' H' F' st σ Fv → RepOp P g' H' σ (.b k) v Fv → Q v H' := by
        cases o <;> first | (simp only [q] at h; exact h) | (simp [q] at h)
      exact h' g H F v emp (.refl r) ⟨hv, rfl⟩
end
end VS

namespace VS
open PySem L2
/-! ### expressions -/
def cI (i : I) : EM := ret (.im i)
def eVar (k : Nat) : EM := fun st => match st.sl[k]? with
  | some (.im i) => some (.ok (.im i), st)
  | _ => none
/-- a name read, what it holds frozen -/
def eFv (k : Nat) : EM := fun st => match st.sl[k]? with
  | some o => if fzb o then some (.ok (.im (frz o)), { st with sl := st.sl.set k (.im (frz o)) }) else none
  | none => none
/-- a name read for the last time -/
def eMv (k : Nat) : EM := fun st => match st.sl[k]? with
  | some .hole => none
  | some o => some (.ok o, { st with sl := st.sl.set k .hole })
  | none => none
/-- what is made frozen -/
def eFz (m : EM) : EM := bnd m fun o => if fzb o then ret (.im (frz o)) else lift none
def aNil : AM := ret []
def aCons (m : EM) (r : AM) : AM := bnd m fun o => bnd r fun os => ret (o :: os)
def noHole : O → Bool
  | .hole => false
  | _ => true
def mkTup (os : List O) : Option O := if os.length ≤ sizeLine then some (match allIm os with
  | some is => .im (.tup is)
  | none => .tup os) else none
def mkLst (os : List O) : Option O := if os.length ≤ sizeLine then some (.lst os) else none
def eTup (a : AM) : EM := bnd a fun os => lift (mkTup os)
def eLst (a : AM) : EM := bnd a fun os => lift (mkLst os)
/-- an operation that reads -/
def rd (f : List I → Option O) (os : List Op) : EM := fun st => match flL st os with
  | some is => lift (f is) st
  | none => none
def op1 (f : List I → Option O) (a : OM) : EM := bnd a fun x => rd f [x]
def op2 (f : List I → Option O) (a b : OM) : EM := bnd a fun x => bnd b fun y => rd f [x, y]
def op3 (f : List I → Option O) (a b c : OM) : EM := bnd a fun x => bnd b fun y => bnd c fun z => rd f [x, y, z]
def opN (f : List I → Option O) (a : OL) : EM := bnd a fun xs => rd f xs
def opM (f : List I → Option O) (o : OM) (a : OL) : EM := bnd o fun x => bnd a fun xs => rd f (x :: xs)
section
variable {n : Pn} {W : WX} {X : Cx} {e a b c : Expr} {es : List Expr} {g g' : Gh} {H H' : Hp} {st st' : St} {σ : L2.St} {F F' : Lo → Fp} {FX Fv : Fp} {pos : Pos}
end
end VS
namespace VS
open PySem L2
section
variable {n : Pn} {W : WX} {X : Cx} {P : Pg} {e a b c : Expr} {es : List Expr} {g g' : Gh} {H H' : Hp} {st st' : St} {σ : L2.St} {F F' : Lo → Fp} {FX Fv : Fp} {pos : Pos}
theorem RepO.im_inv {i v} (r : RepO P g H (.im i) v Fv) : RepI P g H i v := by
  cases r with
  | im r => exact r
theorem ev_c {i : I} {v : V} (h : PE X e (tC v)) (r : ∀ g H, RepI P g H i v) : PE X e (OkE P W (cI i)) :=
  PE.imp h fun σ H Q ⟨g, st, F, rs, q⟩ => q.ret g H F v emp (.refl rs) (.im (r g H))
theorem ev_int {i j : _} : PE X (.Constant (.int i) j pos) (OkE P W (cI (.int i))) := ev_c pe_int fun _ _ => .int i
theorem ev_str {x j} : PE X (.Constant (.str x) j pos) (OkE P W (cI (.str x))) := ev_c pe_str fun _ _ => .str x
theorem ev_bl {x j} : PE X (.Constant (.bool x) j pos) (OkE P W (cI (.bl x))) := ev_c pe_bl fun _ _ => .bl x
theorem ev_non {j} : PE X (.Constant .none j pos) (OkE P W (cI .non)) := ev_c pe_non fun _ _ => .non
theorem ev_var {k : Nat} (h : PE X e (tVar k)) : PE X e (OkE P W (eVar k)) := PE.imp h fun σ H Q ⟨g, st, F, rs, q⟩ => by
  unfold RunAt eVar at q
  cases hk : st.sl[k]? with
  | none => simp [hk] at q
  | some o =>
    cases o with
    | im i =>
      simp only [hk] at q
      rcases rs.slot k _ hk with ⟨h, _⟩ | ⟨v, hv, r⟩
      · cases h
      · refine ⟨v, hv, q g H F v emp (.refl rs) ?_⟩
        exact .im r.im_inv
    | _ => simp [hk] at q
/-- a slot (k) takes another content -/
def upF (F : Lo → Fp) (l : Lo) (G : Fp) : Lo → Fp := fun m => if m = l then G else F m
theorem upF_same {F : Lo → Fp} {l G} : upF F l G l = G := if_pos rfl
theorem upF_ne {F : Lo → Fp} {l m G} (h : m ≠ l) : upF F l G m = F m := if_neg h
theorem RepS.upd {k : Nat} {o : O} {Fn : Fp} {τ : L2.St} (r : RepS P g H st σ F) (c : Ch FX g H g' H') (hx : ∀ l, l ≠ .inl k → Fp.dj (F l) FX) (e : g'.rho = g.rho) (ep : g'.pn = g.pn) (hk : k < st.sl.length)
    (hl : τ.length = σ.length) (hs : ∀ j, j ≠ k → τ[j]? = σ[j]?) (hp : ∀ p ∈ g.pn, τ[p.1]? = σ[p.1]?)
    (new : (o = .hole ∧ ∀ b, ¬ Fn b) ∨ ∃ v, τ[k]? = some (some v) ∧ RepO P g' H' o v Fn) (dn : ∀ l, l ≠ .inl k → Fp.dj (F l) Fn)
    (zd : ∀ b, g'.Z b → ∃ o, H' b = some o) :
    RepS P g' H' { st with sl := st.sl.set k o } τ (upF F (.inl k) Fn) where
  len := by simp [r.len, hl]
  slot i x h := by
    by_cases hi : i = k
    · subst hi
      have h' : (st.sl.set i o)[i]? = some x := h
      rw [List.getElem?_set_self hk] at h'
      cases h'
      rw [upF_same]
      exact new
    · have h' : (st.sl.set k o)[i]? = some x := h
      rw [List.getElem?_set_ne (Ne.symm hi)] at h'
      have hne : (Sum.inl i : Lo) ≠ .inl k := fun q => hi (Sum.inl.inj q)
      rw [upF_ne hne]
      rcases r.slot i x h' with q | ⟨v, q, z⟩
      · exact .inl q
      · exact .inr ⟨v, by rw [hs i hi]; exact q, z.ch c (hx _ hne)⟩
  sto i x h := by
    obtain ⟨p, q, z⟩ := r.sto i x h
    rw [upF_ne (by intro q; cases q)]
    exact ⟨p, c.at q, z.ch c (hx _ (by intro q; cases q))⟩
  ln := by rw [e]; exact r.ln
  dj l m h := by
    by_cases h1 : l = .inl k
    · subst h1
      rw [upF_same, upF_ne (Ne.symm h)]
      exact fun b x y => dn m (Ne.symm h) b y x
    · rw [upF_ne h1]
      by_cases h2 : m = .inl k
      · subst h2
        rw [upF_same]
        exact dn l h1
      · rw [upF_ne h2]
        exact r.dj l m h
  out1 i b h := by
    have h' : st.sl.length ≤ i := by simpa using h
    rw [upF_ne (by intro q; cases q; omega)]
    exact r.out1 i b h'
  out2 i b h := by
    rw [upF_ne (by intro q; cases q)]
    exact r.out2 i b h
  pin := by
    rw [ep]
    intro p hp'
    rw [hp p hp']
    exact r.pin p hp'
  zd := zd
theorem tot_up {l G b} (h : tot (upF F l G) b) : (∃ m, m ≠ l ∧ F m b) ∨ G b := by
  obtain ⟨m, h⟩ := h
  by_cases q : m = l
  · subst q; rw [upF_same] at h; exact .inr h
  · rw [upF_ne q] at h; exact .inl ⟨m, q, h⟩
/-- freezing: the ghost alone changes -/
theorem Ch.froze {G : Fp} (h : ∀ b, G b → Mt H b ∧ ¬ g.Z b) : Ch G g H { g with Z := fun b => g.Z b ∨ G b } H where
  keep _ _ e _ := e
  dom _ o e := ⟨o, e⟩
  mt := h
  zle _ z := .inl z
  znew _ z := z.elim .inl fun z => .inr (.inl z)
  rho := ⟨[], by simp⟩
theorem froze_zd {G : Fp} (h : ∀ b, G b → Mt H b ∧ ¬ g.Z b) (z : ∀ b, g.Z b → ∃ o, H b = some o) : ∀ b, g.Z b ∨ G b → ∃ o, H b = some o := fun b x => x.elim (z b) fun x => by
  obtain ⟨⟨o, e, _⟩, _⟩ := h b x
  exact ⟨o, e⟩
theorem frzL_len : ∀ l : List O, (frzL l).length = l.length
  | [] => rfl
  | _ :: r => congrArg (· + 1) (frzL_len r)
theorem frzD_fst : ∀ l : List (DK × O), (frzD l).map Prod.fst = l.map Prod.fst
  | [] => rfl
  | (k, o) :: r => by simp [frzD, frzD_fst r]
theorem frzD_snd : ∀ l : List (DK × O), (frzD l).map Prod.snd = frzL (l.map Prod.snd)
  | [] => rfl
  | (k, o) :: r => by simp [frzD, frzL, frzD_snd r]
theorem fzbD_eq : ∀ l : List (DK × O), fzbD l = fzbL (l.map Prod.snd)
  | [] => rfl
  | (k, o) :: r => by simp [fzbD, fzbL, fzbD_eq r]
theorem RepO.frz {G : Fp} (c : Ch FX g H g' H) {o v F} (r : RepO P g H o v F) : fzb o = true → (∀ b, F b → g'.Z b) → RepI P g' H (VS.frz o) v :=
  RepO.rec (motive_1 := fun o v F _ => fzb o = true → (∀ b, F b → g'.Z b) → RepI P g' H (VS.frz o) v) (motive_2 := fun l vs F _ => fzbL l = true → (∀ b, F b → g'.Z b) → RepIL P g' H (frzL l) vs)
    (fun a _ _ => a.ch c)
    (fun e z _ n ih h k => .lst (.inl ⟨.of e, k _ (.inl rfl)⟩) (ih h fun b x => k b (.inr x)))
    (fun e _ ih h k => .tup (.of (c.nmt e rfl)) (ih h k))
    (fun {kvs p ks F} e z q _ n ih h k => .dctK (ks := ks) e (k _ (.inl rfl)) (by rw [frzD_fst]; exact q) (by rw [frzD_snd]; exact ih (by rw [← fzbD_eq]; exact h) fun b x => k b (.inr x)))
    (fun {kvs p ks F} e z q _ n ih h k => .dctT (ks := ks) e (k _ (.inl rfl)) (by rw [frzD_fst]; exact q) (by rw [frzD_snd]; exact ih (by rw [← fzbD_eq]; exact h) fun b x => k b (.inr x)))
    (fun _ _ _ _ _ _ _ h _ => by cases h)
    (fun _ _ => .nil) (fun _ _ _ ih1 ih2 h k => by
      have h' := Bool.and_eq_true_iff.mp h
      exact .cons (ih1 h'.1 fun b x => k b (.inl x)) (ih2 h'.2 fun b x => k b (.inr x))) r
theorem ev_fv {k : Nat} (h : PE X e (tVar k)) : PE X e (OkE P W (eFv k)) := PE.imp h fun σ H Q ⟨g, st, F, rs, q⟩ => by
  unfold RunAt eFv at q
  cases hk : st.sl[k]? with
  | none => simp [hk] at q
  | some o =>
    simp only [hk] at q
    by_cases hz : fzb o = true
    · rw [if_pos hz] at q
      rcases rs.slot k _ hk with ⟨h, _⟩ | ⟨v, hv, r⟩
      · subst h; cases hz
      · refine ⟨v, hv, ?_⟩
        have cf : Ch (F (.inl k)) g H { g with Z := fun b => g.Z b ∨ F (.inl k) b } H := .froze r.mt
        have ri := r.frz (G := emp) cf hz fun b x => .inr x
        have hkl : k < st.sl.length := (List.getElem?_eq_some_iff.mp hk).1
        have rs' := rs.upd (o := .im (VS.frz o)) (Fn := emp) cf (fun l hl => rs.dj _ _ hl) rfl rfl hkl rfl (fun _ _ => rfl) (fun _ _ => rfl) (.inr ⟨v, hv, .im ri⟩) (fun _ _ _ _ h => h.elim) (froze_zd r.mt rs.zd)
        refine q _ H _ v emp ⟨rs', fun _ h => h.elim, cf.wider (fun b h => ⟨_, h⟩) rs.mt, fun b h => ?_, rfl⟩ (.im ri)
        rcases h with h | h
        · rcases tot_up h with ⟨m, _, h⟩ | h
          · exact .inl ⟨m, h⟩
          · exact h.elim
        · exact h.elim
    · rw [if_neg hz] at q
      exact q.elim
theorem ev_mv {k : Nat} (h : PE X e (tVar k)) : PE X e (OkE P W (eMv k)) := PE.imp h fun σ H Q ⟨g, st, F, rs, q⟩ => by
  unfold RunAt eMv at q
  cases hk : st.sl[k]? with
  | none => simp [hk] at q
  | some o =>
    rcases rs.slot k _ hk with ⟨h, _⟩ | ⟨v, hv, r⟩
    · subst h; simp [hk] at q
    · refine ⟨v, hv, ?_⟩
      have hkl : k < st.sl.length := (List.getElem?_eq_some_iff.mp hk).1
      have c0 : Ch emp g H g H := .refl0
      have rs' := rs.upd (o := .hole) (Fn := emp) c0 (fun l hl _ _ h => h.elim) rfl rfl hkl rfl (fun _ _ => rfl) (fun _ _ => rfl) (.inl ⟨rfl, fun _ h => h⟩) (fun _ _ _ _ h => h.elim) rs.zd
      have q' : ∀ g' H' F' v Fv, PostS P g H F g' H' F' { st with sl := st.sl.set k .hole } σ Fv → RepO P g' H' o v Fv → Q v H' := by
        cases o <;> first | (simp only [hk] at q; exact q) | (simp [hk] at q)
      refine q' g H _ v (F (.inl k)) ⟨rs', fun b h1 h2 => ?_, .refl rs.mt, fun b h => ?_, rfl⟩ r
      · rcases tot_up h2 with ⟨m, hm, h2⟩ | h2
        · exact rs.dj _ _ hm b h2 h1
        · exact h2.elim
      · rcases h with h | h
        · rcases tot_up h with ⟨m, _, h⟩ | h
          · exact .inl ⟨m, h⟩
          · exact h.elim
        · exact .inl ⟨_, h⟩
end
end VS

namespace VS
open PySem L2
section
variable {n : Pn} {W : WX} {X : Cx} {P : Pg} {e a b c : Expr} {es : List Expr} {g g' : Gh} {H H' : Hp} {st st' : St} {σ : L2.St} {F F' : Lo → Fp} {FX Fv : Fp} {pos : Pos}
/-- what is made frozen -/
theorem ev_fz {f : EM} (h : PE X e (OkE P W f)) : PE X e (OkE P W (eFz f)) := PE.imp h fun σ H Q ⟨g, st, F, rs, q⟩ => ⟨g, st, F, rs, q.bnd.imp (fun s o k g1 H1 F1 v Fv p ro => by
  by_cases hz : fzb o = true
  · rw [if_pos hz] at k
    have cf : Ch Fv g1 H1 { g1 with Z := fun b => g1.Z b ∨ Fv b } H1 := .froze ro.mt
    have ri := ro.frz (G := emp) cf hz fun b x => .inr x
    have rs' := p.rs.ch cf (fun b x y => p.dj b y x) rfl rfl (froze_zd ro.mt p.rs.zd)
    have cf' : Ch (tot F) g H { g1 with Z := fun b => g1.Z b ∨ Fv b } H1 := p.ch.trans cf fun b x => p.sub b (.inr x)
    exact k _ H1 F1 v emp ⟨rs', fun _ h => h.elim, cf', fun b x => p.sub b (x.elim .inl fun y => y.elim), p.pn⟩ (.im ri)
  · rw [if_neg hz] at k
    exact k.elim) fun _ _ _ z => z⟩
/-- a list of values -/
theorem av_nil : PA X [] (OkA P W aNil) := PA.imp pa_nil fun σ H Q ⟨g, st, F, rs, q⟩ => q.ret g H F [] emp (.refl rs) .nil
theorem PostS.bothL {g H F g1 H1 F1 st1 Fv g2 H2 F2 st2 Fw o v} (a : PostS P g H F g1 H1 F1 st1 σ Fv) (ra : RepO P g1 H1 o v Fv) (b : PostS P g1 H1 F1 g2 H2 F2 st2 σ Fw) :
    PostS P g H F g2 H2 F2 st2 σ (un Fv Fw) ∧ RepO P g2 H2 o v Fv ∧ Fp.dj Fv Fw := a.both ra b
theorem av_cons {f : EM} {r : AM} (ha : PE X e (OkE P W f)) (hr : PA X es (OkA P W r)) (hs : starEach (e :: es) X.env = (false, eval e X.env) :: starEach es X.env := by rfl) : PA X (e :: es) (OkA P W (aCons f r)) :=
  PA.imp (pa_cons ha hr hs) fun σ H Q ⟨g, st, F, rs, q⟩ => ⟨g, st, F, rs, q.bnd.imp (fun s o k g1 H1 F1 v Fv p ro => ⟨g1, s, F1, p.rs, k.bnd.imp (fun s2 os k2 g2 H2 F2 vs Fw p2 rl => by
    obtain ⟨p3, ro2, d⟩ := p.both ro p2
    exact k2.ret g2 H2 F2 (v :: vs) (un Fv Fw) p3 (.cons ro2 rl d)) fun _ _ _ z => exc_step p z⟩) fun _ _ _ z => z⟩
theorem mkTup_len {os o} (h : mkTup os = some o) : os.length ≤ sizeLine := by
  unfold mkTup at h
  split at h
  · assumption
  · cases h
theorem RepOL.len {os : List O} {vs F} (r : RepOL P g H os vs F) : os.length = vs.length := by
  induction os generalizing vs F with
  | nil => cases r; rfl
  | cons o os ih => cases r with | cons a b d => simp [ih b]
/-- a new object for a value's footprint -/
theorem RepOL.fresh {os : List O} {vs F p} (r : RepOL P g H os vs F) (h : H p = none) : ¬ F p := fun x => by
  obtain ⟨⟨_, e, _⟩, _⟩ := r.mt p x
  rw [h] at e; cases e
theorem new_zd {p u} (z : ∀ b, g.Z b → ∃ o, H b = some o) (h : H p = none) : ∀ b, g.Z b → ∃ o, upd H p u b = some o := fun b x => by
  obtain ⟨o, e⟩ := z b x
  exact ⟨o, by rw [upd_ne (ne_of_none e h)]; exact e⟩
theorem RepS.nz {p} (r : RepS P g H st σ F) (h : H p = none) : ¬ g.Z p := fun z => by
  obtain ⟨o, e⟩ := r.zd p z
  rw [h] at e; cases e
theorem PostS.mk1 {g H F g1 H1 F1 st1 Fv p u Fw} (a : PostS P g H F g1 H1 F1 st1 σ Fv) (hp : H1 p = none) (hw : ∀ b, Fw b → Fv b ∨ b = p) (fr : ∀ b, Fv b → Mt H1 b) : PostS P g H F g1 (upd H1 p u) F1 st1 σ Fw := by
  have c : Ch emp g1 H1 g1 (upd H1 p u) := .new hp
  have t := a.ch.trans c fun _ h => h.elim
  refine ⟨a.rs.ch c (fun _ _ h => h.elim) rfl rfl (new_zd a.rs.zd hp), fun b x y => ?_, t, fun b x => ?_, a.pn⟩
  · rcases hw b x with x | x
    · exact a.dj b x y
    · subst x
      obtain ⟨⟨_, e, _⟩, _⟩ := a.rs.mt b y
      rw [hp] at e; cases e
  · rcases x with x | x
    · exact a.sub b (.inl x)
    · rcases hw b x with x | x
      · exact a.sub b (.inr x)
      · subst x
        exact .inr (a.ch.back hp)
theorem ev_tup {r : AM} {kk} (h : PA X es (OkA P W r)) : PE X (.Tuple es kk pos) (OkE P W (eTup r)) :=
  PE.imp (pe_tup h) fun σ H Q ⟨g, st, F, rs, q⟩ => ⟨g, st, F, rs, q.bnd.imp (fun s os k g1 H1 F1 vs Fv p rl => by
    obtain ⟨o, e, k⟩ := k.lift
    refine ⟨by rw [← rl.len]; exact mkTup_len e, fun t ht => ?_⟩
    have c : Ch emp g1 H1 g1 (upd H1 t (.tup vs)) := .new ht
    refine k g1 _ F1 (.ref t) Fv (p.mk1 ht (fun _ x => .inl x) fun b x => (rl.mt b x).1) ?_
    have rl2 := rl.ch c fun _ _ h => h.elim
    unfold mkTup at e
    rw [if_pos (mkTup_len e)] at e
    cases hi : allIm os with
    | none =>
      rw [hi] at e; cases e
      exact .tup upd_same rl2
    | some is =>
      rw [hi] at e; cases e
      obtain ⟨ri, ef⟩ := RepIL.allIm hi rl2
      subst ef
      exact .im (.tup (.of upd_same) ri)) fun _ _ _ z => z⟩
theorem ev_lst {r : AM} (h : PA X es (OkA P W r)) : PE X (.List es pos) (OkE P W (eLst r)) :=
  PE.imp (pe_lst h) fun σ H Q ⟨g, st, F, rs, q⟩ => ⟨g, st, F, rs, q.bnd.imp (fun s os k g1 H1 F1 vs Fv p rl => by
    obtain ⟨o, e, k⟩ := k.lift
    unfold mkLst at e
    split at e
    · rename_i hl
      cases e
      refine ⟨by rw [← rl.len]; exact hl, fun t ht => ?_⟩
      have c : Ch emp g1 H1 g1 (upd H1 t (.lst vs)) := .new ht
      have rl2 := rl.ch c fun _ _ h => h.elim
      have nz : ¬ g1.Z t := p.rs.nz ht
      exact k g1 _ F1 (.ref t) (ins1 t Fv) (p.mk1 ht (fun _ x => x.elim .inr .inl) fun b x => (rl.mt b x).1) (.lst upd_same nz rl2 (rl.fresh ht))
    · cases e) fun _ _ _ z => z⟩
end
end VS

namespace VS
open PySem L2
/-! ### operations that read, lifted -/
section
variable {n : Pn} {W : WX} {X : Cx} {P : Pg} {e a b c : Expr} {es : List Expr} {g g' : Gh} {H H' : Hp} {st st' : St} {σ : L2.St} {F F' : Lo → Fp} {FX Fv : Fp} {pos : Pos}
theorem RunAt.rd {f : List I → Option O} {os st ok ex} (h : RunAt (rd f os) st ok ex) : ∃ is o, flL st os = some is ∧ f is = some o ∧ ok st o := by
  unfold RunAt VS.rd at h
  cases hf : flL st os with
  | none => simp [hf] at h
  | some is =>
    simp only [hf] at h
    cases ho : f is with
    | none =>
      rw [ho] at h
      exact h.elim
    | some o =>
      rw [ho] at h
      exact ⟨is, o, rfl, ho, h⟩
theorem rd_go {f : List I → Option O} {os vs st Fv Q g0 H0 F0} (p : PostS P g0 H0 F0 g H F st σ Fv) (r : RepOpL P g H σ os vs Fv) {ex} (h : RunAt (rd f os) st (fun st' o => ∀ g' H' F' v Fw, PostS P g0 H0 F0 g' H' F' st' σ Fw → RepO P g' H' o v Fw → Q v H') ex) : RdOp P f vs H Q := by
  obtain ⟨is, o, e1, e2, q⟩ := h.rd
  exact ⟨g, is, p.rs.zd, r.fl p.rs e1, o, e2, fun g' H' v Fw pr => q g' H' F v Fw (p.read pr) pr.ro⟩
theorem RepOpL.one {o v} (r : RepOp P g H σ o v Fv) : RepOpL P g H σ [o] [v] (un Fv emp) := .cons r .nil fun _ _ h => h
theorem PostS.w {g H F g1 H1 F1 st1 σ1 Fv} (p : PostS P g H F g1 H1 F1 st1 σ1 Fv) : PostS P g H F g1 H1 F1 st1 σ1 (un Fv emp) :=
  ⟨p.rs, fun b x y => p.dj b (x.elim id fun z => z.elim) y, p.ch, fun b x => p.sub b (x.elim .inl fun y => y.elim .inr fun z => z.elim), p.pn⟩
theorem go1 {f : List I → Option O} {fa : OM} {H σ Q} (h : OkE P W (op1 f fa) σ H Q) : OkO P W fa σ H fun x H1 => RdOp P f [x] H1 Q := by
  obtain ⟨g, st, F, rs, q⟩ := h
  exact ⟨g, st, F, rs, q.bnd.imp (fun s x k g1 H1 F1 v Fv p rx => rd_go p.w (.one rx) k) fun _ _ _ z => z⟩
theorem go2 {f : List I → Option O} {fa fb : OM} {H σ Q} (h : OkE P W (op2 f fa fb) σ H Q) : OkO P W fa σ H fun x H1 => OkO P W fb σ H1 fun y H2 => RdOp P f [x, y] H2 Q := by
  obtain ⟨g, st, F, rs, q⟩ := h
  exact ⟨g, st, F, rs, q.bnd.imp (fun s x k g1 H1 F1 v Fv p rx => ⟨g1, s, F1, p.rs, k.bnd.imp (fun s2 y k2 g2 H2 F2 u Fu p2 ry => by
    obtain ⟨p3, rx2, d⟩ := p.bothO rx p2.w
    exact rd_go p3 (.cons rx2 (.one ry) d) k2) fun _ _ _ z => exc_step p z⟩) fun _ _ _ z => z⟩
theorem goN {f : List I → Option O} {fa : OL} {H σ Q} (h : OkE P W (opN f fa) σ H Q) : OkOL P W fa σ H fun xs H1 => RdOp P f xs H1 Q := by
  obtain ⟨g, st, F, rs, q⟩ := h
  exact ⟨g, st, F, rs, q.bnd.imp (fun s x k g1 H1 F1 v Fv p rx => rd_go p rx k) fun _ _ _ z => z⟩
theorem goM {f : List I → Option O} {fo : OM} {fa : OL} {H σ Q} (h : OkE P W (opM f fo fa) σ H Q) : OkO P W fo σ H fun x H1 => OkOL P W fa σ H1 fun xs H2 => RdOp P f (x :: xs) H2 Q := by
  obtain ⟨g, st, F, rs, q⟩ := h
  exact ⟨g, st, F, rs, q.bnd.imp (fun s x k g1 H1 F1 v Fv p rx => ⟨g1, s, F1, p.rs, k.bnd.imp (fun s2 y k2 g2 H2 F2 u Fu p2 ry => by
    obtain ⟨p3, rx2, d⟩ := p.bothO rx p2
    exact rd_go p3 (.cons rx2 ry d) k2) fun _ _ _ z => exc_step p z⟩) fun _ _ _ z => z⟩
theorem ol_nil : PA X [] (OkOL P W oNil) := PA.imp pa_nil fun σ H Q ⟨g, st, F, rs, q⟩ => q.ret g H F [] emp (.refl rs) .nil
theorem ol_cons {f : OM} {r : OL} (ha : PE X e (OkO P W f)) (hr : PA X es (OkOL P W r)) (hs : starEach (e :: es) X.env = (false, eval e X.env) :: starEach es X.env := by rfl) : PA X (e :: es) (OkOL P W (oCons f r)) :=
  PA.imp (pa_cons ha hr hs) fun σ H Q ⟨g, st, F, rs, q⟩ => ⟨g, st, F, rs, q.bnd.imp (fun s o k g1 H1 F1 v Fv p ro => ⟨g1, s, F1, p.rs, k.bnd.imp (fun s2 os k2 g2 H2 F2 vs Fw p2 rl => by
    obtain ⟨p3, ro2, d⟩ := p.bothO ro p2
    exact k2.ret g2 H2 F2 (v :: vs) (un Fv Fw) p3 (.cons ro2 rl d)) fun _ _ _ z => exc_step p z⟩) fun _ _ _ z => z⟩
theorem ev_bin {op : Operator} {f fa fb} (ho : OpR X (binaryOp op) fun x y => RdOp P f [x, y]) (ha : PE X a (OkO P W fa)) (hb : PE X b (OkO P W fb)) : PE X (.BinOp a op b pos) (OkE P W (op2 f fa fb)) := PE.imp (pe_op ho ha hb) fun _ _ _ h => go2 h
theorem ev_un {op : UnaryOp} {f fa} (ho : UnR X (unaryOp op) fun x => RdOp P f [x]) (ha : PE X a (OkO P W fa)) : PE X (.UnaryOp op a pos) (OkE P W (op1 f fa)) := PE.imp (pe_un ho ha) fun _ _ _ h => go1 h
theorem ev_cmp {op : CmpOp} {f fa fb} (ho : OpR X (compareOp op) fun x y => RdOp P f [x, y]) (ha : PE X a (OkO P W fa)) (hb : PE X b (OkO P W fb)) (hm : behindInMarks op b = false := by first | exact nomark _ | rfl) : PE X (.Compare a [op] [b] pos) (OkE P W (op2 f fa fb)) := PE.imp (pe_cmpR ho ha hb hm) fun _ _ _ h => go2 h
theorem ev_ix {f fa fb} (ho : IxR X fun x y => RdOp P f [x, y]) (ha : PE X a (OkO P W fa)) (hb : PE X b (OkO P W fb)) (hs : PlainIx b := by exact fun _ _ => rfl) : PE X (.Subscript a b pos) (OkE P W (op2 f fa fb)) := PE.imp (pe_ix ho ha hb hs) fun _ _ _ h => go2 h
theorem ev_callB {x : Str} {id : String} {p : Pos} {f : List I → Option O} {fa : OL} (hc : CallR X (.builtin id) (RdOp P f)) (hm : X.mg x = none) (hv : bootBuiltins x = some (.builtin id)) (ha : PA X (e :: es) (OkOL P W fa)) (hg : Gl X x := by rfl) (hn : x ≠ "__name__" := by decide) (hdb : (x == ("__debug__" : Str)) = false := by decide)
    (he : starEach (e :: es) X.env = (false, eval e X.env) :: starEach es X.env := by rfl) (hpl : (backTo pos (starEach es X.env)).any (·.1) = false := by rfl) : PE X (.Call (.Name x p) (e :: es) [] pos) (OkE P W (opN f fa)) := PE.imp (pe_callB hc hg hm hv ha hn hdb he hpl) fun _ _ _ h => goN h
theorem ev_callTy {x : Str} {T : String} {p : Pos} {f : List I → Option O} {fa : OL} (hc : CallR X (.type T) (RdOp P f)) (hm : X.mg x = none) (hv : bootBuiltins x = some (.type T)) (ha : PA X (e :: es) (OkOL P W fa)) (hg : Gl X x := by rfl) (hn : x ≠ "__name__" := by decide) (hdb : (x == ("__debug__" : Str)) = false := by decide)
    (he : starEach (e :: es) X.env = (false, eval e X.env) :: starEach es X.env := by rfl) (hpl : (backTo pos (starEach es X.env)).any (·.1) = false := by rfl) : PE X (.Call (.Name x p) (e :: es) [] pos) (OkE P W (opN f fa)) := PE.imp (pe_callTy hc hg hm hv ha hn hdb he hpl) fun _ _ _ h => goN h
/-! ### tests -/
def asB (m : EM) : BM := bnd m fun o => match o with
  | .im (.bl b) => ret b
  | _ => lift none
def bAnd (m k : BM) : BM := bnd m fun b => if b then k else ret false
def bOr (m k : BM) : BM := bnd m fun b => if b then ret true else k
def bNot (m : BM) : BM := bnd m fun b => ret (!b)
def ofB (m : BM) : EM := bnd m fun b => ret (.im (.bl b))
theorem asB_go {f : EM} {H σ Q} (h : OkB P W (asB f) σ H Q) : OkE P W f σ H fun x H1 => ∃ k, x = .bl k ∧ Q k H1 := by
  obtain ⟨g, st, F, rs, q⟩ := h
  refine ⟨g, st, F, rs, q.bnd.imp (fun s o k g1 H1 F1 v Fv p ro => ?_) fun _ _ _ z => z⟩
  split at k
  · rename_i b
    cases ro.im_inv
    refine ⟨b, rfl, k.ret g1 H1 F1 ⟨p.rs, fun _ h => h.elim, p.ch, fun c x => p.sub c (x.elim .inl fun y => y.elim), p.pn⟩⟩
  · exact k.elim
theorem bt_cmp {op : CmpOp} {f fa fb} (ho : OpR X (compareOp op) fun x y => RdOp P f [x, y]) (ha : PE X a (OkO P W fa)) (hb : PE X b (OkO P W fb)) (hm : behindInMarks op b = false := by first | exact nomark _ | rfl) : PT X (.Compare a [op] [b] pos) (OkB P W (asB (op2 f fa fb))) :=
  PT.imp (pt_cmpR ho ha hb hm) fun _ _ _ h => go2 (asB_go h)
theorem bt_val {f} (ha : PE X a (OkE P W f)) (he : ∀ whole, isTrue a X.env whole = (do let v ← whole; standAt a.pos; holding [v] (truthy v)) := by intro _; rfl) : PT X a (OkB P W (asB f)) := PT.imp (pt_val ha he) fun _ _ _ h => asB_go h
theorem PostS.b2 {g H F g1 H1 F1 st1 σ1 g2 H2 F2 st2 σ2} (p : PostS P g H F g1 H1 F1 st1 σ1 emp) (q : PostS P g1 H1 F1 g2 H2 F2 st2 σ2 emp) : PostS P g H F g2 H2 F2 st2 σ2 emp := p.trans q
theorem and_go {f k : BM} {H σ Q} (h : OkB P W (bAnd f k) σ H Q) : OkB P W f σ H fun c H1 => if c = true then OkB P W k σ H1 Q else Q false H1 := by
  obtain ⟨g, st, F, rs, q⟩ := h
  refine ⟨g, st, F, rs, q.bnd.imp (fun s b k g1 H1 F1 p => ?_) fun _ _ _ z => z⟩
  cases b with
  | true => exact ⟨g1, s, F1, p.rs, RunAt.imp k (fun s2 b2 k2 g2 H2 F2 p2 => k2 g2 H2 F2 (p.b2 p2)) fun _ _ _ z => exc_step p z⟩
  | false => exact k.ret g1 H1 F1 p
theorem or_go {f k : BM} {H σ Q} (h : OkB P W (bOr f k) σ H Q) : OkB P W f σ H fun c H1 => if c = true then Q true H1 else OkB P W k σ H1 Q := by
  obtain ⟨g, st, F, rs, q⟩ := h
  refine ⟨g, st, F, rs, q.bnd.imp (fun s b k g1 H1 F1 p => ?_) fun _ _ _ z => z⟩
  cases b with
  | false => exact ⟨g1, s, F1, p.rs, RunAt.imp k (fun s2 b2 k2 g2 H2 F2 p2 => k2 g2 H2 F2 (p.b2 p2)) fun _ _ _ z => exc_step p z⟩
  | true => exact k.ret g1 H1 F1 p
variable {rest : List Expr} {fa fb : BM}
theorem PW.imp {e : Expr} {t t' : TT} (h : PW X e t) (i : ∀ σ H Q, t' σ H Q → t σ H Q) : PW X e t' := ⟨fun wh pins s σ H Q I q => h.run wh pins s σ H Q I (i _ _ _ q)⟩
theorem bw_and1 (ha : PT X a (OkB P W fa)) : PW X (.BoolOp .And [a] pos) (OkB P W fa) := pw_and1 ha
theorem bw_or1 (ha : PT X a (OkB P W fa)) : PW X (.BoolOp .Or [a] pos) (OkB P W fa) := pw_or1 ha
theorem bw_and (ha : PT X a (OkB P W fa)) (hb : PW X (.BoolOp .And (b :: rest) pos) (OkB P W fb)) : PW X (.BoolOp .And (a :: b :: rest) pos) (OkB P W (bAnd fa fb)) := PW.imp (pw_and ha hb) fun _ _ _ h => and_go h
theorem bw_or (ha : PT X a (OkB P W fa)) (hb : PW X (.BoolOp .Or (b :: rest) pos) (OkB P W fb)) : PW X (.BoolOp .Or (a :: b :: rest) pos) (OkB P W (bOr fa fb)) := PW.imp (pw_or ha hb) fun _ _ _ h => or_go h
theorem bt_not (ha : PT X a (OkB P W fa)) : PT X (.UnaryOp .Not a pos) (OkB P W (bNot fa)) := PT.imp (pt_not ha) fun σ H Q ⟨g, st, F, rs, q⟩ =>
  ⟨g, st, F, rs, q.bnd.imp (fun s b k g1 H1 F1 p => k.ret g1 H1 F1 p) fun _ _ _ z => z⟩
/-! as values -/
def eAnd (m : EM) (k : EM) : EM := bnd (asB m) fun b => if b then k else ret (.im (.bl false))
def eOr (m : EM) (k : EM) : EM := bnd (asB m) fun b => if b then ret (.im (.bl true)) else k
def eNot (m : EM) : EM := bnd (asB m) fun b => ret (.im (.bl (!b)))
def eIf (t : BM) (m k : EM) : EM := bnd t fun b => if b then m else k
theorem asB_goE {f : EM} {k : Bool → EM} {H σ Q} (h : OkE P W (bnd (asB f) k) σ H Q) : OkE P W f σ H fun x H1 => ∃ c, x = .bl c ∧ OkE P W (k c) σ H1 Q := by
  obtain ⟨g, st, F, rs, q⟩ := h
  refine ⟨g, st, F, rs, q.bnd.bnd.imp (fun s o k1 g1 H1 F1 v Fv p ro => ?_) fun _ _ _ z => z⟩
  split at k1
  · rename_i b
    cases ro.im_inv
    have p' : PostS P g H F g1 H1 F1 s σ emp := ⟨p.rs, fun _ h => h.elim, p.ch, fun c x => p.sub c (x.elim .inl fun y => y.elim), p.pn⟩
    exact ⟨b, rfl, g1, s, F1, p.rs, RunAt.imp k1.ret (fun s2 b2 k2 g2 H2 F2 v2 Fv2 p2 => k2 g2 H2 F2 v2 Fv2 (p'.trans p2)) fun _ _ _ z => exc_step p' z⟩
  · exact k1.elim
theorem ret_go {i : I} {v : V} {H σ Q} (r : ∀ g H, RepI P g H i v) (h : OkE P W (ret (.im i)) σ H Q) : Q v H := by
  obtain ⟨g, st, F, rs, q⟩ := h
  exact q.ret g H F v emp (.refl rs) (.im (r g H))
theorem ev_one {op} {f : EM} (h : PE X a (OkE P W f)) : PE X (.BoolOp op [a] pos) (OkE P W f) := pe_one h
theorem ev_and {f k : EM} (ha : PE X a (OkE P W f)) (hb : PE X (.BoolOp .And (b :: rest) pos) (OkE P W k)) : PE X (.BoolOp .And (a :: b :: rest) pos) (OkE P W (eAnd f k)) := PE.imp (pe_and ha hb) fun σ H Q h => by
  have q := asB_goE h
  obtain ⟨g, st, F, rs, q⟩ := q
  refine ⟨g, st, F, rs, q.imp (fun s o k1 g1 H1 F1 v Fv p ro => ?_) fun _ _ _ z => z⟩
  obtain ⟨c, e, q⟩ := k1 g1 H1 F1 v Fv p ro
  refine ⟨c, e, ?_⟩
  cases c with
  | true => exact q
  | false => exact ret_go (fun _ _ => .bl false) q
theorem ev_or {f k : EM} (ha : PE X a (OkE P W f)) (hb : PE X (.BoolOp .Or (b :: rest) pos) (OkE P W k)) : PE X (.BoolOp .Or (a :: b :: rest) pos) (OkE P W (eOr f k)) := PE.imp (pe_or ha hb) fun σ H Q h => by
  have q := asB_goE h
  obtain ⟨g, st, F, rs, q⟩ := q
  refine ⟨g, st, F, rs, q.imp (fun s o k1 g1 H1 F1 v Fv p ro => ?_) fun _ _ _ z => z⟩
  obtain ⟨c, e, q⟩ := k1 g1 H1 F1 v Fv p ro
  refine ⟨c, e, ?_⟩
  cases c with
  | false => exact q
  | true => exact ret_go (fun _ _ => .bl true) q
theorem ev_not {f : EM} (ha : PE X a (OkE P W f)) : PE X (.UnaryOp .Not a pos) (OkE P W (eNot f)) := PE.imp (pe_not ha) fun σ H Q h => by
  have q := asB_goE h
  obtain ⟨g, st, F, rs, q⟩ := q
  refine ⟨g, st, F, rs, q.imp (fun s o k1 g1 H1 F1 v Fv p ro => ?_) fun _ _ _ z => z⟩
  obtain ⟨c, e, q⟩ := k1 g1 H1 F1 v Fv p ro
  exact ⟨c, e, ret_go (fun _ _ => .bl (!c)) q⟩
theorem ev_if {t : BM} {f k : EM} (hc : PT X c (OkB P W t)) (ha : PE X a (OkE P W f)) (hb : PE X b (OkE P W k)) : PE X (.IfExp c a b pos) (OkE P W (eIf t f k)) := PE.imp (pe_ifExp hc ha hb) fun σ H Q ⟨g, st, F, rs, q⟩ => by
  refine ⟨g, st, F, rs, q.bnd.imp (fun s b k1 g1 H1 F1 p => ?_) fun _ _ _ z => z⟩
  cases b with
  | true => exact ⟨g1, s, F1, p.rs, RunAt.imp k1 (fun s2 b2 k2 g2 H2 F2 v2 Fv2 p2 => k2 g2 H2 F2 v2 Fv2 (p.trans p2)) fun _ _ _ z => exc_step p z⟩
  | false => exact ⟨g1, s, F1, p.rs, RunAt.imp k1 (fun s2 b2 k2 g2 H2 F2 v2 Fv2 p2 => k2 g2 H2 F2 v2 Fv2 (p.trans p2)) fun _ _ _ z => exc_step p z⟩
end
end VS

namespace VS
open PySem L2
/-! ### statements -/
def sNext : SM := ret .nx
def sSeq (m k : SM) : SM := bnd m fun f => match f with
  | .nx => k
  | f => ret f
def put (k : Nat) (o : O) : M Unit := fun st => if k < st.sl.length then some (.ok (), { st with sl := st.sl.set k o }) else none
def sSet (k : Nat) (m : EM) : SM := bnd m fun o => bnd (put k o) fun _ => ret .nx
def sDrop (m : EM) : SM := bnd m fun _ => ret .nx
def sRet (m : EM) : SM := bnd m fun o => ret (.rt o)
def sRetN : SM := ret (.rt (.im .non))
def sBrk : SM := ret .bk
def sCont : SM := ret .ct
def sIf (t : BM) (m k : SM) : SM := bnd t fun b => if b then m else k
/-- names of a tuple -/
def putL : List Nat → List I → M Unit
  | [], [] => ret ()
  | k :: ks, i :: is => bnd (put k (.im i)) fun _ => putL ks is
  | _, _ => fun _ => none
def tupOf : O → Option (List I)
  | .im (.tup l) => some l
  | .tup l => allIm l
  | _ => none
def unp (ks : List Nat) (o : O) : M Unit := fun st => match tupOf o with
  | some l => putL ks l st
  | none => none
def sUnp (ks : List Nat) (m : EM) : SM := bnd m fun o => bnd (unp ks o) fun _ => ret .nx
def OkS (P : Pg) (W : WX) (io : List Nat) (f : SM) : TS := fun D σ H => ∃ g st F, RepS P g H st σ F ∧ g.pn.map Prod.fst = io ∧
  RunAt f st (fun st' fl => match fl with
    | .nx => ∀ g' H' F' σ', PostS P g H F g' H' F' st' σ' emp → D.nx σ' H'
    | .rt o => ∀ g' H' F' σ' v Fv, PostS P g H F g' H' F' st' σ' Fv → RepO P g' H' o v Fv → D.rt v H'
    | .bk => ∀ g' H' F' σ', PostS P g H F g' H' F' st' σ' emp → D.bk σ' H'
    | .ct => ∀ g' H' F' σ', PostS P g H F g' H' F' st' σ' emp → D.ct σ' H') (exc P W g H F)
section
variable {n : Pn} {W : WX} {X : Cx} {P : Pg} {e a b c : Expr} {es : List Expr} {g g' : Gh} {H H' : Hp} {st st' : St} {σ : L2.St} {F F' : Lo → Fp} {FX Fv : Fp} {pos : Pos} {io : List Nat} {s : Stmt} {ss : List Stmt} {D : Ends}
/-- what is wanted of a statement's ends, from a state -/
def okS (P : Pg) (D : Ends) (g : Gh) (H : Hp) (F : Lo → Fp) (st' : St) (fl : Fl) : Prop := match fl with
  | .nx => ∀ g' H' F' σ', PostS P g H F g' H' F' st' σ' emp → D.nx σ' H'
  | .rt o => ∀ g' H' F' σ' v Fv, PostS P g H F g' H' F' st' σ' Fv → RepO P g' H' o v Fv → D.rt v H'
  | .bk => ∀ g' H' F' σ', PostS P g H F g' H' F' st' σ' emp → D.bk σ' H'
  | .ct => ∀ g' H' F' σ', PostS P g H F g' H' F' st' σ' emp → D.ct σ' H'
theorem okS_step {g1 H1 F1 st1 σ1 Fv st2 fl} (p : PostS P g H F g1 H1 F1 st1 σ1 Fv) (h : okS P D g H F st2 fl) : okS P D g1 H1 F1 st2 fl := by
  cases fl with
  | nx => exact fun g2 H2 F2 σ2 q => h g2 H2 F2 σ2 (p.trans q)
  | rt o => exact fun g2 H2 F2 σ2 v Fw q r => h g2 H2 F2 σ2 v Fw (p.trans q) r
  | bk => exact fun g2 H2 F2 σ2 q => h g2 H2 F2 σ2 (p.trans q)
  | ct => exact fun g2 H2 F2 σ2 q => h g2 H2 F2 σ2 (p.trans q)
theorem excS_step {g1 H1 F1 st1 σ1 Fv st2 c i} (p : PostS P g H F g1 H1 F1 st1 σ1 Fv) (h : exc P W g H F st2 c i) : exc P W g1 H1 F1 st2 c i := fun g2 H2 F2 τ cls d q e => h g2 H2 F2 τ cls d (p.trans q) e
theorem PostS.pio {g1 H1 F1 st1 σ1} (p : PostS P g H F g1 H1 F1 st1 σ1 Fv) (h : g.pn.map Prod.fst = io) : g1.pn.map Prod.fst = io := by rw [p.pn]; exact h
theorem sv_next : PSs X [] (OkS P W io sNext) := PSs.imp pss_nil fun D σ H ⟨g, st, F, rs, _, q⟩ => q.ret g H F σ (.refl rs)
theorem seq_go {f k : SM} (h : OkS P W io (sSeq f k) D σ H) : OkS P W io f { D with nx := OkS P W io k D } σ H := by
  obtain ⟨g, st, F, rs, hio, q⟩ := h
  refine ⟨g, st, F, rs, hio, q.bnd.imp (fun s fl k1 => ?_) fun _ _ _ z => z⟩
  cases fl with
  | nx => exact fun g1 H1 F1 σ1 p => ⟨g1, s, F1, p.rs, p.pio hio, RunAt.imp k1 (fun s2 fl k2 => okS_step p k2) fun _ _ _ z => excS_step p z⟩
  | rt o => exact k1.ret
  | bk => exact k1.ret
  | ct => exact k1.ret
theorem sv_cons {f k : SM} (h1 : PS X s (OkS P W io f)) (h2 : PSs X ss (OkS P W io k)) : PSs X (s :: ss) (OkS P W io (sSeq f k)) := PSs.imp (pss_cons h1 h2) fun _ _ _ h => seq_go h
theorem sv_one {f : SM} (h1 : PS X s (OkS P W io f)) : PSs X [s] (OkS P W io f) := pss_one h1
theorem sv_pass : PS X (.Pass pos) (OkS P W io sNext) := PS.imp ps_pass fun D σ H ⟨g, st, F, rs, _, q⟩ => q.ret g H F σ (.refl rs)
theorem sv_cont : PS X (.Continue pos) (OkS P W io sCont) := PS.imp ps_continue fun D σ H ⟨g, st, F, rs, _, q⟩ => q.ret g H F σ (.refl rs)
theorem sv_brk : PS X (.Break pos) (OkS P W io sBrk) := PS.imp ps_break fun D σ H ⟨g, st, F, rs, _, q⟩ => q.ret g H F σ (.refl rs)
theorem PostS.drop {g H F g1 H1 F1 st1 σ1 Fv} (p : PostS P g H F g1 H1 F1 st1 σ1 Fv) : PostS P g H F g1 H1 F1 st1 σ1 emp :=
  ⟨p.rs, fun _ h => h.elim, p.ch, fun c x => p.sub c (x.elim .inl fun y => y.elim), p.pn⟩
theorem sv_drop {f : EM} (h : PE X e (OkE P W f)) (hs : swapsWith e none pos.line X.env = pure false := by rfl) : PS X (.Expr e pos) (OkS P W io (sDrop f)) := PS.imp (ps_expr h hs) fun D σ H ⟨g, st, F, rs, _, q⟩ =>
  ⟨g, st, F, rs, q.bnd.imp (fun s o k g1 H1 F1 v Fv p _ => k.ret g1 H1 F1 σ p.drop) fun _ _ _ z => z⟩
theorem sv_doc {x j pos'} : PS X (.Expr (.Constant (.str x) j pos) pos') (OkS P W io sNext) := PS.imp ps_doc fun D σ H ⟨g, st, F, rs, _, q⟩ => q.ret g H F σ (.refl rs)
theorem sv_ret {f : EM} (h : PE X e (OkE P W f)) : PS X (.Return (some e) pos) (OkS P W io (sRet f)) := PS.imp (ps_ret h) fun D σ H ⟨g, st, F, rs, _, q⟩ =>
  ⟨g, st, F, rs, q.bnd.imp (fun s o k g1 H1 F1 v Fv p r => k.ret g1 H1 F1 σ v Fv p r) fun _ _ _ z => z⟩
theorem sv_retN : PS X (.Return none pos) (OkS P W io sRetN) := PS.imp ps_retN fun D σ H ⟨g, st, F, rs, _, q⟩ => q.ret g H F σ .non emp (.refl rs) (.im .non)
theorem if_go {t : BM} {f k : SM} (h : OkS P W io (sIf t f k) D σ H) : OkB P W t σ H fun b H1 => if b = true then OkS P W io f D σ H1 else OkS P W io k D σ H1 := by
  obtain ⟨g, st, F, rs, hio, q⟩ := h
  refine ⟨g, st, F, rs, q.bnd.imp (fun s b k1 g1 H1 F1 p => ?_) fun _ _ _ z => z⟩
  cases b with
  | true => exact ⟨g1, s, F1, p.rs, p.pio hio, RunAt.imp k1 (fun s2 fl k2 => okS_step p k2) fun _ _ _ z => excS_step p z⟩
  | false => exact ⟨g1, s, F1, p.rs, p.pio hio, RunAt.imp k1 (fun s2 fl k2 => okS_step p k2) fun _ _ _ z => excS_step p z⟩
theorem sv_if {t : BM} {f k : SM} {ts us : List Stmt} (hc : PT X c (OkB P W t)) (ha : PSs X ts (OkS P W io f)) (hb : PSs X us (OkS P W io k)) : PS X (.If c ts us pos) (OkS P W io (sIf t f k)) := PS.imp (ps_if hc ha hb) fun _ _ _ h => if_go h
/-! names -/
theorem not_hole {o v} (r : RepO P g H o v Fv) : o ≠ .hole := by intro e; subst e; cases r
theorem RunAt.put {k : Nat} {o : O} {ok ex} (h : RunAt (put k o) st ok ex) : k < st.sl.length ∧ ok { st with sl := st.sl.set k o } () := by
  unfold RunAt VS.put at h
  split at h
  · exact h.elim
  · rename_i e
    split at e
    · cases e; exact ⟨by assumption, h⟩
    · cases e
  · rename_i e
    split at e <;> cases e
/-- a value goes into a slot -/
theorem PostS.put {g0 H0 F0 k o v Fw} (p : PostS P g0 H0 F0 g H F st σ Fv) (r : RepO P g H o v Fw) (hw : ∀ b, Fw b → Fv b) (hk : k < st.sl.length) (hn : ∀ q ∈ g.pn, q.1 ≠ k) :
    PostS P g0 H0 F0 g H (upF F (.inl k) Fw) { st with sl := st.sl.set k o } (σ.set k (some v)) emp := by
  have hσ : k < σ.length := by rw [← p.rs.len]; exact hk
  have c0 : Ch emp g H g H := .refl0
  refine ⟨p.rs.upd (o := o) (Fn := Fw) c0 (fun _ _ _ _ h => h.elim) rfl rfl hk (by simp) (fun j hj => List.getElem?_set_ne (Ne.symm hj)) (fun q hq => List.getElem?_set_ne (Ne.symm (hn q hq)))
    (.inr ⟨v, List.getElem?_set_self hσ, r⟩) (fun l _ b x y => p.dj b (hw b y) ⟨_, x⟩) p.rs.zd, fun _ h => h.elim, p.ch, fun b x => ?_, p.pn⟩
  rcases x with x | x
  · rcases tot_up x with ⟨m, _, x⟩ | x
    · exact p.sub b (.inl ⟨m, x⟩)
    · exact p.sub b (.inr (hw b x))
  · exact x.elim
theorem pn_ne {k : Nat} (h : g.pn.map Prod.fst = io) (hk : k ∉ io) : ∀ q ∈ g.pn, q.1 ≠ k := fun q hq e => hk (by rw [← h, ← e]; exact List.mem_map_of_mem hq)
theorem set_go {k : Nat} {f : EM} (hk : k ∉ io) (h : OkS P W io (sSet k f) D σ H) : OkE P W f σ H fun v H1 => D.nx (σ.set k (some v)) H1 := by
  obtain ⟨g, st, F, rs, hio, q⟩ := h
  refine ⟨g, st, F, rs, q.bnd.imp (fun s o k1 g1 H1 F1 v Fv p r => ?_) fun _ _ _ z => z⟩
  obtain ⟨hl, k1⟩ := k1.bnd.put
  exact k1.ret g1 H1 _ _ (p.put r (fun _ x => x) hl (pn_ne (p.pio hio) hk))
theorem sv_set {k : Nat} {x : Str} {f : EM} {pos' : Pos} (hk : k ∉ io) (hN : X.N.Nodup) (hi : X.N[k]? = some x) (hx : Loc X.env.scope x) (he : PE X e (OkE P W f)) (hs : swapsWith e (some (.Name x pos')) pos.line X.env = pure false := by rfl)
    (hf : X.fn x = true ∨ X.env.scope.names.lookup x = some .local := by first | exact .inl rfl | exact .inr rfl | assumption) : PS X (.Assign [.Name x pos'] e pos) (OkS P W io (sSet k f)) := PS.imp (ps_set hN hi hx he hs hf) fun _ _ _ h => set_go hk h
/-! a tuple's parts into names -/
def gNames : List Nat → TGs
  | [] => gNil
  | k :: ks => gCons (gName k) (gNames ks)
theorem putL_go {g0 H0 F0} : ∀ {ks : List Nat} {is : List I} {vs : List V} {st : St} {σ : L2.St} {F : Lo → Fp} (_ : PostS P g0 H0 F0 g H F st σ emp) (_ : RepIL P g H is vs) (_ : ∀ k ∈ ks, ∀ q ∈ g.pn, q.1 ≠ k) {ok : St → Unit → Prop} {ex Q},
    RunAt (putL ks is) st ok ex → (∀ st' σ' F', PostS P g0 H0 F0 g H F' st' σ' emp → ok st' () → Q σ' H) → gNames ks vs σ H Q
  | [], is, vs, st, σ, F, p, r, _, ok, ex, Q, h, k => by
    cases r with
    | nil => exact ⟨rfl, k st σ F p h⟩
    | cons _ _ => exact h.elim
  | k :: ks, [], vs, st, σ, F, p, r, _, ok, ex, Q, h, _ => h.elim
  | k :: ks, i :: is, _, st, σ, F, p, r, hn, ok, ex, Q, h, kk => by
    cases r with
    | cons ri rl =>
      obtain ⟨hl, h⟩ := RunAt.put (RunAt.bnd h)
      exact ⟨_, _, rfl, putL_go (p.put (.im ri) (fun _ x => x) hl (hn k List.mem_cons_self)) rl (fun k' hk' => hn k' (List.mem_cons_of_mem _ hk')) h kk⟩
theorem tupOf_rep {o l v} (h : tupOf o = some l) (r : RepO P g H o v Fv) : ∃ p vs, v = .ref p ∧ SqT P.K H p vs ∧ RepIL P g H l vs := by
  cases o with
  | im i =>
    cases i with
    | tup l' =>
      cases h
      cases r.im_inv with
      | tup a b => exact ⟨_, _, rfl, a.sq, b⟩
    | _ => cases h
  | tup l' =>
    cases r with
    | tup a b => exact ⟨_, _, rfl, .inl (.of a), (RepIL.allIm h b).1⟩
  | _ => cases h
theorem RepIL.len {is : List I} {vs} (r : RepIL P g H is vs) : is.length = vs.length := by
  induction is generalizing vs with
  | nil => cases r; rfl
  | cons o os ih => cases r with | cons a b => simp [ih b]
theorem putL_len : ∀ {ks : List Nat} {is : List I} {st ok ex}, RunAt (putL ks is) st ok ex → is.length = ks.length
  | [], [], _, _, _, _ => rfl
  | [], _ :: _, _, _, _, h => h.elim
  | _ :: _, [], _, _, _, h => h.elim
  | k :: ks, i :: is, _, _, _, h => by
    have q := putL_len (RunAt.put (RunAt.bnd h)).2
    simp [q]
theorem unp_go {ks : List Nat} {f : EM} (hk : ∀ k ∈ ks, k ∉ io) (h : OkS P W io (sUnp ks f) D σ H) : OkE P W f σ H fun v H1 => gTup P.K ks.length (gNames ks) v σ H1 D.nx := by
  obtain ⟨g, st, F, rs, hio, q⟩ := h
  refine ⟨g, st, F, rs, q.bnd.imp (fun s o k1 g1 H1 F1 v Fv p r => ?_) fun _ _ _ z => z⟩
  have k1 := k1.bnd
  unfold unp RunAt at k1
  cases ht : tupOf o with
  | none => simp [ht] at k1
  | some l =>
    simp only [ht] at k1
    obtain ⟨t, vs, rfl, ht2, rl⟩ := tupOf_rep ht r
    have hl := putL_len (ok := fun _ _ => True) (ex := fun _ _ _ => True) (st := s) (ks := ks) (is := l) (RunAt.imp k1 (fun _ _ _ => trivial) fun _ _ _ _ => trivial)
    exact ⟨t, vs, rfl, ht2, by rw [← rl.len, hl], putL_go p.drop rl (fun k hk' => pn_ne (p.pio hio) (hk k hk')) k1 fun st' σ' F' p' ok => (show okS P D g H F st' .nx from ok) g1 H1 F' σ' p'⟩
theorem sv_unp {ks : List Nat} {tg : Expr} {f : EM} (hk : ∀ k ∈ ks, k ∉ io) (he : PE X e (OkE ⟨X.K, n⟩ W f)) (hg : PG X tg (gTup X.K ks.length (gNames ks))) (hs : swapsWithSole [tg] e pos.line X.env = pure false := by rfl) (hw : swappedStores [tg] e X.env = pure none := by rfl)
    (h1 : (assignEach [tg] X.env).map (·.2) = [assign tg X.env] := by rfl) : PS X (.Assign [tg] e pos) (OkS ⟨X.K, n⟩ W io (sUnp ks f)) := PS.imp (ps_asg he hg hs hw h1) fun _ _ _ h => unp_go hk h
end
end VS

namespace VS
open PySem PySem.Spec PyProof.Rows L2
/-! ### defs -/
/-- what a def does: arguments, shared objects; what is told, what its parameters hold behind it, the shared objects -/
abbrev Fn := List O → List O → Option (Rs O × List O × List O)
def fin (io : List Nat) (np : Nat) (st : St) : List O := (List.range np).map fun i => if i ∈ io then st.sl.getD i .hole else .hole
/-- a def by its body: N slots, np parameters, io: parameters that stay what they are -/
def mkFn (N np : Nat) (io : List Nat) (b : SM) : Fn := fun os sto => match b ⟨os ++ List.replicate (N - os.length) .hole, sto⟩ with
  | none => none
  | some (.ok (.rt o), st) => some (.ok o, fin io np st, st.sto)
  | some (.ok .nx, st) => some (.ok (.im .non), fin io np st, st.sto)
  | some (.ok _, _) => none
  | some (.ex c i, st) => some (.ex c i, fin io np st, st.sto)
/-- the slots' ends are the told ones -/
def Ends' (io : List Nat) (f : List O) (sto : List O) (st : St) : Prop := st.sto = sto ∧ ∀ i ∈ io, ∀ o, f[i]? = some o → st.sl[i]? = some o ∨ (o = .hole)
/-- a def's promise -/
def spOf (P : Pg) (N np : Nat) (io : List Nat) (f : Fn) : Sp := fun vs H Q E => ∃ g os sto F, vs.length = np ∧ os.length = np ∧ g.pn = io.map (fun i => (i, vs.getD i .non)) ∧
  RepS P g H ⟨os ++ List.replicate (N - np) .hole, sto⟩ (vs.map some ++ List.replicate (N - np) none) F ∧ match f os sto with
    | none => False
    | some (.ok o, fi, sto') => ∀ g' H' F' σ' st' v Fv, Ends' io fi sto' st' → PostS P g H F g' H' F' st' σ' Fv → RepO P g' H' o v Fv → Q v H'
    | some (.ex c i, fi, sto') => ∀ g' H' F' σ' st' cls d, Ends' io fi sto' st' → PostS P g H F g' H' F' st' σ' emp → ExAt P g' H' c i cls d → E cls d H'
structure FnG (Pr : Program) (w : World) (K : PySem.W.Frag) (mg : Str → Option Value) (base : Heap) (k : Nat) (f : Addr) (fd : FuncData) (ps : List Str) (sp : Sp) : Prop where
  ln : ∀ vs H Q E, sp vs H Q E → vs.length = ps.length
  go : ∀ (A : Around) (outer : List Env) (s : Shared) (H : Hp) (args : Args) (us : List Value) (vs : List V) (Q : VK) (E : XK), Room k A → A.guards = some [] →
    Env0 Pr w K mg base A outer s H → BindsTo s fd args (ps.zip us) → Vals vs us → sp vs H Q E → codeAny (model Pr w) A (.call (.ref f) args) (CR (L2.CX Pr w) outer Pr w H s Q E) s
theorem FnG.up {Pr w K mg base f fd ps sp} {j k : Nat} (F : FnG Pr w K mg base j f fd ps sp) (h : j ≤ k) : FnG Pr w K mg base k f fd ps sp :=
  ⟨F.ln, fun A outer s H args us vs Q E hr => F.go A outer s H args us vs Q E (hr.mono h)⟩
/-- what is known where a body runs -/
structure At (X : Cx) (k : Nat) : Prop where
  room : Room k X.A
  grd : X.A.guards = some []
section
variable {Pr : Program} {w : World} {K : PySem.W.Frag} {mg : Str → Option Value} {base : Heap}
theorem deeper_grd (A : Around) (env : Env) : (A.deeper env).guards = A.guards := by
  first | rfl | simp [Around.deeper]
theorem fin_ends (io : List Nat) (np : Nat) (st : St) (h : ∀ i ∈ io, i < np) (hl : ∀ i ∈ io, i < st.sl.length) : Ends' io (fin io np st) st.sto st := by
  refine ⟨rfl, fun i hi o e => .inl ?_⟩
  unfold fin at e
  rw [List.getElem?_map, List.getElem?_range (h i hi)] at e
  simp only [Option.map_some, if_pos hi, Option.some.injEq] at e
  rw [← e]
  have := hl i hi
  simp [List.getD, this]
/-- THE RULE for a def: its body as a state function -/
theorem fnG {x qual : Str} {params : Arguments} {body : List Stmt} {scope : Scope} {dvs : List V} {kws : List (Str × V)} {f : Addr} {fd : FuncData} {N ps : List Str} {k : Nat} {n : Pn} {io : List Nat} {b : SM}
    (F : FunD K x qual params body scope dvs kws f fd) (S : FnScope N ps scope) (hio : ∀ i ∈ io, i < ps.length)
    (hb : ∀ (cdv : Value) (A : Around) (outer : List Env) (s : Shared) (H : Hp) (E : XK), At (cxOf (L2.CX Pr w) Pr w K mg base N qual scope f cdv A outer s H E) k →
      PSs (cxOf (L2.CX Pr w) Pr w K mg base N qual scope f cdv A outer s H E) body (OkS ⟨K, n⟩ (fun cls d _ H => E cls d H) io b)) :
    FnG Pr w K mg base (k + 1) f fd ps (spOf ⟨K, n⟩ N.length ps.length io (mkFn N.length ps.length io b)) := by
  obtain ⟨oc, od, dV, kV, doc, pm, an, cdv, ct, osl, rfl, lk, hcd, _, _⟩ := F.ex
  have hpl : ps.length ≤ N.length := by
    have := congrArg List.length S.pre
    rw [List.length_take] at this
    omega
  refine ⟨fun vs H Q E ⟨_, _, _, _, h, _⟩ => h, fun A outer s H args us vs Q E hr hg e0 hbd rv hsp => ?_⟩
  have hl : vs.length = ps.length := by
    obtain ⟨_, _, _, _, h, _⟩ := hsp
    exact h
  have KX : K.In s.heap := e0.mod.kin.keeps fun c o e => (e0.bs c o e).1
  have nlim : s.heap.NoLimit := e0.mod.nolimit.keeps fun c o e => (e0.bs c o e).1
  have hkind : ∀ y ∈ ps.zip us, scope.names.lookup y.1 = some .local ∨ (scope.names.lookup y.1 = some .cell ∧ ((cellsFrom (s.heap.objs.size + 1) scope.names []).lookup y.1).isSome = true) := fun ⟨m, u⟩ hy =>
    (S.par m (List.of_mem_zip hy).1).elim .inl fun q => .inr ⟨q, PySem.W.cellsFrom_some _ _ _ (.inl q)⟩
  refine codeAny_call_function hr.depth (KX _ _ lk) rfl S.co S.gen rfl (PySem.W.codeRec_of KX hcd) (hbd _ _ _ _ ?_)
  refine wpAny_newFunctionEnv_cells S.kind hkind fun env he s1 x => ?_
  subst he
  refine ⟨nlim.keeps x.toInCall.keep, codeAny_func ?_⟩
  obtain ⟨g, os, sto, F0, _, hos, hpn, rs, hres⟩ := hsp
  have Iv : Inv (cxOf (L2.CX Pr w) Pr w K mg base N qual scope f cdv A outer s H E) [] (L2.start N vs) H s1 := inv_start S hr.hd e0 hl rv x
  have body := hb cdv A outer s H E ⟨hr.deeper _, (deeper_grd _ _).trans hg⟩
  have hst : L2.start N vs = vs.map some ++ List.replicate (N.length - ps.length) none := by
    unfold L2.start
    rw [hl]
  have hpn1 : g.pn.map Prod.fst = io := by rw [hpn, List.map_map]; simp [Function.comp_def]
  have run : OkS ⟨K, n⟩ (fun cls d _ H => E cls d H) io b { nx := fun _ H' => Q .non H', rt := Q } (L2.start N vs) H := by
    refine ⟨g, _, F0, by rw [hst]; exact rs, hpn1, ?_⟩
    have e1 : N.length - os.length = N.length - ps.length := by rw [hos]
    unfold mkFn at hres
    rw [e1] at hres
    have lens : ∀ {g' H' F' st' σ' Fv}, PostS ⟨K, n⟩ g H F0 g' H' F' st' σ' Fv → ∀ i ∈ io, i < st'.sl.length := fun {g' H' F' st' σ' Fv} p i hi => by
      have q : (i, vs.getD i .non) ∈ g'.pn := by
        rw [p.pn, hpn]
        exact List.mem_map_of_mem hi
      have := p.rs.pin _ q
      rw [p.rs.len]
      exact (List.getElem?_eq_some_iff.mp this).1
    unfold RunAt
    cases hb2 : b ⟨os ++ List.replicate (N.length - ps.length) .hole, sto⟩ with
    | none => rw [hb2] at hres; exact hres.elim
    | some z =>
      obtain ⟨r, st'⟩ := z
      rw [hb2] at hres
      cases r with
      | ex c i => exact fun g' H' F' σ' cls d p ea => hres g' H' F' σ' st' cls d (fin_ends io ps.length st' hio (lens p)) p ea
      | ok fl =>
        cases fl with
        | rt o => exact fun g' H' F' σ' v Fv p ro => hres g' H' F' σ' st' v Fv (fin_ends io ps.length st' hio (lens p)) p ro
        | nx => exact fun g' H' F' σ' p => hres g' H' F' σ' st' .non emp (fin_ends io ps.length st' hio (lens p)) p (.im .non)
        | bk => exact hres.elim
        | ct => exact hres.elim
  have done : ∀ {σ' : L2.St} {H' : Hp} {v : V} {u : Value} {s' : Shared}, Inv (cxOf (L2.CX Pr w) Pr w K mg base N qual scope f cdv A outer s H E) [] σ' H' s' → RelV v u → Q v H' → CE outer Pr w H s Q u s' :=
    fun {σ' H' v u s'} J r q => ⟨v, H', J.os, J.bare, J.base, J.hok, r, q⟩
  refine wpAny_mono (body.run [] s1 (L2.start N vs) H _ Iv run) (fun fl s' hs => ?_) fun e s' hs => hs
  cases fl with
  | next =>
    obtain ⟨τ, H', J, q⟩ := hs
    exact done (v := V.non) (u := Value.none) J rfl q
  | ret u =>
    obtain ⟨v, τ, H', J, r, q⟩ := hs
    exact done J r q
  | brk =>
    obtain ⟨_, _, _, q⟩ := hs
    exact q.elim
  | cont =>
    obtain ⟨_, _, _, q⟩ := hs
    exact q.elim
end
end VS

namespace VS
open PySem PySem.Spec PyProof.Rows L2
/-! ### calls of defs -/
def isH : O → Bool
  | .hole => true
  | _ => false
/-- what an operand hands over -/
def res1 (st : St) : Op → Option O
  | .o x => some x
  | .b k => match st.sl[k]? with
    | some o => if isH o then none else some o
    | none => none
def resL (st : St) : List Op → Option (List O)
  | [] => some []
  | x :: r => match res1 st x, resL st r with
    | some o, some os => some (o :: os)
    | _, _ => none
def bks : List Op → List Nat
  | [] => []
  | .o _ :: r => bks r
  | .b k :: r => k :: bks r
/-- what was lent comes back -/
def back (io : List Nat) : Nat → List O → List Op → List O → Option (List O)
  | _, sl, [], _ => some sl
  | i, sl, .o _ :: r, _ :: fi => back io (i + 1) sl r fi
  | i, sl, .b k :: r, f :: fi => if i ∈ io ∧ isH f = false then back io (i + 1) (sl.set k f) r fi else none
  | _, _, _ :: _, [] => none
def callK (io : List Nat) (F : Fn) (ops : List Op) : EM := fun st => match resL st ops with
  | none => none
  | some os => if (bks ops).Nodup then match F os st.sto with
    | none => none
    | some (r, fi, sto') => match back io 0 st.sl ops fi with
      | none => none
      | some sl' => some (r, ⟨sl', sto'⟩)
    else none
def eCall (np : Nat) (io : List Nat) (F : Fn) (ds : List I) (a : OL) : EM := bnd a fun ops => if ops.length + ds.length = np then callK io F (ops ++ ds.map fun i => .o (.im i)) else lift none
section
variable {n : Pn} {W : WX} {X : Cx} {P : Pg} {e : Expr} {es : List Expr} {g g' g0 : Gh} {H H' H0 : Hp} {st st' : St} {σ : L2.St} {F F' F0 : Lo → Fp} {FX Fv : Fp} {pos : Pos} {io : List Nat}
theorem Ch.repn {q} : Ch emp g H { g with pn := q } H := ⟨fun _ _ e _ => e, fun _ o e => ⟨o, e⟩, fun _ h => h.elim, fun _ z => z, fun _ z => .inl z, [], by simp⟩
theorem isH_no {o : O} (h : isH o = false) : o ≠ .hole := by intro q; subst q; cases h
theorem RepOpL.ix : ∀ {ops : List Op} {vs Fv}, RepOpL P g H σ ops vs Fv → ∃ G : Nat → Fp, (∀ (i : Nat) (o : Op) (v : V), ops[i]? = some o → vs[i]? = some v → RepOp P g H σ o v (G i)) ∧ (∀ i j, i ≠ j → Fp.dj (G i) (G j)) ∧ (∀ i b, G i b → Fv b) ∧ ∀ i, ops.length ≤ i → ∀ b, ¬ G i b
  | [], _, _, r => by
    cases r
    exact ⟨fun _ => emp, fun i o v h => by simp at h, fun _ _ _ _ h => h.elim, fun _ _ h => h, fun _ _ _ h => h⟩
  | o :: ops, _, _, r => by
    cases r with
    | @cons _ v _ vs F1 F2 a b d =>
      obtain ⟨G, h1, h2, h3, h4⟩ := RepOpL.ix b
      refine ⟨fun i => match i with | 0 => F1 | i + 1 => G i, fun i o' v' e1 e2 => ?_, fun i j h => ?_, fun i c h => ?_, fun i h c => ?_⟩
      · cases i with
        | zero => simp at e1 e2; subst e1; subst e2; exact a
        | succ i => exact h1 i o' v' (by simpa using e1) (by simpa using e2)
      · cases i with
        | zero =>
          cases j with
          | zero => exact absurd rfl h
          | succ j => exact fun c x y => d c x (h3 j c y)
        | succ i =>
          cases j with
          | zero => exact fun c x y => d c y (h3 i c x)
          | succ j => exact h2 i j fun q => h (by rw [q])
      · cases i with
        | zero => exact .inl h
        | succ i => exact .inr (h3 i c h)
      · cases i with
        | zero => simp at h
        | succ i => exact h4 i (by simpa using h) c
theorem RepOpL.len : ∀ {ops : List Op} {vs Fv}, RepOpL P g H σ ops vs Fv → ops.length = vs.length
  | [], _, _, r => by cases r; rfl
  | _ :: _, _, _, r => by cases r with | cons a b d => simp [RepOpL.len b]
theorem resL_ix : ∀ {ops : List Op} {os}, resL st ops = some os → os.length = ops.length ∧ ∀ (i : Nat) (o : Op), ops[i]? = some o → ∃ x, os[i]? = some x ∧ res1 st o = some x
  | [], os, h => by cases h; exact ⟨rfl, fun i o e => by simp at e⟩
  | op :: ops, os, h => by
    unfold resL at h
    split at h
    · rename_i x xs h1 h2
      cases h
      obtain ⟨l, q⟩ := resL_ix h2
      refine ⟨by simp [l], fun i o e => ?_⟩
      cases i with
      | zero => simp at e; subst e; exact ⟨x, by simp, h1⟩
      | succ i =>
        obtain ⟨y, e1, e2⟩ := q i o (by simpa using e)
        exact ⟨y, by simpa using e1, e2⟩
    · cases h
theorem mem_bks : ∀ {ops : List Op} {k : Nat}, k ∈ bks ops ↔ ∃ i : Nat, ops[i]? = some (Op.b k)
  | [], k => by simp [bks]
  | .o x :: r, k => by
    rw [bks, mem_bks]
    constructor
    · rintro ⟨i, h⟩; exact ⟨i + 1, by simpa using h⟩
    · rintro ⟨i, h⟩
      cases i with
      | zero => simp at h
      | succ i => exact ⟨i, by simpa using h⟩
  | .b j :: r, k => by
    rw [bks, List.mem_cons, mem_bks]
    constructor
    · rintro (h | ⟨i, h⟩)
      · subst h; exact ⟨0, by simp⟩
      · exact ⟨i + 1, by simpa using h⟩
    · rintro ⟨i, h⟩
      cases i with
      | zero => simp at h; exact .inl h.symm
      | succ i => exact .inr ⟨i, by simpa using h⟩
theorem bks_inj : ∀ {ops : List Op}, (bks ops).Nodup → ∀ {i j k : Nat}, ops[i]? = some (Op.b k) → ops[j]? = some (Op.b k) → i = j
  | [], _, i, j, k, h, _ => by simp at h
  | .o x :: r, nd, i, j, k, h1, h2 => by
    cases i with
    | zero => simp at h1
    | succ i =>
      cases j with
      | zero => simp at h2
      | succ j => exact congrArg (· + 1) (bks_inj (ops := r) nd (by simpa using h1) (by simpa using h2))
  | .b m :: r, nd, i, j, k, h1, h2 => by
    have nd' := List.nodup_cons.mp nd
    cases i with
    | zero =>
      cases j with
      | zero => rfl
      | succ j =>
        simp at h1; subst h1
        exact absurd (mem_bks.mpr ⟨j, by simpa using h2⟩) nd'.1
    | succ i =>
      cases j with
      | zero =>
        simp at h2; subst h2
        exact absurd (mem_bks.mpr ⟨i, by simpa using h1⟩) nd'.1
      | succ j => exact congrArg (· + 1) (bks_inj (ops := r) nd'.2 (by simpa using h1) (by simpa using h2))
theorem back_ix : ∀ {ops : List Op} {fi : List O} {i sl sl'}, back io i sl ops fi = some sl' → (bks ops).Nodup → (∀ k ∈ bks ops, k < sl.length) → sl'.length = sl.length ∧ (∀ k, k ∉ bks ops → sl'[k]? = sl[k]?) ∧
    ∀ (j k : Nat), ops[j]? = some (Op.b k) → i + j ∈ io ∧ ∃ f, fi[j]? = some f ∧ isH f = false ∧ sl'[k]? = some f
  | [], _, i, sl, sl', h, _, _ => by
    simp only [back, Option.some.injEq] at h
    subst h
    exact ⟨rfl, fun _ _ => rfl, fun j k h => by simp at h⟩
  | .o x :: r, f :: fi, i, sl, sl', h, nd, lt => by
    obtain ⟨l, a, b⟩ := back_ix (ops := r) (by simpa [back] using h) nd lt
    refine ⟨l, a, fun j k e => ?_⟩
    cases j with
    | zero => simp at e
    | succ j =>
      obtain ⟨q1, f', q2, q3⟩ := b j k (by simpa using e)
      exact ⟨by have : i + (j + 1) = i + 1 + j := by omega
                rw [this]; exact q1, f', by simpa using q2, q3⟩
  | .b m :: r, f :: fi, i, sl, sl', h, nd, lt => by
    unfold back at h
    split at h
    · rename_i hc
      have nd' := List.nodup_cons.mp nd
      have hm : m < sl.length := lt m (by simp [bks])
      obtain ⟨l, a, b⟩ := back_ix (ops := r) h nd'.2 fun k hk => by rw [List.length_set]; exact lt k (by simp [bks, hk])
      refine ⟨by rw [l, List.length_set], fun k hk => ?_, fun j k e => ?_⟩
      · have hk' : k ≠ m ∧ k ∉ bks r := by simpa [bks] using hk
        rw [a k hk'.2, List.getElem?_set_ne (Ne.symm hk'.1)]
      · cases j with
        | zero =>
          simp at e; subst e
          exact ⟨by simpa using hc.1, f, by simp, hc.2, by rw [a m nd'.1, List.getElem?_set_self hm]⟩
        | succ j =>
          obtain ⟨q1, f', q2, q3⟩ := b j k (by simpa using e)
          exact ⟨by have : i + (j + 1) = i + 1 + j := by omega
                    rw [this]; exact q1, f', by simpa using q2, q3⟩
    · cases h
  | .o _ :: _, [], _, _, _, h, _, _ => by cases h
  | .b _ :: _, [], _, _, _, h, _, _ => by cases h
/-- the callee's footprints -/
def cFo (G : Nat → Fp) (F : Lo → Fp) (i : Nat) : Option Op → Fp
  | some (.o _) => G i
  | some (.b k) => F (.inl k)
  | none => emp
def cF (ops : List Op) (G : Nat → Fp) (F : Lo → Fp) : Lo → Fp
  | .inl i => cFo G F i ops[i]?
  | .inr r => F (.inr r)
theorem cF_l {ops : List Op} {G : Nat → Fp} {F : Lo → Fp} {i : Nat} {o : Option Op} (e : ops[i]? = o) : cF ops G F (.inl i) = cFo G F i o := by
  rw [← e]; rfl
/-- THE CALL: a promise from a state -/
theorem call_sp {N np : Nat} {f : Fn} {ops : List Op} {vs : List V} {Q : VK} {E : XK} {ok : St → O → Prop} {ex : St → Nat → List I → Prop} (p : PostS P g0 H0 F0 g H F st σ Fv) (r : RepOpL P g H σ ops vs Fv) (hl : vs.length = np) (hio : ∀ i ∈ io, i < np)
    (h : RunAt (callK io f ops) st ok ex)
    (h1 : ∀ st' o g' H' F' v Fw, ok st' o → PostS P g0 H0 F0 g' H' F' st' σ Fw → RepO P g' H' o v Fw → Q v H')
    (h2 : ∀ st' c i g' H' F' cls d, ex st' c i → PostS P g0 H0 F0 g' H' F' st' σ emp → ExAt P g' H' c i cls d → E cls d H') : spOf P N np io f vs H Q E := by
  unfold RunAt callK at h
  cases hr : resL st ops with
  | none => simp [hr] at h
  | some os =>
    simp only [hr] at h
    by_cases nd : (bks ops).Nodup
    · rw [if_pos nd] at h
      obtain ⟨G, a1, a2, a3, a4⟩ := r.ix
      obtain ⟨lo, q⟩ := resL_ix hr
      have lv : ops.length = vs.length := r.len
      have lent : ∀ {i k}, ops[i]? = some (Op.b k) → ∃ x v, st.sl[k]? = some x ∧ isH x = false ∧ os[i]? = some x ∧ vs[i]? = some v ∧ σ[k]? = some (some v) ∧ RepO P g H x v (F (.inl k)) := fun {i k} e => by
        obtain ⟨x, e1, e2⟩ := q i _ e
        unfold res1 at e2
        cases hk : st.sl[k]? with
        | none => simp [hk] at e2
        | some y =>
          simp only [hk] at e2
          split at e2
          · cases e2
          · rename_i hy
            cases e2
            have hy : isH x = false := by simpa using hy
            have hi : i < vs.length := by rw [← lv]; exact (List.getElem?_eq_some_iff.mp e).1
            have ro := a1 i _ vs[i] e (by simp [hi])
            rcases p.rs.slot k x hk with ⟨z, _⟩ | ⟨v, hv, rr⟩
            · subst z; cases hy
            · have := ro.1
              rw [hv] at this; cases this
              exact ⟨x, vs[i], rfl, hy, e1, List.getElem?_eq_getElem hi, hv, rr⟩
      have part : ∀ {l b}, cF ops G F l b → Fv b ∨ tot F b := fun {l b} hb => by
        cases l with
        | inl i =>
          cases e : ops[i]? with
          | none => rw [cF_l e] at hb; exact hb.elim
          | some o =>
            rw [cF_l e] at hb
            cases o with
            | o x => exact .inl (a3 i b hb)
            | b k => exact .inr ⟨_, hb⟩
        | inr r => exact .inr ⟨_, hb⟩
      have alone : ∀ {l l' b}, l ≠ l' → cF ops G F l b → cF ops G F l' b → False := fun {l l' b} hne x y => by
        cases l with
        | inl i =>
          cases e : ops[i]? with
          | none => rw [cF_l e] at x; exact x
          | some o =>
            rw [cF_l e] at x
            cases l' with
            | inl j =>
              have hij : i ≠ j := fun z => hne (by rw [z])
              cases e' : ops[j]? with
              | none => rw [cF_l e'] at y; exact y
              | some o' =>
                rw [cF_l e'] at y
                cases o with
                | o _ =>
                  cases o' with
                  | o _ => exact a2 i j hij b x y
                  | b k => exact p.dj b (a3 i b x) ⟨_, y⟩
                | b k =>
                  cases o' with
                  | o _ => exact p.dj b (a3 j b y) ⟨_, x⟩
                  | b k' => exact p.rs.dj (.inl k) (.inl k') (fun z => hij (bks_inj nd e (by rw [e']; cases z; rfl))) b x y
            | inr r' =>
              cases o with
              | o _ => exact p.dj b (a3 i b x) ⟨_, y⟩
              | b k => exact p.rs.dj (.inl k) (.inr r') (fun z => by cases z) b x y
        | inr r =>
          cases l' with
          | inl j =>
            cases e' : ops[j]? with
            | none => rw [cF_l e'] at y; exact y
            | some o' =>
              rw [cF_l e'] at y
              cases o' with
              | o _ => exact p.dj b (a3 j b y) ⟨_, x⟩
              | b k => exact p.rs.dj (.inl k) (.inr r) (fun z => by cases z) b y x
          | inr r' => exact p.rs.dj (.inr r) (.inr r') hne b x y
      have cp : Ch emp g H { g with pn := io.map fun i => (i, vs.getD i .non) } H := .repn
      have rsC : RepS P { g with pn := io.map fun i => (i, vs.getD i .non) } H ⟨os ++ List.replicate (N - np) .hole, st.sto⟩ (vs.map some ++ List.replicate (N - np) none) (cF ops G F) := by
        refine ⟨by simp [lo, lv], fun i o e => ?_, fun i o e => ?_, p.rs.ln, fun l l' hne b x y => alone hne x y, fun i b hi x => ?_, fun i b hi x => p.rs.out2 i b hi x, fun z hz => ?_, p.rs.zd⟩
        · have e' : (os ++ List.replicate (N - np) O.hole)[i]? = some o := e
          by_cases hi : i < os.length
          · rw [List.getElem?_append_left hi] at e'
            have hi' : i < ops.length := by rw [← lo]; exact hi
            have hiv : i < vs.length := by rw [← lv]; exact hi'
            have eo : ops[i]? = some ops[i] := by simp [hi']
            have hσ : (vs.map some ++ List.replicate (N - np) (none : Option V))[i]? = some (some vs[i]) := by
              rw [List.getElem?_append_left (by simpa using hiv)]; simp [hiv]
            generalize hop : ops[i] = oi at eo
            cases oi with
            | o x =>
              obtain ⟨x', e1, e2⟩ := q i _ eo
              rw [e'] at e1; cases e1; cases e2
              have ro := a1 i _ vs[i] eo (by simp [hiv])
              refine .inr ⟨vs[i], hσ, ?_⟩
              rw [cF_l eo]
              exact RepO.ch cp ro fun _ _ h => h.elim
            | b k =>
              obtain ⟨x, v, _, _, e1, e2, _, rr⟩ := lent eo
              rw [e'] at e1; cases e1
              have ev : vs[i] = v := by simpa [hiv] using e2
              refine .inr ⟨vs[i], hσ, ?_⟩
              rw [cF_l eo, ev]
              exact rr.ch cp fun _ _ h => h.elim
          · rw [List.getElem?_append_right (by omega), List.getElem?_replicate] at e'
            split at e'
            · cases e'
              refine .inl ⟨rfl, fun b x => ?_⟩
              have : ops[i]? = none := by simp; omega
              rw [cF_l this] at x
              exact x
            · cases e'
        · obtain ⟨t, e1, rr⟩ := p.rs.sto i o e
          exact ⟨t, e1, rr.ch cp fun _ _ h => h.elim⟩
        · have hi' : os.length ≤ i := by
            have : (os ++ List.replicate (N - np) O.hole).length ≤ i := hi
            rw [List.length_append] at this; omega
          have : ops[i]? = none := by simp; omega
          rw [cF_l this] at x
          exact x
        · obtain ⟨i, hi, rfl⟩ := List.mem_map.mp hz
          have hiv : i < vs.length := by rw [hl]; exact hio i hi
          show (vs.map some ++ _)[i]? = some (some (vs.getD i .non))
          rw [List.getElem?_append_left (by simpa using hiv)]
          simp [hiv, List.getD]
      refine ⟨_, os, st.sto, cF ops G F, hl, by rw [lo, lv, hl], rfl, rsC, ?_⟩
      have bl : ∀ k ∈ bks ops, k < st.sl.length := fun k hk => by
        obtain ⟨i, e⟩ := mem_bks.mp hk
        obtain ⟨x, _, e1, _⟩ := lent e
        exact (List.getElem?_eq_some_iff.mp e1).1
      -- the caller's state behind the call
      have after : ∀ {g' H' F' σ' st' Fw fi sto' sl'}, Ends' io fi sto' st' → back io 0 st.sl ops fi = some sl' → PostS P { g with pn := io.map fun i => (i, vs.getD i .non) } H (cF ops G F) g' H' F' st' σ' Fw →
          ∃ F'', PostS P g0 H0 F0 { g' with pn := g.pn } H' F'' ⟨sl', sto'⟩ σ Fw := fun {g' H' F' σ' st' Fw fi sto' sl'} en bk p' => by
        obtain ⟨b1, b2, b3⟩ := back_ix bk nd bl
        have cq : Ch emp g' H' { g' with pn := g.pn } H' := .repn
        classical
        have pick : ∀ k, k ∈ bks ops → ∃ i : Nat, ops[i]? = some (Op.b k) := fun k hk => mem_bks.mp hk
        let F'' : Lo → Fp := fun l => match l with
          | .inl k => if h : k ∈ bks ops then F' (.inl (Classical.choose (pick k h))) else F (.inl k)
          | .inr r => F' (.inr r)
        have hF1 : ∀ {k i}, ops[i]? = some (Op.b k) → F'' (.inl k) = F' (.inl i) := fun {k i} e => by
          have hk : k ∈ bks ops := mem_bks.mpr ⟨i, e⟩
          show (if h : k ∈ bks ops then F' (.inl (Classical.choose (pick k h))) else F (.inl k)) = _
          rw [dif_pos hk]
          have := Classical.choose_spec (pick k hk)
          rw [bks_inj nd this e]
        have hF2 : ∀ {k}, k ∉ bks ops → F'' (.inl k) = F (.inl k) := fun {k} hk => dif_neg hk
        have off : ∀ {k b}, k ∉ bks ops → F (.inl k) b → ¬ tot (cF ops G F) b := fun {k b} hk x ⟨l, y⟩ => by
          cases l with
          | inl i =>
            cases e' : ops[i]? with
            | none => rw [cF_l e'] at y; exact y
            | some o' =>
              rw [cF_l e'] at y
              cases o' with
              | o _ => exact p.dj b (a3 i b y) ⟨_, x⟩
              | b k' => exact p.rs.dj (.inl k) (.inl k') (fun z => hk (by cases z; exact mem_bks.mpr ⟨i, e'⟩)) b x y
          | inr r => exact p.rs.dj (.inl k) (.inr r) (fun z => by cases z) b x y
        have old : ∀ {k b}, k ∉ bks ops → F (.inl k) b → tot F' b ∨ Fw b → False := fun {k b} hk x y => by
          rcases p'.sub b y with z | z
          · exact off hk x z
          · obtain ⟨⟨_, e, _⟩, _⟩ := p.rs.mt b ⟨_, x⟩
            rw [e] at z; cases z
        have inF' : ∀ {l b}, F'' l b → (∃ m, F' m b ∧ (∀ k, l = .inl k → ∃ i, ops[i]? = some (Op.b k) ∧ m = .inl i) ∧ (∀ r, l = .inr r → m = .inr r)) ∨ ∃ k, l = .inl k ∧ k ∉ bks ops ∧ F (.inl k) b := fun {l b} x => by
          cases l with
          | inl k =>
            by_cases hk : k ∈ bks ops
            · obtain ⟨i, e⟩ := mem_bks.mp hk
              rw [hF1 e] at x
              exact .inl ⟨_, x, fun k' z => by cases z; exact ⟨i, e, rfl⟩, fun r z => by cases z⟩
            · rw [hF2 hk] at x
              exact .inr ⟨k, rfl, hk, x⟩
          | inr r => exact .inl ⟨_, x, fun k z => (by cases z), fun r' z => by cases z; rfl⟩
        refine ⟨F'', ⟨by simpa [b1] using p.rs.len, fun k o e => ?_, fun i o e => ?_, ?_, fun l l' hne b x y => ?_, fun k b hk x => ?_, fun i b hi x => ?_, fun z hz => p.rs.pin z hz, p'.rs.zd⟩, fun b x ⟨l, y⟩ => ?_, ?_, fun b x => ?_, p.pn⟩
        · have e' : sl'[k]? = some o := e
          by_cases hk : k ∈ bks ops
          · obtain ⟨i, eb⟩ := mem_bks.mp hk
            obtain ⟨i1, f', i2, i3, i4⟩ := b3 i k eb
            rw [e'] at i4; cases i4
            simp only [Nat.zero_add] at i1
            obtain ⟨x, v, _, _, _, e2, e3, _⟩ := lent eb
            rcases en.2 i i1 _ i2 with z | z
            · rcases p'.rs.slot i o z with ⟨zz, _⟩ | ⟨u, hu, ru⟩
              · subst zz; cases i3
              · have hp := p'.rs.pin (i, vs.getD i .non) (by rw [p'.pn]; exact List.mem_map_of_mem i1)
                have hp : σ'[i]? = some (some (vs.getD i .non)) := hp
                rw [hu] at hp; cases hp
                have : vs.getD i .non = v := by simp [List.getD, e2]
                rw [this] at ru
                refine .inr ⟨v, e3, ?_⟩
                rw [hF1 eb]
                exact ru.ch cq fun _ _ h => h.elim
            · subst z; cases i3
          · rw [b2 k hk] at e'
            rcases p.rs.slot k o e' with ⟨z, w'⟩ | ⟨v, e3, rr⟩
            · exact .inl ⟨z, fun b x => w' b (by rw [hF2 hk] at x; exact x)⟩
            · refine .inr ⟨v, e3, ?_⟩
              rw [hF2 hk]
              have r1 := rr.ch cp fun _ _ h => h.elim
              have r2 := r1.ch p'.ch fun b x y => off hk x y
              exact r2.ch cq fun _ _ h => h.elim
        · have e' : sto'[i]? = some o := e
          rw [← en.1] at e'
          obtain ⟨t, e1, rr⟩ := p'.rs.sto i o e'
          exact ⟨t, e1, rr.ch cq fun _ _ h => h.elim⟩
        · show g'.rho.length = sto'.length
          rw [← en.1]; exact p'.rs.ln
        · rcases inF' x with ⟨m, xm, c1, c2⟩ | ⟨k, rfl, hk, xk⟩
          · rcases inF' y with ⟨m', ym, d1, d2⟩ | ⟨k', rfl, hk', yk⟩
            · refine p'.rs.dj m m' (fun z => hne ?_) b xm ym
              subst z
              cases l with
              | inl k =>
                obtain ⟨i, e1, rfl⟩ := c1 k rfl
                cases l' with
                | inl k' =>
                  obtain ⟨i', e2, e3⟩ := d1 k' rfl
                  cases e3
                  rw [e1] at e2; cases e2; rfl
                | inr r => cases d2 r rfl
              | inr r =>
                cases l' with
                | inl k' =>
                  obtain ⟨i', e2, e3⟩ := d1 k' rfl
                  rw [c2 r rfl] at e3; cases e3
                | inr r' =>
                  have := (c2 r rfl).symm.trans (d2 r' rfl)
                  cases this; rfl
            · exact old hk' yk (.inl ⟨_, xm⟩)
          · rcases inF' y with ⟨m', ym, d1, d2⟩ | ⟨k', rfl, hk', yk⟩
            · exact old hk xk (.inl ⟨_, ym⟩)
            · exact p.rs.dj _ _ hne b xk yk
        · have hk' : st.sl.length ≤ k := by rw [← b1]; exact hk
          have hn : k ∉ bks ops := fun z => absurd (bl k z) (by omega)
          rw [hF2 hn] at x
          exact p.rs.out1 k b hk' x
        · exact p'.rs.out2 i b (by rw [en.1]; exact hi) x
        · rcases inF' y with ⟨m', ym, _, _⟩ | ⟨k', rfl, hk', yk⟩
          · exact p'.dj b x ⟨_, ym⟩
          · exact old hk' yk (.inr x)
        · have c1 : Ch (tot F0) g0 H0 { g with pn := io.map fun i => (i, vs.getD i .non) } H := p.ch.trans cp fun _ h => h.elim
          have c2 := c1.trans p'.ch fun b ⟨l, x⟩ => (part x).elim (fun z => p.sub b (.inr z)) fun z => p.sub b (.inl z)
          exact c2.trans cq fun _ h => h.elim
        · have fin : tot F' b ∨ Fw b → tot F0 b ∨ H0 b = none := fun z => by
            rcases p'.sub b z with ⟨l, z⟩ | z
            · exact (part z).elim (fun z => p.sub b (.inr z)) fun z => p.sub b (.inl z)
            · exact .inr (p.ch.back z)
          rcases x with ⟨l, x⟩ | x
          · rcases inF' x with ⟨m, xm, _, _⟩ | ⟨k, rfl, hk, xk⟩
            · exact fin (.inl ⟨_, xm⟩)
            · exact p.sub b (.inl ⟨_, xk⟩)
          · exact fin (.inr x)
      cases hf : f os st.sto with
      | none => simp [hf] at h
      | some z =>
        obtain ⟨rr, fi, sto'⟩ := z
        simp only [hf] at h
        cases hb : back io 0 st.sl ops fi with
        | none => simp [hb] at h
        | some sl' =>
          simp only [hb] at h
          cases rr with
          | ok o =>
            intro g' H' F' σ' st' v Fw en p' ro
            obtain ⟨F'', pp⟩ := after en hb p'
            exact h1 _ o _ H' F'' v Fw h pp (ro.ch .repn fun _ _ h => h.elim)
          | ex c i =>
            intro g' H' F' σ' st' cls d en p' ea
            obtain ⟨F'', pp⟩ := after en hb p'
            refine h2 _ c i _ H' F'' cls d h pp ?_
            obtain ⟨C, e1, e2, e3⟩ := ea
            refine ⟨C, e1, e2, ?_⟩
            split at e3
            · trivial
            · obtain ⟨dd, v, e4, e5, e6⟩ := e3
              exact ⟨dd, v, e4, e5, e6.ch .repn⟩
            · exact e3
    · rw [if_neg nd] at h
      exact h.elim
end
end VS

namespace VS
open PySem PySem.Spec PyProof.Rows L2
section
variable {n : Pn} {W : WX} {X : Cx} {P : Pg} {e : Expr} {es : List Expr} {g g' g0 : Gh} {H H' H0 : Hp} {st st' : St} {σ : L2.St} {F F' F0 : Lo → Fp} {FX Fv : Fp} {p pos : Pos} {io : List Nat} {x : Str} {k j N np : Nat} {f : Addr} {fd : FuncData} {ps : List Str} {fn : Fn} {sp : Sp}
theorem no_exc (Y : Cx) : Takes Y fun _ _ _ _ => False := fun _ _ ⟨_, _, _, _, _, _, _, _, _, _, _, _, _, _, _, _, w⟩ => w.elim
theorem At.le (a : At X j) (h : k ≤ j) : At X k := ⟨a.room.mono h, a.grd⟩
/-- the callee runs -/
theorem run_g {pins : List (Addr × Obj)} {s : Shared} {Q : VK} {us ds : List Value} {vs dvs : List V} (G : FnG X.prog X.w X.K X.mg X.base k f fd ps sp) (a : At X k) (hb : Binds X.K fd ps ds) (hd : Vals dvs ds) (tk : Takes X W)
    (I : Inv X pins σ H s) (r : Vals vs us) (h : sp (vs ++ dvs) H Q fun cls d H' => W cls d σ H') : wpAny (model X.prog X.w) X.A (call (.ref f) us) (EP X pins σ Q) X.xe s := by
  have r2 : Vals (vs ++ dvs) (us ++ ds) := r.append hd
  have hl : (us ++ ds).length = ps.length := by
    rw [← r2.length]
    exact G.ln _ _ _ _ h
  refine wpAny_call (codeAny_mono (G.go X.A X.stack s H ⟨us, []⟩ _ _ Q _ a.room a.grd I.env0 (hb s us I.kIn hl) r2 h) fun r s' hq => ?_)
  cases r with
  | error z => exact tk z s' (XE.of_call I (fun _ _ _ h => h) hq)
  | ok fl =>
    cases fl with
    | ret u => exact I.after hq
    | next => exact hq.elim
    | brk => exact hq.elim
    | cont => exact hq.elim
def tCG (W : WX) (sp : Sp) (dvs : List V) (t : TA) : TE := fun σ H Q => t σ H fun vs H1 => sp (vs ++ dvs) H1 Q fun cls d H' => W cls d σ H'
theorem RepOpL.app : ∀ {ops : List Op} {vs Fv}, RepOpL P g H σ ops vs Fv → ∀ {is : List I} {ws}, RepIL P g H is ws → RepOpL P g H σ (ops ++ is.map fun i => .o (.im i)) (vs ++ ws) Fv
  | [], _, _, r, is, ws, q => by
    cases r
    induction is generalizing ws with
    | nil => cases q; exact .nil
    | cons i is ih =>
      cases q with
      | cons a b =>
        have ih := @ih _ b
        have z : RepOpL P g H σ (.o (.im i) :: is.map fun i => .o (.im i)) (_ :: _) (un emp emp) := .cons (show RepOp P g H σ (.o (.im i)) _ emp from RepO.im a) ih fun _ h => h.elim
        have e : un emp emp = emp := by funext b; simp [un, emp]
        rw [e] at z
        exact z
  | o :: ops, _, _, r, is, ws, q => by
    cases r with
    | cons a b d => exact .cons a (RepOpL.app b q) d
theorem call_go {ops : OL} {dI : List I} {dvs : List V} {Q : VK} (hio : ∀ i ∈ io, i < np) (hd : ∀ g H, RepIL P g H dI dvs) (h : OkE P W (eCall np io fn dI ops) σ H Q) : OkOL P W ops σ H fun vs H1 => spOf P N np io fn (vs ++ dvs) H1 Q fun cls d H' => W cls d σ H' := by
  obtain ⟨g, st, F, rs, q⟩ := h
  refine ⟨g, st, F, rs, q.bnd.imp (fun s x k2 g1 H1 F1 vs Fv p r => ?_) fun _ _ _ z => z⟩
  by_cases hx : x.length + dI.length = np
  · rw [if_pos hx] at k2
    have hv : (vs ++ dvs).length = np := by
      have l1 := r.len
      have l2 := (hd g1 H1).len
      rw [List.length_append, ← l1, ← l2, hx]
    exact call_sp p (r.app (hd g1 H1)) hv hio k2 (fun st' o g' H' F' v Fw ok p' ro => ok g' H' F' v Fw p' ro) fun st' c i g' H' F' cls d ex p' ea => ex g' H' F' σ cls d p' ea
  · rw [if_neg hx] at k2
    exact k2.elim
theorem pe_g {ds : List Value} {dvs : List V} {t : TA} (G : FnG X.prog X.w X.K X.mg X.base k f fd ps sp) (a : At X k) (hm : X.mg x = some (.ref f)) (hk : PySem.W.keepIn X.K (.ref f) = true) (hb : Binds X.K fd ps ds) (hd : Vals dvs ds) (tk : Takes X W) (ha : PA X (e :: es) t)
    (hg : Gl X x := by rfl) (hdb : (x == ("__debug__" : Str)) = false := by decide) (he : starEach (e :: es) X.env = (false, eval e X.env) :: starEach es X.env := by rfl) (hpl : (backTo pos (starEach es X.env)).any (·.1) = false := by rfl) : PE X (.Call (.Name x p) (e :: es) [] pos) (tCG W sp dvs t) :=
  ⟨fun pins s σ H Q I h => wpAny_Call_Name_kw (ld_glob I hg hm (PySem.W.callWith_K (h₀ := X.base) I.ok.mod.kin hk (thn (ha.run pos pins s σ H _ I h) fun us s1 ⟨vs, H1, I1, r, q⟩ => ⟨I1.kIn, run_g G a hb hd tk I1 r q⟩) he hpl) hdb)⟩
/-- f(e, ..) -/
theorem ev_call {fa : OL} {dI : List I} {ds : List Value} {dvs : List V} (G : FnG X.prog X.w X.K X.mg X.base k f fd ps (spOf ⟨X.K, n⟩ N np io fn)) (a : At X k) (hm : X.mg x = some (.ref f)) (hk : PySem.W.keepIn X.K (.ref f) = true) (hb : Binds X.K fd ps ds) (hd : Vals dvs ds) (hdi : ∀ g H, RepIL ⟨X.K, n⟩ g H dI dvs) (tk : Takes X W)
    (ha : PA X (e :: es) (OkOL ⟨X.K, n⟩ W fa)) (hio : ∀ i ∈ io, i < np := by decide)
    (hg : Gl X x := by rfl) (hdb : (x == ("__debug__" : Str)) = false := by decide) (he : starEach (e :: es) X.env = (false, eval e X.env) :: starEach es X.env := by rfl) (hpl : (backTo pos (starEach es X.env)).any (·.1) = false := by rfl) : PE X (.Call (.Name x p) (e :: es) [] pos) (OkE ⟨X.K, n⟩ W (eCall np io fn dI fa)) :=
  PE.imp (pe_g G a hm hk hb hd tk ha hg hdb he hpl) fun σ H Q h => call_go hio hdi h
end
end VS

namespace VS
open PySem L2
/-! ### targets -/
inductive Tg where
  | nm (k : Nat) | tp (l : List Tg)
mutual
def gOf (K : PySem.W.Frag) : Tg → TG
  | .nm k => gName k
  | .tp l => gTup K (lenT l) (gOfL K l)
def gOfL (K : PySem.W.Frag) : List Tg → TGs
  | [] => gNil
  | t :: ts => gCons (gOf K t) (gOfL K ts)
def lenT : List Tg → Nat
  | [] => 0
  | _ :: ts => lenT ts + 1
end
mutual
def slT : Tg → List Nat
  | .nm k => [k]
  | .tp l => slTL l
def slTL : List Tg → List Nat
  | [] => []
  | t :: ts => slT t ++ slTL ts
end
mutual
def putT : Tg → I → M Unit
  | .nm k, i => put k (.im i)
  | .tp l, .tup is => putTL l is
  | .tp _, _ => fun _ => none
def putTL : List Tg → List I → M Unit
  | [], [] => ret ()
  | t :: ts, i :: is => bnd (putT t i) fun _ => putTL ts is
  | _, _ => fun _ => none
end
section
variable {n : Pn} {W : WX} {X : Cx} {P : Pg} {e a b c : Expr} {es : List Expr} {g g' : Gh} {H H' : Hp} {st st' : St} {σ : L2.St} {F F' : Lo → Fp} {FX Fv : Fp} {pos : Pos} {io : List Nat} {s : Stmt} {ss : List Stmt} {D : Ends}
theorem pg_nm {i : Nat} {x : Str} (hN : X.N.Nodup) (hi : X.N[i]? = some x) (hx : Loc X.env.scope x) (hf : X.fn x = true ∨ X.env.scope.names.lookup x = some .local := by first | exact .inl rfl | exact .inr rfl | assumption) : PG X (.Name x pos) (gOf X.K (.nm i)) := pg_name hN hi hx hf
theorem pg_tp {es : List Expr} {k : Nat} {l : List Tg} (hc : X.calm = true) (h : PGs X es (gOfL X.K l))
    (hn : (assignEach es X.env).length = lenT l := by rfl) (hst : (assignEach es X.env).findIdx? (·.1) = none := by rfl) : PG X (.Tuple es k pos) (gOf X.K (.tp l)) := pg_tup hc h hn hst
mutual
theorem putT_len : ∀ {T : Tg} {i : I} {st : St} {u st'}, putT T i st = some (.ok u, st') → st'.sl.length = st.sl.length ∧ st'.sto = st.sto
  | .nm k, i, st, u, st', h => by
    unfold putT put at h
    split at h
    · cases h; exact ⟨by simp, rfl⟩
    · cases h
  | .tp l, .tup is, st, u, st', h => by
    unfold putT at h
    exact putTL_len h
  | .tp l, .non, _, _, _, h => by cases h
  | .tp l, .bl _, _, _, _, h => by cases h
  | .tp l, .int _, _, _, _, h => by cases h
  | .tp l, .str _, _, _, _, h => by cases h
  | .tp l, .lst _, _, _, _, h => by cases h
  | .tp l, .dct _ _, _, _, _, h => by cases h
  | .tp l, .ref _, _, _, _, h => by cases h
  | .tp l, .fn _, _, _, _, h => by cases h
theorem putTL_len : ∀ {T : List Tg} {i : List I} {st : St} {u st'}, putTL T i st = some (.ok u, st') → st'.sl.length = st.sl.length ∧ st'.sto = st.sto
  | [], [], st, u, st', h => by cases h; exact ⟨rfl, rfl⟩
  | t :: ts, i :: is, st, u, st', h => by
    unfold putTL bnd at h
    split at h
    · cases h
    · rename_i s1 e
      obtain ⟨a, b⟩ := putT_len e
      obtain ⟨c, d⟩ := putTL_len h
      exact ⟨c.trans a, d.trans b⟩
    · cases h
  | [], _ :: _, _, _, _, h => by cases h
  | _ :: _, [], _, _, _, h => by cases h
end
/-- where two states differ -/
def Off (l : List Nat) (σ σ' : L2.St) : Prop := σ'.length = σ.length ∧ ∀ j, j ∉ l → σ'[j]? = σ[j]?
theorem Off.refl {l} : Off l σ σ := ⟨rfl, fun _ _ => rfl⟩
theorem Off.trans {l m σ1 σ2} (a : Off l σ σ1) (b : Off m σ1 σ2) : Off (l ++ m) σ σ2 :=
  ⟨b.1.trans a.1, fun j h => by
    simp only [List.mem_append, not_or] at h
    rw [b.2 j h.2, a.2 j h.1]⟩
theorem Off.sub {l m σ1} (a : Off l σ σ1) (h : ∀ k ∈ l, k ∈ m) : Off m σ σ1 := ⟨a.1, fun j k => a.2 j fun z => k (h j z)⟩
mutual
theorem putT_go {g0 H0 F0} {ok : St → Unit → Prop} {ex} : ∀ {T : Tg} {i : I} {v : V} {st : St} {σ : L2.St} {F : Lo → Fp} {Q : L2.St → Hp → Prop} (_ : PostS P g0 H0 F0 g H F st σ emp) (_ : RepI P g H i v) (_ : ∀ k ∈ slT T, ∀ q ∈ g.pn, q.1 ≠ k),
    RunAt (putT T i) st ok ex → (∀ st' σ' F', PostS P g0 H0 F0 g H F' st' σ' emp → Off (slT T) σ σ' → ok st' () → Q σ' H) → gOf P.K T v σ H Q
  | .nm k, i, v, st, σ, F, Q, p, r, hn, h, kk => by
    unfold putT at h
    obtain ⟨hl, h⟩ := RunAt.put h
    refine kk _ _ _ (p.put (.im r) (fun _ x => x) hl (hn k (by simp [slT]))) ⟨by simp, fun j hj => ?_⟩ h
    have : k ≠ j := fun z => hj (by simp [slT, z])
    rw [List.getElem?_set_ne this]
  | .tp l, i, v, st, σ, F, Q, p, r, hn, h, kk => by
    cases i with
    | tup is =>
      unfold putT at h
      cases r with
      | tup a b =>
        have hl : is.length = lenT l := putTL_sz h
        exact ⟨_, _, rfl, a.sq, by rw [← b.len, hl], putTL_go p b hn h kk⟩
    | _ => unfold putT at h; exact h.elim
theorem putTL_go {g0 H0 F0} {ok : St → Unit → Prop} {ex} : ∀ {T : List Tg} {i : List I} {v : List V} {st : St} {σ : L2.St} {F : Lo → Fp} {Q : L2.St → Hp → Prop} (_ : PostS P g0 H0 F0 g H F st σ emp) (_ : RepIL P g H i v) (_ : ∀ k ∈ slTL T, ∀ q ∈ g.pn, q.1 ≠ k),
    RunAt (putTL T i) st ok ex → (∀ st' σ' F', PostS P g0 H0 F0 g H F' st' σ' emp → Off (slTL T) σ σ' → ok st' () → Q σ' H) → gOfL P.K T v σ H Q
  | [], [], v, st, σ, F, Q, p, r, hn, h, kk => by
    cases r with
    | nil => exact ⟨rfl, kk st σ F p .refl h⟩
  | t :: ts, i :: is, _, st, σ, F, Q, p, r, hn, h, kk => by
    cases r with
    | cons ri rl =>
      unfold putTL at h
      refine ⟨_, _, rfl, putT_go p ri (fun k hk => hn k (by simp [slTL, hk])) (RunAt.bnd h) fun st' σ' F' p' of1 h' => ?_⟩
      exact putTL_go p' rl (fun k hk => hn k (by simp [slTL, hk])) h' fun st2 σ2 F2 p2 of2 h2 => kk st2 σ2 F2 p2 (by unfold slTL; exact of1.trans of2) h2
  | [], _ :: _, _, _, _, _, _, _, _, _, h, _ => h.elim
  | _ :: _, [], _, _, _, _, _, _, _, _, h, _ => h.elim
theorem putTL_sz : ∀ {T : List Tg} {i : List I} {st : St} {ok : St → Unit → Prop} {ex}, RunAt (putTL T i) st ok ex → i.length = lenT T
  | [], [], _, _, _, _ => rfl
  | t :: ts, i :: is, st, ok, ex, h => by
    unfold putTL at h
    have h := RunAt.bnd h
    unfold RunAt at h
    split at h
    · exact h.elim
    · have := putTL_sz (T := ts) (i := is) h
      simp [lenT, this]
    · rename_i e
      exact (putT_noex e).elim
  | [], _ :: _, _, _, _, h => h.elim
  | _ :: _, [], _, _, _, h => h.elim
theorem putT_noex : ∀ {T : Tg} {i : I} {st : St} {c j st'}, putT T i st = some (.ex c j, st') → False
  | .nm k, i, st, c, j, st', h => by
    unfold putT put at h
    split at h <;> cases h
  | .tp l, .tup is, st, c, j, st', h => by
    unfold putT at h
    exact putTL_noex h
  | .tp l, .non, _, _, _, _, h => by cases h
  | .tp l, .bl _, _, _, _, _, h => by cases h
  | .tp l, .int _, _, _, _, _, h => by cases h
  | .tp l, .str _, _, _, _, _, h => by cases h
  | .tp l, .lst _, _, _, _, _, h => by cases h
  | .tp l, .dct _ _, _, _, _, _, h => by cases h
  | .tp l, .ref _, _, _, _, _, h => by cases h
  | .tp l, .fn _, _, _, _, _, h => by cases h
theorem putTL_noex : ∀ {T : List Tg} {i : List I} {st : St} {c j st'}, putTL T i st = some (.ex c j, st') → False
  | [], [], st, c, j, st', h => by cases h
  | t :: ts, i :: is, st, c, j, st', h => by
    unfold putTL bnd at h
    split at h
    · cases h
    · exact putTL_noex h
    · rename_i e
      exact putT_noex e
  | [], _ :: _, _, _, _, _, h => by cases h
  | _ :: _, [], _, _, _, _, h => by cases h
end
/-! ### what a loop walks -/
def Gives (P : Pg) (g : Gh) (H : Hp) (is : List I) (J : It) : Prop := ∀ g2 H2 FX, Ch FX g H g2 H2 →
  (∀ (i : Nat) (x : I), is[i]? = some x → J.go i H2 ∧ ∀ v H3, J.yld i H2 v H3 → (H3 = H2 ∨ ∃ T o, H2 T = none ∧ H3 = upd H2 T o) ∧ RepI P g2 H3 x v) ∧ J.stop is.length H2
abbrev IM := M (List I)
def OkI (P : Pg) (W : WX) (f : IM) : TI := fun σ H R => ∃ g st F, RepS P g H st σ F ∧
  RunAt f st (fun st' is => ∀ g' H' F' J, PostS P g H F g' H' F' st' σ emp → Gives P g' H' is J → R J H') (exc P W g H F)
/-! ### for -/
def forL (T : Tg) (b : SM) : List I → SM
  | [] => sNext
  | i :: is => bnd (putT T i) fun _ => bnd b fun f => match f with
    | .nx => forL T b is
    | .ct => forL T b is
    | .bk => sNext
    | .rt o => ret (.rt o)
def sFor (m : IM) (T : Tg) (b : SM) : SM := bnd m fun is => forL T b is
theorem PostS.grow {g H F g1 H1 F1 st1 σ1 T o} (a : PostS P g H F g1 H1 F1 st1 σ1 emp) (hp : H1 T = none) : PostS P g H F g1 (upd H1 T o) F1 st1 σ1 emp := by
  have c : Ch emp g1 H1 g1 (upd H1 T o) := .new hp
  exact ⟨a.rs.ch c (fun _ _ h => h.elim) rfl rfl (new_zd a.rs.zd hp), fun _ h => h.elim, a.ch.trans c fun _ h => h.elim, a.sub, a.pn⟩
theorem for_go {m : IM} {T : Tg} {b : SM} (hT : ∀ k ∈ slT T, k ∉ io) (h : OkS P W io (sFor m T b) D σ H) : tFor (OkI P W m) (gOf P.K T) (OkS P W io b) D σ H := by
  obtain ⟨g, st, F, rs, hio, q⟩ := h
  refine ⟨g, st, F, rs, q.bnd.imp (fun s is k g1 H1 F1 J p gv => ?_) fun _ _ _ z => z⟩
  have k1 : RunAt (forL T b is) s (okS P D g1 H1 F1) (exc P W g1 H1 F1) := RunAt.imp k (fun s2 fl k2 => okS_step p k2) fun _ _ _ z => excS_step p z
  have hio1 := p.pio hio
  refine ⟨fun i m σ H => m = is.length - i ∧ i ≤ is.length ∧ ∃ g' st' F', PostS P g1 H1 F1 g' H F' st' σ emp ∧ RunAt (forL T b (is.drop i)) st' (okS P D g1 H1 F1) (exc P W g1 H1 F1), ⟨is.length, rfl, Nat.zero_le _, g1, s, F1, .refl p.rs, k1⟩, ?_⟩
  rintro i m σ2 H2 ⟨rfl, hi, g2, s2, F2, p2, k2⟩
  by_cases hlt : i < is.length
  · have ei : is[i]? = some is[i] := List.getElem?_eq_getElem hlt
    have ed : is.drop i = is[i] :: is.drop (i + 1) := List.drop_eq_getElem_cons hlt
    obtain ⟨go, yl⟩ := (gv g2 H2 _ p2.ch).1 i _ ei
    refine .inr ⟨go, fun σ' H' => ∃ g' st' F', PostS P g1 H1 F1 g' H' F' st' σ' emp ∧ RunAt (forL T b (is.drop (i + 1))) st' (okS P D g1 H1 F1) (exc P W g1 H1 F1), fun σ' H' n => ⟨is.length - (i + 1), by omega, rfl, hlt, n⟩, fun x H3 y => ?_⟩
    obtain ⟨ho, rx⟩ := yl x H3 y
    have p3 : PostS P g1 H1 F1 g2 H3 F2 s2 σ2 emp := by
      rcases ho with rfl | ⟨t, o, hn, rfl⟩
      · exact p2
      · exact p2.grow hn
    rw [ed] at k2
    unfold forL at k2
    refine putT_go p3 rx (fun k hk => pn_ne (p2.pio hio1) (hT k hk)) k2.bnd fun st' σ' F' p4 _ k4 => ?_
    refine ⟨g2, st', F', p4.rs, p2.pio hio1, k4.bnd.imp (fun s5 fl k5 => ?_) fun _ _ _ z => excS_step p4 z⟩
    cases fl with
    | nx => exact fun g6 H6 F6 σ6 p6 => ⟨g6, s5, F6, p4.trans p6, k5⟩
    | ct => exact fun g6 H6 F6 σ6 p6 => ⟨g6, s5, F6, p4.trans p6, k5⟩
    | bk => exact fun g6 H6 F6 σ6 p6 => (show okS P D g1 H1 F1 s5 .nx from k5) g6 H6 F6 σ6 (p4.trans p6)
    | rt o => exact fun g6 H6 F6 σ6 v Fv p6 r6 => (show okS P D g1 H1 F1 s5 (.rt o) from k5) g6 H6 F6 σ6 v Fv (p4.trans p6) r6
  · have e : i = is.length := by omega
    subst e
    refine .inl ⟨(gv g2 H2 _ p2.ch).2, ?_⟩
    rw [List.drop_length] at k2
    exact (show okS P D g1 H1 F1 s2 .nx from k2) g2 H2 F2 σ2 p2
theorem sv_for {m : IM} {T : Tg} {f : SM} {tg iter : Expr} {body : List Stmt} (hp : PassesOwn (model X.prog X.w) X.A X.env X.xe) (hc : X.calm = true) (hi : PI X tg iter (OkI ⟨X.K, n⟩ W m)) (hg : PG X tg (gOf X.K T)) (hb : PSs X body (OkS ⟨X.K, n⟩ W io f)) (hT : ∀ k ∈ slT T, k ∉ io)
    (hs : ∀ x, foldedSetIterable iter X.env x = pure x := by intro _; rfl) : PS X (.For tg iter body [] pos) (OkS ⟨X.K, n⟩ W io (sFor m T f)) :=
  PS.imp (ps_for hp hc hi hg hb hs) fun _ _ _ h => for_go (P := ⟨X.K, n⟩) hT h
/-! ### while -/
def whN (t : BM) (b : SM) : Nat → SM
  | 0 => fun _ => none
  | n + 1 => bnd t fun c => if c then bnd b fun f => match f with
    | .nx => whN t b n
    | .ct => whN t b n
    | .bk => sNext
    | .rt o => ret (.rt o) else sNext
open Classical in
noncomputable def sWhile (t : BM) (b : SM) : SM := fun st => if h : ∃ n r, whN t b n st = some r then whN t b h.choose st else none
theorem whN_more {t : BM} {b : SM} : ∀ {n : Nat} {st r}, whN t b n st = some r → whN t b (n + 1) st = some r
  | 0, st, r, h => by cases h
  | n + 1, st, r, h => by
    have aux : ∀ (f : Fl) s1, (match f with | .nx => whN t b n | .ct => whN t b n | .bk => sNext | .rt o => ret (.rt o) : SM) s1 = some r → (match f with | .nx => whN t b (n + 1) | .ct => whN t b (n + 1) | .bk => sNext | .rt o => ret (.rt o) : SM) s1 = some r := fun f s1 h => by
      cases f with
      | nx => exact whN_more h
      | ct => exact whN_more h
      | bk => exact h
      | rt o => exact h
    unfold whN at h ⊢
    unfold bnd at h ⊢
    cases ht : t st with
    | none => rw [ht] at h; cases h
    | some z =>
      obtain ⟨z1, s1⟩ := z
      rw [ht] at h
      cases z1 with
      | ex c i => exact h
      | ok c =>
        cases c with
        | false => exact h
        | true =>
          simp only [if_true] at h ⊢
          cases hb : b s1 with
          | none => rw [hb] at h; cases h
          | some z =>
            obtain ⟨z2, s2⟩ := z
            rw [hb] at h
            cases z2 with
            | ex c i => exact h
            | ok f => exact aux f s2 h
theorem whN_le {t : BM} {b : SM} {n m : Nat} {st r} (h : whN t b n st = some r) (l : n ≤ m) : whN t b m st = some r := by
  induction l with
  | refl => exact h
  | step _ ih => exact whN_more ih
/-- enough turns -/
theorem while_eq {t : BM} {b : SM} {n : Nat} {st r} (h : whN t b n st = some r) : sWhile t b st = some r := by
  unfold sWhile
  have e : ∃ n r, whN t b n st = some r := ⟨n, r, h⟩
  rw [dif_pos e]
  obtain ⟨r', h'⟩ := e.choose_spec
  have h1 := whN_le h' (Nat.le_max_left e.choose n)
  have h2 := whN_le h (Nat.le_max_right e.choose n)
  rw [h1] at h2
  rw [h', h2]
theorem while_some {t : BM} {b : SM} {st r} (h : sWhile t b st = some r) : ∃ n, whN t b n st = some r := by
  unfold sWhile at h
  split at h
  · exact ⟨_, h⟩
  · cases h
theorem while_go {t : BM} {b : SM} (h : OkS P W io (sWhile t b) D σ H) : tWhile (OkB P W t) (OkS P W io b) D σ H := by
  obtain ⟨g, st, F, rs, hio, q⟩ := h
  have q' : ∃ n, RunAt (whN t b n) st (okS P D g H F) (exc P W g H F) := by
    unfold RunAt at q
    split at q
    · exact q.elim
    · rename_i a s1 e
      obtain ⟨n, hn⟩ := while_some e
      exact ⟨n, by unfold RunAt; rw [hn]; exact q⟩
    · rename_i c i s1 e
      obtain ⟨n, hn⟩ := while_some e
      exact ⟨n, by unfold RunAt; rw [hn]; exact q⟩
  obtain ⟨n0, q0⟩ := q'
  refine ⟨fun n σ H2 => ∃ g' st' F', PostS P g H F g' H2 F' st' σ emp ∧ RunAt (whN t b n) st' (okS P D g H F) (exc P W g H F), ⟨n0, g, st, F, .refl rs, q0⟩, ?_⟩
  rintro n σ2 H2 ⟨g2, s2, F2, p2, k2⟩
  cases n with
  | zero => exact k2.elim
  | succ n =>
    unfold whN at k2
    refine ⟨g2, s2, F2, p2.rs, k2.bnd.imp (fun s3 c k3 g3 H3 F3 p3 => ?_) fun _ _ _ z => excS_step p2 z⟩
    have p23 := p2.trans p3
    cases c with
    | false =>
      simp only [Bool.false_eq_true, if_false] at k3 ⊢
      exact (show okS P D g H F s3 .nx from k3) g3 H3 F3 σ2 p23
    | true =>
      simp only [if_true] at k3 ⊢
      refine ⟨fun σ' H' => ∃ g' st' F', PostS P g H F g' H' F' st' σ' emp ∧ RunAt (whN t b n) st' (okS P D g H F) (exc P W g H F), fun σ' H' x => ⟨n, Nat.lt_succ_self n, x⟩, g3, s3, F3, p23.rs, p23.pio hio, k3.bnd.imp (fun s4 fl k4 => ?_) fun _ _ _ z => excS_step p23 z⟩
      cases fl with
      | nx => exact fun g6 H6 F6 σ6 p6 => ⟨g6, s4, F6, p23.trans p6, k4⟩
      | ct => exact fun g6 H6 F6 σ6 p6 => ⟨g6, s4, F6, p23.trans p6, k4⟩
      | bk => exact fun g6 H6 F6 σ6 p6 => (show okS P D g H F s4 .nx from k4) g6 H6 F6 σ6 (p23.trans p6)
      | rt o => exact fun g6 H6 F6 σ6 v Fv p6 r6 => (show okS P D g H F s4 (.rt o) from k4) g6 H6 F6 σ6 v Fv (p23.trans p6) r6
theorem sv_while {t : BM} {f : SM} {body : List Stmt} (hp : PassesOwn (model X.prog X.w) X.A X.env X.xe) (hc : PT X c (OkB P W t)) (hb : PSs X body (OkS P W io f)) : PS X (.While c body [] pos) (OkS P W io (sWhile t f)) :=
  PS.imp (ps_while hp hc hb) fun _ _ _ h => while_go h
end
end VS

namespace VS
open PySem L2
/-! ### what is walked -/
def chars (s : Str) : List I := s.cps.toList.map fun c => .str ⟨#[c]⟩
def itemsOf : O → Option (List I)
  | .im (.lst l) => some l
  | .im (.tup l) => some l
  | .im (.str s) => some (chars s)
  | .tup l => allIm l
  | _ => none
def itV (f : EM) : IM := bnd f fun o => lift (itemsOf o)
def rng (lo : Int) (n : Nat) : List I := (List.range n).map fun (i : Nat) => I.int (lo + (i : Int))
def r62 (j : Int) : Bool := decide (-(2 ^ 62) ≤ j ∧ j < 2 ^ 62)
def itR (f : AM) : IM := bnd f fun os => match os with
  | [.im (.int j)] => if r62 j then ret (rng 0 j.toNat) else lift none
  | [.im (.int i), .im (.int j)] => if r62 i && r62 j then ret (rng i (j - i).toNat) else lift none
  | _ => lift none
def numb : Nat → List I → List I
  | _, [] => []
  | k, i :: is => .tup [.int (k : Int), i] :: numb (k + 1) is
def itE (f : EM) : IM := bnd f fun o => match o with
  | .im (.lst l) => ret (numb 0 l)
  | _ => lift none
def zipI : List I → List I → List I
  | a :: as, b :: bs => .tup [a, b] :: zipI as bs
  | _, _ => []
def itZ (f : AM) : IM := bnd f fun os => match os with
  | [.im (.lst l), .im (.lst m)] => ret (zipI l m)
  | [.im (.tup l), .im (.tup m)] => ret (zipI l m)
  | _ => lift none
section
variable {n : Pn} {W : WX} {X : Cx} {P : Pg} {e a b c tg : Expr} {es : List Expr} {g g' : Gh} {H H' : Hp} {st st' : St} {σ : L2.St} {F F' : Lo → Fp} {FX Fv : Fp} {pos : Pos} {io : List Nat} {s : Stmt} {ss : List Stmt} {D : Ends}
theorem RepIL.get : ∀ {l : List I} {vs : List V} {i : Nat} {x : I}, RepIL P g H l vs → l[i]? = some x → ∃ v, vs[i]? = some v ∧ RepI P g H x v
  | [], _, i, x, r, h => by simp at h
  | y :: l, _, i, x, r, h => by
    cases r with
    | cons a b =>
      cases i with
      | zero => simp at h; subst h; exact ⟨_, by simp, a⟩
      | succ i =>
        obtain ⟨v, e, q⟩ := RepIL.get b (by simpa using h)
        exact ⟨v, by simpa using e, q⟩
theorem gives_lst {l p vs} (h : FzL P.K g H p vs) (r : RepIL P g H l vs) : Gives P g H l (Itl P.K p) := fun g2 H2 FX c => by
  have h2 := (c.lst h).sq
  have r2 := r.ch c
  refine ⟨fun i x e => ?_, vs, h2, by rw [r.len]; exact Nat.le_refl _⟩
  obtain ⟨v, ev, rv⟩ := r2.get e
  refine ⟨⟨vs, v, h2, ev⟩, fun u H3 y => ⟨.inl y.1, ?_⟩⟩
  have := y.2 vs h2
  rw [ev] at this; cases this
  rw [y.1]
  exact rv
theorem gives_tup {l p vs} (h : SqT P.K H p vs) (r : RepIL P g H l vs) : Gives P g H l (Itt P.K p) := fun g2 H2 FX c => by
  have h2 := c.tup h
  have r2 := r.ch c
  refine ⟨fun i x e => ?_, vs, h2, by rw [r.len]; exact Nat.le_refl _⟩
  obtain ⟨v, ev, rv⟩ := r2.get e
  refine ⟨⟨vs, v, h2, ev⟩, fun u H3 y => ⟨.inl y.1, ?_⟩⟩
  have := y.2 vs h2
  rw [ev] at this; cases this
  rw [y.1]
  exact rv
theorem gives_str {x : Str} : Gives P g H (chars x) (Its x) := fun g2 H2 FX c => by
  have hl : (chars x).length = x.cps.size := by simp [chars]
  refine ⟨fun i y e => ?_, by show x.cps.size ≤ _; rw [hl]; exact Nat.le_refl _⟩
  have hi : i < x.cps.size := by rw [← hl]; exact (List.getElem?_eq_some_iff.mp e).1
  refine ⟨hi, fun v H3 z => ?_⟩
  obtain ⟨rfl, c, hc, rfl⟩ := z
  refine ⟨.inl rfl, ?_⟩
  have : y = .str ⟨#[c]⟩ := by
    unfold chars at e
    rw [List.getElem?_map, Array.getElem?_toList, hc] at e
    simpa using e.symm
  subst this
  exact .str _
theorem gives_rng {lo : Int} {m : Nat} : Gives P g H (rng lo m) (Itr lo m) := fun g2 H2 FX c => by
  have hl : (rng lo m).length = m := by simp [rng]
  refine ⟨fun i y e => ?_, by show m ≤ _; rw [hl]; exact Nat.le_refl _⟩
  have hi : i < m := by rw [← hl]; exact (List.getElem?_eq_some_iff.mp e).1
  refine ⟨hi, fun v H3 z => ?_⟩
  obtain ⟨rfl, rfl⟩ := z
  refine ⟨.inl rfl, ?_⟩
  have : y = .int (lo + i) := by
    unfold rng at e
    rw [List.getElem?_map, List.getElem?_range hi] at e
    simpa using e.symm
  subst this
  exact .int _
theorem numb_len : ∀ {k : Nat} {l : List I}, (numb k l).length = l.length
  | _, [] => rfl
  | k, _ :: l => by simp [numb, numb_len]
theorem numb_get : ∀ {l : List I} {k i : Nat} {x : I}, (numb k l)[i]? = some x → ∃ y, l[i]? = some y ∧ x = .tup [.int ((k + i : Nat) : Int), y]
  | [], k, i, x, h => by simp [numb] at h
  | z :: l, k, 0, x, h => by
    simp [numb] at h
    exact ⟨z, by simp, by rw [← h]; simp⟩
  | z :: l, k, i + 1, x, h => by
    simp only [numb, List.getElem?_cons_succ] at h
    obtain ⟨y, e, q⟩ := numb_get h
    exact ⟨y, by simpa using e, by rw [q]; congr 2; congr 1; congr 1; omega⟩
theorem gives_enum {l p vs} (h : FzL P.K g H p vs) (r : RepIL P g H l vs) : Gives P g H (numb 0 l) (Ite P.K p) := fun g2 H2 FX c => by
  have h2 := (c.lst h).sq
  have r2 := r.ch c
  refine ⟨fun i x e => ?_, vs, h2, by rw [numb_len, r.len]; exact Nat.le_refl _⟩
  obtain ⟨y, e', rfl⟩ := numb_get e
  obtain ⟨v, ev, rv⟩ := r2.get e'
  refine ⟨⟨vs, v, h2, ev⟩, fun u H3 z => ?_⟩
  obtain ⟨T, x, rfl, hT, rfl, q⟩ := z
  have := q vs h2
  rw [ev] at this; cases this
  have cn : Ch emp g2 H2 g2 (upd H2 T (.tup [.int (i : Nat), v])) := .new hT
  refine ⟨.inr ⟨T, _, hT, rfl⟩, .tup (.of upd_same) (.cons ?_ (.cons (rv.ch cn) .nil))⟩
  rw [Nat.zero_add]
  exact .int _
theorem zip_len : ∀ {l m : List I}, l.length ≤ (zipI l m).length ∨ m.length ≤ (zipI l m).length
  | [], _ => .inl (Nat.zero_le _)
  | _ :: _, [] => .inr (Nat.zero_le _)
  | a :: l, b :: m => by
    simp only [zipI, List.length_cons]
    rcases zip_len (l := l) (m := m) with h | h
    · exact .inl (by omega)
    · exact .inr (by omega)
theorem zip_get : ∀ {l m : List I} {i : Nat} {x : I}, (zipI l m)[i]? = some x → ∃ y z, l[i]? = some y ∧ m[i]? = some z ∧ x = .tup [y, z]
  | [], _, i, x, h => by simp [zipI] at h
  | _ :: _, [], i, x, h => by simp [zipI] at h
  | a :: l, b :: m, 0, x, h => by
    simp [zipI] at h
    exact ⟨a, b, by simp, by simp, h.symm⟩
  | a :: l, b :: m, i + 1, x, h => by
    simp only [zipI, List.getElem?_cons_succ] at h
    obtain ⟨y, z, e1, e2, e3⟩ := zip_get h
    exact ⟨y, z, by simpa using e1, by simpa using e2, e3⟩
theorem gives_zip {l m p q vs ws} (h : FzL P.K g H p vs) (r : RepIL P g H l vs) (h' : FzL P.K g H q ws) (r' : RepIL P g H m ws) : Gives P g H (zipI l m) (Itz P.K p q) := fun g2 H2 FX c => by
  have h2 := (c.lst h).sq
  have r2 := r.ch c
  have h2' := (c.lst h').sq
  have r2' := r'.ch c
  refine ⟨fun i x e => ?_, vs, ws, h2, h2', by rw [← r.len, ← r'.len]; exact zip_len⟩
  obtain ⟨y, z, e1, e2, rfl⟩ := zip_get e
  obtain ⟨v, ev, rv⟩ := r2.get e1
  obtain ⟨w, ew, rw'⟩ := r2'.get e2
  refine ⟨⟨vs, ws, v, w, h2, h2', ev, ew⟩, fun u H3 z => ?_⟩
  obtain ⟨T, x, y', rfl, hT, rfl, q1, q2⟩ := z
  have := q1 vs h2
  rw [ev] at this; cases this
  have := q2 ws h2'
  rw [ew] at this; cases this
  have cn : Ch emp g2 H2 g2 (upd H2 T (.tup [v, w])) := .new hT
  exact ⟨.inr ⟨T, _, hT, rfl⟩, .tup (.of upd_same) (.cons (rv.ch cn) (.cons (rw'.ch cn) .nil))⟩
theorem gives_zipT {l m p q vs ws} (h : SqT P.K H p vs) (r : RepIL P g H l vs) (h' : SqT P.K H q ws) (r' : RepIL P g H m ws) : Gives P g H (zipI l m) (RZ.ItzT P.K p q) := fun g2 H2 FX c => by
  have h2 := c.tup h
  have r2 := r.ch c
  have h2' := c.tup h'
  have r2' := r'.ch c
  refine ⟨fun i x e => ?_, vs, ws, h2, h2', by rw [← r.len, ← r'.len]; exact zip_len⟩
  obtain ⟨y, z, e1, e2, rfl⟩ := zip_get e
  obtain ⟨v, ev, rv⟩ := r2.get e1
  obtain ⟨w, ew, rw'⟩ := r2'.get e2
  refine ⟨⟨vs, ws, v, w, h2, h2', ev, ew⟩, fun u H3 z => ?_⟩
  obtain ⟨T, x, y', rfl, hT, rfl, q1, q2⟩ := z
  have := q1 vs h2
  rw [ev] at this; cases this
  have := q2 ws h2'
  rw [ew] at this; cases this
  have cn : Ch emp g2 H2 g2 (upd H2 T (.tup [v, w])) := .new hT
  exact ⟨.inr ⟨T, _, hT, rfl⟩, .tup (.of upd_same) (.cons (rv.ch cn) (.cons (rw'.ch cn) .nil))⟩
/-! the rules -/
theorem pi_v {f : EM} (h : PE X e (OkE ⟨X.K, n⟩ W f)) : PI X tg e (OkI ⟨X.K, n⟩ W (itV f)) := by
  refine ⟨fun pins s σ H R Iv hw => ?_⟩
  obtain ⟨g, st, F, rs, q⟩ := hw
  have q := q.bnd
  cases hf : f st with
  | none => unfold RunAt at q; rw [hf] at q; exact q.elim
  | some z =>
    obtain ⟨z, st'⟩ := z
    cases z with
    | ex c i =>
      refine (pi_tup h).run pins s σ H R Iv ⟨g, st, F, rs, ?_⟩
      unfold RunAt at q ⊢
      rw [hf] at q ⊢
      exact q
    | ok o =>
      unfold RunAt at q
      rw [hf] at q
      obtain ⟨is, hi, q⟩ := RunAt.lift (show RunAt (lift (itemsOf o)) st' _ _ from q)
      have q2 : ∀ g' H' F' J, PostS ⟨X.K, n⟩ g H F g' H' F' st' σ emp → Gives ⟨X.K, n⟩ g' H' is J → R J H' := q
      have go : ∀ {P' : St → O → Prop}, P' st' o → RunAt f st P' (exc ⟨X.K, n⟩ W g H F) := fun {P'} k => by
        unfold RunAt
        rw [hf]
        exact k
      cases o with
      | im i =>
        cases i with
        | lst l =>
          cases hi
          refine (pi_list h).run pins s σ H R Iv ⟨g, st, F, rs, go fun g1 H1 F1 v Fv p ro => ?_⟩
          cases ro.im_inv with
          | lst a b => exact ⟨_, rfl, ⟨_, a.sq⟩, q2 g1 H1 F1 _ p.drop (gives_lst a b)⟩
        | tup l =>
          cases hi
          refine (pi_tup h).run pins s σ H R Iv ⟨g, st, F, rs, go fun g1 H1 F1 v Fv p ro => ?_⟩
          cases ro.im_inv with
          | tup a b => exact ⟨_, rfl, ⟨_, a.sq⟩, q2 g1 H1 F1 _ p.drop (gives_tup a.sq b)⟩
        | str x =>
          cases hi
          refine (pi_str h).run pins s σ H R Iv ⟨g, st, F, rs, go fun g1 H1 F1 v Fv p ro => ?_⟩
          cases ro.im_inv with
          | str => exact ⟨x, rfl, q2 g1 H1 F1 _ p.drop gives_str⟩
        | _ => cases hi
      | tup l =>
        refine (pi_tup h).run pins s σ H R Iv ⟨g, st, F, rs, go fun g1 H1 F1 v Fv p ro => ?_⟩
        cases ro with
        | tup a b =>
          obtain ⟨b, _⟩ := RepIL.allIm hi b
          exact ⟨_, rfl, ⟨_, .inl (.of a)⟩, q2 g1 H1 F1 _ p.drop (gives_tup (.inl (.of a)) b)⟩
      | _ => cases hi
theorem RunAt.both {α : Type} {f : M α} {st} {ok ok' : St → α → Prop} {ex ex' : St → Nat → List I → Prop} (h : RunAt f st ok ex) (h' : RunAt f st ok' ex') : RunAt f st (fun s a => ok s a ∧ ok' s a) fun s c i => ex s c i ∧ ex' s c i := by
  unfold RunAt at h h' ⊢
  split at h
  · exact h.elim
  · rename_i e; rw [e] at h'; exact ⟨h, h'⟩
  · rename_i e; rw [e] at h'; exact ⟨h, h'⟩
theorem r62_ok {j : Int} (h : r62 j = true) : -(2 ^ 62) ≤ j ∧ j < 2 ^ 62 := by simpa [r62] using h
theorem RepOL.one {o v} {Fv} (r : RepOL P g H [o] v Fv) : ∃ x G, v = [x] ∧ RepO P g H o x G := by
  cases r with
  | cons a b d => cases b with | nil => exact ⟨_, _, rfl, a⟩
theorem RepOL.two {o o' v} {Fv} (r : RepOL P g H [o, o'] v Fv) : ∃ x y G G', v = [x, y] ∧ RepO P g H o x G ∧ RepO P g H o' y G' := by
  cases r with
  | cons a b d => cases b with | cons a' b' d' => cases b' with | nil => exact ⟨_, _, _, _, rfl, a, a'⟩
theorem pi_rng1 {f : AM} {p : Pos} (hm : X.mg "range" = none) (ha : PA X [a] (OkA ⟨X.K, n⟩ W f)) (hg : Gl X "range" := by rfl) (hs : starEach [a] X.env = [(false, eval a X.env)] := by rfl) (hl : ∀ st os st', f st = some (.ok os, st') → os.length = 1) : PI X tg (.Call (.Name "range" p) [a] [] pos) (OkI ⟨X.K, n⟩ W (itR f)) := by
  refine ⟨fun pins s σ H R Iv hw => (pi_range1 hg hm ha hs).run pins s σ H R Iv ?_⟩
  obtain ⟨g, st, F, rs, q⟩ := hw
  refine ⟨g, st, F, rs, ?_⟩
  have q := q.bnd
  have q0 : RunAt f st (fun _ os => os.length = 1) (fun _ _ _ => True) := by
    unfold RunAt at q ⊢
    split at q
    · exact q
    · rename_i e; exact hl _ _ _ e
    · trivial
  refine RunAt.imp (q.both q0) (fun st' os ⟨q, hl⟩ => ?_) fun _ _ _ z => z.1
  · skip
    intro g1 H1 F1 vs Fv p r
    split at q
    · split at q
      · rename_i hj
        obtain ⟨x, G, rfl, rx⟩ := r.one
        cases rx.im_inv
        obtain ⟨h1, h2⟩ := r62_ok hj
        exact ⟨_, rfl, h1, h2, RunAt.ret q g1 H1 F1 _ p.drop gives_rng⟩
      · exact q.elim
    · simp at hl
    · exact q.elim
theorem pi_rng2 {f : AM} {p : Pos} (hm : X.mg "range" = none) (ha : PA X [a, b] (OkA ⟨X.K, n⟩ W f)) (hg : Gl X "range" := by rfl) (hs : starEach [a, b] X.env = [(false, eval a X.env), (false, eval b X.env)] := by rfl) (hs2 : starEach [b] X.env = [(false, eval b X.env)] := by rfl) (hl : ∀ st os st', f st = some (.ok os, st') → os.length = 2) : PI X tg (.Call (.Name "range" p) [a, b] [] pos) (OkI ⟨X.K, n⟩ W (itR f)) := by
  refine ⟨fun pins s σ H R Iv hw => (pi_range2 hg hm ha hs hs2).run pins s σ H R Iv ?_⟩
  obtain ⟨g, st, F, rs, q⟩ := hw
  refine ⟨g, st, F, rs, ?_⟩
  have q := q.bnd
  have q0 : RunAt f st (fun _ os => os.length = 2) (fun _ _ _ => True) := by
    unfold RunAt at q ⊢
    split at q
    · exact q
    · rename_i e; exact hl _ _ _ e
    · trivial
  refine RunAt.imp (q.both q0) (fun st' os ⟨q, hl⟩ => ?_) fun _ _ _ z => z.1
  · skip
    intro g1 H1 F1 vs Fv p r
    split at q
    · simp at hl
    · split at q
      · rename_i hj
        obtain ⟨x, y, G, G', rfl, rx, ry⟩ := r.two
        cases rx.im_inv
        cases ry.im_inv
        have hj := Bool.and_eq_true_iff.mp hj
        obtain ⟨h1, h2⟩ := r62_ok hj.1
        obtain ⟨h3, h4⟩ := r62_ok hj.2
        exact ⟨_, _, rfl, ⟨h1, h2, h3, h4⟩, RunAt.ret q g1 H1 F1 _ p.drop gives_rng⟩
      · exact q.elim
    · exact q.elim
theorem bnd_ok {α β : Type} {m : M α} {k : α → M β} {st b st'} (h : bnd m k st = some (.ok b, st')) : ∃ a s1, m st = some (.ok a, s1) ∧ k a s1 = some (.ok b, st') := by
  unfold bnd at h
  split at h
  · cases h
  · rename_i e; exact ⟨_, _, e, h⟩
  · cases h
theorem len1 {f : EM} {st os st'} (h : aCons f aNil st = some (.ok os, st')) : os.length = 1 := by
  obtain ⟨o, s1, _, h⟩ := bnd_ok h
  obtain ⟨os2, s2, e, h⟩ := bnd_ok h
  cases e
  cases h
  rfl
theorem len2 {f k : EM} {st os st'} (h : aCons f (aCons k aNil) st = some (.ok os, st')) : os.length = 2 := by
  obtain ⟨o, s1, _, h⟩ := bnd_ok h
  obtain ⟨os2, s2, e, h⟩ := bnd_ok h
  have := len1 e
  cases h
  simp [this]
theorem ev_r1 {f : EM} {p : Pos} (hm : X.mg "range" = none) (ha : PE X a (OkE ⟨X.K, n⟩ W f)) (hg : Gl X "range" := by rfl) (hs : starEach [a] X.env = [(false, eval a X.env)] := by rfl) : PI X tg (.Call (.Name "range" p) [a] [] pos) (OkI ⟨X.K, n⟩ W (itR (aCons f aNil))) :=
  pi_rng1 hm (av_cons ha av_nil hs) hg hs fun _ _ _ => len1
theorem ev_r2 {f k : EM} {p : Pos} (hm : X.mg "range" = none) (ha : PE X a (OkE ⟨X.K, n⟩ W f)) (hb : PE X b (OkE ⟨X.K, n⟩ W k)) (hg : Gl X "range" := by rfl) (hs : starEach [a, b] X.env = [(false, eval a X.env), (false, eval b X.env)] := by rfl) (hs2 : starEach [b] X.env = [(false, eval b X.env)] := by rfl) : PI X tg (.Call (.Name "range" p) [a, b] [] pos) (OkI ⟨X.K, n⟩ W (itR (aCons f (aCons k aNil)))) :=
  pi_rng2 hm (av_cons ha (av_cons hb av_nil hs2) (hs.trans (by rw [hs2]))) hg hs hs2 fun _ _ _ => len2
theorem ev_en {f : EM} {p tpos : Pos} {elts : List Expr} {kk : Nat} (hm : X.mg "enumerate" = none) (ha : PE X a (OkE ⟨X.K, n⟩ W f)) (hg : Gl X "enumerate" := by rfl) (hs : starEach [a] X.env = [(false, eval a X.env)] := by rfl) : PI X (.Tuple elts kk tpos) (.Call (.Name "enumerate" p) [a] [] pos) (OkI ⟨X.K, n⟩ W (itE f)) := by
  refine ⟨fun pins s σ H R Iv hw => (pi_enum hg hm (av_cons ha (av_nil (W := W)) hs) hs).run pins s σ H R Iv ?_⟩
  obtain ⟨g, st, F, rs, q⟩ := hw
  refine ⟨g, st, F, rs, ?_⟩
  have q := q.bnd
  have q2 : RunAt (aCons f aNil) st (fun s os => ∃ o, os = [o] ∧ RunAt (match o with | .im (.lst l) => ret (numb 0 l) | _ => lift none : IM) s (fun st' is => ∀ g' H' F' J, PostS ⟨X.K, n⟩ g H F g' H' F' st' σ emp → Gives ⟨X.K, n⟩ g' H' is J → R J H') (exc ⟨X.K, n⟩ W g H F)) (exc ⟨X.K, n⟩ W g H F) := by
    unfold RunAt at q
    unfold aCons RunAt bnd
    cases hf : f st with
    | none => rw [hf] at q; exact q
    | some z =>
      obtain ⟨z, s1⟩ := z
      rw [hf] at q
      cases z with
      | ok o => exact ⟨o, rfl, q⟩
      | ex c i => exact q
  refine RunAt.imp q2 (fun s1 os ⟨o, eo, q3⟩ g1 H1 F1 vs Fv p r => ?_) fun _ _ _ z => z
  subst eo
  obtain ⟨x, G, rfl, rx⟩ := r.one
  split at q3
  · cases rx.im_inv with
    | lst a b => exact ⟨_, _, rfl, a.sq, RunAt.ret q3 g1 H1 F1 _ p.drop (gives_enum a b)⟩
  · exact q3.elim
theorem ev_zp {f : AM} {p tpos : Pos} {elts : List Expr} {kk : Nat} (hm : X.mg "zip" = none) (ha : PA X [a, b] (OkA ⟨X.K, n⟩ W f)) (hg : Gl X "zip" := by rfl) (hs : starEach [a, b] X.env = (false, eval a X.env) :: starEach [b] X.env := by rfl) (hpl : (backTo pos (starEach [b] X.env)).any (·.1) = false := by rfl) : PI X (.Tuple elts kk tpos) (.Call (.Name "zip" p) [a, b] [] pos) (OkI ⟨X.K, n⟩ W (itZ f)) := by
  refine ⟨fun pins s σ H R Iv hw => (RZ.pi_zipA hg hm ha hs hpl).run pins s σ H R Iv ?_⟩
  obtain ⟨g, st, F, rs, q⟩ := hw
  refine ⟨g, st, F, rs, q.bnd.imp (fun s os k g1 H1 F1 vs Fv p r => ?_) fun _ _ _ z => z⟩
  split at k
  · obtain ⟨x, y, G, G', rfl, rx, ry⟩ := r.two
    cases rx.im_inv with
    | lst a b =>
      cases ry.im_inv with
      | lst a' b' => exact ⟨_, _, _, _, rfl, .inl ⟨a.sq, a'.sq, RunAt.ret k g1 H1 F1 _ p.drop (gives_zip a b a' b')⟩⟩
  · obtain ⟨x, y, G, G', rfl, rx, ry⟩ := r.two
    cases rx.im_inv with
    | tup a b =>
      cases ry.im_inv with
      | tup a' b' => exact ⟨_, _, _, _, rfl, .inr ⟨a.sq, a'.sq, RunAt.ret k g1 H1 F1 _ p.drop (gives_zipT a.sq b a'.sq b')⟩⟩
  · exact k.elim
end
end VS

namespace VS
open PySem L2
/-! ### list comprehensions -/
def wip (sl : List O) : List Nat → List O
  | [] => sl
  | v :: vs => (wip sl vs).set v .hole
def resto (old : List O) : List Nat → List O → List O
  | [], sl => sl
  | v :: vs, sl => (resto old vs sl).set v (old.getD v .hole)
def isIm : O → Bool
  | .im _ => true
  | .hole => true
  | _ => false
def imAt (own : List Nat) (sl : List O) : Bool := own.all fun k => isIm (sl.getD k .hole)
def wipM (own : List Nat) : M Unit := fun st => some (.ok (), { st with sl := wip st.sl own })
def lcL (own : List Nat) (T : Tg) (t : BM) (e : EM) : List I → List O → M (List O)
  | [], acc => ret acc
  | i :: is, acc => bnd (wipM own) fun _ => bnd (putT T i) fun _ => bnd t fun c => if c then bnd e fun o => if acc.length < sizeLine then lcL own T t e is (acc ++ [o]) else lift none else lcL own T t e is acc
def blkM {α β : Type} (own : List Nat) (m : M α) (k : α → β) : M β := fun st => if imAt own st.sl then match m st with
  | some (.ok acc, st') => some (.ok (k acc), { st' with sl := resto st.sl own st'.sl })
  | _ => none else none
def eLc (own : List Nat) (src : IM) (T : Tg) (t : BM) (e : EM) : EM := bnd src fun is => blkM own (lcL own T t e is []) .lst
def bYes : BM := ret true
theorem wip_len (sl : List O) : ∀ vs, (wip sl vs).length = sl.length
  | [] => rfl
  | v :: vs => by simp [wip, wip_len sl vs]
theorem resto_len (old sl : List O) : ∀ vs, (resto old vs sl).length = sl.length
  | [] => rfl
  | v :: vs => by simp [resto, resto_len old sl vs]
theorem wip_out {sl : List O} {j : Nat} : ∀ {vs : List Nat}, j ∉ vs → (wip sl vs)[j]? = sl[j]?
  | [], _ => rfl
  | v :: vs, h => by
    simp only [List.mem_cons, not_or] at h
    rw [wip, List.getElem?_set_ne (Ne.symm h.1), wip_out h.2]
theorem wip_in {sl : List O} {j : Nat} : ∀ {vs : List Nat}, j ∈ vs → j < sl.length → (wip sl vs)[j]? = some .hole
  | v :: vs, h, l => by
    by_cases e : v = j
    · subst e
      rw [wip, List.getElem?_set_self (by rw [wip_len]; exact l)]
    · rw [wip, List.getElem?_set_ne e]
      exact wip_in ((List.mem_cons.mp h).resolve_left (Ne.symm e)) l
theorem resto_out {old sl : List O} {j : Nat} : ∀ {vs : List Nat}, j ∉ vs → (resto old vs sl)[j]? = sl[j]?
  | [], _ => rfl
  | v :: vs, h => by
    simp only [List.mem_cons, not_or] at h
    rw [resto, List.getElem?_set_ne (Ne.symm h.1), resto_out h.2]
theorem resto_in {old sl : List O} {j : Nat} : ∀ {vs : List Nat}, j ∈ vs → j < sl.length → (resto old vs sl)[j]? = some (old.getD j .hole)
  | v :: vs, h, l => by
    by_cases e : v = j
    · subst e
      rw [resto, List.getElem?_set_self (by rw [resto_len]; exact l)]
    · rw [resto, List.getElem?_set_ne e]
      exact resto_in ((List.mem_cons.mp h).resolve_left (Ne.symm e)) l
theorem wipe_out {σ : L2.St} {j : Nat} : ∀ {vs : List Nat}, j ∉ vs → (wipe σ vs)[j]? = σ[j]?
  | [], _ => rfl
  | v :: vs, h => by
    simp only [List.mem_cons, not_or] at h
    rw [wipe, List.getElem?_set_ne (Ne.symm h.1), wipe_out h.2]
theorem wipe_in {σ : L2.St} {j : Nat} : ∀ {vs : List Nat}, j ∈ vs → j < σ.length → (wipe σ vs)[j]? = some none
  | v :: vs, h, l => by
    by_cases e : v = j
    · subst e
      rw [wipe, List.getElem?_set_self (by rw [wipe_length]; exact l)]
    · rw [wipe, List.getElem?_set_ne e]
      exact wipe_in ((List.mem_cons.mp h).resolve_left (Ne.symm e)) l
theorem wipe_eq {σ σ' : L2.St} {vs l : List Nat} (h : Off l (wipe σ vs) σ') (hl : ∀ k ∈ l, k ∈ vs) : wipe σ' vs = wipe σ vs := by
  have len : σ'.length = σ.length := by rw [h.1, wipe_length]
  apply List.ext_getElem?
  intro j
  by_cases hj : j ∈ vs
  · by_cases hb : j < σ.length
    · rw [wipe_in hj hb, wipe_in hj (by rw [len]; exact hb)]
    · rw [List.getElem?_eq_none (by rw [wipe_length, len]; omega), List.getElem?_eq_none (by rw [wipe_length]; omega)]
  · rw [wipe_out hj, h.2 j fun z => hj (hl j z)]
def Gh.np (g : Gh) : Gh := { g with pn := [] }
def Gh.wp (g : Gh) (p : List (Nat × V)) : Gh := { g with pn := p }
section
variable {n : Pn} {W : WX} {X : Cx} {P : Pg} {e a b c tg : Expr} {es : List Expr} {g g' : Gh} {H H' : Hp} {st st' : St} {σ : L2.St} {F F' : Lo → Fp} {FX Fv : Fp} {pos : Pos} {io : List Nat} {s : Stmt} {ss : List Stmt} {D : Ends}
/-- some slots forgotten -/
def dropF (F : Lo → Fp) (own : List Nat) : Lo → Fp
  | .inl k => if k ∈ own then emp else F (.inl k)
  | .inr r => F (.inr r)
theorem dropF_sub {own : List Nat} {l b} (h : dropF F own l b) : F l b := by
  cases l with
  | inl k =>
    have h : (if k ∈ own then emp else F (.inl k)) b := h
    by_cases q : k ∈ own
    · rw [if_pos q] at h; exact h.elim
    · rw [if_neg q] at h; exact h
  | inr r => exact h
theorem RepS.wipe {own : List Nat} (r : RepS P g H st σ F) (hp : g.pn = []) : RepS P g H { st with sl := wip st.sl own } (L2.wipe σ own) (dropF F own) where
  len := by simp [wip_len, wipe_length, r.len]
  slot i o h := by
    by_cases hi : i ∈ own
    · have h' : (wip st.sl own)[i]? = some o := h
      have hl : i < st.sl.length := by rw [← wip_len st.sl own]; exact (List.getElem?_eq_some_iff.mp h').1
      rw [wip_in hi hl] at h'
      cases h'
      exact .inl ⟨rfl, fun b x => by simp [dropF, hi, emp] at x⟩
    · have h' : (wip st.sl own)[i]? = some o := h
      rw [wip_out hi] at h'
      have e : dropF F own (.inl i) = F (.inl i) := by simp [dropF, hi]
      rw [e]
      rcases r.slot i o h' with q | ⟨v, q, z⟩
      · exact .inl q
      · exact .inr ⟨v, by rw [wipe_out hi]; exact q, z⟩
  sto := r.sto
  ln := r.ln
  dj l m h b x y := r.dj l m h b (dropF_sub x) (dropF_sub y)
  out1 i b h x := r.out1 i b (by simpa [wip_len] using h) (dropF_sub x)
  out2 i b h x := r.out2 i b h x
  pin p hp' := by rw [hp] at hp'; cases hp'
  zd := r.zd
theorem RepOL.snoc : ∀ {os : List O} {vs : List V} {F G : Fp} {o v}, RepOL P g H os vs F → RepO P g H o v G → Fp.dj F G → ∃ F', RepOL P g H (os ++ [o]) (vs ++ [v]) F' ∧ ∀ b, F' b ↔ F b ∨ G b
  | [], _, _, G, o, v, r, ro, _ => by
    cases r
    exact ⟨un G emp, .cons ro .nil fun _ _ h => h, fun b => by simp [un, emp]⟩
  | x :: os, _, _, G, o, v, r, ro, d => by
    cases r with
    | @cons _ y _ vs F1 F2 a b d' =>
      obtain ⟨F', r', e⟩ := RepOL.snoc b ro fun c x y => d c (.inr x) y
      refine ⟨un F1 F', .cons a r' fun c x y => ?_, fun c => ?_⟩
      · rcases (e c).mp y with y | y
        · exact d' c x y
        · exact d c (.inl x) y
      · simp only [un, e, or_assoc]
/-- an object that is nobody's is changed -/
theorem Ch.setl {p o} (m : Mt H p) (z : ¬ g.Z p) : Ch (fun b => b = p) g H g (upd H p o) where
  keep b u e n := by rw [upd_ne n]; exact e
  dom b u e := by
    by_cases hb : b = p
    · subst hb; exact ⟨o, upd_same⟩
    · exact ⟨u, by rw [upd_ne hb]; exact e⟩
  mt b h := by subst h; exact ⟨m, z⟩
  zle _ z := z
  znew _ z := .inl z
  rho := ⟨[], by simp⟩
theorem set_zd {p u} (z : ∀ b, g.Z b → ∃ o, H b = some o) : ∀ b, g.Z b → ∃ o, upd H p u b = some o := fun b x => by
  by_cases hb : b = p
  · subst hb; exact ⟨u, upd_same⟩
  · obtain ⟨o, e⟩ := z b x
    exact ⟨o, by rw [upd_ne hb]; exact e⟩
theorem PTs.imp {e : List Expr} {t t' : TT} (h : PTs X e t) (i : ∀ σ H Q, t' σ H Q → t σ H Q) : PTs X e t' := ⟨fun pins s σ H Q I q => h.run pins s σ H Q I (i _ _ _ q)⟩
theorem PTs.nil' : PTs X [] (OkB P W bYes) := PTs.imp pts_nil fun σ H Q ⟨g, st, F, rs, q⟩ => q.ret g H F (.refl rs)
theorem PTs.one' {t : BM} (h : PT X c (OkB P W t)) : PTs X [c] (OkB P W t) := pts_one h
/-- no exception -/
abbrev W0 : WX := fun _ _ _ _ => False
theorem imAt_get {own : List Nat} {sl : List O} (h : imAt own sl = true) {k : Nat} (hk : k ∈ own) : isIm (sl.getD k .hole) = true := by
  unfold imAt at h
  exact List.all_eq_true.mp h k hk
theorem PostS.over {own : List Nat} {g g1 g2 : Gh} {H H1 H2 : Hp} {F F1 F2 : Lo → Fp} {st1 st2 : St} {Fv Fw : Fp} (p : PostS P g H F g1 H1 F1 st1 σ Fv) (q : PostS P (g1.np) H1 F1 g2 H2 F2 { st2 with sl := wip st2.sl own } (wipe σ own) Fw) (im : imAt own st1.sl = true) :
    PostS P g H F (g2.wp g.pn) H2 (dropF F2 own) { st2 with sl := resto st1.sl own st2.sl } σ Fw := by
  have c1 : Ch (tot F1) g1 H1 (g2.wp g.pn) H2 := by
    have a : Ch emp g1 H1 (g1.np) H1 := .repn
    have b : Ch emp g2 H2 (g2.wp g.pn) H2 := .repn
    have c := (a.wider (fun _ h => h.elim) p.rs.mt).trans q.ch fun b h => .inl h
    exact c.trans b fun _ h => h.elim
  have cq : Ch emp g2 H2 (g2.wp g.pn) H2 := .repn
  have sub : ∀ b, tot (dropF F2 own) b → tot F2 b := fun b ⟨l, h⟩ => ⟨l, dropF_sub h⟩
  have ln : st2.sl.length = st1.sl.length := by
    have a := q.rs.len
    have b := p.rs.len
    simp only [wip_len, wipe_length] at a
    omega
  refine ⟨⟨?_, fun i o h => ?_, fun i o h => ?_, q.rs.ln, fun l m h b x y => q.rs.dj l m h b (dropF_sub x) (dropF_sub y), fun i b h x => q.rs.out1 i b (by simpa [wip_len, resto_len] using h) (dropF_sub x), fun i b h x => q.rs.out2 i b h x, ?_, q.rs.zd⟩, fun b x y => q.dj b x (sub b y), ?_, fun b x => ?_, rfl⟩
  · have b := p.rs.len
    simp only [resto_len]
    omega
  · have h' : (resto st1.sl own st2.sl)[i]? = some o := h
    have hl : i < st2.sl.length := by rw [← resto_len st1.sl st2.sl own]; exact (List.getElem?_eq_some_iff.mp h').1
    by_cases hi : i ∈ own
    · rw [resto_in hi hl] at h'
      have e : dropF F2 own (.inl i) = emp := by simp [dropF, hi]
      rw [e]
      have hl1 : i < st1.sl.length := by omega
      have e1 : st1.sl[i]? = some (st1.sl.getD i .hole) := by simp [List.getD, hl1]
      have im1 := imAt_get im hi
      cases h'
      rcases p.rs.slot i _ e1 with ⟨q, _⟩ | ⟨v, q, z⟩
      · exact .inl ⟨q, fun _ h => h⟩
      · refine .inr ⟨v, q, ?_⟩
        generalize st1.sl.getD i .hole = o at *
        cases o with
        | im x => exact .im (z.im_inv.ch c1)
        | hole => exact absurd rfl (not_hole z)
        | _ => cases im1
    · rw [resto_out hi] at h'
      have e : dropF F2 own (.inl i) = F2 (.inl i) := by simp [dropF, hi]
      rw [e]
      rcases q.rs.slot i o (by show (wip st2.sl own)[i]? = _; rw [wip_out hi]; exact h') with q | ⟨v, q, z⟩
      · exact .inl q
      · rw [wipe_out hi] at q
        exact .inr ⟨v, q, z.ch cq fun _ _ h => h.elim⟩
  · obtain ⟨t, e1, rr⟩ := q.rs.sto i o h
    exact ⟨t, e1, rr.ch cq fun _ _ h => h.elim⟩
  · intro z hz
    have hz : z ∈ g.pn := hz
    rw [← p.pn] at hz
    exact p.rs.pin z hz
  · exact p.ch.trans c1 fun b h => p.sub b (.inl h)
  · have q1 : tot F2 b ∨ Fw b := x.elim (fun x => .inl (sub b x)) .inr
    rcases q.sub b q1 with x | x
    · exact p.sub b (.inl x)
    · exact .inr (p.ch.back x)
theorem lc_go {own : List Nat} {src : IM} {T : Tg} {t : BM} {f : EM} {Q : VK} (hT : ∀ k ∈ slT T, k ∈ own) (h : OkE P W (eLc own src T t f) σ H Q) : tLc (OkI P W src) (gOf P.K T) (OkB P W0 t) (OkE P W0 f) own σ H Q := by
  obtain ⟨g, st, F, rs, q⟩ := h
  refine ⟨g, st, F, rs, q.bnd.imp (fun s1 is k g1 H1 F1 J p gv => ?_) fun _ _ _ z => z⟩
  intro Dl hD
  -- the block
  unfold RunAt blkM at k
  by_cases im : imAt own s1.sl = true
  · rw [if_pos im] at k
    have k1 : RunAt (lcL own T t f is []) s1 (fun st' acc => ∀ g' H' F' v Fv, PostS P g H F g' H' F' { st' with sl := resto s1.sl own st'.sl } σ Fv → RepO P g' H' (.lst acc) v Fv → Q v H') fun _ _ _ => False := by
      unfold RunAt
      cases hm : lcL own T t f is [] s1 with
      | none => rw [hm] at k; exact k
      | some z =>
        obtain ⟨z, s2⟩ := z
        rw [hm] at k
        cases z with
        | ok acc => exact k
        | ex c i => exact k
    clear k
    have cB : Ch emp g1 H1 (g1.np) H1 := .repn
    have rsB : RepS P (g1.np) H1 s1 σ F1 :=
      ⟨p.rs.len, fun i o h => (p.rs.slot i o h).imp id fun ⟨v, q, z⟩ => ⟨v, q, z.ch cB fun _ _ h => h.elim⟩, fun i o h => let ⟨t, e, z⟩ := p.rs.sto i o h; ⟨t, e, z.ch cB fun _ _ h => h.elim⟩, p.rs.ln, p.rs.dj, p.rs.out1, p.rs.out2, (fun _ h => by cases h), p.rs.zd⟩
    have start : PostS P (g1.np) H1 F1 (g1.np) (upd H1 Dl (.lst [])) (dropF F1 own) { s1 with sl := wip s1.sl own } (wipe σ own) (ins1 Dl emp) := by
      have r0 := rsB.wipe (own := own) rfl
      have cn : Ch emp (g1.np) H1 (g1.np) (upd H1 Dl (.lst [])) := .new hD
      refine ⟨r0.ch cn (fun _ _ h => h.elim) rfl rfl (new_zd p.rs.zd hD), fun b x ⟨l, y⟩ => ?_, cn.wider (fun _ h => h.elim) rsB.mt, fun b x => ?_, rfl⟩
      · rcases x with x | x
        · subst x
          obtain ⟨⟨_, e, _⟩, _⟩ := p.rs.mt _ ⟨l, dropF_sub y⟩
          rw [hD] at e; cases e
        · exact x
      · rcases x with ⟨l, x⟩ | x | x
        · exact .inl ⟨l, dropF_sub x⟩
        · subst x; exact .inr hD
        · exact x.elim
    have ro0 : RepO P (g1.np) (upd H1 Dl (.lst [])) (.lst []) (.ref Dl) (ins1 Dl emp) := .lst upd_same (p.rs.nz hD) .nil fun h => h
    refine ⟨fun i m Hx => m = is.length - i ∧ i ≤ is.length ∧ ∃ g' st' F' acc Fv, PostS P (g1.np) H1 F1 g' Hx F' { st' with sl := wip st'.sl own } (wipe σ own) Fv ∧ RepO P g' Hx (.lst acc) (.ref Dl) Fv ∧
      RunAt (lcL own T t f (is.drop i) acc) st' (fun st' acc => ∀ g' H' F' v Fv, PostS P g H F g' H' F' { st' with sl := resto s1.sl own st'.sl } σ Fv → RepO P g' H' (.lst acc) v Fv → Q v H') fun _ _ _ => False, ⟨is.length, rfl, Nat.zero_le _, _, s1, _, [], _, start, ro0, k1⟩, ?_⟩
    rintro i m H2 ⟨rfl, hi, g2, s2, F2, acc, Fv, p2, ra, k2⟩
    have cg : Ch (tot F1) g1 H1 g2 H2 := (cB.wider (fun _ h => h.elim) p.rs.mt).trans p2.ch fun b h => .inl h
    by_cases hlt : i < is.length
    · have ei : is[i]? = some is[i] := List.getElem?_eq_getElem hlt
      have ed : is.drop i = is[i] :: is.drop (i + 1) := List.drop_eq_getElem_cons hlt
      obtain ⟨go, yl⟩ := (gv g2 H2 _ cg).1 i _ ei
      refine .inr ⟨go, fun Hx => ∃ g' st' F' acc Fv, PostS P (g1.np) H1 F1 g' Hx F' { st' with sl := wip st'.sl own } (wipe σ own) Fv ∧ RepO P g' Hx (.lst acc) (.ref Dl) Fv ∧
        RunAt (lcL own T t f (is.drop (i + 1)) acc) st' (fun st' acc => ∀ g' H' F' v Fv, PostS P g H F g' H' F' { st' with sl := resto s1.sl own st'.sl } σ Fv → RepO P g' H' (.lst acc) v Fv → Q v H') fun _ _ _ => False,
        fun H' x => ⟨is.length - (i + 1), by omega, rfl, hlt, x⟩, fun x H3 y => ?_⟩
      obtain ⟨ho, rx⟩ := yl x H3 y
      have p3 : PostS P (g1.np) H1 F1 g2 H3 F2 { s2 with sl := wip s2.sl own } (wipe σ own) Fv ∧ RepO P g2 H3 (.lst acc) (.ref Dl) Fv := by
        rcases ho with rfl | ⟨t, o, hn, rfl⟩
        · exact ⟨p2, ra⟩
        · have cn : Ch emp g2 H2 g2 (upd H2 t o) := .new hn
          exact ⟨p2.mk1 hn (fun _ x => .inl x) fun b x => (ra.mt b x).1, ra.ch cn fun _ _ h => h.elim⟩
      obtain ⟨p3, ra3⟩ := p3
      rw [ed] at k2
      unfold lcL at k2
      have k3 : RunAt (bnd (putT T is[i]) fun _ => bnd t fun c => if c then bnd f fun o => if acc.length < sizeLine then lcL own T t f (is.drop (i + 1)) (acc ++ [o]) else lift none else lcL own T t f (is.drop (i + 1)) acc) { s2 with sl := wip s2.sl own } _ (fun _ _ _ => False) := k2
      have ep : g2.pn = [] := p2.pn
      refine putT_go (.refl p3.rs) rx (fun k hk q hq => by rw [ep] at hq; cases hq) k3.bnd fun st' σ' F' p4 of4 k4 => ?_
      have wq : wipe σ' own = wipe σ own := wipe_eq of4 hT
      refine ⟨wq, ?_⟩
      -- the test
      have q4 := k4.bnd
      refine ⟨g2, st', F', p4.rs, q4.imp (fun s5 c k5 g5 H5 F5 p5 => ?_) fun _ _ _ z => z.elim⟩
      have tot4 : ∀ b, tot F' b → tot F2 b ∨ H3 b = none := fun b h => p4.sub b (.inl h)
      have base : ∀ {g6 H6 F6 s6 σ6 Fw}, PostS P g2 H3 F2 g6 H6 F6 s6 σ6 Fw → PostS P (g1.np) H1 F1 g6 H6 F6 s6 σ6 (un Fv Fw) ∧ RepO P g6 H6 (.lst acc) (.ref Dl) Fv ∧ Fp.dj Fv Fw := fun {g6 H6 F6 s6 σ6 Fw} p6 => p3.both ra3 p6
      have fin : ∀ {g6 H6 F6 s6 Fz acc'}, PostS P (g1.np) H1 F1 g6 H6 F6 s6 σ' Fz → RepO P g6 H6 (.lst acc') (.ref Dl) Fz → RunAt (lcL own T t f (is.drop (i + 1)) acc') s6 (fun st' acc => ∀ g' H' F' v Fv, PostS P g H F g' H' F' { st' with sl := resto s1.sl own st'.sl } σ Fv → RepO P g' H' (.lst acc) v Fv → Q v H') (fun _ _ _ => False) →
          ∃ g' st' F' acc Fv, PostS P (g1.np) H1 F1 g' H6 F' { st' with sl := wip st'.sl own } (wipe σ own) Fv ∧ RepO P g' H6 (.lst acc) (.ref Dl) Fv ∧
            RunAt (lcL own T t f (is.drop (i + 1)) acc) st' (fun st' acc => ∀ g' H' F' v Fv, PostS P g H F g' H' F' { st' with sl := resto s1.sl own st'.sl } σ Fv → RepO P g' H' (.lst acc) v Fv → Q v H') fun _ _ _ => False := fun {g6 H6 F6 s6 Fz acc'} p6 r6 k6 => by
        have r7 := p6.rs.wipe (own := own) p6.pn
        rw [wq] at r7
        exact ⟨g6, s6, dropF F6 own, acc', Fz, ⟨r7, fun b x ⟨l, y⟩ => p6.dj b x ⟨l, dropF_sub y⟩, p6.ch, fun b x => p6.sub b (x.imp (fun ⟨l, y⟩ => ⟨l, dropF_sub y⟩) id), p6.pn⟩, r6, k6⟩
      cases c with
      | false =>
        simp only [Bool.false_eq_true, if_false] at k5 ⊢
        obtain ⟨p6, r6, _⟩ := base (p4.trans p5)
        have p6' : PostS P (g1.np) H1 F1 g5 H5 F5 s5 σ' Fv := ⟨p6.rs, fun b x y => p6.dj b (.inl x) y, p6.ch, fun b x => p6.sub b (x.imp id .inl), p6.pn⟩
        exact fin p6' r6 k5
      | true =>
        simp only [if_true] at k5 ⊢
        have q5 := k5.bnd
        refine ⟨g5, s5, F5, p5.rs, q5.imp (fun s6 o k6 g6 H6 F6 v Fw p6 ro => ?_) fun _ _ _ z => z.elim⟩
        obtain ⟨p7, r7, d7⟩ := base ((p4.trans p5).trans p6)
        by_cases hz : acc.length < sizeLine
        · rw [if_pos hz] at k6
          cases r7 with
          | @lst _ _ vs Fa e7 z7 rl n7 =>
            refine ⟨vs, e7, by rw [← rl.len]; exact hz, ?_⟩
            have nF : ¬ Fw Dl := fun x => d7 Dl (.inl rfl) x
            obtain ⟨F8, r8, e8⟩ := rl.snoc ro fun b x y => d7 b (.inr x) y
            have cs : Ch (fun b => b = Dl) g6 H6 g6 (upd H6 Dl (.lst (vs ++ [v]))) := .setl ⟨_, e7, rfl⟩ z7
            have n8 : ¬ F8 Dl := fun x => ((e8 Dl).mp x).elim n7 nF
            have r9 : RepO P g6 (upd H6 Dl (.lst (vs ++ [v]))) (.lst (acc ++ [o])) (.ref Dl) (ins1 Dl F8) :=
              .lst upd_same z7 (r8.ch cs fun b x y => n8 (by rw [← y]; exact x)) n8
            have nt : ¬ tot F6 Dl := fun x => p7.dj Dl (.inl (.inl rfl)) x
            have nb : H1 Dl = none := hD
            refine fin (Fz := ins1 Dl F8) ⟨p7.rs.ch cs (fun b x y => nt (by rw [← y]; exact x)) rfl rfl (set_zd p7.rs.zd), fun b x y => ?_, p7.ch.trans cs fun b x => .inr (by rw [x]; exact nb), fun b x => ?_, p7.pn⟩ r9 k6
            · rcases x with x | x
              · subst x; exact nt y
              · rcases (e8 b).mp x with x | x
                · exact p7.dj b (.inl (.inr x)) y
                · exact p7.dj b (.inr x) y
            · rcases x with x | x | x
              · exact p7.sub b (.inl x)
              · subst x; exact .inr nb
              · rcases (e8 b).mp x with x | x
                · exact p7.sub b (.inr (.inl (.inr x)))
                · exact p7.sub b (.inr (.inr x))
        · rw [if_neg hz] at k6
          exact k6.elim
    · have e : i = is.length := by omega
      subst e
      rw [List.drop_length] at k2
      refine .inl ⟨(gv g2 H2 _ cg).2, ?_⟩
      have k2 : ∀ g' H' F' v Fv, PostS P g H F g' H' F' { s2 with sl := resto s1.sl own s2.sl } σ Fv → RepO P g' H' (.lst acc) v Fv → Q v H' := k2
      have cq : Ch emp g2 H2 (g2.wp g.pn) H2 := .repn
      exact k2 _ H2 _ (.ref Dl) Fv (PostS.over p p2 im) (ra.ch cq fun _ _ h => h.elim)
  · rw [if_neg im] at k
    exact k.elim
theorem ev_lc {elt tg iter : Expr} {ifs : List Expr} {scope : Scope} {own : List (Str × Nat)} {pos : Pos} {src : IM} {T : Tg} {t : BM} {f : EM} (hc : X.calm = true) (hN : X.N.Nodup) (hi : PI X tg iter (OkI ⟨X.K, n⟩ W src)) (ok : BlkOk X.N X.env.scope scope own)
    (hT : ∀ k ∈ slT T, k ∈ own.map (·.2))
    (hg : ∀ (s : Shared) (H : Hp) (C : Addr) (cl : List (Str × Addr)) (fp : List Addr), PG (X.blk s H scope (compEnvC scope cl C X.env) fp) tg (gOf X.K T)) (ht : ∀ (s : Shared) (H : Hp) (C : Addr) (cl : List (Str × Addr)) (fp : List Addr), PTs (X.blk s H scope (compEnvC scope cl C X.env) fp) ifs (OkB ⟨X.K, n⟩ W0 t))
    (he : ∀ (s : Shared) (H : Hp) (C : Addr) (cl : List (Str × Addr)) (fp : List Addr), PE (X.blk s H scope (compEnvC scope cl C X.env) fp) elt (OkE ⟨X.K, n⟩ W0 f)) (hs : ∀ x, foldedSetIterable iter X.env x = pure x := by intro _; rfl) :
    PE X (.ListComp elt [⟨tg, iter, ifs, 0⟩] scope pos) (OkE ⟨X.K, n⟩ W (eLc (own.map (·.2)) src T t f)) :=
  PE.imp (pe_lc hc hN hi ok hg ht he hs) fun _ _ _ h => lc_go (P := ⟨X.K, n⟩) hT h
theorem sv_setLc {i : Nat} {y : Str} {py : Pos} {elt tg iter : Expr} {ifs : List Expr} {scope : Scope} {own : List (Str × Nat)} {pos spos : Pos} {src : IM} {T : Tg} {t : BM} {f : EM} (hk : i ∉ io) (hc : X.calm = true) (hN : X.N.Nodup) (hy : X.N[i]? = some y) (hyl : X.env.scope.names.lookup y = some .local)
    (hsw : swapsWith (.ListComp elt [⟨tg, iter, ifs, 0⟩] scope pos) (some (.Name y py)) spos.line X.env = pure true) (hi : PI X tg iter (OkI ⟨X.K, n⟩ W src)) (ok : BlkOk X.N X.env.scope scope own)
    (hT : ∀ k ∈ slT T, k ∈ own.map (·.2))
    (hg : ∀ (s : Shared) (H : Hp) (C : Addr) (cl : List (Str × Addr)) (fp : List Addr), PG (X.blk s H scope (compEnvC scope cl C X.env) fp) tg (gOf X.K T)) (ht : ∀ (s : Shared) (H : Hp) (C : Addr) (cl : List (Str × Addr)) (fp : List Addr), PTs (X.blk s H scope (compEnvC scope cl C X.env) fp) ifs (OkB ⟨X.K, n⟩ W0 t))
    (he : ∀ (s : Shared) (H : Hp) (C : Addr) (cl : List (Str × Addr)) (fp : List Addr), PE (X.blk s H scope (compEnvC scope cl C X.env) fp) elt (OkE ⟨X.K, n⟩ W0 f)) (hs : ∀ x, foldedSetIterable iter X.env x = pure x := by intro _; rfl) :
    PS X (.Assign [.Name y py] (.ListComp elt [⟨tg, iter, ifs, 0⟩] scope pos) spos) (OkS ⟨X.K, n⟩ W io (sSet i (eLc (own.map (·.2)) src T t f))) :=
  PS.imp (ps_setLc hc hN hy hyl hsw hi ok hg ht he hs) fun D σ H h => lc_go (P := ⟨X.K, n⟩) hT (set_go hk h)
end
end VS

namespace VS
open PySem L2
section
variable {n : Pn} {W : WX} {X : Cx} {P : Pg} {e a b c tg : Expr} {es : List Expr} {g g' : Gh} {H H' : Hp} {st st' : St} {σ : L2.St} {F F' : Lo → Fp} {FX Fv : Fp} {pos : Pos}
/-! ### what a value is, read off -/
theorem RepF.non_inv {v} (r : RepF P g H .non v) : v = .non := by cases r with | im r => cases r; rfl
theorem RepF.bl_inv {x v} (r : RepF P g H (.bl x) v) : v = .bl x := by cases r with | im r => cases r; rfl
theorem RepF.int_inv {x v} (r : RepF P g H (.int x) v) : v = .int x := by cases r with | im r => cases r; rfl
theorem RepF.str_inv {x v} (r : RepF P g H (.str x) v) : v = .str x := by cases r with | im r => cases r; rfl
theorem RepF.lst_inv {l v} (r : RepF P g H (.lst l) v) : ∃ p vs, v = .ref p ∧ LsR P.K H p vs ∧ RepIL P g H l vs := by
  cases r with
  | im r => cases r with | lst h r => exact ⟨_, _, rfl, h.r, r⟩
  | lst h r => exact ⟨_, _, rfl, h, r⟩
theorem RepF.tup_inv {l v} (r : RepF P g H (.tup l) v) : ∃ p vs, v = .ref p ∧ SqT P.K H p vs ∧ RepIL P g H l vs := by
  cases r with
  | im r => cases r with | tup h r => exact ⟨_, _, rfl, h.sq, r⟩
theorem RepF.tup_im {l v} (r : RepF P g H (.tup l) v) : RepI P g H (.tup l) v := by
  cases r with
  | im r => exact r
/-- l's list or tuple -/
theorem RepF.seq_inv {i l v} (r : RepF P g H i v) (h : i = .lst l ∨ i = .tup l) : ∃ p vs, v = .ref p ∧ (SqL P.K H p vs ∨ SqT P.K H p vs) ∧ RepIL P g H l vs := by
  rcases h with rfl | rfl
  · obtain ⟨p, vs, a, b, c⟩ := r.lst_inv
    exact ⟨p, vs, a, .inl b.sq, c⟩
  · obtain ⟨p, vs, a, b, c⟩ := r.tup_inv
    exact ⟨p, vs, a, .inr b, c⟩
theorem RepFL.one {i vs} (r : RepFL P g H [i] vs) : ∃ v, vs = [v] ∧ RepF P g H i v := by
  cases r with | cons a b => cases b; exact ⟨_, rfl, a⟩
theorem RepFL.two {i j vs} (r : RepFL P g H [i, j] vs) : ∃ v u, vs = [v, u] ∧ RepF P g H i v ∧ RepF P g H j u := by
  cases r with | cons a b => cases b with | cons b c => cases c; exact ⟨_, _, rfl, a, b⟩
theorem RepFL.len {is vs} (r : RepFL P g H is vs) : is.length = vs.length := Paired.length r
/-- a new list -/
theorem PostR.newL {l : List I} {p vs} (hp : H p = none) (zd : ∀ b, g.Z b → ∃ o, H b = some o) (r : RepIL P g H l vs) : PostR P g H g (upd H p (.lst vs)) (.lst (l.map .im)) (.ref p) (ins1 p emp) where
  ro := .lst upd_same (fun z => by obtain ⟨o, e⟩ := zd p z; rw [hp] at e; cases e) (r.ch (.new hp)).o fun h => h
  ch := .new hp
  fr b h := h.elim (fun e => by rw [e]; exact hp) fun h => h.elim
  rho := rfl
  zz := rfl
  pn := rfl
/-- a new tuple -/
theorem PostR.newT {l : List I} {p vs} (hp : H p = none) (r : RepIL P g H l vs) : PostR P g H g (upd H p (.tup vs)) (.im (.tup l)) (.ref p) emp where
  ro := .im (.tup (.of upd_same) (r.ch (.new hp)))
  ch := .new hp
  fr _ h := h.elim
  rho := rfl
  zz := rfl
  pn := rfl
theorem RepIL.append {l m : List I} {vs ws} (a : RepIL P g H l vs) (b : RepIL P g H m ws) : RepIL P g H (l ++ m) (vs ++ ws) := by
  induction l generalizing vs with
  | nil => cases a; exact b
  | cons i l ih => cases a with | cons x y => exact .cons x (ih y)
theorem RepIL.drop {l : List I} {vs} (k : Nat) (a : RepIL P g H l vs) : RepIL P g H (l.drop k) (vs.drop k) := by
  induction k generalizing l vs with
  | zero => exact a
  | succ k ih => cases a with
    | nil => exact .nil
    | cons x y => exact ih y
theorem RepIL.take {l : List I} {vs} (k : Nat) (a : RepIL P g H l vs) : RepIL P g H (l.take k) (vs.take k) := by
  induction k generalizing l vs with
  | zero => exact .nil
  | succ k ih => cases a with
    | nil => exact .nil
    | cons x y => exact .cons x (ih y)
theorem RepIL.flat {l : List I} {vs} (k : Nat) (a : RepIL P g H l vs) : RepIL P g H (List.replicate k l).flatten (List.replicate k vs).flatten := by
  induction k with
  | zero => exact .nil
  | succ k ih => exact a.append ih
/-! ### arithmetic -/
def mulOk (i j : Int) : Bool := decide ((-(2 ^ 64) < i ∧ i < 2 ^ 64) ∨ (-(2 ^ 64) < j ∧ j < 2 ^ 64)) || decide (i.natAbs.log2 + j.natAbs.log2 < 1000000)
def rep62 (k : Int) : Bool := decide (-(2 ^ 62) < k ∧ k < 2 ^ 62)
def fAdd : List I → Option O
  | [.int i, .int j] => some (.im (.int (i + j)))
  | [.str i, .str j] => if i.length + j.length ≤ sizeLine then some (.im (.str (i ++ j))) else none
  | [.lst l, .lst m] => if l.length + m.length ≤ sizeLine then some (.lst ((l ++ m).map .im)) else none
  | [.tup l, .tup m] => if l.length + m.length ≤ sizeLine then some (.im (.tup (l ++ m))) else none
  | _ => none
def fSub : List I → Option O
  | [.int i, .int j] => some (.im (.int (i - j)))
  | _ => none
def strRep (x : Str) (k : Nat) : Str := ⟨(List.replicate k x.cps.toList).flatten.toArray⟩
def fMul : List I → Option O
  | [.int i, .int j] => if mulOk i j then some (.im (.int (i * j))) else none
  | [.str x, .int k] => if rep62 k && decide (x.length * k.toNat ≤ sizeLine) then some (.im (.str (strRep x k.toNat))) else none
  | [.lst l, .int k] => if rep62 k && decide (l.length * k.toNat ≤ sizeLine) then some (.lst ((List.replicate k.toNat l).flatten.map .im)) else none
  | [.tup l, .int k] => if decide (l ≠ [] ∧ -1000 ≤ k ∧ k ≤ 1000 ∧ l.length ≤ 1000) then some (.im (.tup (List.replicate k.toNat l).flatten)) else none
  | _ => none
def fdvOk (j : Int) : Bool := decide (0 < j ∧ j < 1073741824) || decide (0 < j ∧ j.natAbs.log2 < 9000)
def fFdv : List I → Option O
  | [.int i, .int j] => if fdvOk j then some (.im (.int (i / j))) else none
  | _ => none
def fMod : List I → Option O
  | [.int i, .int j] => if decide (0 < j) then some (.im (.int (i % j))) else none
  | _ => none
def fPow : List I → Option O
  | [.int i, .int j] => if decide (0 ≤ j ∧ j ≤ 1000000 ∧ i.natAbs < 2 ^ 64) then some (.im (.int (i ^ j.toNat))) else none
  | _ => none
def fNeg : List I → Option O
  | [.int i] => some (.im (.int (-i)))
  | _ => none
theorem q_int {i : Int} {o : O} {Q : VK} (q : ∀ g' H' v Fv, PostR P g H g' H' o v Fv → Q v H') (e : some (O.im (.int i)) = some o) : Q (.int i) H := by
  cases e; exact q g H _ emp (.same (.int i))
theorem q_bl {i : Bool} {o : O} {Q : VK} (q : ∀ g' H' v Fv, PostR P g H g' H' o v Fv → Q v H') (e : some (O.im (.bl i)) = some o) : Q (.bl i) H := by
  cases e; exact q g H _ emp (.same (.bl i))
theorem q_str {i : Str} {o : O} {Q : VK} (q : ∀ g' H' v Fv, PostR P g H g' H' o v Fv → Q v H') (e : some (O.im (.str i)) = some o) : Q (.str i) H := by
  cases e; exact q g H _ emp (.same (.str i))
/-- a list that may be read, as it stands in the heap -/
theorem rd_list {pins : List (Addr × Obj)} {s : Shared} {l : Addr} {xs : List V} (I : L2.Inv X pins σ H s) (h : LsR X.K H l xs) : xs.length ≤ sizeLine ∧ ∃ (its : List Value) (k : Nat), Vals xs its ∧ xs.length = its.length ∧ s.heap.get? l = some { cls := .type "list", data := .seq its.toArray k } := by
  rcases h with h | ⟨its, k, h, hz, rv⟩
  · obtain ⟨hz, its, k, rv, e⟩ := h.ok I.hok
    exact ⟨hz, its, k, rv, rv.length, e⟩
  · exact ⟨by rw [rv.length]; simpa using hz, its.toList, k, rv, rv.length, by simpa using I.kIn _ _ h⟩
theorem op_catR : OpR X (binaryOp .Add) fun x y H Q => ∃ l b xs zs, x = .ref l ∧ y = .ref b ∧ LsR X.K H l xs ∧ LsR X.K H b zs ∧ xs.length + zs.length ≤ sizeLine ∧ ∀ p, H p = none → Q (.ref p) (upd H p (.lst (xs ++ zs))) := by
  intro pins s σ H x y v u Q Iv rx ry h
  obtain ⟨l, b, xs, zs, rfl, rfl, h1, h2, hz, q⟩ := h
  cases rx
  cases ry
  obtain ⟨z1, is1, k1, v1, l1, e1⟩ := rd_list Iv h1
  obtain ⟨z2, is2, k2, v2, l2, e2⟩ := rd_list Iv h2
  have hs : is1.toArray.size + is2.toArray.size ≤ sizeLine := by simp only [List.size_toArray]; omega
  refine PySem.P.add_list e1 e2 ?_ hs
  rw [List.append_toArray]
  exact ⟨.ref s.heap.objs.size, _, Iv.lnew (t' := s.toks) (v1.append v2) (by rw [List.length_append]; exact hz), rfl, q _ Iv.fresh⟩
/-! tuple * int with an int below 2 -/
theorem tup_mul1 (l : Addr) (items : Array Value) (n : Nat) (dd : Option Addr) (sl : Array (Option Value)) (x : Int) (u : Tok) (c0 : (decide (x < -(2 ^ 63)) || decide (x ≥ 2 ^ 63)) = false) (c1 : (items.isEmpty || x == 1) = true) :
    Meets (Builtin.«tuple.__mul__» ⟨[.ref l, .int x u], []⟩) (fun _ R s => s.heap.get? l = some { cls := .type "tuple", dict := dd, data := .seq items n, slots := sl } ∧
      R (.ok (.ret (Value.ref l))) s) :=
  .of_wp fun prog w A R s h => by
    obtain ⟨hp, g, d, tk, os⟩ := s
    obtain ⟨hl, h⟩ := h
    have f1 := AutoSeq1.idx_int
    wp_walk using wpAny_loadPart' hl
    repeat (first
      | (refine wpAny_ite_false (decide_eq_false (by rw [c0]; exact Bool.false_ne_true)) ?_; wp_walk using wpAny_loadPart' hl)
      | (refine wpAny_ite_true (decide_eq_true c1) ?_; wp_walk using wpAny_loadPart' hl))
    exact ⟨_, rfl, h⟩
theorem tup_mul0 (l : Addr) (items : Array Value) (n : Nat) (dd : Option Addr) (sl : Array (Option Value)) (x : Int) (u : Tok) (c0 : (decide (x < -(2 ^ 63)) || decide (x ≥ 2 ^ 63)) = false) (c1 : (items.isEmpty || x == 1) = false) (c2 : (decide (x ≤ 0) || items.isEmpty) = true) :
    Meets (Builtin.«tuple.__mul__» ⟨[.ref l, .int x u], []⟩) (fun _ R s => s.heap.get? l = some { cls := .type "tuple", dict := dd, data := .seq items n, slots := sl } ∧
      R (.ok (.ret (Value.ref s.heap.objs.size))) { s with heap := s.heap.push { cls := Value.type "tuple", data := Data.seq #[] }, toks := s.toks }) :=
  .of_wp fun prog w A R s h => by
    obtain ⟨hp, g, d, tk, os⟩ := s
    obtain ⟨hl, h⟩ := h
    have f1 := AutoSeq1.idx_int
    wp_walk using wpAny_loadPart' hl
    repeat (first
      | (refine wpAny_ite_false (decide_eq_false (by rw [c0]; exact Bool.false_ne_true)) ?_; wp_walk using wpAny_loadPart' hl)
      | (refine wpAny_ite_false (decide_eq_false (by rw [c1]; exact Bool.false_ne_true)) ?_; wp_walk using wpAny_loadPart' hl)
      | (refine wpAny_ite_true (decide_eq_true c2) ?_; wp_walk using wpAny_loadPart' hl))
    exact ⟨_, rfl, h⟩
theorem op_repT1 : OpR X (binaryOp .Mult) fun x y H Q => ∃ l xs, x = .ref l ∧ y = .int 1 ∧ SqT X.K H l xs ∧ Q (.ref l) H := by
  intro pins s σ H x y v u Q I rx ry h
  obtain ⟨l, xs, rfl, rfl, hT, q⟩ := h
  cases rx
  obtain ⟨t, rfl⟩ := ry
  obtain ⟨its, r, ⟨⟨cls, dd, data, sl⟩, ho, hc, n, hd⟩, hs⟩ := I.tuple hT
  simp only at hc hd
  subst hc hd
  have c1 : (its.toArray.isEmpty || (1 : Int) == 1) = true := by simp
  refine wpAny_binaryOp_repeat_ref (T := "tuple") (U := "int") (by decide) ⟨_, ho, rfl⟩ (fun s' => typeIs_int s' 1 t) noFill_tuple_mul F.fills_int_mul F.slot_int_rmul repeat_tuple F.slot_int_index.lookup
    (call_meets F.slot_int_rmul (typeIs_int s 1 t) F.entry_int_rmul (F.args_int_rmul_2 _ _) (int_rmul_tuple 1 t l its.toArray n dd sl)
      ⟨ho, rfl, ⟨_, ho, rfl⟩, call_meets F.slot_tuple_mul ⟨_, ho, rfl⟩ F.entry_tuple_mul (F.args_tuple_mul_2 _ _) (tup_mul1 l its.toArray n dd sl 1 t (by decide) c1) ⟨ho, ?_⟩⟩)
  exact ⟨.ref l, H, I, rfl, q⟩
theorem op_repT0 : OpR X (binaryOp .Mult) fun x y H Q => ∃ l k xs, x = .ref l ∧ y = .int k ∧ SqT X.K H l xs ∧ xs ≠ [] ∧ -1000 ≤ k ∧ k ≤ 0 ∧ ∀ p, H p = none → Q (.ref p) (upd H p (.tup [])) := by
  intro pins s σ H x y v u Q I rx ry h
  obtain ⟨l, k, xs, rfl, rfl, hT, hne, h1, h2, q⟩ := h
  cases rx
  obtain ⟨t, rfl⟩ := ry
  obtain ⟨its, r, ⟨⟨cls, dd, data, sl⟩, ho, hc, n, hd⟩, hs⟩ := I.tuple hT
  simp only at hc hd
  subst hc hd
  have hle : its.length = xs.length := r.length.symm
  have hn : its ≠ [] := fun e => hne (by
    rw [e] at hle
    exact List.eq_nil_of_length_eq_zero hle.symm)
  have hi : its.toArray.isEmpty = false := by
    cases its with
    | nil => exact absurd rfl hn
    | cons a b => rfl
  have c0 : (decide (k < -(2 ^ 63)) || decide (k ≥ 2 ^ 63)) = false := by
    rw [decide_eq_false (by omega), decide_eq_false (by omega)] <;> rfl
  have c1 : (its.toArray.isEmpty || k == 1) = false := by
    rw [hi, Bool.false_or]
    exact beq_eq_false_iff_ne.mpr (by omega)
  have c2 : (decide (k ≤ 0) || its.toArray.isEmpty) = true := by
    rw [hi, Bool.or_false]
    exact decide_eq_true h2
  refine wpAny_binaryOp_repeat_ref (T := "tuple") (U := "int") (by decide) ⟨_, ho, rfl⟩ (fun s' => typeIs_int s' k t) noFill_tuple_mul F.fills_int_mul F.slot_int_rmul repeat_tuple F.slot_int_index.lookup
    (call_meets F.slot_int_rmul (typeIs_int s k t) F.entry_int_rmul (F.args_int_rmul_2 _ _) (int_rmul_tuple k t l its.toArray n dd sl)
      ⟨ho, rfl, ⟨_, ho, rfl⟩, call_meets F.slot_tuple_mul ⟨_, ho, rfl⟩ F.entry_tuple_mul (F.args_tuple_mul_2 _ _) (tup_mul0 l its.toArray n dd sl k t c0 c1 c2) ⟨ho, ?_⟩⟩)
  refine ⟨.ref s.heap.objs.size, _, I.laid (t' := s.toks) (o := .tup []) (fun b ob q => Heap.get?_push_of_some _ q) (Nat.le_refl _) ?_, rfl, q _ (I.hok.fresh (Nat.le_refl _))⟩
  exact ⟨by simp, [], .nil, PyProof.Rows.IsTup.new _ _⟩
theorem op_repR : OpR X (binaryOp .Mult) fun x y H Q => ∃ l k xs, x = .ref l ∧ y = .int k ∧ LsR X.K H l xs ∧ -(2 ^ 63) ≤ k ∧ k < 2 ^ 63 ∧ xs.length * k.toNat ≤ sizeLine ∧
    ∀ p, H p = none → Q (.ref p) (upd H p (.lst (List.replicate k.toNat xs).flatten)) := by
  intro pins s σ H x y v u Q Iv rx ry hyp
  obtain ⟨l, k, xs, rfl, rfl, h1, lo, hi, hsz, q⟩ := hyp
  cases rx
  obtain ⟨tk, rfl⟩ := ry
  obtain ⟨z1, is1, k1, v1, l1, e1⟩ := rd_list Iv h1
  have sz : is1.toArray.size * k.toNat ≤ sizeLine := by simpa [← l1] using hsz
  have c1 : ¬ is1.toArray.size * k.toNat > (2 ^ 63 - 1) / 8 := fun z => by
    have y : (sizeLine : Nat) ≤ (2 ^ 63 - 1) / 8 := by decide
    omega
  have c2 : ¬ (!Builtin.List.listFitsIndex k) = true := by rw [fitsIndex_both lo hi]; decide
  have c3 : ¬ Builtin.List.listTooLong (is1.toArray.size * k.toNat) = true := by rw [notLongL sz]; decide
  have all : ∀ (m : Nat) (acc : List Value), (List.replicate m is1.toArray).foldl (fun a b => a ++ b) acc.toArray = (acc ++ (List.replicate m is1).flatten).toArray := by
    intro m
    induction m with
    | zero => intro acc; simp
    | succ m ih =>
      intro acc
      rw [List.replicate_succ, List.foldl_cons, List.append_toArray, ih, List.replicate_succ, List.flatten_cons, List.append_assoc]
  have made : (List.replicate (if is1.toArray.isEmpty = true then 0 else k.toNat) is1.toArray).foldl (fun a b => a ++ b) #[] = (List.replicate k.toNat is1).flatten.toArray := by
    have all0 := fun m => (all m []).trans (by rw [List.nil_append])
    cases is1 with
    | nil => exact (all0 _).trans (by simp)
    | cons y ys =>
      rw [if_neg (by simp)]
      exact all0 _
  have lst : s.TypeIs (.ref l) "list" := ⟨_, e1, rfl⟩
  refine wpAny_binaryOp_repeat_ref (T := "list") (U := "int") (by decide) lst (fun _ => typeIs_int _ k tk)
    noFill_list_mul F.fills_int_mul F.slot_int_rmul repeat_list F.slot_int_index.lookup ?_
  refine call_meets F.slot_int_rmul (typeIs_int s k tk) F.entry_int_rmul (F.args_int_rmul_2 _ _)
    (int___rmul___int_list k tk l is1.toArray k1) ⟨e1, rfl, lst, ?_⟩
  refine call_meets F.slot_list_mul lst F.entry_list_mul (F.args_list_mul_2 _ _)
    (AutoListH.list___mul___list_int_3 l is1.toArray k1 k tk c2 c1 c3) ⟨e1, ?_⟩
  rw [made]
  refine ⟨.ref s.heap.objs.size, _, Iv.lnew (t' := s.toks) (v1.rep k.toNat) ?_, rfl, q _ Iv.fresh⟩
  rw [PyProof.Rows.lm_len_rep_flat, Nat.mul_comm]
  exact hsz
theorem or_add : OpR X (binaryOp .Add) fun x y => RdOp ⟨X.K, n⟩ fAdd [x, y] := by
  intro pins s σ H x y v u Q Iv rx ry h
  obtain ⟨g, is, zd, hr, o, ho, q⟩ := h
  unfold fAdd at ho
  split at ho
  · obtain ⟨_, _, ev, h1, h2⟩ := hr.two
    cases ev
    cases h1.int_inv
    cases h2.int_inv
    exact op_add pins s σ H _ _ v u Q Iv rx ry ⟨_, _, rfl, rfl, q_int q ho⟩
  · split at ho
    · obtain ⟨_, _, ev, h1, h2⟩ := hr.two
      cases ev
      cases h1.str_inv
      cases h2.str_inv
      exact op_add_str pins s σ H _ _ v u Q Iv rx ry ⟨_, _, rfl, rfl, by assumption, q_str q ho⟩
    · cases ho
  · split at ho
    · obtain ⟨_, _, ev, h1, h2⟩ := hr.two
      cases ev
      obtain ⟨p, vs, rfl, hp, r1⟩ := h1.lst_inv
      obtain ⟨p', vs', rfl, hp', r2⟩ := h2.lst_inv
      cases ho
      exact op_catR pins s σ H _ _ v u Q Iv rx ry ⟨_, _, _, _, rfl, rfl, hp, hp', by rw [← r1.len, ← r2.len]; assumption, fun p hn => q _ _ _ _ (.newL hn zd (r1.append r2))⟩
    · cases ho
  · split at ho
    · obtain ⟨_, _, ev, h1, h2⟩ := hr.two
      cases ev
      have i1 := h1.tup_im
      have i2 := h2.tup_im
      obtain ⟨p, vs, rfl, hp, r1⟩ := h1.tup_inv
      obtain ⟨p', vs', rfl, hp', r2⟩ := h2.tup_inv
      cases ho
      refine op_catA pins s σ H _ _ v u Q Iv rx ry ⟨_, _, _, _, rfl, rfl, hp, hp', by rw [← r1.len, ← r2.len]; assumption, fun e => ?_, fun _ e => ?_, fun _ _ p hn => q _ _ _ _ (.newT hn (r1.append r2))⟩
      · subst e
        cases r1
        exact q g H _ emp (.same i2)
      · subst e
        cases r2
        rw [List.append_nil] at q
        exact q g H _ emp (.same i1)
    · cases ho
  · cases ho
theorem or_sub : OpR X (binaryOp .Sub) fun x y => RdOp ⟨X.K, n⟩ fSub [x, y] := by
  intro pins s σ H x y v u Q Iv rx ry h
  obtain ⟨g, is, zd, hr, o, ho, q⟩ := h
  unfold fSub at ho
  split at ho
  · obtain ⟨_, _, ev, h1, h2⟩ := hr.two
    cases ev
    cases h1.int_inv
    cases h2.int_inv
    exact op_sub pins s σ H _ _ v u Q Iv rx ry ⟨_, _, rfl, rfl, q_int q ho⟩
  · cases ho
theorem or_fdv : OpR X (binaryOp .FloorDiv) fun x y => RdOp ⟨X.K, n⟩ fFdv [x, y] := by
  intro pins s σ H x y v u Q Iv rx ry h
  obtain ⟨g, is, zd, hr, o, ho, q⟩ := h
  unfold fFdv at ho
  split at ho
  · obtain ⟨_, _, ev, h1, h2⟩ := hr.two
    cases ev
    cases h1.int_inv
    cases h2.int_inv
    split at ho
    · rename_i hc
      rcases Bool.or_eq_true_iff.mp (show fdvOk _ = true from hc) with hc | hc
      · have hc2 := of_decide_eq_true hc
        exact op_fdiv pins s σ H _ _ v u Q Iv rx ry ⟨_, _, rfl, rfl, hc2, q_int q ho⟩
      · have hc2 := of_decide_eq_true hc
        exact op_fdivW pins s σ H _ _ v u Q Iv rx ry ⟨_, _, rfl, rfl, hc2, q_int q ho⟩
    · cases ho
  · cases ho
theorem or_mod : OpR X (binaryOp .Mod) fun x y => RdOp ⟨X.K, n⟩ fMod [x, y] := by
  intro pins s σ H x y v u Q Iv rx ry h
  obtain ⟨g, is, zd, hr, o, ho, q⟩ := h
  unfold fMod at ho
  split at ho
  · obtain ⟨_, _, ev, h1, h2⟩ := hr.two
    cases ev
    cases h1.int_inv
    cases h2.int_inv
    split at ho
    · rename_i hc
      have hc2 := of_decide_eq_true hc
      exact op_mod pins s σ H _ _ v u Q Iv rx ry ⟨_, _, rfl, rfl, hc2, q_int q ho⟩
    · cases ho
  · cases ho
theorem or_pow : OpR X (binaryOp .Pow) fun x y => RdOp ⟨X.K, n⟩ fPow [x, y] := by
  intro pins s σ H x y v u Q Iv rx ry h
  obtain ⟨g, is, zd, hr, o, ho, q⟩ := h
  unfold fPow at ho
  split at ho
  · obtain ⟨_, _, ev, h1, h2⟩ := hr.two
    cases ev
    cases h1.int_inv
    cases h2.int_inv
    split at ho
    · rename_i hc
      have hc2 := of_decide_eq_true hc
      exact op_pow pins s σ H _ _ v u Q Iv rx ry ⟨_, _, rfl, rfl, hc2, q_int q ho⟩
    · cases ho
  · cases ho
theorem foldl_rep (x : Array Nat) : ∀ (k : Nat) (acc : Array Nat), ((List.replicate k x).foldl (· ++ ·) acc).toList = acc.toList ++ (List.replicate k x.toList).flatten
  | 0, acc => by simp
  | k + 1, acc => by
    rw [List.replicate_succ, List.foldl_cons, foldl_rep x k (acc ++ x), List.replicate_succ, List.flatten_cons, Array.toList_append, List.append_assoc]
theorem or_mul : OpR X (binaryOp .Mult) fun x y => RdOp ⟨X.K, n⟩ fMul [x, y] := by
  intro pins s σ H x y v u Q Iv rx ry h
  obtain ⟨g, is, zd, hr, o, ho, q⟩ := h
  unfold fMul at ho
  split at ho
  · obtain ⟨_, _, ev, h1, h2⟩ := hr.two
    cases ev
    cases h1.int_inv
    cases h2.int_inv
    split at ho
    · rename_i hc
      unfold mulOk at hc
      rcases Bool.or_eq_true_iff.mp hc with hc | hc
      · have hc2 := of_decide_eq_true hc
        exact op_mul pins s σ H _ _ v u Q Iv rx ry ⟨_, _, rfl, rfl, hc2, q_int q ho⟩
      · have hc2 := of_decide_eq_true hc
        exact op_mulW pins s σ H _ _ v u Q Iv rx ry ⟨_, _, rfl, rfl, hc2, q_int q ho⟩
    · cases ho
  · obtain ⟨_, _, ev, h1, h2⟩ := hr.two
    cases ev
    cases h1.str_inv
    cases h2.int_inv
    rename_i x k
    split at ho
    · rename_i hc
      obtain ⟨h3, h4⟩ := Bool.and_eq_true_iff.mp hc
      have h3 : -(2 ^ 62) < k ∧ k < 2 ^ 62 := of_decide_eq_true h3
      have h4 : x.length * k.toNat ≤ sizeLine := of_decide_eq_true h4
      obtain ⟨t, rfl⟩ := rx
      obtain ⟨t', rfl⟩ := ry
      cases ho
      have b63 : (decide (k < -(2 ^ 63 : Int)) || decide (k ≥ 2 ^ 63)) = false := by
        have e1 : ¬ k < -(2 ^ 63 : Int) := by omega
        have e2 : ¬ k ≥ 2 ^ 63 := by omega
        rw [decide_eq_false e1, decide_eq_false e2]; rfl
      have hz : sizeLine = 16777216 := sizeLine_eq
      refine PySem.P.mul_str b63 (fun hn hb => ?_) (fun hn hb => ?_) ?_
      · have hk : 0 < k := by omega
        have : (x.length : Int) * k ≤ 16777216 := by
          have e : ((x.length * k.toNat : Nat) : Int) = (x.length : Int) * k := by
            rw [Int.natCast_mul, Int.toNat_of_nonneg (by omega)]
          rw [← e]
          omega
        have h5 : (x.length : Int) ≤ (2 ^ 63 - 1) / k := by
          rw [Int.le_ediv_iff_mul_le hk]
          omega
        omega
      · unfold Builtin.Str.tooLong
        exact decide_eq_false (by omega)
      · split
        · rename_i hk
          have e : strRep x k.toNat = Str.empty := by
            have : k.toNat = 0 := by omega
            simp [strRep, this, Str.empty]
          refine ⟨by decide, ⟨.str _, H, Iv.tok _, ⟨_, rfl⟩, ?_⟩⟩
          rw [← e]
          exact q g H _ emp (.same (.str _))
        · split
          · rename_i h1 h2
            have e : strRep x k.toNat = x := by
              rcases Bool.or_eq_true_iff.mp h2 with h2 | h2
              · have : k = 1 := by simpa using h2
                subst this
                simp [strRep]
              · have h2 : x.length = 0 := by simpa using h2
                have h2 : x.cps = #[] := by simpa [Str.length] using h2
                have : ∀ m, (List.replicate m ([] : List Nat)).flatten = [] := fun m => by induction m <;> simp_all [List.replicate_succ]
                cases x
                simp only at h2
                subst h2
                simp [strRep, this]
            refine ⟨.str _, H, Iv, ⟨_, rfl⟩, ?_⟩
            rw [← e]
            exact q g H _ emp (.same (.str _))
          · have e : (⟨(List.replicate k.toNat x.cps).foldl (· ++ ·) #[]⟩ : Str) = strRep x k.toNat := by
              unfold strRep
              congr 1
              apply Array.toList_inj.mp
              rw [foldl_rep]
              simp
            rw [e]
            refine ⟨?_, ⟨.str _, H, Iv.tok _, ⟨_, rfl⟩, q g H _ emp (.same (.str _))⟩⟩
            show (strRep x k.toNat).length ≤ sizeLine
            have : (strRep x k.toNat).length = k.toNat * x.length := by
              simp [strRep, Str.length, List.length_flatten]
            rw [this, Nat.mul_comm]
            exact h4
    · cases ho
  · obtain ⟨_, _, ev, h1, h2⟩ := hr.two
    cases ev
    obtain ⟨p, vs, rfl, hp, r1⟩ := h1.lst_inv
    cases h2.int_inv
    split at ho
    · rename_i hc
      obtain ⟨h3, h4⟩ := Bool.and_eq_true_iff.mp hc
      have h3 := of_decide_eq_true h3
      have h4 := of_decide_eq_true h4
      cases ho
      exact op_repR pins s σ H _ _ v u Q Iv rx ry ⟨_, _, _, rfl, rfl, hp, by omega, by omega, by rw [← r1.len]; exact h4, fun p hn => q _ _ _ _ (.newL hn zd (r1.flat _))⟩
    · cases ho
  · obtain ⟨_, _, ev, h1, h2⟩ := hr.two
    cases ev
    obtain ⟨p, vs, rfl, hp, r1⟩ := h1.tup_inv
    cases h2.int_inv
    split at ho
    · rename_i hc
      obtain ⟨h3, h4, h5, h6⟩ := of_decide_eq_true hc
      cases ho
      rename_i _ l k
      rcases (by omega : k ≤ 0 ∨ k = 1 ∨ 2 ≤ k) with k0 | k1 | k2
      · have e0 : (List.replicate k.toNat l).flatten = [] := by
          have : k.toNat = 0 := by omega
          rw [this]; rfl
        rw [e0] at q
        refine op_repT0 pins s σ H _ _ v u Q Iv rx ry ⟨_, _, _, rfl, rfl, hp, fun e => ?_, h4, k0, fun p hn => q _ _ _ _ (.newT hn .nil)⟩
        subst e
        cases r1
        exact h3 rfl
      · subst k1
        have e0 : ∀ l : List I, (List.replicate (1 : Int).toNat l).flatten = l := fun l => by simp
        rw [e0] at q
        exact op_repT1 pins s σ H _ _ v u Q Iv rx ry ⟨_, _, rfl, rfl, hp, q g H _ emp (.same h1.tup_im)⟩
      refine op_repT pins s σ H _ _ v u Q Iv rx ry ⟨_, _, _, rfl, rfl, hp, fun e => ?_, k2, h5, by rw [← r1.len]; exact h6, fun p hn => q _ _ _ _ (.newT hn (r1.flat _))⟩
      subst e
      cases r1
      exact h3 rfl
    · cases ho
  · cases ho
end
end VS

namespace VS
open PySem L2
/-! ### keys -/
def dkOf : Bool → I → Option DK
  | false, i => (keyI i).map .inl
  | true, .tup l => (keyL l).map .inr
  | true, _ => none
def lookD {α : Type} (kvs : List (DK × α)) (k : DK) : Option α := (kvs.find? fun q => decide (q.1 = k)).map Prod.snd
/-! ### data -/
mutual
def toD : I → Option PyData
  | .non => some .none
  | .bl b => some (.bool b)
  | .int i => some (.int i)
  | .str s => some (.str s)
  | .tup l => (toDL l).map .tuple
  | .lst l => (toDL l).map .list
  | .dct _ _ => none
  | .ref _ => none
  | .fn _ => none
def toDL : List I → Option (List PyData)
  | [] => some []
  | i :: is => match toD i, toDL is with
    | some d, some ds => some (d :: ds)
    | _, _ => none
end
def okD (d : PyData) : Bool := d.canLay0
def fEqB (neg : Bool) : List I → Option O
  | [.str x, .str y] => some (.im (.bl (if neg then !decide (x = y) else decide (x = y))))
  | [i, j] => match toD i, toD j with
    | some d, some e => if okD d && okD e && decide (min d.depth e.depth ≤ 120) then some (.im (.bl (if neg then !PyData.eqv d e else PyData.eqv d e))) else none
    | _, _ => none
  | _ => none
def fEq : List I → Option O := fEqB false
def fNe : List I → Option O := fEqB true
def strLt (x y : Str) : Bool := decide (x.cps.toList < y.cps.toList)
def fLt : List I → Option O
  | [.int i, .int j] => some (.im (.bl (decide (i < j))))
  | [.str i, .str j] => some (.im (.bl (strLt i j)))
  | _ => none
def fLe : List I → Option O
  | [.int i, .int j] => some (.im (.bl (decide (i ≤ j))))
  | [.str i, .str j] => some (.im (.bl (!strLt j i)))
  | _ => none
def fGt : List I → Option O
  | [.int i, .int j] => some (.im (.bl (decide (j < i))))
  | [.str i, .str j] => some (.im (.bl (strLt j i)))
  | _ => none
def fGe : List I → Option O
  | [.int i, .int j] => some (.im (.bl (decide (j ≤ i))))
  | [.str i, .str j] => some (.im (.bl (!strLt i j)))
  | _ => none
def isNon : I → Bool
  | .non => true
  | _ => false
def fIsB (neg : Bool) : List I → Option O
  | [i, .non] => some (.im (.bl (if neg then !isNon i else isNon i)))
  | [.bl a, .bl b] => some (.im (.bl (if neg then !decide (a = b) else decide (a = b))))
  | _ => none
def fIs : List I → Option O := fIsB false
def fIsNot : List I → Option O := fIsB true
/-- in -/
def flatI : I → Bool
  | .non => true
  | .bl _ => true
  | .int _ => true
  | .str _ => true
  | _ => false
def eqI : I → I → Bool
  | .non, .non => true
  | .bl a, .bl b => a == b
  | .bl a, .int b => (if a then 1 else 0) == b
  | .int a, .bl b => a == (if b then 1 else 0)
  | .int a, .int b => a == b
  | .str a, .str b => a == b
  | _, _ => false
def inI (x : I) (l : List I) : Bool := l.any fun y => eqI y x
def one? (x : Str) : Option Nat := match x.cps.toList with
  | [c] => some c
  | _ => none
def inL (i : I) (l : List I) : Option Bool := if flatI i && l.all flatI then some (inI i l) else none
def inDeep (i : I) (l : List I) : Option Bool := match toD i, toDL l with
  | some d, some ds => if okD d && okD (.list ds) && decide (d.depth ≤ 60) && decide ((PyData.list ds).depth ≤ 60) then some (ds.any fun z => PyData.eqv z d) else none
  | _, _ => none
def inOp : List I → Option Bool
  | [.str x, .str z] => match one? x with
    | some c => some (decide (c ∈ z.cps.toList))
    | none => some (!(Builtin.Str.occurrences z x 0 z.length 1).isEmpty)
  | [i, .tup l] => inL i l
  | [i, .lst l] => match inL i l with
    | some b => some b
    | none => inDeep i l
  | [i, .dct t kvs] => (dkOf t i).map fun k => (lookD kvs k).isSome
  | _ => none
def fIn (l : List I) : Option O := (inOp l).map fun b => .im (.bl b)
def fNotIn (l : List I) : Option O := (inOp l).map fun b => .im (.bl (!b))
/-! subscripts -/
def fIx : List I → Option O
  | [.lst l, .int i] => (atI l i).map .im
  | [.tup l, .int i] => (atI l i).map .im
  | [.str z, .int i] => if z.length ≤ sizeLine then (atI z.cps.toList i).map fun c => .im (.str ⟨#[c]⟩) else none
  | [.dct t kvs, i] => match dkOf t i with
    | some k => (lookD kvs k).map .im
    | none => none
  | _ => none
def lenI : List I → Option Nat
  | [.lst l] => some l.length
  | [.tup l] => some l.length
  | [.str z] => if z.length ≤ sizeLine then some z.length else none
  | [.dct _ kvs] => some kvs.length
  | _ => none
def fLen (l : List I) : Option O := (lenI l).map fun k => .im (.int (k : Nat))
def fAbs : List I → Option O
  | [.int i] => some (.im (.int (if i < 0 then -i else i)))
  | _ => none
def fMax : List I → Option O
  | [.int i, .int j] => some (.im (.int (if j > i then j else i)))
  | _ => none
def fMin : List I → Option O
  | [.int i, .int j] => some (.im (.int (if j < i then j else i)))
  | _ => none
def blsOf : List I → Option (List Bool)
  | [] => some []
  | .bl b :: r => (blsOf r).map (b :: ·)
  | _ => none
def fAll : List I → Option O
  | [.lst l] => (blsOf l).map fun bs => .im (.bl (bs.all id))
  | _ => none
def fAny : List I → Option O
  | [.lst l] => (blsOf l).map fun bs => .im (.bl (bs.any id))
  | _ => none
def strsOf : List I → Option (List Str)
  | [] => some []
  | .str b :: r => (strsOf r).map (b :: ·)
  | _ => none
def jn (a : Str) (l : List I) : Option O := match strsOf l with
  | some ys => if (ys.map (·.length)).sum + ys.length * a.length ≤ 16777216 then some (.im (.str (Txt.join a ys))) else none
  | none => none
def fJoin : List I → Option O
  | [.str a, .lst l] => jn a l
  | [.str a, .tup l] => jn a l
  | _ => none
def fList : List I → Option O
  | [.lst l] => some (.lst (l.map .im))
  | [.tup l] => some (.lst (l.map .im))
  | [.str z] => if z.length ≤ sizeLine then some (.lst ((chars z).map .im)) else none
  | _ => none
def fTuple : List I → Option O
  | [.lst l] => some (.im (.tup l))
  | [.tup l] => some (.im (.tup l))
  | _ => none
def fStr : List I → Option O
  | [.int i] => if i.natAbs.log2 < 1920 then some (.im (.str (toString i))) else none
  | [.str a] => some (.im (.str a))
  | _ => none
def tyI : I → Option String
  | .non => some "NoneType"
  | .bl _ => some "bool"
  | .int _ => some "int"
  | .str _ => some "str"
  | .tup _ => some "tuple"
  | .lst _ => some "list"
  | .dct _ _ => some "dict"
  | _ => none
def isTy (t T : String) : Bool := t == T || (t == "bool" && T == "int")
def fIsi (T : String) : List I → Option O
  | [i] => (tyI i).map fun t => .im (.bl (isTy t T))
  | _ => none
def fIsiT (Ts : List String) : List I → Option O
  | [i] => (tyI i).map fun t => .im (.bl (Ts.any fun T => isTy t T))
  | _ => none
section
variable {n : Pn} {W : WX} {X : Cx} {P : Pg} {e a b c tg : Expr} {es : List Expr} {g g' : Gh} {H H' : Hp} {st st' : St} {σ : L2.St} {F F' : Lo → Fp} {FX Fv : Fp} {pos : Pos}
mutual
theorem RepI.dp : ∀ {i : I} {v d}, RepI P g H i v → toD i = some d → Dp P.K H v d
  | .non, _, _, r, h => by cases r; cases h; exact .non
  | .bl _, _, _, r, h => by cases r; cases h; exact .bl _
  | .int _, _, _, r, h => by cases r; cases h; exact .int _
  | .str _, _, _, r, h => by cases r; cases h; exact .str _
  | .tup l, _, _, r, h => by
    unfold toD at h
    obtain ⟨ds, e, rfl⟩ := Option.map_eq_some_iff.mp h
    cases r with | tup a b => exact .tup a.sq (RepIL.dp b e)
  | .lst l, _, _, r, h => by
    unfold toD at h
    obtain ⟨ds, e, rfl⟩ := Option.map_eq_some_iff.mp h
    cases r with | lst a b => exact .lst a.sq (RepIL.dp b e)
  | .dct _ _, _, _, _, h => by cases h
  | .ref _, _, _, _, h => by cases h
  | .fn _, _, _, _, h => by cases h
theorem RepIL.dp : ∀ {l : List I} {vs ds}, RepIL P g H l vs → toDL l = some ds → DpAll P.K H vs ds
  | [], _, _, r, h => by cases r; cases h; exact .nil
  | i :: l, _, _, r, h => by
    unfold toDL at h
    cases r with
    | cons a b =>
      split at h
      · rename_i h1 h2
        cases h
        exact .cons (RepI.dp a h1) (RepIL.dp b h2)
      · cases h
end
theorem RepF.dp {i : I} {v d} (r : RepF P g H i v) (h : toD i = some d) : Dp P.K H v d := by
  cases r with
  | im r => exact r.dp h
  | lst h1 r =>
    unfold toD at h
    obtain ⟨ds, e, rfl⟩ := Option.map_eq_some_iff.mp h
    exact .lst h1.sq (r.dp e)
  | dctK _ _ _ => cases h
  | dctT _ _ _ => cases h
/-- what OpR asks, for a comparison by == -/
theorem or_eqB {neg : Bool} {op : CmpOp} (ho : op = if neg then .NotEq else .Eq) (hu : X.A.units + 120 < cLine) : OpR X (compareOp op) fun x y => RdOp ⟨X.K, n⟩ (fEqB neg) [x, y] := by
  intro pins s σ H x y v u Q Iv rx ry h
  obtain ⟨g, is, zd, hr, o, ho', q⟩ := h
  unfold fEqB at ho'
  split at ho'
  · obtain ⟨_, _, ev, r1, r2⟩ := hr.two
    cases ev
    cases r1.str_inv
    cases r2.str_inv
    have hq := q_bl q ho'
    rename_i a b
    have e : decide (V.str a = V.str b) = decide (a = b) := by simp
    subst ho
    cases neg with
    | false => exact L2.op_eq pins s σ H _ _ v u Q Iv rx ry ⟨rfl, by rw [e]; exact hq⟩
    | true => exact L2.op_ne pins s σ H _ _ v u Q Iv rx ry ⟨rfl, by rw [e]; exact hq⟩
  · split at ho'
    · rename_i d e hd he
      split at ho'
      · rename_i hc
        obtain ⟨hc, h3⟩ := Bool.and_eq_true_iff.mp hc
        obtain ⟨h1, h2⟩ := Bool.and_eq_true_iff.mp hc
        have h3 : min d.depth e.depth ≤ 120 := of_decide_eq_true h3
        obtain ⟨_, _, ev, r1, r2⟩ := hr.two
        cases ev
        obtain ⟨as, p1⟩ := Dp.reads Iv d x v (r1.dp hd) rx
        obtain ⟨bs, p2⟩ := Dp.reads Iv e y u (r2.dp he) ry
        have hq := q_bl q ho'
        subst ho
        cases neg with
        | false => exact PySem.SeqAt.compareEq_reads p1 p2 h1 h2 (by omega) ⟨.bl _, H, Iv, rfl, hq⟩
        | true => exact PySem.SeqAt.compareNe_reads p1 p2 h1 h2 (by omega) ⟨.bl _, H, Iv, rfl, hq⟩
      · cases ho'
    · cases ho'
  · cases ho'
theorem or_eq (hu : X.A.units + 120 < cLine) : OpR X (compareOp .Eq) fun x y => RdOp ⟨X.K, n⟩ fEq [x, y] := or_eqB (neg := false) rfl hu
theorem or_ne (hu : X.A.units + 120 < cLine) : OpR X (compareOp .NotEq) fun x y => RdOp ⟨X.K, n⟩ fNe [x, y] := or_eqB (neg := true) rfl hu
theorem or_lt : OpR X (compareOp .Lt) fun x y => RdOp ⟨X.K, n⟩ fLt [x, y] := by
  intro pins s σ H x y v u Q Iv rx ry h
  obtain ⟨g, is, zd, hr, o, ho, q⟩ := h
  unfold fLt at ho
  split at ho
  · obtain ⟨_, _, ev, h1, h2⟩ := hr.two
    cases ev
    cases h1.int_inv
    cases h2.int_inv
    exact op_lt pins s σ H _ _ v u Q Iv rx ry ⟨_, _, rfl, rfl, q_bl q ho⟩
  · obtain ⟨_, _, ev, h1, h2⟩ := hr.two
    cases ev
    cases h1.str_inv
    cases h2.str_inv
    exact op_lt_str pins s σ H _ _ v u Q Iv rx ry ⟨_, _, rfl, rfl, q_bl q ho⟩
  · cases ho
theorem or_le : OpR X (compareOp .LtE) fun x y => RdOp ⟨X.K, n⟩ fLe [x, y] := by
  intro pins s σ H x y v u Q Iv rx ry h
  obtain ⟨g, is, zd, hr, o, ho, q⟩ := h
  unfold fLe at ho
  split at ho
  · obtain ⟨_, _, ev, h1, h2⟩ := hr.two
    cases ev
    cases h1.int_inv
    cases h2.int_inv
    exact op_le pins s σ H _ _ v u Q Iv rx ry ⟨_, _, rfl, rfl, q_bl q ho⟩
  · obtain ⟨_, _, ev, h1, h2⟩ := hr.two
    cases ev
    cases h1.str_inv
    cases h2.str_inv
    exact op_le_str pins s σ H _ _ v u Q Iv rx ry ⟨_, _, rfl, rfl, q_bl q ho⟩
  · cases ho
theorem or_gt : OpR X (compareOp .Gt) fun x y => RdOp ⟨X.K, n⟩ fGt [x, y] := by
  intro pins s σ H x y v u Q Iv rx ry h
  obtain ⟨g, is, zd, hr, o, ho, q⟩ := h
  unfold fGt at ho
  split at ho
  · obtain ⟨_, _, ev, h1, h2⟩ := hr.two
    cases ev
    cases h1.int_inv
    cases h2.int_inv
    exact op_gt pins s σ H _ _ v u Q Iv rx ry ⟨_, _, rfl, rfl, q_bl q ho⟩
  · obtain ⟨_, _, ev, h1, h2⟩ := hr.two
    cases ev
    cases h1.str_inv
    cases h2.str_inv
    exact op_gt_str pins s σ H _ _ v u Q Iv rx ry ⟨_, _, rfl, rfl, q_bl q ho⟩
  · cases ho
theorem or_ge : OpR X (compareOp .GtE) fun x y => RdOp ⟨X.K, n⟩ fGe [x, y] := by
  intro pins s σ H x y v u Q Iv rx ry h
  obtain ⟨g, is, zd, hr, o, ho, q⟩ := h
  unfold fGe at ho
  split at ho
  · obtain ⟨_, _, ev, h1, h2⟩ := hr.two
    cases ev
    cases h1.int_inv
    cases h2.int_inv
    exact op_ge pins s σ H _ _ v u Q Iv rx ry ⟨_, _, rfl, rfl, q_bl q ho⟩
  · obtain ⟨_, _, ev, h1, h2⟩ := hr.two
    cases ev
    cases h1.str_inv
    cases h2.str_inv
    exact op_ge_str pins s σ H _ _ v u Q Iv rx ry ⟨_, _, rfl, rfl, q_bl q ho⟩
  · cases ho
theorem RepF.non {i v} (r : RepF P g H i v) : decide (v = .non) = isNon i := by
  cases r with
  | im r => cases r <;> first | rfl | (apply decide_eq_false; intro h; cases h)
  | lst _ _ => apply decide_eq_false; intro h; cases h
  | dctK _ _ _ => apply decide_eq_false; intro h; cases h
  | dctT _ _ _ => apply decide_eq_false; intro h; cases h
theorem or_is : OpR X (compareOp .Is) fun x y => RdOp ⟨X.K, n⟩ fIs [x, y] := by
  intro pins s σ H x y v u Q Iv rx ry h
  obtain ⟨g, is, zd, hr, o, ho, q⟩ := h
  unfold fIs fIsB at ho
  split at ho
  · obtain ⟨_, _, ev, h1, h2⟩ := hr.two
    cases ev
    cases h2.non_inv
    exact op_isN pins s σ H _ _ v u Q Iv rx ry ⟨rfl, by rw [h1.non]; exact q_bl q ho⟩
  · obtain ⟨_, _, ev, h1, h2⟩ := hr.two
    cases ev
    cases h1.bl_inv
    cases h2.bl_inv
    exact op_isBl pins s σ H _ _ v u Q Iv rx ry ⟨_, _, rfl, rfl, q_bl q ho⟩
  · cases ho
theorem or_isnot : OpR X (compareOp .IsNot) fun x y => RdOp ⟨X.K, n⟩ fIsNot [x, y] := by
  intro pins s σ H x y v u Q Iv rx ry h
  obtain ⟨g, is, zd, hr, o, ho, q⟩ := h
  unfold fIsNot fIsB at ho
  split at ho
  · obtain ⟨_, _, ev, h1, h2⟩ := hr.two
    cases ev
    cases h2.non_inv
    exact op_notN pins s σ H _ _ v u Q Iv rx ry ⟨rfl, by rw [h1.non]; exact q_bl q ho⟩
  · obtain ⟨_, _, ev, h1, h2⟩ := hr.two
    cases ev
    cases h1.bl_inv
    cases h2.bl_inv
    exact op_notBl pins s σ H _ _ v u Q Iv rx ry ⟨_, _, rfl, rfl, q_bl q ho⟩
  · cases ho
theorem RepF.flatV {i v} (r : RepF P g H i v) (h : flatI i = true) : flatV v = true := by
  cases r with
  | im r => cases r <;> first | rfl | cases h
  | lst _ _ => cases h
  | dctK _ _ _ => cases h
  | dctT _ _ _ => cases h
theorem RepI.flatV {i v} (r : RepI P g H i v) (h : flatI i = true) : L2.flatV v = true := (RepF.im r).flatV h
theorem eqI_V {i j v u} (r : RepI P g H i v) (r' : RepF P g H j u) (h : flatI i = true) (h' : flatI j = true) : eqV v u = eqI i j := by
  cases r' with
  | im r' => cases r <;> cases r' <;> first | rfl | cases h | cases h'
  | lst _ _ => cases h'
  | dctK _ _ _ => cases h'
  | dctT _ _ _ => cases h'
theorem inI_V {j u} (r' : RepF P g H j u) (h' : flatI j = true) : ∀ {l : List I} {vs}, RepIL P g H l vs → l.all flatI = true → vs.all L2.flatV = true ∧ inV u vs = inI j l
  | [], _, r, _ => by cases r; exact ⟨rfl, rfl⟩
  | i :: l, _, r, h => by
    cases r with
    | cons a b =>
      rw [List.all_cons, Bool.and_eq_true] at h
      obtain ⟨c, d⟩ := inI_V r' h' b h.2
      refine ⟨by rw [List.all_cons, c, a.flatV h.1]; rfl, ?_⟩
      unfold inV inI at d ⊢
      rw [List.any_cons, List.any_cons, d, eqI_V a r' h.1 h']
theorem keyI_V {i k v} (r : RepF P g H i v) (h : keyI i = some k) : v = kV k := by
  cases i with
  | int x => cases h; exact r.int_inv
  | str x => cases h; exact r.str_inv
  | _ => cases h
theorem keyL_V : ∀ {l : List I} {ks vs}, RepIL P g H l vs → keyL l = some ks → vs = ks.map kV
  | [], _, _, r, h => by cases r; cases h; rfl
  | i :: l, _, _, r, h => by
    cases r with
    | cons a b =>
      unfold keyL at h
      split at h
      · rename_i h1 h2
        cases h
        rw [keyI_V (.im a) h1, keyL_V b h2]; rfl
      · cases h
theorem look_V {κ : Type} [DecidableEq κ] {inj : κ → DK} (hinj : ∀ a b, inj a = inj b → a = b) (k : κ) : ∀ {kvs : List (DK × I)} {ks : List (κ × V)}, kvs.map Prod.fst = ks.map (fun x => inj x.1) → RepIL P g H (kvs.map Prod.snd) (ks.map Prod.snd) →
    (lookD kvs (inj k) = none ∧ valV ks k = none) ∨ ∃ x v, lookD kvs (inj k) = some x ∧ valV ks k = some v ∧ RepI P g H x v
  | [], [], _, _ => .inl ⟨rfl, rfl⟩
  | [], _ :: _, h, _ => by simp at h
  | _ :: _, [], h, _ => by simp at h
  | q :: kvs, p :: ks, h, r => by
    simp only [List.map_cons, List.cons.injEq] at h r
    cases r with
    | cons a b =>
      by_cases e : p.1 = k
      · refine .inr ⟨q.2, p.2, ?_, valV_pos e, a⟩
        simp [lookD, List.find?_cons, h.1, e]
      · have ne : ¬ q.1 = inj k := fun z => e (hinj _ _ (h.1.symm.trans z))
        rw [valV_neg e]
        have : lookD (q :: kvs) (inj k) = lookD kvs (inj k) := by simp [lookD, List.find?_cons, ne]
        rw [this]
        exact look_V hinj k h.2 b
/-- a dict is looked into -/
theorem RepF.dget {t : Bool} {kvs : List (DK × I)} {i : I} {k : DK} {x y : V} (r : RepF P g H (.dct t kvs) x) (ri : RepF P g H i y) (h : dkOf t i = some k) : ∃ p o, x = .ref p ∧ DGet H p y o ∧ ((lookD kvs k = none ∧ o = none) ∨ ∃ z v, lookD kvs k = some z ∧ o = some v ∧ RepI P g H z v) := by
  have goK : ∀ {p} {ks : List (Key × V)}, H p = some (.dK ks) → kvs.map Prod.fst = ks.map (fun x => (Sum.inl x.1 : DK)) → RepIL P g H (kvs.map Prod.snd) (ks.map Prod.snd) → dkOf false i = some k → ∃ p' o, V.ref p = .ref p' ∧ DGet H p' y o ∧ ((lookD kvs k = none ∧ o = none) ∨ ∃ z v, lookD kvs k = some z ∧ o = some v ∧ RepI P g H z v) := fun {p ks} hp e rl h => by
    obtain ⟨k0, hk, rfl⟩ := Option.map_eq_some_iff.mp h
    have := keyI_V ri hk
    subst this
    refine ⟨p, _, rfl, .k hp, ?_⟩
    rcases look_V (inj := Sum.inl) (fun a b z => Sum.inl.inj z) k0 e rl with ⟨a, b⟩ | ⟨z, v, a, b, c⟩
    · exact .inl ⟨a, b⟩
    · exact .inr ⟨z, v, a, b, c⟩
  have goT : ∀ {p} {ks : List (List Key × V)}, H p = some (.dT ks) → kvs.map Prod.fst = ks.map (fun x => (Sum.inr x.1 : DK)) → RepIL P g H (kvs.map Prod.snd) (ks.map Prod.snd) → dkOf true i = some k → ∃ p' o, V.ref p = .ref p' ∧ DGet H p' y o ∧ ((lookD kvs k = none ∧ o = none) ∨ ∃ z v, lookD kvs k = some z ∧ o = some v ∧ RepI P g H z v) := fun {p ks} hp e rl h => by
    cases i with
    | tup l =>
      obtain ⟨k0, hk, rfl⟩ := Option.map_eq_some_iff.mp h
      cases ri.tup_im with
      | @tup _ b vs hb rb =>
        have hd := hb.dir (by rw [hk]; simp)
        rw [keyL_V rb hk] at hd
        refine ⟨p, _, rfl, .t hp hd, ?_⟩
        rcases look_V (inj := Sum.inr) (fun a b z => Sum.inr.inj z) k0 e rl with ⟨a, b⟩ | ⟨z, v, a, b, c⟩
        · exact .inl ⟨a, b⟩
        · exact .inr ⟨z, v, a, b, c⟩
    | _ => cases h
  cases r with
  | im r => cases r with
    | dctK hp _ e rl => exact goK hp e rl h
    | dctT hp _ e rl => exact goT hp e rl h
  | dctK hp e rl => exact goK hp e rl h
  | dctT hp e rl => exact goT hp e rl h
theorem in_seq {neg : Bool} {op : CmpOp} (ho : op = if neg then .NotIn else .In) {pins : List (Addr × Obj)} {s : Shared} {x y : V} {v u : Value} {Q : VK} {i : I} {l : List I} {p : Addr} {vs : List V} (Iv : L2.Inv X pins σ H s) (rx : RelV x v) (ry : RelV y u) (ey : y = .ref p) (sq : SqL X.K H p vs ∨ SqT X.K H p vs)
    (r1 : RepF ⟨X.K, n⟩ g H i x) (r2 : RepIL ⟨X.K, n⟩ g H l vs) {b : Bool} (hb : inL i l = some b) (q : Q (.bl (if neg then !b else b)) H) : wpAny (model X.prog X.w) X.A (compareOp op v u) (EP X pins σ Q) X.xe s := by
  unfold inL at hb
  split at hb
  · rename_i hc
    cases hb
    obtain ⟨h1, h2⟩ := Bool.and_eq_true_iff.mp hc
    obtain ⟨h3, h4⟩ := inI_V r1 h1 r2 h2
    subst ho
    cases neg with
    | false => exact op_in_seq pins s σ H _ _ v u Q Iv rx ry ⟨p, vs, ey, sq, r1.flatV h1, h3, by rw [h4]; exact q⟩
    | true => exact op_notIn_seq pins s σ H _ _ v u Q Iv rx ry ⟨p, vs, ey, sq, r1.flatV h1, h3, by rw [h4]; exact q⟩
  · cases hb
theorem or_inB {neg : Bool} {op : CmpOp} {f : List I → Option O} (ho : op = if neg then .NotIn else .In) (hf : f = fun l => (inOp l).map fun b => .im (.bl (if neg then !b else b))) (hu : X.A.units + 65 < cLine) : OpR X (compareOp op) fun x y => RdOp ⟨X.K, n⟩ f [x, y] := by
  intro pins s σ H x y v u Q Iv rx ry h
  obtain ⟨g, is, zd, hr, o, ho', q⟩ := h
  subst hf
  obtain ⟨b, hb, rfl⟩ := Option.map_eq_some_iff.mp ho'
  have hq : Q (.bl (if neg then !b else b)) H := q_bl q rfl
  unfold inOp at hb
  split at hb
  · obtain ⟨_, _, ev, h1, h2⟩ := hr.two
    cases ev
    cases h1.str_inv
    cases h2.str_inv
    rename_i z1 z2
    split at hb
    · rename_i c hc
      cases hb
      have e : z1 = ⟨#[c]⟩ := by
        unfold one? at hc
        split at hc
        · rename_i c' e'
          cases hc
          cases z1
          simp only at e'
          congr 1
          exact Array.toList_inj.mp (by simpa using e')
        · cases hc
      subst ho
      cases neg with
      | false => exact op_in_sign pins s σ H _ _ v u Q Iv rx ry ⟨c, z2, by rw [e], rfl, hq⟩
      | true => exact op_notIn_sign pins s σ H _ _ v u Q Iv rx ry ⟨c, z2, by rw [e], rfl, hq⟩
    · cases hb
      subst ho
      cases neg with
      | false => exact op_in_str pins s σ H _ _ v u Q Iv rx ry ⟨_, _, rfl, rfl, hq⟩
      | true => exact op_notin_str pins s σ H _ _ v u Q Iv rx ry ⟨_, _, rfl, rfl, hq⟩
  · obtain ⟨_, _, ev, h1, h2⟩ := hr.two
    cases ev
    obtain ⟨p, vs, e1, hp, r2⟩ := h2.tup_inv
    exact in_seq ho Iv rx ry e1 (.inr hp) h1 r2 hb hq
  · obtain ⟨_, _, ev, h1, h2⟩ := hr.two
    cases ev
    split at hb
    · rename_i b' hb'
      cases hb
      obtain ⟨p, vs, e1, hp, r2⟩ := h2.lst_inv
      exact in_seq ho Iv rx ry e1 (.inl hp.sq) h1 r2 hb' hq
    · unfold inDeep at hb
      split at hb
      · rename_i d ds hd hds
        split at hb
        · rename_i hc
          cases hb
          obtain ⟨hc, h6⟩ := Bool.and_eq_true_iff.mp hc
          obtain ⟨hc, h5⟩ := Bool.and_eq_true_iff.mp hc
          obtain ⟨h3, h4⟩ := Bool.and_eq_true_iff.mp hc
          have h5 := of_decide_eq_true h5
          have h6 := of_decide_eq_true h6
          have d1 : Dp X.K H x d := h1.dp hd
          have d2 : Dp X.K H y (.list ds) := h2.dp (by unfold toD; rw [hds]; rfl)
          have s1 : SeqAt.shaped d = true := by
            unfold SeqAt.shaped
            rw [show d.canLay0 = true from h3, decide_eq_true (show d.depth ≤ 64 by omega)]; rfl
          have s2 : SeqAt.shaped (.list ds) = true := by
            unfold SeqAt.shaped
            rw [show (PyData.list ds).canLay0 = true from h4, decide_eq_true (show (PyData.list ds).depth ≤ 64 by omega)]; rfl
          subst ho
          cases neg with
          | false => exact op_inD hu pins s σ H _ _ v u Q Iv rx ry ⟨_, _, d1, d2, s1, s2, hq⟩
          | true => exact op_notInD hu pins s σ H _ _ v u Q Iv rx ry ⟨_, _, d1, d2, s1, s2, hq⟩
        · cases hb
      · cases hb
  · rename_i i t kvs
    obtain ⟨_, _, ev, h1, h2⟩ := hr.two
    cases ev
    obtain ⟨k, hk, rfl⟩ := Option.map_eq_some_iff.mp hb
    obtain ⟨p, od, e1, dg, cases_⟩ := h2.dget h1 hk
    have eo : od.isSome = (lookD kvs k).isSome := by
      rcases cases_ with ⟨a, b⟩ | ⟨z, w, a, b, _⟩
      · rw [a, b]; rfl
      · rw [a, b]; rfl
    rw [← eo] at hq
    subst e1
    cases ry
    subst ho
    cases neg with
    | false => exact d_in (by omega) Iv dg rx fun s' I' => ⟨.bl _, H, I', rfl, hq⟩
    | true => exact d_notIn (by omega) Iv dg rx fun s' I' => ⟨.bl _, H, I', rfl, hq⟩
  · cases hb
theorem or_in (hu : X.A.units + 65 < cLine) : OpR X (compareOp .In) fun x y => RdOp ⟨X.K, n⟩ fIn [x, y] := or_inB (neg := false) rfl rfl hu
theorem or_notin (hu : X.A.units + 65 < cLine) : OpR X (compareOp .NotIn) fun x y => RdOp ⟨X.K, n⟩ fNotIn [x, y] := or_inB (neg := true) rfl rfl hu
/-! ### subscripts -/
theorem RepIL.ati {l : List I} {vs i x} (r : RepIL P g H l vs) (h : atI l i = some x) : ∃ v, atI vs i = some v ∧ RepI P g H x v := by
  unfold atI at h ⊢
  rw [← r.len]
  cases hk : ixN l.length i with
  | none => rw [hk] at h; cases h
  | some j =>
    rw [hk] at h
    obtain ⟨v, e, q⟩ := r.get h
    exact ⟨v, e, q⟩
theorem ix_any (hu : X.A.units + 1 < cLine) : IxR X fun x y => RdOp ⟨X.K, n⟩ fIx [x, y] := by
  intro value slice pins s σ H x y v u Q Iv rx ry h hs
  obtain ⟨g, is, zd, hr, o, ho, q⟩ := h
  unfold fIx at ho
  split at ho
  · obtain ⟨_, _, ev, h1, h2⟩ := hr.two
    cases ev
    obtain ⟨z, hz, rfl⟩ := Option.map_eq_some_iff.mp ho
    obtain ⟨p, vs, rfl, hp, r1⟩ := h1.lst_inv
    cases h2.int_inv
    obtain ⟨w, hw, rw'⟩ := r1.ati hz
    exact ix_list value slice pins s σ H _ _ v u Q Iv rx ry ⟨p, vs, _, w, rfl, rfl, hp.sq, hw, q g H _ emp (.same rw')⟩ hs
  · obtain ⟨_, _, ev, h1, h2⟩ := hr.two
    cases ev
    obtain ⟨z, hz, rfl⟩ := Option.map_eq_some_iff.mp ho
    obtain ⟨p, vs, rfl, hp, r1⟩ := h1.tup_inv
    cases h2.int_inv
    obtain ⟨w, hw, rw'⟩ := r1.ati hz
    exact ix_tup value slice pins s σ H _ _ v u Q Iv rx ry ⟨p, vs, _, w, rfl, rfl, hp, hw, q g H _ emp (.same rw')⟩ hs
  · obtain ⟨_, _, ev, h1, h2⟩ := hr.two
    cases ev
    split at ho
    · rename_i hl
      obtain ⟨z, hz, rfl⟩ := Option.map_eq_some_iff.mp ho
      cases h1.str_inv
      cases h2.int_inv
      exact ix_str value slice pins s σ H _ _ v u Q Iv rx ry ⟨_, _, z, rfl, rfl, hl, hz, q_str q rfl⟩ hs
    · cases ho
  · obtain ⟨_, _, ev, h1, h2⟩ := hr.two
    cases ev
    split at ho
    · rename_i k hk
      obtain ⟨z, hz, rfl⟩ := Option.map_eq_some_iff.mp ho
      obtain ⟨p, od, e1, dg, cases_⟩ := h1.dget h2 hk
      rcases cases_ with ⟨a, _⟩ | ⟨z', w, a, b, rw'⟩
      · rw [hz] at a; cases a
      · rw [hz] at a; cases a
        subst b
        subst e1
        cases rx
        exact PyProof.Rows.tail_any (dict_typeIs Iv dg) PySem.F.slot_dict_getitem.lookup (d_getItem hu Iv dg ry fun w' s' I' r' => ⟨w, H, I', r', q g H _ emp (.same rw')⟩) hs
    · cases ho
  · cases ho
/-! ### slices -/
def cutI {α : Type} (xs : List α) (lo hi : Option Int) : List α := (xs.drop (HT.sIx xs.length 0 lo)).take (HT.sIx xs.length xs.length hi - HT.sIx xs.length 0 lo)
def fSl (lo hi : Option Int) : List I → Option O
  | [.lst l] => some (.lst ((cutI l lo hi).map .im))
  | [.tup l] => some (.im (.tup (cutI l lo hi)))
  | [.str z] => if z.length ≤ sizeLine then some (.im (.str (cutS z lo hi))) else none
  | _ => none
theorem sl_any : SlR X fun x lo hi => RdOp ⟨X.K, n⟩ (fSl lo hi) [x] := by
  intro pins s σ H x v vl vu lo hi sl Q Iv rx hs pl pu h
  obtain ⟨g, is, zd, hr, o, ho, q⟩ := h
  unfold fSl at ho
  split at ho
  · obtain ⟨_, ev, h1⟩ := hr.one
    cases ev
    cases ho
    obtain ⟨p, vs, rfl, hp, r1⟩ := h1.lst_inv
    refine sl_list pins s σ H _ v vl vu lo hi sl Q Iv rx hs pl pu ⟨p, vs, rfl, hp.sq, fun t ht => q _ _ _ _ (.newL ht zd ?_)⟩
    unfold cutI cutV
    rw [r1.len]
    exact (r1.drop _).take _
  · obtain ⟨_, ev, h1⟩ := hr.one
    cases ev
    cases ho
    have i1 := h1.tup_im
    obtain ⟨p, vs, rfl, hp, r1⟩ := h1.tup_inv
    refine sl_tupA pins s σ H _ v vl vu lo hi sl Q Iv rx hs pl pu ⟨p, vs, rfl, hp, fun hw => ?_, fun hc t ht => q _ _ _ _ (.newT ht ?_)⟩
    · rename_i l
      rw [← r1.len] at hw
      have e : cutI l lo hi = l := by
        unfold cutI
        rw [hw.1, hw.2]
        simp
      rw [e] at q
      exact q g H _ emp (.same i1)
    · unfold cutI cutV
      rw [r1.len]
      exact (r1.drop _).take _
  · obtain ⟨_, ev, h1⟩ := hr.one
    cases ev
    split at ho
    · cases h1.str_inv
      exact sl_str pins s σ H _ v vl vu lo hi sl Q Iv rx hs pl pu ⟨_, rfl, by assumption, q_str q ho⟩
    · cases ho
  · cases ho
/-- a part of a slice -/
abbrev OP := M (Option Int)
def pNo : OP := ret none
def pAt (m : EM) : OP := bnd m fun o => match o with
  | .im (.int i) => ret (some i)
  | _ => lift none
def eSl (a : OM) (lo hi : OP) : EM := bnd a fun x => bnd lo fun l => bnd hi fun h => rd (fSl l h) [x]
def OkP (P : Pg) (W : WX) (f : OP) : TO := fun σ H Q => ∃ g st F, RepS P g H st σ F ∧
  RunAt f st (fun st' o => ∀ g' H' F', PostS P g H F g' H' F' st' σ emp → Q o H') (exc P W g H F)
theorem PO.imp {e : Option Expr} {t t' : TO} (h : PO X e t) (i : ∀ σ H Q, t' σ H Q → t σ H Q) : PO X e t' := ⟨fun pins s σ H Q I q => h.run pins s σ H Q I (i _ _ _ q)⟩
theorem op_no : PO X none (OkP P W pNo) := PO.imp po_none fun σ H Q ⟨g, st, F, rs, q⟩ => q.ret g H F (.refl rs)
theorem op_at {f : EM} (h : PE X e (OkE P W f)) : PO X (some e) (OkP P W (pAt f)) := PO.imp (po_some h) fun σ H Q ⟨g, st, F, rs, q⟩ =>
  ⟨g, st, F, rs, q.bnd.imp (fun s o k g1 H1 F1 v Fv p ro => by
    split at k
    · cases ro.im_inv
      exact ⟨_, rfl, k.ret g1 H1 F1 p.drop⟩
    · exact k.elim) fun _ _ _ z => z⟩
theorem dropR {g H F g1 H1 F1 st1 σ1 Fv} (p : PostS P g H F g1 H1 F1 st1 σ1 (un Fv emp)) : PostS P g H F g1 H1 F1 st1 σ1 Fv := ⟨p.rs, fun b x y => p.dj b (.inl x) y, p.ch, fun b x => p.sub b (x.imp id .inl), p.pn⟩
theorem ev_sl {f : OM} {lo hi : Option Expr} {fl fh : OP} {p2 : Pos} (ha : PE X e (OkO ⟨X.K, n⟩ W f)) (hl : PO X lo (OkP ⟨X.K, n⟩ W fl)) (hh : PO X hi (OkP ⟨X.K, n⟩ W fh)) : PE X (.Subscript e (.Slice lo hi none p2) pos) (OkE ⟨X.K, n⟩ W (eSl f fl fh)) :=
  PE.imp (pe_slice sl_any ha hl hh) fun σ H Q ⟨g, st, F, rs, q⟩ => ⟨g, st, F, rs, q.bnd.imp (fun s x k g1 H1 F1 v Fv p rx => ⟨g1, s, F1, p.rs, k.bnd.imp (fun s2 l k2 g2 H2 F2 p2 => ⟨g2, s2, F2, p2.rs, k2.bnd.imp (fun s3 h k3 g3 H3 F3 p3 => by
    have p4 := dropR (p.bothO rx (p2.trans p3)).1
    exact rd_go p4.w (.one (p.bothO rx (p2.trans p3)).2.1) k3) fun _ _ _ z => exc_step (p.trans p2) z⟩) fun _ _ _ z => exc_step p z⟩) fun _ _ _ z => z⟩
/-! ### chains -/
def eCh (f h : List I → Option O) (a b : OM) (c : OM) : EM := bnd a fun x => bnd b fun y => bnd (rd f [x, y]) fun z => match z with
  | .im (.bl true) => bnd c fun w => rd h [y, w]
  | .im (.bl false) => ret (.im (.bl false))
  | _ => lift none
theorem rd_same {f : List I → Option O} {os vs st Fv g0 H0 F0 ok ex} (p : PostS P g0 H0 F0 g H F st σ Fv) (r : RepOpL P g H σ os vs Fv) (h : RunAt (rd f os) st ok ex) : ∃ o, ok st o ∧ ∀ Q : VK, (∀ g' H' v Fw, PostR P g H g' H' o v Fw → Q v H') → RdOp P f vs H Q := by
  obtain ⟨is, o, e1, e2, q⟩ := h.rd
  exact ⟨o, q, fun Q k => ⟨g, is, p.rs.zd, r.fl p.rs e1, o, e2, k⟩⟩
theorem ch_go {f h : List I → Option O} {fa fb fc : OM} {Q : VK} (hw : OkE P W (eCh f h fa fb fc) σ H Q) : tChain (fun x y => RdOp P f [x, y]) (fun x y => RdOp P h [x, y]) (OkO P W fa) (OkO P W fb) (OkO P W fc) σ H Q := by
  obtain ⟨g, st, F, rs, q⟩ := hw
  refine ⟨g, st, F, rs, q.bnd.imp (fun s1 x k1 g1 H1 F1 v1 Fv1 p1 r1 => ⟨g1, s1, F1, p1.rs, k1.bnd.imp (fun s2 y k2 g2 H2 F2 v2 Fv2 p2 r2 => ?_) fun _ _ _ z => exc_step p1 z⟩) fun _ _ _ z => z⟩
  obtain ⟨p3, r3, d3⟩ := p1.bothO r1 p2.w
  obtain ⟨o, ko, go⟩ := rd_same p3 (.cons r3 (.one r2) d3) k2.bnd
  refine go _ fun g4 H4 v4 Fv4 pr => ?_
  have p4 := p3.read pr
  have ry : RepOp P g4 H4 σ y v2 Fv2 := r2.ch pr.ch fun _ _ h => h.elim
  have rv := pr.ro
  have p5 : PostS P g H F g4 H4 F2 s2 σ Fv2 := by
    have q5 := pr.toS p3.rs
    have c5 : PostS P g1 H1 F1 g4 H4 F2 s2 σ (un Fv2 Fv4) := (p2.bothO r2 q5).1
    have := p1.trans c5
    exact ⟨this.rs, fun b x y => this.dj b (.inl x) y, this.ch, fun b x => this.sub b (x.imp id .inl), this.pn⟩
  split at ko
  · cases rv.im_inv
    refine ⟨true, rfl, ?_⟩
    rw [if_pos rfl]
    refine ⟨g4, s2, F2, p5.rs, ko.bnd.imp (fun s6 w k6 g6 H6 F6 v6 Fv6 p6 r6 => ?_) fun _ _ _ z => exc_step p5 z⟩
    obtain ⟨p7, r7, d7⟩ := p5.bothO ry p6.w
    exact rd_go p7 (.cons r7 (.one r6) d7) k6
  · cases rv.im_inv
    refine ⟨false, rfl, ?_⟩
    rw [if_neg Bool.false_ne_true]
    exact ko.ret g4 H4 F2 _ emp p5.drop (.im (.bl false))
  · exact ko.elim
theorem ev_ch {op op' : CmpOp} {f h : List I → Option O} {fa fb fc : OM} (ho : OpR X (compareOp op) fun x y => RdOp ⟨X.K, n⟩ f [x, y]) (ho' : OpR X (compareOp op') fun x y => RdOp ⟨X.K, n⟩ h [x, y]) (ha : PE X a (OkO ⟨X.K, n⟩ W fa)) (hb : PE X b (OkO ⟨X.K, n⟩ W fb)) (hc : PE X c (OkO ⟨X.K, n⟩ W fc))
    (hm : lastMarks [op, op'] [b, c] = false := by with_unfolding_all rfl) : PE X (.Compare a [op, op'] [b, c] pos) (OkE ⟨X.K, n⟩ W (eCh f h fa fb fc)) := PE.imp (pe_chain ho ho' ha hb hc hm) fun _ _ _ h => ch_go h
theorem bt_ch {op op' : CmpOp} {f h : List I → Option O} {fa fb fc : OM} (ho : OpR X (compareOp op) fun x y => RdOp ⟨X.K, n⟩ f [x, y]) (ho' : OpR X (compareOp op') fun x y => RdOp ⟨X.K, n⟩ h [x, y]) (ha : PE X a (OkO ⟨X.K, n⟩ W fa)) (hb : PE X b (OkO ⟨X.K, n⟩ W fb)) (hc : PE X c (OkO ⟨X.K, n⟩ W fc))
    (hm : lastMarks [op, op'] [b, c] = false := by with_unfolding_all rfl) : PT X (.Compare a [op, op'] [b, c] pos) (OkB ⟨X.K, n⟩ W (asB (eCh f h fa fb fc))) := PT.imp (pt_chain ho ho' ha hb hc hm) fun _ _ _ h => ch_go (asB_go h)
end
end VS

namespace VS
open PySem L2
section
variable {n : Pn} {W : WX} {X : Cx} {P : Pg} {e a b c tg : Expr} {es : List Expr} {g g' : Gh} {H H' : Hp} {st st' : St} {σ : L2.St} {F F' : Lo → Fp} {FX Fv : Fp} {pos : Pos} {io : List Nat}
/-! ### calls of builtins -/
theorem cr_len : CallR X (.builtin "len") (RdOp ⟨X.K, n⟩ fLen) := by
  intro pins s σ H xs us Q Iv rv h
  obtain ⟨g, is, zd, hr, o, ho, q⟩ := h
  obtain ⟨k, hk, rfl⟩ := Option.map_eq_some_iff.mp ho
  have hq : Q (.int (k : Nat)) H := q_int q rfl
  unfold lenI at hk
  split at hk
  · obtain ⟨_, ev, h1⟩ := hr.one
    cases ev
    cases hk
    obtain ⟨p, vs, rfl, hp, r1⟩ := h1.lst_inv
    rw [r1.len] at hq
    exact call_len_seq pins s σ H _ us Q Iv rv ⟨p, vs, rfl, .inl hp.sq, hq⟩
  · obtain ⟨_, ev, h1⟩ := hr.one
    cases ev
    cases hk
    obtain ⟨p, vs, rfl, hp, r1⟩ := h1.tup_inv
    rw [r1.len] at hq
    exact call_len_seq pins s σ H _ us Q Iv rv ⟨p, vs, rfl, .inr hp, hq⟩
  · obtain ⟨_, ev, h1⟩ := hr.one
    cases ev
    split at hk
    · cases hk
      cases h1.str_inv
      exact call_len_str pins s σ H _ us Q Iv rv ⟨_, rfl, by assumption, hq⟩
    · cases hk
  · obtain ⟨_, ev, h1⟩ := hr.one
    cases ev
    cases hk
    have go : ∀ {kvs p} {ks : List (Key × V)}, Q (.int ((kvs : List (DK × I)).length : Nat)) H → H p = some (.dK ks) → kvs.map Prod.fst = ks.map (fun x => (Sum.inl x.1 : DK)) → Vals [V.ref p] us → wpAny (model X.prog X.w) X.A (call (.builtin "len") us) (EP X pins σ Q) X.xe s := fun {kvs p ks} hq hp e rv => by
      have := congrArg List.length e
      simp only [List.length_map] at this
      rw [this] at hq
      exact call_lenD pins s σ H _ us Q Iv rv ⟨p, ks, rfl, hp, hq⟩
    have go2 : ∀ {kvs p} {ks : List (List Key × V)}, Q (.int ((kvs : List (DK × I)).length : Nat)) H → H p = some (.dT ks) → kvs.map Prod.fst = ks.map (fun x => (Sum.inr x.1 : DK)) → Vals [V.ref p] us → wpAny (model X.prog X.w) X.A (call (.builtin "len") us) (EP X pins σ Q) X.xe s := fun {kvs p ks} hq hp e rv => by
      have := congrArg List.length e
      simp only [List.length_map] at this
      rw [this] at hq
      exact call_len_dT pins s σ H _ us Q Iv rv ⟨p, ks, rfl, hp, hq⟩
    cases h1 with
    | im r => cases r with
      | dctK hp _ e _ => exact go hq hp e rv
      | dctT hp _ e _ => exact go2 hq hp e rv
    | dctK hp e _ => exact go hq hp e rv
    | dctT hp e _ => exact go2 hq hp e rv
  · cases hk
theorem cr_abs : CallR X (.builtin "abs") (RdOp ⟨X.K, n⟩ fAbs) := by
  intro pins s σ H xs us Q Iv rv h
  obtain ⟨g, is, zd, hr, o, ho, q⟩ := h
  unfold fAbs at ho
  split at ho
  · obtain ⟨_, ev, h1⟩ := hr.one
    cases ev
    cases h1.int_inv
    exact call_abs pins s σ H _ us Q Iv rv ⟨_, rfl, q_int q ho⟩
  · cases ho
theorem cr_max (hc : X.calm = true) : CallR X (.builtin "max") (RdOp ⟨X.K, n⟩ fMax) := by
  intro pins s σ H xs us Q Iv rv h
  obtain ⟨g, is, zd, hr, o, ho, q⟩ := h
  unfold fMax at ho
  split at ho
  · obtain ⟨_, _, ev, h1, h2⟩ := hr.two
    cases ev
    cases h1.int_inv
    cases h2.int_inv
    exact call_max2 hc pins s σ H _ us Q Iv rv ⟨_, _, rfl, q_int q ho⟩
  · cases ho
theorem cr_min (hc : X.calm = true) : CallR X (.builtin "min") (RdOp ⟨X.K, n⟩ fMin) := by
  intro pins s σ H xs us Q Iv rv h
  obtain ⟨g, is, zd, hr, o, ho, q⟩ := h
  unfold fMin at ho
  split at ho
  · obtain ⟨_, _, ev, h1, h2⟩ := hr.two
    cases ev
    cases h1.int_inv
    cases h2.int_inv
    exact call_min2 hc pins s σ H _ us Q Iv rv ⟨_, _, rfl, q_int q ho⟩
  · cases ho
theorem blsOf_V : ∀ {l : List I} {bs vs}, blsOf l = some bs → RepIL P g H l vs → vs = bs.map V.bl
  | [], _, _, h, r => by cases h; cases r; rfl
  | .bl b :: l, _, _, h, r => by
    unfold blsOf at h
    obtain ⟨bs, e, rfl⟩ := Option.map_eq_some_iff.mp h
    cases r with | cons a t => cases a; rw [blsOf_V e t]; rfl
  | .non :: _, _, _, h, _ => by cases h
  | .int _ :: _, _, _, h, _ => by cases h
  | .str _ :: _, _, _, h, _ => by cases h
  | .tup _ :: _, _, _, h, _ => by cases h
  | .lst _ :: _, _, _, h, _ => by cases h
  | .dct _ _ :: _, _, _, h, _ => by cases h
  | .ref _ :: _, _, _, h, _ => by cases h
  | .fn _ :: _, _, _, h, _ => by cases h
theorem strsOf_V : ∀ {l : List I} {bs vs}, strsOf l = some bs → RepIL P g H l vs → vs = bs.map V.str
  | [], _, _, h, r => by cases h; cases r; rfl
  | .str b :: l, _, _, h, r => by
    unfold strsOf at h
    obtain ⟨bs, e, rfl⟩ := Option.map_eq_some_iff.mp h
    cases r with | cons a t => cases a; rw [strsOf_V e t]; rfl
  | .non :: _, _, _, h, _ => by cases h
  | .int _ :: _, _, _, h, _ => by cases h
  | .bl _ :: _, _, _, h, _ => by cases h
  | .tup _ :: _, _, _, h, _ => by cases h
  | .lst _ :: _, _, _, h, _ => by cases h
  | .dct _ _ :: _, _, _, h, _ => by cases h
  | .ref _ :: _, _, _, h, _ => by cases h
  | .fn _ :: _, _, _, h, _ => by cases h
theorem cr_all (hc : X.calm = true) : CallR X (.builtin "all") (RdOp ⟨X.K, n⟩ fAll) := by
  intro pins s σ H xs us Q Iv rv h
  obtain ⟨g, is, zd, hr, o, ho, q⟩ := h
  unfold fAll at ho
  split at ho
  · obtain ⟨_, ev, h1⟩ := hr.one
    cases ev
    obtain ⟨bs, hb, rfl⟩ := Option.map_eq_some_iff.mp ho
    obtain ⟨p, vs, rfl, hp, r1⟩ := h1.lst_inv
    have e := blsOf_V hb r1
    subst e
    exact L2.cr_all hc pins s σ H _ us Q Iv rv ⟨p, bs, rfl, hp.sq, q_bl q rfl⟩
  · cases ho
theorem cr_any (hc : X.calm = true) : CallR X (.builtin "any") (RdOp ⟨X.K, n⟩ fAny) := by
  intro pins s σ H xs us Q Iv rv h
  obtain ⟨g, is, zd, hr, o, ho, q⟩ := h
  unfold fAny at ho
  split at ho
  · obtain ⟨_, ev, h1⟩ := hr.one
    cases ev
    obtain ⟨bs, hb, rfl⟩ := Option.map_eq_some_iff.mp ho
    obtain ⟨p, vs, rfl, hp, r1⟩ := h1.lst_inv
    have e := blsOf_V hb r1
    subst e
    exact L2.cr_any hc pins s σ H _ us Q Iv rv ⟨p, bs, rfl, hp.sq, q_bl q rfl⟩
  · cases ho
theorem chars_rep {z : Str} : RepIL P g H (chars z) (z.cps.toList.map fun c => V.str ⟨#[c]⟩) := by
  unfold chars
  induction z.cps.toList with
  | nil => exact .nil
  | cons c r ih => exact .cons (.str _) ih
theorem cr_list (hd : X.A.handled = none) : CallR X (.type "list") (RdOp ⟨X.K, n⟩ fList) := by
  intro pins s σ H xs us Q Iv rv h
  obtain ⟨g, is, zd, hr, o, ho, q⟩ := h
  unfold fList at ho
  split at ho
  · obtain ⟨_, ev, h1⟩ := hr.one
    cases ev
    cases ho
    obtain ⟨p, vs, rfl, hp, r1⟩ := h1.lst_inv
    exact call_list_of pins s σ H _ us Q Iv rv ⟨p, vs, rfl, .inl hp.sq, fun t ht => q _ _ _ _ (.newL ht zd r1)⟩
  · obtain ⟨_, ev, h1⟩ := hr.one
    cases ev
    cases ho
    obtain ⟨p, vs, rfl, hp, r1⟩ := h1.tup_inv
    exact call_list_of pins s σ H _ us Q Iv rv ⟨p, vs, rfl, .inr hp, fun t ht => q _ _ _ _ (.newL ht zd r1)⟩
  · rename_i z
    obtain ⟨_, ev, h1⟩ := hr.one
    cases ev
    split at ho
    · rename_i hz
      cases ho
      cases h1.str_inv
      obtain ⟨u, rfl, t, rfl⟩ := vals1 rv
      have hz' : z.cps.size ≤ sizeLine := hz
      refine PySem.call_list_str (hn := hz') hd z t fun h' tk acc' c' hk hS' hacc => ?_
      have hn : H s.heap.objs.size = none := Iv.hok.fresh (Nat.le_refl _)
      have vl : Vals (z.cps.toList.map fun c => V.str ⟨#[c]⟩) acc'.toList := by
        have go : ∀ (cs : List Nat) (us : List Value), cs.length = us.length → (∀ (i : Nat) (v : Value), us[i]? = some v → ∃ c t, cs[i]? = some c ∧ v = Value.str ⟨#[c]⟩ t) → Vals (cs.map fun c => V.str ⟨#[c]⟩) us := by
          intro cs
          induction cs with
          | nil => intro us hl _; cases us with | nil => exact .nil | cons _ _ => cases hl
          | cons c cs ih =>
            intro us hl hh
            cases us with
            | nil => cases hl
            | cons u us =>
              obtain ⟨c', t', e1, e2⟩ := hh 0 u (by simp)
              have e1 : c = c' := by simpa using e1
              subst e1
              exact .cons ⟨t', e2⟩ (ih us (by simpa using hl) fun i v e => hh (i + 1) v (by simpa using e))
        refine go _ _ (by simp [hacc.1]) fun i v e => ?_
        obtain ⟨c, t', hc, ev⟩ := hacc.2 i v (by simpa using e)
        exact ⟨c, t', by simpa using hc, ev⟩
      refine ⟨.ref s.heap.objs.size, _, Iv.laid (a := s.heap.objs.size) (o := .lst (z.cps.toList.map fun c => V.str ⟨#[c]⟩)) (t' := tk) hk (Nat.le_refl _) ⟨by simpa using hz', acc'.toList, c', vl, by simpa using hS'⟩, rfl, q _ _ _ _ (.newL hn zd chars_rep)⟩
    · cases ho
  · cases ho
theorem cr_tuple : CallR X (.type "tuple") (RdOp ⟨X.K, n⟩ fTuple) := by
  intro pins s σ H xs us Q Iv rv h
  obtain ⟨g, is, zd, hr, o, ho, q⟩ := h
  unfold fTuple at ho
  split at ho
  · obtain ⟨_, ev, h1⟩ := hr.one
    cases ev
    cases ho
    obtain ⟨p, vs, rfl, hp, r1⟩ := h1.lst_inv
    exact call_tuple_of pins s σ H _ us Q Iv rv ⟨p, vs, rfl, .inl ⟨hp.sq, fun t ht => q _ _ _ _ (.newT ht r1)⟩⟩
  · obtain ⟨_, ev, h1⟩ := hr.one
    cases ev
    cases ho
    have i1 := h1.tup_im
    obtain ⟨p, vs, rfl, hp, r1⟩ := h1.tup_inv
    exact call_tuple_of pins s σ H _ us Q Iv rv ⟨p, vs, rfl, .inr ⟨hp, q _ _ _ _ (.same i1)⟩⟩
  · cases ho
theorem cr_str : CallR X (.type "str") (RdOp ⟨X.K, n⟩ fStr) := by
  intro pins s σ H xs us Q Iv rv h
  obtain ⟨g, is, zd, hr, o, ho, q⟩ := h
  unfold fStr at ho
  split at ho
  · obtain ⟨_, ev, h1⟩ := hr.one
    cases ev
    split at ho
    · cases h1.int_inv
      exact call_str_int pins s σ H _ us Q Iv rv ⟨_, rfl, by assumption, q_str q ho⟩
    · cases ho
  · obtain ⟨_, ev, h1⟩ := hr.one
    cases ev
    cases h1.str_inv
    exact SkE.call_str_str pins s σ H _ us Q Iv rv ⟨_, rfl, q_str q ho⟩
  · cases ho
theorem mt_jn : MtR X "str.join" fun x xs => RdOp ⟨X.K, n⟩ fJoin (x :: xs) := by
  intro pins s σ H x xs v us Q Iv rx rv h
  obtain ⟨g, is, zd, hr, o, ho, q⟩ := h
  have fin : ∀ {a l p vs}, jn a l = some o → RepIL ⟨X.K, n⟩ g H l vs → (SqL X.K H p vs ∨ SqT X.K H p vs) → x = .str a → xs = [.ref p] → wpAny (model X.prog X.w) X.A (call (.builtin "str.join") (v :: us)) (EP X pins σ Q) X.xe s := fun {a l p vs} hj r sq e1 e2 => by
    unfold jn at hj
    split at hj
    · rename_i ys hy
      split at hj
      · have e := strsOf_V hy r
        subst e
        exact mt_join pins s σ H x xs v us Q Iv rx rv ⟨a, p, ys, e1, e2, sq, by assumption, q_str q hj⟩
      · cases hj
    · cases hj
  unfold fJoin at ho
  split at ho
  · obtain ⟨_, _, ev, h1, h2⟩ := hr.two
    cases ev
    obtain ⟨p, vs, rfl, hp, r1⟩ := h2.lst_inv
    exact fin ho r1 (.inl hp.sq) h1.str_inv rfl
  · obtain ⟨_, _, ev, h1, h2⟩ := hr.two
    cases ev
    obtain ⟨p, vs, rfl, hp, r1⟩ := h2.tup_inv
    exact fin ho r1 (.inr hp) h1.str_inv rfl
  · cases ho
/-- a text's method -/
def eT0 (f : List I → Option O) (m : EM) : EM := bnd m fun o => match o with
  | .im (.str a) => rd f [.o (.im (.str a))]
  | _ => lift none
def eT1 (f : List I → Option O) (m : EM) (k : OM) : EM := bnd m fun o => match o with
  | .im (.str a) => bnd k fun y => rd f [.o (.im (.str a)), y]
  | _ => lift none
theorem t1_go {f : List I → Option O} {m : EM} {k : OM} {H σ Q} (h : OkE P W (eT1 f m k) σ H Q) : tM1 (fun x xs => RdOp P f (x :: xs)) (OkE P W m) (OkO P W k) σ H Q := by
  obtain ⟨g, st, F, rs, q⟩ := h
  refine ⟨g, st, F, rs, q.bnd.imp (fun s x k1 g1 H1 F1 v Fv p rx => ?_) fun _ _ _ z => z⟩
  split at k1
  · rename_i a
    have ri := rx.im_inv
    cases ri
    refine ⟨⟨_, rfl⟩, g1, s, F1, p.rs, k1.bnd.imp (fun s2 y k2 g2 H2 F2 u Fu p2 ry => ?_) fun _ _ _ z => exc_step p z⟩
    have p3 := p.drop.trans p2
    have ra : RepOp P g2 H2 σ (.o (.im (.str a))) (.str a) emp := RepO.im (.str a)
    exact rd_go ⟨p3.rs, fun b x y => p3.dj b (x.elim (fun z => z.elim) id |>.elim id fun z => z.elim) y, p3.ch, fun b x => p3.sub b (x.imp id fun z => z.elim (fun z => z.elim) fun z => z.elim id fun z => z.elim), p3.pn⟩ (.cons ra (.one ry) fun _ h => h.elim) k2
  · exact k1.elim
theorem t0_go {f : List I → Option O} {m : EM} {H σ Q} (h : OkE P W (eT0 f m) σ H Q) : tM0 (fun x xs => RdOp P f (x :: xs)) (OkE P W m) σ H Q := by
  obtain ⟨g, st, F, rs, q⟩ := h
  refine ⟨g, st, F, rs, q.bnd.imp (fun s x k1 g1 H1 F1 v Fv p rx => ?_) fun _ _ _ z => z⟩
  split at k1
  · rename_i a
    have ri := rx.im_inv
    cases ri
    exact ⟨⟨_, rfl⟩, rd_go p.drop.w (.one (show RepOp P g1 H1 σ (.o (.im (.str a))) (.str a) emp from RepO.im (.str a))) k1⟩
  · exact k1.elim
theorem ev_t1 {o : Expr} {id : String} {name : Str} {apos : Pos} {f : List I → Option O} {m : EM} {k : OM} (slot : Slot "str" name id) (ty : typeOf (.builtin id) = pure (.type "method_descriptor")) (rule : MtR X id fun x xs => RdOp ⟨X.K, n⟩ f (x :: xs)) (ho : PE X o (OkE ⟨X.K, n⟩ W m)) (he : PE X e (OkO ⟨X.K, n⟩ W k))
    (hs : starEach [e] X.env = [(false, eval e X.env)] := by rfl) (hbase : attributeBase o name X.env (eval o X.env) = eval o X.env := by rfl) (hline : (apos.endLine == pos.line) = true := by rfl) : PE X (.Call (.Attribute o name apos) [e] [] pos) (OkE ⟨X.K, n⟩ W (eT1 f m k)) :=
  PE.imp (pe_m1 slot ty rule ho he hs hbase hline) fun _ _ _ h => t1_go h
theorem ev_t0 {o : Expr} {id : String} {name : Str} {apos : Pos} {f : List I → Option O} {m : EM} (slot : Slot "str" name id) (ty : typeOf (.builtin id) = pure (.type "method_descriptor")) (rule : MtR X id fun x xs => RdOp ⟨X.K, n⟩ f (x :: xs)) (ho : PE X o (OkE ⟨X.K, n⟩ W m))
    (hbase : attributeBase o name X.env (eval o X.env) = eval o X.env := by rfl) (hline : (apos.endLine == pos.line) = true := by rfl) : PE X (.Call (.Attribute o name apos) [] [] pos) (OkE ⟨X.K, n⟩ W (eT0 f m)) :=
  PE.imp (pe_m0 slot ty rule ho hbase hline) fun _ _ _ h => t0_go h
/-! isinstance -/
theorem RepF.ty {i v t} (r : RepF P g H i v) (h : tyI i = some t) : TyX P.K H v (.type t) := by
  have tup : ∀ {p vs}, SqT P.K H p vs → TyX P.K H (.ref p) (.type "tuple") := fun {p vs} s => by
    rcases s with (s | ⟨o, s⟩) | ⟨o, its, m, s, c, _⟩
    · exact .base (.tup s)
    · exact .fTuple s
    · exact .kTuple s c
  have lsr : ∀ {p vs}, LsR P.K H p vs → TyX P.K H (.ref p) (.type "list") := fun {p vs} s => by
    rcases s with (s | ⟨o, s⟩) | ⟨its, k, s, _⟩
    · exact .base (.lst s)
    · exact .base (.frz s)
    · exact .kList s rfl
  cases r with
  | im r =>
    cases r with
    | non => cases h; exact .base .non
    | bl b => cases h; exact .base (.bl b)
    | int i => cases h; exact .base (.int i)
    | str s => cases h; exact .base (.str s)
    | tup s _ => cases h; exact tup s.sq
    | lst s _ =>
      cases h
      exact lsr s.r
    | dctK s _ _ _ => cases h; exact .base (.dK s)
    | dctT s _ _ _ => cases h; exact .base (.dT s)
    | ref _ => cases h
    | fn _ => cases h
  | lst s _ =>
    cases h
    exact lsr s
  | dctK s _ _ => cases h; exact .base (.dK s)
  | dctT s _ _ => cases h; exact .base (.dT s)
def tyB (T : String) : Prop := T = "str" ∨ T = "int" ∨ T = "bool" ∨ T = "tuple" ∨ T = "list" ∨ T = "dict"
theorem kit_all {K : PySem.W.Frag} {i : I} {t T : String} (h : tyI i = some t) (hT : tyB T) : PySem.W.kitOne K (.type t) (.type T) = some (isTy t T) := by
  have : ∀ t ∈ ["NoneType", "bool", "int", "str", "tuple", "list", "dict"], ∀ T ∈ ["str", "int", "bool", "tuple", "list", "dict"], kitB t T = some (isTy t T) := by decide +kernel
  refine kit_ty (this t ?_ T ?_)
  · cases i <;> first | (cases h; decide) | cases h
  · rcases hT with rfl | rfl | rfl | rfl | rfl | rfl <;> decide
/-- isinstance(e, T) -/
def tIsi (T : String) (t : TE) : TA := tCons t (tCons (tC (.ty T)) tNil)
theorem ev_isi {T : String} {x : Str} {p p2 : Pos} {f : OM} (hT : tyB T) (hb : bootBuiltins x = some (.type T)) (hm : X.mg "isinstance" = none) (hm2 : X.mg x = none) (ha : PE X e (OkO ⟨X.K, n⟩ W f)) (hg : Gl X "isinstance" := by rfl) (hg2 : Gl X x := by rfl) (hn : x ≠ "__name__" := by decide) (hd : (x == ("__debug__" : Str)) = false := by decide)
    (he : starEach [e, .Name x p2] X.env = (false, eval e X.env) :: starEach [.Name x p2] X.env := by rfl) (he2 : starEach [.Name x p2] X.env = (false, eval (.Name x p2) X.env) :: starEach [] X.env := by rfl) (hpl : (backTo pos (starEach [.Name x p2] X.env)).any (·.1) = false := by rfl) :
    PE X (.Call (.Name "isinstance" p) [e, .Name x p2] [] pos) (OkE ⟨X.K, n⟩ W (op1 (fIsi T) f)) := by
  have base := pe_callB (pos := pos) (p := p) call_isi hg hm PyProof.Rows.boot_isinstance (pa_cons ha (pa_cons (pe_bltn hg2 hm2 hb (v := V.ty T) rfl hn hd) pa_nil he2) he) (by decide) (by decide) he hpl
  refine PE.imp base fun σ H Q h => ?_
  obtain ⟨g, st, F, rs, q⟩ := go1 h
  refine ⟨g, st, F, rs, q.imp (fun s x k1 g1 H1 F1 v Fv p rx => ?_) fun _ _ _ z => z⟩
  obtain ⟨g2, is, zd, hr, o, ho, q2⟩ := k1 g1 H1 F1 v Fv p rx
  unfold fIsi at ho
  split at ho
  · obtain ⟨t, ht, rfl⟩ := Option.map_eq_some_iff.mp ho
    obtain ⟨_, ev, r1⟩ := hr.one
    cases ev
    exact ⟨v, .ty T, .type t, .type T, isTy t T, rfl, .ty T, r1.ty ht, kit_all ht hT, q_bl q2 rfl⟩
  · cases ho
end
end VS

namespace VS
open PySem L2
/-! ### stores into lists -/
/-- x[j] = o, x the k-th slot -/
def putAt (k : Nat) (o j : O) : M Unit := fun st => match st.sl[k]?, j with
  | some (.lst l), .im (.int i) => match ixN l.length i with
    | some j => some (.ok (), { st with sl := st.sl.set k (.lst (l.set j o)) })
    | none => none
  | _, _ => none
def sPut (k : Nat) (ix m : EM) : SM := bnd m fun o => bnd (bo k) fun _ => bnd ix fun j => bnd (putAt k o j) fun _ => ret .nx
section
variable {n : Pn} {W : WX} {X : Cx} {P : Pg} {e a b c tg i : Expr} {es : List Expr} {g g' g0 : Gh} {H H' H0 : Hp} {st st' : St} {σ : L2.St} {F F' F0 : Lo → Fp} {FX Fv : Fp} {pos : Pos} {io : List Nat} {D : Ends}
theorem RepOL.set : ∀ {os : List O} {vs : List V} {F G : Fp} {o v} (j : Nat), RepOL P g H os vs F → RepO P g H o v G → Fp.dj F G → ∃ F', RepOL P g H (os.set j o) (vs.set j v) F' ∧ ∀ b, F' b → F b ∨ G b
  | [], _, F, G, o, v, j, r, ro, _ => by
    cases r
    exact ⟨emp, by simpa using RepOL.nil, fun _ h => h.elim⟩
  | x :: os, _, _, G, o, v, 0, r, ro, d => by
    cases r with
    | @cons _ y _ vs F1 F2 a b d' => exact ⟨un G F2, .cons ro b fun c x y => d c (.inr y) x, fun c h => h.elim .inr fun h => .inl (.inr h)⟩
  | x :: os, _, _, G, o, v, j + 1, r, ro, d => by
    cases r with
    | @cons _ y _ vs F1 F2 a b d' =>
      obtain ⟨F', r', e⟩ := RepOL.set j b ro fun c x y => d c (.inr x) y
      refine ⟨un F1 F', .cons a r' fun c x y => ?_, fun c h => ?_⟩
      · rcases e c y with y | y
        · exact d' c x y
        · exact d c (.inl x) y
      · rcases h with h | h
        · exact .inl (.inl h)
        · exact (e c h).imp .inr id
/-- a slot's own object changes -/
theorem PostS.mod {k : Nat} {p : Addr} {u : HO} {o' : O} {G : Fp} (q : PostS P g0 H0 F0 g H F st σ Fv) (hk : k < st.sl.length) (hv : σ[k]? = some (some (.ref p))) (ha : F (.inl k) p) (r : RepO P g (upd H p u) o' (.ref p) G) (hG : ∀ b, G b → F (.inl k) b ∨ Fv b) :
    PostS P g0 H0 F0 g (upd H p u) (upF F (.inl k) G) { st with sl := st.sl.set k o' } σ emp := by
  obtain ⟨m, z⟩ := q.rs.mt p ⟨_, ha⟩
  have cs : Ch (fun b => b = p) g H g (upd H p u) := .setl m z
  refine ⟨q.rs.upd (o := o') (Fn := G) cs (fun l hl b x y => q.rs.dj l (.inl k) hl b x (by rw [show b = p from y]; exact ha)) rfl rfl hk rfl (fun _ _ => rfl) (fun _ _ => rfl) (.inr ⟨_, hv, r⟩) (fun l hl b x y => ?_) (set_zd q.rs.zd), fun _ h => h.elim,
    q.ch.trans cs fun b x => by rw [show b = p from x]; exact q.sub p (.inl ⟨_, ha⟩), fun b x => ?_, q.pn⟩
  · rcases hG b y with y | y
    · exact q.rs.dj l (.inl k) hl b x y
    · exact q.dj b y ⟨l, x⟩
  · rcases x with x | x
    · rcases tot_up x with ⟨l, _, x⟩ | x
      · exact q.sub b (.inl ⟨l, x⟩)
      · exact q.sub b ((hG b x).imp (fun y => ⟨_, y⟩) id)
    · exact x.elim
theorem bo_slot {k : Nat} {ok ex} (rs : RepS P g H st σ F) (h : RunAt (bo k) st ok ex) : (∃ w, σ[k]? = some (some w)) ∧ ok st (.b k) := by
  unfold RunAt bo at h
  cases q : st.sl[k]? with
  | none => simp [q] at h
  | some o =>
    rcases rs.slot k o q with ⟨rfl, _⟩ | ⟨v, hv, _⟩
    · simp [q] at h
    · refine ⟨⟨v, hv⟩, ?_⟩
      cases o <;> first | (simp only [q] at h; exact h) | (simp [q] at h)
theorem put_go {k : Nat} {f m : EM} (h : OkS P W io (sPut k f m) D σ H) : tAsg (OkE P W m) (gSub (tVar k) (OkE P W f) rSetL) D σ H := by
  obtain ⟨g, st, F, rs, hio, q⟩ := h
  refine ⟨g, st, F, rs, q.bnd.imp (fun s1 o k1 g1 H1 F1 v Fv p1 r1 => ?_) fun _ _ _ z => z⟩
  obtain ⟨⟨w, hw⟩, k1'⟩ := bo_slot p1.rs k1.bnd
  have k1' := k1'.bnd
  refine ⟨w, hw, g1, s1, F1, p1.rs, k1'.imp (fun s2 j k2 g2 H2 F2 u Fu p2 r2 => ?_) fun _ _ _ z => exc_step p1 z⟩
  obtain ⟨p3, r3, d3⟩ := p1.both r1 p2
  have k3 := k2.bnd
  unfold RunAt putAt at k3
  split at k3
  · exact k3.elim
  · rename_i e
    split at e
    · rename_i l i hsl
      split at e
      · rename_i jj hj
        cases e
        cases r2.im_inv
        rcases p3.rs.slot k _ hsl with ⟨z, _⟩ | ⟨w', hw', rr⟩
        · cases z
        · rw [hw] at hw'; cases hw'
          generalize hF : F2 (.inl k) = Fk at rr
          cases rr with
          | @lst _ p vs Fl hp hz rl hn =>
            obtain ⟨G, rG, hG⟩ := rl.set jj r3 fun b x y => p3.dj b (.inl y) ⟨.inl k, by rw [hF]; exact .inr x⟩
            have nv : ¬ Fv p := fun x => p3.dj p (.inl x) ⟨.inl k, by rw [hF]; exact .inl rfl⟩
            have nG : ¬ G p := fun x => (hG p x).elim hn nv
            have cs : Ch (fun b => b = p) g2 H2 g2 (upd H2 p (.lst (vs.set jj v))) := .setl ⟨_, hp, rfl⟩ hz
            have ro : RepO P g2 (upd H2 p (.lst (vs.set jj v))) (.lst (l.set jj o)) (.ref p) (ins1 p G) := .lst upd_same hz (rG.ch cs fun b x y => nG (by rw [← show b = p from y]; exact x)) nG
            refine ⟨p, vs, i, jj, rfl, rfl, hp, by rw [← rl.len]; exact hj, ?_⟩
            have hk : k < s2.sl.length := (List.getElem?_eq_some_iff.mp hsl).1
            exact (show okS P D g H F _ .nx from k3) g2 _ _ σ (p3.mod hk hw (by rw [hF]; exact .inl rfl) ro fun b x => by
              rw [hF]
              rcases x with x | x
              · exact .inl (.inl x)
              · exact (hG b x).imp .inr .inl)
      · cases e
    · cases e
  · rename_i e
    split at e
    · split at e <;> cases e
    · cases e
theorem sv_put {k : Nat} {o v : Expr} {f m : EM} {tpos : Pos} (hv : PE X v (OkE P W m)) (ho : PE X o (tVar k)) (hi : PE X i (OkE P W f)) (hs : swapsWithSole [.Subscript o i tpos] v pos.line X.env = pure false := by rfl) (hw : swappedStores [.Subscript o i tpos] v X.env = pure none := by rfl)
    (h1 : (assignEach [.Subscript o i tpos] X.env).map (·.2) = [assign (.Subscript o i tpos) X.env] := by rfl)
    (ha : ∀ v, assign (.Subscript o i tpos) X.env v = (do
      let ov ← holding [v] (eval o X.env)
      let iv ← holding [v, ov] (eval i X.env)
      standAt tpos
      holding [v, ov, iv] (setItem ov iv v)
      release [v, ov, iv] []) := by intro _; rfl) : PS X (.Assign [.Subscript o i tpos] v pos) (OkS P W io (sPut k f m)) :=
  PS.imp (ps_asg hv (pg_sub ho hi set_list ha) hs hw h1) fun _ _ _ h => put_go h
end
end VS

namespace VS
open PySem PySem.Spec PyProof.Rows L2
/-! ### the end: the law's own def, called by the caller -/
def scr (ns : List Int) : I := .lst (ns.map .int)
theorem scr_rep {P : Pg} {g : Gh} {H : Hp} : ∀ ns : List Int, RepIL P g H (ns.map .int) (ns.map V.int)
  | [] => .nil
  | k :: r => .cons (.int k) (scr_rep r)
section
variable {P : Program} {w : World} {K : PySem.W.Frag} {mg mb : Str → Option Value} {n : Pn} {k N : Nat} {fa a : Addr} {fd : FuncData} {x : Str} {io : List Nat} {fn : Fn} {s : Shared} {vs : List Value} {ns : List Int}
/-- from what is tracked: nothing, or the script as it stands -/
theorem law_from {H : Hp} {Z : Addr → Prop} (KX : K.In s.heap) (hns : s.heap.Ns mainGlobals mg) (hb : s.heap.Ns builtinsNs mb) (hbb : ∀ x : Str, x ≠ "__name__" → mb x = bootBuiltins x) (hlim : s.heap.NoLimit) (hg : s.gens = #[])
    (ha : s.heap.get? a = some { cls := .type "list", data := .seq vs.toArray }) (hr : Room k callerA) (hio : ∀ i ∈ io, i < 1)
    (F : ∀ base : Heap, K.In base → base.Ns mainGlobals mg → FnG P w K mg base k fa fd [x] (spOf ⟨K, n⟩ N 1 io fn)) (hbind : ∀ (s : Shared) (u : Value), BindsTo s fd ⟨[u], []⟩ [(x, u)])
    {fi sto : List O} (hlaw : fn [.im (scr ns)] [] = some (.ok (.im (.bl true)), fi, sto)) (hN : 1 ≤ N)
    (only : ∀ b u, H b = some u → b = a ∧ K.lookup a = none ∧ ∃ o xs, u = .frz o (.lst xs)) (zd : ∀ b, Z b → ∃ o, H b = some o) (hok : HOk P w H s.heap) (hrep : ∀ pn, RepI ⟨K, n⟩ ⟨Z, [], pn⟩ H (scr ns) (.ref a)) :
    codeAny (model P w) callerA (.call (.ref fa) ⟨[.ref a], []⟩) (fun r s' => r = .ok (.ret (.bool true)) ∧ OldK s.heap s'.heap ∧ s'.os = s.os ∧ AllBare s'.gens) s := by
  have untr : ∀ {b : Addr} {o : Obj}, s.heap.get? b = some o → (∀ es ep, o.data = .dict es ep → True) → (b = a → False) → (hidT s.heap H).get? b = some o := fun {b o} e _ nb => hidT_get e (by
    cases q : H b with
    | none => rfl
    | some u => exact (nb (only b u q).1).elim)
  have names : ∀ {b : Addr} {m : Str → Option Value}, s.heap.Ns b m → (hidT s.heap H).Ns b m := by
    rintro b m ⟨o, es, ep, e, d, r⟩
    refine ⟨o, es, ep, untr e (fun _ _ _ => trivial) fun z => ?_, d, r⟩
    subst z
    rw [ha] at e
    cases e
    cases (show Data.seq vs.toArray _ = Data.dict es ep from d)
  have kin : K.In (hidT s.heap H) := fun b o e => hidT_get (KX b o e) (by
    cases q : H b with
    | none => rfl
    | some u =>
      obtain ⟨h1, h2, _⟩ := only b u q
      subst h1
      rw [h2] at e; cases e)
  have md : Mod K mg (hidT s.heap H) := by
    obtain ⟨mc, c1, c2⟩ := hlim
    exact ⟨kin, names hns, ⟨mb, names hb, hbb⟩, mc, names c1, c2⟩
  have env : Env0 P w K mg (hidT s.heap H) callerA [] s H := by
    refine ⟨rfl, md, fun b o e => of_hidT e, Nat.le_of_eq (hidT_size _ _), trivial, ?_, hok, .of_eq hg⟩
    intro b hb
    exact absurd hb (List.not_mem_nil)
  have G := F _ kin (names hns)
  let g : Gh := ⟨Z, [], io.map fun i => (i, ([V.ref a] : List V).getD i .non)⟩
  have rs : RepS ⟨K, n⟩ g H ⟨[.im (scr ns)] ++ List.replicate (N - 1) .hole, []⟩ (([V.ref a] : List V).map some ++ List.replicate (N - 1) none) fun _ => emp := by
    refine ⟨by simp, fun i o e => ?_, fun r o e => ?_, rfl, fun _ _ _ _ h => h.elim, fun _ _ _ h => h, fun _ _ _ h => h, fun p hp => ?_, zd⟩
    · have e' : (O.im (scr ns) :: List.replicate (N - 1) O.hole)[i]? = some o := e
      cases i with
      | zero =>
        simp at e'
        subst e'
        exact .inr ⟨.ref a, rfl, .im (hrep _)⟩
      | succ i =>
        rw [List.getElem?_cons_succ, List.getElem?_replicate] at e'
        split at e'
        · cases e'; exact .inl ⟨rfl, fun _ h => h⟩
        · cases e'
    · simp at e
    · obtain ⟨i, hi, rfl⟩ := List.mem_map.mp hp
      have := hio i hi
      obtain rfl : i = 0 := by omega
      rfl
  have promise : spOf ⟨K, n⟩ N 1 io fn [.ref a] H (fun v _ => v = .bl true) (fun _ _ _ => False) := by
    refine ⟨g, [.im (scr ns)], [], fun _ => emp, rfl, rfl, rfl, rs, ?_⟩
    rw [hlaw]
    intro g' H' F' σ' st' v Fv _ _ ro
    cases ro.im_inv
    rfl
  refine codeAny_mono (G.go callerA [] s H ⟨[.ref a], []⟩ [.ref a] [.ref a] _ _ hr rfl env (hbind s (.ref a)) (.cons rfl .nil) promise) fun r s' hq => ?_
  cases r with
  | error e =>
    obtain ⟨_, _, _, _, _, _, _, _, _, _, _, _, f⟩ := hq
    exact f.elim
  | ok fl =>
    cases fl with
    | next => exact hq.elim
    | brk => exact hq.elim
    | cont => exact hq.elim
    | ret u =>
      obtain ⟨v, H', os, bare, un, hok', r', hv⟩ := hq
      have hv : v = .bl true := hv
      subst hv
      obtain rfl : u = Value.bool true := r'
      refine ⟨rfl, OldK.of_keep fun b o e => ?_, os, bare⟩
      cases q : H b with
      | none => exact un.keep b o e q (by simp [frs]) (by simp)
      | some u =>
        obtain ⟨_, _, ob, xs, rfl⟩ := only b u q
        have q2 := un.frzs b ob _ q
        obtain ⟨e1, _⟩ := hok b _ q
        obtain ⟨e2, _⟩ := hok' b _ q2
        rw [e] at e1; cases e1
        exact e2
theorem law_callG (KX : K.In s.heap) (hns : s.heap.Ns mainGlobals mg) (hb : s.heap.Ns builtinsNs mb) (hbb : ∀ x : Str, x ≠ "__name__" → mb x = bootBuiltins x) (hlim : s.heap.NoLimit) (hg : s.gens = #[])
    (ha : s.heap.get? a = some { cls := .type "list", data := .seq vs.toArray }) (hi : IntsAre vs ns) (hl : ns.length ≤ sizeLine) (hr : Room k callerA) (hio : ∀ i ∈ io, i < 1)
    (F : ∀ base : Heap, K.In base → base.Ns mainGlobals mg → FnG P w K mg base k fa fd [x] (spOf ⟨K, n⟩ N 1 io fn)) (hbind : ∀ (s : Shared) (u : Value), BindsTo s fd ⟨[u], []⟩ [(x, u)])
    {fi sto : List O} (hlaw : fn [.im (scr ns)] [] = some (.ok (.im (.bl true)), fi, sto)) (hN : 1 ≤ N) :
    codeAny (model P w) callerA (.call (.ref fa) ⟨[.ref a], []⟩) (fun r s' => r = .ok (.ret (.bool true)) ∧ OldK s.heap s'.heap ∧ s'.os = s.os ∧ AllBare s'.gens) s := by
  have rv := vals_ints hi
  have len : vs.length = ns.length := hi.length
  cases hk : K.lookup a with
  | some o =>
    have e := KX a o hk
    rw [ha] at e
    cases e
    exact law_from (H := fun _ => none) (Z := fun _ => False) KX hns hb hbb hlim hg ha hr hio F hbind hlaw hN (fun _ _ z => nomatch z) (fun _ z => z.elim) (fun _ _ z => nomatch z)
      fun pn => .lst (.inr ⟨vs.toArray, _, hk, by rw [List.size_toArray, len]; exact hl, by simpa using rv⟩) (scr_rep ns)
  | none =>
    have hH : ∀ {b u}, (if b = a then some (HO.frz { cls := .type "list", data := .seq vs.toArray } (.lst (ns.map V.int))) else none) = some u → b = a ∧ u = HO.frz { cls := .type "list", data := .seq vs.toArray } (.lst (ns.map V.int)) := fun {b u} z => by
      by_cases q : b = a
      · rw [if_pos q] at z; cases z; exact ⟨q, rfl⟩
      · rw [if_neg q] at z; cases z
    refine law_from (H := fun b => if b = a then some (.frz { cls := .type "list", data := .seq vs.toArray } (.lst (ns.map V.int))) else none) (Z := fun b => b = a) KX hns hb hbb hlim hg ha hr hio F hbind hlaw hN (fun b u z => ?_) (fun b z => ⟨_, if_pos z⟩) (fun b u z => ?_)
      fun pn => .lst (.inl ⟨.inr ⟨_, if_pos rfl⟩, rfl⟩) (scr_rep ns)
    · obtain ⟨q, rfl⟩ := hH z
      exact ⟨q, hk, _, _, rfl⟩
    · obtain ⟨q, rfl⟩ := hH z
      subst q
      exact ⟨ha, by rw [List.length_map]; exact hl, vs, _, rv, ha⟩
/-- what k_head leaves -/
theorem walk_G {l : PySem.W.OpenLaw} {m : Nat} {q : Program} {loose : List Str} {XP : (Str → Option Value) → Heap → Prop} {YP : World → Heap → Prop} {d : DefRec} {fn : Fn}
    (hn : l.most = some m) (hn2 : m ≤ sizeLine) (hdf : d.params.defaults = []) (hr : Room k callerA) (hN : 1 ≤ N)
    (F : ∀ (w : World) (mg : Str → Option Value) (fa : Addr) (h : Heap), YP w h → h.Ns mainGlobals mg → mg d.name = some (.ref fa) →
      ∃ (K : PySem.W.Frag) (fd : FuncData) (n : Pn), K.In h ∧ (∀ (s : Shared) (u : Value), BindsTo s fd ⟨[u], []⟩ [(x, u)]) ∧
        ∀ base : Heap, K.In base → base.Ns mainGlobals mg → FnG l.prog w K mg base k fa fd [x] (spOf ⟨K, n⟩ N 1 [] fn))
    (hlaw : ∀ ns : List Int, ns.length ≤ m → ∃ fi sto, fn [.im (scr ns)] [] = some (.ok (.im (.bl true)), fi, sto)) :
    PySem.W.WalkO q loose XP YP l.row.toRowW d [] (fun f vs => PySem.call f vs) := by
  refine Att.attach_call hn hdf fun w s₀ s mg mb fa o pm cd doc a vs ns G Y _ _ _ hmg hobj hints hlen hg => ?_
  obtain ⟨K, fd, n, KX, hb, hF⟩ := F w mg fa _ Y G.T.g hmg
  obtain ⟨fi, sto, e⟩ := hlaw ns hlen
  exact law_callG KX G.T.g G.T.b G.T.builtins G.T.nolimit hg hobj hints (Nat.le_trans hlen hn2) hr (by simp) hF hb e hN
end
end VS

namespace VS
open PySem PySem.Spec PyProof.Rows L2
section
variable {P : Program} {w : World} {K : PySem.W.Frag} {mg : Str → Option Value} {base : Heap} {N : List Str} {qual : Str} {scope : Scope} {f : Addr} {cdv : Value} {A : Around} {outer : List Env} {s : Shared} {H : Hp} {E : XK} {X : Cx} {k : Nat}
theorem cx_owns : PassesOwn (model P w) (cxOf (L2.CX P w) P w K mg base N qual scope f cdv A outer s H E).A (cxOf (L2.CX P w) P w K mg base N qual scope f cdv A outer s H E).env (cxOf (L2.CX P w) P w K mg base N qual scope f cdv A outer s H E).xe := passes_of rfl
theorem cx_takes : Takes (cxOf (L2.CX P w) P w K mg base N qual scope f cdv A outer s H E) (fun cls d _ H => E cls d H) := takes_of rfl rfl rfl rfl
theorem At.u65 (a : At X k) : X.A.units + 65 < cLine := by have := a.room.un; omega
theorem At.u120 (a : At X k) : X.A.units + 120 < cLine := by have := a.room.un; omega
theorem At.u1 (a : At X k) : X.A.units + 1 < cLine := by have := a.room.un; omega
theorem At.hd (a : At X k) : X.A.handled = none := a.room.hd
theorem At.blk {sc : Scope} {s : Shared} {H : Hp} {ce : Env} {fp : List Addr} (a : At X k) : At (X.blk s H sc ce fp) k := ⟨a.room, a.grd⟩
end
end VS
namespace VS
open PySem PySem.Spec PyProof.Rows L2
/-! ### names of the module -/
section
variable {X : Cx} {n : Pn} {W : WX} {x z : Str} {pos : Pos}
theorem e_str {z : Str} (h : ∃ t, X.mg x = some (.str z t)) (hg : Gl X x := by rfl) (hd : (x == ("__debug__" : Str)) = false := by decide) : PE X (.Name x pos) (OkE ⟨X.K, n⟩ W (cI (.str z))) := by
  obtain ⟨t, h⟩ := h
  exact ev_c (pe_glob hg h (v := V.str z) ⟨t, rfl⟩ hd) fun _ _ => .str z
theorem e_int {z : Int} (h : ∃ t, X.mg x = some (.int z t)) (hg : Gl X x := by rfl) (hd : (x == ("__debug__" : Str)) = false := by decide) : PE X (.Name x pos) (OkE ⟨X.K, n⟩ W (cI (.int z))) := by
  obtain ⟨t, h⟩ := h
  exact ev_c (pe_glob hg h (v := V.int z) ⟨t, rfl⟩ hd) fun _ _ => .int z
end
/-- a def that may be called by its name -/
structure Callee (P : Program) (w : World) (K : PySem.W.Frag) (mg : Str → Option Value) (base : Heap) (n : Pn) (x : Str) (k N np : Nat) (io : List Nat) (fn : Fn) (dI : List I) : Prop where
  ex : ∃ f fd ps ds dvs, FnG P w K mg base k f fd ps (spOf ⟨K, n⟩ N np io fn) ∧ mg x = some (.ref f) ∧ PySem.W.keepIn K (.ref f) = true ∧ Binds K fd ps ds ∧ Vals dvs ds ∧ ∀ g H, RepIL ⟨K, n⟩ g H dI dvs
section
variable {P : Program} {w : World} {K : PySem.W.Frag} {mg : Str → Option Value} {base : Heap} {n : Pn} {X : Cx} {W : WX} {x : Str} {k j N np : Nat} {io : List Nat} {fn : Fn} {dI : List I} {f : Addr} {fd : FuncData} {ps : List Str} {e : Expr} {es : List Expr} {p pos : Pos}
theorem Callee.of (G : FnG P w K mg base k f fd ps (spOf ⟨K, n⟩ N np io fn)) (hm : mg x = some (.ref f)) (hk : PySem.W.keepIn K (.ref f) = true) (hb : Binds K fd ps []) : Callee P w K mg base n x k N np io fn [] := ⟨f, fd, ps, [], [], G, hm, hk, hb, .nil, fun _ _ => .nil⟩
theorem Callee.up (C : Callee P w K mg base n x j N np io fn dI) (h : j ≤ k) : Callee P w K mg base n x k N np io fn dI := by
  obtain ⟨f, fd, ps, ds, dvs, G, r⟩ := C
  exact ⟨f, fd, ps, ds, dvs, G.up h, r⟩
theorem ev_callC {fa : OL} (C : Callee X.prog X.w X.K X.mg X.base n x k N np io fn dI) (a : At X j) (hj : k ≤ j) (tk : Takes X W) (ha : PA X (e :: es) (OkOL ⟨X.K, n⟩ W fa)) (hio : ∀ i ∈ io, i < np := by decide)
    (hg : Gl X x := by rfl) (hdb : (x == ("__debug__" : Str)) = false := by decide) (he : starEach (e :: es) X.env = (false, eval e X.env) :: starEach es X.env := by rfl) (hpl : (backTo pos (starEach es X.env)).any (·.1) = false := by rfl) : PE X (.Call (.Name x p) (e :: es) [] pos) (OkE ⟨X.K, n⟩ W (eCall np io fn dI fa)) := by
  obtain ⟨f, fd, ps, ds, dvs, G, hm, hk, hb, hd, hdi⟩ := C
  exact ev_call G (a.le hj) hm hk hb hd hdi tk ha hio hg hdb he hpl
end
end VS

namespace VS
open PySem L2
/-! ### plain reasoning about state functions -/
section
variable {α β : Type} {st : St} {sl sto : List O} {ex : St → Nat → List I → Prop} {k : Nat}
@[simp] theorem q_ret {a : α} {ok : St → α → Prop} : RunAt (ret a) st ok ex ↔ ok st a := Iff.rfl
@[simp] theorem q_bnd {m : M α} {k : α → M β} {ok : St → β → Prop} : RunAt (bnd m k) st ok ex ↔ RunAt m st (fun s a => RunAt (k a) s ok ex) ex := by
  constructor
  · exact RunAt.bnd
  · intro h
    unfold RunAt at h ⊢
    unfold bnd
    cases hm : m st with
    | none => rw [hm] at h; exact h
    | some z =>
      obtain ⟨z, s⟩ := z
      rw [hm] at h
      cases z with
      | ok a => exact h
      | ex c i => exact h
@[simp] theorem q_lift_some {a : α} {ok : St → α → Prop} : RunAt (lift (some a)) st ok ex ↔ ok st a := Iff.rfl
@[simp] theorem q_lift_none {ok : St → α → Prop} : RunAt (lift (none : Option α)) st ok ex ↔ False := Iff.rfl
theorem q_lift {o : Option α} {ok : St → α → Prop} : RunAt (lift o) st ok ex ↔ ∃ a, o = some a ∧ ok st a := by
  cases o with
  | none => simp
  | some a => simp
@[simp] theorem q_none {ok : St → α → Prop} : RunAt (fun _ => none) st ok ex ↔ False := Iff.rfl
@[simp] theorem q_ite {c : Prop} [Decidable c] {m k : M α} {ok : St → α → Prop} : RunAt (if c then m else k) st ok ex ↔ (c → RunAt m st ok ex) ∧ (¬ c → RunAt k st ok ex) := by
  by_cases h : c <;> simp [h]
@[simp] theorem q_cI {i : I} {ok : St → O → Prop} : RunAt (cI i) st ok ex ↔ ok st (.im i) := Iff.rfl
@[simp] theorem q_var {ok : St → O → Prop} : RunAt (eVar k) ⟨sl, sto⟩ ok ex ↔ ∃ i, sl[k]? = some (.im i) ∧ ok ⟨sl, sto⟩ (.im i) := by
  unfold RunAt eVar
  cases h : sl[k]? with
  | none => simp
  | some o => cases o <;> simp
@[simp] theorem q_mv {ok : St → O → Prop} : RunAt (eMv k) ⟨sl, sto⟩ ok ex ↔ ∃ o, sl[k]? = some o ∧ isH o = false ∧ ok ⟨sl.set k .hole, sto⟩ o := by
  unfold RunAt eMv
  cases h : sl[k]? with
  | none => simp
  | some o => cases o <;> simp [isH]
@[simp] theorem q_fv {ok : St → O → Prop} : RunAt (eFv k) ⟨sl, sto⟩ ok ex ↔ ∃ o, sl[k]? = some o ∧ fzb o = true ∧ ok ⟨sl.set k (.im (frz o)), sto⟩ (.im (frz o)) := by
  unfold RunAt eFv
  cases h : sl[k]? with
  | none => simp
  | some o =>
    by_cases hz : fzb o = true <;> simp [hz]
@[simp] theorem q_fz {m : EM} {ok : St → O → Prop} : RunAt (eFz m) st ok ex ↔ RunAt m st (fun s o => fzb o = true ∧ ok s (.im (frz o))) ex := by
  unfold eFz
  rw [q_bnd]
  refine iff_of_eq (congrArg (fun z => RunAt m st z ex) ?_)
  funext s o
  by_cases hz : fzb o = true <;> simp [hz]
@[simp] theorem q_vl {m : EM} {ok : St → Op → Prop} : RunAt (vl m) st ok ex ↔ RunAt m st (fun s o => ok s (.o o)) ex := q_bnd
@[simp] theorem q_bo {ok : St → Op → Prop} : RunAt (bo k) ⟨sl, sto⟩ ok ex ↔ ∃ o, sl[k]? = some o ∧ isH o = false ∧ ok ⟨sl, sto⟩ (.b k) := by
  unfold RunAt bo
  cases h : sl[k]? with
  | none => simp
  | some o => cases o <;> simp [isH]
@[simp] theorem q_aNil {ok : St → List O → Prop} : RunAt aNil st ok ex ↔ ok st [] := Iff.rfl
@[simp] theorem q_aCons {m : EM} {r : AM} {ok : St → List O → Prop} : RunAt (aCons m r) st ok ex ↔ RunAt m st (fun s o => RunAt r s (fun s os => ok s (o :: os)) ex) ex := by
  unfold aCons; simp
@[simp] theorem q_oNil {ok : St → List Op → Prop} : RunAt oNil st ok ex ↔ ok st [] := Iff.rfl
@[simp] theorem q_oCons {m : OM} {r : OL} {ok : St → List Op → Prop} : RunAt (oCons m r) st ok ex ↔ RunAt m st (fun s o => RunAt r s (fun s os => ok s (o :: os)) ex) ex := by
  unfold oCons; simp
@[simp] theorem q_lst {r : AM} {ok : St → O → Prop} : RunAt (eLst r) st ok ex ↔ RunAt r st (fun s os => os.length ≤ sizeLine ∧ ok s (.lst os)) ex := by
  unfold eLst
  rw [q_bnd]
  refine iff_of_eq (congrArg (fun z => RunAt r st z ex) ?_)
  funext s os
  unfold mkLst
  by_cases h : os.length ≤ sizeLine <;> simp [h]
@[simp] theorem q_tup {r : AM} {ok : St → O → Prop} : RunAt (eTup r) st ok ex ↔ RunAt r st (fun s os => ∃ o, mkTup os = some o ∧ ok s o) ex := by
  unfold eTup
  simp [q_lift]
theorem q_rd {f : List I → Option O} {os : List Op} {ok : St → O → Prop} : RunAt (rd f os) st ok ex ↔ ∃ is, flL st os = some is ∧ ∃ o, f is = some o ∧ ok st o := by
  constructor
  · intro h
    obtain ⟨is, o, h1, h2, h3⟩ := h.rd
    exact ⟨is, h1, o, h2, h3⟩
  · rintro ⟨is, h1, o, h2, h3⟩
    unfold RunAt rd
    rw [h1]
    simp only
    rw [h2]
    exact h3
@[simp] theorem q_rd1 {f : List I → Option O} {x : Op} {ok : St → O → Prop} : RunAt (rd f [x]) st ok ex ↔ ∃ i, fl st x = some i ∧ ∃ o, f [i] = some o ∧ ok st o := by
  rw [q_rd]
  constructor
  · rintro ⟨is, h, r⟩
    unfold flL at h
    cases hx : fl st x with
    | none => simp [hx] at h
    | some i => simp [hx, flL] at h; subst h; exact ⟨i, rfl, r⟩
  · rintro ⟨i, h, r⟩
    exact ⟨[i], by simp [flL, h], r⟩
@[simp] theorem q_rd2 {f : List I → Option O} {x y : Op} {ok : St → O → Prop} : RunAt (rd f [x, y]) st ok ex ↔ ∃ i, fl st x = some i ∧ ∃ j, fl st y = some j ∧ ∃ o, f [i, j] = some o ∧ ok st o := by
  rw [q_rd]
  constructor
  · rintro ⟨is, h, r⟩
    unfold flL at h
    cases hx : fl st x with
    | none => simp [hx] at h
    | some i =>
      cases hy : fl st y with
      | none => simp [hx, hy, flL] at h
      | some j => simp [hx, hy, flL] at h; subst h; exact ⟨i, rfl, j, rfl, r⟩
  · rintro ⟨i, h, j, h', r⟩
    exact ⟨[i, j], by simp [flL, h, h'], r⟩
@[simp] theorem fl_o {x : O} : fl st (.o x) = flo st x := rfl
@[simp] theorem fl_b : fl ⟨sl, sto⟩ (.b k) = (sl[k]?).bind (flo ⟨sl, sto⟩) := by
  unfold fl
  cases h : sl[k]? <;> simp [h]
@[simp] theorem flo_non : flo st (.im .non) = some .non := rfl
@[simp] theorem flo_bl {b : Bool} : flo st (.im (.bl b)) = some (.bl b) := rfl
@[simp] theorem flo_int {i : Int} : flo st (.im (.int i)) = some (.int i) := rfl
@[simp] theorem flo_str {x : Str} : flo st (.im (.str x)) = some (.str x) := rfl
@[simp] theorem flo_it {l : List I} : flo st (.im (.tup l)) = some (.tup l) := rfl
@[simp] theorem flo_il {l : List I} : flo st (.im (.lst l)) = some (.lst l) := rfl
@[simp] theorem flo_id {t : Bool} {l : List (DK × I)} : flo st (.im (.dct t l)) = some (.dct t l) := rfl
@[simp] theorem flo_fn {r : Nat} : flo st (.im (.fn r)) = some (.fn r) := rfl
@[simp] theorem flo_ref {r : Nat} : flo ⟨sl, sto⟩ (.im (.ref r)) = (sto[r]?).bind flat := by
  unfold flo
  cases h : sto[r]? <;> simp [h]
@[simp] theorem flo_l {l : List O} : flo st (.lst l) = flat (.lst l) := rfl
@[simp] theorem flo_t {l : List O} : flo st (.tup l) = flat (.tup l) := rfl
@[simp] theorem flo_d {t : Bool} {l : List (DK × O)} : flo st (.dct t l) = flat (.dct t l) := rfl
theorem flo_im {i : I} (h : ∀ r, i ≠ .ref r) : flo st (.im i) = some i := by
  cases i <;> first | rfl | exact absurd rfl (h _)
@[simp] theorem flat_im {i : I} : flat (.im i) = some i := rfl
@[simp] theorem flat_lst {l : List O} : flat (.lst l) = (allIm l).map .lst := rfl
@[simp] theorem flat_tup {l : List O} : flat (.tup l) = (allIm l).map .tup := rfl
@[simp] theorem allIm_nil : allIm [] = some [] := rfl
@[simp] theorem allIm_cons {i : I} {r : List O} : allIm (.im i :: r) = (allIm r).map (i :: ·) := rfl
@[simp] theorem isH_im {i : I} : isH (.im i) = false := rfl
@[simp] theorem isH_lst {i : List O} : isH (.lst i) = false := rfl
@[simp] theorem isH_tup {i : List O} : isH (.tup i) = false := rfl
@[simp] theorem isH_dct {t : Bool} {i : List (DK × O)} : isH (.dct t i) = false := rfl
@[simp] theorem isH_ins {c : Nat} {i : List (Str × O)} : isH (.ins c i) = false := rfl
@[simp] theorem isH_hole : isH .hole = true := rfl
@[simp] theorem fzb_im {i : I} : fzb (.im i) = true := rfl
@[simp] theorem frz_im {i : I} : frz (.im i) = i := rfl
@[simp] theorem ex_ite {α : Type} {c : Prop} [Decidable c] {a : α} {P : α → Prop} : (∃ o, (if c then some a else none) = some o ∧ P o) ↔ c ∧ P a := by
  by_cases h : c <;> simp [h]
@[simp] theorem ex_ite' {α : Type} {c : Prop} [Decidable c] {a : α} {P : α → Prop} : (∃ o, (if c then none else some a) = some o ∧ P o) ↔ ¬ c ∧ P a := by
  by_cases h : c <;> simp [h]
@[simp] theorem ex_map {α β : Type} {x : Option α} {f : α → β} {P : β → Prop} : (∃ o, x.map f = some o ∧ P o) ↔ ∃ a, x = some a ∧ P (f a) := by
  cases x <;> simp
@[simp] theorem ex_and_eq {α : Type} {c : Prop} {a : α} {P : α → Prop} : (∃ o, (c ∧ a = o) ∧ P o) ↔ c ∧ P a := by
  constructor
  · rintro ⟨o, ⟨h, rfl⟩, p⟩; exact ⟨h, p⟩
  · rintro ⟨h, p⟩; exact ⟨a, ⟨h, rfl⟩, p⟩
@[simp] theorem ex_ex_eq {α β : Type} {q : α → Prop} {f : α → β} {P : β → Prop} : (∃ o, (∃ b, q b ∧ f b = o) ∧ P o) ↔ ∃ b, q b ∧ P (f b) := by
  constructor
  · rintro ⟨o, ⟨b, h, rfl⟩, p⟩; exact ⟨b, h, p⟩
  · rintro ⟨b, h, p⟩; exact ⟨_, ⟨b, h, rfl⟩, p⟩
@[simp] theorem mulOk_r {i j : Int} (h1 : -18446744073709551616 < j) (h2 : j < 18446744073709551616) : mulOk i j = true := by
  unfold mulOk
  rw [Bool.or_eq_true_iff]
  exact .inl (decide_eq_true (.inr ⟨by omega, by omega⟩))
@[simp] theorem mulOk_l {i j : Int} (h1 : -18446744073709551616 < i) (h2 : i < 18446744073709551616) : mulOk i j = true := by
  unfold mulOk
  rw [Bool.or_eq_true_iff]
  exact .inl (decide_eq_true (.inl ⟨by omega, by omega⟩))
@[simp] theorem fdvOk_s {j : Int} (h1 : 0 < j) (h2 : j < 1073741824) : fdvOk j = true := by
  unfold fdvOk
  rw [Bool.or_eq_true_iff]
  exact .inl (decide_eq_true ⟨h1, h2⟩)
theorem fin_ix {io : List Nat} {np : Nat} {st : St} : fin io np st = (List.range np).map fun i => if i ∈ io then st.sl.getD i .hole else .hole := rfl
@[simp] theorem fin_1 {io : List Nat} : fin io 1 ⟨sl, sto⟩ = [if 0 ∈ io then sl.getD 0 .hole else .hole] := rfl
@[simp] theorem fin_2 {io : List Nat} : fin io 2 ⟨sl, sto⟩ = [if 0 ∈ io then sl.getD 0 .hole else .hole, if 1 ∈ io then sl.getD 1 .hole else .hole] := rfl
@[simp] theorem fin_3 {io : List Nat} : fin io 3 ⟨sl, sto⟩ = [if 0 ∈ io then sl.getD 0 .hole else .hole, if 1 ∈ io then sl.getD 1 .hole else .hole, if 2 ∈ io then sl.getD 2 .hole else .hole] := rfl
@[simp] theorem fin_4 {io : List Nat} : fin io 4 ⟨sl, sto⟩ = [if 0 ∈ io then sl.getD 0 .hole else .hole, if 1 ∈ io then sl.getD 1 .hole else .hole, if 2 ∈ io then sl.getD 2 .hole else .hole, if 3 ∈ io then sl.getD 3 .hole else .hole] := rfl
@[simp] theorem s_add {i j : Int} : fAdd [.int i, .int j] = some (.im (.int (i + j))) := rfl
@[simp] theorem s_adds {i j : Str} : fAdd [.str i, .str j] = if i.length + j.length ≤ sizeLine then some (.im (.str (i ++ j))) else none := rfl
@[simp] theorem s_addl {l m : List I} : fAdd [.lst l, .lst m] = if l.length + m.length ≤ sizeLine then some (.lst ((l ++ m).map .im)) else none := rfl
@[simp] theorem s_addt {l m : List I} : fAdd [.tup l, .tup m] = if l.length + m.length ≤ sizeLine then some (.im (.tup (l ++ m))) else none := rfl
@[simp] theorem s_sub {i j : Int} : fSub [.int i, .int j] = some (.im (.int (i - j))) := rfl
@[simp] theorem s_mul {i j : Int} : fMul [.int i, .int j] = if mulOk i j then some (.im (.int (i * j))) else none := rfl
@[simp] theorem s_muls {x : Str} {k : Int} : fMul [.str x, .int k] = if rep62 k && decide (x.length * k.toNat ≤ sizeLine) then some (.im (.str (strRep x k.toNat))) else none := rfl
@[simp] theorem s_mull {l : List I} {k : Int} : fMul [.lst l, .int k] = if rep62 k && decide (l.length * k.toNat ≤ sizeLine) then some (.lst ((List.replicate k.toNat l).flatten.map .im)) else none := rfl
@[simp] theorem s_fdv {i j : Int} : fFdv [.int i, .int j] = if fdvOk j then some (.im (.int (i / j))) else none := rfl
@[simp] theorem s_mod {i j : Int} : fMod [.int i, .int j] = if decide (0 < j) then some (.im (.int (i % j))) else none := rfl
@[simp] theorem s_pow {i j : Int} : fPow [.int i, .int j] = if decide (0 ≤ j ∧ j ≤ 1000000 ∧ i.natAbs < 2 ^ 64) then some (.im (.int (i ^ j.toNat))) else none := rfl
@[simp] theorem s_neg {i : Int} : fNeg [.int i] = some (.im (.int (-i))) := rfl
@[simp] theorem s_lt {i j : Int} : fLt [.int i, .int j] = some (.im (.bl (decide (i < j)))) := rfl
@[simp] theorem s_le {i j : Int} : fLe [.int i, .int j] = some (.im (.bl (decide (i ≤ j)))) := rfl
@[simp] theorem s_gt {i j : Int} : fGt [.int i, .int j] = some (.im (.bl (decide (j < i)))) := rfl
@[simp] theorem s_ge {i j : Int} : fGe [.int i, .int j] = some (.im (.bl (decide (j ≤ i)))) := rfl
@[simp] theorem s_isN {i : I} : fIs [i, .non] = some (.im (.bl (isNon i))) := by
  unfold fIs fIsB; split <;> simp_all
@[simp] theorem s_isNotN {i : I} : fIsNot [i, .non] = some (.im (.bl (!isNon i))) := by
  unfold fIsNot fIsB; split <;> simp_all
@[simp] theorem s_isB {a b : Bool} : fIs [.bl a, .bl b] = some (.im (.bl (decide (a = b)))) := rfl
@[simp] theorem s_isNotB {a b : Bool} : fIsNot [.bl a, .bl b] = some (.im (.bl (!decide (a = b)))) := rfl
@[simp] theorem s_ixl {l : List I} {i : Int} : fIx [.lst l, .int i] = (atI l i).map .im := rfl
@[simp] theorem s_ixt {l : List I} {i : Int} : fIx [.tup l, .int i] = (atI l i).map .im := rfl
@[simp] theorem s_ixs {z : Str} {i : Int} : fIx [.str z, .int i] = if z.length ≤ sizeLine then (atI z.cps.toList i).map fun c => .im (.str ⟨#[c]⟩) else none := rfl
@[simp] theorem s_lenl {l : List I} : fLen [.lst l] = some (.im (.int (l.length : Nat))) := rfl
@[simp] theorem s_lent {l : List I} : fLen [.tup l] = some (.im (.int (l.length : Nat))) := rfl
@[simp] theorem s_lens {z : Str} : fLen [.str z] = if z.length ≤ sizeLine then some (.im (.int (z.length : Nat))) else none := by
  unfold fLen lenI; by_cases h : z.length ≤ sizeLine <;> simp [h]
@[simp] theorem s_abs {i : Int} : fAbs [.int i] = some (.im (.int (if i < 0 then -i else i))) := rfl
@[simp] theorem s_max {i j : Int} : fMax [.int i, .int j] = some (.im (.int (if j > i then j else i))) := rfl
@[simp] theorem s_min {i j : Int} : fMin [.int i, .int j] = some (.im (.int (if j < i then j else i))) := rfl
@[simp] theorem s_isi {T : String} {i : I} : fIsi T [i] = (tyI i).map fun t => .im (.bl (isTy t T)) := rfl
@[simp] theorem s_in {l : List I} : fIn l = (inOp l).map fun b => .im (.bl b) := rfl
@[simp] theorem s_notin {l : List I} : fNotIn l = (inOp l).map fun b => .im (.bl (!b)) := rfl
theorem at_nat {α : Type} {l : List α} {k : Nat} (h : k < l.length) : atI l (k : Int) = some l[k] := by
  have : (k : Int) < l.length := by omega
  simp [atI, ixN, this, h]
theorem at_int {α : Type} {l : List α} {i : Int} (h0 : 0 ≤ i) (h : i < l.length) : atI l i = l[i.toNat]? := by
  simp [atI, ixN, h0, h]
theorem at_0 {α : Type} {a : α} {r : List α} : atI (a :: r) 0 = some a := at_nat (k := 0) (by simp)
theorem at_1 {α : Type} {a b : α} {r : List α} : atI (a :: b :: r) 1 = some b := at_nat (k := 1) (by simp)
theorem at_2 {α : Type} {a b c : α} {r : List α} : atI (a :: b :: c :: r) 2 = some c := at_nat (k := 2) (by simp)
theorem at_3 {α : Type} {a b c d : α} {r : List α} : atI (a :: b :: c :: d :: r) 3 = some d := at_nat (k := 3) (by simp)
@[simp] theorem q_op1 {f : List I → Option O} {a : OM} {ok : St → O → Prop} : RunAt (op1 f a) st ok ex ↔ RunAt a st (fun s x => RunAt (rd f [x]) s ok ex) ex := q_bnd
@[simp] theorem q_op2 {f : List I → Option O} {a b : OM} {ok : St → O → Prop} : RunAt (op2 f a b) st ok ex ↔ RunAt a st (fun s x => RunAt b s (fun s y => RunAt (rd f [x, y]) s ok ex) ex) ex := by
  unfold op2; rw [q_bnd]; simp only [q_bnd]
@[simp] theorem q_opN {f : List I → Option O} {a : OL} {ok : St → O → Prop} : RunAt (opN f a) st ok ex ↔ RunAt a st (fun s x => RunAt (rd f x) s ok ex) ex := q_bnd
@[simp] theorem q_eT1 {f : List I → Option O} {m : EM} {k : OM} {ok : St → O → Prop} : RunAt (eT1 f m k) st ok ex ↔ RunAt m st (fun s o => ∃ a, o = .im (.str a) ∧ RunAt k s (fun s y => RunAt (rd f [.o (.im (.str a)), y]) s ok ex) ex) ex := by
  unfold eT1
  rw [q_bnd]
  refine iff_of_eq (congrArg (fun z => RunAt m st z ex) ?_)
  funext s o
  split
  · simp only [q_bnd, O.im.injEq, I.str.injEq, exists_eq_left']
  · rename_i h
    simp only [q_lift_none, eq_iff_iff, false_iff, not_exists, not_and]
    intro a e
    exact absurd e (h a)
@[simp] theorem q_eT0 {f : List I → Option O} {m : EM} {ok : St → O → Prop} : RunAt (eT0 f m) st ok ex ↔ RunAt m st (fun s o => ∃ a, o = .im (.str a) ∧ RunAt (rd f [.o (.im (.str a))]) s ok ex) ex := by
  unfold eT0
  rw [q_bnd]
  refine iff_of_eq (congrArg (fun z => RunAt m st z ex) ?_)
  funext s o
  split
  · simp
  · rename_i h
    simp only [q_lift_none, eq_iff_iff, false_iff, not_exists, not_and]
    intro a e
    exact absurd e (h a)
@[simp] theorem q_asB {m : EM} {ok : St → Bool → Prop} : RunAt (asB m) st ok ex ↔ RunAt m st (fun s o => ∃ b, o = .im (.bl b) ∧ ok s b) ex := by
  unfold asB
  rw [q_bnd]
  refine iff_of_eq (congrArg (fun z => RunAt m st z ex) ?_)
  funext s o
  split
  · simp
  · rename_i h
    simp only [q_lift_none, eq_iff_iff, false_iff, not_exists, not_and]
    intro a e
    exact absurd e (h a)
@[simp] theorem q_bAnd {m k : BM} {ok : St → Bool → Prop} : RunAt (bAnd m k) st ok ex ↔ RunAt m st (fun s b => (b = true → RunAt k s ok ex) ∧ (b = false → ok s false)) ex := by
  unfold bAnd; simp
@[simp] theorem q_bOr {m k : BM} {ok : St → Bool → Prop} : RunAt (bOr m k) st ok ex ↔ RunAt m st (fun s b => (b = true → ok s true) ∧ (b = false → RunAt k s ok ex)) ex := by
  unfold bOr; simp
@[simp] theorem q_bNot {m : BM} {ok : St → Bool → Prop} : RunAt (bNot m) st ok ex ↔ RunAt m st (fun s b => ok s (!b)) ex := by
  unfold bNot; simp
@[simp] theorem q_bYes {ok : St → Bool → Prop} : RunAt bYes st ok ex ↔ ok st true := Iff.rfl
@[simp] theorem q_eAnd {m k : EM} {ok : St → O → Prop} : RunAt (eAnd m k) st ok ex ↔ RunAt (asB m) st (fun s b => (b = true → RunAt k s ok ex) ∧ (b = false → ok s (.im (.bl false)))) ex := by
  unfold eAnd; rw [q_bnd]; simp only [q_ite, q_ret, Bool.not_eq_true]
@[simp] theorem q_eOr {m k : EM} {ok : St → O → Prop} : RunAt (eOr m k) st ok ex ↔ RunAt (asB m) st (fun s b => (b = true → ok s (.im (.bl true))) ∧ (b = false → RunAt k s ok ex)) ex := by
  unfold eOr; rw [q_bnd]; simp only [q_ite, q_ret, Bool.not_eq_true]
@[simp] theorem q_eNot {m : EM} {ok : St → O → Prop} : RunAt (eNot m) st ok ex ↔ RunAt (asB m) st (fun s b => ok s (.im (.bl (!b)))) ex := by
  unfold eNot; rw [q_bnd]; simp only [q_ret]
@[simp] theorem q_eIf {t : BM} {m k : EM} {ok : St → O → Prop} : RunAt (eIf t m k) st ok ex ↔ RunAt t st (fun s b => (b = true → RunAt m s ok ex) ∧ (b = false → RunAt k s ok ex)) ex := by
  unfold eIf; simp
@[simp] theorem q_pNo {ok : St → Option Int → Prop} : RunAt pNo st ok ex ↔ ok st none := Iff.rfl
@[simp] theorem q_pAt {m : EM} {ok : St → Option Int → Prop} : RunAt (pAt m) st ok ex ↔ RunAt m st (fun s o => ∃ i, o = .im (.int i) ∧ ok s (some i)) ex := by
  unfold pAt
  rw [q_bnd]
  refine iff_of_eq (congrArg (fun z => RunAt m st z ex) ?_)
  funext s o
  split
  · simp
  · rename_i h
    simp only [q_lift_none, eq_iff_iff, false_iff, not_exists, not_and]
    intro a e
    exact absurd e (h a)
@[simp] theorem q_eSl {a : OM} {lo hi : OP} {ok : St → O → Prop} : RunAt (eSl a lo hi) st ok ex ↔ RunAt a st (fun s x => RunAt lo s (fun s l => RunAt hi s (fun s h => RunAt (rd (fSl l h) [x]) s ok ex) ex) ex) ex := by
  unfold eSl; simp only [q_bnd]
@[simp] theorem q_eCh {f h : List I → Option O} {a b c : OM} {ok : St → O → Prop} : RunAt (eCh f h a b c) st ok ex ↔ RunAt a st (fun s x => RunAt b s (fun s y => RunAt (asB (rd f [x, y])) s (fun s z => (z = true → RunAt c s (fun s w => RunAt (rd h [y, w]) s ok ex) ex) ∧ (z = false → ok s (.im (.bl false)))) ex) ex) ex := by
  unfold eCh
  simp only [q_bnd]
  refine iff_of_eq (congrArg (fun z => RunAt a st z ex) ?_)
  funext s x
  refine congrArg (fun z => RunAt b s z ex) ?_
  funext s y
  rw [q_asB]
  refine congrArg (fun z => RunAt (rd f [x, y]) s z ex) ?_
  funext s o
  split
  · simp
  · simp
  · rename_i h1 h2
    simp only [q_lift_none, eq_iff_iff, false_iff, not_exists, not_and]
    intro b e
    cases b with
    | true => exact absurd e h1
    | false => exact absurd e h2
/-! statements -/
@[simp] theorem q_sNext {ok : St → VS.Fl → Prop} : RunAt sNext st ok ex ↔ ok st .nx := Iff.rfl
@[simp] theorem q_sBrk {ok : St → VS.Fl → Prop} : RunAt sBrk st ok ex ↔ ok st .bk := Iff.rfl
@[simp] theorem q_sCont {ok : St → VS.Fl → Prop} : RunAt sCont st ok ex ↔ ok st .ct := Iff.rfl
@[simp] theorem q_sRetN {ok : St → VS.Fl → Prop} : RunAt sRetN st ok ex ↔ ok st (.rt (.im .non)) := Iff.rfl
@[simp] theorem q_put {o : O} {ok : St → Unit → Prop} : RunAt (put k o) ⟨sl, sto⟩ ok ex ↔ k < sl.length ∧ ok ⟨sl.set k o, sto⟩ () := by
  unfold RunAt put
  by_cases h : k < sl.length <;> simp [h]
@[simp] theorem q_sSet {m : EM} {ok : St → VS.Fl → Prop} : RunAt (sSet k m) st ok ex ↔ RunAt m st (fun s o => RunAt (put k o) s (fun s _ => ok s .nx) ex) ex := by
  unfold sSet; simp only [q_bnd, q_ret]
@[simp] theorem q_sDrop {m : EM} {ok : St → VS.Fl → Prop} : RunAt (sDrop m) st ok ex ↔ RunAt m st (fun s _ => ok s .nx) ex := by
  unfold sDrop; simp only [q_bnd, q_ret]
@[simp] theorem q_sRet {m : EM} {ok : St → VS.Fl → Prop} : RunAt (sRet m) st ok ex ↔ RunAt m st (fun s o => ok s (.rt o)) ex := by
  unfold sRet; simp only [q_bnd, q_ret]
@[simp] theorem q_sIf {t : BM} {m k : SM} {ok : St → VS.Fl → Prop} : RunAt (sIf t m k) st ok ex ↔ RunAt t st (fun s b => (b = true → RunAt m s ok ex) ∧ (b = false → RunAt k s ok ex)) ex := by
  unfold sIf; simp
/-- what stands behind a statement -/
def thenK (k : SM) (ok : St → VS.Fl → Prop) (ex : St → Nat → List I → Prop) (s : St) (f : VS.Fl) : Prop := match f with
  | .nx => RunAt k s ok ex
  | f => ok s f
@[simp] theorem thenK_nx {m : SM} {ok : St → VS.Fl → Prop} : thenK m ok ex st .nx ↔ RunAt m st ok ex := Iff.rfl
@[simp] theorem thenK_rt {m : SM} {o : O} {ok : St → VS.Fl → Prop} : thenK m ok ex st (.rt o) ↔ ok st (.rt o) := Iff.rfl
@[simp] theorem thenK_bk {m : SM} {ok : St → VS.Fl → Prop} : thenK m ok ex st .bk ↔ ok st .bk := Iff.rfl
@[simp] theorem thenK_ct {m : SM} {ok : St → VS.Fl → Prop} : thenK m ok ex st .ct ↔ ok st .ct := Iff.rfl
@[simp] theorem q_sSeq {m k : SM} {ok : St → VS.Fl → Prop} : RunAt (sSeq m k) st ok ex ↔ RunAt m st (thenK k ok ex) ex := by
  unfold sSeq
  rw [q_bnd]
  refine iff_of_eq (congrArg (fun z => RunAt m st z ex) ?_)
  funext s f
  cases f <;> rfl
@[simp] theorem q_putAt {o j : O} {ok : St → Unit → Prop} : RunAt (putAt k o j) ⟨sl, sto⟩ ok ex ↔ ∃ l, sl[k]? = some (.lst l) ∧ ∃ i, j = .im (.int i) ∧ ∃ n, ixN l.length i = some n ∧ ok ⟨sl.set k (.lst (l.set n o)), sto⟩ () := by
  unfold RunAt putAt
  cases h : sl[k]? with
  | none => simp
  | some x =>
    cases x with
    | lst l =>
      cases j with
      | im i =>
        cases i with
        | int i =>
          cases hn : ixN l.length i with
          | none => simp [hn]
          | some n => simp [hn]
        | _ => simp
      | _ => simp
    | _ => simp
@[simp] theorem q_sPut {ix m : EM} {ok : St → VS.Fl → Prop} : RunAt (sPut k ix m) st ok ex ↔ RunAt m st (fun s o => RunAt (bo k) s (fun s _ => RunAt ix s (fun s j => RunAt (putAt k o j) s (fun s _ => ok s .nx) ex) ex) ex) ex := by
  unfold sPut; simp only [q_bnd, q_ret]
/-! defs -/
@[irreducible] def Does (F : Fn) (os sto : List O) (Q : O → List O → List O → Prop) (E : Nat → List I → List O → List O → Prop) : Prop := match F os sto with
  | none => False
  | some (.ok o, fi, sto') => Q o fi sto'
  | some (.ex c i, fi, sto') => E c i fi sto'
theorem Does.imp {F : Fn} {os sto : List O} {Q Q' : O → List O → List O → Prop} {E E' : Nat → List I → List O → List O → Prop} (h : Does F os sto Q E) (h1 : ∀ o f s, Q o f s → Q' o f s) (h2 : ∀ c i f s, E c i f s → E' c i f s) : Does F os sto Q' E' := by
  unfold Does at h ⊢
  split at h
  · exact h
  · exact h1 _ _ _ h
  · exact h2 _ _ _ _ h
theorem does_mk {N np : Nat} {io : List Nat} {b : SM} {os sto : List O} {Q : O → List O → List O → Prop} {E : Nat → List I → List O → List O → Prop} : Does (mkFn N np io b) os sto Q E ↔ RunAt b ⟨os ++ List.replicate (N - os.length) .hole, sto⟩ (fun st f => match f with
    | .rt o => Q o (fin io np st) st.sto
    | .nx => Q (.im .non) (fin io np st) st.sto
    | _ => False) (fun st c i => E c i (fin io np st) st.sto) := by
  unfold Does mkFn RunAt
  cases h : b ⟨os ++ List.replicate (N - os.length) .hole, sto⟩ with
  | none => simp
  | some z =>
    obtain ⟨z, s⟩ := z
    cases z with
    | ok f => cases f <;> simp
    | ex c i => simp
theorem does_eq {F : Fn} {os sto : List O} {o fi sto'} (h : Does F os sto (fun o' fi' s' => o' = o ∧ fi' = fi ∧ s' = sto') (fun _ _ _ _ => False)) : F os sto = some (.ok o, fi, sto') := by
  unfold Does at h
  split at h
  · exact h.elim
  · rename_i e; obtain ⟨rfl, rfl, rfl⟩ := h; exact e
  · exact h.elim
theorem does_ok {F : Fn} {os sto : List O} {o : O} (h : Does F os sto (fun o' _ _ => o' = o) (fun _ _ _ _ => False)) : ∃ fi s', F os sto = some (.ok o, fi, s') := by
  unfold Does at h
  split at h
  · exact h.elim
  · rename_i e; subst h; exact ⟨_, _, e⟩
  · exact h.elim
@[simp] theorem q_callK {io : List Nat} {F : Fn} {ops : List Op} {ok : St → O → Prop} : RunAt (callK io F ops) ⟨sl, sto⟩ ok ex ↔ ∃ os, resL ⟨sl, sto⟩ ops = some os ∧ (bks ops).Nodup ∧ Does F os sto (fun o fi s' => ∃ sl', back io 0 sl ops fi = some sl' ∧ ok ⟨sl', s'⟩ o) (fun c i fi s' => ∃ sl', back io 0 sl ops fi = some sl' ∧ ex ⟨sl', s'⟩ c i) := by
  unfold RunAt callK Does
  cases hr : resL ⟨sl, sto⟩ ops with
  | none => simp
  | some os =>
    by_cases nd : (bks ops).Nodup
    · simp only [nd, if_true, Option.some.injEq, exists_eq_left', true_and]
      cases hf : F os sto with
      | none => simp
      | some z =>
        obtain ⟨z, fi, s'⟩ := z
        cases hb : back io 0 sl ops fi with
        | none => cases z <;> simp [hb]
        | some sl' => cases z <;> simp [hb]
    · simp [nd]
@[simp] theorem q_eCall {np : Nat} {io : List Nat} {F : Fn} {ds : List I} {a : OL} {ok : St → O → Prop} : RunAt (eCall np io F ds a) st ok ex ↔ RunAt a st (fun s ops => ops.length + ds.length = np ∧ RunAt (callK io F (ops ++ ds.map fun i => .o (.im i))) s ok ex) ex := by
  unfold eCall
  rw [q_bnd]
  refine iff_of_eq (congrArg (fun z => RunAt a st z ex) ?_)
  funext s ops
  by_cases h : ops.length + ds.length = np <;> simp [h]
/-! loops -/
@[simp] theorem q_sFor {m : IM} {T : Tg} {b : SM} {ok : St → VS.Fl → Prop} : RunAt (sFor m T b) st ok ex ↔ RunAt m st (fun s is => RunAt (forL T b is) s ok ex) ex := q_bnd
theorem q_forL {T : Tg} {b : SM} {ok : St → VS.Fl → Prop} (Inv : List I → St → Prop) : ∀ {is : List I} {st : St}, Inv is st → (∀ i r s, i ∈ is → Inv (i :: r) s → RunAt (putT T i) s (fun s _ => RunAt b s (fun s f => match f with
    | .nx => Inv r s
    | .ct => Inv r s
    | .bk => ok s .nx
    | .rt o => ok s (.rt o)) ex) ex) → (∀ s, Inv [] s → ok s .nx) → RunAt (forL T b is) st ok ex
  | [], st, h0, _, hd => hd st h0
  | i :: is, st, h0, hs, hd => by
    unfold forL
    simp only [q_bnd]
    refine RunAt.imp (hs i is st List.mem_cons_self h0) (fun s _ h => RunAt.imp h (fun s f h => ?_) fun _ _ _ h => h) fun _ _ _ h => h
    have next : Inv is s → RunAt (forL T b is) s ok ex := fun h => q_forL Inv h (fun i r s hi => hs i r s (List.mem_cons_of_mem _ hi)) hd
    cases f with
    | nx => exact next h
    | ct => exact next h
    | bk => exact h
    | rt o => exact h
@[simp] theorem q_nm {i : I} {ok : St → Unit → Prop} : RunAt (putT (.nm k) i) st ok ex ↔ RunAt (put k (.im i)) st ok ex := by
  unfold putT; rfl
@[simp] theorem q_itV {m : EM} {ok : St → List I → Prop} : RunAt (itV m) st ok ex ↔ RunAt m st (fun s o => ∃ is, itemsOf o = some is ∧ ok s is) ex := by
  unfold itV; simp [q_lift]
theorem q_itR1 {m : EM} {ok : St → List I → Prop} : RunAt (itR (aCons m aNil)) st ok ex ↔ RunAt m st (fun s o => ∃ j, o = .im (.int j) ∧ r62 j = true ∧ ok s (rng 0 j.toNat)) ex := by
  unfold itR
  simp only [q_bnd, q_aCons, q_aNil]
  refine iff_of_eq (congrArg (fun z => RunAt m st z ex) ?_)
  funext s o
  split
  · rename_i j e
    cases e
    by_cases h : r62 j = true <;> simp [h]
  · rename_i e; cases e
  · rename_i h1 h2
    simp only [q_lift_none, eq_iff_iff, false_iff, not_exists, not_and]
    intro j e
    subst e
    exact absurd rfl (h1 j)
theorem q_blk {own : List Nat} {m : M α} {k : α → β} {ok : St → β → Prop} : RunAt (blkM own m k) ⟨sl, sto⟩ ok ex ↔ imAt own sl = true ∧ RunAt m ⟨sl, sto⟩ (fun s a => ok ⟨resto sl own s.sl, s.sto⟩ (k a)) (fun _ _ _ => False) := by
  unfold RunAt blkM
  by_cases h : imAt own sl = true
  · simp only [h, if_true, true_and]
    cases hm : m ⟨sl, sto⟩ with
    | none => simp
    | some z =>
      obtain ⟨z, s⟩ := z
      cases z <;> simp
  · simp [h]
@[simp] theorem q_eLc {own : List Nat} {src : IM} {T : Tg} {t : BM} {e : EM} {ok : St → O → Prop} : RunAt (eLc own src T t e) st ok ex ↔ RunAt src st (fun s is => RunAt (blkM own (lcL own T t e is []) .lst) s ok ex) ex := q_bnd
theorem q_lcL {own : List Nat} {T : Tg} {t : BM} {e : EM} {ok : St → List O → Prop} (Inv : List I → List O → St → Prop) : ∀ {is : List I} {acc : List O} {st : St}, Inv is acc st → (∀ i r acc s, i ∈ is → Inv (i :: r) acc s → RunAt (putT T i) ⟨wip s.sl own, s.sto⟩ (fun s _ => RunAt t s (fun s c =>
      (c = true → RunAt e s (fun s o => acc.length < sizeLine ∧ Inv r (acc ++ [o]) s) ex) ∧ (c = false → Inv r acc s)) ex) ex) → (∀ acc s, Inv [] acc s → ok s acc) → RunAt (lcL own T t e is acc) st ok ex
  | [], acc, st, h0, _, hd => hd acc st h0
  | i :: is, acc, st, h0, hs, hd => by
    unfold lcL
    simp only [q_bnd]
    show RunAt (putT T i) ⟨wip st.sl own, st.sto⟩ _ ex
    refine RunAt.imp (hs i is acc st List.mem_cons_self h0) (fun s _ h => RunAt.imp h (fun s c h => ?_) fun _ _ _ h => h) fun _ _ _ h => h
    have next : ∀ acc s, Inv is acc s → RunAt (lcL own T t e is acc) s ok ex := fun acc s h => q_lcL Inv h (fun i r acc s hi => hs i r acc s (List.mem_cons_of_mem _ hi)) hd
    cases c with
    | false => simpa using next acc s (h.2 rfl)
    | true =>
      simp only [if_true, q_bnd]
      refine RunAt.imp (h.1 rfl) (fun s o h => ?_) fun _ _ _ h => h
      simp only [h.1, if_true]
      exact next _ s h.2
/-! the same, not to be run by whnf -/
@[irreducible] def Run (f : M α) (st : St) (ok : St → α → Prop) (ex : St → Nat → List I → Prop) : Prop := RunAt f st ok ex
theorem run_iff {f : M α} {ok : St → α → Prop} : Run f st ok ex ↔ RunAt f st ok ex := by
  unfold Run; exact Iff.rfl
theorem Run.imp {f : M α} {ok ok' : St → α → Prop} {ex' : St → Nat → List I → Prop} (h : Run f st ok ex) (h1 : ∀ s a, ok s a → ok' s a) (h2 : ∀ s c i, ex s c i → ex' s c i) : Run f st ok' ex' := run_iff.mpr ((run_iff.mp h).imp h1 h2)
@[irreducible] def thenR (k : SM) (ok : St → VS.Fl → Prop) (ex : St → Nat → List I → Prop) (s : St) (f : VS.Fl) : Prop := thenK k ok ex s f
theorem then_iff {k : SM} {ok : St → VS.Fl → Prop} {f : VS.Fl} : thenR k ok ex st f ↔ thenK k ok ex st f := by
  unfold thenR; exact Iff.rfl
theorem then_fun {k : SM} {ok : St → VS.Fl → Prop} : thenR k ok ex = thenK k ok ex := by
  unfold thenR; rfl
@[simp] theorem thenR_nx {m : SM} {ok : St → VS.Fl → Prop} : thenR m ok ex st .nx ↔ Run m st ok ex := by
  rw [then_iff, run_iff]; exact Iff.rfl
@[simp] theorem thenR_rt {m : SM} {o : O} {ok : St → VS.Fl → Prop} : thenR m ok ex st (.rt o) ↔ ok st (.rt o) := by
  rw [then_iff]; exact Iff.rfl
@[simp] theorem thenR_bk {m : SM} {ok : St → VS.Fl → Prop} : thenR m ok ex st .bk ↔ ok st .bk := by
  rw [then_iff]; exact Iff.rfl
@[simp] theorem thenR_ct {m : SM} {ok : St → VS.Fl → Prop} : thenR m ok ex st .ct ↔ ok st .ct := by
  rw [then_iff]; exact Iff.rfl
@[simp] theorem r_ret {a : α} {ok : St → α → Prop} : Run (ret a) st ok ex ↔ ok st a := by
  simp only [run_iff]
  exact q_ret
@[simp] theorem r_bnd {m : M α} {k : α → M β} {ok : St → β → Prop} : Run (bnd m k) st ok ex ↔ Run m st (fun s a => Run (k a) s ok ex) ex := by
  simp only [run_iff]
  exact q_bnd
@[simp] theorem r_lift_some {a : α} {ok : St → α → Prop} : Run (lift (some a)) st ok ex ↔ ok st a := by
  simp only [run_iff]
  exact q_lift_some
@[simp] theorem r_lift_none {ok : St → α → Prop} : Run (lift (none : Option α)) st ok ex ↔ False := by
  simp only [run_iff]
  exact q_lift_none
theorem r_lift {o : Option α} {ok : St → α → Prop} : Run (lift o) st ok ex ↔ ∃ a, o = some a ∧ ok st a := by
  simp only [run_iff]
  exact q_lift
@[simp] theorem r_none {ok : St → α → Prop} : Run (fun _ => none) st ok ex ↔ False := by
  simp only [run_iff]
  exact q_none
@[simp] theorem r_ite {c : Prop} [Decidable c] {m k : M α} {ok : St → α → Prop} : Run (if c then m else k) st ok ex ↔ (c → Run m st ok ex) ∧ (¬ c → Run k st ok ex) := by
  simp only [run_iff]
  exact q_ite
@[simp] theorem r_cI {i : I} {ok : St → O → Prop} : Run (cI i) st ok ex ↔ ok st (.im i) := by
  simp only [run_iff]
  exact q_cI
@[simp] theorem r_var {ok : St → O → Prop} : Run (eVar k) ⟨sl, sto⟩ ok ex ↔ ∃ i, sl[k]? = some (.im i) ∧ ok ⟨sl, sto⟩ (.im i) := by
  simp only [run_iff]
  exact q_var
@[simp] theorem r_mv {ok : St → O → Prop} : Run (eMv k) ⟨sl, sto⟩ ok ex ↔ ∃ o, sl[k]? = some o ∧ isH o = false ∧ ok ⟨sl.set k .hole, sto⟩ o := by
  simp only [run_iff]
  exact q_mv
@[simp] theorem r_fv {ok : St → O → Prop} : Run (eFv k) ⟨sl, sto⟩ ok ex ↔ ∃ o, sl[k]? = some o ∧ fzb o = true ∧ ok ⟨sl.set k (.im (frz o)), sto⟩ (.im (frz o)) := by
  simp only [run_iff]
  exact q_fv
@[simp] theorem r_fz {m : EM} {ok : St → O → Prop} : Run (eFz m) st ok ex ↔ Run m st (fun s o => fzb o = true ∧ ok s (.im (frz o))) ex := by
  simp only [run_iff]
  exact q_fz
@[simp] theorem r_vl {m : EM} {ok : St → Op → Prop} : Run (vl m) st ok ex ↔ Run m st (fun s o => ok s (.o o)) ex := by
  simp only [run_iff]
  exact q_vl
@[simp] theorem r_bo {ok : St → Op → Prop} : Run (bo k) ⟨sl, sto⟩ ok ex ↔ ∃ o, sl[k]? = some o ∧ isH o = false ∧ ok ⟨sl, sto⟩ (.b k) := by
  simp only [run_iff]
  exact q_bo
@[simp] theorem r_aNil {ok : St → List O → Prop} : Run aNil st ok ex ↔ ok st [] := by
  simp only [run_iff]
  exact q_aNil
@[simp] theorem r_aCons {m : EM} {r : AM} {ok : St → List O → Prop} : Run (aCons m r) st ok ex ↔ Run m st (fun s o => Run r s (fun s os => ok s (o :: os)) ex) ex := by
  simp only [run_iff]
  exact q_aCons
@[simp] theorem r_oNil {ok : St → List Op → Prop} : Run oNil st ok ex ↔ ok st [] := by
  simp only [run_iff]
  exact q_oNil
@[simp] theorem r_oCons {m : OM} {r : OL} {ok : St → List Op → Prop} : Run (oCons m r) st ok ex ↔ Run m st (fun s o => Run r s (fun s os => ok s (o :: os)) ex) ex := by
  simp only [run_iff]
  exact q_oCons
@[simp] theorem r_lst {r : AM} {ok : St → O → Prop} : Run (eLst r) st ok ex ↔ Run r st (fun s os => os.length ≤ sizeLine ∧ ok s (.lst os)) ex := by
  simp only [run_iff]
  exact q_lst
@[simp] theorem r_tup {r : AM} {ok : St → O → Prop} : Run (eTup r) st ok ex ↔ Run r st (fun s os => ∃ o, mkTup os = some o ∧ ok s o) ex := by
  simp only [run_iff]
  exact q_tup
theorem r_rd {f : List I → Option O} {os : List Op} {ok : St → O → Prop} : Run (rd f os) st ok ex ↔ ∃ is, flL st os = some is ∧ ∃ o, f is = some o ∧ ok st o := by
  simp only [run_iff]
  exact q_rd
@[simp] theorem r_rd1 {f : List I → Option O} {x : Op} {ok : St → O → Prop} : Run (rd f [x]) st ok ex ↔ ∃ i, fl st x = some i ∧ ∃ o, f [i] = some o ∧ ok st o := by
  simp only [run_iff]
  exact q_rd1
@[simp] theorem r_rd2 {f : List I → Option O} {x y : Op} {ok : St → O → Prop} : Run (rd f [x, y]) st ok ex ↔ ∃ i, fl st x = some i ∧ ∃ j, fl st y = some j ∧ ∃ o, f [i, j] = some o ∧ ok st o := by
  simp only [run_iff]
  exact q_rd2
@[simp] theorem r_op1 {f : List I → Option O} {a : OM} {ok : St → O → Prop} : Run (op1 f a) st ok ex ↔ Run a st (fun s x => Run (rd f [x]) s ok ex) ex := by
  simp only [run_iff]
  exact q_op1
@[simp] theorem r_op2 {f : List I → Option O} {a b : OM} {ok : St → O → Prop} : Run (op2 f a b) st ok ex ↔ Run a st (fun s x => Run b s (fun s y => Run (rd f [x, y]) s ok ex) ex) ex := by
  simp only [run_iff]
  exact q_op2
@[simp] theorem r_opN {f : List I → Option O} {a : OL} {ok : St → O → Prop} : Run (opN f a) st ok ex ↔ Run a st (fun s x => Run (rd f x) s ok ex) ex := by
  simp only [run_iff]
  exact q_opN
@[simp] theorem r_eT1 {f : List I → Option O} {m : EM} {k : OM} {ok : St → O → Prop} : Run (eT1 f m k) st ok ex ↔ Run m st (fun s o => ∃ a, o = .im (.str a) ∧ Run k s (fun s y => Run (rd f [.o (.im (.str a)), y]) s ok ex) ex) ex := by
  simp only [run_iff]
  exact q_eT1
@[simp] theorem r_eT0 {f : List I → Option O} {m : EM} {ok : St → O → Prop} : Run (eT0 f m) st ok ex ↔ Run m st (fun s o => ∃ a, o = .im (.str a) ∧ Run (rd f [.o (.im (.str a))]) s ok ex) ex := by
  simp only [run_iff]
  exact q_eT0
@[simp] theorem r_asB {m : EM} {ok : St → Bool → Prop} : Run (asB m) st ok ex ↔ Run m st (fun s o => ∃ b, o = .im (.bl b) ∧ ok s b) ex := by
  simp only [run_iff]
  exact q_asB
@[simp] theorem r_bAnd {m k : BM} {ok : St → Bool → Prop} : Run (bAnd m k) st ok ex ↔ Run m st (fun s b => (b = true → Run k s ok ex) ∧ (b = false → ok s false)) ex := by
  simp only [run_iff]
  exact q_bAnd
@[simp] theorem r_bOr {m k : BM} {ok : St → Bool → Prop} : Run (bOr m k) st ok ex ↔ Run m st (fun s b => (b = true → ok s true) ∧ (b = false → Run k s ok ex)) ex := by
  simp only [run_iff]
  exact q_bOr
@[simp] theorem r_bNot {m : BM} {ok : St → Bool → Prop} : Run (bNot m) st ok ex ↔ Run m st (fun s b => ok s (!b)) ex := by
  simp only [run_iff]
  exact q_bNot
@[simp] theorem r_bYes {ok : St → Bool → Prop} : Run bYes st ok ex ↔ ok st true := by
  simp only [run_iff]
  exact q_bYes
@[simp] theorem r_eAnd {m k : EM} {ok : St → O → Prop} : Run (eAnd m k) st ok ex ↔ Run (asB m) st (fun s b => (b = true → Run k s ok ex) ∧ (b = false → ok s (.im (.bl false)))) ex := by
  simp only [run_iff]
  exact q_eAnd
@[simp] theorem r_eOr {m k : EM} {ok : St → O → Prop} : Run (eOr m k) st ok ex ↔ Run (asB m) st (fun s b => (b = true → ok s (.im (.bl true))) ∧ (b = false → Run k s ok ex)) ex := by
  simp only [run_iff]
  exact q_eOr
@[simp] theorem r_eNot {m : EM} {ok : St → O → Prop} : Run (eNot m) st ok ex ↔ Run (asB m) st (fun s b => ok s (.im (.bl (!b)))) ex := by
  simp only [run_iff]
  exact q_eNot
@[simp] theorem r_eIf {t : BM} {m k : EM} {ok : St → O → Prop} : Run (eIf t m k) st ok ex ↔ Run t st (fun s b => (b = true → Run m s ok ex) ∧ (b = false → Run k s ok ex)) ex := by
  simp only [run_iff]
  exact q_eIf
@[simp] theorem r_pNo {ok : St → Option Int → Prop} : Run pNo st ok ex ↔ ok st none := by
  simp only [run_iff]
  exact q_pNo
@[simp] theorem r_pAt {m : EM} {ok : St → Option Int → Prop} : Run (pAt m) st ok ex ↔ Run m st (fun s o => ∃ i, o = .im (.int i) ∧ ok s (some i)) ex := by
  simp only [run_iff]
  exact q_pAt
@[simp] theorem r_eSl {a : OM} {lo hi : OP} {ok : St → O → Prop} : Run (eSl a lo hi) st ok ex ↔ Run a st (fun s x => Run lo s (fun s l => Run hi s (fun s h => Run (rd (fSl l h) [x]) s ok ex) ex) ex) ex := by
  simp only [run_iff]
  exact q_eSl
@[simp] theorem r_eCh {f h : List I → Option O} {a b c : OM} {ok : St → O → Prop} : Run (eCh f h a b c) st ok ex ↔ Run a st (fun s x => Run b s (fun s y => Run (asB (rd f [x, y])) s (fun s z => (z = true → Run c s (fun s w => Run (rd h [y, w]) s ok ex) ex) ∧ (z = false → ok s (.im (.bl false)))) ex) ex) ex := by
  simp only [run_iff]
  exact q_eCh
@[simp] theorem r_sNext {ok : St → VS.Fl → Prop} : Run sNext st ok ex ↔ ok st .nx := by
  simp only [run_iff]
  exact q_sNext
@[simp] theorem r_sBrk {ok : St → VS.Fl → Prop} : Run sBrk st ok ex ↔ ok st .bk := by
  simp only [run_iff]
  exact q_sBrk
@[simp] theorem r_sCont {ok : St → VS.Fl → Prop} : Run sCont st ok ex ↔ ok st .ct := by
  simp only [run_iff]
  exact q_sCont
@[simp] theorem r_sRetN {ok : St → VS.Fl → Prop} : Run sRetN st ok ex ↔ ok st (.rt (.im .non)) := by
  simp only [run_iff]
  exact q_sRetN
@[simp] theorem r_put {o : O} {ok : St → Unit → Prop} : Run (put k o) ⟨sl, sto⟩ ok ex ↔ k < sl.length ∧ ok ⟨sl.set k o, sto⟩ () := by
  simp only [run_iff]
  exact q_put
@[simp] theorem r_sSet {m : EM} {ok : St → VS.Fl → Prop} : Run (sSet k m) st ok ex ↔ Run m st (fun s o => Run (put k o) s (fun s _ => ok s .nx) ex) ex := by
  simp only [run_iff]
  exact q_sSet
@[simp] theorem r_sDrop {m : EM} {ok : St → VS.Fl → Prop} : Run (sDrop m) st ok ex ↔ Run m st (fun s _ => ok s .nx) ex := by
  simp only [run_iff]
  exact q_sDrop
@[simp] theorem r_sRet {m : EM} {ok : St → VS.Fl → Prop} : Run (sRet m) st ok ex ↔ Run m st (fun s o => ok s (.rt o)) ex := by
  simp only [run_iff]
  exact q_sRet
@[simp] theorem r_sIf {t : BM} {m k : SM} {ok : St → VS.Fl → Prop} : Run (sIf t m k) st ok ex ↔ Run t st (fun s b => (b = true → Run m s ok ex) ∧ (b = false → Run k s ok ex)) ex := by
  simp only [run_iff]
  exact q_sIf
theorem r_sSeq {m k : SM} {ok : St → VS.Fl → Prop} : Run (sSeq m k) st ok ex ↔ Run m st (thenR k ok ex) ex := by
  simp only [run_iff, then_fun]
  exact q_sSeq
@[simp] theorem r_putAt {o j : O} {ok : St → Unit → Prop} : Run (putAt k o j) ⟨sl, sto⟩ ok ex ↔ ∃ l, sl[k]? = some (.lst l) ∧ ∃ i, j = .im (.int i) ∧ ∃ n, ixN l.length i = some n ∧ ok ⟨sl.set k (.lst (l.set n o)), sto⟩ () := by
  simp only [run_iff]
  exact q_putAt
@[simp] theorem r_sPut {ix m : EM} {ok : St → VS.Fl → Prop} : Run (sPut k ix m) st ok ex ↔ Run m st (fun s o => Run (bo k) s (fun s _ => Run ix s (fun s j => Run (putAt k o j) s (fun s _ => ok s .nx) ex) ex) ex) ex := by
  simp only [run_iff]
  exact q_sPut
@[simp] theorem r_callK {io : List Nat} {F : Fn} {ops : List Op} {ok : St → O → Prop} : Run (callK io F ops) ⟨sl, sto⟩ ok ex ↔ ∃ os, resL ⟨sl, sto⟩ ops = some os ∧ (bks ops).Nodup ∧ Does F os sto (fun o fi s' => ∃ sl', back io 0 sl ops fi = some sl' ∧ ok ⟨sl', s'⟩ o) (fun c i fi s' => ∃ sl', back io 0 sl ops fi = some sl' ∧ ex ⟨sl', s'⟩ c i) := by
  simp only [run_iff]
  exact q_callK
@[simp] theorem r_eCall {np : Nat} {io : List Nat} {F : Fn} {ds : List I} {a : OL} {ok : St → O → Prop} : Run (eCall np io F ds a) st ok ex ↔ Run a st (fun s ops => ops.length + ds.length = np ∧ Run (callK io F (ops ++ ds.map fun i => .o (.im i))) s ok ex) ex := by
  simp only [run_iff]
  exact q_eCall
theorem r_sFor {m : IM} {T : Tg} {b : SM} {ok : St → VS.Fl → Prop} : Run (sFor m T b) st ok ex ↔ Run m st (fun s is => Run (forL T b is) s ok ex) ex := by
  simp only [run_iff]
  exact q_sFor
@[simp] theorem r_nm {i : I} {ok : St → Unit → Prop} : Run (putT (.nm k) i) st ok ex ↔ Run (put k (.im i)) st ok ex := by
  simp only [run_iff]
  exact q_nm
@[simp] theorem r_itV {m : EM} {ok : St → List I → Prop} : Run (itV m) st ok ex ↔ Run m st (fun s o => ∃ is, itemsOf o = some is ∧ ok s is) ex := by
  simp only [run_iff]
  exact q_itV
theorem r_itR1 {m : EM} {ok : St → List I → Prop} : Run (itR (aCons m aNil)) st ok ex ↔ Run m st (fun s o => ∃ j, o = .im (.int j) ∧ r62 j = true ∧ ok s (rng 0 j.toNat)) ex := by
  simp only [run_iff]
  exact q_itR1
theorem r_blk {own : List Nat} {m : M α} {k : α → β} {ok : St → β → Prop} : Run (blkM own m k) ⟨sl, sto⟩ ok ex ↔ imAt own sl = true ∧ Run m ⟨sl, sto⟩ (fun s a => ok ⟨resto sl own s.sl, s.sto⟩ (k a)) (fun _ _ _ => False) := by
  simp only [run_iff]
  exact q_blk
@[simp] theorem r_eLc {own : List Nat} {src : IM} {T : Tg} {t : BM} {e : EM} {ok : St → O → Prop} : Run (eLc own src T t e) st ok ex ↔ Run src st (fun s is => Run (blkM own (lcL own T t e is []) .lst) s ok ex) ex := by
  simp only [run_iff]
  exact q_eLc
theorem r_does {N np : Nat} {io : List Nat} {b : SM} {os sto : List O} {Q : O → List O → List O → Prop} {E : Nat → List I → List O → List O → Prop} : Does (mkFn N np io b) os sto Q E ↔ Run b ⟨os ++ List.replicate (N - os.length) .hole, sto⟩ (fun st f => match f with
    | .rt o => Q o (fin io np st) st.sto
    | .nx => Q (.im .non) (fin io np st) st.sto
    | _ => False) (fun st c i => E c i (fin io np st) st.sto) := by
  rw [run_iff]; exact does_mk
theorem r_forL {T : Tg} {b : SM} {ok : St → VS.Fl → Prop} (Inv : List I → St → Prop) {is : List I} {st : St} (h0 : Inv is st) (hs : ∀ i r s, i ∈ is → Inv (i :: r) s → Run (putT T i) s (fun s _ => Run b s (fun s f => match f with
    | .nx => Inv r s
    | .ct => Inv r s
    | .bk => ok s .nx
    | .rt o => ok s (.rt o)) ex) ex) (hd : ∀ s, Inv [] s → ok s .nx) : Run (forL T b is) st ok ex := by
  simp only [run_iff] at hs ⊢
  exact q_forL Inv h0 hs hd
theorem r_lcL {own : List Nat} {T : Tg} {t : BM} {e : EM} {ok : St → List O → Prop} (Inv : List I → List O → St → Prop) {is : List I} {acc : List O} {st : St} (h0 : Inv is acc st) (hs : ∀ i r acc s, i ∈ is → Inv (i :: r) acc s → Run (putT T i) ⟨wip s.sl own, s.sto⟩ (fun s _ => Run t s (fun s c =>
      (c = true → Run e s (fun s o => acc.length < sizeLine ∧ Inv r (acc ++ [o]) s) ex) ∧ (c = false → Inv r acc s)) ex) ex) (hd : ∀ acc s, Inv [] acc s → ok s acc) : Run (lcL own T t e is acc) st ok ex := by
  simp only [run_iff] at hs ⊢
  exact q_lcL Inv h0 hs hd
end
end VS

namespace VS
open PySem L2
section
variable {α β : Type} {st : St} {sl sto : List O} {ex : St → Nat → List I → Prop} {k : Nat}
theorem resto_wip {own : List Nat} {sl sl' : List O} (h : wip sl' own = wip sl own) : resto sl own sl' = sl := by
  have hl : sl'.length = sl.length := by
    have := congrArg List.length h
    simpa [wip_len] using this
  apply List.ext_getElem?
  intro j
  by_cases hj : j ∈ own
  · by_cases hb : j < sl'.length
    · rw [resto_in hj hb]
      have : j < sl.length := by omega
      simp [List.getD, this]
    · rw [List.getElem?_eq_none (by rw [resto_len]; omega), List.getElem?_eq_none (by omega)]
  · rw [resto_out hj, ← wip_out (sl := sl') hj, h, wip_out hj]
/-- a comprehension whose test and element change nothing -/
theorem lc_pure {own : List Nat} {T : Tg} {t : BM} {e : EM} {is : List I} {ok : St → O → Prop} (p : I → Bool) (g : I → O) (him : imAt own sl = true) (hl : is.length ≤ sizeLine)
    (h : ∀ i ∈ is, Run (putT T i) ⟨wip sl own, sto⟩ (fun s _ => Run t s (fun s c => c = p i ∧ (p i = true → Run e s (fun s o => o = g i ∧ wip s.sl own = wip sl own ∧ s.sto = sto) fun _ _ _ => False) ∧
      (p i = false → wip s.sl own = wip sl own ∧ s.sto = sto)) fun _ _ _ => False) fun _ _ _ => False)
    (hok : ok ⟨sl, sto⟩ (.lst ((is.filter p).map g))) : Run (blkM own (lcL own T t e is []) .lst) ⟨sl, sto⟩ ok ex := by
  rw [r_blk]
  refine ⟨him, ?_⟩
  refine r_lcL (fun r acc s => ∃ pre, is = pre ++ r ∧ acc = (pre.filter p).map g ∧ wip s.sl own = wip sl own ∧ s.sto = sto) ⟨[], rfl, rfl, rfl, rfl⟩ ?_ ?_
  · rintro i r acc s hi ⟨pre, e1, rfl, e3, e4⟩
    rw [e3, e4]
    have hlen : ((pre.filter p).map g).length < sizeLine := by
      have h1 := List.length_filter_le p pre
      have h2 := congrArg List.length e1
      simp only [List.length_append, List.length_cons] at h2
      rw [List.length_map]
      omega
    refine Run.imp (h i hi) (fun s1 _ h1 => Run.imp h1 (fun s2 c h2 => ?_) fun _ _ _ z => z.elim) fun _ _ _ z => z.elim
    obtain ⟨rfl, h3, h4⟩ := h2
    refine ⟨fun hc => Run.imp (h3 hc) (fun s3 o h5 => ?_) fun _ _ _ z => z.elim, fun hc => ?_⟩
    · obtain ⟨rfl, h6, h7⟩ := h5
      exact ⟨hlen, pre ++ [i], by rw [e1]; simp, by simp [List.filter_append, hc], h6, h7⟩
    · exact ⟨pre ++ [i], by rw [e1]; simp, by simp [List.filter_append, hc], h4 hc⟩
  · rintro acc s ⟨pre, e1, rfl, e3, e4⟩
    rw [List.append_nil] at e1
    subst e1
    rw [resto_wip e3, e4]
    exact hok
/-- .. without a test -/
theorem lc_map {own : List Nat} {T : Tg} {e : EM} {is : List I} {ok : St → O → Prop} (g : I → O) (him : imAt own sl = true) (hl : is.length ≤ sizeLine)
    (h : ∀ i ∈ is, Run (putT T i) ⟨wip sl own, sto⟩ (fun s _ => Run e s (fun s o => o = g i ∧ wip s.sl own = wip sl own ∧ s.sto = sto) fun _ _ _ => False) fun _ _ _ => False)
    (hok : ok ⟨sl, sto⟩ (.lst (is.map g))) : Run (blkM own (lcL own T bYes e is []) .lst) ⟨sl, sto⟩ ok ex := by
  refine lc_pure (fun _ => true) g him hl (fun i hi => Run.imp (h i hi) (fun s _ h => ?_) fun _ _ _ z => z) ?_
  · exact r_bYes.mpr ⟨rfl, fun _ => h, fun z => by cases z⟩
  · have e : is.filter (fun _ => true) = is := List.filter_eq_self.mpr fun _ _ => rfl
    rw [e]; exact hok
theorem chars_len {x : Str} : (chars x).length = x.length := by simp [chars, Str.length]
theorem chars_mem {x : Str} {i : I} (h : i ∈ chars x) : ∃ c, c ∈ x.cps.toList ∧ i = .str ⟨#[c]⟩ := by
  unfold chars at h
  obtain ⟨c, hc, rfl⟩ := List.mem_map.mp h
  exact ⟨c, hc, rfl⟩
@[simp] theorem items_str {x : Str} : itemsOf (.im (.str x)) = some (chars x) := rfl
@[simp] theorem items_lst {l : List I} : itemsOf (.im (.lst l)) = some l := rfl
@[simp] theorem items_tup {l : List I} : itemsOf (.im (.tup l)) = some l := rfl
@[simp] theorem one_one {c : Nat} : one? ⟨#[c]⟩ = some c := rfl
@[simp] theorem in_one {c : Nat} {z : Str} : inOp [.str ⟨#[c]⟩, .str z] = some (decide (c ∈ z.cps.toList)) := rfl
@[simp] theorem ty_str {x : Str} : tyI (.str x) = some "str" := rfl
@[simp] theorem ty_int {x : Int} : tyI (.int x) = some "int" := rfl
@[simp] theorem ty_bl {x : Bool} : tyI (.bl x) = some "bool" := rfl
@[simp] theorem ty_non : tyI .non = some "NoneType" := rfl
@[simp] theorem ty_tup {x : List I} : tyI (.tup x) = some "tuple" := rfl
@[simp] theorem ty_lst {x : List I} : tyI (.lst x) = some "list" := rfl
@[simp] theorem ty_dct {t : Bool} {x : List (DK × I)} : tyI (.dct t x) = some "dict" := rfl
@[simp] theorem ty_ref {x : Nat} : tyI (.ref x) = none := rfl
@[simp] theorem ty_fn {x : Nat} : tyI (.fn x) = none := rfl
@[simp] theorem fzb_lst {l : List O} : fzb (.lst l) = fzbL l := by rw [fzb]
@[simp] theorem fzb_tup {l : List O} : fzb (.tup l) = fzbL l := by rw [fzb]
@[simp] theorem fzb_dct {t : Bool} {l : List (DK × O)} : fzb (.dct t l) = fzbD l := by rw [fzb]
@[simp] theorem frz_lst {l : List O} : frz (.lst l) = .lst (frzL l) := by rw [frz]
@[simp] theorem frz_tup {l : List O} : frz (.tup l) = .tup (frzL l) := by rw [frz]
@[simp] theorem frz_dct {t : Bool} {l : List (DK × O)} : frz (.dct t l) = .dct t (frzD l) := by rw [frz]
@[simp] theorem fzbL_nil : fzbL [] = true := by rw [fzbL]
@[simp] theorem fzbL_cons {a : O} {l : List O} : fzbL (a :: l) = (fzb a && fzbL l) := by rw [fzbL]
@[simp] theorem frzL_nil : frzL [] = [] := by rw [frzL]
@[simp] theorem frzL_cons {a : O} {l : List O} : frzL (a :: l) = frz a :: frzL l := by rw [frzL]
theorem fzbL_im : ∀ l : List I, fzbL (l.map .im) = true
  | [] => fzbL_nil
  | i :: l => by simp [fzbL_im l]
theorem frzL_im : ∀ l : List I, frzL (l.map .im) = l
  | [] => frzL_nil
  | i :: l => by simp [frzL_im l]
theorem r62_s {j : Int} (h1 : -1000000000000 < j) (h2 : j < 1000000000000) : r62 j = true := by
  unfold r62
  refine decide_eq_true ⟨?_, ?_⟩
  · have : -(2 ^ 62 : Int) ≤ -1000000000000 := by decide
    omega
  · have : (1000000000000 : Int) ≤ 2 ^ 62 := by decide
    omega
theorem bls_map {l : List I} {f : I → Bool} : blsOf (l.map fun i => .bl (f i)) = some (l.map f) := by
  induction l with
  | nil => rfl
  | cons a r ih => simp [blsOf, ih]
@[simp] theorem s_all {l : List I} : fAll [.lst l] = (blsOf l).map fun bs => .im (.bl (bs.all id)) := rfl
@[simp] theorem s_any {l : List I} : fAny [.lst l] = (blsOf l).map fun bs => .im (.bl (bs.any id)) := rfl
end
end VS

namespace VS
open PySem L2
/-! ### shared objects -/
def rootB : O → Bool
  | .lst _ => true
  | .dct _ _ => true
  | .ins _ _ => true
  | _ => false
/-- what is made is held by the store -/
def box (o : O) : EM := fun st => if rootB o then some (.ok (.im (.ref st.sto.length)), ⟨st.sl, st.sto ++ [o]⟩) else none
def eNew (m : EM) : EM := bnd m box
/-- where an owned object stands: a slot, or the store -/
def getL (st : St) : Lo → Option O
  | .inl k => st.sl[k]?
  | .inr r => st.sto[r]?
def setL (st : St) : Lo → O → St
  | .inl k, o => ⟨st.sl.set k o, st.sto⟩
  | .inr r, o => ⟨st.sl, st.sto.set r o⟩
section
variable {n : Pn} {W : WX} {X : Cx} {P : Pg} {e a b c tg i : Expr} {es : List Expr} {g g' g0 : Gh} {H H' H0 : Hp} {st st' : St} {σ : L2.St} {F F' F0 : Lo → Fp} {FX Fv : Fp} {pos : Pos} {io : List Nat} {D : Ends}
theorem Ch.rho1 {p : Addr} : Ch emp g H { g with rho := g.rho ++ [p] } H := ⟨fun _ _ e _ => e, fun _ o e => ⟨o, e⟩, fun _ h => h.elim, fun _ z => z, fun _ z => .inl z, [p], rfl⟩
theorem root_ref {o : O} {v : V} (h : rootB o = true) (r : RepO P g H o v Fv) : ∃ p, v = .ref p ∧ Fv p := by
  cases r with
  | lst _ _ _ _ => exact ⟨_, rfl, .inl rfl⟩
  | dctK _ _ _ _ _ => exact ⟨_, rfl, .inl rfl⟩
  | dctT _ _ _ _ _ => exact ⟨_, rfl, .inl rfl⟩
  | ins _ _ _ _ _ _ => exact ⟨_, rfl, .inl rfl⟩
  | im _ => cases h
  | tup _ _ => cases h
/-- the store grows -/
theorem PostS.box {o : O} {p : Addr} (q : PostS P g0 H0 F0 g H F st σ Fv) (r : RepO P g H o (.ref p) Fv) :
    PostS P g0 H0 F0 { g with rho := g.rho ++ [p] } H (upF F (.inr st.sto.length) Fv) ⟨st.sl, st.sto ++ [o]⟩ σ emp := by
  have c : Ch emp g H { g with rho := g.rho ++ [p] } H := .rho1
  have ne : ∀ {r o'}, st.sto[r]? = some o' → (Sum.inr r : Lo) ≠ .inr st.sto.length := fun {r o'} h z => by
    cases z
    simp at h
  have nel : ∀ {i}, (Sum.inl i : Lo) ≠ .inr st.sto.length := fun {i} z => by cases z
  have none : ∀ b, ¬ F (.inr st.sto.length) b := fun b => q.rs.out2 _ b (Nat.le_refl _)
  refine ⟨⟨q.rs.len, fun i x h => ?_, fun r x h => ?_, ?_, fun l m h b x y => ?_, fun i b h x => ?_, fun r b h x => ?_, q.rs.pin, q.rs.zd⟩, fun _ h => h.elim, q.ch.trans c fun _ h => h.elim, fun b x => ?_, q.pn⟩
  · rw [upF_ne nel]
    exact (q.rs.slot i x h).imp id fun ⟨v, e, z⟩ => ⟨v, e, z.ch c fun _ _ h => h.elim⟩
  · have h' : (st.sto ++ [o])[r]? = some x := h
    by_cases hr : r < st.sto.length
    · rw [List.getElem?_append_left hr] at h'
      obtain ⟨t, e, z⟩ := q.rs.sto r x h'
      rw [upF_ne (ne h')]
      exact ⟨t, c.at e, z.ch c fun _ _ h => h.elim⟩
    · rw [List.getElem?_append_right (by omega)] at h'
      have e0 : r = st.sto.length := by
        have := (List.getElem?_eq_some_iff.mp h').1
        simp at this
        omega
      subst e0
      simp at h'
      subst h'
      rw [upF_same]
      refine ⟨p, ?_, RepO.ch c ‹_› fun _ _ h => h.elim⟩
      show (g.rho ++ [p])[st.sto.length]? = some p
      rw [← q.rs.ln]
      simp
  · show (g.rho ++ [p]).length = (st.sto ++ [o]).length
    simp [q.rs.ln]
  · by_cases h1 : l = .inr st.sto.length
    · subst h1
      rw [upF_same] at x
      rw [upF_ne (Ne.symm h)] at y
      exact q.dj b x ⟨m, y⟩
    · rw [upF_ne h1] at x
      by_cases h2 : m = .inr st.sto.length
      · subst h2
        rw [upF_same] at y
        exact q.dj b y ⟨l, x⟩
      · rw [upF_ne h2] at y
        exact q.rs.dj l m h b x y
  · rw [upF_ne nel] at x
    exact q.rs.out1 i b h x
  · have h' : st.sto.length + 1 ≤ r := by simpa using h
    rw [upF_ne (fun z => by cases z; omega)] at x
    exact q.rs.out2 r b (by omega) x
  · rcases x with x | x
    · rcases tot_up x with ⟨l, _, x⟩ | x
      · exact q.sub b (.inl ⟨l, x⟩)
      · exact q.sub b (.inr x)
    · exact x.elim
theorem ev_new {f : EM} (h : PE X e (OkE P W f)) : PE X e (OkE P W (eNew f)) := PE.imp h fun σ H Q ⟨g, st, F, rs, q⟩ => ⟨g, st, F, rs, q.bnd.imp (fun s o k g1 H1 F1 v Fv p ro => by
  unfold RunAt VS.box at k
  by_cases hb : rootB o = true
  · rw [if_pos hb] at k
    obtain ⟨a, rfl, _⟩ := root_ref hb ro
    refine k _ H1 _ (.ref a) emp (p.box ro) (.im (.ref ?_))
    show (g1.rho ++ [a])[s.sto.length]? = some a
    rw [← p.rs.ln]
    simp
  · rw [if_neg hb] at k
    exact k.elim) fun _ _ _ z => z⟩
/-- the object that stands at l changes -/
theorem PostS.modL {l : Lo} {p : Addr} {u : HO} {o o' : O} {G Fw : Fp} (q : PostS P g0 H0 F0 g H F st σ Fv) (hl : getL st l = some o) (hv : ∀ k, l = .inl k → σ[k]? = some (some (.ref p))) (hr : ∀ r, l = .inr r → g.rho[r]? = some (p : Addr)) (ha : F l p)
    (r : RepO P g (upd H p u) o' (.ref p) G) (hG : ∀ b, G b → F l b ∨ Fv b) (hw : ∀ b, Fw b → F l b ∨ Fv b) (dw : Fp.dj G Fw) (np : ¬ Fw p) :
    PostS P g0 H0 F0 g (upd H p u) (upF F l G) (setL st l o') σ Fw := by
  obtain ⟨m, z⟩ := q.rs.mt p ⟨_, ha⟩
  have cs : Ch (fun b => b = p) g H g (upd H p u) := .setl m z
  have oth : ∀ m, m ≠ l → Fp.dj (F m) fun b => b = p := fun m hm b x y => q.rs.dj m l hm b x (by rw [show b = p from y]; exact ha)
  have rs : RepS P g (upd H p u) (setL st l o') σ (upF F l G) := by
    cases l with
    | inl k =>
      have hk : k < st.sl.length := (List.getElem?_eq_some_iff.mp hl).1
      exact q.rs.upd (o := o') (Fn := G) cs oth rfl rfl hk rfl (fun _ _ => rfl) (fun _ _ => rfl) (.inr ⟨_, hv k rfl, r⟩) (fun m hm b x y => (hG b y).elim (q.rs.dj m (.inl k) hm b x) fun y => q.dj b y ⟨m, x⟩) (set_zd q.rs.zd)
    | inr r' =>
      have hk : r' < st.sto.length := (List.getElem?_eq_some_iff.mp hl).1
      refine ⟨q.rs.len, fun i x h => ?_, fun i x h => ?_, by show g.rho.length = (st.sto.set r' o').length; rw [List.length_set]; exact q.rs.ln, fun l m h b x y => ?_, fun i b h x => ?_, fun i b h x => ?_, q.rs.pin, set_zd q.rs.zd⟩
      · rw [upF_ne (fun z => by cases z)]
        exact (q.rs.slot i x h).imp id fun ⟨v, e, z⟩ => ⟨v, e, z.ch cs (oth _ fun z => by cases z)⟩
      · have h' : (st.sto.set r' o')[i]? = some x := h
        by_cases hi : r' = i
        · subst hi
          rw [List.getElem?_set_self hk] at h'
          cases h'
          rw [upF_same]
          exact ⟨p, hr _ rfl, r⟩
        · rw [List.getElem?_set_ne hi] at h'
          have hne : (Sum.inr i : Lo) ≠ .inr r' := fun z => hi (by cases z; rfl)
          rw [upF_ne hne]
          obtain ⟨t, e, z⟩ := q.rs.sto i x h'
          exact ⟨t, e, z.ch cs (oth _ hne)⟩
      · by_cases h1 : l = .inr r'
        · subst h1
          rw [upF_same] at x
          rw [upF_ne (Ne.symm h)] at y
          exact (hG b x).elim (fun x => q.rs.dj m (.inr r') (Ne.symm h) b y x) fun x => q.dj b x ⟨m, y⟩
        · rw [upF_ne h1] at x
          by_cases h2 : m = .inr r'
          · subst h2
            rw [upF_same] at y
            exact (hG b y).elim (q.rs.dj l (.inr r') h b x) fun y => q.dj b y ⟨l, x⟩
          · rw [upF_ne h2] at y
            exact q.rs.dj l m h b x y
      · rw [upF_ne (fun z => by cases z)] at x
        exact q.rs.out1 i b h x
      · have h' : st.sto.length ≤ i := by
          have : (st.sto.set r' o').length ≤ i := h
          rwa [List.length_set] at this
        rw [upF_ne (fun z => by cases z; omega)] at x
        exact q.rs.out2 i b h' x
  refine ⟨rs, fun b x y => ?_, q.ch.trans cs fun b x => by rw [show b = p from x]; exact q.sub p (.inl ⟨_, ha⟩), fun b x => ?_, q.pn⟩
  · rcases tot_up y with ⟨m, hm, y⟩ | y
    · exact (hw b x).elim (fun x => q.rs.dj m l hm b y x) fun x => q.dj b x ⟨m, y⟩
    · exact dw b y x
  · rcases x with x | x
    · rcases tot_up x with ⟨m, _, x⟩ | x
      · exact q.sub b (.inl ⟨m, x⟩)
      · exact q.sub b ((hG b x).imp (fun y => ⟨_, y⟩) id)
    · exact q.sub b ((hw b x).imp (fun y => ⟨_, y⟩) id)
/-! ### methods that change a list -/
/-- what holds a list: a name's slot, or a value that is a shared object -/
abbrev RM := M Lo
def rcS (k : Nat) : RM := bnd (bo k) fun _ => ret (.inl k)
def rcV (m : EM) : RM := bnd m fun o => match o with
  | .im (.ref r) => ret (.inr r)
  | _ => lift none
/-- a list method: the list, the arguments; what is told, the list behind it -/
abbrev LM := List O → List O → Option (O × List O)
def runL (f : LM) (l : Lo) (os : List O) : EM := fun st => match getL st l with
  | some (.lst xs) => match f xs os with
    | some (o, ys) => some (.ok o, setL st l (.lst ys))
    | none => none
  | _ => none
def eLM (f : LM) (rc : RM) (as : AM) : EM := bnd rc fun l => bnd (isL l) fun _ => bnd as fun os => runL f l os
where
  isL (l : Lo) : M Unit := fun st => match getL st l with
    | some (.lst _) => some (.ok (), st)
    | _ => none
/-- the value that stands at l -/
def AtL (g : Gh) (σ : L2.St) (l : Lo) (v : V) : Prop := (∀ k, l = .inl k → σ[k]? = some (some v)) ∧ ∀ r, l = .inr r → ∃ p, v = .ref p ∧ g.rho[r]? = some p
def OkR (P : Pg) (W : WX) (f : RM) : TE := fun σ H Q => ∃ g st F, RepS P g H st σ F ∧
  RunAt f st (fun st' l => ∀ g' H' F' v, PostS P g H F g' H' F' st' σ emp → AtL g' σ l v → Q v H') (exc P W g H F)
theorem er_s {k : Nat} (h : PE X e (tVar k)) : PE X e (OkR P W (rcS k)) := PE.imp h fun σ H Q ⟨g, st, F, rs, q⟩ => by
  obtain ⟨⟨w, hw⟩, k1⟩ := bo_slot rs q.bnd
  exact ⟨w, hw, k1.ret g H F w (.refl rs) ⟨fun k' e => by cases e; exact hw, fun r e => by cases e⟩⟩
theorem er_v {m : EM} (h : PE X e (OkE P W m)) : PE X e (OkR P W (rcV m)) := PE.imp h fun σ H Q ⟨g, st, F, rs, q⟩ => ⟨g, st, F, rs, q.bnd.imp (fun s o k g1 H1 F1 v Fv p ro => by
  split at k
  · cases ro.im_inv with
    | ref hr => exact k.ret g1 H1 F1 _ p.drop ⟨fun k' e => (by cases e), fun r e => by cases e; exact ⟨_, rfl, hr⟩⟩
  · exact k.elim) fun _ _ _ z => z⟩
/-- a method's rule, by owned values -/
def LMok (K : PySem.W.Frag) (f : LM) (r : V → List V → Hp → VK → Prop) : Prop := ∀ (P : Pg), P.K = K → ∀ (g : Gh) (H : Hp) (p : Addr) (vs ws : List V) (xs os ys : List O) (o : O) (Fl Fw : Fp) (Q : VK), H p = some (.lst vs) → RepOL P g H xs vs Fl → RepOL P g H os ws Fw → Fp.dj Fl Fw → f xs os = some (o, ys) →
  (∀ vs' v G Go, RepOL P g H ys vs' G → RepO P g H o v Go → Fp.dj G Go → (∀ b, G b ∨ Go b → Fl b ∨ Fw b) → Q v (upd H p (.lst vs'))) → r (.ref p) ws H Q
theorem getL_rep {l : Lo} {o : O} {v : V} (rs : RepS P g H st σ F) (h : getL st l = some o) (nh : o ≠ .hole) (at_ : AtL g σ l v) : RepO P g H o v (F l) := by
  cases l with
  | inl k =>
    rcases rs.slot k o h with ⟨z, _⟩ | ⟨u, hu, r⟩
    · exact absurd z nh
    · rw [at_.1 k rfl] at hu; cases hu; exact r
  | inr r =>
    obtain ⟨p, e1, rr⟩ := rs.sto r o h
    obtain ⟨p', e2, e3⟩ := at_.2 r rfl
    rw [e3] at e1; cases e1
    subst e2
    exact rr
theorem AtL.step {l : Lo} {v : V} (c : Ch FX g H g' H') (h : AtL g σ l v) : AtL g' σ l v := ⟨h.1, fun r e => let ⟨p, a, b⟩ := h.2 r e; ⟨p, a, c.at b⟩⟩
theorem lm_go {f : LM} {r : V → List V → Hp → VK → Prop} {rc : RM} {as : AM} (hf : LMok P.K f r) {H σ Q} (h : OkE P W (eLM f rc as) σ H Q) : tBM P.K "list" r (OkR P W rc) (OkA P W as) σ H Q := by
  obtain ⟨g, st, F, rs, q⟩ := h
  refine ⟨g, st, F, rs, q.bnd.imp (fun s1 l k1 g1 H1 F1 v p1 at1 => ?_) fun _ _ _ z => z⟩
  have k2 := k1.bnd
  unfold RunAt eLM.isL at k2
  have isl : ∃ xs, getL s1 l = some (.lst xs) := by
    cases hg : getL s1 l with
    | none => simp [hg] at k2
    | some o => cases o <;> first | exact ⟨_, rfl⟩ | simp [hg] at k2
  obtain ⟨xs0, hg0⟩ := isl
  simp only [hg0] at k2
  have r0 := getL_rep p1.rs hg0 (by intro z; cases z) at1
  have ty : tyV P.K "list" v H1 := by
    generalize F1 l = Fk at r0
    cases r0 with
    | lst e z rl nf => exact .inl ⟨rfl, _, .inl (.of e)⟩
  refine ⟨ty, g1, s1, F1, p1.rs, RunAt.imp (RunAt.bnd k2) (fun s2 os k3 g2 H2 F2 ws Fw p2 ra => ?_) fun _ _ _ z => exc_step p1 z⟩
  have at2 : AtL g2 σ l v := at1.step p2.ch
  unfold RunAt runL at k3
  cases hg : getL s2 l with
  | none => simp [hg] at k3
  | some o2 =>
    cases o2 with
    | lst xs =>
      simp only [hg] at k3
      cases hfx : f xs os with
      | none => simp [hfx] at k3
      | some z =>
        obtain ⟨o, ys⟩ := z
        simp only [hfx] at k3
        have p3 := p1.trans p2
        have r2 := getL_rep p2.rs hg (by intro z; cases z) at2
        generalize hF : F2 l = Fk at r2
        cases r2 with
        | @lst _ p vs Fl hp hz rl hn =>
          have dFl : Fp.dj Fl Fw := fun b x y => p2.dj b y ⟨l, by rw [hF]; exact .inr x⟩
          refine hf P rfl g2 H2 p vs ws xs os ys o Fl Fw Q hp rl ra dFl hfx fun vs' w G Go rG rO dG sub => ?_
          have nw : ¬ Fw p := fun x => p2.dj p x ⟨l, by rw [hF]; exact .inl rfl⟩
          have ng : ¬ G p := fun x => (sub p (.inl x)).elim hn nw
          have no : ¬ Go p := fun x => (sub p (.inr x)).elim hn nw
          have cs : Ch (fun b => b = p) g2 H2 g2 (upd H2 p (.lst vs')) := .setl ⟨_, hp, rfl⟩ hz
          have rl' : RepO P g2 (upd H2 p (.lst vs')) (.lst ys) (.ref p) (ins1 p G) := .lst upd_same hz (rG.ch cs fun b x y => ng (by rw [← show b = p from y]; exact x)) ng
          refine k3 g2 _ (upF F2 l (ins1 p G)) w Go (p3.modL hg at2.1 (fun r e => ?_) (by rw [hF]; exact .inl rfl) rl' (fun b x => ?_) (fun b x => ?_) (fun b x y => ?_) no) (rO.ch cs fun b x y => no (by rw [← show b = p from y]; exact x))
          · obtain ⟨p', e1, e2⟩ := at2.2 r e
            cases e1
            exact e2
          · rw [hF]
            rcases x with x | x
            · exact .inl (.inl x)
            · exact (sub b (.inl x)).imp .inr id
          · rw [hF]
            exact (sub b (.inr x)).imp .inr id
          · rcases x with x | x
            · exact no (by rw [← show b = p from x]; exact y)
            · exact dG b x y
    | _ => simp [hg] at k3
end
end VS

namespace VS
open PySem PySem.Spec PyProof.Rows L2
/-! ### a, *b = a tuple -/
/-- a tuple's iterator that stands at 1 -/
theorem walks_tail {prog : Program} {w : World} {A : Around} (hh : A.handled = none) (it ax : Addr) (hne : ax ≠ it) (items : Array Value) (h0 : 0 < items.size) :
    Walks prog w A it [it, ax] [it] (items.size - 1) (fun i v => items[i + 1]? = some v) (fun i h => h.IsTupleIter it ax (i + 1) ∧ h.IsTuple ax items) where
  sub b hb := List.mem_cons.mpr (.inl (by simpa using hb))
  frame _ _ _ st hk := ⟨st.1.at fun o e => hk it (List.mem_cons_self) o e, st.2.at fun o e => hk ax (List.mem_cons_of_mem _ List.mem_cons_self) o e⟩
  item i s Q E hi st hQ := by
    have hl : i + 1 < items.size := by omega
    have hx : items[i + 1]? = some items[i + 1] := Array.getElem?_eq_getElem hl
    refine wpAny_pyNext_tuple_item st.1 st.2 hx fun h' a b => ?_
    exact hQ items[i + 1] h' s.toks hx ⟨a, st.2.extBut b.extBut hne⟩ fun c o hc e => b.extBut c o (fun z => hc (List.mem_singleton.mpr z)) e
  done s Q E st hQ := wpAny_pyNext_tuple_end hh st.1 st.2 (Array.getElem?_eq_none (by omega)) fun h' he => hQ h' s.toks fun c o hc e => he c o (fun z => hc (List.mem_singleton.mpr z)) e
  self _ _ _ _ st hQ := wpAny_pyIter_tupleiter st.1 hQ
/-- what the unpacking tells: the first one, and a new list of the others -/
theorem unpack_star {prog : Program} {w : World} {A : Around} {E : Value → Shared → Prop} {s : Shared} {t : Addr} {x : Value} {xs : List Value} {Q : List Value → Shared → Prop} (hh : A.handled = none) (ht : s.heap.IsTuple t (x :: xs).toArray) (hz : xs.length ≤ sizeLine)
    (hQ : ∀ (h2 : Heap) (tk : Nat), (∀ b o, s.heap.get? b = some o → h2.get? b = some o) → Q [x, .ref h2.objs.size] { s with heap := h2.push { cls := .type "list", data := .seq xs.toArray }, toks := tk }) :
    wpAny (model prog w) A (unpackItems (.ref t) 2 (some 1)) Q E s := by
  have hlt : t < s.heap.objs.size := by obtain ⟨o, ho, _⟩ := ht; exact Heap.lt_size ho
  have hne : t ≠ s.heap.objs.size := Nat.ne_of_lt hlt
  unfold unpackItems
  refine wpAny_bind ?_
  unfold notIterableAtAll
  refine wpAny_bind (wpAny_specialOf ht.typeIs slot_tuple_iter.lookup ?_)
  refine wpAny_pure ?_
  simp only [Bool.false_eq_true, if_false]
  refine wpAny_bind (wpAny_holding (wpAny_pyIter_tuple ht ?_))
  have st0 : (s.heap.push { cls := .type "tuple_iterator", data := .fields #[.ref t, .int 0 0] }).IsTupleIter s.heap.objs.size t 0 := ⟨_, Heap.get?_push_size _ rfl, rfl, rfl⟩
  have tp0 := ht.push { cls := .type "tuple_iterator", data := .fields #[.ref t, .int 0 0] }
  refine wpAny_bind (wpAny_holding ?_)
  show wpAny _ _ (draw (.ref s.heap.objs.size) 1) _ _ _
  unfold draw
  refine wpAny_bind (wpAny_pyNext_tuple_item st0 tp0 (x := x) (by simp) fun h1 st1 sb1 => ?_)
  refine wpAny_bind (wpAny_holding ?_)
  unfold draw
  refine wpAny_pure (wpAny_pure ?_)
  have tp1 : h1.IsTuple t (x :: xs).toArray := tp0.extBut sb1.extBut hne
  show wpAny _ _ (if [x].length < 1 then _ else _) _ _ _
  rw [if_neg (by simp)]
  have W := walks_tail (prog := prog) (w := w) (A := A.in1) hh s.heap.objs.size t hne (x :: xs).toArray (by simp)
  have sz : s.heap.objs.size < h1.objs.size := by obtain ⟨o, ho, _⟩ := st1; exact Heap.lt_size ho
  refine wpAny_bind (wpAny_holding (wpAny_collect_iter (.inr (.inr (.inr rfl))) W.toS (fun i s' st => st.1.typeIs) ⟨st1, tp1⟩ (fun b hb => ?_) (List.mem_cons_self) (fun s2 acc mv io => ?_) (by simpa using hz)))
  · rcases List.mem_cons.mp hb with e | e
    · rw [e]; exact sz
    · have e : b = t := by simpa using e
      rw [e]; exact Nat.lt_trans hlt sz
  have eacc : acc.toList = xs := by
    have l1 : acc.toList.length = xs.length := by
      have := io.1
      simp at this
      simpa using this
    apply List.ext_getElem?
    intro j
    by_cases hj : j < acc.toList.length
    · have hj' : j < acc.size := by simpa using hj
      have q := io.2 j acc[j] (Array.getElem?_eq_getElem hj')
      have q2 : xs[j]? = some acc[j] := by simpa using q
      rw [q2]
      simp [hj']
    · rw [List.getElem?_eq_none (by omega), List.getElem?_eq_none (by omega)]
  rw [eacc]
  show wpAny _ _ (if xs.length < 0 then _ else _) _ _ _
  rw [if_neg (by omega)]
  refine wpAny_bind ?_
  show wpAny _ _ (newList (xs.take (xs.length - 0))) _ _ _
  have et : xs.take (xs.length - 0) = xs := by rw [Nat.sub_zero, List.take_length]
  rw [et]
  refine wpAny_newObj_type ?_ (show xs.toArray.size ≤ sizeLine by simpa using hz)
  have ed : xs.drop (xs.length - (2 - 1 - 1)) = [] := by simp
  refine wpAny_pure ?_
  show Q ([x] ++ [Value.ref s2.heap.objs.size] ++ xs.drop (xs.length - (2 - 1 - 1))) _
  rw [ed]
  have k1 : ∀ b o, s.heap.get? b = some o → s2.heap.get? b = some o := fun b o e => by
    have nb : b ≠ s.heap.objs.size := Nat.ne_of_lt (Heap.lt_size e)
    have e1 := sb1.extBut b o nb (Heap.get?_push_of_some _ e)
    exact mv.heap b o (fun z => nb (by simpa using z)) e1
  have es : s2 = { s with heap := s2.heap, toks := s2.toks } := by
    obtain ⟨h, g, d, tk, os⟩ := s2
    have g1 : g = s.gens := mv.gens
    have g2 : d = s.drawn := mv.drawn
    have g3 : os = s.os := mv.os
    subst g1 g2 g3
    rfl
  rw [es]
  exact hQ s2.heap s2.toks k1
/-- the first into the i-th slot, the others as a list into the j-th -/
def gStar (K : PySem.W.Frag) (i j : Nat) : TG := fun v σ H Q => ∃ a x xs, v = .ref a ∧ SqT K H a (x :: xs) ∧ ∀ p, H p = none → Q ((σ.set i (some x)).set j (some (.ref p))) (upd H p (.lst xs))
theorem pg_star {X : Cx} {i j : Nat} {x y : Str} {p1 p2 p3 pos : Pos} {kk : Nat} (hc : X.calm = true) (hN : X.N.Nodup) (hi : X.N[i]? = some x) (hj : X.N[j]? = some y) (hx : Loc X.env.scope x) (hy : Loc X.env.scope y) (fx : X.fn x = true) (fy : X.fn y = true)
    (he : assignEach [.Name x p1, .Starred (.Name y p2) p3] X.env = [(false, assign (.Name x p1) X.env), (true, assign (.Name y p2) X.env)] := by rfl) : PG X (.Tuple [.Name x p1, .Starred (.Name y p2) p3] kk pos) (gStar X.K i j) := by
  refine ⟨fun pins s σ H v u Q I r hw => ?_⟩
  obtain ⟨a, x1, xs, rfl, sq, hw⟩ := hw
  cases r
  obtain ⟨its, rv, tp, hz⟩ := I.tuple sq
  cases rv with
  | @cons _ u1 _ us r1 rs =>
    rw [assign_Tuple]
    refine wpAny_bind (wpAny_standAt ?_)
    unfold unpack
    rw [he]
    have hz' : us.length ≤ sizeLine := by
      have := rs.length
      simp at hz
      omega
    refine wpAny_bind (wpAny_holding (unpack_star (I.ok.hd hc) (show s.heap.IsTuple a (u1 :: us).toArray from tp) hz' fun h2 tk k => ?_))
    have I2 : L2.Inv X pins σ H { s with heap := h2, toks := tk } := I.kept k
    have I3 : L2.Inv X pins σ (upd H h2.objs.size (.lst xs)) { s with heap := h2.push { cls := .type "list", data := .seq us.toArray }, toks := tk } :=
      I2.laid (t' := tk) (fun _ _ e => Heap.get?_push_of_some _ e) (Nat.le_refl _) ⟨by have := rs.length; omega, us, 0, rs, Heap.get?_push_size _ rfl⟩
    refine assignInOrder_cons (wpAny_assign_Name (store_ok I3 hN hi hx r1 (fun s4 I4 => ?_) (.inl fx)))
    refine assignInOrder_cons (wpAny_assign_Name (store_ok (v := V.ref h2.objs.size) I4 hN hj hy rfl (fun s5 I5 => ?_) (.inl fy)))
    exact assignInOrder_nil ⟨_, _, I5, hw _ (I2.hok.fresh (Nat.le_refl _))⟩
/-- .. the list frozen -/
def star2 (i j : Nat) (o : O) : M Unit := fun st => match tupOf o with
  | some (x :: xs) => bnd (put i (.im x)) (fun _ => put j (.im (.lst xs))) st
  | _ => none
def sStar (i j : Nat) (m : EM) : SM := bnd m fun o => bnd (star2 i j o) fun _ => ret .nx
section
variable {n : Pn} {W : WX} {X : Cx} {P : Pg} {e : Expr} {g g' g0 : Gh} {H H' H0 : Hp} {st st' : VS.St} {σ : L2.St} {F F' F0 : Lo → Fp} {Fv : Fp} {pos : Pos} {io : List Nat} {D : Ends}
/-- a new object, frozen at once -/
theorem PostS.newZ {g H F g1 H1 F1 st1 p u} (a : PostS P g H F g1 H1 F1 st1 σ Fv) (hp : H1 p = none) (hm : mtb u = true) : PostS P g H F { g1 with Z := fun b => g1.Z b ∨ b = p } (upd H1 p u) F1 st1 σ emp := by
  have c : Ch emp g1 H1 g1 (upd H1 p u) := .new hp
  have p1 := a.drop.mk1 (Fw := emp) (u := u) hp (fun _ h => h.elim) (fun _ h => h.elim)
  have nz : ¬ g1.Z p := a.rs.nz hp
  have fz : Ch (fun b => b = p) g1 (upd H1 p u) { g1 with Z := fun b => g1.Z b ∨ b = p } (upd H1 p u) := .froze fun b h => by
    rw [show b = p from h]; exact ⟨⟨u, upd_same, hm⟩, nz⟩
  have nt : ∀ b, tot F1 b → ¬ b = p := fun b h e => by
    obtain ⟨⟨_, q, _⟩, _⟩ := a.rs.mt b h
    rw [e, hp] at q; cases q
  refine ⟨p1.rs.ch fz (fun b x y => nt b x y) rfl rfl (fun b z => ?_), fun _ h => h.elim, p1.ch.trans fz fun b h => .inr (by rw [show b = p from h]; exact a.ch.back hp), fun b x => a.sub b (x.imp id fun z => z.elim), a.pn⟩
  rcases z with z | z
  · exact p1.rs.zd b z
  · exact ⟨u, by rw [z]; exact upd_same⟩
theorem star_go {i j : Nat} {f : EM} (hi : i ∉ io) (hj : j ∉ io) (h : OkS P W io (sStar i j f) D σ H) : OkE P W f σ H fun v H1 => gStar P.K i j v σ H1 D.nx := by
  obtain ⟨g, st, F, rs, hio, q⟩ := h
  refine ⟨g, st, F, rs, q.bnd.imp (fun s o k1 g1 H1 F1 v Fv p r => ?_) fun _ _ _ z => z⟩
  have k1 := k1.bnd
  unfold star2 RunAt at k1
  cases ht : tupOf o with
  | none => simp [ht] at k1
  | some l =>
    cases l with
    | nil => simp [ht] at k1
    | cons x xs =>
      simp only [ht] at k1
      obtain ⟨t, vs, rfl, ht2, rl⟩ := tupOf_rep ht r
      cases rl with
      | @cons _ xv _ xvs rx rxs =>
        refine ⟨t, xv, xvs, rfl, ht2, fun a ha => ?_⟩
        have p1 := p.newZ (u := .lst xvs) ha rfl
        have cz : Ch (fun b => b = a) g1 (upd H1 a (.lst xvs)) { g1 with Z := fun b => g1.Z b ∨ b = a } (upd H1 a (.lst xvs)) := .froze fun b h => by
          rw [show b = a from h]; exact ⟨⟨_, upd_same, rfl⟩, p.rs.nz ha⟩
        have cn : Ch emp g1 H1 g1 (upd H1 a (.lst xvs)) := .new ha
        have rx' := (rx.ch cn).ch cz
        have rl' : RepI P { g1 with Z := fun b => g1.Z b ∨ b = a } (upd H1 a (.lst xvs)) (.lst xs) (.ref a) := .lst (.inl ⟨.of upd_same, .inr rfl⟩) ((rxs.ch cn).ch cz)
        have k2 : RunAt (bnd (put i (.im x)) fun _ => put j (.im (.lst xs))) s (fun s _ => RunAt (ret VS.Fl.nx) s (okS P D g H F) (exc P W g H F)) (exc P W g H F) := k1
        obtain ⟨l1, k3⟩ := k2.bnd.put
        obtain ⟨l2, k4⟩ := k3.put
        have pn := p1.pn
        have p2 := p1.put (.im rx') (fun _ x => x) l1 (pn_ne (p1.pio hio) hi)
        have p3 := p2.put (.im rl') (fun _ x => x) l2 (pn_ne (p2.pio hio) hj)
        exact (show okS P D g H F _ .nx from k4) _ _ _ _ p3
theorem sv_star {i j : Nat} {tg : Expr} {f : EM} (hi : i ∉ io) (hj : j ∉ io) (he : PE X e (OkE ⟨X.K, n⟩ W f)) (hg : PG X tg (gStar X.K i j)) (hs : swapsWithSole [tg] e pos.line X.env = pure false := by rfl) (hw : swappedStores [tg] e X.env = pure none := by rfl)
    (h1 : (assignEach [tg] X.env).map (·.2) = [assign tg X.env] := by rfl) : PS X (.Assign [tg] e pos) (OkS ⟨X.K, n⟩ W io (sStar i j f)) := PS.imp (ps_asg he hg hs hw h1) fun _ _ _ h => star_go (P := ⟨X.K, n⟩) hi hj h
end
end VS

namespace VS
open PySem L2
/-! ### a list's methods -/
def lAppend : LM
  | xs, [o] => if xs.length < sizeLine then some (.im .non, xs ++ [o]) else none
  | _, _ => none
def lPop : LM
  | xs, [] => match xs.getLast? with
    | some o => some (o, xs.dropLast)
    | none => none
  | _, _ => none
def lClear : LM
  | _, [] => some (.im .non, [])
  | _, _ => none
def lExtend : LM
  | xs, [.im (.lst l)] => if xs.length + l.length ≤ sizeLine then some (.im .non, xs ++ l.map .im) else none
  | xs, [.lst l] => if xs.length + l.length ≤ sizeLine then some (.im .non, xs ++ l) else none
  | _, _ => none
section
variable {n : Pn} {W : WX} {X : Cx} {P : Pg} {e a b c tg i : Expr} {es : List Expr} {g g' g0 : Gh} {H H' H0 : Hp} {st st' : VS.St} {σ : L2.St} {F F' F0 : Lo → Fp} {FX Fv : Fp} {pos : Pos} {io : List Nat} {D : Ends}
theorem RepOL.one' {o vs F} (r : RepOL P g H [o] vs F) : ∃ v G, vs = [v] ∧ RepO P g H o v G ∧ ∀ b, G b ↔ F b := by
  cases r with
  | @cons _ v _ _ F1 F2 a b d => cases b; exact ⟨v, F1, rfl, a, fun b => by simp [un, emp]⟩
theorem RepOL.app : ∀ {os ps : List O} {vs ws : List V} {F G : Fp}, RepOL P g H os vs F → RepOL P g H ps ws G → Fp.dj F G → ∃ F', RepOL P g H (os ++ ps) (vs ++ ws) F' ∧ ∀ b, F' b ↔ F b ∨ G b
  | [], ps, _, ws, _, G, r, rp, _ => by
    cases r
    exact ⟨G, rp, fun b => by simp [emp]⟩
  | x :: os, ps, _, ws, _, G, r, rp, d => by
    cases r with
    | @cons _ y _ vs F1 F2 a b d' =>
      obtain ⟨F', r', e⟩ := RepOL.app b rp fun c x y => d c (.inr x) y
      refine ⟨un F1 F', .cons a r' fun c x y => ?_, fun c => ?_⟩
      · rcases (e c).mp y with y | y
        · exact d' c x y
        · exact d c (.inl x) y
      · simp only [un, e, or_assoc]
theorem RepOL.last : ∀ {os : List O} {vs : List V} {F : Fp} {o : O}, RepOL P g H os vs F → os.getLast? = some o → ∃ v G R, vs[vs.length - 1]? = some v ∧ RepO P g H o v G ∧ RepOL P g H os.dropLast vs.dropLast R ∧ Fp.dj R G ∧ ∀ b, R b ∨ G b → F b
  | [], _, _, _, _, h => by simp at h
  | [x], _, _, o, r, h => by
    simp at h
    subst h
    obtain ⟨v, G, rfl, ro, e⟩ := r.one'
    exact ⟨v, G, emp, rfl, ro, .nil, fun _ h => h.elim, fun b h => (e b).mp (h.elim (fun z => z.elim) id)⟩
  | x :: y :: os, _, _, o, r, h => by
    cases r with
    | @cons _ u _ vs F1 F2 a b d =>
      obtain ⟨v, G, R, h1, h2, h3, h4, h5⟩ := RepOL.last b (by simpa using h)
      have hl : vs ≠ [] := by
        intro z; subst z; simp at h1
      have e2 : (u :: vs).dropLast = u :: vs.dropLast := by
        cases vs with
        | nil => exact absurd rfl hl
        | cons _ _ => rfl
      refine ⟨v, G, un F1 R, ?_, h2, ?_, fun c x z => ?_, fun c x => ?_⟩
      · have : vs.length ≠ 0 := fun z => hl (List.length_eq_zero_iff.mp z)
        rw [List.length_cons, Nat.add_sub_cancel]
        have e3 : vs.length = (vs.length - 1) + 1 := by omega
        rw [e3, List.getElem?_cons_succ]
        exact h1
      · rw [e2]
        show RepOL P g H (x :: (y :: os).dropLast) _ _
        exact .cons a h3 fun c x z => d c x (h5 c (.inl z))
      · rcases x with x | x
        · exact d c x (h5 c (.inr z))
        · exact h4 c x z
      · rcases x with (x | x) | x
        · exact .inl x
        · exact .inr (h5 c (.inl x))
        · exact .inr (h5 c (.inr x))
theorem lm_append {K : PySem.W.Frag} : LMok K lAppend rAppend := by
  intro P _ g H p vs ws xs os ys o Fl Fw Q hp rl ra d hf q
  unfold lAppend at hf
  split at hf
  · split at hf
    · rename_i hz
      cases hf
      obtain ⟨w, G, rfl, rw', e⟩ := ra.one'
      obtain ⟨F', r', e'⟩ := rl.snoc rw' fun b x y => d b x ((e b).mp y)
      exact ⟨p, vs, w, rfl, rfl, hp, by rw [← rl.len]; exact hz, q _ .non F' emp r' (.im .non) (fun _ _ h => h) fun b x => x.elim (fun x => ((e' b).mp x).imp id (e b).mp) fun x => x.elim⟩
    · cases hf
  · cases hf
theorem lm_pop {K : PySem.W.Frag} : LMok K lPop rPop := by
  intro P _ g H p vs ws xs os ys o Fl Fw Q hp rl ra d hf q
  unfold lPop at hf
  split at hf
  · cases hl : xs.getLast? with
    | none => simp [hl] at hf
    | some x =>
      simp [hl] at hf
      obtain ⟨rfl, rfl⟩ := hf
      cases ra
      obtain ⟨v, G, R, h1, h2, h3, h4, h5⟩ := rl.last hl
      exact ⟨p, vs, v, rfl, rfl, hp, h1, q _ v R G h3 h2 h4 fun b x => .inl (h5 b x)⟩
  · cases hf
theorem lm_clear {K : PySem.W.Frag} : LMok K lClear rClear := by
  intro P _ g H p vs ws xs os ys o Fl Fw Q hp rl ra d hf q
  unfold lClear at hf
  split at hf
  · cases hf
    cases ra
    exact ⟨p, vs, rfl, rfl, hp, q [] .non emp emp .nil (.im .non) (fun _ h => h.elim) fun b x => x.elim (fun x => x.elim) fun x => x.elim⟩
  · cases hf
/-- xs.extend(a list that may be read) -/
def rExtR (K : PySem.W.Frag) : V → List V → Hp → VK → Prop := fun x vs H Q => ∃ l b xs zs, x = .ref l ∧ vs = [.ref b] ∧ H l = some (.lst xs) ∧ LsR K H b zs ∧ xs.length + zs.length ≤ sizeLine ∧ Q .non (upd H l (.lst (xs ++ zs)))
theorem mt_extR : MtR X "list.extend" (rExtR X.K) := by
  intro pins s σ H x vs v us Q Iv rx rv h
  obtain ⟨l, b, xs, zs, rfl, rfl, hl, hb, hz, q⟩ := h
  cases rx
  obtain ⟨u, rfl, ru⟩ := rv.one
  cases ru
  obtain ⟨z1, is1, k1, v1, l1, e1⟩ := rd_list Iv (.inl (.of hl))
  obtain ⟨z2, is2, k2, v2, l2, e2⟩ := rd_list Iv hb
  have sz : is1.toArray.size + is2.toArray.size ≤ sizeLine := by simp only [List.size_toArray]; omega
  have nl : ¬ (!is1.toArray.isEmpty && Builtin.List.listTooLong (is1.toArray.size + is2.toArray.size)) = true := by
    rw [notLongL sz, Bool.and_false]; decide
  refine call_meets F.slot_list_extend ⟨_, e1, rfl⟩ F.entry_list_extend (F.args_list_extend_2 _ _)
    (AutoSeq1.list_extend_list_list_0 l is1.toArray k1 b is2.toArray k2 nl (by simp only [List.size_toArray]; omega) (by omega)) ⟨e1, e2, ?_⟩
  exact ⟨.non, _, Iv.lset (its' := is1 ++ is2) hl e1 (by simp) (v1.append v2) (by rw [List.length_append]; exact hz), rfl, q⟩
theorem lm_extend {K : PySem.W.Frag} : LMok K lExtend (rExtR K) := by
  intro P hK g H p vs ws xs os ys o Fl Fw Q hp rl ra d hf q
  subst hK
  unfold lExtend at hf
  split at hf
  · split at hf
    · rename_i l hz
      cases hf
      obtain ⟨w, G, rfl, rw', e⟩ := ra.one'
      cases rw' with
      | im rw' =>
        cases rw' with
        | lst h r =>
          obtain ⟨F', r', e'⟩ := rl.app r.o fun _ _ h => h.elim
          exact ⟨p, _, vs, _, rfl, rfl, hp, h.r, by rw [← rl.len, ← r.len]; exact hz, q _ .non F' emp r' (.im .non) (fun _ _ h => h) fun b x => x.elim (fun x => ((e' b).mp x).imp id fun z => z.elim) fun x => x.elim⟩
    · cases hf
  · split at hf
    · rename_i l hz
      cases hf
      obtain ⟨w, G, rfl, rw', e⟩ := ra.one'
      cases rw' with
      | @lst _ pp vs2 Fi h z r nf =>
        have dd : Fp.dj Fl Fi := fun b x y => d b x ((e b).mp (.inr y))
        obtain ⟨F', r', e'⟩ := rl.app r dd
        exact ⟨p, _, vs, _, rfl, rfl, hp, .inl (.of h), by rw [← rl.len, ← r.len]; exact hz, q _ .non F' emp r' (.im .non) (fun _ _ h => h) fun b x => x.elim (fun x => ((e' b).mp x).imp id fun z => (e b).mp (.inr z)) fun x => x.elim⟩
    · cases hf
  · cases hf
/-! the rules: with arguments, without -/
theorem ev_lm {o : Expr} {name : Str} {id : String} {f : LM} {r : V → List V → Hp → VK → Prop} {rc : RM} {as : AM} {apos cpos : Pos} (hf : LMok X.K f r) (hm : MtR X id r) (slot : Slot "list" name id) (hty : typeOf (.builtin id) = pure (.type "method_descriptor")) (ho : PE X o (OkR ⟨X.K, n⟩ W rc)) (ha : PA X (e :: es) (OkA ⟨X.K, n⟩ W as))
    (hbase : attributeBase o name X.env (eval o X.env) = eval o X.env := by rfl)
    (hfew : ((backTo cpos (starEach (e :: es) X.env)).all (fun x => !x.1) && (backToKw cpos (keywordEach [] X.env)).all (fun x => x.1.isSome)
      && decide ((e :: es).length + ([] : List Keyword).length + (if ([] : List Keyword).isEmpty then 0 else 1) < 30)) = true := by rfl)
    (hline : (apos.endLine == cpos.line) = true := by rfl) (hs : starEach (e :: es) X.env = (false, eval e X.env) :: starEach es X.env := by rfl) (hplain : (backTo cpos (starEach es X.env)).any (·.1) = false := by rfl) :
    PE X (.Call (.Attribute o name apos) (e :: es) [] cpos) (OkE ⟨X.K, n⟩ W (eLM f rc as)) :=
  PE.imp (pe_bm F.plainAttrs_list slot hty hm ho ha hbase hfew hline hs hplain) fun _ _ _ h => lm_go (P := ⟨X.K, n⟩) hf h
theorem ev_lm0 {o : Expr} {name : Str} {id : String} {f : LM} {r : V → List V → Hp → VK → Prop} {rc : RM} {apos cpos : Pos} (hf : LMok X.K f r) (hm : MtR X id r) (slot : Slot "list" name id) (hty : typeOf (.builtin id) = pure (.type "method_descriptor")) (ho : PE X o (OkR ⟨X.K, n⟩ W rc))
    (hbase : attributeBase o name X.env (eval o X.env) = eval o X.env := by rfl) (hline : (apos.endLine == cpos.line) = true := by rfl) : PE X (.Call (.Attribute o name apos) [] [] cpos) (OkE ⟨X.K, n⟩ W (eLM f rc aNil)) :=
  PE.imp (pe_bm0 F.plainAttrs_list slot hty hm ho hbase hline) fun σ H Q h => by
    obtain ⟨g, st, F, rs, q⟩ := lm_go (P := ⟨X.K, n⟩) hf h
    refine ⟨g, st, F, rs, q.imp (fun s l k g' H' F' v p at_ => ?_) fun _ _ _ z => z⟩
    obtain ⟨ty, g2, st2, F2, rs2, k2⟩ := k g' H' F' v p at_
    exact ⟨ty, k2.ret g2 H' F2 [] emp (.refl rs2) .nil⟩
end
end VS

namespace VS
open PySem L2
/-! ### dicts -/
def eDct (t : Bool) : EM := ret (.dct t [])
def putI (kvs : List (DK × I)) (k : DK) (i : I) : List (DK × I) := if kvs.any fun q => decide (q.1 = k) then kvs.map fun q => if q.1 = k then (k, i) else q else kvs ++ [(k, i)]
def putDk (l : Lo) (o j : O) : M Unit := fun st => match getL st l, o, j with
  | some (.dct t kvs), .im i, .im key => match allImD kvs, dkOf t key with
    | some is, some k => if is.length < sizeLine then some (.ok (), setL st l (.dct t ((putI is k i).map fun q => (q.1, O.im q.2)))) else none
    | _, _ => none
  | _, _, _ => none
def sPutD (rc : RM) (ix m : EM) : SM := bnd m fun o => bnd rc fun l => bnd ix fun j => bnd (putDk l o j) fun _ => ret .nx
/-! a, b = x, y -/
def put2 (i j : Nat) : List O → M Unit
  | [x, y] => bnd (put i x) fun _ => put j y
  | _ => fun _ => none
def sPar (i j : Nat) (a : AM) : SM := bnd a fun os => bnd (put2 i j os) fun _ => ret .nx
section
variable {n : Pn} {W : WX} {X : Cx} {P : Pg} {e a b c tg i : Expr} {es : List Expr} {g g' g0 : Gh} {H H' H0 : Hp} {st st' : VS.St} {σ : L2.St} {F F' F0 : Lo → Fp} {FX Fv : Fp} {pos : Pos} {io : List Nat} {D : Ends}
theorem ev_dct0 {t : Bool} : PE X (.Dict [] [] pos) (OkE P W (eDct t)) := by
  cases t with
  | false => exact PE.imp pe_dnewK fun σ H Q ⟨g, st, F, rs, q⟩ p hp => q.ret g _ F (.ref p) (ins1 p emp) ((PostS.refl rs).mk1 hp (fun _ x => x.elim .inr .inl) fun _ h => h.elim) (.dctK (ks := []) upd_same (rs.nz hp) rfl .nil fun h => h)
  | true => exact PE.imp pe_dnewT fun σ H Q ⟨g, st, F, rs, q⟩ p hp => q.ret g _ F (.ref p) (ins1 p emp) ((PostS.refl rs).mk1 hp (fun _ x => x.elim .inr .inl) fun _ h => h.elim) (.dctT (ks := []) upd_same (rs.nz hp) rfl .nil fun h => h)
theorem put_V {κ : Type} [DecidableEq κ] {inj : κ → DK} (hinj : ∀ a b, inj a = inj b → a = b) (k : κ) {x : I} {v : V} (rx : RepI P g H x v) {kvs : List (DK × I)} {ks : List (κ × V)} (h : kvs.map Prod.fst = ks.map (fun x => inj x.1)) (r : RepIL P g H (kvs.map Prod.snd) (ks.map Prod.snd)) :
    (putI kvs (inj k) x).map Prod.fst = (putK ks k v).map (fun x => inj x.1) ∧ RepIL P g H ((putI kvs (inj k) x).map Prod.snd) ((putK ks k v).map Prod.snd) := by
  have any : ∀ {kvs : List (DK × I)} {ks : List (κ × V)}, kvs.map Prod.fst = ks.map (fun x => inj x.1) → (kvs.any fun q => decide (q.1 = inj k)) = ks.any fun q => decide (q.1 = k) := by
    intro kvs
    induction kvs with
    | nil => intro ks h; cases ks with | nil => rfl | cons _ _ => simp at h
    | cons q kvs ih =>
      intro ks h
      cases ks with
      | nil => simp at h
      | cons p ks =>
        simp only [List.map_cons, List.cons.injEq] at h
        rw [List.any_cons, List.any_cons, ih h.2, h.1]
        congr 1
        by_cases e : p.1 = k
        · rw [decide_eq_true e, decide_eq_true (by rw [e])]
        · rw [decide_eq_false e, decide_eq_false fun z => e (hinj _ _ z)]
  have repl : ∀ {kvs : List (DK × I)} {ks : List (κ × V)}, kvs.map Prod.fst = ks.map (fun x => inj x.1) → RepIL P g H (kvs.map Prod.snd) (ks.map Prod.snd) →
      (kvs.map fun q => if q.1 = inj k then (inj k, x) else q).map Prod.fst = (ks.map fun q => if q.1 = k then (q.1, v) else q).map (fun x => inj x.1) ∧
      RepIL P g H ((kvs.map fun q => if q.1 = inj k then (inj k, x) else q).map Prod.snd) ((ks.map fun q => if q.1 = k then (q.1, v) else q).map Prod.snd) := by
    intro kvs
    induction kvs with
    | nil => intro ks h r; cases ks with | nil => exact ⟨rfl, .nil⟩ | cons _ _ => simp at h
    | cons q kvs ih =>
      intro ks h r
      cases ks with
      | nil => simp at h
      | cons p ks =>
        simp only [List.map_cons, List.cons.injEq] at h r ⊢
        cases r with
        | cons a b =>
          obtain ⟨i1, i2⟩ := ih h.2 b
          by_cases e : p.1 = k
          · have e' : q.1 = inj k := by rw [h.1, e]
            rw [if_pos e, if_pos e']
            exact ⟨⟨by rw [e], i1⟩, .cons rx i2⟩
          · have e' : ¬ q.1 = inj k := fun z => e (hinj _ _ (h.1.symm.trans z))
            rw [if_neg e, if_neg e']
            exact ⟨⟨h.1, i1⟩, .cons a i2⟩
  unfold putI putK
  rw [any h]
  split
  · exact repl h r
  · rw [List.map_append, List.map_append, List.map_append, List.map_append, h]
    exact ⟨rfl, r.append (.cons rx .nil)⟩
theorem RepIL.of_o : ∀ {is : List (DK × I)} {vs F}, RepOL P g H ((is.map fun q => (q.1, O.im q.2)).map Prod.snd) vs F → RepIL P g H (is.map Prod.snd) vs ∧ F = emp := by
  intro is vs F r
  have e : (is.map fun q => (q.1, O.im q.2)).map Prod.snd = (is.map Prod.snd).map O.im := by simp [List.map_map, Function.comp_def]
  rw [e] at r
  exact r.im
theorem fst_o {is : List (DK × I)} : (is.map fun q => (q.1, O.im q.2)).map Prod.fst = is.map Prod.fst := by simp [List.map_map, Function.comp_def]
theorem putd_go {rc : RM} {f m : EM} (h : OkS P W io (sPutD rc f m) D σ H) : sDPut (OkR P W rc) (OkE P W f) (OkE P W m) D σ H := by
  obtain ⟨g, st, F, rs, hio, q⟩ := h
  refine ⟨g, st, F, rs, q.bnd.imp (fun s1 o k1 g1 H1 F1 v Fv p1 r1 => ⟨g1, s1, F1, p1.rs, k1.bnd.imp (fun s2 l k2 g2 H2 F2 w p2 at2 => ⟨g2, s2, F2, p2.rs, k2.bnd.imp (fun s3 j k3 g3 H3 F3 y Fy p3 r3 => ?_) fun _ _ _ z => exc_step (p1.trans p2) z⟩) fun _ _ _ z => exc_step p1 z⟩) fun _ _ _ z => z⟩
  have k4 := k3.bnd
  unfold RunAt putDk at k4
  cases hg : getL s3 l with
  | none => simp [hg] at k4
  | some x =>
    cases x with
    | dct t kvs =>
      cases o with
      | im iv =>
        cases j with
        | im key =>
          simp only [hg] at k4
          cases ha : allImD kvs with
          | none => simp [ha] at k4
          | some is =>
            cases hk : dkOf t key with
            | none => simp [ha, hk] at k4
            | some k =>
              simp only [ha, hk] at k4
              by_cases hz : is.length < sizeLine
              · rw [if_pos hz] at k4
                have e0 := allImD_eq ha
                subst e0
                have at3 : AtL g3 σ l w := at2.step p3.ch
                have p23 := (p1.trans p2).trans p3
                have rv : RepI P g3 H3 iv v := (r1.im_inv.ch p2.ch).ch p3.ch
                have rk := r3.im_inv
                have r2 := getL_rep p3.rs hg (by intro z; cases z) at3
                generalize hF : F3 l = Fk at r2
                have hr : ∀ p, w = .ref p → ∀ r, l = .inr r → g3.rho[r]? = some p := fun p e r er => by
                  obtain ⟨p', e1, e2⟩ := at3.2 r er
                  rw [e] at e1; cases e1; exact e2
                cases r2 with
                | @dctK _ p ks Fi hp nz e rl hn =>
                  obtain ⟨k0, hk0, rfl⟩ := Option.map_eq_some_iff.mp (show (keyI key).map Sum.inl = some k from hk)
                  have ey := keyI_V (.im rk) hk0
                  subst ey
                  rw [fst_o] at e
                  obtain ⟨rl, _⟩ := RepIL.of_o rl
                  obtain ⟨n1, n2⟩ := put_V (inj := Sum.inl) (fun a b z => Sum.inl.inj z) k0 rv e rl
                  have lk : ks.length < sizeLine := by
                    have := congrArg List.length e
                    simp only [List.length_map] at this
                    omega
                  refine ⟨p, _, rfl, .k hp lk, ?_⟩
                  have cs : Ch (fun b => b = p) g3 H3 g3 (upd H3 p (.dK (putK ks k0 v))) := .setl ⟨_, hp, rfl⟩ nz
                  have ro : RepO P g3 (upd H3 p (.dK (putK ks k0 v))) (.dct false ((putI is (Sum.inl k0) iv).map fun q => (q.1, O.im q.2))) (.ref p) (ins1 p emp) := by
                    refine .dctK upd_same nz (by rw [fst_o]; exact n1) ?_ fun h => h
                    have e2 : ((putI is (Sum.inl k0) iv).map fun q => (q.1, O.im q.2)).map Prod.snd = ((putI is (Sum.inl k0) iv).map Prod.snd).map O.im := by simp [List.map_map, Function.comp_def]
                    rw [e2]
                    exact (n2.ch cs).o
                  exact (show okS P D g H F _ .nx from k4) _ _ _ _ (p23.drop.modL (Fw := emp) hg at3.1 (hr p rfl) (by rw [hF]; exact .inl rfl) ro (fun b x => by rw [hF]; exact .inl (x.imp id fun z => z.elim)) (fun _ h => h.elim) (fun _ _ h => h) fun h => h)
                | @dctT _ p ks Fi hp nz e rl hn =>
                  cases key with
                  | tup kl =>
                    obtain ⟨k0, hk0, rfl⟩ := Option.map_eq_some_iff.mp (show (keyL kl).map Sum.inr = some k from hk)
                    cases rk with
                    | @tup _ bk kvs' hb rb =>
                      have hd := hb.dir (by rw [hk0]; simp)
                      rw [keyL_V rb hk0] at hd
                      rw [fst_o] at e
                      obtain ⟨rl, _⟩ := RepIL.of_o rl
                      obtain ⟨n1, n2⟩ := put_V (inj := Sum.inr) (fun a b z => Sum.inr.inj z) k0 rv e rl
                      have lk : ks.length < sizeLine := by
                        have := congrArg List.length e
                        simp only [List.length_map] at this
                        omega
                      refine ⟨p, _, rfl, .t hp hd lk, ?_⟩
                      have cs : Ch (fun b => b = p) g3 H3 g3 (upd H3 p (.dT (putK ks k0 v))) := .setl ⟨_, hp, rfl⟩ nz
                      have ro : RepO P g3 (upd H3 p (.dT (putK ks k0 v))) (.dct true ((putI is (Sum.inr k0) iv).map fun q => (q.1, O.im q.2))) (.ref p) (ins1 p emp) := by
                        refine .dctT upd_same nz (by rw [fst_o]; exact n1) ?_ fun h => h
                        have e2 : ((putI is (Sum.inr k0) iv).map fun q => (q.1, O.im q.2)).map Prod.snd = ((putI is (Sum.inr k0) iv).map Prod.snd).map O.im := by simp [List.map_map, Function.comp_def]
                        rw [e2]
                        exact (n2.ch cs).o
                      exact (show okS P D g H F _ .nx from k4) _ _ _ _ (p23.drop.modL (Fw := emp) hg at3.1 (hr p rfl) (by rw [hF]; exact .inl rfl) ro (fun b x => by rw [hF]; exact .inl (x.imp id fun z => z.elim)) (fun _ h => h.elim) (fun _ _ h => h) fun h => h)
                  | _ => cases hk
              · rw [if_neg hz] at k4
                exact k4.elim
        | _ => simp [hg] at k4
      | _ => simp [hg] at k4
    | _ => simp [hg] at k4
theorem sv_putD {o v : Expr} {rc : RM} {f m : EM} {tpos : Pos} (hu : X.A.units + 1 < cLine) (hv : PE X v (OkE P W m)) (ho : PE X o (OkR P W rc)) (hi : PE X i (OkE P W f)) (hs : swapsWith v (some (.Subscript o i tpos)) pos.line X.env = pure false := by rfl) : PS X (.Assign [.Subscript o i tpos] v pos) (OkS P W io (sPutD rc f m)) :=
  PS.imp (ps_dput hu ho hi hv hs) fun _ _ _ h => putd_go h
theorem par_go {i j : Nat} {f : AM} (hi : i ∉ io) (hj : j ∉ io) (h : OkS P W io (sPar i j f) D σ H) : tPar i j (OkA P W f) D σ H := by
  obtain ⟨g, st, F, rs, hio, q⟩ := h
  refine ⟨g, st, F, rs, q.bnd.imp (fun s os k g1 H1 F1 vs Fv p r => ?_) fun _ _ _ z => z⟩
  have k1 := k.bnd
  cases os with
  | nil => exact k1.elim
  | cons x os =>
    cases os with
    | nil => exact k1.elim
    | cons y os =>
      cases os with
      | cons _ _ => exact k1.elim
      | nil =>
        cases r with
        | @cons _ v _ _ F1' F2' a b d =>
          obtain ⟨w, G, rfl, rb, e⟩ := b.one'
          refine ⟨v, w, rfl, ?_⟩
          have k2 : RunAt (bnd (put i x) fun _ => put j y) s _ _ := k1
          obtain ⟨l1, k3⟩ := k2.bnd.put
          obtain ⟨l2, k4⟩ := k3.put
          have pA : PostS P g H F g1 H1 (upF F1 (.inl i) F1') { s with sl := s.sl.set i x } (σ.set i (some v)) G := by
            have base := p.put a (fun _ h => .inl h) l1 (pn_ne (p.pio hio) hi)
            refine ⟨base.rs, fun b h1 h2 => ?_, base.ch, fun b h => ?_, base.pn⟩
            · rcases tot_up h2 with ⟨m, _, h2⟩ | h2
              · exact p.dj b (.inr ((e b).mp h1)) ⟨m, h2⟩
              · exact d b h2 ((e b).mp h1)
            · rcases h with h | h
              · exact base.sub b (.inl h)
              · exact p.sub b (.inr (.inr ((e b).mp h)))
          have pB := pA.put rb (fun _ h => h) l2 (pn_ne (p.pio hio) hj)
          exact (show okS P D g H F _ .nx from k4) _ _ _ _ pB
theorem sv_par {i j : Nat} {x y : Str} {a b : Expr} {f : AM} {px py pt : Pos} {kt k2 pt2} (hi' : i ∉ io) (hj' : j ∉ io) (hc : X.calm = true) (hN : X.N.Nodup) (hi : X.N[i]? = some x) (hj : X.N[j]? = some y) (hij : i ≠ j)
    (hx : X.env.scope.names.lookup x = some .local) (hy : X.env.scope.names.lookup y = some .local) (ha : PA X [a, b] (OkA P W f))
    (hw : swappedStores [.Tuple [.Name x px, .Name y py] kt pt] (.Tuple [a, b] k2 pt2) X.env = pure (some [x, y]) := by rfl)
    (hs : swapsWithSole [.Tuple [.Name x px, .Name y py] kt pt] (.Tuple [a, b] k2 pt2) pos.line X.env = pure false := by rfl) :
    PS X (.Assign [.Tuple [.Name x px, .Name y py] kt pt] (.Tuple [a, b] k2 pt2) pos) (OkS P W io (sPar i j f)) := PS.imp (ps_par hc hN hi hj hij hx hy ha hw hs) fun _ _ _ h => par_go hi' hj' h
/-- a, b = x, y where a name is a cell: the pair is made -/
theorem sv_parC {i j : Nat} {tg : Expr} {a b : Expr} {f : AM} {k2 pt2} (hk : ∀ k ∈ [i, j], k ∉ io) (ha : PA X [a, b] (OkA ⟨X.K, n⟩ W f)) (hg : PG X tg (gTup X.K 2 (gNames [i, j]))) (hs : swapsWithSole [tg] (.Tuple [a, b] k2 pt2) pos.line X.env = pure false := by rfl) (hw : swappedStores [tg] (.Tuple [a, b] k2 pt2) X.env = pure none := by rfl)
    (h1 : (assignEach [tg] X.env).map (·.2) = [assign tg X.env] := by rfl) : PS X (.Assign [tg] (.Tuple [a, b] k2 pt2) pos) (OkS ⟨X.K, n⟩ W io (sUnp [i, j] (eFz (eTup f)))) := sv_unp hk (ev_fz (ev_tup ha)) hg hs hw h1
end
end VS

namespace VS
open PySem PySem.Spec PyProof.Rows L2
/-! ### name op= value: numbers, texts -/
def sAug (k : Nat) (f : List I → Option O) (m : EM) : SM := bnd (bo k) fun x => bnd m fun o => bnd (rd f [x, .o o]) fun z => bnd (put k z) fun _ => ret .nx
/-- no fuel -/
def f0 : Fn := fun _ _ => none
section
variable {n : Pn} {W : WX} {X : Cx} {P : Pg} {e a b c tg i : Expr} {es : List Expr} {g g' g0 : Gh} {H H' H0 : Hp} {st st' : VS.St} {σ : L2.St} {F F' F0 : Lo → Fp} {FX Fv : Fp} {pos : Pos} {io : List Nat} {D : Ends}
def fAddI : List I → Option O
  | [.int i, .int j] => some (.im (.int (i + j)))
  | [.str i, .str j] => if i.length + j.length ≤ sizeLine then some (.im (.str (i ++ j))) else none
  | _ => none
theorem ip_addI : PIp X .Add fun x y => RdOp ⟨X.K, n⟩ fAddI [x, y] := by
  intro pins s σ H x y v u Q Iv rx ry h
  obtain ⟨g, is, zd, hr, o, ho, q⟩ := h
  unfold fAddI at ho
  split at ho
  · obtain ⟨_, _, ev, h1, h2⟩ := hr.two
    cases ev
    cases h1.int_inv
    cases h2.int_inv
    exact iop_add pins s σ H _ _ v u Q Iv rx ry ⟨_, _, rfl, rfl, q_int q ho⟩
  · split at ho
    · obtain ⟨_, _, ev, h1, h2⟩ := hr.two
      cases ev
      cases h1.str_inv
      cases h2.str_inv
      exact iop_add_str pins s σ H _ _ v u Q Iv rx ry ⟨_, _, rfl, rfl, by assumption, q_str q ho⟩
    · cases ho
  · cases ho
theorem ip_subI : PIp X .Sub fun x y => RdOp ⟨X.K, n⟩ fSub [x, y] := by
  intro pins s σ H x y v u Q Iv rx ry h
  obtain ⟨g, is, zd, hr, o, ho, q⟩ := h
  unfold fSub at ho
  split at ho
  · obtain ⟨_, _, ev, h1, h2⟩ := hr.two
    cases ev
    cases h1.int_inv
    cases h2.int_inv
    exact iop_sub pins s σ H _ _ v u Q Iv rx ry ⟨_, _, rfl, rfl, q_int q ho⟩
  · cases ho
theorem aug_go {k : Nat} {f : List I → Option O} {m : EM} (hk : k ∉ io) (h : OkS P W io (sAug k f m) D σ H) : tAug k (OkE P W m) (fun x y => RdOp P f [x, y]) D σ H := by
  obtain ⟨g, st, F, rs, hio, q⟩ := h
  obtain ⟨⟨w, hw⟩, k1⟩ := bo_slot rs q.bnd
  refine ⟨w, hw, g, st, F, rs, k1.bnd.imp (fun s o k2 g1 H1 F1 v Fv p r => ?_) fun _ _ _ z => z⟩
  have ra : RepOp P g1 H1 σ (.b k) w emp := ⟨hw, rfl⟩
  have rb : RepOp P g1 H1 σ (.o o) v Fv := r
  have e1 : un emp (un Fv emp) = Fv := by funext b; simp [un, emp]
  have p1 : PostS P g H F g1 H1 F1 s σ (un emp (un Fv emp)) := by rw [e1]; exact p
  obtain ⟨z, k3, go⟩ := rd_same p1 (.cons ra (.one rb) fun _ h => h.elim) k2.bnd
  refine go _ fun g2 H2 v2 Fw pr => ?_
  have p2 := p1.read pr
  obtain ⟨hl, k4⟩ := (RunAt.bnd k3).put
  exact (show okS P D g H F _ .nx from k4) _ _ _ _ (p2.put pr.ro (fun _ x => x) hl (pn_ne (p2.pio hio) hk))
theorem sv_aug {k : Nat} {x : Str} {op : Operator} {f : List I → Option O} {m : EM} {pos' : Pos} (hk : k ∉ io) (hN : X.N.Nodup) (hi : X.N[k]? = some x) (hx : Loc X.env.scope x) (ho : PIp X op fun x y => RdOp ⟨X.K, n⟩ f [x, y]) (he : PE X e (OkE ⟨X.K, n⟩ W m))
    (hf : X.fn x = true ∨ X.env.scope.names.lookup x = some .local := by first | exact .inl rfl | exact .inr rfl | assumption) : PS X (.AugAssign (.Name x pos') op e pos) (OkS ⟨X.K, n⟩ W io (sAug k f m)) := PS.imp (ps_aug hN hi hx he ho hf) fun _ _ _ h => aug_go (P := ⟨X.K, n⟩) hk h
end
/-- a def without fuel promises nothing -/
theorem fnG0 {Pr : Program} {w : World} {K : PySem.W.Frag} {mg : Str → Option Value} {base : Heap} {n : Pn} {N k : Nat} {io : List Nat} {f : Addr} {fd : FuncData} {ps : List Str} : FnG Pr w K mg base k f fd ps (spOf ⟨K, n⟩ N ps.length io f0) :=
  ⟨fun _ _ _ _ ⟨_, _, _, _, h, _⟩ => h, fun _ _ _ _ _ _ _ _ _ _ _ _ _ _ ⟨_, _, _, _, _, _, _, _, h⟩ => h.elim⟩
end VS

namespace VS
open PySem PySem.Spec PyProof.Rows L2
/-! ### sorted(..) of texts and ints -/
def leS (a b : Str) : Bool := !ltCps b.cps.toList a.cps.toList
def leZ (a b : Int) : Bool := decide (a ≤ b)
theorem ltCps_dec (a b : List Nat) : ltCps a b = decide (a < b) := ltCps_eq a b
theorem leS_iff {a b : Str} : leS a b = true ↔ a.cps.toList ≤ b.cps.toList := by
  unfold leS
  rw [ltCps_eq]
  simp
theorem leS_trans (a b c : Str) : leS a b = true → leS b c = true → leS a c = true := by
  rw [leS_iff, leS_iff, leS_iff]
  exact List.le_trans
theorem leS_total (a b : Str) : (leS a b || leS b a) = true := by
  rcases List.le_total a.cps.toList b.cps.toList with h | h
  · rw [leS_iff.mpr h]; rfl
  · rw [leS_iff.mpr h, Bool.or_true]
theorem leS_anti {a b : Str} (h : leS a b = true) (k : leS b a = true) : a = b := by
  have e := List.le_antisymm (leS_iff.mp h) (leS_iff.mp k)
  cases a; cases b
  simpa using e
theorem pw_risingS : ∀ (p : Str) (l : List Str), risingS p l = true → (p :: l).Pairwise fun a b => leS a b = true
  | p, [], _ => by simp
  | p, x :: r, h => by
    unfold risingS at h
    obtain ⟨h1, h2⟩ := Bool.and_eq_true_iff.mp h
    have ih := pw_risingS x r h2
    refine List.pairwise_cons.mpr ⟨fun y hy => ?_, ih⟩
    rcases List.mem_cons.mp hy with rfl | hy
    · exact h1
    · exact leS_trans p x y h1 ((List.pairwise_cons.mp ih).1 y hy)
theorem pw_sortedS : ∀ {l : List Str}, sortedS l = true → l.Pairwise fun a b => leS a b = true
  | [], _ => .nil
  | x :: r, h => pw_risingS x r h
def sortS (l : List Str) : List Str := l.mergeSort leS
def sortZ (l : List Int) : List Int := l.mergeSort leZ
theorem sortS_eq {ys xs : List Str} (p : ys.Perm xs) (h : sortedS ys = true) : ys = sortS xs :=
  List.Perm.eq_of_pairwise (le := fun a b => leS a b = true) (fun _ _ _ _ => leS_anti) (pw_sortedS h) (List.pairwise_mergeSort leS_trans leS_total xs) (p.trans (List.mergeSort_perm xs leS).symm)
theorem sortZ_eq {ys xs : List Int} (p : ys.Perm xs) (h : ys.Pairwise (· ≤ ·)) : ys = sortZ xs := by
  refine List.Perm.eq_of_pairwise (le := fun a b => a ≤ b) (fun _ _ _ _ h k => Int.le_antisymm h k) h ?_ (p.trans (List.mergeSort_perm xs leZ).symm)
  have := List.pairwise_mergeSort (le := leZ) (fun a b c h k => by simp [leZ] at *; omega) (fun a b => by simp [leZ]; omega) xs
  exact this.imp fun h => by simpa [leZ] using h
def intsOf : List I → Option (List Int)
  | [] => some []
  | .int b :: r => (intsOf r).map (b :: ·)
  | _ => none
def srtL (l : List I) : Option O := match strsOf l with
  | some ys => if ys.length < 64 then some (.lst ((sortS ys).map fun s => .im (.str s))) else none
  | none => match intsOf l with
    | some ns => some (.lst ((sortZ ns).map fun k => .im (.int k)))
    | none => none
def keysS : List DK → Option (List Str)
  | [] => some []
  | .inl (.inr s) :: r => (keysS r).map (s :: ·)
  | _ => none
def keysZ : List DK → Option (List Int)
  | [] => some []
  | .inl (.inl s) :: r => (keysZ r).map (s :: ·)
  | _ => none
def fSorted : List I → Option O
  | [.lst l] => srtL l
  | [.dct false kvs] => match keysS (kvs.map Prod.fst) with
    | some ks => if ks.length < 64 then some (.lst ((sortS ks).map fun s => .im (.str s))) else none
    | none => match keysZ (kvs.map Prod.fst) with
      | some ks => if ks.length < 64 then some (.lst ((sortZ ks).map fun s => .im (.int s))) else none
      | none => none
  | _ => none
section
variable {n : Pn} {W : WX} {X : Cx} {P : Pg} {g : Gh} {H : Hp}
theorem RepF.dctF {kvs v} (h : RepF P g H (.dct false kvs) v) : ∃ p ks, v = .ref p ∧ H p = some (.dK ks) ∧ kvs.map Prod.fst = ks.map (fun x => Sum.inl x.1) ∧ RepIL P g H (kvs.map Prod.snd) (ks.map Prod.snd) := by
  cases h with
  | im h => cases h with | dctK hp _ e rl => exact ⟨_, _, rfl, hp, e, rl⟩
  | dctK hp e rl => exact ⟨_, _, rfl, hp, e, rl⟩
theorem intsOf_V : ∀ {l : List I} {bs vs}, intsOf l = some bs → RepIL P g H l vs → vs = bs.map V.int
  | [], _, _, h, r => by cases h; cases r; rfl
  | .int b :: l, _, _, h, r => by
    unfold intsOf at h
    obtain ⟨bs, e, rfl⟩ := Option.map_eq_some_iff.mp h
    cases r with | cons a t => cases a; rw [intsOf_V e t]; rfl
  | .non :: _, _, _, h, _ => by cases h
  | .bl _ :: _, _, _, h, _ => by cases h
  | .str _ :: _, _, _, h, _ => by cases h
  | .tup _ :: _, _, _, h, _ => by cases h
  | .lst _ :: _, _, _, h, _ => by cases h
  | .dct _ _ :: _, _, _, h, _ => by cases h
  | .ref _ :: _, _, _, h, _ => by cases h
  | .fn _ :: _, _, _, h, _ => by cases h
theorem keysS_V : ∀ {l : List DK} {bs} {ks : List (Key × V)}, keysS l = some bs → l = ks.map (fun x => Sum.inl x.1) → ks.map (·.1) = bs.map Sum.inr
  | [], _, [], h, _ => by cases h; rfl
  | [], _, _ :: _, _, e => by cases e
  | .inl (.inr s) :: r, _, [], _, e => by cases e
  | .inl (.inr s) :: r, _, k :: ks, h, e => by
    unfold keysS at h
    obtain ⟨bs, h', rfl⟩ := Option.map_eq_some_iff.mp h
    obtain ⟨e1, e2⟩ := List.cons.inj e
    have e1 := Sum.inl.inj e1
    simp only [List.map_cons]
    rw [keysS_V h' e2, ← e1]
  | .inl (.inl _) :: _, _, _, h, _ => by cases h
  | .inr _ :: _, _, _, h, _ => by cases h
theorem keysZ_V : ∀ {l : List DK} {bs} {ks : List (Key × V)}, keysZ l = some bs → l = ks.map (fun x => Sum.inl x.1) → ks.map (·.1) = bs.map Sum.inl
  | [], _, [], h, _ => by cases h; rfl
  | [], _, _ :: _, _, e => by cases e
  | .inl (.inl s) :: r, _, [], _, e => by cases e
  | .inl (.inl s) :: r, _, k :: ks, h, e => by
    unfold keysZ at h
    obtain ⟨bs, h', rfl⟩ := Option.map_eq_some_iff.mp h
    obtain ⟨e1, e2⟩ := List.cons.inj e
    have e1 := Sum.inl.inj e1
    simp only [List.map_cons]
    rw [keysZ_V h' e2, ← e1]
  | .inl (.inr _) :: _, _, _, h, _ => by cases h
  | .inr _ :: _, _, _, h, _ => by cases h
theorem strs_rep : ∀ {l : List Str}, RepIL P g H (l.map I.str) (l.map V.str)
  | [] => .nil
  | _ :: _ => .cons (.str _) strs_rep
theorem ints_rep : ∀ {l : List Int}, RepIL P g H (l.map I.int) (l.map V.int)
  | [] => .nil
  | _ :: _ => .cons (.int _) ints_rep
theorem PostR.strs {p : Addr} (hp : H p = none) (zd : ∀ b, g.Z b → ∃ o, H b = some o) {l : List Str} : PostR P g H g (upd H p (.lst (l.map V.str))) (.lst (l.map fun s => .im (.str s))) (.ref p) (ins1 p emp) := by
  have := PostR.newL (P := P) (l := l.map I.str) hp zd strs_rep
  simpa [List.map_map, Function.comp_def] using this
theorem PostR.ints {p : Addr} (hp : H p = none) (zd : ∀ b, g.Z b → ∃ o, H b = some o) {l : List Int} : PostR P g H g (upd H p (.lst (l.map V.int))) (.lst (l.map fun s => .im (.int s))) (.ref p) (ins1 p emp) := by
  have := PostR.newL (P := P) (l := l.map I.int) hp zd ints_rep
  simpa [List.map_map, Function.comp_def] using this
theorem cr_sorted (hc : X.calm = true) : CallR X (.builtin "sorted") (RdOp ⟨X.K, n⟩ fSorted) := by
  intro pins s σ H xs us Q Iv rv h
  obtain ⟨g, is, zd, hr, o, ho, q⟩ := h
  unfold fSorted at ho
  split at ho
  · obtain ⟨_, ev, h1⟩ := hr.one
    cases ev
    obtain ⟨p, vs, rfl, hp, r1⟩ := h1.lst_inv
    unfold srtL at ho
    split at ho
    · rename_i ys hy
      split at ho
      · rename_i hz
        cases ho
        cases strsOf_V hy r1
        exact L2.cr_sortedS pins s σ H _ us Q Iv rv ⟨p, ys, rfl, hp.sq, hz, fun zs t pm st ht => by
          rw [sortS_eq pm st]
          exact q _ _ _ _ (.strs ht zd)⟩
      · cases ho
    · split at ho
      · rename_i ns hn
        cases ho
        cases intsOf_V hn r1
        exact L2.cr_sortedI pins s σ H _ us Q Iv rv ⟨p, ns, rfl, hp.sq, fun zs t pm st ht => by
          rw [sortZ_eq pm st]
          exact q _ _ _ _ (.ints ht zd)⟩
      · cases ho
  · obtain ⟨_, ev, h1⟩ := hr.one
    cases ev
    obtain ⟨p, ks, rfl, hp, e, _⟩ := h1.dctF
    split at ho
    · rename_i bs hb
      split at ho
      · rename_i hz
        cases ho
        exact call_sortedD hc pins s σ H _ us Q Iv rv ⟨p, ks, bs, rfl, .of hp, keysS_V hb e, hz, fun zs t pm st ht => by
          rw [sortS_eq pm st]
          exact q _ _ _ _ (.strs ht zd)⟩
      · cases ho
    · split at ho
      · rename_i bs hb
        split at ho
        · rename_i hz
          cases ho
          exact call_sortedDI hc pins s σ H _ us Q Iv rv ⟨p, ks, bs, rfl, .of hp, keysZ_V hb e, hz, fun zs t pm st ht => by
            rw [sortZ_eq pm st]
            exact q _ _ _ _ (.ints ht zd)⟩
        · cases ho
      · cases ho
  · cases ho
end
end VS

namespace VS
open PySem PySem.Spec PyProof.Rows L2
/-! ### x in NAME: a tuple (a list) of the module, of texts and ints -/
def fInK (neg : Bool) (ls : List I) : List I → Option O
  | [i] => (inL i ls).map fun b => .im (.bl (if neg then !b else b))
  | _ => none
/-- literals -/
def litV : I → V
  | .int k => .int k
  | .str s => .str s
  | .bl b => .bl b
  | _ => .non
def litB : I → Bool
  | .int _ => true
  | .str _ => true
  | .bl _ => true
  | .non => true
  | _ => false
section
variable {n : Pn} {W : WX} {X : Cx} {P : Pg} {g : Gh} {H : Hp} {e : Expr} {pos : Pos}
theorem lit_rep : ∀ {ls : List I}, ls.all litB = true → RepIL P g H ls (ls.map litV)
  | [], _ => .nil
  | i :: ls, h => by
    have h := List.all_cons.symm.trans h
    obtain ⟨a, b⟩ := Bool.and_eq_true_iff.mp h
    refine .cons ?_ (lit_rep b)
    cases i with
    | int k => exact .int k
    | str s => exact .str s
    | bl b => exact .bl b
    | non => exact .non
    | _ => cases a
/-- the module's name c is a tuple or a list of these -/
def KSeq (K : PySem.W.Frag) (mg : Str → Option Value) (c : Str) (ls : List I) : Prop := ∃ p : Addr, mg c = some (.ref p) ∧ ls.all litB = true ∧ ∀ H, SqL K H p (ls.map litV) ∨ SqT K H p (ls.map litV)
def rInK (P : Pg) (p : Addr) (neg : Bool) (ls : List I) : R2 := fun x y H Q => y = .ref p ∧ RdOp P (fInK neg ls) [x] H Q
theorem or_inK {p : Addr} {ls : List I} {neg : Bool} {op : CmpOp} (ho : op = if neg then .NotIn else .In) (hl : ls.all litB = true) (sq : ∀ H, SqL X.K H p (ls.map litV) ∨ SqT X.K H p (ls.map litV)) : OpR X (compareOp op) (rInK ⟨X.K, n⟩ p neg ls) := by
  intro pins s σ H x y v u Q Iv rx ry h
  obtain ⟨rfl, g, is, zd, hr, o, hb, q⟩ := h
  unfold fInK at hb
  split at hb
  · obtain ⟨_, ev, h1⟩ := hr.one
    cases ev
    obtain ⟨b, hb', rfl⟩ := Option.map_eq_some_iff.mp hb
    exact in_seq (n := n) (g := g) ho Iv rx ry rfl (sq H) h1 (lit_rep hl) hb' (q _ _ _ _ (.same (.bl _)))
  · cases hb
theorem ev_inK {c : Str} {ls : List I} {fa : OM} {pc : Pos} (S : KSeq X.K X.mg c ls) (ha : PE X e (OkO ⟨X.K, n⟩ W fa)) (hg : Gl X c := by rfl) (hd : (c == ("__debug__" : Str)) = false := by decide) (hm : behindInMarks .In (.Name c pc) = false := by first | exact nomark _ | rfl) :
    PE X (.Compare e [.In] [.Name c pc] pos) (OkE ⟨X.K, n⟩ W (op1 (fInK false ls) fa)) := by
  obtain ⟨p, h1, h2, h3⟩ := S
  exact PE.imp (pe_cmpR (or_inK (n := n) (neg := false) rfl h2 h3) ha (pe_glob hg h1 (v := V.ref p) rfl hd) hm) fun σ H Q h => by
    obtain ⟨g, st, F, rs, q⟩ := go1 h
    exact ⟨g, st, F, rs, q.imp (fun s o k g1 H1 F1 v Fv p1 r1 => ⟨rfl, k g1 H1 F1 v Fv p1 r1⟩) fun _ _ _ z => z⟩
theorem ev_notinK {c : Str} {ls : List I} {fa : OM} {pc : Pos} (S : KSeq X.K X.mg c ls) (ha : PE X e (OkO ⟨X.K, n⟩ W fa)) (hg : Gl X c := by rfl) (hd : (c == ("__debug__" : Str)) = false := by decide) (hm : behindInMarks .NotIn (.Name c pc) = false := by first | exact nomark _ | rfl) :
    PE X (.Compare e [.NotIn] [.Name c pc] pos) (OkE ⟨X.K, n⟩ W (op1 (fInK true ls) fa)) := by
  obtain ⟨p, h1, h2, h3⟩ := S
  exact PE.imp (pe_cmpR (or_inK (n := n) (neg := true) rfl h2 h3) ha (pe_glob hg h1 (v := V.ref p) rfl hd) hm) fun σ H Q h => by
    obtain ⟨g, st, F, rs, q⟩ := go1 h
    exact ⟨g, st, F, rs, q.imp (fun s o k g1 H1 F1 v Fv p1 r1 => ⟨rfl, k g1 H1 F1 v Fv p1 r1⟩) fun _ _ _ z => z⟩
theorem bt_inK {c : Str} {ls : List I} {fa : OM} {pc : Pos} (S : KSeq X.K X.mg c ls) (ha : PE X e (OkO ⟨X.K, n⟩ W fa)) (hg : Gl X c := by rfl) (hd : (c == ("__debug__" : Str)) = false := by decide) (hm : behindInMarks .In (.Name c pc) = false := by first | exact nomark _ | rfl) :
    PT X (.Compare e [.In] [.Name c pc] pos) (OkB ⟨X.K, n⟩ W (asB (op1 (fInK false ls) fa))) := by
  obtain ⟨p, h1, h2, h3⟩ := S
  exact PT.imp (pt_cmpR (or_inK (n := n) (neg := false) rfl h2 h3) ha (pe_glob hg h1 (v := V.ref p) rfl hd) hm) fun σ H Q h => by
    obtain ⟨g, st, F, rs, q⟩ := go1 (asB_go h)
    exact ⟨g, st, F, rs, q.imp (fun s o k g1 H1 F1 v Fv p1 r1 => ⟨rfl, k g1 H1 F1 v Fv p1 r1⟩) fun _ _ _ z => z⟩
theorem bt_notinK {c : Str} {ls : List I} {fa : OM} {pc : Pos} (S : KSeq X.K X.mg c ls) (ha : PE X e (OkO ⟨X.K, n⟩ W fa)) (hg : Gl X c := by rfl) (hd : (c == ("__debug__" : Str)) = false := by decide) (hm : behindInMarks .NotIn (.Name c pc) = false := by first | exact nomark _ | rfl) :
    PT X (.Compare e [.NotIn] [.Name c pc] pos) (OkB ⟨X.K, n⟩ W (asB (op1 (fInK true ls) fa))) := by
  obtain ⟨p, h1, h2, h3⟩ := S
  exact PT.imp (pt_cmpR (or_inK (n := n) (neg := true) rfl h2 h3) ha (pe_glob hg h1 (v := V.ref p) rfl hd) hm) fun σ H Q h => by
    obtain ⟨g, st, F, rs, q⟩ := go1 (asB_go h)
    exact ⟨g, st, F, rs, q.imp (fun s o k g1 H1 F1 v Fv p1 r1 => ⟨rfl, k g1 H1 F1 v Fv p1 r1⟩) fun _ _ _ z => z⟩
end
end VS

namespace VS
open PySem PySem.Spec PyProof.Rows L2
/-! ### dict comprehensions: keys are texts or ints, values stay -/
abbrev dO (acc : List (DK × I)) : O := .dct false (acc.map fun q => (q.1, O.im q.2))
def putC (acc : List (DK × I)) (x y : O) : M (List (DK × I)) := match x, y with
  | .im j, .im i => match dkOf false j with
    | some k => if acc.length < sizeLine then ret (putI acc k i) else lift none
    | none => lift none
  | _, _ => lift none
def dcL (own : List Nat) (T : Tg) (t : BM) (ek e : EM) : List I → List (DK × I) → M (List (DK × I))
  | [], acc => ret acc
  | i :: is, acc => bnd (wipM own) fun _ => bnd (putT T i) fun _ => bnd t fun c => if c then bnd ek fun j => bnd e fun o => bnd (putC acc j o) fun acc' => dcL own T t ek e is acc' else dcL own T t ek e is acc
def eDc (own : List Nat) (src : IM) (T : Tg) (t : BM) (ek e : EM) : EM := bnd src fun is => blkM own (dcL own T t ek e is []) fun acc => dO acc
section
variable {n : Pn} {W : WX} {X : Cx} {P : Pg} {e a b c tg : Expr} {es : List Expr} {g g' : Gh} {H H' : Hp} {st st' : VS.St} {σ : L2.St} {F F' : Lo → Fp} {FX Fv : Fp} {pos : Pos} {io : List Nat} {s : Stmt} {ss : List Stmt} {D : Ends}
theorem dc_go {own : List Nat} {src : IM} {T : Tg} {t : BM} {fk f : EM} {Q : VK} (hT : ∀ k ∈ slT T, k ∈ own) (h : OkE P W (eDc own src T t fk f) σ H Q) : tDc (OkI P W src) (gOf P.K T) (OkB P W0 t) (OkE P W0 fk) (OkE P W0 f) own σ H Q := by
  obtain ⟨g, st, F, rs, q⟩ := h
  refine ⟨g, st, F, rs, q.bnd.imp (fun s1 is k g1 H1 F1 J p gv => ?_) fun _ _ _ z => z⟩
  intro Dl hD
  -- the block
  unfold RunAt blkM at k
  by_cases im : imAt own s1.sl = true
  · rw [if_pos im] at k
    have k1 : RunAt (dcL own T t fk f is []) s1 (fun st' acc => ∀ g' H' F' v Fv, PostS P g H F g' H' F' { st' with sl := resto s1.sl own st'.sl } σ Fv → RepO P g' H' (dO acc) v Fv → Q v H') fun _ _ _ => False := by
      unfold RunAt
      cases hm : dcL own T t fk f is [] s1 with
      | none => rw [hm] at k; exact k
      | some z =>
        obtain ⟨z, s2⟩ := z
        rw [hm] at k
        cases z with
        | ok acc => exact k
        | ex c i => exact k
    clear k
    have cB : Ch emp g1 H1 (g1.np) H1 := .repn
    have rsB : RepS P (g1.np) H1 s1 σ F1 :=
      ⟨p.rs.len, fun i o h => (p.rs.slot i o h).imp id fun ⟨v, q, z⟩ => ⟨v, q, z.ch cB fun _ _ h => h.elim⟩, fun i o h => let ⟨t, e, z⟩ := p.rs.sto i o h; ⟨t, e, z.ch cB fun _ _ h => h.elim⟩, p.rs.ln, p.rs.dj, p.rs.out1, p.rs.out2, (fun _ h => by cases h), p.rs.zd⟩
    have start : PostS P (g1.np) H1 F1 (g1.np) (upd H1 Dl (.dK [])) (dropF F1 own) { s1 with sl := wip s1.sl own } (wipe σ own) (ins1 Dl emp) := by
      have r0 := rsB.wipe (own := own) rfl
      have cn : Ch emp (g1.np) H1 (g1.np) (upd H1 Dl (.dK [])) := .new hD
      refine ⟨r0.ch cn (fun _ _ h => h.elim) rfl rfl (new_zd p.rs.zd hD), fun b x ⟨l, y⟩ => ?_, cn.wider (fun _ h => h.elim) rsB.mt, fun b x => ?_, rfl⟩
      · rcases x with x | x
        · subst x
          obtain ⟨⟨_, e, _⟩, _⟩ := p.rs.mt _ ⟨l, dropF_sub y⟩
          rw [hD] at e; cases e
        · exact x
      · rcases x with ⟨l, x⟩ | x | x
        · exact .inl ⟨l, dropF_sub x⟩
        · subst x; exact .inr hD
        · exact x.elim
    have ro0 : RepO P (g1.np) (upd H1 Dl (.dK [])) (dO []) (.ref Dl) (ins1 Dl emp) := .dctK (ks := []) upd_same (p.rs.nz hD) rfl .nil fun h => h
    refine ⟨fun i m Hx => m = is.length - i ∧ i ≤ is.length ∧ ∃ g' st' F' acc Fv, PostS P (g1.np) H1 F1 g' Hx F' { st' with sl := wip st'.sl own } (wipe σ own) Fv ∧ RepO P g' Hx (dO acc) (.ref Dl) Fv ∧
      RunAt (dcL own T t fk f (is.drop i) acc) st' (fun st' acc => ∀ g' H' F' v Fv, PostS P g H F g' H' F' { st' with sl := resto s1.sl own st'.sl } σ Fv → RepO P g' H' (dO acc) v Fv → Q v H') fun _ _ _ => False, ⟨is.length, rfl, Nat.zero_le _, _, s1, _, [], _, start, ro0, k1⟩, ?_⟩
    rintro i m H2 ⟨rfl, hi, g2, s2, F2, acc, Fv, p2, ra, k2⟩
    have cg : Ch (tot F1) g1 H1 g2 H2 := (cB.wider (fun _ h => h.elim) p.rs.mt).trans p2.ch fun b h => .inl h
    by_cases hlt : i < is.length
    · have ei : is[i]? = some is[i] := List.getElem?_eq_getElem hlt
      have ed : is.drop i = is[i] :: is.drop (i + 1) := List.drop_eq_getElem_cons hlt
      obtain ⟨go, yl⟩ := (gv g2 H2 _ cg).1 i _ ei
      refine .inr ⟨go, fun Hx => ∃ g' st' F' acc Fv, PostS P (g1.np) H1 F1 g' Hx F' { st' with sl := wip st'.sl own } (wipe σ own) Fv ∧ RepO P g' Hx (dO acc) (.ref Dl) Fv ∧
        RunAt (dcL own T t fk f (is.drop (i + 1)) acc) st' (fun st' acc => ∀ g' H' F' v Fv, PostS P g H F g' H' F' { st' with sl := resto s1.sl own st'.sl } σ Fv → RepO P g' H' (dO acc) v Fv → Q v H') fun _ _ _ => False,
        fun H' x => ⟨is.length - (i + 1), by omega, rfl, hlt, x⟩, fun x H3 y => ?_⟩
      obtain ⟨ho, rx⟩ := yl x H3 y
      have p3 : PostS P (g1.np) H1 F1 g2 H3 F2 { s2 with sl := wip s2.sl own } (wipe σ own) Fv ∧ RepO P g2 H3 (dO acc) (.ref Dl) Fv := by
        rcases ho with rfl | ⟨t, o, hn, rfl⟩
        · exact ⟨p2, ra⟩
        · have cn : Ch emp g2 H2 g2 (upd H2 t o) := .new hn
          exact ⟨p2.mk1 hn (fun _ x => .inl x) fun b x => (ra.mt b x).1, ra.ch cn fun _ _ h => h.elim⟩
      obtain ⟨p3, ra3⟩ := p3
      rw [ed] at k2
      unfold dcL at k2
      have k3 : RunAt (bnd (putT T is[i]) fun _ => bnd t fun c => if c then bnd fk fun j => bnd f fun o => bnd (putC acc j o) fun acc' => dcL own T t fk f (is.drop (i + 1)) acc' else dcL own T t fk f (is.drop (i + 1)) acc) { s2 with sl := wip s2.sl own } _ (fun _ _ _ => False) := k2
      have ep : g2.pn = [] := p2.pn
      refine putT_go (.refl p3.rs) rx (fun k hk q hq => by rw [ep] at hq; cases hq) k3.bnd fun st' σ' F' p4 of4 k4 => ?_
      have wq : wipe σ' own = wipe σ own := wipe_eq of4 hT
      refine ⟨wq, ?_⟩
      -- the test
      have q4 := k4.bnd
      refine ⟨g2, st', F', p4.rs, q4.imp (fun s5 c k5 g5 H5 F5 p5 => ?_) fun _ _ _ z => z.elim⟩
      have tot4 : ∀ b, tot F' b → tot F2 b ∨ H3 b = none := fun b h => p4.sub b (.inl h)
      have base : ∀ {g6 H6 F6 s6 σ6 Fw}, PostS P g2 H3 F2 g6 H6 F6 s6 σ6 Fw → PostS P (g1.np) H1 F1 g6 H6 F6 s6 σ6 (un Fv Fw) ∧ RepO P g6 H6 (dO acc) (.ref Dl) Fv ∧ Fp.dj Fv Fw := fun {g6 H6 F6 s6 σ6 Fw} p6 => p3.both ra3 p6
      have fin : ∀ {g6 H6 F6 s6 Fz acc'}, PostS P (g1.np) H1 F1 g6 H6 F6 s6 σ' Fz → RepO P g6 H6 (dO acc') (.ref Dl) Fz → RunAt (dcL own T t fk f (is.drop (i + 1)) acc') s6 (fun st' acc => ∀ g' H' F' v Fv, PostS P g H F g' H' F' { st' with sl := resto s1.sl own st'.sl } σ Fv → RepO P g' H' (dO acc) v Fv → Q v H') (fun _ _ _ => False) →
          ∃ g' st' F' acc Fv, PostS P (g1.np) H1 F1 g' H6 F' { st' with sl := wip st'.sl own } (wipe σ own) Fv ∧ RepO P g' H6 (dO acc) (.ref Dl) Fv ∧
            RunAt (dcL own T t fk f (is.drop (i + 1)) acc) st' (fun st' acc => ∀ g' H' F' v Fv, PostS P g H F g' H' F' { st' with sl := resto s1.sl own st'.sl } σ Fv → RepO P g' H' (dO acc) v Fv → Q v H') fun _ _ _ => False := fun {g6 H6 F6 s6 Fz acc'} p6 r6 k6 => by
        have r7 := p6.rs.wipe (own := own) p6.pn
        rw [wq] at r7
        exact ⟨g6, s6, dropF F6 own, acc', Fz, ⟨r7, fun b x ⟨l, y⟩ => p6.dj b x ⟨l, dropF_sub y⟩, p6.ch, fun b x => p6.sub b (x.imp (fun ⟨l, y⟩ => ⟨l, dropF_sub y⟩) id), p6.pn⟩, r6, k6⟩
      cases c with
      | false =>
        simp only [Bool.false_eq_true, if_false] at k5 ⊢
        obtain ⟨p6, r6, _⟩ := base (p4.trans p5)
        have p6' : PostS P (g1.np) H1 F1 g5 H5 F5 s5 σ' Fv := ⟨p6.rs, fun b x y => p6.dj b (.inl x) y, p6.ch, fun b x => p6.sub b (x.imp id .inl), p6.pn⟩
        exact fin p6' r6 k5
      | true =>
        simp only [if_true] at k5 ⊢
        have q5 := k5.bnd
        refine ⟨g5, s5, F5, p5.rs, q5.imp (fun s6 oj k6 g6 H6 F6 vj Fj p6 roj => ⟨g6, s6, F6, p6.rs, k6.bnd.imp (fun s7 o k7 g7 H7 F7 v Fw p7 ro => ?_) fun _ _ _ z => z.elim⟩) fun _ _ _ z => z.elim⟩
        obtain ⟨pb, r7, d7⟩ := base (((p4.trans p5).trans p6.drop).trans p7.drop)
        have k8 := k7.bnd
        unfold putC at k8
        split at k8
        · rename_i ji iv
          cases hkk : dkOf false ji with
          | none => rw [hkk] at k8; exact k8.elim
          | some kk =>
            rw [hkk] at k8
            by_cases hz : acc.length < sizeLine
            · simp only [if_pos hz] at k8
              have k9 := k8
              obtain ⟨k0, hk0, rfl⟩ := Option.map_eq_some_iff.mp (show (keyI ji).map Sum.inl = some kk from hkk)
              have ey := keyI_V (.im (roj.im_inv.ch p7.ch)) hk0
              subst ey
              have rv := ro.im_inv
              generalize hFv : Fv = Fx at r7
              cases r7 with
              | @dctK _ _ ks Fi hp nz e rl hn =>
                rw [fst_o] at e
                obtain ⟨rl, _⟩ := RepIL.of_o rl
                obtain ⟨n1, n2⟩ := put_V (inj := Sum.inl) (fun a b z => Sum.inl.inj z) k0 rv e rl
                have lk : ks.length < sizeLine := by
                  have := congrArg List.length e
                  simp only [List.length_map] at this
                  omega
                refine ⟨ks, k0, rfl, hp, lk, ?_⟩
                have cs : Ch (fun b => b = Dl) g7 H7 g7 (upd H7 Dl (.dK (putK ks k0 v))) := .setl ⟨_, hp, rfl⟩ nz
                have r9 : RepO P g7 (upd H7 Dl (.dK (putK ks k0 v))) (dO (putI acc (Sum.inl k0) iv)) (.ref Dl) (ins1 Dl emp) := by
                  refine .dctK upd_same nz (by rw [fst_o]; exact n1) ?_ fun h => h
                  have e2 : ((putI acc (Sum.inl k0) iv).map fun q => (q.1, O.im q.2)).map Prod.snd = ((putI acc (Sum.inl k0) iv).map Prod.snd).map O.im := by simp [List.map_map, Function.comp_def]
                  rw [e2]
                  exact (n2.ch cs).o
                have inF : Fv Dl := by rw [hFv]; exact .inl rfl
                have nt : ¬ tot F7 Dl := fun x => pb.dj Dl (.inl inF) x
                have nb : H1 Dl = none := hD
                refine fin (Fz := ins1 Dl emp) ⟨pb.rs.ch cs (fun b x y => nt (by rw [← y]; exact x)) rfl rfl (set_zd pb.rs.zd), fun b x y => ?_, pb.ch.trans cs fun b x => .inr (by rw [x]; exact nb), fun b x => ?_, pb.pn⟩ r9 k9
                · rcases x with x | x
                  · subst x; exact nt y
                  · exact x.elim
                · rcases x with x | x | x
                  · exact pb.sub b (.inl x)
                  · subst x; exact .inr nb
                  · exact x.elim
            · simp only [if_neg hz] at k8
              exact k8.elim
        · exact k8.elim
    · have e : i = is.length := by omega
      subst e
      rw [List.drop_length] at k2
      refine .inl ⟨(gv g2 H2 _ cg).2, ?_⟩
      have k2 : ∀ g' H' F' v Fv, PostS P g H F g' H' F' { s2 with sl := resto s1.sl own s2.sl } σ Fv → RepO P g' H' (dO acc) v Fv → Q v H' := k2
      have cq : Ch emp g2 H2 (g2.wp g.pn) H2 := .repn
      exact k2 _ H2 _ (.ref Dl) Fv (PostS.over p p2 im) (ra.ch cq fun _ _ h => h.elim)
  · rw [if_neg im] at k
    exact k.elim
theorem ev_dc {kx vx tg iter : Expr} {ifs : List Expr} {scope : Scope} {own : List (Str × Nat)} {pos : Pos} {src : IM} {T : Tg} {t : BM} {fk f : EM} (hc : X.calm = true) (hN : X.N.Nodup) (hi : PI X tg iter (OkI ⟨X.K, n⟩ W src)) (ok : BlkOk X.N X.env.scope scope own)
    (hT : ∀ k ∈ slT T, k ∈ own.map (·.2))
    (hg : ∀ (s : Shared) (H : Hp) (C : Addr) (cl : List (Str × Addr)) (fp : List Addr), PG (X.blk s H scope (compEnvC scope cl C X.env) fp) tg (gOf X.K T)) (ht : ∀ (s : Shared) (H : Hp) (C : Addr) (cl : List (Str × Addr)) (fp : List Addr), PTs (X.blk s H scope (compEnvC scope cl C X.env) fp) ifs (OkB ⟨X.K, n⟩ W0 t))
    (hk : ∀ (s : Shared) (H : Hp) (C : Addr) (cl : List (Str × Addr)) (fp : List Addr), PE (X.blk s H scope (compEnvC scope cl C X.env) fp) kx (OkE ⟨X.K, n⟩ W0 fk))
    (he : ∀ (s : Shared) (H : Hp) (C : Addr) (cl : List (Str × Addr)) (fp : List Addr), PE (X.blk s H scope (compEnvC scope cl C X.env) fp) vx (OkE ⟨X.K, n⟩ W0 f)) (hs : ∀ x, foldedSetIterable iter X.env x = pure x := by intro _; rfl) :
    PE X (.DictComp kx vx [⟨tg, iter, ifs, 0⟩] scope pos) (OkE ⟨X.K, n⟩ W (eDc (own.map (·.2)) src T t fk f)) :=
  PE.imp (pe_dc hc hN hi ok hg ht hk he hs) fun _ _ _ h => dc_go (P := ⟨X.K, n⟩) hT h
theorem un_ng : UnR X (unaryOp .USub) fun x => RdOp ⟨X.K, n⟩ fNeg [x] := by
  intro pins s σ H x v Q Iv rx h
  obtain ⟨g, is, zd, hr, o, ho, q⟩ := h
  unfold fNeg at ho
  split at ho
  · obtain ⟨_, ev, h1⟩ := hr.one
    cases ev
    cases h1.int_inv
    exact un_neg pins s σ H _ v Q Iv rx ⟨_, rfl, q_int q ho⟩
  · cases ho
end
end VS

namespace VS
open PySem PySem.Spec PyProof.Rows L2
/-! ### x.update(dict) -/
def putAllK (kvs more : List (Key × V)) : List (Key × V) := more.foldl (fun a q => putK a q.1 q.2) kvs
def rUpdK : V → List V → Hp → VK → Prop := fun x xs H Q => ∃ d o kvs more, x = .ref d ∧ xs = [.ref o] ∧ d ≠ o ∧ H d = some (.dK kvs) ∧ H o = some (.dK more) ∧ kvs.length + more.length ≤ sizeLine ∧ Q .non (upd H d (.dK (putAllK kvs more)))
section
variable {n : Pn} {W : WX} {X : Cx} {P : Pg}
theorem KV.all : ∀ {more : List (Key × V)} {ms : List (Key × Value)} {kvs : List (Key × V)} {vs : List (Key × Value)}, KV kvs vs → KV more ms → KV (putAllK kvs more) (merged vs ms)
  | [], _, _, _, r, m => by cases m; exact r
  | q :: more, _, kvs, vs, r, m => by
    cases m with
    | @cons _ p _ ms a b =>
      obtain ⟨a1, a2⟩ := a
      have := KV.all (r.put q.1 a2) b
      unfold putAllK merged at this ⊢
      simp only [List.foldl_cons]
      rw [← a1]
      exact this
theorem putAllK_len : ∀ (more kvs : List (Key × V)), (putAllK kvs more).length ≤ kvs.length + more.length
  | [], _ => Nat.le_refl _
  | q :: more, kvs => by
    have h := putAllK_len more (putK kvs q.1 q.2)
    have k := length_putK kvs q.1 q.2
    unfold putAllK at h ⊢
    simp only [List.foldl_cons, List.length_cons]
    omega
theorem mt_update : MtR X "dict.update" rUpdK := by
  intro pins s σ H x xs v us Q I rx rxs h
  obtain ⟨d, o, kvs, more, rfl, rfl, hne, hd, ho, hz, q⟩ := h
  cases rx
  obtain ⟨u, rfl, ru⟩ := rxs.one
  cases ru
  obtain ⟨z1, s1, vs, rel1, dd1⟩ := dk_of I.hok hd
  obtain ⟨z2, s2, ms, rel2, dd2⟩ := dk_of I.hok ho
  refine call_meetsIn PySem.F.slot_dict_update dd1.typeIs PySem.F.entry_dict_update (PySem.F.args_dict_update_2 _ _) (meets_dict_update (mixKind X.prog X.w) d o hne s2)
    ⟨vs, ms, dd1, dd2, by rw [← rel1.length, ← rel2.length]; exact hz, fun h' dd' _ hs => ?_⟩
  have he : ∃ q, h'.get? d = some q := let ⟨q, _, _, hq, _⟩ := dd'; ⟨q, hq⟩
  have hl := putAllK_len more kvs
  exact ⟨.non, _, d_write I (by rw [hd]; exact True.intro) hs he (dk_new (by omega) s1 (KV.all rel1 rel2) dd'), rfl, q⟩
end
end VS

namespace VS
open PySem PySem.Spec PyProof.Rows L2
/-! ### methods of owned dicts (keys texts or ints) that change them -/
abbrev DM := List (DK × I) → List O → Option (O × List (DK × I))
def runD (f : DM) (l : Lo) (os : List O) : EM := fun st => match getL st l with
  | some (.dct false kvs) => match allImD kvs with
    | some is => match f is os with
      | some (o, js) => some (.ok o, setL st l (dO js))
      | none => none
    | none => none
  | _ => none
def isDk (l : Lo) : M Unit := fun st => match getL st l with
  | some (.dct false _) => some (.ok (), st)
  | _ => none
def eDM (f : DM) (rc : RM) (as : AM) : EM := bnd rc fun l => bnd (isDk l) fun _ => bnd as fun os => runD f l os
def dUpdate : DM
  | is, [.im (.dct false more)] => if is.length + more.length ≤ sizeLine then some (.im .non, more.foldl (fun a q => putI a q.1 q.2) is) else none
  | _, _ => none
def DMok (K : PySem.W.Frag) (f : DM) (r : V → List V → Hp → VK → Prop) : Prop := ∀ (P : Pg), P.K = K → ∀ (g : Gh) (H : Hp) (p : Addr) (ks : List (Key × V)) (is js : List (DK × I)) (ws : List V) (os : List O) (o : O) (Fw : Fp) (Q : VK), H p = some (.dK ks) → ¬ g.Z p →
  is.map Prod.fst = ks.map (fun x => Sum.inl x.1) → RepIL P g H (is.map Prod.snd) (ks.map Prod.snd) → RepOL P g H os ws Fw → ¬ Fw p → f is os = some (o, js) →
  (∀ ks' v Go, js.map Prod.fst = ks'.map (fun x => Sum.inl x.1) → RepIL P g H (js.map Prod.snd) (ks'.map Prod.snd) → RepO P g H o v Go → (∀ b, Go b → Fw b) → Q v (upd H p (.dK ks'))) → r (.ref p) ws H Q
section
variable {n : Pn} {W : WX} {X : Cx} {P : Pg} {g : Gh} {H : Hp} {e : Expr} {es : List Expr}
theorem dm_go {f : DM} {r : V → List V → Hp → VK → Prop} {rc : RM} {as : AM} (hf : DMok P.K f r) {H σ Q} (h : OkE P W (eDM f rc as) σ H Q) : tBM P.K "dict" r (OkR P W rc) (OkA P W as) σ H Q := by
  obtain ⟨g, st, F, rs, q⟩ := h
  refine ⟨g, st, F, rs, q.bnd.imp (fun s1 l k1 g1 H1 F1 v p1 at1 => ?_) fun _ _ _ z => z⟩
  have k2 := k1.bnd
  unfold RunAt isDk at k2
  have isd : ∃ xs, getL s1 l = some (.dct false xs) := by
    cases hg : getL s1 l with
    | none => simp [hg] at k2
    | some o =>
      cases o with
      | dct t xs => cases t with
        | false => exact ⟨_, rfl⟩
        | true => simp [hg] at k2
      | _ => simp [hg] at k2
  obtain ⟨xs0, hg0⟩ := isd
  simp only [hg0] at k2
  have r0 := getL_rep p1.rs hg0 (by intro z; cases z) at1
  have ty : tyV P.K "dict" v H1 := by
    generalize F1 l = Fk at r0
    cases r0 with
    | dctK e _ _ _ _ => exact .inr (.inr (.inl ⟨rfl, .inl ⟨_, e⟩⟩))
  refine ⟨ty, g1, s1, F1, p1.rs, RunAt.imp (RunAt.bnd k2) (fun s2 os k3 g2 H2 F2 ws Fw p2 ra => ?_) fun _ _ _ z => exc_step p1 z⟩
  have at2 : AtL g2 σ l v := at1.step p2.ch
  unfold RunAt runD at k3
  cases hg : getL s2 l with
  | none => simp [hg] at k3
  | some o2 =>
    cases o2 with
    | dct t kvs =>
      cases t with
      | true => simp [hg] at k3
      | false =>
      simp only [hg] at k3
      cases ha : allImD kvs with
      | none => simp [ha] at k3
      | some is =>
        simp only [ha] at k3
        have e0 := allImD_eq ha
        subst e0
        cases hfx : f is os with
        | none => simp [hfx] at k3
        | some z =>
          obtain ⟨o, js⟩ := z
          simp only [hfx] at k3
          have p3 := p1.trans p2
          have r2 := getL_rep p2.rs hg (by intro z; cases z) at2
          generalize hF : F2 l = Fk at r2
          cases r2 with
          | @dctK _ p ks Fi hp nz e rl hn =>
            rw [fst_o] at e
            obtain ⟨rl, _⟩ := RepIL.of_o rl
            have nw : ¬ Fw p := fun x => p2.dj p x ⟨l, by rw [hF]; exact .inl rfl⟩
            refine hf P rfl g2 H2 p ks is js ws os o Fw Q hp nz e rl ra nw hfx fun ks' w Go n1 n2 rO sub => ?_
            have no : ¬ Go p := fun x => nw (sub p x)
            have cs : Ch (fun b => b = p) g2 H2 g2 (upd H2 p (.dK ks')) := .setl ⟨_, hp, rfl⟩ nz
            have ro : RepO P g2 (upd H2 p (.dK ks')) (dO js) (.ref p) (ins1 p emp) := by
              refine .dctK upd_same nz (by rw [fst_o]; exact n1) ?_ fun h => h
              have e2 : (js.map fun q => (q.1, O.im q.2)).map Prod.snd = (js.map Prod.snd).map O.im := by simp [List.map_map, Function.comp_def]
              rw [e2]
              exact (n2.ch cs).o
            refine k3 g2 _ (upF F2 l (ins1 p emp)) w Go (p3.modL hg at2.1 (fun r e => ?_) (by rw [hF]; exact .inl rfl) ro (fun b x => ?_) (fun b x => .inr (sub b x)) (fun b x y => ?_) no) (rO.ch cs fun b x y => no (by rw [← show b = p from y]; exact x))
            · obtain ⟨p', e1, e2⟩ := at2.2 r e
              cases e1
              exact e2
            · rw [hF]
              rcases x with x | x
              · exact .inl (.inl x)
              · exact x.elim
            · rcases x with x | x
              · exact no (by rw [← show b = p from x]; exact y)
              · exact x.elim
    | _ => simp [hg] at k3
theorem upd_V : ∀ {more : List (DK × I)} {ms : List (Key × V)} {kvs : List (DK × I)} {ks : List (Key × V)}, more.map Prod.fst = ms.map (fun x => Sum.inl x.1) → RepIL P g H (more.map Prod.snd) (ms.map Prod.snd) →
    kvs.map Prod.fst = ks.map (fun x => Sum.inl x.1) → RepIL P g H (kvs.map Prod.snd) (ks.map Prod.snd) →
    (more.foldl (fun a q => putI a q.1 q.2) kvs).map Prod.fst = (putAllK ks ms).map (fun x => Sum.inl x.1) ∧ RepIL P g H ((more.foldl (fun a q => putI a q.1 q.2) kvs).map Prod.snd) ((putAllK ks ms).map Prod.snd)
  | [], [], _, _, _, _, e, r => ⟨e, r⟩
  | [], _ :: _, _, _, h, _, _, _ => by simp at h
  | _ :: _, [], _, _, h, _, _, _ => by simp at h
  | q :: more, p :: ms, kvs, ks, h, r, e, rk => by
    simp only [List.map_cons, List.cons.injEq] at h r
    cases r with
    | cons a b =>
      obtain ⟨n1, n2⟩ := put_V (inj := (Sum.inl : Key → DK)) (fun a b z => Sum.inl.inj z) p.1 a e rk
      have := upd_V h.2 b n1 n2
      unfold putAllK at this ⊢
      simp only [List.foldl_cons]
      rw [h.1]
      exact this
theorem dm_update {K : PySem.W.Frag} : DMok K dUpdate rUpdK := by
  intro P _ g H p ks is js ws os o Fw Q hp nz e rl ra nw hf q
  unfold dUpdate at hf
  split at hf
  · rename_i more
    split at hf
    · rename_i hz
      cases hf
      obtain ⟨v, G, rfl, ro, _⟩ := ra.one'
      cases ro.im_inv with
      | dctK hm zm em rm =>
        rename_i o2 ms
        have ne : p ≠ o2 := fun x => nz (x ▸ zm)
        have l1 : is.length = ks.length := by simpa using congrArg List.length e
        have l2 : more.length = ms.length := by simpa using congrArg List.length em
        obtain ⟨n1, n2⟩ := upd_V em rm e rl
        exact ⟨p, o2, ks, ms, rfl, rfl, ne, hp, hm, by omega, q _ .non emp n1 n2 (.im .non) fun _ h => h.elim⟩
    · cases hf
  · cases hf
theorem ev_dm {o : Expr} {name : Str} {id : String} {f : DM} {r : V → List V → Hp → VK → Prop} {rc : RM} {as : AM} {apos cpos : Pos} (hf : DMok X.K f r) (hm : MtR X id r) (slot : Slot "dict" name id) (hty : typeOf (.builtin id) = pure (.type "method_descriptor")) (ho : PE X o (OkR ⟨X.K, n⟩ W rc)) (ha : PA X (e :: es) (OkA ⟨X.K, n⟩ W as))
    (hbase : attributeBase o name X.env (eval o X.env) = eval o X.env := by rfl)
    (hfew : ((backTo cpos (starEach (e :: es) X.env)).all (fun x => !x.1) && (backToKw cpos (keywordEach [] X.env)).all (fun x => x.1.isSome)
      && decide ((e :: es).length + ([] : List Keyword).length + (if ([] : List Keyword).isEmpty then 0 else 1) < 30)) = true := by rfl)
    (hline : (apos.endLine == cpos.line) = true := by rfl) (hs : starEach (e :: es) X.env = (false, eval e X.env) :: starEach es X.env := by rfl) (hplain : (backTo cpos (starEach es X.env)).any (·.1) = false := by rfl) :
    PE X (.Call (.Attribute o name apos) (e :: es) [] cpos) (OkE ⟨X.K, n⟩ W (eDM f rc as)) :=
  PE.imp (pe_bm F.plainAttrs_dict slot hty hm ho ha hbase hfew hline hs hplain) fun _ _ _ h => dm_go (P := ⟨X.K, n⟩) hf h
end
end VS

namespace VS
open PySem PySem.Spec PyProof.Rows L2
section
variable {X : Cx}
/-- name = {..} on one line, the name a local -/
theorem ps_setDc {i : Nat} {y : Str} {py : Pos} {kx vx tg iter : Expr} {ifs : List Expr} {scope : Scope} {own : List (Str × Nat)} {pos spos : Pos} {wi : TI} {g : TG} {tt : TT} {tk tv : TE} (hc : X.calm = true) (hN : X.N.Nodup) (hy : X.N[i]? = some y) (hyl : X.env.scope.names.lookup y = some .local)
    (hsw : swapsWith (.DictComp kx vx [⟨tg, iter, ifs, 0⟩] scope pos) (some (.Name y py)) spos.line X.env = pure true) (hi : PI X tg iter wi) (ok : BlkOk X.N X.env.scope scope own)
    (hg : ∀ (s : Shared) (H : Hp) (C : Addr) (cl : List (Str × Addr)) (fp : List Addr), PG (X.blk s H scope (compEnvC scope cl C X.env) fp) tg g) (ht : ∀ (s : Shared) (H : Hp) (C : Addr) (cl : List (Str × Addr)) (fp : List Addr), PTs (X.blk s H scope (compEnvC scope cl C X.env) fp) ifs tt)
    (hk : ∀ (s : Shared) (H : Hp) (C : Addr) (cl : List (Str × Addr)) (fp : List Addr), PE (X.blk s H scope (compEnvC scope cl C X.env) fp) kx tk)
    (he : ∀ (s : Shared) (H : Hp) (C : Addr) (cl : List (Str × Addr)) (fp : List Addr), PE (X.blk s H scope (compEnvC scope cl C X.env) fp) vx tv) (hs : ∀ x, foldedSetIterable iter X.env x = pure x := by intro _; rfl) :
    PS X (.Assign [.Name y py] (.DictComp kx vx [⟨tg, iter, ifs, 0⟩] scope pos) spos) (tAsg (tDc wi g tt tk tv (own.map (·.2))) (gName i)) := by
  refine ⟨fun pins s σ H D I h => ?_⟩
  rw [exec_Assign_Name_used _ _ _ _ hsw]
  refine wpAny_bind (wpAny_standAt (wpAny_bind ?_))
  show wpAny _ X.A (do let _ ← comprehension (.DictComp kx vx [⟨tg, iter, ifs, 0⟩] scope pos) scope X.env (firstIterPos [⟨tg, iter, ifs, 0⟩] pos) newDict false (eval iter X.env) (some (assign (.Name y py) X.env))) _ _ s
  have h : tDc wi g tt tk tv (own.map (·.2)) σ H (fun x H1 => gName i x σ H1 D.nx) := h
  refine wpAny_bind (thn (dc_core (Qf := fun _ s' => SP X pins D .next s') hc hN I hi ok hg ht hk he hs h fun L C s' m H' I' q hn f => ?_) fun _ s' hq => wpAny_pure (wpAny_pure hq))
  show wpAny _ _ (assign (.Name y py) X.env (.ref L)) _ _ _
  refine wpAny_assign_Name (store_ok2 (v := V.ref L) I' hN hy (.inl hyl) rfl (fun s2 I2 ⟨a, sb, ha⟩ => ?_) (.inr hyl))
  obtain ⟨f0, f1, f2, f3, f4, f5⟩ := f
  have haC : C ≠ a := by
    rcases ha with z | z
    · rw [z]; exact f1
    · exact fun e => f4 y a z e.symm
  refine ⟨m, hn.sameBut sb haC, fun h3 sb3 => ?_⟩
  exact ⟨_, H', I2.turned (t' := s2.toks) (fun b o hb e => (sb3.2 b hb).trans e) f0 f1 f3 f4 f5, q⟩
theorem sv_setDc {n : Pn} {W : WX} {io : List Nat} {i : Nat} {y : Str} {py : Pos} {kx vx tg iter : Expr} {ifs : List Expr} {scope : Scope} {own : List (Str × Nat)} {pos spos : Pos} {src : IM} {T : Tg} {t : BM} {fk f : EM} (hki : i ∉ io) (hc : X.calm = true) (hN : X.N.Nodup) (hy : X.N[i]? = some y) (hyl : X.env.scope.names.lookup y = some .local)
    (hsw : swapsWith (.DictComp kx vx [⟨tg, iter, ifs, 0⟩] scope pos) (some (.Name y py)) spos.line X.env = pure true) (hi : PI X tg iter (OkI ⟨X.K, n⟩ W src)) (ok : BlkOk X.N X.env.scope scope own)
    (hT : ∀ k ∈ slT T, k ∈ own.map (·.2))
    (hg : ∀ (s : Shared) (H : Hp) (C : Addr) (cl : List (Str × Addr)) (fp : List Addr), PG (X.blk s H scope (compEnvC scope cl C X.env) fp) tg (gOf X.K T)) (ht : ∀ (s : Shared) (H : Hp) (C : Addr) (cl : List (Str × Addr)) (fp : List Addr), PTs (X.blk s H scope (compEnvC scope cl C X.env) fp) ifs (OkB ⟨X.K, n⟩ W0 t))
    (hk : ∀ (s : Shared) (H : Hp) (C : Addr) (cl : List (Str × Addr)) (fp : List Addr), PE (X.blk s H scope (compEnvC scope cl C X.env) fp) kx (OkE ⟨X.K, n⟩ W0 fk))
    (he : ∀ (s : Shared) (H : Hp) (C : Addr) (cl : List (Str × Addr)) (fp : List Addr), PE (X.blk s H scope (compEnvC scope cl C X.env) fp) vx (OkE ⟨X.K, n⟩ W0 f)) (hs : ∀ x, foldedSetIterable iter X.env x = pure x := by intro _; rfl) :
    PS X (.Assign [.Name y py] (.DictComp kx vx [⟨tg, iter, ifs, 0⟩] scope pos) spos) (OkS ⟨X.K, n⟩ W io (sSet i (eDc (own.map (·.2)) src T t fk f))) :=
  PS.imp (ps_setDc hc hN hy hyl hsw hi ok hg ht hk he hs) fun D σ H h => dc_go (P := ⟨X.K, n⟩) hT (set_go hki h)
end
end VS

namespace VS
open PySem PySem.Spec PyProof.Rows L2
/-! ### sets of texts, made of a list -/
/-- the payload of a set of the texts l, each once -/
structure TxD (P : Program) (w : World) (D : Froz.SD) (l : List Str) : Prop where
  ok : Froz.TxOk P w D l
  nd : l.Nodup
  ris : Ris D.2.2.place.toList
  led : w.params.followText "set-order" = true ∨ D.2.2.led = true
theorem tail_ris {ep : Nat} {es1 : Array (Int × Value)} {t2 : SetTable} {b : Bool} (r : Ris t2.place.toList) : Ris (Froz.tailTx ep es1 t2 b).2.2.place.toList := by
  unfold Froz.tailTx; split
  · exact relayAll_ris _ _ _
  · exact r
theorem tail_led {ep : Nat} {es1 : Array (Int × Value)} {t2 : SetTable} {b : Bool} : (Froz.tailTx ep es1 t2 b).2.2.led = t2.led := by
  unfold Froz.tailTx; split
  · exact relayAll_led _ _ _
  · rfl
theorem TxD.add {P : Program} {w : World} {D : Froz.SD} {l : List Str} {k : Str} (u : Tok) (F : TxD P w D l) (hk : k ∉ l) : TxD P w (Froz.addTx (hashStr w k) (.str k u) D) (k :: l) where
  ok := Froz.add_ok u F.ok
  nd := List.nodup_cons.mpr ⟨hk, F.nd⟩
  ris := by
    unfold Froz.addTx
    refine tail_ris ?_
    split <;> exact layNew_ris _ _ _ _ F.ris
  led := by
    unfold Froz.addTx
    rw [tail_led]
    refine F.led.imp id fun e => ?_
    split <;> exact (layNew_led _ _ _ _).trans e
section
variable {P : Program} {w : World} {A : Around} {E : Value → Shared → Prop} {s : Shared}
/-- a text that is in the set: nothing is done -/
theorem again_x {a : Addr} {D : Froz.SD} {l : List Str} {k : Str} {u : Tok} {Q : Bool → Shared → Prop} (ho : s.heap.get? a = some (Froz.sObj "set" D)) (F : Froz.TxOk P w D l) (hk : k ∈ l) (hb : l.length < scanBound)
    (h : Q false s) : wpAny (model P w) A (setAddHashed a (.str k u) (hashStr w k)) Q E s := by
  obtain ⟨es, ep, t⟩ := D
  have sz : es.size = l.length := F.sz
  have el : ElemsOf (strKind P w) es.toList := F.el
  have fi : t.fits es.size = true := F.fit
  have hd : (Froz.sObj "set" (es, ep, t)).data = .set es ep t := rfl
  have hb0 : es.size < scanBound := by omega
  obtain ⟨e, he, q⟩ := (F.mem k).mp hk
  unfold setAddHashed
  unfold setAddHashedIn
  refine wpAny_holding (wpAny_bind (wpAny_setState_of ho hd fi ?_)); dsimp only
  rw [byScan_of rfl hb0 el]; simp only [↓reduceIte]
  unfold setAddByScan
  refine wpAny_bind ?_
  refine wpAny_bind (wpAny_rule ?_)
  refine wpAny_bind (wpAny_setScan_of (knd := strKind P w) (k := k) (Froz.is_str k u) ho hd fi el ?_)
  cases hf : List.findIdx? (fun e => (strKind P w).is k e.2) es.toList with
  | none =>
    have c := List.findIdx?_eq_none_iff.mp hf e he
    rw [q] at c; cases c
  | some j => dsimp only; exact wpAny_pure (wpAny_pure h)
/-- the set at a: the texts l, each once -/
def TxS (P : Program) (w : World) (h : Heap) (a : Addr) (l : List Str) : Prop := ∃ D, h.get? a = some (Froz.sObj "set" D) ∧ TxD P w D l
/-- the texts of xs, each once, as they are met -/
def metS : List Str → List Str → List Str
  | l, [] => l
  | l, k :: r => metS (if k ∈ l then l else k :: l) r
theorem txs_add {a : Addr} {l : List Str} {k : Str} {u : Tok} {Q : Bool → Shared → Prop} (F : TxS P w s.heap a l) (hb : l.length + 1 < scanBound)
    (h : ∀ h', Heap.SameBut a s.heap h' → TxS P w h' a (if k ∈ l then l else k :: l) → ∀ b, Q b { s with heap := h' }) : wpAny (model P w) A (setAddHashed a (.str k u) (hashStr w k)) Q E s := by
  obtain ⟨D, ho, F⟩ := F
  by_cases hk : k ∈ l
  · refine again_x ho F.ok hk (by omega) ?_
    exact h s.heap (Heap.SameBut.refl a s.heap) (by rw [if_pos hk]; exact ⟨D, ho, F⟩) false
  · refine Froz.add_x ho F.ok hk hb ?_
    refine h _ (Heap.SameBut.update s.heap a _) ?_ true
    rw [if_neg hk]
    exact ⟨_, Froz.get_upd _ ho rfl, F.add u hk⟩
theorem met_len : ∀ (xs l : List Str), (metS l xs).length ≤ l.length + xs.length
  | [], l => by simp [metS]
  | k :: r, l => by
    unfold metS
    refine Nat.le_trans (met_len r _) ?_
    split <;> simp <;> omega
theorem met_mono : ∀ (xs l : List Str), l.length ≤ (metS l xs).length
  | [], l => by simp [metS]
  | k :: r, l => by
    unfold metS
    refine Nat.le_trans ?_ (met_mono r _)
    split <;> simp
theorem TxS.of {h h' : Heap} {a : Addr} {l : List Str} (F : TxS P w h a l) (k : ∀ o, h.get? a = some o → h'.get? a = some o) : TxS P w h' a l :=
  let ⟨D, ho, F⟩ := F
  ⟨D, k _ ho, F⟩
end
section
variable {P : Program} {w : World} {A : Around} {R : Result → Shared → Prop} {I : Addr} {fp wr : List Addr} {G : Array GenState → Array GenState → Prop} {V' : Nat → Value → Prop} {St : Nat → Shared → Prop}
/-- set.update's loop over texts -/
theorem txs_loop {n : Nat} (W : WalksS P w A.in1 I fp wr G n V' St) (a : Addr) (ha : a ∉ fp) : ∀ (ys : List Str) (i : Nat) (l : List Str) (s : Shared), i + ys.length = n →
    (∀ j v, V' j v → i ≤ j → ∃ t, v = .str (ys.getD (j - i) Str.empty) t) → (metS l ys).length + 1 < scanBound → St i s → TxS P w s.heap a l →
    (∀ s', Moved (a :: wr) G s s' → TxS P w s'.heap a (metS l ys) → R (.ok (.ret .none)) s') →
    codeAny (model P w) A (.builtin "set.update.loop" ⟨[.ref a, .ref I], []⟩) R s := by
  have haw : a ∉ wr := fun h => ha (W.sub _ h)
  have sub : ∀ b ∈ wr, b ∈ a :: wr := fun b hb => List.mem_cons_of_mem _ hb
  intro ys
  induction ys with
  | nil =>
    intro i l s hi hv hb hst hS hR
    have hin : i = n := by simpa using hi
    subst hin
    refine codeAny_builtin F.entry_set_update_loop ?_
    rw [Around.under_plainId F.plain_set_update_loop _]
    show wpAny _ A.in1 (pyNext (.ref I) >>= _) _ _ s
    refine wpAny_bind (W.done s _ _ hst fun s' hm => ?_)
    show wpAny _ A.in1 (PySem.ret Value.none) _ _ s'
    exact wpAny_pure (hR s' (hm.mono sub) (hS.of fun o e => hm.heap a o haw e))
  | cons y ys ih =>
    intro i l s hi hv hb hst hS hR
    have hlt : i < n := by simp at hi; omega
    refine codeAny_builtin F.entry_set_update_loop ?_
    rw [Around.under_plainId F.plain_set_update_loop _]
    show wpAny _ A.in1 (pyNext (.ref I) >>= _) _ _ s
    refine wpAny_bind (W.item i s _ _ hlt hst fun v s' hP hst' hm => ?_)
    obtain ⟨t, ev⟩ := hv i v hP (Nat.le_refl _)
    rw [Nat.sub_self] at ev
    have ev : v = .str y t := ev
    subst ev
    have hS' := hS.of (h' := s'.heap) fun o e => hm.heap a o haw e
    show wpAny _ A.in1 (holding [Value.str y t] (setAdd a (.str y t)) >>= _) _ _ s'
    refine wpAny_bind (wpAny_holding ?_)
    unfold setAdd
    refine wpAny_holding ?_
    refine wpAny_bind ((strKind P w).pyHash (k := y) (Froz.is_str _ _) ?_)
    have hb' : (metS (if y ∈ l then l else y :: l) ys).length + 1 < scanBound := hb
    have hl : l.length ≤ (if y ∈ l then l else y :: l).length := by split <;> simp
    have hl1 : l.length + 1 < scanBound := Nat.lt_of_le_of_lt (Nat.succ_le_succ (Nat.le_trans hl (met_mono ys _))) hb'
    refine txs_add (s := { s' with toks := s'.toks + 1 }) hS' hl1 fun h' sb hS2 b => ?_
    refine wpAny_pure ⟨plainId_quiet F.plain_set_update_loop _, ih (i + 1) _ _ (by simp at hi; omega) (fun j v hj hij => ?_) hb' (W.frame _ s' _ _ hst' (Nat.le_succ _) fun c hc o e => ?_) hS2 fun s'' hm'' hS'' => ?_⟩
    · obtain ⟨t', e⟩ := hv j v hj (by omega)
      refine ⟨t', ?_⟩
      rw [e]
      have : j - i = (j - (i + 1)) + 1 := by omega
      rw [this]; rfl
    · rw [sb.2 c (fun q => ha (q ▸ hc))]; exact e
    · refine hR s'' (Moved.trans W.gtrans ((hm.mono sub).then_heap (Nat.le_succ _) fun c o hc e => ?_) hm'') hS''
      rw [sb.2 c (fun q => hc (by rw [q]; exact List.mem_cons_self))]; exact e
end
end VS

namespace VS
open PySem PySem.Spec PyProof.Rows L2
/-! ### set(list of texts), sorted(that) -/
section
variable {P : Program} {w : World} {A : Around} {E : Value → Shared → Prop} {s : Shared}
abbrev ledB (w : World) : Bool := !w.params.followText "set-order"
abbrev newS (w : World) : Obj := { cls := .type "set", dict := none, data := .set #[] 0 (.fresh 0 0 (ledB w)) }
theorem new_led {x : Value} {Q₁ : Value → Shared → Prop} (h : Q₁ (.ref s.heap.objs.size) { s with heap := s.heap.push (newS w) }) :
    codeAny (model P w) A (.call (.builtin "set.__new__") ⟨[.type "set", x], []⟩) (wants Q₁ E) s := by
  refine codeAny_of_tree ?_
  show wpAny _ A.in1 (do checkBuiltinCall "set.__new__" ⟨[.type "set", x], []⟩; again (.builtin "set.__new__" ⟨[.type "set", x], []⟩)) _ _ s
  refine wpAny_bind (wpAny_of_eq (F.newCall_set_1 x) (wpAny_pure ⟨plainId_quiet F.plain_set_new _, codeAny_builtin F.entry_set_new ?_⟩))
  rw [Around.under_plainId F.plain_set_new _]
  unfold Builtin.«set.__new__»
  unfold Builtin.Frozenset.newClass
  have sub := sub_set_self
  obtain ⟨hp, g, d, tk, os⟩ := s; dsimp only
  wp_walk
  refine wpAny_askSetting (wpAny_pure ?_)
  dsimp only; simp only [newObj]
  exact wpAny_bind (wpAny_alloc (wpAny_pure (wpAny_pure h)))
theorem txs_fresh {h : Heap} : TxS P w (h.push (newS w)) h.objs.size [] :=
  ⟨(#[], 0, .fresh 0 0 (ledB w)), Heap.get?_push_size _ rfl, .nil (by rfl), .nil, List.Pairwise.nil, by
    show _ ∨ ledB w = true
    unfold ledB
    cases w.params.followText "set-order"
    · exact .inr rfl
    · exact .inl rfl⟩
theorem strs_getD : ∀ {us : List Value} {xs : List Str}, StrsAre us xs → ∀ (i : Nat) (v : Value), us[i]? = some v → ∃ t, v = .str (xs.getD i Str.empty) t := fun h => SS.strs_at h
/-- what set's __init__ leaves -/
def SetP (E : Value → Shared → Prop) (s : Shared) (T : Heap → Prop) : Result → Shared → Prop := wants (fun r s₂ => r = .none ∧ ∃ h' tk, s₂ = { s with heap := h', toks := tk } ∧ T h' ∧ (∀ b o, b < s.heap.objs.size → s.heap.get? b = some o → h'.get? b = some o)) E
/-- set(x), by what set's __init__ does -/
theorem set_call1 {x : Value} {T : Heap → Prop} {Q : Value → Shared → Prop}
    (hI : wpAny (model P w) A.in1.in1 (Builtin.«set.__init__» ⟨[.ref s.heap.objs.size, x], []⟩) (fun fin s' => match fin with
      | .done f => SetP E s T (.ok f) s'
      | .again c' => c'.quiet = true ∧ codeAny (model P w) A.in1 c' (SetP E s T) s') (fun e s' => SetP E s T (.error e) s') { s with heap := s.heap.push (newS w) })
    (h : ∀ (h' : Heap) (tk : Nat), T h' → (∀ b o, b < s.heap.objs.size → s.heap.get? b = some o → h'.get? b = some o) → Q (.ref s.heap.objs.size) { s with heap := h', toks := tk }) :
    wpAny (model P w) A (call (.type "set") [x]) Q E s := by
  obtain ⟨c, tl, mro⟩ := PySem.F.called_set.mro
  have made := PySem.F.called_set.made
  have subt := PySem.F.called_set.sub
  refine wpAny_call (codeAny_of_tree ?_)
  show wpAny _ _ (callAny (.type "set") _) _ _ _
  refine wpAny_pure ⟨Code.quiet_builtin _ (by decide +kernel), codeAny_builtin PySem.F.entry_type_call ?_⟩
  rw [Around.under_plain (weight_type_call_type "set" [x] []) rfl]
  have q1 := PySem.F.called_set.notType
  have q2 := PySem.F.called_set.canCreate
  have q3 := PySem.F.typeCall_set_1 x
  repeat (any_goals (first | assumption | wp_step))
  refine codeAny_mono (new_led (x := x) (E := E) (Q₁ := fun obj s₁ => obj = .ref s.heap.objs.size ∧ s₁ = { s with heap := s.heap.push (newS w) }) ⟨rfl, rfl⟩) fun r s₁ hr => ?_
  cases r with
  | error e => exact hr
  | ok fl =>
    cases fl with
    | ret obj =>
      obtain ⟨rfl, rfl⟩ := hr
      have hS : (s.heap.push (newS w)).get? s.heap.objs.size = some (newS w) := Heap.get?_push_size _ rfl
      have hT : Shared.TypeIs { s with heap := s.heap.push (newS w) } (.ref s.heap.objs.size) "set" := ⟨_, hS, rfl⟩
      have q4 := PySem.F.called_set.init.lookup
      have q5 := PySem.F.called_set.init.bind (.ref s.heap.objs.size)
      repeat (any_goals (first | assumption | wp_step))
      refine codeAny_mono (codeAny_call_builtin (R := wants (fun r s₂ => r = .none ∧ ∃ h' tk, s₂ = { s with heap := h', toks := tk } ∧ T h' ∧
          (∀ b o, b < s.heap.objs.size → s.heap.get? b = some o → h'.get? b = some o)) E) PySem.F.called_set.init.plain PySem.F.entry_set_init (check_set_init_1 hT ?_)) fun r₂ s₂ hr₂ => ?_
      · exact hI
      · cases r₂ with
        | error e => exact hr₂
        | ok fl₂ =>
          cases fl₂ with
          | ret r =>
            obtain ⟨rfl, h', tk, rfl, hS', hk'⟩ := hr₂
            repeat (any_goals (first | assumption | wp_step))
            exact h _ _ hS' hk'
          | _ => exact hr₂.elim
    | _ => exact hr.elim
/-- set(list of texts) -/
theorem txs_new {l : Addr} {items : Array Value} {xs : List Str} {Q : Value → Shared → Prop} (hh : A.handled = none) (hl : s.heap.IsList l items) (hi : StrsAre items.toList xs) (hb : (metS [] xs).length + 1 < scanBound)
    (h : ∀ (h' : Heap) (tk : Nat), TxS P w h' s.heap.objs.size (metS [] xs) → (∀ b o, b < s.heap.objs.size → s.heap.get? b = some o → h'.get? b = some o) → Q (.ref s.heap.objs.size) { s with heap := h', toks := tk }) :
    wpAny (model P w) A (call (.type "set") [.ref l]) Q E s := by
  refine set_call1 (T := fun h' => TxS P w h' s.heap.objs.size (metS [] xs)) ?_ h
  obtain ⟨⟨oc, od, odt, osl⟩, hol, hcl, nl, hdl⟩ := hl
  simp only at hcl hdl; subst hcl; subst hdl
  have hlS : l < s.heap.objs.size := Heap.lt_size hol
  have hl1 : (s.heap.push (newS w)).IsList l items := ⟨_, Heap.get?_push_of_some _ hol, rfl, nl, rfl⟩
  have hol' := Heap.get?_push_of_some (newS w) hol
  have z1 := PySem.F.sub_list_set
  have z2 := PySem.F.sub_list_frozenset
  have z3 : (Value.type "list" == Value.type "dict") = false := by decide
  unfold Builtin.«set.__init__»
  unfold noKeywords Builtin.Frozenset.updateFrom
  generalize hPI : pyIter = PI
  wp_walk
  subst hPI
  refine wpAny_pyIter_list hl1 ?_
  refine wpAny_bind (wpAny_runValue ?_)
  have hh3 : A.in1.in1.in1.handled = none := by simp [hh]
  have hz : (s.heap.push (newS w)).objs.size = s.heap.objs.size + 1 := by rw [Heap.size_push]
  have hneI : l ≠ (s.heap.push (newS w)).objs.size := by rw [hz]; exact Nat.ne_of_lt (Nat.lt_succ_of_lt hlS)
  have hSf : s.heap.objs.size ∉ [(s.heap.push (newS w)).objs.size, l] := by
    rw [hz]; simp only [List.mem_cons, List.not_mem_nil, or_false, not_or]
    exact ⟨Nat.ne_of_lt (Nat.lt_succ_self _), Nat.ne_of_gt hlS⟩
  have hsz : 0 + xs.length = items.size := by rw [Nat.zero_add, ← StrsAre.len_eq hi, Array.length_toList]
  refine txs_loop ((Walks.list hh3 _ l hneI items).toS) s.heap.objs.size hSf xs 0 [] _ hsz (fun j v e _ => strs_getD hi j v (by rw [Array.getElem?_toList]; exact e)) hb
    ⟨⟨_, Heap.get?_push_size _ rfl, rfl, rfl⟩, (hl1.push _)⟩ (txs_fresh.of fun o e => Heap.get?_push_of_some _ e) fun s' hm hS' => ?_
  obtain ⟨h', g', d', tk', os'⟩ := s'
  have eg : g' = s.gens := hm.gens
  have ed : d' = s.drawn := hm.drawn
  have eo : os' = s.os := hm.os
  subst eg; subst ed; subst eo
  show wpAny _ _ _ _ _ _
  refine wpAny_pure ?_
  show wpAny _ _ (PySem.ret Value.none) _ _ _
  refine wpAny_pure ⟨rfl, h', tk', rfl, hS', fun b o b_lt e => ?_⟩
  refine hm.heap b o ?_ (Heap.get?_push_of_some _ (Heap.get?_push_of_some _ e))
  rw [hz]; simp only [List.mem_cons, List.not_mem_nil, or_false, not_or]
  exact ⟨Nat.ne_of_lt b_lt, Nat.ne_of_lt (Nat.lt_succ_of_lt b_lt)⟩
end
end VS

namespace VS
open PySem PySem.Spec PyProof.Rows L2
/-! ### sorted(set(texts)) -/
def TxO (P : Program) (w : World) (a : Addr) (l : List Str) : HO := .ext fun h => TxS P w h a l
theorem perm_sub {α} [BEq α] [LawfulBEq α] : ∀ {l m : List α}, l.Nodup → (∀ x ∈ l, x ∈ m) → m.length ≤ l.length → m.Perm l
  | [], m, _, _, h => by
    have e : m = [] := List.length_eq_zero_iff.mp (Nat.le_zero.mp h)
    subst e; exact .nil
  | x :: l, m, nd, hs, h => by
    obtain ⟨hx, nd⟩ := List.nodup_cons.mp nd
    have hm : x ∈ m := hs x List.mem_cons_self
    have p := List.perm_cons_erase hm
    have hl : (m.erase x).length ≤ l.length := by
      have := p.length_eq
      simp only [List.length_cons] at this h
      omega
    refine p.trans ((perm_sub nd (fun y hy => ?_) hl).cons x)
    have : y ≠ x := fun e => hx (e ▸ hy)
    exact (List.mem_erase_of_ne this).mpr (hs y (List.mem_cons_of_mem _ hy))
theorem strs_out : ∀ {vs : List Value}, (∀ v ∈ vs, ∃ k u, v = Value.str k u) → ∃ ys, StrsAre vs ys ∧ vs = vs
  | [], _ => ⟨[], .nil, rfl⟩
  | v :: vs, h => by
    obtain ⟨k, u, rfl⟩ := h v List.mem_cons_self
    obtain ⟨ys, r, _⟩ := strs_out (vs := vs) fun x hx => h x (List.mem_cons_of_mem _ hx)
    exact ⟨k :: ys, .cons k u r, rfl⟩
theorem strs_mem : ∀ {vs : List Value} {ys : List Str}, StrsAre vs ys → ∀ k, k ∈ ys ↔ ∃ u, Value.str k u ∈ vs
  | _, _, .nil, k => by simp
  | _, _, .cons n t r, k => by
    rw [List.mem_cons, strs_mem r k]
    constructor
    · rintro (rfl | ⟨u, hu⟩)
      · exact ⟨t, List.mem_cons_self⟩
      · exact ⟨u, List.mem_cons_of_mem _ hu⟩
    · rintro ⟨u, hu⟩
      rcases List.mem_cons.mp hu with e | hu
      · cases e; exact .inl rfl
      · exact .inr ⟨u, hu⟩
section
variable {X : Cx}
def rSetL (X : Cx) : List V → Hp → VK → Prop := fun xs H Q => ∃ l, ∃ ys : List Str, xs = [.ref l] ∧ SqL X.K H l (ys.map V.str) ∧ (metS [] ys).length + 1 < scanBound ∧ ∀ p, H p = none → Q (.ref p) (upd H p (TxO X.prog X.w p (metS [] ys)))
theorem TxS.new {P : Program} {w : World} {H : Hp} {h : Heap} {a : Addr} {l : List Str} (R : TxS P w h a l) : ObjOk P w H h a (TxO P w a l) := by
  have ⟨D, ho, _⟩ := R
  exact ⟨R, ⟨_, ho⟩, fun h1 h2 p k => TxS.of p k⟩
theorem cr_setL (hc : X.calm = true) : CallR X (.type "set") (rSetL X) := by
  intro pins s σ H xs us Q I r h
  obtain ⟨l, ys, rfl, hl, hb, q⟩ := h
  rw [Vals.ref1 r]
  obtain ⟨its, rv, pl, hz⟩ := I.list hl
  refine txs_new (items := its.toArray) (xs := ys) (I.ok.hd hc) (pl.elim fun o ⟨k, q1, q2, _, q3⟩ => ⟨o, q1, q2, k, q3⟩) (by simpa using strsAre_of rv) hb fun h' tk T k => ?_
  have k' : ∀ b o, s.heap.get? b = some o → h'.get? b = some o := fun b o e => k b o (Heap.lt_size e) e
  exact ⟨.ref _, _, I.laid (t' := tk) k' (Nat.le_refl _) T.new, rfl, q _ (I.hok.fresh (Nat.le_refl _))⟩
def rSortedTx (X : Cx) : List V → Hp → VK → Prop := fun xs H Q => ∃ a l, xs = [.ref a] ∧ H a = some (TxO X.prog X.w a l) ∧ l.length < 64 ∧ ∀ ys p, ys.Perm l → sortedS ys = true → H p = none → Q (.ref p) (upd H p (.lst (ys.map V.str)))
theorem cr_sortedTx (hc : X.calm = true) : CallR X (.builtin "sorted") (rSortedTx X) := by
  intro pins s σ H xs us Q I r h
  obtain ⟨a, l, rfl, ha, h64, q⟩ := h
  rw [Vals.ref1 r]
  have T : TxS X.prog X.w s.heap a l := (I.hok a _ ha).1
  obtain ⟨⟨es, ep, t⟩, ho, T⟩ := T
  have sz : es.size = l.length := T.ok.sz
  have hb : es.size < scanBound := by
    rw [sz]
    exact Nat.lt_trans h64 (by decide)
  refine Calls.call_function_entry kind_sorted plain_sorted entry_sorted (args_sorted1 _) ?_
  unfold Builtin.«sorted»
  refine wpAny_bind (m := checkCount "sorted" 1 1 _) (wpAny_pure ?_)
  refine wpAny_bind (collect_set (A := X.A.in1) (I.ok.hd hc) ⟨_, ho, rfl, rfl⟩ T.ok.fit hb T.ris T.led fun s1 vs k1 hz g1 o1 pm => ?_)
  have mem : ∀ v ∈ vs, ∃ e ∈ es.toList, e.2 = v := fun v hv => by
    obtain ⟨e, he, q⟩ := List.mem_map.mp (pm.mem_iff.mp hv)
    exact ⟨e, he, q⟩
  obtain ⟨zs, hS, _⟩ := strs_out (vs := vs) fun v hv => by
    obtain ⟨e, he, rfl⟩ := mem v hv
    obtain ⟨⟨k, hk, _⟩, _⟩ := T.ok.el e he
    obtain ⟨u, e'⟩ := Value.isStrOf_shape (x := k) (v := e.2) hk
    exact ⟨k, u, e'⟩
  have lv : vs.length = l.length := by rw [pm.length_eq, List.length_map, Array.length_toList]; exact sz
  have lz : zs.length = l.length := (StrsAre.len_eq hS).symm.trans lv
  have pz : zs.Perm l := perm_sub T.nd (fun k hk => by
    obtain ⟨e, he, q⟩ := (T.ok.mem k).mp hk
    obtain ⟨u, e'⟩ := Value.isStrOf_shape (x := k) (v := e.2) q
    exact (strs_mem hS k).mpr ⟨u, e' ▸ pm.mem_iff.mpr (List.mem_map_of_mem he)⟩) (Nat.le_of_eq lz)
  refine wpAny_bind (wpAny_newList ?_ (by rw [lv, sizeLine_eq]; omega))
  have hoL : (s1.heap.push (seqObj "list" vs.toArray 0)).get? s1.heap.objs.size = some (seqObj "list" vs.toArray 0) := Heap.get?_push_size _ rfl
  refine wpAny_bind (wpAny_holding (wpAny_call_entry slot_list_sort ⟨_, hoL, rfl⟩ entry_list_sort
    (list_sort_treeK strKind_oneLt hoL hS.keysOf (fun v₁ v₂ rest e => keyKind_strs (by rw [← e]; exact hS)) (by rw [lv]; exact h64) fun st' hp hs => ⟨_, rfl, ?_⟩) (args_list_sort _)))
  obtain ⟨ys, w1, w2, w3⟩ := sorted_out_str hS hp hs
  obtain ⟨e', he'⟩ := sortedHeap_at (vs := vs) (out := (arrOf st').map (·.2)) hoL
  have hlen : (ys.map V.str).length ≤ sizeLine := by
    rw [List.length_map, w2.length_eq, lz, sizeLine_eq]; omega
  have hn : H s1.heap.objs.size = none := I.hok.fresh hz
  have kk : ∀ b u, s.heap.get? b = some u → (sortedHeap (s1.heap.push (seqObj "list" vs.toArray 0)) s1.heap.objs.size vs ((arrOf st').map (·.2))).get? b = some u := fun b u e => by
    have e2 := k1 b u e
    have lt := Heap.lt_size e2
    rw [sortedHeap_old (Nat.ne_of_lt lt) (by rw [size_push']; exact Nat.lt_succ_of_lt lt)]
    exact Heap.get?_push_of_some _ e2
  have J : Inv X pins σ (upd H s1.heap.objs.size (.lst (ys.map V.str))) { s with heap := sortedHeap (s1.heap.push (seqObj "list" vs.toArray 0)) s1.heap.objs.size vs ((arrOf st').map (·.2)), gens := s1.gens, drawn := s1.drawn, toks := s1.toks } :=
    I.call (ch := []) (Un.laid kk hz hn) (I.hok.laid kk hz ⟨hlen, ((arrOf st').map (·.2)).toList, e', vals_of_strs w1, by rw [Array.toArray_toList]; exact he'⟩) (by show AllBare s1.gens; rw [g1]; exact I.bare) (fun _ z => nomatch z)
  refine wpAny_pure ⟨_, rfl, .ref s1.heap.objs.size, _, ?_, rfl, q ys _ (w2.trans pz) w3 hn⟩
  have e : ∀ hp, ({ s1 with heap := hp } : Shared) = { s with heap := hp, gens := s1.gens, drawn := s1.drawn, toks := s1.toks } := fun hp => by
    cases s1; cases s; cases o1; rfl
  rw [e]
  exact J
end
/-- sorted(set(texts)) -/
def fSrtSet : List I → Option O
  | [.lst l] => match strsOf l with
    | some ys => if (metS [] ys).length < 64 then some (.lst ((sortS (metS [] ys)).map fun s => .im (.str s))) else none
    | none => none
  | _ => none
section
variable {n : Pn} {W : WX} {X : Cx} {P : Pg} {e : Expr} {g g' : Gh} {H H' : Hp} {σ : L2.St} {Fv : Fp} {pos : Pos}
theorem PostR.after {p : Addr} {o' : HO} {o v} (hp : H p = none) (r : PostR P g (upd H p o') g' H' o v Fv) : PostR P g H g' H' o v Fv where
  ro := r.ro
  ch := (Ch.new hp).trans r.ch fun _ h => h.elim
  fr b h := by
    have := r.fr b h
    by_cases q : b = p
    · subst q; exact hp
    · rwa [upd_ne q] at this
  rho := r.rho
  zz := r.zz
  pn := r.pn
theorem srtset_go {H : Hp} {v : V} {Q : VK} (h : RdOp ⟨X.K, n⟩ fSrtSet [v] H Q) : rSetL X [v] H fun u H1 => rSortedTx X [u] H1 Q := by
  obtain ⟨g, is, zd, hr, o, ho, q⟩ := h
  unfold fSrtSet at ho
  split at ho
  · obtain ⟨_, ev, h1⟩ := hr.one
    cases ev
    obtain ⟨p, vs, rfl, hp, r1⟩ := h1.lst_inv
    split at ho
    · rename_i ys hy
      split at ho
      · rename_i hz
        cases ho
        cases strsOf_V hy r1
        refine ⟨p, ys, rfl, hp.sq, Nat.lt_of_lt_of_le (Nat.succ_lt_succ hz) (by decide), fun a ha => ⟨a, _, rfl, upd_same, hz, fun zs t pm st ht => ?_⟩⟩
        rw [sortS_eq pm st]
        refine q _ _ _ _ (.after ha (.strs ht fun b z => ?_))
        obtain ⟨o, e⟩ := zd b z
        exact ⟨o, by rw [upd_ne (ne_of_none e ha)]; exact e⟩
      · cases ho
    · cases ho
  · cases ho
theorem ev_srtset {a : Expr} {f : OM} {p1 p2 q : Pos} (hc : X.calm = true) (h1 : X.mg "sorted" = none) (h2 : X.mg "set" = none) (ha : PE X a (OkO ⟨X.K, n⟩ W f)) (hg : Gl X "sorted" := by rfl) (hg2 : Gl X "set" := by rfl)
    (he : starEach [.Call (.Name "set" p2) [a] [] q] X.env = (false, eval (.Call (.Name "set" p2) [a] [] q) X.env) :: starEach [] X.env := by rfl) (he2 : starEach [a] X.env = (false, eval a X.env) :: starEach [] X.env := by rfl)
    (hp : (backTo pos (starEach [] X.env)).any (·.1) = false := by rfl) (hp2 : (backTo q (starEach [] X.env)).any (·.1) = false := by rfl) :
    PE X (.Call (.Name "sorted" p1) [.Call (.Name "set" p2) [a] [] q] [] pos) (OkE ⟨X.K, n⟩ W (op1 fSrtSet f)) := by
  refine PE.imp (pe_callB (cr_sortedTx hc) hg h1 boot_sorted (pa_cons (pe_callTy (cr_setL hc) hg2 h2 boot_set (pa_cons ha pa_nil he2) (by decide) (by decide) he2 hp2) pa_nil he) (by decide) (by decide) he hp) fun σ H Q h => ?_
  obtain ⟨g, st, F, rs, q⟩ := go1 h
  exact ⟨g, st, F, rs, q.imp (fun s x k1 g1 H1 F1 v Fv p rx => srtset_go (k1 g1 H1 F1 v Fv p rx)) fun _ _ _ z => z⟩
end
end VS

namespace VS
open PySem PySem.Spec PyProof.Rows L2
/-! ### repr of data -/
mutual
/-- a thing as data -/
def pd : I → Option PyData
  | .non => some .none
  | .bl b => some (.bool b)
  | .int i => some (.int i)
  | .str s => some (.str s)
  | .tup l => (pdL l).map .tuple
  | .lst l => (pdL l).map .list
  | .dct _ _ => none
  | .ref _ => none
  | .fn _ => none
def pdL : List I → Option (List PyData)
  | [] => some []
  | i :: r => match pd i, pdL r with
    | some d, some ds => some (d :: ds)
    | _, _ => none
end
/-- repr of a tuple, a list, an int -/
def fRepr : List I → Option O
  | [.tup l] => match pdL l with
    | some ds => if (PyData.tuple ds).showable = true ∧ (PyData.tuple ds).depth ≤ 110 ∧ (PyData.tuple ds).shown.length ≤ sizeLine then some (.im (.str (PyData.tuple ds).shown)) else none
    | none => none
  | [.lst l] => match pdL l with
    | some ds => if (PyData.list ds).showable = true ∧ (PyData.list ds).depth ≤ 110 ∧ (PyData.list ds).shown.length ≤ sizeLine then some (.im (.str (PyData.list ds).shown)) else none
    | none => none
  | [.int i] => if i.natAbs.log2 < 1920 then some (.im (.str (toString i))) else none
  | [.str x] => if (reprText x).length ≤ sizeLine then some (.im (.str (reprText x))) else none
  | [.bl b] => some (.im (.str (if b then "True" else "False")))
  | [.non] => some (.im (.str "None"))
  | _ => none
mutual
theorem pd_nd : ∀ (i : I) (d : PyData), pd i = some d → d.hasDict = false
  | .non, _, h => by cases h; rfl
  | .bl _, _, h => by cases h; rfl
  | .int _, _, h => by cases h; rfl
  | .str _, _, h => by cases h; rfl
  | .tup l, d, h => by
    obtain ⟨ds, e, rfl⟩ := Option.map_eq_some_iff.mp h
    exact pdL_nd l ds e
  | .lst l, d, h => by
    obtain ⟨ds, e, rfl⟩ := Option.map_eq_some_iff.mp h
    exact pdL_nd l ds e
  | .dct _ _, _, h => by cases h
  | .ref _, _, h => by cases h
  | .fn _, _, h => by cases h
theorem pdL_nd : ∀ (l : List I) (ds : List PyData), pdL l = some ds → PyData.hasDictAll ds = false
  | [], _, h => by cases h; rfl
  | i :: r, ds, h => by
    unfold pdL at h
    split at h
    · rename_i e1 e2
      cases h
      simp only [PyData.hasDictAll, Bool.or_eq_false_iff]
      exact ⟨pd_nd i _ e1, pdL_nd r _ e2⟩
    · cases h
end
section
variable {n : Pn} {W : WX} {X : Cx} {P : Pg} {g g' : Gh} {H H' : Hp} {σ : L2.St} {pins : List (Addr × Obj)} {s : Shared}
mutual
theorem rd_data (Iv : Inv X pins σ H s) : ∀ (i : I) (d : PyData), pd i = some d → ∀ {v u}, RepI ⟨X.K, n⟩ g H i v → RelV v u → ∃ as, Reads s.heap u d as
  | .non, _, h, _, _, r, q => by cases h; cases r; cases q; exact ⟨_, .none⟩
  | .bl b, _, h, _, _, r, q => by cases h; cases r; cases q; exact ⟨_, .bool b⟩
  | .int i, _, h, _, _, r, q => by cases h; cases r; obtain ⟨t, rfl⟩ := q; exact ⟨_, .int i t⟩
  | .str x, _, h, _, _, r, q => by cases h; cases r; obtain ⟨t, rfl⟩ := q; exact ⟨_, .str x t⟩
  | .tup l, _, h, _, _, r, q => by
    obtain ⟨ds, e, rfl⟩ := Option.map_eq_some_iff.mp h
    cases r with
    | tup ht rl =>
      cases q
      obtain ⟨its, rv, ⟨o, ho, hc, k, hd⟩, _⟩ := Iv.tuple ht.sq
      obtain ⟨as, ra⟩ := rd_dataL Iv l ds e rl rv
      exact ⟨_, .tuple ho hc hd (by simpa using ra)⟩
  | .lst l, _, h, _, _, r, q => by
    obtain ⟨ds, e, rfl⟩ := Option.map_eq_some_iff.mp h
    cases r with
    | lst ht rl =>
      cases q
      obtain ⟨its, rv, ⟨o, k, ho, hc, _, hd⟩, _⟩ := Iv.list ht.sq
      obtain ⟨as, ra⟩ := rd_dataL Iv l ds e rl rv
      exact ⟨_, .list ho hc hd (by simpa using ra)⟩
  | .dct _ _, _, h, _, _, _, _ => by cases h
  | .ref _, _, h, _, _, _, _ => by cases h
  | .fn _, _, h, _, _, _, _ => by cases h
theorem rd_dataL (Iv : Inv X pins σ H s) : ∀ (l : List I) (ds : List PyData), pdL l = some ds → ∀ {vs us}, RepIL ⟨X.K, n⟩ g H l vs → Vals vs us → ∃ as, ReadsAll s.heap us ds as
  | [], _, h, _, _, r, q => by cases h; cases r; cases q; exact ⟨_, .nil⟩
  | i :: l, ds, h, _, _, r, q => by
    unfold pdL at h
    split at h
    · rename_i e1 e2
      cases h
      cases r with
      | cons r1 r2 =>
        cases q with
        | cons q1 q2 =>
          obtain ⟨as, a⟩ := rd_data Iv i _ e1 r1 q1
          obtain ⟨bs, b⟩ := rd_dataL Iv l _ e2 r2 q2
          exact ⟨_, .cons a b⟩
    · cases h
end
theorem cr_repr (hg : X.A.guards = some []) (hu : X.A.units + 120 < cLine) : CallR X (.builtin "repr") (RdOp ⟨X.K, n⟩ fRepr) := by
  intro pins s σ H xs us Q Iv rv h
  obtain ⟨g, is, zd, hr, o, ho, q⟩ := h
  have fin : ∀ {p d as}, Reads s.heap (.ref p) d as → d.hasDict = false → d.showable = true → d.depth ≤ 110 → d.shown.length ≤ sizeLine → some (O.im (.str d.shown)) = some o → wpAny (model X.prog X.w) X.A (call (.builtin "repr") [.ref p]) (EP X pins σ Q) X.xe s := fun {p d as} ra nd sh dp sz e => by
    cases e
    refine repr_of_reads' ra sh (PyData.noDict_hsm nd) hg (by omega) (fun _ _ e => e) (fun h' u tk k => ?_) sz
    exact ⟨.str d.shown, H, Iv.kept k, ⟨u, rfl⟩, q g H _ emp (.same (.str _))⟩
  unfold fRepr at ho
  split at ho
  · obtain ⟨_, ev, h1⟩ := hr.one
    cases ev
    split at ho
    · rename_i ds hd
      split at ho
      · rename_i hz
        cases h1 with
        | im h1 =>
          obtain ⟨u, rfl, ru⟩ := vals1 rv
          obtain ⟨as, ra⟩ := rd_data Iv _ (.tuple ds) (by unfold pd; rw [hd]; rfl) h1 ru
          cases h1
          cases ru
          exact fin ra (pd_nd _ _ (show pd (.tup _) = some (.tuple ds) by unfold pd; rw [hd]; rfl)) hz.1 hz.2.1 hz.2.2 ho
      · cases ho
    · cases ho
  · obtain ⟨_, ev, h1⟩ := hr.one
    cases ev
    split at ho
    · rename_i ds hd
      split at ho
      · rename_i hz
        obtain ⟨u, rfl, ru⟩ := vals1 rv
        obtain ⟨p, vs, rfl, hp, r1⟩ := h1.lst_inv
        cases ru
        obtain ⟨its, rv', ⟨o', k, ho', hc, _, hd'⟩, _⟩ := Iv.list hp.sq
        obtain ⟨as, ra⟩ := rd_dataL Iv _ ds hd r1 rv'
        exact fin (.list ho' hc hd' (by simpa using ra)) (pdL_nd _ _ hd) hz.1 hz.2.1 hz.2.2 ho
      · cases ho
    · cases ho
  · obtain ⟨_, ev, h1⟩ := hr.one
    cases ev
    split at ho
    · cases h1.int_inv
      cases ho
      exact SkE.call_repr_int pins s σ H _ us Q Iv rv ⟨_, rfl, by assumption, q _ _ _ _ (.same (.str _))⟩
    · cases ho
  · obtain ⟨_, ev, h1⟩ := hr.one
    cases ev
    split at ho
    · rename_i hz
      cases h1.str_inv
      cases ho
      obtain ⟨u, rfl, ru⟩ := vals1 rv
      obtain ⟨t, rfl⟩ := ru
      exact P.repr_of_str ⟨.str _, H, Iv.tok _, ⟨_, rfl⟩, q _ _ _ _ (.same (.str _))⟩ hz
    · cases ho
  · obtain ⟨_, ev, h1⟩ := hr.one
    cases ev
    cases h1.bl_inv
    cases ho
    obtain ⟨u, rfl, ru⟩ := vals1 rv
    cases ru
    exact P.repr_of_bool ⟨.str _, H, Iv.tok _, ⟨_, rfl⟩, q _ _ _ _ (.same (.str _))⟩
  · obtain ⟨_, ev, h1⟩ := hr.one
    cases ev
    cases h1.non_inv
    cases ho
    obtain ⟨u, rfl, ru⟩ := vals1 rv
    cases ru
    exact P.repr_of_none ⟨.str _, H, Iv.tok _, ⟨_, rfl⟩, q _ _ _ _ (.same (.str _))⟩
  · cases ho
end
end VS

namespace VS
open PySem L2
section
variable {α β : Type} {st : St} {sl sto : List O} {ex : St → Nat → List I → Prop} {k i j : Nat}
theorem r_star2 {o : O} {ok : St → Unit → Prop} : Run (star2 i j o) st ok ex ↔ ∃ x xs, tupOf o = some (x :: xs) ∧ Run (put i (.im x)) st (fun s _ => Run (put j (.im (.lst xs))) s ok ex) ex := by
  simp only [run_iff]
  unfold RunAt star2
  cases h : tupOf o with
  | none => simp
  | some l =>
    cases l with
    | nil => simp
    | cons x xs =>
      simp only [Option.some.injEq, List.cons.injEq]
      constructor
      · intro q
        exact ⟨x, xs, ⟨rfl, rfl⟩, (q_bnd (m := put i (.im x)) (k := fun _ => put j (.im (.lst xs)))).mp q⟩
      · rintro ⟨_, _, ⟨rfl, rfl⟩, q⟩
        exact (q_bnd (m := put i (.im x)) (k := fun _ => put j (.im (.lst xs)))).mpr q
@[simp] theorem r_sStar {m : EM} {ok : St → VS.Fl → Prop} : Run (sStar i j m) st ok ex ↔ Run m st (fun s o => ∃ x xs, tupOf o = some (x :: xs) ∧ Run (put i (.im x)) s (fun s _ => Run (put j (.im (.lst xs))) s (fun s _ => ok s .nx) ex) ex) ex := by
  unfold sStar; simp only [r_bnd, r_star2, r_ret]
@[simp] theorem tupOf_im {l : List I} : tupOf (.im (.tup l)) = some l := rfl
@[simp] theorem tupOf_tup {l : List O} : tupOf (.tup l) = allIm l := rfl
@[simp] theorem r_rcS {ok : St → Lo → Prop} : Run (rcS k) ⟨sl, sto⟩ ok ex ↔ ∃ o, sl[k]? = some o ∧ isH o = false ∧ ok ⟨sl, sto⟩ (.inl k) := by
  unfold rcS; simp only [r_bnd, r_bo, r_ret]
@[simp] theorem r_rcV {m : EM} {ok : St → Lo → Prop} : Run (rcV m) st ok ex ↔ Run m st (fun s o => ∃ r, o = .im (.ref r) ∧ ok s (.inr r)) ex := by
  unfold rcV
  rw [r_bnd]
  refine iff_of_eq (congrArg (fun z => Run m st z ex) ?_)
  funext s o
  split
  · simp
  · rename_i h
    simp only [r_lift_none, eq_iff_iff, false_iff, not_exists, not_and]
    intro r e
    exact absurd e (h r)
@[simp] theorem getL_l : getL ⟨sl, sto⟩ (.inl k) = sl[k]? := rfl
@[simp] theorem getL_r : getL ⟨sl, sto⟩ (.inr k) = sto[k]? := rfl
@[simp] theorem setL_l {o : O} : setL ⟨sl, sto⟩ (.inl k) o = ⟨sl.set k o, sto⟩ := rfl
@[simp] theorem setL_r {o : O} : setL ⟨sl, sto⟩ (.inr k) o = ⟨sl, sto.set k o⟩ := rfl
theorem r_isL {l : Lo} {ok : St → Unit → Prop} : Run (eLM.isL l) st ok ex ↔ (∃ xs, getL st l = some (.lst xs)) ∧ ok st () := by
  simp only [run_iff]
  unfold RunAt eLM.isL
  cases h : getL st l with
  | none => simp
  | some o => cases o <;> simp
theorem r_runL {f : LM} {l : Lo} {os : List O} {ok : St → O → Prop} : Run (runL f l os) st ok ex ↔ ∃ xs, getL st l = some (.lst xs) ∧ ∃ o ys, f xs os = some (o, ys) ∧ ok (setL st l (.lst ys)) o := by
  simp only [run_iff]
  unfold RunAt runL
  cases h : getL st l with
  | none => simp
  | some o =>
    cases o <;> simp
    rename_i xs
    cases hf : f xs os with
    | none => simp
    | some z => obtain ⟨o, ys⟩ := z; simp
@[simp] theorem r_eLM {f : LM} {rc : RM} {as : AM} {ok : St → O → Prop} : Run (eLM f rc as) st ok ex ↔ Run rc st (fun s l => (∃ xs, getL s l = some (.lst xs)) ∧ Run as s (fun s os => ∃ xs, getL s l = some (.lst xs) ∧ ∃ o ys, f xs os = some (o, ys) ∧ ok (setL s l (.lst ys)) o) ex) ex := by
  unfold eLM; simp only [r_bnd, r_isL, r_runL]
theorem r_isDk {l : Lo} {ok : St → Unit → Prop} : Run (isDk l) st ok ex ↔ (∃ xs, getL st l = some (.dct false xs)) ∧ ok st () := by
  simp only [run_iff]
  unfold RunAt isDk
  cases h : getL st l with
  | none => simp
  | some o =>
    cases o <;> simp
    rename_i t _
    cases t <;> simp
theorem r_runD {f : DM} {l : Lo} {os : List O} {ok : St → O → Prop} : Run (runD f l os) st ok ex ↔ ∃ kvs, getL st l = some (.dct false kvs) ∧ ∃ is, allImD kvs = some is ∧ ∃ o js, f is os = some (o, js) ∧ ok (setL st l (dO js)) o := by
  simp only [run_iff]
  unfold RunAt runD
  cases h : getL st l with
  | none => simp
  | some o =>
    cases o <;> simp
    rename_i t xs
    cases t <;> simp
    cases hx : allImD xs with
    | none => simp
    | some is =>
      cases hf : f is os with
      | none => simp [hf]
      | some z => obtain ⟨o, ys⟩ := z; simp [hf]
@[simp] theorem r_eDM {f : DM} {rc : RM} {as : AM} {ok : St → O → Prop} : Run (eDM f rc as) st ok ex ↔ Run rc st (fun s l => (∃ xs, getL s l = some (.dct false xs)) ∧ Run as s (fun s os => ∃ kvs, getL s l = some (.dct false kvs) ∧ ∃ is, allImD kvs = some is ∧ ∃ o js, f is os = some (o, js) ∧ ok (setL s l (dO js)) o) ex) ex := by
  unfold eDM; simp only [r_bnd, r_isDk, r_runD]
@[simp] theorem r_eDct {t : Bool} {ok : St → O → Prop} : Run (eDct t) st ok ex ↔ ok st (.dct t []) := by
  unfold eDct; exact r_ret
theorem r_putDk {l : Lo} {o j : O} {ok : St → Unit → Prop} : Run (putDk l o j) st ok ex ↔ ∃ t kvs, getL st l = some (.dct t kvs) ∧ ∃ i, o = .im i ∧ ∃ key, j = .im key ∧ ∃ is, allImD kvs = some is ∧ ∃ k, dkOf t key = some k ∧ is.length < sizeLine ∧ ok (setL st l (.dct t ((putI is k i).map fun q => (q.1, O.im q.2)))) () := by
  simp only [run_iff]
  unfold RunAt putDk
  cases h : getL st l with
  | none => simp
  | some x =>
    cases x <;> simp
    rename_i t xs
    cases o <;> simp
    cases j <;> simp
    rename_i key
    cases hx : allImD xs with
    | none => simp
    | some is =>
      cases hk : dkOf t key with
      | none => simp
      | some k =>
        by_cases hz : is.length < sizeLine <;> simp [hz]
@[simp] theorem r_sPutD {rc : RM} {ix m : EM} {ok : St → VS.Fl → Prop} : Run (sPutD rc ix m) st ok ex ↔ Run m st (fun s o => Run rc s (fun s l => Run ix s (fun s j => Run (putDk l o j) s (fun s _ => ok s .nx) ex) ex) ex) ex := by
  unfold sPutD; simp only [r_bnd, r_ret]
@[simp] theorem r_sAug {f : List I → Option O} {m : EM} {ok : St → VS.Fl → Prop} : Run (sAug k f m) st ok ex ↔ Run (bo k) st (fun s x => Run m s (fun s o => Run (rd f [x, .o o]) s (fun s z => Run (put k z) s (fun s _ => ok s .nx) ex) ex) ex) ex := by
  unfold sAug; simp only [r_bnd, r_ret]
theorem r_put2 {os : List O} {ok : St → Unit → Prop} : Run (put2 i j os) st ok ex ↔ ∃ x y, os = [x, y] ∧ Run (put i x) st (fun s _ => Run (put j y) s ok ex) ex := by
  unfold put2
  split
  · rename_i x y
    rw [r_bnd]
    constructor
    · intro h; exact ⟨x, y, rfl, h⟩
    · rintro ⟨_, _, e, h⟩; cases e; exact h
  · rename_i h
    simp only [r_none, false_iff, not_exists, not_and]
    intro x y e
    exact absurd e (h x y)
@[simp] theorem r_sPar {a : AM} {ok : St → VS.Fl → Prop} : Run (sPar i j a) st ok ex ↔ Run a st (fun s os => ∃ x y, os = [x, y] ∧ Run (put i x) s (fun s _ => Run (put j y) s (fun s _ => ok s .nx) ex) ex) ex := by
  unfold sPar; simp only [r_bnd, r_put2, r_ret]
@[simp] theorem r_putL0 {ok : St → Unit → Prop} : Run (putL [] []) st ok ex ↔ ok st () := by
  unfold putL; exact r_ret
@[simp] theorem r_putL1 {ks : List Nat} {x : I} {is : List I} {ok : St → Unit → Prop} : Run (putL (k :: ks) (x :: is)) st ok ex ↔ Run (put k (.im x)) st (fun s _ => Run (putL ks is) s ok ex) ex := by
  rw [putL]; exact r_bnd
theorem r_unp {ks : List Nat} {o : O} {ok : St → Unit → Prop} : Run (unp ks o) st ok ex ↔ ∃ l, tupOf o = some l ∧ Run (putL ks l) st ok ex := by
  simp only [run_iff]
  unfold RunAt unp
  cases h : tupOf o with
  | none => simp
  | some l => simp
@[simp] theorem r_sUnp {ks : List Nat} {m : EM} {ok : St → VS.Fl → Prop} : Run (sUnp ks m) st ok ex ↔ Run m st (fun s o => ∃ l, tupOf o = some l ∧ Run (putL ks l) s (fun s _ => ok s .nx) ex) ex := by
  unfold sUnp; simp only [r_bnd, r_unp, r_ret]
@[simp] theorem r_tp {l : List Tg} {is : List I} {ok : St → Unit → Prop} : Run (putT (.tp l) (.tup is)) st ok ex ↔ Run (putTL l is) st ok ex := by
  rw [putT]
@[simp] theorem r_putTL0 {ok : St → Unit → Prop} : Run (putTL [] []) st ok ex ↔ ok st () := by
  unfold putTL; exact r_ret
@[simp] theorem r_putTL1 {T : Tg} {ts : List Tg} {x : I} {is : List I} {ok : St → Unit → Prop} : Run (putTL (T :: ts) (x :: is)) st ok ex ↔ Run (putT T x) st (fun s _ => Run (putTL ts is) s ok ex) ex := by
  rw [putTL]; exact r_bnd
theorem r_box {o : O} {ok : St → O → Prop} : Run (box o) ⟨sl, sto⟩ ok ex ↔ rootB o = true ∧ ok ⟨sl, sto ++ [o]⟩ (.im (.ref sto.length)) := by
  simp only [run_iff]
  unfold RunAt box
  by_cases h : rootB o = true <;> simp [h]
@[simp] theorem r_eNew {m : EM} {ok : St → O → Prop} : Run (eNew m) st ok ex ↔ Run m st (fun s o => Run (box o) s ok ex) ex := by
  unfold eNew; exact r_bnd
@[simp] theorem resL_nil {st : St} : resL st [] = some [] := rfl
@[simp] theorem resL_o {st : St} {x : O} {r : List Op} : resL st (.o x :: r) = (resL st r).map (x :: ·) := by
  show (match some x, resL st r with | some o, some os => some (o :: os) | _, _ => none) = _
  cases resL st r <;> rfl
@[simp] theorem resL_b {r : List Op} : resL ⟨sl, sto⟩ (.b k :: r) = (sl[k]?).bind fun o => if isH o then none else (resL ⟨sl, sto⟩ r).map (o :: ·) := by
  show (match (match sl[k]? with | some o => if isH o then none else some o | none => none), resL ⟨sl, sto⟩ r with | some o, some os => some (o :: os) | _, _ => none) = _
  generalize resL ⟨sl, sto⟩ r = z
  cases sl[k]? with
  | none => cases z <;> rfl
  | some o =>
    by_cases hh : isH o = true
    · simp only [hh, Option.bind_some, if_true]
    · simp only [hh, Option.bind_some]; cases z <;> rfl
@[simp] theorem bks_nil : bks [] = [] := rfl
@[simp] theorem bks_o {x : O} {r : List Op} : bks (.o x :: r) = bks r := rfl
@[simp] theorem bks_b {r : List Op} : bks (.b k :: r) = k :: bks r := rfl
@[simp] theorem back_nil {io : List Nat} {fi : List O} : back io i sl [] fi = some sl := by unfold back; rfl
@[simp] theorem back_o {io : List Nat} {x f : O} {r : List Op} {fi : List O} : back io i sl (.o x :: r) (f :: fi) = back io (i + 1) sl r fi := by rw [back]
@[simp] theorem back_b {io : List Nat} {f : O} {r : List Op} {fi : List O} : back io i sl (.b k :: r) (f :: fi) = if i ∈ io ∧ isH f = false then back io (i + 1) (sl.set k f) r fi else none := by rw [back]
@[simp] theorem x_app {xs : List O} {x : O} {P : O → List O → Prop} : (∃ o ys, lAppend xs [x] = some (o, ys) ∧ P o ys) ↔ xs.length < sizeLine ∧ P (.im .non) (xs ++ [x]) := by
  show (∃ o ys, (if xs.length < sizeLine then some (O.im I.non, xs ++ [x]) else none) = some (o, ys) ∧ P o ys) ↔ _
  by_cases h : xs.length < sizeLine
  · simp [h]
  · simp [h]
@[simp] theorem x_pop {xs : List O} {P : O → List O → Prop} : (∃ o ys, lPop xs [] = some (o, ys) ∧ P o ys) ↔ ∃ x, xs.getLast? = some x ∧ P x xs.dropLast := by
  show (∃ o ys, (match xs.getLast? with | some o => some (o, xs.dropLast) | none => none) = some (o, ys) ∧ P o ys) ↔ _
  cases h : xs.getLast? <;> simp
@[simp] theorem x_clear {xs : List O} {P : O → List O → Prop} : (∃ o ys, lClear xs [] = some (o, ys) ∧ P o ys) ↔ P (.im .non) [] := by
  show (∃ o ys, some (O.im I.non, ([] : List O)) = some (o, ys) ∧ P o ys) ↔ _
  constructor
  · rintro ⟨o, ys, e, h⟩; cases e; exact h
  · intro h; exact ⟨_, _, rfl, h⟩
@[simp] theorem x_extI {xs : List O} {l : List I} {P : O → List O → Prop} : (∃ o ys, lExtend xs [.im (.lst l)] = some (o, ys) ∧ P o ys) ↔ xs.length + l.length ≤ sizeLine ∧ P (.im .non) (xs ++ l.map .im) := by
  show (∃ o ys, (if xs.length + l.length ≤ sizeLine then some (O.im I.non, xs ++ l.map O.im) else none) = some (o, ys) ∧ P o ys) ↔ _
  by_cases h : xs.length + l.length ≤ sizeLine
  · simp [h]
  · simp [h]
@[simp] theorem x_extO {xs l : List O} {P : O → List O → Prop} : (∃ o ys, lExtend xs [.lst l] = some (o, ys) ∧ P o ys) ↔ xs.length + l.length ≤ sizeLine ∧ P (.im .non) (xs ++ l) := by
  show (∃ o ys, (if xs.length + l.length ≤ sizeLine then some (O.im I.non, xs ++ l) else none) = some (o, ys) ∧ P o ys) ↔ _
  by_cases h : xs.length + l.length ≤ sizeLine
  · simp [h]
  · simp [h]
@[simp] theorem x_upd {is more : List (DK × I)} {P : O → List (DK × I) → Prop} : (∃ o js, dUpdate is [.im (.dct false more)] = some (o, js) ∧ P o js) ↔ is.length + more.length ≤ sizeLine ∧ P (.im .non) (more.foldl (fun a q => putI a q.1 q.2) is) := by
  show (∃ o js, (if is.length + more.length ≤ sizeLine then some (O.im I.non, more.foldl (fun a q => putI a q.1 q.2) is) else none) = some (o, js) ∧ P o js) ↔ _
  by_cases h : is.length + more.length ≤ sizeLine
  · simp [h]
  · simp [h]
theorem eqB_i {neg : Bool} {i j : Int} : fEqB neg [.int i, .int j] = some (.im (.bl (if neg then !decide (i = j) else decide (i = j)))) := by
  show (if (true && true && decide (min 0 0 ≤ 120)) = true then some (O.im (I.bl (if neg then !(i == j) else (i == j)))) else none) = _
  rfl
@[simp] theorem s_eqi {i j : Int} : fEq [.int i, .int j] = some (.im (.bl (decide (i = j)))) := eqB_i
@[simp] theorem s_nei {i j : Int} : fNe [.int i, .int j] = some (.im (.bl (!decide (i = j)))) := eqB_i
@[simp] theorem s_eqs {x y : Str} : fEq [.str x, .str y] = some (.im (.bl (decide (x = y)))) := rfl
@[simp] theorem s_nes {x y : Str} : fNe [.str x, .str y] = some (.im (.bl (!decide (x = y)))) := rfl
@[simp] theorem mkT0 : mkTup [] = some (.im (.tup [])) := by simp [mkTup]
@[simp] theorem mkT1 {a : I} : mkTup [.im a] = some (.im (.tup [a])) := by simp [mkTup, sizeLine_eq]
@[simp] theorem mkT2 {a b : I} : mkTup [.im a, .im b] = some (.im (.tup [a, b])) := by simp [mkTup, sizeLine_eq]
@[simp] theorem mkT3 {a b c : I} : mkTup [.im a, .im b, .im c] = some (.im (.tup [a, b, c])) := by simp [mkTup, sizeLine_eq]
@[simp] theorem mkT4 {a b c d : I} : mkTup [.im a, .im b, .im c, .im d] = some (.im (.tup [a, b, c, d])) := by simp [mkTup, sizeLine_eq]
@[simp] theorem mkT5 {a b c d e : I} : mkTup [.im a, .im b, .im c, .im d, .im e] = some (.im (.tup [a, b, c, d, e])) := by simp [mkTup, sizeLine_eq]
@[simp] theorem s_tupl {l : List I} : fTuple [.lst l] = some (.im (.tup l)) := rfl
@[simp] theorem s_tupt {l : List I} : fTuple [.tup l] = some (.im (.tup l)) := rfl
@[simp] theorem s_lstl {l : List I} : fList [.lst l] = some (.lst (l.map .im)) := rfl
@[simp] theorem s_lstt {l : List I} : fList [.tup l] = some (.lst (l.map .im)) := rfl
@[simp] theorem flL_nil {st : St} : flL st [] = some [] := rfl
theorem flL_cons {st : St} {x : Op} {r : List Op} : flL st (x :: r) = match fl st x, flL st r with
    | some i, some is => some (i :: is)
    | _, _ => none := rfl
@[simp] theorem allIm_comp {α : Type} {f : α → I} (l : List α) : allIm (l.map (O.im ∘ f)) = some (l.map f) := by
  rw [← List.map_map]; exact allIm_map _
@[simp] theorem allIm_fun {α : Type} {f : α → I} (l : List α) : allIm (l.map fun x => O.im (f x)) = some (l.map f) := allIm_comp l
theorem fzbL_comp {α : Type} {f : α → I} (l : List α) : fzbL (l.map (O.im ∘ f)) = true := by
  rw [← List.map_map]; exact fzbL_im _
theorem frzL_comp {α : Type} {f : α → I} (l : List α) : frzL (l.map (O.im ∘ f)) = l.map f := by
  rw [← List.map_map]; exact frzL_im _
@[simp] theorem fzbL_fun {α : Type} {f : α → I} (l : List α) : fzbL (l.map fun x => O.im (f x)) = true := fzbL_comp l
@[simp] theorem frzL_fun {α : Type} {f : α → I} (l : List α) : frzL (l.map fun x => O.im (f x)) = l.map f := frzL_comp l
@[simp] theorem s_inK {neg : Bool} {ls : List I} {x : I} : fInK neg ls [x] = (inL x ls).map fun b => .im (.bl (if neg then !b else b)) := rfl
/-- while: n falls in each turn -/
theorem r_while {t : BM} {b : SM} {ok : St → VS.Fl → Prop} (Inv : Nat → St → Prop) {n : Nat} {st : St} (h0 : Inv n st) (hs : ∀ n s, Inv n s → Run t s (fun s c => (c = false → ok s .nx) ∧ (c = true → Run b s (fun s f => match f with
    | .nx => ∃ m, m < n ∧ Inv m s
    | .ct => ∃ m, m < n ∧ Inv m s
    | .bk => ok s .nx
    | .rt o => ok s (.rt o)) ex)) ex) : Run (sWhile t b) st ok ex := by
  have key : ∀ (n : Nat) (st : St), Inv n st → ∃ N r, whN t b N st = some r ∧ match r with | (.ok a, s) => ok s a | (.ex c i, s) => ex s c i := by
    intro n
    induction n using Nat.strongRecOn with
    | ind n ih =>
      intro st hi
      have h := hs n st hi
      rw [run_iff] at h
      unfold RunAt at h
      cases ht : t st with
      | none => simp [ht] at h
      | some z =>
        obtain ⟨z, s1⟩ := z
        rw [ht] at h
        cases z with
        | ex c i =>
          refine ⟨1, (.ex c i, s1), ?_, h⟩
          unfold whN bnd; rw [ht]
        | ok c =>
          cases c with
          | false =>
            refine ⟨1, (.ok .nx, s1), ?_, h.1 rfl⟩
            unfold whN bnd; rw [ht]; rfl
          | true =>
            have h2 := h.2 rfl
            rw [run_iff] at h2
            unfold RunAt at h2
            cases hb : b s1 with
            | none => simp [hb] at h2
            | some z =>
              obtain ⟨z, s2⟩ := z
              rw [hb] at h2
              have step : ∀ {N r}, (∃ m, m < n ∧ Inv m s2) → (∀ m, m < n → Inv m s2 → whN t b N s2 = some r → True) → True := fun _ _ => trivial
              cases z with
              | ex c i =>
                refine ⟨1, (.ex c i, s2), ?_, h2⟩
                unfold whN bnd; rw [ht]; simp only [if_true, hb]
              | ok f =>
                cases f with
                | nx =>
                  obtain ⟨m, hm, hi2⟩ := h2
                  obtain ⟨N, r, e, q⟩ := ih m hm s2 hi2
                  refine ⟨N + 1, r, ?_, q⟩
                  unfold whN bnd; rw [ht]; simp only [if_true, hb]; exact e
                | ct =>
                  obtain ⟨m, hm, hi2⟩ := h2
                  obtain ⟨N, r, e, q⟩ := ih m hm s2 hi2
                  refine ⟨N + 1, r, ?_, q⟩
                  unfold whN bnd; rw [ht]; simp only [if_true, hb]; exact e
                | bk =>
                  refine ⟨1, (.ok .nx, s2), ?_, h2⟩
                  unfold whN bnd; rw [ht]; simp only [if_true, hb]; rfl
                | rt o =>
                  refine ⟨1, (.ok (.rt o), s2), ?_, h2⟩
                  unfold whN bnd; rw [ht]; simp only [if_true, hb]; rfl
  obtain ⟨N, r, e, q⟩ := key n st h0
  rw [run_iff]
  unfold RunAt
  rw [while_eq e]
  obtain ⟨z, s⟩ := r
  cases z <;> exact q
@[simp] theorem r_eDc {own : List Nat} {src : IM} {T : Tg} {t : BM} {ek e : EM} {ok : St → O → Prop} : Run (eDc own src T t ek e) st ok ex ↔ Run src st (fun s is => Run (blkM own (dcL own T t ek e is []) fun acc => dO acc) s ok ex) ex := by
  unfold eDc; exact r_bnd
theorem r_dcL {own : List Nat} {T : Tg} {t : BM} {ek e : EM} {ok : St → List (DK × I) → Prop} (Inv : List I → List (DK × I) → St → Prop) : ∀ {is : List I} {acc : List (DK × I)} {st : St}, Inv is acc st → (∀ i r acc s, i ∈ is → Inv (i :: r) acc s → Run (putT T i) ⟨wip s.sl own, s.sto⟩ (fun s _ => Run t s (fun s c =>
      (c = true → Run ek s (fun s x => Run e s (fun s o => ∃ j y k, x = .im j ∧ o = .im y ∧ dkOf false j = some k ∧ acc.length < sizeLine ∧ Inv r (putI acc k y) s) ex) ex) ∧ (c = false → Inv r acc s)) ex) ex) → (∀ acc s, Inv [] acc s → ok s acc) → Run (dcL own T t ek e is acc) st ok ex
  | [], acc, st, h0, _, hd => by unfold dcL; exact r_ret.mpr (hd acc st h0)
  | i :: is, acc, st, h0, hs, hd => by
    unfold dcL
    simp only [r_bnd]
    have w : ∀ {okw : St → Unit → Prop}, okw ⟨wip st.sl own, st.sto⟩ () → Run (wipM own) st okw ex := fun h => by rw [run_iff]; exact h
    refine w ?_
    refine Run.imp (hs i is acc st List.mem_cons_self h0) (fun s _ h => Run.imp h (fun s c h => ?_) fun _ _ _ h => h) fun _ _ _ h => h
    have next : ∀ acc s, Inv is acc s → Run (dcL own T t ek e is acc) s ok ex := fun acc s h => r_dcL Inv h (fun i r acc s hi => hs i r acc s (List.mem_cons_of_mem _ hi)) hd
    cases c with
    | false => simpa using next acc s (h.2 rfl)
    | true =>
      simp only [if_true, r_bnd]
      refine Run.imp (h.1 rfl) (fun s x h => Run.imp h (fun s o h => ?_) fun _ _ _ h => h) fun _ _ _ h => h
      obtain ⟨j, y, k, rfl, rfl, hk, hz, hI⟩ := h
      unfold putC
      simp only [hk, hz, if_true, r_ret]
      exact next _ s hI
/-- a dict comprehension whose test, key and value change nothing -/
theorem dc_pure {own : List Nat} {T : Tg} {t : BM} {ek e : EM} {is : List I} {ok : St → O → Prop} (p : I → Bool) (kf : I → DK) (vf : I → I) (him : imAt own sl = true) (hl : is.length ≤ sizeLine)
    (h : ∀ i ∈ is, Run (putT T i) ⟨wip sl own, sto⟩ (fun s _ => Run t s (fun s c => c = p i ∧ (p i = true → Run ek s (fun s x => Run e s (fun s o => ∃ j, x = .im j ∧ dkOf false j = some (kf i) ∧ o = .im (vf i) ∧ wip s.sl own = wip sl own ∧ s.sto = sto) fun _ _ _ => False) fun _ _ _ => False) ∧
      (p i = false → wip s.sl own = wip sl own ∧ s.sto = sto)) fun _ _ _ => False) fun _ _ _ => False)
    (hok : ok ⟨sl, sto⟩ (dO ((is.filter p).foldl (fun a i => putI a (kf i) (vf i)) []))) : Run (blkM own (dcL own T t ek e is []) fun acc => dO acc) ⟨sl, sto⟩ ok ex := by
  have putI_len : ∀ (a : List (DK × I)) k i, (putI a k i).length ≤ a.length + 1 := fun a k i => by
    unfold putI; split <;> simp
  rw [r_blk]
  refine ⟨him, ?_⟩
  refine r_dcL (fun r acc s => ∃ pre, is = pre ++ r ∧ acc.length ≤ pre.length ∧ acc = (pre.filter p).foldl (fun a i => putI a (kf i) (vf i)) [] ∧ wip s.sl own = wip sl own ∧ s.sto = sto) ⟨[], rfl, Nat.le_refl _, rfl, rfl, rfl⟩ ?_ ?_
  · rintro i r acc s hi ⟨pre, e1, e2, rfl, e3, e4⟩
    rw [e3, e4]
    have h2 := congrArg List.length e1
    simp only [List.length_append, List.length_cons] at h2
    refine Run.imp (h i hi) (fun s1 _ h1 => Run.imp h1 (fun s2 c h2' => ?_) fun _ _ _ z => z.elim) fun _ _ _ z => z.elim
    obtain ⟨rfl, h3, h4⟩ := h2'
    refine ⟨fun hc => Run.imp (h3 hc) (fun s3 x h5 => Run.imp h5 (fun s4 o h5 => ?_) fun _ _ _ z => z.elim) fun _ _ _ z => z.elim, fun hc => ?_⟩
    · obtain ⟨j, rfl, hk, rfl, h6, h7⟩ := h5
      refine ⟨j, _, _, rfl, rfl, hk, by omega, pre ++ [i], by rw [e1]; simp, ?_, by simp [List.filter_append, hc], h6, h7⟩
      have := putI_len ((pre.filter p).foldl (fun a i => putI a (kf i) (vf i)) []) (kf i) (vf i)
      simp only [List.length_append, List.length_cons, List.length_nil]
      omega
    · exact ⟨pre ++ [i], by rw [e1]; simp, by simp; omega, by simp [List.filter_append, hc], h4 hc⟩
  · rintro acc s ⟨pre, e1, _, rfl, e3, e4⟩
    rw [List.append_nil] at e1
    subst e1
    rw [resto_wip e3, e4]
    exact hok
end
end VS

namespace VS
open PySem L2
section
variable {α β : Type} {st : VS.St} {sl sto : List O} {ex : VS.St → Nat → List I → Prop} {k : Nat}
@[simp] theorem flat_dct {t : Bool} {l : List (DK × O)} : flat (.dct t l) = (allImD l).map (.dct t) := rfl
@[simp] theorem fzbD_map : ∀ l : List (DK × I), fzbD (l.map fun q => (q.1, O.im q.2)) = true
  | [] => by rw [List.map_nil, fzbD]
  | a :: l => by
    rw [List.map_cons, fzbD, fzbD_map l]; rfl
@[simp] theorem frzD_map : ∀ l : List (DK × I), frzD (l.map fun q => (q.1, O.im q.2)) = l
  | [] => by rw [List.map_nil, frzD]
  | a :: l => by
    rw [List.map_cons, frzD, frzD_map l]; rfl
@[simp] theorem fzbL_im' (l : List I) : fzbL (l.map .im) = true := fzbL_im l
@[simp] theorem frzL_im' (l : List I) : frzL (l.map .im) = l := frzL_im l
@[simp] theorem fzbL_app : ∀ l m : List O, fzbL (l ++ m) = (fzbL l && fzbL m)
  | [], m => by simp
  | a :: l, m => by rw [List.cons_append, fzbL, fzbL, fzbL_app l m, Bool.and_assoc]
@[simp] theorem frzL_app : ∀ l m : List O, frzL (l ++ m) = frzL l ++ frzL m
  | [], m => by simp
  | a :: l, m => by rw [List.cons_append, frzL, frzL, frzL_app l m]; rfl
theorem map_cons_inv {f : α → I} {l : List α} {i : I} {r : List I} (h : l.map f = i :: r) : ∃ a l', l = a :: l' ∧ i = f a ∧ r = l'.map f := by
  cases l with
  | nil => cases h
  | cons a l => obtain ⟨rfl, rfl⟩ := List.cons.inj h; exact ⟨a, l, rfl, rfl, rfl⟩
/-- a comprehension over what a list's elements are, its test and element changing nothing -/
theorem lc_filtL {own : List Nat} {T : Tg} {t : BM} {e : EM} {f : α → I} {l : List α} {ok : VS.St → O → Prop} (p : α → Bool) (g : α → I) (him : imAt own sl = true) (hl : l.length ≤ sizeLine)
    (h : ∀ a ∈ l, Run (putT T (f a)) ⟨wip sl own, sto⟩ (fun s _ => Run t s (fun s c => c = p a ∧ (p a = true → Run e s (fun s o => o = .im (g a) ∧ wip s.sl own = wip sl own ∧ s.sto = sto) fun _ _ _ => False) ∧
      (p a = false → wip s.sl own = wip sl own ∧ s.sto = sto)) fun _ _ _ => False) fun _ _ _ => False)
    (hok : ok ⟨sl, sto⟩ (.lst (((l.filter p).map g).map .im))) : Run (blkM own (lcL own T t e (l.map f) []) .lst) ⟨sl, sto⟩ ok ex := by
  rw [r_blk]
  refine ⟨him, ?_⟩
  refine r_lcL (fun r acc s => ∃ pre suf, l = pre ++ suf ∧ r = suf.map f ∧ acc = ((pre.filter p).map g).map .im ∧ wip s.sl own = wip sl own ∧ s.sto = sto) ⟨[], l, rfl, rfl, rfl, rfl, rfl⟩ ?_ ?_
  · rintro i r acc s hi ⟨pre, suf, e1, e2, rfl, e3, e4⟩
    obtain ⟨a, suf, rfl, rfl, rfl⟩ := map_cons_inv e2.symm
    rw [e3, e4]
    have hlen : (((pre.filter p).map g).map O.im).length < sizeLine := by
      have h1 := List.length_filter_le p pre
      have h2 := congrArg List.length e1
      simp only [List.length_append, List.length_cons] at h2
      rw [List.length_map, List.length_map]
      omega
    refine Run.imp (h a (by rw [e1]; simp)) (fun s1 _ h1 => Run.imp h1 (fun s2 c h2 => ?_) fun _ _ _ z => z.elim) fun _ _ _ z => z.elim
    obtain ⟨rfl, h3, h4⟩ := h2
    refine ⟨fun hc => Run.imp (h3 hc) (fun s3 o h5 => ?_) fun _ _ _ z => z.elim, fun hc => ?_⟩
    · obtain ⟨rfl, h6, h7⟩ := h5
      exact ⟨hlen, pre ++ [a], suf, by rw [e1]; simp, rfl, by simp [List.filter_append, hc], h6, h7⟩
    · obtain ⟨h6, h7⟩ := h4 hc
      exact ⟨pre ++ [a], suf, by rw [e1]; simp, rfl, by simp [List.filter_append, hc], h6, h7⟩
  · rintro acc s ⟨pre, suf, e1, e2, rfl, e3, e4⟩
    have : suf = [] := List.map_eq_nil_iff.mp e2.symm
    subst this
    rw [List.append_nil] at e1
    subst e1
    rw [resto_wip e3, e4]
    exact hok
theorem lc_mapL {own : List Nat} {T : Tg} {e : EM} {f : α → I} {l : List α} {ok : VS.St → O → Prop} (g : α → I) (him : imAt own sl = true) (hl : l.length ≤ sizeLine)
    (h : ∀ a ∈ l, Run (putT T (f a)) ⟨wip sl own, sto⟩ (fun s _ => Run e s (fun s o => o = .im (g a) ∧ wip s.sl own = wip sl own ∧ s.sto = sto) fun _ _ _ => False) fun _ _ _ => False)
    (hok : ok ⟨sl, sto⟩ (.lst ((l.map g).map .im))) : Run (blkM own (lcL own T bYes e (l.map f) []) .lst) ⟨sl, sto⟩ ok ex := by
  refine lc_filtL (fun _ => true) g him hl (fun a ha => Run.imp (h a ha) (fun s _ h => ?_) fun _ _ _ z => z) ?_
  · exact r_bYes.mpr ⟨rfl, fun _ => h, fun z => by cases z⟩
  · have e : l.filter (fun _ => true) = l := List.filter_eq_self.mpr fun _ _ => rfl
    rw [e]; exact hok
/-- the same of dict comprehensions -/
theorem dc_filtL {own : List Nat} {T : Tg} {t : BM} {ek e : EM} {f : α → I} {l : List α} {ok : VS.St → O → Prop} (p : α → Bool) (kf : α → DK) (vf : α → I) (him : imAt own sl = true) (hl : l.length ≤ sizeLine)
    (h : ∀ a ∈ l, Run (putT T (f a)) ⟨wip sl own, sto⟩ (fun s _ => Run t s (fun s c => c = p a ∧ (p a = true → Run ek s (fun s x => Run e s (fun s o => ∃ j, x = .im j ∧ dkOf false j = some (kf a) ∧ o = .im (vf a) ∧ wip s.sl own = wip sl own ∧ s.sto = sto) fun _ _ _ => False) fun _ _ _ => False) ∧
      (p a = false → wip s.sl own = wip sl own ∧ s.sto = sto)) fun _ _ _ => False) fun _ _ _ => False)
    (hok : ok ⟨sl, sto⟩ (dO ((l.filter p).foldl (fun z a => putI z (kf a) (vf a)) []))) : Run (blkM own (dcL own T t ek e (l.map f) []) fun acc => dO acc) ⟨sl, sto⟩ ok ex := by
  have putI_len : ∀ (a : List (DK × I)) k i, (putI a k i).length ≤ a.length + 1 := fun a k i => by
    unfold putI; split <;> simp
  rw [r_blk]
  refine ⟨him, ?_⟩
  refine r_dcL (fun r acc s => ∃ pre suf, l = pre ++ suf ∧ r = suf.map f ∧ acc.length ≤ pre.length ∧ acc = (pre.filter p).foldl (fun z a => putI z (kf a) (vf a)) [] ∧ wip s.sl own = wip sl own ∧ s.sto = sto) ⟨[], l, rfl, rfl, Nat.le_refl _, rfl, rfl, rfl⟩ ?_ ?_
  · rintro i r acc s hi ⟨pre, suf, e1, e0, e2, rfl, e3, e4⟩
    obtain ⟨a, suf, rfl, rfl, rfl⟩ := map_cons_inv e0.symm
    rw [e3, e4]
    have h2 := congrArg List.length e1
    simp only [List.length_append, List.length_cons] at h2
    refine Run.imp (h a (by rw [e1]; simp)) (fun s1 _ h1 => Run.imp h1 (fun s2 c h2' => ?_) fun _ _ _ z => z.elim) fun _ _ _ z => z.elim
    obtain ⟨rfl, h3, h4⟩ := h2'
    refine ⟨fun hc => Run.imp (h3 hc) (fun s3 x h5 => Run.imp h5 (fun s4 o h5 => ?_) fun _ _ _ z => z.elim) fun _ _ _ z => z.elim, fun hc => ?_⟩
    · obtain ⟨j, rfl, hk, rfl, h6, h7⟩ := h5
      refine ⟨j, _, _, rfl, rfl, hk, by omega, pre ++ [a], suf, by rw [e1]; simp, rfl, ?_, by simp [List.filter_append, hc], h6, h7⟩
      have := putI_len ((pre.filter p).foldl (fun z a => putI z (kf a) (vf a)) []) (kf a) (vf a)
      simp only [List.length_append, List.length_cons, List.length_nil]
      omega
    · obtain ⟨h6, h7⟩ := h4 hc
      exact ⟨pre ++ [a], suf, by rw [e1]; simp, rfl, by simp; omega, by simp [List.filter_append, hc], h6, h7⟩
  · rintro acc s ⟨pre, suf, e1, e0, _, rfl, e3, e4⟩
    have : suf = [] := List.map_eq_nil_iff.mp e0.symm
    subst this
    rw [List.append_nil] at e1
    subst e1
    rw [resto_wip e3, e4]
    exact hok
theorem dc_mapL {own : List Nat} {T : Tg} {ek e : EM} {f : α → I} {l : List α} {ok : VS.St → O → Prop} (kf : α → DK) (vf : α → I) (him : imAt own sl = true) (hl : l.length ≤ sizeLine)
    (h : ∀ a ∈ l, Run (putT T (f a)) ⟨wip sl own, sto⟩ (fun s _ => Run ek s (fun s x => Run e s (fun s o => ∃ j, x = .im j ∧ dkOf false j = some (kf a) ∧ o = .im (vf a) ∧ wip s.sl own = wip sl own ∧ s.sto = sto) fun _ _ _ => False) fun _ _ _ => False) fun _ _ _ => False)
    (hok : ok ⟨sl, sto⟩ (dO (l.foldl (fun z a => putI z (kf a) (vf a)) []))) : Run (blkM own (dcL own T bYes ek e (l.map f) []) fun acc => dO acc) ⟨sl, sto⟩ ok ex := by
  refine dc_filtL (fun _ => true) kf vf him hl (fun a ha => Run.imp (h a ha) (fun s _ h => ?_) fun _ _ _ z => z) ?_
  · exact r_bYes.mpr ⟨rfl, fun _ => h, fun z => by cases z⟩
  · have e : l.filter (fun _ => true) = l := List.filter_eq_self.mpr fun _ _ => rfl
    rw [e]; exact hok
end
end VS

namespace VS
open PySem PySem.Spec PyProof.Rows L2
/-! ### NAME.get(e, f), NAME a dict of the module: keys texts, values literals -/
def lookS (kvs : List (Str × I)) (z : Str) : Option I := (kvs.find? fun q => q.1 == z).map Prod.snd
def fKGet (kvs : List (Str × I)) : List I → Option O
  | [.str s, d] => if litB d then some (.im ((lookS kvs s).getD d)) else none
  | _ => none
/-- the module's name c is such a dict -/
def KDic (K : PySem.W.Frag) (w : World) (mg : Str → Option Value) (c : Str) (kvs : List (Str × I)) : Prop := ∃ (p : Addr) (es : Array DictEntry) (k : Nat), mg c = some (.ref p) ∧ KDict K w p es k ∧
  ∀ z, match lookS kvs z with
    | some i => litB i = true ∧ ∃ u, PySem.W.nsIn K p z = some (some u) ∧ RelV (litV i) u
    | none => PySem.W.nsIn K p z = some none
/-! the world with a setting told -/
def setT (w : World) (b : Bool) : World := { w with params := { w.params with followText := fun s => if s == "special-get-raises" then b else w.params.followText s } }
theorem setT_eq (w : World) : w = setT w (w.params.followText "special-get-raises") := by
  have e : w.params.followText = fun s => if s == "special-get-raises" then w.params.followText "special-get-raises" else w.params.followText s := by
    funext s
    by_cases h : s = "special-get-raises"
    · subst h; simp
    · simp [h]
  unfold setT
  rw [← e]
/-! the look at the head -/
def keyT (e : DictEntry) : Option Str := match e.key with
  | .str s _ => some s
  | _ => none
def entB : List DictEntry → List (Str × I) → Bool
  | [], [] => true
  | e :: es, (k, i) :: r => (keyT e == some k) && (litB i && (He.relB (litV i) e.val && entB es r))
  | _, _ => false
def dicB (K : PySem.W.Frag) (x : Str) (kvs : List (Str × I)) : Bool := match K.lookup (He.ga K x) with
  | some ⟨_, _, .dict es _, _⟩ => entB es.toList kvs
  | _ => false
theorem keyT_isStr {e : DictEntry} {k z : Str} (h : keyT e = some k) : e.key.isStr z = (k == z) ∧ e.refKey = false := by
  unfold keyT at h
  unfold DictEntry.refKey
  cases hk : e.key with
  | str s t =>
    rw [hk] at h
    cases h
    exact ⟨rfl, rfl⟩
  | _ => rw [hk] at h; cases h
theorem ent_ok : ∀ {es : List DictEntry} {kvs : List (Str × I)} (z : Str), entB es kvs = true → (es.any (·.refKey)) = false ∧ match lookS kvs z with
    | some i => litB i = true ∧ ∃ e, es.find? (·.key.isStr z) = some e ∧ RelV (litV i) e.val
    | none => es.find? (·.key.isStr z) = none
  | [], [], z, _ => ⟨rfl, rfl⟩
  | e :: es, (k, i) :: r, z, h => by
    unfold entB at h
    obtain ⟨h1, h⟩ := Bool.and_eq_true_iff.mp h
    obtain ⟨h2, h⟩ := Bool.and_eq_true_iff.mp h
    obtain ⟨h3, h4⟩ := Bool.and_eq_true_iff.mp h
    have hk := keyT_isStr (z := z) (by simpa using h1)
    obtain ⟨i1, i2⟩ := ent_ok z h4
    refine ⟨by rw [List.any_cons, hk.2, i1]; rfl, ?_⟩
    unfold lookS
    rw [List.find?_cons, List.find?_cons]
    show (match ((match (k == z) with | true => some (k, i) | false => List.find? (fun q => q.1 == z) r).map Prod.snd) with | some i => _ | none => _)
    rw [hk.1]
    cases hz : k == z with
    | true => exact ⟨h2, e, rfl, He.relB_ok h3⟩
    | false => exact i2
  | [], _ :: _, _, h => by cases h
  | _ :: _, [], _, h => by cases h
theorem dic_ok {K : PySem.W.Frag} {w : World} {h : Heap} {mg : Str → Option Value} {c : Str} {kvs : List (Str × I)} (X : K.In h) (G : h.Ns mainGlobals mg) (c0 : (He.Fa.glo c).ok K = true) (T : ∃ es n, KDict K w (He.ga K c) es n) (b : dicB K c kvs = true) : KDic K w mg c kvs := by
  obtain ⟨es, n, D⟩ := T
  refine ⟨He.ga K c, es, n, He.glo_ok X G c0, D, fun z => ?_⟩
  unfold dicB at b
  rw [D.at_] at b
  have b : entB es.toList kvs = true := b
  obtain ⟨h1, h2⟩ := ent_ok z b
  unfold PySem.W.nsIn
  rw [D.at_]
  dsimp only
  cases hl : lookS kvs z with
  | some i =>
    rw [hl] at h2
    obtain ⟨a, e, he, r⟩ := h2
    rw [he]
    exact ⟨a, _, rfl, r⟩
  | none =>
    rw [hl] at h2
    rw [h2, h1]
    rfl
section
variable {n : Pn} {W : WX} {X : Cx} {P : Pg} {g : Gh} {H : Hp} {o e f : Expr} {apos cpos : Pos} {te tf : TE}
def tKGet (K : PySem.W.Frag) (p : Addr) (te tf : TE) : TE := fun σ H Q => te σ H fun y H1 => tf σ H1 fun z H2 => ∃ s r, y = .str s ∧ PySem.W.nsIn K p s = some r ∧ match r with
  | some u => ∃ v, RelV v u ∧ Q v H2
  | none => Q z H2
theorem pe_kget2 {p : Addr} {es : Array DictEntry} {k : Nat} (D : KDict X.K X.w p es k) (ho : PE X o (tC (.ref p))) (he : PE X e te) (hf : PE X f tf) (m : M2 X o "get" apos e f cpos) : PE X (.Call (.Attribute o "get" apos) [e, f] [] cpos) (tKGet X.K p te tf) := by
  refine ⟨fun pins s σ H Q I h => ?_⟩
  refine wpAny_Call_method m.base m.few m.line PySem.F.plainAttrs_dict PySem.F.slot_dict_get PySem.F.type_dict_get (thn (ho.run pins s σ H _ I (show tC (.ref p) σ H (fun x H1 => x = V.ref p ∧ tKGet X.K p te tf σ H1 Q) from ⟨rfl, h⟩)) fun u s1 ⟨x, H1, I1, rx, ex, q1⟩ => ?_)
  subst ex
  obtain rfl : u = Value.ref p := rx
  refine ⟨kd_type D I1, fun b q => ?_, ?_⟩
  · cases q
    exact ⟨_, I1.kIn _ _ D.at_, rfl⟩
  rw [m.trees]
  refine Calls.callWith_builtin rfl (Calls.evalArgs_plain (Calls.spliced_cons (thn (he.run pins s1 σ H1 _ I1 q1) fun iv s2 ⟨y, H2, I2, ry, q2⟩ =>
    Calls.spliced_cons (thn (hf.run pins s2 σ H2 _ I2 q2) fun fv s3 ⟨z, H3, I3, rz, s, r, ey, hr, q3⟩ => Calls.spliced_nil ?_))))
  subst ey
  obtain ⟨t, rfl⟩ := ry
  have hm := PySem.W.mapOf_K (prog := X.prog) (w := X.w) I3.kIn D.at_ D.lit
  refine call_meetsIn PySem.F.slot_dict_get hm.typeIs PySem.F.entry_dict_get (PySem.F.args_dict_get_3 _ _ _) (meets_dict_get_default (strKind X.prog X.w) p (strKind_is X.prog X.w s t) D.low fv) ⟨_, hm, ?_⟩
  have ef := PySem.W.find_K D.at_ hr
  rw [ef]
  cases r with
  | none => exact ⟨z, H3, I3.tok _, rz, q3⟩
  | some u =>
    obtain ⟨v, rv, q⟩ := q3
    exact ⟨v, H3, I3.tok _, rv, q⟩
theorem ev_kget {c : Str} {kvs : List (Str × I)} {fa fb : OM} {pc : Pos} (S : KDic X.K X.w X.mg c kvs) (ha : PE X e (OkO ⟨X.K, n⟩ W fa)) (hb : PE X f (OkO ⟨X.K, n⟩ W fb)) (m : M2 X (.Name c pc) "get" apos e f cpos := by exact ⟨rfl, rfl, rfl, rfl⟩) (hg : Gl X c := by rfl) (hd : (c == ("__debug__" : Str)) = false := by decide) :
    PE X (.Call (.Attribute (.Name c pc) "get" apos) [e, f] [] cpos) (OkE ⟨X.K, n⟩ W (op2 (fKGet kvs) fa fb)) := by
  obtain ⟨p, es, k, h1, D, hv⟩ := S
  refine PE.imp (pe_kget2 D (pe_glob hg h1 (v := V.ref p) rfl hd) ha hb m) fun σ H Q h => ?_
  obtain ⟨g, st, F, rs, q⟩ := go2 h
  refine ⟨g, st, F, rs, q.imp (fun s x k1 g1 H1 F1 v Fv p1 r1 => ?_) fun _ _ _ z => z⟩
  obtain ⟨g2, s2, F2, rs2, q2⟩ := k1 g1 H1 F1 v Fv p1 r1
  refine ⟨g2, s2, F2, rs2, q2.imp (fun s3 y k3 g3 H3 F3 v3 Fv3 p3 r3 => ?_) fun _ _ _ z => z⟩
  obtain ⟨g4, is, zd, hr, o', ho, q4⟩ := k3 g3 H3 F3 v3 Fv3 p3 r3
  unfold fKGet at ho
  split at ho
  · rename_i s d
    split at ho
    · rename_i hl
      cases ho
      obtain ⟨_, _, ev, w1, w2⟩ := hr.two
      cases ev
      cases w1.str_inv
      have hz := hv s
      cases hk : lookS kvs s with
      | some i =>
        rw [hk] at hz q4
        obtain ⟨a, u, e1, r⟩ := hz
        refine ⟨s, some u, rfl, e1, litV i, r, q4 _ _ _ _ (.same ?_)⟩
        have := lit_rep (P := ⟨X.K, n⟩) (g := g4) (H := H3) (ls := [i]) (by simp [a])
        cases this with | cons a _ => exact a
      | none =>
        rw [hk] at hz q4
        refine ⟨s, none, rfl, hz, ?_⟩
        have w2' : RepI ⟨X.K, n⟩ g4 H3 d v3 := by
          cases w2 with
          | im w => exact w
          | _ => cases hl
        exact q4 _ _ _ _ (.same w2')
    · cases ho
  · cases ho
end
end VS

namespace VS
open PySem PySem.Spec PyProof.Rows L2
section
variable {P : Program} {w : World} {A : Around} {E : Value → Shared → Prop} {s : Shared}
/-- set(tuple of texts) -/
theorem txs_newT {l : Addr} {items : Array Value} {xs : List Str} {Q : Value → Shared → Prop} (hh : A.handled = none) (hl : s.heap.IsTuple l items) (hi : StrsAre items.toList xs) (hb : (metS [] xs).length + 1 < scanBound)
    (h : ∀ (h' : Heap) (tk : Nat), TxS P w h' s.heap.objs.size (metS [] xs) → (∀ b o, b < s.heap.objs.size → s.heap.get? b = some o → h'.get? b = some o) → Q (.ref s.heap.objs.size) { s with heap := h', toks := tk }) :
    wpAny (model P w) A (call (.type "set") [.ref l]) Q E s := by
  refine set_call1 (T := fun h' => TxS P w h' s.heap.objs.size (metS [] xs)) ?_ h
  obtain ⟨⟨oc, od, odt, osl⟩, hol, hcl, nl, hdl⟩ := hl
  simp only at hcl hdl; subst hcl; subst hdl
  have hlS : l < s.heap.objs.size := Heap.lt_size hol
  have hl1 : (s.heap.push (newS w)).IsTuple l items := ⟨_, Heap.get?_push_of_some _ hol, rfl, nl, rfl⟩
  have hol' := Heap.get?_push_of_some (newS w) hol
  have z1 := PySem.F.sub_tuple_set
  have z2 := PySem.F.sub_tuple_frozenset
  have z3 : (Value.type "tuple" == Value.type "dict") = false := by decide
  unfold Builtin.«set.__init__»
  unfold noKeywords Builtin.Frozenset.updateFrom
  generalize hPI : pyIter = PI
  wp_walk
  subst hPI
  refine wpAny_pyIter_tuple hl1 ?_
  refine wpAny_bind (wpAny_runValue ?_)
  have hh3 : A.in1.in1.in1.handled = none := by simp [hh]
  have hz : (s.heap.push (newS w)).objs.size = s.heap.objs.size + 1 := by rw [Heap.size_push]
  have hneI : l ≠ (s.heap.push (newS w)).objs.size := by rw [hz]; exact Nat.ne_of_lt (Nat.lt_succ_of_lt hlS)
  have hSf : s.heap.objs.size ∉ [(s.heap.push (newS w)).objs.size, l] := by
    rw [hz]; simp only [List.mem_cons, List.not_mem_nil, or_false, not_or]
    exact ⟨Nat.ne_of_lt (Nat.lt_succ_self _), Nat.ne_of_gt hlS⟩
  have hsz : 0 + xs.length = items.size := by rw [Nat.zero_add, ← StrsAre.len_eq hi, Array.length_toList]
  refine txs_loop ((Walks.tuple hh3 _ l hneI items).toS) s.heap.objs.size hSf xs 0 [] _ hsz (fun j v e _ => strs_getD hi j v (by rw [Array.getElem?_toList]; exact e)) hb
    ⟨⟨_, Heap.get?_push_size _ rfl, rfl, rfl⟩, (hl1.push _)⟩ (txs_fresh.of fun o e => Heap.get?_push_of_some _ e) fun s' hm hS' => ?_
  obtain ⟨h', g', d', tk', os'⟩ := s'
  have eg : g' = s.gens := hm.gens
  have ed : d' = s.drawn := hm.drawn
  have eo : os' = s.os := hm.os
  subst eg; subst ed; subst eo
  show wpAny _ _ _ _ _ _
  refine wpAny_pure ?_
  show wpAny _ _ (PySem.ret Value.none) _ _ _
  refine wpAny_pure ⟨rfl, h', tk', rfl, hS', fun b o b_lt e => ?_⟩
  refine hm.heap b o ?_ (Heap.get?_push_of_some _ (Heap.get?_push_of_some _ e))
  rw [hz]; simp only [List.mem_cons, List.not_mem_nil, or_false, not_or]
  exact ⟨Nat.ne_of_lt b_lt, Nat.ne_of_lt (Nat.lt_succ_of_lt b_lt)⟩
end
end VS

namespace VS
open PySem PySem.Spec PyProof.Rows L2
/-! ### len(set(texts)) -/
def fLenSet : List I → Option O
  | [.lst l] => match strsOf l with
    | some ys => if ys.length < 4000 then some (.im (.int ((metS [] ys).length : Nat))) else none
    | none => none
  | [.tup l] => match strsOf l with
    | some ys => if ys.length < 4000 then some (.im (.int ((metS [] ys).length : Nat))) else none
    | none => none
  | _ => none
section
variable {X : Cx}
def rSetLT (X : Cx) : List V → Hp → VK → Prop := fun xs H Q => ∃ l, ∃ ys : List Str, xs = [.ref l] ∧ (SqL X.K H l (ys.map V.str) ∨ SqT X.K H l (ys.map V.str)) ∧ (metS [] ys).length + 1 < scanBound ∧ ∀ p, H p = none → Q (.ref p) (upd H p (TxO X.prog X.w p (metS [] ys)))
theorem cr_setLT (hc : X.calm = true) : CallR X (.type "set") (rSetLT X) := by
  intro pins s σ H xs us Q I r h
  obtain ⟨l, ys, rfl, hl, hb, q⟩ := h
  rcases hl with hl | hl
  · exact cr_setL hc pins s σ H _ us Q I r ⟨l, ys, rfl, hl, hb, q⟩
  · rw [Vals.ref1 r]
    obtain ⟨its, rv, ⟨o, h1, h2, k, h3⟩, hz⟩ := I.tuple hl
    refine txs_newT (items := its.toArray) (xs := ys) (I.ok.hd hc) ⟨o, h1, h2, k, h3⟩ (by simpa using strsAre_of rv) hb fun h' tk T k => ?_
    have k' : ∀ b o, s.heap.get? b = some o → h'.get? b = some o := fun b o e => k b o (Heap.lt_size e) e
    exact ⟨.ref _, _, I.laid (t' := tk) k' (Nat.le_refl _) T.new, rfl, q _ (I.hok.fresh (Nat.le_refl _))⟩
def rLenTx (X : Cx) : List V → Hp → VK → Prop := fun xs H Q => ∃ a l, xs = [.ref a] ∧ H a = some (TxO X.prog X.w a l) ∧ l.length < 4096 ∧ Q (.int (l.length : Nat)) H
theorem cr_lenTx : CallR X (.builtin "len") (rLenTx X) := by
  intro pins s σ H xs us Q I r h
  obtain ⟨a, l, rfl, ha, hz, q⟩ := h
  rw [Vals.ref1 r]
  have T : TxS X.prog X.w s.heap a l := (I.hok a _ ha).1
  obtain ⟨⟨es, ep, t⟩, ho, T⟩ := T
  have sz : es.size = l.length := T.ok.sz
  refine call_len_set ho ⟨rfl, rfl, rfl⟩ rfl T.ok.fit (by rw [sz]; omega) ⟨.int (l.length : Nat), H, I.tok _, ⟨_, by rw [sz]⟩, q⟩
end
section
variable {n : Pn} {W : WX} {X : Cx} {P : Pg} {g g' : Gh} {H H' : Hp} {σ : L2.St} {Fv : Fp} {pos : Pos}
theorem lenset_go {H : Hp} {v : V} {Q : VK} (h : RdOp ⟨X.K, n⟩ fLenSet [v] H Q) : rSetLT X [v] H fun u H1 => rLenTx X [u] H1 Q := by
  obtain ⟨g, is, zd, hr, o, ho, q⟩ := h
  have fin : ∀ {p : Addr} {ys : List Str}, (SqL X.K H p (ys.map V.str) ∨ SqT X.K H p (ys.map V.str)) → ys.length < 4000 → o = .im (.int ((metS [] ys).length : Nat)) → rSetLT X [.ref p] H fun u H1 => rLenTx X [u] H1 Q := fun {p ys} hp hz e => by
    subst e
    have hl := met_len ys []
    have hs : scanBound = 4096 := rfl
    refine ⟨p, ys, rfl, hp, by rw [hs]; simp at hl; omega, fun a ha => ⟨a, _, rfl, upd_same, by simp at hl; omega, ?_⟩⟩
    exact q _ _ _ _ (.after ha (.same (.int _)))
  unfold fLenSet at ho
  split at ho
  · obtain ⟨_, ev, h1⟩ := hr.one
    cases ev
    obtain ⟨p, vs, rfl, hp, r1⟩ := h1.lst_inv
    split at ho
    · rename_i ys hy
      split at ho
      · rename_i hz
        cases ho
        cases strsOf_V hy r1
        exact fin (.inl hp.sq) hz rfl
      · cases ho
    · cases ho
  · obtain ⟨_, ev, h1⟩ := hr.one
    cases ev
    obtain ⟨p, vs, rfl, hp, r1⟩ := h1.tup_inv
    split at ho
    · rename_i ys hy
      split at ho
      · rename_i hz
        cases ho
        cases strsOf_V hy r1
        exact fin (.inr hp) hz rfl
      · cases ho
    · cases ho
  · cases ho
theorem ev_lenset {a : Expr} {f : OM} {p1 p2 q : Pos} (hc : X.calm = true) (h1 : X.mg "len" = none) (h2 : X.mg "set" = none) (ha : PE X a (OkO ⟨X.K, n⟩ W f)) (hg : Gl X "len" := by rfl) (hg2 : Gl X "set" := by rfl)
    (he : starEach [.Call (.Name "set" p2) [a] [] q] X.env = (false, eval (.Call (.Name "set" p2) [a] [] q) X.env) :: starEach [] X.env := by rfl) (he2 : starEach [a] X.env = (false, eval a X.env) :: starEach [] X.env := by rfl)
    (hp : (backTo pos (starEach [] X.env)).any (·.1) = false := by rfl) (hp2 : (backTo q (starEach [] X.env)).any (·.1) = false := by rfl) :
    PE X (.Call (.Name "len" p1) [.Call (.Name "set" p2) [a] [] q] [] pos) (OkE ⟨X.K, n⟩ W (op1 fLenSet f)) := by
  refine PE.imp (pe_callB cr_lenTx hg h1 boot_len (pa_cons (pe_callTy (cr_setLT hc) hg2 h2 boot_set (pa_cons ha pa_nil he2) (by decide) (by decide) he2 hp2) pa_nil he) (by decide) (by decide) he hp) fun σ H Q h => ?_
  obtain ⟨g, st, F, rs, q⟩ := go1 h
  exact ⟨g, st, F, rs, q.imp (fun s x k1 g1 H1 F1 v Fv p rx => lenset_go (k1 g1 H1 F1 v Fv p rx)) fun _ _ _ z => z⟩
end
end VS

namespace VS
open PySem PySem.Spec PyProof.Rows L2
/-! ### a, b, .. = a tuple or a list -/
def seqOf : O → Option (List I)
  | .im (.tup l) => some l
  | .im (.lst l) => some l
  | .tup l => allIm l
  | .lst l => allIm l
  | _ => none
def unpS (ks : List Nat) (o : O) : M Unit := fun st => match seqOf o with
  | some l => putL ks l st
  | none => none
def sUnpS (ks : List Nat) (m : EM) : SM := bnd m fun o => bnd (unpS ks o) fun _ => ret .nx
def gSeq (K : PySem.W.Frag) (n : Nat) (t : TGs) : TG := fun v σ H Q => ∃ a xs, v = .ref a ∧ (SqT K H a xs ∨ SqL K H a xs) ∧ xs.length = n ∧ t xs σ H Q
theorem pg_seq {X : Cx} {pos : Pos} {es : List Expr} {k : Nat} {t : TGs} {n : Nat} (hc : X.calm = true) (h : PGs X es t)
    (hn : (assignEach es X.env).length = n := by rfl) (hst : (assignEach es X.env).findIdx? (·.1) = none := by rfl) : PG X (.Tuple es k pos) (gSeq X.K n t) := by
  refine ⟨fun pins s σ H v u Q I r hw => ?_⟩
  obtain ⟨a, xs, e1, hq, hl, hw⟩ := hw
  rcases hq with hq | hq
  · exact (pg_tup (k := k) (pos := pos) hc h hn hst).run pins s σ H v u Q I r ⟨a, xs, e1, hq, hl, hw⟩
  · exact (pg_unl (k := k) (pos := pos) hc h hn hst).run pins s σ H v u Q I r ⟨a, xs, e1, hq, hl, hw⟩
section
variable {n : Pn} {W : WX} {X : Cx} {P : Pg} {e tg : Expr} {g g' : Gh} {H H' : Hp} {σ : L2.St} {F F' : Lo → Fp} {Fv : Fp} {pos : Pos} {io : List Nat} {D : Ends}
theorem seqOf_rep {o : O} {l : List I} {v : V} (h : seqOf o = some l) (r : RepO P g H o v Fv) : ∃ p vs, v = .ref p ∧ (SqT P.K H p vs ∨ SqL P.K H p vs) ∧ RepIL P g H l vs := by
  cases o with
  | im i =>
    cases i with
    | tup l' =>
      cases h
      cases r.im_inv with
      | tup a b => exact ⟨_, _, rfl, .inl a.sq, b⟩
    | lst l' =>
      cases h
      cases r.im_inv with
      | lst a b => exact ⟨_, _, rfl, .inr a.sq, b⟩
    | _ => cases h
  | tup l' =>
    cases r with
    | tup a b => exact ⟨_, _, rfl, .inl (.inl (.of a)), (RepIL.allIm h b).1⟩
  | lst l' =>
    cases r with
    | lst a z b _ => exact ⟨_, _, rfl, .inr (.inl (.of a)), (RepIL.allIm h b).1⟩
  | _ => cases h
theorem unpS_go {ks : List Nat} {f : EM} (hk : ∀ k ∈ ks, k ∉ io) (h : OkS P W io (sUnpS ks f) D σ H) : OkE P W f σ H fun v H1 => gSeq P.K ks.length (gNames ks) v σ H1 D.nx := by
  obtain ⟨g, st, F, rs, hio, q⟩ := h
  refine ⟨g, st, F, rs, q.bnd.imp (fun s o k1 g1 H1 F1 v Fv p r => ?_) fun _ _ _ z => z⟩
  have k1 := k1.bnd
  unfold unpS RunAt at k1
  cases ht : seqOf o with
  | none => simp [ht] at k1
  | some l =>
    simp only [ht] at k1
    obtain ⟨t, vs, rfl, ht2, rl⟩ := seqOf_rep ht r
    have hl := putL_len (ok := fun _ _ => True) (ex := fun _ _ _ => True) (st := s) (ks := ks) (is := l) (RunAt.imp k1 (fun _ _ _ => trivial) fun _ _ _ _ => trivial)
    exact ⟨t, vs, rfl, ht2, by rw [← rl.len, hl], putL_go p.drop rl (fun k hk' => pn_ne (p.pio hio) (hk k hk')) k1 fun st' σ' F' p' ok => (show okS P D g H F st' .nx from ok) g1 H1 F' σ' p'⟩
theorem sv_unpS {ks : List Nat} {f : EM} (hk : ∀ k ∈ ks, k ∉ io) (he : PE X e (OkE ⟨X.K, n⟩ W f)) (hg : PG X tg (gSeq X.K ks.length (gNames ks))) (hs : swapsWithSole [tg] e pos.line X.env = pure false := by rfl) (hw : swappedStores [tg] e X.env = pure none := by rfl)
    (h1 : (assignEach [tg] X.env).map (·.2) = [assign tg X.env] := by rfl) : PS X (.Assign [tg] e pos) (OkS ⟨X.K, n⟩ W io (sUnpS ks f)) := PS.imp (ps_asg he hg hs hw h1) fun _ _ _ h => unpS_go hk h
end
section
variable {st : VS.St} {ex : VS.St → Nat → List I → Prop}
theorem r_unpS {ks : List Nat} {o : O} {ok : VS.St → Unit → Prop} : Run (unpS ks o) st ok ex ↔ ∃ l, seqOf o = some l ∧ Run (putL ks l) st ok ex := by
  simp only [run_iff]
  unfold RunAt unpS
  cases h : seqOf o with
  | none => simp
  | some l => simp
@[simp] theorem r_sUnpS {ks : List Nat} {m : EM} {ok : VS.St → VS.Fl → Prop} : Run (sUnpS ks m) st ok ex ↔ Run m st (fun s o => ∃ l, seqOf o = some l ∧ Run (putL ks l) s (fun s _ => ok s .nx) ex) ex := by
  unfold sUnpS; simp only [r_bnd, r_unpS, r_ret]
@[simp] theorem seqOf_it {l : List I} : seqOf (.im (.tup l)) = some l := rfl
@[simp] theorem seqOf_il {l : List I} : seqOf (.im (.lst l)) = some l := rfl
@[simp] theorem seqOf_t {l : List O} : seqOf (.tup l) = allIm l := rfl
@[simp] theorem seqOf_l {l : List O} : seqOf (.lst l) = allIm l := rfl
end
end VS

namespace VS
open PySem PySem.Spec PyProof.Rows L2
/-! ### dict(pairs), dict(d): keys ints or texts -/
def pairsK : List I → Option (List (Key × I))
  | [] => some []
  | .tup [k, v] :: r => match keyI k, pairsK r with
    | some k, some r => some ((k, v) :: r)
    | _, _ => none
  | _ => none
def mergeI (kvs : List (DK × I)) (m : List (Key × I)) : List (DK × I) := m.foldl (fun a q => putI a (.inl q.1) q.2) kvs
def imD (kvs : List (DK × I)) : List (DK × O) := kvs.map fun q => (q.1, .im q.2)
def fDict : List I → Option O
  | [.lst l] => match pairsK l with
    | some m => some (.dct false (imD (mergeI [] m)))
    | none => none
  | [.dct false kvs] => some (.dct false (imD kvs))
  | _ => none
section
variable {n : Pn} {W : WX} {X : Cx} {P : Pg} {g g' : Gh} {H H' : Hp} {σ : L2.St} {Fv : Fp} {pos : Pos}
theorem RepIL.tup2 {i j vs} (r : RepIL P g H [i, j] vs) : ∃ v u, vs = [v, u] ∧ RepI P g H i v ∧ RepI P g H j u := by
  cases r with | cons a b => cases b with | cons b c => cases c; exact ⟨_, _, rfl, a, b⟩
theorem keyI_W {i : I} {k : Key} {v : V} (h : keyI i = some k) (r : RepI P g H i v) : v = kV k := by
  unfold keyI at h
  split at h
  · cases h; cases r; rfl
  · cases h; cases r; rfl
  · cases h
/-- the pairs' values -/
theorem pairsK_V : ∀ {l : List I} {m : List (Key × I)} {vs : List V}, pairsK l = some m → RepIL P g H l vs →
    ∃ (ps : List Addr) (kvs : List (Key × V)), vs = ps.map V.ref ∧ Paired (fun p kv => SqT P.K H p [kV kv.1, kv.2]) ps kvs ∧ m.map Prod.fst = kvs.map Prod.fst ∧ RepIL P g H (m.map Prod.snd) (kvs.map Prod.snd)
  | [], m, vs, h, r => by
    unfold pairsK at h; cases h; cases r
    exact ⟨[], [], rfl, .nil, rfl, .nil⟩
  | i :: l, m, vs, h, r => by
    unfold pairsK at h
    split at h
    · rename_i e; cases e
    · rename_i e
      obtain ⟨rfl, rfl⟩ := List.cons.inj e
      split at h
      · rename_i k' r' hk hr
        cases h
        cases r with
        | cons a b =>
          obtain ⟨ps, kvs, rfl, h1, h2, h3⟩ := pairsK_V hr b
          cases a with
          | tup ht hv =>
            obtain ⟨v, u, rfl, q1, q2⟩ := hv.tup2
            have := keyI_W hk q1
            subst this
            exact ⟨_ :: ps, (k', u) :: kvs, rfl, .cons ht.sq h1, by simp [h2], .cons q2 h3⟩
      · cases h
    · cases h
theorem merge_V : ∀ {m : List (Key × I)} {ms : List (Key × V)} {kvs : List (DK × I)} {ks : List (Key × V)}, m.map Prod.fst = ms.map Prod.fst → RepIL P g H (m.map Prod.snd) (ms.map Prod.snd) →
    kvs.map Prod.fst = ks.map (fun x => Sum.inl x.1) → RepIL P g H (kvs.map Prod.snd) (ks.map Prod.snd) →
    (mergeI kvs m).map Prod.fst = (mergeK ks ms).map (fun x => Sum.inl x.1) ∧ RepIL P g H ((mergeI kvs m).map Prod.snd) ((mergeK ks ms).map Prod.snd)
  | [], ms, kvs, ks, h, r, h1, r1 => by
    cases ms with
    | nil => exact ⟨h1, r1⟩
    | cons _ _ => simp at h
  | q :: m, ms, kvs, ks, h, r, h1, r1 => by
    cases ms with
    | nil => simp at h
    | cons p ms =>
      simp only [List.map_cons, List.cons.injEq] at h r
      cases r with
      | cons a b =>
        obtain ⟨i1, i2⟩ := put_V (inj := Sum.inl) (fun _ _ e => Sum.inl.inj e) p.1 a h1 r1
        have := merge_V (kvs := putI kvs (.inl p.1) q.2) (ks := putK ks p.1 p.2) h.2 b i1 i2
        unfold mergeI mergeK at this ⊢
        simp only [List.foldl_cons]
        rw [h.1]
        exact this
theorem imD_fst {kvs : List (DK × I)} : (imD kvs).map Prod.fst = kvs.map Prod.fst := by simp [imD, Function.comp_def]
theorem imD_snd {kvs : List (DK × I)} : (imD kvs).map Prod.snd = (kvs.map Prod.snd).map O.im := by simp [imD, Function.comp_def]
/-- a new dict -/
theorem PostR.newD {kvs : List (DK × I)} {ks : List (Key × V)} {p} (hp : H p = none) (zd : ∀ b, g.Z b → ∃ o, H b = some o) (h : kvs.map Prod.fst = ks.map (fun x => Sum.inl x.1)) (r : RepIL P g H (kvs.map Prod.snd) (ks.map Prod.snd)) :
    PostR P g H g (upd H p (.dK ks)) (.dct false (imD kvs)) (.ref p) (ins1 p emp) where
  ro := .dctK upd_same (fun z => by obtain ⟨o, e⟩ := zd p z; rw [hp] at e; cases e) (by rw [imD_fst]; exact h) (by rw [imD_snd]; exact (r.ch (.new hp)).o) fun h => h
  ch := .new hp
  fr b h := h.elim (fun e => by rw [e]; exact hp) fun h => h.elim
  rho := rfl
  zz := rfl
  pn := rfl
theorem cr_dict (hc : X.calm = true) : CallR X (.type "dict") (RdOp ⟨X.K, n⟩ fDict) := by
  intro pins s σ H xs us Q Iv rv h
  obtain ⟨g, is, zd, hr, o, ho, q⟩ := h
  unfold fDict at ho
  split at ho
  · obtain ⟨_, ev, h1⟩ := hr.one
    cases ev
    obtain ⟨p, vs, rfl, hp, r1⟩ := h1.lst_inv
    split at ho
    · rename_i m hm
      cases ho
      obtain ⟨ps, kvs, rfl, e1, e2, e3⟩ := pairsK_V hm r1
      obtain ⟨a, b⟩ := merge_V (kvs := []) (ks := []) e2 e3 rfl .nil
      exact call_dictP hc pins s σ H _ us Q Iv rv ⟨p, ps, kvs, rfl, hp.sq, e1, fun p' hn => q _ _ _ _ (.newD hn zd a b)⟩
    · cases ho
  · obtain ⟨_, ev, h1⟩ := hr.one
    cases ev
    obtain ⟨p, ks, rfl, hp, e, r⟩ := h1.dctF
    cases ho
    exact call_dictD pins s σ H _ us Q Iv rv ⟨p, ks, rfl, .of hp, fun p' hn => q _ _ _ _ (.newD hn zd e r)⟩
  · cases ho
end
end VS

namespace VS
open PySem PySem.Spec PyProof.Rows L2
/-! ### dict(zip(keys, values)) -/
def keysK : List I → Option (List Key)
  | [] => some []
  | i :: r => match keyI i, keysK r with
    | some k, some r => some (k :: r)
    | _, _ => none
def fDictZip : List I → Option O
  | [.lst l, .lst m] => match keysK l with
    | some ks => some (.dct false (imD (mergeI [] (ks.zip m))))
    | none => none
  | _ => none
def tDictZ (K : PySem.W.Frag) (ta : TA) : TE := fun σ H Q => ta σ H fun vs H1 => ∃ (a b : Addr) (ks : List Key) (ys : List V), vs = [.ref a, .ref b] ∧ SqL K H1 a (ks.map kV) ∧ SqL K H1 b ys ∧ ∀ p, H1 p = none → Q (.ref p) (upd H1 p (.dK (mergeK [] (ks.zip ys))))
theorem kv_zip : ∀ {ks : List Key} {ys : List V} {us : List Value}, Vals ys us → KV (ks.zip ys) (ks.zip us)
  | [], ys, us, h => by simp; exact .nil
  | k :: ks, _, _, .nil => by simp; exact .nil
  | k :: ks, _, _, .cons a b => by
    rw [List.zip_cons_cons, List.zip_cons_cons]
    exact .cons ⟨rfl, a⟩ (kv_zip b)
theorem keys_is {P : Program} {w : World} : ∀ {ks : List Key} {us : List Value}, Vals (ks.map kV) us → ∀ (i : Nat) (u : Value), us[i]? = some u → ∃ k, ks[i]? = some k ∧ (mixKind P w).is k u = true
  | [], _, .nil, i, u, h => by simp at h
  | k :: ks, us, h, i, u, e => by
    cases h with
    | cons a b =>
      cases i with
      | zero => simp at e; subst e; exact ⟨k, rfl, kV_is a⟩
      | succ i => simp at e; simpa using keys_is b i u e
theorem pe_dictZ {X : Cx} {a b : Expr} {ta : TA} {p p2 q pos : Pos} (hc : X.calm = true) (hg : Gl X "dict") (hm : X.mg "dict" = none) (hg2 : Gl X "zip") (hm2 : X.mg "zip" = none) (ha : PA X [a, b] ta)
    (hs : starEach [a, b] X.env = (false, eval a X.env) :: starEach [b] X.env := by rfl) (hpl : (backTo q (starEach [b] X.env)).any (·.1) = false := by rfl) :
    PE X (.Call (.Name "dict" p) [.Call (.Name "zip" p2) [a, b] [] q] [] pos) (tDictZ X.K ta) := by
  refine ⟨fun pins s σ H Q I h => ?_⟩
  refine Call_ (ld_blt I hg hm boot_dict ?_)
  refine PyProof.Rows.callWith_type1 (PyProof.Rows.args_cons ?_ rfl) rfl rfl
  refine Call_ (ld_blt I hg2 hm2 PyProof.Rows.boot_zip (PyProof.Rows.callWith_type1 (thn (ha.run q pins s σ H _ I h) fun us s1 ⟨vs, H1, I1, r1, q1⟩ => ?_) hs hpl))
  obtain ⟨l, l2, ks, ys, ex, hqx, hqy, q1⟩ := q1
  subst ex
  cases r1 with
  | cons r rr =>
    cases rr with
    | cons r' rr =>
      cases rr
      cases r
      cases r'
      obtain ⟨its, rv, p1, hz1⟩ := I1.list hqx
      obtain ⟨its2, rv2, p2, hz2⟩ := I1.list hqy
      refine call_zip_2 p1.isList p2.isList fun h' hz hTI hTO h1 h2 hsz hk => PyProof.Rows.args_nil ?_
      have e1 := rv.length
      have e2 := rv2.length
      rw [List.length_map] at e1 hz1
      refine PySem.call_dict_pairs (knd := mixKind X.prog X.w) (kvs := ks.zip its2) (PairArg.zip _ _ _ _ _ l l2 (PySem.W.ktu_apart s1.heap.objs.size l l2 p1.lt p2.lt) its.toArray its2.toArray) (I1.ok.hd hc)
        ⟨hz, hTI, ⟨_, _, hTO⟩, h1, h2, ?_, ?_⟩ ⟨by simp [e1], fun i key v hr => ?_⟩ ?_ fun h2 tk hd hk2 => ?_
      · exact p1.isList.at fun o e => hk _ _ e
      · exact p2.isList.at fun o e => hk _ _ e
      · obtain ⟨r1, r2⟩ := hr
        obtain ⟨k, hk1, hk2⟩ := keys_is (P := X.prog) (w := X.w) rv i key (by simpa using r1)
        exact ⟨k, by rw [List.getElem?_zip_eq_some]; exact ⟨hk1, by simpa using r2⟩, hk2⟩
      · refine Nat.le_trans (Nat.min_le_right _ _) ?_
        rw [List.size_toArray, ← e2]; exact hz2
      · have kp : ∀ b o, s1.heap.get? b = some o → h2.get? b = some o := fun b o e => hk2 b o (fun m => by
          have lt := Heap.lt_size e
          simp only [List.mem_cons, List.not_mem_nil, or_false] at m
          refine Nat.lt_irrefl _ (Nat.lt_of_lt_of_le lt ?_)
          rcases m with q | q | q | q <;> rw [q] <;> first | exact Nat.le_refl _ | exact Nat.le_add_right _ _) (hk b o e)
        have hb := I1.big
        have hlen : (mergeK [] (ks.zip ys)).length ≤ sizeLine := by
          refine Nat.le_trans (length_mergeK _ []) ?_
          simp; omega
        have hge : s1.heap.objs.size ≤ h'.objs.size := by omega
        have hm : (h'.objs.size == sysModules) = false := beq_eq_false_iff_ne.mpr (Nat.ne_of_gt (Nat.lt_of_lt_of_le I1.big hge))
        exact ⟨.ref h'.objs.size, upd H1 h'.objs.size (.dK (mergeK [] (ks.zip ys))), I1.laid (t' := tk) kp hge (show ObjOk X.prog X.w _ _ _ (.dK (mergeK [] (ks.zip ys))) from ⟨hlen, hm, merged [] (ks.zip its2), KV.merge (kv_zip rv2) .nil, hd⟩), rfl, q1 _ (I1.hok.fresh hge)⟩
section
variable {n : Pn} {W : WX} {X : Cx} {P : Pg} {g g' : Gh} {H H' : Hp} {σ : L2.St} {Fv : Fp} {pos : Pos} {a b : Expr}
theorem keysK_W : ∀ {l : List I} {ks : List Key} {vs : List V}, keysK l = some ks → RepIL P g H l vs → vs = ks.map kV
  | [], ks, vs, h, r => by unfold keysK at h; cases h; cases r; rfl
  | i :: l, ks, vs, h, r => by
    unfold keysK at h
    split at h
    · rename_i k r' hk hr
      cases h
      cases r with
      | cons x y => rw [List.map_cons, ← keyI_W hk x, ← keysK_W hr y]
    · cases h
theorem zip_V : ∀ {ks : List Key} {m : List I} {ys : List V}, RepIL P g H m ys → (ks.zip m).map Prod.fst = (ks.zip ys).map Prod.fst ∧ RepIL P g H ((ks.zip m).map Prod.snd) ((ks.zip ys).map Prod.snd)
  | [], _, _, _ => by simp; exact .nil
  | _ :: _, _, _, .nil => by simp; exact .nil
  | k :: ks, _, _, .cons x y => by
    obtain ⟨h1, h2⟩ := zip_V (ks := ks) y
    simp only [List.zip_cons_cons, List.map_cons, List.cons.injEq, true_and]
    exact ⟨h1, .cons x h2⟩
theorem ev_dictzip {f : OL} {p p2 q : Pos} (hc : X.calm = true) (h1 : X.mg "dict" = none) (h2 : X.mg "zip" = none) (ha : PA X [a, b] (OkOL ⟨X.K, n⟩ W f)) (hg : Gl X "dict" := by rfl) (hg2 : Gl X "zip" := by rfl)
    (hs : starEach [a, b] X.env = (false, eval a X.env) :: starEach [b] X.env := by rfl) (hpl : (backTo q (starEach [b] X.env)).any (·.1) = false := by rfl) :
    PE X (.Call (.Name "dict" p) [.Call (.Name "zip" p2) [a, b] [] q] [] pos) (OkE ⟨X.K, n⟩ W (opN fDictZip f)) := by
  refine PE.imp (pe_dictZ hc hg h1 hg2 h2 ha hs hpl) fun σ H Q h => ?_
  obtain ⟨g, st, F, rs, q⟩ := goN h
  refine ⟨g, st, F, rs, q.imp (fun s x k1 g1 H1 F1 v Fv p rx => ?_) fun _ _ _ z => z⟩
  obtain ⟨g, is, zd, hr, o, ho, q⟩ := k1 g1 H1 F1 v Fv p rx
  unfold fDictZip at ho
  split at ho
  · split at ho
    · rename_i l m ks hks
      cases ho
      obtain ⟨_, _, ev, r1, r2⟩ := hr.two
      subst ev
      obtain ⟨p1, vs, rfl, hp, r1⟩ := r1.lst_inv
      obtain ⟨p2, ws, rfl, hp2, r2⟩ := r2.lst_inv
      have := keysK_W hks r1
      subst this
      obtain ⟨e1, e2⟩ := zip_V (ks := ks) r2
      obtain ⟨c, d⟩ := merge_V (kvs := []) (ks := []) e1 e2 rfl .nil
      exact ⟨_, _, ks, ws, rfl, hp.sq, hp2.sq, fun p' hn => q _ _ _ _ (.newD hn zd c d)⟩
    · cases ho
  · cases ho
end
end VS

namespace VS
open PySem PySem.Spec PyProof.Rows L2
/-! ### {k: v, ..}: keys ints or texts -/
def aP : List (EM × EM) → AM
  | [] => aNil
  | (k, v) :: r => aCons k (aCons v (aP r))
def kvO : List O → Option (List (Key × I))
  | [] => some []
  | .im k :: .im v :: r => match keyI k, kvO r with
    | some k, some r => some ((k, v) :: r)
    | _, _ => none
  | _ => none
def dispO (os : List O) : Option O := match kvO os with
  | some m => if m.length ≤ 15 then some (.dct false (imD (mergeI [] m))) else none
  | none => none
def eDisp (r : List (EM × EM)) : EM := bnd (aP r) fun os => lift (dispO os)
section
variable {n : Pn} {W : WX} {X : Cx} {P : Pg} {g g' : Gh} {H H' : Hp} {σ : L2.St} {Fv : Fp} {pos : Pos} {a b : Expr}
theorem OkE.mono {f : EM} {Q Q' : VK} (h : OkE P W f σ H Q) (i : ∀ v H', Q v H' → Q' v H') : OkE P W f σ H Q' := by
  obtain ⟨g, st, F, rs, q⟩ := h
  exact ⟨g, st, F, rs, q.imp (fun s o k g1 H1 F1 v Fv p ro => i _ _ (k g1 H1 F1 v Fv p ro)) fun _ _ _ z => z⟩
theorem acons_go {f : EM} {r : AM} {R : List V → Hp → Prop} (h : OkA P W (aCons f r) σ H R) : OkE P W f σ H fun x H1 => OkA P W r σ H1 fun xs H2 => R (x :: xs) H2 := by
  obtain ⟨g, st, F, rs, q⟩ := h
  exact ⟨g, st, F, rs, q.bnd.imp (fun s o k g1 H1 F1 v Fv p ro => ⟨g1, s, F1, p.rs, k.bnd.imp (fun s2 os k2 g2 H2 F2 vs Fw p2 rl => by
    obtain ⟨p3, ro2, d⟩ := p.both ro p2
    exact k2.ret g2 H2 F2 (v :: vs) (un Fv Fw) p3 (.cons ro2 rl d)) fun _ _ _ z => exc_step p z⟩) fun _ _ _ z => z⟩
def flatV (ps : List (V × V)) : List V := ps.flatMap fun p => [p.1, p.2]
def tesOf (P : Pg) (W : WX) (r : List (EM × EM)) : List (TE × TE) := r.map fun p => (OkE P W p.1, OkE P W p.2)
theorem ap_go : ∀ (r : List (EM × EM)) {H : Hp} {R : List V → Hp → Prop}, OkA P W (aP r) σ H R → tPairs (tesOf P W r) σ H fun ps H3 => R (flatV ps) H3
  | [], H, R, h => by
    obtain ⟨g, st, F, rs, q⟩ := h
    exact q.ret g H F [] emp (.refl rs) .nil
  | (a, b) :: r, H, R, h => by
    show OkE P W a σ H _
    refine (acons_go h).mono fun x H1 h1 => ?_
    refine (acons_go h1).mono fun y H2 h2 => ?_
    exact ap_go r h2
/-- the pairs, as they stand -/
theorem kvO_V : ∀ {os : List O} {m : List (Key × I)} {vs : List V} {Fv : Fp}, kvO os = some m → RepOL P g H os vs Fv →
    ∃ kvs : List (Key × V), (∀ ps : List (V × V), flatV ps = vs → ps = kvs.map fun kv => (kV kv.1, kv.2)) ∧ m.length = kvs.length ∧ m.map Prod.fst = kvs.map Prod.fst ∧ RepIL P g H (m.map Prod.snd) (kvs.map Prod.snd)
  | [], m, vs, Fv, h, r => by
    cases h; cases r
    exact ⟨[], fun ps e => by cases ps with | nil => rfl | cons _ _ => simp [flatV] at e, rfl, rfl, .nil⟩
  | [.im k], m, vs, Fv, h, r => by cases h
  | .im k :: .im v :: os, m, vs, Fv, h, r => by
    unfold kvO at h
    split at h
    · rename_i k' r' hk hr
      cases h
      cases r with
      | cons a b _ =>
        cases b with
        | cons b c _ =>
          obtain ⟨kvs, h1, h2, h3, h4⟩ := kvO_V hr c
          have a := a.im_inv
          have b := b.im_inv
          have := keyI_W hk a
          subst this
          refine ⟨(k', _) :: kvs, fun ps e => ?_, by simp [h2], by simp [h3], .cons b h4⟩
          cases ps with
          | nil => simp [flatV] at e
          | cons p ps =>
            simp [flatV] at e
            obtain ⟨e1, e2, e3⟩ := e
            rw [List.map_cons, ← h1 ps (by simpa [flatV] using e3)]
            obtain ⟨p1, p2⟩ := p
            simp at e1 e2
            rw [e1, e2]
    · cases h
  | .lst _ :: _, m, vs, Fv, h, r => by cases h
  | .tup _ :: _, m, vs, Fv, h, r => by cases h
  | .dct _ _ :: _, m, vs, Fv, h, r => by cases h
  | .ins _ _ :: _, m, vs, Fv, h, r => by cases h
  | .hole :: _, m, vs, Fv, h, r => by cases h
  | .im _ :: .lst _ :: _, m, vs, Fv, h, r => by cases h
  | .im _ :: .tup _ :: _, m, vs, Fv, h, r => by cases h
  | .im _ :: .dct _ _ :: _, m, vs, Fv, h, r => by cases h
  | .im _ :: .ins _ _ :: _, m, vs, Fv, h, r => by cases h
  | .im _ :: .hole :: _, m, vs, Fv, h, r => by cases h
theorem tPairs_mono : ∀ (r : List (TE × TE)) {H : Hp} {R R' : List (V × V) → Hp → Prop}, (∀ p ∈ r, ∀ σ H (Q Q' : VK), (∀ v H', Q v H' → Q' v H') → (p.1 σ H Q → p.1 σ H Q') ∧ (p.2 σ H Q → p.2 σ H Q')) → tPairs r σ H R → (∀ ps H', R ps H' → R' ps H') → tPairs r σ H R'
  | [], H, R, R', _, h, i => i _ _ h
  | (a, b) :: r, H, R, R', m, h, i => by
    refine (m _ List.mem_cons_self σ H _ _ fun x H1 h1 => ?_).1 h
    refine (m _ List.mem_cons_self σ H1 _ _ fun y H2 h2 => ?_).2 h1
    exact tPairs_mono r (fun p hp => m p (List.mem_cons_of_mem _ hp)) h2 fun ps H' h => i _ _ h
theorem tes_mono (r : List (EM × EM)) : ∀ p ∈ tesOf P W r, ∀ σ H (Q Q' : VK), (∀ v H', Q v H' → Q' v H') → (p.1 σ H Q → p.1 σ H Q') ∧ (p.2 σ H Q → p.2 σ H Q') := by
  intro p hp σ H Q Q' i
  obtain ⟨q, hq, rfl⟩ := List.mem_map.mp hp
  exact ⟨fun h => h.mono i, fun h => h.mono i⟩
theorem disp_go {r : List (EM × EM)} {Q : VK} (h : OkE P W (eDisp r) σ H Q) : tDisp (tesOf P W r) σ H Q := by
  intro p hp
  obtain ⟨g, st, F, rs, q⟩ := h
  have cn : Ch emp g H g (upd H p (.dK [])) := .new hp
  have nt : ∀ b, tot F b → b ≠ p := fun b hb e => by
    obtain ⟨⟨_, e2, _⟩, _⟩ := rs.mt b hb
    rw [e, hp] at e2; cases e2
  have rs1 : RepS P g (upd H p (.dK [])) st σ F := rs.ch cn (fun _ _ h => h.elim) rfl rfl (new_zd rs.zd hp)
  have p0 : PostS P g H F g (upd H p (.dK [])) F st σ (ins1 p emp) := (PostS.refl rs).mk1 hp (fun _ x => x.elim .inr .inl) fun _ h => h.elim
  refine tPairs_mono _ (tes_mono r) (ap_go (R := fun vs H2 => ∀ ps, flatV ps = vs → H2 p = some (HO.dK []) ∧ ∃ kvs, ps = List.map (fun kv => (kV kv.fst, kv.snd)) kvs ∧ kvs.length ≤ 15 ∧ Q (V.ref p) (upd H2 p (HO.dK (mergeK [] kvs)))) r ⟨g, st, F, rs1, q.bnd.imp (fun s os k g1 H1 F1 vs Fv p1 rl => ?_) fun s c i z => exc_step p0 z⟩) fun ps H' h => h ps rfl
  intro ps hps
  obtain ⟨o, ho, k⟩ := k.lift
  unfold dispO at ho
  split at ho
  · rename_i m hm
    split at ho
    · rename_i h15
      cases ho
      obtain ⟨kvs, e1, e2, e3, e4⟩ := kvO_V hm rl
      have ro0 : RepO P g (upd H p (.dK [])) (dO []) (.ref p) (ins1 p emp) := .dctK (ks := []) upd_same (rs.nz hp) rfl .nil fun h => h
      obtain ⟨pb, r7, _⟩ := p0.both ro0 p1
      obtain ⟨m1, m2⟩ := merge_V (kvs := []) (ks := []) e3 e4 rfl .nil
      have hnz : H1 p = some (.dK []) ∧ ¬ g1.Z p := by
        generalize ins1 p emp = Fx at r7
        cases r7 with
        | dctK h nz e rl hn =>
          refine ⟨?_, nz⟩
          rw [h]
          rename_i ks _ 
          cases ks with
          | nil => rfl
          | cons _ _ => simp at e
      obtain ⟨hp1, nz⟩ := hnz
      have nF : ¬ tot F1 p := fun x => pb.dj p (.inl (.inl rfl)) x
      refine ⟨hp1, kvs, e1 ps hps, by omega, ?_⟩
      have cs : Ch (fun b => b = p) g1 H1 g1 (upd H1 p (.dK (mergeK [] kvs))) := .setl ⟨_, hp1, rfl⟩ nz
      refine k g1 _ F1 (.ref p) (ins1 p emp) ⟨pb.rs.ch cs (fun b x y => nF (by rw [← y]; exact x)) rfl rfl (set_zd pb.rs.zd), fun b x y => ?_, pb.ch.trans cs fun b x => .inr (by rw [x]; exact hp), fun b x => ?_, pb.pn⟩ ?_
      · rcases x with x | x
        · subst x; exact nF y
        · exact x.elim
      · rcases x with x | x | x
        · exact pb.sub b (.inl x)
        · subst x; exact .inr hp
        · exact x.elim
      · exact .dctK upd_same nz (by rw [imD_fst]; exact m1) (by rw [imD_snd]; exact (m2.ch cs).o) fun h => h
    · cases ho
  · cases ho
end
end VS

namespace VS
open PySem PySem.Spec PyProof.Rows L2
/-! ### int(..), sum(..), max(list), d.get(k, x) -/
def fInt : List I → Option O
  | [.int i] => some (.im (.int i))
  | [.bl b] => some (.im (.int (if b then 1 else 0)))
  | [.str a] => if a.length ≤ 640 then (PySem.intText? a).map fun n => .im (.int n) else none
  | _ => none
def fSum : List I → Option O
  | [.lst l] => (intsOf l).map fun ns => .im (.int ns.sum)
  | _ => none
def maxZ : List Int → Int
  | [] => 0
  | [a] => a
  | a :: r => if a < maxZ r then maxZ r else a
def fMaxL : List I → Option O
  | [.lst l] => match intsOf l with
    | some (a :: r) => some (.im (.int (maxZ (a :: r))))
    | _ => none
  | _ => none
/-- what is never a shared object -/
def plainI : I → Bool
  | .non => true
  | .bl _ => true
  | .int _ => true
  | .str _ => true
  | _ => false
def fGet : List I → Option O
  | [.dct t kvs, i, x] => match dkOf t i with
    | some k => if plainI x then some (.im ((lookD kvs k).getD x)) else none
    | none => none
  | _ => none
def isDc (d : Op) : M Unit := fun st => match fl st d with
  | some (.dct _ _) => some (.ok (), st)
  | _ => none
def eGet (fd fk fx : OM) : EM := bnd fd fun d => bnd (isDc d) fun _ => bnd fk fun k => bnd fx fun x => rd fGet [d, k, x]
section
variable {n : Pn} {W : WX} {X : Cx} {P : Pg} {g g' : Gh} {H H' : Hp} {σ : L2.St} {Fv : Fp} {pos : Pos} {a b o e f : Expr}
theorem cr_int : CallR X (.type "int") (RdOp ⟨X.K, n⟩ fInt) := by
  intro pins s σ H xs us Q Iv rv h
  obtain ⟨g, is, zd, hr, o, ho, q⟩ := h
  unfold fInt at ho
  split at ho
  · obtain ⟨_, ev, h1⟩ := hr.one
    cases ev
    cases ho
    cases h1.int_inv
    exact call_int1 pins s σ H _ us Q Iv rv (.inl ⟨_, rfl, q _ _ _ _ (.same (.int _))⟩)
  · obtain ⟨_, ev, h1⟩ := hr.one
    cases ev
    cases ho
    cases h1.bl_inv
    exact call_int1 pins s σ H _ us Q Iv rv (.inr ⟨_, rfl, q _ _ _ _ (.same (.int _))⟩)
  · obtain ⟨_, ev, h1⟩ := hr.one
    cases ev
    split at ho
    · rename_i hl
      obtain ⟨m, hm, rfl⟩ := Option.map_eq_some_iff.mp ho
      cases h1.str_inv
      exact call_int_str pins s σ H _ us Q Iv rv ⟨_, m, rfl, hm, hl, q _ _ _ _ (.same (.int _))⟩
    · cases ho
  · cases ho
theorem cr_sumI (hc : X.calm = true) : CallR X (.builtin "sum") (RdOp ⟨X.K, n⟩ fSum) := by
  intro pins s σ H xs us Q Iv rv h
  obtain ⟨g, is, zd, hr, o, ho, q⟩ := h
  unfold fSum at ho
  split at ho
  · obtain ⟨_, ev, h1⟩ := hr.one
    cases ev
    obtain ⟨ns, hn, rfl⟩ := Option.map_eq_some_iff.mp ho
    obtain ⟨p, vs, rfl, hp, r1⟩ := h1.lst_inv
    cases intsOf_V hn r1
    exact L2.cr_sum hc pins s σ H _ us Q Iv rv ⟨p, ns, rfl, hp.sq, q _ _ _ _ (.same (.int _))⟩
  · cases ho
theorem maxZ_mem : ∀ {l : List Int}, l ≠ [] → maxZ l ∈ l
  | [], h => absurd rfl h
  | [a], _ => by simp [maxZ]
  | a :: b :: r, _ => by
    have := maxZ_mem (l := b :: r) (by simp)
    unfold maxZ
    split
    · exact List.mem_cons_of_mem _ this
    · exact List.mem_cons_self
theorem maxZ_le : ∀ {l : List Int}, ∀ y ∈ l, y ≤ maxZ l
  | [], y, h => by cases h
  | [a], y, h => by simp at h; subst h; simp [maxZ]
  | a :: b :: r, y, h => by
    have ih := fun y => maxZ_le (l := b :: r) y
    unfold maxZ
    rcases List.mem_cons.mp h with rfl | h
    · split <;> omega
    · have := ih y h
      split <;> omega
theorem cr_maxL (hc : X.calm = true) : CallR X (.builtin "max") (RdOp ⟨X.K, n⟩ fMaxL) := by
  intro pins s σ H xs us Q Iv rv h
  obtain ⟨g, is, zd, hr, o, ho, q⟩ := h
  unfold fMaxL at ho
  split at ho
  · obtain ⟨_, ev, h1⟩ := hr.one
    cases ev
    split at ho
    · rename_i a r hn
      cases ho
      obtain ⟨p, vs, rfl, hp, r1⟩ := h1.lst_inv
      cases intsOf_V hn r1
      refine L2.cr_max hc pins s σ H _ us Q Iv rv ⟨p, a :: r, rfl, hp.sq, by simp, fun m hm hle => ?_⟩
      have : m = maxZ (a :: r) := by
        have h1 := maxZ_le m hm
        have h2 := hle _ (maxZ_mem (l := a :: r) (by simp))
        omega
      rw [this]
      exact q _ _ _ _ (.same (.int _))
    · cases ho
  · cases ho
theorem RepF.plain {i : I} {v : V} (h : plainI i = true) (r : RepF P g H i v) : RepI P g H i v := by
  cases r with
  | im r => exact r
  | lst _ _ => cases h
  | dctK _ _ _ => cases h
  | dctT _ _ _ => cases h
theorem get_go {fd fk fx : OM} {Q : VK} (h : OkE P W (eGet fd fk fx) σ H Q) : tDGet2 (OkO P W fd) (OkO P W fk) (OkO P W fx) σ H Q := by
  obtain ⟨g, st, F, rs, q⟩ := h
  refine ⟨g, st, F, rs, q.bnd.imp (fun s d k1 g1 H1 F1 v Fv p1 r1 => ?_) fun _ _ _ z => z⟩
  have k2 := k1.bnd
  unfold RunAt isDc at k2
  have isd : ∃ t kvs, fl s d = some (.dct t kvs) := by
    cases hg : fl s d with
    | none => simp [hg] at k2
    | some i =>
      cases i with
      | dct t kvs => exact ⟨t, kvs, rfl⟩
      | _ => simp [hg] at k2
  obtain ⟨t, kvs, hfl⟩ := isd
  simp only [hfl] at k2
  have r0 := r1.fl p1.rs hfl
  have isD : ∃ a, v = .ref a ∧ IsD H1 a := by
    cases r0 with
    | im r => cases r with
      | dctK h _ _ _ => exact ⟨_, rfl, .inl ⟨_, .of h⟩⟩
      | dctT h _ _ _ => exact ⟨_, rfl, .inr ⟨_, .of h⟩⟩
    | dctK h _ _ => exact ⟨_, rfl, .inl ⟨_, .of h⟩⟩
    | dctT h _ _ => exact ⟨_, rfl, .inr ⟨_, .of h⟩⟩
  obtain ⟨a, rfl, hD⟩ := isD
  refine ⟨a, rfl, hD, g1, s, F1, p1.rs, (RunAt.bnd k2).imp (fun s2 y k3 g2 H2 F2 u Fu p2 r2 => ⟨g2, s2, F2, p2.rs, k3.bnd.imp (fun s3 z k4 g3 H3 F3 w Fw p3 r3 => ?_) fun _ _ _ z => exc_step (p1.trans p2) z⟩) fun _ _ _ z => exc_step p1 z⟩
  obtain ⟨p23, r2', d2⟩ := p2.bothO r2 p3.w
  obtain ⟨p13, r1', d3⟩ := p1.bothO r1 p23
  obtain ⟨g4, is, zd, hr, o', ho, q4⟩ := rd_go p13 (.cons r1' (.cons r2' (.one r3) d2) d3) k4
  unfold fGet at ho
  split at ho
  · rename_i t' kvs' i x
    split at ho
    · rename_i k hk
      split at ho
      · rename_i hx
        cases ho
        cases hr with
        | cons e1 hr =>
          obtain ⟨_, _, ev, e2, e3⟩ := RepFL.two hr
          cases ev
          obtain ⟨p', od, ea, dg, cases_⟩ := e1.dget e2 hk
          cases ea
          refine ⟨od, dg, ?_⟩
          rcases cases_ with ⟨c1, c2⟩ | ⟨z', w', c1, c2, rw'⟩
          · rw [c1] at q4; subst c2
            exact q4 _ _ _ _ (.same (e3.plain hx))
          · rw [c1] at q4; subst c2
            exact q4 _ _ _ _ (.same rw')
      · cases ho
    · cases ho
  · cases ho
theorem ev_get {fd fk fx : OM} {apos cpos : Pos} (hu : X.A.units + 1 < cLine) (ho : PE X o (OkO ⟨X.K, n⟩ W fd)) (he : PE X e (OkO ⟨X.K, n⟩ W fk)) (hf : PE X f (OkO ⟨X.K, n⟩ W fx)) (m : M2 X o "get" apos e f cpos := by exact ⟨rfl, rfl, rfl, rfl⟩) :
    PE X (.Call (.Attribute o "get" apos) [e, f] [] cpos) (OkE ⟨X.K, n⟩ W (eGet fd fk fx)) := PE.imp (pe_dget2 hu ho he hf m) fun _ _ _ h => get_go h
theorem ev_disp {keys : List (Option Expr)} {values : List Expr} {r : List (EM × EM)} (h : PPs X pos keys values (tesOf ⟨X.K, n⟩ W r)) (hall : keys.all (·.isSome) = true := by rfl) (hl : keys.length = values.length := by rfl) (h0 : keys ≠ [] := by simp) (h15 : keys.length ≤ 15 := by decide) :
    PE X (.Dict keys values pos) (OkE ⟨X.K, n⟩ W (eDisp r)) := PE.imp (pe_disp h hall hl h0 h15) fun _ _ _ h => disp_go h
end
/-! ### plainly -/
section
variable {st : VS.St} {sl sto : List O} {ex : VS.St → Nat → List I → Prop}
@[simp] theorem fzbD_imD (l : List (DK × I)) : fzbD (imD l) = true := fzbD_map l
@[simp] theorem frzD_imD (l : List (DK × I)) : frzD (imD l) = l := frzD_map l
@[simp] theorem r_eDisp {r : List (EM × EM)} {ok : VS.St → O → Prop} : Run (eDisp r) st ok ex ↔ Run (aP r) st (fun s os => ∃ o, dispO os = some o ∧ ok s o) ex := by
  unfold eDisp
  simp only [r_bnd, r_lift]
@[simp] theorem aP_nil : aP [] = aNil := rfl
@[simp] theorem aP_cons {k v : EM} {r : List (EM × EM)} : aP ((k, v) :: r) = aCons k (aCons v (aP r)) := rfl
end
end VS

namespace VS
open PySem PySem.Spec PyProof.Rows L2
/-! ### zip of lists, tuples, texts in any mix -/
/-- what a zip draws from -/
inductive Src where
  | L (a : Addr) | T (a : Addr) | S (x : Str)
def signsV (x : Str) : List V := x.cps.toList.map fun c => V.str ⟨#[c]⟩
def Src.val : Src → V
  | .L a => .ref a
  | .T a => .ref a
  | .S x => .str x
def Src.has (K : PySem.W.Frag) (H : Hp) : Src → List V → Prop
  | .L a, xs => SqL K H a xs
  | .T a, xs => SqT K H a xs
  | .S x, xs => xs = signsV x
def Src.fp : Src → List Addr
  | .L a => [a]
  | .T a => [a]
  | .S _ => []
def Src.it (h : Heap) (it : Addr) (i : Nat) : Src → Prop
  | .L a => h.IsListIter it a i
  | .T a => h.IsTupleIter it a i
  | .S x => ∃ t, h.IsStrIter it (strIterType x) x t i
theorem Src.it_at {A : Src} {h h' : Heap} {it : Addr} {i : Nat} (st : A.it h it i) (k : ∀ o, h.get? it = some o → h'.get? it = some o) : A.it h' it i := by
  cases A with
  | L a => exact st.at k
  | T a => exact st.at k
  | S x => obtain ⟨t, st⟩ := st; obtain ⟨o, e, r⟩ := st; exact ⟨t, o, k o e, r⟩
theorem Src.it_live {A : Src} {h : Heap} {it : Addr} {i : Nat} (st : A.it h it i) : ∃ o, h.get? it = some o ∧ ∀ v, o.data ≠ .cell v := by
  cases A with
  | L a => obtain ⟨o, e, _, d⟩ := st; exact ⟨o, e, fun v q => by rw [d] at q; cases q⟩
  | T a => obtain ⟨o, e, _, d⟩ := st; exact ⟨o, e, fun v q => by rw [d] at q; cases q⟩
  | S x => obtain ⟨t, o, e, _, d⟩ := st; exact ⟨o, e, fun v q => by rw [d] at q; cases q⟩
theorem pair_at {α β : Type} {F : α → β → Prop} : ∀ {l : List α} {m : List β} {j : Nat} {y : β}, Paired F l m → m[j]? = some y → ∃ x, l[j]? = some x ∧ F x y
  | [], _, j, y, .nil, e => by simp at e
  | a :: l, _, 0, y, .cons h t, e => by simp at e; subst e; exact ⟨a, by simp, h⟩
  | a :: l, _, j + 1, y, .cons h t, e => by simpa using pair_at t (by simpa using e)
section
variable {X : Cx} {pins : List (Addr × Obj)} {σ : L2.St} {H : Hp} {s : Shared}
theorem Src.inj {A : Src} (I : Inv X pins σ H s) {xs ys : List V} (h : A.has X.K H xs) (k : A.has X.K H ys) : xs = ys := by
  cases A with
  | L a => exact I.list_inj h k
  | T a => exact I.tuple_inj h k
  | S x => exact h.trans k.symm
/-- its turns, as they stand -/
theorem Src.draw {A : Src} {it : Addr} {i : Nat} {xs : List V} (hc : X.calm = true) (I : Inv X pins σ H s) (h : A.has X.K H xs) (st : A.it s.heap it i) (hne : it ∉ A.fp) :
    ∃ (P : Nat → Value → Prop) (St : Nat → Heap → Prop), Draws X.prog X.w X.A.in1 it (it :: A.fp) xs.length P St ∧ St i s.heap ∧ (∀ j v, P j v → ∃ x, xs[j]? = some x ∧ RelV x v) ∧ ∀ j h, St j h → A.it h it j := by
  cases A with
  | L a =>
    obtain ⟨its, rv, p, _⟩ := I.list h
    have hne' : a ≠ it := fun e => hne (by simp [Src.fp, e])
    have el : its.toArray.size = xs.length := by rw [List.size_toArray]; exact rv.length.symm
    refine ⟨(fun i v => its.toArray[i]? = some v), (fun i h => h.IsListIter it a i ∧ h.IsList a its.toArray), by rw [← el]; exact Draws.list (A := X.A.in1) (I.ok.hd hc) it a hne' its.toArray, ⟨st, p.isList⟩, fun j v hv => ?_, fun j h st => st.1⟩
    exact pair_at rv (by simpa using hv)
  | T a =>
    obtain ⟨its, rv, p, _⟩ := I.tuple h
    have hne' : a ≠ it := fun e => hne (by simp [Src.fp, e])
    have el : its.toArray.size = xs.length := by rw [List.size_toArray]; exact rv.length.symm
    refine ⟨(fun i v => its.toArray[i]? = some v), (fun i h => h.IsTupleIter it a i ∧ h.IsTuple a its.toArray), by rw [← el]; exact Draws.tuple (A := X.A.in1) (I.ok.hd hc) it a hne' its.toArray, ⟨st, p⟩, fun j v hv => ?_, fun j h st => st.1⟩
    exact pair_at rv (by simpa using hv)
  | S x =>
    obtain ⟨t, st⟩ := st
    have el : x.cps.size = xs.length := by rw [show xs = signsV x from h]; simp [signsV]
    refine ⟨(fun i v => ∃ c u, x.cps[i]? = some c ∧ v = .str ⟨#[c]⟩ u), (fun i h => h.IsStrIter it (strIterType x) x t i), by rw [← el]; exact Draws.text (A := X.A.in1) (I.ok.hd hc) it x t, st, fun j v hv => ?_, fun j h st => ⟨t, st⟩⟩
    obtain ⟨c, u, hc, rfl⟩ := hv
    refine ⟨.str ⟨#[c]⟩, ?_, ⟨u, rfl⟩⟩
    rw [show xs = signsV x from h]
    unfold signsV
    rw [List.getElem?_map]
    simp [hc]
end
/-- two sources, as they stand at each turn, the items in new pairs -/
def ItzM (K : PySem.W.Frag) (A B : Src) : It :=
  ⟨fun i H => ∃ (xs ys : List V) (x y : V), A.has K H xs ∧ B.has K H ys ∧ xs[i]? = some x ∧ ys[i]? = some y,
    fun i H v H' => ∃ T x y, v = .ref T ∧ H T = none ∧ H' = upd H T (.tup [x, y]) ∧ (∀ xs, A.has K H xs → xs[i]? = some x) ∧ ∀ ys, B.has K H ys → ys[i]? = some y,
    fun i H => ∃ xs ys : List V, A.has K H xs ∧ B.has K H ys ∧ i ≤ xs.length ∧ i ≤ ys.length ∧ (i = xs.length ∨ i = ys.length)⟩
theorem turn_zipM {P : Program} {w : World} {K : PySem.W.Frag} {elts : List Expr} {kk : Nat} {tpos : Pos} {A B : Src} {z TI TO i1 i2 : Addr} (D : ZipSep2 z TI TO i1 i2 (i1 :: A.fp) (i2 :: B.fp)) (n1 : i1 ∉ A.fp) (n2 : i2 ∉ B.fp) :
    Turn P w K (.Tuple elts kk tpos) (ItzM K A B) [z, TI, TO, i1, i2] z (fun i h => IsZip h z TI TO .none ∧ IsPair h TI (.ref i1) (.ref i2) ∧ (∃ x y, IsPair h TO x y) ∧ A.it h i1 i ∧ B.it h i2 i) where
  mem := by simp
  obj := fun i h st c hc => by
    obtain ⟨hz, hTI, ⟨x, y, hTO⟩, h1, h2⟩ := st
    have e' : c = z ∨ c = TI ∨ c = TO ∨ c = i1 ∨ c = i2 := by simpa using hc
    rcases e' with q | q | q | q | q
    · rw [q]; exact ⟨_, hz, fun v q => nomatch q⟩
    · rw [q]; exact ⟨_, hTI, fun v q => nomatch q⟩
    · rw [q]; exact ⟨_, hTO, fun v q => nomatch q⟩
    · rw [q]; exact Src.it_live h1
    · rw [q]; exact Src.it_live h2
  keep := fun i h h' st k => by
    obtain ⟨hz, hTI, ⟨x, y, hTO⟩, h1, h2⟩ := st
    exact ⟨k z (by simp) _ hz, k TI (by simp) _ hTI, ⟨x, y, k TO (by simp) _ hTO⟩, Src.it_at h1 fun o q => k i1 (by simp) o q, Src.it_at h2 fun o q => k i2 (by simp) o q⟩
  item := by
    intro X hP hw hK hc i pins s σ H E I hf st hg
    subst hP hw hK
    obtain ⟨hz, hTI, ⟨x0, y0, hTO⟩, h1, h2⟩ := st
    obtain ⟨xs, ys, x, y, hqx, hqy, hx, hy⟩ := hg
    obtain ⟨P1, S1, D1, st1, pr1, it1⟩ := Src.draw hc I hqx h1 n1
    obtain ⟨P2, S2, D2, st2, pr2, it2⟩ := Src.draw hc I hqy h2 n2
    have hzl : z < s.heap.objs.size := Heap.lt_size hz
    refine wpAny_pyNext_zipD2_item D D1 D2 hz hTI hTO st1 st2 (List.getElem?_eq_some_iff.mp hx).1 (List.getElem?_eq_some_iff.mp hy).1 fun u u2 h' tk' hp1 hp2 z' TO' h1' h2' hT hsz hk => ?_
    obtain ⟨x', ex, ru⟩ := pr1 i u hp1
    obtain ⟨y', ey, ru2⟩ := pr2 i u2 hp2
    rw [hx] at ex; cases ex
    rw [hy] at ey; cases ey
    refine ⟨_, rfl, wpAny_letOwnedTupleGo_zip (s := { s with heap := h', toks := tk' }) z' fun h'' z'' sb => ?_⟩
    have hT2 : h''.get? s.heap.objs.size = some { cls := .type "tuple", data := .seq #[u, u2] } := (sb.2 _ (Nat.ne_of_gt hzl)).trans hT
    have new : ObjOk X.prog X.w (upd H s.heap.objs.size (.tup [x, y])) h'' s.heap.objs.size (.tup [x, y]) :=
      ⟨by show 2 ≤ sizeLine; decide, [u, u2], .cons ru (.cons ru2 .nil), ⟨_, hT2, rfl, _, rfl⟩⟩
    have I1 : Inv X pins σ (upd H s.heap.objs.size (.tup [x, y])) { s with heap := h'', toks := tk' } :=
      I.turnedNew (t' := tk') (ch := [z, TI, TO, i1, i2]) (fun c o hb q => (sb.2 c (fun q' => hb (by simp [q']))).trans (hk c o (fun q' => hb (by simp [q'])) (fun q' => hb (by simp [q'])) (fun q' => hb (by simp [q'])) (fun q' => hb (by simp [q'])) q)) hf (Nat.le_refl _) new
    refine ⟨.ref s.heap.objs.size, _, I1, rfl, ⟨_, x, y, rfl, I.hok.fresh (Nat.le_refl _), rfl, fun l hl => by rw [Src.inj I hl hqx]; exact hx, fun l hl => by rw [Src.inj I hl hqy]; exact hy⟩, ⟨z'', ?_, ⟨u, u2, ?_⟩, ?_, ?_⟩, fun c hcm => ?_⟩
    · exact (sb.2 _ D.TIz).trans (hk _ _ D.TIz D.TITO D.TIi1 D.TIi2 hTI)
    · exact (sb.2 _ D.TOz).trans TO'
    · exact Src.it_at (it1 _ _ h1') fun o q => (sb.2 _ D.zi1.symm).trans q
    · exact Src.it_at (it2 _ _ h2') fun o q => (sb.2 _ D.zi2.symm).trans q
    · have hlt : c < s.heap.objs.size := by
        have e' : c = z ∨ c = TI ∨ c = TO ∨ c = i1 ∨ c = i2 := by simpa using hcm
        rcases e' with q | q | q | q | q
        · rw [q]; exact hzl
        · rw [q]; exact Heap.lt_size hTI
        · rw [q]; exact Heap.lt_size hTO
        · rw [q]; obtain ⟨_, e1, _⟩ := Src.it_live h1; exact Heap.lt_size e1
        · rw [q]; obtain ⟨_, e2, _⟩ := Src.it_live h2; exact Heap.lt_size e2
      rw [upd_ne (Nat.ne_of_lt hlt)]
      exact (hf c hcm).1
  done := by
    intro X hP hw hK hc i pins s σ H E I hf st hg
    subst hP hw hK
    obtain ⟨hz, hTI, ⟨x0, y0, hTO⟩, h1, h2⟩ := st
    obtain ⟨xs, ys, hqx, hqy, l1, l2, hend⟩ := hg
    obtain ⟨P1, S1, D1, st1, pr1, it1⟩ := Src.draw hc I hqx h1 n1
    obtain ⟨P2, S2, D2, st2, pr2, it2⟩ := Src.draw hc I hqy h2 n2
    refine wpAny_pyNext_zipD2_end D D1 D2 hz hTI hTO st1 st2 l1 l2 hend fun h' tk' hk => ⟨rfl, I.turnedL (t' := tk') (ch := [z, TI, TO, i1, i2]) (fun c o hb q =>
      hk c o (fun q' => hb (by simp [q'])) (fun q' => hb (by simp [q'])) (fun q' => hb (by simp [q'])) (fun q' => hb (by simp [q'])) q) hf⟩
  self := fun A i s Q E st h => wpAny_pyIter_zip st.1 h
section
variable {X : Cx} {pins : List (Addr × Obj)} {σ : L2.St} {H : Hp} {s : Shared}
theorem Src.begins {A : Src} {xs : List V} {u : Value} (I : Inv X pins σ H s) (h : A.has X.K H xs) (r : RelV A.val u) :
    ∃ (o : Obj) (Hh : Heap → Prop), Begins u o Hh ∧ Hh s.heap ∧ (∀ (hp : Heap) (it : Addr), hp.get? it = some o → A.it hp it 0) ∧ ∀ b ∈ A.fp, b < s.heap.objs.size := by
  cases A with
  | L a =>
    cases r
    obtain ⟨its, rv, p, _⟩ := I.list h
    exact ⟨_, _, begins_list a its.toArray, p.isList, fun hp it e => ⟨_, e, rfl, rfl⟩, fun b hb => by simp [Src.fp] at hb; subst hb; exact p.lt⟩
  | T a =>
    cases r
    obtain ⟨its, rv, p, _⟩ := I.tuple h
    exact ⟨_, _, begins_tuple a its.toArray, p, fun hp it e => ⟨_, e, rfl, rfl⟩, fun b hb => by
      simp [Src.fp] at hb; subst hb
      obtain ⟨o, e, _⟩ := id p
      exact Heap.lt_size e⟩
  | S x =>
    obtain ⟨t, rfl⟩ := r
    exact ⟨_, _, begins_text x t, trivial, fun hp it e => ⟨t, _, e, rfl, rfl⟩, fun b hb => by simp [Src.fp] at hb⟩
end
def iZipM (K : PySem.W.Frag) (ta : TA) : TI := fun σ H R => ta σ H fun vs H1 => ∃ (A B : Src) (xs ys : List V), vs = [A.val, B.val] ∧ A.has K H1 xs ∧ B.has K H1 ys ∧ R (ItzM K A B) H1
theorem pi_zipM {X : Cx} {e e2 : Expr} {ta : TA} {p pos tpos : Pos} {elts : List Expr} {kk : Nat} (hg : Gl X "zip") (hm : X.mg "zip" = none) (ha : PA X [e, e2] ta)
    (hs : starEach [e, e2] X.env = (false, eval e X.env) :: starEach [e2] X.env := by rfl) (hpl : (backTo pos (starEach [e2] X.env)).any (·.1) = false := by rfl) :
    PI X (.Tuple elts kk tpos) (.Call (.Name "zip" p) [e, e2] [] pos) (iZipM X.K ta) := by
  refine ⟨fun pins s σ H R I h => ?_⟩
  refine Call_ (ld_blt I hg hm PyProof.Rows.boot_zip (PyProof.Rows.callWith_type1 (thn (ha.run pos pins s σ H _ I h) fun us s1 ⟨vs, H1, I1, r1, q1⟩ => ?_) hs hpl))
  obtain ⟨A, B, xs, ys, rfl, hqx, hqy, q⟩ := q1
  cases r1 with
  | cons r rr =>
    cases rr with
    | cons r' rr =>
      cases rr
      obtain ⟨o1, H1', b1, h1, i1, f1⟩ := Src.begins I1 hqx r
      obtain ⟨o2, H2', b2, h2, i2, f2⟩ := Src.begins I1 hqy r'
      have fresh5 : ∀ c, c ∈ [s1.heap.objs.size + 4, s1.heap.objs.size + 2, s1.heap.objs.size + 3, s1.heap.objs.size, s1.heap.objs.size + 1] → FpOk X pins H1 c := fun c hcm => by
        have e' : c = s1.heap.objs.size + 4 ∨ c = s1.heap.objs.size + 2 ∨ c = s1.heap.objs.size + 3 ∨ c = s1.heap.objs.size ∨ c = s1.heap.objs.size + 1 := by simpa using hcm
        have hle : s1.heap.objs.size ≤ c := by
          rcases e' with z | z | z | z | z
          · rw [z]; exact Nat.le_add_right _ _
          · rw [z]; exact Nat.le_add_right _ _
          · rw [z]; exact Nat.le_add_right _ _
          · rw [z]; exact Nat.le_refl _
          · rw [z]; exact Nat.le_add_right _ _
        exact I1.fpOk hle (I1.hok.fresh hle)
      refine zip_begins2 b1 b2 h1 h2 fun h' hz hTI hTO e1 e2 hsz hk => wpAny_pyIter_zip hz ?_
      have I2 : Inv X pins σ H1 { s1 with heap := h' } := I1.kept (t' := s1.toks) hk
      refine ⟨s1.heap.objs.size + 4, [s1.heap.objs.size + 4, s1.heap.objs.size + 2, s1.heap.objs.size + 3, s1.heap.objs.size, s1.heap.objs.size + 1], _, _, H1, rfl, I2,
        turn_zipM (zip_sep2 (N := s1.heap.objs.size) f1 f2) (fun hm => absurd (f1 _ hm) (Nat.lt_irrefl _)) (fun hm => absurd (f2 _ hm) (Nat.not_lt_of_le (Nat.le_add_right _ _))), ⟨hz, hTI, ⟨_, _, hTO⟩, i1 _ _ e1, i2 _ _ e2⟩, fresh5, q⟩
section
variable {n : Pn} {W : WX} {X : Cx} {P : Pg} {g g' : Gh} {H H' : Hp} {σ : L2.St} {Fv : Fp} {pos : Pos} {a b : Expr}
/-- a value's items, if it is walked -/
def seqI : I → Option (List I)
  | .lst l => some l
  | .tup l => some l
  | .str x => some (chars x)
  | _ => none
def itZm (a : AM) : IM := bnd a fun os => match os with
  | [.im i, .im j] => match seqI i, seqI j with
    | some l, some m => ret (zipI l m)
    | _, _ => fun _ => none
  | _ => fun _ => none
/-- a source that stays -/
def Src.fz (K : PySem.W.Frag) (g : Gh) (H : Hp) : Src → List V → Prop
  | .L a, xs => FzL K g H a xs
  | .T a, xs => SqT K H a xs
  | .S x, xs => xs = signsV x
theorem Src.fz_has {K : PySem.W.Frag} {A : Src} {xs} (h : A.fz K g H xs) : A.has K H xs := by
  cases A with
  | L a => exact FzL.sq h
  | T a => exact h
  | S x => exact h
theorem Src.fz_ch {A : Src} {xs FX} (h : A.fz P.K g H xs) (c : Ch FX g H g' H') : A.fz P.K g' H' xs := by
  cases A with
  | L a => exact c.lst h
  | T a => exact c.tup h
  | S x => exact h
theorem seqI_src {i : I} {l : List I} {v : V} (h : seqI i = some l) (r : RepI P g H i v) : ∃ (A : Src) (xs : List V), v = A.val ∧ A.fz P.K g H xs ∧ RepIL P g H l xs := by
  unfold seqI at h
  split at h
  · cases h
    cases r with
    | lst a b => exact ⟨.L _, _, rfl, a, b⟩
  · cases h
    cases r with
    | tup a b => exact ⟨.T _, _, rfl, a.sq, b⟩
  · cases h
    cases r with
    | str =>
      rename_i x
      refine ⟨.S x, signsV x, rfl, rfl, ?_⟩
      unfold signsV chars
      generalize x.cps.toList = cs
      induction cs with
      | nil => exact .nil
      | cons c cs ih => exact .cons (.str _) ih
  · cases h
theorem zipI_len : ∀ {l m : List I}, (zipI l m).length = min l.length m.length
  | [], _ => by simp [zipI]
  | _ :: _, [] => by simp [zipI]
  | a :: l, b :: m => by
    simp only [zipI, List.length_cons, zipI_len]
    omega
theorem gives_zipM {A B : Src} {l m vs ws} (h : A.fz P.K g H vs) (r : RepIL P g H l vs) (h' : B.fz P.K g H ws) (r' : RepIL P g H m ws) : Gives P g H (zipI l m) (ItzM P.K A B) := fun g2 H2 FX c => by
  have h2 := Src.fz_has (Src.fz_ch h c)
  have r2 := r.ch c
  have h2' := Src.fz_has (Src.fz_ch h' c)
  have r2' := r'.ch c
  have e1 := r.len
  have e2 := r'.len
  refine ⟨fun i x e => ?_, vs, ws, h2, h2', by rw [zipI_len]; omega, by rw [zipI_len]; omega, by rw [zipI_len]; omega⟩
  obtain ⟨y, z, e1, e2, rfl⟩ := zip_get e
  obtain ⟨v, ev, rv⟩ := r2.get e1
  obtain ⟨w, ew, rw'⟩ := r2'.get e2
  refine ⟨⟨vs, ws, v, w, h2, h2', ev, ew⟩, fun u H3 z => ?_⟩
  obtain ⟨T, x, y', rfl, hT, rfl, q1, q2⟩ := z
  have := q1 vs h2
  rw [ev] at this; cases this
  have := q2 ws h2'
  rw [ew] at this; cases this
  have cn : Ch emp g2 H2 g2 (upd H2 T (.tup [v, w])) := .new hT
  exact ⟨.inr ⟨T, _, hT, rfl⟩, .tup (.of upd_same) (.cons (rv.ch cn) (.cons (rw'.ch cn) .nil))⟩
theorem ev_zpM {f : AM} {p tpos : Pos} {elts : List Expr} {kk : Nat} (hm : X.mg "zip" = none) (ha : PA X [a, b] (OkA ⟨X.K, n⟩ W f)) (hg : Gl X "zip" := by rfl) (hs : starEach [a, b] X.env = (false, eval a X.env) :: starEach [b] X.env := by rfl) (hpl : (backTo pos (starEach [b] X.env)).any (·.1) = false := by rfl) : PI X (.Tuple elts kk tpos) (.Call (.Name "zip" p) [a, b] [] pos) (OkI ⟨X.K, n⟩ W (itZm f)) := by
  refine ⟨fun pins s σ H R Iv hw => (pi_zipM hg hm ha hs hpl).run pins s σ H R Iv ?_⟩
  obtain ⟨g, st, F, rs, q⟩ := hw
  refine ⟨g, st, F, rs, q.bnd.imp (fun s os k g1 H1 F1 vs Fv p r => ?_) fun _ _ _ z => z⟩
  split at k
  · rename_i i j
    obtain ⟨x, y, G, G', rfl, rx, ry⟩ := r.two
    split at k
    · rename_i l m hl hm
      obtain ⟨A, xs, rfl, a1, a2⟩ := seqI_src hl rx.im_inv
      obtain ⟨B, ys, rfl, b1, b2⟩ := seqI_src hm ry.im_inv
      exact ⟨A, B, xs, ys, rfl, Src.fz_has a1, Src.fz_has b1, RunAt.ret k g1 H1 F1 _ p.drop (gives_zipM a1 a2 b1 b2)⟩
    · exact k.elim
  · exact k.elim
end
end VS

namespace VS
open PySem L2
section
variable {α β : Type} {st : VS.St} {sl sto : List O} {ex : VS.St → Nat → List I → Prop}
@[simp] theorem seqI_lst {l : List I} : seqI (.lst l) = some l := rfl
@[simp] theorem seqI_tup {l : List I} : seqI (.tup l) = some l := rfl
@[simp] theorem seqI_str {x : Str} : seqI (.str x) = some (chars x) := rfl
theorem r_itZm {a b : EM} {ok : VS.St → List I → Prop} : Run (itZm (aCons a (aCons b aNil))) st ok ex ↔ Run a st (fun s x => Run b s (fun s y => ∃ i j l m, x = .im i ∧ y = .im j ∧ seqI i = some l ∧ seqI j = some m ∧ ok s (zipI l m)) ex) ex := by
  unfold itZm
  simp only [r_bnd, r_aCons, r_aNil]
  refine iff_of_eq (congrArg (fun z => Run a st z ex) ?_)
  funext s x
  refine congrArg (fun z => Run b s z ex) ?_
  funext s y
  refine propext ?_
  split
  · rename_i i j e
    simp only [List.cons.injEq, and_true] at e
    obtain ⟨rfl, rfl⟩ := e
    split
    · rename_i l m hl hm
      constructor
      · intro h
        exact ⟨i, j, l, m, rfl, rfl, hl, hm, run_iff.mp h⟩
      · rintro ⟨i', j', l', m', e1, e2, h1, h2, h⟩
        cases e1; cases e2
        rw [hl] at h1; rw [hm] at h2
        cases h1; cases h2
        exact run_iff.mpr h
    · rename_i hno
      constructor
      · intro h; exact (run_iff.mp h).elim
      · rintro ⟨i', j', l', m', e1, e2, h1, h2, h⟩
        cases e1; cases e2
        exact absurd h2 (hno l' m' h1)
  · rename_i hno
    constructor
    · intro h; exact (run_iff.mp h).elim
    · rintro ⟨i', j', l', m', rfl, rfl, h1, h2, h⟩
      exact (hno i' j' rfl).elim
theorem r_eGet {fd fk fx : OM} {ok : VS.St → O → Prop} : Run (eGet fd fk fx) st ok ex ↔ Run fd st (fun s d => ∃ t kvs, fl s d = some (.dct t kvs) ∧ Run fk s (fun s k => Run fx s (fun s x => Run (rd fGet [d, k, x]) s ok ex) ex) ex) ex := by
  unfold eGet
  simp only [r_bnd]
  refine iff_of_eq (congrArg (fun z => Run fd st z ex) ?_)
  funext s d
  refine propext ?_
  rw [run_iff]
  unfold RunAt isDc
  cases hf : fl s d with
  | none => simp
  | some i =>
    cases i with
    | dct t kvs => simp
    | _ => simp
end
end VS

namespace VS
open PySem L2
/-- what stands between two statements -/
theorem r_cut {m k : SM} {st : VS.St} {ok : VS.St → VS.Fl → Prop} {ex : VS.St → Nat → List I → Prop} (Inv : VS.St → Prop)
    (h1 : Run m st (fun s f => match f with | .nx => Inv s | f => ok s f) ex) (h2 : ∀ s, Inv s → Run k s ok ex) : Run (sSeq m k) st ok ex := by
  rw [r_sSeq]
  refine h1.imp (fun s f q => ?_) fun _ _ _ q => q
  cases f with
  | nx => rw [thenR_nx]; exact h2 s q
  | rt o => rw [thenR_rt]; exact q
  | bk => rw [thenR_bk]; exact q
  | ct => rw [thenR_ct]; exact q
theorem r_assoc {a b k : SM} {st : VS.St} {ok : VS.St → VS.Fl → Prop} {ex : VS.St → Nat → List I → Prop} : Run (sSeq a (sSeq b k)) st ok ex ↔ Run (sSeq (sSeq a b) k) st ok ex := by
  rw [r_sSeq, r_sSeq, r_sSeq]
  constructor
  · refine fun h => h.imp (fun s f q => ?_) fun _ _ _ q => q
    cases f with
    | nx => rw [thenR_nx] at q ⊢; rw [r_sSeq] at q; exact q
    | rt o => rw [thenR_rt] at q ⊢; rw [thenR_rt]; exact q
    | bk => rw [thenR_bk] at q ⊢; rw [thenR_bk]; exact q
    | ct => rw [thenR_ct] at q ⊢; rw [thenR_ct]; exact q
  · refine fun h => h.imp (fun s f q => ?_) fun _ _ _ q => q
    cases f with
    | nx => rw [thenR_nx] at q ⊢; rw [r_sSeq]; exact q
    | rt o => rw [thenR_rt] at q ⊢; rw [thenR_rt] at q; exact q
    | bk => rw [thenR_bk] at q ⊢; rw [thenR_bk] at q; exact q
    | ct => rw [thenR_ct] at q ⊢; rw [thenR_ct] at q; exact q
theorem cutI_hd {α : Type} (l : List α) (k : Nat) (h : k ≤ l.length) : cutI l none (some (k : Int)) = l.take k := by
  unfold cutI HT.sIx
  have n1 : ¬ (k : Int) < 0 := by omega
  have n2 : min k l.length = k := by omega
  simp [n1, n2]
theorem cutI_tl {α : Type} (l : List α) (k : Nat) (h : k ≤ l.length) : cutI l (some (k : Int)) none = l.drop k := by
  unfold cutI HT.sIx
  have n1 : ¬ (k : Int) < 0 := by omega
  have n2 : min k l.length = k := by omega
  simp [n1, n2]
  exact List.take_of_length_le (by simp)
theorem sl_hd (l : List I) (k : Nat) (h : k ≤ l.length) : fSl none (some (k : Int)) [.lst l] = some (.lst ((l.take k).map .im)) := by
  show some (O.lst ((cutI l none (some (k : Int))).map .im)) = _
  rw [cutI_hd _ _ h]
theorem sl_tl (l : List I) (k : Nat) (h : k ≤ l.length) : fSl (some (k : Int)) none [.lst l] = some (.lst ((l.drop k).map .im)) := by
  show some (O.lst ((cutI l (some (k : Int)) none).map .im)) = _
  rw [cutI_tl _ _ h]
theorem sl_hdT (l : List I) (k : Nat) (h : k ≤ l.length) : fSl none (some (k : Int)) [.tup l] = some (.im (.tup (l.take k))) := by
  show some (O.im (.tup (cutI l none (some (k : Int))))) = _
  rw [cutI_hd _ _ h]
theorem sl_tlT (l : List I) (k : Nat) (h : k ≤ l.length) : fSl (some (k : Int)) none [.tup l] = some (.im (.tup (l.drop k))) := by
  show some (O.im (.tup (cutI l (some (k : Int)) none))) = _
  rw [cutI_tl _ _ h]
theorem split_at {α : Type} {l : List α} {k : Nat} (h : k < l.length) : ∃ a x b, l = a ++ x :: b ∧ a.length = k ∧ l.take k = a ∧ l.drop (k + 1) = b ∧ l.drop k = x :: b ∧ l[k]? = some x := by
  refine ⟨l.take k, l[k], l.drop (k + 1), ?_, by simp; omega, rfl, rfl, ?_, by simp [h]⟩
  · rw [List.getElem_cons_drop, List.take_append_drop]
  · rw [List.getElem_cons_drop]
theorem add_l {l m : List I} : fAdd [.lst l, .lst m] = if l.length + m.length ≤ sizeLine then some (.lst ((l ++ m).map .im)) else none := rfl
theorem add_t {l m : List I} : fAdd [.tup l, .tup m] = if l.length + m.length ≤ sizeLine then some (.im (.tup (l ++ m))) else none := rfl
theorem add_l' {l m : List I} (h : l.length + m.length ≤ sizeLine) : fAdd [.lst l, .lst m] = some (.lst ((l ++ m).map .im)) := by rw [add_l, if_pos h]
theorem add_t' {l m : List I} (h : l.length + m.length ≤ sizeLine) : fAdd [.tup l, .tup m] = some (.im (.tup (l ++ m))) := by rw [add_t, if_pos h]
end VS

namespace VS
open PySem PySem.Spec PyProof.Rows L2
/-! ### instances: shared objects with fields -/
def lkO (f : Str) : List (Str × O) → Option O
  | [] => none
  | (g, x) :: r => if g = f then some x else lkO f r
def putO (f : Str) (o : O) : List (Str × O) → List (Str × O)
  | [] => [(f, o)]
  | (g, x) :: r => if g = f then (g, o) :: r else (g, x) :: putO f o r
/-- the instance that a value names -/
def insAt (st : VS.St) : O → Option (Nat × Nat × List (Str × O))
  | .im (.ref r) => match st.sto[r]? with
    | some (.ins c fs) => if c < 8 then some (r, c, fs) else none
    | _ => none
  | _ => none
def rdF (f : Str) (o : O) : EM := fun st => match insAt st o with
  | some (_, _, fs) => match lkO f fs with
    | some (.im i) => some (.ok (.im i), st)
    | _ => none
  | none => none
/-- e.f -/
def eFld (m : EM) (f : Str) : EM := bnd m (rdF f)
def setF (f : Str) (x o : O) : M Unit := fun st => match insAt st x with
  | some (r, c, fs) => if fs.length < 1000 then some (.ok (), ⟨st.sl, st.sto.set r (.ins c (putO f o fs))⟩) else none
  | none => none
/-- e.f = m -/
def sFld (e : EM) (f : Str) (m : EM) : SM := bnd m fun o => bnd e fun x => bnd (setF f x o) fun _ => ret .nx
/-- e.f op= m -/
def clsOf (x : O) : M Nat := fun st => match insAt st x with
  | some (_, c, _) => some (.ok c, st)
  | none => none
def sFldA (e : EM) (f : Str) (op : List I → Option O) (m : EM) : SM := bnd e fun x => bnd (clsOf x) fun c => bnd (rdF f x) fun a => bnd m fun b => bnd (rd op [.o a, .o b]) fun o =>
  bnd (clsOf x) fun c' => if c' = c then bnd (setF f x o) fun _ => ret .nx else lift none
/-- fields of plain classes -/
def FldOk (P : Pg) (f : Str) : Prop := ∀ c C, c < 8 → P.n.cl c = some C → Cls P.K C ∧ NoAttr P.K C f
section
variable {n : Pn} {W : WX} {X : Cx} {P : Pg} {e a b c value : Expr} {es : List Expr} {g g' g0 : Gh} {H H' H0 : Hp} {st st' : VS.St} {σ : L2.St} {F F' F0 : Lo → Fp} {FX Fv : Fp} {pos pos' tpos : Pos} {io : List Nat} {D : Ends} {f : Str}
theorem lku {x f : Str} {v : V} {fs : List (Str × V)} : List.lookup f ((x, v) :: fs) = if x = f then some v else List.lookup f fs := by
  rw [List.lookup_cons]
  by_cases q : x = f
  · subst q; simp
  · have : (f == x) = false := by simpa using fun z => q z.symm
    rw [this, if_neg q]
theorem lkO_rep {f : Str} : ∀ {fs : List (Str × O)} {fs' : List (Str × V)} {Fq : Fp} {o : O}, fs.map Prod.fst = fs'.map Prod.fst → RepOL P g H (fs.map Prod.snd) (fs'.map Prod.snd) Fq → lkO f fs = some o → ∃ v G, fs'.lookup f = some v ∧ RepO P g H o v G
  | [], fs', _, o, _, _, h => by cases h
  | (x, a) :: fs, [], _, o, e, _, _ => by simp at e
  | (x, a) :: fs, (y, v) :: fs', _, o, e, r, h => by
    simp only [List.map_cons, List.cons.injEq] at e
    obtain ⟨e1, e2⟩ := e
    subst e1
    cases r with
    | cons ra rb d =>
      unfold lkO at h
      by_cases q : x = f
      · rw [if_pos q] at h
        cases h
        exact ⟨v, _, by rw [lku, if_pos q], ra⟩
      · rw [if_neg q] at h
        obtain ⟨v', G, h1, h2⟩ := lkO_rep e2 rb h
        exact ⟨v', G, by rw [lku, if_neg q]; exact h1, h2⟩
theorem putO_rep {f : Str} {o : O} {v : V} {Fv : Fp} (ro : RepO P g H o v Fv) : ∀ {fs : List (Str × O)} {fs' : List (Str × V)} {Fq : Fp}, fs.map Prod.fst = fs'.map Prod.fst → RepOL P g H (fs.map Prod.snd) (fs'.map Prod.snd) Fq → Fp.dj Fq Fv →
    (putO f o fs).map Prod.fst = (putF f v fs').map Prod.fst ∧ ∃ G, RepOL P g H ((putO f o fs).map Prod.snd) ((putF f v fs').map Prod.snd) G ∧ ∀ b, G b → Fq b ∨ Fv b
  | [], [], Fq, _, r, _ => ⟨rfl, _, .cons ro .nil (fun _ _ h => h), fun b h => h.elim .inr fun h => h.elim⟩
  | [], _ :: _, _, e, _, _ => by simp at e
  | _ :: _, [], _, e, _, _ => by simp at e
  | (x, a) :: fs, (y, w) :: fs', Fq, e, r, d => by
    simp only [List.map_cons, List.cons.injEq] at e
    obtain ⟨e1, e2⟩ := e
    subst e1
    cases r with
    | cons ra rb dd =>
      unfold putO putF
      by_cases q : x = f
      · rw [if_pos q, if_pos q]
        refine ⟨by simp [e2], _, .cons ro rb fun b h1 h2 => d b (.inr h2) h1, fun b h => h.elim .inr fun h => .inl (.inr h)⟩
      · rw [if_neg q, if_neg q]
        obtain ⟨i1, G, i2, i3⟩ := putO_rep ro e2 rb d.r
        refine ⟨by simp [i1], _, .cons ra i2 fun b h1 h2 => (i3 b h2).elim (dd b h1) (d b (.inl h1)), fun b h => ?_⟩
        rcases h with h | h
        · exact .inl (.inl h)
        · exact (i3 b h).imp .inr id
/-- what a value names stands there -/
theorem insAt_rep {o : O} {v : V} {r c : Nat} {fs : List (Str × O)} (rs : RepS P g H st σ F) (ro : RepO P g H o v Fv) (h : insAt st o = some (r, c, fs)) :
    ∃ p C dx fs' G, o = .im (.ref r) ∧ v = .ref p ∧ g.rho[r]? = some p ∧ st.sto[r]? = some (.ins c fs) ∧ c < 8 ∧ P.n.cl c = some C ∧ H p = some (.ins C dx fs') ∧ ¬ g.Z p ∧ fs.map Prod.fst = fs'.map Prod.fst ∧ RepOL P g H (fs.map Prod.snd) (fs'.map Prod.snd) G ∧ ¬ G p ∧ F (.inr r) = ins1 p G := by
  unfold insAt at h
  cases ro with
  | im ri =>
    cases ri with
    | ref hr =>
      rename_i r' p
      simp only at h
      cases e : st.sto[r']? with
      | none => simp [e] at h
      | some x =>
        cases x with
        | ins c' fs0 =>
          simp only [e] at h
          by_cases hc : c' < 8
          · rw [if_pos hc] at h
            cases h
            obtain ⟨q, e1, rr⟩ := rs.sto _ _ e
            rw [hr] at e1
            cases e1
            generalize hF : F (.inr r) = Fk at rr
            cases rr with
            | ins q1 q2 q3 q4 q5 q6 => exact ⟨p, _, _, _, _, rfl, rfl, hr, e, hc, q1, q2, q3, q4, q5, q6, rfl⟩
          · rw [if_neg hc] at h; cases h
        | _ => simp [e] at h
    | _ => cases h
  | _ => cases h
theorem RunAt.rdF {f : Str} {o : O} {ok ex} (h : RunAt (rdF f o) st ok ex) : ∃ r c fs i, insAt st o = some (r, c, fs) ∧ lkO f fs = some (.im i) ∧ ok st (.im i) := by
  unfold RunAt VS.rdF at h
  cases e : insAt st o with
  | none => simp [e] at h
  | some z =>
    obtain ⟨r, c, fs⟩ := z
    simp only [e] at h
    cases e2 : lkO f fs with
    | none => simp [e2] at h
    | some x =>
      cases x with
      | im i => simp only [e2] at h; exact ⟨r, c, fs, i, rfl, e2, h⟩
      | _ => simp [e2] at h
theorem fld_go {m : EM} (K : FldOk P f) {Q : VK} (h : OkE P W (eFld m f) σ H Q) : tFld P.K (OkE P W m) f σ H Q := by
  obtain ⟨g, st, F, rs, q⟩ := h
  refine ⟨g, st, F, rs, q.bnd.imp (fun s o k g1 H1 F1 v Fv p ro => ?_) fun _ _ _ z => z⟩
  obtain ⟨r, c, fs, i, e1, e2, k2⟩ := k.rdF
  obtain ⟨a, C, dx, fs', G, rfl, rfl, hr, hs, hc, hC, hH, hz, hn, rl, hg, hF⟩ := insAt_rep p.rs ro e1
  obtain ⟨w, G', l1, l2⟩ := lkO_rep hn rl e2
  obtain ⟨c1, c2⟩ := K c C hc hC
  refine ⟨a, C, dx, fs', w, rfl, hH, c1, c2, l1, ?_⟩
  exact k2 g1 H1 F1 w emp p.drop (.im l2.im_inv)
theorem ev_fld {m : EM} (K : FldOk ⟨X.K, n⟩ f) (h : PE X e (OkE ⟨X.K, n⟩ W m)) (hb : attributeBase e f X.env (eval e X.env) = eval e X.env := by rfl) : PE X (.Attribute e f pos) (OkE ⟨X.K, n⟩ W (eFld m f)) :=
  PE.imp (pe_fld h hb) fun σ H Q q => fld_go (P := ⟨X.K, n⟩) K q
theorem RunAt.setF {f : Str} {x o : O} {ok ex} (h : RunAt (setF f x o) st ok ex) : ∃ r c fs, insAt st x = some (r, c, fs) ∧ fs.length < 1000 ∧ ok ⟨st.sl, st.sto.set r (.ins c (putO f o fs))⟩ () := by
  unfold RunAt VS.setF at h
  cases e : insAt st x with
  | none => simp [e] at h
  | some z =>
    obtain ⟨r, c, fs⟩ := z
    simp only [e] at h
    by_cases hl : fs.length < 1000
    · rw [if_pos hl] at h
      exact ⟨r, c, fs, rfl, hl, h⟩
    · rw [if_neg hl] at h
      exact h.elim
theorem fst_len {α β : Type} {l : List (Str × α)} {m : List (Str × β)} (h : l.map Prod.fst = m.map Prod.fst) : l.length = m.length := by
  have := congrArg List.length h
  simpa using this
/-- a field's store, behind the value -/
theorem set_post {o : O} {r c : Nat} {fs : List (Str × O)} {a C dx : Addr} {fs' : List (Str × V)} {G : Fp} {y : V} (p : PostS P g0 H0 F0 g H F st σ Fv) (ro : RepO P g H o y Fv)
    (hr : g.rho[r]? = some a) (hs : st.sto[r]? = some (.ins c fs)) (hC : P.n.cl c = some C) (hH : H a = some (.ins C dx fs')) (hz : ¬ g.Z a) (hn : fs.map Prod.fst = fs'.map Prod.fst) (rl : RepOL P g H (fs.map Prod.snd) (fs'.map Prod.snd) G) (hg : ¬ G a) (hF : F (.inr r) = ins1 a G) :
    ∃ F2, PostS P g0 H0 F0 g (upd H a (.ins C dx (putF f y fs'))) F2 ⟨st.sl, st.sto.set r (.ins c (putO f o fs))⟩ σ emp := by
  have dG : Fp.dj G Fv := fun b h1 h2 => p.dj b h2 ⟨.inr r, by rw [hF]; exact .inr h1⟩
  have na : ¬ Fv a := fun h => p.dj a h ⟨.inr r, by rw [hF]; exact .inl rfl⟩
  obtain ⟨hn2, G2, rl2, sub⟩ := putO_rep (f := f) ro hn rl dG
  have na2 : ¬ G2 a := fun h => (sub a h).elim hg na
  have cs : Ch (fun b => b = a) g H g (upd H a (.ins C dx (putF f y fs'))) := .setl ⟨_, hH, rfl⟩ hz
  have rr : RepO P g (upd H a (.ins C dx (putF f y fs'))) (.ins c (putO f o fs)) (.ref a) (ins1 a G2) :=
    .ins hC upd_same hz hn2 (rl2.ch cs fun b h1 h2 => na2 (by rw [← show b = a from h2]; exact h1)) na2
  exact ⟨_, p.modL (l := .inr r) (Fw := emp) hs (fun k z => by cases z) (fun r' z => by cases z; exact hr) (by rw [hF]; exact .inl rfl) rr (fun b h => by
    rw [hF]
    rcases h with h | h
    · exact .inl (.inl h)
    · exact (sub b h).imp .inr id) (fun _ h => h.elim) (fun _ _ h => h) (fun h => h)⟩
theorem sfld_go {m mv : EM} (K : FldOk P f) (h : OkS P W io (sFld m f mv) D σ H) : L2.sFld P.K (OkE P W m) (OkE P W mv) f D σ H := by
  obtain ⟨g, st, F, rs, hio, q⟩ := h
  refine ⟨g, st, F, rs, q.bnd.imp (fun s o k g1 H1 F1 y Fv p ro => ⟨g1, s, F1, p.rs, k.bnd.imp (fun s2 x k2 g2 H2 F2 vx Fx p2 rx => ?_) fun _ _ _ z => exc_step p z⟩) fun _ _ _ z => z⟩
  obtain ⟨p3, ro2, _⟩ := p.both ro p2
  obtain ⟨r, c, fs, e1, hl, k3⟩ := k2.bnd.setF
  obtain ⟨a, C, dx, fs', G, rfl, rfl, hr, hs, hc, hC, hH, hz, hn, rl, hg, hF⟩ := insAt_rep p3.rs rx e1
  obtain ⟨c1, c2⟩ := K c C hc hC
  have px : PostS P g H F g2 H2 F2 s2 σ Fv := ⟨p3.rs, fun b h k => p3.dj b (.inl h) k, p3.ch, fun b h => p3.sub b (h.imp id .inl), p3.pn⟩
  obtain ⟨F3, p4⟩ := set_post (f := f) px ro2 hr hs hC hH hz hn rl hg hF
  refine ⟨a, C, dx, fs', rfl, hH, c1, c2, by rw [← fst_len hn]; exact hl, ?_⟩
  exact k3.ret g2 _ F3 σ p4
theorem sv_fld {m mv : EM} (K : FldOk ⟨X.K, n⟩ f) (ha : PE X a (OkE ⟨X.K, n⟩ W m)) (hv : PE X value (OkE ⟨X.K, n⟩ W mv)) (hs : swapsWith value (some (.Attribute a f pos')) pos.line X.env = pure false := by rfl) :
    PS X (.Assign [.Attribute a f pos'] value pos) (OkS ⟨X.K, n⟩ W io (sFld m f mv)) := PS.imp (ps_fld ha hv hs) fun _ _ _ h => sfld_go (P := ⟨X.K, n⟩) K h
/-- e.f op= v -/
theorem RunAt.clsOf {x : O} {ok ex} (h : RunAt (clsOf x) st ok ex) : ∃ r c fs, insAt st x = some (r, c, fs) ∧ ok st c := by
  unfold RunAt VS.clsOf at h
  cases e : insAt st x with
  | none => simp [e] at h
  | some z =>
    obtain ⟨r, c, fs⟩ := z
    simp only [e] at h
    exact ⟨r, c, fs, rfl, h⟩
theorem sflda_go {m mv : EM} {op : List I → Option O} {rd : V → V → Hp → VK → Prop} (K : FldOk P f) (hop : ∀ (x y : V) (H : Hp) (Q : VK), RdOp P op [x, y] H Q → rd x y H Q) (h : OkS P W io (sFldA m f op mv) D σ H) : L2.sFldAug P.K (OkE P W m) (OkE P W mv) rd f D σ H := by
  obtain ⟨g, st, F, rs, hio, q⟩ := h
  refine ⟨g, st, F, rs, q.bnd.imp (fun s x k g1 H1 F1 vx Fx p rx => ?_) fun _ _ _ z => z⟩
  obtain ⟨r0, c0, fs0, e0, k0⟩ := k.bnd.clsOf
  obtain ⟨r, c, fs, i, e1, e2, k1⟩ := k0.bnd.rdF
  rw [e0] at e1
  cases e1
  obtain ⟨a, C, dx, fs', G, rfl, rfl, hr, hs, hc, hC, hH, hz, hn, rl, hg, hF⟩ := insAt_rep p.rs rx e0
  obtain ⟨w, G', l1, l2⟩ := lkO_rep hn rl e2
  obtain ⟨c1, c2⟩ := K _ C hc hC
  have p' := p.drop
  refine ⟨a, C, dx, fs', w, rfl, hH, c1, c2, l1, g1, s, F1, p.rs, k1.bnd.imp (fun s2 o k2 g2 H2 F2 y Fv p2 ro => ?_) fun _ _ _ z => exc_step p' z⟩
  have p3 := p'.trans p2
  have ra : RepOp P g2 H2 σ (.o (.im i)) w emp := RepO.im (l2.im_inv.ch p2.ch)
  have rb : RepOp P g2 H2 σ (.o o) y Fv := ro
  have e3 : un emp (un Fv emp) = Fv := by funext b; simp [un, emp]
  have p4 : PostS P g H F g2 H2 F2 s2 σ (un emp (un Fv emp)) := by rw [e3]; exact p3
  obtain ⟨z, k3, go⟩ := rd_same p4 (.cons ra (.one rb) fun _ h => h.elim) k2.bnd
  refine hop _ _ _ _ (go _ fun g3 H3 v3 Fw pr => ?_)
  have p5 := p4.read pr
  have rx3 : RepO P g3 H3 (.im (.ref r0)) (.ref a) emp := .im ((rx.im_inv.ch p2.ch).ch pr.ch)
  obtain ⟨r3, c3, fs3, e6, k5⟩ := k3.bnd.clsOf
  by_cases hcc : c3 = c0
  · rw [if_pos hcc] at k5
    obtain ⟨r', c', fs2, e5, hl, k4⟩ := k5.bnd.setF
    rw [e6] at e5
    cases e5
    obtain ⟨a', C', dx', fs2', G2, eo, ev, hr', hs', hc', hC', hH', hz', hn', rl', hg', hF'⟩ := insAt_rep p5.rs rx3 e6
    cases eo
    cases ev
    subst hcc
    rw [hC] at hC'
    cases hC'
    obtain ⟨F3, p6⟩ := set_post (f := f) p5 pr.ro hr' hs' hC hH' hz' hn' rl' hg' hF'
    exact ⟨dx', fs2', hH', by rw [← fst_len hn']; exact hl, k4.ret g3 _ F3 σ p6⟩
  · rw [if_neg hcc] at k5
    exact k5.elim
theorem sv_flda {m mv : EM} {op : Operator} {fo : List I → Option O} (K : FldOk ⟨X.K, n⟩ f) (ho : PIp X op fun x y => RdOp ⟨X.K, n⟩ fo [x, y]) (ha : PE X a (OkE ⟨X.K, n⟩ W m)) (hv : PE X value (OkE ⟨X.K, n⟩ W mv)) :
    PS X (.AugAssign (.Attribute a f tpos) op value pos) (OkS ⟨X.K, n⟩ W io (sFldA m f fo mv)) := PS.imp (ps_fldaug ha hv (fun pins s σ H x y u v Q I rx ry h => ho pins s σ H x y u v Q I rx ry h)) fun _ _ _ h => sflda_go (P := ⟨X.K, n⟩) K (fun _ _ _ _ q => q) h
end
end VS

namespace VS
open PySem PySem.Spec PyProof.Rows L2
/-! ### methods, and instances made -/
def isC (c : Nat) (m : Str) (x : O) : M Unit := fun st => match insAt st x with
  | some (_, c', fs) => if c' = c ∧ (lkO m fs).isNone = true then some (.ok (), st) else none
  | none => none
/-- rc.m(a) -/
def eMeth (c : Nat) (m : Str) (np : Nat) (io : List Nat) (fn : Fn) (ds : List I) (rc : EM) (a : OL) : EM := bnd rc fun x => bnd (isC c m x) fun _ => bnd a fun ops =>
  if ops.length + ds.length + 1 = np then callK io fn (.o x :: (ops ++ ds.map fun i => .o (.im i))) else lift none
def alloc (c : Nat) : M Nat := fun st => some (.ok st.sto.length, ⟨st.sl, st.sto ++ [.ins c []]⟩)
def isNon' (r : Nat) : O → EM
  | .im .non => ret (.im (.ref r))
  | _ => lift none
/-- C(a) -/
def eMake (c np : Nat) (io : List Nat) (fn : Fn) (ds : List I) (a : OL) : EM := bnd a fun ops =>
  if ops.length + ds.length + 1 = np then bnd (alloc c) fun r => bnd (callK io fn (.o (.im (.ref r)) :: (ops ++ ds.map fun i => .o (.im i)))) (isNon' r) else lift none
section
variable {n : Pn} {W : WX} {X : Cx} {P : Pg} {e a b o : Expr} {es : List Expr} {g g' g0 : Gh} {H H' H0 : Hp} {st st' : VS.St} {σ : L2.St} {F F' F0 : Lo → Fp} {FX Fv Fo : Fp} {p pos apos : Pos} {io : List Nat} {x m : Str} {k j N np c : Nat} {f C : Addr} {fd : FuncData} {ps : List Str} {fn : Fn} {sp : Sp} {dI : List I}
/-- the store grows by one of two values -/
theorem PostS.box2 {o : O} {p : Addr} (q : PostS P g0 H0 F0 g H F st σ (un Fo Fv)) (dd : Fp.dj Fo Fv) (r : RepO P g H o (.ref p) Fo) :
    PostS P g0 H0 F0 { g with rho := g.rho ++ [p] } H (upF F (.inr st.sto.length) Fo) ⟨st.sl, st.sto ++ [o]⟩ σ Fv := by
  have c : Ch emp g H { g with rho := g.rho ++ [p] } H := .rho1
  have ne : ∀ {r o'}, st.sto[r]? = some o' → (Sum.inr r : Lo) ≠ .inr st.sto.length := fun {r o'} h z => by
    cases z
    simp at h
  have nel : ∀ {i}, (Sum.inl i : Lo) ≠ .inr st.sto.length := fun {i} z => by cases z
  refine ⟨⟨q.rs.len, fun i x h => ?_, fun r x h => ?_, ?_, fun l m h b x y => ?_, fun i b h x => ?_, fun r b h x => ?_, q.rs.pin, q.rs.zd⟩, fun b h1 h2 => ?_, q.ch.trans c fun _ h => h.elim, fun b x => ?_, q.pn⟩
  · rw [upF_ne nel]
    exact (q.rs.slot i x h).imp id fun ⟨v, e, z⟩ => ⟨v, e, z.ch c fun _ _ h => h.elim⟩
  · have h' : (st.sto ++ [o])[r]? = some x := h
    by_cases hr : r < st.sto.length
    · rw [List.getElem?_append_left hr] at h'
      obtain ⟨t, e, z⟩ := q.rs.sto r x h'
      rw [upF_ne (ne h')]
      exact ⟨t, c.at e, z.ch c fun _ _ h => h.elim⟩
    · rw [List.getElem?_append_right (by omega)] at h'
      have e0 : r = st.sto.length := by
        have := (List.getElem?_eq_some_iff.mp h').1
        simp at this
        omega
      subst e0
      simp at h'
      subst h'
      rw [upF_same]
      refine ⟨p, ?_, RepO.ch c ‹_› fun _ _ h => h.elim⟩
      show (g.rho ++ [p])[st.sto.length]? = some p
      rw [← q.rs.ln]
      simp
  · show (g.rho ++ [p]).length = (st.sto ++ [o]).length
    simp [q.rs.ln]
  · by_cases h1 : l = .inr st.sto.length
    · subst h1
      rw [upF_same] at x
      rw [upF_ne (Ne.symm h)] at y
      exact q.dj b (.inl x) ⟨m, y⟩
    · rw [upF_ne h1] at x
      by_cases h2 : m = .inr st.sto.length
      · subst h2
        rw [upF_same] at y
        exact q.dj b (.inl y) ⟨l, x⟩
      · rw [upF_ne h2] at y
        exact q.rs.dj l m h b x y
  · rw [upF_ne nel] at x
    exact q.rs.out1 i b h x
  · have h' : st.sto.length + 1 ≤ r := by simpa using h
    rw [upF_ne (fun z => by cases z; omega)] at x
    exact q.rs.out2 r b (by omega) x
  · rcases tot_up h2 with ⟨l, _, y⟩ | y
    · exact q.dj b (.inr h1) ⟨l, y⟩
    · exact dd b y h1
  · rcases x with x | x
    · rcases tot_up x with ⟨l, _, x⟩ | x
      · exact q.sub b (.inl ⟨l, x⟩)
      · exact q.sub b (.inr (.inl x))
    · exact q.sub b (.inr (.inr x))
/-- a method that may be called -/
structure CMeth (Pr : Program) (w : World) (K : PySem.W.Frag) (mg : Str → Option Value) (base : Heap) (n : Pn) (c : Nat) (m : Str) (k N np : Nat) (io : List Nat) (fn : Fn) (dI : List I) : Prop where
  ex : ∃ C f fd ps ds dvs, c < 8 ∧ n.cl c = some C ∧ Cls K C ∧ Meth K C m f ∧ FnG Pr w K mg base k f fd ps (spOf ⟨K, n⟩ N np io fn) ∧ Binds K fd ps ds ∧ Vals dvs ds ∧ ∀ g H, RepIL ⟨K, n⟩ g H dI dvs
theorem CMeth.of {Pr : Program} {w : World} {K : PySem.W.Frag} {mg : Str → Option Value} {base : Heap} (hc : c < 8) (hC : n.cl c = some C) (cl : Cls K C) (hm : Meth K C m f) (G : FnG Pr w K mg base k f fd ps (spOf ⟨K, n⟩ N np io fn)) (hb : Binds K fd ps []) : CMeth Pr w K mg base n c m k N np io fn [] :=
  ⟨C, f, fd, ps, [], [], hc, hC, cl, hm, G, hb, .nil, fun _ _ => .nil⟩
theorem CMeth.up {Pr : Program} {w : World} {K : PySem.W.Frag} {mg : Str → Option Value} {base : Heap} (M : CMeth Pr w K mg base n c m j N np io fn dI) (h : j ≤ k) : CMeth Pr w K mg base n c m k N np io fn dI := by
  obtain ⟨C, f, fd, ps, ds, dvs, h1, h2, h3, h4, G, r⟩ := M
  exact ⟨C, f, fd, ps, ds, dvs, h1, h2, h3, h4, G.up h, r⟩
def tMethG (W : WX) (C : Addr) (m : Str) (sp : Sp) (dvs : List V) (ta : TE) (t : TA) : TE := fun σ H Q => ta σ H fun x H1 => ∃ a dx fs, x = .ref a ∧ H1 a = some (.ins C dx fs) ∧ fs.lookup m = none ∧
  t σ H1 fun vs H2 => sp (x :: (vs ++ dvs)) H2 Q fun cls d H' => W cls d σ H'
theorem pe_methG {pl : Sem Bool} {ta : TE} {t : TA} {ds : List Value} {dvs : List V} (he : PE X o ta) (cl : Cls X.K C) (hm : Meth X.K C m f) (G : FnG X.prog X.w X.K X.mg X.base k f fd ps sp) (ak : At X k) (hb : Binds X.K fd ps ds) (hd : Vals dvs ds) (tk : Takes X W) (ha : PA X (e :: es) t)
    (hst : starEach (e :: es) X.env = (false, eval e X.env) :: starEach es X.env := by rfl) (hpl : (backTo pos (starEach es X.env)).any (·.1) = false := by rfl)
    (ht : eval (.Call (.Attribute o m apos) (e :: es) [] pos) X.env = (do
      let ov ← eval o X.env
      standAt apos.atName
      let (f, first) ← holding [ov] (getMethod ov m pl)
      callWith pos f first (backTo pos (starEach (e :: es) X.env)) (backToKw pos (keywordEach [] X.env))) := by rfl) :
    PE X (.Call (.Attribute o m apos) (e :: es) [] pos) (tMethG W C m sp dvs ta t) := by
  refine ⟨fun pins s σ H Q I h => ?_⟩
  refine PySem.W.methodCall_KW (pl := pl) (thn (he.run pins s σ H _ I h) fun u s1 ⟨x, H1, I1, rx, a, dx, fs, ex, ea, l, q⟩ => ?_) ht
  subst ex
  obtain rfl : u = Value.ref a := rx
  refine getmeth_ok I1 ea cl hm l ?_
  refine PySem.W.callWith_K (first := [.ref a]) (h₀ := X.base) I.ok.mod.kin hm.kp (thn (ha.run pos pins s1 σ H1 _ I1 q) fun us s2 ⟨vs, H2, I2, r, q2⟩ => ⟨I2.kIn, ?_⟩) hst hpl
  exact run_g (us := .ref a :: us) (vs := .ref a :: vs) G ak hb hd tk I2 (.cons rfl r) q2
theorem pe_methG0 {pl : Sem Bool} {ta : TE} {ds : List Value} {dvs : List V} (he : PE X o ta) (cl : Cls X.K C) (hm : Meth X.K C m f) (G : FnG X.prog X.w X.K X.mg X.base k f fd ps sp) (ak : At X k) (hb : Binds X.K fd ps ds) (hd : Vals dvs ds) (tk : Takes X W)
    (ht : eval (.Call (.Attribute o m apos) [] [] pos) X.env = (do
      let ov ← eval o X.env
      standAt apos.atName
      let (f, first) ← holding [ov] (getMethod ov m pl)
      callWith pos f first (backTo pos (starEach [] X.env)) (backToKw pos (keywordEach [] X.env))) := by rfl) :
    PE X (.Call (.Attribute o m apos) [] [] pos) (tMethG W C m sp dvs ta tNil) := by
  refine ⟨fun pins s σ H Q I h => ?_⟩
  refine PySem.W.methodCall_KW (pl := pl) (thn (he.run pins s σ H _ I h) fun u s1 ⟨x, H1, I1, rx, a, dx, fs, ex, ea, l, q⟩ => ?_) ht
  subst ex
  obtain rfl : u = Value.ref a := rx
  refine getmeth_ok I1 ea cl hm l ?_
  exact PySem.W.callWith_K0 (first := [.ref a]) I1.kIn hm.kp (run_g (us := [.ref a]) (vs := [.ref a]) G ak hb hd tk I1 (.cons rfl .nil) q)
theorem RunAt.isC {x : O} {ok ex} (h : RunAt (isC c m x) st ok ex) : ∃ r fs, insAt st x = some (r, c, fs) ∧ lkO m fs = none ∧ ok st () := by
  unfold RunAt VS.isC at h
  cases e : insAt st x with
  | none => simp [e] at h
  | some z =>
    obtain ⟨r, c', fs⟩ := z
    simp only [e] at h
    by_cases hc : c' = c ∧ (lkO m fs).isNone = true
    · rw [if_pos hc] at h
      obtain ⟨rfl, h2⟩ := hc
      exact ⟨r, fs, rfl, by simpa using h2, h⟩
    · rw [if_neg hc] at h; exact h.elim
theorem lkO_none {f : Str} : ∀ {fs : List (Str × O)} {fs' : List (Str × V)}, fs.map Prod.fst = fs'.map Prod.fst → lkO f fs = none → fs'.lookup f = none
  | [], [], _, _ => rfl
  | [], _ :: _, e, _ => by simp at e
  | _ :: _, [], e, _ => by simp at e
  | (x, a) :: fs, (y, w) :: fs', e, h => by
    simp only [List.map_cons, List.cons.injEq] at e
    obtain ⟨e1, e2⟩ := e
    subst e1
    unfold lkO at h
    by_cases q : x = f
    · rw [if_pos q] at h; cases h
    · rw [if_neg q] at h
      rw [lku, if_neg q]
      exact lkO_none e2 h
/-- the call, behind self and the arguments -/
theorem meth_call {rc : EM} {al : OL} {dvs : List V} {Q : VK} (hio : ∀ i ∈ io, i < np) (hd : ∀ g H, RepIL P g H dI dvs) (hC : P.n.cl c = some C) (h : OkE P W (eMeth c m np io fn dI rc al) σ H Q) :
    OkE P W rc σ H fun v H1 => ∃ a dx fs, v = .ref a ∧ H1 a = some (.ins C dx fs) ∧ fs.lookup m = none ∧ OkOL P W al σ H1 fun vs H2 => spOf P N np io fn (v :: (vs ++ dvs)) H2 Q fun cls d H' => W cls d σ H' := by
  obtain ⟨g, st, F, rs, q⟩ := h
  refine ⟨g, st, F, rs, q.bnd.imp (fun s x k1 g1 H1 F1 vx Fx p rx => ?_) fun _ _ _ z => z⟩
  obtain ⟨r, fs, e1, e2, k2⟩ := k1.bnd.isC
  obtain ⟨a, C', dx, fs', G, rfl, rfl, hr, hs, hc, hC', hH, hz, hn, rl, hg, hF⟩ := insAt_rep p.rs rx e1
  rw [hC] at hC'
  cases hC'
  have p' := p.drop
  refine ⟨a, dx, fs', rfl, hH, lkO_none hn e2, g1, s, F1, p.rs, k2.bnd.imp (fun s2 ops k3 g2 H2 F2 vs Fv p2 ro => ?_) fun _ _ _ z => exc_step p' z⟩
  have p3 := p'.trans p2
  by_cases hl : ops.length + dI.length + 1 = np
  · rw [if_pos hl] at k3
    have rx2 : RepO P g2 H2 (.im (.ref r)) (.ref a) emp := .im (rx.im_inv.ch p2.ch)
    have rl2 : RepOpL P g2 H2 σ (.o (.im (.ref r)) :: (ops ++ dI.map fun i => .o (.im i))) (.ref a :: (vs ++ dvs)) (un emp Fv) := .cons rx2 (ro.app (hd g2 H2)) fun _ h => h.elim
    have e0 : un emp Fv = Fv := by funext b; simp [un, emp]
    rw [e0] at rl2
    have hv : (V.ref a :: (vs ++ dvs)).length = np := by
      have l1 := ro.len
      have l2 := (hd g2 H2).len
      simp only [List.length_cons, List.length_append, ← l1, ← l2]
      omega
    exact call_sp p3 rl2 hv hio k3 (fun st' o g' H' F' v Fw ok p' ro => ok g' H' F' v Fw p' ro) fun st' c i g' H' F' cls d ex p' ea => ex g' H' F' σ cls d p' ea
  · rw [if_neg hl] at k3
    exact k3.elim
/-- rc.m(e, ..) -/
theorem ev_meth {pl : Sem Bool} {rc : EM} {al : OL} (M : CMeth X.prog X.w X.K X.mg X.base n c m k N np io fn dI) (ak : At X j) (hj : k ≤ j) (tk : Takes X W) (he : PE X o (OkE ⟨X.K, n⟩ W rc)) (ha : PA X (e :: es) (OkOL ⟨X.K, n⟩ W al)) (hio : ∀ i ∈ io, i < np := by decide)
    (hst : starEach (e :: es) X.env = (false, eval e X.env) :: starEach es X.env := by rfl) (hpl : (backTo pos (starEach es X.env)).any (·.1) = false := by rfl)
    (ht : eval (.Call (.Attribute o m apos) (e :: es) [] pos) X.env = (do
      let ov ← eval o X.env
      standAt apos.atName
      let (f, first) ← holding [ov] (getMethod ov m pl)
      callWith pos f first (backTo pos (starEach (e :: es) X.env)) (backToKw pos (keywordEach [] X.env))) := by rfl) :
    PE X (.Call (.Attribute o m apos) (e :: es) [] pos) (OkE ⟨X.K, n⟩ W (eMeth c m np io fn dI rc al)) := by
  obtain ⟨C, f, fd, ps, ds, dvs, hc, hC, cl, hm, G, hb, hd, hdi⟩ := M
  exact PE.imp (pe_methG he cl hm G (ak.le hj) hb hd tk ha hst hpl ht) fun σ H Q h => meth_call hio hdi hC h
theorem ev_meth0 {pl : Sem Bool} {rc : EM} (M : CMeth X.prog X.w X.K X.mg X.base n c m k N np io fn dI) (ak : At X j) (hj : k ≤ j) (tk : Takes X W) (he : PE X o (OkE ⟨X.K, n⟩ W rc)) (hio : ∀ i ∈ io, i < np := by decide)
    (ht : eval (.Call (.Attribute o m apos) [] [] pos) X.env = (do
      let ov ← eval o X.env
      standAt apos.atName
      let (f, first) ← holding [ov] (getMethod ov m pl)
      callWith pos f first (backTo pos (starEach [] X.env)) (backToKw pos (keywordEach [] X.env))) := by rfl) :
    PE X (.Call (.Attribute o m apos) [] [] pos) (OkE ⟨X.K, n⟩ W (eMeth c m np io fn dI rc oNil)) := by
  obtain ⟨C, f, fd, ps, ds, dvs, hc, hC, cl, hm, G, hb, hd, hdi⟩ := M
  refine PE.imp (pe_methG0 he cl hm G (ak.le hj) hb hd tk ht) fun σ H Q h => ?_
  obtain ⟨g, st, F, rs, q⟩ := meth_call (N := N) hio hdi hC h
  refine ⟨g, st, F, rs, q.imp (fun s x k1 g1 H1 F1 vx Fx p rx => ?_) fun _ _ _ z => z⟩
  obtain ⟨a, dx, fs, h1, h2, h3, h4⟩ := k1 g1 H1 F1 vx Fx p rx
  obtain ⟨g2, st2, F2, rs2, q2⟩ := h4
  exact ⟨a, dx, fs, h1, h2, h3, q2.ret g2 H1 F2 [] emp (.refl rs2) .nil⟩
end
end VS

namespace VS
open PySem PySem.Spec PyProof.Rows L2
/-! ### C(..) -/
section
variable {n : Pn} {W : WX} {X : Cx} {P : Pg} {e a b o : Expr} {es : List Expr} {g g' g0 : Gh} {H H' H0 : Hp} {st st' : VS.St} {σ : L2.St} {F F' F0 : Lo → Fp} {FX Fv Fo : Fp} {p pos apos : Pos} {io : List Nat} {x m : Str} {k j N np c : Nat} {f C : Addr} {fd : FuncData} {ps : List Str} {fn : Fn} {sp : Sp} {dI : List I}
/-- a class whose instances are made by its own __init__ -/
structure CMake (Pr : Program) (w : World) (K : PySem.W.Frag) (mg : Str → Option Value) (base : Heap) (n : Pn) (c : Nat) (x : Str) (k N np : Nat) (io : List Nat) (fn : Fn) (dI : List I) : Prop where
  ex : ∃ C f fd ps ds dvs, c < 8 ∧ n.cl c = some C ∧ mg x = some (.ref C) ∧ Mk K C f ∧ FnG Pr w K mg base k f fd ps (spOf ⟨K, n⟩ N np io fn) ∧ Binds K fd ps ds ∧ Vals dvs ds ∧ ∀ g H, RepIL ⟨K, n⟩ g H dI dvs
theorem CMake.of {Pr : Program} {w : World} {K : PySem.W.Frag} {mg : Str → Option Value} {base : Heap} (hc : c < 8) (hC : n.cl c = some C) (hm : mg x = some (.ref C)) (mk : Mk K C f) (G : FnG Pr w K mg base k f fd ps (spOf ⟨K, n⟩ N np io fn)) (hb : Binds K fd ps []) : CMake Pr w K mg base n c x k N np io fn [] :=
  ⟨C, f, fd, ps, [], [], hc, hC, hm, mk, G, hb, .nil, fun _ _ => .nil⟩
def tMakeG (W : WX) (C : Addr) (sp : Sp) (dvs : List V) (t : TA) : TE := fun σ H Q => t σ H fun vs H1 => ∀ x dx, H1 x = none → H1 dx = none → dx ≠ x →
  sp (.ref x :: (vs ++ dvs)) (upd (upd H1 dx (.own x)) x (.ins C dx [])) (fun v H2 => v = .non ∧ Q (.ref x) H2) fun cls d H' => W cls d σ H'
theorem run_makeG {pins : List (Addr × Obj)} {s : Shared} {Q : VK} {us ds : List Value} {vs dvs : List V} (M : Mk X.K C f) (G : FnG X.prog X.w X.K X.mg X.base k f fd ps sp) (ak : At X (k + 1)) (hb : Binds X.K fd ps ds) (hd : Vals dvs ds)
    (tk : Takes X W) (I : Inv X pins σ H s) (r : Vals vs us)
    (h : ∀ x dx, H x = none → H dx = none → dx ≠ x → sp (.ref x :: (vs ++ dvs)) (upd (upd H dx (.own x)) x (.ins C dx [])) (fun v H2 => v = .non ∧ Q (.ref x) H2) fun cls d H' => W cls d σ H') :
    wpAny (model X.prog X.w) X.A (call (.ref C) us) (EP X pins σ Q) X.xe s := by
  have hq := h (s.heap.objs.size + 1) s.heap.objs.size (I.hok.fresh (Nat.le_succ _)) (I.hok.fresh (Nat.le_refl _)) (Nat.ne_of_lt (Nat.lt_succ_self _))
  have I2 := Inv.made (C := C) I
  have r2 : Vals (V.ref (s.heap.objs.size + 1) :: (vs ++ dvs)) (Value.ref (s.heap.objs.size + 1) :: (us ++ ds)) := .cons rfl (r.append hd)
  have hl : (Value.ref (s.heap.objs.size + 1) :: us ++ ds).length = ps.length := by
    have e := r2.length
    rw [G.ln _ _ _ _ hq] at e
    exact e.symm
  have hg : (X.A.under (.builtin "type.__call__" ⟨.ref C :: us, []⟩)).guards = some [] := by
    have := ak.grd
    first | exact this | simpa [Around.under] using this
  refine wpAny_call (make_map (f := f) I.kIn M.makes M.init (beq_iff_eq.mp M.fn) (codeAny_mono (G.go _ X.stack _ _ ⟨Value.ref (s.heap.objs.size + 1) :: us, []⟩ (Value.ref (s.heap.objs.size + 1) :: (us ++ ds)) _ _ _ (ak.room.make C us []) hg
    (I2.env0.make C us []) (hb _ (Value.ref (s.heap.objs.size + 1) :: us) I2.kIn hl) r2 hq) fun r s' hq' => ?_))
  cases r with
  | error e => exact tk e s' (XE.of_call I2 (fun _ _ _ h => h) hq')
  | ok fl =>
    cases fl with
    | ret u =>
      obtain ⟨v, H', I3, rv, ev, q3⟩ := I2.after hq'
      subst ev
      exact ⟨rv, ⟨V.ref (s.heap.objs.size + 1), H', I3, rfl, q3⟩⟩
    | next => exact False.elim hq'
    | brk => exact False.elim hq'
    | cont => exact False.elim hq'
theorem pe_makeG {t : TA} {ds : List Value} {dvs : List V} (M : Mk X.K C f) (G : FnG X.prog X.w X.K X.mg X.base k f fd ps sp) (ak : At X (k + 1)) (hg : Gl X x) (hm : X.mg x = some (.ref C)) (hb : Binds X.K fd ps ds) (hd : Vals dvs ds) (tk : Takes X W)
    (ha : PA X (e :: es) t) (hdb : (x == ("__debug__" : Str)) = false := by decide) (he : starEach (e :: es) X.env = (false, eval e X.env) :: starEach es X.env := by rfl) (hpl : (backTo pos (starEach es X.env)).any (·.1) = false := by rfl) :
    PE X (.Call (.Name x p) (e :: es) [] pos) (tMakeG W C sp dvs t) :=
  ⟨fun pins s σ H Q I h => wpAny_Call_Name_kw (ld_glob I hg hm (PySem.W.callWith_K (h₀ := X.base) I.ok.mod.kin M.kp (thn (ha.run pos pins s σ H _ I h) fun us s1 ⟨vs, H1, I1, r, q⟩ => ⟨I1.kIn, run_makeG M G ak hb hd tk I1 r q⟩) he hpl) hdb)⟩
theorem pe_makeG0 {ds : List Value} {dvs : List V} (M : Mk X.K C f) (G : FnG X.prog X.w X.K X.mg X.base k f fd ps sp) (ak : At X (k + 1)) (hg : Gl X x) (hm : X.mg x = some (.ref C)) (hb : Binds X.K fd ps ds) (hd : Vals dvs ds) (tk : Takes X W)
    (hdb : (x == ("__debug__" : Str)) = false := by decide) : PE X (.Call (.Name x p) [] [] pos) (tMakeG W C sp dvs tNil) :=
  ⟨fun pins s σ H Q I h => wpAny_Call_Name_kw (ld_glob I hg hm (PySem.W.callWith_K0 I.kIn M.kp (run_makeG (us := []) M G ak hb hd tk I .nil h)) hdb)⟩
theorem RepOpL.mt : ∀ {ops : List Op} {vs Fv}, RepOpL P g H σ ops vs Fv → ∀ b, Fv b → Mt H b ∧ ¬ g.Z b
  | [], _, _, r => by cases r; exact fun _ h => h.elim
  | o :: ops, _, _, r => by
    cases r with
    | cons ra rb d => exact fun b h => h.elim (RepOp.mt ra b) (RepOpL.mt rb b)
theorem RepOpL.chE {g' : Gh} {H' : Hp} (c : Ch FX g H g' H') : ∀ {ops : List Op} {vs Fv}, RepOpL P g H σ ops vs Fv → Fp.dj Fv FX → RepOpL P g' H' σ ops vs Fv
  | [], _, _, r, _ => by cases r; exact .nil
  | o :: ops, _, _, r, d => by
    cases r with
    | cons ra rb dd => exact .cons (RepOp.ch c ra d.l) (RepOpL.chE c rb d.r) dd
theorem make_go {al : OL} {dvs : List V} {Q : VK} (hio : ∀ i ∈ io, i < np) (hd : ∀ g H, RepIL P g H dI dvs) (hc8 : c < 8) (hC : P.n.cl c = some C) (h : OkE P W (eMake c np io fn dI al) σ H Q) :
    OkOL P W al σ H fun vs H1 => ∀ x dx, H1 x = none → H1 dx = none → dx ≠ x → spOf P N np io fn (.ref x :: (vs ++ dvs)) (upd (upd H1 dx (.own x)) x (.ins C dx [])) (fun v H2 => v = .non ∧ Q (.ref x) H2) fun cls d H' => W cls d σ H' := by
  obtain ⟨g, st, F, rs, q⟩ := h
  refine ⟨g, st, F, rs, q.bnd.imp (fun s ops k1 g1 H1 F1 vs Fv p ro => ?_) fun _ _ _ z => z⟩
  intro x dx hx hdx hne
  by_cases hl : ops.length + dI.length + 1 = np
  · rw [if_pos hl] at k1
    have k2 := k1.bnd
    unfold RunAt alloc at k2
    simp only at k2
    have fr := ro.mt
    have p1 : PostS P g H F g1 (upd H1 dx (.own x)) F1 s σ Fv := p.mk1 hdx (fun _ h => .inl h) fun b h => (fr b h).1
    have c1 : Ch emp g1 H1 g1 (upd H1 dx (.own x)) := .new hdx
    have hx1 : upd H1 dx (.own x) x = none := by rw [upd_ne hne.symm]; exact hx
    have ro1 := ro.chE c1 fun _ _ h => h.elim
    have p2 : PostS P g H F g1 (upd (upd H1 dx (.own x)) x (.ins C dx [])) F1 s σ (un (ins1 x emp) Fv) := p1.mk1 hx1 (fun b h => h.elim (fun h => h.elim .inr fun h => h.elim) .inl) fun b h => (ro1.mt b h).1
    have c2 : Ch emp g1 (upd H1 dx (.own x)) g1 (upd (upd H1 dx (.own x)) x (.ins C dx [])) := .new hx1
    have ro2 := ro1.chE c2 fun _ _ h => h.elim
    have nfx : ¬ Fv x := fun h => by
      obtain ⟨⟨_, e, _⟩, _⟩ := fr x h
      rw [hx] at e; cases e
    have rx : RepO P g1 (upd (upd H1 dx (.own x)) x (.ins C dx [])) (.ins c []) (.ref x) (ins1 x emp) := .ins (fs := []) (fs' := []) hC upd_same (p1.rs.nz hx1) rfl .nil fun h => h
    have dd : Fp.dj (ins1 x emp) Fv := fun b h1 h2 => h1.elim (fun e => nfx (by rw [← e]; exact h2)) fun h => h
    have q3 := p2.box2 dd rx
    have c3 : Ch emp g1 (upd (upd H1 dx (.own x)) x (.ins C dx [])) { g1 with rho := g1.rho ++ [x] } (upd (upd H1 dx (.own x)) x (.ins C dx [])) := .rho1
    have ro3 := ro2.chE c3 fun _ _ h => h.elim
    have hrx : (g1.rho ++ [x])[s.sto.length]? = some x := by rw [← p.rs.ln]; simp
    have rr : RepO P { g1 with rho := g1.rho ++ [x] } (upd (upd H1 dx (.own x)) x (.ins C dx [])) (.im (.ref s.sto.length)) (.ref x) emp := .im (.ref hrx)
    have rl : RepOpL P { g1 with rho := g1.rho ++ [x] } (upd (upd H1 dx (.own x)) x (.ins C dx [])) σ (.o (.im (.ref s.sto.length)) :: (ops ++ dI.map fun i => .o (.im i))) (.ref x :: (vs ++ dvs)) (un emp Fv) := .cons rr (ro3.app (hd _ _)) fun _ h => h.elim
    have e0 : un emp Fv = Fv := by funext b; simp [un, emp]
    rw [e0] at rl
    have hv : (V.ref x :: (vs ++ dvs)).length = np := by
      have l1 := ro.len
      have l2 := (hd g1 H1).len
      simp only [List.length_cons, List.length_append, ← l1, ← l2]
      omega
    -- from here on
    have q4 : PostS P { g1 with rho := g1.rho ++ [x] } (upd (upd H1 dx (.own x)) x (.ins C dx [])) (upF (upF F1 (.inr s.sto.length) (ins1 x emp)) (.inr (s.sto.length + 1)) Fv) { g1 with rho := g1.rho ++ [x] } (upd (upd H1 dx (.own x)) x (.ins C dx [])) (upF F1 (.inr s.sto.length) (ins1 x emp)) ⟨s.sl, s.sto ++ [.ins c []]⟩ σ Fv := by
      refine ⟨q3.rs, q3.dj, .refl fun b h => ?_, fun b h => ?_, rfl⟩
      · rcases tot_up h with ⟨l, _, h⟩ | h
        · exact q3.rs.mt b ⟨l, h⟩
        · exact ro3.mt b h
      · refine .inl ?_
        rcases h with ⟨l, h⟩ | h
        · refine ⟨l, ?_⟩
          rw [upF_ne]
          · exact h
          · rintro rfl
            exact q3.rs.out2 _ b (by simp) h
        · exact ⟨.inr (s.sto.length + 1), by rw [upF_same]; exact h⟩
    refine call_sp q4 rl hv hio (RunAt.bnd (show RunAt (bnd (callK io fn (.o (.im (.ref s.sto.length)) :: (ops ++ dI.map fun i => .o (.im i)))) (isNon' s.sto.length)) ⟨s.sl, s.sto ++ [.ins c []]⟩ _ _ from k2)) (fun st' o g' H' F' v Fw ok p' ro' => ?_) fun st' c' i g' H' F' cls d ex p' ea => ?_
    · have lnk : ∀ b, tot (upF (upF F1 (.inr s.sto.length) (ins1 x emp)) (.inr (s.sto.length + 1)) Fv) b → tot F b ∨ H b = none := fun b h => by
        rcases tot_up h with ⟨l, _, h⟩ | h
        · exact q3.sub b (.inl ⟨l, h⟩)
        · exact q3.sub b (.inr h)
      have pt : PostS P g H F g' H' F' st' σ Fw := ⟨p'.rs, p'.dj, q3.ch.trans p'.ch lnk, fun b h => (p'.sub b h).elim (lnk b) fun h => .inr (q3.ch.back h), p'.pn.trans q3.pn⟩
      have ok : RunAt (isNon' s.sto.length o) st' _ _ := ok
      unfold isNon' at ok
      split at ok
      · cases ro'.im_inv
        exact ⟨rfl, ok.ret g' H' F' (.ref x) emp pt.drop (.im (.ref (p'.ch.at hrx)))⟩
      · exact ok.elim
    · have lnk : ∀ b, tot (upF (upF F1 (.inr s.sto.length) (ins1 x emp)) (.inr (s.sto.length + 1)) Fv) b → tot F b ∨ H b = none := fun b h => by
        rcases tot_up h with ⟨l, _, h⟩ | h
        · exact q3.sub b (.inl ⟨l, h⟩)
        · exact q3.sub b (.inr h)
      exact ex g' H' F' σ cls d ⟨p'.rs, p'.dj, q3.ch.trans p'.ch lnk, fun b h => (p'.sub b h).elim (lnk b) fun h => .inr (q3.ch.back h), p'.pn.trans q3.pn⟩ ea
  · rw [if_neg hl] at k1
    exact k1.elim
/-- C(e, ..) -/
theorem ev_make {al : OL} (M : CMake X.prog X.w X.K X.mg X.base n c x k N np io fn dI) (ak : At X j) (hj : k + 1 ≤ j) (tk : Takes X W) (ha : PA X (e :: es) (OkOL ⟨X.K, n⟩ W al)) (hio : ∀ i ∈ io, i < np := by decide)
    (hg : Gl X x := by rfl) (hdb : (x == ("__debug__" : Str)) = false := by decide) (he : starEach (e :: es) X.env = (false, eval e X.env) :: starEach es X.env := by rfl) (hpl : (backTo pos (starEach es X.env)).any (·.1) = false := by rfl) :
    PE X (.Call (.Name x p) (e :: es) [] pos) (OkE ⟨X.K, n⟩ W (eMake c np io fn dI al)) := by
  obtain ⟨C, f, fd, ps, ds, dvs, hc, hC, hm, mk, G, hb, hd, hdi⟩ := M
  exact PE.imp (pe_makeG mk G (ak.le hj) hg hm hb hd tk ha hdb he hpl) fun σ H Q h => make_go hio hdi hc hC h
theorem ev_make0 (M : CMake X.prog X.w X.K X.mg X.base n c x k N np io fn dI) (ak : At X j) (hj : k + 1 ≤ j) (tk : Takes X W) (hio : ∀ i ∈ io, i < np := by decide)
    (hg : Gl X x := by rfl) (hdb : (x == ("__debug__" : Str)) = false := by decide) :
    PE X (.Call (.Name x p) [] [] pos) (OkE ⟨X.K, n⟩ W (eMake c np io fn dI oNil)) := by
  obtain ⟨C, f, fd, ps, ds, dvs, hc, hC, hm, mk, G, hb, hd, hdi⟩ := M
  refine PE.imp (pe_makeG0 mk G (ak.le hj) hg hm hb hd tk hdb) fun σ H Q h => ?_
  obtain ⟨g, st, F, rs, q⟩ := make_go (N := N) hio hdi hc hC h
  exact q.ret g H F [] emp (.refl rs) .nil
end
end VS

namespace VS
open PySem PySem.Spec PyProof.Rows L2
/-! ### raise -/
def throwM {α : Type} (c : Nat) (is : List I) : M α := fun st => some (.ex c is, st)
def sRaise0 (c : Nat) : SM := throwM c []
def thr1 (c : Nat) : O → SM
  | .im i => throwM c [i]
  | _ => lift none
def sRaise1 (c : Nat) (m : EM) : SM := bnd m (thr1 c)
abbrev veB : List Value := [.type "ValueError", .type "Exception", .type "BaseException", .type "object"]
/-- an own error without fields -/
structure CEx0 (K : PySem.W.Frag) (mg : Str → Option Value) (n : Pn) (c : Nat) (x : Str) : Prop where
  ex : ∃ C, n.cl c = some C ∧ mg x = some (.ref C) ∧ PySem.W.excIn K C veB "ValueError.__new__" = true ∧ PySem.W.keepIn K (.ref C) = true ∧ PySem.W.subIn K (.ref C) (.type "BaseException") = some true ∧ PySem.W.typeIn K (.ref C) = some (.type "type")
/-- what __init__ of an own error with one field does -/
def spInit (K : PySem.W.Frag) (f : Str) : Sp := fun vs H Q _ => ∃ (a C : Addr) (v : V), vs = [.ref a, v] ∧ OexC K C ∧ PySem.W.findIn K (.ref C) f = some none ∧ H a = some (exo a C none) ∧
  ∀ dx, H dx = none → dx ≠ a → Q .non (upd (upd H dx (exd dx [(f, v)])) a (exo a C (some dx)))
structure CEx1 (Pr : Program) (w : World) (K : PySem.W.Frag) (mg : Str → Option Value) (base : Heap) (n : Pn) (c : Nat) (x f : Str) : Prop where
  ex : ∃ C fI fd ps, n.cl c = some C ∧ n.fld c = f ∧ mg x = some (.ref C) ∧ OexC K C ∧ PySem.W.findIn K (.ref C) f = some none ∧ PySem.W.findIn K (.ref C) "__init__" = some (some (.ref fI)) ∧ PySem.W.typeIn K (.ref fI) = some (.type "function") ∧
    FnOk Pr w K mg base CX0 1 fI fd ps (spInit K f) ∧ Binds K fd ps []
section
variable {Pr : Program} {w : World} {K : PySem.W.Frag} {mg : Str → Option Value} {base : Heap} {n : Pn} {c : Nat} {x f : Str}
/-- an __init__ that sets the one field -/
theorem init_ok {qual : Str} {params : Arguments} {st : Stmt} {scope : Scope} {fI : Addr} {fd : FuncData} {N ps : List Str} {f : Str} (F : FunD K "__init__" qual params [st] scope [] [] fI fd) (S : FnScope N ps scope) (h2 : ps.length = 2) (hN : N.length = 2)
    (hb : ∀ (cdv : Value) (A : Around) (outer : List Env) (s : Shared) (H : Hp) (E : XK), PS (cxOf CX0 Pr w K mg base N qual scope fI cdv A outer s H E) st (tOst K f (tVar 0) (tVar 1))) :
    FnOk Pr w K mg base CX0 1 fI fd ps (spInit K f) := by
  refine F.ok S (fun vs H Q E ⟨a, C, v, e, _⟩ => by rw [e, h2]; rfl) fun cdv A outer s H vs Q E hr ⟨a, C, v, e, T, hno, ha, q⟩ => ⟨_, pss_one (hb cdv A outer s H E), ?_⟩
  subst e
  have e0 : L2.start N [V.ref a, v] = [some (.ref a), some v] := by
    unfold L2.start
    rw [hN]; rfl
  rw [e0]
  exact ⟨v, rfl, .ref a, rfl, a, C, rfl, T, hno, .inl ⟨ha, fun dx h1 h2 => q dx h1 h2⟩⟩
end
section
variable {n : Pn} {W : WX} {X : Cx} {P : Pg} {e : Expr} {g g' g0 : Gh} {H H' H0 : Hp} {st st' : VS.St} {σ : L2.St} {F F' F0 : Lo → Fp} {Fv : Fp} {p pos pos2 : Pos} {io : List Nat} {x f : Str} {c : Nat} {D : Ends}
/-- X(), X an own error without fields -/
theorem pmk_own0 {C : Addr} {bmB : List Value} {B newId initId : String} (F : ExcBaseFacts B newId initId bmB) (q : PySem.W.excIn X.K C bmB newId = true) (gC : X.mg x = some (.ref C))
    (kC : PySem.W.keepIn X.K (.ref C) = true) (r : Raises X (.ref C)) (hg : Gl X x) (hdb : (x == ("__debug__" : Str)) = false := by decide) :
    PMk X (.Call (.Name x p) [] [] pos) (fun _ H Q => Q (.ref C) none H) := by
  intro pins s σ H Q I h
  refine wpAny_Call_Name_kw (ld_glob I hg gC ?_ hdb)
  refine PySem.W.callWith_K0 I.kIn kC ?_
  obtain ⟨bm, N, nm, qn, bs, hdct, sn, sub, ab, col, dd, k0, k1, k2, k3, k5, mN, hC, hN, hni, T⟩ := exc_obj I.kIn q
  show wpAny _ _ (call (.ref C) []) _ _ _
  refine wpAny_call_exc_subT F T hC hN hni (fun h' e hm => ?_) (by show 0 ≤ sizeLine; exact Nat.zero_le _)
  exact mk_of I hm r h (I.hok.gone hm.new)
theorem sv_raise0 (M : CEx0 X.K X.mg n c x) (hc : X.calm = true) (tk : Takes X W) (hg : Gl X x := by rfl) (hdb : (x == ("__debug__" : Str)) = false := by decide) : PS X (.Raise (some (.Call (.Name x p) [] [] pos)) none pos2) (OkS ⟨X.K, n⟩ W io (sRaise0 c)) := by
  obtain ⟨C, hC, hm, h1, h2, h3, h4⟩ := M
  refine PS.imp (ps_raise hc tk (pmk_own0 F.excBase_ValueError h1 hm h2 (raises_own h3 h4) hg hdb)) fun D σ H ⟨g, st, F, rs, _, q⟩ => ?_
  exact (show exc ⟨X.K, n⟩ W g H F st c [] from q) g H F σ (.ref C) none (.refl rs) ⟨C, hC, rfl, trivial⟩
theorem raise1_go {m : EM} {Q : St → Nat → List I → Prop} {ok : VS.St → VS.Fl → Prop} {o : O} (h : RunAt (thr1 c o) st ok Q) : ∃ i, o = .im i ∧ Q st c [i] := by
  cases o with
  | im i => exact ⟨i, rfl, h⟩
  | _ => exact h.elim
theorem sv_raise1 {m : EM} (M : CEx1 X.prog X.w X.K X.mg X.base n c x f) {k : Nat} (ak : At X k) (hk : 2 ≤ k) (hc : X.calm = true) (tk : Takes X W) (he : PE X e (OkE ⟨X.K, n⟩ W m)) (hg : Gl X x := by rfl) (hdb : (x == ("__debug__" : Str)) = false := by decide)
    (hs : starEach (e :: []) X.env = (false, eval e X.env) :: starEach [] X.env := by rfl) (hpl : (backTo pos (starEach [] X.env)).any (·.1) = false := by rfl) :
    PS X (.Raise (some (.Call (.Name x p) [e] [] pos)) none pos2) (OkS ⟨X.K, n⟩ W io (sRaise1 c m)) := by
  obtain ⟨C, fI, fd, ps, hC, hf, hm, T, hno, iC, tI, G, hb⟩ := M
  refine PS.imp (ps_raise hc tk (pmk_oex (ds := []) (dvs := []) T iC tI G (ak.room.mono hk) hb .nil pass0 hg hm (pa_cons he pa_nil hs) hdb hs hpl)) fun D σ H ⟨g, st, F, rs, _, q⟩ => ?_
  refine ⟨g, st, F, rs, q.bnd.imp (fun s o k1 g1 H1 F1 v Fv p ro => ?_) fun _ _ _ z => z⟩
  obtain ⟨i, rfl, k2⟩ := raise1_go (m := m) k1
  refine ⟨by simp, fun a ha => ⟨a, C, v, rfl, T, hno, upd_same, fun dx hdx hne => ⟨rfl, dx, [(f, v)], upd_same, ?_, ?_, ?_⟩⟩⟩
  · rw [upd_ne hne]; exact upd_same
  · rw [upd_ne hne] at hdx; exact hdx
  · rw [upd_ne hne] at hdx
    have eH : upd (del (upd (upd (upd H1 a (exo a C none)) dx (exd dx [(f, v)])) a (exo a C (some dx))) a) dx (.xd [(f, v)]) = upd H1 dx (.xd [(f, v)]) := by
      funext b
      by_cases h1 : b = dx
      · subst h1; rw [upd_same, upd_same]
      · rw [upd_ne h1, upd_ne h1]
        by_cases h2 : b = a
        · subst h2; rw [del_same, ha]
        · rw [del_ne h2, upd_ne h2, upd_ne h1, upd_ne h2]
    rw [eH]
    have c1 : Ch emp g1 H1 g1 (upd H1 dx (.xd [(f, v)])) := .new hdx
    refine k2 g1 _ F1 σ (.ref C) (some dx) (p.drop.mk1 hdx (fun _ h => h.elim) fun _ h => h.elim) ⟨C, hC, rfl, dx, v, rfl, ?_, ro.im_inv.ch c1⟩
    rw [hf]; exact upd_same
end
end VS

namespace VS
open PySem PySem.Spec PyProof.Rows L2
/-- the top says of an own error with a field what OexC asks -/
def oexB (K : PySem.W.Frag) (x f : Str) : Bool :=
  (match K.lookup (He.ga K x) with
    | some ⟨.type "type", _, .cls cd, sl⟩ => (match cd.mro, sl.toList with
      | .ref C' :: bm, [_, _, _, _, some (.builtin n), _] => C' == He.ga K x && n == "ValueError.__new__" && !cd.hasDel && cd.hasDict && PySem.HandSPX.refsVE bm
      | _, _ => false)
    | _ => false) &&
  (decide (PySem.W.findIn K (.ref (He.ga K x)) "__setattr__" = some (some (.builtin "object.__setattr__"))) && (decide (PySem.W.subIn K (.ref (He.ga K x)) (.type "BaseException") = some true) &&
    (decide (PySem.W.typeIn K (.ref (He.ga K x)) = some (.type "type")) && (PySem.W.keepIn K (.ref (He.ga K x)) && (decide (PySem.W.findIn K (.ref (He.ga K x)) f = some none) &&
      (decide (PySem.W.findIn K (.ref (He.ga K x)) "__init__" = some (some (.ref (He.ma K (He.ga K x) "__init__")))) && decide (PySem.W.typeIn K (.ref (He.ma K (He.ga K x) "__init__")) = some (.type "function"))))))))
theorem oexB_ok {K : PySem.W.Frag} {x f : Str} (h : oexB K x f = true) : OexC K (He.ga K x) ∧ PySem.W.findIn K (.ref (He.ga K x)) f = some none ∧
    PySem.W.findIn K (.ref (He.ga K x)) "__init__" = some (some (.ref (He.ma K (He.ga K x) "__init__"))) ∧ PySem.W.typeIn K (.ref (He.ma K (He.ga K x) "__init__")) = some (.type "function") := by
  unfold oexB at h
  simp only [Bool.and_eq_true, decide_eq_true_eq] at h
  obtain ⟨h1, h2, h3, h4, h5, h6, h7, h8⟩ := h
  refine ⟨⟨?_, h2, h3, h4, h5⟩, h6, h7, h8⟩
  split at h1
  · rename_i dd cd sl ho
    split at h1
    · rename_i C' bm k0 k1 k2 k3 n k5 hm hs
      simp only [Bool.and_eq_true, beq_iff_eq, Bool.not_eq_true'] at h1
      obtain ⟨⟨⟨⟨rfl, rfl⟩, hdel⟩, hdi⟩, hr⟩ := h1
      obtain ⟨nm, bs, mro, ns, qn, hd, sn, sub, ab, col, del⟩ := cd
      dsimp only at hm hdel hdi
      subst hm hdel hdi
      have hsl : sl = #[k0, k1, k2, k3, some (.builtin "ValueError.__new__"), k5] := by
        obtain ⟨l⟩ := sl
        simp only at hs
        rw [hs]
      subst hsl
      exact ⟨nm, qn, ns, bs, bm, sn, sub, ab, col, dd, k0, k1, k2, k3, k5, ho, hr⟩
    · cases h1
  · cases h1
end VS

namespace VS
open PySem PySem.Spec PyProof.Rows L2
/-! ### plain rules of instances, methods, errors -/
section
variable {α β : Type} {st : VS.St} {sl sto : List O} {ex : VS.St → Nat → List I → Prop} {k : Nat} {f : Str}
/-- what is wanted of a named instance -/
def insW (x : Option (Nat × Nat × List (Str × O))) (Pd : Nat → Nat → List (Str × O) → Prop) : Prop := match x with
  | none => False
  | some (r, c, fs) => Pd r c fs
@[simp] theorem insW_some {r c : Nat} {fs : List (Str × O)} {Pd : Nat → Nat → List (Str × O) → Prop} : insW (some (r, c, fs)) Pd ↔ Pd r c fs := Iff.rfl
theorem insW_iff {x : Option (Nat × Nat × List (Str × O))} {Pd : Nat → Nat → List (Str × O) → Prop} : insW x Pd ↔ ∃ z, x = some z ∧ Pd z.1 z.2.1 z.2.2 := by
  cases x with
  | none => simp [insW]
  | some z => obtain ⟨r, c, fs⟩ := z; simp
@[simp] theorem r_rdF {o : O} {ok : VS.St → O → Prop} : Run (rdF f o) st ok ex ↔ insW (insAt st o) fun _ _ fs => ∃ i, lkO f fs = some (.im i) ∧ ok st (.im i) := by
  rw [run_iff, insW_iff]
  constructor
  · intro h
    obtain ⟨r, c, fs, i, a, b, q⟩ := h.rdF
    exact ⟨(r, c, fs), a, i, b, q⟩
  · rintro ⟨⟨r, c, fs⟩, a, i, b, q⟩
    unfold RunAt rdF
    simp only [a, b]
    exact q
@[simp] theorem r_eFld {m : EM} {ok : VS.St → O → Prop} : Run (eFld m f) st ok ex ↔ Run m st (fun s o => Run (rdF f o) s ok ex) ex := by
  unfold eFld; rw [r_bnd]
@[simp] theorem r_setF {x o : O} {ok : VS.St → Unit → Prop} : Run (setF f x o) st ok ex ↔ insW (insAt st x) fun r c fs => fs.length < 1000 ∧ ok ⟨st.sl, st.sto.set r (.ins c (putO f o fs))⟩ () := by
  rw [run_iff, insW_iff]
  constructor
  · intro h
    obtain ⟨r, c, fs, a, b, q⟩ := h.setF
    exact ⟨(r, c, fs), a, b, q⟩
  · rintro ⟨⟨r, c, fs⟩, a, b, q⟩
    unfold RunAt setF
    simp only [a, if_pos b]
    exact q
@[simp] theorem r_sFld {e m : EM} {ok : VS.St → VS.Fl → Prop} : Run (sFld e f m) st ok ex ↔ Run m st (fun s o => Run e s (fun s x => Run (setF f x o) s (fun s _ => ok s .nx) ex) ex) ex := by
  unfold sFld; simp only [r_bnd, r_ret]
@[simp] theorem r_clsOf {x : O} {ok : VS.St → Nat → Prop} : Run (clsOf x) st ok ex ↔ insW (insAt st x) fun _ c _ => ok st c := by
  rw [run_iff, insW_iff]
  constructor
  · intro h; obtain ⟨r, c, fs, a, q⟩ := h.clsOf; exact ⟨(r, c, fs), a, q⟩
  · rintro ⟨⟨r, c, fs⟩, a, q⟩
    unfold RunAt clsOf
    simp only [a]
    exact q
@[simp] theorem r_sFldA {e m : EM} {op : List I → Option O} {ok : VS.St → VS.Fl → Prop} : Run (sFldA e f op m) st ok ex ↔ Run e st (fun s x => Run (clsOf x) s (fun s c => Run (rdF f x) s (fun s a => Run m s (fun s b => Run (rd op [.o a, .o b]) s (fun s o =>
    Run (clsOf x) s (fun s c' => c' = c ∧ Run (setF f x o) s (fun s _ => ok s .nx) ex) ex) ex) ex) ex) ex) ex := by
  unfold sFldA
  simp only [r_bnd]
  have : ∀ (c' c : Nat) (s : VS.St) (x o : O), Run (if c' = c then bnd (setF f x o) fun _ => ret .nx else lift none) s ok ex ↔ (c' = c ∧ Run (setF f x o) s (fun s _ => ok s .nx) ex) := by
    intro c' c s x o
    by_cases h : c' = c
    · simp [h]
    · simp [h]
  simp only [this]
@[simp] theorem r_isC {c : Nat} {m : Str} {x : O} {ok : VS.St → Unit → Prop} : Run (isC c m x) st ok ex ↔ insW (insAt st x) fun _ c' fs => c' = c ∧ lkO m fs = none ∧ ok st () := by
  rw [run_iff, insW_iff]
  constructor
  · intro h
    obtain ⟨r, fs, a, b, q⟩ := h.isC
    exact ⟨(r, c, fs), a, rfl, b, q⟩
  · rintro ⟨⟨r, c', fs⟩, a, rfl, b, q⟩
    unfold RunAt isC
    simp only [a, b, Option.isNone_none, and_self, if_true]
    exact q
@[simp] theorem r_eMeth {c np : Nat} {m : Str} {io : List Nat} {fn : Fn} {ds : List I} {rc : EM} {a : OL} {ok : VS.St → O → Prop} : Run (eMeth c m np io fn ds rc a) st ok ex ↔ Run rc st (fun s x => Run (isC c m x) s (fun s _ => Run a s (fun s ops =>
    ops.length + ds.length + 1 = np ∧ Run (callK io fn (.o x :: (ops ++ ds.map fun i => .o (.im i)))) s ok ex) ex) ex) ex := by
  unfold eMeth
  simp only [r_bnd]
  have : ∀ (s : VS.St) (x : O) (ops : List Op), Run (if ops.length + ds.length + 1 = np then callK io fn (.o x :: (ops ++ ds.map fun i => .o (.im i))) else lift none) s ok ex ↔ (ops.length + ds.length + 1 = np ∧ Run (callK io fn (.o x :: (ops ++ ds.map fun i => .o (.im i)))) s ok ex) := by
    intro s x ops
    by_cases h : ops.length + ds.length + 1 = np
    · simp [h]
    · simp [h]
  simp only [this]
@[simp] theorem r_alloc {c : Nat} {ok : VS.St → Nat → Prop} : Run (alloc c) ⟨sl, sto⟩ ok ex ↔ ok ⟨sl, sto ++ [.ins c []]⟩ sto.length := by
  rw [run_iff]; exact Iff.rfl
@[simp] theorem r_isNon' {r : Nat} {o : O} {ok : VS.St → O → Prop} : Run (isNon' r o) st ok ex ↔ o = .im .non ∧ ok st (.im (.ref r)) := by
  cases o with
  | im i => cases i <;> simp [isNon']
  | _ => simp [isNon']
@[simp] theorem r_eMake {c np : Nat} {io : List Nat} {fn : Fn} {ds : List I} {a : OL} {ok : VS.St → O → Prop} : Run (eMake c np io fn ds a) st ok ex ↔ Run a st (fun s ops =>
    ops.length + ds.length + 1 = np ∧ Run (alloc c) s (fun s r => Run (callK io fn (.o (.im (.ref r)) :: (ops ++ ds.map fun i => .o (.im i)))) s (fun s o => Run (isNon' r o) s ok ex) ex) ex) ex := by
  unfold eMake
  simp only [r_bnd]
  have : ∀ (s : VS.St) (ops : List Op), Run (if ops.length + ds.length + 1 = np then bnd (alloc c) fun r => bnd (callK io fn (.o (.im (.ref r)) :: (ops ++ ds.map fun i => .o (.im i)))) (isNon' r) else lift none) s ok ex ↔
      (ops.length + ds.length + 1 = np ∧ Run (alloc c) s (fun s r => Run (callK io fn (.o (.im (.ref r)) :: (ops ++ ds.map fun i => .o (.im i)))) s (fun s o => Run (isNon' r o) s ok ex) ex) ex) := by
    intro s ops
    by_cases h : ops.length + ds.length + 1 = np
    · simp only [if_pos h, r_bnd]; simp [h]
    · simp [h]
  simp only [this]
@[simp] theorem r_throwM {c : Nat} {is : List I} {ok : VS.St → α → Prop} : Run (throwM c is : M α) st ok ex ↔ ex st c is := by
  rw [run_iff]; exact Iff.rfl
@[simp] theorem r_sRaise0 {c : Nat} {ok : VS.St → VS.Fl → Prop} : Run (sRaise0 c) st ok ex ↔ ex st c [] := by
  unfold sRaise0; rw [r_throwM]
@[simp] theorem r_thr1 {c : Nat} {o : O} {ok : VS.St → VS.Fl → Prop} : Run (thr1 c o) st ok ex ↔ ∃ i, o = .im i ∧ ex st c [i] := by
  cases o <;> simp [thr1]
@[simp] theorem r_sRaise1 {c : Nat} {m : EM} {ok : VS.St → VS.Fl → Prop} : Run (sRaise1 c m) st ok ex ↔ Run m st (fun s o => ∃ i, o = .im i ∧ ex s c [i]) ex := by
  unfold sRaise1
  rw [r_bnd]
  simp only [r_thr1]
@[simp] theorem insAt_im {r c : Nat} {fs : List (Str × O)} (h : sto[r]? = some (.ins c fs)) (hc : c < 8) : insAt ⟨sl, sto⟩ (.im (.ref r)) = some (r, c, fs) := by
  unfold insAt; simp [h, hc]
end
end VS

namespace VS
open PySem PySem.Spec PyProof.Rows L2 PySem.SeqAt
/-! ### a list of anything against [] -/
def fNil (neg : Bool) : List I → Option O
  | [.lst l, .lst []] => some (.im (.bl (if neg then !l.isEmpty else l.isEmpty)))
  | _ => none
section
variable {n : Pn} {W : WX} {X : Cx} {P : Pg} {g : Gh} {H : Hp} {σ : L2.St}
theorem lst_is {P : Pg} {pins : List (Addr × Obj)} {s : Shared} {l : List I} {x : V} (hK : P.K = X.K) (Iv : L2.Inv X pins σ H s) (r : RepF P g H (.lst l) x) : ∃ (p : Addr) (its : List Value), x = .ref p ∧ its.length = l.length ∧ s.heap.IsList p its.toArray := by
  obtain ⟨p, vs, rfl, hp, r1⟩ := r.lst_inv
  have hp' := hp.sq
  rw [hK] at hp'
  obtain ⟨its, rv, pl, hz⟩ := Iv.list hp'
  exact ⟨p, its, rfl, by rw [← rv.length, ← r1.len], pl.isList⟩
theorem or_nil {neg : Bool} {op : CmpOp} (ho : op = if neg then .NotEq else .Eq) (hu : X.A.units + 120 < cLine) : OpR X (compareOp op) fun x y => RdOp ⟨X.K, n⟩ (fNil neg) [x, y] := by
  intro pins s σ H x y v u Q Iv rx ry h
  obtain ⟨g, is, zd, hr, o, ho', q⟩ := h
  unfold fNil at ho'
  split at ho'
  · obtain ⟨_, _, ev, r1, r2⟩ := hr.two
    cases ev
    rename_i l
    obtain ⟨p, its, rfl, h1, h2⟩ := lst_is rfl Iv r1
    obtain ⟨p', its', rfl, h3, h4⟩ := lst_is rfl Iv r2
    cases rx
    cases ry
    have hi' : its' = [] := List.eq_nil_of_length_eq_zero h3
    subst hi'
    have hq := q_bl q ho'
    subst ho
    cases l with
    | nil =>
      have hi : its = [] := List.eq_nil_of_length_eq_zero h1
      subst hi
      cases neg with
      | false =>
        show wpAny _ _ (richCompare .Eq (.ref p) (.ref p')) _ _ _
        exact RcAt.lists (e := fun _ => true) h2 h4 rfl (by omega) (fun j hj => by simp at hj) _ _ _ _ ⟨.bl true, H, Iv, rfl, hq⟩
      | true =>
        show wpAny _ _ (richCompare .NotEq (.ref p) (.ref p')) _ _ _
        exact RcNeAt.lists (e := fun _ => true) h2 h4 rfl (by omega) (fun j hj => by simp at hj) _ _ _ _ ⟨.bl false, H, Iv, rfl, hq⟩
    | cons a r =>
      have hz : (its.toArray.size != ([] : List Value).toArray.size) = true := by
        have : its.length ≠ 0 := by rw [h1]; simp
        simpa using this
      cases neg with
      | false =>
        show wpAny _ _ (richCompare .Eq (.ref p) (.ref p')) _ _ _
        exact RcAt.lists_lengths h2 h4 hz (by omega) _ _ _ _ ⟨.bl false, H, Iv, rfl, hq⟩
      | true =>
        show wpAny _ _ (richCompare .NotEq (.ref p) (.ref p')) _ _ _
        exact RcNeAt.lists_lengths h2 h4 hz (by omega) _ _ _ _ ⟨.bl true, H, Iv, rfl, hq⟩
  · cases ho'
theorem or_eqN (hu : X.A.units + 120 < cLine) : OpR X (compareOp .Eq) fun x y => RdOp ⟨X.K, n⟩ (fNil false) [x, y] := or_nil (neg := false) rfl hu
theorem or_neN (hu : X.A.units + 120 < cLine) : OpR X (compareOp .NotEq) fun x y => RdOp ⟨X.K, n⟩ (fNil true) [x, y] := or_nil (neg := true) rfl hu
end
@[simp] theorem nil_ne {l : List I} : fNil true [.lst l, .lst []] = some (.im (.bl (!l.isEmpty))) := rfl
@[simp] theorem nil_eq {l : List I} : fNil false [.lst l, .lst []] = some (.im (.bl l.isEmpty)) := rfl
end VS

namespace VS
open PySem PySem.Spec PyProof.Rows L2
/-! == of deep things -/
def fEqD : List I → Option O
  | [i, j] => match toD i, toD j with
    | some d, some e => if okD d && okD e && decide (min d.depth e.depth ≤ 900) then some (.im (.bl (PyData.eqv d e))) else none
    | _, _ => none
  | _ => none
section
variable {X : Cx} {n : Pn}
theorem At.u900 {k : Nat} (a : At X k) (h : 50 ≤ k) : X.A.units + 900 < cLine := by have := a.room.un; omega
theorem or_eqD (hu : X.A.units + 900 < cLine) : OpR X (compareOp .Eq) fun x y => RdOp ⟨X.K, n⟩ fEqD [x, y] := by
  intro pins s σ H x y v u Q Iv rx ry h
  obtain ⟨g, is, zd, hr, o, ho', q⟩ := h
  unfold fEqD at ho'
  split at ho'
  · split at ho'
    · rename_i d e hd he
      split at ho'
      · rename_i hc
        obtain ⟨hc, h3⟩ := Bool.and_eq_true_iff.mp hc
        obtain ⟨h1, h2⟩ := Bool.and_eq_true_iff.mp hc
        have h3 : min d.depth e.depth ≤ 900 := of_decide_eq_true h3
        obtain ⟨_, _, ev, r1, r2⟩ := hr.two
        cases ev
        obtain ⟨as, p1⟩ := Dp.reads Iv d x v (r1.dp hd) rx
        obtain ⟨bs, p2⟩ := Dp.reads Iv e y u (r2.dp he) ry
        have hq := q_bl q ho'
        exact PySem.SeqAt.compareEq_reads p1 p2 h1 h2 (by omega) ⟨.bl _, H, Iv, rfl, hq⟩
      · cases ho'
    · cases ho'
  · cases ho'
/-- a short tuple many times over -/
def fRepW : List I → Option O
  | [.tup l, .int k] => if decide (l ≠ [] ∧ 2 ≤ k ∧ k ≤ 3000 ∧ l.length ≤ 300) then some (.im (.tup (List.replicate k.toNat l).flatten)) else none
  | _ => none
theorem op_repW : OpR X (binaryOp .Mult) fun x y H Q => ∃ l k xs, x = .ref l ∧ y = .int k ∧ SqT X.K H l xs ∧ xs ≠ [] ∧ 2 ≤ k ∧ k ≤ 3000 ∧ xs.length ≤ 300 ∧ ∀ p, H p = none → Q (.ref p) (upd H p (.tup (List.replicate k.toNat xs).flatten)) := by
  intro pins s σ H x y v u Q Iv rx ry h
  obtain ⟨l, k, xs, rfl, rfl, hT, hne, k1, k2, hz, q⟩ := h
  cases rx
  obtain ⟨t, rfl⟩ := ry
  obtain ⟨its, rv, ⟨⟨cls, dd, data, sl⟩, ho, hc, n, hd⟩, hs⟩ := Iv.tuple hT
  simp only at hc hd
  subst hc hd
  have len : its.length = xs.length := rv.length.symm
  have ne : its.toArray.isEmpty = false := by
    cases its with
    | nil => exact (hne (List.length_eq_zero_iff.mp len.symm)).elim
    | cons _ _ => rfl
  have sz : its.toArray.size = xs.length := by simp [len]
  have many : k.toNat * xs.length ≤ 3000 * 300 := Nat.mul_le_mul (by omega) hz
  have most : ((its.toArray.size : Nat) : Int) * k ≤ 900000 := by
    have a1 : ((xs.length : Nat) : Int) * k ≤ 300 * k := Int.mul_le_mul_of_nonneg_right (by omega) (by omega)
    rw [sz]; omega
  have few : (List.replicate k.toNat its).flatten.length ≤ sizeLine := by
    rw [PyProof.Rows.lm_len_rep_flat, len, sizeLine_eq]; omega
  have t0 : (decide (k < -(2 ^ 63)) || decide (k ≥ 2 ^ 63)) = false := by simp; omega
  have t1 : (its.toArray.isEmpty || k == 1) = false := by rw [ne]; simp; omega
  have t2 : (decide (k ≤ 0) || its.toArray.isEmpty) = false := by rw [ne]; simp; omega
  have t4 : Builtin.Tuple.tupleTooMany (((its.toArray.size : Nat) : Int) * k) = false := by
    unfold Builtin.Tuple.tupleTooMany
    rw [sizeLine_eq]
    exact decide_eq_false (by omega)
  refine wpAny_binaryOp_repeat_ref (T := "tuple") (U := "int") (by decide) ⟨_, ho, rfl⟩ (fun s' => typeIs_int s' k t) noFill_tuple_mul F.fills_int_mul F.slot_int_rmul repeat_tuple F.slot_int_index.lookup
    (call_meets F.slot_int_rmul (typeIs_int s k t) F.entry_int_rmul (F.args_int_rmul_2 _ _) (int_rmul_tuple k t l its.toArray n dd sl)
      ⟨ho, rfl, ⟨_, ho, rfl⟩, call_meets F.slot_tuple_mul ⟨_, ho, rfl⟩ F.entry_tuple_mul (F.args_tuple_mul_2 _ _) (tuple_mulW l its.toArray n dd sl k t t0 t1 t2 (by omega) t4 (by rw [size_rep, List.size_toArray]; exact few)) ⟨ho, ?_⟩⟩)
  rw [size_rep]
  refine ⟨.ref s.heap.objs.size, _, Iv.laid (t' := s.toks) (o := .tup (List.replicate k.toNat xs).flatten) (fun b ob q => Heap.get?_push_of_some _ q) (Nat.le_refl _) ?_, rfl, q _ (Iv.hok.fresh (Nat.le_refl _))⟩
  exact ⟨by rw [PyProof.Rows.lm_len_rep_flat, sizeLine_eq]; omega, _, rv.rep k.toNat, IsTup.new _ _⟩
theorem or_repW : OpR X (binaryOp .Mult) fun x y => RdOp ⟨X.K, n⟩ fRepW [x, y] := by
  intro pins s σ H x y v u Q Iv rx ry h
  obtain ⟨g, is, zd, hr, o, ho, q⟩ := h
  unfold fRepW at ho
  split at ho
  · obtain ⟨_, _, ev, h1, h2⟩ := hr.two
    cases ev
    obtain ⟨p, vs, rfl, hp, r1⟩ := h1.tup_inv
    cases h2.int_inv
    split at ho
    · rename_i hc
      obtain ⟨h3, h4, h5, h6⟩ := of_decide_eq_true hc
      cases ho
      refine op_repW pins s σ H _ _ v u Q Iv rx ry ⟨_, _, _, rfl, rfl, hp, fun e => ?_, h4, h5, by rw [← r1.len]; exact h6, fun p hn => q _ _ _ _ (.newT hn (r1.flat _))⟩
      subst e
      cases r1
      exact h3 rfl
    · cases ho
  · cases ho
end
end VS

namespace VS
open PySem PySem.Spec PyProof.Rows L2
/-! ### sorted(..) of tuples of ints of any lengths -/
def rowsOf : List I → Option (List (List Int))
  | [] => some []
  | .tup l :: r => match intsOf l, rowsOf r with
    | some (x :: xs), some rs => some ((x :: xs) :: rs)
    | _, _ => none
  | _ => none
def leR (a b : List Int) : Bool := !decide (b < a)
def sortR (l : List (List Int)) : List (List Int) := l.mergeSort leR
def rowT (r : List Int) : I := .tup (r.map .int)
def fSortR : List I → Option O
  | [.lst l] => match rowsOf l with
    | some rs => if rs.length ≤ 100000 then some (.lst ((sortR rs).map fun r => .im (rowT r))) else none
    | none => none
  | _ => none
theorem intsOf_map : ∀ {l : List I} {xs : List Int}, intsOf l = some xs → l = xs.map .int
  | [], _, h => by cases h; rfl
  | i :: l, xs, h => by
    unfold intsOf at h
    split at h
    · cases ‹i :: l = []›
    · rename_i b r e
      cases e
      obtain ⟨ys, e, rfl⟩ := Option.map_eq_some_iff.mp h
      rw [intsOf_map e]; rfl
    · cases h
theorem rowsOf_map : ∀ {l : List I} {rs : List (List Int)}, rowsOf l = some rs → l = rs.map rowT ∧ ∀ r ∈ rs, ∃ x xs, r = x :: xs
  | [], _, h => by cases h; exact ⟨rfl, fun _ h => nomatch h⟩
  | i :: l, rs, h => by
    unfold rowsOf at h
    split at h
    · cases ‹i :: l = []›
    · rename_i a r e
      cases e
      split at h
      · rename_i x xs rs' e1 e2
        cases h
        obtain ⟨h1, h2⟩ := rowsOf_map e2
        refine ⟨by rw [h1, intsOf_map e1]; rfl, fun r hr => ?_⟩
        rcases List.mem_cons.mp hr with rfl | hr
        · exact ⟨_, _, rfl⟩
        · exact h2 r hr
      · cases h
    · cases h
def encR (b : V × List Int) : PyData := .tuple (b.2.map .int)
theorem toDL_ints : ∀ r : List Int, toDL (r.map I.int) = some (r.map PyData.int)
  | [] => rfl
  | x :: r => by rw [List.map_cons, toDL, toDL_ints r]; rfl
theorem toD_row (r : List Int) : toD (rowT r) = some (.tuple (r.map .int)) := by
  unfold rowT
  rw [toD, toDL_ints]; rfl
theorem le_rows (a b : V × List Int) : PySem.W.dataLe false encR a b = leR a.2 b.2 := by
  rw [PySem.W.dataLe_eq]
  unfold encR leR
  simp only [cond_false]
  rw [PySem.W.dataLt_tuple]
  have := PySem.W.dataLt_ints b.2 a.2
  unfold PySem.W.rowLt at this
  rw [this]
theorem sort_rows (bs : List (V × List Int)) : (bs.mergeSort (PySem.W.dataLe false encR)).map Prod.snd = sortR (bs.map Prod.snd) := by
  unfold sortR
  exact List.map_mergeSort fun a _ b _ => le_rows a b
section
variable {n : Pn} {X : Cx} {P : Pg} {g : Gh} {H : Hp}
theorem rep_rows {rs : List (List Int)} : ∀ {l : List (List Int)} {vs : List V}, RepIL P g H (l.map rowT) vs → ∃ bs : List (V × List Int), bs.map Prod.fst = vs ∧ bs.map Prod.snd = l ∧ ∀ b ∈ bs, RepI P g H (rowT b.2) b.1
  | [], _, r => by cases r; exact ⟨[], rfl, rfl, fun _ h => nomatch h⟩
  | x :: l, _, r => by
    cases r with
    | cons r1 r2 =>
      obtain ⟨bs, rfl, e, h⟩ := rep_rows (rs := rs) r2
      refine ⟨(_, x) :: bs, rfl, by rw [← e]; rfl, fun b hb => ?_⟩
      rcases List.mem_cons.mp hb with rfl | hb
      · exact r1
      · exact h b hb
theorem rep_back : ∀ {bs : List (V × List Int)}, (∀ b ∈ bs, RepI P g H (rowT b.2) b.1) → RepIL P g H ((bs.map Prod.snd).map rowT) (bs.map Prod.fst)
  | [], _ => .nil
  | b :: bs, h => .cons (h b (.head _)) (rep_back fun c hc => h c (.tail _ hc))
theorem each_vals : ∀ {bs : List (V × List Int)} {us : List Value}, Vals (bs.map Prod.fst) us → PySem.W.EachIs (fun (u : Value) (b : V × List Int) => RelV b.1 u ∧ b ∈ bs) us bs := by
  intro bs us h
  have go : ∀ (cs : List (V × List Int)) (us : List Value), (∀ c ∈ cs, c ∈ bs) → Vals (cs.map Prod.fst) us → PySem.W.EachIs (fun (u : Value) (b : V × List Int) => RelV b.1 u ∧ b ∈ bs) us cs := fun cs => by
    induction cs with
    | nil => intro us _ h; cases h; exact .nil
    | cons c cs ih =>
      intro us hm h
      cases h with
      | cons h1 h2 => exact .cons ⟨h1, hm c (.head _)⟩ (ih _ (fun d hd => hm d (.tail _ hd)) h2)
  exact go bs us (fun _ h => h) h
theorem vals_each : ∀ {cs : List (V × List Int)} {us : List Value} {p : V × List Int → Prop}, PySem.W.EachIs (fun (u : Value) (b : V × List Int) => RelV b.1 u ∧ p b) us cs → Vals (cs.map Prod.fst) us := by
  intro cs us p h
  induction h with
  | nil => exact .nil
  | cons h1 _ ih => exact .cons h1.1 ih
theorem cr_sortR (hu : X.A.units + 65 < cLine) : CallR X (.builtin "sorted") (RdOp ⟨X.K, n⟩ fSortR) := by
  intro pins s σ H xs us Q Iv rv h
  obtain ⟨g, is, zd, hr, o, ho, q⟩ := h
  unfold fSortR at ho
  split at ho
  · obtain ⟨_, ev, h1⟩ := hr.one
    cases ev
    obtain ⟨p, vs, rfl, hp, r1⟩ := h1.lst_inv
    split at ho
    · rename_i rs hrs
      split at ho
      · rename_i hz
        cases ho
        obtain ⟨e1, e2⟩ := rowsOf_map hrs
        subst e1
        obtain ⟨bs, rfl, rfl, hb⟩ := rep_rows (rs := rs) r1
        obtain ⟨its, rvv, hl, hlz⟩ := Iv.list hp.sq
        rw [Vals.ref1 rv]
        have ev := each_vals rvv
        refine PySem.W.sorted_data (enc := encR) hl.isList ev (ev.mono fun u b h => ?_) ?_ ?_ (by simpa using hlz) (fun b hb' => ?_) fun out hlen eo => ?_
        · exact Dp.reads Iv (encR b) b.1 u ((hb b h.2).dp (toD_row b.2)) h.1
        · intro d hd d' hd'
          obtain ⟨b, _, rfl⟩ := List.mem_map.mp hd
          obtain ⟨b', _, rfl⟩ := List.mem_map.mp hd'
          exact PySem.W.alike_ints b.2 b'.2
        · refine .inl fun d hd => ?_
          obtain ⟨b, hb', rfl⟩ := List.mem_map.mp hd
          obtain ⟨x, xs, e⟩ := e2 b.2 (List.mem_map.mpr ⟨b, hb', rfl⟩)
          exact ⟨.int x, xs.map .int, by unfold encR; rw [e]; rfl⟩
        · have : (encR b).depth ≤ 1 := by
            unfold encR
            rw [PyData.depth, PySem.W.depth_ints]
            omega
          omega
        · have ho := vals_each eo
          obtain ⟨ep, he'⟩ := PyProof.Rows.sortedAll_at s.heap its out.toArray
          have hsz : ((bs.mergeSort (PySem.W.dataLe false encR)).map Prod.fst).length ≤ sizeLine := by
            rw [List.length_map, List.length_mergeSort]
            simpa using hlz
          have hb2 : ∀ b ∈ bs.mergeSort (PySem.W.dataLe false encR), RepI ⟨X.K, n⟩ g H (rowT b.2) b.1 := fun b hb' => hb b ((List.mergeSort_perm _ _).mem_iff.mp hb')
          have hn : H (s.heap.objs.size + 1) = none := Iv.hok.fresh (Nat.le_succ _)
          have hres := PostR.newL (P := ⟨X.K, n⟩) hn zd (rep_back hb2)
          rw [sort_rows] at hres
          rw [List.map_map] at hres
          exact ⟨.ref _, upd H (s.heap.objs.size + 1) (.lst ((bs.mergeSort (PySem.W.dataLe false encR)).map Prod.fst)), Iv.laid (t' := s.toks) (fun _ _ => PyProof.Rows.sortedAll_old) (Nat.le_succ _) ⟨hsz, out, ep, ho, he'⟩, rfl, q _ _ _ _ hres⟩
      · cases ho
    · cases ho
  · cases ho
end
end VS

namespace VS
open PySem PySem.Spec PyProof.Rows L2
/-! ### x[::-1] of a list -/
def fRev : List I → Option O
  | [.lst l] => some (.lst (l.reverse.map .im))
  | _ => none
section
variable {n : Pn} {W : WX} {X : Cx} {P : Pg} {e : Expr} {pos : Pos} {g : Gh} {H : Hp} {σ : L2.St}
theorem OkO.imp {f : OM} {Q Q' : VK} (h : OkO P W f σ H Q) (i : ∀ v H', Q v H' → Q' v H') : OkO P W f σ H Q' := by
  obtain ⟨g, st, F, rs, q⟩ := h
  exact ⟨g, st, F, rs, q.imp (fun _ _ k g' H' F' v Fv p r => i _ _ (k g' H' F' v Fv p r)) fun _ _ _ z => z⟩
theorem RepIL.rev : ∀ {l : List I} {vs : List V}, RepIL P g H l vs → RepIL P g H l.reverse vs.reverse
  | [], _, r => by cases r; exact .nil
  | i :: l, _, r => by
    cases r with
    | cons r1 r2 =>
      rw [List.reverse_cons, List.reverse_cons]
      exact RepIL.append (RepIL.rev r2) (.cons r1 .nil)
theorem ev_rev {f : OM} {k : Nat} {p1 p2 p3 : Pos} (ha : PE X e (OkO ⟨X.K, n⟩ W f)) : PE X (.Subscript e (.Slice none none (some (.UnaryOp .USub (.Constant (.int 1) k p1) p2)) p3) pos) (OkE ⟨X.K, n⟩ W (op1 fRev f)) :=
  PE.imp (pe_revL ha) fun σ H Q h => (go1 h).imp fun v H' ⟨g, is, zd, hr, o, ho, q⟩ => by
    unfold fRev at ho
    split at ho
    · obtain ⟨_, ev, h1⟩ := hr.one
      cases ev
      obtain ⟨p, vs, rfl, hp, r1⟩ := h1.lst_inv
      cases ho
      exact ⟨p, vs, rfl, hp.sq, fun t ht => q _ _ _ _ (.newL ht zd (RepIL.rev r1))⟩
    · cases ho
end
end VS

namespace VS
open PySem PySem.Spec PyProof.Rows L2
/-! ### list(range(..)) -/
def lrO (a b : Int) : Option O := if r62 a && r62 b && decide ((b - a).toNat ≤ 2 ^ 24) then some (.lst ((rng a (b - a).toNat).map .im)) else none
def fLr1 : List I → Option O
  | [.int b] => lrO 0 b
  | _ => none
def fLr2 : List I → Option O
  | [.int a, .int b] => lrO a b
  | _ => none
section
variable {n : Pn} {W : WX} {X : Cx} {P : Pg} {e e2 : Expr} {g : Gh} {H : Hp} {σ : L2.St}
theorem rep_rg {a b : Int} : RepIL P g H (rng a (b - a).toNat) (rgV a b) := by
  unfold rng rgV
  generalize (b - a).toNat = m
  have : ∀ l : List Nat, RepIL P g H (l.map fun (i : Nat) => I.int (a + (i : Int))) (l.map fun i => V.int (a + (i : Nat))) := fun l => by
    induction l with
    | nil => exact .nil
    | cons i l ih => exact .cons (.int _) ih
  exact this _
theorem lr_go {a b : Int} {Q : VK} {o : O} (zd : ∀ b, g.Z b → ∃ o, H b = some o) (ho : lrO a b = some o) (q : ∀ g' H' v Fv, PostR P g H g' H' o v Fv → Q v H') : RgOk a b ∧ ∀ p, H p = none → Q (.ref p) (upd H p (.lst (rgV a b))) := by
  unfold lrO at ho
  split at ho
  · rename_i hc
    obtain ⟨hc, h3⟩ := Bool.and_eq_true_iff.mp hc
    obtain ⟨h1, h2⟩ := Bool.and_eq_true_iff.mp hc
    have h1 := of_decide_eq_true h1
    have h2 := of_decide_eq_true h2
    have h3 := of_decide_eq_true h3
    cases ho
    exact ⟨⟨h1.1, h1.2, h2.1, h2.2, h3⟩, fun p hp => q _ _ _ _ (.newL hp zd rep_rg)⟩
  · cases ho
theorem ev_lr1 {f : OM} {p p2 pos pos2 : Pos} (hc : X.calm = true) (hL : X.mg "list" = none) (hR : X.mg "range" = none) (ha : PE X e (OkO ⟨X.K, n⟩ W f)) (gL : Gl X "list" := by rfl) (gR : Gl X "range" := by rfl) (na : starEach [e] X.env = (false, eval e X.env) :: starEach [] X.env := by rfl)
    (nb : starEach [.Call (.Name "range" p) [e] [] pos] X.env = (false, eval (.Call (.Name "range" p) [e] [] pos) X.env) :: starEach [] X.env := by rfl) : PE X (.Call (.Name "list" p2) [.Call (.Name "range" p) [e] [] pos] [] pos2) (OkE ⟨X.K, n⟩ W (op1 fLr1 f)) :=
  PE.imp (pe_listRg hc gL hL (prg_1 gR hR ha na) nb) fun σ H Q h => (go1 h).imp fun v H' ⟨g, is, zd, hr, o, ho, q⟩ => by
    unfold fLr1 at ho
    split at ho
    · obtain ⟨_, ev, h1⟩ := hr.one
      cases ev
      cases h1.int_inv
      exact ⟨_, rfl, lr_go zd ho q⟩
    · cases ho
theorem ev_lr2 {f k : OM} {p p2 pos pos2 : Pos} (hc : X.calm = true) (hL : X.mg "list" = none) (hR : X.mg "range" = none) (ha : PE X e (OkO ⟨X.K, n⟩ W f)) (hb : PE X e2 (OkO ⟨X.K, n⟩ W k)) (gL : Gl X "list" := by rfl) (gR : Gl X "range" := by rfl)
    (na : starEach [e, e2] X.env = (false, eval e X.env) :: starEach [e2] X.env := by rfl) (nb : starEach [e2] X.env = (false, eval e2 X.env) :: starEach [] X.env := by rfl) (hp : (backTo pos (starEach [e2] X.env)).any (·.1) = false := by rfl)
    (nc : starEach [.Call (.Name "range" p) [e, e2] [] pos] X.env = (false, eval (.Call (.Name "range" p) [e, e2] [] pos) X.env) :: starEach [] X.env := by rfl) : PE X (.Call (.Name "list" p2) [.Call (.Name "range" p) [e, e2] [] pos] [] pos2) (OkE ⟨X.K, n⟩ W (op2 fLr2 f k)) :=
  PE.imp (pe_listRg hc gL hL (prg_2 gR hR ha hb na nb hp) nc) fun σ H Q h => (go2 h).imp fun v H' hk => OkO.imp hk fun u H2 ⟨g, is, zd, hr, o, ho, q⟩ => by
    unfold fLr2 at ho
    split at ho
    · obtain ⟨_, _, ev, h1, h2⟩ := hr.two
      cases ev
      cases h1.int_inv
      cases h2.int_inv
      exact ⟨_, _, rfl, rfl, lr_go zd ho q⟩
    · cases ho
end
end VS

namespace VS
open PySem PySem.Spec PyProof.Rows L2
/-! ### sorted(..), int tuples too -/
def fSortA (is : List I) : Option O := match fSorted is with
  | some o => some o
  | none => fSortR is
section
variable {n : Pn} {X : Cx}
theorem cr_sortA (hc : X.calm = true) (hu : X.A.units + 65 < cLine) : CallR X (.builtin "sorted") (RdOp ⟨X.K, n⟩ fSortA) := by
  intro pins s σ H xs us Q Iv rv h
  obtain ⟨g, is, zd, hr, o, ho, q⟩ := h
  unfold fSortA at ho
  split at ho
  · rename_i o' e
    cases ho
    exact cr_sorted hc pins s σ H xs us Q Iv rv ⟨g, is, zd, hr, _, e, q⟩
  · exact cr_sortR hu pins s σ H xs us Q Iv rv ⟨g, is, zd, hr, o, ho, q⟩
end
end VS

namespace VS
open PySem PySem.Spec PyProof.Rows L2
/-! ### repr of a deep list -/
def fReprD : List I → Option O
  | [.lst l] => match pdL l with
    | some ds => if (PyData.list ds).showable = true ∧ (PyData.list ds).depth ≤ 850 ∧ (PyData.list ds).shown.length ≤ sizeLine then some (.im (.str (PyData.list ds).shown)) else none
    | none => none
  | _ => none
section
variable {n : Pn} {X : Cx}
theorem cr_reprD (hg : X.A.guards = some []) (hu : X.A.units + 900 < cLine) : CallR X (.builtin "repr") (RdOp ⟨X.K, n⟩ fReprD) := by
  intro pins s σ H xs us Q Iv rv h
  obtain ⟨g, is, zd, hr, o, ho, q⟩ := h
  unfold fReprD at ho
  split at ho
  · obtain ⟨_, ev, h1⟩ := hr.one
    cases ev
    split at ho
    · rename_i ds hd
      split at ho
      · rename_i hz
        obtain ⟨u, rfl, ru⟩ := vals1 rv
        obtain ⟨p, vs, rfl, hp, r1⟩ := h1.lst_inv
        cases ru
        obtain ⟨its, rv', ⟨o', k, ho', hc, _, hd'⟩, _⟩ := Iv.list hp.sq
        obtain ⟨as, ra⟩ := rd_dataL Iv _ ds hd r1 rv'
        cases ho
        have dp := hz.2.1
        refine repr_of_reads' (.list ho' hc hd' (by simpa using ra)) hz.1 (PyData.noDict_hsm (pdL_nd _ _ hd)) hg (by omega) (fun _ _ e => e) (fun h' u tk k => ?_) hz.2.2
        exact ⟨.str _, H, Iv.kept k, ⟨u, rfl⟩, q g H _ emp (.same (.str _))⟩
      · cases ho
    · cases ho
  · cases ho
end
end VS

namespace VS
open PySem PySem.Spec PyProof.Rows L2 PySem.Calls PySem.NumText
/-! ### int(text) of more than 640 figures: nobody has turned the limit -/
theorem wp_textD {M : Model} {A : Around} {E : Value → Shared → Prop} {s : Shared} {Q : Value → Shared → Prop} {v : Value} {text : List Nat} {n : Int} (hd : s.heap.NoDigits)
    (hr : (int_private% "readNumeral") (if (text.takeWhile (· != 0)).length ≤ 640 then 0 else 4300) 10 (text.takeWhile (· != 0)) = (int_private% "Numeral.value") n)
    (ha : ((text.takeWhile (· != 0)).length == text.length) = true) (h : Q (.int n s.toks) { s with toks := s.toks + 1 }) :
    wpAny M A ((int_private% "intFromText") v text 10) Q E s := by
  by_cases hs : (text.takeWhile (· != 0)).length ≤ 640
  · rw [if_pos hs] at hr
    exact PySem.W.KIN.wp_text hs hr ha h
  · rw [if_neg hs] at hr
    obtain ⟨mc, hns, hnone⟩ := hd
    have hs' : decide ((text.takeWhile (· != 0)).length ≤ 640) = false := decide_eq_false hs
    obtain ⟨hp, g, d, tk, os⟩ := s
    have hl : ∀ {Q' : Nat → Shared → Prop}, Q' 4300 ⟨hp, g, d, tk, os⟩ → wpAny M A Builtin.intMaxStrDigits Q' E ⟨hp, g, d, tk, os⟩ := fun {Q'} h => by
      unfold Builtin.intMaxStrDigits
      refine wpAny_bind (wpAny_nsGet hns ?_)
      rw [hnone]
      exact wpAny_pure h
    repeat (any_goals (first
      | assumption
      | (with_reducible refine wpAny_ite_false hs' ?_)
      | (with_reducible refine wpAny_ite_true (decide_eq_true ha) ?_)
      | (with_reducible refine hl ?_)
      | wp_step))
    all_goals (try rw [hr])
    all_goals (try dsimp only)
    repeat (any_goals (first
      | assumption
      | (with_reducible refine wpAny_ite_false hs' ?_)
      | (with_reducible refine wpAny_ite_true (decide_eq_true ha) ?_)
      | wp_step))
structure HidD (p : Prop) : Prop where
  out : p
theorem meets_textD {x : PySem.Str} {u : Tok} {n : Int} (hl : x.length ≤ sizeLine) (hn : PySem.intText? x = some n) :
    Meets (Builtin.«int.__new__» ⟨[.type "int", .str x u], []⟩) (fun _ R s => s.heap.NoDigits ∧ R (.ok (.ret (.int n s.toks))) { s with toks := s.toks + 1 }) :=
  .of_wp fun prog w A R s h => by
    obtain ⟨hd, h⟩ := h
    obtain ⟨hp, g, d, tk, os⟩ := s
    have f1 := F.conv_sub_int
    have f2 := F.madeHere_int
    have f3 := PySem.W.KIN.str_int
    have f4 := PySem.W.KIN.str_idx
    have f5 := PySem.W.KIN.str_trunc
    have f6 : typeOf (.str x u) = pure (.type "str") := rfl
    have hk : HidD ((int_private% "readNumeral") (numLimitOf x) 10 (numSeenOf x) = (int_private% "Numeral.value") n ∧ ((numSeenOf x).length == (numTextOf x).length) = true) := by
      rcases readAny x hl with ⟨m, h1, h2, h3⟩ | ⟨h1, _⟩
      · rw [hn] at h1
        injection h1 with h1
        subst h1
        exact ⟨h3, h2⟩
      · rw [hn] at h1
        cases h1
    clear hl hn
    repeat (any_goals (first
      | assumption
      | ((with_reducible show wpAny _ _ ((int_private% "intFromText") _ _ _) _ _ _); refine wp_textD hd hk.out.1 hk.out.2 ?_)
      | wp_step))
    all_goals first | exact ⟨_, rfl, h⟩ | skip
/-- int(..), of texts to 4300 figures -/
def fIntD : List I → Option O
  | [.str a] => if a.length ≤ sizeLine then (PySem.intText? a).map fun n => .im (.int n) else none
  | _ => none
section
variable {n : Pn} {X : Cx}
theorem cr_intD (hd : X.base.NoDigits) : CallR X (.type "int") (RdOp ⟨X.K, n⟩ fIntD) := by
  intro pins s σ H xs us Q Iv rv h
  obtain ⟨g, is, zd, hr, o, ho, q⟩ := h
  unfold fIntD at ho
  split at ho
  · obtain ⟨_, ev, h1⟩ := hr.one
    cases ev
    split at ho
    · rename_i hl
      obtain ⟨m, hm, rfl⟩ := Option.map_eq_some_iff.mp ho
      cases h1.str_inv
      obtain ⟨u, rfl, ru⟩ := vals1 rv
      obtain ⟨t, rfl⟩ := ru
      have hd' : s.heap.NoDigits := hd.keeps Iv.bk
      exact call_int_1 (meets_textD hl hm) ⟨hd', typeIs_int _ _ _, ⟨.int m, H, Iv.tok _, ⟨_, rfl⟩, q _ _ _ _ (.same (.int _))⟩⟩
    · cases ho
  · cases ho
end
section
variable {P : Program} {w : World} {K : PySem.W.Frag} {mg mb : Str → Option Value} {n : Pn} {k N : Nat} {fa a : Addr} {fd : FuncData} {x : Str} {io : List Nat} {fn : Fn} {s : Shared} {vs : List Value} {ns : List Int}
/-- .. where nobody has turned the limit on figures -/
theorem law_fromD {H : Hp} {Z : Addr → Prop} (KX : K.In s.heap) (hns : s.heap.Ns mainGlobals mg) (hb : s.heap.Ns builtinsNs mb) (hbb : ∀ x : Str, x ≠ "__name__" → mb x = bootBuiltins x) (hlim : s.heap.NoLimit) (hdg : s.heap.NoDigits) (hg : s.gens = #[])
    (ha : s.heap.get? a = some { cls := .type "list", data := .seq vs.toArray }) (hr : Room k callerA) (hio : ∀ i ∈ io, i < 1)
    (F : ∀ base : Heap, K.In base → base.Ns mainGlobals mg → base.NoDigits → FnG P w K mg base k fa fd [x] (spOf ⟨K, n⟩ N 1 io fn)) (hbind : ∀ (s : Shared) (u : Value), BindsTo s fd ⟨[u], []⟩ [(x, u)])
    {fi sto : List O} (hlaw : fn [.im (scr ns)] [] = some (.ok (.im (.bl true)), fi, sto)) (hN : 1 ≤ N)
    (only : ∀ b u, H b = some u → b = a ∧ K.lookup a = none ∧ ∃ o xs, u = .frz o (.lst xs)) (zd : ∀ b, Z b → ∃ o, H b = some o) (hok : HOk P w H s.heap) (hrep : ∀ pn, RepI ⟨K, n⟩ ⟨Z, [], pn⟩ H (scr ns) (.ref a)) :
    codeAny (model P w) callerA (.call (.ref fa) ⟨[.ref a], []⟩) (fun r s' => r = .ok (.ret (.bool true)) ∧ OldK s.heap s'.heap ∧ s'.os = s.os ∧ AllBare s'.gens) s := by
  have untr : ∀ {b : Addr} {o : Obj}, s.heap.get? b = some o → (∀ es ep, o.data = .dict es ep → True) → (b = a → False) → (hidT s.heap H).get? b = some o := fun {b o} e _ nb => hidT_get e (by
    cases q : H b with
    | none => rfl
    | some u => exact (nb (only b u q).1).elim)
  have names : ∀ {b : Addr} {m : Str → Option Value}, s.heap.Ns b m → (hidT s.heap H).Ns b m := by
    rintro b m ⟨o, es, ep, e, d, r⟩
    refine ⟨o, es, ep, untr e (fun _ _ _ => trivial) fun z => ?_, d, r⟩
    subst z
    rw [ha] at e
    cases e
    cases (show Data.seq vs.toArray _ = Data.dict es ep from d)
  have kin : K.In (hidT s.heap H) := fun b o e => hidT_get (KX b o e) (by
    cases q : H b with
    | none => rfl
    | some u =>
      obtain ⟨h1, h2, _⟩ := only b u q
      subst h1
      rw [h2] at e; cases e)
  have md : Mod K mg (hidT s.heap H) := by
    obtain ⟨mc, c1, c2⟩ := hlim
    exact ⟨kin, names hns, ⟨mb, names hb, hbb⟩, mc, names c1, c2⟩
  have env : Env0 P w K mg (hidT s.heap H) callerA [] s H := by
    refine ⟨rfl, md, fun b o e => of_hidT e, Nat.le_of_eq (hidT_size _ _), trivial, ?_, hok, .of_eq hg⟩
    intro b hb
    exact absurd hb (List.not_mem_nil)
  have G := F _ kin (names hns) (by obtain ⟨mc, c1, c2⟩ := hdg; exact ⟨mc, names c1, c2⟩)
  let g : Gh := ⟨Z, [], io.map fun i => (i, ([V.ref a] : List V).getD i .non)⟩
  have rs : RepS ⟨K, n⟩ g H ⟨[.im (scr ns)] ++ List.replicate (N - 1) .hole, []⟩ (([V.ref a] : List V).map some ++ List.replicate (N - 1) none) fun _ => emp := by
    refine ⟨by simp, fun i o e => ?_, fun r o e => ?_, rfl, fun _ _ _ _ h => h.elim, fun _ _ _ h => h, fun _ _ _ h => h, fun p hp => ?_, zd⟩
    · have e' : (O.im (scr ns) :: List.replicate (N - 1) O.hole)[i]? = some o := e
      cases i with
      | zero =>
        simp at e'
        subst e'
        exact .inr ⟨.ref a, rfl, .im (hrep _)⟩
      | succ i =>
        rw [List.getElem?_cons_succ, List.getElem?_replicate] at e'
        split at e'
        · cases e'; exact .inl ⟨rfl, fun _ h => h⟩
        · cases e'
    · simp at e
    · obtain ⟨i, hi, rfl⟩ := List.mem_map.mp hp
      have := hio i hi
      obtain rfl : i = 0 := by omega
      rfl
  have promise : spOf ⟨K, n⟩ N 1 io fn [.ref a] H (fun v _ => v = .bl true) (fun _ _ _ => False) := by
    refine ⟨g, [.im (scr ns)], [], fun _ => emp, rfl, rfl, rfl, rs, ?_⟩
    rw [hlaw]
    intro g' H' F' σ' st' v Fv _ _ ro
    cases ro.im_inv
    rfl
  refine codeAny_mono (G.go callerA [] s H ⟨[.ref a], []⟩ [.ref a] [.ref a] _ _ hr rfl env (hbind s (.ref a)) (.cons rfl .nil) promise) fun r s' hq => ?_
  cases r with
  | error e =>
    obtain ⟨_, _, _, _, _, _, _, _, _, _, _, _, f⟩ := hq
    exact f.elim
  | ok fl =>
    cases fl with
    | next => exact hq.elim
    | brk => exact hq.elim
    | cont => exact hq.elim
    | ret u =>
      obtain ⟨v, H', os, bare, un, hok', r', hv⟩ := hq
      have hv : v = .bl true := hv
      subst hv
      obtain rfl : u = Value.bool true := r'
      refine ⟨rfl, OldK.of_keep fun b o e => ?_, os, bare⟩
      cases q : H b with
      | none => exact un.keep b o e q (by simp [frs]) (by simp)
      | some u =>
        obtain ⟨_, _, ob, xs, rfl⟩ := only b u q
        have q2 := un.frzs b ob _ q
        obtain ⟨e1, _⟩ := hok b _ q
        obtain ⟨e2, _⟩ := hok' b _ q2
        rw [e] at e1; cases e1
        exact e2
theorem law_callGD (KX : K.In s.heap) (hns : s.heap.Ns mainGlobals mg) (hb : s.heap.Ns builtinsNs mb) (hbb : ∀ x : Str, x ≠ "__name__" → mb x = bootBuiltins x) (hlim : s.heap.NoLimit) (hdg : s.heap.NoDigits) (hg : s.gens = #[])
    (ha : s.heap.get? a = some { cls := .type "list", data := .seq vs.toArray }) (hi : IntsAre vs ns) (hl : ns.length ≤ sizeLine) (hr : Room k callerA) (hio : ∀ i ∈ io, i < 1)
    (F : ∀ base : Heap, K.In base → base.Ns mainGlobals mg → base.NoDigits → FnG P w K mg base k fa fd [x] (spOf ⟨K, n⟩ N 1 io fn)) (hbind : ∀ (s : Shared) (u : Value), BindsTo s fd ⟨[u], []⟩ [(x, u)])
    {fi sto : List O} (hlaw : fn [.im (scr ns)] [] = some (.ok (.im (.bl true)), fi, sto)) (hN : 1 ≤ N) :
    codeAny (model P w) callerA (.call (.ref fa) ⟨[.ref a], []⟩) (fun r s' => r = .ok (.ret (.bool true)) ∧ OldK s.heap s'.heap ∧ s'.os = s.os ∧ AllBare s'.gens) s := by
  have rv := vals_ints hi
  have len : vs.length = ns.length := hi.length
  cases hk : K.lookup a with
  | some o =>
    have e := KX a o hk
    rw [ha] at e
    cases e
    exact law_fromD (H := fun _ => none) (Z := fun _ => False) KX hns hb hbb hlim hdg hg ha hr hio F hbind hlaw hN (fun _ _ z => nomatch z) (fun _ z => z.elim) (fun _ _ z => nomatch z)
      fun pn => .lst (.inr ⟨vs.toArray, _, hk, by rw [List.size_toArray, len]; exact hl, by simpa using rv⟩) (scr_rep ns)
  | none =>
    have hH : ∀ {b u}, (if b = a then some (HO.frz { cls := .type "list", data := .seq vs.toArray } (.lst (ns.map V.int))) else none) = some u → b = a ∧ u = HO.frz { cls := .type "list", data := .seq vs.toArray } (.lst (ns.map V.int)) := fun {b u} z => by
      by_cases q : b = a
      · rw [if_pos q] at z; cases z; exact ⟨q, rfl⟩
      · rw [if_neg q] at z; cases z
    refine law_fromD (H := fun b => if b = a then some (.frz { cls := .type "list", data := .seq vs.toArray } (.lst (ns.map V.int))) else none) (Z := fun b => b = a) KX hns hb hbb hlim hdg hg ha hr hio F hbind hlaw hN (fun b u z => ?_) (fun b z => ⟨_, if_pos z⟩) (fun b u z => ?_)
      fun pn => .lst (.inl ⟨.inr ⟨_, if_pos rfl⟩, rfl⟩) (scr_rep ns)
    · obtain ⟨q, rfl⟩ := hH z
      exact ⟨q, hk, _, _, rfl⟩
    · obtain ⟨q, rfl⟩ := hH z
      subst q
      exact ⟨ha, by rw [List.length_map]; exact hl, vs, _, rv, ha⟩
/-- what k_head leaves -/
theorem walk_GD {l : PySem.W.OpenLaw} {m : Nat} {q : Program} {loose : List Str} {XP : (Str → Option Value) → Heap → Prop} {YP : World → Heap → Prop} {d : DefRec} {fn : Fn}
    (hn : l.most = some m) (hn2 : m ≤ sizeLine) (hdf : d.params.defaults = []) (hr : Room k callerA) (hN : 1 ≤ N)
    (F : ∀ (w : World) (mg : Str → Option Value) (fa : Addr) (h : Heap), YP w h → h.Ns mainGlobals mg → mg d.name = some (.ref fa) →
      ∃ (K : PySem.W.Frag) (fd : FuncData) (n : Pn), K.In h ∧ (∀ (s : Shared) (u : Value), BindsTo s fd ⟨[u], []⟩ [(x, u)]) ∧
        ∀ base : Heap, K.In base → base.Ns mainGlobals mg → base.NoDigits → FnG l.prog w K mg base k fa fd [x] (spOf ⟨K, n⟩ N 1 [] fn))
    (hlaw : ∀ ns : List Int, ns.length ≤ m → ∃ fi sto, fn [.im (scr ns)] [] = some (.ok (.im (.bl true)), fi, sto)) :
    PySem.W.WalkO q loose XP YP l.row.toRowW d [] (fun f vs => PySem.call f vs) := by
  refine Att.attach_call hn hdf fun w s₀ s mg mb fa o pm cd doc a vs ns G Y _ _ _ hmg hobj hints hlen hg => ?_
  obtain ⟨K, fd, n, KX, hb, hF⟩ := F w mg fa _ Y G.T.g hmg
  obtain ⟨fi, sto, e⟩ := hlaw ns hlen
  exact law_callGD KX G.T.g G.T.b G.T.builtins G.T.nolimit G.T.nodigits hg hobj hints (Nat.le_trans hlen hn2) hr (by simp) hF hb e hN
end
end VS

namespace VW
open PySem L2 VS
@[simp] theorem ok_num : PyData.strOk (Str.ofString "num") = true := by decide +kernel
@[simp] theorem ln_num : (Str.ofString "num").length = 3 := by decide +kernel
@[simp] theorem ne_num_name : Str.ofString "num" ≠ Str.ofString "name" := by decide +kernel
@[simp] theorem ne_num_fun : Str.ofString "num" ≠ Str.ofString "fun" := by decide +kernel
@[simp] theorem ne_num_call : Str.ofString "num" ≠ Str.ofString "call" := by decide +kernel
@[simp] theorem ne_num_let : Str.ofString "num" ≠ Str.ofString "let" := by decide +kernel
@[simp] theorem ne_num_now : Str.ofString "num" ≠ Str.ofString "now" := by decide +kernel
@[simp] theorem ne_num_letall : Str.ofString "num" ≠ Str.ofString "letall" := by decide +kernel
@[simp] theorem ne_num_made : Str.ofString "num" ≠ Str.ofString "made" := by decide +kernel
@[simp] theorem ne_num_by : Str.ofString "num" ≠ Str.ofString "by" := by decide +kernel
@[simp] theorem ne_num_sum : Str.ofString "num" ≠ Str.ofString "sum" := by decide +kernel
@[simp] theorem ne_num_minus : Str.ofString "num" ≠ Str.ofString "minus" := by decide +kernel
@[simp] theorem ne_num_less : Str.ofString "num" ≠ Str.ofString "less" := by decide +kernel
@[simp] theorem ne_num_same : Str.ofString "num" ≠ Str.ofString "same" := by decide +kernel
@[simp] theorem ne_num_yes : Str.ofString "num" ≠ Str.ofString "yes" := by decide +kernel
@[simp] theorem ok_name : PyData.strOk (Str.ofString "name") = true := by decide +kernel
@[simp] theorem ln_name : (Str.ofString "name").length = 4 := by decide +kernel
@[simp] theorem ne_name_num : Str.ofString "name" ≠ Str.ofString "num" := by decide +kernel
@[simp] theorem ne_name_fun : Str.ofString "name" ≠ Str.ofString "fun" := by decide +kernel
@[simp] theorem ne_name_call : Str.ofString "name" ≠ Str.ofString "call" := by decide +kernel
@[simp] theorem ne_name_let : Str.ofString "name" ≠ Str.ofString "let" := by decide +kernel
@[simp] theorem ne_name_now : Str.ofString "name" ≠ Str.ofString "now" := by decide +kernel
@[simp] theorem ne_name_letall : Str.ofString "name" ≠ Str.ofString "letall" := by decide +kernel
@[simp] theorem ne_name_made : Str.ofString "name" ≠ Str.ofString "made" := by decide +kernel
@[simp] theorem ne_name_by : Str.ofString "name" ≠ Str.ofString "by" := by decide +kernel
@[simp] theorem ne_name_sum : Str.ofString "name" ≠ Str.ofString "sum" := by decide +kernel
@[simp] theorem ne_name_minus : Str.ofString "name" ≠ Str.ofString "minus" := by decide +kernel
@[simp] theorem ne_name_less : Str.ofString "name" ≠ Str.ofString "less" := by decide +kernel
@[simp] theorem ne_name_same : Str.ofString "name" ≠ Str.ofString "same" := by decide +kernel
@[simp] theorem ne_name_yes : Str.ofString "name" ≠ Str.ofString "yes" := by decide +kernel
@[simp] theorem ok_fun : PyData.strOk (Str.ofString "fun") = true := by decide +kernel
@[simp] theorem ln_fun : (Str.ofString "fun").length = 3 := by decide +kernel
@[simp] theorem ne_fun_num : Str.ofString "fun" ≠ Str.ofString "num" := by decide +kernel
@[simp] theorem ne_fun_name : Str.ofString "fun" ≠ Str.ofString "name" := by decide +kernel
@[simp] theorem ne_fun_call : Str.ofString "fun" ≠ Str.ofString "call" := by decide +kernel
@[simp] theorem ne_fun_let : Str.ofString "fun" ≠ Str.ofString "let" := by decide +kernel
@[simp] theorem ne_fun_now : Str.ofString "fun" ≠ Str.ofString "now" := by decide +kernel
@[simp] theorem ne_fun_letall : Str.ofString "fun" ≠ Str.ofString "letall" := by decide +kernel
@[simp] theorem ne_fun_made : Str.ofString "fun" ≠ Str.ofString "made" := by decide +kernel
@[simp] theorem ne_fun_by : Str.ofString "fun" ≠ Str.ofString "by" := by decide +kernel
@[simp] theorem ne_fun_sum : Str.ofString "fun" ≠ Str.ofString "sum" := by decide +kernel
@[simp] theorem ne_fun_minus : Str.ofString "fun" ≠ Str.ofString "minus" := by decide +kernel
@[simp] theorem ne_fun_less : Str.ofString "fun" ≠ Str.ofString "less" := by decide +kernel
@[simp] theorem ne_fun_same : Str.ofString "fun" ≠ Str.ofString "same" := by decide +kernel
@[simp] theorem ne_fun_yes : Str.ofString "fun" ≠ Str.ofString "yes" := by decide +kernel
@[simp] theorem ok_call : PyData.strOk (Str.ofString "call") = true := by decide +kernel
@[simp] theorem ln_call : (Str.ofString "call").length = 4 := by decide +kernel
@[simp] theorem ne_call_num : Str.ofString "call" ≠ Str.ofString "num" := by decide +kernel
@[simp] theorem ne_call_name : Str.ofString "call" ≠ Str.ofString "name" := by decide +kernel
@[simp] theorem ne_call_fun : Str.ofString "call" ≠ Str.ofString "fun" := by decide +kernel
@[simp] theorem ne_call_let : Str.ofString "call" ≠ Str.ofString "let" := by decide +kernel
@[simp] theorem ne_call_now : Str.ofString "call" ≠ Str.ofString "now" := by decide +kernel
@[simp] theorem ne_call_letall : Str.ofString "call" ≠ Str.ofString "letall" := by decide +kernel
@[simp] theorem ne_call_made : Str.ofString "call" ≠ Str.ofString "made" := by decide +kernel
@[simp] theorem ne_call_by : Str.ofString "call" ≠ Str.ofString "by" := by decide +kernel
@[simp] theorem ne_call_sum : Str.ofString "call" ≠ Str.ofString "sum" := by decide +kernel
@[simp] theorem ne_call_minus : Str.ofString "call" ≠ Str.ofString "minus" := by decide +kernel
@[simp] theorem ne_call_less : Str.ofString "call" ≠ Str.ofString "less" := by decide +kernel
@[simp] theorem ne_call_same : Str.ofString "call" ≠ Str.ofString "same" := by decide +kernel
@[simp] theorem ne_call_yes : Str.ofString "call" ≠ Str.ofString "yes" := by decide +kernel
@[simp] theorem ok_let : PyData.strOk (Str.ofString "let") = true := by decide +kernel
@[simp] theorem ln_let : (Str.ofString "let").length = 3 := by decide +kernel
@[simp] theorem ne_let_num : Str.ofString "let" ≠ Str.ofString "num" := by decide +kernel
@[simp] theorem ne_let_name : Str.ofString "let" ≠ Str.ofString "name" := by decide +kernel
@[simp] theorem ne_let_fun : Str.ofString "let" ≠ Str.ofString "fun" := by decide +kernel
@[simp] theorem ne_let_call : Str.ofString "let" ≠ Str.ofString "call" := by decide +kernel
@[simp] theorem ne_let_now : Str.ofString "let" ≠ Str.ofString "now" := by decide +kernel
@[simp] theorem ne_let_letall : Str.ofString "let" ≠ Str.ofString "letall" := by decide +kernel
@[simp] theorem ne_let_made : Str.ofString "let" ≠ Str.ofString "made" := by decide +kernel
@[simp] theorem ne_let_by : Str.ofString "let" ≠ Str.ofString "by" := by decide +kernel
@[simp] theorem ne_let_sum : Str.ofString "let" ≠ Str.ofString "sum" := by decide +kernel
@[simp] theorem ne_let_minus : Str.ofString "let" ≠ Str.ofString "minus" := by decide +kernel
@[simp] theorem ne_let_less : Str.ofString "let" ≠ Str.ofString "less" := by decide +kernel
@[simp] theorem ne_let_same : Str.ofString "let" ≠ Str.ofString "same" := by decide +kernel
@[simp] theorem ne_let_yes : Str.ofString "let" ≠ Str.ofString "yes" := by decide +kernel
@[simp] theorem ok_now : PyData.strOk (Str.ofString "now") = true := by decide +kernel
@[simp] theorem ln_now : (Str.ofString "now").length = 3 := by decide +kernel
@[simp] theorem ne_now_num : Str.ofString "now" ≠ Str.ofString "num" := by decide +kernel
@[simp] theorem ne_now_name : Str.ofString "now" ≠ Str.ofString "name" := by decide +kernel
@[simp] theorem ne_now_fun : Str.ofString "now" ≠ Str.ofString "fun" := by decide +kernel
@[simp] theorem ne_now_call : Str.ofString "now" ≠ Str.ofString "call" := by decide +kernel
@[simp] theorem ne_now_let : Str.ofString "now" ≠ Str.ofString "let" := by decide +kernel
@[simp] theorem ne_now_letall : Str.ofString "now" ≠ Str.ofString "letall" := by decide +kernel
@[simp] theorem ne_now_made : Str.ofString "now" ≠ Str.ofString "made" := by decide +kernel
@[simp] theorem ne_now_by : Str.ofString "now" ≠ Str.ofString "by" := by decide +kernel
@[simp] theorem ne_now_sum : Str.ofString "now" ≠ Str.ofString "sum" := by decide +kernel
@[simp] theorem ne_now_minus : Str.ofString "now" ≠ Str.ofString "minus" := by decide +kernel
@[simp] theorem ne_now_less : Str.ofString "now" ≠ Str.ofString "less" := by decide +kernel
@[simp] theorem ne_now_same : Str.ofString "now" ≠ Str.ofString "same" := by decide +kernel
@[simp] theorem ne_now_yes : Str.ofString "now" ≠ Str.ofString "yes" := by decide +kernel
@[simp] theorem ok_letall : PyData.strOk (Str.ofString "letall") = true := by decide +kernel
@[simp] theorem ln_letall : (Str.ofString "letall").length = 6 := by decide +kernel
@[simp] theorem ne_letall_num : Str.ofString "letall" ≠ Str.ofString "num" := by decide +kernel
@[simp] theorem ne_letall_name : Str.ofString "letall" ≠ Str.ofString "name" := by decide +kernel
@[simp] theorem ne_letall_fun : Str.ofString "letall" ≠ Str.ofString "fun" := by decide +kernel
@[simp] theorem ne_letall_call : Str.ofString "letall" ≠ Str.ofString "call" := by decide +kernel
@[simp] theorem ne_letall_let : Str.ofString "letall" ≠ Str.ofString "let" := by decide +kernel
@[simp] theorem ne_letall_now : Str.ofString "letall" ≠ Str.ofString "now" := by decide +kernel
@[simp] theorem ne_letall_made : Str.ofString "letall" ≠ Str.ofString "made" := by decide +kernel
@[simp] theorem ne_letall_by : Str.ofString "letall" ≠ Str.ofString "by" := by decide +kernel
@[simp] theorem ne_letall_sum : Str.ofString "letall" ≠ Str.ofString "sum" := by decide +kernel
@[simp] theorem ne_letall_minus : Str.ofString "letall" ≠ Str.ofString "minus" := by decide +kernel
@[simp] theorem ne_letall_less : Str.ofString "letall" ≠ Str.ofString "less" := by decide +kernel
@[simp] theorem ne_letall_same : Str.ofString "letall" ≠ Str.ofString "same" := by decide +kernel
@[simp] theorem ne_letall_yes : Str.ofString "letall" ≠ Str.ofString "yes" := by decide +kernel
@[simp] theorem ok_made : PyData.strOk (Str.ofString "made") = true := by decide +kernel
@[simp] theorem ln_made : (Str.ofString "made").length = 4 := by decide +kernel
@[simp] theorem ne_made_num : Str.ofString "made" ≠ Str.ofString "num" := by decide +kernel
@[simp] theorem ne_made_name : Str.ofString "made" ≠ Str.ofString "name" := by decide +kernel
@[simp] theorem ne_made_fun : Str.ofString "made" ≠ Str.ofString "fun" := by decide +kernel
@[simp] theorem ne_made_call : Str.ofString "made" ≠ Str.ofString "call" := by decide +kernel
@[simp] theorem ne_made_let : Str.ofString "made" ≠ Str.ofString "let" := by decide +kernel
@[simp] theorem ne_made_now : Str.ofString "made" ≠ Str.ofString "now" := by decide +kernel
@[simp] theorem ne_made_letall : Str.ofString "made" ≠ Str.ofString "letall" := by decide +kernel
@[simp] theorem ne_made_by : Str.ofString "made" ≠ Str.ofString "by" := by decide +kernel
@[simp] theorem ne_made_sum : Str.ofString "made" ≠ Str.ofString "sum" := by decide +kernel
@[simp] theorem ne_made_minus : Str.ofString "made" ≠ Str.ofString "minus" := by decide +kernel
@[simp] theorem ne_made_less : Str.ofString "made" ≠ Str.ofString "less" := by decide +kernel
@[simp] theorem ne_made_same : Str.ofString "made" ≠ Str.ofString "same" := by decide +kernel
@[simp] theorem ne_made_yes : Str.ofString "made" ≠ Str.ofString "yes" := by decide +kernel
@[simp] theorem ok_by : PyData.strOk (Str.ofString "by") = true := by decide +kernel
@[simp] theorem ln_by : (Str.ofString "by").length = 2 := by decide +kernel
@[simp] theorem ne_by_num : Str.ofString "by" ≠ Str.ofString "num" := by decide +kernel
@[simp] theorem ne_by_name : Str.ofString "by" ≠ Str.ofString "name" := by decide +kernel
@[simp] theorem ne_by_fun : Str.ofString "by" ≠ Str.ofString "fun" := by decide +kernel
@[simp] theorem ne_by_call : Str.ofString "by" ≠ Str.ofString "call" := by decide +kernel
@[simp] theorem ne_by_let : Str.ofString "by" ≠ Str.ofString "let" := by decide +kernel
@[simp] theorem ne_by_now : Str.ofString "by" ≠ Str.ofString "now" := by decide +kernel
@[simp] theorem ne_by_letall : Str.ofString "by" ≠ Str.ofString "letall" := by decide +kernel
@[simp] theorem ne_by_made : Str.ofString "by" ≠ Str.ofString "made" := by decide +kernel
@[simp] theorem ne_by_sum : Str.ofString "by" ≠ Str.ofString "sum" := by decide +kernel
@[simp] theorem ne_by_minus : Str.ofString "by" ≠ Str.ofString "minus" := by decide +kernel
@[simp] theorem ne_by_less : Str.ofString "by" ≠ Str.ofString "less" := by decide +kernel
@[simp] theorem ne_by_same : Str.ofString "by" ≠ Str.ofString "same" := by decide +kernel
@[simp] theorem ne_by_yes : Str.ofString "by" ≠ Str.ofString "yes" := by decide +kernel
@[simp] theorem ok_sum : PyData.strOk (Str.ofString "sum") = true := by decide +kernel
@[simp] theorem ln_sum : (Str.ofString "sum").length = 3 := by decide +kernel
@[simp] theorem ne_sum_num : Str.ofString "sum" ≠ Str.ofString "num" := by decide +kernel
@[simp] theorem ne_sum_name : Str.ofString "sum" ≠ Str.ofString "name" := by decide +kernel
@[simp] theorem ne_sum_fun : Str.ofString "sum" ≠ Str.ofString "fun" := by decide +kernel
@[simp] theorem ne_sum_call : Str.ofString "sum" ≠ Str.ofString "call" := by decide +kernel
@[simp] theorem ne_sum_let : Str.ofString "sum" ≠ Str.ofString "let" := by decide +kernel
@[simp] theorem ne_sum_now : Str.ofString "sum" ≠ Str.ofString "now" := by decide +kernel
@[simp] theorem ne_sum_letall : Str.ofString "sum" ≠ Str.ofString "letall" := by decide +kernel
@[simp] theorem ne_sum_made : Str.ofString "sum" ≠ Str.ofString "made" := by decide +kernel
@[simp] theorem ne_sum_by : Str.ofString "sum" ≠ Str.ofString "by" := by decide +kernel
@[simp] theorem ne_sum_minus : Str.ofString "sum" ≠ Str.ofString "minus" := by decide +kernel
@[simp] theorem ne_sum_less : Str.ofString "sum" ≠ Str.ofString "less" := by decide +kernel
@[simp] theorem ne_sum_same : Str.ofString "sum" ≠ Str.ofString "same" := by decide +kernel
@[simp] theorem ne_sum_yes : Str.ofString "sum" ≠ Str.ofString "yes" := by decide +kernel
@[simp] theorem ok_minus : PyData.strOk (Str.ofString "minus") = true := by decide +kernel
@[simp] theorem ln_minus : (Str.ofString "minus").length = 5 := by decide +kernel
@[simp] theorem ne_minus_num : Str.ofString "minus" ≠ Str.ofString "num" := by decide +kernel
@[simp] theorem ne_minus_name : Str.ofString "minus" ≠ Str.ofString "name" := by decide +kernel
@[simp] theorem ne_minus_fun : Str.ofString "minus" ≠ Str.ofString "fun" := by decide +kernel
@[simp] theorem ne_minus_call : Str.ofString "minus" ≠ Str.ofString "call" := by decide +kernel
@[simp] theorem ne_minus_let : Str.ofString "minus" ≠ Str.ofString "let" := by decide +kernel
@[simp] theorem ne_minus_now : Str.ofString "minus" ≠ Str.ofString "now" := by decide +kernel
@[simp] theorem ne_minus_letall : Str.ofString "minus" ≠ Str.ofString "letall" := by decide +kernel
@[simp] theorem ne_minus_made : Str.ofString "minus" ≠ Str.ofString "made" := by decide +kernel
@[simp] theorem ne_minus_by : Str.ofString "minus" ≠ Str.ofString "by" := by decide +kernel
@[simp] theorem ne_minus_sum : Str.ofString "minus" ≠ Str.ofString "sum" := by decide +kernel
@[simp] theorem ne_minus_less : Str.ofString "minus" ≠ Str.ofString "less" := by decide +kernel
@[simp] theorem ne_minus_same : Str.ofString "minus" ≠ Str.ofString "same" := by decide +kernel
@[simp] theorem ne_minus_yes : Str.ofString "minus" ≠ Str.ofString "yes" := by decide +kernel
@[simp] theorem ok_less : PyData.strOk (Str.ofString "less") = true := by decide +kernel
@[simp] theorem ln_less : (Str.ofString "less").length = 4 := by decide +kernel
@[simp] theorem ne_less_num : Str.ofString "less" ≠ Str.ofString "num" := by decide +kernel
@[simp] theorem ne_less_name : Str.ofString "less" ≠ Str.ofString "name" := by decide +kernel
@[simp] theorem ne_less_fun : Str.ofString "less" ≠ Str.ofString "fun" := by decide +kernel
@[simp] theorem ne_less_call : Str.ofString "less" ≠ Str.ofString "call" := by decide +kernel
@[simp] theorem ne_less_let : Str.ofString "less" ≠ Str.ofString "let" := by decide +kernel
@[simp] theorem ne_less_now : Str.ofString "less" ≠ Str.ofString "now" := by decide +kernel
@[simp] theorem ne_less_letall : Str.ofString "less" ≠ Str.ofString "letall" := by decide +kernel
@[simp] theorem ne_less_made : Str.ofString "less" ≠ Str.ofString "made" := by decide +kernel
@[simp] theorem ne_less_by : Str.ofString "less" ≠ Str.ofString "by" := by decide +kernel
@[simp] theorem ne_less_sum : Str.ofString "less" ≠ Str.ofString "sum" := by decide +kernel
@[simp] theorem ne_less_minus : Str.ofString "less" ≠ Str.ofString "minus" := by decide +kernel
@[simp] theorem ne_less_same : Str.ofString "less" ≠ Str.ofString "same" := by decide +kernel
@[simp] theorem ne_less_yes : Str.ofString "less" ≠ Str.ofString "yes" := by decide +kernel
@[simp] theorem ok_same : PyData.strOk (Str.ofString "same") = true := by decide +kernel
@[simp] theorem ln_same : (Str.ofString "same").length = 4 := by decide +kernel
@[simp] theorem ne_same_num : Str.ofString "same" ≠ Str.ofString "num" := by decide +kernel
@[simp] theorem ne_same_name : Str.ofString "same" ≠ Str.ofString "name" := by decide +kernel
@[simp] theorem ne_same_fun : Str.ofString "same" ≠ Str.ofString "fun" := by decide +kernel
@[simp] theorem ne_same_call : Str.ofString "same" ≠ Str.ofString "call" := by decide +kernel
@[simp] theorem ne_same_let : Str.ofString "same" ≠ Str.ofString "let" := by decide +kernel
@[simp] theorem ne_same_now : Str.ofString "same" ≠ Str.ofString "now" := by decide +kernel
@[simp] theorem ne_same_letall : Str.ofString "same" ≠ Str.ofString "letall" := by decide +kernel
@[simp] theorem ne_same_made : Str.ofString "same" ≠ Str.ofString "made" := by decide +kernel
@[simp] theorem ne_same_by : Str.ofString "same" ≠ Str.ofString "by" := by decide +kernel
@[simp] theorem ne_same_sum : Str.ofString "same" ≠ Str.ofString "sum" := by decide +kernel
@[simp] theorem ne_same_minus : Str.ofString "same" ≠ Str.ofString "minus" := by decide +kernel
@[simp] theorem ne_same_less : Str.ofString "same" ≠ Str.ofString "less" := by decide +kernel
@[simp] theorem ne_same_yes : Str.ofString "same" ≠ Str.ofString "yes" := by decide +kernel
@[simp] theorem ok_yes : PyData.strOk (Str.ofString "yes") = true := by decide +kernel
@[simp] theorem ln_yes : (Str.ofString "yes").length = 3 := by decide +kernel
@[simp] theorem ne_yes_num : Str.ofString "yes" ≠ Str.ofString "num" := by decide +kernel
@[simp] theorem ne_yes_name : Str.ofString "yes" ≠ Str.ofString "name" := by decide +kernel
@[simp] theorem ne_yes_fun : Str.ofString "yes" ≠ Str.ofString "fun" := by decide +kernel
@[simp] theorem ne_yes_call : Str.ofString "yes" ≠ Str.ofString "call" := by decide +kernel
@[simp] theorem ne_yes_let : Str.ofString "yes" ≠ Str.ofString "let" := by decide +kernel
@[simp] theorem ne_yes_now : Str.ofString "yes" ≠ Str.ofString "now" := by decide +kernel
@[simp] theorem ne_yes_letall : Str.ofString "yes" ≠ Str.ofString "letall" := by decide +kernel
@[simp] theorem ne_yes_made : Str.ofString "yes" ≠ Str.ofString "made" := by decide +kernel
@[simp] theorem ne_yes_by : Str.ofString "yes" ≠ Str.ofString "by" := by decide +kernel
@[simp] theorem ne_yes_sum : Str.ofString "yes" ≠ Str.ofString "sum" := by decide +kernel
@[simp] theorem ne_yes_minus : Str.ofString "yes" ≠ Str.ofString "minus" := by decide +kernel
@[simp] theorem ne_yes_less : Str.ofString "yes" ≠ Str.ofString "less" := by decide +kernel
@[simp] theorem ne_yes_same : Str.ofString "yes" ≠ Str.ofString "same" := by decide +kernel
end VW

namespace VT
open PySem PySem.Spec PyProof.Rows L2 VS
def l_NAMES_ALONE : List I := [.str "name", .str "call", .str "sum", .str "minus", .str "less", .str "same"]
/-- inner_of -/
noncomputable def b_inner_of : SM := (sSeq (sStar 1 2 (eVar 0))
    (sSeq (sIf (asB (op2 fEq (vl (eVar 1)) (vl (cI (.str "fun")))))
    (sRet (eLst (aCons (eTup (aCons (op2 fIx (vl (eVar 2)) (vl (cI (.int 1)))) (aCons (eTup (aCons (op2 fIx (vl (eVar 2)) (vl (cI (.int 0)))) aNil)) aNil))) aNil)))
    sNext)
    (sSeq (sIf (asB (op2 fIn (vl (eVar 1)) (vl (eTup (aCons (cI (.str "let")) (aCons (cI (.str "now")) aNil))))))
    (sRet (eLst (aCons (eTup (aCons (op2 fIx (vl (eVar 2)) (vl (cI (.int 1)))) (aCons (eTup aNil) aNil))) (aCons (eTup (aCons (op2 fIx (vl (eVar 2)) (vl (cI (.int 2)))) (aCons (eTup (aCons (op2 fIx (vl (eVar 2)) (vl (cI (.int 0)))) aNil)) aNil))) aNil))))
    sNext)
    (sSeq (sIf (asB (op2 fEq (vl (eVar 1)) (vl (cI (.str "letall")))))
    (sSeq (sSet 3 (opN fTuple (oCons (vl (eLc [4] (itV (op2 fIx (vl (eVar 2)) (vl (cI (.int 0))))) (.nm 4) bYes (op2 fIx (vl (eVar 4)) (vl (cI (.int 0)))))) oNil)))
    (sRet (op2 fAdd (vl (eLc [4] (itV (op2 fIx (vl (eVar 2)) (vl (cI (.int 0))))) (.nm 4) bYes (eTup (aCons (op2 fIx (vl (eVar 4)) (vl (cI (.int 1)))) (aCons (eVar 3) aNil))))) (vl (eLst (aCons (eTup (aCons (op2 fIx (vl (eVar 2)) (vl (cI (.int 1)))) (aCons (eVar 3) aNil))) aNil))))))
    sNext)
    (sSeq (sIf (asB (op2 fEq (vl (eVar 1)) (vl (cI (.str "by")))))
    (sRet (eLc [4] (itV (op2 fIx (vl (eVar 2)) (vl (cI (.int 1))))) (.nm 4) bYes (eTup (aCons (op2 fIx (vl (eVar 4)) (vl (cI (.int 2)))) (aCons (op2 fIx (vl (eVar 4)) (vl (cI (.int 1)))) aNil)))))
    sNext)
    (sRet (eLst aNil)))))))
noncomputable def f_inner_of : Fn := mkFn 5 1 [] b_inner_of
/-- own_names -/
noncomputable def b_own_names : SM := (sSeq (sStar 1 2 (eVar 0))
    (sSeq (sIf (asB (op1 (fInK false l_NAMES_ALONE) (vl (eVar 1))))
    (sRet (opN fList (oCons (vl (eVar 2)) oNil)))
    sNext)
    (sSeq (sIf (asB (op2 fEq (vl (eVar 1)) (vl (cI (.str "made")))))
    (sRet (opN fList (oCons (vl (op2 fIx (vl (eVar 2)) (vl (cI (.int 1))))) oNil)))
    sNext)
    (sRet (eIf (asB (op2 fEq (vl (eVar 1)) (vl (cI (.str "by"))))) (eLst (aCons (op2 fIx (vl (eVar 2)) (vl (cI (.int 0)))) aNil)) (eLst aNil))))))
noncomputable def f_own_names : Fn := mkFn 3 1 [] b_own_names
/-- _law_feed -/
noncomputable def b_feed : SM := (sSeq (sSet 2 (eIf (asB (op2 fLt (vl (eVar 1)) (vl (opN fLen (oCons (vl (eVar 0)) oNil))))) (op2 fIx (vl (eVar 0)) (vl (eVar 1))) (op2 fAdd (vl (op2 fMul (vl (cI (.int 71))) (vl (eVar 1)))) (vl (cI (.int 23))))))
    (sSeq (sSet 3 (opN fMax (oCons (vl (cI (.int 0))) (oCons (vl (op2 fSub (vl (opN fAbs (oCons (vl (eVar 2)) oNil))) (vl (op2 fPow (vl (cI (.int 10))) (vl (cI (.int 18))))))) oNil))))
    (sSeq (sSet 4 (op2 fMod (vl (op2 fAdd (vl (op2 fAdd (vl (op2 fMul (vl (eVar 2)) (vl (cI (.int 6364136223846793005))))) (vl (op2 fMul (vl (cI (.int 9973))) (vl (eVar 1)))))) (vl (cI (.int 1442695040888963407))))) (vl (cI (.int 2305843009213693951)))))
    (sRet (eLst (aCons (eVar 3) (aCons (eVar 4) aNil)))))))
noncomputable def f_feed : Fn := mkFn 5 2 [] b_feed
/-- _law_take -/
noncomputable def b_take : SM := (sSeq (sIf (asB (op2 fGt (vl (op2 fIx (bo 0) (vl (cI (.int 0))))) (vl (cI (.int 0)))))
    (sSeq (sSet 2 (op2 fMod (vl (op2 fIx (bo 0) (vl (cI (.int 0))))) (vl (eVar 1))))
    (sSeq (sPut 0 (cI (.int 0)) (op2 fFdv (vl (op2 fIx (bo 0) (vl (cI (.int 0))))) (vl (eVar 1))))
    (sRet (eVar 2))))
    sNext)
    (sSeq (sPut 0 (cI (.int 1)) (op2 fMod (vl (op2 fAdd (vl (op2 fMul (vl (op2 fIx (bo 0) (vl (cI (.int 1))))) (vl (cI (.int 6364136223846793005))))) (vl (cI (.int 1442695040888963407))))) (vl (cI (.int 2305843009213693951)))))
    (sRet (op2 fMod (vl (op2 fFdv (vl (op2 fIx (bo 0) (vl (cI (.int 1))))) (vl (cI (.int 65536))))) (vl (eVar 1))))))
noncomputable def f_take : Fn := mkFn 3 2 [0] b_take
/-- _law_pick -/
noncomputable def b_pick : SM := (sRet (op2 fIx (vl (eVar 1)) (vl (eCall 2 [0] f_take [] (oCons (bo 0) (oCons (vl (opN fLen (oCons (vl (eVar 1)) oNil))) oNil))))))
noncomputable def f_pick : Fn := mkFn 2 2 [0] b_pick
/-- _law_names -/
noncomputable def b_names_1 : SM := (sPut 4 (eCall 2 [0] f_take [] (oCons (bo 0) (oCons (vl (cI (.int 8))) oNil))) (eFz (eCall 2 [0] f_pick [] (oCons (bo 0) (oCons (vl (eVar 5)) oNil)))))
noncomputable def b_names : SM := (sSeq (sSet 1 (cI (.str "abcdefghijklmnopqrstuvwxyz")))
    (sSeq (sUnp [2, 3] (eFz (eTup (aCons (eFz (eCall 2 [0] f_take [] (oCons (bo 0) (oCons (vl (cI (.int 26))) oNil)))) (aCons (eFz (op2 fMul (vl (op2 fIx (vl (eVar 1)) (vl (eCall 2 [0] f_take [] (oCons (bo 0) (oCons (vl (cI (.int 26))) oNil)))))) (vl (eCall 2 [0] f_take [] (oCons (bo 0) (oCons (vl (cI (.int 8))) oNil)))))) aNil)))))
    (sSeq (sSet 4 (eLc [7] (itR (aCons (cI (.int 8)) aNil)) (.nm 7) bYes (eFz (op2 fAdd (vl (op2 fIx (vl (eVar 1)) (vl (op2 fMod (vl (op2 fAdd (vl (eVar 2)) (vl (op2 fMul (vl (cI (.int 5))) (vl (eVar 7)))))) (vl (cI (.int 26))))))) (vl (eVar 3))))))
    (sSeq (sSet 5 (eFz (eLst (aCons (cI (.str "num")) (aCons (cI (.str "name")) (aCons (cI (.str "fun")) (aCons (cI (.str "call")) (aCons (cI (.str "let")) (aCons (cI (.str "now")) (aCons (cI (.str "letall")) (aCons (cI (.str "made")) (aCons (cI (.str "by")) (aCons (cI (.str "sum")) (aCons (cI (.str "minus")) (aCons (cI (.str "less")) aNil)))))))))))))))
    (sSeq (sSet 5 (eFz (op2 fAdd (vl (eVar 5)) (vl (eLst (aCons (cI (.str "same")) (aCons (cI (.str "yes")) aNil)))))))
    (sSeq (sFor (itR (aCons (eCall 2 [0] f_pick [] (oCons (bo 0) (oCons (vl (eFz (eLst (aCons (cI (.int 0)) (aCons (cI (.int 0)) (aCons (cI (.int 1)) (aCons (cI (.int 4)) aNil))))))) oNil))) aNil)) (.nm 6)
    b_names_1)
    (sRet (eMv 4))))))))
noncomputable def f_names : Fn := mkFn 8 1 [0] b_names
/-- _law_few -/
noncomputable def b_few_1 : SM := (sSeq (sSet 5 (eFz (eCall 2 [0] f_pick [] (oCons (bo 0) (oCons (vl (eVar 1)) oNil)))))
    (sIf (asB (op2 fNotIn (vl (eVar 5)) (bo 3)))
    (sDrop (eLM lAppend (rcS 3) (aCons (eVar 5) aNil)))
    sNext))
noncomputable def b_few : SM := (sSeq (sSet 3 (eLst aNil))
    (sSeq (sFor (itR (aCons (eCall 2 [0] f_take [] (oCons (bo 0) (oCons (vl (op2 fAdd (vl (eVar 2)) (vl (cI (.int 1))))) oNil))) aNil)) (.nm 4)
    b_few_1)
    (sRet (opN fTuple (oCons (bo 3) oNil)))))
noncomputable def f_few : Fn := mkFn 6 3 [0] b_few
/-- _law_made -/
noncomputable def b_made : SM := (sSeq (sSet 2 (eLc [3] (itR (aCons (eCall 2 [0] f_take [] (oCons (bo 0) (oCons (vl (cI (.int 4))) oNil))) aNil)) (.nm 3) bYes (eFz (eCall 2 [0] f_pick [] (oCons (bo 0) (oCons (vl (eVar 1)) oNil))))))
    (sRet (eTup (aCons (cI (.str "made")) (aCons (eCall 2 [0] f_pick [] (oCons (bo 0) (oCons (vl (eVar 1)) oNil))) (aCons (opN fTuple (oCons (bo 2) oNil)) aNil))))))
noncomputable def f_made : Fn := mkFn 4 2 [0] b_made
/-- _law_leaf -/
noncomputable def b_leaf : SM := (sSeq (sSet 2 (eFz (eCall 2 [0] f_take [] (oCons (bo 0) (oCons (vl (cI (.int 5))) oNil)))))
    (sSeq (sIf (asB (op2 fEq (vl (eVar 2)) (vl (cI (.int 0)))))
    (sRet (eTup (aCons (cI (.str "num")) (aCons (eCall 2 [0] f_pick [] (oCons (bo 0) (oCons (vl (eFz (eLst (aCons (cI (.int 0)) (aCons (cI (.int 1)) (aCons (op1 fNeg (vl (cI (.int 1)))) (aCons (op2 fPow (vl (cI (.int 10))) (vl (cI (.int 18)))) (aCons (op2 fSub (vl (cI (.int 0))) (vl (op2 fPow (vl (cI (.int 10))) (vl (cI (.int 18)))))) (aCons (op2 fSub (vl (eCall 2 [0] f_take [] (oCons (bo 0) (oCons (vl (cI (.int 99))) oNil)))) (vl (cI (.int 40)))) aNil))))))))) oNil))) aNil))))
    sNext)
    (sSeq (sIf (asB (op2 fEq (vl (eVar 2)) (vl (cI (.int 1)))))
    (sRet (eCall 2 [0] f_made [] (oCons (bo 0) (oCons (vl (eVar 1)) oNil))))
    sNext)
    (sSeq (sIf (asB (op2 fEq (vl (eVar 2)) (vl (cI (.int 2)))))
    (sRet (eTup (aCons (cI (.str "name")) (aCons (eCall 2 [0] f_pick [] (oCons (bo 0) (oCons (vl (eVar 1)) oNil))) aNil))))
    sNext)
    (sSeq (sSet 3 (eFz (eCall 2 [0] f_pick [] (oCons (bo 0) (oCons (vl (eFz (eLst (aCons (cI (.str "call")) (aCons (cI (.str "sum")) (aCons (cI (.str "minus")) (aCons (cI (.str "less")) (aCons (cI (.str "same")) (aCons (cI (.str "call")) aNil))))))))) oNil)))))
    (sRet (eTup (aCons (eVar 3) (aCons (eCall 2 [0] f_pick [] (oCons (bo 0) (oCons (vl (eVar 1)) oNil))) (aCons (eCall 2 [0] f_pick [] (oCons (bo 0) (oCons (vl (eVar 1)) oNil))) aNil))))))))))
noncomputable def f_leaf : Fn := mkFn 4 2 [0] b_leaf
/-- free_names -/
noncomputable def b_free_names_1 (F_free_names : Fn) : SM := (sDrop (eDM dUpdate (rcS 1) (aCons (eFz (eDc [4] (itV (eFz (eCall 1 [] F_free_names [] (oCons (vl (eVar 2)) oNil)))) (.nm 4) (asB (op2 fNotIn (vl (eVar 4)) (vl (eVar 3)))) (eVar 4) (cI (.bl true)))) aNil)))
noncomputable def b_free_names (F_free_names : Fn) : SM := (sSeq (sSet 1 (eDc [4] (itV (eFz (eCall 1 [] f_own_names [] (oCons (vl (eVar 0)) oNil)))) (.nm 4) bYes (eVar 4) (cI (.bl true))))
    (sSeq (sFor (itV (eFz (eCall 1 [] f_inner_of [] (oCons (vl (eVar 0)) oNil)))) (.tp [(.nm 2), (.nm 3)])
    (b_free_names_1 F_free_names))
    (sRet (opN fSorted (oCons (bo 1) oNil)))))
noncomputable def f_free_names : Nat → Fn
  | 0 => f0
  | k+1 => mkFn 5 1 [] (b_free_names (f_free_names k))
/-- _law_worth -/
noncomputable def b_worth (F_worth : Fn) (F_term : Fn) : SM := (sSeq (sPut 2 (cI (.int 0)) (op2 fSub (vl (op2 fIx (bo 2) (vl (cI (.int 0))))) (vl (cI (.int 1)))))
    (sSeq (sIf (asB (op2 fEq (vl (eCall 2 [0] f_take [] (oCons (bo 0) (oCons (vl (cI (.int 3))) oNil)))) (vl (cI (.int 0)))))
    (sRet (eCall 2 [0] f_made [] (oCons (bo 0) (oCons (vl (eVar 1)) oNil))))
    sNext)
    (sRet (eTup (aCons (cI (.str "fun")) (aCons (eCall 2 [0] f_pick [] (oCons (bo 0) (oCons (vl (eVar 1)) oNil))) (aCons (eCall 4 [0, 2] F_term [] (oCons (bo 0) (oCons (vl (eVar 1)) (oCons (bo 2) (oCons (vl (op2 fSub (vl (eVar 3)) (vl (cI (.int 1))))) oNil))))) aNil)))))))
/-- _law_term -/
noncomputable def b_term_1 (F_worth : Fn) (F_term : Fn) : SM := (sSeq (sSet 9 (eFz (eCall 3 [0] f_few [] (oCons (bo 0) (oCons (vl (eVar 1)) (oCons (vl (cI (.int 3))) oNil))))))
    (sDrop (eLM lAppend (rcS 7) (aCons (eFz (eTup (aCons (eVar 8) (aCons (eVar 9) (aCons (eCall 4 [0, 2] F_term [] (oCons (bo 0) (oCons (vl (eVar 1)) (oCons (bo 2) (oCons (vl (op2 fSub (vl (eVar 3)) (vl (cI (.int 1))))) oNil))))) aNil))))) aNil))))
noncomputable def b_term (F_worth : Fn) (F_term : Fn) : SM := (sSeq (sPut 2 (cI (.int 0)) (op2 fSub (vl (op2 fIx (bo 2) (vl (cI (.int 0))))) (vl (cI (.int 1)))))
    (sSeq (sSet 4 (eFz (eCall 2 [0] f_take [] (oCons (bo 0) (oCons (vl (cI (.int 7))) oNil)))))
    (sSeq (sIf (bOr (asB (op2 fLt (vl (eVar 3)) (vl (cI (.int 1))))) (bOr (asB (op2 fLt (vl (op2 fIx (bo 2) (vl (cI (.int 0))))) (vl (cI (.int 1))))) (asB (op2 fEq (vl (eVar 4)) (vl (cI (.int 0)))))))
    (sRet (eCall 2 [0] f_leaf [] (oCons (bo 0) (oCons (vl (eVar 1)) oNil))))
    sNext)
    (sSeq (sIf (asB (op2 fEq (vl (eVar 4)) (vl (cI (.int 1)))))
    (sRet (eTup (aCons (cI (.str "fun")) (aCons (eCall 2 [0] f_pick [] (oCons (bo 0) (oCons (vl (eVar 1)) oNil))) (aCons (eCall 4 [0, 2] F_term [] (oCons (bo 0) (oCons (vl (eVar 1)) (oCons (bo 2) (oCons (vl (op2 fSub (vl (eVar 3)) (vl (cI (.int 1))))) oNil))))) aNil)))))
    sNext)
    (sSeq (sIf (asB (op2 fEq (vl (eVar 4)) (vl (cI (.int 2)))))
    (sSeq (sSet 5 (eFz (eCall 3 [0] f_few [] (oCons (bo 0) (oCons (vl (eVar 1)) (oCons (vl (cI (.int 6))) oNil))))))
    (sSeq (sSet 5 (eIf (asB (op2 fNe (vl (eVar 5)) (vl (eTup aNil)))) (eVar 5) (opN fTuple (oCons (vl (eSl (vl (eVar 1)) pNo (pAt (cI (.int 1))))) oNil))))
    (sSeq (sSet 6 (opN fTuple (oCons (vl (eLc [11] (itV (eVar 5)) (.nm 11) bYes (eFz (eTup (aCons (eVar 11) (aCons (eCall 4 [0, 2] F_worth [] (oCons (bo 0) (oCons (vl (eVar 1)) (oCons (bo 2) (oCons (vl (op2 fSub (vl (eVar 3)) (vl (cI (.int 1))))) oNil))))) aNil)))))) oNil)))
    (sRet (eTup (aCons (cI (.str "letall")) (aCons (eVar 6) (aCons (eCall 4 [0, 2] F_term [] (oCons (bo 0) (oCons (vl (eVar 1)) (oCons (bo 2) (oCons (vl (op2 fSub (vl (eVar 3)) (vl (cI (.int 1))))) oNil))))) aNil))))))))
    sNext)
    (sSeq (sIf (asB (op2 fEq (vl (eVar 4)) (vl (cI (.int 3)))))
    (sSeq (sSet 5 (eFz (eCall 3 [0] f_few [] (oCons (bo 0) (oCons (vl (eVar 1)) (oCons (vl (cI (.int 6))) oNil))))))
    (sSeq (sSet 7 (eLst aNil))
    (sSeq (sFor (itV (eIf (asB (op2 fNe (vl (eVar 5)) (vl (eTup aNil)))) (eVar 5) (opN fTuple (oCons (vl (eSl (vl (eVar 1)) pNo (pAt (cI (.int 1))))) oNil)))) (.nm 8)
    (b_term_1 F_worth F_term))
    (sRet (eTup (aCons (cI (.str "by")) (aCons (eCall 2 [0] f_pick [] (oCons (bo 0) (oCons (vl (eVar 1)) oNil))) (aCons (opN fTuple (oCons (bo 7) oNil)) aNil))))))))
    sNext)
    (sSeq (sSet 10 (eFz (eCall 4 [0, 2] F_term [] (oCons (bo 0) (oCons (vl (eVar 1)) (oCons (bo 2) (oCons (vl (op2 fSub (vl (eVar 3)) (vl (cI (.int 1))))) oNil)))))))
    (sSeq (sSet 8 (eFz (eCall 2 [0] f_pick [] (oCons (bo 0) (oCons (vl (eFz (eLst (aCons (cI (.str "let")) (aCons (cI (.str "let")) (aCons (cI (.str "now")) aNil)))))) oNil)))))
    (sRet (eTup (aCons (eVar 8) (aCons (eCall 2 [0] f_pick [] (oCons (bo 0) (oCons (vl (eVar 1)) oNil))) (aCons (eVar 10) (aCons (eCall 4 [0, 2] F_term [] (oCons (bo 0) (oCons (vl (eVar 1)) (oCons (bo 2) (oCons (vl (op2 fSub (vl (eVar 3)) (vl (cI (.int 1))))) oNil))))) aNil))))))))))))))
mutual
noncomputable def f_worth : Nat → Fn
  | 0 => f0
  | k+1 => mkFn 4 4 [0, 2] (b_worth (f_worth k) (f_term k))
noncomputable def f_term : Nat → Fn
  | 0 => f0
  | k+1 => mkFn 12 4 [0, 2] (b_term (f_worth k) (f_term k))
end
end VT

namespace VT
open PySem L2 VS
abbrev feedO (d s : Int) : O := .lst [.im (.int d), .im (.int s)]
abbrev LET : Str := "abcdefghijklmnopqrstuvwxyz"
/-- a name drawn by a law -/
def nm (x : Str) : Prop := PyData.strOk x = true ∧ x.length ≤ 16
/-- one to eight letters -/
def nmL (x : Str) : Prop := 1 ≤ x.length ∧ x.length ≤ 8 ∧ ∀ c ∈ x.cps.toList, c ∈ LET.cps.toList
instance (x : Str) : Decidable (nmL x) := inferInstanceAs (Decidable (_ ∧ _ ∧ _))
section
variable {d s m : Int} {sto : List O} {Q : O → List O → List O → Prop} {E : Nat → List I → List O → List O → Prop}
theorem take_does (hm : 0 < m) (hm2 : m < 1073741824) (h : ∀ r d' s', 0 ≤ r → r < m → Q (.im (.int r)) [feedO d' s', .hole] sto) :
    Does f_take [feedO d s, .im (.int m)] sto Q E := by
  unfold f_take
  rw [r_does]
  simp [b_take, r_sSeq, at_0, at_1, ixN, hm, hm2]
  rcases (by omega : 0 < d ∨ d ≤ 0) with h0 | h0
  · exact .inr ⟨h0, h _ _ _ (Int.emod_nonneg _ (by omega)) (Int.emod_lt_of_pos _ hm)⟩
  · exact .inl ⟨h0, h _ _ _ (Int.emod_nonneg _ (by omega)) (Int.emod_lt_of_pos _ hm)⟩
theorem pick_does {l : List I} (h0 : 0 < l.length) (h1 : l.length ≤ 1000) (h : ∀ i d' s', i ∈ l → Q (.im i) [feedO d' s', .hole] sto) :
    Does f_pick [feedO d s, .im (.lst l)] sto Q E := by
  unfold f_pick
  rw [r_does]
  simp [b_pick, resL, res1, bks]
  refine take_does (by omega) (by omega) fun r d' s' hr0 hr1 => ?_
  simp [back]
  have hr2 : r.toNat < l.length := by omega
  refine ⟨l[r.toNat], ?_, h _ _ _ (List.getElem_mem hr2)⟩
  rw [at_int hr0 (by omega)]
  exact List.getElem?_eq_getElem hr2
theorem feed_does {ns : List Int} {k : Nat} (h : ∀ d' s', Q (feedO d' s') [.hole, .hole] sto) : Does f_feed [.im (scr ns), .im (.int k)] sto Q E := by
  unfold f_feed
  rw [r_does]
  have fin : ∀ c : Int, Run (sSeq (sSet 3 (opN fMax (oCons (vl (cI (.int 0))) (oCons (vl (op2 fSub (vl (opN fAbs (oCons (vl (eVar 2)) oNil))) (vl (op2 fPow (vl (cI (.int 10))) (vl (cI (.int 18))))))) oNil))))
      (sSeq (sSet 4 (op2 fMod (vl (op2 fAdd (vl (op2 fAdd (vl (op2 fMul (vl (eVar 2)) (vl (cI (.int 6364136223846793005))))) (vl (op2 fMul (vl (cI (.int 9973))) (vl (eVar 1)))))) (vl (cI (.int 1442695040888963407))))) (vl (cI (.int 2305843009213693951)))))
      (sRet (eLst (aCons (eVar 3) (aCons (eVar 4) aNil)))))) ⟨[.im (.lst (ns.map .int)), .im (.int k), .im (.int c), .hole, .hole], sto⟩ (fun st f => match f with
    | .rt o => Q o (VS.fin [] 2 st) st.sto
    | .nx => Q (.im .non) (VS.fin [] 2 st) st.sto
    | _ => False) (fun st c i => E c i (VS.fin [] 2 st) st.sto) := fun c => by
    simp [r_sSeq, sizeLine_eq]
    exact h _ _
  unfold b_feed
  rw [r_sSeq, r_sSet, r_eIf]
  simp [scr]
  by_cases hk : k < ns.length
  · exact .inr ⟨hk, .int ns[k], by rw [at_nat (by simpa using hk)]; simp, fin ns[k]⟩
  · refine .inl ⟨by omega, ?_⟩
    generalize 71 * (k : Int) + 23 = c
    exact fin c
/-! texts -/
theorem nm_app {x y : Str} (h1 : PyData.strOk x = true) (h2 : PyData.strOk y = true) (h : x.length + y.length ≤ 16) : nm (x ++ y) := by
  refine ⟨?_, by rw [PySem.Str.length_append]; omega⟩
  unfold PyData.strOk at *
  have e : (x ++ y).cps = x.cps ++ y.cps := rfl
  rw [e, Array.all_append, h1, h2]; rfl
theorem let_128 : ∀ c ∈ LET.cps.toList, c < 128 := by decide +kernel
theorem let_ix {r : Int} (h0 : 0 ≤ r) (h1 : r < 26) : ∃ c : Nat, c ∈ LET.cps.toList ∧ fIx [.str LET, .int r] = some (.im (.str ⟨#[c]⟩)) := by
  have hl : LET.length = 26 := by decide
  have hll : LET.cps.toList.length = 26 := by decide
  have e : LET.cps.toList[r.toNat]? = some (LET.cps.toList[r.toNat]'(by omega)) := List.getElem?_eq_getElem (by omega)
  generalize LET.cps.toList[r.toNat]'(by omega) = c at e
  refine ⟨c, List.mem_of_getElem? e, ?_⟩
  rw [s_ixs, hl, if_pos (by rw [sizeLine_eq]; decide), at_int h0 (by omega)]
  show (LET.cps.toList[r.toNat]?).map _ = _
  have e' : LET.cps.toList[r.toNat]? = some c := e
  rw [e']; rfl
theorem rep_ok {c : Nat} {k : Int} (hc : c < 128) (h0 : 0 ≤ k) (h1 : k < 15) : ∃ y : Str, PyData.strOk y = true ∧ y.length = k.toNat ∧ (∀ x ∈ y.cps.toList, x = c) ∧ fMul [.str ⟨#[c]⟩, .int k] = some (.im (.str y)) := by
  refine ⟨strRep ⟨#[c]⟩ k.toNat, ?_, ?_, ?_, ?_⟩
  · unfold PyData.strOk strRep
    rw [← Array.all_toList]
    simp only [List.all_eq_true, decide_eq_true_eq]
    intro x hx
    simp at hx
    omega
  · unfold strRep Str.length
    simp
  · intro x hx
    unfold strRep at hx
    simp at hx
    exact hx.2
  · rw [s_muls, if_pos]
    have : Str.length ⟨#[c]⟩ = 1 := rfl
    rw [this, sizeLine_eq]
    have h : rep62 k = true := by
      unfold rep62
      have : (2 : Int) ^ 62 = 4611686018427387904 := by decide
      exact decide_eq_true (by omega)
    rw [h]
    simp
    omega
end
end VT

namespace VT
open PySem L2 VS
def strI : List Str → List I := List.map .str
@[simp] theorem strI_nil : strI [] = [] := rfl
@[simp] theorem strI_cons {x : Str} {l : List Str} : strI (x :: l) = .str x :: strI l := rfl
@[simp] theorem strI_len {l : List Str} : (strI l).length = l.length := by simp [strI]
theorem strI_mem {l : List Str} {i : I} : i ∈ strI l ↔ ∃ x ∈ l, i = .str x := by
  unfold strI; simp [eq_comm]
theorem strI_app {l m : List Str} : strI (l ++ m) = strI l ++ strI m := by simp [strI]
theorem strI_of {ys : List I} (P : Str → Prop) (h : ∀ y ∈ ys, ∃ x, y = .str x ∧ P x) : ∃ xs, ys = strI xs ∧ ∀ x ∈ xs, P x := by
  induction ys with
  | nil => exact ⟨[], rfl, by simp⟩
  | cons y ys ih =>
    obtain ⟨x, rfl, hx⟩ := h y List.mem_cons_self
    obtain ⟨xs, rfl, h2⟩ := ih fun z hz => h z (List.mem_cons_of_mem _ hz)
    exact ⟨x :: xs, rfl, by simpa [hx] using h2⟩
section
variable {α β : Type} {st : VS.St} {sl sto : List O} {ex : VS.St → Nat → List I → Prop} {k : Nat}
/-- a comprehension whose elements change nothing, each of them such as is due -/
theorem lc_all {own : List Nat} {T : Tg} {e : EM} {is : List I} {ok : VS.St → O → Prop} (P : I → Prop) (him : imAt own sl = true) (hl : is.length ≤ sizeLine)
    (h : ∀ i ∈ is, Run (putT T i) ⟨wip sl own, sto⟩ (fun s _ => Run e s (fun s o => (∃ y, o = .im y ∧ P y) ∧ wip s.sl own = wip sl own ∧ s.sto = sto) fun _ _ _ => False) fun _ _ _ => False)
    (hok : ∀ ys : List I, ys.length = is.length → (∀ y ∈ ys, P y) → ok ⟨sl, sto⟩ (.lst (ys.map .im))) : Run (blkM own (lcL own T bYes e is []) .lst) ⟨sl, sto⟩ ok ex := by
  rw [r_blk]
  refine ⟨him, ?_⟩
  refine r_lcL (fun r acc s => ∃ ys : List I, acc = ys.map .im ∧ ys.length + r.length = is.length ∧ (∀ y ∈ ys, P y) ∧ wip s.sl own = wip sl own ∧ s.sto = sto) ⟨[], rfl, by simp, by simp, rfl, rfl⟩ ?_ ?_
  · rintro i r acc s hi ⟨ys, rfl, hn, hp, e3, e4⟩
    rw [e3, e4]
    refine Run.imp (h i hi) (fun s1 _ h1 => ?_) fun _ _ _ z => z.elim
    refine r_bYes.mpr ⟨fun _ => Run.imp h1 (fun s3 o h5 => ?_) fun _ _ _ z => z.elim, fun hc => by cases hc⟩
    obtain ⟨⟨y, rfl, hy⟩, h6, h7⟩ := h5
    refine ⟨by simp at hn ⊢; omega, ys ++ [y], by simp, by simp at hn ⊢; omega, fun z hz => ?_, h6, h7⟩
    rcases List.mem_append.mp hz with q | q
    · exact hp z q
    · simp at q; subst q; exact hy
  · rintro acc s ⟨ys, rfl, hn, hp, e3, e4⟩
    rw [resto_wip e3, e4]
    exact hok ys (by simpa using hn) hp
end
section
variable {d s m : Int} {sto : List O} {Q : O → List O → List O → Prop} {E : Nat → List I → List O → List O → Prop}
theorem names_does (h : ∀ ns d' s', ns.length = 8 → (∀ x ∈ ns, nm x ∧ nmL x) → Q (.lst ((strI ns).map .im)) [feedO d' s'] sto) : Does f_names [feedO d s] sto Q E := by
  unfold f_names
  rw [r_does]
  unfold b_names
  rw [r_sSeq]; simp
  rw [r_sSeq]; simp
  refine take_does (by omega) (by omega) fun r1 d1 s1 h0 h1 => ?_
  simp
  refine take_does (by omega) (by omega) fun r2 d2 s2 h2 h3 => ?_
  obtain ⟨c, hcL, ec⟩ := let_ix h2 h3
  have hc := let_128 c hcL
  unfold LET at ec
  simp [ec, -s_ixs]
  refine take_does (by omega) (by omega) fun r3 d3 s3 h4 h5 => ?_
  obtain ⟨y, hy1, hy2, hy3, ey⟩ := rep_ok hc h4 (show r3 < 15 by omega)
  simp [ey, -s_muls, mkTup, allIm]
  rw [r_sSeq]; simp [r_itR1]
  refine ⟨r62_s (by omega) (by omega), lc_all (fun i => ∃ x, i = .str x ∧ nm x ∧ nmL x) rfl (by simp [rng, sizeLine_eq]) (fun i hi => ?_) fun ys hl hys => ?_⟩
  · obtain ⟨k, hk, rfl⟩ : ∃ k : Nat, k < 8 ∧ i = .int k := by
      unfold rng at hi
      obtain ⟨k, hk, rfl⟩ := List.mem_map.mp hi
      exact ⟨k, by simpa using hk, by simp⟩
    obtain ⟨c2, hcL2, ec2⟩ := let_ix (r := (r1 + 5 * (k : Int)) % 26) (by omega) (by omega)
    have hc2 := let_128 c2 hcL2
    unfold LET at ec2
    simp [wip, ec2, -s_ixs, sizeLine_eq]
    have hs : Str.length ⟨#[c2]⟩ = 1 := rfl
    rw [hs]
    refine ⟨by omega, nm_app ?_ hy1 (by rw [hs]; omega), ?_⟩
    · simp [PyData.strOk]; omega
    · refine ⟨by rw [PySem.Str.length_append, hs]; omega, by rw [PySem.Str.length_append, hs]; omega, fun z hz => ?_⟩
      have e : (⟨#[c2]⟩ ++ y : Str).cps.toList = [c2] ++ y.cps.toList := by
        show (#[c2] ++ y.cps).toList = _
        simp
      rw [e] at hz
      rcases List.mem_append.mp hz with q | q
      · simp at q; subst q; exact hcL2
      · rw [hy3 z q]; exact hcL
  obtain ⟨ns, rfl, hns⟩ := strI_of (fun x => nm x ∧ nmL x) hys
  have hl8 : ns.length = 8 := by simpa [rng] using hl
  simp
  rw [r_sSeq]; simp [sizeLine_eq]
  rw [r_sSeq]; simp [sizeLine_eq]
  rw [r_sSeq, r_sFor, r_itR1]; simp [sizeLine_eq]
  refine pick_does (by simp) (by simp) fun i d4 s4 hi => ?_
  obtain ⟨j, rfl, hj⟩ : ∃ j : Int, i = .int j ∧ (j = 0 ∨ j = 1 ∨ j = 4) := by
    simp at hi
    rcases hi with rfl | rfl | rfl
    · exact ⟨0, rfl, by omega⟩
    · exact ⟨1, rfl, by omega⟩
    · exact ⟨4, rfl, by omega⟩
  simp
  refine ⟨r62_s (by omega) (by omega), ?_⟩
  generalize hw : [I.str (Str.ofString "num"), I.str (Str.ofString "name"), I.str (Str.ofString "fun"),
                I.str (Str.ofString "call"), I.str (Str.ofString "let"), I.str (Str.ofString "now"),
                I.str (Str.ofString "letall"), I.str (Str.ofString "made"), I.str (Str.ofString "by"),
                I.str (Str.ofString "sum"), I.str (Str.ofString "minus"), I.str (Str.ofString "less"),
                I.str (Str.ofString "same"), I.str (Str.ofString "yes")] = words
  have hw1 : 0 < words.length ∧ words.length ≤ 1000 := by subst hw; simp
  have hw2 : ∀ i ∈ words, ∃ x, i = .str x ∧ nm x ∧ nmL x := by
    subst hw
    intro i hi
    simp only [List.mem_cons, List.not_mem_nil, or_false] at hi
    rcases hi with rfl | rfl | rfl | rfl | rfl | rfl | rfl | rfl | rfl | rfl | rfl | rfl | rfl | rfl <;> exact ⟨_, rfl, ⟨by decide +kernel, by decide +kernel⟩, by decide +kernel⟩
  clear hw
  refine r_forL (fun _ st => ∃ (ns : List Str) (d' s' : Int) (x6 : O), ns.length = 8 ∧ (∀ x ∈ ns, nm x ∧ nmL x) ∧ st = ⟨[feedO d' s', .im (.str LET), .im (.int r1), .im (.str y), .lst ((strI ns).map .im), .im (.lst words), x6, .hole], sto⟩) ⟨ns, _, _, _, hl8, hns, rfl⟩ ?_ ?_
  · rintro i r s hi ⟨ns, d', s', x6, hl8, hns, rfl⟩
    simp [b_names_1]
    refine pick_does hw1.1 hw1.2 fun i d5 s5 hi => ?_
    obtain ⟨x, rfl, hx⟩ := hw2 i hi
    simp
    refine take_does (by omega) (by omega) fun r6 d6 s6 h6 h7 => ?_
    have hix : ixN ns.length r6 = some r6.toNat := by
      have : r6 < (ns.length : Int) := by omega
      simp [ixN, h6, this]
    simp [hix]
    refine ⟨ns.set r6.toNat x, by simp [hl8], fun z hz => ?_, by simp [strI, List.map_set]⟩
    rcases List.mem_or_eq_of_mem_set hz with q | q
    · exact hns z q
    · subst q; exact hx
  · rintro s ⟨ns, d', s', x6, hl8, hns, rfl⟩
    simp
    exact h ns d' s' hl8 hns
end
end VT

namespace VT
open PySem L2 VS
theorem flat_strI (l : List Str) : (strI l).all flatI = true := by
  rw [List.all_eq_true]
  intro i hi
  obtain ⟨x, _, rfl⟩ := strI_mem.mp hi
  rfl
theorem inI_strI (x : Str) (l : List Str) : inI (.str x) (strI l) = decide (x ∈ l) := by
  unfold inI strI
  rw [List.any_map]
  induction l with
  | nil => rfl
  | cons y l ih =>
    rw [List.any_cons, ih]
    show ((y == x) || decide (x ∈ l)) = decide (x ∈ y :: l)
    by_cases h : x = y
    · subst h; simp
    · have : (y == x) = false := by simpa using fun e : y = x => h e.symm
      simp [this, h]
@[simp] theorem inL_strI {x : Str} {l : List Str} : inL (.str x) (strI l) = some (decide (x ∈ l)) := by
  unfold inL
  rw [flat_strI, inI_strI]
  rfl
@[simp] theorem in_strL {x : Str} {l : List Str} : inOp [.str x, .lst (strI l)] = some (decide (x ∈ l)) := by
  show (match inL (.str x) (strI l) with | some b => some b | none => inDeep (.str x) (strI l)) = _
  rw [inL_strI]
@[simp] theorem in_strT {x : Str} {l : List Str} : inOp [.str x, .tup (strI l)] = some (decide (x ∈ l)) := inL_strI
@[simp] theorem in_t1 {x a : Str} : inOp [.str x, .tup [.str a]] = some (decide (x = a)) := by
  have := @in_strT x [a]
  simpa using this
@[simp] theorem in_t2 {x a b : Str} : inOp [.str x, .tup [.str a, .str b]] = some (decide (x = a ∨ x = b)) := by
  have := @in_strT x [a, b]
  simpa using this
@[simp] theorem in_t3 {x a b c : Str} : inOp [.str x, .tup [.str a, .str b, .str c]] = some (decide (x = a ∨ x = b ∨ x = c)) := by
  have := @in_strT x [a, b, c]
  simpa using this
@[simp] theorem in_t4 {x a b c d : Str} : inOp [.str x, .tup [.str a, .str b, .str c, .str d]] = some (decide (x = a ∨ x = b ∨ x = c ∨ x = d)) := by
  have := @in_strT x [a, b, c, d]
  simpa using this
@[simp] theorem in_t5 {x a b c d e : Str} : inOp [.str x, .tup [.str a, .str b, .str c, .str d, .str e]] = some (decide (x = a ∨ x = b ∨ x = c ∨ x = d ∨ x = e)) := by
  have := @in_strT x [a, b, c, d, e]
  simpa using this
@[simp] theorem in_t6 {x a b c d e f : Str} : inOp [.str x, .tup [.str a, .str b, .str c, .str d, .str e, .str f]] = some (decide (x = a ∨ x = b ∨ x = c ∨ x = d ∨ x = e ∨ x = f)) := by
  have := @in_strT x [a, b, c, d, e, f]
  simpa using this
@[simp] theorem in_l1 {x a : Str} : inOp [.str x, .lst [.str a]] = some (decide (x = a)) := by
  have := @in_strL x [a]
  simpa using this
@[simp] theorem in_l2 {x a b : Str} : inOp [.str x, .lst [.str a, .str b]] = some (decide (x = a ∨ x = b)) := by
  have := @in_strL x [a, b]
  simpa using this
@[simp] theorem in_l3 {x a b c : Str} : inOp [.str x, .lst [.str a, .str b, .str c]] = some (decide (x = a ∨ x = b ∨ x = c)) := by
  have := @in_strL x [a, b, c]
  simpa using this
@[simp] theorem in_l4 {x a b c d : Str} : inOp [.str x, .lst [.str a, .str b, .str c, .str d]] = some (decide (x = a ∨ x = b ∨ x = c ∨ x = d)) := by
  have := @in_strL x [a, b, c, d]
  simpa using this
@[simp] theorem in_l5 {x a b c d e : Str} : inOp [.str x, .lst [.str a, .str b, .str c, .str d, .str e]] = some (decide (x = a ∨ x = b ∨ x = c ∨ x = d ∨ x = e)) := by
  have := @in_strL x [a, b, c, d, e]
  simpa using this
@[simp] theorem in_l6 {x a b c d e f : Str} : inOp [.str x, .lst [.str a, .str b, .str c, .str d, .str e, .str f]] = some (decide (x = a ∨ x = b ∨ x = c ∨ x = d ∨ x = e ∨ x = f)) := by
  have := @in_strL x [a, b, c, d, e, f]
  simpa using this
@[simp] theorem inL_1 {x a : Str} : inL (.str x) [.str a] = some (decide (x = a)) := by
  have := @inL_strI x [a]
  simpa using this
@[simp] theorem inL_2 {x a b : Str} : inL (.str x) [.str a, .str b] = some (decide (x = a ∨ x = b)) := by
  have := @inL_strI x [a, b]
  simpa using this
@[simp] theorem inL_3 {x a b c : Str} : inL (.str x) [.str a, .str b, .str c] = some (decide (x = a ∨ x = b ∨ x = c)) := by
  have := @inL_strI x [a, b, c]
  simpa using this
@[simp] theorem inL_4 {x a b c d : Str} : inL (.str x) [.str a, .str b, .str c, .str d] = some (decide (x = a ∨ x = b ∨ x = c ∨ x = d)) := by
  have := @inL_strI x [a, b, c, d]
  simpa using this
@[simp] theorem inL_5 {x a b c d e : Str} : inL (.str x) [.str a, .str b, .str c, .str d, .str e] = some (decide (x = a ∨ x = b ∨ x = c ∨ x = d ∨ x = e)) := by
  have := @inL_strI x [a, b, c, d, e]
  simpa using this
@[simp] theorem inL_6 {x a b c d e f : Str} : inL (.str x) [.str a, .str b, .str c, .str d, .str e, .str f] = some (decide (x = a ∨ x = b ∨ x = c ∨ x = d ∨ x = e ∨ x = f)) := by
  have := @inL_strI x [a, b, c, d, e, f]
  simpa using this
section
variable {d s m : Int} {sto : List O} {Q : O → List O → List O → Prop} {E : Nat → List I → List O → List O → Prop} {ns : List Str}
theorem pickS_does (h0 : 0 < ns.length) (h1 : ns.length ≤ 1000) (h : ∀ x d' s', x ∈ ns → Q (.im (.str x)) [feedO d' s', .hole] sto) :
    Does f_pick [feedO d s, .im (.lst (strI ns))] sto Q E :=
  pick_does (by simpa using h0) (by simpa using h1) fun i d' s' hi => by
    obtain ⟨x, hx, rfl⟩ := strI_mem.mp hi
    exact h x d' s' hx
theorem few_does (h0 : 0 < ns.length) (h1 : ns.length ≤ 1000) (hm : 0 ≤ m) (hm2 : m < 1000) (h : ∀ xs d' s', (∀ x ∈ xs, x ∈ ns) → xs.Nodup → xs.length ≤ m.toNat → Q (.im (.tup (strI xs))) [feedO d' s', .hole, .hole] sto) :
    Does f_few [feedO d s, .im (.lst (strI ns)), .im (.int m)] sto Q E := by
  unfold f_few
  rw [r_does]
  unfold b_few
  rw [r_sSeq]; simp [sizeLine_eq]
  rw [r_sSeq, r_sFor, r_itR1]; simp
  refine take_does (by omega) (by omega) fun r d1 s1 h2 h3 => ?_
  simp
  refine ⟨r62_s (by omega) (by omega), ?_⟩
  refine r_forL (fun l st => ∃ (xs : List Str) (d' s' : Int) (x4 x5 : O), (∀ x ∈ xs, x ∈ ns) ∧ xs.Nodup ∧ xs.length + l.length ≤ m.toNat ∧ st = ⟨[feedO d' s', .im (.lst (strI ns)), .im (.int m), .lst ((strI xs).map .im), x4, x5], sto⟩) ⟨[], _, _, _, _, by simp, by simp, by simp [rng]; omega, rfl⟩ ?_ ?_
  · rintro i rr st hi ⟨xs, d', s', x4, x5, hx, nd, hl, rfl⟩
    simp [b_few_1]
    rw [r_sSeq]; simp
    refine pickS_does h0 h1 fun x d2 s2 hxn => ?_
    simp at hl
    by_cases hm : x ∈ xs
    · simp [hm]
      exact ⟨xs, hx, nd, by omega, rfl⟩
    · simp [hm, sizeLine_eq]
      refine ⟨by omega, xs ++ [x], ?_, ?_, by simp; omega, by simp [strI]⟩
      · intro z hz
        rcases List.mem_append.mp hz with q | q
        · exact hx z q
        · simp at q; subst q; exact hxn
      · rw [List.nodup_append]
        exact ⟨nd, by simp, by rintro a ha b hb rfl; simp at hb; subst hb; exact hm ha⟩
  · rintro st ⟨xs, d', s', x4, x5, hx, nd, hl, rfl⟩
    simp [r_rd, flL, fTuple]
    exact h xs d' s' hx nd (by simpa using hl)
end
end VT

namespace VT
open PySem L2 VS
mutual
/-- terms -/
inductive T where
  | num (i : Int) | nam (x : Str) | op (w x y : Str) | mk (x : Str) (ys : List Str) | fn (x : Str) (t : T)
  | lt (w x : Str) (a b : T) | la (ps : R) (t : T) | by_ (x : Str) (rs : R)
/-- rows of terms: a name, names, a term -/
inductive R where
  | nil | cons (x : Str) (ys : List Str) (t : T) (r : R)
end
mutual
def enc : T → I
  | .num i => .tup [.str "num", .int i]
  | .nam x => .tup [.str "name", .str x]
  | .op w x y => .tup [.str w, .str x, .str y]
  | .mk x ys => .tup [.str "made", .str x, .tup (strI ys)]
  | .fn x t => .tup [.str "fun", .str x, enc t]
  | .lt w x a b => .tup [.str w, .str x, enc a, enc b]
  | .la ps t => .tup [.str "letall", .tup (encP ps), enc t]
  | .by_ x rs => .tup [.str "by", .str x, .tup (encR rs)]
/-- a letall's pairs -/
def encP : R → List I
  | .nil => []
  | .cons x _ t r => .tup [.str x, enc t] :: encP r
/-- a by's rows -/
def encR : R → List I
  | .nil => []
  | .cons x ys t r => .tup [.str x, .tup (strI ys), enc t] :: encR r
end
def R.l : R → List (Str × List Str × T)
  | .nil => []
  | .cons x ys t r => (x, ys, t) :: r.l
def R.of : List (Str × List Str × T) → R
  | [] => .nil
  | (x, ys, t) :: r => .cons x ys t (R.of r)
theorem R.of_l : ∀ l, (R.of l).l = l
  | [] => rfl
  | (x, ys, t) :: r => by simp [R.of, R.l, R.of_l r]
theorem encP_l : ∀ r : R, encP r = r.l.map fun q => .tup [.str q.1, enc q.2.2]
  | .nil => by simp [encP, R.l]
  | .cons x ys t r => by simp [encP, R.l, encP_l r]
theorem encR_l : ∀ r : R, encR r = r.l.map fun q => .tup [.str q.1, .tup (strI q.2.1), enc q.2.2]
  | .nil => by simp [encR, R.l]
  | .cons x ys t r => by simp [encR, R.l, encR_l r]
def ops : List Str := ["call", "sum", "minus", "less", "same"]
/-- a worth: a fun, a made one -/
def T.isW : T → Bool
  | .fn _ _ => true
  | .mk _ _ => true
  | _ => false
mutual
/-- its names are of ns; its rows are few, of unlike names -/
def T.ok (ns : List Str) : T → Prop
  | .num i => i.natAbs ≤ 10 ^ 18
  | .nam x => x ∈ ns
  | .op w x y => w ∈ ops ∧ x ∈ ns ∧ y ∈ ns
  | .mk x ys => x ∈ ns ∧ (∀ y ∈ ys, y ∈ ns) ∧ ys.length ≤ 3
  | .fn x t => x ∈ ns ∧ t.ok ns
  | .lt w x a b => (w = "let" ∨ w = "now") ∧ x ∈ ns ∧ a.ok ns ∧ b.ok ns
  | .la ps t => ps.ok ns ∧ t.ok ns ∧ 0 < ps.l.length ∧ ps.l.length ≤ 6 ∧ (ps.l.map Prod.fst).Nodup ∧ ∀ q ∈ ps.l, q.2.2.isW = true
  | .by_ x rs => rs.ok ns ∧ x ∈ ns ∧ 0 < rs.l.length ∧ rs.l.length ≤ 6 ∧ (rs.l.map Prod.fst).Nodup
def R.ok (ns : List Str) : R → Prop
  | .nil => True
  | .cons x ys t r => x ∈ ns ∧ (∀ y ∈ ys, y ∈ ns) ∧ (ys.length ≤ 3 ∧ ys.Nodup) ∧ t.ok ns ∧ r.ok ns
end
theorem R.ok_l {ns : List Str} : ∀ {r : R}, r.ok ns ↔ ∀ q ∈ r.l, q.1 ∈ ns ∧ (∀ y ∈ q.2.1, y ∈ ns) ∧ (q.2.1.length ≤ 3 ∧ q.2.1.Nodup) ∧ q.2.2.ok ns
  | .nil => by simp [R.ok, R.l]
  | .cons x ys t r => by
    rw [R.ok, R.l]
    simp only [List.mem_cons, forall_eq_or_imp]
    rw [R.ok_l (r := r)]
    simp only [and_assoc]
mutual
/-- how far terms lie within one another -/
def T.dp : T → Nat
  | .num _ => 1
  | .nam _ => 1
  | .op _ _ _ => 1
  | .mk _ _ => 1
  | .fn _ t => t.dp + 1
  | .lt _ _ a b => max a.dp b.dp + 1
  | .la ps t => max ps.dp t.dp + 1
  | .by_ _ rs => rs.dp + 1
def R.dp : R → Nat
  | .nil => 0
  | .cons _ _ t r => max t.dp r.dp
end
theorem R.dp_le {n : Nat} : ∀ {r : R}, r.dp ≤ n ↔ ∀ q ∈ r.l, q.2.2.dp ≤ n
  | .nil => by simp [R.dp, R.l]
  | .cons x ys t r => by
    rw [R.dp, R.l]
    simp only [List.mem_cons, forall_eq_or_imp]
    rw [← R.dp_le (r := r)]
    omega
mutual
/-- no less than what it is made of -/
def T.w : T → Nat
  | .num _ => 80
  | .nam _ => 80
  | .op _ _ _ => 80
  | .mk _ _ => 80
  | .fn _ t => 30 + t.w
  | .lt _ _ a b => 30 + a.w + b.w
  | .la ps t => 30 + ps.w + t.w
  | .by_ _ rs => 30 + rs.w
def R.w : R → Nat
  | .nil => 0
  | .cons _ _ t r => 80 + t.w + r.w
end
mutual
/-- pieces -/
def T.pc : T → Nat
  | .num _ => 1
  | .nam _ => 1
  | .op _ _ _ => 1
  | .mk _ _ => 1
  | .fn _ t => 1 + t.pc
  | .lt _ _ a b => 1 + a.pc + b.pc
  | .la ps t => 1 + ps.pc + t.pc
  | .by_ _ rs => 1 + rs.pc
def R.pc : R → Nat
  | .nil => 0
  | .cons _ _ t r => t.pc + r.pc
end
theorem R.pc_l : ∀ {r : R}, r.pc = (r.l.map fun q => q.2.2.pc).sum
  | .nil => by simp [R.pc, R.l]
  | .cons x ys t r => by rw [R.pc, R.l, R.pc_l (r := r)]; simp
theorem R.w_l : ∀ {r : R}, r.w = (r.l.map fun q => 80 + q.2.2.w).sum
  | .nil => by simp [R.w, R.l]
  | .cons x ys t r => by rw [R.w, R.l, R.w_l (r := r)]; simp
section
variable {d s m : Int} {sto : List O} {Q : O → List O → List O → Prop} {E : Nat → List I → List O → List O → Prop} {ns : List Str}
theorem made_does (h0 : 0 < ns.length) (h1 : ns.length ≤ 1000) (h : ∀ t d' s', T.ok ns t → t.dp = 1 → t.w = 80 ∧ t.pc = 1 → t.isW = true → Q (.im (enc t)) [feedO d' s', .hole] sto) :
    Does f_made [feedO d s, .im (.lst (strI ns))] sto Q E := by
  unfold f_made
  rw [r_does]
  unfold b_made
  rw [r_sSeq]; simp [r_itR1]
  refine take_does (by omega) (by omega) fun r d1 s1 h2 h3 => ?_
  simp
  refine ⟨r62_s (by omega) (by omega), ?_⟩
  rw [r_blk]
  refine ⟨rfl, ?_⟩
  refine r_lcL (fun l acc st => ∃ (xs : List Str) (d' s' : Int) (x3 : O), acc = (strI xs).map .im ∧ (∀ x ∈ xs, x ∈ ns) ∧ xs.length + l.length ≤ 3 ∧ st = ⟨[feedO d' s', .im (.lst (strI ns)), .hole, x3], sto⟩) ⟨[], _, _, _, rfl, by simp, by simp [rng]; omega, rfl⟩ ?_ ?_
  · rintro i rr acc st hi ⟨xs, d', s', x3, rfl, hx, hl, rfl⟩
    simp [wip]
    refine pickS_does h0 h1 fun x d2 s2 hxn => ?_
    simp at hl
    simp [sizeLine_eq]
    refine ⟨by omega, xs ++ [x], by simp [strI], ?_, by simp; omega⟩
    intro z hz
    rcases List.mem_append.mp hz with q | q
    · exact hx z q
    · simp at q; subst q; exact hxn
  · rintro acc st ⟨xs, d', s', x3, rfl, hx, hl, rfl⟩
    simp [resto]
    refine pickS_does h0 h1 fun x d2 s2 hxn => ?_
    simp
    have := h (.mk x xs) d2 s2 ⟨hxn, hx, by simpa using hl⟩ rfl ⟨rfl, rfl⟩ rfl
    simpa [enc] using this
theorem leaf_does (h0 : 0 < ns.length) (h1 : ns.length ≤ 1000) (h : ∀ t d' s', T.ok ns t → t.dp = 1 → t.w = 80 ∧ t.pc = 1 → Q (.im (enc t)) [feedO d' s', .hole] sto) :
    Does f_leaf [feedO d s, .im (.lst (strI ns))] sto Q E := by
  unfold f_leaf
  rw [r_does]
  unfold b_leaf
  rw [r_sSeq]; simp
  refine take_does (by omega) (by omega) fun r d1 s1 h2 h3 => ?_
  simp
  rw [r_sSeq]; simp
  by_cases hr0 : r = 0
  · simp [hr0]
    refine take_does (by omega) (by omega) fun k d2 s2 h4 h5 => ?_
    simp [sizeLine_eq]
    refine pick_does (by simp) (by simp) fun i d3 s3 hi => ?_
    obtain ⟨z, rfl, hz⟩ : ∃ z : Int, i = .int z ∧ z.natAbs ≤ 10 ^ 18 := by
      simp at hi
      rcases hi with rfl | rfl | rfl | rfl | rfl | rfl
      · exact ⟨_, rfl, by decide⟩
      · exact ⟨_, rfl, by decide⟩
      · exact ⟨_, rfl, by decide⟩
      · exact ⟨_, rfl, by decide⟩
      · exact ⟨_, rfl, by decide⟩
      · exact ⟨_, rfl, by omega⟩
    simp
    have := h (.num z) d3 s3 hz rfl ⟨rfl, rfl⟩
    simpa [enc] using this
  simp [hr0]
  rw [r_sSeq]; simp
  by_cases hr1 : r = 1
  · simp [hr1]
    refine made_does h0 h1 fun t d2 s2 q1 q2 q3 _ => ?_
    simp
    exact h t d2 s2 q1 q2 q3
  simp [hr1]
  rw [r_sSeq]; simp
  by_cases hr2 : r = 2
  · simp [hr2]
    refine pickS_does h0 h1 fun x d2 s2 hx => ?_
    simp
    have := h (.nam x) d2 s2 hx rfl ⟨rfl, rfl⟩
    simpa [enc] using this
  simp [hr2]
  rw [r_sSeq]; simp [sizeLine_eq]
  refine pick_does (by simp) (by simp) fun i d2 s2 hi => ?_
  obtain ⟨w, rfl, hw⟩ : ∃ w : Str, i = .str w ∧ w ∈ ops := by
    simp at hi
    rcases hi with rfl | rfl | rfl | rfl | rfl | rfl
    all_goals exact ⟨_, rfl, by simp [ops]⟩
  simp
  refine pickS_does h0 h1 fun x d3 s3 hx => ?_
  simp
  refine pickS_does h0 h1 fun y d4 s4 hy => ?_
  simp
  have := h (.op w x y) d4 s4 ⟨hw, hx, hy⟩ rfl ⟨rfl, rfl⟩
  simpa [enc] using this
end
end VT

namespace VT
open PySem L2 VS
abbrev boxO (b : Int) : O := .lst [.im (.int b)]
def need (deep : Int) : Nat := if deep < 1 then 1 else deep.toNat + 2
def TermS (ns : List Str) (F : Fn) (k : Nat) : Prop := ∀ {deep b d s : Int} {sto : List O} {Q : O → List O → List O → Prop} {E : Nat → List I → List O → List O → Prop}, need deep ≤ k →
  (∀ t d' s' b', T.ok ns t → t.dp ≤ need deep → b' < b → (t.w + 1300 * b'.toNat ≤ 80 + 1300 * b.toNat ∧ (t.pc : Int) = b - b' ∧ (b' = b - 1 ∨ -13 * (need deep : Int) ≤ b')) → Q (.im (enc t)) [feedO d' s', .hole, boxO b', .hole] sto) →
  Does F [feedO d s, .im (.lst (strI ns)), boxO b, .im (.int deep)] sto Q E
def WorthS (ns : List Str) (F : Fn) (k : Nat) : Prop := ∀ {deep b d s : Int} {sto : List O} {Q : O → List O → List O → Prop} {E : Nat → List I → List O → List O → Prop}, need (deep - 1) + 1 ≤ k →
  (∀ t d' s' b', T.ok ns t → t.isW = true → t.dp ≤ need (deep - 1) + 1 → b' < b → (t.w + 1300 * b'.toNat ≤ 110 + 1300 * b.toNat ∧ (t.pc : Int) = b - b' ∧ (b - 2 ≤ b' ∨ -13 * (need (deep - 1) : Int) ≤ b')) → Q (.im (enc t)) [feedO d' s', .hole, boxO b', .hole] sto) →
  Does F [feedO d s, .im (.lst (strI ns)), boxO b, .im (.int deep)] sto Q E
section
variable {sto : List O} {ns : List Str} {k : Nat}
theorem worth_step (h0 : 0 < ns.length) (h1 : ns.length ≤ 1000) {FW FT : Fn} (hT : TermS ns FT k) : WorthS ns (mkFn 4 4 [0, 2] (b_worth FW FT)) (k + 1) := by
  intro deep b d s sto Q E hk h
  rw [r_does]
  unfold b_worth
  rw [r_sSeq]; simp [at_0, ixN]
  rw [r_sSeq]; simp
  refine take_does (by omega) (by omega) fun r d1 s1 h2 h3 => ?_
  simp
  by_cases hr : r = 0
  · simp [hr]
    refine made_does h0 h1 fun t d2 s2 q1 q2 q3 qw => ?_
    simp
    exact h t d2 s2 (b - 1) q1 qw (by omega) (by omega) ⟨by omega, by omega, .inl (by omega)⟩
  simp [hr]
  refine pickS_does h0 h1 fun x d2 s2 hx => ?_
  simp
  refine hT (by omega) fun t d3 s3 b3 q1 q2 q3 q4 => ?_
  simp
  have := h (.fn x t) d3 s3 b3 ⟨hx, q1⟩ rfl (by simp only [T.dp]; omega) (by omega) ⟨by simp only [T.w]; omega, by simp only [T.pc]; omega, by omega⟩
  simpa [enc] using this
theorem cut1 {α} (l : List α) : cutI l none (some 1) = l.take 1 := by
  unfold cutI HT.sIx
  simp
theorem need1 {deep : Int} (h : 1 ≤ deep) : need (deep - 1) + 1 ≤ need deep := by
  unfold need; split <;> split <;> omega
theorem need2 {deep : Int} (h : 1 ≤ deep) : need (deep - 1 - 1) + 2 ≤ need deep := by
  unfold need; split <;> split <;> omega
theorem need_pos {deep : Int} : 1 ≤ need deep := by
  unfold need; split <;> omega
theorem toDL_str (l : List Str) : toDL (strI l) = some (l.map PyData.str) := by
  induction l with
  | nil => rfl
  | cons x l ih => rw [strI_cons, toDL, ih]; rfl
theorem lay_str {l : List Str} (h : ∀ x ∈ l, PyData.strOk x = true) : PyData.canLayAll0 (l.map PyData.str) = true := by
  induction l with
  | nil => rfl
  | cons x l ih => simp [PyData.canLayAll0, PyData.canLay0, h x List.mem_cons_self, ih fun y hy => h y (List.mem_cons_of_mem _ hy)]
theorem ne_tup0 {l : List Str} (h : ∀ x ∈ l, PyData.strOk x = true) : fNe [.tup (strI l), .tup []] = some (.im (.bl (!decide (l = [])))) := by
  unfold fNe fEqB
  simp only [toD, toDL_str, Option.map_some, toDL]
  have e : (okD (.tuple (l.map PyData.str)) && okD (.tuple []) && decide (min (PyData.tuple (l.map PyData.str)).depth (PyData.tuple []).depth ≤ 120)) = true := by
    have h1 : okD (.tuple (l.map PyData.str)) = true := lay_str h
    have h2 : (PyData.tuple []).depth = 1 := rfl
    have h3 : okD (.tuple []) = true := rfl
    rw [h1, h2, h3]
    simp; omega
  rw [if_pos e]
  cases l with
  | nil => rfl
  | cons x l => rfl
theorem some_run {sl : List O} {xs : List Str} {ok : VS.St → O → Prop} {ex : VS.St → Nat → List I → Prop} (hn : ∀ x ∈ ns, nm x) (h0 : 0 < ns.length) (hx : ∀ x ∈ xs, x ∈ ns) (nd : xs.Nodup) (hl : xs.length ≤ 6)
    (e1 : sl[1]? = some (.im (.lst (strI ns)))) (e5 : sl[5]? = some (.im (.tup (strI xs))))
    (hok : ∀ ws : List Str, (∀ x ∈ ws, x ∈ ns) → ws.Nodup → 0 < ws.length → ws.length ≤ 6 → ok ⟨sl, sto⟩ (.im (.tup (strI ws)))) :
    Run (eIf (asB (op2 fNe (vl (eVar 5)) (vl (eTup aNil)))) (eVar 5) (opN fTuple (oCons (vl (eSl (vl (eVar 1)) pNo (pAt (cI (.int 1))))) oNil))) ⟨sl, sto⟩ ok ex := by
  simp [e1, e5]
  rw [ne_tup0 fun x hx' => (hn x (hx x hx')).1]
  by_cases he : xs = []
  · subst he
    have e : fSl none (some 1) [.lst (strI ns)] = some (.lst ((strI (ns.take 1)).map .im)) := by
      show some (O.lst ((cutI (strI ns) none (some 1)).map .im)) = _
      rw [cut1]; simp [strI]
    simp [e]
    refine hok (ns.take 1) (fun x h => List.mem_of_mem_take h) ?_ (by simp; omega) (by simp; omega)
    cases ns with
    | nil => simp
    | cons a l => simp
  · simp [he]
    refine hok xs hx nd (List.length_pos_iff.mpr he) hl
theorem term_step (hn : ∀ x ∈ ns, nm x) (h0 : 0 < ns.length) (h1 : ns.length ≤ 1000) {FW FT : Fn} (hW : WorthS ns FW k) (hT : TermS ns FT k) : TermS ns (mkFn 12 4 [0, 2] (b_term FW FT)) (k + 1) := by
  intro deep b d s sto Q E hk h
  rw [r_does]
  unfold b_term
  rw [r_sSeq]; simp [at_0, ixN]
  rw [r_sSeq]; simp
  refine take_does (by omega) (by omega) fun r d1 s1 h2 h3 => ?_
  simp
  rw [r_sSeq]; simp [at_0, ixN]
  have hL : ∀ t d2 s2, T.ok ns t → t.dp = 1 → t.w = 80 ∧ t.pc = 1 → Q (.im (enc t)) [feedO d2 s2, .hole, boxO (b - 1), .hole] sto := fun t d2 s2 q1 q2 q3 =>
    h t d2 s2 (b - 1) q1 (by have := @need_pos deep; omega) (by omega) ⟨by omega, by omega, .inl rfl⟩
  by_cases hd : deep < 1
  · have hd2 : ¬ 1 ≤ deep := by omega
    simp [hd, hd2]
    refine leaf_does h0 h1 fun t d2 s2 q1 q2 q3 => ?_
    simp
    exact hL t d2 s2 q1 q2 q3
  have hd2 : 1 ≤ deep := by omega
  simp only [hd, hd2, decide_false, decide_true, true_and, false_and, or_false, false_or]
  by_cases hb : b - 1 < 1
  · have hb2 : ¬ 1 ≤ b - 1 := by omega
    simp [hb, hb2]
    refine leaf_does h0 h1 fun t d2 s2 q1 q2 q3 => ?_
    simp
    exact hL t d2 s2 q1 q2 q3
  have hb2 : 1 ≤ b - 1 := by omega
  simp only [hb, hb2, decide_false, decide_true, true_and, false_and, or_false, false_or]
  by_cases hr : r = 0
  · simp [hr]
    refine leaf_does h0 h1 fun t d2 s2 q1 q2 q3 => ?_
    simp
    exact hL t d2 s2 q1 q2 q3
  simp only [hr, not_false_eq_true, true_and, false_and, or_false]
  have n1 := need1 hd2
  have n2 := need2 hd2
  rw [r_sSeq]; simp
  by_cases hr1 : r = 1
  · simp [hr1]
    refine pickS_does h0 h1 fun x d2 s2 hx => ?_
    simp
    refine hT (by omega) fun t d3 s3 b3 q1 q2 q3 q4 => ?_
    simp
    have := h (.fn x t) d3 s3 b3 ⟨hx, q1⟩ (by simp only [T.dp]; omega) (by omega) ⟨by simp only [T.w]; omega, by simp only [T.pc]; omega, by omega⟩
    simpa [enc] using this
  simp [hr1]
  rw [r_sSeq]; simp
  by_cases hr2 : r = 2
  · simp [hr2]
    rw [r_sSeq]; simp
    refine few_does h0 h1 (by omega) (by omega) fun xs d2 s2 hx nd hl => ?_
    simp
    rw [r_sSeq, r_sSet]
    refine some_run hn h0 hx nd hl rfl rfl fun ws hw wd hw0 hw6 => ?_
    simp
    rw [r_sSeq]; simp
    rw [r_blk]
    refine ⟨rfl, ?_⟩
    refine r_lcL (fun l acc st => ∃ (qs : List (Str × List Str × T)) (d' s' b' : Int) (x11 : O), acc = qs.map (fun q => .im (.tup [.str q.1, enc q.2.2])) ∧ qs.length + l.length ≤ 6 ∧
      (∀ q ∈ qs, q.1 ∈ ns ∧ q.2.1 = [] ∧ q.2.2.ok ns ∧ q.2.2.dp ≤ need (deep - 1 - 1) + 1 ∧ q.2.2.isW = true) ∧ b' ≤ b - 1 ∧ ((qs.map fun q => 80 + q.2.2.w).sum + 1300 * b'.toNat ≤ 190 * qs.length + 1300 * (b - 1).toNat ∧ (qs.map fun q => q.2.2.pc).sum = (b - 1 - b').toNat ∧ -13 * (need (deep - 1 - 1) : Int) - 2 * qs.length ≤ b') ∧
      (∃ zs, l = strI zs ∧ qs.map Prod.fst ++ zs = ws) ∧
      st = ⟨[feedO d' s', .im (.lst (strI ns)), boxO b', .im (.int deep), .im (.int 2), .im (.tup (strI ws)), .hole, .hole, .hole, .hole, .hole, x11], sto⟩)
      ⟨[], _, _, _, _, rfl, by simpa using hw6, by simp, Int.le_refl _, ⟨by simp, by simp, by simp; omega⟩, ⟨ws, rfl, rfl⟩, by simp [hr2]; exact ⟨⟨rfl, rfl⟩, rfl⟩⟩ ?_ ?_
    · rintro i rr acc st hi ⟨qs, d', s', b', x11, rfl, hl2, hq, hb', hw', ⟨zs, ez, ews⟩, rfl⟩
      obtain ⟨z, zs, rfl⟩ : ∃ z zs', zs = z :: zs' := by
        cases zs with
        | nil => cases ez
        | cons z zs => exact ⟨z, zs, rfl⟩
      simp at ez
      obtain ⟨rfl, rfl⟩ := ez
      have hzn : z ∈ ns := hw z (by rw [← ews]; simp)
      simp [wip]
      refine hW (by omega) fun t d3 s3 b3 q1 qw q2 q3 q4 => ?_
      simp at hl2
      simp [sizeLine_eq]
      refine ⟨by omega, qs ++ [(z, [], t)], by simp, by simp; omega, fun a c t' hm => ?_, d3, s3, b3, by omega, ?_, ⟨zs, rfl, by simpa using ews⟩, ⟨rfl, rfl⟩, rfl⟩
      · rcases List.mem_append.mp hm with h' | h'
        · exact hq _ h'
        · simp at h'
          obtain ⟨rfl, rfl, rfl⟩ := h'
          exact ⟨hzn, rfl, q1, by simpa using q2, qw⟩
      · simp
        omega
    · rintro acc st ⟨qs, d', s', b', x11, rfl, hl2, hq, hb', hw', ⟨zs, ez, ews⟩, rfl⟩
      have zn : zs = [] := by
        cases zs with
        | nil => rfl
        | cons _ _ => cases ez
      subst zn
      simp only [List.append_nil] at ews
      have e : qs.map (fun q => O.im (.tup [.str q.1, enc q.2.2])) = (qs.map fun q => I.tup [.str q.1, enc q.2.2]).map O.im := by simp
      rw [e]
      simp [resto]
      refine hT (deep := deep - 1) (by omega) fun t d3 s3 b3 q1 q2 q3 q4 => ?_
      simp
      simp at hl2
      have := h (.la (R.of qs) t) d3 s3 b3 ⟨R.ok_l.mpr (by rw [R.of_l]; exact fun q hq' => ⟨(hq q hq').1, by rw [(hq q hq').2.1]; simp, by rw [(hq q hq').2.1]; simp, (hq q hq').2.2.1⟩), q1,
          by rw [R.of_l, ← List.length_map (f := Prod.fst), ews]; exact hw0, by rw [R.of_l, ← List.length_map (f := Prod.fst), ews]; exact hw6, by rw [R.of_l, ews]; exact wd, by rw [R.of_l]; exact fun q hq' => (hq q hq').2.2.2.2⟩
        (by
          have : (R.of qs).dp ≤ need (deep - 1 - 1) + 1 := R.dp_le.mpr (by rw [R.of_l]; exact fun q hq' => (hq q hq').2.2.2.1)
          simp only [T.dp]; omega) (by omega) ⟨by simp only [T.w]; rw [R.w_l, R.of_l]; omega, by simp only [T.pc]; rw [R.pc_l, R.of_l]; omega, by omega⟩
      simpa [enc, encP_l, R.of_l] using this
  simp only [hr2, not_false_eq_true, true_and, false_and, or_false]
  rw [r_sSeq]; simp
  by_cases hr3 : r = 3
  · simp [hr3]
    rw [r_sSeq]; simp
    refine few_does h0 h1 (by omega) (by omega) fun xs d2 s2 hx nd hl => ?_
    simp
    rw [r_sSeq]; simp [sizeLine_eq]
    rw [r_sSeq, r_sFor, r_itV]
    refine some_run hn h0 hx nd hl rfl rfl fun ws hw wd hw0 hw6 => ?_
    simp
    refine r_forL (fun l st => ∃ (qs : List (Str × List Str × T)) (d' s' b' : Int) (x8 x9 : O), qs.length + l.length ≤ 6 ∧
      (∀ q ∈ qs, q.1 ∈ ns ∧ (∀ y ∈ q.2.1, y ∈ ns) ∧ (q.2.1.length ≤ 3 ∧ q.2.1.Nodup) ∧ q.2.2.ok ns ∧ q.2.2.dp ≤ need (deep - 1)) ∧ b' ≤ b - 1 ∧ ((qs.map fun q => 80 + q.2.2.w).sum + 1300 * b'.toNat ≤ 160 * qs.length + 1300 * (b - 1).toNat ∧ (qs.map fun q => q.2.2.pc).sum = (b - 1 - b').toNat ∧ -13 * (need (deep - 1) : Int) - qs.length ≤ b') ∧
      (∃ zs, l = strI zs ∧ qs.map Prod.fst ++ zs = ws) ∧
      st = ⟨[feedO d' s', .im (.lst (strI ns)), boxO b', .im (.int deep), .im (.int 3), .im (.tup (strI xs)), .hole, .lst ((qs.map fun q => I.tup [.str q.1, .tup (strI q.2.1), enc q.2.2]).map .im), x8, x9, .hole, .hole], sto⟩)
      ⟨[], _, _, _, _, _, by simpa using hw6, by simp, Int.le_refl _, ⟨by simp, by simp, by simp; omega⟩, ⟨ws, rfl, rfl⟩, by simp [hr3]; exact ⟨⟨rfl, rfl⟩, rfl, rfl⟩⟩ ?_ ?_
    · rintro i rr st hi ⟨qs, d', s', b', x8, x9, hl2, hq, hb', hw', ⟨zs, ez, ews⟩, rfl⟩
      obtain ⟨z, zs, rfl⟩ : ∃ z zs', zs = z :: zs' := by
        cases zs with
        | nil => cases ez
        | cons z zs => exact ⟨z, zs, rfl⟩
      simp at ez
      obtain ⟨rfl, rfl⟩ := ez
      have hzn : z ∈ ns := hw z (by rw [← ews]; simp)
      simp [b_term_1]
      rw [r_sSeq]; simp
      refine few_does h0 h1 (by omega) (by omega) fun ys d3 s3 hy ynd hyl => ?_
      simp
      refine hT (deep := deep - 1) (by omega) fun t d4 s4 b4 q1 q2 q3 q4 => ?_
      simp at hl2
      simp [sizeLine_eq]
      refine ⟨by omega, qs ++ [(z, ys, t)], by simp; omega, fun a c t' hm => ?_, d4, s4, b4, by omega, ?_, ⟨zs, rfl, by simpa using ews⟩, ⟨rfl, rfl⟩, rfl, by simp⟩
      · rcases List.mem_append.mp hm with h' | h'
        · exact hq _ h'
        · simp at h'
          obtain ⟨rfl, rfl, rfl⟩ := h'
          exact ⟨hzn, hy, ⟨by simpa using hyl, ynd⟩, q1, q2⟩
      · simp
        omega
    · rintro st ⟨qs, d', s', b', x8, x9, hl2, hq, hb', hw', ⟨zs, ez, ews⟩, rfl⟩
      have zn : zs = [] := by
        cases zs with
        | nil => rfl
        | cons _ _ => cases ez
      subst zn
      simp only [List.append_nil] at ews
      simp
      refine pickS_does h0 h1 fun x d3 s3 hx' => ?_
      simp
      simp at hl2
      have := h (.by_ x (R.of qs)) d3 s3 b' ⟨R.ok_l.mpr (by rw [R.of_l]; exact fun q hq' => ⟨(hq q hq').1, (hq q hq').2.1, (hq q hq').2.2.1, (hq q hq').2.2.2.1⟩), hx',
          by rw [R.of_l, ← List.length_map (f := Prod.fst), ews]; exact hw0, by rw [R.of_l, ← List.length_map (f := Prod.fst), ews]; exact hw6, by rw [R.of_l, ews]; exact wd⟩
        (by
          have : (R.of qs).dp ≤ need (deep - 1) := R.dp_le.mpr (by rw [R.of_l]; exact fun q hq' => (hq q hq').2.2.2.2)
          simp only [T.dp]; omega) (by omega) ⟨by simp only [T.w]; rw [R.w_l, R.of_l]; omega, by simp only [T.pc]; rw [R.pc_l, R.of_l]; omega, by omega⟩
      simpa [enc, encR_l, R.of_l] using this
  simp [hr3]
  rw [r_sSeq]; simp
  refine hT (deep := deep - 1) (by omega) fun t d2 s2 b2 q1 q2 q3 q4 => ?_
  simp
  rw [r_sSeq]; simp [sizeLine_eq]
  refine pick_does (by simp) (by simp) fun i d3 s3 hi => ?_
  obtain ⟨w, rfl, hw⟩ : ∃ w : Str, i = .str w ∧ (w = "let" ∨ w = "now") := by
    simp at hi
    rcases hi with rfl | rfl
    · exact ⟨_, rfl, .inl rfl⟩
    · exact ⟨_, rfl, .inr rfl⟩
  simp
  refine pickS_does h0 h1 fun x d4 s4 hx => ?_
  simp
  refine hT (deep := deep - 1) (by omega) fun t' d5 s5 b5 q1' q2' q3' q4' => ?_
  simp
  have := h (.lt w x t t') d5 s5 b5 ⟨hw, hx, q1, q1'⟩ (by simp only [T.dp]; omega) (by omega) ⟨by simp only [T.w]; omega, by simp only [T.pc]; omega, by omega⟩
  simpa [enc] using this
theorem term_all (hn : ∀ x ∈ ns, nm x) (h0 : 0 < ns.length) (h1 : ns.length ≤ 1000) : ∀ k, WorthS ns (f_worth k) k ∧ TermS ns (f_term k) k
  | 0 => ⟨fun hk => by omega, fun {deep} _ _ _ _ _ _ hk => by have := @need_pos deep; omega⟩
  | k + 1 => by
    obtain ⟨a, b⟩ := term_all hn h0 h1 k
    have e1 : f_worth (k + 1) = mkFn 4 4 [0, 2] (b_worth (f_worth k) (f_term k)) := by rw [f_worth]
    have e2 : f_term (k + 1) = mkFn 12 4 [0, 2] (b_term (f_worth k) (f_term k)) := by rw [f_term]
    rw [e1, e2]
    exact ⟨worth_step h0 h1 b, term_step hn h0 h1 a b⟩
end
end VT

namespace VT
open PySem L2 VS
def T.own : T → List Str
  | .num _ => []
  | .nam x => [x]
  | .op _ x y => [x, y]
  | .mk _ ys => ys
  | .fn _ _ => []
  | .lt _ _ _ _ => []
  | .la _ _ => []
  | .by_ x _ => [x]
def T.inn : T → List (T × List Str)
  | .num _ => []
  | .nam _ => []
  | .op _ _ _ => []
  | .mk _ _ => []
  | .fn x t => [(t, [x])]
  | .lt _ x a b => [(a, []), (b, [x])]
  | .la ps t => ps.l.map (fun q => (q.2.2, ps.l.map Prod.fst)) ++ [(t, ps.l.map Prod.fst)]
  | .by_ _ rs => rs.l.map fun q => (q.2.2, q.2.1)
theorem ops_ok {w : Str} (h : w ∈ ops) : PyData.strOk w = true ∧ w ≠ "fun" ∧ w ≠ "let" ∧ w ≠ "now" ∧ w ≠ "letall" ∧ w ≠ "by" ∧ w ≠ "made" ∧ w ≠ "num" ∧ w.length ≤ 6 := by
  unfold ops at h
  simp only [List.mem_cons, List.not_mem_nil, or_false] at h
  rcases h with rfl | rfl | rfl | rfl | rfl <;> decide +kernel
section
variable {sto : List O} {ns : List Str} {k : Nat} {Q : O → List O → List O → Prop} {E : Nat → List I → List O → List O → Prop}
theorem inner_does {t : T} (hk : t.ok ns) (h : Q (.lst ((t.inn.map fun p => I.tup [enc p.1, .tup (strI p.2)]).map .im)) [.hole] sto) : Does f_inner_of [.im (enc t)] sto Q E := by
  unfold f_inner_of
  rw [r_does]
  unfold b_inner_of
  cases t with
  | num i => simpa [enc, r_sSeq, T.inn, sizeLine_eq] using h
  | nam x => simpa [enc, r_sSeq, T.inn, sizeLine_eq] using h
  | op w x y =>
    obtain ⟨w1, w2, w3, w4, w5, w6, w7, w8, _⟩ := ops_ok hk.1
    simpa [enc, r_sSeq, T.inn, sizeLine_eq, w1, w2, w3, w4, w5, w6, w7, w8] using h
  | mk x ys => simpa [enc, r_sSeq, T.inn, sizeLine_eq] using h
  | fn x t => simpa [enc, r_sSeq, T.inn, sizeLine_eq, at_0, at_1] using h
  | lt w x t1 t2 =>
    rcases hk.1 with rfl | rfl
    · simpa [enc, r_sSeq, T.inn, sizeLine_eq, at_0, at_1, at_2] using h
    · simpa [enc, r_sSeq, T.inn, sizeLine_eq, at_0, at_1, at_2] using h
  | la ps t =>
    simp [enc, r_sSeq, sizeLine_eq, at_0, at_1, encP_l]
    have hl : ps.l.length ≤ sizeLine := by rw [sizeLine_eq]; have := hk.2.2.2.1; omega
    refine lc_mapL (fun q => .str q.1) rfl hl (fun q hq => by simp [wip, at_0]) ?_
    simp [at_0, at_1]
    refine lc_mapL (fun q => .tup [enc q.2.2, .tup (ps.l.map fun q => .str q.1)]) rfl hl (fun q hq => by simp [wip, at_1, Function.comp_def]) ?_
    simp [at_1]
    have := hk.2.2.2.1
    refine ⟨by rw [sizeLine_eq]; omega, ?_⟩
    simpa [T.inn, strI, Function.comp_def] using h
  | by_ x rs =>
    simp [enc, r_sSeq, sizeLine_eq, at_0, at_1, encR_l]
    have hl : rs.l.length ≤ sizeLine := by rw [sizeLine_eq]; have := hk.2.2.2.1; omega
    refine lc_mapL (fun q => .tup [enc q.2.2, .tup (strI q.2.1)]) rfl hl (fun q hq => by simp [wip, at_1, at_2]) ?_
    simpa [T.inn, Function.comp_def] using h
end
end VT

namespace VT
open PySem L2 VS
section
variable {sto : List O} {ns : List Str} {k : Nat} {Q : O → List O → List O → Prop} {E : Nat → List I → List O → List O → Prop}
theorem own_does {t : T} (hk : t.ok ns) (h : Q (.lst ((strI t.own).map .im)) [.hole] sto) : Does f_own_names [.im (enc t)] sto Q E := by
  unfold f_own_names
  rw [r_does]
  unfold b_own_names
  cases t with
  | num i => simpa [enc, r_sSeq, T.own, sizeLine_eq, l_NAMES_ALONE] using h
  | nam x => simpa [enc, r_sSeq, T.own, sizeLine_eq, l_NAMES_ALONE] using h
  | op w x y =>
    obtain ⟨w1, w2, w3, w4, w5, w6, w7, w8, _⟩ := ops_ok hk.1
    have hw : w = "call" ∨ w = "sum" ∨ w = "minus" ∨ w = "less" ∨ w = "same" := by simpa [ops] using hk.1
    rcases hw with rfl | rfl | rfl | rfl | rfl <;> simpa [enc, r_sSeq, T.own, sizeLine_eq, l_NAMES_ALONE] using h
  | mk x ys => simpa [enc, r_sSeq, T.own, sizeLine_eq, l_NAMES_ALONE, at_1] using h
  | fn x t => simpa [enc, r_sSeq, T.own, sizeLine_eq, l_NAMES_ALONE] using h
  | lt w x t1 t2 =>
    rcases hk.1 with rfl | rfl
    · simpa [enc, r_sSeq, T.own, sizeLine_eq, l_NAMES_ALONE] using h
    · simpa [enc, r_sSeq, T.own, sizeLine_eq, l_NAMES_ALONE] using h
  | la ps t => simpa [enc, r_sSeq, T.own, sizeLine_eq, l_NAMES_ALONE] using h
  | by_ x rs => simpa [enc, r_sSeq, T.own, sizeLine_eq, l_NAMES_ALONE, at_0] using h
end
end VT

namespace VT
open PySem L2 VS
/-! texts as a dict's keys -/
def dk (ks : List Str) : List (DK × I) := ks.map fun x => (.inl (.inr x), .bl true)
def add1 (ks : List Str) (x : Str) : List Str := if x ∈ ks then ks else ks ++ [x]
theorem putI_dk (ks : List Str) (x : Str) : putI (dk ks) (.inl (.inr x)) (.bl true) = dk (add1 ks x) := by
  unfold putI dk add1
  by_cases h : x ∈ ks
  · have : ((ks.map fun x => ((Sum.inl (Sum.inr x) : DK), I.bl true)).any fun q => decide (q.1 = Sum.inl (Sum.inr x))) = true := by
      rw [List.any_map, List.any_eq_true]
      exact ⟨x, h, by simp⟩
    rw [if_pos this, if_pos h, List.map_map]
    refine List.map_congr_left fun y _ => ?_
    simp only [Function.comp_def]
    split
    · rename_i e; rw [e]
    · rfl
  · have : ((ks.map fun x => ((Sum.inl (Sum.inr x) : DK), I.bl true)).any fun q => decide (q.1 = Sum.inl (Sum.inr x))) = false := by
      rw [List.any_map, List.any_eq_false]
      intro y hy
      simp only [Function.comp_def, decide_eq_true_eq]
      intro e
      have : y = x := Sum.inr.inj (Sum.inl.inj e)
      exact h (this ▸ hy)
    rw [this, if_neg h]
    simp
def addA (ks xs : List Str) : List Str := xs.foldl add1 ks
theorem fold_dk : ∀ (xs ks : List Str), xs.foldl (fun z x => putI z (.inl (.inr x)) (.bl true)) (dk ks) = dk (addA ks xs)
  | [], _ => rfl
  | x :: xs, ks => by
    rw [List.foldl_cons, putI_dk, fold_dk xs]; rfl
theorem fold_dk2 (xs ks : List Str) : (dk xs).foldl (fun a q => putI a q.1 q.2) (dk ks) = dk (addA ks xs) := by
  rw [← fold_dk]
  conv => lhs; unfold dk
  rw [List.foldl_map]; rfl
theorem add1_nd {ks : List Str} {x : Str} (h : ks.Nodup) : (add1 ks x).Nodup := by
  unfold add1; split
  · exact h
  · rename_i hx
    rw [List.nodup_append]
    exact ⟨h, by simp, by rintro a ha b hb rfl; simp at hb; subst hb; exact hx ha⟩
theorem add1_mem {ks : List Str} {x z : Str} : z ∈ add1 ks x ↔ z ∈ ks ∨ z = x := by
  unfold add1; split
  · rename_i h
    exact ⟨.inl, fun q => q.elim id fun e => e ▸ h⟩
  · simp
theorem addA_nd : ∀ {xs ks : List Str}, ks.Nodup → (addA ks xs).Nodup
  | [], _, h => h
  | x :: xs, ks, h => addA_nd (xs := xs) (add1_nd h)
theorem addA_mem : ∀ {xs ks : List Str} {z : Str}, z ∈ addA ks xs ↔ z ∈ ks ∨ z ∈ xs
  | [], ks, z => by simp [addA]
  | x :: xs, ks, z => by
    show z ∈ addA (add1 ks x) xs ↔ _
    rw [addA_mem, add1_mem, List.mem_cons, or_assoc]
theorem nd_len : ∀ {l m : List Str}, l.Nodup → (∀ x ∈ l, x ∈ m) → l.length ≤ m.length
  | [], m, _, _ => by simp
  | x :: l, m, nd, h => by
    obtain ⟨hx, nd⟩ := List.nodup_cons.mp nd
    have p := List.perm_cons_erase (h x List.mem_cons_self)
    have := nd_len (m := m.erase x) nd fun y hy => by
      have : y ≠ x := fun e => hx (e ▸ hy)
      exact (List.mem_erase_of_ne this).mpr (h y (List.mem_cons_of_mem _ hy))
    have e := p.length_eq
    simp only [List.length_cons] at *
    omega
theorem keysS_dk (ks : List Str) : keysS ((dk ks).map Prod.fst) = some ks := by
  induction ks with
  | nil => rfl
  | cons x ks ih =>
    show (keysS ((dk ks).map Prod.fst)).map (x :: ·) = _
    rw [ih]; rfl
theorem sortS_perm {l m : List Str} (p : l.Perm m) : sortS l = sortS m := by
  refine List.Perm.eq_of_pairwise (le := fun a b => leS a b = true) (fun _ _ _ _ => leS_anti) (List.pairwise_mergeSort leS_trans leS_total l) (List.pairwise_mergeSort leS_trans leS_total m) ?_
  exact (List.mergeSort_perm l leS).trans (p.trans (List.mergeSort_perm m leS).symm)
theorem sortS_mem {l : List Str} {z : Str} : z ∈ sortS l ↔ z ∈ l := (List.mergeSort_perm l leS).mem_iff
theorem sortS_len {l : List Str} : (sortS l).length = l.length := (List.mergeSort_perm l leS).length_eq
theorem sortS_same {l m : List Str} (hl : l.Nodup) (hm : m.Nodup) (h : ∀ z, z ∈ l ↔ z ∈ m) : sortS l = sortS m := by
  refine sortS_perm ?_
  have a := nd_len hl fun x hx => (h x).mp hx
  exact perm_sub hm (fun x hx => (h x).mpr hx) a
@[simp] theorem flo_dk {st : VS.St} {ks : List Str} : flo st (dO (dk ks)) = some (.dct false (dk ks)) := by
  show flat (O.dct false ((dk ks).map fun q => (q.1, O.im q.2))) = _
  show ((allImD ((dk ks).map fun q => (q.1, O.im q.2))).map (I.dct false)) = _
  rw [allImD_map]; rfl
theorem sorted_dk {ks : List Str} (h : ks.length < 64) : fSorted [.dct false (dk ks)] = some (.lst ((strI (sortS ks)).map .im)) := by
  show (match keysS ((dk ks).map Prod.fst) with | some ks => if ks.length < 64 then some (O.lst ((sortS ks).map fun s => O.im (.str s))) else none | none => _) = _
  rw [keysS_dk]
  simp only [h, if_true]
  simp [strI]
/-! free names -/
/-- the names free in t, k within one another -/
def fvL : Nat → T → List Str
  | 0, _ => []
  | k + 1, t => t.own ++ t.inn.flatMap fun p => (fvL k p.1).filter fun z => !decide (z ∈ p.2)
theorem T.ok.own {ns : List Str} {t : T} (h : t.ok ns) : ∀ z ∈ t.own, z ∈ ns := by
  cases t with
  | num _ => simp [T.own]
  | nam x => simpa [T.own, T.ok] using h
  | op w x y =>
    obtain ⟨_, h1, h2⟩ := h
    simp [T.own, h1, h2]
  | mk x ys => exact h.2.1
  | fn _ _ => simp [T.own]
  | lt _ _ _ _ => simp [T.own]
  | la _ _ => simp [T.own]
  | by_ x _ => simpa [T.own] using h.2.1
theorem T.ok.inn {ns : List Str} {t : T} (h : t.ok ns) : ∀ p ∈ t.inn, p.1.ok ns ∧ p.1.dp < t.dp ∧ (∀ z ∈ p.2, z ∈ ns) ∧ p.2.length ≤ 6 := by
  cases t with
  | num _ => simp [T.inn]
  | nam x => simp [T.inn]
  | op w x y => simp [T.inn]
  | mk x ys => simp [T.inn]
  | fn x t => simpa [T.inn, T.dp] using ⟨h.2, h.1⟩
  | lt w x a b =>
    obtain ⟨_, h1, h2, h3⟩ := h
    simp only [T.inn, T.dp, List.mem_cons, List.not_mem_nil, or_false, forall_eq_or_imp, forall_eq]
    exact ⟨⟨h2, by omega, by simp, by simp⟩, h3, by omega, by simpa using h1, by simp⟩
  | la ps t =>
    obtain ⟨h1, h2, h3, h4, _⟩ := h
    have hr := R.ok_l.mp h1
    have hd := R.dp_le.mp (Nat.le_refl ps.dp)
    have hz : ∀ z ∈ ps.l.map Prod.fst, z ∈ ns := by
      intro z hz
      obtain ⟨q, hq, rfl⟩ := List.mem_map.mp hz
      exact (hr q hq).1
    intro p hp
    simp only [T.inn, List.mem_append, List.mem_map, List.mem_singleton] at hp
    rcases hp with ⟨q, hq, rfl⟩ | rfl
    · refine ⟨(hr q hq).2.2.2, ?_, hz, by simpa using h4⟩
      have := hd q hq
      simp only [T.dp]; omega
    · exact ⟨h2, by simp only [T.dp]; omega, hz, by simpa using h4⟩
  | by_ x rs =>
    obtain ⟨h1, h2, h3, h4, _⟩ := h
    have hr := R.ok_l.mp h1
    have hd := R.dp_le.mp (Nat.le_refl rs.dp)
    intro p hp
    simp only [T.inn, List.mem_map] at hp
    obtain ⟨q, hq, rfl⟩ := hp
    refine ⟨(hr q hq).2.2.2, ?_, (hr q hq).2.1, by have := (hr q hq).2.2.1.1; simp; omega⟩
    have := hd q hq
    simp only [T.dp]; omega
theorem fvL_ok {ns : List Str} : ∀ (k : Nat) {t : T}, t.ok ns → ∀ z ∈ fvL k t, z ∈ ns
  | 0, _, _, z, hz => by simp [fvL] at hz
  | k + 1, t, h, z, hz => by
    rw [fvL, List.mem_append, List.mem_flatMap] at hz
    rcases hz with hz | ⟨p, hp, hz⟩
    · exact h.own z hz
    · exact fvL_ok k (h.inn p hp).1 z (List.mem_filter.mp hz).1
section
variable {sto : List O} {ns : List Str} {k : Nat}
def FreeS (ns : List Str) (F : Fn) (k : Nat) : Prop := ∀ {t : T} {sto : List O} {Q : O → List O → List O → Prop} {E : Nat → List I → List O → List O → Prop}, t.ok ns → t.dp ≤ k →
  (∀ ks, ks.Nodup → (∀ z, z ∈ ks ↔ z ∈ fvL k t) → Q (.lst ((strI (sortS ks)).map .im)) [.hole] sto) → Does F [.im (enc t)] sto Q E
theorem T.dp_pos : ∀ t : T, 1 ≤ t.dp
  | .num _ => by simp [T.dp]
  | .nam _ => by simp [T.dp]
  | .op _ _ _ => by simp [T.dp]
  | .mk _ _ => by simp [T.dp]
  | .fn _ _ => by simp [T.dp]
  | .lt _ _ _ _ => by simp [T.dp]
  | .la _ _ => by simp [T.dp]
  | .by_ _ _ => by simp [T.dp]
theorem free_step (hn : ns.length < 64) {F : Fn} (hF : FreeS ns F k) : FreeS ns (mkFn 5 1 [] (b_free_names F)) (k + 1) := by
  intro t sto Q E ok hd h
  rw [r_does]
  unfold b_free_names
  rw [r_sSeq]; simp
  refine own_does ok ?_
  have hol : (T.own t).length ≤ sizeLine := by
    rw [sizeLine_eq]
    cases t <;> simp [T.own]
    have := ok.2.2
    omega
  simp [fzbL_im, frzL_im]
  refine dc_mapL (f := I.str) (l := T.own t) (fun x => .inl (.inr x)) (fun _ => .bl true) rfl hol (fun x hx => by simp [wip, dkOf, keyI]) ?_
  have e0 : (T.own t).foldl (fun z x => putI z (.inl (.inr x)) (.bl true)) [] = dk (addA [] (T.own t)) := fold_dk _ []
  rw [e0]
  simp
  rw [r_sSeq, r_sFor]; simp
  refine inner_does ok ?_
  simp [fzbL_im, frzL_im]
  rw [fzbL_comp, frzL_comp]
  refine ⟨rfl, ?_⟩
  refine r_forL (fun l st => ∃ (pre suf : List (T × List Str)) (ks : List Str) (x2 x3 : O), t.inn = pre ++ suf ∧ l = suf.map (fun p => I.tup [enc p.1, .tup (strI p.2)]) ∧ ks.Nodup ∧
    (∀ z, z ∈ ks ↔ z ∈ t.own ∨ ∃ p ∈ pre, z ∈ fvL k p.1 ∧ z ∉ p.2) ∧ st = ⟨[.im (enc t), dO (dk ks), x2, x3, .hole], sto⟩)
    ⟨[], t.inn, _, _, _, rfl, rfl, addA_nd List.nodup_nil, fun z => by rw [addA_mem]; simp, rfl⟩ ?_ ?_
  · rintro i r st hi ⟨pre, suf, ks, x2, x3, e1, e2, nd, hm, rfl⟩
    obtain ⟨p, suf, rfl, rfl, rfl⟩ := map_cons_inv e2.symm
    have hp := ok.inn p (by rw [e1]; simp)
    have hks : ∀ z ∈ ks, z ∈ ns := fun z hz => by
      rcases (hm z).mp hz with q | ⟨p', hp', q, _⟩
      · exact ok.own z q
      · exact fvL_ok k (ok.inn p' (by rw [e1]; exact List.mem_append_left _ hp')).1 z q
    have lks := nd_len nd hks
    simp [b_free_names_1]
    refine hF hp.1 (by omega) fun fs fnd hfm => ?_
    have lfs : fs.length ≤ ns.length := nd_len fnd fun z hz => fvL_ok k hp.1 z ((hfm z).mp hz)
    simp [fzbL_im, frzL_im]
    refine dc_filtL (f := I.str) (l := sortS fs) (fun x => !decide (x ∈ p.2)) (fun x => .inl (.inr x)) (fun _ => .bl true) rfl (by rw [sortS_len, sizeLine_eq]; omega) (fun x hx => ?_) ?_
    · by_cases hx2 : x ∈ p.2 <;> simp [wip, dkOf, keyI, hx2]
    have e0 : ((sortS fs).filter fun x => !decide (x ∈ p.2)).foldl (fun z x => putI z (.inl (.inr x)) (.bl true)) [] = dk (addA [] ((sortS fs).filter fun x => !decide (x ∈ p.2))) := fold_dk _ []
    rw [e0]
    generalize hM : addA [] ((sortS fs).filter fun x => !decide (x ∈ p.2)) = more
    have mm : ∀ z, z ∈ more ↔ z ∈ fvL k p.1 ∧ z ∉ p.2 := fun z => by
      rw [← hM, addA_mem, List.mem_filter, sortS_mem, hfm]; simp
    have mnd : more.Nodup := by rw [← hM]; exact addA_nd List.nodup_nil
    have lm : more.length ≤ ns.length := nd_len mnd fun z hz => fvL_ok k hp.1 z ((mm z).mp hz).1
    simp
    refine ⟨by simp [dk, sizeLine_eq]; omega, ?_⟩
    rw [fold_dk2]
    refine ⟨pre ++ [p], suf, by rw [e1]; simp, rfl, addA ks more, addA_nd nd, fun z => ?_, rfl⟩
    rw [addA_mem, hm, mm]
    obtain ⟨p1, p2⟩ := p
    simp only [List.mem_append, List.mem_singleton, Prod.exists, Prod.mk.injEq]
    constructor
    · rintro ((h | ⟨a, b, h, q⟩) | h)
      · exact .inl h
      · exact .inr ⟨a, b, .inl h, q⟩
      · exact .inr ⟨p1, p2, .inr ⟨rfl, rfl⟩, h⟩
    · rintro (h | ⟨a, b, h | ⟨rfl, rfl⟩, q⟩)
      · exact .inl (.inl h)
      · exact .inl (.inr ⟨a, b, h, q⟩)
      · exact .inr q
  · rintro st ⟨pre, suf, ks, x2, x3, e1, e2, nd, hm, rfl⟩
    have : suf = [] := List.map_eq_nil_iff.mp e2.symm
    subst this
    rw [List.append_nil] at e1
    subst e1
    have lks : ks.length < 64 := Nat.lt_of_le_of_lt (nd_len nd fun z hz => by
      rcases (hm z).mp hz with q | ⟨p', hp', q, _⟩
      · exact ok.own z q
      · exact fvL_ok k (ok.inn p' hp').1 z q) hn
    simp [sorted_dk lks]
    refine h ks nd fun z => ?_
    rw [hm, fvL, List.mem_append, List.mem_flatMap]
    simp
theorem free_all (hn : ns.length < 64) : ∀ k, FreeS ns (f_free_names k) k
  | 0 => by
    intro _ hd _
    exact absurd (Nat.le_trans (T.dp_pos _) hd) (by decide)
  | k + 1 => by
    have e : f_free_names (k + 1) = mkFn 5 1 [] (b_free_names (f_free_names k)) := by rw [f_free_names]
    rw [e]
    exact free_step hn (free_all hn k)
end
end VT

namespace VS
open PySem L2
mutual
theorem pd_toD : ∀ i : I, pd i = toD i
  | .non => by rw [pd, toD]
  | .bl _ => by rw [pd, toD]
  | .int _ => by rw [pd, toD]
  | .str _ => by rw [pd, toD]
  | .tup l => by rw [pd, toD, pdL_toD l]
  | .lst l => by rw [pd, toD, pdL_toD l]
  | .dct _ _ => by rw [pd, toD]
  | .ref _ => by rw [pd, toD]
  | .fn _ => by rw [pd, toD]
theorem pdL_toD : ∀ l : List I, pdL l = toDL l
  | [] => by rw [pdL, toDL]
  | i :: l => by rw [pdL, toDL, pd_toD i, pdL_toD l] <;> rfl
end
/-- data that is short: dep deep, blk things -/
structure DOk (d : PyData) (dep blk : Nat) : Prop where
  lay : d.canLay0 = true
  dp : d.depth ≤ dep
  bk : d.bulk ≤ blk
  lv : d.leavesShort 24 = true
  sh : d.showable = true
structure DOkL (ds : List PyData) (dep blk : Nat) : Prop where
  lay : PyData.canLayAll0 ds = true
  dp : PyData.depthAll ds ≤ dep
  bk : PyData.bulkAll ds ≤ blk
  lv : PyData.leavesShortAll 24 ds = true
  sh : PyData.showableAll ds = true
theorem DOkL.nil {dep blk : Nat} : DOkL [] dep blk := ⟨rfl, by simp [PyData.depthAll], by simp [PyData.bulkAll], rfl, rfl⟩
theorem DOkL.cons {d : PyData} {ds : List PyData} {dep b1 b2 blk : Nat} (h : DOk d dep b1) (hs : DOkL ds dep b2) (hb : b1 + 1 + b2 ≤ blk) : DOkL (d :: ds) dep blk := by
  refine ⟨?_, ?_, ?_, ?_, ?_⟩
  · simp only [PyData.canLayAll0, h.lay, hs.lay, Bool.and_self]
  · have := h.dp; have := hs.dp; simp only [PyData.depthAll]; omega
  · have := h.bk; have := hs.bk; simp only [PyData.bulkAll]; omega
  · simp only [PyData.leavesShortAll, h.lv, hs.lv, Bool.and_self]
  · simp only [PyData.showableAll, h.sh, hs.sh, Bool.and_self]
theorem DOkL.tup {ds : List PyData} {dep blk : Nat} (h : DOkL ds dep blk) : DOk (.tuple ds) (dep + 1) blk :=
  ⟨h.lay, by have := h.dp; simp only [PyData.depth]; omega, h.bk, h.lv, h.sh⟩
theorem DOkL.lst {ds : List PyData} {dep blk : Nat} (h : DOkL ds dep blk) : DOk (.list ds) (dep + 1) blk :=
  ⟨h.lay, by have := h.dp; simp only [PyData.depth]; omega, h.bk, h.lv, h.sh⟩
theorem DOk.mono {d : PyData} {dep blk dep' blk' : Nat} (h : DOk d dep blk) (h1 : dep ≤ dep') (h2 : blk ≤ blk') : DOk d dep' blk' :=
  ⟨h.lay, Nat.le_trans h.dp h1, Nat.le_trans h.bk h2, h.lv, h.sh⟩
theorem DOkL.mono {d : List PyData} {dep blk dep' blk' : Nat} (h : DOkL d dep blk) (h1 : dep ≤ dep') (h2 : blk ≤ blk') : DOkL d dep' blk' :=
  ⟨h.lay, Nat.le_trans h.dp h1, Nat.le_trans h.bk h2, h.lv, h.sh⟩
theorem DOk.str {x : Str} {dep blk : Nat} (h : PyData.strOk x = true) (hl : x.length ≤ blk) : DOk (.str x) dep blk := by
  refine ⟨h, by simp [PyData.depth], hl, ?_, rfl⟩
  unfold PyData.strOk at h
  rw [← Array.all_toList] at h
  simp only [PyData.leavesShort, List.all_eq_true, decide_eq_true_eq] at h ⊢
  intro c hc
  have := h c hc
  omega
theorem DOk.int {i : Int} {dep blk : Nat} (h : i.natAbs ≤ 10 ^ 18) : DOk (.int i) dep blk := by
  refine ⟨rfl, by simp [PyData.depth], by simp [PyData.bulk], ?_, ?_⟩
  · have h1 : i.natAbs < 10 ^ 19 := Nat.lt_of_le_of_lt h (by decide)
    have h2 := int_text_length_le10 (k := 19) (by decide) h1
    simp only [PyData.leavesShort, decide_eq_true_eq]
    show (Str.ofString (toString i)).length ≤ 24
    rw [ofString_length]; omega
  · simp only [PyData.showable, decide_eq_true_eq]
    have h1 : i.natAbs < 2 ^ 64 := Nat.lt_of_le_of_lt h (by decide)
    by_cases h0 : i.natAbs = 0
    · rw [h0]; decide
    · exact Nat.lt_trans ((Nat.log2_lt h0).mpr h1) (by decide)
theorem DOkL.strs {l : List Str} {dep : Nat} (h : ∀ x ∈ l, PyData.strOk x = true ∧ x.length ≤ 16) : DOkL (l.map PyData.str) dep (17 * l.length) := by
  induction l with
  | nil => exact .nil
  | cons x l ih =>
    have hx := h x List.mem_cons_self
    exact .cons (DOk.str (blk := 16) hx.1 hx.2) (ih fun y hy => h y (List.mem_cons_of_mem _ hy)) (by simp; omega)
/-- repr of short data -/
theorem repr_ok {l : List I} {ds : List PyData} {dep blk : Nat} (e : toDL l = some ds) (h : DOkL ds dep blk) (h1 : dep ≤ 100) (h2 : blk ≤ 600000) : ∃ s, fRepr [.tup l] = some (.im (.str s)) ∧ fRepr [.lst l] = some (.im (.str (PyData.list ds).shown)) := by
  have sz : ∀ d : PyData, DOk d (dep + 1) blk → d.shown.length ≤ sizeLine := fun d hd => by
    have := PyData.shown_le_bulk 24 (by decide) d hd.lv
    have := hd.bk
    rw [sizeLine_eq]; omega
  refine ⟨(PyData.tuple ds).shown, ?_, ?_⟩
  · show (match pdL l with | some ds => _ | none => none) = _
    rw [pdL_toD, e]
    have := h.tup
    simp only
    rw [if_pos ⟨this.sh, Nat.le_trans this.dp (by omega), sz _ this⟩]
  · show (match pdL l with | some ds => _ | none => none) = _
    rw [pdL_toD, e]
    have := h.lst
    simp only
    rw [if_pos ⟨this.sh, Nat.le_trans this.dp (by omega), sz _ this⟩]
end VS
namespace VT
open PySem L2 VS
section
variable {ns : List Str}
mutual
theorem enc_data (hn : ∀ x ∈ ns, nm x) : ∀ t : T, t.ok ns → ∃ d, toD (enc t) = some d ∧ DOk d (3 * t.dp) t.w
  | .num i, h => ⟨_, by rw [enc]; simp only [toD, toDL]; rfl, (DOkL.cons (dep := 2) (.str (blk := 3) (by simp) (by simp)) (.cons (.int (blk := 0) h) (.nil (blk := 0)) (Nat.le_refl _)) (Nat.le_refl _)).tup.mono (by simp [T.dp]) (by simp [T.w])⟩
  | .nam x, h => ⟨_, by rw [enc]; simp only [toD, toDL]; rfl, (DOkL.cons (dep := 2) (.str (blk := 4) (by simp) (by simp)) (.cons (.str (blk := 16) (hn x h).1 (hn x h).2) (.nil (blk := 0)) (Nat.le_refl _)) (Nat.le_refl _)).tup.mono (by simp [T.dp]) (by simp [T.w])⟩
  | .op w x y, ⟨hw, hx, hy⟩ => ⟨_, by rw [enc]; simp only [toD, toDL]; rfl, (DOkL.cons (dep := 2) (.str (blk := 6) (ops_ok hw).1 (ops_ok hw).2.2.2.2.2.2.2.2) (.cons (.str (blk := 16) (hn x hx).1 (hn x hx).2) (.cons (.str (blk := 16) (hn y hy).1 (hn y hy).2) (.nil (blk := 0)) (Nat.le_refl _)) (Nat.le_refl _)) (Nat.le_refl _)).tup.mono (by simp [T.dp]) (by simp [T.w])⟩
  | .mk x ys, ⟨hx, hy, hl⟩ => ⟨_, by rw [enc]; simp only [toD, toDL, toDL_str, Option.map_some]; rfl, (DOkL.cons (dep := 2) (.str (blk := 4) (by simp) (by simp)) (.cons (.str (blk := 16) (hn x hx).1 (hn x hx).2) (.cons ((DOkL.strs (dep := 1) fun y h => hn y (hy y h)).tup) (.nil (blk := 0)) (Nat.le_refl _)) (Nat.le_refl _)) (Nat.le_refl _)).tup.mono (by simp [T.dp]) (by simp [T.w]; omega)⟩
  | .fn x t, ⟨hx, ht⟩ => by
    obtain ⟨d, e, hd⟩ := enc_data hn t ht
    exact ⟨_, by rw [enc]; simp only [toD, toDL, e]; rfl, (DOkL.cons (.str (blk := 3) (by simp) (by simp)) (.cons (.str (blk := 16) (hn x hx).1 (hn x hx).2) (.cons hd (.nil (blk := 0)) (Nat.le_refl _)) (Nat.le_refl _)) (Nat.le_refl _)).tup.mono (by simp [T.dp]; omega) (by simp [T.w]; omega)⟩
  | .lt w x a b, ⟨hw, hx, ha, hb⟩ => by
    obtain ⟨d, e, hd⟩ := enc_data hn a ha
    obtain ⟨d', e', hd'⟩ := enc_data hn b hb
    have hw' : PyData.strOk w = true ∧ w.length ≤ 6 := by rcases hw with rfl | rfl <;> simp
    exact ⟨_, by rw [enc]; simp only [toD, toDL, e, e']; rfl, (DOkL.cons (dep := 3 * max a.dp b.dp) (.str (blk := 6) hw'.1 hw'.2) (.cons (.str (blk := 16) (hn x hx).1 (hn x hx).2) (.cons (hd.mono (by omega) (Nat.le_refl _)) (.cons (hd'.mono (by omega) (Nat.le_refl _)) (.nil (blk := 0)) (Nat.le_refl _)) (Nat.le_refl _)) (Nat.le_refl _)) (Nat.le_refl _)).tup.mono (by simp [T.dp]; omega) (by simp [T.w]; omega)⟩
  | .la ps t, ⟨hp, ht, _⟩ => by
    obtain ⟨ds, e, hd⟩ := (encP_data hn ps hp).1
    obtain ⟨d', e', hd'⟩ := enc_data hn t ht
    exact ⟨_, by rw [enc]; simp only [toD, toDL, e, e', Option.map_some]; rfl, (DOkL.cons (dep := 3 * max ps.dp t.dp + 2) (.str (blk := 6) (by simp) (by simp)) (.cons (hd.tup.mono (by omega) (Nat.le_refl _)) (.cons (hd'.mono (by omega) (Nat.le_refl _)) (.nil (blk := 0)) (Nat.le_refl _)) (Nat.le_refl _)) (Nat.le_refl _)).tup.mono (by simp [T.dp]; omega) (by simp [T.w]; omega)⟩
  | .by_ x rs, ⟨hr, hx, _⟩ => by
    obtain ⟨ds, e, hd⟩ := (encP_data hn rs hr).2
    exact ⟨_, by rw [enc]; simp only [toD, toDL, e, Option.map_some]; rfl, (DOkL.cons (dep := 3 * rs.dp + 2) (.str (blk := 2) (by simp) (by simp)) (.cons (.str (blk := 16) (hn x hx).1 (hn x hx).2) (.cons (hd.tup.mono (by omega) (Nat.le_refl _)) (.nil (blk := 0)) (Nat.le_refl _)) (Nat.le_refl _)) (Nat.le_refl _)).tup.mono (by simp [T.dp]; omega) (by simp [T.w]; omega)⟩
theorem encP_data (hn : ∀ x ∈ ns, nm x) : ∀ r : R, r.ok ns → (∃ ds, toDL (encP r) = some ds ∧ DOkL ds (3 * r.dp + 1) r.w) ∧ (∃ ds, toDL (encR r) = some ds ∧ DOkL ds (3 * r.dp + 1) r.w)
  | .nil, _ => ⟨⟨[], by rw [encP, toDL], .nil⟩, ⟨[], by rw [encR, toDL], .nil⟩⟩
  | .cons x ys t r, ⟨hx, hy, hl, ht, hr⟩ => by
    obtain ⟨d, e, hd⟩ := enc_data hn t ht
    obtain ⟨⟨ds, e1, h1⟩, ⟨ds', e2, h2⟩⟩ := encP_data hn r hr
    have hdp := t.dp_pos
    refine ⟨⟨_, by rw [encP]; simp only [toD, toDL, e, e1, Option.map_some]; rfl, ?_⟩, ⟨_, by rw [encR]; simp only [toD, toDL, toDL_str, e, e2, Option.map_some]; rfl, ?_⟩⟩
    · refine DOkL.cons (b1 := 17 + (t.w + 1 + 0)) (b2 := r.w) ((DOkL.cons (dep := 3 * t.dp) (.str (blk := 16) (hn x hx).1 (hn x hx).2) (.cons hd (.nil (blk := 0)) (Nat.le_refl _)) (Nat.le_refl _)).tup.mono (by simp [R.dp]; omega) (by omega)) (h1.mono (by simp [R.dp]; omega) (Nat.le_refl _)) (by simp [R.w]; omega)
    · refine DOkL.cons (b1 := 17 + (17 * ys.length + 1 + (t.w + 1 + 0))) (b2 := r.w) ((DOkL.cons (dep := 3 * t.dp) (.str (blk := 16) (hn x hx).1 (hn x hx).2) (.cons ((DOkL.strs (dep := 1) fun y h => hn y (hy y h)).tup.mono (by omega) (Nat.le_refl _)) (.cons hd (.nil (blk := 0)) (Nat.le_refl _)) (Nat.le_refl _)) (Nat.le_refl _)).tup.mono (by simp [R.dp]; omega) (by omega)) (h2.mono (by simp [R.dp]; omega) (Nat.le_refl _)) (by have := hl.1; simp [R.w]; omega)
end
end
end VT

namespace VT
open PySem PySem.Spec PyProof.Rows L2 VS
def m_SIZES : List (Str × I) := [("num", .int 1), ("name", .int 1), ("fun", .int 2), ("call", .int 2), ("let", .int 3), ("now", .int 3), ("letall", .int 2), ("made", .int 2), ("by", .int 2), ("sum", .int 2), ("minus", .int 2), ("less", .int 2), ("same", .int 2)]
/-- is_name -/
noncomputable def b_is_name : SM := (sRet (eAnd (op1 (fIsi "str") (vl (eVar 0))) (eAnd (eCh fLe fLe (vl (cI (.int 1))) (vl (opN fLen (oCons (vl (eVar 0)) oNil))) (vl (cI (.int 8)))) (opN fAll (oCons (vl (eLc [1] (itV (eVar 0)) (.nm 1) bYes (op2 fIn (vl (eVar 1)) (vl (cI (.str "abcdefghijklmnopqrstuvwxyz")))))) oNil)))))
noncomputable def f_is_name : Fn := mkFn 2 1 [] b_is_name
/-- is_number -/
noncomputable def b_is_number : SM := (sRet (eAnd (op1 (fIsi "int") (vl (eVar 0))) (eAnd (eNot (op1 (fIsi "bool") (vl (eVar 0)))) (eCh fLe fLe (vl (op1 fNeg (vl (cI (.int 1000000000000000000))))) (vl (eVar 0)) (vl (cI (.int 1000000000000000000)))))))
noncomputable def f_is_number : Fn := mkFn 1 1 [] b_is_number
/-- is_worth_form -/
noncomputable def b_is_worth_form : SM := (sRet (eAnd (op1 (fIsi "tuple") (vl (eVar 0))) (eAnd (op2 fGt (vl (opN fLen (oCons (vl (eVar 0)) oNil))) (vl (cI (.int 0)))) (eAnd (op1 (fIsi "str") (vl (op2 fIx (vl (eVar 0)) (vl (cI (.int 0)))))) (op2 fIn (vl (op2 fIx (vl (eVar 0)) (vl (cI (.int 0))))) (vl (eTup (aCons (cI (.str "fun")) (aCons (cI (.str "made")) aNil)))))))))
noncomputable def f_is_worth_form : Fn := mkFn 1 1 [] b_is_worth_form
/-- are_names -/
noncomputable def b_are_names : SM := (sSeq (sIf (bOr (bNot (asB (op1 (fIsi "tuple") (vl (eVar 0))))) (bOr (asB (op2 fGt (vl (opN fLen (oCons (vl (eVar 0)) oNil))) (vl (cI (.int 3))))) (bNot (asB (opN fAll (oCons (vl (eLc [2] (itV (eVar 0)) (.nm 2) bYes (eFz (eCall 1 [] f_is_name [] (oCons (vl (eVar 2)) oNil))))) oNil))))))
    (sRet (cI (.bl false)))
    sNext)
    (sRet (eOr (eVar 1) (op2 fEq (vl (op1 fLenSet (vl (eVar 0)))) (vl (opN fLen (oCons (vl (eVar 0)) oNil)))))))
noncomputable def f_are_names : Fn := mkFn 3 2 [] b_are_names
/-- are_unlike -/
noncomputable def b_are_unlike : SM := (sSeq (sSet 2 (eLc [3] (itV (eVar 0)) (.nm 3) bYes (op2 fIx (vl (eVar 3)) (vl (cI (.int 0))))))
    (sSeq (sIf (bOr (bNot (asB (eCh fLe fLe (vl (eVar 1)) (vl (opN fLen (oCons (vl (eVar 0)) oNil))) (vl (cI (.int 6)))))) (bNot (asB (opN fAll (oCons (vl (eLc [4] (itV (eFv 2)) (.nm 4) bYes (eFz (eCall 1 [] f_is_name [] (oCons (vl (eVar 4)) oNil))))) oNil)))))
    (sRet (cI (.bl false)))
    sNext)
    (sRet (op2 fEq (vl (op1 fLenSet (bo 2))) (vl (opN fLen (oCons (bo 2) oNil)))))))
noncomputable def f_are_unlike : Fn := mkFn 5 2 [] b_are_unlike
/-- parts_letall -/
noncomputable def b_parts_letall : SM := (sSeq (sUnpS [1, 2] (eVar 0))
    (sSeq (sIf (bOr (bNot (asB (op1 (fIsi "tuple") (vl (eVar 1))))) (bNot (asB (opN fAll (oCons (vl (eLc [3] (itV (eVar 1)) (.nm 3) bYes (eAnd (op1 (fIsi "tuple") (vl (eVar 3))) (op2 fEq (vl (opN fLen (oCons (vl (eVar 3)) oNil))) (vl (cI (.int 2))))))) oNil)))))
    (sRet (cI .non))
    sNext)
    (sSeq (sIf (bOr (bNot (asB (eCall 2 [] f_are_unlike [] (oCons (vl (eVar 1)) (oCons (vl (cI (.int 1))) oNil))))) (bNot (asB (opN fAll (oCons (vl (eLc [3] (itV (eVar 1)) (.nm 3) bYes (eFz (eCall 1 [] f_is_worth_form [] (oCons (vl (op2 fIx (vl (eVar 3)) (vl (cI (.int 1))))) oNil))))) oNil)))))
    (sRet (cI .non))
    sNext)
    (sRet (op2 fAdd (vl (eLc [3] (itV (eVar 1)) (.nm 3) bYes (op2 fIx (vl (eVar 3)) (vl (cI (.int 1)))))) (vl (eLst (aCons (eVar 2) aNil))))))))
noncomputable def f_parts_letall : Fn := mkFn 4 1 [] b_parts_letall
/-- parts_by -/
noncomputable def b_parts_by : SM := (sSeq (sUnpS [1, 2] (eVar 0))
    (sSeq (sIf (bOr (bNot (asB (eCall 1 [] f_is_name [] (oCons (vl (eVar 1)) oNil)))) (bNot (asB (op1 (fIsi "tuple") (vl (eVar 2))))))
    (sRet (cI .non))
    sNext)
    (sSeq (sIf (bNot (asB (opN fAll (oCons (vl (eLc [3] (itV (eVar 2)) (.nm 3) bYes (eAnd (op1 (fIsi "tuple") (vl (eVar 3))) (eAnd (op2 fEq (vl (opN fLen (oCons (vl (eVar 3)) oNil))) (vl (cI (.int 3)))) (eCall 2 [] f_are_names [] (oCons (vl (op2 fIx (vl (eVar 3)) (vl (cI (.int 1))))) (oCons (vl (cI (.bl false))) oNil))))))) oNil))))
    (sRet (cI .non))
    sNext)
    (sRet (eIf (asB (eCall 2 [] f_are_unlike [] (oCons (vl (eVar 2)) (oCons (vl (cI (.int 1))) oNil)))) (eLc [3] (itV (eVar 2)) (.nm 3) bYes (op2 fIx (vl (eVar 3)) (vl (cI (.int 2))))) (cI .non))))))
noncomputable def f_parts_by : Fn := mkFn 4 1 [] b_parts_by
/-- parts_of -/
noncomputable def b_parts_of : SM := (sSeq (sIf (bOr (bNot (asB (op1 (fIsi "tuple") (vl (eVar 0))))) (bOr (asB (op2 fEq (vl (eVar 0)) (vl (eTup aNil)))) (bNot (asB (op1 (fIsi "str") (vl (op2 fIx (vl (eVar 0)) (vl (cI (.int 0))))))))))
    (sRet (cI .non))
    sNext)
    (sSeq (sStar 1 2 (eVar 0))
    (sSeq (sIf (asB (op2 fNe (vl (op2 (fKGet m_SIZES) (vl (eVar 1)) (vl (op1 fNeg (vl (cI (.int 1))))))) (vl (opN fLen (oCons (vl (eVar 2)) oNil)))))
    (sRet (cI .non))
    sNext)
    (sSeq (sIf (asB (op2 fEq (vl (eVar 1)) (vl (cI (.str "num")))))
    (sRet (eIf (asB (eCall 1 [] f_is_number [] (oCons (vl (op2 fIx (vl (eVar 2)) (vl (cI (.int 0))))) oNil))) (eLst aNil) (cI .non)))
    sNext)
    (sSeq (sIf (asB (op1 (fInK false l_NAMES_ALONE) (vl (eVar 1))))
    (sRet (eIf (asB (opN fAll (oCons (vl (eLc [3] (itV (eVar 2)) (.nm 3) bYes (eFz (eCall 1 [] f_is_name [] (oCons (vl (eVar 3)) oNil))))) oNil))) (eLst aNil) (cI .non)))
    sNext)
    (sSeq (sIf (asB (op2 fEq (vl (eVar 1)) (vl (cI (.str "made")))))
    (sRet (eIf (bAnd (asB (eCall 1 [] f_is_name [] (oCons (vl (op2 fIx (vl (eVar 2)) (vl (cI (.int 0))))) oNil))) (asB (eCall 2 [] f_are_names [] (oCons (vl (op2 fIx (vl (eVar 2)) (vl (cI (.int 1))))) (oCons (vl (cI (.bl true))) oNil))))) (eLst aNil) (cI .non)))
    sNext)
    (sSeq (sIf (asB (op2 fEq (vl (eVar 1)) (vl (cI (.str "letall")))))
    (sRet (eCall 1 [] f_parts_letall [] (oCons (vl (eVar 2)) oNil)))
    sNext)
    (sSeq (sIf (asB (op2 fEq (vl (eVar 1)) (vl (cI (.str "by")))))
    (sRet (eCall 1 [] f_parts_by [] (oCons (vl (eVar 2)) oNil)))
    sNext)
    (sRet (eIf (asB (eCall 1 [] f_is_name [] (oCons (vl (op2 fIx (vl (eVar 2)) (vl (cI (.int 0))))) oNil))) (opN fList (oCons (vl (eSl (vl (eVar 2)) (pAt (cI (.int 1))) pNo)) oNil)) (cI .non)))))))))))
noncomputable def f_parts_of : Fn := mkFn 4 1 [] b_parts_of
/-- is_term -/
noncomputable def b_is_term_1 : SM := (sSeq (sUnp [3, 4] (eFz (eLM lPop (rcS 2) aNil)))
    (sSeq (sAug 1 fAddI (cI (.int 1)))
    (sSeq (sSet 5 (eFz (eCall 1 [] f_parts_of [] (oCons (vl (eVar 3)) oNil))))
    (sSeq (sIf (bOr (asB (op2 fGt (vl (eVar 1)) (vl (cI (.int 300))))) (bOr (asB (op2 fGt (vl (eVar 4)) (vl (cI (.int 60))))) (asB (op2 fIs (vl (eVar 5)) (vl (cI .non))))))
    (sRet (cI (.bl false)))
    sNext)
    (sDrop (eLM lExtend (rcS 2) (aCons (eFz (eLc [6] (itV (eVar 5)) (.nm 6) bYes (eTup (aCons (eVar 6) (aCons (op2 fAdd (vl (eVar 4)) (vl (cI (.int 1)))) aNil))))) aNil)))))))
noncomputable def b_is_term : SM := (sSeq (sSet 1 (cI (.int 0)))
    (sSeq (sSet 2 (eLst (aCons (eTup (aCons (eVar 0) (aCons (cI (.int 1)) aNil))) aNil)))
    (sSeq (sWhile (asB (op2 fNe (bo 2) (vl (eLst aNil))))
    b_is_term_1)
    (sRet (cI (.bl true))))))
noncomputable def f_is_term : Fn := mkFn 7 1 [] b_is_term
end VT

namespace VT
open PySem L2 VS
/-! what is judged: things -/
mutual
/-- a thing: numbers, truths, texts, None, tuples and lists, few things beside one another -/
def Th (P : Str → Prop) : I → Prop
  | .non => True
  | .bl _ => True
  | .int _ => True
  | .str x => P x ∧ x.length ≤ sizeLine ∧ PyData.strOk x = true
  | .tup l => ThL P l ∧ l.length ≤ 3000
  | .lst l => ThL P l ∧ l.length ≤ 3000
  | .dct _ _ => False
  | .ref _ => False
  | .fn _ => False
def ThL (P : Str → Prop) : List I → Prop
  | [] => True
  | i :: l => Th P i ∧ ThL P l
end
theorem ThL_mem {P : Str → Prop} : ∀ {l : List I}, ThL P l ↔ ∀ i ∈ l, Th P i
  | [] => by simp [ThL]
  | i :: l => by rw [ThL, ThL_mem (l := l)]; simp
theorem Th.ty {P : Str → Prop} {i : I} (h : Th P i) : (tyI i).isSome = true := by cases i <;> first | rfl | exact h.elim
mutual
theorem Th.data {P : Str → Prop} : ∀ {i : I}, Th P i → ∃ d, toD i = some d ∧ d.canLay0 = true
  | .non, _ => ⟨_, rfl, rfl⟩
  | .bl _, _ => ⟨_, rfl, rfl⟩
  | .int _, _ => ⟨_, rfl, rfl⟩
  | .str x, h => ⟨_, rfl, by unfold Th at h; exact h.2.2⟩
  | .tup l, h => by
    unfold Th at h
    obtain ⟨ds, e, hd⟩ := ThL.data h.1
    exact ⟨.tuple ds, by rw [toD, e]; rfl, hd⟩
  | .lst l, h => by
    unfold Th at h
    obtain ⟨ds, e, hd⟩ := ThL.data h.1
    exact ⟨.list ds, by rw [toD, e]; rfl, hd⟩
  | .dct _ _, h => by unfold Th at h; exact h.elim
  | .ref _, h => by unfold Th at h; exact h.elim
  | .fn _, h => by unfold Th at h; exact h.elim
theorem ThL.data {P : Str → Prop} : ∀ {l : List I}, ThL P l → ∃ ds, toDL l = some ds ∧ PyData.canLayAll0 ds = true
  | [], _ => ⟨[], rfl, rfl⟩
  | i :: l, h => by
    unfold ThL at h
    obtain ⟨d, e, hd⟩ := Th.data h.1
    obtain ⟨ds, e', hd'⟩ := ThL.data h.2
    exact ⟨d :: ds, by rw [toDL, e, e'], by simp [PyData.canLayAll0, hd, hd']⟩
end
theorem eq_nilT {P : Str → Prop} {l : List I} (h : ThL P l) : fEq [.tup l, .tup []] = some (.im (.bl (decide (l = [])))) := by
  obtain ⟨ds, e, hd⟩ := h.data
  have hl : ds.length = l.length := by
    clear hd h
    induction l generalizing ds with
    | nil => cases e; rfl
    | cons i l ih =>
      rw [toDL] at e
      split at e
      · rename_i e2
        cases e
        simp [ih _ e2]
      · cases e
  unfold fEq fEqB
  simp only [toD, e, Option.map_some, toDL]
  have h1 : okD (.tuple ds) = true := hd
  have h2 : (PyData.tuple []).depth = 1 := rfl
  have h3 : okD (.tuple []) = true := rfl
  rw [if_pos (by rw [h1, h2, h3]; simp; omega)]
  cases l with
  | nil => cases ds with | nil => rfl | cons _ _ => simp at hl
  | cons i l => cases ds with | nil => simp at hl | cons _ _ => rfl
theorem ne_nilL {P : Str → Prop} {l : List I} (h : ThL P l) : fNe [.lst l, .lst []] = some (.im (.bl (!decide (l = [])))) := by
  obtain ⟨ds, e, hd⟩ := h.data
  have hl : ds.length = l.length := by
    clear hd h
    induction l generalizing ds with
    | nil => cases e; rfl
    | cons i l ih =>
      rw [toDL] at e
      split at e
      · rename_i e2
        cases e
        simp [ih _ e2]
      · cases e
  unfold fNe fEqB
  simp only [toD, e, Option.map_some, toDL]
  have h1 : okD (.list ds) = true := hd
  have h2 : (PyData.list []).depth = 1 := rfl
  have h3 : okD (.list []) = true := rfl
  rw [if_pos (by rw [h1, h2, h3]; simp; omega)]
  cases l with
  | nil => cases ds with | nil => rfl | cons _ _ => simp at hl
  | cons i l => cases ds with | nil => simp at hl | cons _ _ => rfl
/-! names, numbers -/
def isName : I → Bool
  | .str x => decide (1 ≤ x.length) && decide (x.length ≤ 8) && x.cps.toList.all fun c => decide (c ∈ LET.cps.toList)
  | _ => false
theorem isName_str {x : Str} : isName (.str x) = (decide (1 ≤ x.length) && decide (x.length ≤ 8) && x.cps.toList.all fun c => decide (c ∈ LET.cps.toList)) := rfl
def isLet (i : I) : Bool := (inOp [i, .str LET]).getD false
theorem isLet_one {c : Nat} : isLet (.str ⟨#[c]⟩) = decide (c ∈ LET.cps.toList) := rfl
theorem all_let {x : Str} : ((chars x).map isLet).all id = x.cps.toList.all fun c => decide (c ∈ LET.cps.toList) := by
  unfold chars
  rw [List.map_map, List.all_map]
  rfl
def isNumber : I → Bool
  | .int k => decide (-1000000000000000000 ≤ k) && decide (k ≤ 1000000000000000000)
  | _ => false
section
variable {P : Str → Prop} {sto : List O} {Q : O → List O → List O → Prop} {E : Nat → List I → List O → List O → Prop}
theorem isname_does {i : I} (hi : Th P i) (h : Q (.im (.bl (isName i))) [.hole] sto) : Does f_is_name [.im i] sto Q E := by
  unfold f_is_name
  rw [r_does]
  unfold b_is_name
  cases i with
  | str x =>
    unfold Th at hi
    have hx : x.length ≤ sizeLine := hi.2.1
    simp [isTy, hx]
    rcases (by omega : (x.length : Int) < 1 ∨ 1 ≤ (x.length : Int)) with h1 | h1
    · refine .inl ⟨h1, ?_⟩
      have : isName (.str x) = false := by
        rw [isName_str, decide_eq_false (by omega : ¬ 1 ≤ x.length)]; rfl
      rw [← this]; exact h
    refine .inr ⟨h1, ?_⟩
    rcases (by omega : 8 < (x.length : Int) ∨ (x.length : Int) ≤ 8) with h4 | h4
    · refine .inl ⟨h4, ?_⟩
      have : isName (.str x) = false := by
        rw [isName_str, decide_eq_false (by omega : ¬ x.length ≤ 8), Bool.and_false]; rfl
      rw [← this]; exact h
    refine .inr ⟨h4, lc_map (fun i => .im (.bl (isLet i))) rfl (by rw [chars_len]; exact hx) (fun i hi => ?_) ?_⟩
    · obtain ⟨c, hc, rfl⟩ := chars_mem hi
      simp [wip, isLet_one]
      exact (Classical.em _).symm
    · have e : (chars x).map (fun i => O.im (.bl (isLet i))) = ((chars x).map fun i => I.bl (isLet i)).map O.im := by simp
      rw [e]
      simp only [flo_l, flat_lst, allIm_map, Option.map_some, Option.some.injEq, exists_eq_left', s_all, bls_map]
      rw [all_let]
      rw [isName_str, decide_eq_true (by omega : 1 ≤ x.length), decide_eq_true (by omega : x.length ≤ 8)] at h
      exact h
  | tup l => simpa [isTy, isName] using h
  | lst l => simpa [isTy, isName] using h
  | non => simpa [isTy, isName] using h
  | bl b => simpa [isTy, isName] using h
  | int k => simpa [isTy, isName] using h
  | _ => exact hi.elim
theorem isnum_does {i : I} (hi : Th P i) (h : Q (.im (.bl (isNumber i))) [.hole] sto) : Does f_is_number [.im i] sto Q E := by
  unfold f_is_number
  rw [r_does]
  unfold b_is_number
  cases i with
  | int k =>
    simp [isTy]
    by_cases h1 : -1000000000000000000 ≤ k
    · refine .inr ⟨h1, ?_⟩
      have : isNumber (.int k) = decide (k ≤ 1000000000000000000) := by
        show (decide (-1000000000000000000 ≤ k) && _) = _
        rw [decide_eq_true h1]; rfl
      rw [this] at h
      exact h
    · refine .inl ⟨by omega, ?_⟩
      have : isNumber (.int k) = false := by
        show (decide (-1000000000000000000 ≤ k) && _) = _
        rw [decide_eq_false h1]; rfl
      rw [this] at h
      exact h
  | str x => simpa [isTy, isNumber] using h
  | tup l => simpa [isTy, isNumber] using h
  | lst l => simpa [isTy, isNumber] using h
  | non => simpa [isTy, isNumber] using h
  | bl b => simpa [isTy, isNumber] using h
  | _ => exact hi.elim
end
end VT

namespace VT
open PySem L2 VS
theorem met_eq : ∀ (ys l : List Str), (metS l ys).length = l.length + ys.length ↔ ys.Nodup ∧ ∀ y ∈ ys, y ∉ l
  | [], l => by simp [metS]
  | y :: ys, l => by
    unfold metS
    by_cases h : y ∈ l
    · rw [if_pos h]
      have := met_len ys l
      constructor
      · intro e; simp at e; omega
      · rintro ⟨_, q⟩; exact absurd h (q y List.mem_cons_self)
    · rw [if_neg h]
      have ih := met_eq ys (y :: l)
      simp only [List.length_cons] at ih ⊢
      rw [show l.length + (ys.length + 1) = l.length + 1 + ys.length by omega, ih, List.nodup_cons]
      simp only [List.mem_cons, not_or, forall_eq_or_imp]
      constructor
      · rintro ⟨a, b⟩
        exact ⟨⟨fun q => (b y q).1 rfl, a⟩, h, fun z hz => (b z hz).2⟩
      · rintro ⟨⟨a, b⟩, _, d⟩
        exact ⟨b, fun z hz => ⟨fun e => a (e ▸ hz), d z hz⟩⟩
theorem met_nodup (ys : List Str) : (metS [] ys).length = ys.length ↔ ys.Nodup := by
  have := met_eq ys []
  simpa using this
theorem strsOf_strI : ∀ l : List Str, strsOf (strI l) = some l
  | [] => rfl
  | y :: l => by show (strsOf (strI l)).map (y :: ·) = _; rw [strsOf_strI l]; rfl
theorem names_str : ∀ {l : List I}, l.all isName = true → ∃ ys, l = strI ys
  | [], _ => ⟨[], rfl⟩
  | i :: l, h => by
    rw [List.all_cons, Bool.and_eq_true_iff] at h
    obtain ⟨ys, rfl⟩ := names_str h.2
    cases i with
    | str x => exact ⟨x :: ys, rfl⟩
    | _ => cases h.1
/-- texts, each once -/
def unlike (l : List I) : Bool := match strsOf l with
  | some ys => decide ys.Nodup
  | none => false
theorem unlike_strI (ys : List Str) : unlike (strI ys) = decide ys.Nodup := by
  unfold unlike; rw [strsOf_strI]
def areNames (al : Bool) : I → Bool
  | .tup l => decide (l.length ≤ 3) && l.all isName && (al || unlike l)
  | _ => false
def firstI : I → I
  | .tup (a :: _) => a
  | _ => .non
def areUnlike (least : Int) (l : List I) : Bool := decide (least ≤ l.length) && decide (l.length ≤ 6) && (l.map firstI).all isName && unlike (l.map firstI)
def isWorthForm : I → Bool
  | .tup (.str w :: _) => decide (w = "fun" ∨ w = "made")
  | _ => false
def isTup (n : Nat) : I → Bool
  | .tup l => decide (l.length = n)
  | _ => false
def nthI (k : Nat) : I → I
  | .tup l => l.getD k .non
  | _ => .non
def partsLetall : I → I → Option (List I)
  | .tup l, below => if l.all (isTup 2) && areUnlike 1 l && l.all (fun p => isWorthForm (nthI 1 p)) then some (l.map (nthI 1) ++ [below]) else none
  | _, _ => none
def isRow (i : I) : Bool := isTup 3 i && areNames false (nthI 1 i)
def partsBy : I → I → Option (List I)
  | name, .tup l => if isName name && l.all isRow && areUnlike 1 l then some (l.map (nthI 2)) else none
  | _, _ => none
def resP : Option (List I) → O
  | none => .im .non
  | some ps => .lst (ps.map .im)
section
variable {P : Str → Prop} {sto : List O} {Q : O → List O → List O → Prop} {E : Nat → List I → List O → List O → Prop}
/-- a list of truths, told of things -/
theorem all_bls {l : List I} {f : I → Bool} : fAll [.lst (l.map fun i => .bl (f i))] = some (.im (.bl (l.all f))) := by
  rw [s_all, bls_map]
  simp [List.all_map, Function.comp_def]
theorem arenames_does {i : I} {al : Bool} (hi : Th P i) (h : Q (.im (.bl (areNames al i))) [.hole, .hole] sto) : Does f_are_names [.im i, .im (.bl al)] sto Q E := by
  unfold f_are_names
  rw [r_does]
  unfold b_are_names
  cases i with
  | tup l =>
    unfold Th at hi
    have hm := ThL_mem.mp hi.1
    rw [r_sSeq]; simp [isTy]
    by_cases h3 : 3 < (l.length : Int)
    · have h4 : ¬ (l.length : Int) ≤ 3 := by omega
      simp [h3, h4]
      have : areNames al (.tup l) = false := by
        show (decide (l.length ≤ 3) && _ && _) = false
        rw [decide_eq_false (by omega)]; rfl
      rw [this] at h; exact h
    · have h4 : (l.length : Int) ≤ 3 := by omega
      simp only [h3, h4, true_and, false_and, or_false]
      refine lc_map (fun i => .im (.bl (isName i))) rfl (by rw [sizeLine_eq]; omega) (fun i hi => ?_) ?_
      · simp [wip]
        refine isname_does (hm i hi) ?_
        simp
      have e : l.map (fun i => O.im (.bl (isName i))) = (l.map fun i => I.bl (isName i)).map O.im := by simp
      rw [e]
      simp only [flo_l, flat_lst, allIm_map, Option.map_some, Option.some.injEq, exists_eq_left', all_bls]
      have hA : areNames al (.tup l) = (l.all isName && (al || unlike l)) := by
        show (decide (l.length ≤ 3) && _ && _) = _
        rw [decide_eq_true (by omega)]; simp
      rw [hA] at h
      by_cases hn : l.all isName = true
      · obtain ⟨ys, rfl⟩ := names_str hn
        rw [hn] at h
        simp only [hn]
        rw [unlike_strI] at h
        simp at h4
        have hl : fLenSet [.tup (strI ys)] = some (.im (.int ((metS [] ys).length : Nat))) := by
          show (match strsOf (strI ys) with | some ys => if ys.length < 4000 then some (O.im (.int ((metS [] ys).length : Nat))) else none | none => none) = _
          rw [strsOf_strI]; simp; omega
        cases al with
        | true => simpa using h
        | false =>
          simp [hl]
          have hd := met_nodup ys
          have : (decide (((metS [] ys).length : Int) = ys.length)) = decide ys.Nodup := by
            by_cases q : ys.Nodup
            · rw [decide_eq_true q]; exact decide_eq_true (by have := hd.mpr q; omega)
            · rw [decide_eq_false q]; exact decide_eq_false (fun z => q (hd.mp (by omega)))
          rw [this]
          simpa using h
      · have hn : l.all isName = false := by simpa using hn
        rw [hn] at h
        simp [hn]
        simpa using h
  | str x => rw [r_sSeq]; simpa [isTy, areNames] using h
  | lst l => rw [r_sSeq]; simpa [isTy, areNames] using h
  | non => rw [r_sSeq]; simpa [isTy, areNames] using h
  | bl b => rw [r_sSeq]; simpa [isTy, areNames] using h
  | int k => rw [r_sSeq]; simpa [isTy, areNames] using h
  | _ => exact hi.elim
theorem areunlike_does {l : List I} {least : Int} (hi : ThL P l) (hz : l.length ≤ 3000) (ht : ∀ i ∈ l, ∃ a r, i = .tup (a :: r)) (h : Q (.im (.bl (areUnlike least l))) [.hole, .hole] sto) : Does f_are_unlike [.im (.tup l), .im (.int least)] sto Q E := by
  unfold f_are_unlike
  rw [r_does]
  unfold b_are_unlike
  have hm := ThL_mem.mp hi
  have hf : ∀ j ∈ l.map firstI, Th P j := fun j hj => by
    obtain ⟨i, hi', rfl⟩ := List.mem_map.mp hj
    obtain ⟨a, r, rfl⟩ := ht i hi'
    have := hm _ hi'
    unfold Th at this
    exact (ThL_mem.mp this.1) a List.mem_cons_self
  rw [r_sSeq]; simp
  refine lc_map (fun i => .im (firstI i)) rfl (by rw [sizeLine_eq]; omega) (fun i hi => ?_) ?_
  · obtain ⟨a, r, rfl⟩ := ht i hi
    simp [wip, at_0, firstI]
  simp
  have e0 : l.map (fun i => O.im (firstI i)) = (l.map firstI).map O.im := by simp
  rw [e0]
  generalize hfs : l.map firstI = fs at hf
  have hl : fs.length = l.length := by rw [← hfs]; simp
  have hA : areUnlike least l = (decide (least ≤ l.length) && decide (l.length ≤ 6) && fs.all isName && unlike fs) := by unfold areUnlike; rw [hfs]
  rw [hA] at h
  rw [r_sSeq]; simp
  by_cases h1 : least ≤ (l.length : Int)
  · have h1' : ¬ (l.length : Int) < least := by omega
    simp only [h1, h1', true_and, false_and, or_false]
    by_cases h2 : (l.length : Int) ≤ 6
    · have h2' : ¬ 6 < (l.length : Int) := by omega
      have h2n : l.length ≤ 6 := by omega
      simp only [h2, h2', true_and, false_and, or_false]
      rw [decide_eq_true h1, decide_eq_true h2n] at h
      simp
      refine lc_map (fun i => .im (.bl (isName i))) rfl (by rw [sizeLine_eq]; omega) (fun i hi => ?_) ?_
      · simp [wip]
        refine isname_does (hf i hi) ?_
        simp
      have e : fs.map (fun i => O.im (.bl (isName i))) = (fs.map fun i => I.bl (isName i)).map O.im := by simp
      rw [e]
      simp only [flo_l, flat_lst, allIm_map, Option.map_some, Option.some.injEq, exists_eq_left', all_bls]
      by_cases hn : fs.all isName = true
      · obtain ⟨ys, rfl⟩ := names_str hn
        rw [hn] at h
        simp only [hn]
        rw [unlike_strI] at h
        have hl' : ys.length = l.length := by simpa using hl
        have hls : fLenSet [.lst (strI ys)] = some (.im (.int ((metS [] ys).length : Nat))) := by
          show (match strsOf (strI ys) with | some ys => if ys.length < 4000 then some (O.im (.int ((metS [] ys).length : Nat))) else none | none => none) = _
          rw [strsOf_strI]; simp; omega
        simp [hls]
        have hd := met_nodup ys
        have : (decide (((metS [] ys).length : Int) = ys.length)) = decide ys.Nodup := by
          by_cases q : ys.Nodup
          · rw [decide_eq_true q]; exact decide_eq_true (by have := hd.mpr q; omega)
          · rw [decide_eq_false q]; exact decide_eq_false (fun z => q (hd.mp (by omega)))
        rw [this]
        simpa using h
      · have hn : fs.all isName = false := by simpa using hn
        rw [hn] at h
        simp [hn]
        simpa using h
    · have h2' : 6 < (l.length : Int) := by omega
      have h2n : ¬ l.length ≤ 6 := by omega
      rw [decide_eq_true h1, decide_eq_false h2n] at h
      simp [h2, h2']
      simpa using h
  · have h1' : (l.length : Int) < least := by omega
    rw [decide_eq_false h1] at h
    simp [h1, h1']
    simpa using h
theorem worth_does {i : I} (hi : Th P i) (h : Q (.im (.bl (isWorthForm i))) [.hole] sto) : Does f_is_worth_form [.im i] sto Q E := by
  unfold f_is_worth_form
  rw [r_does]
  unfold b_is_worth_form
  cases i with
  | tup l =>
    cases l with
    | nil => simpa [isTy, isWorthForm] using h
    | cons a r =>
      unfold Th at hi
      have ha := ThL_mem.mp hi.1 a List.mem_cons_self
      have hp : (0 : Int) < (r.length : Int) + 1 := by omega
      have hp' : ¬ ((r.length : Int) + 1 ≤ 0) := by omega
      cases a with
      | str w =>
        simp [isTy, at_0, hp, hp']
        by_cases hw : w = Str.ofString "fun" ∨ w = Str.ofString "made"
        · refine ⟨_, .inr ⟨hw, rfl⟩, ?_⟩
          have : isWorthForm (.tup (.str w :: r)) = true := decide_eq_true hw
          rw [this] at h
          exact h
        · refine ⟨_, .inl ⟨not_or.mp hw, rfl⟩, ?_⟩
          have : isWorthForm (.tup (.str w :: r)) = false := decide_eq_false hw
          rw [this] at h
          exact h
      | tup _ => simpa [isTy, isWorthForm, at_0, hp, hp'] using h
      | lst _ => simpa [isTy, isWorthForm, at_0, hp, hp'] using h
      | non => simpa [isTy, isWorthForm, at_0, hp, hp'] using h
      | bl _ => simpa [isTy, isWorthForm, at_0, hp, hp'] using h
      | int _ => simpa [isTy, isWorthForm, at_0, hp, hp'] using h
      | _ => exact ha.elim
  | str x => simpa [isTy, isWorthForm] using h
  | lst l => simpa [isTy, isWorthForm] using h
  | non => simpa [isTy, isWorthForm] using h
  | bl b => simpa [isTy, isWorthForm] using h
  | int k => simpa [isTy, isWorthForm] using h
  | _ => exact hi.elim
end
end VT

namespace VT
open PySem L2 VS
theorem all_isTup {n : Nat} {l : List I} (h : l.all (isTup n) = true) : ∀ i ∈ l, ∃ r, i = .tup r ∧ r.length = n := by
  intro i hi
  have := List.all_eq_true.mp h i hi
  cases i with
  | tup r => exact ⟨r, rfl, of_decide_eq_true this⟩
  | _ => cases this
theorem tup2 {r : List I} (h : r.length = 2) : ∃ a b, r = [a, b] := by
  match r, h with
  | [a, b], _ => exact ⟨a, b, rfl⟩
theorem tup3 {r : List I} (h : r.length = 3) : ∃ a b c, r = [a, b, c] := by
  match r, h with
  | [a, b, c], _ => exact ⟨a, b, c, rfl⟩
section
variable {P : Str → Prop} {sto : List O} {Q : O → List O → List O → Prop} {E : Nat → List I → List O → List O → Prop}
theorem letall_does {pairs below : I} (hp : Th P pairs) (hb : Th P below) (h : Q (resP (partsLetall pairs below)) [.hole] sto) : Does f_parts_letall [.im (.lst [pairs, below])] sto Q E := by
  unfold f_parts_letall
  rw [r_does]
  unfold b_parts_letall
  rw [r_sSeq]; simp
  cases pairs with
  | tup l =>
    unfold Th at hp
    have hm := ThL_mem.mp hp.1
    have hz : l.length ≤ sizeLine := by rw [sizeLine_eq]; have := hp.2; omega
    rw [r_sSeq]; simp [isTy]
    refine lc_map (fun i => .im (.bl (isTup 2 i))) rfl hz (fun i hi => ?_) ?_
    · have := hm i hi
      cases i with
      | tup r =>
        simp [wip, isTy, isTup]
        by_cases hr : r.length = 2
        · simp [hr]
        · have : ¬ ((r.length : Int) = 2) := by omega
          simp [hr, this]
      | str x => simp [wip, isTy, isTup]
      | lst l => simp [wip, isTy, isTup]
      | non => simp [wip, isTy, isTup]
      | bl b => simp [wip, isTy, isTup]
      | int k => simp [wip, isTy, isTup]
      | _ => exact this.elim
    have e : l.map (fun i => O.im (.bl (isTup 2 i))) = (l.map fun i => I.bl (isTup 2 i)).map O.im := by simp
    rw [e]
    simp only [flo_l, flat_lst, allIm_map, Option.map_some, Option.some.injEq, exists_eq_left', all_bls]
    have hA : partsLetall (.tup l) below = if l.all (isTup 2) && areUnlike 1 l && l.all (fun p => isWorthForm (nthI 1 p)) then some (l.map (nthI 1) ++ [below]) else none := rfl
    rw [hA] at h
    by_cases h2 : l.all (isTup 2) = true
    · rw [h2] at h
      simp [h2]
      have ht := all_isTup h2
      rw [r_sSeq]; simp
      refine areunlike_does hp.1 hp.2 (fun i hi => ?_) ?_
      · obtain ⟨r, rfl, hr⟩ := ht i hi
        obtain ⟨a, b, rfl⟩ := tup2 hr
        exact ⟨a, [b], rfl⟩
      simp
      by_cases h3 : areUnlike 1 l = true
      · rw [h3] at h
        simp [h3]
        refine lc_map (fun i => .im (.bl (isWorthForm (nthI 1 i)))) rfl hz (fun i hi => ?_) ?_
        · obtain ⟨r, rfl, hr⟩ := ht i hi
          obtain ⟨a, b, rfl⟩ := tup2 hr
          have := hm _ hi
          unfold Th at this
          have hb' : Th P b := (ThL_mem.mp this.1) b (by simp)
          simp [wip, at_1]
          refine worth_does hb' ?_
          simp [nthI]
        have e : l.map (fun i => O.im (.bl (isWorthForm (nthI 1 i)))) = (l.map fun i => I.bl (isWorthForm (nthI 1 i))).map O.im := by simp
        rw [e]
        simp only [flo_l, flat_lst, allIm_map, Option.map_some, Option.some.injEq, exists_eq_left', all_bls (f := fun i => isWorthForm (nthI 1 i))]
        by_cases h4 : l.all (fun i => isWorthForm (nthI 1 i)) = true
        · rw [h4] at h
          simp [h4]
          refine lc_map (fun i => .im (nthI 1 i)) rfl hz (fun i hi => ?_) ?_
          · obtain ⟨r, rfl, hr⟩ := ht i hi
            obtain ⟨a, b, rfl⟩ := tup2 hr
            simp [wip, at_1, nthI]
          have e : l.map (fun i => O.im (nthI 1 i)) = (l.map (nthI 1)).map O.im := by simp
          rw [e]
          simp
          have := hp.2
          simp [resP] at h
          refine ⟨by rw [sizeLine_eq]; omega, by rw [sizeLine_eq]; omega, h⟩
        · have h4 : l.all (fun i => isWorthForm (nthI 1 i)) = false := by simpa using h4
          rw [h4] at h
          simp [h4]
          simpa [resP] using h
      · have h3 : areUnlike 1 l = false := by simpa using h3
        rw [h3] at h
        simp [h3]
        simpa [resP] using h
    · have h2 : l.all (isTup 2) = false := by simpa using h2
      rw [h2] at h
      simp [h2]
      simpa [resP] using h
  | str x => rw [r_sSeq]; simpa [isTy, partsLetall, resP] using h
  | lst l => rw [r_sSeq]; simpa [isTy, partsLetall, resP] using h
  | non => rw [r_sSeq]; simpa [isTy, partsLetall, resP] using h
  | bl b => rw [r_sSeq]; simpa [isTy, partsLetall, resP] using h
  | int k => rw [r_sSeq]; simpa [isTy, partsLetall, resP] using h
  | _ => exact hp.elim
theorem by_does {name br : I} (hp : Th P name) (hb : Th P br) (h : Q (resP (partsBy name br)) [.hole] sto) : Does f_parts_by [.im (.lst [name, br])] sto Q E := by
  unfold f_parts_by
  rw [r_does]
  unfold b_parts_by
  rw [r_sSeq]; simp
  rw [r_sSeq]; simp
  refine isname_does hp ?_
  simp
  by_cases hn : isName name = true
  · simp [hn]
    cases br with
    | tup l =>
      unfold Th at hb
      have hm := ThL_mem.mp hb.1
      have hz : l.length ≤ sizeLine := by rw [sizeLine_eq]; have := hb.2; omega
      simp [isTy]
      rw [r_sSeq]; simp
      refine lc_map (fun i => .im (.bl (isRow i))) rfl hz (fun i hi => ?_) ?_
      · have := hm i hi
        cases i with
        | tup r =>
          unfold Th at this
          simp [wip, isTy]
          by_cases hr : r.length = 3
          · obtain ⟨a, b, c, rfl⟩ := tup3 hr
            simp [at_1]
            refine arenames_does ((ThL_mem.mp this.1) b (by simp)) ?_
            simp [isRow, isTup, nthI]
          · have : ¬ ((r.length : Int) = 3) := by omega
            simp [hr, this, isRow, isTup]
        | str x => simp [wip, isTy, isTup, isRow]
        | lst l => simp [wip, isTy, isTup, isRow]
        | non => simp [wip, isTy, isTup, isRow]
        | bl b => simp [wip, isTy, isTup, isRow]
        | int k => simp [wip, isTy, isTup, isRow]
        | _ => exact this.elim
      have e : l.map (fun i => O.im (.bl (isRow i))) = (l.map fun i => I.bl (isRow i)).map O.im := by simp
      rw [e]
      simp only [flo_l, flat_lst, allIm_map, Option.map_some, Option.some.injEq, exists_eq_left', all_bls]
      have hA : partsBy name (.tup l) = if isName name && l.all isRow && areUnlike 1 l then some (l.map (nthI 2)) else none := rfl
      rw [hA, hn] at h
      by_cases h2 : l.all isRow = true
      · rw [h2] at h
        simp [h2]
        have ht : ∀ i ∈ l, ∃ a b c, i = .tup [a, b, c] := fun i hi => by
          have q := List.all_eq_true.mp h2 i hi
          unfold isRow at q
          have q := (Bool.and_eq_true_iff.mp q).1
          cases i with
          | tup r =>
            obtain ⟨a, b, c, rfl⟩ := tup3 (of_decide_eq_true q)
            exact ⟨a, b, c, rfl⟩
          | _ => cases q
        refine areunlike_does hb.1 hb.2 (fun i hi => ?_) ?_
        · obtain ⟨a, b, c, rfl⟩ := ht i hi
          exact ⟨a, [b, c], rfl⟩
        simp
        by_cases h3 : areUnlike 1 l = true
        · rw [h3] at h
          simp [h3]
          refine lc_map (fun i => .im (nthI 2 i)) rfl hz (fun i hi => ?_) ?_
          · obtain ⟨a, b, c, rfl⟩ := ht i hi
            simp [wip, at_2, nthI]
          have e : l.map (fun i => O.im (nthI 2 i)) = (l.map (nthI 2)).map O.im := by simp
          rw [e]
          simpa [resP] using h
        · have h3 : areUnlike 1 l = false := by simpa using h3
          rw [h3] at h
          simp [h3]
          simpa [resP] using h
      · have h2 : l.all isRow = false := by simpa using h2
        rw [h2] at h
        simp [h2]
        simpa [resP] using h
    | str x => simpa [isTy, partsBy, resP] using h
    | lst l => simpa [isTy, partsBy, resP] using h
    | non => simpa [isTy, partsBy, resP] using h
    | bl b => simpa [isTy, partsBy, resP] using h
    | int k => simpa [isTy, partsBy, resP] using h
    | _ => exact hb.elim
  · have hn : isName name = false := by simpa using hn
    have : partsBy name br = none := by unfold partsBy; cases br <;> simp [hn]
    rw [this] at h
    simp [hn]
    simpa [resP] using h
end
end VT

namespace VT
open PySem L2 VS
/-- how many parts a word has -/
def sz (w : Str) : Int := match lookS m_SIZES w with
  | some (.int k) => k
  | _ => -1
theorem look_int (P : Int → Prop) : ∀ {kvs : List (Str × I)} (w : Str), (∀ q ∈ kvs, ∃ k, q.2 = .int k ∧ P k) → lookS kvs w = none ∨ ∃ k, lookS kvs w = some (.int k) ∧ P k
  | [], w, _ => .inl rfl
  | (x, i) :: r, w, h => by
    unfold lookS
    rw [List.find?_cons]
    cases hx : x == w with
    | true =>
      obtain ⟨k, e, hp⟩ := h (x, i) List.mem_cons_self
      exact .inr ⟨k, by simp only [hx]; simp only [Option.map_some]; exact congrArg some e, hp⟩
    | false =>
      simp only [hx]
      exact look_int P (kvs := r) w fun q hq => h q (List.mem_cons_of_mem _ hq)
theorem sizes_int : ∀ q ∈ m_SIZES, ∃ k, q.2 = I.int k ∧ 1 ≤ k := by
  intro q hq
  unfold m_SIZES at hq
  simp only [List.mem_cons, List.not_mem_nil, or_false] at hq
  rcases hq with rfl | rfl | rfl | rfl | rfl | rfl | rfl | rfl | rfl | rfl | rfl | rfl | rfl <;> exact ⟨_, rfl, by decide⟩
theorem kget_sz (w : Str) : fKGet m_SIZES [.str w, .int (-1)] = some (.im (.int (sz w))) := by
  show some (O.im ((lookS m_SIZES w).getD (.int (-1)))) = _
  unfold sz
  rcases look_int (1 ≤ ·) w sizes_int with h | ⟨k, h, _⟩ <;> rw [h] <;> rfl
theorem sz_pos (w : Str) : sz w = -1 ∨ 1 ≤ sz w := by
  unfold sz
  rcases look_int (1 ≤ ·) w sizes_int with h | ⟨k, h, hp⟩ <;> rw [h]
  · exact .inl rfl
  · exact .inr hp
def aloneS : List Str := ["name", "call", "sum", "minus", "less", "same"]
theorem alone_eq : l_NAMES_ALONE = strI aloneS := rfl
/-- what lies right in a thing of word w -/
def partsW (w : Str) (ps : List I) : Option (List I) :=
  if sz w ≠ ps.length then none else
  if w = "num" then (if isNumber (ps.getD 0 .non) then some [] else none) else
  if w ∈ aloneS then (if ps.all isName then some [] else none) else
  if w = "made" then (if isName (ps.getD 0 .non) && areNames true (ps.getD 1 .non) then some [] else none) else
  if w = "letall" then partsLetall (ps.getD 0 .non) (ps.getD 1 .non) else
  if w = "by" then partsBy (ps.getD 0 .non) (ps.getD 1 .non) else
  if isName (ps.getD 0 .non) then some (ps.drop 1) else none
def partsOf : I → Option (List I)
  | .tup (.str w :: ps) => partsW w ps
  | _ => none
theorem two_of {ps : List I} (h : (2 : Int) = ps.length) : ∃ a b, ps = [a, b] := tup2 (by omega)
theorem one_of {ps : List I} (h : (1 : Int) = ps.length) : ∃ a, ps = [a] := by
  match ps, h with
  | [a], _ => exact ⟨a, rfl⟩
  | [], h => simp at h
  | _ :: _ :: _, h => simp at h; omega
section
variable {P : Str → Prop} {sto : List O} {Q : O → List O → List O → Prop} {E : Nat → List I → List O → List O → Prop}
theorem cut_tail (x : I) (r : List I) : fSl (some 1) none [.lst (x :: r)] = some (.lst (r.map .im)) := by
  show some (O.lst ((cutI (x :: r) (some 1) none).map .im)) = _
  have : cutI (x :: r) (some 1) none = r := by
    unfold cutI HT.sIx
    have : min (1 : Int).toNat (r.length + 1) = 1 := by simp
    simp [this]
  rw [this]
theorem partsof_does {i : I} (hi : Th P i) (h : Q (resP (partsOf i)) [.hole] sto) : Does f_parts_of [.im i] sto Q E := by
  unfold f_parts_of
  rw [r_does]
  unfold b_parts_of
  cases i with
  | tup l =>
    unfold Th at hi
    have hm := ThL_mem.mp hi.1
    rw [r_sSeq]; simp [isTy]
    rw [eq_nilT hi.1]
    cases l with
    | nil =>
      simp
      simpa [partsOf, resP] using h
    | cons a ps =>
      have ha := hm a List.mem_cons_self
      simp
      cases a with
      | str w =>
        simp [at_0]
        rw [r_sSeq]; simp
        rw [r_sSeq]; simp [kget_sz]
        have hP : partsOf (.tup (.str w :: ps)) = partsW w ps := rfl
        rw [hP] at h
        have hps : ∀ j ∈ ps, Th P j := fun j hj => hm j (List.mem_cons_of_mem _ hj)
        by_cases hs : sz w = ps.length
        · have hs' : ¬ sz w ≠ ps.length := fun z => z hs
          unfold partsW at h
          rw [if_neg hs'] at h
          simp [hs]
          rw [r_sSeq]; simp
          by_cases w1 : w = "num"
          · rw [if_pos w1] at h
            have : sz w = 1 := by rw [w1]; decide +kernel
            obtain ⟨x, rfl⟩ := one_of (ps := ps) (by rw [← hs, this])
            simp [w1, at_0]
            refine isnum_does (hps x (by simp)) ?_
            simp
            cases hx : isNumber x
            · simp [hx, resP] at h; simp [hx]; exact h
            · simp [hx, resP] at h; simp [hx, sizeLine_eq]; exact h
          rw [if_neg w1] at h
          simp [w1]
          rw [r_sSeq]; simp [alone_eq]
          by_cases w2 : w ∈ aloneS
          · rw [if_pos w2] at h
            simp [w2]
            refine lc_map (fun i => .im (.bl (isName i))) rfl (by rw [sizeLine_eq]; have := hi.2; simp at this; omega) (fun i hi => ?_) ?_
            · simp [wip]
              refine isname_does (hps i hi) ?_
              simp
            have e : ps.map (fun i => O.im (.bl (isName i))) = (ps.map fun i => I.bl (isName i)).map O.im := by simp
            rw [e]
            simp only [flo_l, flat_lst, allIm_map, Option.map_some, Option.some.injEq, exists_eq_left', all_bls]
            cases hx : ps.all isName
            · simp [hx, resP] at h; simp [hx]; exact h
            · simp [hx, resP] at h; simp [hx, sizeLine_eq]; exact h
          rw [if_neg w2] at h
          simp [w2]
          rw [r_sSeq]; simp
          by_cases w3 : w = "made"
          · rw [if_pos w3] at h
            have : sz w = 2 := by rw [w3]; decide +kernel
            obtain ⟨x, y, rfl⟩ := two_of (ps := ps) (by rw [← hs, this])
            simp [w3, at_0, at_1]
            refine isname_does (hps x (by simp)) ?_
            simp
            cases hx : isName x
            · simp [hx, resP] at h; simp [hx]; exact h
            · simp [hx, at_1]
              refine arenames_does (hps y (by simp)) ?_
              simp
              cases hy : areNames true y
              · simp [hx, hy, resP] at h; simp [hy]; exact h
              · simp [hx, hy, resP] at h; simp [hy, sizeLine_eq]; exact h
          rw [if_neg w3] at h
          simp [w3]
          rw [r_sSeq]; simp
          by_cases w4 : w = "letall"
          · rw [if_pos w4] at h
            have : sz w = 2 := by rw [w4]; decide +kernel
            obtain ⟨x, y, rfl⟩ := two_of (ps := ps) (by rw [← hs, this])
            simp [w4]
            refine letall_does (hps x (by simp)) (hps y (by simp)) ?_
            simpa using h
          rw [if_neg w4] at h
          simp [w4]
          rw [r_sSeq]; simp
          by_cases w5 : w = "by"
          · rw [if_pos w5] at h
            have : sz w = 2 := by rw [w5]; decide +kernel
            obtain ⟨x, y, rfl⟩ := two_of (ps := ps) (by rw [← hs, this])
            simp [w5]
            refine by_does (hps x (by simp)) (hps y (by simp)) ?_
            simpa using h
          rw [if_neg w5] at h
          simp [w5]
          cases ps with
          | nil =>
            rcases sz_pos w with q | q
            · simp [q] at hs
            · simp at hs; omega
          | cons x r =>
            simp [at_0, cut_tail]
            refine isname_does (hps x (by simp)) ?_
            simp
            cases hx : isName x
            · simp [hx, resP] at h; simp [hx]; exact h
            · simp [hx, resP] at h; simp [hx, cut_tail]; exact h
        · unfold partsW at h
          rw [if_pos hs] at h
          simp [hs]
          simpa [resP] using h
      | tup _ => simpa [isTy, at_0, partsOf, resP] using h
      | lst _ => simpa [isTy, at_0, partsOf, resP] using h
      | non => simpa [isTy, at_0, partsOf, resP] using h
      | bl _ => simpa [isTy, at_0, partsOf, resP] using h
      | int _ => simpa [isTy, at_0, partsOf, resP] using h
      | _ => exact ha.elim
  | str x => rw [r_sSeq]; simpa [isTy, partsOf, resP] using h
  | lst l => rw [r_sSeq]; simpa [isTy, partsOf, resP] using h
  | non => rw [r_sSeq]; simpa [isTy, partsOf, resP] using h
  | bl b => rw [r_sSeq]; simpa [isTy, partsOf, resP] using h
  | int k => rw [r_sSeq]; simpa [isTy, partsOf, resP] using h
  | _ => exact hi.elim
end
end VT

namespace VT
open PySem L2 VS
/-- is_term's walk: what is left (the top first), so many were seen -/
def walkT : Nat → List (I × Nat) → Nat → Bool
  | 0, _, _ => true
  | _ + 1, [], _ => true
  | f + 1, (i, d) :: rest, m => match partsOf i with
    | none => false
    | some ps => if 300 < m + 1 ∨ 60 < d then false else walkT f ((ps.map fun p => (p, d + 1)).reverse ++ rest) (m + 1)
def isTerm (i : I) : Bool := walkT 302 [(i, 1)] 0
section
variable {P : Str → Prop}
theorem nth_ok {P : Str → Prop} {k : Nat} {i : I} (h : Th P i) : Th P (nthI k i) := by
  cases i with
  | tup l =>
    unfold Th at h
    show Th P (l.getD k .non)
    rw [List.getD_eq_getElem?_getD]
    cases hk : l[k]? with
    | none => exact trivial
    | some x => exact ThL_mem.mp h.1 x (List.mem_of_getElem? hk)
  | _ => exact trivial
theorem getD_ok {P : Str → Prop} {ps : List I} (h : ∀ j ∈ ps, Th P j) (k : Nat) : Th P (ps.getD k .non) := by
  rw [List.getD_eq_getElem?_getD]
  cases hk : ps[k]? with
  | none => exact trivial
  | some x => exact h x (List.mem_of_getElem? hk)
theorem areUnlike_len {n : Int} {l : List I} (h : areUnlike n l = true) : l.length ≤ 6 := by
  unfold areUnlike at h
  simp only [Bool.and_eq_true, decide_eq_true_eq] at h
  exact h.1.1.2
theorem partsOf_ok {i : I} {ps : List I} (hi : Th P i) (e : partsOf i = some ps) : (∀ p ∈ ps, Th P p) ∧ ps.length ≤ 7 := by
  cases i with
  | tup l =>
    cases l with
    | nil => cases e
    | cons a r =>
      cases a with
      | str w =>
        unfold Th at hi
        have hr : ∀ j ∈ r, Th P j := fun j hj => ThL_mem.mp hi.1 j (List.mem_cons_of_mem _ hj)
        have e : partsW w r = some ps := e
        unfold partsW at e
        split at e
        · cases e
        rename_i hs
        split at e
        · split at e
          · cases e; simp
          · cases e
        split at e
        · split at e
          · cases e; simp
          · cases e
        split at e
        · split at e
          · cases e; simp
          · cases e
        split at e
        · have h1 := getD_ok hr 0
          have h2 := getD_ok hr 1
          revert e h1 h2
          generalize r.getD 0 .non = x
          generalize r.getD 1 .non = y
          intro e h1 h2
          cases x with
          | tup l =>
            unfold Th at h1
            have e : (if l.all (isTup 2) && areUnlike 1 l && l.all (fun p => isWorthForm (nthI 1 p)) then some (l.map (nthI 1) ++ [y]) else none) = some ps := e
            split at e
            · rename_i hc
              cases e
              have hl := areUnlike_len (Bool.and_eq_true_iff.mp (Bool.and_eq_true_iff.mp hc).1).2
              refine ⟨fun p hp => ?_, by simp; omega⟩
              rcases List.mem_append.mp hp with q | q
              · obtain ⟨z, hz, rfl⟩ := List.mem_map.mp q
                exact nth_ok (ThL_mem.mp h1.1 z hz)
              · simp at q; subst q; exact h2
            · cases e
          | _ => cases e
        split at e
        · have h1 := getD_ok hr 0
          have h2 := getD_ok hr 1
          revert e h1 h2
          generalize r.getD 0 .non = x
          generalize r.getD 1 .non = y
          intro e h1 h2
          cases y with
          | tup l =>
            unfold Th at h2
            have e : (if isName x && l.all isRow && areUnlike 1 l then some (l.map (nthI 2)) else none) = some ps := e
            split at e
            · rename_i hc
              cases e
              have hl := areUnlike_len (Bool.and_eq_true_iff.mp hc).2
              refine ⟨fun p hp => ?_, by simp; omega⟩
              obtain ⟨z, hz, rfl⟩ := List.mem_map.mp hp
              exact nth_ok (ThL_mem.mp h2.1 z hz)
            · cases e
          | _ => unfold partsBy at e; cases e
        split at e
        · cases e
          refine ⟨fun p hp => hr p (List.mem_of_mem_drop hp), ?_⟩
          have hs : sz w = r.length := Classical.not_not.mp hs
          have : sz w ≤ 3 := by
            have h3 : ∀ q ∈ m_SIZES, ∃ k, q.2 = I.int k ∧ k ≤ 3 := by
              intro q hq
              unfold m_SIZES at hq
              simp only [List.mem_cons, List.not_mem_nil, or_false] at hq
              rcases hq with rfl | rfl | rfl | rfl | rfl | rfl | rfl | rfl | rfl | rfl | rfl | rfl | rfl <;> exact ⟨_, rfl, by decide⟩
            unfold sz
            rcases look_int (· ≤ 3) w h3 with q | ⟨k, q, hq⟩ <;> rw [q]
            · simp
            · exact hq
          simp; omega
        · cases e
      | _ => cases e
  | _ => cases e
end
section
variable {P : Str → Prop} {sto : List O} {Q : O → List O → List O → Prop} {E : Nat → List I → List O → List O → Prop}
def stkI (ts : List (I × Nat)) : List I := ts.reverse.map fun p => .tup [p.1, .int (p.2 : Nat)]
theorem stk_th {ts : List (I × Nat)} (h : ∀ p ∈ ts, Th P p.1) : ThL P (stkI ts) := by
  rw [ThL_mem]
  intro i hi
  obtain ⟨p, hp, rfl⟩ := List.mem_map.mp hi
  unfold Th
  exact ⟨by unfold ThL ThL ThL; exact ⟨h p (by simpa using hp), trivial, trivial⟩, by simp⟩
theorem isterm_does {i : I} (hi : Th P i) (h : Q (.im (.bl (isTerm i))) [.hole] sto) : Does f_is_term [.im i] sto Q E := by
  unfold f_is_term
  rw [r_does]
  unfold b_is_term
  have fi : ∀ (j : I) (st : VS.St), Th P j → flo st (.im j) = some j := fun j st hj => flo_im fun r e => by subst e; exact hj.elim
  rw [r_sSeq]; simp
  rw [r_sSeq]; simp [sizeLine_eq]
  rw [r_sSeq]
  refine r_while (fun n st => ∃ (ts : List (I × Nat)) (m : Nat) (x3 x4 x5 : O), n + m = 301 ∧ m ≤ 300 ∧ (∀ p ∈ ts, Th P p.1) ∧ ts.length ≤ 1 + 7 * m ∧ walkT (302 - m) ts m = isTerm i ∧
    st = ⟨[.im i, .im (.int (m : Nat)), .lst ((stkI ts).map .im), x3, x4, x5, .hole], sto⟩) (n := 301) ⟨[(i, 1)], 0, _, _, _, rfl, by omega, by simpa using hi, by simp, rfl, rfl⟩ ?_
  rintro n st ⟨ts, m, x3, x4, x5, hnm, hm, ht, hl, hw, rfl⟩
  simp
  rw [ne_nilL (stk_th ht)]
  cases ts with
  | nil =>
    have e0 : stkI [] = [] := rfl
    rw [e0]
    simp [thenR_nx]
    have : walkT (302 - m) [] m = true := by
      have : 302 - m = (301 - m) + 1 := by omega
      rw [this]; rfl
    rw [this] at hw
    rw [← hw] at h
    exact h
  | cons p rest =>
    obtain ⟨j, d⟩ := p
    have hj := ht (j, d) List.mem_cons_self
    have es : stkI ((j, d) :: rest) = stkI rest ++ [.tup [j, .int (d : Nat)]] := by simp [stkI]
    have hne : ¬ stkI rest ++ [.tup [j, .int (d : Nat)]] = [] := by simp
    rw [es]
    simp
    unfold b_is_term_1
    rw [r_sSeq]; simp
    rw [r_sSeq]; simp
    have ea : fAddI [.int (m : Nat), .int 1] = some (.im (.int ((m + 1 : Nat)))) := rfl
    rw [ea]
    simp
    rw [r_sSeq]; simp
    refine partsof_does hj ?_
    have hw2 : walkT ((301 - m) + 1) ((j, d) :: rest) m = isTerm i := by
      have : 302 - m = (301 - m) + 1 := by omega
      rw [this] at hw; exact hw
    rw [walkT] at hw2
    cases hp : partsOf j with
    | none =>
      rw [hp] at hw2
      have hw2 : false = isTerm i := hw2
      rw [← hw2] at h
      simp [resP]
      rw [r_sSeq]; simp [VS.isNon]
      by_cases h1 : (m : Int) + 1 ≤ 300
      · have h1' : ¬ 300 < (m : Int) + 1 := by omega
        simp only [h1, h1', true_and, false_and, or_false]
        by_cases h2 : (d : Int) ≤ 60
        · have h2' : ¬ 60 < (d : Int) := by omega
          simp only [h2, h2', true_and, false_and, or_false]
          exact h
        · have h2' : 60 < (d : Int) := by omega
          simp only [h2, h2', true_and, false_and, false_or]
          exact h
      · have h1' : 300 < (m : Int) + 1 := by omega
        simp only [h1, h1', true_and, false_and, false_or]
        exact h
    | some ps =>
      rw [hp] at hw2
      obtain ⟨po, pl⟩ := partsOf_ok hj hp
      simp only at hw2
      simp [resP]
      rw [r_sSeq]; simp [VS.isNon]
      by_cases h1 : (m : Int) + 1 ≤ 300
      · have h1' : ¬ 300 < (m : Int) + 1 := by omega
        simp only [h1, h1', true_and, false_and, or_false]
        by_cases h2 : (d : Int) ≤ 60
        · have h2' : ¬ 60 < (d : Int) := by omega
          simp only [h2, h2', true_and, false_and, or_false]
          rw [if_neg (by omega)] at hw2
          refine lc_map (fun q => .im (.tup [q, .int ((d : Int) + 1)])) rfl (by rw [sizeLine_eq]; omega) (fun q hq => ?_) ?_
          · simp [wip, fi q _ (po q hq)]
          have e2 : ps.map (fun q => O.im (.tup [q, .int ((d : Int) + 1)])) = (ps.map fun q => I.tup [q, .int ((d : Int) + 1)]).map O.im := by simp
          rw [e2]
          simp only [fzb_lst, frz_lst, fzbL_im', frzL_im', true_and]
          simp
          have ls : (stkI rest).length = rest.length := by simp [stkI]
          simp at hl
          refine ⟨by rw [ls, sizeLine_eq]; omega, 301 - (m + 1), by omega, (ps.map fun p => (p, d + 1)).reverse ++ rest, m + 1, by omega, by omega, fun a b hab => ?_, by simp; omega, ?_, ?_⟩
          · rcases List.mem_append.mp hab with q | q
            · simp at q
              obtain ⟨a', q, rfl, _⟩ := q
              exact po a' q
            · exact ht (a, b) (List.mem_cons_of_mem _ q)
          · have : 302 - (m + 1) = 301 - m := by omega
            rw [this]; exact hw2
          · simp [stkI, Function.comp_def]
        · have h2' : 60 < (d : Int) := by omega
          simp only [h2, h2', true_and, false_and, false_or]
          rw [if_pos (.inr (by omega))] at hw2
          rw [← hw2] at h
          exact h
      · have h1' : 300 < (m : Int) + 1 := by omega
        simp only [h1, h1', true_and, false_and, false_or]
        rw [if_pos (.inl (by omega))] at hw2
        rw [← hw2] at h
        exact h
end
end VT

namespace VT
open PySem L2 VS
/-! is_term and terms -/
theorem name_nmL {x : Str} : isName (.str x) = true ↔ nmL x := by
  rw [isName_str]
  unfold nmL
  simp only [Bool.and_eq_true, decide_eq_true_eq, List.all_eq_true]
  exact ⟨fun ⟨⟨a, b⟩, c⟩ => ⟨a, b, c⟩, fun ⟨a, b, c⟩ => ⟨⟨a, b⟩, c⟩⟩
theorem names_nmL {ys : List Str} : (strI ys).all isName = true ↔ ∀ y ∈ ys, nmL y := by
  unfold strI
  rw [List.all_map, List.all_eq_true]
  exact ⟨fun h y hy => name_nmL.mp (h y hy), fun h y hy => name_nmL.mpr (h y hy)⟩
theorem T.pc_inn : ∀ t : T, t.pc = 1 + (t.inn.map fun p => p.1.pc).sum
  | .num _ => by simp [T.pc, T.inn]
  | .nam _ => by simp [T.pc, T.inn]
  | .op _ _ _ => by simp [T.pc, T.inn]
  | .mk _ _ => by simp [T.pc, T.inn]
  | .fn _ _ => by simp [T.pc, T.inn]
  | .lt _ _ _ _ => by simp [T.pc, T.inn]; omega
  | .la ps t => by simp [T.pc, T.inn, R.pc_l, Function.comp_def]; omega
  | .by_ _ rs => by simp [T.pc, T.inn, R.pc_l, Function.comp_def]
theorem T.dp_inn {D : Nat} : ∀ {t : T}, (∀ p ∈ t.inn, p.1.dp ≤ D) → t.dp ≤ D + 1
  | .num _, _ => by simp [T.dp]
  | .nam _, _ => by simp [T.dp]
  | .op _ _ _, _ => by simp [T.dp]
  | .mk _ _, _ => by simp [T.dp]
  | .fn _ t, h => by simpa [T.dp, T.inn] using h
  | .lt _ _ a b, h => by
    simp [T.inn] at h
    simp only [T.dp]; omega
  | .la ps t, h => by
    have h1 : ∀ q ∈ ps.l, q.2.2.dp ≤ D := fun q hq => h (q.2.2, _) (by simp only [T.inn, List.mem_append, List.mem_map]; exact .inl ⟨q, hq, rfl⟩)
    have h2 : t.dp ≤ D := h (t, _) (by simp only [T.inn, List.mem_append, List.mem_singleton]; exact .inr rfl)
    have := R.dp_le.mpr h1
    simp only [T.dp]; omega
  | .by_ _ rs, h => by
    have h1 : ∀ q ∈ rs.l, q.2.2.dp ≤ D := fun q hq => h (q.2.2, q.2.1) (by simp only [T.inn, List.mem_map]; exact ⟨q, hq, rfl⟩)
    have := R.dp_le.mpr h1
    simp only [T.dp]; omega
theorem isW_form : ∀ {t : T}, t.isW = true → isWorthForm (enc t) = true
  | .fn _ _, _ => by rw [enc]; rfl
  | .mk _ _, _ => by rw [enc]; rfl
  | .num _, h => by cases h
  | .nam _, h => by cases h
  | .op _ _ _, h => by cases h
  | .lt _ _ _ _, h => by cases h
  | .la _ _, h => by cases h
  | .by_ _ _, h => by cases h
theorem wf_eq {w : Str} {r : List I} : isWorthForm (.tup (.str w :: r)) = decide (w = "fun" ∨ w = "made") := rfl
theorem form_isW {ns : List Str} : ∀ {t : T}, t.ok ns → isWorthForm (enc t) = true → t.isW = true
  | .fn _ _, _, _ => rfl
  | .mk _ _, _, _ => rfl
  | .num _, _, h => by rw [enc, wf_eq] at h; simp at h
  | .nam _, _, h => by rw [enc, wf_eq] at h; simp at h
  | .op w _ _, ok, h => by
    rw [enc, wf_eq] at h
    have := of_decide_eq_true h
    obtain ⟨_, w2, _, _, _, _, w7, _⟩ := ops_ok ok.1
    rcases this with q | q
    · exact absurd q w2
    · exact absurd q w7
  | .lt w _ _ _, ok, h => by
    rw [enc, wf_eq] at h
    rcases ok.1 with rfl | rfl <;> simp at h
  | .la _ _, _, h => by rw [enc, wf_eq] at h; simp at h
  | .by_ _ _, _, h => by rw [enc, wf_eq] at h; simp at h
/-- a term's parts, by is_term's look -/
theorem parts_enc {ns : List Str} (hL : ∀ x ∈ ns, nmL x) : ∀ {t : T}, t.ok ns → partsOf (enc t) = some (t.inn.map fun p => enc p.1)
  | .num i, ok => by
    rw [enc]
    show partsW "num" [.int i] = _
    have hs : sz "num" = 1 := by decide +kernel
    have hi : isNumber (.int i) = true := by
      have h : i.natAbs ≤ 10 ^ 18 := ok
      have e : (10 : Nat) ^ 18 = 1000000000000000000 := by decide
      rw [e] at h
      show (decide (-1000000000000000000 ≤ i) && decide (i ≤ 1000000000000000000)) = true
      rw [decide_eq_true (by omega), decide_eq_true (by omega)]; rfl
    unfold partsW
    rw [hs]
    simp [hi, T.inn]
  | .nam x, ok => by
    rw [enc]
    show partsW "name" [.str x] = _
    have hs : sz "name" = 1 := by decide +kernel
    have hx := name_nmL.mpr (hL x ok)
    unfold partsW
    rw [hs]
    simp [hx, T.inn, aloneS]
  | .op w x y, ⟨hw, hx, hy⟩ => by
    rw [enc]
    show partsW w [.str x, .str y] = _
    have hs : sz w = 2 := by
      unfold ops at hw
      simp only [List.mem_cons, List.not_mem_nil, or_false] at hw
      rcases hw with rfl | rfl | rfl | rfl | rfl <;> decide +kernel
    have hx := name_nmL.mpr (hL x hx)
    have hy := name_nmL.mpr (hL y hy)
    obtain ⟨_, w2, w3, w4, w5, w6, w7, w8, _⟩ := ops_ok hw
    have hal : w ∈ aloneS := by
      unfold ops at hw
      unfold aloneS
      exact List.mem_cons_of_mem _ hw
    unfold partsW
    rw [hs]
    simp [hx, hy, T.inn, w8, hal]
  | .mk x ys, ⟨hx, hy, hl⟩ => by
    rw [enc]
    show partsW "made" [.str x, .tup (strI ys)] = _
    have hs : sz "made" = 2 := by decide +kernel
    have hx := name_nmL.mpr (hL x hx)
    have hA : areNames true (.tup (strI ys)) = true := by
      show (decide ((strI ys).length ≤ 3) && (strI ys).all isName && (true || unlike (strI ys))) = true
      rw [names_nmL.mpr fun y h => hL y (hy y h)]
      simp [hl]
    unfold partsW
    rw [hs]
    simp [hx, hA, T.inn, aloneS]
  | .fn x t, ⟨hx, ht⟩ => by
    rw [enc]
    show partsW "fun" [.str x, enc t] = _
    have hs : sz "fun" = 2 := by decide +kernel
    have hx := name_nmL.mpr (hL x hx)
    unfold partsW
    rw [hs]
    simp [hx, T.inn, aloneS]
  | .lt w x a b, ⟨hw, hx, ha, hb⟩ => by
    rw [enc]
    show partsW w [.str x, enc a, enc b] = _
    have hs : sz w = 3 := by rcases hw with rfl | rfl <;> decide +kernel
    have hx := name_nmL.mpr (hL x hx)
    unfold partsW
    rw [hs]
    rcases hw with rfl | rfl <;> simp [hx, T.inn, aloneS]
  | .la ps t, ⟨hp, ht, h1, h2, h3, h4⟩ => by
    rw [enc]
    show partsW "letall" [.tup (encP ps), enc t] = _
    have hs : sz "letall" = 2 := by decide +kernel
    have hr := R.ok_l.mp hp
    have e1 : (encP ps).all (isTup 2) = true := by
      rw [encP_l, List.all_map, List.all_eq_true]; intro q _; rfl
    have e2 : (encP ps).map firstI = strI (ps.l.map Prod.fst) := by
      rw [encP_l]; simp [strI, Function.comp_def, firstI]
    have e3 : areUnlike 1 (encP ps) = true := by
      unfold areUnlike
      rw [e2, unlike_strI, decide_eq_true h3, names_nmL.mpr (fun y hy => ?_)]
      · have : (encP ps).length = ps.l.length := by rw [encP_l]; simp
        rw [this]; simp; omega
      · obtain ⟨q, hq, rfl⟩ := List.mem_map.mp hy
        exact hL _ (hr q hq).1
    have e4 : (encP ps).all (fun p => isWorthForm (nthI 1 p)) = true := by
      rw [encP_l, List.all_map, List.all_eq_true]
      intro q hq
      exact isW_form (h4 q hq)
    have e5 : partsLetall (.tup (encP ps)) (enc t) = some ((encP ps).map (nthI 1) ++ [enc t]) := by
      show (if (encP ps).all (isTup 2) && areUnlike 1 (encP ps) && (encP ps).all (fun p => isWorthForm (nthI 1 p)) then _ else _) = _
      rw [e1, e3, e4]; rfl
    unfold partsW
    rw [hs]
    simp [aloneS, e5]
    rw [encP_l]
    simp [T.inn, nthI, Function.comp_def]
  | .by_ x rs, ⟨hr, hx, h1, h2, h3⟩ => by
    rw [enc]
    show partsW "by" [.str x, .tup (encR rs)] = _
    have hs : sz "by" = 2 := by decide +kernel
    have hr := R.ok_l.mp hr
    have hx := name_nmL.mpr (hL x hx)
    have e1 : (encR rs).all isRow = true := by
      rw [encR_l, List.all_map, List.all_eq_true]
      intro q hq
      obtain ⟨_, hy, ⟨hl, hnd⟩, _⟩ := hr q hq
      show (isTup 3 (.tup [.str q.1, .tup (strI q.2.1), enc q.2.2]) && areNames false (.tup (strI q.2.1))) = true
      have : areNames false (.tup (strI q.2.1)) = true := by
        show (decide ((strI q.2.1).length ≤ 3) && (strI q.2.1).all isName && (false || unlike (strI q.2.1))) = true
        rw [names_nmL.mpr fun y h => hL y (hy y h), unlike_strI, decide_eq_true hnd]
        simp [hl]
      rw [this]; rfl
    have e2 : (encR rs).map firstI = strI (rs.l.map Prod.fst) := by
      rw [encR_l]; simp [strI, Function.comp_def, firstI]
    have e3 : areUnlike 1 (encR rs) = true := by
      unfold areUnlike
      rw [e2, unlike_strI, decide_eq_true h3, names_nmL.mpr (fun y hy => ?_)]
      · have : (encR rs).length = rs.l.length := by rw [encR_l]; simp
        rw [this]; simp; omega
      · obtain ⟨q, hq, rfl⟩ := List.mem_map.mp hy
        exact hL _ (hr q hq).1
    have e5 : partsBy (.str x) (.tup (encR rs)) = some ((encR rs).map (nthI 2)) := by
      show (if isName (.str x) && (encR rs).all isRow && areUnlike 1 (encR rs) then _ else _) = _
      rw [hx, e1, e3]; rfl
    unfold partsW
    rw [hs]
    simp [aloneS, e5]
    rw [encR_l]
    simp [T.inn, nthI, Function.comp_def]
/-- what is a term is told so -/
theorem walk_true {ns : List Str} (hL : ∀ x ∈ ns, nmL x) : ∀ (f : Nat) (ts : List (T × Nat)) (m : Nat), (∀ p ∈ ts, p.1.ok ns ∧ p.1.dp + p.2 ≤ 61) → (ts.map fun p => p.1.pc).sum + m ≤ 300 → walkT f (ts.map fun p => (enc p.1, p.2)) m = true
  | 0, _, _, _, _ => rfl
  | f + 1, [], _, _, _ => rfl
  | f + 1, (t, d) :: rest, m, h, hs => by
    obtain ⟨ok, hd⟩ := h (t, d) List.mem_cons_self
    rw [List.map_cons, walkT, parts_enc hL ok]
    have hp := T.pc_inn t
    have hdp := t.dp_pos
    simp at hs hd
    simp only
    rw [if_neg (by omega)]
    have e : ((t.inn.map fun p => enc p.1).map fun p => (p, d + 1)).reverse ++ rest.map (fun p => (enc p.1, p.2)) = ((t.inn.map fun p => (p.1, d + 1)).reverse ++ rest).map fun p => (enc p.1, p.2) := by
      simp [Function.comp_def]
    rw [e]
    refine walk_true hL f _ _ (fun p hp' => ?_) ?_
    · rcases List.mem_append.mp hp' with q | q
      · simp at q
        obtain ⟨a, ⟨b, hb⟩, rfl⟩ := q
        obtain ⟨o1, o2, _⟩ := ok.inn _ hb
        exact ⟨o1, by simp at o2 ⊢; omega⟩
      · exact h p (List.mem_cons_of_mem _ q)
    · have : (((t.inn.map fun p => (p.1, d + 1)).reverse ++ rest).map fun p => p.1.pc).sum = (t.inn.map fun p => p.1.pc).sum + (rest.map fun p => p.1.pc).sum := by
        simp [Function.comp_def, List.sum_reverse]
      rw [this]; omega
theorem isTerm_enc {ns : List Str} (hL : ∀ x ∈ ns, nmL x) {t : T} (ok : t.ok ns) (hd : t.dp ≤ 60) (hp : t.pc ≤ 300) : isTerm (enc t) = true :=
  walk_true hL 302 [(t, 1)] 0 (by simp [ok]; omega) (by simpa using hp)
end VT

namespace VT
open PySem L2 VS
/-! what is told to be a term is one -/
theorem look_key : ∀ {kvs : List (Str × I)} {w : Str} {i : I}, lookS kvs w = some i → ∃ q ∈ kvs, q.1 = w
  | [], w, i, h => by cases h
  | (x, j) :: r, w, i, h => by
    unfold lookS at h
    rw [List.find?_cons] at h
    cases hx : x == w with
    | true => exact ⟨(x, j), List.mem_cons_self, by simpa using hx⟩
    | false =>
      simp only [hx] at h
      obtain ⟨q, hq, e⟩ := look_key (kvs := r) h
      exact ⟨q, List.mem_cons_of_mem _ hq, e⟩
theorem sz_word {w : Str} {n : Nat} (h : sz w = n) : w = "num" ∨ w = "made" ∨ w = "letall" ∨ w = "by" ∨ w = "fun" ∨ w = "let" ∨ w = "now" ∨ w ∈ aloneS := by
  unfold sz at h
  cases hl : lookS m_SIZES w with
  | none => rw [hl] at h; simp at h
  | some i =>
    obtain ⟨q, hq, rfl⟩ := look_key hl
    unfold m_SIZES at hq
    simp only [List.mem_cons, List.not_mem_nil, or_false] at hq
    unfold aloneS
    rcases hq with rfl | rfl | rfl | rfl | rfl | rfl | rfl | rfl | rfl | rfl | rfl | rfl | rfl <;> simp
theorem th_str {ns : List Str} {x : Str} (h : Th (· ∈ ns) (.str x)) : x ∈ ns := by unfold Th at h; exact h.1
theorem th_strs {ns : List Str} {ys : List Str} (h : Th (· ∈ ns) (.tup (strI ys))) : ∀ y ∈ ys, y ∈ ns := fun y hy => by
  unfold Th at h
  exact th_str (ThL_mem.mp h.1 (.str y) (strI_mem.mpr ⟨y, hy, rfl⟩))
theorem th_tup {P : Str → Prop} {l : List I} (h : Th P (.tup l)) : ∀ j ∈ l, Th P j := by unfold Th at h; exact ThL_mem.mp h.1
/-- a letall's pairs, of terms -/
theorem pairs_of {ns : List Str} : ∀ {l : List I} {us : List T}, l.all (isTup 2) = true → (∀ j ∈ l, Th (· ∈ ns) j) → (l.map firstI).all isName = true → l.map (nthI 1) = us.map enc → (∀ u ∈ us, u.ok ns) →
    ∃ qs : List (Str × List Str × T), l = qs.map (fun q => .tup [.str q.1, enc q.2.2]) ∧ qs.map (fun q => q.2.2) = us ∧ (∀ q ∈ qs, q.1 ∈ ns ∧ (∀ y ∈ q.2.1, y ∈ ns) ∧ (q.2.1.length ≤ 3 ∧ q.2.1.Nodup) ∧ q.2.2.ok ns)
  | [], us, _, _, _, h, _ => by
    have : us = [] := by cases us with | nil => rfl | cons _ _ => cases h
    subst this
    exact ⟨[], rfl, rfl, by simp⟩
  | i :: l, us, h1, h2, h3, h4, h5 => by
    rw [List.all_cons, Bool.and_eq_true_iff] at h1
    rw [List.map_cons, List.all_cons, Bool.and_eq_true_iff] at h3
    cases us with
    | nil => cases h4
    | cons u us =>
      rw [List.map_cons, List.map_cons] at h4
      obtain ⟨e1, e2⟩ := List.cons.inj h4
      obtain ⟨qs, q1, q2, q3⟩ := pairs_of h1.2 (fun j hj => h2 j (List.mem_cons_of_mem _ hj)) h3.2 e2 fun u hu => h5 u (List.mem_cons_of_mem _ hu)
      cases i with
      | tup r =>
        obtain ⟨a, b, rfl⟩ := tup2 (of_decide_eq_true h1.1)
        have ha : isName a = true := h3.1
        cases a with
        | str x =>
          have hx : x ∈ ns := th_str (th_tup (h2 _ List.mem_cons_self) _ List.mem_cons_self)
          have eb : b = enc u := e1
          subst eb
          refine ⟨(x, [], u) :: qs, by rw [q1]; rfl, by rw [← q2]; rfl, fun q hq => ?_⟩
          rcases List.mem_cons.mp hq with rfl | hq
          · exact ⟨hx, by simp, by simp, h5 u List.mem_cons_self⟩
          · exact q3 q hq
        | _ => cases ha
      | _ => cases h1.1
theorem rows_of {ns : List Str} : ∀ {l : List I} {us : List T}, l.all isRow = true → (∀ j ∈ l, Th (· ∈ ns) j) → (l.map firstI).all isName = true → l.map (nthI 2) = us.map enc → (∀ u ∈ us, u.ok ns) →
    ∃ qs : List (Str × List Str × T), l = qs.map (fun q => .tup [.str q.1, .tup (strI q.2.1), enc q.2.2]) ∧ qs.map (fun q => q.2.2) = us ∧ (∀ q ∈ qs, q.1 ∈ ns ∧ (∀ y ∈ q.2.1, y ∈ ns) ∧ (q.2.1.length ≤ 3 ∧ q.2.1.Nodup) ∧ q.2.2.ok ns)
  | [], us, _, _, _, h, _ => by
    have : us = [] := by cases us with | nil => rfl | cons _ _ => cases h
    subst this
    exact ⟨[], rfl, rfl, by simp⟩
  | i :: l, us, h1, h2, h3, h4, h5 => by
    rw [List.all_cons, Bool.and_eq_true_iff] at h1
    rw [List.map_cons, List.all_cons, Bool.and_eq_true_iff] at h3
    cases us with
    | nil => cases h4
    | cons u us =>
      rw [List.map_cons, List.map_cons] at h4
      obtain ⟨e1, e2⟩ := List.cons.inj h4
      obtain ⟨qs, q1, q2, q3⟩ := rows_of h1.2 (fun j hj => h2 j (List.mem_cons_of_mem _ hj)) h3.2 e2 fun u hu => h5 u (List.mem_cons_of_mem _ hu)
      have h1a := h1.1
      unfold isRow at h1a
      obtain ⟨g1, g2⟩ := Bool.and_eq_true_iff.mp h1a
      cases i with
      | tup r =>
        obtain ⟨a, b, c, rfl⟩ := tup3 (of_decide_eq_true g1)
        have ha : isName a = true := h3.1
        have hb : areNames false b = true := g2
        have ht := th_tup (h2 _ List.mem_cons_self)
        cases a with
        | str x =>
          cases b with
          | tup bl =>
            have hb : (decide (bl.length ≤ 3) && bl.all isName && (false || unlike bl)) = true := hb
            simp only [Bool.and_eq_true, decide_eq_true_eq, Bool.false_or] at hb
            obtain ⟨⟨b1, b2⟩, b3⟩ := hb
            obtain ⟨ys, rfl⟩ := names_str b2
            rw [unlike_strI] at b3
            have b3 := of_decide_eq_true b3
            have ec : c = enc u := e1
            subst ec
            refine ⟨(x, ys, u) :: qs, by rw [q1]; rfl, by rw [← q2]; rfl, fun q hq => ?_⟩
            rcases List.mem_cons.mp hq with rfl | hq
            · exact ⟨th_str (ht _ (by simp)), th_strs (ht _ (by simp)), ⟨by simpa using b1, b3⟩, h5 u List.mem_cons_self⟩
            · exact q3 q hq
          | _ => cases hb
        | _ => cases ha
      | _ => cases g1
/-- a thing whose parts are terms is one -/
theorem build {ns : List Str} {i : I} {us : List T} (hi : Th (· ∈ ns) i) (e : partsOf i = some (us.map enc)) (hu : ∀ u ∈ us, u.ok ns) : ∃ t : T, i = enc t ∧ t.ok ns ∧ t.inn.map Prod.fst = us := by
  cases i with
  | tup l =>
    cases l with
    | nil => cases e
    | cons a r =>
      cases a with
      | str w =>
        have ht := th_tup hi
        have hr : ∀ j ∈ r, Th (· ∈ ns) j := fun j hj => ht j (List.mem_cons_of_mem _ hj)
        have e : partsW w r = some (us.map enc) := e
        unfold partsW at e
        split at e
        · cases e
        rename_i hs
        have hs : sz w = r.length := Classical.not_not.mp hs
        have nil_of : some ([] : List I) = some (us.map enc) → us = [] := fun q => by
          cases us with
          | nil => rfl
          | cons _ _ => cases q
        split at e
        · rename_i hw
          split at e
          · rename_i hn
            obtain rfl := nil_of e
            obtain ⟨x, rfl⟩ := one_of (ps := r) (by rw [← hs, hw]; decide +kernel)
            cases x with
            | int k =>
              have hk : (decide (-1000000000000000000 ≤ k) && decide (k ≤ 1000000000000000000)) = true := hn
              simp only [Bool.and_eq_true, decide_eq_true_eq] at hk
              refine ⟨.num k, by rw [enc, hw], ?_, rfl⟩
              show k.natAbs ≤ 10 ^ 18
              have : (10 : Nat) ^ 18 = 1000000000000000000 := by decide
              rw [this]; omega
            | _ => cases hn
          · cases e
        split at e
        · rename_i hw
          split at e
          · rename_i hn
            obtain rfl := nil_of e
            obtain ⟨ys, rfl⟩ := names_str hn
            have hy : ∀ y ∈ ys, y ∈ ns := fun y hy => th_str (hr _ (strI_mem.mpr ⟨y, hy, rfl⟩))
            unfold aloneS at hw
            simp only [List.mem_cons, List.not_mem_nil, or_false] at hw
            have two : sz w = 2 → w ∈ ops → ∃ t : T, I.tup (.str w :: strI ys) = enc t ∧ t.ok ns ∧ t.inn.map Prod.fst = [] := fun h2 hop => by
              rw [h2] at hs
              have hl : ys.length = 2 := by simp at hs; omega
              match ys, hl with
              | [x, y], _ => exact ⟨.op w x y, by rw [enc]; rfl, ⟨hop, hy x (by simp), hy y (by simp)⟩, rfl⟩
            rcases hw with rfl | rfl | rfl | rfl | rfl | rfl
            · have h1 : sz "name" = 1 := by decide +kernel
              rw [h1] at hs
              have hl : ys.length = 1 := by simp at hs; omega
              match ys, hl with
              | [x], _ => exact ⟨.nam x, by rw [enc]; rfl, hy x (by simp), rfl⟩
            · exact two (by decide +kernel) (by simp [ops])
            · exact two (by decide +kernel) (by simp [ops])
            · exact two (by decide +kernel) (by simp [ops])
            · exact two (by decide +kernel) (by simp [ops])
            · exact two (by decide +kernel) (by simp [ops])
          · cases e
        rename_i hal
        split at e
        · rename_i hw
          split at e
          · rename_i hn
            obtain rfl := nil_of e
            obtain ⟨x, y, rfl⟩ := two_of (ps := r) (by rw [← hs, hw]; decide +kernel)
            obtain ⟨n1, n2⟩ := Bool.and_eq_true_iff.mp hn
            cases x with
            | str x =>
              cases y with
              | tup bl =>
                have hb : (decide (bl.length ≤ 3) && bl.all isName && (true || unlike bl)) = true := n2
                simp only [Bool.and_eq_true, decide_eq_true_eq, Bool.true_or, and_true] at hb
                obtain ⟨ys, rfl⟩ := names_str hb.2
                exact ⟨.mk x ys, by rw [enc, hw], ⟨th_str (hr _ (by simp)), th_strs (hr _ (by simp)), by simpa using hb.1⟩, rfl⟩
              | _ => cases n2
            | _ => cases n1
          · cases e
        split at e
        · rename_i hw
          obtain ⟨x, y, rfl⟩ := two_of (ps := r) (by rw [← hs, hw]; decide +kernel)
          have e : partsLetall x y = some (us.map enc) := e
          cases x with
          | tup l =>
            have e : (if l.all (isTup 2) && areUnlike 1 l && l.all (fun p => isWorthForm (nthI 1 p)) then some (l.map (nthI 1) ++ [y]) else none) = some (us.map enc) := e
            split at e
            · rename_i hc
              obtain ⟨c12, c3⟩ := Bool.and_eq_true_iff.mp hc
              obtain ⟨c1, c2⟩ := Bool.and_eq_true_iff.mp c12
              have e := (Option.some.inj e).symm
              obtain ⟨u1, u2, rfl, e1, e2⟩ := List.map_eq_append_iff.mp e
              obtain ⟨u, rfl, e3⟩ : ∃ u, u2 = [u] ∧ enc u = y := by
                cases u2 with
                | nil => cases e2
                | cons u u2 =>
                  cases u2 with
                  | nil => exact ⟨u, rfl, by simpa using e2⟩
                  | cons _ _ => simp at e2
              subst e3
              unfold areUnlike at c2
              simp only [Bool.and_eq_true, decide_eq_true_eq] at c2
              obtain ⟨⟨⟨l1, l6⟩, nn⟩, uu⟩ := c2
              have hl := hr (.tup l) (by simp)
              obtain ⟨qs, q1, q2, q3⟩ := pairs_of c1 (th_tup hl) nn e1.symm fun u hu' => hu u (List.mem_append_left _ hu')
              have ef : l.map firstI = strI (qs.map Prod.fst) := by rw [q1]; simp [strI, Function.comp_def, firstI]
              rw [ef, unlike_strI] at uu
              have uu := of_decide_eq_true uu
              have ll : l.length = qs.length := by rw [q1]; simp
              refine ⟨.la (R.of qs) u, by rw [enc, hw, encP_l, R.of_l, ← q1], ⟨R.ok_l.mpr (by rw [R.of_l]; exact q3), hu u (by simp), by rw [R.of_l]; omega, by rw [R.of_l]; omega, by rw [R.of_l]; exact uu, by
                rw [R.of_l]
                intro q hq
                refine form_isW (q3 q hq).2.2.2 ?_
                rw [q1, List.all_map, List.all_eq_true] at c3
                exact c3 q hq⟩, ?_⟩
              simp [T.inn, R.of_l, Function.comp_def]
              exact q2
            · cases e
          | _ => cases e
        split at e
        · rename_i hw
          obtain ⟨x, y, rfl⟩ := two_of (ps := r) (by rw [← hs, hw]; decide +kernel)
          have e : partsBy x y = some (us.map enc) := e
          cases y with
          | tup l =>
            have e : (if isName x && l.all isRow && areUnlike 1 l then some (l.map (nthI 2)) else none) = some (us.map enc) := e
            split at e
            · rename_i hc
              obtain ⟨c12, c3⟩ := Bool.and_eq_true_iff.mp hc
              obtain ⟨c1, c2⟩ := Bool.and_eq_true_iff.mp c12
              have e := Option.some.inj e
              unfold areUnlike at c3
              simp only [Bool.and_eq_true, decide_eq_true_eq] at c3
              obtain ⟨⟨⟨l1, l6⟩, nn⟩, uu⟩ := c3
              have hl := hr (.tup l) (by simp)
              obtain ⟨qs, q1, q2, q3⟩ := rows_of c2 (th_tup hl) nn e hu
              have ef : l.map firstI = strI (qs.map Prod.fst) := by rw [q1]; simp [strI, Function.comp_def, firstI]
              rw [ef, unlike_strI] at uu
              have uu := of_decide_eq_true uu
              have ll : l.length = qs.length := by rw [q1]; simp
              cases x with
              | str x =>
                refine ⟨.by_ x (R.of qs), by rw [enc, hw, encR_l, R.of_l, ← q1], ⟨R.ok_l.mpr (by rw [R.of_l]; exact q3), th_str (hr _ (by simp)), by rw [R.of_l]; omega, by rw [R.of_l]; omega, by rw [R.of_l]; exact uu⟩, ?_⟩
                simp [T.inn, R.of_l, Function.comp_def]
                exact q2
              | _ => cases c1
            · cases e
          | _ => unfold partsBy at e; cases e
        rename_i w3 w4 w5
        split at e
        · rename_i hn
          have e := Option.some.inj e
          rcases sz_word hs with h | h | h | h | h | h | h | h
          · rename_i w1 _ _ _; exact absurd h (by assumption)
          · exact absurd h w3
          · exact absurd h w4
          · exact absurd h w5
          · obtain ⟨x, y, rfl⟩ := two_of (ps := r) (by rw [← hs, h]; decide +kernel)
            cases x with
            | str x =>
              simp at e
              obtain ⟨u, rfl, eu⟩ : ∃ u, us = [u] ∧ enc u = y := by
                cases us with
                | nil => cases e
                | cons u us => cases us with
                  | nil => exact ⟨u, rfl, by simpa using e.symm⟩
                  | cons _ _ => simp at e
              subst eu
              exact ⟨.fn x u, by rw [enc, h], ⟨th_str (hr _ (by simp)), hu u (by simp)⟩, rfl⟩
            | _ => cases hn
          · obtain ⟨x, y, z, rfl⟩ := tup3 (r := r) (by have : sz w = 3 := (by rw [h]; decide +kernel); omega)
            cases x with
            | str x =>
              simp at e
              obtain ⟨u, v, rfl, eu, ev⟩ : ∃ u v, us = [u, v] ∧ enc u = y ∧ enc v = z := by
                cases us with
                | nil => cases e
                | cons u us => cases us with
                  | nil => simp at e
                  | cons v us => cases us with
                    | nil =>
                      simp at e
                      exact ⟨u, v, rfl, e.1.symm, e.2.symm⟩
                    | cons _ _ => simp at e
              subst eu ev
              exact ⟨.lt w x u v, by rw [enc], ⟨.inl h, th_str (hr _ (by simp)), hu u (by simp), hu v (by simp)⟩, rfl⟩
            | _ => cases hn
          · obtain ⟨x, y, z, rfl⟩ := tup3 (r := r) (by have : sz w = 3 := (by rw [h]; decide +kernel); omega)
            cases x with
            | str x =>
              simp at e
              obtain ⟨u, v, rfl, eu, ev⟩ : ∃ u v, us = [u, v] ∧ enc u = y ∧ enc v = z := by
                cases us with
                | nil => cases e
                | cons u us => cases us with
                  | nil => simp at e
                  | cons v us => cases us with
                    | nil =>
                      simp at e
                      exact ⟨u, v, rfl, e.1.symm, e.2.symm⟩
                    | cons _ _ => simp at e
              subst eu ev
              exact ⟨.lt w x u v, by rw [enc], ⟨.inr h, th_str (hr _ (by simp)), hu u (by simp), hu v (by simp)⟩, rfl⟩
            | _ => cases hn
          · exact absurd h hal
        · cases e
      | _ => cases e
  | _ => cases e
end VT
namespace VT
open PySem L2 VS
theorem walk_sound {ns : List Str} : ∀ (f : Nat) (ts : List (I × Nat)) (m : Nat), f + m = 302 → m ≤ 300 → (∀ p ∈ ts, Th (· ∈ ns) p.1) → walkT f ts m = true →
    ∃ us : List (T × Nat), ts = us.map (fun p => (enc p.1, p.2)) ∧ (∀ p ∈ us, p.1.ok ns ∧ p.1.dp + p.2 ≤ 61) ∧ (us.map fun p => p.1.pc).sum + m ≤ 300
  | 0, _, m, h1, h2, _, _ => by omega
  | f + 1, [], m, h1, h2, _, _ => ⟨[], rfl, by simp, by simpa using h2⟩
  | f + 1, (i, d) :: rest, m, h1, h2, ht, hw => by
    rw [walkT] at hw
    have hi := ht (i, d) List.mem_cons_self
    cases hp : partsOf i with
    | none => rw [hp] at hw; cases hw
    | some ps =>
      rw [hp] at hw
      simp only at hw
      split at hw
      · cases hw
      rename_i hc
      have hc : m + 1 ≤ 300 ∧ d ≤ 60 := by omega
      have po := (partsOf_ok hi hp).1
      obtain ⟨us, e, hu, hs⟩ := walk_sound f _ (m + 1) (by omega) hc.1 (fun p hp' => by
        rcases List.mem_append.mp hp' with q | q
        · simp at q
          obtain ⟨a, q, rfl⟩ := q
          exact po a q
        · exact ht p (List.mem_cons_of_mem _ q)) hw
      obtain ⟨a, b, rfl, ea, eb⟩ := List.map_eq_append_iff.mp e.symm
      have ea' : ps.map (fun p => (p, d + 1)) = a.reverse.map fun p => (enc p.1, p.2) := by
        rw [List.map_reverse, ea, List.reverse_reverse]
      have eps : ps = (a.reverse.map Prod.fst).map enc := by
        have := congrArg (List.map Prod.fst) ea'
        simpa [Function.comp_def] using this
      have snd : ∀ p ∈ a, p.2 = d + 1 := fun p hp' => by
        have : (enc p.1, p.2) ∈ ps.map (fun p => (p, d + 1)) := by
          rw [ea']; exact List.mem_map.mpr ⟨p, List.mem_reverse.mpr hp', rfl⟩
        obtain ⟨q, _, e⟩ := List.mem_map.mp this
        exact (Prod.mk.inj e).2.symm
      obtain ⟨t, et, tok, tin⟩ := build (us := a.reverse.map Prod.fst) hi (by rw [hp, ← eps]) fun u hu' => by
        obtain ⟨p, hp', rfl⟩ := List.mem_map.mp hu'
        exact (hu p (List.mem_append_left _ (List.mem_reverse.mp hp'))).1
      refine ⟨(t, d) :: b, by rw [List.map_cons, eb, ← et], fun p hp' => ?_, ?_⟩
      · rcases List.mem_cons.mp hp' with rfl | hp'
        · refine ⟨tok, ?_⟩
          have : t.dp ≤ (60 - d) + 1 := T.dp_inn fun q hq => by
            have hq1 : q.1 ∈ t.inn.map Prod.fst := List.mem_map_of_mem hq
            rw [tin] at hq1
            obtain ⟨z, hz, e⟩ := List.mem_map.mp hq1
            have hz := List.mem_reverse.mp hz
            have h3 := (hu z (List.mem_append_left _ hz)).2
            have h4 := snd z hz
            rw [← e]; omega
          show t.dp + d ≤ 61
          omega
        · exact hu p (List.mem_append_right _ hp')
      · have e1 := T.pc_inn t
        have e2 : (t.inn.map fun p => p.1.pc) = (a.reverse.map Prod.fst).map T.pc := by rw [← tin]; simp [Function.comp_def]
        rw [e2] at e1
        simp [Function.comp_def, List.sum_reverse] at e1 hs ⊢
        omega
/-- what is told to be a term is one -/
theorem isTerm_sound {ns : List Str} {i : I} (hi : Th (· ∈ ns) i) (h : isTerm i = true) : ∃ t : T, i = enc t ∧ t.ok ns ∧ t.dp ≤ 60 ∧ t.pc ≤ 300 := by
  obtain ⟨us, e, hu, hs⟩ := walk_sound 302 [(i, 1)] 0 rfl (by omega) (by simpa using hi) h
  cases us with
  | nil => cases e
  | cons u us =>
    cases us with
    | nil =>
      have e := (Prod.mk.inj (List.cons.inj e).1)
      obtain ⟨a, b⟩ := hu u List.mem_cons_self
      exact ⟨u.1, e.1, a, by have := e.2; omega, by simpa using hs⟩
    | cons _ _ => cases (List.cons.inj e).2
mutual
theorem T.w_pc {ns : List Str} : ∀ t : T, t.ok ns → t.w ≤ 600 * t.pc
  | .num _, _ => by simp [T.w, T.pc]
  | .nam _, _ => by simp [T.w, T.pc]
  | .op _ _ _, _ => by simp [T.w, T.pc]
  | .mk _ _, _ => by simp [T.w, T.pc]
  | .fn _ t, h => by have := T.w_pc t h.2; simp only [T.w, T.pc]; omega
  | .lt _ _ a b, h => by have := T.w_pc a h.2.2.1; have := T.w_pc b h.2.2.2; simp only [T.w, T.pc]; omega
  | .la ps t, h => by have := R.w_pc ps h.1; have := T.w_pc t h.2.1; have := h.2.2.2.1; simp only [T.w, T.pc]; omega
  | .by_ _ rs, h => by have := R.w_pc rs h.1; have := h.2.2.2.1; simp only [T.w, T.pc]; omega
theorem R.w_pc {ns : List Str} : ∀ r : R, r.ok ns → r.w ≤ 80 * r.l.length + 600 * r.pc
  | .nil, _ => by simp [R.w]
  | .cons _ _ t r, h => by
    have := T.w_pc t h.2.2.2.1
    have := R.w_pc r h.2.2.2.2
    simp only [R.w, R.pc, R.l, List.length_cons]; omega
end
end VT

namespace VT
open PySem L2 VS
/-- _law_open -/
noncomputable def b_open (F_open : Fn) : SM := (sSeq (sSet 2 (op2 fIx (vl (eVar 0)) (vl (cI (.int 0)))))
    (sSeq (sIf (asB (op2 fEq (vl (eVar 2)) (vl (cI (.str "num")))))
    (sRet (eLst aNil))
    sNext)
    (sSeq (sSet 3 (eLst aNil))
    (sSeq (sSet 4 (eLst aNil))
    (sSeq (sIf (asB (op2 fEq (vl (eVar 2)) (vl (cI (.str "made")))))
    (sSet 3 (opN fList (oCons (vl (op2 fIx (vl (eVar 0)) (vl (cI (.int 2))))) oNil)))
    (sIf (asB (op2 fEq (vl (eVar 2)) (vl (cI (.str "by")))))
    (sSeq (sSet 3 (eLst (aCons (op2 fIx (vl (eVar 0)) (vl (cI (.int 1)))) aNil)))
    (sSet 4 (eLc [9] (itV (op2 fIx (vl (eVar 0)) (vl (cI (.int 2))))) (.nm 9) bYes (eFz (eTup (aCons (op2 fIx (vl (eVar 9)) (vl (cI (.int 2)))) (aCons (opN fList (oCons (vl (op2 fIx (vl (eVar 9)) (vl (cI (.int 1))))) oNil)) aNil)))))))
    (sIf (asB (op2 fEq (vl (eVar 2)) (vl (cI (.str "fun")))))
    (sSet 4 (eLst (aCons (eTup (aCons (op2 fIx (vl (eVar 0)) (vl (cI (.int 2)))) (aCons (eLst (aCons (op2 fIx (vl (eVar 0)) (vl (cI (.int 1)))) aNil)) aNil))) aNil)))
    (sIf (asB (op2 fIn (vl (eVar 2)) (vl (eLst (aCons (cI (.str "let")) (aCons (cI (.str "now")) aNil))))))
    (sSet 4 (eLst (aCons (eTup (aCons (op2 fIx (vl (eVar 0)) (vl (cI (.int 2)))) (aCons (eLst aNil) aNil))) (aCons (eTup (aCons (op2 fIx (vl (eVar 0)) (vl (cI (.int 3)))) (aCons (eLst (aCons (op2 fIx (vl (eVar 0)) (vl (cI (.int 1)))) aNil)) aNil))) aNil))))
    (sIf (asB (op2 fEq (vl (eVar 2)) (vl (cI (.str "letall")))))
    (sSeq (sSet 5 (eFz (eLc [10] (itV (op2 fIx (vl (eVar 0)) (vl (cI (.int 1))))) (.nm 10) bYes (op2 fIx (vl (eVar 10)) (vl (cI (.int 0)))))))
    (sSet 4 (op2 fAdd (vl (eLc [10] (itV (op2 fIx (vl (eVar 0)) (vl (cI (.int 1))))) (.nm 10) bYes (eTup (aCons (op2 fIx (vl (eVar 10)) (vl (cI (.int 1)))) (aCons (eVar 5) aNil))))) (vl (eLst (aCons (eTup (aCons (op2 fIx (vl (eVar 0)) (vl (cI (.int 2)))) (aCons (eVar 5) aNil))) aNil))))))
    (sSet 3 (opN fList (oCons (vl (eSl (vl (eVar 0)) (pAt (cI (.int 1))) pNo)) oNil))))))))
    (sSeq (sSet 3 (eLc [8] (itV (eFv 3)) (.nm 8) (asB (op2 fNotIn (vl (eVar 8)) (vl (eVar 1)))) (eVar 8)))
    (sSeq (sFor (itV (eFv 4)) (.tp [(.nm 6), (.nm 7)])
    (sSet 3 (op2 fAdd (bo 3) (vl (eCall 2 [] F_open [] (oCons (vl (eVar 6)) (oCons (vl (eFz (op2 fAdd (vl (eVar 1)) (vl (eVar 7))))) oNil)))))))
    (sRet (eMv 3)))))))))
noncomputable def f_open : Nat → Fn
  | 0 => f0
  | k+1 => mkFn 11 2 [] (b_open (f_open k))
section
variable {sto : List O} {ns : List Str} {k : Nat}
theorem T.w_inn : ∀ t : T, T.ok ns t → t.own.length + (t.inn.map fun p => p.1.w).sum + 30 ≤ t.w
  | .num _, _ => by simp [T.own, T.inn, T.w]
  | .nam _, _ => by simp [T.own, T.inn, T.w]
  | .op _ _ _, _ => by simp [T.own, T.inn, T.w]
  | .mk _ ys, h => by have := h.2.2; simp [T.own, T.inn, T.w]; omega
  | .fn _ _, _ => by simp [T.own, T.inn, T.w]; omega
  | .lt _ _ _ _, _ => by simp [T.own, T.inn, T.w]; omega
  | .la ps t, _ => by
    have : ∀ l : List (Str × List Str × T), (l.map fun q => q.2.2.w).sum ≤ (l.map fun q => 80 + q.2.2.w).sum := fun l => by
      induction l with
      | nil => simp
      | cons a l ih => simp; omega
    have := this ps.l
    simp [T.own, T.inn, T.w, R.w_l, Function.comp_def]; omega
  | .by_ _ rs, h => by
    have key : ∀ l : List (Str × List Str × T), (l.map fun q => q.2.2.w).sum + 80 * l.length ≤ (l.map fun q => 80 + q.2.2.w).sum := fun l => by
      induction l with
      | nil => simp
      | cons a l ih => simp; omega
    have := key rs.l
    have := h.2.2.1
    simp [T.own, T.inn, T.w, R.w_l, Function.comp_def]; omega
end
section
variable {sto : List O} {ns : List Str} {k : Nat}
def OpenS (ns : List Str) (F : Fn) (k : Nat) : Prop := ∀ {t : T} {bs : List Str} {sto : List O} {Q : O → List O → List O → Prop} {E : Nat → List I → List O → List O → Prop}, t.ok ns → t.dp ≤ k → bs.length + 6 * k ≤ 1000 → t.w ≤ 1000000 →
  (∀ ys : List Str, (∀ z, z ∈ ys ↔ z ∈ fvL k t ∧ z ∉ bs) → ys.length ≤ t.w → Q (.lst ((strI ys).map .im)) [.hole, .hole] sto) → Does F [.im (enc t), .im (.lst (strI bs))] sto Q E
theorem open_rest {F : Fn} (hF : OpenS ns F k) {t : T} {bs : List Str} {x2 o4 x5 : O} {Q : O → List O → List O → Prop} {E : Nat → List I → List O → List O → Prop} (ok : t.ok ns) (hd : t.dp ≤ k + 1) (hb : bs.length + 6 * (k + 1) ≤ 1000) (hw : t.w ≤ 1000000)
    (h4 : fzb o4 = true) (e4 : frz o4 = .lst (t.inn.map fun p => .tup [enc p.1, .lst (strI p.2)]))
    (h : ∀ ys : List Str, (∀ z, z ∈ ys ↔ z ∈ fvL (k + 1) t ∧ z ∉ bs) → ys.length ≤ t.w → Q (.lst ((strI ys).map .im)) [.hole, .hole] sto) :
    Run (sSeq (sSet 3 (eLc [8] (itV (eFv 3)) (.nm 8) (asB (op2 fNotIn (vl (eVar 8)) (vl (eVar 1)))) (eVar 8)))
      (sSeq (sFor (itV (eFv 4)) (.tp [(.nm 6), (.nm 7)])
        (sSet 3 (op2 fAdd (bo 3) (vl (eCall 2 [] F [] (oCons (vl (eVar 6)) (oCons (vl (eFz (op2 fAdd (vl (eVar 1)) (vl (eVar 7))))) oNil)))))))
      (sRet (eMv 3)))) ⟨[.im (enc t), .im (.lst (strI bs)), x2, .lst ((strI t.own).map .im), o4, x5, .hole, .hole, .hole, .hole, .hole], sto⟩ (fun st f => match f with
        | .rt o => Q o (fin [] 2 st) st.sto
        | .nx => Q (.im .non) (fin [] 2 st) st.sto
        | _ => False) fun st c i => E c i (fin [] 2 st) st.sto := by
  have hwi := T.w_inn t ok
  rw [r_sSeq]; simp [fzbL_im, frzL_im]
  refine lc_filtL (f := I.str) (l := T.own t) (fun x => !decide (x ∈ bs)) (fun x => .str x) rfl (by rw [sizeLine_eq]; omega) (fun x hx => ?_) ?_
  · by_cases hx2 : x ∈ bs <;> simp [wip, hx2]
  simp
  rw [r_sSeq, r_sFor]; simp [h4, e4]
  refine r_forL (fun l st => ∃ (pre suf : List (T × List Str)) (ys : List Str) (x6 x7 : O), t.inn = pre ++ suf ∧ l = suf.map (fun p => I.tup [enc p.1, .lst (strI p.2)]) ∧ ys.length ≤ t.own.length + (pre.map fun p => p.1.w).sum ∧
    (∀ z, z ∈ ys ↔ (z ∈ t.own ∨ ∃ p ∈ pre, z ∈ fvL k p.1 ∧ z ∉ p.2) ∧ z ∉ bs) ∧ st = ⟨[.im (enc t), .im (.lst (strI bs)), x2, .lst ((strI ys).map .im), .im (.lst (t.inn.map fun p => .tup [enc p.1, .lst (strI p.2)])), x5, x6, x7, .hole, .hole, .hole], sto⟩)
    ⟨[], t.inn, t.own.filter (fun x => !decide (x ∈ bs)), _, _, rfl, rfl, by simpa using List.length_filter_le _ _, fun z => by simp [List.mem_filter], by simp [strI]; exact ⟨rfl, rfl⟩⟩ ?_ ?_
  · rintro i r st hi ⟨pre, suf, ys, x6, x7, e1, e2, hl, hm, rfl⟩
    obtain ⟨p, suf, rfl, rfl, rfl⟩ := map_cons_inv e2.symm
    have hp := ok.inn p (by rw [e1]; simp)
    have hsum : (pre.map fun p => p.1.w).sum + (p.1.w + (suf.map fun p => p.1.w).sum) = (t.inn.map fun p => p.1.w).sum := by rw [e1]; simp
    simp
    refine ⟨by rw [sizeLine_eq]; omega, ?_⟩
    rw [← strI_app]
    refine hF hp.1 (by omega) (by simp; omega) (by omega) fun zs hz hzl => ?_
    simp
    refine ⟨by rw [sizeLine_eq]; omega, pre ++ [p], suf, by rw [e1]; simp, rfl, ys ++ zs, by simp; omega, fun z => ?_, by simp [strI]⟩
    rw [List.mem_append, hm, hz, List.mem_append]
    obtain ⟨p1, p2⟩ := p
    simp only [List.mem_append, List.mem_singleton, Prod.exists, Prod.mk.injEq, not_or]
    constructor
    · rintro (⟨h | ⟨a, b, h, q⟩, hb⟩ | ⟨h, hb, hp2⟩)
      · exact ⟨.inl h, hb⟩
      · exact ⟨.inr ⟨a, b, .inl h, q⟩, hb⟩
      · exact ⟨.inr ⟨p1, p2, .inr ⟨rfl, rfl⟩, h, hp2⟩, hb⟩
    · rintro ⟨h | ⟨a, b, h | ⟨rfl, rfl⟩, q⟩, hb⟩
      · exact .inl ⟨.inl h, hb⟩
      · exact .inl ⟨.inr ⟨a, b, h, q⟩, hb⟩
      · exact .inr ⟨q.1, hb, q.2⟩
  · rintro st ⟨pre, suf, ys, x6, x7, e1, e2, hl, hm, rfl⟩
    have : suf = [] := List.map_eq_nil_iff.mp e2.symm
    subst this
    rw [List.append_nil] at e1
    subst e1
    simp
    refine h ys (fun z => ?_) (by omega)
    rw [hm, fvL, List.mem_append, List.mem_flatMap]
    simp
end
section
variable {sto : List O} {ns : List Str} {k : Nat}
theorem open_step {F : Fn} (hF : OpenS ns F k) : OpenS ns (mkFn 11 2 [] (b_open F)) (k + 1) := by
  intro t bs sto Q E ok hd hb hw h
  rw [r_does]
  unfold b_open
  have go := fun x2 o4 x5 h4 e4 => open_rest (sto := sto) (x2 := x2) (o4 := o4) (x5 := x5) (Q := Q) (E := E) hF ok hd hb hw h4 e4 h
  have c1 : ∀ (a b c : I), fSl (some 1) none [.tup [a, b, c]] = some (.im (.tup [b, c])) := fun a b c => by
    simp [fSl, HT.sIx, cutI]
  have c0 : ∀ (a b : I), fSl (some 1) none [.tup [a, b]] = some (.im (.tup [b])) := fun a b => by
    simp [fSl, HT.sIx, cutI]
  cases t with
  | num i =>
    rw [r_sSeq]; simp [enc, at_0]
    rw [r_sSeq]; simp [sizeLine_eq]
    exact h [] (fun z => by simp [fvL, T.own, T.inn]) (by simp)
  | nam x =>
    rw [r_sSeq]; simp [enc, at_0]
    rw [r_sSeq]; simp
    rw [r_sSeq]; simp [sizeLine_eq]
    rw [r_sSeq]; simp [sizeLine_eq]
    rw [r_sSeq]; simp [sizeLine_eq, c0]
    have q := go (.im (.str "name")) (.lst []) .hole rfl rfl
    simp [enc, T.own] at q
    exact q
  | op w x y =>
    obtain ⟨w1, w2, w3, w4, w5, w6, w7, w8, _⟩ := ops_ok ok.1
    rw [r_sSeq]; simp [enc, at_0]
    rw [r_sSeq]; simp [w8]
    rw [r_sSeq]; simp [sizeLine_eq]
    rw [r_sSeq]; simp [sizeLine_eq]
    rw [r_sSeq]; simp [sizeLine_eq, w2, w3, w4, w5, w6, w7, c1]
    have q := go (.im (.str w)) (.lst []) .hole rfl rfl
    simp [enc, T.own] at q
    exact q
  | mk x ys =>
    rw [r_sSeq]; simp [enc, at_0]
    rw [r_sSeq]; simp
    rw [r_sSeq]; simp [sizeLine_eq]
    rw [r_sSeq]; simp [sizeLine_eq]
    rw [r_sSeq]; simp [sizeLine_eq, at_2]
    have q := go (.im (.str "made")) (.lst []) .hole rfl rfl
    simp [enc, T.own] at q
    exact q
  | fn x t =>
    rw [r_sSeq]; simp [enc, at_0]
    rw [r_sSeq]; simp
    rw [r_sSeq]; simp [sizeLine_eq]
    rw [r_sSeq]; simp [sizeLine_eq]
    rw [r_sSeq]; simp [sizeLine_eq, at_1, at_2, mkTup, allIm]
    have q := go (.im (.str "fun")) (.lst [.tup [.im (enc t), .lst [.im (.str x)]]]) .hole rfl rfl
    simp [enc, T.own] at q
    exact q
  | lt w x t1 t2 =>
    have w1 : w ≠ "num" ∧ w ≠ "made" ∧ w ≠ "by" ∧ w ≠ "fun" := by rcases ok.1 with rfl | rfl <;> simp
    have w2 := ok.1
    rw [r_sSeq]; simp [enc, at_0]
    rw [r_sSeq]; simp [w1]
    rw [r_sSeq]; simp [sizeLine_eq]
    rw [r_sSeq]; simp [sizeLine_eq]
    rw [r_sSeq]; simp [sizeLine_eq, w1, w2, at_1, at_2, at_3, mkTup, allIm]
    have q := go (.im (.str w)) (.lst [.tup [.im (enc t1), .lst []], .tup [.im (enc t2), .lst [.im (.str x)]]]) .hole rfl rfl
    simp [enc, T.own] at q
    exact q
  | la ps t =>
    have h6 := ok.2.2.2.1
    have hl : ps.l.length ≤ sizeLine := by rw [sizeLine_eq]; omega
    rw [r_sSeq]; simp [enc, at_0]
    rw [r_sSeq]; simp
    rw [r_sSeq]; simp [sizeLine_eq]
    rw [r_sSeq]; simp [sizeLine_eq]
    rw [r_sSeq]; simp [at_1]
    rw [r_sSeq]; simp [at_1, encP_l, sizeLine_eq]
    refine lc_mapL (fun q => .str q.1) rfl hl (fun q hq => by simp [wip, at_0]) ?_
    simp [at_1, Function.comp_def]
    refine lc_mapL (fun q => .tup [enc q.2.2, .lst (ps.l.map fun q => .str q.1)]) rfl hl (fun q hq => by simp [wip, at_1, Function.comp_def]) ?_
    simp [at_2, sizeLine_eq]
    refine ⟨by omega, ?_⟩
    have := go (.im (.str "letall")) (.lst (ps.l.map (O.im ∘ fun q => I.tup [enc q.2.2, .lst (ps.l.map fun q => .str q.1)]) ++ [.im (.tup [enc t, .lst (ps.l.map fun q => .str q.1)])])) (.im (.lst (ps.l.map fun q => .str q.1)))
      (by simp [fzbL_comp]) (by simp [frzL_comp, T.inn, strI, Function.comp_def])
    simp [enc, encP_l, T.own] at this
    exact this
  | by_ x rs =>
    have h6 := ok.2.2.2.1
    have hl : rs.l.length ≤ sizeLine := by rw [sizeLine_eq]; omega
    rw [r_sSeq]; simp [enc, at_0]
    rw [r_sSeq]; simp
    rw [r_sSeq]; simp [sizeLine_eq]
    rw [r_sSeq]; simp [sizeLine_eq]
    rw [r_sSeq]; simp
    rw [r_sSeq]; simp [sizeLine_eq, at_1, at_2, encR_l]
    refine lc_mapL (fun q => .tup [enc q.2.2, .lst (strI q.2.1)]) rfl hl (fun q hq => by simp [wip, at_1, at_2, mkTup, allIm, sizeLine_eq]) ?_
    simp
    have := go (.im (.str "by")) (.lst ((rs.l.map fun q => I.tup [enc q.2.2, .lst (strI q.2.1)]).map O.im)) .hole
      (by simp [fzbL_comp]) (by simp [frzL_comp, T.inn, Function.comp_def])
    simp [enc, encR_l, T.own] at this
    exact this
theorem open_all : ∀ k, OpenS ns (f_open k) k
  | 0 => by
    intro _ hd _ _ _
    exact absurd (Nat.le_trans (T.dp_pos _) hd) (by decide)
  | k + 1 => by
    have e : f_open (k + 1) = mkFn 11 2 [] (b_open (f_open k)) := by rw [f_open]
    rw [e]
    exact open_step (open_all k)
end
section
variable {sto : List O} {ns : List Str}
/-- a list of texts is unlike another -/
theorem ne_strs {l m : List Str} (h : ∀ x ∈ l, PyData.strOk x = true) (h' : ∀ x ∈ m, PyData.strOk x = true) (e : l = m) : fNe [.lst (strI l), .lst (strI m)] = some (.im (.bl false)) := by
  subst e
  unfold fNe fEqB
  simp only [toD, toDL_str, Option.map_some]
  have h1 : okD (.list (l.map PyData.str)) = true := lay_str h
  have h2 : (PyData.list (l.map PyData.str)).depth ≤ 1 := by
    have : ∀ l : List Str, PyData.depthAll (l.map PyData.str) = 0 := fun l => by
      induction l with
      | nil => rfl
      | cons x l ih => simp only [List.map_cons, PyData.depthAll, PyData.depth, ih, Nat.max_self]
    simp [PyData.depth, this]
  rw [if_pos (by rw [h1]; simp; omega)]
  have h3 : ∀ l : List Str, PyData.eqvAll (l.map PyData.str) (l.map PyData.str) = true := fun l => by
    induction l with
    | nil => rfl
    | cons x l ih => simp only [List.map_cons, PyData.eqvAll, PyData.eqv, ih, beq_self_eq_true, Bool.and_self]
  simp only [PyData.eqv, h3]
  rfl
theorem ne_terms (hn : ∀ x ∈ ns, nm x) {ts : List T} (h : ∀ t ∈ ts, t.ok ns) : fNe [.lst (ts.map enc), .lst []] = some (.im (.bl (!decide (ts = [])))) := by
  have : ∃ ds, toDL (ts.map enc) = some ds ∧ PyData.canLayAll0 ds = true ∧ ds.length = ts.length := by
    induction ts with
    | nil => exact ⟨[], rfl, rfl, rfl⟩
    | cons t ts ih =>
      obtain ⟨ds, e1, e2, e3⟩ := ih fun x hx => h x (List.mem_cons_of_mem _ hx)
      obtain ⟨d, e, hd⟩ := enc_data hn t (h t List.mem_cons_self)
      exact ⟨d :: ds, by rw [List.map_cons, toDL, e, e1], by simp [PyData.canLayAll0, hd.lay, e2], by simp [e3]⟩
  obtain ⟨ds, e1, e2, e3⟩ := this
  unfold fNe fEqB
  simp only [toD, e1, Option.map_some, toDL]
  have h1 : okD (.list ds) = true := e2
  have h2 : (PyData.list []).depth = 1 := rfl
  have h3 : okD (.list []) = true := rfl
  rw [if_pos (by rw [h1, h2, h3]; simp; omega)]
  cases ts with
  | nil =>
    have : ds = [] := List.length_eq_zero_iff.mp e3
    subst this
    rfl
  | cons t ts =>
    cases ds with
    | nil => simp at e3
    | cons d ds => rfl
theorem met_nd : ∀ {xs l : List Str}, l.Nodup → (metS l xs).Nodup
  | [], _, h => h
  | x :: xs, l, h => by
    unfold metS
    refine met_nd ?_
    split
    · exact h
    · rename_i hx; exact List.nodup_cons.mpr ⟨hx, h⟩
theorem met_mem : ∀ {xs l : List Str} {z : Str}, z ∈ metS l xs ↔ z ∈ l ∨ z ∈ xs
  | [], l, z => by simp [metS]
  | x :: xs, l, z => by
    unfold metS
    rw [met_mem]
    split
    · rename_i h
      simp only [List.mem_cons]
      constructor
      · rintro (h' | h')
        · exact .inl h'
        · exact .inr (.inr h')
      · rintro (h' | rfl | h')
        · exact .inl h'
        · exact .inl h
        · exact .inr h'
    · simp only [List.mem_cons]
      constructor
      · rintro ((rfl | h') | h')
        · exact .inr (.inl rfl)
        · exact .inl h'
        · exact .inr (.inr h')
      · rintro (h' | rfl | h')
        · exact .inl (.inr h')
        · exact .inl (.inl rfl)
        · exact .inr h'
theorem srt_set {ys : List Str} (h : (metS [] ys).length < 64) : fSrtSet [.lst (strI ys)] = some (.lst ((strI (sortS (metS [] ys))).map .im)) := by
  have e : strsOf (strI ys) = some ys := by
    induction ys with
    | nil => rfl
    | cons y ys ih =>
      have : ∀ l : List Str, strsOf (strI l) = some l := fun l => by
        induction l with
        | nil => rfl
        | cons y l ih => show (strsOf (strI l)).map (y :: ·) = _; rw [ih]; rfl
      exact this _
  show (match strsOf (strI ys) with | some ys => if (metS [] ys).length < 64 then some (O.lst ((sortS (metS [] ys)).map fun s => O.im (.str s))) else none | none => none) = _
  rw [e]
  simp only [h, if_true]
  simp [strI]
@[simp] theorem flo_enc {st : VS.St} {t : T} : flo st (.im (enc t)) = some (enc t) := by cases t <;> (rw [enc]; rfl)
theorem len_w (ns : List Str) : ∀ ts : List T, (∀ t ∈ ts, t.ok ns) → ts.length ≤ (ts.map T.w).sum
  | [], _ => by simp
  | t :: ts, h => by
    have := len_w ns ts fun x hx => h x (List.mem_cons_of_mem _ hx)
    have := T.w_inn t (h t List.mem_cons_self)
    simp; omega
theorem encT (t : T) : ∃ l, enc t = .tup l := by cases t <;> exact ⟨_, by rw [enc]⟩
theorem seen_ok (hn : ∀ x ∈ ns, nm x) {t : T} (ok : t.ok ns) (hd : t.dp ≤ 16) (hw : t.w ≤ 100000) : ∃ s, fRepr [enc t] = some (.im (.str s)) := by
  obtain ⟨d, e, hdd⟩ := enc_data hn t ok
  obtain ⟨l, el⟩ := encT t
  rw [el] at e ⊢
  have e' : (toDL l).map PyData.tuple = some d := by rw [← e, toD]
  obtain ⟨ds, e1, e2⟩ := Option.map_eq_some_iff.mp e'
  have hL : DOkL ds 48 100000 := by
    subst e2
    refine ⟨hdd.lay, ?_, Nat.le_trans hdd.bk hw, hdd.lv, hdd.sh⟩
    have := hdd.dp
    simp only [PyData.depth] at this
    omega
  obtain ⟨s, h, _⟩ := repr_ok e1 hL (by decide) (by decide)
  exact ⟨s, h⟩
end
end VT

namespace VT
open PySem L2 VS
/-! free names, without fuel -/
def FV (t : T) (z : Str) : Prop := z ∈ fvL t.dp t
theorem fvL_step (k : Nat) (t : T) (z : Str) : z ∈ fvL (k + 1) t ↔ z ∈ t.own ∨ ∃ p ∈ t.inn, z ∈ fvL k p.1 ∧ z ∉ p.2 := by
  rw [fvL, List.mem_append, List.mem_flatMap]
  simp
theorem T.inn_dp : ∀ {t : T}, ∀ p ∈ t.inn, p.1.dp < t.dp
  | .num _, p, h => by simp [T.inn] at h
  | .nam _, p, h => by simp [T.inn] at h
  | .op _ _ _, p, h => by simp [T.inn] at h
  | .mk _ _, p, h => by simp [T.inn] at h
  | .fn _ t, p, h => by simp [T.inn] at h; subst h; simp [T.dp]
  | .lt _ _ a b, p, h => by
    simp [T.inn] at h
    rcases h with rfl | rfl <;> simp only [T.dp] <;> omega
  | .la ps t, p, h => by
    simp only [T.inn, List.mem_append, List.mem_map, List.mem_singleton] at h
    have hd := R.dp_le.mp (Nat.le_refl ps.dp)
    rcases h with ⟨q, hq, rfl⟩ | rfl
    · have := hd q hq
      simp only [T.dp]; omega
    · simp only [T.dp]; omega
  | .by_ _ rs, p, h => by
    simp only [T.inn, List.mem_map] at h
    have hd := R.dp_le.mp (Nat.le_refl rs.dp)
    obtain ⟨q, hq, rfl⟩ := h
    have := hd q hq
    simp only [T.dp]; omega
theorem fvL_more : ∀ (k : Nat) (t : T) (z : Str), t.dp ≤ k → (z ∈ fvL k t ↔ z ∈ fvL (k + 1) t)
  | 0, t, z, h => by have := t.dp_pos; omega
  | k + 1, t, z, h => by
    rw [fvL_step, fvL_step]
    refine or_congr Iff.rfl ⟨?_, ?_⟩
    · rintro ⟨p, hp, a, b⟩
      exact ⟨p, hp, (fvL_more k p.1 z (by have := T.inn_dp p hp; omega)).mp a, b⟩
    · rintro ⟨p, hp, a, b⟩
      exact ⟨p, hp, (fvL_more k p.1 z (by have := T.inn_dp p hp; omega)).mpr a, b⟩
theorem fvL_FV {k : Nat} {t : T} {z : Str} (h : t.dp ≤ k) : z ∈ fvL k t ↔ FV t z := by
  unfold FV
  induction h with
  | refl => exact Iff.rfl
  | step h ih => rw [← fvL_more _ t z h]; exact ih
theorem FV_iff {t : T} {z : Str} : FV t z ↔ z ∈ t.own ∨ ∃ p ∈ t.inn, FV p.1 z ∧ z ∉ p.2 := by
  rw [← fvL_FV (k := t.dp + 1) (by omega), fvL_step]
  refine or_congr Iff.rfl ⟨?_, ?_⟩
  · rintro ⟨p, hp, a, b⟩
    exact ⟨p, hp, (fvL_FV (by have := T.inn_dp p hp; omega)).mp a, b⟩
  · rintro ⟨p, hp, a, b⟩
    exact ⟨p, hp, (fvL_FV (by have := T.inn_dp p hp; omega)).mpr a, b⟩
noncomputable def b_is_program : SM := (sRet (eAnd (eCall 1 [] f_is_term [] (oCons (vl (eVar 0)) oNil)) (op2 fEq (vl (eCall 1 [] (f_free_names 64) [] (oCons (vl (eVar 0)) oNil))) (vl (eLst aNil)))))
noncomputable def f_is_program : Fn := mkFn 1 1 [] b_is_program
theorem eq_nil_strs {l : List Str} (h : ∀ x ∈ l, PyData.strOk x = true) : fEq [.lst (strI l), .lst []] = some (.im (.bl (decide (l = [])))) := by
  unfold fEq fEqB
  simp only [toD, toDL_str, Option.map_some, toDL]
  have h1 : okD (.list (l.map PyData.str)) = true := lay_str h
  have h2 : (PyData.list []).depth = 1 := rfl
  have h3 : okD (.list []) = true := rfl
  rw [if_pos (by rw [h1, h2, h3]; simp; omega)]
  cases l with
  | nil => rfl
  | cons x l => rfl
section
variable {sto : List O} {ns : List Str} {Q : O → List O → List O → Prop} {E : Nat → List I → List O → List O → Prop}
theorem isprog_no {P : Str → Prop} {i : I} (hi : Th P i) (hn : isTerm i = false) (h : Q (.im (.bl false)) [.hole] sto) : Does f_is_program [.im i] sto Q E := by
  unfold f_is_program
  rw [r_does]
  unfold b_is_program
  simp
  refine isterm_does hi ?_
  simp [hn]
  exact h
open Classical in
theorem isprog_yes {P : Str → Prop} {t : T} (hn : ∀ x ∈ ns, nm x) (h8 : ns.length < 64) (ok : t.ok ns) (hd : t.dp ≤ 64) (hi : Th P (enc t)) (ht : isTerm (enc t) = true) (h : Q (.im (.bl (decide (∀ z, ¬ FV t z)))) [.hole] sto) : Does f_is_program [.im (enc t)] sto Q E := by
  unfold f_is_program
  rw [r_does]
  unfold b_is_program
  simp
  refine isterm_does hi ?_
  simp [ht]
  refine free_all h8 64 ok hd fun ks knd hk => ?_
  have hk' : ∀ z, z ∈ ks ↔ FV t z := fun z => (hk z).trans (fvL_FV hd)
  simp [sizeLine_eq]
  rw [eq_nil_strs fun x hx => (hn x (fvL_ok 64 ok x ((hk x).mp (sortS_mem.mp hx)))).1]
  have e : (sortS ks = []) ↔ ∀ z, ¬ FV t z := by
    constructor
    · intro e z hz
      have := sortS_mem.mpr ((hk' z).mpr hz)
      rw [e] at this
      cases this
    · intro e
      cases hs : sortS ks with
      | nil => rfl
      | cons x l =>
        have : x ∈ sortS ks := by rw [hs]; exact List.mem_cons_self
        exact absurd ((hk' x).mp (sortS_mem.mp this)) (e x)
  have e2 : decide (sortS ks = []) = decide (∀ z, ¬ FV t z) := by
    by_cases q : sortS ks = []
    · rw [decide_eq_true q, decide_eq_true (e.mp q)]
    · rw [decide_eq_false q, decide_eq_false (fun z => q (e.mpr z))]
  simp
  rw [e2]
  exact h
end
/-! a term is a thing -/
def wordsS : List Str := ["num", "name", "fun", "call", "let", "now", "letall", "made", "by", "sum", "minus", "less", "same"]
theorem words_nm : ∀ w ∈ wordsS, nm w ∧ nmL w := by
  intro w hw
  unfold wordsS at hw
  simp only [List.mem_cons, List.not_mem_nil, or_false] at hw
  rcases hw with rfl | rfl | rfl | rfl | rfl | rfl | rfl | rfl | rfl | rfl | rfl | rfl | rfl <;> exact ⟨⟨by decide +kernel, by decide +kernel⟩, by decide +kernel⟩
theorem th_nm {P : Str → Prop} {x : Str} (h : P x) (hn : nm x) : Th P (.str x) := by
  unfold Th
  exact ⟨h, by rw [sizeLine_eq]; have := hn.2; omega, hn.1⟩
theorem th_mk {P : Str → Prop} {l : List I} (h : ∀ i ∈ l, Th P i) (hl : l.length ≤ 3000) : Th P (.tup l) := by
  unfold Th
  exact ⟨ThL_mem.mpr h, hl⟩
section
variable {ns : List Str} {P : Str → Prop}
theorem th_names (hn : ∀ x ∈ ns, P x ∧ nm x) {ys : List Str} (hy : ∀ y ∈ ys, y ∈ ns) (hl : ys.length ≤ 3000) : Th P (.tup (strI ys)) := by
  refine th_mk (fun i hi => ?_) (by simpa using hl)
  obtain ⟨y, hy', rfl⟩ := strI_mem.mp hi
  obtain ⟨a, b⟩ := hn y (hy y hy')
  exact th_nm a b
mutual
theorem th_enc (hn : ∀ x ∈ ns, P x ∧ nm x) (hw : ∀ w ∈ wordsS, P w) : ∀ t : T, t.ok ns → Th P (enc t)
  | .num i, _ => by
    rw [enc]
    have h1 := th_nm (hw "num" (by simp [wordsS])) (words_nm "num" (by simp [wordsS])).1
    refine th_mk (fun j hj => ?_) (by simp)
    simp at hj; rcases hj with rfl | rfl
    · exact h1
    · exact trivial
  | .nam x, h => by
    rw [enc]
    have h1 := th_nm (hw "name" (by simp [wordsS])) (words_nm "name" (by simp [wordsS])).1
    have h2 := th_nm (hn x h).1 (hn x h).2
    refine th_mk (fun j hj => ?_) (by simp)
    simp at hj; rcases hj with rfl | rfl
    · exact h1
    · exact h2
  | .op w x y, ⟨ho, hx, hy⟩ => by
    rw [enc]
    have hww : w ∈ wordsS := by
      unfold ops at ho
      simp only [List.mem_cons, List.not_mem_nil, or_false] at ho
      rcases ho with rfl | rfl | rfl | rfl | rfl <;> simp [wordsS]
    have h1 := th_nm (hw w hww) (words_nm w hww).1
    have h2 := th_nm (hn x hx).1 (hn x hx).2
    have h3 := th_nm (hn y hy).1 (hn y hy).2
    refine th_mk (fun j hj => ?_) (by simp)
    simp at hj; rcases hj with rfl | rfl | rfl
    · exact h1
    · exact h2
    · exact h3
  | .mk x ys, ⟨hx, hy, hl⟩ => by
    rw [enc]
    have h1 := th_nm (hw "made" (by simp [wordsS])) (words_nm "made" (by simp [wordsS])).1
    have h2 := th_nm (hn x hx).1 (hn x hx).2
    have h3 := th_names hn hy (by omega)
    refine th_mk (fun j hj => ?_) (by simp)
    simp at hj; rcases hj with rfl | rfl | rfl
    · exact h1
    · exact h2
    · exact h3
  | .fn x t, ⟨hx, ht⟩ => by
    rw [enc]
    have h1 := th_nm (hw "fun" (by simp [wordsS])) (words_nm "fun" (by simp [wordsS])).1
    have h2 := th_nm (hn x hx).1 (hn x hx).2
    have h3 := th_enc hn hw t ht
    refine th_mk (fun j hj => ?_) (by simp)
    simp at hj; rcases hj with rfl | rfl | rfl
    · exact h1
    · exact h2
    · exact h3
  | .lt w x a b, ⟨ho, hx, ha, hb⟩ => by
    rw [enc]
    have hww : w ∈ wordsS := by rcases ho with rfl | rfl <;> simp [wordsS]
    have h1 := th_nm (hw w hww) (words_nm w hww).1
    have h2 := th_nm (hn x hx).1 (hn x hx).2
    have h3 := th_enc hn hw a ha
    have h4 := th_enc hn hw b hb
    refine th_mk (fun j hj => ?_) (by simp)
    simp at hj; rcases hj with rfl | rfl | rfl | rfl
    · exact h1
    · exact h2
    · exact h3
    · exact h4
  | .la ps t, ⟨hp, ht, _, h6, _⟩ => by
    rw [enc]
    have h1 := th_nm (hw "letall" (by simp [wordsS])) (words_nm "letall" (by simp [wordsS])).1
    have h2 := (th_encR hn hw ps hp).1
    have h3 := th_enc hn hw t ht
    have hl : (encP ps).length ≤ 3000 := by rw [encP_l]; simp; omega
    refine th_mk (fun j hj => ?_) (by simp)
    simp at hj; rcases hj with rfl | rfl | rfl
    · exact h1
    · exact th_mk h2 hl
    · exact h3
  | .by_ x rs, ⟨hr, hx, _, h6, _⟩ => by
    rw [enc]
    have h1 := th_nm (hw "by" (by simp [wordsS])) (words_nm "by" (by simp [wordsS])).1
    have h2 := th_nm (hn x hx).1 (hn x hx).2
    have h3 := (th_encR hn hw rs hr).2
    have hl : (encR rs).length ≤ 3000 := by rw [encR_l]; simp; omega
    refine th_mk (fun j hj => ?_) (by simp)
    simp at hj; rcases hj with rfl | rfl | rfl
    · exact h1
    · exact h2
    · exact th_mk h3 hl
theorem th_encR (hn : ∀ x ∈ ns, P x ∧ nm x) (hw : ∀ w ∈ wordsS, P w) : ∀ r : R, r.ok ns → (∀ i ∈ encP r, Th P i) ∧ (∀ i ∈ encR r, Th P i)
  | .nil, _ => by rw [encP, encR]; simp
  | .cons x ys t r, ⟨hx, hy, hl, ht, hr⟩ => by
    rw [encP, encR]
    obtain ⟨a, b⟩ := th_encR hn hw r hr
    have h2 := th_nm (hn x hx).1 (hn x hx).2
    have h3 := th_enc hn hw t ht
    have h4 := th_names hn hy (by have := hl.1; omega)
    refine ⟨fun i hi => ?_, fun i hi => ?_⟩
    · rcases List.mem_cons.mp hi with rfl | hi
      · refine th_mk (fun j hj => ?_) (by simp)
        simp at hj; rcases hj with rfl | rfl
        · exact h2
        · exact h3
      · exact a i hi
    · rcases List.mem_cons.mp hi with rfl | hi
      · refine th_mk (fun j hj => ?_) (by simp)
        simp at hj; rcases hj with rfl | rfl | rfl
        · exact h2
        · exact h4
        · exact h3
      · exact b i hi
end
end
/-! how far things lie within one another -/
mutual
def dI : I → Nat
  | .tup l => 1 + dIL l
  | .lst l => 1 + dIL l
  | _ => 0
def dIL : List I → Nat
  | [] => 0
  | i :: l => max (dI i) (dIL l)
end
theorem dIL_le {n : Nat} : ∀ {l : List I}, dIL l ≤ n ↔ ∀ i ∈ l, dI i ≤ n
  | [] => by simp [dIL]
  | i :: l => by
    rw [dIL]
    simp only [List.mem_cons, forall_eq_or_imp]
    rw [← dIL_le (l := l)]
    omega
mutual
theorem dI_toD : ∀ (i : I) (d : PyData), toD i = some d → dI i = d.depth
  | .non, _, h => by cases h; rfl
  | .bl _, _, h => by cases h; rfl
  | .int _, _, h => by cases h; rfl
  | .str _, _, h => by cases h; rfl
  | .tup l, d, h => by
    rw [toD] at h
    obtain ⟨ds, e, rfl⟩ := Option.map_eq_some_iff.mp h
    rw [dI, dIL_toD l ds e, PyData.depth]; omega
  | .lst l, d, h => by
    rw [toD] at h
    obtain ⟨ds, e, rfl⟩ := Option.map_eq_some_iff.mp h
    rw [dI, dIL_toD l ds e, PyData.depth]; omega
  | .dct _ _, _, h => by rw [toD] at h; cases h
  | .ref _, _, h => by rw [toD] at h; cases h
  | .fn _, _, h => by rw [toD] at h; cases h
theorem dIL_toD : ∀ (l : List I) (ds : List PyData), toDL l = some ds → dIL l = PyData.depthAll ds
  | [], _, h => by cases h; rfl
  | i :: l, ds, h => by
    rw [toDL] at h
    split at h
    · rename_i e1 e2
      cases h
      rw [dIL, dI_toD i _ e1, dIL_toD l _ e2, PyData.depthAll]
    · cases h
end
theorem dI_enc {ns : List Str} (hn : ∀ x ∈ ns, nm x) {t : T} (ok : t.ok ns) : dI (enc t) ≤ 3 * t.dp := by
  obtain ⟨d, e, hd⟩ := enc_data hn t ok
  rw [dI_toD _ _ e]; exact hd.dp
end VT

namespace VT
open PySem L2 VS
/-! things: few beside one another, short texts, numbers not great -/
mutual
def Gw (m : Nat) : I → Prop
  | .non => True
  | .bl _ => True
  | .int i => i.natAbs ≤ 10 ^ 18 + 1
  | .str x => nm x
  | .tup l => GwL m l ∧ l.length ≤ m
  | .lst l => GwL m l ∧ l.length ≤ m
  | .dct _ _ => False
  | .ref _ => False
  | .fn _ => False
def GwL (m : Nat) : List I → Prop
  | [] => True
  | i :: l => Gw m i ∧ GwL m l
end
theorem GwL_mem {m : Nat} : ∀ {l : List I}, GwL m l ↔ ∀ i ∈ l, Gw m i
  | [] => by simp [GwL]
  | i :: l => by rw [GwL, GwL_mem (l := l)]; simp
theorem gw_tup {m : Nat} {l : List I} : Gw m (.tup l) ↔ (∀ i ∈ l, Gw m i) ∧ l.length ≤ m := by rw [Gw, GwL_mem]
theorem gw_lst {m : Nat} {l : List I} : Gw m (.lst l) ↔ (∀ i ∈ l, Gw m i) ∧ l.length ≤ m := by rw [Gw, GwL_mem]
mutual
theorem Gw.mono {m n : Nat} (h : m ≤ n) : ∀ {i : I}, Gw m i → Gw n i
  | .non, _ => trivial
  | .bl _, _ => trivial
  | .int _, q => q
  | .str _, q => q
  | .tup l, q => ⟨GwL.mono h q.1, Nat.le_trans q.2 h⟩
  | .lst l, q => ⟨GwL.mono h q.1, Nat.le_trans q.2 h⟩
theorem GwL.mono {m n : Nat} (h : m ≤ n) : ∀ {l : List I}, GwL m l → GwL n l
  | [], _ => trivial
  | i :: l, q => ⟨Gw.mono h q.1, GwL.mono h q.2⟩
end
mutual
theorem Gw.th {m : Nat} (h : m ≤ 3000) : ∀ {i : I}, Gw m i → Th (fun _ => True) i
  | .non, _ => trivial
  | .bl _, _ => trivial
  | .int _, _ => trivial
  | .str x, q => by
    unfold Gw at q
    unfold Th
    exact ⟨trivial, by rw [sizeLine_eq]; have := q.2; omega, q.1⟩
  | .tup l, q => ⟨GwL.th h q.1, Nat.le_trans q.2 h⟩
  | .lst l, q => ⟨GwL.th h q.1, Nat.le_trans q.2 h⟩
theorem GwL.th {m : Nat} (h : m ≤ 3000) : ∀ {l : List I}, GwL m l → ThL (fun _ => True) l
  | [], _ => trivial
  | i :: l, q => ⟨Gw.th h q.1, GwL.th h q.2⟩
end
mutual
/-- how many things -/
def bI : I → Nat
  | .str x => x.length
  | .tup l => bIL l
  | .lst l => bIL l
  | _ => 0
def bIL : List I → Nat
  | [] => 0
  | i :: l => bI i + 1 + bIL l
end
theorem bIL_app : ∀ l m : List I, bIL (l ++ m) = bIL l + bIL m
  | [], m => by simp [bIL]
  | i :: l, m => by rw [List.cons_append, bIL, bIL_app l m, bIL]; omega
theorem dIL_app : ∀ l m : List I, dIL (l ++ m) = max (dIL l) (dIL m)
  | [], m => by simp [dIL]
  | i :: l, m => by rw [List.cons_append, dIL, dIL_app l m, dIL]; omega
theorem bI_mem {l : List I} {i : I} (h : i ∈ l) : bI i + 1 ≤ bIL l := by
  obtain ⟨a, b, rfl⟩ := List.append_of_mem h
  rw [bIL_app, bIL]; omega
theorem dI_mem {l : List I} {i : I} (h : i ∈ l) : dI i ≤ dIL l := by
  obtain ⟨a, b, rfl⟩ := List.append_of_mem h
  rw [dIL_app, dIL]; omega
theorem DOk.int2 {i : Int} {dep blk : Nat} (h : i.natAbs ≤ 10 ^ 18 + 1) : DOk (.int i) dep blk := by
  refine ⟨rfl, by simp [PyData.depth], by simp [PyData.bulk], ?_, ?_⟩
  · have h1 : i.natAbs < 10 ^ 19 := Nat.lt_of_le_of_lt h (by decide)
    have h2 := int_text_length_le10 (k := 19) (by decide) h1
    simp only [PyData.leavesShort, decide_eq_true_eq]
    show (Str.ofString (toString i)).length ≤ 24
    rw [ofString_length]; omega
  · simp only [PyData.showable, decide_eq_true_eq]
    have h1 : i.natAbs < 2 ^ 64 := Nat.lt_of_le_of_lt h (by decide)
    by_cases h0 : i.natAbs = 0
    · rw [h0]; decide
    · exact Nat.lt_trans ((Nat.log2_lt h0).mpr h1) (by decide)
mutual
theorem Gw.data {m : Nat} : ∀ {i : I}, Gw m i → ∃ d, toD i = some d ∧ DOk d (dI i) (bI i)
  | .non, _ => ⟨_, by rw [toD], ⟨rfl, by simp [PyData.depth], by simp [PyData.bulk], rfl, rfl⟩⟩
  | .bl b, _ => ⟨_, by rw [toD], ⟨rfl, by simp [PyData.depth], by simp [PyData.bulk], rfl, rfl⟩⟩
  | .int i, q => ⟨_, by rw [toD], DOk.int2 q⟩
  | .str x, q => ⟨_, by rw [toD], DOk.str q.1 (by rw [bI]; exact Nat.le_refl _)⟩
  | .tup l, q => by
    obtain ⟨ds, e, h⟩ := GwL.data q.1
    exact ⟨_, by rw [toD, e]; rfl, h.tup.mono (by rw [dI]; omega) (by rw [bI]; exact Nat.le_refl _)⟩
  | .lst l, q => by
    obtain ⟨ds, e, h⟩ := GwL.data q.1
    exact ⟨_, by rw [toD, e]; rfl, h.lst.mono (by rw [dI]; omega) (by rw [bI]; exact Nat.le_refl _)⟩
theorem GwL.data {m : Nat} : ∀ {l : List I}, GwL m l → ∃ ds, toDL l = some ds ∧ DOkL ds (dIL l) (bIL l)
  | [], _ => ⟨[], by rw [toDL], .nil⟩
  | i :: l, q => by
    obtain ⟨d, e, h⟩ := Gw.data q.1
    obtain ⟨ds, e2, h2⟩ := GwL.data q.2
    exact ⟨_, by rw [toDL, e, e2], DOkL.cons (h.mono (by rw [dIL]; omega) (Nat.le_refl _)) (h2.mono (by rw [dIL]; omega) (Nat.le_refl _)) (by rw [bIL]; omega)⟩
end
mutual
theorem bI_toD : ∀ (i : I) (d : PyData), Gw 8 i → toD i = some d → bI i = d.bulk
  | .non, _, _, h => by cases h; rfl
  | .bl _, _, _, h => by cases h; rfl
  | .int _, _, _, h => by cases h; rfl
  | .str _, _, _, h => by cases h; rfl
  | .tup l, d, q, h => by
    rw [toD] at h
    obtain ⟨ds, e, rfl⟩ := Option.map_eq_some_iff.mp h
    rw [bI, bIL_toD l ds q.1 e, PyData.bulk]
  | .lst l, d, q, h => by
    rw [toD] at h
    obtain ⟨ds, e, rfl⟩ := Option.map_eq_some_iff.mp h
    rw [bI, bIL_toD l ds q.1 e, PyData.bulk]
theorem bIL_toD : ∀ (l : List I) (ds : List PyData), GwL 8 l → toDL l = some ds → bIL l = PyData.bulkAll ds
  | [], _, _, h => by cases h; rfl
  | i :: l, ds, q, h => by
    rw [toDL] at h
    split at h
    · rename_i e1 e2
      cases h
      rw [bIL, bI_toD i _ q.1 e1, bIL_toD l _ q.2 e2, PyData.bulkAll]
    · cases h
end
theorem Gw.repr {m : Nat} {i : I} (h : Gw m i) (h1 : dI i ≤ 100) (h2 : bI i ≤ 645000) : ∃ s, fRepr [i] = some (.im (.str s)) := by
  obtain ⟨d, e, hd⟩ := h.data
  have sz : d.shown.length ≤ sizeLine := by
    have := PyData.shown_le_bulk 24 (by decide) d hd.lv
    have := hd.bk
    rw [sizeLine_eq]; omega
  cases i with
  | tup l =>
    rw [toD] at e
    obtain ⟨ds, e2, rfl⟩ := Option.map_eq_some_iff.mp e
    refine ⟨(PyData.tuple ds).shown, ?_⟩
    show (match pdL l with | some ds => _ | none => none) = _
    rw [pdL_toD, e2]
    simp only
    rw [if_pos ⟨hd.sh, Nat.le_trans hd.dp (by omega), sz⟩]
  | lst l =>
    rw [toD] at e
    obtain ⟨ds, e2, rfl⟩ := Option.map_eq_some_iff.mp e
    refine ⟨(PyData.list ds).shown, ?_⟩
    show (match pdL l with | some ds => _ | none => none) = _
    rw [pdL_toD, e2]
    simp only
    rw [if_pos ⟨hd.sh, Nat.le_trans hd.dp (by omega), sz⟩]
  | int k =>
    refine ⟨toString k, ?_⟩
    show (if k.natAbs.log2 < 1920 then some (O.im (.str (toString k))) else none) = _
    rw [if_pos]
    have h0 : k.natAbs < 2 ^ 64 := Nat.lt_of_le_of_lt (show k.natAbs ≤ 10 ^ 18 + 1 from h) (by decide)
    by_cases q : k.natAbs = 0
    · rw [q]; decide
    · exact Nat.lt_trans ((Nat.log2_lt q).mpr h0) (by decide)
  | str x =>
    refine ⟨reprText x, ?_⟩
    rw [toD] at e
    cases e
    show (if (reprText x).length ≤ sizeLine then some (O.im (.str (reprText x))) else none) = _
    rw [if_pos (show (reprText x).length ≤ sizeLine from sz)]
  | bl b => exact ⟨_, rfl⟩
  | non => exact ⟨_, rfl⟩
  | _ => exact h.elim
theorem gw_nm {x : Str} (h : nm x) : Gw 8 (.str x) := h
theorem gw_mk {m : Nat} {l : List I} (h : ∀ i ∈ l, Gw m i) (hl : l.length ≤ m) : Gw m (.tup l) := gw_tup.mpr ⟨h, hl⟩
section
variable {ns : List Str}
theorem gw_names (hn : ∀ x ∈ ns, nm x) {ys : List Str} (hy : ∀ y ∈ ys, y ∈ ns) (hl : ys.length ≤ 8) : Gw 8 (.tup (strI ys)) := by
  refine gw_mk (fun i hi => ?_) (by simpa using hl)
  obtain ⟨y, hy', rfl⟩ := strI_mem.mp hi
  exact gw_nm (hn y (hy y hy'))
mutual
theorem gw_enc (hn : ∀ x ∈ ns, nm x) : ∀ t : T, t.ok ns → Gw 8 (enc t)
  | .num i, hi => by
    rw [enc]
    have h1 := gw_nm (words_nm "num" (by simp [wordsS])).1
    refine gw_mk (fun j hj => ?_) (by simp)
    simp at hj; rcases hj with rfl | rfl
    · exact h1
    · exact Nat.le_succ_of_le hi
  | .nam x, h => by
    rw [enc]
    have h1 := gw_nm (words_nm "name" (by simp [wordsS])).1
    have h2 := gw_nm (hn x h)
    refine gw_mk (fun j hj => ?_) (by simp)
    simp at hj; rcases hj with rfl | rfl
    · exact h1
    · exact h2
  | .op w x y, ⟨ho, hx, hy⟩ => by
    rw [enc]
    have hww : w ∈ wordsS := by
      unfold ops at ho
      simp only [List.mem_cons, List.not_mem_nil, or_false] at ho
      rcases ho with rfl | rfl | rfl | rfl | rfl <;> simp [wordsS]
    have h1 := gw_nm (words_nm w hww).1
    have h2 := gw_nm (hn x hx)
    have h3 := gw_nm (hn y hy)
    refine gw_mk (fun j hj => ?_) (by simp)
    simp at hj; rcases hj with rfl | rfl | rfl
    · exact h1
    · exact h2
    · exact h3
  | .mk x ys, ⟨hx, hy, hl⟩ => by
    rw [enc]
    have h1 := gw_nm (words_nm "made" (by simp [wordsS])).1
    have h2 := gw_nm (hn x hx)
    have h3 := gw_names hn hy (by omega)
    refine gw_mk (fun j hj => ?_) (by simp)
    simp at hj; rcases hj with rfl | rfl | rfl
    · exact h1
    · exact h2
    · exact h3
  | .fn x t, ⟨hx, ht⟩ => by
    rw [enc]
    have h1 := gw_nm (words_nm "fun" (by simp [wordsS])).1
    have h2 := gw_nm (hn x hx)
    have h3 := gw_enc hn t ht
    refine gw_mk (fun j hj => ?_) (by simp)
    simp at hj; rcases hj with rfl | rfl | rfl
    · exact h1
    · exact h2
    · exact h3
  | .lt w x a b, ⟨ho, hx, ha, hb⟩ => by
    rw [enc]
    have hww : w ∈ wordsS := by rcases ho with rfl | rfl <;> simp [wordsS]
    have h1 := gw_nm (words_nm w hww).1
    have h2 := gw_nm (hn x hx)
    have h3 := gw_enc hn a ha
    have h4 := gw_enc hn b hb
    refine gw_mk (fun j hj => ?_) (by simp)
    simp at hj; rcases hj with rfl | rfl | rfl | rfl
    · exact h1
    · exact h2
    · exact h3
    · exact h4
  | .la ps t, ⟨hp, ht, _, h6, _⟩ => by
    rw [enc]
    have h1 := gw_nm (words_nm "letall" (by simp [wordsS])).1
    have h2 := (gw_encR hn ps hp).1
    have h3 := gw_enc hn t ht
    have hl : (encP ps).length ≤ 8 := by rw [encP_l]; simp; omega
    refine gw_mk (fun j hj => ?_) (by simp)
    simp at hj; rcases hj with rfl | rfl | rfl
    · exact h1
    · exact gw_mk h2 hl
    · exact h3
  | .by_ x rs, ⟨hr, hx, _, h6, _⟩ => by
    rw [enc]
    have h1 := gw_nm (words_nm "by" (by simp [wordsS])).1
    have h2 := gw_nm (hn x hx)
    have h3 := (gw_encR hn rs hr).2
    have hl : (encR rs).length ≤ 8 := by rw [encR_l]; simp; omega
    refine gw_mk (fun j hj => ?_) (by simp)
    simp at hj; rcases hj with rfl | rfl | rfl
    · exact h1
    · exact h2
    · exact gw_mk h3 hl
theorem gw_encR (hn : ∀ x ∈ ns, nm x) : ∀ r : R, r.ok ns → (∀ i ∈ encP r, Gw 8 i) ∧ (∀ i ∈ encR r, Gw 8 i)
  | .nil, _ => by rw [encP, encR]; simp
  | .cons x ys t r, ⟨hx, hy, hl, ht, hr⟩ => by
    rw [encP, encR]
    obtain ⟨a, b⟩ := gw_encR hn r hr
    have h2 := gw_nm (hn x hx)
    have h3 := gw_enc hn t ht
    have h4 := gw_names hn hy (by have := hl.1; omega)
    refine ⟨fun i hi => ?_, fun i hi => ?_⟩
    · rcases List.mem_cons.mp hi with rfl | hi
      · refine gw_mk (fun j hj => ?_) (by simp)
        simp at hj; rcases hj with rfl | rfl
        · exact h2
        · exact h3
      · exact a i hi
    · rcases List.mem_cons.mp hi with rfl | hi
      · refine gw_mk (fun j hj => ?_) (by simp)
        simp at hj; rcases hj with rfl | rfl | rfl
        · exact h2
        · exact h4
        · exact h3
      · exact b i hi
end
end
theorem bI_enc {ns : List Str} (hn : ∀ x ∈ ns, nm x) {t : T} (ok : t.ok ns) : bI (enc t) ≤ t.w := by
  obtain ⟨d, e, hd⟩ := enc_data hn t ok
  have : ∀ (i : I) (d : PyData), Gw 8 i → toD i = some d → bI i = d.bulk := bI_toD
  rw [this _ _ (gw_enc hn t ok) e]; exact hd.bk
end VT

namespace VT
open PySem L2 VS
/-- what is told a term lies within the bounds -/
theorem walk_conv {ns : List Str} (hL : ∀ x ∈ ns, nmL x) : ∀ (f : Nat) (ts : List (T × Nat)) (m : Nat), f + m = 302 → m ≤ 300 → (∀ p ∈ ts, p.1.ok ns) → walkT f (ts.map fun p => (enc p.1, p.2)) m = true →
    (∀ p ∈ ts, p.1.dp + p.2 ≤ 61) ∧ (ts.map fun p => p.1.pc).sum + m ≤ 300
  | 0, _, _, h1, h2, _, _ => by omega
  | f + 1, [], _, _, h, _, _ => by simpa using h
  | f + 1, (t, d) :: rest, m, hf, hm, h, hw => by
    have ok : t.ok ns := h (t, d) List.mem_cons_self
    rw [List.map_cons, walkT, parts_enc hL ok] at hw
    have hp := T.pc_inn t
    simp only at hw
    split at hw
    · cases hw
    · rename_i hc
      have e : ((t.inn.map fun p => enc p.1).map fun p => (p, d + 1)).reverse ++ rest.map (fun p => (enc p.1, p.2)) = ((t.inn.map fun p => (p.1, d + 1)).reverse ++ rest).map fun p => (enc p.1, p.2) := by
        simp [Function.comp_def]
      rw [e] at hw
      obtain ⟨i1, i2⟩ := walk_conv hL f _ (m + 1) (by omega) (by omega) (fun p hp' => by
        rcases List.mem_append.mp hp' with q | q
        · simp at q
          obtain ⟨a, ⟨b, hb⟩, rfl⟩ := q
          exact (ok.inn _ hb).1
        · exact h p (List.mem_cons_of_mem _ q)) hw
      have hs : (((t.inn.map fun p => (p.1, d + 1)).reverse ++ rest).map fun p => p.1.pc).sum = (t.inn.map fun p => p.1.pc).sum + (rest.map fun p => p.1.pc).sum := by
        simp [Function.comp_def, List.sum_reverse]
      rw [hs] at i2
      refine ⟨fun p hp' => ?_, by simp; omega⟩
      rcases List.mem_cons.mp hp' with rfl | q
      · have : t.dp ≤ (60 - d) + 1 := T.dp_inn fun p hp2 => by
          have := i1 (p.1, d + 1) (List.mem_append_left _ (by simp; exact ⟨p.2, hp2⟩))
          simp at this; omega
        simp; omega
      · exact i1 p (List.mem_append_right _ q)
theorem isTerm_iff {ns : List Str} (hL : ∀ x ∈ ns, nmL x) {t : T} (ok : t.ok ns) : isTerm (enc t) = true ↔ t.dp ≤ 60 ∧ t.pc ≤ 300 := by
  constructor
  · intro h
    obtain ⟨a, b⟩ := walk_conv hL 302 [(t, 1)] 0 rfl (by omega) (by simpa using ok) h
    simp at a b
    omega
  · rintro ⟨a, b⟩
    exact isTerm_enc hL ok a b
theorem isTerm_dec {ns : List Str} (hL : ∀ x ∈ ns, nmL x) {t : T} (ok : t.ok ns) : isTerm (enc t) = decide (t.dp ≤ 60 ∧ t.pc ≤ 300) := by
  rw [Bool.eq_iff_iff, isTerm_iff hL ok, decide_eq_true_iff]
/-- the greatest -/
def mxN (l : List Nat) : Nat := l.foldr max 0
theorem maxZ_nat : ∀ l : List Nat, maxZ (l.map fun (n : Nat) => (n : Int)) = ((mxN l : Nat) : Int)
  | [] => rfl
  | [a] => by simp [maxZ, mxN]
  | a :: b :: r => by
    have ih := maxZ_nat (b :: r)
    have e : maxZ ((a :: b :: r).map fun (n : Nat) => (n : Int)) = if (a : Int) < maxZ ((b :: r).map fun (n : Nat) => (n : Int)) then maxZ ((b :: r).map fun (n : Nat) => (n : Int)) else (a : Int) := rfl
    have e2 : mxN (a :: b :: r) = max a (mxN (b :: r)) := rfl
    rw [e, ih, e2]
    split <;> omega
theorem intsOf_map {α : Type} (f : α → Int) : ∀ l : List α, intsOf (l.map fun a => I.int (f a)) = some (l.map f)
  | [] => rfl
  | a :: l => by rw [List.map_cons, intsOf, intsOf_map f l]; rfl
theorem max0 (l : List Nat) : fMaxL [.lst (.int 0 :: l.map fun (n : Nat) => I.int (n : Int))] = some (.im (.int (mxN l : Nat))) := by
  have e : (I.int 0 :: l.map fun (n : Nat) => I.int (n : Int)) = (0 :: l).map fun (n : Nat) => I.int (n : Int) := rfl
  rw [e]
  unfold fMaxL
  have q := intsOf_map (fun (n : Nat) => (n : Int)) (0 :: l)
  simp only [q]
  rw [List.map_cons]
  have := maxZ_nat (0 :: l)
  rw [List.map_cons] at this
  simp only [this]
  rfl
theorem mxN_le {l : List Nat} {n : Nat} : mxN l ≤ n ↔ ∀ a ∈ l, a ≤ n := by
  induction l with
  | nil => simp [mxN]
  | cons a l ih =>
    have e : mxN (a :: l) = max a (mxN l) := rfl
    rw [e]
    simp only [List.mem_cons, forall_eq_or_imp, ← ih]
    omega
theorem T.dp_mx (t : T) : t.dp = mxN (t.inn.map fun p => p.1.dp) + 1 := by
  apply Nat.le_antisymm
  · exact T.dp_inn fun p hp => mxN_le.mp (Nat.le_refl _) _ (List.mem_map.mpr ⟨p, hp, rfl⟩)
  · have : mxN (t.inn.map fun p => p.1.dp) ≤ t.dp - 1 := mxN_le.mpr fun a ha => by
      obtain ⟨p, hp, rfl⟩ := List.mem_map.mp ha
      have := T.inn_dp p hp
      omega
    have := t.dp_pos
    omega
end VT

namespace K07
open PySem PySem.Spec PyProof.Rows L2 VS
def l_NAMES_ALONE : List I := [.str "name", .str "call", .str "sum", .str "minus", .str "less", .str "same"]
def m_SIZES : List (Str × I) := [("num", .int 1), ("name", .int 1), ("fun", .int 2), ("call", .int 2), ("let", .int 3), ("now", .int 3), ("letall", .int 2), ("made", .int 2), ("by", .int 2), ("sum", .int 2), ("minus", .int 2), ("less", .int 2), ("same", .int 2)]
/-- is_name -/
noncomputable def b_is_name : SM := (sRet (eAnd (op1 (fIsi "str") (vl (eVar 0))) (eAnd (eCh fLe fLe (vl (cI (.int 1))) (vl (opN fLen (oCons (vl (eVar 0)) oNil))) (vl (cI (.int 8)))) (opN fAll (oCons (vl (eLc [1] (itV (eVar 0)) (.nm 1) bYes (op2 fIn (vl (eVar 1)) (vl (cI (.str "abcdefghijklmnopqrstuvwxyz")))))) oNil)))))
noncomputable def f_is_name : Fn := mkFn 2 1 [] b_is_name
/-- is_number -/
noncomputable def b_is_number : SM := (sRet (eAnd (op1 (fIsi "int") (vl (eVar 0))) (eAnd (eNot (op1 (fIsi "bool") (vl (eVar 0)))) (eCh fLe fLe (vl (op1 fNeg (vl (cI (.int 1000000000000000000))))) (vl (eVar 0)) (vl (cI (.int 1000000000000000000)))))))
noncomputable def f_is_number : Fn := mkFn 1 1 [] b_is_number
/-- is_worth_form -/
noncomputable def b_is_worth_form : SM := (sRet (eAnd (op1 (fIsi "tuple") (vl (eVar 0))) (eAnd (op2 fGt (vl (opN fLen (oCons (vl (eVar 0)) oNil))) (vl (cI (.int 0)))) (eAnd (op1 (fIsi "str") (vl (op2 fIx (vl (eVar 0)) (vl (cI (.int 0)))))) (op2 fIn (vl (op2 fIx (vl (eVar 0)) (vl (cI (.int 0))))) (vl (eTup (aCons (cI (.str "fun")) (aCons (cI (.str "made")) aNil)))))))))
noncomputable def f_is_worth_form : Fn := mkFn 1 1 [] b_is_worth_form
/-- inner_of -/
noncomputable def b_inner_of : SM := (sSeq (sStar 1 2 (eVar 0))
    (sSeq (sIf (asB (op2 fEq (vl (eVar 1)) (vl (cI (.str "fun")))))
    (sRet (eLst (aCons (eTup (aCons (op2 fIx (vl (eVar 2)) (vl (cI (.int 1)))) (aCons (eTup (aCons (op2 fIx (vl (eVar 2)) (vl (cI (.int 0)))) aNil)) aNil))) aNil)))
    sNext)
    (sSeq (sIf (asB (op2 fIn (vl (eVar 1)) (vl (eTup (aCons (cI (.str "let")) (aCons (cI (.str "now")) aNil))))))
    (sRet (eLst (aCons (eTup (aCons (op2 fIx (vl (eVar 2)) (vl (cI (.int 1)))) (aCons (eTup aNil) aNil))) (aCons (eTup (aCons (op2 fIx (vl (eVar 2)) (vl (cI (.int 2)))) (aCons (eTup (aCons (op2 fIx (vl (eVar 2)) (vl (cI (.int 0)))) aNil)) aNil))) aNil))))
    sNext)
    (sSeq (sIf (asB (op2 fEq (vl (eVar 1)) (vl (cI (.str "letall")))))
    (sSeq (sSet 3 (opN fTuple (oCons (vl (eLc [4] (itV (op2 fIx (vl (eVar 2)) (vl (cI (.int 0))))) (.nm 4) bYes (op2 fIx (vl (eVar 4)) (vl (cI (.int 0)))))) oNil)))
    (sRet (op2 fAdd (vl (eLc [4] (itV (op2 fIx (vl (eVar 2)) (vl (cI (.int 0))))) (.nm 4) bYes (eTup (aCons (op2 fIx (vl (eVar 4)) (vl (cI (.int 1)))) (aCons (eVar 3) aNil))))) (vl (eLst (aCons (eTup (aCons (op2 fIx (vl (eVar 2)) (vl (cI (.int 1)))) (aCons (eVar 3) aNil))) aNil))))))
    sNext)
    (sSeq (sIf (asB (op2 fEq (vl (eVar 1)) (vl (cI (.str "by")))))
    (sRet (eLc [4] (itV (op2 fIx (vl (eVar 2)) (vl (cI (.int 1))))) (.nm 4) bYes (eTup (aCons (op2 fIx (vl (eVar 4)) (vl (cI (.int 2)))) (aCons (op2 fIx (vl (eVar 4)) (vl (cI (.int 1)))) aNil)))))
    sNext)
    (sRet (eLst aNil)))))))
noncomputable def f_inner_of : Fn := mkFn 5 1 [] b_inner_of
/-- own_names -/
noncomputable def b_own_names : SM := (sSeq (sStar 1 2 (eVar 0))
    (sSeq (sIf (asB (op1 (fInK false l_NAMES_ALONE) (vl (eVar 1))))
    (sRet (opN fList (oCons (vl (eVar 2)) oNil)))
    sNext)
    (sSeq (sIf (asB (op2 fEq (vl (eVar 1)) (vl (cI (.str "made")))))
    (sRet (opN fList (oCons (vl (op2 fIx (vl (eVar 2)) (vl (cI (.int 1))))) oNil)))
    sNext)
    (sRet (eIf (asB (op2 fEq (vl (eVar 1)) (vl (cI (.str "by"))))) (eLst (aCons (op2 fIx (vl (eVar 2)) (vl (cI (.int 0)))) aNil)) (eLst aNil))))))
noncomputable def f_own_names : Fn := mkFn 3 1 [] b_own_names
/-- _law_feed -/
noncomputable def b__law_feed : SM := (sSeq (sSet 2 (eIf (asB (op2 fLt (vl (eVar 1)) (vl (opN fLen (oCons (vl (eVar 0)) oNil))))) (op2 fIx (vl (eVar 0)) (vl (eVar 1))) (op2 fAdd (vl (op2 fMul (vl (cI (.int 71))) (vl (eVar 1)))) (vl (cI (.int 23))))))
    (sSeq (sSet 3 (opN fMax (oCons (vl (cI (.int 0))) (oCons (vl (op2 fSub (vl (opN fAbs (oCons (vl (eVar 2)) oNil))) (vl (op2 fPow (vl (cI (.int 10))) (vl (cI (.int 18))))))) oNil))))
    (sSeq (sSet 4 (op2 fMod (vl (op2 fAdd (vl (op2 fAdd (vl (op2 fMul (vl (eVar 2)) (vl (cI (.int 6364136223846793005))))) (vl (op2 fMul (vl (cI (.int 9973))) (vl (eVar 1)))))) (vl (cI (.int 1442695040888963407))))) (vl (cI (.int 2305843009213693951)))))
    (sRet (eLst (aCons (eVar 3) (aCons (eVar 4) aNil)))))))
noncomputable def f__law_feed : Fn := mkFn 5 2 [] b__law_feed
/-- _law_take -/
noncomputable def b__law_take : SM := (sSeq (sIf (asB (op2 fGt (vl (op2 fIx (bo 0) (vl (cI (.int 0))))) (vl (cI (.int 0)))))
    (sSeq (sSet 2 (op2 fMod (vl (op2 fIx (bo 0) (vl (cI (.int 0))))) (vl (eVar 1))))
    (sSeq (sPut 0 (cI (.int 0)) (op2 fFdv (vl (op2 fIx (bo 0) (vl (cI (.int 0))))) (vl (eVar 1))))
    (sRet (eVar 2))))
    sNext)
    (sSeq (sPut 0 (cI (.int 1)) (op2 fMod (vl (op2 fAdd (vl (op2 fMul (vl (op2 fIx (bo 0) (vl (cI (.int 1))))) (vl (cI (.int 6364136223846793005))))) (vl (cI (.int 1442695040888963407))))) (vl (cI (.int 2305843009213693951)))))
    (sRet (op2 fMod (vl (op2 fFdv (vl (op2 fIx (bo 0) (vl (cI (.int 1))))) (vl (cI (.int 65536))))) (vl (eVar 1))))))
noncomputable def f__law_take : Fn := mkFn 3 2 [0] b__law_take
/-- are_names -/
noncomputable def b_are_names : SM := (sSeq (sIf (bOr (bNot (asB (op1 (fIsi "tuple") (vl (eVar 0))))) (bOr (asB (op2 fGt (vl (opN fLen (oCons (vl (eVar 0)) oNil))) (vl (cI (.int 3))))) (bNot (asB (opN fAll (oCons (vl (eLc [2] (itV (eVar 0)) (.nm 2) bYes (eFz (eCall 1 [] f_is_name [] (oCons (vl (eVar 2)) oNil))))) oNil))))))
    (sRet (cI (.bl false)))
    sNext)
    (sRet (eOr (eVar 1) (op2 fEq (vl (op1 fLenSet (vl (eVar 0)))) (vl (opN fLen (oCons (vl (eVar 0)) oNil)))))))
noncomputable def f_are_names : Fn := mkFn 3 2 [] b_are_names
/-- are_unlike -/
noncomputable def b_are_unlike : SM := (sSeq (sSet 2 (eLc [3] (itV (eVar 0)) (.nm 3) bYes (op2 fIx (vl (eVar 3)) (vl (cI (.int 0))))))
    (sSeq (sIf (bOr (bNot (asB (eCh fLe fLe (vl (eVar 1)) (vl (opN fLen (oCons (vl (eVar 0)) oNil))) (vl (cI (.int 6)))))) (bNot (asB (opN fAll (oCons (vl (eLc [4] (itV (eFv 2)) (.nm 4) bYes (eFz (eCall 1 [] f_is_name [] (oCons (vl (eVar 4)) oNil))))) oNil)))))
    (sRet (cI (.bl false)))
    sNext)
    (sRet (op2 fEq (vl (op1 fLenSet (bo 2))) (vl (opN fLen (oCons (bo 2) oNil)))))))
noncomputable def f_are_unlike : Fn := mkFn 5 2 [] b_are_unlike
/-- _law_pick -/
noncomputable def b__law_pick : SM := (sRet (op2 fIx (vl (eVar 1)) (vl (eCall 2 [0] f__law_take [] (oCons (bo 0) (oCons (vl (opN fLen (oCons (vl (eVar 1)) oNil))) oNil))))))
noncomputable def f__law_pick : Fn := mkFn 2 2 [0] b__law_pick
/-- parts_letall -/
noncomputable def b_parts_letall : SM := (sSeq (sUnpS [1, 2] (eVar 0))
    (sSeq (sIf (bOr (bNot (asB (op1 (fIsi "tuple") (vl (eVar 1))))) (bNot (asB (opN fAll (oCons (vl (eLc [3] (itV (eVar 1)) (.nm 3) bYes (eAnd (op1 (fIsi "tuple") (vl (eVar 3))) (op2 fEq (vl (opN fLen (oCons (vl (eVar 3)) oNil))) (vl (cI (.int 2))))))) oNil)))))
    (sRet (cI .non))
    sNext)
    (sSeq (sIf (bOr (bNot (asB (eCall 2 [] f_are_unlike [] (oCons (vl (eVar 1)) (oCons (vl (cI (.int 1))) oNil))))) (bNot (asB (opN fAll (oCons (vl (eLc [3] (itV (eVar 1)) (.nm 3) bYes (eFz (eCall 1 [] f_is_worth_form [] (oCons (vl (op2 fIx (vl (eVar 3)) (vl (cI (.int 1))))) oNil))))) oNil)))))
    (sRet (cI .non))
    sNext)
    (sRet (op2 fAdd (vl (eLc [3] (itV (eVar 1)) (.nm 3) bYes (op2 fIx (vl (eVar 3)) (vl (cI (.int 1)))))) (vl (eLst (aCons (eVar 2) aNil))))))))
noncomputable def f_parts_letall : Fn := mkFn 4 1 [] b_parts_letall
/-- parts_by -/
noncomputable def b_parts_by : SM := (sSeq (sUnpS [1, 2] (eVar 0))
    (sSeq (sIf (bOr (bNot (asB (eCall 1 [] f_is_name [] (oCons (vl (eVar 1)) oNil)))) (bNot (asB (op1 (fIsi "tuple") (vl (eVar 2))))))
    (sRet (cI .non))
    sNext)
    (sSeq (sIf (bNot (asB (opN fAll (oCons (vl (eLc [3] (itV (eVar 2)) (.nm 3) bYes (eAnd (op1 (fIsi "tuple") (vl (eVar 3))) (eAnd (op2 fEq (vl (opN fLen (oCons (vl (eVar 3)) oNil))) (vl (cI (.int 3)))) (eCall 2 [] f_are_names [] (oCons (vl (op2 fIx (vl (eVar 3)) (vl (cI (.int 1))))) (oCons (vl (cI (.bl false))) oNil))))))) oNil))))
    (sRet (cI .non))
    sNext)
    (sRet (eIf (asB (eCall 2 [] f_are_unlike [] (oCons (vl (eVar 2)) (oCons (vl (cI (.int 1))) oNil)))) (eLc [3] (itV (eVar 2)) (.nm 3) bYes (op2 fIx (vl (eVar 3)) (vl (cI (.int 2))))) (cI .non))))))
noncomputable def f_parts_by : Fn := mkFn 4 1 [] b_parts_by
/-- _law_deep -/
noncomputable def b__law_deep_1 : SM := (sSeq (sSet 4 (eFz (eCall 2 [0] f__law_take [] (oCons (bo 0) (oCons (vl (cI (.int 8))) oNil)))))
    (sIf (asB (op2 fEq (vl (eVar 4)) (vl (cI (.int 0)))))
    (sSet 2 (eFz (eLst (aCons (eVar 2) aNil))))
    (sIf (asB (op2 fEq (vl (eVar 4)) (vl (cI (.int 1)))))
    (sSet 2 (eTup (aCons (eVar 2) aNil)))
    (sIf (asB (op2 fEq (vl (eVar 4)) (vl (cI (.int 2)))))
    (sSet 2 (eTup (aCons (cI (.str "fun")) (aCons (cI (.str "a")) (aCons (eVar 2) aNil)))))
    (sIf (asB (op2 fEq (vl (eVar 4)) (vl (cI (.int 3)))))
    (sSet 2 (eFz (eLst (aCons (eVar 2) (aCons (eVar 3) (aCons (cI (.str "b")) aNil))))))
    (sIf (asB (op2 fEq (vl (eVar 4)) (vl (cI (.int 4)))))
    (sSet 2 (eTup (aCons (cI (.str "let")) (aCons (cI (.str "a")) (aCons (eTup (aCons (cI (.str "num")) (aCons (eVar 3) aNil))) (aCons (eVar 2) aNil))))))
    (sIf (asB (op2 fEq (vl (eVar 4)) (vl (cI (.int 5)))))
    (sSet 2 (eTup (aCons (cI (.str "now")) (aCons (cI (.str "b")) (aCons (eVar 2) (aCons (eTup (aCons (cI (.str "name")) (aCons (cI (.str "b")) aNil))) aNil))))))
    (sSet 2 (eFz (eTup (aCons (eFz (eCall 2 [0] f__law_pick [] (oCons (bo 0) (oCons (vl (eFz (eLst (aCons (cI (.str "by")) (aCons (cI (.str "letall")) (aCons (cI (.str "made")) (aCons (cI (.str "num")) aNil))))))) oNil)))) (aCons (eVar 2) aNil))))))))))))
noncomputable def b__law_deep : SM := (sSeq (sSet 2 (eFz (eCall 2 [0] f__law_pick [] (oCons (bo 0) (oCons (vl (eFz (eLst (aCons (cI .non) (aCons (cI (.bl true)) (aCons (op2 fSub (vl (cI (.int 0))) (vl (cI (.int 7)))) (aCons (cI (.str "let")) (aCons (cI (.str "a")) (aCons (eTup aNil) (aCons (eFz (eLst aNil)) (aCons (eTup (aCons (cI (.str "num")) (aCons (cI (.int 1)) aNil))) aNil))))))))))) oNil)))))
    (sSeq (sFor (itR (aCons (eVar 1) aNil)) (.nm 3)
    b__law_deep_1)
    (sRet (eVar 2))))
noncomputable def f__law_deep : Fn := mkFn 5 2 [0] b__law_deep
/-- _law_great -/
noncomputable def b__law_great_1 : SM := (sSeq (sSet 3 (eFz (eLst (aCons (eTup (aCons (cI (.str "fun")) (aCons (cI (.str "a")) (aCons (eVar 1) aNil)))) (aCons (eTup (aCons (cI (.str "let")) (aCons (cI (.str "a")) (aCons (eVar 1) (aCons (eTup (aCons (cI (.str "num")) (aCons (cI (.int 1)) aNil))) aNil))))) (aCons (eTup (aCons (cI (.str "now")) (aCons (cI (.str "a")) (aCons (eTup (aCons (cI (.str "num")) (aCons (cI (.int 1)) aNil))) (aCons (eVar 1) aNil))))) aNil))))))
    (sSet 1 (eFz (eCall 2 [0] f__law_pick [] (oCons (bo 0) (oCons (vl (eVar 3)) oNil))))))
noncomputable def b__law_great : SM := (sSeq (sSet 1 (eTup (aCons (cI (.str "num")) (aCons (cI (.int 0)) aNil))))
    (sSeq (sFor (itR (aCons (op2 fAdd (vl (cI (.int 61))) (vl (eCall 2 [0] f__law_take [] (oCons (bo 0) (oCons (vl (cI (.int 230))) oNil))))) aNil)) (.nm 2)
    b__law_great_1)
    (sSeq (sSet 4 (opN fTuple (oCons (vl (eLc [8] (itR (aCons (op2 fAdd (vl (cI (.int 7))) (vl (eCall 2 [0] f__law_take [] (oCons (bo 0) (oCons (vl (cI (.int 400))) oNil))))) aNil)) (.nm 8) bYes (eTup (aCons (op2 fAdd (vl (cI (.str "a"))) (vl (op2 fIx (vl (cI (.str "bcdefgh"))) (vl (op2 fMod (vl (eVar 8)) (vl (cI (.int 7)))))))) (aCons (eTup (aCons (cI (.str "made")) (aCons (cI (.str "c")) (aCons (eTup aNil) aNil)))) aNil))))) oNil)))
    (sSeq (sSet 5 (eFz (op2 fMul (vl (eTup (aCons (cI (.str "a")) aNil))) (vl (op2 fAdd (vl (cI (.int 4))) (vl (eCall 2 [0] f__law_take [] (oCons (bo 0) (oCons (vl (cI (.int 500))) oNil)))))))))
    (sSeq (sSet 6 (opN fTuple (oCons (vl (eLc [8] (itR (aCons (cI (.int 300)) aNil)) (.nm 8) bYes (eTup (aCons (cI (.str "c")) (aCons (eTup aNil) (aCons (eTup (aCons (cI (.str "num")) (aCons (eVar 8) aNil))) aNil)))))) oNil)))
    (sSeq (sSet 7 (eLst (aCons (eVar 1) (aCons (eTup (aCons (cI (.str "letall")) (aCons (eVar 4) (aCons (eTup (aCons (cI (.str "num")) (aCons (cI (.int 0)) aNil))) aNil)))) (aCons (eTup (aCons (cI (.str "made")) (aCons (cI (.str "a")) (aCons (eVar 5) aNil)))) aNil)))))
    (sSeq (sDrop (eLM lAppend (rcS 7) (aCons (eTup (aCons (cI (.str "num")) (aCons (opN fIntD (oCons (vl (op2 fMul (vl (cI (.str "9"))) (vl (op2 fAdd (vl (cI (.int 19))) (vl (eCall 2 [0] f__law_take [] (oCons (bo 0) (oCons (vl (cI (.int 900))) oNil)))))))) oNil)) aNil))) aNil)))
    (sRet (op2 fAdd (bo 7) (vl (eLst (aCons (eTup (aCons (cI (.str "let")) (aCons (cI (.str "a")) (aCons (eTup (aCons (cI (.str "num")) (aCons (cI (.int 0)) aNil))) (aCons (eTup (aCons (cI (.str "by")) (aCons (cI (.str "a")) (aCons (eVar 6) aNil)))) aNil))))) (aCons (op2 fMul (vl (eTup (aCons (cI (.str "a")) aNil))) (vl (cI (.int 999)))) (aCons (eFz (op2 fMul (vl (eLst (aCons (cI (.str "num")) aNil))) (vl (cI (.int 999))))) (aCons (op2 fMul (vl (cI (.str "a"))) (vl (cI (.int 9999)))) aNil)))))))))))))))
noncomputable def f__law_great : Fn := mkFn 9 1 [0] b__law_great
/-- _law_doubled -/
noncomputable def b__law_doubled_1 : SM := (sSeq (sSet 2 (eFz (eCall 2 [0] f__law_pick [] (oCons (bo 0) (oCons (vl (eFz (eLst (aCons (eTup (aCons (cI (.str "let")) (aCons (cI (.str "a")) (aCons (eVar 2) (aCons (eVar 2) aNil))))) (aCons (eTup (aCons (cI (.str "now")) (aCons (cI (.str "b")) (aCons (eVar 2) (aCons (eVar 2) aNil))))) aNil))))) oNil)))))
    (sSet 3 (eIf (asB (op2 fLt (vl (eVar 6)) (vl (cI (.int 28))))) (eTup (aCons (cI (.str "fun")) (aCons (cI (.str "c")) (aCons (eTup (aCons (cI (.str "letall")) (aCons (eTup (aCons (eTup (aCons (cI (.str "a")) (aCons (eVar 3) aNil))) (aCons (eTup (aCons (cI (.str "b")) (aCons (eVar 3) aNil))) aNil))) (aCons (eTup (aCons (cI (.str "num")) (aCons (cI (.int 0)) aNil))) aNil)))) aNil)))) (eVar 3))))
noncomputable def b__law_doubled : SM := (sSeq (sSet 1 (eFz (op2 fAdd (vl (cI (.int 10))) (vl (eCall 2 [0] f__law_take [] (oCons (bo 0) (oCons (vl (cI (.int 50))) oNil)))))))
    (sSeq (sUnp [2, 3, 4, 5] (eFz (eTup (aCons (eTup (aCons (cI (.str "num")) (aCons (cI (.int 1)) aNil))) (aCons (eTup (aCons (cI (.str "fun")) (aCons (cI (.str "a")) (aCons (eTup (aCons (cI (.str "num")) (aCons (cI (.int 2)) aNil))) aNil)))) (aCons (eFz (eLst aNil)) (aCons (eTup aNil) aNil)))))))
    (sSeq (sFor (itR (aCons (eVar 1) aNil)) (.nm 6)
    b__law_doubled_1)
    (sSeq (sFor (itR (aCons (op2 fAdd (vl (cI (.int 250))) (vl (eCall 2 [0] f__law_take [] (oCons (bo 0) (oCons (vl (cI (.int 49))) oNil))))) aNil)) (.nm 6)
    (sSeq (sSet 4 (eFz (eLst (aCons (eVar 4) (aCons (eVar 4) aNil)))))
    (sSet 5 (eTup (aCons (eVar 5) (aCons (eVar 5) aNil))))))
    (sRet (eLst (aCons (eVar 2) (aCons (eVar 3) (aCons (eVar 4) (aCons (eVar 5) (aCons (eTup (aCons (cI (.str "fun")) (aCons (cI (.str "a")) (aCons (eVar 4) aNil)))) (aCons (eTup (aCons (cI (.str "let")) (aCons (cI (.str "a")) (aCons (eVar 5) (aCons (eTup (aCons (cI (.str "num")) (aCons (cI (.int 0)) aNil))) aNil))))) (aCons (eTup (aCons (cI (.str "made")) (aCons (cI (.str "a")) (aCons (eVar 5) aNil)))) aNil)))))))))))))
noncomputable def f__law_doubled : Fn := mkFn 7 1 [0] b__law_doubled
/-- parts_of -/
noncomputable def b_parts_of : SM := (sSeq (sIf (bOr (bNot (asB (op1 (fIsi "tuple") (vl (eVar 0))))) (bOr (asB (op2 fEq (vl (eVar 0)) (vl (eTup aNil)))) (bNot (asB (op1 (fIsi "str") (vl (op2 fIx (vl (eVar 0)) (vl (cI (.int 0))))))))))
    (sRet (cI .non))
    sNext)
    (sSeq (sStar 1 2 (eVar 0))
    (sSeq (sIf (asB (op2 fNe (vl (op2 (fKGet m_SIZES) (vl (eVar 1)) (vl (op1 fNeg (vl (cI (.int 1))))))) (vl (opN fLen (oCons (vl (eVar 2)) oNil)))))
    (sRet (cI .non))
    sNext)
    (sSeq (sIf (asB (op2 fEq (vl (eVar 1)) (vl (cI (.str "num")))))
    (sRet (eIf (asB (eCall 1 [] f_is_number [] (oCons (vl (op2 fIx (vl (eVar 2)) (vl (cI (.int 0))))) oNil))) (eLst aNil) (cI .non)))
    sNext)
    (sSeq (sIf (asB (op1 (fInK false l_NAMES_ALONE) (vl (eVar 1))))
    (sRet (eIf (asB (opN fAll (oCons (vl (eLc [3] (itV (eVar 2)) (.nm 3) bYes (eFz (eCall 1 [] f_is_name [] (oCons (vl (eVar 3)) oNil))))) oNil))) (eLst aNil) (cI .non)))
    sNext)
    (sSeq (sIf (asB (op2 fEq (vl (eVar 1)) (vl (cI (.str "made")))))
    (sRet (eIf (bAnd (asB (eCall 1 [] f_is_name [] (oCons (vl (op2 fIx (vl (eVar 2)) (vl (cI (.int 0))))) oNil))) (asB (eCall 2 [] f_are_names [] (oCons (vl (op2 fIx (vl (eVar 2)) (vl (cI (.int 1))))) (oCons (vl (cI (.bl true))) oNil))))) (eLst aNil) (cI .non)))
    sNext)
    (sSeq (sIf (asB (op2 fEq (vl (eVar 1)) (vl (cI (.str "letall")))))
    (sRet (eCall 1 [] f_parts_letall [] (oCons (vl (eVar 2)) oNil)))
    sNext)
    (sSeq (sIf (asB (op2 fEq (vl (eVar 1)) (vl (cI (.str "by")))))
    (sRet (eCall 1 [] f_parts_by [] (oCons (vl (eVar 2)) oNil)))
    sNext)
    (sRet (eIf (asB (eCall 1 [] f_is_name [] (oCons (vl (op2 fIx (vl (eVar 2)) (vl (cI (.int 0))))) oNil))) (opN fList (oCons (vl (eSl (vl (eVar 2)) (pAt (cI (.int 1))) pNo)) oNil)) (cI .non)))))))))))
noncomputable def f_parts_of : Fn := mkFn 4 1 [] b_parts_of
/-- is_term -/
noncomputable def b_is_term_1 : SM := (sSeq (sUnp [3, 4] (eFz (eLM lPop (rcS 2) aNil)))
    (sSeq (sAug 1 fAddI (cI (.int 1)))
    (sSeq (sSet 5 (eFz (eCall 1 [] f_parts_of [] (oCons (vl (eVar 3)) oNil))))
    (sSeq (sIf (bOr (asB (op2 fGt (vl (eVar 1)) (vl (cI (.int 300))))) (bOr (asB (op2 fGt (vl (eVar 4)) (vl (cI (.int 60))))) (asB (op2 fIs (vl (eVar 5)) (vl (cI .non))))))
    (sRet (cI (.bl false)))
    sNext)
    (sDrop (eLM lExtend (rcS 2) (aCons (eFz (eLc [6] (itV (eVar 5)) (.nm 6) bYes (eTup (aCons (eVar 6) (aCons (op2 fAdd (vl (eVar 4)) (vl (cI (.int 1)))) aNil))))) aNil)))))))
noncomputable def b_is_term : SM := (sSeq (sSet 1 (cI (.int 0)))
    (sSeq (sSet 2 (eLst (aCons (eTup (aCons (eVar 0) (aCons (cI (.int 1)) aNil))) aNil)))
    (sSeq (sWhile (asB (op2 fNe (bo 2) (vl (eLst aNil))))
    b_is_term_1)
    (sRet (cI (.bl true))))))
noncomputable def f_is_term : Fn := mkFn 7 1 [] b_is_term
/-- free_names -/
noncomputable def b_free_names_1 (F_free_names : Fn) : SM := (sDrop (eDM dUpdate (rcS 1) (aCons (eFz (eDc [4] (itV (eFz (eCall 1 [] F_free_names [] (oCons (vl (eVar 2)) oNil)))) (.nm 4) (asB (op2 fNotIn (vl (eVar 4)) (vl (eVar 3)))) (eVar 4) (cI (.bl true)))) aNil)))
noncomputable def b_free_names (F_free_names : Fn) : SM := (sSeq (sSet 1 (eDc [4] (itV (eFz (eCall 1 [] f_own_names [] (oCons (vl (eVar 0)) oNil)))) (.nm 4) bYes (eVar 4) (cI (.bl true))))
    (sSeq (sFor (itV (eFz (eCall 1 [] f_inner_of [] (oCons (vl (eVar 0)) oNil)))) (.tp [(.nm 2), (.nm 3)])
    (b_free_names_1 F_free_names))
    (sRet (opN fSorted (oCons (bo 1) oNil)))))
noncomputable def f_free_names : Nat → Fn
  | 0 => f0
  | k+1 => mkFn 5 1 [] (b_free_names (f_free_names k))
/-- is_program -/
noncomputable def b_is_program : SM := (sRet (eAnd (eCall 1 [] f_is_term [] (oCons (vl (eVar 0)) oNil)) (op2 fEq (vl (eCall 1 [] (f_free_names 64) [] (oCons (vl (eVar 0)) oNil))) (vl (eLst aNil)))))
noncomputable def f_is_program : Fn := mkFn 1 1 [] b_is_program
/-- law -/
noncomputable def b_law_1 : SM := (sIf (bOr (asB (op2 fIsNot (vl (eCall 1 [] f_is_term [] (oCons (vl (eVar 7)) oNil))) (vl (cI (.bl false))))) (bOr (asB (op2 fIsNot (vl (eCall 1 [] f_is_program [] (oCons (vl (eVar 7)) oNil))) (vl (cI (.bl false))))) (asB (op2 fIsNot (vl (eCall 1 [] f_is_name [] (oCons (vl (eVar 7)) oNil))) (vl (cI (.bl false)))))))
    (sRet (cI (.bl false)))
    sNext)
noncomputable def b_law_2 : SM := (sSeq (sSet 2 (eCall 2 [] f__law_feed [] (oCons (vl (eVar 0)) (oCons (vl (eVar 1)) oNil))))
    (sSeq (sSet 3 (eFz (eCall 2 [0] f__law_deep [] (oCons (bo 2) (oCons (vl (eFz (op2 fAdd (vl (cI (.int 1))) (vl (eCall 2 [0] f__law_take [] (oCons (bo 2) (oCons (vl (cI (.int 40))) oNil))))))) oNil)))))
    (sSeq (sSet 4 (eFz (eCall 2 [0] f__law_deep [] (oCons (bo 2) (oCons (vl (eFz (op2 fAdd (vl (cI (.int 61))) (vl (eCall 2 [0] f__law_take [] (oCons (bo 2) (oCons (vl (cI (.int 230))) oNil))))))) oNil)))))
    (sSeq (sSet 5 (eLst (aCons (eFz (eLst (aCons (eVar 3) aNil))) (aCons (eVar 4) (aCons (eFz (eLst (aCons (eVar 4) aNil))) (aCons (eFz (eTup (aCons (cI (.str "fun")) (aCons (cI (.str "a")) (aCons (eFz (eLst (aCons (eVar 3) aNil))) aNil))))) (aCons (eTup (aCons (cI (.str "let")) (aCons (cI (.str "a")) (aCons (eTup (aCons (cI (.str "num")) (aCons (cI (.int 0)) aNil))) (aCons (eTup (aCons (eVar 3) (aCons (eVar 3) aNil))) aNil))))) aNil)))))))
    (sSeq (sSet 5 (op2 fAdd (bo 5) (vl (eLst (aCons (eFz (eTup (aCons (cI (.str "let")) (aCons (eFz (eLst (aCons (eVar 3) aNil))) (aCons (cI (.str "a")) (aCons (eVar 3) aNil)))))) (aCons (eFz (eTup (aCons (cI (.str "letall")) (aCons (eFz (eTup (aCons (eFz (eTup (aCons (cI (.str "a")) (aCons (eFz (eLst (aCons (eVar 3) aNil))) aNil)))) aNil))) (aCons (eTup (aCons (cI (.str "num")) (aCons (cI (.int 1)) aNil))) aNil))))) aNil))))))
    (sSeq (sDrop (eLM lAppend (rcS 5) (aCons (eTup (aCons (cI (.str "letall")) (aCons (eTup (aCons (eTup (aCons (eVar 3) (aCons (eTup (aCons (cI (.str "made")) (aCons (cI (.str "a")) (aCons (eTup aNil) aNil)))) aNil))) (aCons (cI (.int 5)) aNil))) (aCons (eTup (aCons (cI (.str "num")) (aCons (cI (.int 1)) aNil))) aNil)))) aNil)))
    (sSeq (sSet 5 (op2 fAdd (bo 5) (vl (eLst (aCons (eTup (aCons (cI (.str "by")) (aCons (cI (.str "a")) (aCons (eTup (aCons (eTup (aCons (cI (.str "c")) (aCons (eTup (aCons (eVar 3) aNil)) (aCons (eTup (aCons (cI (.str "num")) (aCons (cI (.int 1)) aNil))) aNil)))) aNil)) aNil)))) (aCons (eFz (eTup (aCons (cI (.str "made")) (aCons (eFz (eLst (aCons (eVar 3) aNil))) (aCons (eTup aNil) aNil))))) aNil))))))
    (sSeq (sDrop (eLM lAppend (rcS 5) (aCons (eTup (aCons (cI (.str "made")) (aCons (cI (.str "a")) (aCons (eTup (aCons (eTup (aCons (cI (.str "a")) aNil)) (aCons (eVar 3) aNil))) aNil)))) aNil)))
    (sSeq (sSet 5 (op2 fAdd (bo 5) (vl (eLst (aCons (eTup (aCons (eVar 3) (aCons (cI (.int 1)) aNil))) (aCons (eFz (eTup (aCons (eFz (eLst (aCons (eVar 3) aNil))) (aCons (cI (.str "a")) (aCons (cI (.str "b")) aNil))))) (aCons (eFz (eTup (aCons (cI (.str "sum")) (aCons (cI (.str "a")) (aCons (eFz (eLst (aCons (eVar 3) aNil))) aNil))))) (aCons (eFz (eTup (aCons (cI (.str "num")) (aCons (eFz (eLst (aCons (eVar 3) aNil))) aNil)))) (aCons (eTup (aCons (cI (.str "name")) (aCons (eTup (aCons (eVar 3) aNil)) aNil))) aNil)))))))))
    (sSeq (sSet 6 (opN fReprD (oCons (bo 5) oNil)))
    (sSeq (sFor (itV (eFz (op2 fAdd (vl (op2 fAdd (bo 5) (vl (eCall 1 [0] f__law_great [] (oCons (bo 2) oNil))))) (vl (eCall 1 [0] f__law_doubled [] (oCons (bo 2) oNil)))))) (.nm 7)
    b_law_1)
    (sIf (asB (op2 fNe (vl (opN fReprD (oCons (bo 5) oNil))) (vl (eVar 6))))
    (sRet (cI (.bl false)))
    sNext))))))))))))
noncomputable def b_law : SM := (sSeq (sFor (itR (aCons (opN fMax (oCons (vl (cI (.int 2))) (oCons (vl (opN fMin (oCons (vl (cI (.int 4))) (oCons (vl (opN fLen (oCons (vl (eVar 0)) oNil))) oNil)))) oNil))) aNil)) (.nm 1)
    b_law_2)
    (sRet (cI (.bl true))))
noncomputable def f_law : Fn := mkFn 8 1 [] b_law
end K07

namespace K07
open PySem L2 VS VT
/-! plain: what is no term -/
inductive Bad : I → Nat → Prop where
  | none {i : I} {d : Nat} : partsOf i = none → Bad i d
  | deep {i : I} {d : Nat} : 60 < d → Bad i d
  | part {i p : I} {d : Nat} {ps : List I} : partsOf i = some ps → p ∈ ps → Bad p (d + 1) → Bad i d
theorem walk_bad : ∀ (f : Nat) (ts : List (I × Nat)) (m : Nat), f + m = 302 → m ≤ 301 → (∃ p ∈ ts, Bad p.1 p.2) → walkT f ts m = false
  | 0, _, _, h1, h2, _ => by omega
  | f + 1, [], _, _, _, h => by obtain ⟨p, hp, _⟩ := h; cases hp
  | f + 1, (i, d) :: rest, m, hf, hm, ⟨p, hp, hb⟩ => by
    rw [walkT]
    cases e : partsOf i with
    | none => rfl
    | some ps =>
      simp only
      split
      · rfl
      · rename_i hc
        refine walk_bad f _ (m + 1) (by omega) (by omega) ?_
        rcases List.mem_cons.mp hp with rfl | q
        · cases hb with
          | none h => rw [e] at h; cases h
          | deep h => exact absurd (.inr h) hc
          | part h hp hb =>
            rw [e] at h; cases h
            exact ⟨(_, d + 1), List.mem_append_left _ (by simp; exact hp), hb⟩
        · exact ⟨p, List.mem_append_right _ q, hb⟩
theorem bad_no {i : I} (h : Bad i 1) : isTerm i = false := walk_bad 302 [(i, 1)] 0 rfl (by omega) ⟨(i, 1), by simp, h⟩
/-- a tuple or a list -/
def isC : I → Bool
  | .tup _ => true
  | .lst _ => true
  | _ => false
theorem isC_name {i : I} (h : isC i = true) : isName i = false := by cases i <;> first | rfl | cases h
theorem isC_number {i : I} (h : isC i = true) : isNumber i = false := by cases i <;> first | rfl | cases h
theorem po_hd {i : I} {r : List I} (h : isC i = true) : partsOf (.tup (i :: r)) = none := by cases i <;> first | rfl | cases h
theorem po_sz {w : Str} {r : List I} (h : sz w ≠ (r.length : Nat)) : partsOf (.tup (.str w :: r)) = none := by
  show partsW w r = none
  unfold partsW
  rw [if_pos h]
theorem isN_a : isName (.str "a") = true := by decide +kernel
theorem isN_b : isName (.str "b") = true := by decide +kernel
theorem isN_c : isName (.str "c") = true := by decide +kernel
section
variable {x t u : I}
theorem po_fun : partsOf (.tup [.str "fun", x, t]) = if isName x then some [t] else none := by
  show partsW "fun" [x, t] = _
  have hs : sz "fun" = 2 := by decide +kernel
  unfold partsW
  rw [hs]
  simp [aloneS]
theorem po_let : partsOf (.tup [.str "let", x, t, u]) = if isName x then some [t, u] else none := by
  show partsW "let" [x, t, u] = _
  have hs : sz "let" = 3 := by decide +kernel
  unfold partsW
  rw [hs]
  simp [aloneS]
theorem po_now : partsOf (.tup [.str "now", x, t, u]) = if isName x then some [t, u] else none := by
  show partsW "now" [x, t, u] = _
  have hs : sz "now" = 3 := by decide +kernel
  unfold partsW
  rw [hs]
  simp [aloneS]
theorem po_num : partsOf (.tup [.str "num", x]) = if isNumber x then some [] else none := by
  show partsW "num" [x] = _
  have hs : sz "num" = 1 := by decide +kernel
  unfold partsW
  rw [hs]
  simp
theorem po_made : partsOf (.tup [.str "made", x, t]) = if isName x && areNames true t then some [] else none := by
  show partsW "made" [x, t] = _
  have hs : sz "made" = 2 := by decide +kernel
  unfold partsW
  rw [hs]
  simp [aloneS]
theorem po_sum : partsOf (.tup [.str "sum", x, t]) = if isName x && isName t then some [] else none := by
  show partsW "sum" [x, t] = _
  have hs : sz "sum" = 2 := by decide +kernel
  unfold partsW
  rw [hs]
  simp [aloneS]
theorem po_name : partsOf (.tup [.str "name", x]) = if isName x then some [] else none := by
  show partsW "name" [x] = _
  have hs : sz "name" = 1 := by decide +kernel
  unfold partsW
  rw [hs]
  simp [aloneS]
theorem po_letall : partsOf (.tup [.str "letall", x, t]) = partsLetall x t := by
  show partsW "letall" [x, t] = _
  have hs : sz "letall" = 2 := by decide +kernel
  unfold partsW
  rw [hs]
  simp [aloneS]
theorem po_by : partsOf (.tup [.str "by", x, t]) = partsBy x t := by
  show partsW "by" [x, t] = _
  have hs : sz "by" = 2 := by decide +kernel
  unfold partsW
  rw [hs]
  simp [aloneS]
theorem pl_eq {l : List I} {b : I} : partsLetall (.tup l) b = if l.all (isTup 2) && areUnlike 1 l && l.all (fun p => isWorthForm (nthI 1 p)) then some (l.map (nthI 1) ++ [b]) else none := rfl
theorem pb_eq {l : List I} {x : I} : partsBy x (.tup l) = if isName x && l.all isRow && areUnlike 1 l then some (l.map (nthI 2)) else none := rfl
theorem areNames_no {al : Bool} {l : List I} (h : l.length > 3 ∨ l.all isName = false) : areNames al (.tup l) = false := by
  show (decide (l.length ≤ 3) && l.all isName && (al || unlike l)) = false
  rcases h with h | h
  · rw [decide_eq_false (by omega)]; rfl
  · rw [h]; simp
theorem areUnlike_no {n : Int} {l : List I} (h : 6 < l.length) : areUnlike n l = false := by
  unfold areUnlike
  rw [decide_eq_false (p := l.length ≤ 6) (by omega)]; simp
end
/-- so many within one another -/
structure Deep (m : Nat) (i : I) : Prop where
  gw : Gw 20 i
  d : dI i ≤ m + 2
  b : bI i ≤ 20 * m + 20
  c : 1 ≤ m → isC i = true
  bad : ∀ d, 1 ≤ m → 62 ≤ d + m → Bad i d
theorem Deep.step {m : Nat} {i j : I} (h : Deep m i) (g : Gw 20 j) (hd : dI j ≤ m + 3) (hb : bI j ≤ bI i + 20) (hc : isC j = true)
    (hp : isC i = true → partsOf j = none ∨ ∃ ps, partsOf j = some ps ∧ i ∈ ps) : Deep (m + 1) j := by
  refine ⟨g, hd, by have := h.b; omega, fun _ => hc, fun d _ h2 => ?_⟩
  by_cases hm : m = 0
  · exact .deep (by omega)
  · rcases hp (h.c (by omega)) with q | ⟨ps, q, hi⟩
    · exact .none q
    · exact .part q hi (h.bad (d + 1) (by omega) (by omega))
@[simp] theorem gw_str {m : Nat} {x : Str} : Gw m (.str x) ↔ PyData.strOk x = true ∧ x.length ≤ 16 := Iff.rfl
@[simp] theorem gw_int {m : Nat} {i : Int} : Gw m (.int i) ↔ i.natAbs ≤ 10 ^ 18 + 1 := Iff.rfl
@[simp] theorem gw_non {m : Nat} : Gw m .non ↔ True := Iff.rfl
@[simp] theorem gw_bl {m : Nat} {b : Bool} : Gw m (.bl b) ↔ True := Iff.rfl
@[simp] theorem gw_tup' {m : Nat} {l : List I} : Gw m (.tup l) ↔ (∀ i ∈ l, Gw m i) ∧ l.length ≤ m := gw_tup
@[simp] theorem gw_lst' {m : Nat} {l : List I} : Gw m (.lst l) ↔ (∀ i ∈ l, Gw m i) ∧ l.length ≤ m := gw_lst
@[simp] theorem isC_t {l : List I} : isC (.tup l) = true := rfl
@[simp] theorem isC_l {l : List I} : isC (.lst l) = true := rfl
@[simp] theorem ok_a : PyData.strOk (Str.ofString "a") = true := by decide +kernel
@[simp] theorem ok_b : PyData.strOk (Str.ofString "b") = true := by decide +kernel
@[simp] theorem ok_c : PyData.strOk (Str.ofString "c") = true := by decide +kernel
@[simp] theorem le_a : (Str.ofString "a").length = 1 := by decide +kernel
@[simp] theorem le_b : (Str.ofString "b").length = 1 := by decide +kernel
@[simp] theorem le_c : (Str.ofString "c").length = 1 := by decide +kernel
theorem deep_base {i : I} (h : i ∈ ([.non, .bl true, .int (-7), .str "let", .str "a", .tup [], .lst [], .tup [.str "num", .int 1]] : List I)) : Deep 0 i := by
  simp only [List.mem_cons, List.not_mem_nil, or_false] at h
  rcases h with rfl | rfl | rfl | rfl | rfl | rfl | rfl | rfl <;>
    exact ⟨by simp, by simp [dI, dIL], by simp [bI, bIL], fun h => by omega, fun _ h => by omega⟩
section
variable {m : Nat} {i : I} {k : Int}
theorem Deep.w0 (h : Deep m i) : Deep (m + 1) (.lst [i]) :=
  h.step (by simp [h.gw]) (by have := h.d; simp [dI, dIL]; try omega) (by simp [bI, bIL]; try omega) rfl fun _ => .inl rfl
theorem Deep.w1 (h : Deep m i) : Deep (m + 1) (.tup [i]) :=
  h.step (by simp [h.gw]) (by have := h.d; simp [dI, dIL]; try omega) (by simp [bI, bIL]; try omega) rfl fun q => .inl (po_hd q)
theorem Deep.w2 (h : Deep m i) : Deep (m + 1) (.tup [.str "fun", .str "a", i]) :=
  h.step (by simp [h.gw]) (by have := h.d; simp [dI, dIL]; try omega) (by simp [bI, bIL]; try omega) rfl fun _ => .inr ⟨[i], by rw [po_fun, isN_a]; rfl, by simp⟩
theorem Deep.w3 (h : Deep m i) (hk : k.natAbs ≤ 1000) : Deep (m + 1) (.lst [i, .int k, .str "b"]) :=
  h.step (by simp [h.gw]; omega) (by have := h.d; simp [dI, dIL]; try omega) (by simp [bI, bIL]; try omega) rfl fun _ => .inl rfl
theorem Deep.w4 (h : Deep m i) (hk : k.natAbs ≤ 1000) : Deep (m + 1) (.tup [.str "let", .str "a", .tup [.str "num", .int k], i]) :=
  h.step (by simp [h.gw]; omega) (by have := h.d; simp [dI, dIL]; try omega) (by simp [bI, bIL]; try omega) rfl fun _ => .inr ⟨_, by rw [po_let, isN_a]; rfl, by simp⟩
theorem Deep.w5 (h : Deep m i) : Deep (m + 1) (.tup [.str "now", .str "b", i, .tup [.str "name", .str "b"]]) :=
  h.step (by simp [h.gw]) (by have := h.d; simp [dI, dIL]; try omega) (by simp [bI, bIL]; try omega) rfl fun _ => .inr ⟨_, by rw [po_now, isN_b]; rfl, by simp⟩
theorem Deep.w6 {w : Str} (h : Deep m i) (hw : w ∈ (["by", "letall", "made", "num"] : List Str)) : Deep (m + 1) (.tup [.str w, i]) := by
  simp only [List.mem_cons, List.not_mem_nil, or_false] at hw
  rcases hw with rfl | rfl | rfl | rfl
  · exact h.step (by simp [h.gw]) (by have := h.d; simp [dI, dIL]; try omega) (by simp [bI, bIL]; try omega) rfl fun _ => .inl (po_sz (by show _ ≠ ((1 : Nat) : Int); decide +kernel))
  · exact h.step (by simp [h.gw]) (by have := h.d; simp [dI, dIL]; try omega) (by simp [bI, bIL]; try omega) rfl fun _ => .inl (po_sz (by show _ ≠ ((1 : Nat) : Int); decide +kernel))
  · exact h.step (by simp [h.gw]) (by have := h.d; simp [dI, dIL]; try omega) (by simp [bI, bIL]; try omega) rfl fun _ => .inl (po_sz (by show _ ≠ ((1 : Nat) : Int); decide +kernel))
  · exact h.step (by simp [h.gw]) (by have := h.d; simp [dI, dIL]; try omega) (by simp [bI, bIL]; try omega) rfl fun q => .inl (by rw [po_num, isC_number q]; rfl)
end
end K07

namespace K07
open PySem L2 VS VT
/-! plain: the things of a cell -/
/-- what is judged no term, no name -/
structure Odd (j : I) : Prop where
  th : Th (fun _ => True) j
  tm : isTerm j = false
  nm : isName j = false
theorem Odd.of {j : I} (h : Gw 20 j) (b : Bad j 1) (c : isC j = true) : Odd j := ⟨h.th (by omega), bad_no b, isC_name c⟩
def things (odd far : I) : List I := [.lst [odd], far, .lst [far], .tup [.str "fun", .str "a", .lst [odd]], .tup [.str "let", .str "a", .tup [.str "num", .int 0], .tup [odd, odd]],
  .tup [.str "let", .lst [odd], .str "a", odd], .tup [.str "letall", .tup [.tup [.str "a", .lst [odd]]], .tup [.str "num", .int 1]],
  .tup [.str "letall", .tup [.tup [odd, .tup [.str "made", .str "a", .tup []]], .int 5], .tup [.str "num", .int 1]],
  .tup [.str "by", .str "a", .tup [.tup [.str "c", .tup [odd], .tup [.str "num", .int 1]]]], .tup [.str "made", .lst [odd], .tup []],
  .tup [.str "made", .str "a", .tup [.tup [.str "a"], odd]], .tup [odd, .int 1], .tup [.lst [odd], .str "a", .str "b"], .tup [.str "sum", .str "a", .lst [odd]],
  .tup [.str "num", .lst [odd]], .tup [.str "name", .tup [odd]]]
section
variable {odd far : I} {n m : Nat}
theorem things_gw (ho : Gw 20 odd) (hf : Gw 20 far) : ∀ j ∈ things odd far, Gw 20 j := by
  intro j hj
  simp only [things, List.mem_cons, List.not_mem_nil, or_false] at hj
  rcases hj with rfl | rfl | rfl | rfl | rfl | rfl | rfl | rfl | rfl | rfl | rfl | rfl | rfl | rfl | rfl | rfl <;> first | exact hf | simp [ho, hf]
theorem things_bad (ho : isC odd = true) (hf : Bad far 1) : ∀ j ∈ things odd far, Bad j 1 := by
  intro j hj
  simp only [things, List.mem_cons, List.not_mem_nil, or_false] at hj
  rcases hj with rfl | rfl | rfl | rfl | rfl | rfl | rfl | rfl | rfl | rfl | rfl | rfl | rfl | rfl | rfl | rfl
  · exact .none rfl
  · exact hf
  · exact .none rfl
  · exact .part (ps := [.lst [odd]]) (p := .lst [odd]) (by rw [po_fun, isN_a]; rfl) (by simp) (.none rfl)
  · exact .part (ps := [.tup [.str "num", .int 0], .tup [odd, odd]]) (by rw [po_let, isN_a]; rfl) (p := .tup [odd, odd]) (by simp) (.none (po_hd ho))
  · exact .none (by rw [po_let, isC_name rfl]; rfl)
  · refine .none (by rw [po_letall, pl_eq, if_neg]; simp [isWorthForm, nthI])
  · refine .none (by rw [po_letall, pl_eq, if_neg]; simp [isTup])
  · refine .none (by rw [po_by, pb_eq, if_neg]; simp [isRow, nthI, areNames_no (l := [odd]) (.inr (by simp [isC_name ho]))])
  · exact .none (by rw [po_made, isC_name rfl]; rfl)
  · exact .none (by rw [po_made, areNames_no (.inr (by simp [isC_name (i := .tup [.str "a"]) rfl]))]; simp)
  · exact .none (po_hd ho)
  · exact .none (po_hd rfl)
  · exact .none (by rw [po_sum, isC_name (i := .lst [odd]) rfl]; simp)
  · exact .none (by rw [po_num, isC_number (i := .lst [odd]) rfl]; rfl)
  · exact .none (by rw [po_name, isC_name (i := .tup [odd]) rfl]; rfl)
theorem things_c (hf : isC far = true) : ∀ j ∈ things odd far, isC j = true := by
  intro j hj
  simp only [things, List.mem_cons, List.not_mem_nil, or_false] at hj
  rcases hj with rfl | rfl | rfl | rfl | rfl | rfl | rfl | rfl | rfl | rfl | rfl | rfl | rfl | rfl | rfl | rfl <;> first | exact hf | rfl
theorem things_odd (ho : Deep n odd) (hn : 1 ≤ n) (hf : Deep m far) (hm : 61 ≤ m) : ∀ j ∈ things odd far, Odd j := fun j hj =>
  .of (things_gw ho.gw hf.gw j hj) (things_bad (ho.c hn) (hf.bad 1 (by omega) (by omega)) j hj) (things_c (hf.c (by omega)) j hj)
theorem things_d (ho : Deep n odd) (hn : n ≤ 41) (hf : Deep m far) (hm : m ≤ 300) : dIL (things odd far) ≤ 400 := by
  have := ho.d; have := hf.d
  simp [things, dIL, dI]
  try omega
theorem things_b (ho : Deep n odd) (hn : n ≤ 41) (hf : Deep m far) (hm : m ≤ 300) : bIL (things odd far) ≤ 60000 := by
  have := ho.b; have := hf.b
  simp [things, bIL, bI]
  try omega
theorem reprD_ok {l : List I} (h : ∀ i ∈ l, Gw 20 i) (h1 : dIL l ≤ 800) (h2 : bIL l ≤ 600000) : ∃ s, fReprD [.lst l] = some (.im (.str s)) := by
  obtain ⟨ds, e, hd⟩ := GwL.data (GwL_mem.mpr h)
  have hd := hd.lst
  have sz : (PyData.list ds).shown.length ≤ sizeLine := by
    have := PyData.shown_le_bulk 24 (by decide) _ hd.lv
    have := hd.bk
    rw [sizeLine_eq]; omega
  refine ⟨(PyData.list ds).shown, ?_⟩
  show (match pdL l with | some ds => _ | none => none) = _
  rw [pdL_toD, e]
  simp only
  rw [if_pos ⟨hd.sh, Nat.le_trans hd.dp (by omega), sz⟩]
end
end K07

namespace K07
open PySem L2 VS VT
abbrev PT : Str → Prop := fun _ => True
@[simp] theorem th_tup' {l : List I} : Th PT (.tup l) ↔ (∀ i ∈ l, Th PT i) ∧ l.length ≤ 3000 := by rw [Th, ThL_mem]
@[simp] theorem th_lst' {l : List I} : Th PT (.lst l) ↔ (∀ i ∈ l, Th PT i) ∧ l.length ≤ 3000 := by rw [Th, ThL_mem]
@[simp] theorem th_str' {x : Str} : Th PT (.str x) ↔ x.length ≤ sizeLine ∧ PyData.strOk x = true := by rw [Th]; simp [PT]
@[simp] theorem th_int' {i : Int} : Th PT (.int i) ↔ True := by rw [Th]
theorem Odd.of2 {j : I} (h : Th PT j) (b : Bad j 1) (c : isC j = true) : Odd j := ⟨h, bad_no b, isC_name c⟩
/-! terms too far within one another, or too wide -/
structure Gt (m : Nat) (t : I) : Prop where
  th : Th PT t
  c : isC t = true
  bad : ∀ d, 61 ≤ d + m → Bad t d
theorem gt0 : Gt 0 (.tup [.str "num", .int 0]) := ⟨by simp [sizeLine_eq], rfl, fun d h => .deep (by omega)⟩
section
variable {m : Nat} {t : I}
theorem Gt.s1 (h : Gt m t) : Gt (m + 1) (.tup [.str "fun", .str "a", t]) :=
  ⟨by simp [sizeLine_eq, h.th], rfl, fun d hd => .part (by rw [po_fun, isN_a]; rfl) (p := t) (by simp) (h.bad _ (by omega))⟩
theorem Gt.s2 (h : Gt m t) : Gt (m + 1) (.tup [.str "let", .str "a", t, .tup [.str "num", .int 1]]) :=
  ⟨by simp [sizeLine_eq, h.th], rfl, fun d hd => .part (by rw [po_let, isN_a]; rfl) (p := t) (by simp) (h.bad _ (by omega))⟩
theorem Gt.s3 (h : Gt m t) : Gt (m + 1) (.tup [.str "now", .str "a", .tup [.str "num", .int 1], t]) :=
  ⟨by simp [sizeLine_eq, h.th], rfl, fun d hd => .part (by rw [po_now, isN_a]; rfl) (p := t) (by simp) (h.bad _ (by omega))⟩
theorem Gt.odd (h : Gt m t) (hm : 60 ≤ m) : Odd t := .of2 h.th (h.bad 1 (by omega)) h.c
end
theorem wide_odd {l : List I} (h : ∀ j ∈ l, Th PT j) (h1 : 7 ≤ l.length) (h2 : l.length ≤ 3000) : Odd (.tup [.str "letall", .tup l, .tup [.str "num", .int 0]]) := by
  refine .of2 ?_ (.none ?_) rfl
  · simp [sizeLine_eq]
    exact ⟨h, h2⟩
  · rw [po_letall, pl_eq, if_neg]
    rw [areUnlike_no (by omega)]
    simp
theorem names_odd {k : Nat} (h1 : 4 ≤ k) (h2 : k ≤ 3000) : Odd (.tup [.str "made", .str "a", .tup (List.replicate k (.str "a"))]) := by
  refine .of2 ?_ (.none ?_) rfl
  · simp [sizeLine_eq]
    omega
  · rw [po_made, areNames_no (.inl (by simp; omega))]
    simp
theorem big_odd {k : Int} (h : 1000000000000000000 < k) : Odd (.tup [.str "num", .int k]) := by
  refine .of2 ?_ (.none ?_) rfl
  · simp [sizeLine_eq]
  · rw [po_num]
    have : isNumber (.int k) = false := by
      show (decide (-1000000000000000000 ≤ k) && decide (k ≤ 1000000000000000000)) = false
      rw [decide_eq_false (p := k ≤ 1000000000000000000) (by omega)]; simp
    rw [this]; rfl
theorem lines_odd {l : List I} (h : ∀ j ∈ l, Th PT j) (h1 : 7 ≤ l.length) (h2 : l.length ≤ 3000) : Odd (.tup [.str "let", .str "a", .tup [.str "num", .int 0], .tup [.str "by", .str "a", .tup l]]) := by
  refine .of2 ?_ (.part (ps := [.tup [.str "num", .int 0], .tup [.str "by", .str "a", .tup l]]) (p := .tup [.str "by", .str "a", .tup l]) (by rw [po_let, isN_a]; rfl) (by simp) (.none ?_)) rfl
  · simp [sizeLine_eq]
    exact ⟨h, h2⟩
  · rw [po_by, pb_eq, if_neg]
    rw [areUnlike_no (by omega)]
    simp
theorem as_odd : Odd (.tup (List.replicate 999 (.str "a"))) := by
  refine .of2 ?_ (.none ?_) rfl
  · simp [sizeLine_eq]
  · show partsOf (.tup (.str "a" :: List.replicate 998 (.str "a"))) = none
    exact po_sz (by rw [List.length_replicate]; decide +kernel)
theorem nums_odd : Odd (.lst (List.replicate 999 (.str "num"))) := by
  refine .of2 ?_ (.none rfl) rfl
  simp [sizeLine_eq]
theorem str_odd {x : Str} (h1 : PyData.strOk x = true) (h2 : 8 < x.length) (h3 : x.length ≤ sizeLine) : Odd (.str x) :=
  ⟨by rw [th_str']; exact ⟨h3, h1⟩, bad_no (.none rfl), by rw [isName_str, decide_eq_false (p := x.length ≤ 8) (by omega)]; simp⟩
/-! things doubled again and again -/
def NS : List Str := ["a", "b", "c"]
theorem NS_ok : ∀ x ∈ NS, VT.nm x ∧ nmL x := by
  intro x hx
  simp only [NS, List.mem_cons, List.not_mem_nil, or_false] at hx
  rcases hx with rfl | rfl | rfl <;> exact ⟨⟨by decide +kernel, by decide +kernel⟩, by decide +kernel⟩
theorem a_NS : (Str.ofString "a") ∈ NS := by simp [NS]
theorem b_NS : (Str.ofString "b") ∈ NS := by simp [NS]
theorem c_NS : (Str.ofString "c") ∈ NS := by simp [NS]
theorem a_b : ¬ Str.ofString "a" = Str.ofString "b" := by decide +kernel
theorem enc_odd {t : T} (ok : t.ok NS) (h : 300 < t.pc) : Odd (enc t) := by
  refine ⟨th_enc (ns := NS) (fun x hx => ⟨trivial, (NS_ok x hx).1⟩) (fun _ _ => trivial) t ok, ?_, ?_⟩
  · rw [isTerm_dec (fun x hx => (NS_ok x hx).2) ok]
    exact decide_eq_false fun z => by omega
  · cases t <;> (rw [enc]; rfl)
def Du (m : Nat) (i : I) : Prop := ∃ t : T, i = enc t ∧ t.ok NS ∧ 2 ^ m ≤ t.pc
def Dw (m : Nat) (i : I) : Prop := ∃ t : T, i = enc t ∧ t.ok NS ∧ t.isW = true ∧ 2 ^ m ≤ t.pc
theorem p300 {m n : Nat} (h : 10 ≤ m) (h2 : 2 ^ m ≤ n) : 300 < n := by
  have : 2 ^ 10 ≤ 2 ^ m := Nat.pow_le_pow_right (by decide) h
  have : (2 : Nat) ^ 10 = 1024 := by decide
  omega
section
variable {m : Nat} {i : I}
theorem du0 : Du 0 (.tup [.str "num", .int 1]) := ⟨.num 1, by rw [enc], by simp [T.ok], by simp [T.pc]⟩
theorem Du.s1 (h : Du m i) : Du (m + 1) (.tup [.str "let", .str "a", i, i]) := by
  obtain ⟨t, rfl, ok, hp⟩ := h
  exact ⟨.lt "let" "a" t t, by rw [enc], by simp [T.ok, ok, a_NS, b_NS], by simp [T.pc, Nat.pow_succ]; omega⟩
theorem Du.s2 (h : Du m i) : Du (m + 1) (.tup [.str "now", .str "b", i, i]) := by
  obtain ⟨t, rfl, ok, hp⟩ := h
  exact ⟨.lt "now" "b" t t, by rw [enc], by simp [T.ok, ok, a_NS, b_NS], by simp [T.pc, Nat.pow_succ]; omega⟩
theorem Du.odd (h : Du m i) (hm : 10 ≤ m) : Odd i := by
  obtain ⟨t, rfl, ok, hp⟩ := h
  exact enc_odd ok (p300 hm hp)
theorem dw0 : Dw 0 (.tup [.str "fun", .str "a", .tup [.str "num", .int 2]]) := ⟨.fn "a" (.num 2), by rw [enc, enc], by simp [T.ok, NS], rfl, by simp [T.pc]⟩
theorem Dw.s1 (h : Dw m i) : Dw (m + 1) (.tup [.str "fun", .str "c", .tup [.str "letall", .tup [.tup [.str "a", i], .tup [.str "b", i]], .tup [.str "num", .int 0]]]) := by
  obtain ⟨t, rfl, ok, hw, hp⟩ := h
  refine ⟨.fn "c" (.la (.cons "a" [] t (.cons "b" [] t .nil)) (.num 0)), by simp [enc, encP], ?_, rfl, by simp [T.pc, R.pc, Nat.pow_succ]; omega⟩
  simp [T.ok, R.ok, R.l, ok, hw, a_NS, b_NS, c_NS, a_b]
theorem Dw.odd (h : Dw m i) (hm : 10 ≤ m) : Odd i := by
  obtain ⟨t, rfl, ok, _, hp⟩ := h
  exact enc_odd ok (p300 hm hp)
theorem Du.th (h : Du m i) : Th PT i := by
  obtain ⟨t, rfl, ok, hp⟩ := h
  exact th_enc (ns := NS) (fun x hx => ⟨trivial, (NS_ok x hx).1⟩) (fun _ _ => trivial) t ok
structure Pr (n : Nat) (i : I) : Prop where
  th : Th PT i
  c : isC i = true
  no : partsOf i = none
  ne : 1 ≤ n → ∃ p, i = .tup [p, p] ∧ isC p = true
theorem pr0 : Pr 0 (.tup []) := ⟨by simp, rfl, rfl, fun h => by omega⟩
theorem Pr.s (h : Pr m i) : Pr (m + 1) (.tup [i, i]) := ⟨by simp [h.th], rfl, po_hd h.c, fun _ => ⟨i, rfl, h.c⟩⟩
theorem Pr.odd (h : Pr m i) : Odd i := .of2 h.th (.none h.no) h.c
theorem Pr.odd2 (h : Pr m i) : Odd (.tup [.str "let", .str "a", i, .tup [.str "num", .int 0]]) :=
  .of2 (by simp [sizeLine_eq, h.th]) (.part (ps := [i, .tup [.str "num", .int 0]]) (p := i) (by rw [po_let, isN_a]; rfl) (by simp) (.none h.no)) rfl
theorem Pr.odd3 (h : Pr m i) (hm : 1 ≤ m) : Odd (.tup [.str "made", .str "a", i]) := by
  obtain ⟨p, rfl, hp⟩ := h.ne hm
  refine .of2 (by have := h.th; simp at this; simp [sizeLine_eq, this]) (.none ?_) rfl
  rw [po_made, areNames_no (.inr (by simp [isC_name hp]))]
  simp
structure Pl (i : I) : Prop where
  th : Th PT i
  l : ∃ l, i = .lst l
theorem pl0 : Pl (.lst []) := ⟨by simp, _, rfl⟩
theorem Pl.s (h : Pl i) : Pl (.lst [i, i]) := ⟨by simp [h.th], _, rfl⟩
theorem Pl.odd (h : Pl i) : Odd i := by
  obtain ⟨l, rfl⟩ := h.l
  exact .of2 h.th (.none rfl) rfl
theorem Pl.odd2 (h : Pl i) : Odd (.tup [.str "fun", .str "a", i]) := by
  obtain ⟨l, rfl⟩ := h.l
  exact .of2 (by have := h.th; simp at this; simp [sizeLine_eq]; exact this) (.part (ps := [.lst l]) (p := .lst l) (by rw [po_fun, isN_a]; rfl) (by simp) (.none rfl)) rfl
end
end K07

namespace K07
open PySem L2 VS VT
theorem e_feed : f__law_feed = VT.f_feed := rfl
theorem e_take : f__law_take = VT.f_take := rfl
theorem e_pick : f__law_pick = VT.f_pick := rfl
theorem e_isname : f_is_name = VT.f_is_name := rfl
theorem e_isterm : f_is_term = VT.f_is_term := rfl
theorem e_free : ∀ k, f_free_names k = VT.f_free_names k
  | 0 => by rw [f_free_names, VT.f_free_names]
  | k + 1 => by
    rw [f_free_names, VT.f_free_names, e_free k]
    rfl
theorem e_prog : f_is_program = VT.f_is_program := by
  unfold f_is_program VT.f_is_program b_is_program VT.b_is_program
  rw [e_free]; rfl
/-- a test that changes nothing -/
theorem if_go {b : BM} {m1 m2 : SM} {st : VS.St} {okk : VS.St → VS.Fl → Prop} {ex : VS.St → Nat → List I → Prop} (v : Bool) (hb : Run b st (fun s c => s = st ∧ c = v) (fun _ _ _ => False)) (h : Run (if v then m1 else m2) st okk ex) :
    Run (sIf b m1 m2) st okk ex := by
  rw [r_sIf]
  refine hb.imp (fun s c q => ?_) fun _ _ _ q => q.elim
  obtain ⟨rfl, rfl⟩ := q
  cases c with
  | true => exact ⟨fun _ => h, fun z => by cases z⟩
  | false => exact ⟨fun z => (by cases z), fun _ => h⟩
section
variable {sto : List O} {Q : O → List O → List O → Prop} {E : Nat → List I → List O → List O → Prop}
theorem fi_gw {i : I} (h : Gw 20 i) (st : VS.St) : flo st (.im i) = some i := flo_im fun r e => by subst e; exact h.elim
theorem deep_step {m n : Nat} {d s : Int} {i : I} {k : Int} {x4 : O} {okk : VS.St → VS.Fl → Prop} {ex : VS.St → Nat → List I → Prop} (hi : Deep n i) (hk : k.natAbs ≤ 1000)
    (h : ∀ j d' s' y4, Deep (n + 1) j → okk ⟨[feedO d' s', .im (.int (m : Nat)), .im j, .im (.int k), y4], sto⟩ .nx) :
    Run b__law_deep_1 ⟨[feedO d s, .im (.int (m : Nat)), .im i, .im (.int k), x4], sto⟩ okk ex := by
  have fi : ∀ st : VS.St, flo st (.im i) = some i := fi_gw hi.gw
  unfold b__law_deep_1
  rw [e_take, e_pick]
  refine r_cut (fun st => ∃ r d s, 0 ≤ r ∧ r < 8 ∧ st = ⟨[feedO d s, .im (.int (m : Nat)), .im i, .im (.int k), .im (.int r)], sto⟩) ?_ ?_
  · simp
    refine take_does (by omega) (by omega) fun r d1 s1 h0 h1 => ?_
    simp
    exact ⟨h0, h1⟩
  rintro st ⟨r, d, s, h0, h1, rfl⟩
  have hr : r = 0 ∨ r = 1 ∨ r = 2 ∨ r = 3 ∨ r = 4 ∨ r = 5 ∨ r = 6 ∨ r = 7 := by omega
  rcases hr with rfl | rfl | rfl | rfl | rfl | rfl | hr
  · refine if_go true (by simp) ?_
    simp [fi, sizeLine_eq]
    exact h _ _ _ _ hi.w0
  · refine if_go false (by simp) (if_go true (by simp) ?_)
    simp [fi, sizeLine_eq]
    exact h _ _ _ _ hi.w1
  · refine if_go false (by simp) (if_go false (by simp) (if_go true (by simp) ?_))
    simp [fi, sizeLine_eq]
    exact h _ _ _ _ hi.w2
  · refine if_go false (by simp) (if_go false (by simp) (if_go false (by simp) (if_go true (by simp) ?_)))
    simp [fi, sizeLine_eq]
    exact h _ _ _ _ (hi.w3 hk)
  · refine if_go false (by simp) (if_go false (by simp) (if_go false (by simp) (if_go false (by simp) (if_go true (by simp) ?_))))
    simp [fi, sizeLine_eq]
    exact h _ _ _ _ (hi.w4 hk)
  · refine if_go false (by simp) (if_go false (by simp) (if_go false (by simp) (if_go false (by simp) (if_go false (by simp) (if_go true (by simp) ?_)))))
    simp [fi, sizeLine_eq]
    exact h _ _ _ _ hi.w5
  · have z0 : ¬ r = 0 := by omega
    have z1 : ¬ r = 1 := by omega
    have z2 : ¬ r = 2 := by omega
    have z3 : ¬ r = 3 := by omega
    have z4 : ¬ r = 4 := by omega
    have z5 : ¬ r = 5 := by omega
    refine if_go false (by simp [z0]) (if_go false (by simp [z1]) (if_go false (by simp [z2]) (if_go false (by simp [z3]) (if_go false (by simp [z4]) (if_go false (by simp [z5]) ?_)))))
    simp [sizeLine_eq]
    refine pick_does (by simp) (by simp) fun w d' s' hw => ?_
    obtain ⟨w, rfl, hw⟩ : ∃ y : Str, w = .str y ∧ y ∈ (["by", "letall", "made", "num"] : List Str) := by
      simp at hw
      rcases hw with rfl | rfl | rfl | rfl <;> exact ⟨_, rfl, by simp⟩
    simp [fi, sizeLine_eq]
    exact h _ _ _ _ (hi.w6 (by simpa using hw))
def InvD (m : Nat) (sto : List O) (l : List I) (st : VS.St) : Prop :=
  (∀ j ∈ l, ∃ k : Nat, j = .int k ∧ k < 300) ∧ ∃ n i d s x3 x4, n + l.length = m ∧ Deep n i ∧ st = ⟨[feedO d s, .im (.int (m : Nat)), .im i, x3, x4], sto⟩
theorem deep_does {m : Nat} {d s : Int} (hm : 1 ≤ m) (hm2 : m ≤ 300) (h : ∀ i d' s', Deep m i → Q (.im i) [feedO d' s', .hole] sto) : Does f__law_deep [feedO d s, .im (.int (m : Nat))] sto Q E := by
  unfold f__law_deep
  rw [r_does]
  unfold b__law_deep
  rw [e_pick]
  refine r_cut (fun st => ∃ i d s, Deep 0 i ∧ st = ⟨[feedO d s, .im (.int (m : Nat)), .im i, .hole, .hole], sto⟩) ?_ ?_
  · simp [sizeLine_eq]
    refine pick_does (by simp) (by simp) fun i d1 s1 hi => ?_
    simp
    exact deep_base hi
  rintro st ⟨i, d, s, hi, rfl⟩
  rw [r_sSeq, r_sFor, r_itR1]; simp
  refine ⟨r62_s (by omega) (by omega), ?_⟩
  refine r_forL (InvD m sto) ⟨fun j hj => ?_, 0, i, d, s, _, _, by simp [rng], hi, rfl⟩ ?_ ?_
  · unfold rng at hj
    obtain ⟨k, hk, rfl⟩ := List.mem_map.mp hj
    exact ⟨k, by simp, by simp at hk; omega⟩
  · rintro j r st hj ⟨hl, n, i, d, s, x3, x4, hn, hi, rfl⟩
    obtain ⟨k, rfl, hk⟩ := hl j List.mem_cons_self
    simp
    refine deep_step hi (k := k) (by omega) fun j d' s' y4 hj => ⟨fun z hz => hl z (List.mem_cons_of_mem _ hz), n + 1, j, d', s', _, _, by simp at hn; omega, hj, rfl⟩
  · rintro st ⟨_, n, i, d, s, x3, x4, hn, hi, rfl⟩
    rw [thenR_nx]
    simp at hn
    subst hn
    simp
    exact h _ _ _ hi
end
end K07

namespace K07
open PySem L2 VS VT
theorem ix_str {x : Str} {r : Int} (hz : x.length ≤ sizeLine) (h0 : 0 ≤ r) (h1 : r < x.length) : ∃ c : Nat, c ∈ x.cps.toList ∧ fIx [.str x, .int r] = some (.im (.str ⟨#[c]⟩)) := by
  have hll : x.cps.toList.length = x.length := by simp [Str.length]
  have e : x.cps.toList[r.toNat]? = some (x.cps.toList[r.toNat]'(by omega)) := List.getElem?_eq_getElem (by omega)
  generalize x.cps.toList[r.toNat]'(by omega) = c at e
  refine ⟨c, List.mem_of_getElem? e, ?_⟩
  rw [s_ixs, if_pos hz, at_int h0 (by omega)]
  show (x.cps.toList[r.toNat]?).map _ = _
  rw [e]; rfl
theorem mul_t {l : List I} {k : Int} (h : l ≠ [] ∧ -1000 ≤ k ∧ k ≤ 1000 ∧ l.length ≤ 1000) : fMul [.tup l, .int k] = some (.im (.tup (List.replicate k.toNat l).flatten)) := by
  show (if decide (l ≠ [] ∧ -1000 ≤ k ∧ k ≤ 1000 ∧ l.length ≤ 1000) then _ else none) = _
  rw [decide_eq_true h]; rfl
theorem nines : ∀ n : Nat, NumText.digitsVal (List.replicate n 57) + 1 = 10 ^ n
  | 0 => rfl
  | n + 1 => by
    rw [List.replicate_succ', NumText.digitsVal_snoc, Nat.pow_succ]
    have := nines n
    omega
theorem rep9 (n : Nat) : (strRep "9" n).cps.toList = List.replicate n 57 := by
  unfold strRep
  have e : (Str.ofString "9").cps.toList = [57] := by decide +kernel
  rw [List.toList_toArray, e, List.flatten_replicate_singleton]
theorem int9 {n : Nat} (h1 : 19 ≤ n) (h2 : n ≤ 4300) : ∃ v : Int, 1000000000000000000 < v ∧ fIntD [.str (strRep "9" n)] = some (.im (.int v)) := by
  have hl : (strRep "9" n).length = n := by
    have e := rep9 n
    have : (strRep "9" n).cps.toList.length = (strRep "9" n).length := by simp [Str.length]
    rw [← this, e, List.length_replicate]
  refine ⟨((NumText.digitsVal (strRep "9" n).cps.toList : Nat) : Int), ?_, ?_⟩
  · rw [rep9]
    have := nines n
    have h3 : 10 ^ 19 ≤ 10 ^ n := Nat.pow_le_pow_right (by decide) h1
    have h4 : (10 : Nat) ^ 19 = 10000000000000000000 := by decide
    omega
  · show (if (strRep "9" n).length ≤ sizeLine then (PySem.intText? (strRep "9" n)).map fun n => O.im (.int n) else none) = _
    rw [if_pos (by rw [hl, sizeLine_eq]; omega), intText_digits _ _ (by rw [hl]; exact h2)]
    · rfl
    · rw [rep9]
      intro c hc
      have := (List.mem_replicate.mp hc).2
      omega
    · rw [rep9]
      intro z
      have := congrArg List.length z
      simp at this
      omega
theorem m_as : ∃ A : List I, fMul [.tup [.str "a"], .int 999] = some (.im (.tup A)) ∧ Odd (.tup A) := by
  refine ⟨_, mul_t ⟨by simp, by omega, by omega, by simp⟩, ?_⟩
  rw [List.flatten_replicate_singleton]
  exact as_odd
theorem m_nums : ∃ A : List I, fMul [.lst [.str "num"], .int 999] = some (.lst (A.map .im)) ∧ Odd (.lst A) := by
  refine ⟨(List.replicate (999 : Int).toNat [.str "num"]).flatten, ?_, ?_⟩
  · rw [s_mull, if_pos]
    have : rep62 999 = true := by decide +kernel
    rw [this, sizeLine_eq]
    rfl
  · rw [List.flatten_replicate_singleton]
    exact nums_odd
theorem m_str : ∃ A : Str, fMul [.str "a", .int 9999] = some (.im (.str A)) ∧ Odd (.str A) := by
  have l1 : (strRep "a" 9999).length = 9999 := by
    unfold strRep Str.length
    have : (Str.ofString "a").cps.toList.length = 1 := by decide +kernel
    simp [this]
  refine ⟨strRep "a" 9999, ?_, str_odd ?_ (by rw [l1]; omega) (by rw [l1, sizeLine_eq]; omega)⟩
  · rw [s_muls, if_pos]
    · rfl
    have : rep62 9999 = true := by decide +kernel
    rw [this, sizeLine_eq]
    simp
  · unfold PyData.strOk strRep
    rw [← Array.all_toList]
    have e : (Str.ofString "a").cps.toList = [97] := by decide +kernel
    simp only [List.all_eq_true, decide_eq_true_eq]
    intro x hx
    rw [e, List.flatten_replicate_singleton] at hx
    have := (List.mem_replicate.mp hx).2
    omega
section
variable {sto : List O} {Q : O → List O → List O → Prop} {E : Nat → List I → List O → List O → Prop}
theorem fi_th {i : I} (h : Th PT i) (st : VS.St) : flo st (.im i) = some i := flo_im fun r e => by subst e; exact h.elim
def InvG (x4 x5 x6 x7 x8 : O) (m : Nat) (sto : List O) (l : List I) (st : VS.St) : Prop :=
  ∃ n i d s x2 x3, n + l.length = m ∧ Gt n i ∧ st = ⟨[feedO d s, .im i, x2, x3, x4, x5, x6, x7, x8], sto⟩
def PostG (sto : List O) (st : VS.St) : Prop := ∃ t d s x2 x3, Odd t ∧ st = ⟨[feedO d s, .im t, x2, x3, .hole, .hole, .hole, .hole, .hole], sto⟩
def PostH (t : I) (x2 x3 : O) (sto : List O) (st : VS.St) : Prop := ∃ ys d s, (∀ j ∈ ys, Th PT j) ∧ 7 ≤ ys.length ∧ ys.length ≤ 3000 ∧ st = ⟨[feedO d s, .im t, x2, x3, .im (.tup ys), .hole, .hole, .hole, .hole], sto⟩
def PostN (t : I) (x2 x3 x4 : O) (sto : List O) (st : VS.St) : Prop := ∃ k d s, 4 ≤ k ∧ k ≤ 3000 ∧ st = ⟨[feedO d s, .im t, x2, x3, x4, .im (.tup (List.replicate k (.str "a"))), .hole, .hole, .hole], sto⟩
def PostZ (d s : Int) (t : I) (x2 x3 x4 x5 : O) (sto : List O) (st : VS.St) : Prop := ∃ zs, (∀ j ∈ zs, Th PT j) ∧ zs.length = 300 ∧ st = ⟨[feedO d s, .im t, x2, x3, x4, x5, .im (.tup zs), .hole, .hole], sto⟩
def PostB (t : I) (ys : List I) (k : Nat) (x0 x2 x3 x4 x5 x6 : O) (sto : List O) (st : VS.St) : Prop := ∃ v d s, (1000000000000000000 : Int) < v ∧
  st = ⟨[feedO d s, .im t, x2, x3, x4, x5, x6, .lst ([t, .tup [.str "letall", .tup ys, .tup [.str "num", .int 0]], .tup [.str "made", .str "a", .tup (List.replicate k (.str "a"))], .tup [.str "num", .int v]].map .im), .hole], sto⟩
theorem great_does {d s : Int} (h : ∀ (l : List I) d' s', (∀ j ∈ l, Odd j) → l.length = 8 → Q (.lst (l.map .im)) [feedO d' s'] sto) : Does f__law_great [feedO d s] sto Q E := by
  unfold f__law_great
  rw [r_does]
  unfold b__law_great
  rw [e_take]
  refine r_cut (fun st => st = ⟨[feedO d s, .im (.tup [.str "num", .int 0]), .hole, .hole, .hole, .hole, .hole, .hole, .hole], sto⟩) (by simp) ?_
  rintro st rfl
  refine r_cut (PostG sto) ?_ ?_
  · rw [r_sFor, r_itR1]; simp
    refine take_does (by omega) (by omega) fun r d1 s1 h0 h1 => ?_
    simp
    refine ⟨r62_s (by omega) (by omega), ?_⟩
    refine r_forL (InvG .hole .hole .hole .hole .hole (61 + r).toNat sto) ⟨0, _, _, _, _, _, by simp [rng], gt0, rfl⟩ ?_ ?_
    · rintro j rr st hj ⟨n, i, d, s, x2, x3, hn, hi, rfl⟩
      have fi : ∀ st : VS.St, flo st (.im i) = some i := fi_th hi.th
      unfold b__law_great_1
      rw [e_pick]
      simp [sizeLine_eq, fi]
      rw [r_sSeq]
      simp [sizeLine_eq, fi]
      refine pick_does (by simp) (by simp) fun t d1 s1 ht => ?_
      have ht : Gt (n + 1) t := by
        simp only [List.mem_cons, List.not_mem_nil, or_false] at ht
        rcases ht with rfl | rfl | rfl
        · exact hi.s1
        · exact hi.s2
        · exact hi.s3
      simp
      exact ⟨n + 1, t, _, _, _, _, by simp at hn; omega, ht, rfl⟩
    · rintro st ⟨n, i, d, s, x2, x3, hn, hi, rfl⟩
      simp at hn
      have ho := hi.odd (by omega)
      exact ⟨i, _, _, _, _, ho, rfl⟩
  rintro st ⟨t, d, s, x2, x3, ht, rfl⟩
  have ft : ∀ st : VS.St, flo st (.im t) = some t := fi_th ht.th
  refine r_cut (PostH t x2 x3 sto) ?_ ?_
  · rw [r_sSet]
    simp [r_itR1]
    refine take_does (by omega) (by omega) fun r d1 s1 h0 h1 => ?_
    simp
    refine ⟨r62_s (by omega) (by omega), lc_all (Th PT) rfl (by simp [rng, sizeLine_eq]; omega) (fun i hi => ?_) fun ys hl hys => ?_⟩
    · obtain ⟨k, hk, rfl⟩ : ∃ k : Nat, k < 407 ∧ i = .int k := by
        unfold rng at hi
        obtain ⟨k, hk, rfl⟩ := List.mem_map.mp hi
        exact ⟨k, by simp at hk; omega, by simp⟩
      have hb : (Str.ofString "bcdefgh").length = 7 := by decide +kernel
      obtain ⟨c, hc, ec⟩ := ix_str (x := "bcdefgh") (r := (k : Int) % 7) (by rw [hb, sizeLine_eq]; decide) (by omega) (by rw [hb]; omega)
      have hc2 : ∀ c ∈ (Str.ofString "bcdefgh").cps.toList, c < 128 := by decide +kernel
      have hc3 := hc2 c hc
      simp [wip, ec, -s_ixs, sizeLine_eq]
      have hs : Str.length ⟨#[c]⟩ = 1 := rfl
      refine ⟨by rw [hs]; omega, by rw [PySem.Str.length_append, hs]; simp, ?_⟩
      exact (nm_app (x := "a") (y := ⟨#[c]⟩) (by simp) (by simp [PyData.strOk]; omega) (by rw [hs]; simp)).1
    · simp only [flo_l, flat_lst, allIm_map, Option.map_some, Option.some.injEq, exists_eq_left']
      simp [rng] at hl
      simp [sizeLine_eq]
      exact ⟨ys, _, _, hys, by omega, by omega, rfl⟩
  rintro st ⟨ys, d, s, hy, hy1, hy2, rfl⟩
  refine r_cut (PostN t x2 x3 (.im (.tup ys)) sto) ?_ ?_
  · simp
    refine take_does (by omega) (by omega) fun r d1 s1 h0 h1 => ?_
    simp
    rw [mul_t ⟨by simp, by omega, by omega, by simp⟩]
    simp [List.flatten_replicate_singleton]
    exact ⟨(4 + r).toNat, _, _, by omega, by omega, rfl⟩
  rintro st ⟨k, d, s, hk1, hk2, rfl⟩
  refine r_cut (PostZ d s t x2 x3 (.im (.tup ys)) (.im (.tup (List.replicate k (.str "a")))) sto) ?_ ?_
  · rw [r_sSet]
    simp [r_itR1]
    refine ⟨r62_s (by omega) (by omega), lc_all (Th PT) rfl (by simp [rng, sizeLine_eq]) (fun i hi => ?_) fun zs hl hzs => ?_⟩
    · obtain ⟨k, hk, rfl⟩ : ∃ k : Nat, k < 300 ∧ i = .int k := by
        unfold rng at hi
        obtain ⟨k, hk, rfl⟩ := List.mem_map.mp hi
        exact ⟨k, by simp at hk; omega, by simp⟩
      simp [wip, sizeLine_eq]
    · simp only [flo_l, flat_lst, allIm_map, Option.map_some, Option.some.injEq, exists_eq_left']
      simp [rng] at hl
      simp [sizeLine_eq]
      exact ⟨zs, hzs, hl, rfl⟩
  rintro st ⟨zs, hz, hz2, rfl⟩
  rw [r_sSeq]; simp [ft, sizeLine_eq]
  refine r_cut (PostB t ys k (feedO d s) x2 x3 (.im (.tup ys)) (.im (.tup (List.replicate k (.str "a")))) (.im (.tup zs)) sto) ?_ ?_
  · simp [ft, sizeLine_eq]
    refine take_does (by omega) (by omega) fun r d1 s1 h0 h1 => ?_
    obtain ⟨v, hv, ev⟩ := int9 (n := (19 + r).toNat) (by omega) (by omega)
    have r62 : rep62 (19 + r) = true := by
      unfold rep62
      have : (2 : Int) ^ 62 = 4611686018427387904 := by decide
      exact decide_eq_true (by omega)
    have l9 : (Str.ofString "9").length = 1 := by decide +kernel
    simp [r62, l9, sizeLine_eq]
    refine ⟨by omega, ?_⟩
    rw [ev]
    simp [sizeLine_eq]
    exact ⟨v, d1, s1, hv, rfl⟩
  rintro st ⟨v, d, s, hv, rfl⟩
  obtain ⟨A1, e1, o1⟩ := m_as
  obtain ⟨A2, e2, o2⟩ := m_nums
  obtain ⟨A3, e3, o3⟩ := m_str
  have hW := wide_odd hy hy1 hy2
  have hN := names_odd hk1 hk2
  have hB := big_odd hv
  have hL := lines_odd hz (by omega) (by omega)
  generalize List.replicate k (I.str "a") = nk at *
  have h8 := h [t, .tup [.str "letall", .tup ys, .tup [.str "num", .int 0]], .tup [.str "made", .str "a", .tup nk], .tup [.str "num", .int v],
    .tup [.str "let", .str "a", .tup [.str "num", .int 0], .tup [.str "by", .str "a", .tup zs]], .tup A1, .lst A2, .str A3] d s (by
      intro j hj
      simp only [List.mem_cons, List.not_mem_nil, or_false] at hj
      rcases hj with rfl | rfl | rfl | rfl | rfl | rfl | rfl | rfl <;> assumption) rfl
  simp [e1, e2, e3, -s_muls, -s_mull, sizeLine_eq]
  exact h8
end
end K07

namespace K07
open PySem L2 VS VT
section
variable {sto : List O} {Q : O → List O → List O → Prop} {E : Nat → List I → List O → List O → Prop}
theorem fi_t {i : I} (h : Th PT i) (st : VS.St) : flo st (.im i) = some i := flo_im fun r e => by subst e; exact h.elim
theorem Dw.th {m : Nat} {i : I} (h : Dw m i) : Th PT i := by
  obtain ⟨t, rfl, ok, _, hp⟩ := h
  exact th_enc (ns := NS) (fun x hx => ⟨trivial, (NS_ok x hx).1⟩) (fun _ _ => trivial) t ok
def InvU (m : Nat) (x4 x5 : O) (sto : List O) (l : List I) (st : VS.St) : Prop :=
  ∃ (n : Nat) (i j : I) (d s : Int) (x6 : O), n + l.length = m ∧ (l = (rng 0 m).drop n) ∧ Du n i ∧ Dw (min n 28) j ∧ st = ⟨[feedO d s, .im (.int (m : Nat)), .im i, .im j, x4, x5, x6], sto⟩
def InvV (m : Nat) (x1 x2 x3 : O) (sto : List O) (l : List I) (st : VS.St) : Prop :=
  ∃ (n : Nat) (i j : I) (d s : Int) (x6 : O), n + l.length = m ∧ Pl i ∧ Pr n j ∧ st = ⟨[feedO d s, x1, x2, x3, .im i, .im j, x6], sto⟩
def PostU (sto : List O) (st : VS.St) : Prop := ∃ i j d s x1 x6, Du 10 i ∧ Dw 10 j ∧ st = ⟨[feedO d s, x1, .im i, .im j, .im (.lst []), .im (.tup []), x6], sto⟩
theorem du_mono {m n : Nat} {i : I} (h : Du n i) (hm : m ≤ n) : Du m i := by
  obtain ⟨t, rfl, ok, hp⟩ := h
  exact ⟨t, rfl, ok, Nat.le_trans (Nat.pow_le_pow_right (by decide) hm) hp⟩
theorem dw_mono {m n : Nat} {i : I} (h : Dw n i) (hm : m ≤ n) : Dw m i := by
  obtain ⟨t, rfl, ok, hw, hp⟩ := h
  exact ⟨t, rfl, ok, hw, Nat.le_trans (Nat.pow_le_pow_right (by decide) hm) hp⟩
def PostV (x1 x2 x3 : O) (sto : List O) (st : VS.St) : Prop := ∃ (n : Nat) (i j : I) (d s : Int) (x6 : O), 1 ≤ n ∧ Pl i ∧ Pr n j ∧ st = ⟨[feedO d s, x1, x2, x3, .im i, .im j, x6], sto⟩
theorem drop_rng {m n : Nat} {j : I} {rr : List I} (h : j :: rr = (rng 0 m).drop n) : j = .int (n : Nat) ∧ rr = (rng 0 m).drop (n + 1) := by
  have hl : n < (rng 0 m).length := by
    rcases Nat.lt_or_ge n (rng 0 m).length with q | q
    · exact q
    · rw [List.drop_eq_nil_of_le q] at h; cases h
  rw [List.drop_eq_getElem_cons hl] at h
  obtain ⟨e1, e2⟩ := List.cons.inj h
  refine ⟨?_, e2⟩
  rw [e1]
  simp [rng]
theorem doubled_does {d s : Int} (h : ∀ (l : List I) d' s', (∀ j ∈ l, Odd j) → l.length = 7 → Q (.lst (l.map .im)) [feedO d' s'] sto) : Does f__law_doubled [feedO d s] sto Q E := by
  unfold f__law_doubled
  rw [r_does]
  unfold b__law_doubled
  rw [e_take]
  refine r_cut (fun st => ∃ m d s, 10 ≤ m ∧ m ≤ 60 ∧ st = ⟨[feedO d s, .im (.int ((m : Nat) : Int)), .hole, .hole, .hole, .hole, .hole], sto⟩) ?_ ?_
  · simp
    refine take_does (by omega) (by omega) fun r d1 s1 h0 h1 => ?_
    simp
    exact ⟨(10 + r).toNat, by omega, by omega, by omega⟩
  rintro st ⟨m, d, s, hm1, hm2, rfl⟩
  refine r_cut (fun st => st = ⟨[feedO d s, .im (.int (m : Nat)), .im (.tup [.str "num", .int 1]), .im (.tup [.str "fun", .str "a", .tup [.str "num", .int 2]]), .im (.lst []), .im (.tup []), .hole], sto⟩) ?_ ?_
  · simp [sizeLine_eq]
  rintro st rfl
  refine r_cut (PostU sto) ?_ ?_
  · rw [r_sFor, r_itR1]; simp
    refine ⟨r62_s (by omega) (by omega), ?_⟩
    refine r_forL (InvU m (.im (.lst [])) (.im (.tup [])) sto) ⟨0, _, _, _, _, _, by simp [rng], rfl, du0, dw0, rfl⟩ ?_ ?_
    · rintro j rr st hj ⟨n, i, w, d, s, x6, hn, hr, hi, hw, rfl⟩
      obtain ⟨rfl, hr2⟩ := drop_rng hr
      have fi := fi_t hi.th
      have fw := fi_t hw.th
      unfold b__law_doubled_1
      rw [e_pick]
      simp [sizeLine_eq, fi]
      refine r_cut (fun st => ∃ u d s, Du (n + 1) u ∧ st = ⟨[feedO d s, .im (.int (m : Nat)), .im u, .im w, .im (.lst []), .im (.tup []), .im (.int (n : Nat))], sto⟩) ?_ ?_
      · simp [sizeLine_eq, fi]
        refine pick_does (by simp) (by simp) fun u d1 s1 hu => ?_
        have hu : Du (n + 1) u := by
          simp only [List.mem_cons, List.not_mem_nil, or_false] at hu
          rcases hu with rfl | rfl
          · exact hi.s1
          · exact hi.s2
        simp
        exact hu
      rintro st ⟨u, d, s, hu, rfl⟩
      by_cases h28 : (n : Int) < 28
      · simp [h28, fw, sizeLine_eq]
        have e1 : min n 28 = n := by omega
        have e2 : min (n + 1) 28 = n + 1 := by omega
        rw [e1] at hw
        exact ⟨n + 1, u, _, d, s, _, by simp at hn; omega, hr2, hu, by rw [e2]; exact hw.s1, rfl⟩
      · simp [h28, fw, sizeLine_eq]
        have e1 : min n 28 = 28 := by omega
        have e2 : min (n + 1) 28 = 28 := by omega
        rw [e1] at hw
        exact ⟨n + 1, u, _, d, s, _, by simp at hn; omega, hr2, hu, by rw [e2]; exact hw, rfl⟩
    · rintro st ⟨n, i, w, d, s, x6, hn, hr, hi, hw, rfl⟩
      simp at hn
      have a1 := du_mono (m := 10) hi (by omega)
      have a2 := dw_mono (m := 10) hw (by omega)
      exact ⟨_, _, _, _, _, _, a1, a2, rfl⟩
  rintro st ⟨i, w, d, s, x1, x6, hi, hw, rfl⟩
  refine r_cut (PostV x1 (.im i) (.im w) sto) ?_ ?_
  · rw [r_sFor, r_itR1]; simp
    refine take_does (by omega) (by omega) fun r d1 s1 h0 h1 => ?_
    simp
    refine ⟨r62_s (by omega) (by omega), ?_⟩
    refine r_forL (InvV (250 + r).toNat x1 (.im i) (.im w) sto) ⟨0, _, _, _, _, _, by simp [rng], pl0, pr0, rfl⟩ ?_ ?_
    · rintro j rr st hj ⟨n, p, q, d, s, x6, hn, hp, hq, rfl⟩
      have fp := fi_t hp.th
      have fq := fi_t hq.th
      simp [sizeLine_eq, fp, fq]
      rw [r_sSeq]
      simp [sizeLine_eq, fp, fq]
      exact ⟨n + 1, _, _, d, s, _, by simp at hn; omega, hp.s, hq.s, rfl⟩
    · rintro st ⟨n, p, q, d, s, x6, hn, hp, hq, rfl⟩
      simp at hn
      exact ⟨n, p, q, d, s, x6, by omega, hp, hq, rfl⟩
  rintro st ⟨n, p, q, d, s, x6, hn, hp, hq, rfl⟩
  have fp := fi_t hp.th
  have fq := fi_t hq.th
  have fi := fi_t hi.th
  have fw := fi_t hw.th
  have h7 := h [i, w, p, q, .tup [.str "fun", .str "a", p], .tup [.str "let", .str "a", q, .tup [.str "num", .int 0]], .tup [.str "made", .str "a", q]] d s (by
      have o1 := hi.odd (by omega)
      have o2 := hw.odd (by omega)
      have o3 := hp.odd
      have o4 := hq.odd
      have o5 := hp.odd2
      have o6 := hq.odd2
      have o7 := hq.odd3 hn
      intro j hj
      simp only [List.mem_cons, List.not_mem_nil, or_false] at hj
      rcases hj with rfl | rfl | rfl | rfl | rfl | rfl | rfl <;> assumption) rfl
  simp [sizeLine_eq, fp, fq, fi, fw]
  exact h7
end
end K07

namespace K07
open PySem L2 VS VT
section
variable {sto : List O}
theorem judge_ok {j : I} {x0 x1 x2 x3 x4 x5 x6 : O} {okk : VS.St → VS.Fl → Prop} {ex : VS.St → Nat → List I → Prop} (hj : Odd j)
    (h : okk ⟨[x0, x1, x2, x3, x4, x5, x6, .im j], sto⟩ .nx) : Run b_law_1 ⟨[x0, x1, x2, x3, x4, x5, x6, .im j], sto⟩ okk ex := by
  have fj := fi_t hj.th
  have ne : fIsNot [.bl false, .bl false] = some (.im (.bl false)) := rfl
  unfold b_law_1
  rw [e_isterm, e_prog, e_isname]
  simp [fj]
  refine isterm_does hj.th ?_
  rw [hj.tm]
  simp [fj, ne]
  refine isprog_no hj.th hj.tm ?_
  simp [fj, ne]
  refine isname_does hj.th ?_
  rw [hj.nm]
  simp [fj, ne]
  exact h
def InvL (x0 x1 x2 x3 x4 x5 x6 : O) (sto : List O) (l : List I) (st : VS.St) : Prop :=
  (∀ j ∈ l, Odd j) ∧ ∃ y7, st = ⟨[x0, x1, x2, x3, x4, x5, x6, y7], sto⟩
def PostA (x0 x1 x4 x5 x6 x7 : O) (sto : List O) (st : VS.St) : Prop := ∃ (n : Nat) (i : I) (d s : Int), Deep n i ∧ 1 ≤ n ∧ n ≤ 41 ∧ st = ⟨[x0, x1, feedO d s, .im i, x4, x5, x6, x7], sto⟩
def PostF (x0 x1 x3 x5 x6 x7 : O) (sto : List O) (st : VS.St) : Prop := ∃ (n : Nat) (i : I) (d s : Int), Deep n i ∧ 61 ≤ n ∧ n ≤ 300 ∧ st = ⟨[x0, x1, feedO d s, x3, .im i, x5, x6, x7], sto⟩
theorem cell_ok {nums : List Int} {k : Nat} {x2 x3 x4 x5 x6 x7 : O} {okk : VS.St → VS.Fl → Prop} {ex : VS.St → Nat → List I → Prop}
    (hk : ∀ y2 y3 y4 y5 y6 y7, okk ⟨[.im (scr nums), .im (.int k), y2, y3, y4, y5, y6, y7], sto⟩ .nx) :
    Run b_law_2 ⟨[.im (scr nums), .im (.int k), x2, x3, x4, x5, x6, x7], sto⟩ okk ex := by
  unfold b_law_2
  rw [e_feed, e_take]
  refine r_cut (fun st => ∃ d s, st = ⟨[.im (scr nums), .im (.int k), feedO d s, x3, x4, x5, x6, x7], sto⟩) ?_ ?_
  · generalize hscr : scr nums = sc
    simp
    subst hscr
    refine feed_does fun d s => ?_
    simp
  rintro st ⟨d, s, rfl⟩
  refine r_cut (PostA (.im (scr nums)) (.im (.int k)) x4 x5 x6 x7 sto) ?_ ?_
  · generalize hscr : scr nums = sc
    simp
    refine take_does (by omega) (by omega) fun r d1 s1 h0 h1 => ?_
    simp
    have e : (1 : Int) + r = (((1 + r).toNat : Nat) : Int) := by omega
    rw [e]
    refine deep_does (by omega) (by omega) fun i d2 s2 hi => ?_
    have fi := fi_gw hi.gw
    simp [fi]
    exact ⟨_, i, d2, s2, hi, by omega, by omega, rfl⟩
  rintro st ⟨n, odd, d, s, ho, hn1, hn2, rfl⟩
  refine r_cut (PostF (.im (scr nums)) (.im (.int k)) (.im odd) x5 x6 x7 sto) ?_ ?_
  · generalize hscr : scr nums = sc
    simp
    refine take_does (by omega) (by omega) fun r d1 s1 h0 h1 => ?_
    simp
    have e : (61 : Int) + r = (((61 + r).toNat : Nat) : Int) := by omega
    rw [e]
    refine deep_does (by omega) (by omega) fun i d2 s2 hi => ?_
    have fi := fi_gw hi.gw
    simp [fi]
    exact ⟨_, i, d2, s2, hi, by omega, by omega, rfl⟩
  rintro st ⟨m, far, d, s, hf, hm1, hm2, rfl⟩
  have fo := fi_gw ho.gw
  have ff := fi_gw hf.gw
  have tho := things_odd ho hn1 hf hm1
  obtain ⟨R, hR⟩ := reprD_ok (things_gw ho.gw hf.gw) (Nat.le_trans (things_d ho hn2 hf hm2) (by omega)) (Nat.le_trans (things_b ho hn2 hf hm2) (by omega))
  generalize hscr : scr nums = sc at hk ⊢
  rw [r_assoc, r_assoc, r_assoc, r_assoc, r_assoc]
  refine r_cut (fun st => st = ⟨[.im sc, .im (.int k), feedO d s, .im odd, .im far, .lst ((things odd far).map .im), x6, x7], sto⟩) ?_ ?_
  · simp [r_sSeq, sizeLine_eq, fo, ff, things]
  rintro st rfl
  have lth : (things odd far).length = 16 := rfl
  generalize things odd far = th at *
  refine r_cut (fun st => st = ⟨[.im sc, .im (.int k), feedO d s, .im odd, .im far, .lst (th.map .im), .im (.str R), x7], sto⟩) ?_ ?_
  · simp [hR]
  rintro st rfl
  rw [r_sSeq, r_sFor]
  simp
  refine great_does fun l1 d1 s1 h1 hl1 => ?_
  simp [sizeLine_eq]
  refine ⟨by omega, ?_⟩
  refine doubled_does fun l2 d2 s2 h2 hl2 => ?_
  simp [sizeLine_eq]
  rw [← List.map_append, allIm_map]
  refine ⟨_, rfl, by simp; omega, ?_⟩
  refine r_forL (InvL (.im sc) (.im (.int k)) (feedO d2 s2) (.im odd) (.im far) (.lst (th.map .im)) (.im (.str R)) sto) ⟨fun j hj => ?_, _, rfl⟩ ?_ ?_
  · rcases List.mem_append.mp hj with q | q
    · rcases List.mem_append.mp q with q | q
      · exact tho j q
      · exact h1 j q
    · exact h2 j q
  · rintro j r st hj ⟨hl, y7, rfl⟩
    simp
    exact judge_ok (hl j List.mem_cons_self) ⟨fun z hz => hl z (List.mem_cons_of_mem _ hz), _, rfl⟩
  · rintro st ⟨_, y7, rfl⟩
    have ne : fNe [.str R, .str R] = some (.im (.bl false)) := by simp
    rw [thenR_nx]
    simp [hR, ne]
    exact hk _ _ _ _ _ _
def InvP (sc : I) (l : List I) (st : VS.St) : Prop :=
  (∀ i ∈ l, ∃ k : Nat, i = .int k) ∧ ∃ (x1 x2 x3 x4 x5 x6 x7 : O), st = ⟨[.im sc, x1, x2, x3, x4, x5, x6, x7], []⟩
theorem plain : ∀ ns : List Int, ns.length ≤ 63 → ∃ fi sto, f_law [.im (scr ns)] [] = some (.ok (.im (.bl true)), fi, sto) := by
  intro nums hl
  refine does_ok ?_
  unfold f_law
  rw [r_does]
  unfold b_law
  rw [r_sSeq, r_sFor, r_itR1]
  generalize hscr : scr nums = sc
  have fsc : ∀ st : VS.St, flo st (.im sc) = some sc := fun st => by subst hscr; rfl
  have fln : fLen [sc] = some (.im (.int nums.length)) := by
    subst hscr
    show some (O.im (.int ((nums.map I.int).length : Nat))) = _
    simp
  simp [fsc, fln]
  refine ⟨r62_s (by split <;> split <;> omega) (by split <;> split <;> omega), ?_⟩
  refine r_forL (fun l st => InvP sc l st) ⟨fun i hi => ?_, _, _, _, _, _, _, _, rfl⟩ ?_ ?_
  · unfold rng at hi
    obtain ⟨k, hk, rfl⟩ := List.mem_map.mp hi
    exact ⟨k, by simp⟩
  · rintro i r st hi ⟨hk, x1, x2, x3, x4, x5, x6, x7, rfl⟩
    obtain ⟨k, rfl⟩ := hk i List.mem_cons_self
    simp
    subst hscr
    exact cell_ok fun y2 y3 y4 y5 y6 y7 => ⟨fun i hi => hk i (List.mem_cons_of_mem _ hi), _, _, _, _, _, _, _, rfl⟩
  · rintro st ⟨_, x1, x2, x3, x4, x5, x6, x7, rfl⟩
    rw [thenR_nx]
    simp
end
end K07

namespace K07
open PySem PySem.Spec PyProof.Rows L2 VS
def top (i : Nat) : Stmt := PySem.Challenge.pw_owedonce_k07_things_of_anything.main.body.getD i (.Pass ⟨0, 0, 0, 0⟩)
structure Gs (P : Program) (w : World) (K : PySem.W.Frag) (mg : Str → Option Value) (base : Heap) (n : Pn) : Prop where
  f_abs : mg "abs" = none
  f_all : mg "all" = none
  f_bool : mg "bool" = none
  f_int : mg "int" = none
  f_isinstance : mg "isinstance" = none
  f_len : mg "len" = none
  f_list : mg "list" = none
  f_max : mg "max" = none
  f_min : mg "min" = none
  f_range : mg "range" = none
  f_repr : mg "repr" = none
  f_set : mg "set" = none
  f_sorted : mg "sorted" = none
  f_str : mg "str" = none
  f_tuple : mg "tuple" = none
  v_LETTERS : ∃ t, mg "LETTERS" = some (.str "abcdefghijklmnopqrstuvwxyz" t)
  v_MOST_LETTERS : ∃ t, mg "MOST_LETTERS" = some (.int 8 t)
  v_MOST_NAMES : ∃ t, mg "MOST_NAMES" = some (.int 3 t)
  v_MOST_NUMBER : ∃ t, mg "MOST_NUMBER" = some (.int 1000000000000000000 t)
  v_MOST_PAIRS : ∃ t, mg "MOST_PAIRS" = some (.int 6 t)
  v_MOST_PIECES : ∃ t, mg "MOST_PIECES" = some (.int 300 t)
  v_MOST_WITHIN : ∃ t, mg "MOST_WITHIN" = some (.int 60 t)
  s_NAMES_ALONE : KSeq K mg "NAMES_ALONE" l_NAMES_ALONE
  d_SIZES : KDic K w mg "SIZES" m_SIZES
  nodig : base.NoDigits
section
variable {P : Program} {w : World} {K : PySem.W.Frag} {mg : Str → Option Value} {base : Heap} {n : Pn}
theorem g_is_name {f : Addr} {fd : FuncData} (FD : FunD K "is_name" "is_name" (defArgs (top 10)) (defBody (top 10)) (defScope (top 10)) [] [] f fd) (G : Gs P w K mg base n) :
    FnG P w K mg base 1 f fd ["thing"] (spOf ⟨K, n⟩ 2 1 [] f_is_name) := by
  have S : FnScope ["thing", "sign"] ["thing"] (defScope (top 10)) := ⟨rfl, rfl, rfl, by decide +kernel, rfl, by decide +kernel, by decide +kernel⟩
  refine fnG (N := ["thing", "sign"]) (ps := ["thing"]) (n := n) (io := []) (b := b_is_name) FD S (by decide) fun cdv A outer s H E a => ?_
  exact (sv_one (sv_ret (ev_and (ev_isi (.inl rfl) boot_str G.f_isinstance G.f_str (eo_vl (ev_var (pv 0)))) (ev_and (ev_ch or_le or_le (eo_vl ev_int) (eo_vl (ev_callB cr_len G.f_len boot_len (ol_cons (eo_vl (ev_var (pv 0))) ol_nil))) (eo_vl (e_int G.v_MOST_LETTERS))) (ev_one (ev_callB (cr_all rfl) G.f_all boot_all (ol_cons (eo_vl (ev_lc (own := [("sign", 1)]) rfl S.nd (pi_v (ev_var (pv 0))) (blkOk_by (by rfl)) (by decide) (fun _ _ _ _ _ => (pg_nm S.nd rfl (by first | exact .inl rfl | exact .inr rfl))) (fun _ _ _ _ _ => PTs.nil') (fun _ _ _ _ _ => (ev_cmp (or_in a.u65) (eo_vl (ev_var (pv 1))) (eo_vl (e_str G.v_LETTERS)))))) ol_nil)))))))
theorem g_is_number {f : Addr} {fd : FuncData} (FD : FunD K "is_number" "is_number" (defArgs (top 11)) (defBody (top 11)) (defScope (top 11)) [] [] f fd) (G : Gs P w K mg base n) :
    FnG P w K mg base 1 f fd ["thing"] (spOf ⟨K, n⟩ 1 1 [] f_is_number) := by
  have S : FnScope ["thing"] ["thing"] (defScope (top 11)) := ⟨rfl, rfl, rfl, by decide +kernel, rfl, by decide +kernel, by decide +kernel⟩
  refine fnG (N := ["thing"]) (ps := ["thing"]) (n := n) (io := []) (b := b_is_number) FD S (by decide) fun cdv A outer s H E a => ?_
  exact (sv_one (sv_ret (ev_and (ev_isi (.inr (.inl rfl)) boot_int G.f_isinstance G.f_int (eo_vl (ev_var (pv 0)))) (ev_and (ev_not (ev_isi (.inr (.inr (.inl rfl))) boot_bool G.f_isinstance G.f_bool (eo_vl (ev_var (pv 0))))) (ev_one (ev_ch or_le or_le (eo_vl (ev_un un_ng (eo_vl (e_int G.v_MOST_NUMBER)))) (eo_vl (ev_var (pv 0))) (eo_vl (e_int G.v_MOST_NUMBER))))))))
theorem g_is_worth_form {f : Addr} {fd : FuncData} (FD : FunD K "is_worth_form" "is_worth_form" (defArgs (top 14)) (defBody (top 14)) (defScope (top 14)) [] [] f fd) (G : Gs P w K mg base n) :
    FnG P w K mg base 1 f fd ["thing"] (spOf ⟨K, n⟩ 1 1 [] f_is_worth_form) := by
  have S : FnScope ["thing"] ["thing"] (defScope (top 14)) := ⟨rfl, rfl, rfl, by decide +kernel, rfl, by decide +kernel, by decide +kernel⟩
  refine fnG (N := ["thing"]) (ps := ["thing"]) (n := n) (io := []) (b := b_is_worth_form) FD S (by decide) fun cdv A outer s H E a => ?_
  exact (sv_one (sv_ret (ev_and (ev_isi (.inr (.inr (.inr (.inl rfl)))) boot_tuple G.f_isinstance G.f_tuple (eo_vl (ev_var (pv 0)))) (ev_and (ev_cmp or_gt (eo_vl (ev_callB cr_len G.f_len boot_len (ol_cons (eo_vl (ev_var (pv 0))) ol_nil))) (eo_vl ev_int)) (ev_and (ev_isi (.inl rfl) boot_str G.f_isinstance G.f_str (eo_vl (ev_ix (ix_any a.u1) (eo_vl (ev_var (pv 0))) (eo_vl ev_int)))) (ev_one (ev_cmp (or_in a.u65) (eo_vl (ev_ix (ix_any a.u1) (eo_vl (ev_var (pv 0))) (eo_vl ev_int))) (eo_vl (ev_tup (av_cons ev_str (av_cons ev_str av_nil)))))))))))
theorem g_inner_of {f : Addr} {fd : FuncData} (FD : FunD K "inner_of" "inner_of" (defArgs (top 19)) (defBody (top 19)) (defScope (top 19)) [] [] f fd) (G : Gs P w K mg base n) :
    FnG P w K mg base 1 f fd ["term"] (spOf ⟨K, n⟩ 5 1 [] f_inner_of) := by
  have S : FnScope ["term", "word", "parts", "names", "one"] ["term"] (defScope (top 19)) := ⟨rfl, rfl, rfl, by decide +kernel, rfl, by decide +kernel, by decide +kernel⟩
  refine fnG (N := ["term", "word", "parts", "names", "one"]) (ps := ["term"]) (n := n) (io := []) (b := b_inner_of) FD S (by decide) fun cdv A outer s H E a => ?_
  exact (sv_cons (sv_star (by decide) (by decide) (ev_var (pv 0)) (pg_star rfl S.nd rfl rfl (by first | exact .inl rfl | exact .inr rfl) (by first | exact .inl rfl | exact .inr rfl) rfl rfl))
    (sv_cons (sv_if (bt_cmp (or_eq a.u120) (eo_vl (ev_var (pv 1))) (eo_vl ev_str))
    (sv_one (sv_ret (ev_lst (av_cons (ev_tup (av_cons (ev_ix (ix_any a.u1) (eo_vl (ev_var (pv 2))) (eo_vl ev_int)) (av_cons (ev_tup (av_cons (ev_ix (ix_any a.u1) (eo_vl (ev_var (pv 2))) (eo_vl ev_int)) av_nil)) av_nil))) av_nil))))
    sv_next)
    (sv_cons (sv_if (bt_cmp (or_in a.u65) (eo_vl (ev_var (pv 1))) (eo_vl (ev_tup (av_cons ev_str (av_cons ev_str av_nil)))))
    (sv_one (sv_ret (ev_lst (av_cons (ev_tup (av_cons (ev_ix (ix_any a.u1) (eo_vl (ev_var (pv 2))) (eo_vl ev_int)) (av_cons (ev_tup av_nil) av_nil))) (av_cons (ev_tup (av_cons (ev_ix (ix_any a.u1) (eo_vl (ev_var (pv 2))) (eo_vl ev_int)) (av_cons (ev_tup (av_cons (ev_ix (ix_any a.u1) (eo_vl (ev_var (pv 2))) (eo_vl ev_int)) av_nil)) av_nil))) av_nil)))))
    sv_next)
    (sv_cons (sv_if (bt_cmp (or_eq a.u120) (eo_vl (ev_var (pv 1))) (eo_vl ev_str))
    (sv_cons (sv_set (by decide) S.nd rfl (by first | exact .inl rfl | exact .inr rfl) (ev_callTy cr_tuple G.f_tuple boot_tuple (ol_cons (eo_vl (ev_lc (own := [("one", 4)]) rfl S.nd (pi_v (ev_ix (ix_any a.u1) (eo_vl (ev_var (pv 2))) (eo_vl ev_int))) (blkOk_by (by rfl)) (by decide) (fun _ _ _ _ _ => (pg_nm S.nd rfl (by first | exact .inl rfl | exact .inr rfl))) (fun _ _ _ _ _ => PTs.nil') (fun _ _ _ _ _ => (ev_ix (ix_any a.u1) (eo_vl (ev_var (pv 4))) (eo_vl ev_int))))) ol_nil)))
    (sv_one (sv_ret (ev_bin or_add (eo_vl (ev_lc (own := [("one", 4)]) rfl S.nd (pi_v (ev_ix (ix_any a.u1) (eo_vl (ev_var (pv 2))) (eo_vl ev_int))) (blkOk_by (by rfl)) (by decide) (fun _ _ _ _ _ => (pg_nm S.nd rfl (by first | exact .inl rfl | exact .inr rfl))) (fun _ _ _ _ _ => PTs.nil') (fun _ _ _ _ _ => (ev_tup (av_cons (ev_ix (ix_any a.u1) (eo_vl (ev_var (pv 4))) (eo_vl ev_int)) (av_cons (ev_var (pv 3)) av_nil)))))) (eo_vl (ev_lst (av_cons (ev_tup (av_cons (ev_ix (ix_any a.u1) (eo_vl (ev_var (pv 2))) (eo_vl ev_int)) (av_cons (ev_var (pv 3)) av_nil))) av_nil)))))))
    sv_next)
    (sv_cons (sv_if (bt_cmp (or_eq a.u120) (eo_vl (ev_var (pv 1))) (eo_vl ev_str))
    (sv_one (sv_ret (ev_lc (own := [("one", 4)]) rfl S.nd (pi_v (ev_ix (ix_any a.u1) (eo_vl (ev_var (pv 2))) (eo_vl ev_int))) (blkOk_by (by rfl)) (by decide) (fun _ _ _ _ _ => (pg_nm S.nd rfl (by first | exact .inl rfl | exact .inr rfl))) (fun _ _ _ _ _ => PTs.nil') (fun _ _ _ _ _ => (ev_tup (av_cons (ev_ix (ix_any a.u1) (eo_vl (ev_var (pv 4))) (eo_vl ev_int)) (av_cons (ev_ix (ix_any a.u1) (eo_vl (ev_var (pv 4))) (eo_vl ev_int)) av_nil)))))))
    sv_next)
    (sv_one (sv_ret (ev_lst av_nil))))))))
theorem g_own_names {f : Addr} {fd : FuncData} (FD : FunD K "own_names" "own_names" (defArgs (top 20)) (defBody (top 20)) (defScope (top 20)) [] [] f fd) (G : Gs P w K mg base n) :
    FnG P w K mg base 1 f fd ["term"] (spOf ⟨K, n⟩ 3 1 [] f_own_names) := by
  have S : FnScope ["term", "word", "parts"] ["term"] (defScope (top 20)) := ⟨rfl, rfl, rfl, by decide +kernel, rfl, by decide +kernel, by decide +kernel⟩
  refine fnG (N := ["term", "word", "parts"]) (ps := ["term"]) (n := n) (io := []) (b := b_own_names) FD S (by decide) fun cdv A outer s H E a => ?_
  exact (sv_cons (sv_star (by decide) (by decide) (ev_var (pv 0)) (pg_star rfl S.nd rfl rfl (by first | exact .inl rfl | exact .inr rfl) (by first | exact .inl rfl | exact .inr rfl) rfl rfl))
    (sv_cons (sv_if (bt_inK G.s_NAMES_ALONE (eo_vl (ev_var (pv 1))))
    (sv_one (sv_ret (ev_callTy (cr_list a.hd) G.f_list boot_list (ol_cons (eo_vl (ev_var (pv 2))) ol_nil))))
    sv_next)
    (sv_cons (sv_if (bt_cmp (or_eq a.u120) (eo_vl (ev_var (pv 1))) (eo_vl ev_str))
    (sv_one (sv_ret (ev_callTy (cr_list a.hd) G.f_list boot_list (ol_cons (eo_vl (ev_ix (ix_any a.u1) (eo_vl (ev_var (pv 2))) (eo_vl ev_int))) ol_nil))))
    sv_next)
    (sv_one (sv_ret (ev_if (bt_cmp (or_eq a.u120) (eo_vl (ev_var (pv 1))) (eo_vl ev_str)) (ev_lst (av_cons (ev_ix (ix_any a.u1) (eo_vl (ev_var (pv 2))) (eo_vl ev_int)) av_nil)) (ev_lst av_nil)))))))
theorem g__law_feed {f : Addr} {fd : FuncData} (FD : FunD K "_law_feed" "_law_feed" (defArgs (top 24)) (defBody (top 24)) (defScope (top 24)) [] [] f fd) (G : Gs P w K mg base n) :
    FnG P w K mg base 1 f fd ["script", "k"] (spOf ⟨K, n⟩ 5 2 [] f__law_feed) := by
  have S : FnScope ["script", "k", "cell", "digits", "state"] ["script", "k"] (defScope (top 24)) := ⟨rfl, rfl, rfl, by decide +kernel, rfl, by decide +kernel, by decide +kernel⟩
  refine fnG (N := ["script", "k", "cell", "digits", "state"]) (ps := ["script", "k"]) (n := n) (io := []) (b := b__law_feed) FD S (by decide) fun cdv A outer s H E a => ?_
  exact (sv_cons (sv_set (by decide) S.nd rfl (by first | exact .inl rfl | exact .inr rfl) (ev_if (bt_cmp or_lt (eo_vl (ev_var (pv 1))) (eo_vl (ev_callB cr_len G.f_len boot_len (ol_cons (eo_vl (ev_var (pv 0))) ol_nil)))) (ev_ix (ix_any a.u1) (eo_vl (ev_var (pv 0))) (eo_vl (ev_var (pv 1)))) (ev_bin or_add (eo_vl (ev_bin or_mul (eo_vl ev_int) (eo_vl (ev_var (pv 1))))) (eo_vl ev_int))))
    (sv_cons (sv_set (by decide) S.nd rfl (by first | exact .inl rfl | exact .inr rfl) (ev_callB (cr_max rfl) G.f_max boot_max (ol_cons (eo_vl ev_int) (ol_cons (eo_vl (ev_bin or_sub (eo_vl (ev_callB cr_abs G.f_abs boot_abs (ol_cons (eo_vl (ev_var (pv 2))) ol_nil))) (eo_vl (ev_bin or_pow (eo_vl ev_int) (eo_vl ev_int))))) ol_nil))))
    (sv_cons (sv_set (by decide) S.nd rfl (by first | exact .inl rfl | exact .inr rfl) (ev_bin or_mod (eo_vl (ev_bin or_add (eo_vl (ev_bin or_add (eo_vl (ev_bin or_mul (eo_vl (ev_var (pv 2))) (eo_vl ev_int))) (eo_vl (ev_bin or_mul (eo_vl ev_int) (eo_vl (ev_var (pv 1))))))) (eo_vl ev_int))) (eo_vl ev_int)))
    (sv_one (sv_ret (ev_lst (av_cons (ev_var (pv 3)) (av_cons (ev_var (pv 4)) av_nil))))))))
theorem g__law_take {f : Addr} {fd : FuncData} (FD : FunD K "_law_take" "_law_take" (defArgs (top 25)) (defBody (top 25)) (defScope (top 25)) [] [] f fd) (G : Gs P w K mg base n) :
    FnG P w K mg base 1 f fd ["feed", "many"] (spOf ⟨K, n⟩ 3 2 [0] f__law_take) := by
  have S : FnScope ["feed", "many", "found"] ["feed", "many"] (defScope (top 25)) := ⟨rfl, rfl, rfl, by decide +kernel, rfl, by decide +kernel, by decide +kernel⟩
  refine fnG (N := ["feed", "many", "found"]) (ps := ["feed", "many"]) (n := n) (io := [0]) (b := b__law_take) FD S (by decide) fun cdv A outer s H E a => ?_
  exact (sv_cons (sv_if (bt_cmp or_gt (eo_vl (ev_ix (ix_any a.u1) (eo_bo (pv 0)) (eo_vl ev_int))) (eo_vl ev_int))
    (sv_cons (sv_set (by decide) S.nd rfl (by first | exact .inl rfl | exact .inr rfl) (ev_bin or_mod (eo_vl (ev_ix (ix_any a.u1) (eo_bo (pv 0)) (eo_vl ev_int))) (eo_vl (ev_var (pv 1)))))
    (sv_cons (sv_put (ev_bin or_fdv (eo_vl (ev_ix (ix_any a.u1) (eo_bo (pv 0)) (eo_vl ev_int))) (eo_vl (ev_var (pv 1)))) (pv 0) ev_int)
    (sv_one (sv_ret (ev_var (pv 2))))))
    sv_next)
    (sv_cons (sv_put (ev_bin or_mod (eo_vl (ev_bin or_add (eo_vl (ev_bin or_mul (eo_vl (ev_ix (ix_any a.u1) (eo_bo (pv 0)) (eo_vl ev_int))) (eo_vl ev_int))) (eo_vl ev_int))) (eo_vl ev_int)) (pv 0) ev_int)
    (sv_one (sv_ret (ev_bin or_mod (eo_vl (ev_bin or_fdv (eo_vl (ev_ix (ix_any a.u1) (eo_bo (pv 0)) (eo_vl ev_int))) (eo_vl ev_int))) (eo_vl (ev_var (pv 1))))))))
theorem g_are_names {f : Addr} {fd : FuncData} (FD : FunD K "are_names" "are_names" (defArgs (top 12)) (defBody (top 12)) (defScope (top 12)) [] [] f fd) (G : Gs P w K mg base n) (C_is_name : Callee P w K mg base n "is_name" 1 2 1 [] f_is_name []) :
    FnG P w K mg base 2 f fd ["thing", "alike"] (spOf ⟨K, n⟩ 3 2 [] f_are_names) := by
  have S : FnScope ["thing", "alike", "one"] ["thing", "alike"] (defScope (top 12)) := ⟨rfl, rfl, rfl, by decide +kernel, rfl, by decide +kernel, by decide +kernel⟩
  refine fnG (N := ["thing", "alike", "one"]) (ps := ["thing", "alike"]) (n := n) (io := []) (b := b_are_names) FD S (by decide) fun cdv A outer s H E a => ?_
  exact (sv_cons (sv_if (PW.pt (bw_or (bt_not (bt_val (ev_isi (.inr (.inr (.inr (.inl rfl)))) boot_tuple G.f_isinstance G.f_tuple (eo_vl (ev_var (pv 0)))))) (bw_or (bt_cmp or_gt (eo_vl (ev_callB cr_len G.f_len boot_len (ol_cons (eo_vl (ev_var (pv 0))) ol_nil))) (eo_vl (e_int G.v_MOST_NAMES))) (bw_or1 (bt_not (bt_val (ev_callB (cr_all rfl) G.f_all boot_all (ol_cons (eo_vl (ev_lc (own := [("one", 2)]) rfl S.nd (pi_v (ev_var (pv 0))) (blkOk_by (by rfl)) (by decide) (fun _ _ _ _ _ => (pg_nm S.nd rfl (by first | exact .inl rfl | exact .inr rfl))) (fun _ _ _ _ _ => PTs.nil') (fun _ _ _ _ _ => (ev_fz (ev_callC C_is_name a.blk (by decide) (no_exc _) (ol_cons (eo_vl (ev_var (pv 2))) ol_nil)))))) ol_nil))))))))
    (sv_one (sv_ret ev_bl))
    sv_next)
    (sv_one (sv_ret (ev_or (ev_var (pv 1)) (ev_one (ev_cmp (or_eq a.u120) (eo_vl (ev_lenset rfl G.f_len G.f_set (eo_vl (ev_var (pv 0))))) (eo_vl (ev_callB cr_len G.f_len boot_len (ol_cons (eo_vl (ev_var (pv 0))) ol_nil)))))))))
theorem g_are_unlike {f : Addr} {fd : FuncData} (FD : FunD K "are_unlike" "are_unlike" (defArgs (top 13)) (defBody (top 13)) (defScope (top 13)) [] [] f fd) (G : Gs P w K mg base n) (C_is_name : Callee P w K mg base n "is_name" 1 2 1 [] f_is_name []) :
    FnG P w K mg base 2 f fd ["rows", "least"] (spOf ⟨K, n⟩ 5 2 [] f_are_unlike) := by
  have S : FnScope ["rows", "least", "firsts", "row", "one"] ["rows", "least"] (defScope (top 13)) := ⟨rfl, rfl, rfl, by decide +kernel, rfl, by decide +kernel, by decide +kernel⟩
  refine fnG (N := ["rows", "least", "firsts", "row", "one"]) (ps := ["rows", "least"]) (n := n) (io := []) (b := b_are_unlike) FD S (by decide) fun cdv A outer s H E a => ?_
  exact (sv_cons (sv_setLc (own := [("row", 3)]) (by decide) rfl S.nd rfl rfl rfl (pi_v (ev_var (pv 0))) (blkOk_by (by rfl)) (by decide) (fun _ _ _ _ _ => (pg_nm S.nd rfl (by first | exact .inl rfl | exact .inr rfl))) (fun _ _ _ _ _ => PTs.nil') (fun _ _ _ _ _ => (ev_ix (ix_any a.u1) (eo_vl (ev_var (pv 3))) (eo_vl ev_int))))
    (sv_cons (sv_if (PW.pt (bw_or (bt_not (bt_ch or_le or_le (eo_vl (ev_var (pv 1))) (eo_vl (ev_callB cr_len G.f_len boot_len (ol_cons (eo_vl (ev_var (pv 0))) ol_nil))) (eo_vl (e_int G.v_MOST_PAIRS)))) (bw_or1 (bt_not (bt_val (ev_callB (cr_all rfl) G.f_all boot_all (ol_cons (eo_vl (ev_lc (own := [("one", 4)]) rfl S.nd (pi_v (ev_fv (pv 2))) (blkOk_by (by rfl)) (by decide) (fun _ _ _ _ _ => (pg_nm S.nd rfl (by first | exact .inl rfl | exact .inr rfl))) (fun _ _ _ _ _ => PTs.nil') (fun _ _ _ _ _ => (ev_fz (ev_callC C_is_name a.blk (by decide) (no_exc _) (ol_cons (eo_vl (ev_var (pv 4))) ol_nil)))))) ol_nil)))))))
    (sv_one (sv_ret ev_bl))
    sv_next)
    (sv_one (sv_ret (ev_cmp (or_eq a.u120) (eo_vl (ev_lenset rfl G.f_len G.f_set (eo_bo (pv 2)))) (eo_vl (ev_callB cr_len G.f_len boot_len (ol_cons (eo_bo (pv 2)) ol_nil))))))))
theorem g__law_pick {f : Addr} {fd : FuncData} (FD : FunD K "_law_pick" "_law_pick" (defArgs (top 26)) (defBody (top 26)) (defScope (top 26)) [] [] f fd) (G : Gs P w K mg base n) (C__law_take : Callee P w K mg base n "_law_take" 1 3 2 [0] f__law_take []) :
    FnG P w K mg base 2 f fd ["feed", "some"] (spOf ⟨K, n⟩ 2 2 [0] f__law_pick) := by
  have S : FnScope ["feed", "some"] ["feed", "some"] (defScope (top 26)) := ⟨rfl, rfl, rfl, by decide +kernel, rfl, by decide +kernel, by decide +kernel⟩
  refine fnG (N := ["feed", "some"]) (ps := ["feed", "some"]) (n := n) (io := [0]) (b := b__law_pick) FD S (by decide) fun cdv A outer s H E a => ?_
  exact (sv_one (sv_ret (ev_ix (ix_any a.u1) (eo_vl (ev_var (pv 1))) (eo_vl (ev_callC C__law_take a (by decide) cx_takes (ol_cons (eo_bo (pv 0)) (ol_cons (eo_vl (ev_callB cr_len G.f_len boot_len (ol_cons (eo_vl (ev_var (pv 1))) ol_nil))) ol_nil)))))))
theorem g_parts_letall {f : Addr} {fd : FuncData} (FD : FunD K "parts_letall" "parts_letall" (defArgs (top 15)) (defBody (top 15)) (defScope (top 15)) [] [] f fd) (G : Gs P w K mg base n) (C_are_unlike : Callee P w K mg base n "are_unlike" 2 5 2 [] f_are_unlike []) (C_is_worth_form : Callee P w K mg base n "is_worth_form" 1 1 1 [] f_is_worth_form []) :
    FnG P w K mg base 3 f fd ["parts"] (spOf ⟨K, n⟩ 4 1 [] f_parts_letall) := by
  have S : FnScope ["parts", "pairs", "below", "one"] ["parts"] (defScope (top 15)) := ⟨rfl, rfl, rfl, by decide +kernel, rfl, by decide +kernel, by decide +kernel⟩
  refine fnG (N := ["parts", "pairs", "below", "one"]) (ps := ["parts"]) (n := n) (io := []) (b := b_parts_letall) FD S (by decide) fun cdv A outer s H E a => ?_
  exact (sv_cons (sv_unpS (by decide) (ev_var (pv 0)) (pg_seq rfl (pgs_cons (pg_name S.nd rfl (by first | exact .inl rfl | exact .inr rfl)) (pgs_cons (pg_name S.nd rfl (by first | exact .inl rfl | exact .inr rfl)) pgs_nil))))
    (sv_cons (sv_if (PW.pt (bw_or (bt_not (bt_val (ev_isi (.inr (.inr (.inr (.inl rfl)))) boot_tuple G.f_isinstance G.f_tuple (eo_vl (ev_var (pv 1)))))) (bw_or1 (bt_not (bt_val (ev_callB (cr_all rfl) G.f_all boot_all (ol_cons (eo_vl (ev_lc (own := [("one", 3)]) rfl S.nd (pi_v (ev_var (pv 1))) (blkOk_by (by rfl)) (by decide) (fun _ _ _ _ _ => (pg_nm S.nd rfl (by first | exact .inl rfl | exact .inr rfl))) (fun _ _ _ _ _ => PTs.nil') (fun _ _ _ _ _ => (ev_and (ev_isi (.inr (.inr (.inr (.inl rfl)))) boot_tuple G.f_isinstance G.f_tuple (eo_vl (ev_var (pv 3)))) (ev_one (ev_cmp (or_eq a.u120) (eo_vl (ev_callB cr_len G.f_len boot_len (ol_cons (eo_vl (ev_var (pv 3))) ol_nil))) (eo_vl ev_int))))))) ol_nil)))))))
    (sv_one (sv_ret ev_non))
    sv_next)
    (sv_cons (sv_if (PW.pt (bw_or (bt_not (bt_val (ev_callC C_are_unlike a (by decide) cx_takes (ol_cons (eo_vl (ev_var (pv 1))) (ol_cons (eo_vl ev_int) ol_nil))))) (bw_or1 (bt_not (bt_val (ev_callB (cr_all rfl) G.f_all boot_all (ol_cons (eo_vl (ev_lc (own := [("one", 3)]) rfl S.nd (pi_v (ev_var (pv 1))) (blkOk_by (by rfl)) (by decide) (fun _ _ _ _ _ => (pg_nm S.nd rfl (by first | exact .inl rfl | exact .inr rfl))) (fun _ _ _ _ _ => PTs.nil') (fun _ _ _ _ _ => (ev_fz (ev_callC C_is_worth_form a.blk (by decide) (no_exc _) (ol_cons (eo_vl (ev_ix (ix_any a.u1) (eo_vl (ev_var (pv 3))) (eo_vl ev_int))) ol_nil)))))) ol_nil)))))))
    (sv_one (sv_ret ev_non))
    sv_next)
    (sv_one (sv_ret (ev_bin or_add (eo_vl (ev_lc (own := [("one", 3)]) rfl S.nd (pi_v (ev_var (pv 1))) (blkOk_by (by rfl)) (by decide) (fun _ _ _ _ _ => (pg_nm S.nd rfl (by first | exact .inl rfl | exact .inr rfl))) (fun _ _ _ _ _ => PTs.nil') (fun _ _ _ _ _ => (ev_ix (ix_any a.u1) (eo_vl (ev_var (pv 3))) (eo_vl ev_int))))) (eo_vl (ev_lst (av_cons (ev_var (pv 2)) av_nil)))))))))
theorem g_parts_by {f : Addr} {fd : FuncData} (FD : FunD K "parts_by" "parts_by" (defArgs (top 16)) (defBody (top 16)) (defScope (top 16)) [] [] f fd) (G : Gs P w K mg base n) (C_is_name : Callee P w K mg base n "is_name" 1 2 1 [] f_is_name []) (C_are_names : Callee P w K mg base n "are_names" 2 3 2 [] f_are_names []) (C_are_unlike : Callee P w K mg base n "are_unlike" 2 5 2 [] f_are_unlike []) :
    FnG P w K mg base 3 f fd ["parts"] (spOf ⟨K, n⟩ 4 1 [] f_parts_by) := by
  have S : FnScope ["parts", "name", "branches", "one"] ["parts"] (defScope (top 16)) := ⟨rfl, rfl, rfl, by decide +kernel, rfl, by decide +kernel, by decide +kernel⟩
  refine fnG (N := ["parts", "name", "branches", "one"]) (ps := ["parts"]) (n := n) (io := []) (b := b_parts_by) FD S (by decide) fun cdv A outer s H E a => ?_
  exact (sv_cons (sv_unpS (by decide) (ev_var (pv 0)) (pg_seq rfl (pgs_cons (pg_name S.nd rfl (by first | exact .inl rfl | exact .inr rfl)) (pgs_cons (pg_name S.nd rfl (by first | exact .inl rfl | exact .inr rfl)) pgs_nil))))
    (sv_cons (sv_if (PW.pt (bw_or (bt_not (bt_val (ev_callC C_is_name a (by decide) cx_takes (ol_cons (eo_vl (ev_var (pv 1))) ol_nil)))) (bw_or1 (bt_not (bt_val (ev_isi (.inr (.inr (.inr (.inl rfl)))) boot_tuple G.f_isinstance G.f_tuple (eo_vl (ev_var (pv 2)))))))))
    (sv_one (sv_ret ev_non))
    sv_next)
    (sv_cons (sv_if (bt_not (bt_val (ev_callB (cr_all rfl) G.f_all boot_all (ol_cons (eo_vl (ev_lc (own := [("one", 3)]) rfl S.nd (pi_v (ev_var (pv 2))) (blkOk_by (by rfl)) (by decide) (fun _ _ _ _ _ => (pg_nm S.nd rfl (by first | exact .inl rfl | exact .inr rfl))) (fun _ _ _ _ _ => PTs.nil') (fun _ _ _ _ _ => (ev_and (ev_isi (.inr (.inr (.inr (.inl rfl)))) boot_tuple G.f_isinstance G.f_tuple (eo_vl (ev_var (pv 3)))) (ev_and (ev_cmp (or_eq a.u120) (eo_vl (ev_callB cr_len G.f_len boot_len (ol_cons (eo_vl (ev_var (pv 3))) ol_nil))) (eo_vl ev_int)) (ev_one (ev_callC C_are_names a.blk (by decide) (no_exc _) (ol_cons (eo_vl (ev_ix (ix_any a.u1) (eo_vl (ev_var (pv 3))) (eo_vl ev_int))) (ol_cons (eo_vl ev_bl) ol_nil))))))))) ol_nil))))
    (sv_one (sv_ret ev_non))
    sv_next)
    (sv_one (sv_ret (ev_if (bt_val (ev_callC C_are_unlike a (by decide) cx_takes (ol_cons (eo_vl (ev_var (pv 2))) (ol_cons (eo_vl ev_int) ol_nil)))) (ev_lc (own := [("one", 3)]) rfl S.nd (pi_v (ev_var (pv 2))) (blkOk_by (by rfl)) (by decide) (fun _ _ _ _ _ => (pg_nm S.nd rfl (by first | exact .inl rfl | exact .inr rfl))) (fun _ _ _ _ _ => PTs.nil') (fun _ _ _ _ _ => (ev_ix (ix_any a.u1) (eo_vl (ev_var (pv 3))) (eo_vl ev_int)))) ev_non))))))
theorem g__law_deep {f : Addr} {fd : FuncData} (FD : FunD K "_law_deep" "_law_deep" (defArgs (top 28)) (defBody (top 28)) (defScope (top 28)) [] [] f fd) (G : Gs P w K mg base n) (C__law_pick : Callee P w K mg base n "_law_pick" 2 2 2 [0] f__law_pick []) (C__law_take : Callee P w K mg base n "_law_take" 1 3 2 [0] f__law_take []) :
    FnG P w K mg base 3 f fd ["feed", "many"] (spOf ⟨K, n⟩ 5 2 [0] f__law_deep) := by
  have S : FnScope ["feed", "many", "thing", "turn", "way"] ["feed", "many"] (defScope (top 28)) := ⟨rfl, rfl, rfl, by decide +kernel, rfl, by decide +kernel, by decide +kernel⟩
  refine fnG (N := ["feed", "many", "thing", "turn", "way"]) (ps := ["feed", "many"]) (n := n) (io := [0]) (b := b__law_deep) FD S (by decide) fun cdv A outer s H E a => ?_
  exact (sv_cons (sv_set (by decide) S.nd rfl (by first | exact .inl rfl | exact .inr rfl) (ev_fz (ev_callC C__law_pick a (by decide) cx_takes (ol_cons (eo_bo (pv 0)) (ol_cons (eo_vl (ev_fz (ev_lst (av_cons ev_non (av_cons ev_bl (av_cons (ev_bin or_sub (eo_vl ev_int) (eo_vl ev_int)) (av_cons ev_str (av_cons ev_str (av_cons (ev_tup av_nil) (av_cons (ev_fz (ev_lst av_nil)) (av_cons (ev_tup (av_cons ev_str (av_cons ev_int av_nil))) av_nil))))))))))) ol_nil)))))
    (sv_cons (sv_for cx_owns rfl (ev_r1 G.f_range (ev_var (pv 1))) (pg_nm S.nd rfl (by first | exact .inl rfl | exact .inr rfl))
    (sv_cons (sv_set (by decide) S.nd rfl (by first | exact .inl rfl | exact .inr rfl) (ev_fz (ev_callC C__law_take a (by decide) cx_takes (ol_cons (eo_bo (pv 0)) (ol_cons (eo_vl ev_int) ol_nil)))))
    (sv_one (sv_if (bt_cmp (or_eq a.u120) (eo_vl (ev_var (pv 4))) (eo_vl ev_int))
    (sv_one (sv_set (by decide) S.nd rfl (by first | exact .inl rfl | exact .inr rfl) (ev_fz (ev_lst (av_cons (ev_var (pv 2)) av_nil)))))
    (sv_one (sv_if (bt_cmp (or_eq a.u120) (eo_vl (ev_var (pv 4))) (eo_vl ev_int))
    (sv_one (sv_set (by decide) S.nd rfl (by first | exact .inl rfl | exact .inr rfl) (ev_tup (av_cons (ev_var (pv 2)) av_nil))))
    (sv_one (sv_if (bt_cmp (or_eq a.u120) (eo_vl (ev_var (pv 4))) (eo_vl ev_int))
    (sv_one (sv_set (by decide) S.nd rfl (by first | exact .inl rfl | exact .inr rfl) (ev_tup (av_cons ev_str (av_cons ev_str (av_cons (ev_var (pv 2)) av_nil))))))
    (sv_one (sv_if (bt_cmp (or_eq a.u120) (eo_vl (ev_var (pv 4))) (eo_vl ev_int))
    (sv_one (sv_set (by decide) S.nd rfl (by first | exact .inl rfl | exact .inr rfl) (ev_fz (ev_lst (av_cons (ev_var (pv 2)) (av_cons (ev_var (pv 3)) (av_cons ev_str av_nil)))))))
    (sv_one (sv_if (bt_cmp (or_eq a.u120) (eo_vl (ev_var (pv 4))) (eo_vl ev_int))
    (sv_one (sv_set (by decide) S.nd rfl (by first | exact .inl rfl | exact .inr rfl) (ev_tup (av_cons ev_str (av_cons ev_str (av_cons (ev_tup (av_cons ev_str (av_cons (ev_var (pv 3)) av_nil))) (av_cons (ev_var (pv 2)) av_nil)))))))
    (sv_one (sv_if (bt_cmp (or_eq a.u120) (eo_vl (ev_var (pv 4))) (eo_vl ev_int))
    (sv_one (sv_set (by decide) S.nd rfl (by first | exact .inl rfl | exact .inr rfl) (ev_tup (av_cons ev_str (av_cons ev_str (av_cons (ev_var (pv 2)) (av_cons (ev_tup (av_cons ev_str (av_cons ev_str av_nil))) av_nil)))))))
    (sv_one (sv_set (by decide) S.nd rfl (by first | exact .inl rfl | exact .inr rfl) (ev_fz (ev_tup (av_cons (ev_fz (ev_callC C__law_pick a (by decide) cx_takes (ol_cons (eo_bo (pv 0)) (ol_cons (eo_vl (ev_fz (ev_lst (av_cons ev_str (av_cons ev_str (av_cons ev_str (av_cons ev_str av_nil))))))) ol_nil)))) (av_cons (ev_var (pv 2)) av_nil))))))))))))))))))) (by decide))
    (sv_one (sv_ret (ev_var (pv 2))))))
theorem g__law_great {f : Addr} {fd : FuncData} (FD : FunD K "_law_great" "_law_great" (defArgs (top 29)) (defBody (top 29)) (defScope (top 29)) [] [] f fd) (G : Gs P w K mg base n) (C__law_take : Callee P w K mg base n "_law_take" 1 3 2 [0] f__law_take []) (C__law_pick : Callee P w K mg base n "_law_pick" 2 2 2 [0] f__law_pick []) :
    FnG P w K mg base 3 f fd ["feed"] (spOf ⟨K, n⟩ 9 1 [0] f__law_great) := by
  have S : FnScope ["feed", "thing", "turn", "some", "wide", "names", "lines", "found", "k"] ["feed"] (defScope (top 29)) := ⟨rfl, rfl, rfl, by decide +kernel, rfl, by decide +kernel, by decide +kernel⟩
  refine fnG (N := ["feed", "thing", "turn", "some", "wide", "names", "lines", "found", "k"]) (ps := ["feed"]) (n := n) (io := [0]) (b := b__law_great) FD S (by decide) fun cdv A outer s H E a => ?_
  exact (sv_cons (sv_set (by decide) S.nd rfl (by first | exact .inl rfl | exact .inr rfl) (ev_tup (av_cons ev_str (av_cons ev_int av_nil))))
    (sv_cons (sv_for cx_owns rfl (ev_r1 G.f_range (ev_bin or_add (eo_vl ev_int) (eo_vl (ev_callC C__law_take a (by decide) cx_takes (ol_cons (eo_bo (pv 0)) (ol_cons (eo_vl ev_int) ol_nil)))))) (pg_nm S.nd rfl (by first | exact .inl rfl | exact .inr rfl))
    (sv_cons (sv_set (by decide) S.nd rfl (by first | exact .inl rfl | exact .inr rfl) (ev_fz (ev_lst (av_cons (ev_tup (av_cons ev_str (av_cons ev_str (av_cons (ev_var (pv 1)) av_nil)))) (av_cons (ev_tup (av_cons ev_str (av_cons ev_str (av_cons (ev_var (pv 1)) (av_cons (ev_tup (av_cons ev_str (av_cons ev_int av_nil))) av_nil))))) (av_cons (ev_tup (av_cons ev_str (av_cons ev_str (av_cons (ev_tup (av_cons ev_str (av_cons ev_int av_nil))) (av_cons (ev_var (pv 1)) av_nil))))) av_nil))))))
    (sv_one (sv_set (by decide) S.nd rfl (by first | exact .inl rfl | exact .inr rfl) (ev_fz (ev_callC C__law_pick a (by decide) cx_takes (ol_cons (eo_bo (pv 0)) (ol_cons (eo_vl (ev_var (pv 3))) ol_nil))))))) (by decide))
    (sv_cons (sv_set (by decide) S.nd rfl (by first | exact .inl rfl | exact .inr rfl) (ev_callTy cr_tuple G.f_tuple boot_tuple (ol_cons (eo_vl (ev_lc (own := [("k", 8)]) rfl S.nd (ev_r1 G.f_range (ev_bin or_add (eo_vl ev_int) (eo_vl (ev_callC C__law_take a (by decide) cx_takes (ol_cons (eo_bo (pv 0)) (ol_cons (eo_vl ev_int) ol_nil)))))) (blkOk_by (by rfl)) (by decide) (fun _ _ _ _ _ => (pg_nm S.nd rfl (by first | exact .inl rfl | exact .inr rfl))) (fun _ _ _ _ _ => PTs.nil') (fun _ _ _ _ _ => (ev_tup (av_cons (ev_bin or_add (eo_vl ev_str) (eo_vl (ev_ix (ix_any a.u1) (eo_vl ev_str) (eo_vl (ev_bin or_mod (eo_vl (ev_var (pv 8))) (eo_vl ev_int)))))) (av_cons (ev_tup (av_cons ev_str (av_cons ev_str (av_cons (ev_tup av_nil) av_nil)))) av_nil)))))) ol_nil)))
    (sv_cons (sv_set (by decide) S.nd rfl (by first | exact .inl rfl | exact .inr rfl) (ev_fz (ev_bin or_mul (eo_vl (ev_tup (av_cons ev_str av_nil))) (eo_vl (ev_bin or_add (eo_vl ev_int) (eo_vl (ev_callC C__law_take a (by decide) cx_takes (ol_cons (eo_bo (pv 0)) (ol_cons (eo_vl ev_int) ol_nil)))))))))
    (sv_cons (sv_set (by decide) S.nd rfl (by first | exact .inl rfl | exact .inr rfl) (ev_callTy cr_tuple G.f_tuple boot_tuple (ol_cons (eo_vl (ev_lc (own := [("k", 8)]) rfl S.nd (ev_r1 G.f_range ev_int) (blkOk_by (by rfl)) (by decide) (fun _ _ _ _ _ => (pg_nm S.nd rfl (by first | exact .inl rfl | exact .inr rfl))) (fun _ _ _ _ _ => PTs.nil') (fun _ _ _ _ _ => (ev_tup (av_cons ev_str (av_cons (ev_tup av_nil) (av_cons (ev_tup (av_cons ev_str (av_cons (ev_var (pv 8)) av_nil))) av_nil))))))) ol_nil)))
    (sv_cons (sv_set (by decide) S.nd rfl (by first | exact .inl rfl | exact .inr rfl) (ev_lst (av_cons (ev_var (pv 1)) (av_cons (ev_tup (av_cons ev_str (av_cons (ev_var (pv 4)) (av_cons (ev_tup (av_cons ev_str (av_cons ev_int av_nil))) av_nil)))) (av_cons (ev_tup (av_cons ev_str (av_cons ev_str (av_cons (ev_var (pv 5)) av_nil)))) av_nil)))))
    (sv_cons (sv_drop (ev_lm lm_append mt_append F.slot_list_append F.type_list_append (er_s (pv 7)) (av_cons (ev_tup (av_cons ev_str (av_cons (ev_callTy (cr_intD G.nodig) G.f_int boot_int (ol_cons (eo_vl (ev_bin or_mul (eo_vl ev_str) (eo_vl (ev_bin or_add (eo_vl ev_int) (eo_vl (ev_callC C__law_take a (by decide) cx_takes (ol_cons (eo_bo (pv 0)) (ol_cons (eo_vl ev_int) ol_nil)))))))) ol_nil)) av_nil))) av_nil)))
    (sv_one (sv_ret (ev_bin or_add (eo_bo (pv 7)) (eo_vl (ev_lst (av_cons (ev_tup (av_cons ev_str (av_cons ev_str (av_cons (ev_tup (av_cons ev_str (av_cons ev_int av_nil))) (av_cons (ev_tup (av_cons ev_str (av_cons ev_str (av_cons (ev_var (pv 6)) av_nil)))) av_nil))))) (av_cons (ev_bin or_mul (eo_vl (ev_tup (av_cons ev_str av_nil))) (eo_vl ev_int)) (av_cons (ev_fz (ev_bin or_mul (eo_vl (ev_lst (av_cons ev_str av_nil))) (eo_vl ev_int))) (av_cons (ev_bin or_mul (eo_vl ev_str) (eo_vl ev_int)) av_nil))))))))))))))))
theorem g__law_doubled {f : Addr} {fd : FuncData} (FD : FunD K "_law_doubled" "_law_doubled" (defArgs (top 30)) (defBody (top 30)) (defScope (top 30)) [] [] f fd) (G : Gs P w K mg base n) (C__law_take : Callee P w K mg base n "_law_take" 1 3 2 [0] f__law_take []) (C__law_pick : Callee P w K mg base n "_law_pick" 2 2 2 [0] f__law_pick []) :
    FnG P w K mg base 3 f fd ["feed"] (spOf ⟨K, n⟩ 7 1 [0] f__law_doubled) := by
  have S : FnScope ["feed", "many", "term", "worth", "pairs", "pair", "turn"] ["feed"] (defScope (top 30)) := ⟨rfl, rfl, rfl, by decide +kernel, rfl, by decide +kernel, by decide +kernel⟩
  refine fnG (N := ["feed", "many", "term", "worth", "pairs", "pair", "turn"]) (ps := ["feed"]) (n := n) (io := [0]) (b := b__law_doubled) FD S (by decide) fun cdv A outer s H E a => ?_
  exact (sv_cons (sv_set (by decide) S.nd rfl (by first | exact .inl rfl | exact .inr rfl) (ev_fz (ev_bin or_add (eo_vl ev_int) (eo_vl (ev_callC C__law_take a (by decide) cx_takes (ol_cons (eo_bo (pv 0)) (ol_cons (eo_vl ev_int) ol_nil)))))))
    (sv_cons (sv_unp (by decide) (ev_fz (ev_tup (av_cons (ev_tup (av_cons ev_str (av_cons ev_int av_nil))) (av_cons (ev_tup (av_cons ev_str (av_cons ev_str (av_cons (ev_tup (av_cons ev_str (av_cons ev_int av_nil))) av_nil)))) (av_cons (ev_fz (ev_lst av_nil)) (av_cons (ev_tup av_nil) av_nil)))))) (pg_tup rfl (pgs_cons (pg_name S.nd rfl (by first | exact .inl rfl | exact .inr rfl)) (pgs_cons (pg_name S.nd rfl (by first | exact .inl rfl | exact .inr rfl)) (pgs_cons (pg_name S.nd rfl (by first | exact .inl rfl | exact .inr rfl)) (pgs_cons (pg_name S.nd rfl (by first | exact .inl rfl | exact .inr rfl)) pgs_nil))))))
    (sv_cons (sv_for cx_owns rfl (ev_r1 G.f_range (ev_var (pv 1))) (pg_nm S.nd rfl (by first | exact .inl rfl | exact .inr rfl))
    (sv_cons (sv_set (by decide) S.nd rfl (by first | exact .inl rfl | exact .inr rfl) (ev_fz (ev_callC C__law_pick a (by decide) cx_takes (ol_cons (eo_bo (pv 0)) (ol_cons (eo_vl (ev_fz (ev_lst (av_cons (ev_tup (av_cons ev_str (av_cons ev_str (av_cons (ev_var (pv 2)) (av_cons (ev_var (pv 2)) av_nil))))) (av_cons (ev_tup (av_cons ev_str (av_cons ev_str (av_cons (ev_var (pv 2)) (av_cons (ev_var (pv 2)) av_nil))))) av_nil))))) ol_nil)))))
    (sv_one (sv_set (by decide) S.nd rfl (by first | exact .inl rfl | exact .inr rfl) (ev_if (bt_cmp or_lt (eo_vl (ev_var (pv 6))) (eo_vl ev_int)) (ev_tup (av_cons ev_str (av_cons ev_str (av_cons (ev_tup (av_cons ev_str (av_cons (ev_tup (av_cons (ev_tup (av_cons ev_str (av_cons (ev_var (pv 3)) av_nil))) (av_cons (ev_tup (av_cons ev_str (av_cons (ev_var (pv 3)) av_nil))) av_nil))) (av_cons (ev_tup (av_cons ev_str (av_cons ev_int av_nil))) av_nil)))) av_nil)))) (ev_var (pv 3)))))) (by decide))
    (sv_cons (sv_for cx_owns rfl (ev_r1 G.f_range (ev_bin or_add (eo_vl ev_int) (eo_vl (ev_callC C__law_take a (by decide) cx_takes (ol_cons (eo_bo (pv 0)) (ol_cons (eo_vl ev_int) ol_nil)))))) (pg_nm S.nd rfl (by first | exact .inl rfl | exact .inr rfl))
    (sv_cons (sv_set (by decide) S.nd rfl (by first | exact .inl rfl | exact .inr rfl) (ev_fz (ev_lst (av_cons (ev_var (pv 4)) (av_cons (ev_var (pv 4)) av_nil)))))
    (sv_one (sv_set (by decide) S.nd rfl (by first | exact .inl rfl | exact .inr rfl) (ev_tup (av_cons (ev_var (pv 5)) (av_cons (ev_var (pv 5)) av_nil)))))) (by decide))
    (sv_one (sv_ret (ev_lst (av_cons (ev_var (pv 2)) (av_cons (ev_var (pv 3)) (av_cons (ev_var (pv 4)) (av_cons (ev_var (pv 5)) (av_cons (ev_tup (av_cons ev_str (av_cons ev_str (av_cons (ev_var (pv 4)) av_nil)))) (av_cons (ev_tup (av_cons ev_str (av_cons ev_str (av_cons (ev_var (pv 5)) (av_cons (ev_tup (av_cons ev_str (av_cons ev_int av_nil))) av_nil))))) (av_cons (ev_tup (av_cons ev_str (av_cons ev_str (av_cons (ev_var (pv 5)) av_nil)))) av_nil))))))))))))))
theorem g_parts_of {f : Addr} {fd : FuncData} (FD : FunD K "parts_of" "parts_of" (defArgs (top 17)) (defBody (top 17)) (defScope (top 17)) [] [] f fd) (G : Gs P w K mg base n) (C_is_number : Callee P w K mg base n "is_number" 1 1 1 [] f_is_number []) (C_is_name : Callee P w K mg base n "is_name" 1 2 1 [] f_is_name []) (C_are_names : Callee P w K mg base n "are_names" 2 3 2 [] f_are_names []) (C_parts_letall : Callee P w K mg base n "parts_letall" 3 4 1 [] f_parts_letall []) (C_parts_by : Callee P w K mg base n "parts_by" 3 4 1 [] f_parts_by []) :
    FnG P w K mg base 4 f fd ["thing"] (spOf ⟨K, n⟩ 4 1 [] f_parts_of) := by
  have S : FnScope ["thing", "word", "parts", "part"] ["thing"] (defScope (top 17)) := ⟨rfl, rfl, rfl, by decide +kernel, rfl, by decide +kernel, by decide +kernel⟩
  refine fnG (N := ["thing", "word", "parts", "part"]) (ps := ["thing"]) (n := n) (io := []) (b := b_parts_of) FD S (by decide) fun cdv A outer s H E a => ?_
  exact (sv_cons (sv_if (PW.pt (bw_or (bt_not (bt_val (ev_isi (.inr (.inr (.inr (.inl rfl)))) boot_tuple G.f_isinstance G.f_tuple (eo_vl (ev_var (pv 0)))))) (bw_or (bt_cmp (or_eq a.u120) (eo_vl (ev_var (pv 0))) (eo_vl (ev_tup av_nil))) (bw_or1 (bt_not (bt_val (ev_isi (.inl rfl) boot_str G.f_isinstance G.f_str (eo_vl (ev_ix (ix_any a.u1) (eo_vl (ev_var (pv 0))) (eo_vl ev_int))))))))))
    (sv_one (sv_ret ev_non))
    sv_next)
    (sv_cons (sv_star (by decide) (by decide) (ev_var (pv 0)) (pg_star rfl S.nd rfl rfl (by first | exact .inl rfl | exact .inr rfl) (by first | exact .inl rfl | exact .inr rfl) rfl rfl))
    (sv_cons (sv_if (bt_cmp (or_ne a.u120) (eo_vl (ev_kget G.d_SIZES (eo_vl (ev_var (pv 1))) (eo_vl (ev_un un_ng (eo_vl ev_int))))) (eo_vl (ev_callB cr_len G.f_len boot_len (ol_cons (eo_vl (ev_var (pv 2))) ol_nil))))
    (sv_one (sv_ret ev_non))
    sv_next)
    (sv_cons (sv_if (bt_cmp (or_eq a.u120) (eo_vl (ev_var (pv 1))) (eo_vl ev_str))
    (sv_one (sv_ret (ev_if (bt_val (ev_callC C_is_number a (by decide) cx_takes (ol_cons (eo_vl (ev_ix (ix_any a.u1) (eo_vl (ev_var (pv 2))) (eo_vl ev_int))) ol_nil))) (ev_lst av_nil) ev_non)))
    sv_next)
    (sv_cons (sv_if (bt_inK G.s_NAMES_ALONE (eo_vl (ev_var (pv 1))))
    (sv_one (sv_ret (ev_if (bt_val (ev_callB (cr_all rfl) G.f_all boot_all (ol_cons (eo_vl (ev_lc (own := [("part", 3)]) rfl S.nd (pi_v (ev_var (pv 2))) (blkOk_by (by rfl)) (by decide) (fun _ _ _ _ _ => (pg_nm S.nd rfl (by first | exact .inl rfl | exact .inr rfl))) (fun _ _ _ _ _ => PTs.nil') (fun _ _ _ _ _ => (ev_fz (ev_callC C_is_name a.blk (by decide) (no_exc _) (ol_cons (eo_vl (ev_var (pv 3))) ol_nil)))))) ol_nil))) (ev_lst av_nil) ev_non)))
    sv_next)
    (sv_cons (sv_if (bt_cmp (or_eq a.u120) (eo_vl (ev_var (pv 1))) (eo_vl ev_str))
    (sv_one (sv_ret (ev_if (PW.pt (bw_and (bt_val (ev_callC C_is_name a (by decide) cx_takes (ol_cons (eo_vl (ev_ix (ix_any a.u1) (eo_vl (ev_var (pv 2))) (eo_vl ev_int))) ol_nil))) (bw_and1 (bt_val (ev_callC C_are_names a (by decide) cx_takes (ol_cons (eo_vl (ev_ix (ix_any a.u1) (eo_vl (ev_var (pv 2))) (eo_vl ev_int))) (ol_cons (eo_vl ev_bl) ol_nil))))))) (ev_lst av_nil) ev_non)))
    sv_next)
    (sv_cons (sv_if (bt_cmp (or_eq a.u120) (eo_vl (ev_var (pv 1))) (eo_vl ev_str))
    (sv_one (sv_ret (ev_callC C_parts_letall a (by decide) cx_takes (ol_cons (eo_vl (ev_var (pv 2))) ol_nil))))
    sv_next)
    (sv_cons (sv_if (bt_cmp (or_eq a.u120) (eo_vl (ev_var (pv 1))) (eo_vl ev_str))
    (sv_one (sv_ret (ev_callC C_parts_by a (by decide) cx_takes (ol_cons (eo_vl (ev_var (pv 2))) ol_nil))))
    sv_next)
    (sv_one (sv_ret (ev_if (bt_val (ev_callC C_is_name a (by decide) cx_takes (ol_cons (eo_vl (ev_ix (ix_any a.u1) (eo_vl (ev_var (pv 2))) (eo_vl ev_int))) ol_nil))) (ev_callTy (cr_list a.hd) G.f_list boot_list (ol_cons (eo_vl (ev_sl (eo_vl (ev_var (pv 2))) (op_at ev_int) op_no)) ol_nil)) ev_non)))))))))))
theorem g_is_term {f : Addr} {fd : FuncData} (FD : FunD K "is_term" "is_term" (defArgs (top 18)) (defBody (top 18)) (defScope (top 18)) [] [] f fd) (G : Gs P w K mg base n) (C_parts_of : Callee P w K mg base n "parts_of" 4 4 1 [] f_parts_of []) :
    FnG P w K mg base 5 f fd ["thing"] (spOf ⟨K, n⟩ 7 1 [] f_is_term) := by
  have S : FnScope ["thing", "many", "left", "one", "deep", "inner", "part"] ["thing"] (defScope (top 18)) := ⟨rfl, rfl, rfl, by decide +kernel, rfl, by decide +kernel, by decide +kernel⟩
  refine fnG (N := ["thing", "many", "left", "one", "deep", "inner", "part"]) (ps := ["thing"]) (n := n) (io := []) (b := b_is_term) FD S (by decide) fun cdv A outer s H E a => ?_
  exact (sv_cons (sv_set (by decide) S.nd rfl (by first | exact .inl rfl | exact .inr rfl) ev_int)
    (sv_cons (sv_set (by decide) S.nd rfl (by first | exact .inl rfl | exact .inr rfl) (ev_lst (av_cons (ev_tup (av_cons (ev_var (pv 0)) (av_cons ev_int av_nil))) av_nil)))
    (sv_cons (sv_while cx_owns (bt_cmp (or_ne a.u120) (eo_bo (pv 2)) (eo_vl (ev_lst av_nil)))
    (sv_cons (sv_unp (by decide) (ev_fz (ev_lm0 lm_pop mt_pop F.slot_list_pop F.type_list_pop (er_s (pv 2)))) (pg_tup rfl (pgs_cons (pg_name S.nd rfl (by first | exact .inl rfl | exact .inr rfl)) (pgs_cons (pg_name S.nd rfl (by first | exact .inl rfl | exact .inr rfl)) pgs_nil))))
    (sv_cons (sv_aug (by decide) S.nd rfl (by first | exact .inl rfl | exact .inr rfl) ip_addI ev_int)
    (sv_cons (sv_set (by decide) S.nd rfl (by first | exact .inl rfl | exact .inr rfl) (ev_fz (ev_callC C_parts_of a (by decide) cx_takes (ol_cons (eo_vl (ev_var (pv 3))) ol_nil))))
    (sv_cons (sv_if (PW.pt (bw_or (bt_cmp or_gt (eo_vl (ev_var (pv 1))) (eo_vl (e_int G.v_MOST_PIECES))) (bw_or (bt_cmp or_gt (eo_vl (ev_var (pv 4))) (eo_vl (e_int G.v_MOST_WITHIN))) (bw_or1 (bt_cmp or_is (eo_vl (ev_var (pv 5))) (eo_vl ev_non))))))
    (sv_one (sv_ret ev_bl))
    sv_next)
    (sv_one (sv_drop (ev_lm lm_extend mt_extR F.slot_list_extend F.type_list_extend (er_s (pv 2)) (av_cons (ev_fz (ev_lc (own := [("part", 6)]) rfl S.nd (pi_v (ev_var (pv 5))) (blkOk_by (by rfl)) (by decide) (fun _ _ _ _ _ => (pg_nm S.nd rfl (by first | exact .inl rfl | exact .inr rfl))) (fun _ _ _ _ _ => PTs.nil') (fun _ _ _ _ _ => (ev_tup (av_cons (ev_var (pv 6)) (av_cons (ev_bin or_add (eo_vl (ev_var (pv 4))) (eo_vl ev_int)) av_nil)))))) av_nil)))))))))
    (sv_one (sv_ret ev_bl)))))
theorem h_free_names {f : Addr} {fd : FuncData} (FD : FunD K "free_names" "free_names" (defArgs (top 21)) (defBody (top 21)) (defScope (top 21)) [] [] f fd) (G : Gs P w K mg base n) {j : Nat} (hj : 1 ≤ j) {F_free_names : Fn} (C_own_names : Callee P w K mg base n "own_names" 1 3 1 [] f_own_names []) (C_inner_of : Callee P w K mg base n "inner_of" 1 5 1 [] f_inner_of []) (C_free_names : Callee P w K mg base n "free_names" j 5 1 [] F_free_names []) :
    FnG P w K mg base (j + 1) f fd ["term"] (spOf ⟨K, n⟩ 5 1 [] (mkFn 5 1 [] (b_free_names F_free_names))) := by
  have S : FnScope ["term", "found", "inner", "bound", "name"] ["term"] (defScope (top 21)) := ⟨rfl, rfl, rfl, by decide +kernel, rfl, by decide +kernel, by decide +kernel⟩
  refine fnG (N := ["term", "found", "inner", "bound", "name"]) (ps := ["term"]) (n := n) (io := []) (b := (b_free_names F_free_names)) FD S (by decide) fun cdv A outer s H E a => ?_
  exact (sv_cons (sv_setDc (own := [("name", 4)]) (by decide) rfl S.nd rfl rfl rfl (pi_v (ev_fz (ev_callC C_own_names a (by omega) cx_takes (ol_cons (eo_vl (ev_var (pv 0))) ol_nil)))) (blkOk_by (by rfl)) (by decide) (fun _ _ _ _ _ => (pg_nm S.nd rfl (by first | exact .inl rfl | exact .inr rfl))) (fun _ _ _ _ _ => PTs.nil') (fun _ _ _ _ _ => (ev_var (pv 4))) (fun _ _ _ _ _ => ev_bl))
    (sv_cons (sv_for cx_owns rfl (pi_v (ev_fz (ev_callC C_inner_of a (by omega) cx_takes (ol_cons (eo_vl (ev_var (pv 0))) ol_nil)))) (pg_tp rfl (pgs_cons (pg_nm S.nd rfl (by first | exact .inl rfl | exact .inr rfl)) (pgs_cons (pg_nm S.nd rfl (by first | exact .inl rfl | exact .inr rfl)) pgs_nil)))
    (sv_one (sv_drop (ev_dm dm_update mt_update F.slot_dict_update F.type_dict_update (er_s (pv 1)) (av_cons (ev_fz (ev_dc (own := [("name", 4)]) rfl S.nd (pi_v (ev_fz (ev_callC C_free_names a (by omega) cx_takes (ol_cons (eo_vl (ev_var (pv 2))) ol_nil)))) (blkOk_by (by rfl)) (by decide) (fun _ _ _ _ _ => (pg_nm S.nd rfl (by first | exact .inl rfl | exact .inr rfl))) (fun _ _ _ _ _ => (PTs.one' (bt_cmp (or_notin a.u65) (eo_vl (ev_var (pv 4))) (eo_vl (ev_var (pv 3)))))) (fun _ _ _ _ _ => (ev_var (pv 4))) (fun _ _ _ _ _ => ev_bl))) av_nil)))) (by decide))
    (sv_one (sv_ret (ev_callB (cr_sorted rfl) G.f_sorted boot_sorted (ol_cons (eo_bo (pv 1)) ol_nil))))))
theorem g_free_names {a_free_names : Addr} {fd_free_names : FuncData} (FD_free_names : FunD K "free_names" "free_names" (defArgs (top 21)) (defBody (top 21)) (defScope (top 21)) [] [] a_free_names fd_free_names) (hm_free_names : mg "free_names" = some (.ref a_free_names)) (hk_free_names : PySem.W.keepIn K (.ref a_free_names) = true) (hb_free_names : Binds K fd_free_names ["term"] []) (G : Gs P w K mg base n) (C_own_names : Callee P w K mg base n "own_names" 1 3 1 [] f_own_names []) (C_inner_of : Callee P w K mg base n "inner_of" 1 5 1 [] f_inner_of []) : ∀ k : Nat, FnG P w K mg base (1 + k) a_free_names fd_free_names ["term"] (spOf ⟨K, n⟩ 5 1 [] (f_free_names k)) := by
  intro k
  induction k with
  | zero => exact fnG0
  | succ k ih =>
    have ih_free_names := ih
    have C_free_names := Callee.of ih_free_names hm_free_names hk_free_names hb_free_names
    exact h_free_names (F_free_names := f_free_names k) (j := 1 + k) FD_free_names G (Nat.le_add_right _ _) C_own_names C_inner_of C_free_names
theorem g_is_program {f : Addr} {fd : FuncData} (FD : FunD K "is_program" "is_program" (defArgs (top 22)) (defBody (top 22)) (defScope (top 22)) [] [] f fd) (G : Gs P w K mg base n) (C_is_term : Callee P w K mg base n "is_term" 5 7 1 [] f_is_term []) (C_free_names : Callee P w K mg base n "free_names" 65 5 1 [] (f_free_names 64) []) :
    FnG P w K mg base 66 f fd ["thing"] (spOf ⟨K, n⟩ 1 1 [] f_is_program) := by
  have S : FnScope ["thing"] ["thing"] (defScope (top 22)) := ⟨rfl, rfl, rfl, by decide +kernel, rfl, by decide +kernel, by decide +kernel⟩
  refine fnG (N := ["thing"]) (ps := ["thing"]) (n := n) (io := []) (b := b_is_program) FD S (by decide) fun cdv A outer s H E a => ?_
  exact (sv_one (sv_ret (ev_and (ev_callC C_is_term a (by decide) cx_takes (ol_cons (eo_vl (ev_var (pv 0))) ol_nil)) (ev_one (ev_cmp (or_eq a.u120) (eo_vl (ev_callC C_free_names a (by decide) cx_takes (ol_cons (eo_vl (ev_var (pv 0))) ol_nil))) (eo_vl (ev_lst av_nil)))))))
theorem g_law {f : Addr} {fd : FuncData} (FD : FunD K "law" "law" (defArgs (top 31)) (defBody (top 31)) (defScope (top 31)) [] [] f fd) (G : Gs P w K mg base n) (C__law_feed : Callee P w K mg base n "_law_feed" 1 5 2 [] f__law_feed []) (C__law_deep : Callee P w K mg base n "_law_deep" 3 5 2 [0] f__law_deep []) (C__law_take : Callee P w K mg base n "_law_take" 1 3 2 [0] f__law_take []) (C__law_great : Callee P w K mg base n "_law_great" 3 9 1 [0] f__law_great []) (C__law_doubled : Callee P w K mg base n "_law_doubled" 3 7 1 [0] f__law_doubled []) (C_is_term : Callee P w K mg base n "is_term" 5 7 1 [] f_is_term []) (C_is_program : Callee P w K mg base n "is_program" 66 1 1 [] f_is_program []) (C_is_name : Callee P w K mg base n "is_name" 1 2 1 [] f_is_name []) :
    FnG P w K mg base 67 f fd ["script"] (spOf ⟨K, n⟩ 8 1 [] f_law) := by
  have S : FnScope ["script", "k", "feed", "odd", "far", "things", "seen", "thing"] ["script"] (defScope (top 31)) := ⟨rfl, rfl, rfl, by decide +kernel, rfl, by decide +kernel, by decide +kernel⟩
  refine fnG (N := ["script", "k", "feed", "odd", "far", "things", "seen", "thing"]) (ps := ["script"]) (n := n) (io := []) (b := b_law) FD S (by decide) fun cdv A outer s H E a => ?_
  exact (sv_cons (sv_for cx_owns rfl (ev_r1 G.f_range (ev_callB (cr_max rfl) G.f_max boot_max (ol_cons (eo_vl ev_int) (ol_cons (eo_vl (ev_callB (cr_min rfl) G.f_min boot_min (ol_cons (eo_vl ev_int) (ol_cons (eo_vl (ev_callB cr_len G.f_len boot_len (ol_cons (eo_vl (ev_var (pv 0))) ol_nil))) ol_nil)))) ol_nil)))) (pg_nm S.nd rfl (by first | exact .inl rfl | exact .inr rfl))
    (sv_cons (sv_set (by decide) S.nd rfl (by first | exact .inl rfl | exact .inr rfl) (ev_callC C__law_feed a (by decide) cx_takes (ol_cons (eo_vl (ev_var (pv 0))) (ol_cons (eo_vl (ev_var (pv 1))) ol_nil))))
    (sv_cons (sv_set (by decide) S.nd rfl (by first | exact .inl rfl | exact .inr rfl) (ev_fz (ev_callC C__law_deep a (by decide) cx_takes (ol_cons (eo_bo (pv 2)) (ol_cons (eo_vl (ev_fz (ev_bin or_add (eo_vl ev_int) (eo_vl (ev_callC C__law_take a (by decide) cx_takes (ol_cons (eo_bo (pv 2)) (ol_cons (eo_vl ev_int) ol_nil))))))) ol_nil)))))
    (sv_cons (sv_set (by decide) S.nd rfl (by first | exact .inl rfl | exact .inr rfl) (ev_fz (ev_callC C__law_deep a (by decide) cx_takes (ol_cons (eo_bo (pv 2)) (ol_cons (eo_vl (ev_fz (ev_bin or_add (eo_vl ev_int) (eo_vl (ev_callC C__law_take a (by decide) cx_takes (ol_cons (eo_bo (pv 2)) (ol_cons (eo_vl ev_int) ol_nil))))))) ol_nil)))))
    (sv_cons (sv_set (by decide) S.nd rfl (by first | exact .inl rfl | exact .inr rfl) (ev_lst (av_cons (ev_fz (ev_lst (av_cons (ev_var (pv 3)) av_nil))) (av_cons (ev_var (pv 4)) (av_cons (ev_fz (ev_lst (av_cons (ev_var (pv 4)) av_nil))) (av_cons (ev_fz (ev_tup (av_cons ev_str (av_cons ev_str (av_cons (ev_fz (ev_lst (av_cons (ev_var (pv 3)) av_nil))) av_nil))))) (av_cons (ev_tup (av_cons ev_str (av_cons ev_str (av_cons (ev_tup (av_cons ev_str (av_cons ev_int av_nil))) (av_cons (ev_tup (av_cons (ev_var (pv 3)) (av_cons (ev_var (pv 3)) av_nil))) av_nil))))) av_nil)))))))
    (sv_cons (sv_set (by decide) S.nd rfl (by first | exact .inl rfl | exact .inr rfl) (ev_bin or_add (eo_bo (pv 5)) (eo_vl (ev_lst (av_cons (ev_fz (ev_tup (av_cons ev_str (av_cons (ev_fz (ev_lst (av_cons (ev_var (pv 3)) av_nil))) (av_cons ev_str (av_cons (ev_var (pv 3)) av_nil)))))) (av_cons (ev_fz (ev_tup (av_cons ev_str (av_cons (ev_fz (ev_tup (av_cons (ev_fz (ev_tup (av_cons ev_str (av_cons (ev_fz (ev_lst (av_cons (ev_var (pv 3)) av_nil))) av_nil)))) av_nil))) (av_cons (ev_tup (av_cons ev_str (av_cons ev_int av_nil))) av_nil))))) av_nil))))))
    (sv_cons (sv_drop (ev_lm lm_append mt_append F.slot_list_append F.type_list_append (er_s (pv 5)) (av_cons (ev_tup (av_cons ev_str (av_cons (ev_tup (av_cons (ev_tup (av_cons (ev_var (pv 3)) (av_cons (ev_tup (av_cons ev_str (av_cons ev_str (av_cons (ev_tup av_nil) av_nil)))) av_nil))) (av_cons ev_int av_nil))) (av_cons (ev_tup (av_cons ev_str (av_cons ev_int av_nil))) av_nil)))) av_nil)))
    (sv_cons (sv_set (by decide) S.nd rfl (by first | exact .inl rfl | exact .inr rfl) (ev_bin or_add (eo_bo (pv 5)) (eo_vl (ev_lst (av_cons (ev_tup (av_cons ev_str (av_cons ev_str (av_cons (ev_tup (av_cons (ev_tup (av_cons ev_str (av_cons (ev_tup (av_cons (ev_var (pv 3)) av_nil)) (av_cons (ev_tup (av_cons ev_str (av_cons ev_int av_nil))) av_nil)))) av_nil)) av_nil)))) (av_cons (ev_fz (ev_tup (av_cons ev_str (av_cons (ev_fz (ev_lst (av_cons (ev_var (pv 3)) av_nil))) (av_cons (ev_tup av_nil) av_nil))))) av_nil))))))
    (sv_cons (sv_drop (ev_lm lm_append mt_append F.slot_list_append F.type_list_append (er_s (pv 5)) (av_cons (ev_tup (av_cons ev_str (av_cons ev_str (av_cons (ev_tup (av_cons (ev_tup (av_cons ev_str av_nil)) (av_cons (ev_var (pv 3)) av_nil))) av_nil)))) av_nil)))
    (sv_cons (sv_set (by decide) S.nd rfl (by first | exact .inl rfl | exact .inr rfl) (ev_bin or_add (eo_bo (pv 5)) (eo_vl (ev_lst (av_cons (ev_tup (av_cons (ev_var (pv 3)) (av_cons ev_int av_nil))) (av_cons (ev_fz (ev_tup (av_cons (ev_fz (ev_lst (av_cons (ev_var (pv 3)) av_nil))) (av_cons ev_str (av_cons ev_str av_nil))))) (av_cons (ev_fz (ev_tup (av_cons ev_str (av_cons ev_str (av_cons (ev_fz (ev_lst (av_cons (ev_var (pv 3)) av_nil))) av_nil))))) (av_cons (ev_fz (ev_tup (av_cons ev_str (av_cons (ev_fz (ev_lst (av_cons (ev_var (pv 3)) av_nil))) av_nil)))) (av_cons (ev_tup (av_cons ev_str (av_cons (ev_tup (av_cons (ev_var (pv 3)) av_nil)) av_nil))) av_nil)))))))))
    (sv_cons (sv_set (by decide) S.nd rfl (by first | exact .inl rfl | exact .inr rfl) (ev_callB (cr_reprD a.grd (a.u900 (by decide))) G.f_repr boot_repr (ol_cons (eo_bo (pv 5)) ol_nil)))
    (sv_cons (sv_for cx_owns rfl (pi_v (ev_fz (ev_bin or_add (eo_vl (ev_bin or_add (eo_bo (pv 5)) (eo_vl (ev_callC C__law_great a (by decide) cx_takes (ol_cons (eo_bo (pv 2)) ol_nil))))) (eo_vl (ev_callC C__law_doubled a (by decide) cx_takes (ol_cons (eo_bo (pv 2)) ol_nil)))))) (pg_nm S.nd rfl (by first | exact .inl rfl | exact .inr rfl))
    (sv_one (sv_if (PW.pt (bw_or (bt_cmp or_isnot (eo_vl (ev_callC C_is_term a (by decide) cx_takes (ol_cons (eo_vl (ev_var (pv 7))) ol_nil))) (eo_vl ev_bl)) (bw_or (bt_cmp or_isnot (eo_vl (ev_callC C_is_program a (by decide) cx_takes (ol_cons (eo_vl (ev_var (pv 7))) ol_nil))) (eo_vl ev_bl)) (bw_or1 (bt_cmp or_isnot (eo_vl (ev_callC C_is_name a (by decide) cx_takes (ol_cons (eo_vl (ev_var (pv 7))) ol_nil))) (eo_vl ev_bl))))))
    (sv_one (sv_ret ev_bl))
    sv_next)) (by decide))
    (sv_one (sv_if (bt_cmp (or_ne a.u120) (eo_vl (ev_callB (cr_reprD a.grd (a.u900 (by decide))) G.f_repr boot_repr (ol_cons (eo_bo (pv 5)) ol_nil))) (eo_vl (ev_var (pv 6))))
    (sv_one (sv_ret ev_bl))
    sv_next))))))))))))) (by decide))
    (sv_one (sv_ret ev_bl)))
end
end K07

namespace K07
open PySem PySem.Spec PyProof.Rows L2 VS
def d_is_name : He.DefD := ⟨("is_name", none), "is_name", "is_name", defArgs (top 10), defBody (top 10), defScope (top 10), [], []⟩
def d_is_number : He.DefD := ⟨("is_number", none), "is_number", "is_number", defArgs (top 11), defBody (top 11), defScope (top 11), [], []⟩
def d_is_worth_form : He.DefD := ⟨("is_worth_form", none), "is_worth_form", "is_worth_form", defArgs (top 14), defBody (top 14), defScope (top 14), [], []⟩
def d_inner_of : He.DefD := ⟨("inner_of", none), "inner_of", "inner_of", defArgs (top 19), defBody (top 19), defScope (top 19), [], []⟩
def d_own_names : He.DefD := ⟨("own_names", none), "own_names", "own_names", defArgs (top 20), defBody (top 20), defScope (top 20), [], []⟩
def d__law_feed : He.DefD := ⟨("_law_feed", none), "_law_feed", "_law_feed", defArgs (top 24), defBody (top 24), defScope (top 24), [], []⟩
def d__law_take : He.DefD := ⟨("_law_take", none), "_law_take", "_law_take", defArgs (top 25), defBody (top 25), defScope (top 25), [], []⟩
def d_are_names : He.DefD := ⟨("are_names", none), "are_names", "are_names", defArgs (top 12), defBody (top 12), defScope (top 12), [], []⟩
def d_are_unlike : He.DefD := ⟨("are_unlike", none), "are_unlike", "are_unlike", defArgs (top 13), defBody (top 13), defScope (top 13), [], []⟩
def d__law_pick : He.DefD := ⟨("_law_pick", none), "_law_pick", "_law_pick", defArgs (top 26), defBody (top 26), defScope (top 26), [], []⟩
def d_parts_letall : He.DefD := ⟨("parts_letall", none), "parts_letall", "parts_letall", defArgs (top 15), defBody (top 15), defScope (top 15), [], []⟩
def d_parts_by : He.DefD := ⟨("parts_by", none), "parts_by", "parts_by", defArgs (top 16), defBody (top 16), defScope (top 16), [], []⟩
def d__law_deep : He.DefD := ⟨("_law_deep", none), "_law_deep", "_law_deep", defArgs (top 28), defBody (top 28), defScope (top 28), [], []⟩
def d__law_great : He.DefD := ⟨("_law_great", none), "_law_great", "_law_great", defArgs (top 29), defBody (top 29), defScope (top 29), [], []⟩
def d__law_doubled : He.DefD := ⟨("_law_doubled", none), "_law_doubled", "_law_doubled", defArgs (top 30), defBody (top 30), defScope (top 30), [], []⟩
def d_parts_of : He.DefD := ⟨("parts_of", none), "parts_of", "parts_of", defArgs (top 17), defBody (top 17), defScope (top 17), [], []⟩
def d_is_term : He.DefD := ⟨("is_term", none), "is_term", "is_term", defArgs (top 18), defBody (top 18), defScope (top 18), [], []⟩
def d_free_names : He.DefD := ⟨("free_names", none), "free_names", "free_names", defArgs (top 21), defBody (top 21), defScope (top 21), [], []⟩
def d_is_program : He.DefD := ⟨("is_program", none), "is_program", "is_program", defArgs (top 22), defBody (top 22), defScope (top 22), [], []⟩
def d_law : He.DefD := ⟨("law", none), "law", "law", defArgs (top 31), defBody (top 31), defScope (top 31), [], []⟩
def fnl : List He.DefD := [d_is_name, d_is_number, d_is_worth_form, d_inner_of, d_own_names, d__law_feed, d__law_take, d_are_names, d_are_unlike, d__law_pick, d_parts_letall, d_parts_by, d__law_deep, d__law_great, d__law_doubled, d_parts_of, d_is_term, d_free_names, d_is_program, d_law]
def fal : List He.Fa := [.glo "is_name", .glo "is_number", .glo "is_worth_form", .glo "inner_of", .glo "own_names", .glo "_law_feed", .glo "_law_take", .glo "are_names", .glo "are_unlike", .glo "_law_pick", .glo "parts_letall", .glo "parts_by", .glo "_law_deep", .glo "_law_great", .glo "_law_doubled", .glo "parts_of", .glo "is_term", .glo "free_names", .glo "is_program", .glo "law", .free "abs", .free "all", .free "bool", .free "int", .free "isinstance", .free "len", .free "list", .free "max", .free "min", .free "range", .free "repr", .free "set", .free "sorted", .free "str", .free "tuple", .str "LETTERS" "abcdefghijklmnopqrstuvwxyz", .int "MOST_LETTERS" 8, .int "MOST_NAMES" 3, .int "MOST_NUMBER" 1000000000000000000, .int "MOST_PAIRS" 6, .int "MOST_PIECES" 300, .int "MOST_WITHIN" 60, .glo "NAMES_ALONE", .glo "SIZES"]
def tbs : List He.Tab := [(fun K => He.ga K "SIZES", ["num", "name", "fun", "call", "let", "now", "letall", "made", "by", "sum", "minus", "less", "same"])]
def exs (K : PySem.W.Frag) : Bool := (He.tupB K "NAMES_ALONE" [.str "name", .str "call", .str "sum", .str "minus", .str "less", .str "same"] && (dicB K "SIZES" m_SIZES && true))
abbrev R : PySem.W.OpenRow := PySem.W.OpenLaw.row PySem.Challenge.rw_owedonce_k07_things_of_anything
abbrev hk : PySem.W.Hook := He.hookX 4 fal fnl tbs [] exs
def ob (s : PySem.W.SharedT) : He.AlX := He.obsX 4 fal fnl tbs [] exs (HandSHeadRun.getT s)
theorem ob_eq (s : PySem.W.SharedT) : ob s = hk.obs s.abs := He.obsX_eq (HandSHeadRun.getT_eq s)
theorem run (w : World) : HandSHeadRun.RunEq R (PySem.W.view R.prog [31]) hk ob 1680 [("LETTERS" : PySem.Str), ("MOST_LETTERS" : PySem.Str), ("MOST_NUMBER" : PySem.Str), ("MOST_PIECES" : PySem.Str), ("MOST_WITHIN" : PySem.Str), ("MOST_NAMES" : PySem.Str), ("MOST_PAIRS" : PySem.Str), ("NAMES_ALONE" : PySem.Str), ("SIZES" : PySem.Str), ("is_name" : PySem.Str), ("is_number" : PySem.Str), ("are_names" : PySem.Str), ("are_unlike" : PySem.Str), ("is_worth_form" : PySem.Str), ("parts_letall" : PySem.Str), ("parts_by" : PySem.Str), ("parts_of" : PySem.Str), ("is_term" : PySem.Str), ("inner_of" : PySem.Str), ("own_names" : PySem.Str), ("free_names" : PySem.Str), ("is_program" : PySem.Str), ("_law_feed" : PySem.Str), ("_law_take" : PySem.Str), ("_law_pick" : PySem.Str), ("_law_names" : PySem.Str), ("_law_deep" : PySem.Str), ("_law_great" : PySem.Str), ("_law_doubled" : PySem.Str)] w := by
  rw [VS.setT_eq w]
  generalize w.params.followText "special-get-raises" = b
  cases b <;> (intro os; kernel_rfl)
theorem facts {w : World} {K : PySem.W.Frag} {h : Heap} {mg : Str → Option Value} {f : Addr} (X : K.In h) (G : h.Ns mainGlobals mg) (hfa : mg ("law" : Str) = some (.ref f)) (c0 : He.SaysX fal fnl tbs [] exs w h K) :
    ∃ (fd : FuncData) (n : Pn), (∀ (s : Shared) (v : Value), BindsTo s fd ⟨[v], []⟩ [("script", v)]) ∧ ∀ base : Heap, K.In base → base.Ns mainGlobals mg → base.NoDigits → FnG PySem.Challenge.pw_owedonce_k07_things_of_anything w K mg base 67 f fd ["script"] (spOf ⟨K, n⟩ 8 1 [] f_law) := by
  have c := c0.t.d
  have q0 : exs K = true := c0.more
  unfold exs at q0
  obtain ⟨m_NAMES_ALONE, q1⟩ := He.ba q0
  obtain ⟨m_SIZES, q2⟩ := He.ba q1
  obtain ⟨fd_is_name, F_is_name⟩ := c.def_ 0 (d := d_is_name) rfl
  obtain ⟨fd_is_number, F_is_number⟩ := c.def_ 1 (d := d_is_number) rfl
  obtain ⟨fd_is_worth_form, F_is_worth_form⟩ := c.def_ 2 (d := d_is_worth_form) rfl
  obtain ⟨fd_inner_of, F_inner_of⟩ := c.def_ 3 (d := d_inner_of) rfl
  obtain ⟨fd_own_names, F_own_names⟩ := c.def_ 4 (d := d_own_names) rfl
  obtain ⟨fd__law_feed, F__law_feed⟩ := c.def_ 5 (d := d__law_feed) rfl
  obtain ⟨fd__law_take, F__law_take⟩ := c.def_ 6 (d := d__law_take) rfl
  obtain ⟨fd_are_names, F_are_names⟩ := c.def_ 7 (d := d_are_names) rfl
  obtain ⟨fd_are_unlike, F_are_unlike⟩ := c.def_ 8 (d := d_are_unlike) rfl
  obtain ⟨fd__law_pick, F__law_pick⟩ := c.def_ 9 (d := d__law_pick) rfl
  obtain ⟨fd_parts_letall, F_parts_letall⟩ := c.def_ 10 (d := d_parts_letall) rfl
  obtain ⟨fd_parts_by, F_parts_by⟩ := c.def_ 11 (d := d_parts_by) rfl
  obtain ⟨fd__law_deep, F__law_deep⟩ := c.def_ 12 (d := d__law_deep) rfl
  obtain ⟨fd__law_great, F__law_great⟩ := c.def_ 13 (d := d__law_great) rfl
  obtain ⟨fd__law_doubled, F__law_doubled⟩ := c.def_ 14 (d := d__law_doubled) rfl
  obtain ⟨fd_parts_of, F_parts_of⟩ := c.def_ 15 (d := d_parts_of) rfl
  obtain ⟨fd_is_term, F_is_term⟩ := c.def_ 16 (d := d_is_term) rfl
  obtain ⟨fd_free_names, F_free_names⟩ := c.def_ 17 (d := d_free_names) rfl
  obtain ⟨fd_is_program, F_is_program⟩ := c.def_ 18 (d := d_is_program) rfl
  obtain ⟨fd_law, F_law⟩ := c.def_ 19 (d := d_law) rfl
  have e := hfa.symm.trans (He.glo_ok X G (c.fact 19 (f := .glo "law") rfl))
  cases e
  have b := FunD.bindsA (ps := ["script"]) F_law fun _ _ _ _ _ _ us hl => match us, hl with | [_], _ => rfl
  refine ⟨fd_law, ⟨fun _ => none, fun _ => none, fun _ => default⟩, fun s v => b s [v] rfl, fun base _ _ hdig => ?_⟩
  have Gs0 : Gs PySem.Challenge.pw_owedonce_k07_things_of_anything w K mg base ⟨fun _ => none, fun _ => none, fun _ => default⟩ := ⟨He.free_ok X G (c.fact 20 (f := .free "abs") rfl), He.free_ok X G (c.fact 21 (f := .free "all") rfl), He.free_ok X G (c.fact 22 (f := .free "bool") rfl), He.free_ok X G (c.fact 23 (f := .free "int") rfl), He.free_ok X G (c.fact 24 (f := .free "isinstance") rfl), He.free_ok X G (c.fact 25 (f := .free "len") rfl), He.free_ok X G (c.fact 26 (f := .free "list") rfl), He.free_ok X G (c.fact 27 (f := .free "max") rfl), He.free_ok X G (c.fact 28 (f := .free "min") rfl), He.free_ok X G (c.fact 29 (f := .free "range") rfl), He.free_ok X G (c.fact 30 (f := .free "repr") rfl), He.free_ok X G (c.fact 31 (f := .free "set") rfl), He.free_ok X G (c.fact 32 (f := .free "sorted") rfl), He.free_ok X G (c.fact 33 (f := .free "str") rfl), He.free_ok X G (c.fact 34 (f := .free "tuple") rfl), He.str_ok X G (c.fact 35 (f := .str "LETTERS" "abcdefghijklmnopqrstuvwxyz") rfl), He.int_ok X G (c.fact 36 (f := .int "MOST_LETTERS" 8) rfl), He.int_ok X G (c.fact 37 (f := .int "MOST_NAMES" 3) rfl), He.int_ok X G (c.fact 38 (f := .int "MOST_NUMBER" 1000000000000000000) rfl), He.int_ok X G (c.fact 39 (f := .int "MOST_PAIRS" 6) rfl), He.int_ok X G (c.fact 40 (f := .int "MOST_PIECES" 300) rfl), He.int_ok X G (c.fact 41 (f := .int "MOST_WITHIN" 60) rfl), ⟨_, He.glo_ok X G (c.fact 42 (f := .glo "NAMES_ALONE") rfl), rfl, fun H => .inr (He.tupB_ok m_NAMES_ALONE H)⟩, dic_ok X G (c.fact 43 (f := .glo "SIZES") rfl) (c0.t.tab 0 rfl) m_SIZES, hdig⟩
  have C_is_name := Callee.of (P := PySem.Challenge.pw_owedonce_k07_things_of_anything) (w := w) (mg := mg) (base := base) (n := ⟨fun _ => none, fun _ => none, fun _ => default⟩) (g_is_name F_is_name Gs0 ) (He.glo_ok X G (c.fact 0 (f := .glo "is_name") rfl)) F_is_name.kp (F_is_name.bindsN fun _ _ _ _ _ _ us hl => match us, hl with | [_], _ => rfl)
  have C_is_number := Callee.of (P := PySem.Challenge.pw_owedonce_k07_things_of_anything) (w := w) (mg := mg) (base := base) (n := ⟨fun _ => none, fun _ => none, fun _ => default⟩) (g_is_number F_is_number Gs0 ) (He.glo_ok X G (c.fact 1 (f := .glo "is_number") rfl)) F_is_number.kp (F_is_number.bindsN fun _ _ _ _ _ _ us hl => match us, hl with | [_], _ => rfl)
  have C_is_worth_form := Callee.of (P := PySem.Challenge.pw_owedonce_k07_things_of_anything) (w := w) (mg := mg) (base := base) (n := ⟨fun _ => none, fun _ => none, fun _ => default⟩) (g_is_worth_form F_is_worth_form Gs0 ) (He.glo_ok X G (c.fact 2 (f := .glo "is_worth_form") rfl)) F_is_worth_form.kp (F_is_worth_form.bindsN fun _ _ _ _ _ _ us hl => match us, hl with | [_], _ => rfl)
  have C_inner_of := Callee.of (P := PySem.Challenge.pw_owedonce_k07_things_of_anything) (w := w) (mg := mg) (base := base) (n := ⟨fun _ => none, fun _ => none, fun _ => default⟩) (g_inner_of F_inner_of Gs0 ) (He.glo_ok X G (c.fact 3 (f := .glo "inner_of") rfl)) F_inner_of.kp (F_inner_of.bindsN fun _ _ _ _ _ _ us hl => match us, hl with | [_], _ => rfl)
  have C_own_names := Callee.of (P := PySem.Challenge.pw_owedonce_k07_things_of_anything) (w := w) (mg := mg) (base := base) (n := ⟨fun _ => none, fun _ => none, fun _ => default⟩) (g_own_names F_own_names Gs0 ) (He.glo_ok X G (c.fact 4 (f := .glo "own_names") rfl)) F_own_names.kp (F_own_names.bindsN fun _ _ _ _ _ _ us hl => match us, hl with | [_], _ => rfl)
  have C__law_feed := Callee.of (P := PySem.Challenge.pw_owedonce_k07_things_of_anything) (w := w) (mg := mg) (base := base) (n := ⟨fun _ => none, fun _ => none, fun _ => default⟩) (g__law_feed F__law_feed Gs0 ) (He.glo_ok X G (c.fact 5 (f := .glo "_law_feed") rfl)) F__law_feed.kp (F__law_feed.bindsN fun _ _ _ _ _ _ us hl => match us, hl with | [_, _], _ => rfl)
  have C__law_take := Callee.of (P := PySem.Challenge.pw_owedonce_k07_things_of_anything) (w := w) (mg := mg) (base := base) (n := ⟨fun _ => none, fun _ => none, fun _ => default⟩) (g__law_take F__law_take Gs0 ) (He.glo_ok X G (c.fact 6 (f := .glo "_law_take") rfl)) F__law_take.kp (F__law_take.bindsN fun _ _ _ _ _ _ us hl => match us, hl with | [_, _], _ => rfl)
  have C_are_names := Callee.of (P := PySem.Challenge.pw_owedonce_k07_things_of_anything) (w := w) (mg := mg) (base := base) (n := ⟨fun _ => none, fun _ => none, fun _ => default⟩) (g_are_names F_are_names Gs0 C_is_name) (He.glo_ok X G (c.fact 7 (f := .glo "are_names") rfl)) F_are_names.kp (F_are_names.bindsN fun _ _ _ _ _ _ us hl => match us, hl with | [_, _], _ => rfl)
  have C_are_unlike := Callee.of (P := PySem.Challenge.pw_owedonce_k07_things_of_anything) (w := w) (mg := mg) (base := base) (n := ⟨fun _ => none, fun _ => none, fun _ => default⟩) (g_are_unlike F_are_unlike Gs0 C_is_name) (He.glo_ok X G (c.fact 8 (f := .glo "are_unlike") rfl)) F_are_unlike.kp (F_are_unlike.bindsN fun _ _ _ _ _ _ us hl => match us, hl with | [_, _], _ => rfl)
  have C__law_pick := Callee.of (P := PySem.Challenge.pw_owedonce_k07_things_of_anything) (w := w) (mg := mg) (base := base) (n := ⟨fun _ => none, fun _ => none, fun _ => default⟩) (g__law_pick F__law_pick Gs0 C__law_take) (He.glo_ok X G (c.fact 9 (f := .glo "_law_pick") rfl)) F__law_pick.kp (F__law_pick.bindsN fun _ _ _ _ _ _ us hl => match us, hl with | [_, _], _ => rfl)
  have C_parts_letall := Callee.of (P := PySem.Challenge.pw_owedonce_k07_things_of_anything) (w := w) (mg := mg) (base := base) (n := ⟨fun _ => none, fun _ => none, fun _ => default⟩) (g_parts_letall F_parts_letall Gs0 C_are_unlike C_is_worth_form) (He.glo_ok X G (c.fact 10 (f := .glo "parts_letall") rfl)) F_parts_letall.kp (F_parts_letall.bindsN fun _ _ _ _ _ _ us hl => match us, hl with | [_], _ => rfl)
  have C_parts_by := Callee.of (P := PySem.Challenge.pw_owedonce_k07_things_of_anything) (w := w) (mg := mg) (base := base) (n := ⟨fun _ => none, fun _ => none, fun _ => default⟩) (g_parts_by F_parts_by Gs0 C_is_name C_are_names C_are_unlike) (He.glo_ok X G (c.fact 11 (f := .glo "parts_by") rfl)) F_parts_by.kp (F_parts_by.bindsN fun _ _ _ _ _ _ us hl => match us, hl with | [_], _ => rfl)
  have C__law_deep := Callee.of (P := PySem.Challenge.pw_owedonce_k07_things_of_anything) (w := w) (mg := mg) (base := base) (n := ⟨fun _ => none, fun _ => none, fun _ => default⟩) (g__law_deep F__law_deep Gs0 C__law_pick C__law_take) (He.glo_ok X G (c.fact 12 (f := .glo "_law_deep") rfl)) F__law_deep.kp (F__law_deep.bindsN fun _ _ _ _ _ _ us hl => match us, hl with | [_, _], _ => rfl)
  have C__law_great := Callee.of (P := PySem.Challenge.pw_owedonce_k07_things_of_anything) (w := w) (mg := mg) (base := base) (n := ⟨fun _ => none, fun _ => none, fun _ => default⟩) (g__law_great F__law_great Gs0 C__law_take C__law_pick) (He.glo_ok X G (c.fact 13 (f := .glo "_law_great") rfl)) F__law_great.kp (F__law_great.bindsN fun _ _ _ _ _ _ us hl => match us, hl with | [_], _ => rfl)
  have C__law_doubled := Callee.of (P := PySem.Challenge.pw_owedonce_k07_things_of_anything) (w := w) (mg := mg) (base := base) (n := ⟨fun _ => none, fun _ => none, fun _ => default⟩) (g__law_doubled F__law_doubled Gs0 C__law_take C__law_pick) (He.glo_ok X G (c.fact 14 (f := .glo "_law_doubled") rfl)) F__law_doubled.kp (F__law_doubled.bindsN fun _ _ _ _ _ _ us hl => match us, hl with | [_], _ => rfl)
  have C_parts_of := Callee.of (P := PySem.Challenge.pw_owedonce_k07_things_of_anything) (w := w) (mg := mg) (base := base) (n := ⟨fun _ => none, fun _ => none, fun _ => default⟩) (g_parts_of F_parts_of Gs0 C_is_number C_is_name C_are_names C_parts_letall C_parts_by) (He.glo_ok X G (c.fact 15 (f := .glo "parts_of") rfl)) F_parts_of.kp (F_parts_of.bindsN fun _ _ _ _ _ _ us hl => match us, hl with | [_], _ => rfl)
  have C_is_term := Callee.of (P := PySem.Challenge.pw_owedonce_k07_things_of_anything) (w := w) (mg := mg) (base := base) (n := ⟨fun _ => none, fun _ => none, fun _ => default⟩) (g_is_term F_is_term Gs0 C_parts_of) (He.glo_ok X G (c.fact 16 (f := .glo "is_term") rfl)) F_is_term.kp (F_is_term.bindsN fun _ _ _ _ _ _ us hl => match us, hl with | [_], _ => rfl)
  have R_free_names := g_free_names (P := PySem.Challenge.pw_owedonce_k07_things_of_anything) (w := w) (base := base) (n := ⟨fun _ => none, fun _ => none, fun _ => default⟩) F_free_names (He.glo_ok X G (c.fact 17 (f := .glo "free_names") rfl)) F_free_names.kp (F_free_names.bindsN fun _ _ _ _ _ _ us hl => match us, hl with | [_], _ => rfl) Gs0 C_own_names C_inner_of
  have C_free_names := Callee.of (P := PySem.Challenge.pw_owedonce_k07_things_of_anything) (w := w) (mg := mg) (base := base) (n := ⟨fun _ => none, fun _ => none, fun _ => default⟩) ((R_free_names 64)) (He.glo_ok X G (c.fact 17 (f := .glo "free_names") rfl)) F_free_names.kp (F_free_names.bindsN fun _ _ _ _ _ _ us hl => match us, hl with | [_], _ => rfl)
  have C_is_program := Callee.of (P := PySem.Challenge.pw_owedonce_k07_things_of_anything) (w := w) (mg := mg) (base := base) (n := ⟨fun _ => none, fun _ => none, fun _ => default⟩) (g_is_program F_is_program Gs0 C_is_term C_free_names) (He.glo_ok X G (c.fact 18 (f := .glo "is_program") rfl)) F_is_program.kp (F_is_program.bindsN fun _ _ _ _ _ _ us hl => match us, hl with | [_], _ => rfl)
  exact g_law F_law Gs0 C__law_feed C__law_deep C__law_take C__law_great C__law_doubled C_is_term C_is_program C_is_name
end K07

open PySem PySem.W PySem.Calls PyProof.Rows
theorem PySem.Challenge.cw_owedonce_k07_things_of_anything_holds : PySem.Challenge.rw_owedonce_k07_things_of_anything.Holds := by
  w_on; o_law
  refine HandSHeadRun.head_any (r := OpenLaw.row PySem.Challenge.rw_owedonce_k07_things_of_anything) (q := view (OpenLaw.row PySem.Challenge.rw_owedonce_k07_things_of_anything).prog [31]) (H := K07.hk) (ob := K07.ob) (M := 1680) (loose := [("LETTERS" : PySem.Str), ("MOST_LETTERS" : PySem.Str), ("MOST_NUMBER" : PySem.Str), ("MOST_PIECES" : PySem.Str), ("MOST_WITHIN" : PySem.Str), ("MOST_NAMES" : PySem.Str), ("MOST_PAIRS" : PySem.Str), ("NAMES_ALONE" : PySem.Str), ("SIZES" : PySem.Str), ("is_name" : PySem.Str), ("is_number" : PySem.Str), ("are_names" : PySem.Str), ("are_unlike" : PySem.Str), ("is_worth_form" : PySem.Str), ("parts_letall" : PySem.Str), ("parts_by" : PySem.Str), ("parts_of" : PySem.Str), ("is_term" : PySem.Str), ("inner_of" : PySem.Str), ("own_names" : PySem.Str), ("free_names" : PySem.Str), ("is_program" : PySem.Str), ("_law_feed" : PySem.Str), ("_law_take" : PySem.Str), ("_law_pick" : PySem.Str), ("_law_names" : PySem.Str), ("_law_deep" : PySem.Str), ("_law_great" : PySem.Str), ("_law_doubled" : PySem.Str)]) (d := HandSHeadRun.topDef (OpenLaw.row PySem.Challenge.rw_owedonce_k07_things_of_anything).prog 31) (kwd := []) K07.ob_eq
    (by kernel_rfl) (fun s => by kernel_rfl) K07.run (by kernel_rfl) (by kernel_rfl) (by kernel_rfl) (by rfl) (by first | assumption | decide +kernel) (by decide +kernel) ⟨rfl, rfl, rfl, rfl, rfl, by decide +kernel⟩ ?hw ?hc
  case hw => w_witness2
  case hc =>
    refine VS.walk_GD (l := PySem.Challenge.rw_owedonce_k07_things_of_anything) (m := 63) (k := 67) (N := 8) (x := "script") (fn := K07.f_law) rfl (by decide) (by kernel_rfl) ⟨rfl, by decide, by decide⟩ (by decide) ?F K07.plain
    intro w mg fa h Y G hmg0
    obtain ⟨K, KX, c⟩ := Y
    have hmg : mg ("law" : PySem.Str) = some (.ref fa) := by
      have e : (HandSHeadRun.topDef (OpenLaw.row PySem.Challenge.rw_owedonce_k07_things_of_anything).prog 31).name = ("law" : PySem.Str) := by kernel_rfl
      rw [← e]
      exact hmg0
    obtain ⟨fd, n, hb, hF⟩ := K07.facts (w := w) KX G hmg c
    exact ⟨K, fd, n, KX, hb, hF⟩

