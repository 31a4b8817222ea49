import PyProof.Rows.All
import Wide.All
import OpenK.AllK
import Wide.FinOn
import HandS.ForMost
import HandS.ForExc
import HandS.Style
import HandS.Defaults
import HandS.Zip
import HandS.Iter
import HandS.Comp
import HandS.IsInst
import HandS.Text
import HandS.TupAny
import HandS.TupLe
import HandS.Wide
import HandS.WideBits
import HandS.Deep
import HandS.RaiseMore
import HandS.TupMul
import PyProof.StrOps2
import PyProof.ListStr
import HandS.WordsDict
import HandS.TupLen
import HandS.Ends
import HandS.HeadEnd
import HandS.Head0
import HandS.Head1
import HandS.Head2
import HandS.HeadHook1
import HandS.HeadHook2
import PySem.Challenge.RW_owedonce_k01_names
set_option Elab.async false
set_option linter.all false
set_option maxRecDepth 100000
set_option maxHeartbeats 4000000
namespace VS
open PySem L2
/-! ### values -/
abbrev DK := Sum Key (List Key)
/-- what never changes -/
inductive I where
  | non | bl (b : Bool) | int (i : Int) | str (s : Str)
  | tup (l : List I) | lst (l : List I) | dct (kvs : List (DK × I)) | ref (r : Nat) | fn (k : Nat)
/-- what one name alone holds -/
inductive O where
  | im (i : I) | lst (l : List O) | tup (l : List O) | dct (kvs : List (DK × O)) | ins (c : Nat) (fs : List (Str × O)) | hole
mutual
def frz : O → I
  | .im i => i
  | .lst l => .lst (frzL l)
  | .tup l => .tup (frzL l)
  | .dct kvs => .dct (frzD kvs)
  | .ins _ _ => .non
  | .hole => .non
def frzL : List O → List I
  | [] => []
  | o :: r => frz o :: frzL r
def frzD : List (DK × O) → List (DK × I)
  | [] => []
  | (k, o) :: r => (k, frz o) :: frzD r
end
mutual
/-- it may be frozen -/
def fzb : O → Bool
  | .im _ => true
  | .lst l => fzbL l
  | .tup l => fzbL l
  | .dct kvs => fzbD kvs
  | .ins _ _ => false
  | .hole => false
def fzbL : List O → Bool
  | [] => true
  | o :: r => fzb o && fzbL r
def fzbD : List (DK × O) → Bool
  | [] => true
  | (_, o) :: r => fzb o && fzbD r
end
/-- the program's defs and classes by numbers -/
structure Pn where
  fa : Nat → Option Addr
  cl : Nat → Option Addr
  /-- an exception's field -/
  fld : Nat → Str
structure Pg where
  K : PySem.W.Frag
  n : Pn
/-- ghosts: what is frozen; where the shared objects stand -/
structure Gh where
  Z : Addr → Prop
  rho : List Addr
  /-- slots that stay as they are -/
  pn : List (Nat × V)
abbrev Fp := Addr → Prop
def Fp.dj (F G : Fp) : Prop := ∀ b, F b → G b → False
def emp : Fp := fun _ => False
def ins1 (p : Addr) (F : Fp) : Fp := fun b => b = p ∨ F b
def un (F G : Fp) : Fp := fun b => F b ∨ G b
/-- one of the module's own lists -/
def LsK (K : PySem.W.Frag) (p : Addr) (vs : List V) : Prop := ∃ (its : Array Value) (k : Nat), K.lookup p = some { cls := .type "list", data := .seq its k } ∧ its.size ≤ sizeLine ∧ Vals vs its.toList
/-- a list that may be read -/
def LsR (K : PySem.W.Frag) (H : Hp) (p : Addr) (vs : List V) : Prop := Rd H p (.lst vs) ∨ LsK K p vs
/-- a list that stays: known and frozen -/
def FzL (K : PySem.W.Frag) (g : Gh) (H : Hp) (p : Addr) (vs : List V) : Prop := (Rd H p (.lst vs) ∧ g.Z p) ∨ LsK K p vs
theorem FzL.r {K g H p vs} (h : FzL K g H p vs) : LsR K H p vs := h.imp And.left id
theorem LsR.sq {K H p vs} (h : LsR K H p vs) : SqL K H p vs := by
  rcases h with h | ⟨its, k, h, hz, r⟩
  · exact .inl h
  · exact .inr ⟨_, its, k, h, rfl, rfl, rfl, hz, r⟩
theorem FzL.sq {K g H p vs} (h : FzL K g H p vs) : SqL K H p vs := h.r.sq
mutual
inductive RepI (P : Pg) (g : Gh) (H : Hp) : I → V → Prop
  | non : RepI P g H .non .non
  | bl (b) : RepI P g H (.bl b) (.bl b)
  | int (i) : RepI P g H (.int i) (.int i)
  | str (s) : RepI P g H (.str s) (.str s)
  | tup {l p vs} : SqT P.K H p vs → RepIL P g H l vs → RepI P g H (.tup l) (.ref p)
  | lst {l p vs} : FzL P.K g H p vs → RepIL P g H l vs → RepI P g H (.lst l) (.ref p)
  | dctK {kvs p ks} : H p = some (.dK ks) → g.Z p → kvs.map Prod.fst = ks.map (fun x => Sum.inl x.1) → RepIL P g H (kvs.map Prod.snd) (ks.map Prod.snd) → RepI P g H (.dct kvs) (.ref p)
  | dctT {kvs p ks} : H p = some (.dT ks) → g.Z p → kvs.map Prod.fst = ks.map (fun x => Sum.inr x.1) → RepIL P g H (kvs.map Prod.snd) (ks.map Prod.snd) → RepI P g H (.dct kvs) (.ref p)
  | ref {r p} : g.rho[r]? = some p → RepI P g H (.ref r) (.ref p)
  | fn {k f} : P.n.fa k = some f → RepI P g H (.fn k) (.ref f)
inductive RepIL (P : Pg) (g : Gh) (H : Hp) : List I → List V → Prop
  | nil : RepIL P g H [] []
  | cons {i v l vs} : RepI P g H i v → RepIL P g H l vs → RepIL P g H (i :: l) (v :: vs)
end
mutual
inductive RepO (P : Pg) (g : Gh) (H : Hp) : O → V → Fp → Prop
  | im {i v} : RepI P g H i v → RepO P g H (.im i) v emp
  | lst {l p vs F} : H p = some (.lst vs) → ¬ g.Z p → RepOL P g H l vs F → ¬ F p → RepO P g H (.lst l) (.ref p) (ins1 p F)
  | tup {l p vs F} : SqT P.K H p vs → RepOL P g H l vs F → RepO P g H (.tup l) (.ref p) F
  | dctK {kvs p ks F} : H p = some (.dK ks) → ¬ g.Z p → kvs.map Prod.fst = ks.map (fun x => Sum.inl x.1) → RepOL P g H (kvs.map Prod.snd) (ks.map Prod.snd) F → ¬ F p → RepO P g H (.dct kvs) (.ref p) (ins1 p F)
  | dctT {kvs p ks F} : H p = some (.dT ks) → ¬ g.Z p → kvs.map Prod.fst = ks.map (fun x => Sum.inr x.1) → RepOL P g H (kvs.map Prod.snd) (ks.map Prod.snd) F → ¬ F p → RepO P g H (.dct kvs) (.ref p) (ins1 p F)
  | ins {c fs p C dx fs' F} : P.n.cl c = some C → H p = some (.ins C dx fs') → ¬ g.Z p → fs.map Prod.fst = fs'.map Prod.fst → RepOL P g H (fs.map Prod.snd) (fs'.map Prod.snd) F → ¬ F p → RepO P g H (.ins c fs) (.ref p) (ins1 p F)
inductive RepOL (P : Pg) (g : Gh) (H : Hp) : List O → List V → Fp → Prop
  | nil : RepOL P g H [] [] emp
  | cons {o v l vs F G} : RepO P g H o v F → RepOL P g H l vs G → Fp.dj F G → RepOL P g H (o :: l) (v :: vs) (un F G)
end
/-- what may be changed -/
def mtb : HO → Bool
  | .lst _ => true
  | .dK _ => true
  | .dT _ => true
  | .ins _ _ _ => true
  | _ => false
def Mt (H : Hp) (b : Addr) : Prop := ∃ o, H b = some o ∧ mtb o = true
/-- what may have changed: FX -/
structure Ch (FX : Fp) (g : Gh) (H : Hp) (g' : Gh) (H' : Hp) : Prop where
  keep : ∀ b o, H b = some o → ¬ FX b → H' b = some o
  dom : ∀ b o, H b = some o → ∃ o', H' b = some o'
  mt : ∀ b, FX b → Mt H b ∧ ¬ g.Z b
  zle : ∀ b, g.Z b → g'.Z b
  znew : ∀ b, g'.Z b → g.Z b ∨ FX b ∨ H b = none
  rho : ∃ r, g'.rho = g.rho ++ r
theorem Ch.refl {FX g H} (h : ∀ b, FX b → Mt H b ∧ ¬ g.Z b) : Ch FX g H g H :=
  ⟨fun _ _ e _ => e, fun _ o e => ⟨o, e⟩, h, fun _ z => z, fun _ z => .inl z, ⟨[], by simp⟩⟩
theorem Ch.refl0 {g H} : Ch emp g H g H := .refl fun _ h => h.elim
theorem Ch.back {FX g H g' H'} (c : Ch FX g H g' H') {b} (e : H' b = none) : H b = none := by
  cases q : H b with
  | none => rfl
  | some o =>
    obtain ⟨o', e'⟩ := c.dom b o q
    rw [e] at e'; cases e'
theorem Ch.trans {FX FY g H g1 H1 g2 H2} (a : Ch FX g H g1 H1) (b : Ch FY g1 H1 g2 H2) (s : ∀ c, FY c → FX c ∨ H c = none) : Ch FX g H g2 H2 where
  keep c o e n := b.keep c o (a.keep c o e n) fun y => (s c y).elim n fun z => by rw [e] at z; cases z
  dom c o e := let ⟨o', e'⟩ := a.dom c o e; b.dom c o' e'
  mt := a.mt
  zle c z := b.zle c (a.zle c z)
  znew c z := by
    rcases b.znew c z with z | z | z
    · exact a.znew c z
    · rcases s c z with z | z
      · exact .inr (.inl z)
      · exact .inr (.inr z)
    · exact .inr (.inr (a.back z))
  rho := by
    obtain ⟨r, e⟩ := a.rho
    obtain ⟨r', e'⟩ := b.rho
    exact ⟨r ++ r', by rw [e', e, List.append_assoc]⟩
theorem Ch.wider {FX FY g H g1 H1} (a : Ch FX g H g1 H1) (s : ∀ c, FX c → FY c) (h : ∀ b, FY b → Mt H b ∧ ¬ g.Z b) : Ch FY g H g1 H1 where
  keep c o e n := a.keep c o e fun x => n (s c x)
  dom := a.dom
  mt := h
  zle := a.zle
  znew c z := by
    rcases a.znew c z with z | z | z
    · exact .inl z
    · exact .inr (.inl (s c z))
    · exact .inr (.inr z)
  rho := a.rho
section
variable {P : Pg} {g g' : Gh} {H H' : Hp} {FX F : Fp}
theorem Ch.nmt (c : Ch FX g H g' H') {b o} (e : H b = some o) (h : mtb o = false) : H' b = some o :=
  c.keep b o e fun x => by
    obtain ⟨⟨o', e', m⟩, _⟩ := c.mt b x
    rw [e] at e'; cases e'
    rw [h] at m; cases m
theorem Ch.tup (c : Ch FX g H g' H') {K p vs} (h : SqT K H p vs) : SqT K H' p vs := by
  rcases h with (h | ⟨o, h⟩) | h
  · exact .inl (.inl (c.nmt h rfl))
  · exact .inl (.inr ⟨o, c.nmt h rfl⟩)
  · exact .inr h
theorem Ch.rd (c : Ch FX g H g' H') {p u} (h : H p = some u) (z : g.Z p) : H' p = some u := c.keep _ _ h fun x => (c.mt p x).2 z
theorem Ch.lst (c : Ch FX g H g' H') {K p vs} (h : FzL K g H p vs) : FzL K g' H' p vs :=
  h.imp (fun h => ⟨h.1.imp (fun e => c.rd e h.2) fun ⟨o, e⟩ => ⟨o, c.rd e h.2⟩, c.zle p h.2⟩) id
theorem Ch.at (c : Ch FX g H g' H') {r : Nat} {p : Addr} (h : g.rho[r]? = some p) : g'.rho[r]? = some p := by
  obtain ⟨q, e⟩ := c.rho
  rw [e, List.getElem?_append_left (List.getElem?_eq_some_iff.mp h).1]
  exact h
theorem RepI.ch (c : Ch FX g H g' H') {i v} (r : RepI P g H i v) : RepI P g' H' i v :=
  RepI.rec (motive_1 := fun i v _ => RepI P g' H' i v) (motive_2 := fun l vs _ => RepIL P g' H' l vs)
    .non .bl .int .str (fun a _ b => .tup (c.tup a) b) (fun a _ b => .lst (c.lst a) b)
    (fun a z k _ b => .dctK (c.rd a z) (c.zle _ z) k b) (fun a z k _ b => .dctT (c.rd a z) (c.zle _ z) k b) (fun a => .ref (c.at a)) (fun a => .fn a) .nil (fun _ _ a b => .cons a b) r
theorem RepIL.ch (c : Ch FX g H g' H') {i v} (r : RepIL P g H i v) : RepIL P g' H' i v :=
  RepIL.rec (motive_1 := fun i v _ => RepI P g' H' i v) (motive_2 := fun l vs _ => RepIL P g' H' l vs)
    .non .bl .int .str (fun a _ b => .tup (c.tup a) b) (fun a _ b => .lst (c.lst a) b)
    (fun a z k _ b => .dctK (c.rd a z) (c.zle _ z) k b) (fun a z k _ b => .dctT (c.rd a z) (c.zle _ z) k b) (fun a => .ref (c.at a)) (fun a => .fn a) .nil (fun _ _ a b => .cons a b) r
theorem Fp.dj.l {F G F' : Fp} (h : Fp.dj (un F F') G) : Fp.dj F G := fun b a c => h b (.inl a) c
theorem Fp.dj.r {F G F' : Fp} (h : Fp.dj (un F' F) G) : Fp.dj F G := fun b a c => h b (.inr a) c
theorem Fp.dj.i {F G : Fp} {p} (h : Fp.dj (ins1 p F) G) : Fp.dj F G := fun b a c => h b (.inr a) c
theorem nz (c : Ch FX g H g' H') {p o} (e : H p = some o) (z : ¬ g.Z p) (n : ¬ FX p) : ¬ g'.Z p := fun z' => by
  rcases c.znew p z' with y | y | y
  · exact z y
  · exact n y
  · rw [e] at y; cases y
theorem RepO.ch (c : Ch FX g H g' H') {o v F} (r : RepO P g H o v F) : Fp.dj F FX → RepO P g' H' o v F :=
  RepO.rec (motive_1 := fun o v F _ => Fp.dj F FX → RepO P g' H' o v F) (motive_2 := fun l vs F _ => Fp.dj F FX → RepOL P g' H' l vs F)
    (fun a _ => .im (a.ch c))
    (fun e z _ n ih d => .lst (c.keep _ _ e (d _ (.inl rfl))) (nz c e z (d _ (.inl rfl))) (ih d.i) n)
    (fun e _ ih d => .tup (c.tup e) (ih d))
    (fun e z k _ n ih d => .dctK (c.keep _ _ e (d _ (.inl rfl))) (nz c e z (d _ (.inl rfl))) k (ih d.i) n)
    (fun e z k _ n ih d => .dctT (c.keep _ _ e (d _ (.inl rfl))) (nz c e z (d _ (.inl rfl))) k (ih d.i) n)
    (fun q e z k _ n ih d => .ins q (c.keep _ _ e (d _ (.inl rfl))) (nz c e z (d _ (.inl rfl))) k (ih d.i) n)
    (fun _ => .nil) (fun _ _ dd a b d => .cons (a d.l) (b d.r) dd) r
theorem RepOL.ch (c : Ch FX g H g' H') {o v F} (r : RepOL P g H o v F) : Fp.dj F FX → RepOL P g' H' o v F :=
  RepOL.rec (motive_1 := fun o v F _ => Fp.dj F FX → RepO P g' H' o v F) (motive_2 := fun l vs F _ => Fp.dj F FX → RepOL P g' H' l vs F)
    (fun a _ => .im (a.ch c))
    (fun e z _ n ih d => .lst (c.keep _ _ e (d _ (.inl rfl))) (nz c e z (d _ (.inl rfl))) (ih d.i) n)
    (fun e _ ih d => .tup (c.tup e) (ih d))
    (fun e z k _ n ih d => .dctK (c.keep _ _ e (d _ (.inl rfl))) (nz c e z (d _ (.inl rfl))) k (ih d.i) n)
    (fun e z k _ n ih d => .dctT (c.keep _ _ e (d _ (.inl rfl))) (nz c e z (d _ (.inl rfl))) k (ih d.i) n)
    (fun q e z k _ n ih d => .ins q (c.keep _ _ e (d _ (.inl rfl))) (nz c e z (d _ (.inl rfl))) k (ih d.i) n)
    (fun _ => .nil) (fun _ _ dd a b d => .cons (a d.l) (b d.r) dd) r
/-- a footprint is of things that may be changed -/
theorem RepO.mt {o v F} (r : RepO P g H o v F) : ∀ b, F b → Mt H b ∧ ¬ g.Z b :=
  RepO.rec (motive_1 := fun _ _ F _ => ∀ b, F b → Mt H b ∧ ¬ g.Z b) (motive_2 := fun _ _ F _ => ∀ b, F b → Mt H b ∧ ¬ g.Z b)
    (fun _ _ h => h.elim)
    (fun e z _ _ ih b h => h.elim (fun q => by rw [q]; exact ⟨⟨_, e, rfl⟩, z⟩) (ih b))
    (fun _ _ ih => ih)
    (fun e z _ _ _ ih b h => h.elim (fun q => by rw [q]; exact ⟨⟨_, e, rfl⟩, z⟩) (ih b))
    (fun e z _ _ _ ih b h => h.elim (fun q => by rw [q]; exact ⟨⟨_, e, rfl⟩, z⟩) (ih b))
    (fun _ e z _ _ _ ih b h => h.elim (fun q => by rw [q]; exact ⟨⟨_, e, rfl⟩, z⟩) (ih b))
    (fun _ h => h.elim) (fun _ _ _ a b c h => h.elim (a c) (b c)) r
theorem RepOL.mt {o v F} (r : RepOL P g H o v F) : ∀ b, F b → Mt H b ∧ ¬ g.Z b :=
  RepOL.rec (motive_1 := fun _ _ F _ => ∀ b, F b → Mt H b ∧ ¬ g.Z b) (motive_2 := fun _ _ F _ => ∀ b, F b → Mt H b ∧ ¬ g.Z b)
    (fun _ _ h => h.elim)
    (fun e z _ _ ih b h => h.elim (fun q => by rw [q]; exact ⟨⟨_, e, rfl⟩, z⟩) (ih b))
    (fun _ _ ih => ih)
    (fun e z _ _ _ ih b h => h.elim (fun q => by rw [q]; exact ⟨⟨_, e, rfl⟩, z⟩) (ih b))
    (fun e z _ _ _ ih b h => h.elim (fun q => by rw [q]; exact ⟨⟨_, e, rfl⟩, z⟩) (ih b))
    (fun _ e z _ _ _ ih b h => h.elim (fun q => by rw [q]; exact ⟨⟨_, e, rfl⟩, z⟩) (ih b))
    (fun _ h => h.elim) (fun _ _ _ a b c h => h.elim (a c) (b c)) r
end
end VS

namespace VS
open PySem L2
/-! ### the state -/
structure St where
  sl : List O
  sto : List O
abbrev Lo := Sum Nat Nat
structure RepS (P : Pg) (g : Gh) (H : Hp) (st : St) (σ : L2.St) (F : Lo → Fp) : Prop where
  len : st.sl.length = σ.length
  slot : ∀ (i : Nat) (o : O), st.sl[i]? = some o → (o = .hole ∧ ∀ b, ¬ F (.inl i) b) ∨ ∃ v, σ[i]? = some (some v) ∧ RepO P g H o v (F (.inl i))
  sto : ∀ (r : Nat) (o : O), st.sto[r]? = some o → ∃ p, g.rho[r]? = some p ∧ RepO P g H o (.ref p) (F (.inr r))
  ln : g.rho.length = st.sto.length
  dj : ∀ l l', l ≠ l' → Fp.dj (F l) (F l')
  out1 : ∀ (i : Nat) b, st.sl.length ≤ i → ¬ F (.inl i) b
  out2 : ∀ (r : Nat) b, st.sto.length ≤ r → ¬ F (.inr r) b
  pin : ∀ p ∈ g.pn, σ[p.1]? = some (some p.2)
  zd : ∀ b, g.Z b → ∃ o, H b = some o
def tot (F : Lo → Fp) : Fp := fun b => ∃ l, F l b
section
variable {P : Pg} {g g' : Gh} {H H' : Hp} {st : St} {σ : L2.St} {F : Lo → Fp} {FX : Fp}
theorem RepS.mt (r : RepS P g H st σ F) : ∀ b, tot F b → Mt H b ∧ ¬ g.Z b := by
  rintro b ⟨l | l, h⟩
  · by_cases q : l < st.sl.length
    · rcases r.slot l st.sl[l] (by simp [q]) with ⟨_, n⟩ | ⟨v, _, z⟩
      · exact absurd h (n b)
      · exact z.mt b h
    · exact absurd h (r.out1 l b (by omega))
  · by_cases q : l < st.sto.length
    · obtain ⟨p, _, z⟩ := r.sto l st.sto[l] (by simp [q])
      exact z.mt b h
    · exact absurd h (r.out2 l b (by omega))
theorem RepS.ch (r : RepS P g H st σ F) (c : Ch FX g H g' H') (d : Fp.dj (tot F) FX) (e : g'.rho = g.rho) (ep : g'.pn = g.pn) (zd : ∀ b, g'.Z b → ∃ o, H' b = some o) : RepS P g' H' st σ F where
  len := r.len
  slot i o h := by
    rcases r.slot i o h with q | ⟨v, q, z⟩
    · exact .inl q
    · exact .inr ⟨v, q, z.ch c fun b x y => d b ⟨_, x⟩ y⟩
  sto i o h := by
    obtain ⟨p, q, z⟩ := r.sto i o h
    exact ⟨p, c.at q, z.ch c fun b x y => d b ⟨_, x⟩ y⟩
  ln := by rw [e]; exact r.ln
  dj := r.dj
  out1 := r.out1
  out2 := r.out2
  pin := by rw [ep]; exact r.pin
  zd := zd
end
/-! ### what is told -/
inductive Rs (α : Type) where
  | ok (a : α) | ex (c : Nat) (i : List I)
inductive Fl where
  | nx | rt (o : O) | bk | ct
abbrev M (α : Type) := St → Option (Rs α × St)
abbrev EM := M O
abbrev AM := M (List O)
abbrev BM := M Bool
abbrev SM := M Fl
def bnd {α β : Type} (m : M α) (k : α → M β) : M β := fun st => match m st with
  | none => none
  | some (.ok a, st') => k a st'
  | some (.ex c i, st') => some (.ex c i, st')
def ret {α : Type} (a : α) : M α := fun st => some (.ok a, st)
/-- a value by an option -/
def lift {α : Type} (o : Option α) : M α := fun st => match o with
  | none => none
  | some a => some (.ok a, st)
def ExAt (P : Pg) (g : Gh) (H : Hp) (c : Nat) (i : List I) (cls : Value) (d : Option Addr) : Prop :=
  ∃ C, P.n.cl c = some C ∧ cls = .ref C ∧ match i with
    | [] => True
    | [x] => ∃ dd v, d = some dd ∧ H dd = some (.xd [(P.n.fld c, v)]) ∧ RepI P g H x v
    | _ => False
structure PostS (P : Pg) (g : Gh) (H : Hp) (F : Lo → Fp) (g' : Gh) (H' : Hp) (F' : Lo → Fp) (st' : St) (σ' : L2.St) (Fv : Fp) : Prop where
  rs : RepS P g' H' st' σ' F'
  dj : Fp.dj Fv (tot F')
  ch : Ch (tot F) g H g' H'
  sub : ∀ b, tot F' b ∨ Fv b → tot F b ∨ H b = none
  pn : g'.pn = g.pn
/-- f run from st: what is wanted of each end -/
def RunAt {α : Type} (f : M α) (st : St) (ok : St → α → Prop) (ex : St → Nat → List I → Prop) : Prop := match f st with
  | none => False
  | some (.ok a, st') => ok st' a
  | some (.ex c i, st') => ex st' c i
/-- an exception -/
def exc (P : Pg) (W : WX) (g : Gh) (H : Hp) (F : Lo → Fp) : St → Nat → List I → Prop := fun st' c i =>
  ∀ g' H' F' σ cls d, PostS P g H F g' H' F' st' σ emp → ExAt P g' H' c i cls d → W cls d σ H'
def OkE (P : Pg) (W : WX) (f : EM) : TE := fun σ H Q => ∃ g st F, RepS P g H st σ F ∧
  RunAt f st (fun st' o => ∀ g' H' F' v Fv, PostS P g H F g' H' F' st' σ Fv → RepO P g' H' o v Fv → Q v H') (exc P W g H F)
def OkA (P : Pg) (W : WX) (f : AM) : TA := fun σ H Q => ∃ g st F, RepS P g H st σ F ∧
  RunAt f st (fun st' os => ∀ g' H' F' vs Fv, PostS P g H F g' H' F' st' σ Fv → RepOL P g' H' os vs Fv → Q vs H') (exc P W g H F)
def OkB (P : Pg) (W : WX) (f : BM) : TT := fun σ H Q => ∃ g st F, RepS P g H st σ F ∧
  RunAt f st (fun st' b => ∀ g' H' F', PostS P g H F g' H' F' st' σ emp → Q b H') (exc P W g H F)
section
variable {P : Pg} {W : WX} {α β : Type}
theorem RunAt.imp {f : M α} {st} {ok ok' : St → α → Prop} {ex ex' : St → Nat → List I → Prop} (h : RunAt f st ok ex) (h1 : ∀ s a, ok s a → ok' s a) (h2 : ∀ s c i, ex s c i → ex' s c i) : RunAt f st ok' ex' := by
  unfold RunAt at h ⊢
  split at h
  · exact h
  · exact h1 _ _ h
  · exact h2 _ _ _ h
theorem RunAt.bnd {f : M α} {k : α → M β} {st} {ok : St → β → Prop} {ex : St → Nat → List I → Prop} (h : RunAt (bnd f k) st ok ex) : RunAt f st (fun s a => RunAt (k a) s ok ex) ex := by
  unfold RunAt VS.bnd at h
  unfold RunAt
  split at h
  · exact h.elim
  all_goals (rename_i e; split at e <;> simp_all)
theorem RunAt.ret {a : α} {st} {ok : St → α → Prop} {ex : St → Nat → List I → Prop} (h : RunAt (ret a) st ok ex) : ok st a := h
theorem RunAt.lift {o : Option α} {st} {ok : St → α → Prop} {ex : St → Nat → List I → Prop} (h : RunAt (lift o) st ok ex) : ∃ a, o = some a ∧ ok st a := by
  cases o with
  | none => exact h.elim
  | some a => exact ⟨a, rfl, h⟩
theorem PostS.refl {g H F st σ} (r : RepS P g H st σ F) : PostS P g H F g H F st σ emp := ⟨r, fun _ h => h.elim, .refl r.mt, fun b h => h.elim .inl fun z => z.elim, rfl⟩
/-- two steps -/
theorem PostS.trans {g H F g1 H1 F1 st1 σ1 Fv g2 H2 F2 st2 σ2 Fw} (a : PostS P g H F g1 H1 F1 st1 σ1 Fv) (b : PostS P g1 H1 F1 g2 H2 F2 st2 σ2 Fw) : PostS P g H F g2 H2 F2 st2 σ2 Fw where
  rs := b.rs
  dj := b.dj
  ch := a.ch.trans b.ch fun c h => a.sub c (.inl h)
  sub c h := by
    rcases b.sub c h with h | h
    · exact a.sub c (.inl h)
    · exact .inr (a.ch.back h)
  pn := b.pn.trans a.pn
/-- .. with the first step's value kept -/
theorem PostS.both {g H F g1 H1 F1 st1 σ1 Fv g2 H2 F2 st2 σ2 Fw o v} (a : PostS P g H F g1 H1 F1 st1 σ1 Fv) (ra : RepO P g1 H1 o v Fv) (b : PostS P g1 H1 F1 g2 H2 F2 st2 σ2 Fw) :
    PostS P g H F g2 H2 F2 st2 σ2 (un Fv Fw) ∧ RepO P g2 H2 o v Fv ∧ Fp.dj Fv Fw := by
  have t := a.trans b
  have n : ∀ c, Fv c → tot F2 c ∨ Fw c → False := fun c h k => by
    rcases b.sub c k with z | z
    · exact a.dj c h z
    · obtain ⟨⟨_, e, _⟩, _⟩ := ra.mt c h
      rw [e] at z; cases z
  refine ⟨⟨b.rs, fun c h k => h.elim (fun h => n c h (.inl k)) fun h => b.dj c h k, t.ch, fun c h => ?_, t.pn⟩, ra.ch b.ch a.dj, fun c h k => n c h (.inr k)⟩
  rcases h with h | h | h
  · exact t.sub c (.inl h)
  · exact a.sub c (.inr h)
  · exact t.sub c (.inr h)
theorem exc_step {σ : L2.St} {g H F g1 H1 F1 st1 Fv st2 c i} (p : PostS P g H F g1 H1 F1 st1 σ Fv) (h : exc P W g H F st2 c i) : exc P W g1 H1 F1 st2 c i := fun g2 H2 F2 τ cls d q e => h g2 H2 F2 τ cls d (p.trans q) e
theorem PE.imp {X : Cx} {e : Expr} {t t' : TE} (h : PE X e t) (i : ∀ σ H Q, t' σ H Q → t σ H Q) : PE X e t' := ⟨fun pins s σ H Q I q => h.run pins s σ H Q I (i _ _ _ q)⟩
theorem PA.imp {X : Cx} {e : List Expr} {t t' : TA} (h : PA X e t) (i : ∀ σ H Q, t' σ H Q → t σ H Q) : PA X e t' := ⟨fun pos pins s σ H Q I q => h.run pos pins s σ H Q I (i _ _ _ q)⟩
theorem PT.imp {X : Cx} {e : Expr} {t t' : TT} (h : PT X e t) (i : ∀ σ H Q, t' σ H Q → t σ H Q) : PT X e t' := ⟨fun pins s σ H Q I q => h.run pins s σ H Q I (i _ _ _ q)⟩
theorem PS.imp {X : Cx} {e : Stmt} {t t' : TS} (h : PS X e t) (i : ∀ D σ H, t' D σ H → t D σ H) : PS X e t' := ⟨fun pins s σ H Q I q => h.run pins s σ H Q I (i _ _ _ q)⟩
theorem PSs.imp {X : Cx} {e : List Stmt} {t t' : TS} (h : PSs X e t) (i : ∀ D σ H, t' D σ H → t D σ H) : PSs X e t' := ⟨fun pins s σ H Q I q => h.run pins s σ H Q I (i _ _ _ q)⟩
end
end VS

namespace VS
open PySem L2
/-! ### views of values: what an operation reads -/
def allIm : List O → Option (List I)
  | [] => some []
  | .im i :: r => (allIm r).map (i :: ·)
  | _ :: _ => none
def allImD : List (DK × O) → Option (List (DK × I))
  | [] => some []
  | (k, .im i) :: r => (allImD r).map ((k, i) :: ·)
  | _ :: _ => none
def flat : O → Option I
  | .im i => some i
  | .lst l => (allIm l).map .lst
  | .tup l => (allIm l).map .tup
  | .dct kvs => (allImD kvs).map .dct
  | _ => none
@[simp] theorem allIm_map (l : List I) : allIm (l.map O.im) = some l := by
  induction l with
  | nil => rfl
  | cons a r ih => simp [allIm, ih]
theorem allIm_eq : ∀ {l : List O} {is : List I}, allIm l = some is → l = is.map O.im
  | [], is, h => by cases h; rfl
  | .im i :: r, is, h => by
    simp only [allIm, Option.map_eq_some_iff] at h
    obtain ⟨js, e, rfl⟩ := h
    rw [allIm_eq e]; rfl
  | .lst _ :: _, _, h => by cases h
  | .tup _ :: _, _, h => by cases h
  | .dct _ :: _, _, h => by cases h
  | .ins _ _ :: _, _, h => by cases h
  | .hole :: _, _, h => by cases h
theorem allImD_eq : ∀ {l : List (DK × O)} {is : List (DK × I)}, allImD l = some is → l = is.map fun x => (x.1, O.im x.2)
  | [], is, h => by cases h; rfl
  | (k, .im i) :: r, is, h => by
    simp only [allImD, Option.map_eq_some_iff] at h
    obtain ⟨js, e, rfl⟩ := h
    rw [allImD_eq e]; rfl
  | (_, .lst _) :: _, _, h => by cases h
  | (_, .tup _) :: _, _, h => by cases h
  | (_, .dct _) :: _, _, h => by cases h
  | (_, .ins _ _) :: _, _, h => by cases h
  | (_, .hole) :: _, _, h => by cases h
@[simp] theorem allImD_map (l : List (DK × I)) : allImD (l.map fun x => (x.1, O.im x.2)) = some l := by
  induction l with
  | nil => rfl
  | cons a r ih => simp [allImD, ih]
inductive RepF (P : Pg) (g : Gh) (H : Hp) : I → V → Prop
  | im {i v} : RepI P g H i v → RepF P g H i v
  | lst {l p vs} : LsR P.K H p vs → RepIL P g H l vs → RepF P g H (.lst l) (.ref p)
  | dctK {kvs p ks} : H p = some (.dK ks) → kvs.map Prod.fst = ks.map (fun x => Sum.inl x.1) → RepIL P g H (kvs.map Prod.snd) (ks.map Prod.snd) → RepF P g H (.dct kvs) (.ref p)
  | dctT {kvs p ks} : H p = some (.dT ks) → kvs.map Prod.fst = ks.map (fun x => Sum.inr x.1) → RepIL P g H (kvs.map Prod.snd) (ks.map Prod.snd) → RepF P g H (.dct kvs) (.ref p)
abbrev RepFL (P : Pg) (g : Gh) (H : Hp) : List I → List V → Prop := Paired (RepF P g H)
section
variable {P : Pg} {g g' : Gh} {H H' : Hp} {st st' : St} {σ : L2.St} {F F' : Lo → Fp} {FX Fv : Fp}
theorem RepOL.im : ∀ {is : List I} {vs F}, RepOL P g H (is.map O.im) vs F → RepIL P g H is vs ∧ F = emp
  | [], _, _, r => by cases r; exact ⟨.nil, rfl⟩
  | i :: is, vs, F, r => by
    cases r with
    | cons a b d =>
      cases a with
      | im a =>
        obtain ⟨x, e⟩ := RepOL.im b
        subst e
        exact ⟨.cons a x, by funext b; simp [un, emp]⟩
theorem RepIL.o : ∀ {is : List I} {vs}, RepIL P g H is vs → RepOL P g H (is.map O.im) vs emp
  | [], _, r => by cases r; exact .nil
  | i :: is, vs, r => by
    cases r with
    | cons a b =>
      have q := RepOL.cons (RepO.im a) (RepIL.o b) fun _ h => h.elim
      have e : un emp emp = emp := by funext b; simp [un, emp]
      rw [e] at q
      exact q
theorem RepIL.allIm {os : List O} {is : List I} {vs F} (e : allIm os = some is) (r : RepOL P g H os vs F) : RepIL P g H is vs ∧ F = emp := by
  rw [allIm_eq e] at r; exact r.im
theorem RepO.flat {o i v F} (e : flat o = some i) (r : RepO P g H o v F) : RepF P g H i v := by
  cases r with
  | im a => cases e; exact .im a
  | lst h z r n =>
    simp only [VS.flat, Option.map_eq_some_iff] at e
    obtain ⟨is, e, rfl⟩ := e
    exact .lst (.inl (.of h)) (RepIL.allIm e r).1
  | tup h r =>
    simp only [VS.flat, Option.map_eq_some_iff] at e
    obtain ⟨is, e, rfl⟩ := e
    exact .im (.tup h (RepIL.allIm e r).1)
  | dctK h z k r n =>
    simp only [VS.flat, Option.map_eq_some_iff] at e
    obtain ⟨is, e, rfl⟩ := e
    have e := allImD_eq e
    subst e
    refine .dctK h (by simpa [List.map_map, Function.comp_def] using k) ?_
    have e2 : (is.map fun x => (x.1, O.im x.2)).map Prod.snd = (is.map Prod.snd).map O.im := by simp [List.map_map, Function.comp_def]
    rw [e2] at r
    exact r.im.1
  | dctT h z k r n =>
    simp only [VS.flat, Option.map_eq_some_iff] at e
    obtain ⟨is, e, rfl⟩ := e
    have e := allImD_eq e
    subst e
    refine .dctT h (by simpa [List.map_map, Function.comp_def] using k) ?_
    have e2 : (is.map fun x => (x.1, O.im x.2)).map Prod.snd = (is.map Prod.snd).map O.im := by simp [List.map_map, Function.comp_def]
    rw [e2] at r
    exact r.im.1
  | ins _ _ _ _ _ _ => cases e
/-! ### an operation that reads -/
structure PostR (P : Pg) (g : Gh) (H : Hp) (g' : Gh) (H' : Hp) (o : O) (v : V) (Fv : Fp) : Prop where
  ro : RepO P g' H' o v Fv
  ch : Ch emp g H g' H'
  fr : ∀ b, Fv b → H b = none
  rho : g'.rho = g.rho
  zz : g'.Z = g.Z
  pn : g'.pn = g.pn
def RdOp (P : Pg) (f : List I → Option O) : List V → Hp → VK → Prop := fun vs H Q => ∃ g is, (∀ b, g.Z b → ∃ o, H b = some o) ∧ RepFL P g H is vs ∧ ∃ o, f is = some o ∧ ∀ g' H' v Fv, PostR P g H g' H' o v Fv → Q v H'
theorem PostR.toS {o v} (rs : RepS P g H st σ F) (p : PostR P g H g' H' o v Fv) : PostS P g H F g' H' F st σ Fv where
  rs := rs.ch p.ch (fun _ _ h => h.elim) p.rho p.pn fun b z => by
    rw [p.zz] at z
    obtain ⟨o, e⟩ := rs.zd b z
    exact p.ch.dom b o e
  dj b h k := by
    obtain ⟨⟨_, e, _⟩, _⟩ := rs.mt b k
    rw [p.fr b h] at e; cases e
  ch := p.ch.wider (fun _ h => h.elim) rs.mt
  sub b h := h.elim .inl fun h => .inr (p.fr b h)
  pn := p.pn
theorem PostR.same {i v} (r : RepI P g H i v) : PostR P g H g H (.im i) v emp := ⟨.im r, .refl0, fun _ h => h.elim, rfl, rfl, rfl⟩
/-- a new object -/
theorem Ch.new {p o} (h : H p = none) : Ch emp g H g (upd H p o) where
  keep b u e _ := by rw [upd_ne (ne_of_none e h)]; exact e
  dom b u e := ⟨u, by rw [upd_ne (ne_of_none e h)]; exact e⟩
  mt _ h := h.elim
  zle _ z := z
  znew _ z := .inl z
  rho := ⟨[], by simp⟩
end
/-! ### operands -/
inductive Op where
  | o (x : O) | b (k : Nat)
abbrev OM := M Op
abbrev OL := M (List Op)
def fl (st : St) : Op → Option I
  | .o x => flat x
  | .b k => match st.sl[k]? with
    | some o => flat o
    | none => none
def flL (st : St) : List Op → Option (List I)
  | [] => some []
  | x :: r => match fl st x, flL st r with
    | some i, some is => some (i :: is)
    | _, _ => none
def vl (m : EM) : OM := bnd m fun o => ret (.o o)
def bo (k : Nat) : OM := fun st => match st.sl[k]? with
  | none => none
  | some .hole => none
  | some _ => some (.ok (.b k), st)
def oNil : OL := ret []
def oCons (a : OM) (r : OL) : OL := bnd a fun x => bnd r fun xs => ret (x :: xs)
/-- what an operand's value is -/
def RepOp (P : Pg) (g : Gh) (H : Hp) (σ : L2.St) : Op → V → Fp → Prop
  | .o x, v, F => RepO P g H x v F
  | .b k, v, F => σ[k]? = some (some v) ∧ F = emp
inductive RepOpL (P : Pg) (g : Gh) (H : Hp) (σ : L2.St) : List Op → List V → Fp → Prop
  | nil : RepOpL P g H σ [] [] emp
  | cons {o v l vs F G} : RepOp P g H σ o v F → RepOpL P g H σ l vs G → Fp.dj F G → RepOpL P g H σ (o :: l) (v :: vs) (un F G)
def OkO (P : Pg) (W : WX) (f : OM) : TE := fun σ H Q => ∃ g st F, RepS P g H st σ F ∧
  RunAt f st (fun st' o => ∀ g' H' F' v Fv, PostS P g H F g' H' F' st' σ Fv → RepOp P g' H' σ o v Fv → Q v H') (exc P W g H F)
def OkOL (P : Pg) (W : WX) (f : OL) : TA := fun σ H Q => ∃ g st F, RepS P g H st σ F ∧
  RunAt f st (fun st' os => ∀ g' H' F' vs Fv, PostS P g H F g' H' F' st' σ Fv → RepOpL P g' H' σ os vs Fv → Q vs H') (exc P W g H F)
section
variable {P : Pg} {W : WX} {X : Cx} {e a b : Expr} {g g' : Gh} {H H' : Hp} {st st' : St} {σ : L2.St} {F F' : Lo → Fp} {FX Fv : Fp}
theorem RepOp.mt {o v} (r : RepOp P g H σ o v Fv) : ∀ b, Fv b → Mt H b ∧ ¬ g.Z b := by
  cases o with
  | o x => exact RepO.mt r
  | b k =>
    obtain ⟨_, e⟩ := r
    subst e
    exact fun _ h => h.elim
theorem RepOp.ch {o v} (c : Ch FX g H g' H') (r : RepOp P g H σ o v Fv) (d : Fp.dj Fv FX) : RepOp P g' H' σ o v Fv := by
  cases o with
  | o x => exact RepO.ch c r d
  | b k => exact r
theorem RepOp.fl {o v i} (rs : RepS P g H st σ F) (r : RepOp P g H σ o v Fv) (e : fl st o = some i) : RepF P g H i v := by
  cases o with
  | o x => exact RepO.flat e r
  | b k =>
    unfold VS.fl at e
    cases q : st.sl[k]? with
    | none => simp [q] at e
    | some x =>
      simp only [q] at e
      rcases rs.slot k x q with ⟨rfl, _⟩ | ⟨u, hu, ru⟩
      · cases e
      · rw [r.1] at hu; cases hu
        exact ru.flat e
theorem RepOpL.fl (rs : RepS P g H st σ F) : ∀ {os vs is Fv}, RepOpL P g H σ os vs Fv → flL st os = some is → RepFL P g H is vs
  | [], _, _, _, r, e => by cases r; cases e; exact .nil
  | o :: os, _, is, _, r, e => by
    cases r with
    | cons ra rb d =>
      unfold flL at e
      split at e
      · rename_i h1 h2
        cases e
        exact .cons (ra.fl rs h1) (RepOpL.fl rs rb h2)
      · cases e
/-- two steps with the first one's operand kept -/
theorem PostS.bothO {g H F g1 H1 F1 st1 Fv g2 H2 F2 st2 Fw o v} (a : PostS P g H F g1 H1 F1 st1 σ Fv) (ra : RepOp P g1 H1 σ o v Fv) (b : PostS P g1 H1 F1 g2 H2 F2 st2 σ Fw) :
    PostS P g H F g2 H2 F2 st2 σ (un Fv Fw) ∧ RepOp P g2 H2 σ o v Fv ∧ Fp.dj Fv Fw := by
  have t := a.trans b
  have n : ∀ c, Fv c → tot F2 c ∨ Fw c → False := fun c h k => by
    rcases b.sub c k with z | z
    · exact a.dj c h z
    · obtain ⟨⟨_, e, _⟩, _⟩ := ra.mt c h
      rw [e] at z; cases z
  refine ⟨⟨b.rs, fun c h k => h.elim (fun h => n c h (.inl k)) fun h => b.dj c h k, t.ch, fun c h => ?_, t.pn⟩, ra.ch b.ch a.dj, fun c h k => n c h (.inr k)⟩
  rcases h with h | h | h
  · exact t.sub c (.inl h)
  · exact a.sub c (.inr h)
  · exact t.sub c (.inr h)
/-- behind operands, an operation that reads -/
theorem PostS.read {g H F g1 H1 F1 st1 Fv g2 H2 o v Fw} (a : PostS P g H F g1 H1 F1 st1 σ Fv) (p : PostR P g1 H1 g2 H2 o v Fw) : PostS P g H F g2 H2 F1 st1 σ Fw := a.trans (p.toS a.rs)
theorem eo_vl {f : EM} (h : PE X e (OkE P W f)) : PE X e (OkO P W (vl f)) := PE.imp h fun σ H Q ⟨g, st, F, r, h⟩ =>
  ⟨g, st, F, r, h.bnd.imp (fun s o k g' H' F' v Fv p ro => k.ret g' H' F' v Fv p ro) fun _ _ _ z => z⟩
theorem eo_bo {k : Nat} (h : PE X e (tVar k)) : PE X e (OkO P W (bo k)) := PE.imp h fun σ H Q ⟨g, st, F, r, h⟩ => by
  unfold RunAt bo at h
  cases q : st.sl[k]? with
  | none => simp [q] at h
  | some o =>
    rcases r.slot k o q with ⟨rfl, _⟩ | ⟨v, hv, _⟩
    · simp [q] at h
    · refine ⟨v, hv, ?_⟩
      have h' : ∀ g' H' F' v Fv, PostS P g H F g' H' F' st σ Fv → RepOp P g' H' σ (.b k) v Fv → Q v H' := by
        cases o <;> first | (simp only [q] at h; exact h) | (simp [q] at h)
      exact h' g H F v emp (.refl r) ⟨hv, rfl⟩
end
end VS

namespace VS
open PySem L2
/-! ### expressions -/
def cI (i : I) : EM := ret (.im i)
def eVar (k : Nat) : EM := fun st => match st.sl[k]? with
  | some (.im i) => some (.ok (.im i), st)
  | _ => none
/-- a name read, what it holds frozen -/
def eFv (k : Nat) : EM := fun st => match st.sl[k]? with
  | some o => if fzb o then some (.ok (.im (frz o)), { st with sl := st.sl.set k (.im (frz o)) }) else none
  | none => none
/-- a name read for the last time -/
def eMv (k : Nat) : EM := fun st => match st.sl[k]? with
  | some .hole => none
  | some o => some (.ok o, { st with sl := st.sl.set k .hole })
  | none => none
/-- what is made frozen -/
def eFz (m : EM) : EM := bnd m fun o => if fzb o then ret (.im (frz o)) else lift none
def aNil : AM := ret []
def aCons (m : EM) (r : AM) : AM := bnd m fun o => bnd r fun os => ret (o :: os)
def noHole : O → Bool
  | .hole => false
  | _ => true
def mkTup (os : List O) : Option O := if os.length ≤ sizeLine then some (match allIm os with
  | some is => .im (.tup is)
  | none => .tup os) else none
def mkLst (os : List O) : Option O := if os.length ≤ sizeLine then some (.lst os) else none
def eTup (a : AM) : EM := bnd a fun os => lift (mkTup os)
def eLst (a : AM) : EM := bnd a fun os => lift (mkLst os)
/-- an operation that reads -/
def rd (f : List I → Option O) (os : List Op) : EM := fun st => match flL st os with
  | some is => lift (f is) st
  | none => none
def op1 (f : List I → Option O) (a : OM) : EM := bnd a fun x => rd f [x]
def op2 (f : List I → Option O) (a b : OM) : EM := bnd a fun x => bnd b fun y => rd f [x, y]
def op3 (f : List I → Option O) (a b c : OM) : EM := bnd a fun x => bnd b fun y => bnd c fun z => rd f [x, y, z]
def opN (f : List I → Option O) (a : OL) : EM := bnd a fun xs => rd f xs
def opM (f : List I → Option O) (o : OM) (a : OL) : EM := bnd o fun x => bnd a fun xs => rd f (x :: xs)
section
variable {n : Pn} {W : WX} {X : Cx} {e a b c : Expr} {es : List Expr} {g g' : Gh} {H H' : Hp} {st st' : St} {σ : L2.St} {F F' : Lo → Fp} {FX Fv : Fp} {pos : Pos}
end
end VS
namespace VS
open PySem L2
section
variable {n : Pn} {W : WX} {X : Cx} {P : Pg} {e a b c : Expr} {es : List Expr} {g g' : Gh} {H H' : Hp} {st st' : St} {σ : L2.St} {F F' : Lo → Fp} {FX Fv : Fp} {pos : Pos}
theorem RepO.im_inv {i v} (r : RepO P g H (.im i) v Fv) : RepI P g H i v := by
  cases r with
  | im r => exact r
theorem ev_c {i : I} {v : V} (h : PE X e (tC v)) (r : ∀ g H, RepI P g H i v) : PE X e (OkE P W (cI i)) :=
  PE.imp h fun σ H Q ⟨g, st, F, rs, q⟩ => q.ret g H F v emp (.refl rs) (.im (r g H))
theorem ev_int {i j : _} : PE X (.Constant (.int i) j pos) (OkE P W (cI (.int i))) := ev_c pe_int fun _ _ => .int i
theorem ev_str {x j} : PE X (.Constant (.str x) j pos) (OkE P W (cI (.str x))) := ev_c pe_str fun _ _ => .str x
theorem ev_bl {x j} : PE X (.Constant (.bool x) j pos) (OkE P W (cI (.bl x))) := ev_c pe_bl fun _ _ => .bl x
theorem ev_non {j} : PE X (.Constant .none j pos) (OkE P W (cI .non)) := ev_c pe_non fun _ _ => .non
theorem ev_var {k : Nat} (h : PE X e (tVar k)) : PE X e (OkE P W (eVar k)) := PE.imp h fun σ H Q ⟨g, st, F, rs, q⟩ => by
  unfold RunAt eVar at q
  cases hk : st.sl[k]? with
  | none => simp [hk] at q
  | some o =>
    cases o with
    | im i =>
      simp only [hk] at q
      rcases rs.slot k _ hk with ⟨h, _⟩ | ⟨v, hv, r⟩
      · cases h
      · refine ⟨v, hv, q g H F v emp (.refl rs) ?_⟩
        exact .im r.im_inv
    | _ => simp [hk] at q
/-- a slot (k) takes another content -/
def upF (F : Lo → Fp) (l : Lo) (G : Fp) : Lo → Fp := fun m => if m = l then G else F m
theorem upF_same {F : Lo → Fp} {l G} : upF F l G l = G := if_pos rfl
theorem upF_ne {F : Lo → Fp} {l m G} (h : m ≠ l) : upF F l G m = F m := if_neg h
theorem RepS.upd {k : Nat} {o : O} {Fn : Fp} {τ : L2.St} (r : RepS P g H st σ F) (c : Ch FX g H g' H') (hx : ∀ l, l ≠ .inl k → Fp.dj (F l) FX) (e : g'.rho = g.rho) (ep : g'.pn = g.pn) (hk : k < st.sl.length)
    (hl : τ.length = σ.length) (hs : ∀ j, j ≠ k → τ[j]? = σ[j]?) (hp : ∀ p ∈ g.pn, τ[p.1]? = σ[p.1]?)
    (new : (o = .hole ∧ ∀ b, ¬ Fn b) ∨ ∃ v, τ[k]? = some (some v) ∧ RepO P g' H' o v Fn) (dn : ∀ l, l ≠ .inl k → Fp.dj (F l) Fn)
    (zd : ∀ b, g'.Z b → ∃ o, H' b = some o) :
    RepS P g' H' { st with sl := st.sl.set k o } τ (upF F (.inl k) Fn) where
  len := by simp [r.len, hl]
  slot i x h := by
    by_cases hi : i = k
    · subst hi
      have h' : (st.sl.set i o)[i]? = some x := h
      rw [List.getElem?_set_self hk] at h'
      cases h'
      rw [upF_same]
      exact new
    · have h' : (st.sl.set k o)[i]? = some x := h
      rw [List.getElem?_set_ne (Ne.symm hi)] at h'
      have hne : (Sum.inl i : Lo) ≠ .inl k := fun q => hi (Sum.inl.inj q)
      rw [upF_ne hne]
      rcases r.slot i x h' with q | ⟨v, q, z⟩
      · exact .inl q
      · exact .inr ⟨v, by rw [hs i hi]; exact q, z.ch c (hx _ hne)⟩
  sto i x h := by
    obtain ⟨p, q, z⟩ := r.sto i x h
    rw [upF_ne (by intro q; cases q)]
    exact ⟨p, c.at q, z.ch c (hx _ (by intro q; cases q))⟩
  ln := by rw [e]; exact r.ln
  dj l m h := by
    by_cases h1 : l = .inl k
    · subst h1
      rw [upF_same, upF_ne (Ne.symm h)]
      exact fun b x y => dn m (Ne.symm h) b y x
    · rw [upF_ne h1]
      by_cases h2 : m = .inl k
      · subst h2
        rw [upF_same]
        exact dn l h1
      · rw [upF_ne h2]
        exact r.dj l m h
  out1 i b h := by
    have h' : st.sl.length ≤ i := by simpa using h
    rw [upF_ne (by intro q; cases q; omega)]
    exact r.out1 i b h'
  out2 i b h := by
    rw [upF_ne (by intro q; cases q)]
    exact r.out2 i b h
  pin := by
    rw [ep]
    intro p hp'
    rw [hp p hp']
    exact r.pin p hp'
  zd := zd
theorem tot_up {l G b} (h : tot (upF F l G) b) : (∃ m, m ≠ l ∧ F m b) ∨ G b := by
  obtain ⟨m, h⟩ := h
  by_cases q : m = l
  · subst q; rw [upF_same] at h; exact .inr h
  · rw [upF_ne q] at h; exact .inl ⟨m, q, h⟩
/-- freezing: the ghost alone changes -/
theorem Ch.froze {G : Fp} (h : ∀ b, G b → Mt H b ∧ ¬ g.Z b) : Ch G g H { g with Z := fun b => g.Z b ∨ G b } H where
  keep _ _ e _ := e
  dom _ o e := ⟨o, e⟩
  mt := h
  zle _ z := .inl z
  znew _ z := z.elim .inl fun z => .inr (.inl z)
  rho := ⟨[], by simp⟩
theorem froze_zd {G : Fp} (h : ∀ b, G b → Mt H b ∧ ¬ g.Z b) (z : ∀ b, g.Z b → ∃ o, H b = some o) : ∀ b, g.Z b ∨ G b → ∃ o, H b = some o := fun b x => x.elim (z b) fun x => by
  obtain ⟨⟨o, e, _⟩, _⟩ := h b x
  exact ⟨o, e⟩
theorem frzL_len : ∀ l : List O, (frzL l).length = l.length
  | [] => rfl
  | _ :: r => congrArg (· + 1) (frzL_len r)
theorem frzD_fst : ∀ l : List (DK × O), (frzD l).map Prod.fst = l.map Prod.fst
  | [] => rfl
  | (k, o) :: r => by simp [frzD, frzD_fst r]
theorem frzD_snd : ∀ l : List (DK × O), (frzD l).map Prod.snd = frzL (l.map Prod.snd)
  | [] => rfl
  | (k, o) :: r => by simp [frzD, frzL, frzD_snd r]
theorem fzbD_eq : ∀ l : List (DK × O), fzbD l = fzbL (l.map Prod.snd)
  | [] => rfl
  | (k, o) :: r => by simp [fzbD, fzbL, fzbD_eq r]
theorem RepO.frz {G : Fp} (c : Ch FX g H g' H) {o v F} (r : RepO P g H o v F) : fzb o = true → (∀ b, F b → g'.Z b) → RepI P g' H (VS.frz o) v :=
  RepO.rec (motive_1 := fun o v F _ => fzb o = true → (∀ b, F b → g'.Z b) → RepI P g' H (VS.frz o) v) (motive_2 := fun l vs F _ => fzbL l = true → (∀ b, F b → g'.Z b) → RepIL P g' H (frzL l) vs)
    (fun a _ _ => a.ch c)
    (fun e z _ n ih h k => .lst (.inl ⟨.of e, k _ (.inl rfl)⟩) (ih h fun b x => k b (.inr x)))
    (fun e _ ih h k => .tup (c.tup e) (ih h k))
    (fun {kvs p ks F} e z q _ n ih h k => .dctK (ks := ks) e (k _ (.inl rfl)) (by rw [frzD_fst]; exact q) (by rw [frzD_snd]; exact ih (by rw [← fzbD_eq]; exact h) fun b x => k b (.inr x)))
    (fun {kvs p ks F} e z q _ n ih h k => .dctT (ks := ks) e (k _ (.inl rfl)) (by rw [frzD_fst]; exact q) (by rw [frzD_snd]; exact ih (by rw [← fzbD_eq]; exact h) fun b x => k b (.inr x)))
    (fun _ _ _ _ _ _ _ h _ => by cases h)
    (fun _ _ => .nil) (fun _ _ _ ih1 ih2 h k => by
      have h' := Bool.and_eq_true_iff.mp h
      exact .cons (ih1 h'.1 fun b x => k b (.inl x)) (ih2 h'.2 fun b x => k b (.inr x))) r
theorem ev_fv {k : Nat} (h : PE X e (tVar k)) : PE X e (OkE P W (eFv k)) := PE.imp h fun σ H Q ⟨g, st, F, rs, q⟩ => by
  unfold RunAt eFv at q
  cases hk : st.sl[k]? with
  | none => simp [hk] at q
  | some o =>
    simp only [hk] at q
    by_cases hz : fzb o = true
    · rw [if_pos hz] at q
      rcases rs.slot k _ hk with ⟨h, _⟩ | ⟨v, hv, r⟩
      · subst h; cases hz
      · refine ⟨v, hv, ?_⟩
        have cf : Ch (F (.inl k)) g H { g with Z := fun b => g.Z b ∨ F (.inl k) b } H := .froze r.mt
        have ri := r.frz (G := emp) cf hz fun b x => .inr x
        have hkl : k < st.sl.length := (List.getElem?_eq_some_iff.mp hk).1
        have rs' := rs.upd (o := .im (VS.frz o)) (Fn := emp) cf (fun l hl => rs.dj _ _ hl) rfl rfl hkl rfl (fun _ _ => rfl) (fun _ _ => rfl) (.inr ⟨v, hv, .im ri⟩) (fun _ _ _ _ h => h.elim) (froze_zd r.mt rs.zd)
        refine q _ H _ v emp ⟨rs', fun _ h => h.elim, cf.wider (fun b h => ⟨_, h⟩) rs.mt, fun b h => ?_, rfl⟩ (.im ri)
        rcases h with h | h
        · rcases tot_up h with ⟨m, _, h⟩ | h
          · exact .inl ⟨m, h⟩
          · exact h.elim
        · exact h.elim
    · rw [if_neg hz] at q
      exact q.elim
theorem ev_mv {k : Nat} (h : PE X e (tVar k)) : PE X e (OkE P W (eMv k)) := PE.imp h fun σ H Q ⟨g, st, F, rs, q⟩ => by
  unfold RunAt eMv at q
  cases hk : st.sl[k]? with
  | none => simp [hk] at q
  | some o =>
    rcases rs.slot k _ hk with ⟨h, _⟩ | ⟨v, hv, r⟩
    · subst h; simp [hk] at q
    · refine ⟨v, hv, ?_⟩
      have hkl : k < st.sl.length := (List.getElem?_eq_some_iff.mp hk).1
      have c0 : Ch emp g H g H := .refl0
      have rs' := rs.upd (o := .hole) (Fn := emp) c0 (fun l hl _ _ h => h.elim) rfl rfl hkl rfl (fun _ _ => rfl) (fun _ _ => rfl) (.inl ⟨rfl, fun _ h => h⟩) (fun _ _ _ _ h => h.elim) rs.zd
      have q' : ∀ g' H' F' v Fv, PostS P g H F g' H' F' { st with sl := st.sl.set k .hole } σ Fv → RepO P g' H' o v Fv → Q v H' := by
        cases o <;> first | (simp only [hk] at q; exact q) | (simp [hk] at q)
      refine q' g H _ v (F (.inl k)) ⟨rs', fun b h1 h2 => ?_, .refl rs.mt, fun b h => ?_, rfl⟩ r
      · rcases tot_up h2 with ⟨m, hm, h2⟩ | h2
        · exact rs.dj _ _ hm b h2 h1
        · exact h2.elim
      · rcases h with h | h
        · rcases tot_up h with ⟨m, _, h⟩ | h
          · exact .inl ⟨m, h⟩
          · exact h.elim
        · exact .inl ⟨_, h⟩
end
end VS

namespace VS
open PySem L2
section
variable {n : Pn} {W : WX} {X : Cx} {P : Pg} {e a b c : Expr} {es : List Expr} {g g' : Gh} {H H' : Hp} {st st' : St} {σ : L2.St} {F F' : Lo → Fp} {FX Fv : Fp} {pos : Pos}
/-- what is made frozen -/
theorem ev_fz {f : EM} (h : PE X e (OkE P W f)) : PE X e (OkE P W (eFz f)) := PE.imp h fun σ H Q ⟨g, st, F, rs, q⟩ => ⟨g, st, F, rs, q.bnd.imp (fun s o k g1 H1 F1 v Fv p ro => by
  by_cases hz : fzb o = true
  · rw [if_pos hz] at k
    have cf : Ch Fv g1 H1 { g1 with Z := fun b => g1.Z b ∨ Fv b } H1 := .froze ro.mt
    have ri := ro.frz (G := emp) cf hz fun b x => .inr x
    have rs' := p.rs.ch cf (fun b x y => p.dj b y x) rfl rfl (froze_zd ro.mt p.rs.zd)
    have cf' : Ch (tot F) g H { g1 with Z := fun b => g1.Z b ∨ Fv b } H1 := p.ch.trans cf fun b x => p.sub b (.inr x)
    exact k _ H1 F1 v emp ⟨rs', fun _ h => h.elim, cf', fun b x => p.sub b (x.elim .inl fun y => y.elim), p.pn⟩ (.im ri)
  · rw [if_neg hz] at k
    exact k.elim) fun _ _ _ z => z⟩
/-- a list of values -/
theorem av_nil : PA X [] (OkA P W aNil) := PA.imp pa_nil fun σ H Q ⟨g, st, F, rs, q⟩ => q.ret g H F [] emp (.refl rs) .nil
theorem PostS.bothL {g H F g1 H1 F1 st1 Fv g2 H2 F2 st2 Fw o v} (a : PostS P g H F g1 H1 F1 st1 σ Fv) (ra : RepO P g1 H1 o v Fv) (b : PostS P g1 H1 F1 g2 H2 F2 st2 σ Fw) :
    PostS P g H F g2 H2 F2 st2 σ (un Fv Fw) ∧ RepO P g2 H2 o v Fv ∧ Fp.dj Fv Fw := a.both ra b
theorem av_cons {f : EM} {r : AM} (ha : PE X e (OkE P W f)) (hr : PA X es (OkA P W r)) (hs : starEach (e :: es) X.env = (false, eval e X.env) :: starEach es X.env := by rfl) : PA X (e :: es) (OkA P W (aCons f r)) :=
  PA.imp (pa_cons ha hr hs) fun σ H Q ⟨g, st, F, rs, q⟩ => ⟨g, st, F, rs, q.bnd.imp (fun s o k g1 H1 F1 v Fv p ro => ⟨g1, s, F1, p.rs, k.bnd.imp (fun s2 os k2 g2 H2 F2 vs Fw p2 rl => by
    obtain ⟨p3, ro2, d⟩ := p.both ro p2
    exact k2.ret g2 H2 F2 (v :: vs) (un Fv Fw) p3 (.cons ro2 rl d)) fun _ _ _ z => exc_step p z⟩) fun _ _ _ z => z⟩
theorem mkTup_len {os o} (h : mkTup os = some o) : os.length ≤ sizeLine := by
  unfold mkTup at h
  split at h
  · assumption
  · cases h
theorem RepOL.len {os : List O} {vs F} (r : RepOL P g H os vs F) : os.length = vs.length := by
  induction os generalizing vs F with
  | nil => cases r; rfl
  | cons o os ih => cases r with | cons a b d => simp [ih b]
/-- a new object for a value's footprint -/
theorem RepOL.fresh {os : List O} {vs F p} (r : RepOL P g H os vs F) (h : H p = none) : ¬ F p := fun x => by
  obtain ⟨⟨_, e, _⟩, _⟩ := r.mt p x
  rw [h] at e; cases e
theorem new_zd {p u} (z : ∀ b, g.Z b → ∃ o, H b = some o) (h : H p = none) : ∀ b, g.Z b → ∃ o, upd H p u b = some o := fun b x => by
  obtain ⟨o, e⟩ := z b x
  exact ⟨o, by rw [upd_ne (ne_of_none e h)]; exact e⟩
theorem RepS.nz {p} (r : RepS P g H st σ F) (h : H p = none) : ¬ g.Z p := fun z => by
  obtain ⟨o, e⟩ := r.zd p z
  rw [h] at e; cases e
theorem PostS.mk1 {g H F g1 H1 F1 st1 Fv p u Fw} (a : PostS P g H F g1 H1 F1 st1 σ Fv) (hp : H1 p = none) (hw : ∀ b, Fw b → Fv b ∨ b = p) (fr : ∀ b, Fv b → Mt H1 b) : PostS P g H F g1 (upd H1 p u) F1 st1 σ Fw := by
  have c : Ch emp g1 H1 g1 (upd H1 p u) := .new hp
  have t := a.ch.trans c fun _ h => h.elim
  refine ⟨a.rs.ch c (fun _ _ h => h.elim) rfl rfl (new_zd a.rs.zd hp), fun b x y => ?_, t, fun b x => ?_, a.pn⟩
  · rcases hw b x with x | x
    · exact a.dj b x y
    · subst x
      obtain ⟨⟨_, e, _⟩, _⟩ := a.rs.mt b y
      rw [hp] at e; cases e
  · rcases x with x | x
    · exact a.sub b (.inl x)
    · rcases hw b x with x | x
      · exact a.sub b (.inr x)
      · subst x
        exact .inr (a.ch.back hp)
theorem ev_tup {r : AM} {kk} (h : PA X es (OkA P W r)) : PE X (.Tuple es kk pos) (OkE P W (eTup r)) :=
  PE.imp (pe_tup h) fun σ H Q ⟨g, st, F, rs, q⟩ => ⟨g, st, F, rs, q.bnd.imp (fun s os k g1 H1 F1 vs Fv p rl => by
    obtain ⟨o, e, k⟩ := k.lift
    refine ⟨by rw [← rl.len]; exact mkTup_len e, fun t ht => ?_⟩
    have c : Ch emp g1 H1 g1 (upd H1 t (.tup vs)) := .new ht
    refine k g1 _ F1 (.ref t) Fv (p.mk1 ht (fun _ x => .inl x) fun b x => (rl.mt b x).1) ?_
    have rl2 := rl.ch c fun _ _ h => h.elim
    unfold mkTup at e
    rw [if_pos (mkTup_len e)] at e
    cases hi : allIm os with
    | none =>
      rw [hi] at e; cases e
      exact .tup (.of upd_same) rl2
    | some is =>
      rw [hi] at e; cases e
      obtain ⟨ri, ef⟩ := RepIL.allIm hi rl2
      subst ef
      exact .im (.tup (.of upd_same) ri)) fun _ _ _ z => z⟩
theorem ev_lst {r : AM} (h : PA X es (OkA P W r)) : PE X (.List es pos) (OkE P W (eLst r)) :=
  PE.imp (pe_lst h) fun σ H Q ⟨g, st, F, rs, q⟩ => ⟨g, st, F, rs, q.bnd.imp (fun s os k g1 H1 F1 vs Fv p rl => by
    obtain ⟨o, e, k⟩ := k.lift
    unfold mkLst at e
    split at e
    · rename_i hl
      cases e
      refine ⟨by rw [← rl.len]; exact hl, fun t ht => ?_⟩
      have c : Ch emp g1 H1 g1 (upd H1 t (.lst vs)) := .new ht
      have rl2 := rl.ch c fun _ _ h => h.elim
      have nz : ¬ g1.Z t := p.rs.nz ht
      exact k g1 _ F1 (.ref t) (ins1 t Fv) (p.mk1 ht (fun _ x => x.elim .inr .inl) fun b x => (rl.mt b x).1) (.lst upd_same nz rl2 (rl.fresh ht))
    · cases e) fun _ _ _ z => z⟩
end
end VS

namespace VS
open PySem L2
/-! ### operations that read, lifted -/
section
variable {n : Pn} {W : WX} {X : Cx} {P : Pg} {e a b c : Expr} {es : List Expr} {g g' : Gh} {H H' : Hp} {st st' : St} {σ : L2.St} {F F' : Lo → Fp} {FX Fv : Fp} {pos : Pos}
theorem RunAt.rd {f : List I → Option O} {os st ok ex} (h : RunAt (rd f os) st ok ex) : ∃ is o, flL st os = some is ∧ f is = some o ∧ ok st o := by
  unfold RunAt VS.rd at h
  cases hf : flL st os with
  | none => simp [hf] at h
  | some is =>
    simp only [hf] at h
    cases ho : f is with
    | none =>
      rw [ho] at h
      exact h.elim
    | some o =>
      rw [ho] at h
      exact ⟨is, o, rfl, ho, h⟩
theorem rd_go {f : List I → Option O} {os vs st Fv Q g0 H0 F0} (p : PostS P g0 H0 F0 g H F st σ Fv) (r : RepOpL P g H σ os vs Fv) {ex} (h : RunAt (rd f os) st (fun st' o => ∀ g' H' F' v Fw, PostS P g0 H0 F0 g' H' F' st' σ Fw → RepO P g' H' o v Fw → Q v H') ex) : RdOp P f vs H Q := by
  obtain ⟨is, o, e1, e2, q⟩ := h.rd
  exact ⟨g, is, p.rs.zd, r.fl p.rs e1, o, e2, fun g' H' v Fw pr => q g' H' F v Fw (p.read pr) pr.ro⟩
theorem RepOpL.one {o v} (r : RepOp P g H σ o v Fv) : RepOpL P g H σ [o] [v] (un Fv emp) := .cons r .nil fun _ _ h => h
theorem PostS.w {g H F g1 H1 F1 st1 σ1 Fv} (p : PostS P g H F g1 H1 F1 st1 σ1 Fv) : PostS P g H F g1 H1 F1 st1 σ1 (un Fv emp) :=
  ⟨p.rs, fun b x y => p.dj b (x.elim id fun z => z.elim) y, p.ch, fun b x => p.sub b (x.elim .inl fun y => y.elim .inr fun z => z.elim), p.pn⟩
theorem go1 {f : List I → Option O} {fa : OM} {H σ Q} (h : OkE P W (op1 f fa) σ H Q) : OkO P W fa σ H fun x H1 => RdOp P f [x] H1 Q := by
  obtain ⟨g, st, F, rs, q⟩ := h
  exact ⟨g, st, F, rs, q.bnd.imp (fun s x k g1 H1 F1 v Fv p rx => rd_go p.w (.one rx) k) fun _ _ _ z => z⟩
theorem go2 {f : List I → Option O} {fa fb : OM} {H σ Q} (h : OkE P W (op2 f fa fb) σ H Q) : OkO P W fa σ H fun x H1 => OkO P W fb σ H1 fun y H2 => RdOp P f [x, y] H2 Q := by
  obtain ⟨g, st, F, rs, q⟩ := h
  exact ⟨g, st, F, rs, q.bnd.imp (fun s x k g1 H1 F1 v Fv p rx => ⟨g1, s, F1, p.rs, k.bnd.imp (fun s2 y k2 g2 H2 F2 u Fu p2 ry => by
    obtain ⟨p3, rx2, d⟩ := p.bothO rx p2.w
    exact rd_go p3 (.cons rx2 (.one ry) d) k2) fun _ _ _ z => exc_step p z⟩) fun _ _ _ z => z⟩
theorem goN {f : List I → Option O} {fa : OL} {H σ Q} (h : OkE P W (opN f fa) σ H Q) : OkOL P W fa σ H fun xs H1 => RdOp P f xs H1 Q := by
  obtain ⟨g, st, F, rs, q⟩ := h
  exact ⟨g, st, F, rs, q.bnd.imp (fun s x k g1 H1 F1 v Fv p rx => rd_go p rx k) fun _ _ _ z => z⟩
theorem goM {f : List I → Option O} {fo : OM} {fa : OL} {H σ Q} (h : OkE P W (opM f fo fa) σ H Q) : OkO P W fo σ H fun x H1 => OkOL P W fa σ H1 fun xs H2 => RdOp P f (x :: xs) H2 Q := by
  obtain ⟨g, st, F, rs, q⟩ := h
  exact ⟨g, st, F, rs, q.bnd.imp (fun s x k g1 H1 F1 v Fv p rx => ⟨g1, s, F1, p.rs, k.bnd.imp (fun s2 y k2 g2 H2 F2 u Fu p2 ry => by
    obtain ⟨p3, rx2, d⟩ := p.bothO rx p2
    exact rd_go p3 (.cons rx2 ry d) k2) fun _ _ _ z => exc_step p z⟩) fun _ _ _ z => z⟩
theorem ol_nil : PA X [] (OkOL P W oNil) := PA.imp pa_nil fun σ H Q ⟨g, st, F, rs, q⟩ => q.ret g H F [] emp (.refl rs) .nil
theorem ol_cons {f : OM} {r : OL} (ha : PE X e (OkO P W f)) (hr : PA X es (OkOL P W r)) (hs : starEach (e :: es) X.env = (false, eval e X.env) :: starEach es X.env := by rfl) : PA X (e :: es) (OkOL P W (oCons f r)) :=
  PA.imp (pa_cons ha hr hs) fun σ H Q ⟨g, st, F, rs, q⟩ => ⟨g, st, F, rs, q.bnd.imp (fun s o k g1 H1 F1 v Fv p ro => ⟨g1, s, F1, p.rs, k.bnd.imp (fun s2 os k2 g2 H2 F2 vs Fw p2 rl => by
    obtain ⟨p3, ro2, d⟩ := p.bothO ro p2
    exact k2.ret g2 H2 F2 (v :: vs) (un Fv Fw) p3 (.cons ro2 rl d)) fun _ _ _ z => exc_step p z⟩) fun _ _ _ z => z⟩
theorem ev_bin {op : Operator} {f fa fb} (ho : OpR X (binaryOp op) fun x y => RdOp P f [x, y]) (ha : PE X a (OkO P W fa)) (hb : PE X b (OkO P W fb)) : PE X (.BinOp a op b pos) (OkE P W (op2 f fa fb)) := PE.imp (pe_op ho ha hb) fun _ _ _ h => go2 h
theorem ev_un {op : UnaryOp} {f fa} (ho : UnR X (unaryOp op) fun x => RdOp P f [x]) (ha : PE X a (OkO P W fa)) : PE X (.UnaryOp op a pos) (OkE P W (op1 f fa)) := PE.imp (pe_un ho ha) fun _ _ _ h => go1 h
theorem ev_cmp {op : CmpOp} {f fa fb} (ho : OpR X (compareOp op) fun x y => RdOp P f [x, y]) (ha : PE X a (OkO P W fa)) (hb : PE X b (OkO P W fb)) (hm : behindInMarks op b = false := by first | exact nomark _ | rfl) : PE X (.Compare a [op] [b] pos) (OkE P W (op2 f fa fb)) := PE.imp (pe_cmpR ho ha hb hm) fun _ _ _ h => go2 h
theorem ev_ix {f fa fb} (ho : IxR X fun x y => RdOp P f [x, y]) (ha : PE X a (OkO P W fa)) (hb : PE X b (OkO P W fb)) (hs : PlainIx b := by exact fun _ _ => rfl) : PE X (.Subscript a b pos) (OkE P W (op2 f fa fb)) := PE.imp (pe_ix ho ha hb hs) fun _ _ _ h => go2 h
theorem ev_callB {x : Str} {id : String} {p : Pos} {f : List I → Option O} {fa : OL} (hc : CallR X (.builtin id) (RdOp P f)) (hm : X.mg x = none) (hv : bootBuiltins x = some (.builtin id)) (ha : PA X (e :: es) (OkOL P W fa)) (hg : Gl X x := by rfl) (hn : x ≠ "__name__" := by decide) (hdb : (x == ("__debug__" : Str)) = false := by decide)
    (he : starEach (e :: es) X.env = (false, eval e X.env) :: starEach es X.env := by rfl) (hpl : (backTo pos (starEach es X.env)).any (·.1) = false := by rfl) : PE X (.Call (.Name x p) (e :: es) [] pos) (OkE P W (opN f fa)) := PE.imp (pe_callB hc hg hm hv ha hn hdb he hpl) fun _ _ _ h => goN h
theorem ev_callTy {x : Str} {T : String} {p : Pos} {f : List I → Option O} {fa : OL} (hc : CallR X (.type T) (RdOp P f)) (hm : X.mg x = none) (hv : bootBuiltins x = some (.type T)) (ha : PA X (e :: es) (OkOL P W fa)) (hg : Gl X x := by rfl) (hn : x ≠ "__name__" := by decide) (hdb : (x == ("__debug__" : Str)) = false := by decide)
    (he : starEach (e :: es) X.env = (false, eval e X.env) :: starEach es X.env := by rfl) (hpl : (backTo pos (starEach es X.env)).any (·.1) = false := by rfl) : PE X (.Call (.Name x p) (e :: es) [] pos) (OkE P W (opN f fa)) := PE.imp (pe_callTy hc hg hm hv ha hn hdb he hpl) fun _ _ _ h => goN h
/-! ### tests -/
def asB (m : EM) : BM := bnd m fun o => match o with
  | .im (.bl b) => ret b
  | _ => lift none
def bAnd (m k : BM) : BM := bnd m fun b => if b then k else ret false
def bOr (m k : BM) : BM := bnd m fun b => if b then ret true else k
def bNot (m : BM) : BM := bnd m fun b => ret (!b)
def ofB (m : BM) : EM := bnd m fun b => ret (.im (.bl b))
theorem asB_go {f : EM} {H σ Q} (h : OkB P W (asB f) σ H Q) : OkE P W f σ H fun x H1 => ∃ k, x = .bl k ∧ Q k H1 := by
  obtain ⟨g, st, F, rs, q⟩ := h
  refine ⟨g, st, F, rs, q.bnd.imp (fun s o k g1 H1 F1 v Fv p ro => ?_) fun _ _ _ z => z⟩
  split at k
  · rename_i b
    cases ro.im_inv
    refine ⟨b, rfl, k.ret g1 H1 F1 ⟨p.rs, fun _ h => h.elim, p.ch, fun c x => p.sub c (x.elim .inl fun y => y.elim), p.pn⟩⟩
  · exact k.elim
theorem bt_cmp {op : CmpOp} {f fa fb} (ho : OpR X (compareOp op) fun x y => RdOp P f [x, y]) (ha : PE X a (OkO P W fa)) (hb : PE X b (OkO P W fb)) (hm : behindInMarks op b = false := by first | exact nomark _ | rfl) : PT X (.Compare a [op] [b] pos) (OkB P W (asB (op2 f fa fb))) :=
  PT.imp (pt_cmpR ho ha hb hm) fun _ _ _ h => go2 (asB_go h)
theorem bt_val {f} (ha : PE X a (OkE P W f)) (he : ∀ whole, isTrue a X.env whole = (do let v ← whole; standAt a.pos; holding [v] (truthy v)) := by intro _; rfl) : PT X a (OkB P W (asB f)) := PT.imp (pt_val ha he) fun _ _ _ h => asB_go h
theorem PostS.b2 {g H F g1 H1 F1 st1 σ1 g2 H2 F2 st2 σ2} (p : PostS P g H F g1 H1 F1 st1 σ1 emp) (q : PostS P g1 H1 F1 g2 H2 F2 st2 σ2 emp) : PostS P g H F g2 H2 F2 st2 σ2 emp := p.trans q
theorem and_go {f k : BM} {H σ Q} (h : OkB P W (bAnd f k) σ H Q) : OkB P W f σ H fun c H1 => if c = true then OkB P W k σ H1 Q else Q false H1 := by
  obtain ⟨g, st, F, rs, q⟩ := h
  refine ⟨g, st, F, rs, q.bnd.imp (fun s b k g1 H1 F1 p => ?_) fun _ _ _ z => z⟩
  cases b with
  | true => exact ⟨g1, s, F1, p.rs, RunAt.imp k (fun s2 b2 k2 g2 H2 F2 p2 => k2 g2 H2 F2 (p.b2 p2)) fun _ _ _ z => exc_step p z⟩
  | false => exact k.ret g1 H1 F1 p
theorem or_go {f k : BM} {H σ Q} (h : OkB P W (bOr f k) σ H Q) : OkB P W f σ H fun c H1 => if c = true then Q true H1 else OkB P W k σ H1 Q := by
  obtain ⟨g, st, F, rs, q⟩ := h
  refine ⟨g, st, F, rs, q.bnd.imp (fun s b k g1 H1 F1 p => ?_) fun _ _ _ z => z⟩
  cases b with
  | false => exact ⟨g1, s, F1, p.rs, RunAt.imp k (fun s2 b2 k2 g2 H2 F2 p2 => k2 g2 H2 F2 (p.b2 p2)) fun _ _ _ z => exc_step p z⟩
  | true => exact k.ret g1 H1 F1 p
variable {rest : List Expr} {fa fb : BM}
theorem PW.imp {e : Expr} {t t' : TT} (h : PW X e t) (i : ∀ σ H Q, t' σ H Q → t σ H Q) : PW X e t' := ⟨fun wh pins s σ H Q I q => h.run wh pins s σ H Q I (i _ _ _ q)⟩
theorem bw_and1 (ha : PT X a (OkB P W fa)) : PW X (.BoolOp .And [a] pos) (OkB P W fa) := pw_and1 ha
theorem bw_or1 (ha : PT X a (OkB P W fa)) : PW X (.BoolOp .Or [a] pos) (OkB P W fa) := pw_or1 ha
theorem bw_and (ha : PT X a (OkB P W fa)) (hb : PW X (.BoolOp .And (b :: rest) pos) (OkB P W fb)) : PW X (.BoolOp .And (a :: b :: rest) pos) (OkB P W (bAnd fa fb)) := PW.imp (pw_and ha hb) fun _ _ _ h => and_go h
theorem bw_or (ha : PT X a (OkB P W fa)) (hb : PW X (.BoolOp .Or (b :: rest) pos) (OkB P W fb)) : PW X (.BoolOp .Or (a :: b :: rest) pos) (OkB P W (bOr fa fb)) := PW.imp (pw_or ha hb) fun _ _ _ h => or_go h
theorem bt_not (ha : PT X a (OkB P W fa)) : PT X (.UnaryOp .Not a pos) (OkB P W (bNot fa)) := PT.imp (pt_not ha) fun σ H Q ⟨g, st, F, rs, q⟩ =>
  ⟨g, st, F, rs, q.bnd.imp (fun s b k g1 H1 F1 p => k.ret g1 H1 F1 p) fun _ _ _ z => z⟩
/-! as values -/
def eAnd (m : EM) (k : EM) : EM := bnd (asB m) fun b => if b then k else ret (.im (.bl false))
def eOr (m : EM) (k : EM) : EM := bnd (asB m) fun b => if b then ret (.im (.bl true)) else k
def eNot (m : EM) : EM := bnd (asB m) fun b => ret (.im (.bl (!b)))
def eIf (t : BM) (m k : EM) : EM := bnd t fun b => if b then m else k
theorem asB_goE {f : EM} {k : Bool → EM} {H σ Q} (h : OkE P W (bnd (asB f) k) σ H Q) : OkE P W f σ H fun x H1 => ∃ c, x = .bl c ∧ OkE P W (k c) σ H1 Q := by
  obtain ⟨g, st, F, rs, q⟩ := h
  refine ⟨g, st, F, rs, q.bnd.bnd.imp (fun s o k1 g1 H1 F1 v Fv p ro => ?_) fun _ _ _ z => z⟩
  split at k1
  · rename_i b
    cases ro.im_inv
    have p' : PostS P g H F g1 H1 F1 s σ emp := ⟨p.rs, fun _ h => h.elim, p.ch, fun c x => p.sub c (x.elim .inl fun y => y.elim), p.pn⟩
    exact ⟨b, rfl, g1, s, F1, p.rs, RunAt.imp k1.ret (fun s2 b2 k2 g2 H2 F2 v2 Fv2 p2 => k2 g2 H2 F2 v2 Fv2 (p'.trans p2)) fun _ _ _ z => exc_step p' z⟩
  · exact k1.elim
theorem ret_go {i : I} {v : V} {H σ Q} (r : ∀ g H, RepI P g H i v) (h : OkE P W (ret (.im i)) σ H Q) : Q v H := by
  obtain ⟨g, st, F, rs, q⟩ := h
  exact q.ret g H F v emp (.refl rs) (.im (r g H))
theorem ev_one {op} {f : EM} (h : PE X a (OkE P W f)) : PE X (.BoolOp op [a] pos) (OkE P W f) := pe_one h
theorem ev_and {f k : EM} (ha : PE X a (OkE P W f)) (hb : PE X (.BoolOp .And (b :: rest) pos) (OkE P W k)) : PE X (.BoolOp .And (a :: b :: rest) pos) (OkE P W (eAnd f k)) := PE.imp (pe_and ha hb) fun σ H Q h => by
  have q := asB_goE h
  obtain ⟨g, st, F, rs, q⟩ := q
  refine ⟨g, st, F, rs, q.imp (fun s o k1 g1 H1 F1 v Fv p ro => ?_) fun _ _ _ z => z⟩
  obtain ⟨c, e, q⟩ := k1 g1 H1 F1 v Fv p ro
  refine ⟨c, e, ?_⟩
  cases c with
  | true => exact q
  | false => exact ret_go (fun _ _ => .bl false) q
theorem ev_or {f k : EM} (ha : PE X a (OkE P W f)) (hb : PE X (.BoolOp .Or (b :: rest) pos) (OkE P W k)) : PE X (.BoolOp .Or (a :: b :: rest) pos) (OkE P W (eOr f k)) := PE.imp (pe_or ha hb) fun σ H Q h => by
  have q := asB_goE h
  obtain ⟨g, st, F, rs, q⟩ := q
  refine ⟨g, st, F, rs, q.imp (fun s o k1 g1 H1 F1 v Fv p ro => ?_) fun _ _ _ z => z⟩
  obtain ⟨c, e, q⟩ := k1 g1 H1 F1 v Fv p ro
  refine ⟨c, e, ?_⟩
  cases c with
  | false => exact q
  | true => exact ret_go (fun _ _ => .bl true) q
theorem ev_not {f : EM} (ha : PE X a (OkE P W f)) : PE X (.UnaryOp .Not a pos) (OkE P W (eNot f)) := PE.imp (pe_not ha) fun σ H Q h => by
  have q := asB_goE h
  obtain ⟨g, st, F, rs, q⟩ := q
  refine ⟨g, st, F, rs, q.imp (fun s o k1 g1 H1 F1 v Fv p ro => ?_) fun _ _ _ z => z⟩
  obtain ⟨c, e, q⟩ := k1 g1 H1 F1 v Fv p ro
  exact ⟨c, e, ret_go (fun _ _ => .bl (!c)) q⟩
theorem ev_if {t : BM} {f k : EM} (hc : PT X c (OkB P W t)) (ha : PE X a (OkE P W f)) (hb : PE X b (OkE P W k)) : PE X (.IfExp c a b pos) (OkE P W (eIf t f k)) := PE.imp (pe_ifExp hc ha hb) fun σ H Q ⟨g, st, F, rs, q⟩ => by
  refine ⟨g, st, F, rs, q.bnd.imp (fun s b k1 g1 H1 F1 p => ?_) fun _ _ _ z => z⟩
  cases b with
  | true => exact ⟨g1, s, F1, p.rs, RunAt.imp k1 (fun s2 b2 k2 g2 H2 F2 v2 Fv2 p2 => k2 g2 H2 F2 v2 Fv2 (p.trans p2)) fun _ _ _ z => exc_step p z⟩
  | false => exact ⟨g1, s, F1, p.rs, RunAt.imp k1 (fun s2 b2 k2 g2 H2 F2 v2 Fv2 p2 => k2 g2 H2 F2 v2 Fv2 (p.trans p2)) fun _ _ _ z => exc_step p z⟩
end
end VS

namespace VS
open PySem L2
/-! ### statements -/
def sNext : SM := ret .nx
def sSeq (m k : SM) : SM := bnd m fun f => match f with
  | .nx => k
  | f => ret f
def put (k : Nat) (o : O) : M Unit := fun st => if k < st.sl.length then some (.ok (), { st with sl := st.sl.set k o }) else none
def sSet (k : Nat) (m : EM) : SM := bnd m fun o => bnd (put k o) fun _ => ret .nx
def sDrop (m : EM) : SM := bnd m fun _ => ret .nx
def sRet (m : EM) : SM := bnd m fun o => ret (.rt o)
def sRetN : SM := ret (.rt (.im .non))
def sBrk : SM := ret .bk
def sCont : SM := ret .ct
def sIf (t : BM) (m k : SM) : SM := bnd t fun b => if b then m else k
/-- names of a tuple -/
def putL : List Nat → List I → M Unit
  | [], [] => ret ()
  | k :: ks, i :: is => bnd (put k (.im i)) fun _ => putL ks is
  | _, _ => fun _ => none
def tupOf : O → Option (List I)
  | .im (.tup l) => some l
  | .tup l => allIm l
  | _ => none
def unp (ks : List Nat) (o : O) : M Unit := fun st => match tupOf o with
  | some l => putL ks l st
  | none => none
def sUnp (ks : List Nat) (m : EM) : SM := bnd m fun o => bnd (unp ks o) fun _ => ret .nx
def OkS (P : Pg) (W : WX) (io : List Nat) (f : SM) : TS := fun D σ H => ∃ g st F, RepS P g H st σ F ∧ g.pn.map Prod.fst = io ∧
  RunAt f st (fun st' fl => match fl with
    | .nx => ∀ g' H' F' σ', PostS P g H F g' H' F' st' σ' emp → D.nx σ' H'
    | .rt o => ∀ g' H' F' σ' v Fv, PostS P g H F g' H' F' st' σ' Fv → RepO P g' H' o v Fv → D.rt v H'
    | .bk => ∀ g' H' F' σ', PostS P g H F g' H' F' st' σ' emp → D.bk σ' H'
    | .ct => ∀ g' H' F' σ', PostS P g H F g' H' F' st' σ' emp → D.ct σ' H') (exc P W g H F)
section
variable {n : Pn} {W : WX} {X : Cx} {P : Pg} {e a b c : Expr} {es : List Expr} {g g' : Gh} {H H' : Hp} {st st' : St} {σ : L2.St} {F F' : Lo → Fp} {FX Fv : Fp} {pos : Pos} {io : List Nat} {s : Stmt} {ss : List Stmt} {D : Ends}
/-- what is wanted of a statement's ends, from a state -/
def okS (P : Pg) (D : Ends) (g : Gh) (H : Hp) (F : Lo → Fp) (st' : St) (fl : Fl) : Prop := match fl with
  | .nx => ∀ g' H' F' σ', PostS P g H F g' H' F' st' σ' emp → D.nx σ' H'
  | .rt o => ∀ g' H' F' σ' v Fv, PostS P g H F g' H' F' st' σ' Fv → RepO P g' H' o v Fv → D.rt v H'
  | .bk => ∀ g' H' F' σ', PostS P g H F g' H' F' st' σ' emp → D.bk σ' H'
  | .ct => ∀ g' H' F' σ', PostS P g H F g' H' F' st' σ' emp → D.ct σ' H'
theorem okS_step {g1 H1 F1 st1 σ1 Fv st2 fl} (p : PostS P g H F g1 H1 F1 st1 σ1 Fv) (h : okS P D g H F st2 fl) : okS P D g1 H1 F1 st2 fl := by
  cases fl with
  | nx => exact fun g2 H2 F2 σ2 q => h g2 H2 F2 σ2 (p.trans q)
  | rt o => exact fun g2 H2 F2 σ2 v Fw q r => h g2 H2 F2 σ2 v Fw (p.trans q) r
  | bk => exact fun g2 H2 F2 σ2 q => h g2 H2 F2 σ2 (p.trans q)
  | ct => exact fun g2 H2 F2 σ2 q => h g2 H2 F2 σ2 (p.trans q)
theorem excS_step {g1 H1 F1 st1 σ1 Fv st2 c i} (p : PostS P g H F g1 H1 F1 st1 σ1 Fv) (h : exc P W g H F st2 c i) : exc P W g1 H1 F1 st2 c i := fun g2 H2 F2 τ cls d q e => h g2 H2 F2 τ cls d (p.trans q) e
theorem PostS.pio {g1 H1 F1 st1 σ1} (p : PostS P g H F g1 H1 F1 st1 σ1 Fv) (h : g.pn.map Prod.fst = io) : g1.pn.map Prod.fst = io := by rw [p.pn]; exact h
theorem sv_next : PSs X [] (OkS P W io sNext) := PSs.imp pss_nil fun D σ H ⟨g, st, F, rs, _, q⟩ => q.ret g H F σ (.refl rs)
theorem seq_go {f k : SM} (h : OkS P W io (sSeq f k) D σ H) : OkS P W io f { D with nx := OkS P W io k D } σ H := by
  obtain ⟨g, st, F, rs, hio, q⟩ := h
  refine ⟨g, st, F, rs, hio, q.bnd.imp (fun s fl k1 => ?_) fun _ _ _ z => z⟩
  cases fl with
  | nx => exact fun g1 H1 F1 σ1 p => ⟨g1, s, F1, p.rs, p.pio hio, RunAt.imp k1 (fun s2 fl k2 => okS_step p k2) fun _ _ _ z => excS_step p z⟩
  | rt o => exact k1.ret
  | bk => exact k1.ret
  | ct => exact k1.ret
theorem sv_cons {f k : SM} (h1 : PS X s (OkS P W io f)) (h2 : PSs X ss (OkS P W io k)) : PSs X (s :: ss) (OkS P W io (sSeq f k)) := PSs.imp (pss_cons h1 h2) fun _ _ _ h => seq_go h
theorem sv_one {f : SM} (h1 : PS X s (OkS P W io f)) : PSs X [s] (OkS P W io f) := pss_one h1
theorem sv_pass : PS X (.Pass pos) (OkS P W io sNext) := PS.imp ps_pass fun D σ H ⟨g, st, F, rs, _, q⟩ => q.ret g H F σ (.refl rs)
theorem sv_cont : PS X (.Continue pos) (OkS P W io sCont) := PS.imp ps_continue fun D σ H ⟨g, st, F, rs, _, q⟩ => q.ret g H F σ (.refl rs)
theorem sv_brk : PS X (.Break pos) (OkS P W io sBrk) := PS.imp ps_break fun D σ H ⟨g, st, F, rs, _, q⟩ => q.ret g H F σ (.refl rs)
theorem PostS.drop {g H F g1 H1 F1 st1 σ1 Fv} (p : PostS P g H F g1 H1 F1 st1 σ1 Fv) : PostS P g H F g1 H1 F1 st1 σ1 emp :=
  ⟨p.rs, fun _ h => h.elim, p.ch, fun c x => p.sub c (x.elim .inl fun y => y.elim), p.pn⟩
theorem sv_drop {f : EM} (h : PE X e (OkE P W f)) (hs : swapsWith e none pos.line X.env = pure false := by rfl) : PS X (.Expr e pos) (OkS P W io (sDrop f)) := PS.imp (ps_expr h hs) fun D σ H ⟨g, st, F, rs, _, q⟩ =>
  ⟨g, st, F, rs, q.bnd.imp (fun s o k g1 H1 F1 v Fv p _ => k.ret g1 H1 F1 σ p.drop) fun _ _ _ z => z⟩
theorem sv_doc {x j pos'} : PS X (.Expr (.Constant (.str x) j pos) pos') (OkS P W io sNext) := PS.imp ps_doc fun D σ H ⟨g, st, F, rs, _, q⟩ => q.ret g H F σ (.refl rs)
theorem sv_ret {f : EM} (h : PE X e (OkE P W f)) : PS X (.Return (some e) pos) (OkS P W io (sRet f)) := PS.imp (ps_ret h) fun D σ H ⟨g, st, F, rs, _, q⟩ =>
  ⟨g, st, F, rs, q.bnd.imp (fun s o k g1 H1 F1 v Fv p r => k.ret g1 H1 F1 σ v Fv p r) fun _ _ _ z => z⟩
theorem sv_retN : PS X (.Return none pos) (OkS P W io sRetN) := PS.imp ps_retN fun D σ H ⟨g, st, F, rs, _, q⟩ => q.ret g H F σ .non emp (.refl rs) (.im .non)
theorem if_go {t : BM} {f k : SM} (h : OkS P W io (sIf t f k) D σ H) : OkB P W t σ H fun b H1 => if b = true then OkS P W io f D σ H1 else OkS P W io k D σ H1 := by
  obtain ⟨g, st, F, rs, hio, q⟩ := h
  refine ⟨g, st, F, rs, q.bnd.imp (fun s b k1 g1 H1 F1 p => ?_) fun _ _ _ z => z⟩
  cases b with
  | true => exact ⟨g1, s, F1, p.rs, p.pio hio, RunAt.imp k1 (fun s2 fl k2 => okS_step p k2) fun _ _ _ z => excS_step p z⟩
  | false => exact ⟨g1, s, F1, p.rs, p.pio hio, RunAt.imp k1 (fun s2 fl k2 => okS_step p k2) fun _ _ _ z => excS_step p z⟩
theorem sv_if {t : BM} {f k : SM} {ts us : List Stmt} (hc : PT X c (OkB P W t)) (ha : PSs X ts (OkS P W io f)) (hb : PSs X us (OkS P W io k)) : PS X (.If c ts us pos) (OkS P W io (sIf t f k)) := PS.imp (ps_if hc ha hb) fun _ _ _ h => if_go h
/-! names -/
theorem not_hole {o v} (r : RepO P g H o v Fv) : o ≠ .hole := by intro e; subst e; cases r
theorem RunAt.put {k : Nat} {o : O} {ok ex} (h : RunAt (put k o) st ok ex) : k < st.sl.length ∧ ok { st with sl := st.sl.set k o } () := by
  unfold RunAt VS.put at h
  split at h
  · exact h.elim
  · rename_i e
    split at e
    · cases e; exact ⟨by assumption, h⟩
    · cases e
  · rename_i e
    split at e <;> cases e
/-- a value goes into a slot -/
theorem PostS.put {g0 H0 F0 k o v Fw} (p : PostS P g0 H0 F0 g H F st σ Fv) (r : RepO P g H o v Fw) (hw : ∀ b, Fw b → Fv b) (hk : k < st.sl.length) (hn : ∀ q ∈ g.pn, q.1 ≠ k) :
    PostS P g0 H0 F0 g H (upF F (.inl k) Fw) { st with sl := st.sl.set k o } (σ.set k (some v)) emp := by
  have hσ : k < σ.length := by rw [← p.rs.len]; exact hk
  have c0 : Ch emp g H g H := .refl0
  refine ⟨p.rs.upd (o := o) (Fn := Fw) c0 (fun _ _ _ _ h => h.elim) rfl rfl hk (by simp) (fun j hj => List.getElem?_set_ne (Ne.symm hj)) (fun q hq => List.getElem?_set_ne (Ne.symm (hn q hq)))
    (.inr ⟨v, List.getElem?_set_self hσ, r⟩) (fun l _ b x y => p.dj b (hw b y) ⟨_, x⟩) p.rs.zd, fun _ h => h.elim, p.ch, fun b x => ?_, p.pn⟩
  rcases x with x | x
  · rcases tot_up x with ⟨m, _, x⟩ | x
    · exact p.sub b (.inl ⟨m, x⟩)
    · exact p.sub b (.inr (hw b x))
  · exact x.elim
theorem pn_ne {k : Nat} (h : g.pn.map Prod.fst = io) (hk : k ∉ io) : ∀ q ∈ g.pn, q.1 ≠ k := fun q hq e => hk (by rw [← h, ← e]; exact List.mem_map_of_mem hq)
theorem set_go {k : Nat} {f : EM} (hk : k ∉ io) (h : OkS P W io (sSet k f) D σ H) : OkE P W f σ H fun v H1 => D.nx (σ.set k (some v)) H1 := by
  obtain ⟨g, st, F, rs, hio, q⟩ := h
  refine ⟨g, st, F, rs, q.bnd.imp (fun s o k1 g1 H1 F1 v Fv p r => ?_) fun _ _ _ z => z⟩
  obtain ⟨hl, k1⟩ := k1.bnd.put
  exact k1.ret g1 H1 _ _ (p.put r (fun _ x => x) hl (pn_ne (p.pio hio) hk))
theorem sv_set {k : Nat} {x : Str} {f : EM} {pos' : Pos} (hk : k ∉ io) (hN : X.N.Nodup) (hi : X.N[k]? = some x) (hx : Loc X.env.scope x) (he : PE X e (OkE P W f)) (hs : swapsWith e (some (.Name x pos')) pos.line X.env = pure false := by rfl)
    (hf : X.fn x = true ∨ X.env.scope.names.lookup x = some .local := by first | exact .inl rfl | exact .inr rfl | assumption) : PS X (.Assign [.Name x pos'] e pos) (OkS P W io (sSet k f)) := PS.imp (ps_set hN hi hx he hs hf) fun _ _ _ h => set_go hk h
/-! a tuple's parts into names -/
def gNames : List Nat → TGs
  | [] => gNil
  | k :: ks => gCons (gName k) (gNames ks)
theorem putL_go {g0 H0 F0} : ∀ {ks : List Nat} {is : List I} {vs : List V} {st : St} {σ : L2.St} {F : Lo → Fp} (_ : PostS P g0 H0 F0 g H F st σ emp) (_ : RepIL P g H is vs) (_ : ∀ k ∈ ks, ∀ q ∈ g.pn, q.1 ≠ k) {ok : St → Unit → Prop} {ex Q},
    RunAt (putL ks is) st ok ex → (∀ st' σ' F', PostS P g0 H0 F0 g H F' st' σ' emp → ok st' () → Q σ' H) → gNames ks vs σ H Q
  | [], is, vs, st, σ, F, p, r, _, ok, ex, Q, h, k => by
    cases r with
    | nil => exact ⟨rfl, k st σ F p h⟩
    | cons _ _ => exact h.elim
  | k :: ks, [], vs, st, σ, F, p, r, _, ok, ex, Q, h, _ => h.elim
  | k :: ks, i :: is, _, st, σ, F, p, r, hn, ok, ex, Q, h, kk => by
    cases r with
    | cons ri rl =>
      obtain ⟨hl, h⟩ := RunAt.put (RunAt.bnd h)
      exact ⟨_, _, rfl, putL_go (p.put (.im ri) (fun _ x => x) hl (hn k List.mem_cons_self)) rl (fun k' hk' => hn k' (List.mem_cons_of_mem _ hk')) h kk⟩
theorem tupOf_rep {o l v} (h : tupOf o = some l) (r : RepO P g H o v Fv) : ∃ p vs, v = .ref p ∧ SqT P.K H p vs ∧ RepIL P g H l vs := by
  cases o with
  | im i =>
    cases i with
    | tup l' =>
      cases h
      cases r.im_inv with
      | tup a b => exact ⟨_, _, rfl, a, b⟩
    | _ => cases h
  | tup l' =>
    cases r with
    | tup a b => exact ⟨_, _, rfl, a, (RepIL.allIm h b).1⟩
  | _ => cases h
theorem RepIL.len {is : List I} {vs} (r : RepIL P g H is vs) : is.length = vs.length := by
  induction is generalizing vs with
  | nil => cases r; rfl
  | cons o os ih => cases r with | cons a b => simp [ih b]
theorem putL_len : ∀ {ks : List Nat} {is : List I} {st ok ex}, RunAt (putL ks is) st ok ex → is.length = ks.length
  | [], [], _, _, _, _ => rfl
  | [], _ :: _, _, _, _, h => h.elim
  | _ :: _, [], _, _, _, h => h.elim
  | k :: ks, i :: is, _, _, _, h => by
    have q := putL_len (RunAt.put (RunAt.bnd h)).2
    simp [q]
theorem unp_go {ks : List Nat} {f : EM} (hk : ∀ k ∈ ks, k ∉ io) (h : OkS P W io (sUnp ks f) D σ H) : OkE P W f σ H fun v H1 => gTup P.K ks.length (gNames ks) v σ H1 D.nx := by
  obtain ⟨g, st, F, rs, hio, q⟩ := h
  refine ⟨g, st, F, rs, q.bnd.imp (fun s o k1 g1 H1 F1 v Fv p r => ?_) fun _ _ _ z => z⟩
  have k1 := k1.bnd
  unfold unp RunAt at k1
  cases ht : tupOf o with
  | none => simp [ht] at k1
  | some l =>
    simp only [ht] at k1
    obtain ⟨t, vs, rfl, ht2, rl⟩ := tupOf_rep ht r
    have hl := putL_len (ok := fun _ _ => True) (ex := fun _ _ _ => True) (st := s) (ks := ks) (is := l) (RunAt.imp k1 (fun _ _ _ => trivial) fun _ _ _ _ => trivial)
    exact ⟨t, vs, rfl, ht2, by rw [← rl.len, hl], putL_go p.drop rl (fun k hk' => pn_ne (p.pio hio) (hk k hk')) k1 fun st' σ' F' p' ok => (show okS P D g H F st' .nx from ok) g1 H1 F' σ' p'⟩
theorem sv_unp {ks : List Nat} {tg : Expr} {f : EM} (hk : ∀ k ∈ ks, k ∉ io) (he : PE X e (OkE ⟨X.K, n⟩ W f)) (hg : PG X tg (gTup X.K ks.length (gNames ks))) (hs : swapsWithSole [tg] e pos.line X.env = pure false := by rfl) (hw : swappedStores [tg] e X.env = pure none := by rfl)
    (h1 : (assignEach [tg] X.env).map (·.2) = [assign tg X.env] := by rfl) : PS X (.Assign [tg] e pos) (OkS ⟨X.K, n⟩ W io (sUnp ks f)) := PS.imp (ps_asg he hg hs hw h1) fun _ _ _ h => unp_go hk h
end
end VS

namespace VS
open PySem PySem.Spec PyProof.Rows L2
/-! ### defs -/
/-- what a def does: arguments, shared objects; what is told, what its parameters hold behind it, the shared objects -/
abbrev Fn := List O → List O → Option (Rs O × List O × List O)
def fin (io : List Nat) (np : Nat) (st : St) : List O := (List.range np).map fun i => if i ∈ io then st.sl.getD i .hole else .hole
/-- a def by its body: N slots, np parameters, io: parameters that stay what they are -/
def mkFn (N np : Nat) (io : List Nat) (b : SM) : Fn := fun os sto => match b ⟨os ++ List.replicate (N - os.length) .hole, sto⟩ with
  | none => none
  | some (.ok (.rt o), st) => some (.ok o, fin io np st, st.sto)
  | some (.ok .nx, st) => some (.ok (.im .non), fin io np st, st.sto)
  | some (.ok _, _) => none
  | some (.ex c i, st) => some (.ex c i, fin io np st, st.sto)
/-- the slots' ends are the told ones -/
def Ends' (io : List Nat) (f : List O) (sto : List O) (st : St) : Prop := st.sto = sto ∧ ∀ i ∈ io, ∀ o, f[i]? = some o → st.sl[i]? = some o ∨ (o = .hole)
/-- a def's promise -/
def spOf (P : Pg) (N np : Nat) (io : List Nat) (f : Fn) : Sp := fun vs H Q E => ∃ g os sto F, vs.length = np ∧ os.length = np ∧ g.pn = io.map (fun i => (i, vs.getD i .non)) ∧
  RepS P g H ⟨os ++ List.replicate (N - np) .hole, sto⟩ (vs.map some ++ List.replicate (N - np) none) F ∧ match f os sto with
    | none => False
    | some (.ok o, fi, sto') => ∀ g' H' F' σ' st' v Fv, Ends' io fi sto' st' → PostS P g H F g' H' F' st' σ' Fv → RepO P g' H' o v Fv → Q v H'
    | some (.ex c i, fi, sto') => ∀ g' H' F' σ' st' cls d, Ends' io fi sto' st' → PostS P g H F g' H' F' st' σ' emp → ExAt P g' H' c i cls d → E cls d H'
structure FnG (Pr : Program) (w : World) (K : PySem.W.Frag) (mg : Str → Option Value) (base : Heap) (k : Nat) (f : Addr) (fd : FuncData) (ps : List Str) (sp : Sp) : Prop where
  ln : ∀ vs H Q E, sp vs H Q E → vs.length = ps.length
  go : ∀ (A : Around) (outer : List Env) (s : Shared) (H : Hp) (args : Args) (us : List Value) (vs : List V) (Q : VK) (E : XK), Room k A → A.guards = some [] →
    Env0 Pr w K mg base A outer s H → BindsTo s fd args (ps.zip us) → Vals vs us → sp vs H Q E → codeAny (model Pr w) A (.call (.ref f) args) (CR (L2.CX Pr w) outer Pr w H s Q E) s
theorem FnG.up {Pr w K mg base f fd ps sp} {j k : Nat} (F : FnG Pr w K mg base j f fd ps sp) (h : j ≤ k) : FnG Pr w K mg base k f fd ps sp :=
  ⟨F.ln, fun A outer s H args us vs Q E hr => F.go A outer s H args us vs Q E (hr.mono h)⟩
/-- what is known where a body runs -/
structure At (X : Cx) (k : Nat) : Prop where
  room : Room k X.A
  grd : X.A.guards = some []
section
variable {Pr : Program} {w : World} {K : PySem.W.Frag} {mg : Str → Option Value} {base : Heap}
theorem deeper_grd (A : Around) (env : Env) : (A.deeper env).guards = A.guards := by
  first | rfl | simp [Around.deeper]
theorem fin_ends (io : List Nat) (np : Nat) (st : St) (h : ∀ i ∈ io, i < np) (hl : ∀ i ∈ io, i < st.sl.length) : Ends' io (fin io np st) st.sto st := by
  refine ⟨rfl, fun i hi o e => .inl ?_⟩
  unfold fin at e
  rw [List.getElem?_map, List.getElem?_range (h i hi)] at e
  simp only [Option.map_some, if_pos hi, Option.some.injEq] at e
  rw [← e]
  have := hl i hi
  simp [List.getD, this]
/-- THE RULE for a def: its body as a state function -/
theorem fnG {x qual : Str} {params : Arguments} {body : List Stmt} {scope : Scope} {dvs : List V} {kws : List (Str × V)} {f : Addr} {fd : FuncData} {N ps : List Str} {k : Nat} {n : Pn} {io : List Nat} {b : SM}
    (F : FunD K x qual params body scope dvs kws f fd) (S : FnScope N ps scope) (hio : ∀ i ∈ io, i < ps.length)
    (hb : ∀ (cdv : Value) (A : Around) (outer : List Env) (s : Shared) (H : Hp) (E : XK), At (cxOf (L2.CX Pr w) Pr w K mg base N qual scope f cdv A outer s H E) k →
      PSs (cxOf (L2.CX Pr w) Pr w K mg base N qual scope f cdv A outer s H E) body (OkS ⟨K, n⟩ (fun cls d _ H => E cls d H) io b)) :
    FnG Pr w K mg base (k + 1) f fd ps (spOf ⟨K, n⟩ N.length ps.length io (mkFn N.length ps.length io b)) := by
  obtain ⟨oc, od, dV, kV, doc, pm, an, cdv, ct, osl, rfl, lk, hcd, _, _⟩ := F.ex
  have hpl : ps.length ≤ N.length := by
    have := congrArg List.length S.pre
    rw [List.length_take] at this
    omega
  refine ⟨fun vs H Q E ⟨_, _, _, _, h, _⟩ => h, fun A outer s H args us vs Q E hr hg e0 hbd rv hsp => ?_⟩
  have hl : vs.length = ps.length := by
    obtain ⟨_, _, _, _, h, _⟩ := hsp
    exact h
  have KX : K.In s.heap := e0.mod.kin.keeps fun c o e => (e0.bs c o e).1
  have nlim : s.heap.NoLimit := e0.mod.nolimit.keeps fun c o e => (e0.bs c o e).1
  have hkind : ∀ y ∈ ps.zip us, scope.names.lookup y.1 = some .local ∨ (scope.names.lookup y.1 = some .cell ∧ ((cellsFrom (s.heap.objs.size + 1) scope.names []).lookup y.1).isSome = true) := fun ⟨m, u⟩ hy =>
    (S.par m (List.of_mem_zip hy).1).elim .inl fun q => .inr ⟨q, PySem.W.cellsFrom_some _ _ _ (.inl q)⟩
  refine codeAny_call_function hr.depth (KX _ _ lk) rfl S.co S.gen rfl (PySem.W.codeRec_of KX hcd) (hbd _ _ _ _ ?_)
  refine wpAny_newFunctionEnv_cells S.kind hkind fun env he s1 x => ?_
  subst he
  refine ⟨nlim.keeps x.toInCall.keep, codeAny_func ?_⟩
  obtain ⟨g, os, sto, F0, _, hos, hpn, rs, hres⟩ := hsp
  have Iv : Inv (cxOf (L2.CX Pr w) Pr w K mg base N qual scope f cdv A outer s H E) [] (L2.start N vs) H s1 := inv_start S hr.hd e0 hl rv x
  have body := hb cdv A outer s H E ⟨hr.deeper _, (deeper_grd _ _).trans hg⟩
  have hst : L2.start N vs = vs.map some ++ List.replicate (N.length - ps.length) none := by
    unfold L2.start
    rw [hl]
  have hpn1 : g.pn.map Prod.fst = io := by rw [hpn, List.map_map]; simp [Function.comp_def]
  have run : OkS ⟨K, n⟩ (fun cls d _ H => E cls d H) io b { nx := fun _ H' => Q .non H', rt := Q } (L2.start N vs) H := by
    refine ⟨g, _, F0, by rw [hst]; exact rs, hpn1, ?_⟩
    have e1 : N.length - os.length = N.length - ps.length := by rw [hos]
    unfold mkFn at hres
    rw [e1] at hres
    have lens : ∀ {g' H' F' st' σ' Fv}, PostS ⟨K, n⟩ g H F0 g' H' F' st' σ' Fv → ∀ i ∈ io, i < st'.sl.length := fun {g' H' F' st' σ' Fv} p i hi => by
      have q : (i, vs.getD i .non) ∈ g'.pn := by
        rw [p.pn, hpn]
        exact List.mem_map_of_mem hi
      have := p.rs.pin _ q
      rw [p.rs.len]
      exact (List.getElem?_eq_some_iff.mp this).1
    unfold RunAt
    cases hb2 : b ⟨os ++ List.replicate (N.length - ps.length) .hole, sto⟩ with
    | none => rw [hb2] at hres; exact hres.elim
    | some z =>
      obtain ⟨r, st'⟩ := z
      rw [hb2] at hres
      cases r with
      | ex c i => exact fun g' H' F' σ' cls d p ea => hres g' H' F' σ' st' cls d (fin_ends io ps.length st' hio (lens p)) p ea
      | ok fl =>
        cases fl with
        | rt o => exact fun g' H' F' σ' v Fv p ro => hres g' H' F' σ' st' v Fv (fin_ends io ps.length st' hio (lens p)) p ro
        | nx => exact fun g' H' F' σ' p => hres g' H' F' σ' st' .non emp (fin_ends io ps.length st' hio (lens p)) p (.im .non)
        | bk => exact hres.elim
        | ct => exact hres.elim
  have done : ∀ {σ' : L2.St} {H' : Hp} {v : V} {u : Value} {s' : Shared}, Inv (cxOf (L2.CX Pr w) Pr w K mg base N qual scope f cdv A outer s H E) [] σ' H' s' → RelV v u → Q v H' → CE outer Pr w H s Q u s' :=
    fun {σ' H' v u s'} J r q => ⟨v, H', J.os, J.bare, J.base, J.hok, r, q⟩
  refine wpAny_mono (body.run [] s1 (L2.start N vs) H _ Iv run) (fun fl s' hs => ?_) fun e s' hs => hs
  cases fl with
  | next =>
    obtain ⟨τ, H', J, q⟩ := hs
    exact done (v := V.non) (u := Value.none) J rfl q
  | ret u =>
    obtain ⟨v, τ, H', J, r, q⟩ := hs
    exact done J r q
  | brk =>
    obtain ⟨_, _, _, q⟩ := hs
    exact q.elim
  | cont =>
    obtain ⟨_, _, _, q⟩ := hs
    exact q.elim
end
end VS

namespace VS
open PySem PySem.Spec PyProof.Rows L2
/-! ### calls of defs -/
def isH : O → Bool
  | .hole => true
  | _ => false
/-- what an operand hands over -/
def res1 (st : St) : Op → Option O
  | .o x => some x
  | .b k => match st.sl[k]? with
    | some o => if isH o then none else some o
    | none => none
def resL (st : St) : List Op → Option (List O)
  | [] => some []
  | x :: r => match res1 st x, resL st r with
    | some o, some os => some (o :: os)
    | _, _ => none
def bks : List Op → List Nat
  | [] => []
  | .o _ :: r => bks r
  | .b k :: r => k :: bks r
/-- what was lent comes back -/
def back (io : List Nat) : Nat → List O → List Op → List O → Option (List O)
  | _, sl, [], _ => some sl
  | i, sl, .o _ :: r, _ :: fi => back io (i + 1) sl r fi
  | i, sl, .b k :: r, f :: fi => if i ∈ io ∧ isH f = false then back io (i + 1) (sl.set k f) r fi else none
  | _, _, _ :: _, [] => none
def callK (io : List Nat) (F : Fn) (ops : List Op) : EM := fun st => match resL st ops with
  | none => none
  | some os => if (bks ops).Nodup then match F os st.sto with
    | none => none
    | some (r, fi, sto') => match back io 0 st.sl ops fi with
      | none => none
      | some sl' => some (r, ⟨sl', sto'⟩)
    else none
def eCall (np : Nat) (io : List Nat) (F : Fn) (ds : List I) (a : OL) : EM := bnd a fun ops => if ops.length + ds.length = np then callK io F (ops ++ ds.map fun i => .o (.im i)) else lift none
section
variable {n : Pn} {W : WX} {X : Cx} {P : Pg} {e : Expr} {es : List Expr} {g g' g0 : Gh} {H H' H0 : Hp} {st st' : St} {σ : L2.St} {F F' F0 : Lo → Fp} {FX Fv : Fp} {pos : Pos} {io : List Nat}
theorem Ch.repn {q} : Ch emp g H { g with pn := q } H := ⟨fun _ _ e _ => e, fun _ o e => ⟨o, e⟩, fun _ h => h.elim, fun _ z => z, fun _ z => .inl z, [], by simp⟩
theorem isH_no {o : O} (h : isH o = false) : o ≠ .hole := by intro q; subst q; cases h
theorem RepOpL.ix : ∀ {ops : List Op} {vs Fv}, RepOpL P g H σ ops vs Fv → ∃ G : Nat → Fp, (∀ (i : Nat) (o : Op) (v : V), ops[i]? = some o → vs[i]? = some v → RepOp P g H σ o v (G i)) ∧ (∀ i j, i ≠ j → Fp.dj (G i) (G j)) ∧ (∀ i b, G i b → Fv b) ∧ ∀ i, ops.length ≤ i → ∀ b, ¬ G i b
  | [], _, _, r => by
    cases r
    exact ⟨fun _ => emp, fun i o v h => by simp at h, fun _ _ _ _ h => h.elim, fun _ _ h => h, fun _ _ _ h => h⟩
  | o :: ops, _, _, r => by
    cases r with
    | @cons _ v _ vs F1 F2 a b d =>
      obtain ⟨G, h1, h2, h3, h4⟩ := RepOpL.ix b
      refine ⟨fun i => match i with | 0 => F1 | i + 1 => G i, fun i o' v' e1 e2 => ?_, fun i j h => ?_, fun i c h => ?_, fun i h c => ?_⟩
      · cases i with
        | zero => simp at e1 e2; subst e1; subst e2; exact a
        | succ i => exact h1 i o' v' (by simpa using e1) (by simpa using e2)
      · cases i with
        | zero =>
          cases j with
          | zero => exact absurd rfl h
          | succ j => exact fun c x y => d c x (h3 j c y)
        | succ i =>
          cases j with
          | zero => exact fun c x y => d c y (h3 i c x)
          | succ j => exact h2 i j fun q => h (by rw [q])
      · cases i with
        | zero => exact .inl h
        | succ i => exact .inr (h3 i c h)
      · cases i with
        | zero => simp at h
        | succ i => exact h4 i (by simpa using h) c
theorem RepOpL.len : ∀ {ops : List Op} {vs Fv}, RepOpL P g H σ ops vs Fv → ops.length = vs.length
  | [], _, _, r => by cases r; rfl
  | _ :: _, _, _, r => by cases r with | cons a b d => simp [RepOpL.len b]
theorem resL_ix : ∀ {ops : List Op} {os}, resL st ops = some os → os.length = ops.length ∧ ∀ (i : Nat) (o : Op), ops[i]? = some o → ∃ x, os[i]? = some x ∧ res1 st o = some x
  | [], os, h => by cases h; exact ⟨rfl, fun i o e => by simp at e⟩
  | op :: ops, os, h => by
    unfold resL at h
    split at h
    · rename_i x xs h1 h2
      cases h
      obtain ⟨l, q⟩ := resL_ix h2
      refine ⟨by simp [l], fun i o e => ?_⟩
      cases i with
      | zero => simp at e; subst e; exact ⟨x, by simp, h1⟩
      | succ i =>
        obtain ⟨y, e1, e2⟩ := q i o (by simpa using e)
        exact ⟨y, by simpa using e1, e2⟩
    · cases h
theorem mem_bks : ∀ {ops : List Op} {k : Nat}, k ∈ bks ops ↔ ∃ i : Nat, ops[i]? = some (Op.b k)
  | [], k => by simp [bks]
  | .o x :: r, k => by
    rw [bks, mem_bks]
    constructor
    · rintro ⟨i, h⟩; exact ⟨i + 1, by simpa using h⟩
    · rintro ⟨i, h⟩
      cases i with
      | zero => simp at h
      | succ i => exact ⟨i, by simpa using h⟩
  | .b j :: r, k => by
    rw [bks, List.mem_cons, mem_bks]
    constructor
    · rintro (h | ⟨i, h⟩)
      · subst h; exact ⟨0, by simp⟩
      · exact ⟨i + 1, by simpa using h⟩
    · rintro ⟨i, h⟩
      cases i with
      | zero => simp at h; exact .inl h.symm
      | succ i => exact .inr ⟨i, by simpa using h⟩
theorem bks_inj : ∀ {ops : List Op}, (bks ops).Nodup → ∀ {i j k : Nat}, ops[i]? = some (Op.b k) → ops[j]? = some (Op.b k) → i = j
  | [], _, i, j, k, h, _ => by simp at h
  | .o x :: r, nd, i, j, k, h1, h2 => by
    cases i with
    | zero => simp at h1
    | succ i =>
      cases j with
      | zero => simp at h2
      | succ j => exact congrArg (· + 1) (bks_inj (ops := r) nd (by simpa using h1) (by simpa using h2))
  | .b m :: r, nd, i, j, k, h1, h2 => by
    have nd' := List.nodup_cons.mp nd
    cases i with
    | zero =>
      cases j with
      | zero => rfl
      | succ j =>
        simp at h1; subst h1
        exact absurd (mem_bks.mpr ⟨j, by simpa using h2⟩) nd'.1
    | succ i =>
      cases j with
      | zero =>
        simp at h2; subst h2
        exact absurd (mem_bks.mpr ⟨i, by simpa using h1⟩) nd'.1
      | succ j => exact congrArg (· + 1) (bks_inj (ops := r) nd'.2 (by simpa using h1) (by simpa using h2))
theorem back_ix : ∀ {ops : List Op} {fi : List O} {i sl sl'}, back io i sl ops fi = some sl' → (bks ops).Nodup → (∀ k ∈ bks ops, k < sl.length) → sl'.length = sl.length ∧ (∀ k, k ∉ bks ops → sl'[k]? = sl[k]?) ∧
    ∀ (j k : Nat), ops[j]? = some (Op.b k) → i + j ∈ io ∧ ∃ f, fi[j]? = some f ∧ isH f = false ∧ sl'[k]? = some f
  | [], _, i, sl, sl', h, _, _ => by
    simp only [back, Option.some.injEq] at h
    subst h
    exact ⟨rfl, fun _ _ => rfl, fun j k h => by simp at h⟩
  | .o x :: r, f :: fi, i, sl, sl', h, nd, lt => by
    obtain ⟨l, a, b⟩ := back_ix (ops := r) (by simpa [back] using h) nd lt
    refine ⟨l, a, fun j k e => ?_⟩
    cases j with
    | zero => simp at e
    | succ j =>
      obtain ⟨q1, f', q2, q3⟩ := b j k (by simpa using e)
      exact ⟨by have : i + (j + 1) = i + 1 + j := by omega
                rw [this]; exact q1, f', by simpa using q2, q3⟩
  | .b m :: r, f :: fi, i, sl, sl', h, nd, lt => by
    unfold back at h
    split at h
    · rename_i hc
      have nd' := List.nodup_cons.mp nd
      have hm : m < sl.length := lt m (by simp [bks])
      obtain ⟨l, a, b⟩ := back_ix (ops := r) h nd'.2 fun k hk => by rw [List.length_set]; exact lt k (by simp [bks, hk])
      refine ⟨by rw [l, List.length_set], fun k hk => ?_, fun j k e => ?_⟩
      · have hk' : k ≠ m ∧ k ∉ bks r := by simpa [bks] using hk
        rw [a k hk'.2, List.getElem?_set_ne (Ne.symm hk'.1)]
      · cases j with
        | zero =>
          simp at e; subst e
          exact ⟨by simpa using hc.1, f, by simp, hc.2, by rw [a m nd'.1, List.getElem?_set_self hm]⟩
        | succ j =>
          obtain ⟨q1, f', q2, q3⟩ := b j k (by simpa using e)
          exact ⟨by have : i + (j + 1) = i + 1 + j := by omega
                    rw [this]; exact q1, f', by simpa using q2, q3⟩
    · cases h
  | .o _ :: _, [], _, _, _, h, _, _ => by cases h
  | .b _ :: _, [], _, _, _, h, _, _ => by cases h
/-- the callee's footprints -/
def cFo (G : Nat → Fp) (F : Lo → Fp) (i : Nat) : Option Op → Fp
  | some (.o _) => G i
  | some (.b k) => F (.inl k)
  | none => emp
def cF (ops : List Op) (G : Nat → Fp) (F : Lo → Fp) : Lo → Fp
  | .inl i => cFo G F i ops[i]?
  | .inr r => F (.inr r)
theorem cF_l {ops : List Op} {G : Nat → Fp} {F : Lo → Fp} {i : Nat} {o : Option Op} (e : ops[i]? = o) : cF ops G F (.inl i) = cFo G F i o := by
  rw [← e]; rfl
/-- THE CALL: a promise from a state -/
theorem call_sp {N np : Nat} {f : Fn} {ops : List Op} {vs : List V} {Q : VK} {E : XK} {ok : St → O → Prop} {ex : St → Nat → List I → Prop} (p : PostS P g0 H0 F0 g H F st σ Fv) (r : RepOpL P g H σ ops vs Fv) (hl : vs.length = np) (hio : ∀ i ∈ io, i < np)
    (h : RunAt (callK io f ops) st ok ex)
    (h1 : ∀ st' o g' H' F' v Fw, ok st' o → PostS P g0 H0 F0 g' H' F' st' σ Fw → RepO P g' H' o v Fw → Q v H')
    (h2 : ∀ st' c i g' H' F' cls d, ex st' c i → PostS P g0 H0 F0 g' H' F' st' σ emp → ExAt P g' H' c i cls d → E cls d H') : spOf P N np io f vs H Q E := by
  unfold RunAt callK at h
  cases hr : resL st ops with
  | none => simp [hr] at h
  | some os =>
    simp only [hr] at h
    by_cases nd : (bks ops).Nodup
    · rw [if_pos nd] at h
      obtain ⟨G, a1, a2, a3, a4⟩ := r.ix
      obtain ⟨lo, q⟩ := resL_ix hr
      have lv : ops.length = vs.length := r.len
      have lent : ∀ {i k}, ops[i]? = some (Op.b k) → ∃ x v, st.sl[k]? = some x ∧ isH x = false ∧ os[i]? = some x ∧ vs[i]? = some v ∧ σ[k]? = some (some v) ∧ RepO P g H x v (F (.inl k)) := fun {i k} e => by
        obtain ⟨x, e1, e2⟩ := q i _ e
        unfold res1 at e2
        cases hk : st.sl[k]? with
        | none => simp [hk] at e2
        | some y =>
          simp only [hk] at e2
          split at e2
          · cases e2
          · rename_i hy
            cases e2
            have hy : isH x = false := by simpa using hy
            have hi : i < vs.length := by rw [← lv]; exact (List.getElem?_eq_some_iff.mp e).1
            have ro := a1 i _ vs[i] e (by simp [hi])
            rcases p.rs.slot k x hk with ⟨z, _⟩ | ⟨v, hv, rr⟩
            · subst z; cases hy
            · have := ro.1
              rw [hv] at this; cases this
              exact ⟨x, vs[i], rfl, hy, e1, List.getElem?_eq_getElem hi, hv, rr⟩
      have part : ∀ {l b}, cF ops G F l b → Fv b ∨ tot F b := fun {l b} hb => by
        cases l with
        | inl i =>
          cases e : ops[i]? with
          | none => rw [cF_l e] at hb; exact hb.elim
          | some o =>
            rw [cF_l e] at hb
            cases o with
            | o x => exact .inl (a3 i b hb)
            | b k => exact .inr ⟨_, hb⟩
        | inr r => exact .inr ⟨_, hb⟩
      have alone : ∀ {l l' b}, l ≠ l' → cF ops G F l b → cF ops G F l' b → False := fun {l l' b} hne x y => by
        cases l with
        | inl i =>
          cases e : ops[i]? with
          | none => rw [cF_l e] at x; exact x
          | some o =>
            rw [cF_l e] at x
            cases l' with
            | inl j =>
              have hij : i ≠ j := fun z => hne (by rw [z])
              cases e' : ops[j]? with
              | none => rw [cF_l e'] at y; exact y
              | some o' =>
                rw [cF_l e'] at y
                cases o with
                | o _ =>
                  cases o' with
                  | o _ => exact a2 i j hij b x y
                  | b k => exact p.dj b (a3 i b x) ⟨_, y⟩
                | b k =>
                  cases o' with
                  | o _ => exact p.dj b (a3 j b y) ⟨_, x⟩
                  | b k' => exact p.rs.dj (.inl k) (.inl k') (fun z => hij (bks_inj nd e (by rw [e']; cases z; rfl))) b x y
            | inr r' =>
              cases o with
              | o _ => exact p.dj b (a3 i b x) ⟨_, y⟩
              | b k => exact p.rs.dj (.inl k) (.inr r') (fun z => by cases z) b x y
        | inr r =>
          cases l' with
          | inl j =>
            cases e' : ops[j]? with
            | none => rw [cF_l e'] at y; exact y
            | some o' =>
              rw [cF_l e'] at y
              cases o' with
              | o _ => exact p.dj b (a3 j b y) ⟨_, x⟩
              | b k => exact p.rs.dj (.inl k) (.inr r) (fun z => by cases z) b y x
          | inr r' => exact p.rs.dj (.inr r) (.inr r') hne b x y
      have cp : Ch emp g H { g with pn := io.map fun i => (i, vs.getD i .non) } H := .repn
      have rsC : RepS P { g with pn := io.map fun i => (i, vs.getD i .non) } H ⟨os ++ List.replicate (N - np) .hole, st.sto⟩ (vs.map some ++ List.replicate (N - np) none) (cF ops G F) := by
        refine ⟨by simp [lo, lv], fun i o e => ?_, fun i o e => ?_, p.rs.ln, fun l l' hne b x y => alone hne x y, fun i b hi x => ?_, fun i b hi x => p.rs.out2 i b hi x, fun z hz => ?_, p.rs.zd⟩
        · have e' : (os ++ List.replicate (N - np) O.hole)[i]? = some o := e
          by_cases hi : i < os.length
          · rw [List.getElem?_append_left hi] at e'
            have hi' : i < ops.length := by rw [← lo]; exact hi
            have hiv : i < vs.length := by rw [← lv]; exact hi'
            have eo : ops[i]? = some ops[i] := by simp [hi']
            have hσ : (vs.map some ++ List.replicate (N - np) (none : Option V))[i]? = some (some vs[i]) := by
              rw [List.getElem?_append_left (by simpa using hiv)]; simp [hiv]
            generalize hop : ops[i] = oi at eo
            cases oi with
            | o x =>
              obtain ⟨x', e1, e2⟩ := q i _ eo
              rw [e'] at e1; cases e1; cases e2
              have ro := a1 i _ vs[i] eo (by simp [hiv])
              refine .inr ⟨vs[i], hσ, ?_⟩
              rw [cF_l eo]
              exact RepO.ch cp ro fun _ _ h => h.elim
            | b k =>
              obtain ⟨x, v, _, _, e1, e2, _, rr⟩ := lent eo
              rw [e'] at e1; cases e1
              have ev : vs[i] = v := by simpa [hiv] using e2
              refine .inr ⟨vs[i], hσ, ?_⟩
              rw [cF_l eo, ev]
              exact rr.ch cp fun _ _ h => h.elim
          · rw [List.getElem?_append_right (by omega), List.getElem?_replicate] at e'
            split at e'
            · cases e'
              refine .inl ⟨rfl, fun b x => ?_⟩
              have : ops[i]? = none := by simp; omega
              rw [cF_l this] at x
              exact x
            · cases e'
        · obtain ⟨t, e1, rr⟩ := p.rs.sto i o e
          exact ⟨t, e1, rr.ch cp fun _ _ h => h.elim⟩
        · have hi' : os.length ≤ i := by
            have : (os ++ List.replicate (N - np) O.hole).length ≤ i := hi
            rw [List.length_append] at this; omega
          have : ops[i]? = none := by simp; omega
          rw [cF_l this] at x
          exact x
        · obtain ⟨i, hi, rfl⟩ := List.mem_map.mp hz
          have hiv : i < vs.length := by rw [hl]; exact hio i hi
          show (vs.map some ++ _)[i]? = some (some (vs.getD i .non))
          rw [List.getElem?_append_left (by simpa using hiv)]
          simp [hiv, List.getD]
      refine ⟨_, os, st.sto, cF ops G F, hl, by rw [lo, lv, hl], rfl, rsC, ?_⟩
      have bl : ∀ k ∈ bks ops, k < st.sl.length := fun k hk => by
        obtain ⟨i, e⟩ := mem_bks.mp hk
        obtain ⟨x, _, e1, _⟩ := lent e
        exact (List.getElem?_eq_some_iff.mp e1).1
      -- the caller's state behind the call
      have after : ∀ {g' H' F' σ' st' Fw fi sto' sl'}, Ends' io fi sto' st' → back io 0 st.sl ops fi = some sl' → PostS P { g with pn := io.map fun i => (i, vs.getD i .non) } H (cF ops G F) g' H' F' st' σ' Fw →
          ∃ F'', PostS P g0 H0 F0 { g' with pn := g.pn } H' F'' ⟨sl', sto'⟩ σ Fw := fun {g' H' F' σ' st' Fw fi sto' sl'} en bk p' => by
        obtain ⟨b1, b2, b3⟩ := back_ix bk nd bl
        have cq : Ch emp g' H' { g' with pn := g.pn } H' := .repn
        classical
        have pick : ∀ k, k ∈ bks ops → ∃ i : Nat, ops[i]? = some (Op.b k) := fun k hk => mem_bks.mp hk
        let F'' : Lo → Fp := fun l => match l with
          | .inl k => if h : k ∈ bks ops then F' (.inl (Classical.choose (pick k h))) else F (.inl k)
          | .inr r => F' (.inr r)
        have hF1 : ∀ {k i}, ops[i]? = some (Op.b k) → F'' (.inl k) = F' (.inl i) := fun {k i} e => by
          have hk : k ∈ bks ops := mem_bks.mpr ⟨i, e⟩
          show (if h : k ∈ bks ops then F' (.inl (Classical.choose (pick k h))) else F (.inl k)) = _
          rw [dif_pos hk]
          have := Classical.choose_spec (pick k hk)
          rw [bks_inj nd this e]
        have hF2 : ∀ {k}, k ∉ bks ops → F'' (.inl k) = F (.inl k) := fun {k} hk => dif_neg hk
        have off : ∀ {k b}, k ∉ bks ops → F (.inl k) b → ¬ tot (cF ops G F) b := fun {k b} hk x ⟨l, y⟩ => by
          cases l with
          | inl i =>
            cases e' : ops[i]? with
            | none => rw [cF_l e'] at y; exact y
            | some o' =>
              rw [cF_l e'] at y
              cases o' with
              | o _ => exact p.dj b (a3 i b y) ⟨_, x⟩
              | b k' => exact p.rs.dj (.inl k) (.inl k') (fun z => hk (by cases z; exact mem_bks.mpr ⟨i, e'⟩)) b x y
          | inr r => exact p.rs.dj (.inl k) (.inr r) (fun z => by cases z) b x y
        have old : ∀ {k b}, k ∉ bks ops → F (.inl k) b → tot F' b ∨ Fw b → False := fun {k b} hk x y => by
          rcases p'.sub b y with z | z
          · exact off hk x z
          · obtain ⟨⟨_, e, _⟩, _⟩ := p.rs.mt b ⟨_, x⟩
            rw [e] at z; cases z
        have inF' : ∀ {l b}, F'' l b → (∃ m, F' m b ∧ (∀ k, l = .inl k → ∃ i, ops[i]? = some (Op.b k) ∧ m = .inl i) ∧ (∀ r, l = .inr r → m = .inr r)) ∨ ∃ k, l = .inl k ∧ k ∉ bks ops ∧ F (.inl k) b := fun {l b} x => by
          cases l with
          | inl k =>
            by_cases hk : k ∈ bks ops
            · obtain ⟨i, e⟩ := mem_bks.mp hk
              rw [hF1 e] at x
              exact .inl ⟨_, x, fun k' z => by cases z; exact ⟨i, e, rfl⟩, fun r z => by cases z⟩
            · rw [hF2 hk] at x
              exact .inr ⟨k, rfl, hk, x⟩
          | inr r => exact .inl ⟨_, x, fun k z => (by cases z), fun r' z => by cases z; rfl⟩
        refine ⟨F'', ⟨by simpa [b1] using p.rs.len, fun k o e => ?_, fun i o e => ?_, ?_, fun l l' hne b x y => ?_, fun k b hk x => ?_, fun i b hi x => ?_, fun z hz => p.rs.pin z hz, p'.rs.zd⟩, fun b x ⟨l, y⟩ => ?_, ?_, fun b x => ?_, p.pn⟩
        · have e' : sl'[k]? = some o := e
          by_cases hk : k ∈ bks ops
          · obtain ⟨i, eb⟩ := mem_bks.mp hk
            obtain ⟨i1, f', i2, i3, i4⟩ := b3 i k eb
            rw [e'] at i4; cases i4
            simp only [Nat.zero_add] at i1
            obtain ⟨x, v, _, _, _, e2, e3, _⟩ := lent eb
            rcases en.2 i i1 _ i2 with z | z
            · rcases p'.rs.slot i o z with ⟨zz, _⟩ | ⟨u, hu, ru⟩
              · subst zz; cases i3
              · have hp := p'.rs.pin (i, vs.getD i .non) (by rw [p'.pn]; exact List.mem_map_of_mem i1)
                have hp : σ'[i]? = some (some (vs.getD i .non)) := hp
                rw [hu] at hp; cases hp
                have : vs.getD i .non = v := by simp [List.getD, e2]
                rw [this] at ru
                refine .inr ⟨v, e3, ?_⟩
                rw [hF1 eb]
                exact ru.ch cq fun _ _ h => h.elim
            · subst z; cases i3
          · rw [b2 k hk] at e'
            rcases p.rs.slot k o e' with ⟨z, w'⟩ | ⟨v, e3, rr⟩
            · exact .inl ⟨z, fun b x => w' b (by rw [hF2 hk] at x; exact x)⟩
            · refine .inr ⟨v, e3, ?_⟩
              rw [hF2 hk]
              have r1 := rr.ch cp fun _ _ h => h.elim
              have r2 := r1.ch p'.ch fun b x y => off hk x y
              exact r2.ch cq fun _ _ h => h.elim
        · have e' : sto'[i]? = some o := e
          rw [← en.1] at e'
          obtain ⟨t, e1, rr⟩ := p'.rs.sto i o e'
          exact ⟨t, e1, rr.ch cq fun _ _ h => h.elim⟩
        · show g'.rho.length = sto'.length
          rw [← en.1]; exact p'.rs.ln
        · rcases inF' x with ⟨m, xm, c1, c2⟩ | ⟨k, rfl, hk, xk⟩
          · rcases inF' y with ⟨m', ym, d1, d2⟩ | ⟨k', rfl, hk', yk⟩
            · refine p'.rs.dj m m' (fun z => hne ?_) b xm ym
              subst z
              cases l with
              | inl k =>
                obtain ⟨i, e1, rfl⟩ := c1 k rfl
                cases l' with
                | inl k' =>
                  obtain ⟨i', e2, e3⟩ := d1 k' rfl
                  cases e3
                  rw [e1] at e2; cases e2; rfl
                | inr r => cases d2 r rfl
              | inr r =>
                cases l' with
                | inl k' =>
                  obtain ⟨i', e2, e3⟩ := d1 k' rfl
                  rw [c2 r rfl] at e3; cases e3
                | inr r' =>
                  have := (c2 r rfl).symm.trans (d2 r' rfl)
                  cases this; rfl
            · exact old hk' yk (.inl ⟨_, xm⟩)
          · rcases inF' y with ⟨m', ym, d1, d2⟩ | ⟨k', rfl, hk', yk⟩
            · exact old hk xk (.inl ⟨_, ym⟩)
            · exact p.rs.dj _ _ hne b xk yk
        · have hk' : st.sl.length ≤ k := by rw [← b1]; exact hk
          have hn : k ∉ bks ops := fun z => absurd (bl k z) (by omega)
          rw [hF2 hn] at x
          exact p.rs.out1 k b hk' x
        · exact p'.rs.out2 i b (by rw [en.1]; exact hi) x
        · rcases inF' y with ⟨m', ym, _, _⟩ | ⟨k', rfl, hk', yk⟩
          · exact p'.dj b x ⟨_, ym⟩
          · exact old hk' yk (.inr x)
        · have c1 : Ch (tot F0) g0 H0 { g with pn := io.map fun i => (i, vs.getD i .non) } H := p.ch.trans cp fun _ h => h.elim
          have c2 := c1.trans p'.ch fun b ⟨l, x⟩ => (part x).elim (fun z => p.sub b (.inr z)) fun z => p.sub b (.inl z)
          exact c2.trans cq fun _ h => h.elim
        · have fin : tot F' b ∨ Fw b → tot F0 b ∨ H0 b = none := fun z => by
            rcases p'.sub b z with ⟨l, z⟩ | z
            · exact (part z).elim (fun z => p.sub b (.inr z)) fun z => p.sub b (.inl z)
            · exact .inr (p.ch.back z)
          rcases x with ⟨l, x⟩ | x
          · rcases inF' x with ⟨m, xm, _, _⟩ | ⟨k, rfl, hk, xk⟩
            · exact fin (.inl ⟨_, xm⟩)
            · exact p.sub b (.inl ⟨_, xk⟩)
          · exact fin (.inr x)
      cases hf : f os st.sto with
      | none => simp [hf] at h
      | some z =>
        obtain ⟨rr, fi, sto'⟩ := z
        simp only [hf] at h
        cases hb : back io 0 st.sl ops fi with
        | none => simp [hb] at h
        | some sl' =>
          simp only [hb] at h
          cases rr with
          | ok o =>
            intro g' H' F' σ' st' v Fw en p' ro
            obtain ⟨F'', pp⟩ := after en hb p'
            exact h1 _ o _ H' F'' v Fw h pp (ro.ch .repn fun _ _ h => h.elim)
          | ex c i =>
            intro g' H' F' σ' st' cls d en p' ea
            obtain ⟨F'', pp⟩ := after en hb p'
            refine h2 _ c i _ H' F'' cls d h pp ?_
            obtain ⟨C, e1, e2, e3⟩ := ea
            refine ⟨C, e1, e2, ?_⟩
            split at e3
            · trivial
            · obtain ⟨dd, v, e4, e5, e6⟩ := e3
              exact ⟨dd, v, e4, e5, e6.ch .repn⟩
            · exact e3
    · rw [if_neg nd] at h
      exact h.elim
end
end VS

namespace VS
open PySem PySem.Spec PyProof.Rows L2
section
variable {n : Pn} {W : WX} {X : Cx} {P : Pg} {e : Expr} {es : List Expr} {g g' g0 : Gh} {H H' H0 : Hp} {st st' : St} {σ : L2.St} {F F' F0 : Lo → Fp} {FX Fv : Fp} {p pos : Pos} {io : List Nat} {x : Str} {k j N np : Nat} {f : Addr} {fd : FuncData} {ps : List Str} {fn : Fn} {sp : Sp}
theorem no_exc (Y : Cx) : Takes Y fun _ _ _ _ => False := fun _ _ ⟨_, _, _, _, _, _, _, _, _, _, _, _, _, _, _, _, w⟩ => w.elim
theorem At.le (a : At X j) (h : k ≤ j) : At X k := ⟨a.room.mono h, a.grd⟩
/-- the callee runs -/
theorem run_g {pins : List (Addr × Obj)} {s : Shared} {Q : VK} {us ds : List Value} {vs dvs : List V} (G : FnG X.prog X.w X.K X.mg X.base k f fd ps sp) (a : At X k) (hb : Binds X.K fd ps ds) (hd : Vals dvs ds) (tk : Takes X W)
    (I : Inv X pins σ H s) (r : Vals vs us) (h : sp (vs ++ dvs) H Q fun cls d H' => W cls d σ H') : wpAny (model X.prog X.w) X.A (call (.ref f) us) (EP X pins σ Q) X.xe s := by
  have r2 : Vals (vs ++ dvs) (us ++ ds) := r.append hd
  have hl : (us ++ ds).length = ps.length := by
    rw [← r2.length]
    exact G.ln _ _ _ _ h
  refine wpAny_call (codeAny_mono (G.go X.A X.stack s H ⟨us, []⟩ _ _ Q _ a.room a.grd I.env0 (hb s us I.kIn hl) r2 h) fun r s' hq => ?_)
  cases r with
  | error z => exact tk z s' (XE.of_call I (fun _ _ _ h => h) hq)
  | ok fl =>
    cases fl with
    | ret u => exact I.after hq
    | next => exact hq.elim
    | brk => exact hq.elim
    | cont => exact hq.elim
def tCG (W : WX) (sp : Sp) (dvs : List V) (t : TA) : TE := fun σ H Q => t σ H fun vs H1 => sp (vs ++ dvs) H1 Q fun cls d H' => W cls d σ H'
theorem RepOpL.app : ∀ {ops : List Op} {vs Fv}, RepOpL P g H σ ops vs Fv → ∀ {is : List I} {ws}, RepIL P g H is ws → RepOpL P g H σ (ops ++ is.map fun i => .o (.im i)) (vs ++ ws) Fv
  | [], _, _, r, is, ws, q => by
    cases r
    induction is generalizing ws with
    | nil => cases q; exact .nil
    | cons i is ih =>
      cases q with
      | cons a b =>
        have ih := @ih _ b
        have z : RepOpL P g H σ (.o (.im i) :: is.map fun i => .o (.im i)) (_ :: _) (un emp emp) := .cons (show RepOp P g H σ (.o (.im i)) _ emp from RepO.im a) ih fun _ h => h.elim
        have e : un emp emp = emp := by funext b; simp [un, emp]
        rw [e] at z
        exact z
  | o :: ops, _, _, r, is, ws, q => by
    cases r with
    | cons a b d => exact .cons a (RepOpL.app b q) d
theorem call_go {ops : OL} {dI : List I} {dvs : List V} {Q : VK} (hio : ∀ i ∈ io, i < np) (hd : ∀ g H, RepIL P g H dI dvs) (h : OkE P W (eCall np io fn dI ops) σ H Q) : OkOL P W ops σ H fun vs H1 => spOf P N np io fn (vs ++ dvs) H1 Q fun cls d H' => W cls d σ H' := by
  obtain ⟨g, st, F, rs, q⟩ := h
  refine ⟨g, st, F, rs, q.bnd.imp (fun s x k2 g1 H1 F1 vs Fv p r => ?_) fun _ _ _ z => z⟩
  by_cases hx : x.length + dI.length = np
  · rw [if_pos hx] at k2
    have hv : (vs ++ dvs).length = np := by
      have l1 := r.len
      have l2 := (hd g1 H1).len
      rw [List.length_append, ← l1, ← l2, hx]
    exact call_sp p (r.app (hd g1 H1)) hv hio k2 (fun st' o g' H' F' v Fw ok p' ro => ok g' H' F' v Fw p' ro) fun st' c i g' H' F' cls d ex p' ea => ex g' H' F' σ cls d p' ea
  · rw [if_neg hx] at k2
    exact k2.elim
theorem pe_g {ds : List Value} {dvs : List V} {t : TA} (G : FnG X.prog X.w X.K X.mg X.base k f fd ps sp) (a : At X k) (hm : X.mg x = some (.ref f)) (hk : PySem.W.keepIn X.K (.ref f) = true) (hb : Binds X.K fd ps ds) (hd : Vals dvs ds) (tk : Takes X W) (ha : PA X (e :: es) t)
    (hg : Gl X x := by rfl) (hdb : (x == ("__debug__" : Str)) = false := by decide) (he : starEach (e :: es) X.env = (false, eval e X.env) :: starEach es X.env := by rfl) (hpl : (backTo pos (starEach es X.env)).any (·.1) = false := by rfl) : PE X (.Call (.Name x p) (e :: es) [] pos) (tCG W sp dvs t) :=
  ⟨fun pins s σ H Q I h => wpAny_Call_Name_kw (ld_glob I hg hm (PySem.W.callWith_K (h₀ := X.base) I.ok.mod.kin hk (thn (ha.run pos pins s σ H _ I h) fun us s1 ⟨vs, H1, I1, r, q⟩ => ⟨I1.kIn, run_g G a hb hd tk I1 r q⟩) he hpl) hdb)⟩
/-- f(e, ..) -/
theorem ev_call {fa : OL} {dI : List I} {ds : List Value} {dvs : List V} (G : FnG X.prog X.w X.K X.mg X.base k f fd ps (spOf ⟨X.K, n⟩ N np io fn)) (a : At X k) (hm : X.mg x = some (.ref f)) (hk : PySem.W.keepIn X.K (.ref f) = true) (hb : Binds X.K fd ps ds) (hd : Vals dvs ds) (hdi : ∀ g H, RepIL ⟨X.K, n⟩ g H dI dvs) (tk : Takes X W)
    (ha : PA X (e :: es) (OkOL ⟨X.K, n⟩ W fa)) (hio : ∀ i ∈ io, i < np := by decide)
    (hg : Gl X x := by rfl) (hdb : (x == ("__debug__" : Str)) = false := by decide) (he : starEach (e :: es) X.env = (false, eval e X.env) :: starEach es X.env := by rfl) (hpl : (backTo pos (starEach es X.env)).any (·.1) = false := by rfl) : PE X (.Call (.Name x p) (e :: es) [] pos) (OkE ⟨X.K, n⟩ W (eCall np io fn dI fa)) :=
  PE.imp (pe_g G a hm hk hb hd tk ha hg hdb he hpl) fun σ H Q h => call_go hio hdi h
end
end VS

namespace VS
open PySem L2
/-! ### targets -/
inductive Tg where
  | nm (k : Nat) | tp (l : List Tg)
mutual
def gOf (K : PySem.W.Frag) : Tg → TG
  | .nm k => gName k
  | .tp l => gTup K (lenT l) (gOfL K l)
def gOfL (K : PySem.W.Frag) : List Tg → TGs
  | [] => gNil
  | t :: ts => gCons (gOf K t) (gOfL K ts)
def lenT : List Tg → Nat
  | [] => 0
  | _ :: ts => lenT ts + 1
end
mutual
def slT : Tg → List Nat
  | .nm k => [k]
  | .tp l => slTL l
def slTL : List Tg → List Nat
  | [] => []
  | t :: ts => slT t ++ slTL ts
end
mutual
def putT : Tg → I → M Unit
  | .nm k, i => put k (.im i)
  | .tp l, .tup is => putTL l is
  | .tp _, _ => fun _ => none
def putTL : List Tg → List I → M Unit
  | [], [] => ret ()
  | t :: ts, i :: is => bnd (putT t i) fun _ => putTL ts is
  | _, _ => fun _ => none
end
section
variable {n : Pn} {W : WX} {X : Cx} {P : Pg} {e a b c : Expr} {es : List Expr} {g g' : Gh} {H H' : Hp} {st st' : St} {σ : L2.St} {F F' : Lo → Fp} {FX Fv : Fp} {pos : Pos} {io : List Nat} {s : Stmt} {ss : List Stmt} {D : Ends}
theorem pg_nm {i : Nat} {x : Str} (hN : X.N.Nodup) (hi : X.N[i]? = some x) (hx : Loc X.env.scope x) (hf : X.fn x = true ∨ X.env.scope.names.lookup x = some .local := by first | exact .inl rfl | exact .inr rfl | assumption) : PG X (.Name x pos) (gOf X.K (.nm i)) := pg_name hN hi hx hf
theorem pg_tp {es : List Expr} {k : Nat} {l : List Tg} (hc : X.calm = true) (h : PGs X es (gOfL X.K l))
    (hn : (assignEach es X.env).length = lenT l := by rfl) (hst : (assignEach es X.env).findIdx? (·.1) = none := by rfl) : PG X (.Tuple es k pos) (gOf X.K (.tp l)) := pg_tup hc h hn hst
mutual
theorem putT_len : ∀ {T : Tg} {i : I} {st : St} {u st'}, putT T i st = some (.ok u, st') → st'.sl.length = st.sl.length ∧ st'.sto = st.sto
  | .nm k, i, st, u, st', h => by
    unfold putT put at h
    split at h
    · cases h; exact ⟨by simp, rfl⟩
    · cases h
  | .tp l, .tup is, st, u, st', h => by
    unfold putT at h
    exact putTL_len h
  | .tp l, .non, _, _, _, h => by cases h
  | .tp l, .bl _, _, _, _, h => by cases h
  | .tp l, .int _, _, _, _, h => by cases h
  | .tp l, .str _, _, _, _, h => by cases h
  | .tp l, .lst _, _, _, _, h => by cases h
  | .tp l, .dct _, _, _, _, h => by cases h
  | .tp l, .ref _, _, _, _, h => by cases h
  | .tp l, .fn _, _, _, _, h => by cases h
theorem putTL_len : ∀ {T : List Tg} {i : List I} {st : St} {u st'}, putTL T i st = some (.ok u, st') → st'.sl.length = st.sl.length ∧ st'.sto = st.sto
  | [], [], st, u, st', h => by cases h; exact ⟨rfl, rfl⟩
  | t :: ts, i :: is, st, u, st', h => by
    unfold putTL bnd at h
    split at h
    · cases h
    · rename_i s1 e
      obtain ⟨a, b⟩ := putT_len e
      obtain ⟨c, d⟩ := putTL_len h
      exact ⟨c.trans a, d.trans b⟩
    · cases h
  | [], _ :: _, _, _, _, h => by cases h
  | _ :: _, [], _, _, _, h => by cases h
end
/-- where two states differ -/
def Off (l : List Nat) (σ σ' : L2.St) : Prop := σ'.length = σ.length ∧ ∀ j, j ∉ l → σ'[j]? = σ[j]?
theorem Off.refl {l} : Off l σ σ := ⟨rfl, fun _ _ => rfl⟩
theorem Off.trans {l m σ1 σ2} (a : Off l σ σ1) (b : Off m σ1 σ2) : Off (l ++ m) σ σ2 :=
  ⟨b.1.trans a.1, fun j h => by
    simp only [List.mem_append, not_or] at h
    rw [b.2 j h.2, a.2 j h.1]⟩
theorem Off.sub {l m σ1} (a : Off l σ σ1) (h : ∀ k ∈ l, k ∈ m) : Off m σ σ1 := ⟨a.1, fun j k => a.2 j fun z => k (h j z)⟩
mutual
theorem putT_go {g0 H0 F0} {ok : St → Unit → Prop} {ex} : ∀ {T : Tg} {i : I} {v : V} {st : St} {σ : L2.St} {F : Lo → Fp} {Q : L2.St → Hp → Prop} (_ : PostS P g0 H0 F0 g H F st σ emp) (_ : RepI P g H i v) (_ : ∀ k ∈ slT T, ∀ q ∈ g.pn, q.1 ≠ k),
    RunAt (putT T i) st ok ex → (∀ st' σ' F', PostS P g0 H0 F0 g H F' st' σ' emp → Off (slT T) σ σ' → ok st' () → Q σ' H) → gOf P.K T v σ H Q
  | .nm k, i, v, st, σ, F, Q, p, r, hn, h, kk => by
    unfold putT at h
    obtain ⟨hl, h⟩ := RunAt.put h
    refine kk _ _ _ (p.put (.im r) (fun _ x => x) hl (hn k (by simp [slT]))) ⟨by simp, fun j hj => ?_⟩ h
    have : k ≠ j := fun z => hj (by simp [slT, z])
    rw [List.getElem?_set_ne this]
  | .tp l, i, v, st, σ, F, Q, p, r, hn, h, kk => by
    cases i with
    | tup is =>
      unfold putT at h
      cases r with
      | tup a b =>
        have hl : is.length = lenT l := putTL_sz h
        exact ⟨_, _, rfl, a, by rw [← b.len, hl], putTL_go p b hn h kk⟩
    | _ => unfold putT at h; exact h.elim
theorem putTL_go {g0 H0 F0} {ok : St → Unit → Prop} {ex} : ∀ {T : List Tg} {i : List I} {v : List V} {st : St} {σ : L2.St} {F : Lo → Fp} {Q : L2.St → Hp → Prop} (_ : PostS P g0 H0 F0 g H F st σ emp) (_ : RepIL P g H i v) (_ : ∀ k ∈ slTL T, ∀ q ∈ g.pn, q.1 ≠ k),
    RunAt (putTL T i) st ok ex → (∀ st' σ' F', PostS P g0 H0 F0 g H F' st' σ' emp → Off (slTL T) σ σ' → ok st' () → Q σ' H) → gOfL P.K T v σ H Q
  | [], [], v, st, σ, F, Q, p, r, hn, h, kk => by
    cases r with
    | nil => exact ⟨rfl, kk st σ F p .refl h⟩
  | t :: ts, i :: is, _, st, σ, F, Q, p, r, hn, h, kk => by
    cases r with
    | cons ri rl =>
      unfold putTL at h
      refine ⟨_, _, rfl, putT_go p ri (fun k hk => hn k (by simp [slTL, hk])) (RunAt.bnd h) fun st' σ' F' p' of1 h' => ?_⟩
      exact putTL_go p' rl (fun k hk => hn k (by simp [slTL, hk])) h' fun st2 σ2 F2 p2 of2 h2 => kk st2 σ2 F2 p2 (by unfold slTL; exact of1.trans of2) h2
  | [], _ :: _, _, _, _, _, _, _, _, _, h, _ => h.elim
  | _ :: _, [], _, _, _, _, _, _, _, _, h, _ => h.elim
theorem putTL_sz : ∀ {T : List Tg} {i : List I} {st : St} {ok : St → Unit → Prop} {ex}, RunAt (putTL T i) st ok ex → i.length = lenT T
  | [], [], _, _, _, _ => rfl
  | t :: ts, i :: is, st, ok, ex, h => by
    unfold putTL at h
    have h := RunAt.bnd h
    unfold RunAt at h
    split at h
    · exact h.elim
    · have := putTL_sz (T := ts) (i := is) h
      simp [lenT, this]
    · rename_i e
      exact (putT_noex e).elim
  | [], _ :: _, _, _, _, h => h.elim
  | _ :: _, [], _, _, _, h => h.elim
theorem putT_noex : ∀ {T : Tg} {i : I} {st : St} {c j st'}, putT T i st = some (.ex c j, st') → False
  | .nm k, i, st, c, j, st', h => by
    unfold putT put at h
    split at h <;> cases h
  | .tp l, .tup is, st, c, j, st', h => by
    unfold putT at h
    exact putTL_noex h
  | .tp l, .non, _, _, _, _, h => by cases h
  | .tp l, .bl _, _, _, _, _, h => by cases h
  | .tp l, .int _, _, _, _, _, h => by cases h
  | .tp l, .str _, _, _, _, _, h => by cases h
  | .tp l, .lst _, _, _, _, _, h => by cases h
  | .tp l, .dct _, _, _, _, _, h => by cases h
  | .tp l, .ref _, _, _, _, _, h => by cases h
  | .tp l, .fn _, _, _, _, _, h => by cases h
theorem putTL_noex : ∀ {T : List Tg} {i : List I} {st : St} {c j st'}, putTL T i st = some (.ex c j, st') → False
  | [], [], st, c, j, st', h => by cases h
  | t :: ts, i :: is, st, c, j, st', h => by
    unfold putTL bnd at h
    split at h
    · cases h
    · exact putTL_noex h
    · rename_i e
      exact putT_noex e
  | [], _ :: _, _, _, _, _, h => by cases h
  | _ :: _, [], _, _, _, _, h => by cases h
end
/-! ### what a loop walks -/
def Gives (P : Pg) (g : Gh) (H : Hp) (is : List I) (J : It) : Prop := ∀ g2 H2 FX, Ch FX g H g2 H2 →
  (∀ (i : Nat) (x : I), is[i]? = some x → J.go i H2 ∧ ∀ v H3, J.yld i H2 v H3 → (H3 = H2 ∨ ∃ T o, H2 T = none ∧ H3 = upd H2 T o) ∧ RepI P g2 H3 x v) ∧ J.stop is.length H2
abbrev IM := M (List I)
def OkI (P : Pg) (W : WX) (f : IM) : TI := fun σ H R => ∃ g st F, RepS P g H st σ F ∧
  RunAt f st (fun st' is => ∀ g' H' F' J, PostS P g H F g' H' F' st' σ emp → Gives P g' H' is J → R J H') (exc P W g H F)
/-! ### for -/
def forL (T : Tg) (b : SM) : List I → SM
  | [] => sNext
  | i :: is => bnd (putT T i) fun _ => bnd b fun f => match f with
    | .nx => forL T b is
    | .ct => forL T b is
    | .bk => sNext
    | .rt o => ret (.rt o)
def sFor (m : IM) (T : Tg) (b : SM) : SM := bnd m fun is => forL T b is
theorem PostS.grow {g H F g1 H1 F1 st1 σ1 T o} (a : PostS P g H F g1 H1 F1 st1 σ1 emp) (hp : H1 T = none) : PostS P g H F g1 (upd H1 T o) F1 st1 σ1 emp := by
  have c : Ch emp g1 H1 g1 (upd H1 T o) := .new hp
  exact ⟨a.rs.ch c (fun _ _ h => h.elim) rfl rfl (new_zd a.rs.zd hp), fun _ h => h.elim, a.ch.trans c fun _ h => h.elim, a.sub, a.pn⟩
theorem for_go {m : IM} {T : Tg} {b : SM} (hT : ∀ k ∈ slT T, k ∉ io) (h : OkS P W io (sFor m T b) D σ H) : tFor (OkI P W m) (gOf P.K T) (OkS P W io b) D σ H := by
  obtain ⟨g, st, F, rs, hio, q⟩ := h
  refine ⟨g, st, F, rs, q.bnd.imp (fun s is k g1 H1 F1 J p gv => ?_) fun _ _ _ z => z⟩
  have k1 : RunAt (forL T b is) s (okS P D g1 H1 F1) (exc P W g1 H1 F1) := RunAt.imp k (fun s2 fl k2 => okS_step p k2) fun _ _ _ z => excS_step p z
  have hio1 := p.pio hio
  refine ⟨fun i m σ H => m = is.length - i ∧ i ≤ is.length ∧ ∃ g' st' F', PostS P g1 H1 F1 g' H F' st' σ emp ∧ RunAt (forL T b (is.drop i)) st' (okS P D g1 H1 F1) (exc P W g1 H1 F1), ⟨is.length, rfl, Nat.zero_le _, g1, s, F1, .refl p.rs, k1⟩, ?_⟩
  rintro i m σ2 H2 ⟨rfl, hi, g2, s2, F2, p2, k2⟩
  by_cases hlt : i < is.length
  · have ei : is[i]? = some is[i] := List.getElem?_eq_getElem hlt
    have ed : is.drop i = is[i] :: is.drop (i + 1) := List.drop_eq_getElem_cons hlt
    obtain ⟨go, yl⟩ := (gv g2 H2 _ p2.ch).1 i _ ei
    refine .inr ⟨go, fun σ' H' => ∃ g' st' F', PostS P g1 H1 F1 g' H' F' st' σ' emp ∧ RunAt (forL T b (is.drop (i + 1))) st' (okS P D g1 H1 F1) (exc P W g1 H1 F1), fun σ' H' n => ⟨is.length - (i + 1), by omega, rfl, hlt, n⟩, fun x H3 y => ?_⟩
    obtain ⟨ho, rx⟩ := yl x H3 y
    have p3 : PostS P g1 H1 F1 g2 H3 F2 s2 σ2 emp := by
      rcases ho with rfl | ⟨t, o, hn, rfl⟩
      · exact p2
      · exact p2.grow hn
    rw [ed] at k2
    unfold forL at k2
    refine putT_go p3 rx (fun k hk => pn_ne (p2.pio hio1) (hT k hk)) k2.bnd fun st' σ' F' p4 _ k4 => ?_
    refine ⟨g2, st', F', p4.rs, p2.pio hio1, k4.bnd.imp (fun s5 fl k5 => ?_) fun _ _ _ z => excS_step p4 z⟩
    cases fl with
    | nx => exact fun g6 H6 F6 σ6 p6 => ⟨g6, s5, F6, p4.trans p6, k5⟩
    | ct => exact fun g6 H6 F6 σ6 p6 => ⟨g6, s5, F6, p4.trans p6, k5⟩
    | bk => exact fun g6 H6 F6 σ6 p6 => (show okS P D g1 H1 F1 s5 .nx from k5) g6 H6 F6 σ6 (p4.trans p6)
    | rt o => exact fun g6 H6 F6 σ6 v Fv p6 r6 => (show okS P D g1 H1 F1 s5 (.rt o) from k5) g6 H6 F6 σ6 v Fv (p4.trans p6) r6
  · have e : i = is.length := by omega
    subst e
    refine .inl ⟨(gv g2 H2 _ p2.ch).2, ?_⟩
    rw [List.drop_length] at k2
    exact (show okS P D g1 H1 F1 s2 .nx from k2) g2 H2 F2 σ2 p2
theorem sv_for {m : IM} {T : Tg} {f : SM} {tg iter : Expr} {body : List Stmt} (hp : PassesOwn (model X.prog X.w) X.A X.env X.xe) (hc : X.calm = true) (hi : PI X tg iter (OkI ⟨X.K, n⟩ W m)) (hg : PG X tg (gOf X.K T)) (hb : PSs X body (OkS ⟨X.K, n⟩ W io f)) (hT : ∀ k ∈ slT T, k ∉ io)
    (hs : ∀ x, foldedSetIterable iter X.env x = pure x := by intro _; rfl) : PS X (.For tg iter body [] pos) (OkS ⟨X.K, n⟩ W io (sFor m T f)) :=
  PS.imp (ps_for hp hc hi hg hb hs) fun _ _ _ h => for_go (P := ⟨X.K, n⟩) hT h
/-! ### while -/
def whN (t : BM) (b : SM) : Nat → SM
  | 0 => fun _ => none
  | n + 1 => bnd t fun c => if c then bnd b fun f => match f with
    | .nx => whN t b n
    | .ct => whN t b n
    | .bk => sNext
    | .rt o => ret (.rt o) else sNext
open Classical in
noncomputable def sWhile (t : BM) (b : SM) : SM := fun st => if h : ∃ n r, whN t b n st = some r then whN t b h.choose st else none
theorem whN_more {t : BM} {b : SM} : ∀ {n : Nat} {st r}, whN t b n st = some r → whN t b (n + 1) st = some r
  | 0, st, r, h => by cases h
  | n + 1, st, r, h => by
    have aux : ∀ (f : Fl) s1, (match f with | .nx => whN t b n | .ct => whN t b n | .bk => sNext | .rt o => ret (.rt o) : SM) s1 = some r → (match f with | .nx => whN t b (n + 1) | .ct => whN t b (n + 1) | .bk => sNext | .rt o => ret (.rt o) : SM) s1 = some r := fun f s1 h => by
      cases f with
      | nx => exact whN_more h
      | ct => exact whN_more h
      | bk => exact h
      | rt o => exact h
    unfold whN at h ⊢
    unfold bnd at h ⊢
    cases ht : t st with
    | none => rw [ht] at h; cases h
    | some z =>
      obtain ⟨z1, s1⟩ := z
      rw [ht] at h
      cases z1 with
      | ex c i => exact h
      | ok c =>
        cases c with
        | false => exact h
        | true =>
          simp only [if_true] at h ⊢
          cases hb : b s1 with
          | none => rw [hb] at h; cases h
          | some z =>
            obtain ⟨z2, s2⟩ := z
            rw [hb] at h
            cases z2 with
            | ex c i => exact h
            | ok f => exact aux f s2 h
theorem whN_le {t : BM} {b : SM} {n m : Nat} {st r} (h : whN t b n st = some r) (l : n ≤ m) : whN t b m st = some r := by
  induction l with
  | refl => exact h
  | step _ ih => exact whN_more ih
/-- enough turns -/
theorem while_eq {t : BM} {b : SM} {n : Nat} {st r} (h : whN t b n st = some r) : sWhile t b st = some r := by
  unfold sWhile
  have e : ∃ n r, whN t b n st = some r := ⟨n, r, h⟩
  rw [dif_pos e]
  obtain ⟨r', h'⟩ := e.choose_spec
  have h1 := whN_le h' (Nat.le_max_left e.choose n)
  have h2 := whN_le h (Nat.le_max_right e.choose n)
  rw [h1] at h2
  rw [h', h2]
theorem while_some {t : BM} {b : SM} {st r} (h : sWhile t b st = some r) : ∃ n, whN t b n st = some r := by
  unfold sWhile at h
  split at h
  · exact ⟨_, h⟩
  · cases h
theorem while_go {t : BM} {b : SM} (h : OkS P W io (sWhile t b) D σ H) : tWhile (OkB P W t) (OkS P W io b) D σ H := by
  obtain ⟨g, st, F, rs, hio, q⟩ := h
  have q' : ∃ n, RunAt (whN t b n) st (okS P D g H F) (exc P W g H F) := by
    unfold RunAt at q
    split at q
    · exact q.elim
    · rename_i a s1 e
      obtain ⟨n, hn⟩ := while_some e
      exact ⟨n, by unfold RunAt; rw [hn]; exact q⟩
    · rename_i c i s1 e
      obtain ⟨n, hn⟩ := while_some e
      exact ⟨n, by unfold RunAt; rw [hn]; exact q⟩
  obtain ⟨n0, q0⟩ := q'
  refine ⟨fun n σ H2 => ∃ g' st' F', PostS P g H F g' H2 F' st' σ emp ∧ RunAt (whN t b n) st' (okS P D g H F) (exc P W g H F), ⟨n0, g, st, F, .refl rs, q0⟩, ?_⟩
  rintro n σ2 H2 ⟨g2, s2, F2, p2, k2⟩
  cases n with
  | zero => exact k2.elim
  | succ n =>
    unfold whN at k2
    refine ⟨g2, s2, F2, p2.rs, k2.bnd.imp (fun s3 c k3 g3 H3 F3 p3 => ?_) fun _ _ _ z => excS_step p2 z⟩
    have p23 := p2.trans p3
    cases c with
    | false =>
      simp only [Bool.false_eq_true, if_false] at k3 ⊢
      exact (show okS P D g H F s3 .nx from k3) g3 H3 F3 σ2 p23
    | true =>
      simp only [if_true] at k3 ⊢
      refine ⟨fun σ' H' => ∃ g' st' F', PostS P g H F g' H' F' st' σ' emp ∧ RunAt (whN t b n) st' (okS P D g H F) (exc P W g H F), fun σ' H' x => ⟨n, Nat.lt_succ_self n, x⟩, g3, s3, F3, p23.rs, p23.pio hio, k3.bnd.imp (fun s4 fl k4 => ?_) fun _ _ _ z => excS_step p23 z⟩
      cases fl with
      | nx => exact fun g6 H6 F6 σ6 p6 => ⟨g6, s4, F6, p23.trans p6, k4⟩
      | ct => exact fun g6 H6 F6 σ6 p6 => ⟨g6, s4, F6, p23.trans p6, k4⟩
      | bk => exact fun g6 H6 F6 σ6 p6 => (show okS P D g H F s4 .nx from k4) g6 H6 F6 σ6 (p23.trans p6)
      | rt o => exact fun g6 H6 F6 σ6 v Fv p6 r6 => (show okS P D g H F s4 (.rt o) from k4) g6 H6 F6 σ6 v Fv (p23.trans p6) r6
theorem sv_while {t : BM} {f : SM} {body : List Stmt} (hp : PassesOwn (model X.prog X.w) X.A X.env X.xe) (hc : PT X c (OkB P W t)) (hb : PSs X body (OkS P W io f)) : PS X (.While c body [] pos) (OkS P W io (sWhile t f)) :=
  PS.imp (ps_while hp hc hb) fun _ _ _ h => while_go h
end
end VS

namespace VS
open PySem L2
/-! ### what is walked -/
def chars (s : Str) : List I := s.cps.toList.map fun c => .str ⟨#[c]⟩
def itemsOf : O → Option (List I)
  | .im (.lst l) => some l
  | .im (.tup l) => some l
  | .im (.str s) => some (chars s)
  | .tup l => allIm l
  | _ => none
def itV (f : EM) : IM := bnd f fun o => lift (itemsOf o)
def rng (lo : Int) (n : Nat) : List I := (List.range n).map fun (i : Nat) => I.int (lo + (i : Int))
def r62 (j : Int) : Bool := decide (-(2 ^ 62) ≤ j ∧ j < 2 ^ 62)
def itR (f : AM) : IM := bnd f fun os => match os with
  | [.im (.int j)] => if r62 j then ret (rng 0 j.toNat) else lift none
  | [.im (.int i), .im (.int j)] => if r62 i && r62 j then ret (rng i (j - i).toNat) else lift none
  | _ => lift none
def numb : Nat → List I → List I
  | _, [] => []
  | k, i :: is => .tup [.int (k : Int), i] :: numb (k + 1) is
def itE (f : EM) : IM := bnd f fun o => match o with
  | .im (.lst l) => ret (numb 0 l)
  | _ => lift none
def zipI : List I → List I → List I
  | a :: as, b :: bs => .tup [a, b] :: zipI as bs
  | _, _ => []
def itZ (f : AM) : IM := bnd f fun os => match os with
  | [.im (.lst l), .im (.lst m)] => ret (zipI l m)
  | [.im (.tup l), .im (.tup m)] => ret (zipI l m)
  | _ => lift none
section
variable {n : Pn} {W : WX} {X : Cx} {P : Pg} {e a b c tg : Expr} {es : List Expr} {g g' : Gh} {H H' : Hp} {st st' : St} {σ : L2.St} {F F' : Lo → Fp} {FX Fv : Fp} {pos : Pos} {io : List Nat} {s : Stmt} {ss : List Stmt} {D : Ends}
theorem RepIL.get : ∀ {l : List I} {vs : List V} {i : Nat} {x : I}, RepIL P g H l vs → l[i]? = some x → ∃ v, vs[i]? = some v ∧ RepI P g H x v
  | [], _, i, x, r, h => by simp at h
  | y :: l, _, i, x, r, h => by
    cases r with
    | cons a b =>
      cases i with
      | zero => simp at h; subst h; exact ⟨_, by simp, a⟩
      | succ i =>
        obtain ⟨v, e, q⟩ := RepIL.get b (by simpa using h)
        exact ⟨v, by simpa using e, q⟩
theorem gives_lst {l p vs} (h : FzL P.K g H p vs) (r : RepIL P g H l vs) : Gives P g H l (Itl P.K p) := fun g2 H2 FX c => by
  have h2 := (c.lst h).sq
  have r2 := r.ch c
  refine ⟨fun i x e => ?_, vs, h2, by rw [r.len]; exact Nat.le_refl _⟩
  obtain ⟨v, ev, rv⟩ := r2.get e
  refine ⟨⟨vs, v, h2, ev⟩, fun u H3 y => ⟨.inl y.1, ?_⟩⟩
  have := y.2 vs h2
  rw [ev] at this; cases this
  rw [y.1]
  exact rv
theorem gives_tup {l p vs} (h : SqT P.K H p vs) (r : RepIL P g H l vs) : Gives P g H l (Itt P.K p) := fun g2 H2 FX c => by
  have h2 := c.tup h
  have r2 := r.ch c
  refine ⟨fun i x e => ?_, vs, h2, by rw [r.len]; exact Nat.le_refl _⟩
  obtain ⟨v, ev, rv⟩ := r2.get e
  refine ⟨⟨vs, v, h2, ev⟩, fun u H3 y => ⟨.inl y.1, ?_⟩⟩
  have := y.2 vs h2
  rw [ev] at this; cases this
  rw [y.1]
  exact rv
theorem gives_str {x : Str} : Gives P g H (chars x) (Its x) := fun g2 H2 FX c => by
  have hl : (chars x).length = x.cps.size := by simp [chars]
  refine ⟨fun i y e => ?_, by show x.cps.size ≤ _; rw [hl]; exact Nat.le_refl _⟩
  have hi : i < x.cps.size := by rw [← hl]; exact (List.getElem?_eq_some_iff.mp e).1
  refine ⟨hi, fun v H3 z => ?_⟩
  obtain ⟨rfl, c, hc, rfl⟩ := z
  refine ⟨.inl rfl, ?_⟩
  have : y = .str ⟨#[c]⟩ := by
    unfold chars at e
    rw [List.getElem?_map, Array.getElem?_toList, hc] at e
    simpa using e.symm
  subst this
  exact .str _
theorem gives_rng {lo : Int} {m : Nat} : Gives P g H (rng lo m) (Itr lo m) := fun g2 H2 FX c => by
  have hl : (rng lo m).length = m := by simp [rng]
  refine ⟨fun i y e => ?_, by show m ≤ _; rw [hl]; exact Nat.le_refl _⟩
  have hi : i < m := by rw [← hl]; exact (List.getElem?_eq_some_iff.mp e).1
  refine ⟨hi, fun v H3 z => ?_⟩
  obtain ⟨rfl, rfl⟩ := z
  refine ⟨.inl rfl, ?_⟩
  have : y = .int (lo + i) := by
    unfold rng at e
    rw [List.getElem?_map, List.getElem?_range hi] at e
    simpa using e.symm
  subst this
  exact .int _
theorem numb_len : ∀ {k : Nat} {l : List I}, (numb k l).length = l.length
  | _, [] => rfl
  | k, _ :: l => by simp [numb, numb_len]
theorem numb_get : ∀ {l : List I} {k i : Nat} {x : I}, (numb k l)[i]? = some x → ∃ y, l[i]? = some y ∧ x = .tup [.int ((k + i : Nat) : Int), y]
  | [], k, i, x, h => by simp [numb] at h
  | z :: l, k, 0, x, h => by
    simp [numb] at h
    exact ⟨z, by simp, by rw [← h]; simp⟩
  | z :: l, k, i + 1, x, h => by
    simp only [numb, List.getElem?_cons_succ] at h
    obtain ⟨y, e, q⟩ := numb_get h
    exact ⟨y, by simpa using e, by rw [q]; congr 2; congr 1; congr 1; omega⟩
theorem gives_enum {l p vs} (h : FzL P.K g H p vs) (r : RepIL P g H l vs) : Gives P g H (numb 0 l) (Ite P.K p) := fun g2 H2 FX c => by
  have h2 := (c.lst h).sq
  have r2 := r.ch c
  refine ⟨fun i x e => ?_, vs, h2, by rw [numb_len, r.len]; exact Nat.le_refl _⟩
  obtain ⟨y, e', rfl⟩ := numb_get e
  obtain ⟨v, ev, rv⟩ := r2.get e'
  refine ⟨⟨vs, v, h2, ev⟩, fun u H3 z => ?_⟩
  obtain ⟨T, x, rfl, hT, rfl, q⟩ := z
  have := q vs h2
  rw [ev] at this; cases this
  have cn : Ch emp g2 H2 g2 (upd H2 T (.tup [.int (i : Nat), v])) := .new hT
  refine ⟨.inr ⟨T, _, hT, rfl⟩, .tup (.inl (.of upd_same)) (.cons ?_ (.cons (rv.ch cn) .nil))⟩
  rw [Nat.zero_add]
  exact .int _
theorem zip_len : ∀ {l m : List I}, l.length ≤ (zipI l m).length ∨ m.length ≤ (zipI l m).length
  | [], _ => .inl (Nat.zero_le _)
  | _ :: _, [] => .inr (Nat.zero_le _)
  | a :: l, b :: m => by
    simp only [zipI, List.length_cons]
    rcases zip_len (l := l) (m := m) with h | h
    · exact .inl (by omega)
    · exact .inr (by omega)
theorem zip_get : ∀ {l m : List I} {i : Nat} {x : I}, (zipI l m)[i]? = some x → ∃ y z, l[i]? = some y ∧ m[i]? = some z ∧ x = .tup [y, z]
  | [], _, i, x, h => by simp [zipI] at h
  | _ :: _, [], i, x, h => by simp [zipI] at h
  | a :: l, b :: m, 0, x, h => by
    simp [zipI] at h
    exact ⟨a, b, by simp, by simp, h.symm⟩
  | a :: l, b :: m, i + 1, x, h => by
    simp only [zipI, List.getElem?_cons_succ] at h
    obtain ⟨y, z, e1, e2, e3⟩ := zip_get h
    exact ⟨y, z, by simpa using e1, by simpa using e2, e3⟩
theorem gives_zip {l m p q vs ws} (h : FzL P.K g H p vs) (r : RepIL P g H l vs) (h' : FzL P.K g H q ws) (r' : RepIL P g H m ws) : Gives P g H (zipI l m) (Itz P.K p q) := fun g2 H2 FX c => by
  have h2 := (c.lst h).sq
  have r2 := r.ch c
  have h2' := (c.lst h').sq
  have r2' := r'.ch c
  refine ⟨fun i x e => ?_, vs, ws, h2, h2', by rw [← r.len, ← r'.len]; exact zip_len⟩
  obtain ⟨y, z, e1, e2, rfl⟩ := zip_get e
  obtain ⟨v, ev, rv⟩ := r2.get e1
  obtain ⟨w, ew, rw'⟩ := r2'.get e2
  refine ⟨⟨vs, ws, v, w, h2, h2', ev, ew⟩, fun u H3 z => ?_⟩
  obtain ⟨T, x, y', rfl, hT, rfl, q1, q2⟩ := z
  have := q1 vs h2
  rw [ev] at this; cases this
  have := q2 ws h2'
  rw [ew] at this; cases this
  have cn : Ch emp g2 H2 g2 (upd H2 T (.tup [v, w])) := .new hT
  exact ⟨.inr ⟨T, _, hT, rfl⟩, .tup (.inl (.of upd_same)) (.cons (rv.ch cn) (.cons (rw'.ch cn) .nil))⟩
theorem gives_zipT {l m p q vs ws} (h : SqT P.K H p vs) (r : RepIL P g H l vs) (h' : SqT P.K H q ws) (r' : RepIL P g H m ws) : Gives P g H (zipI l m) (RZ.ItzT P.K p q) := fun g2 H2 FX c => by
  have h2 := c.tup h
  have r2 := r.ch c
  have h2' := c.tup h'
  have r2' := r'.ch c
  refine ⟨fun i x e => ?_, vs, ws, h2, h2', by rw [← r.len, ← r'.len]; exact zip_len⟩
  obtain ⟨y, z, e1, e2, rfl⟩ := zip_get e
  obtain ⟨v, ev, rv⟩ := r2.get e1
  obtain ⟨w, ew, rw'⟩ := r2'.get e2
  refine ⟨⟨vs, ws, v, w, h2, h2', ev, ew⟩, fun u H3 z => ?_⟩
  obtain ⟨T, x, y', rfl, hT, rfl, q1, q2⟩ := z
  have := q1 vs h2
  rw [ev] at this; cases this
  have := q2 ws h2'
  rw [ew] at this; cases this
  have cn : Ch emp g2 H2 g2 (upd H2 T (.tup [v, w])) := .new hT
  exact ⟨.inr ⟨T, _, hT, rfl⟩, .tup (.inl (.of upd_same)) (.cons (rv.ch cn) (.cons (rw'.ch cn) .nil))⟩
/-! the rules -/
theorem pi_v {f : EM} (h : PE X e (OkE ⟨X.K, n⟩ W f)) : PI X tg e (OkI ⟨X.K, n⟩ W (itV f)) := by
  refine ⟨fun pins s σ H R Iv hw => ?_⟩
  obtain ⟨g, st, F, rs, q⟩ := hw
  have q := q.bnd
  cases hf : f st with
  | none => unfold RunAt at q; rw [hf] at q; exact q.elim
  | some z =>
    obtain ⟨z, st'⟩ := z
    cases z with
    | ex c i =>
      refine (pi_tup h).run pins s σ H R Iv ⟨g, st, F, rs, ?_⟩
      unfold RunAt at q ⊢
      rw [hf] at q ⊢
      exact q
    | ok o =>
      unfold RunAt at q
      rw [hf] at q
      obtain ⟨is, hi, q⟩ := RunAt.lift (show RunAt (lift (itemsOf o)) st' _ _ from q)
      have q2 : ∀ g' H' F' J, PostS ⟨X.K, n⟩ g H F g' H' F' st' σ emp → Gives ⟨X.K, n⟩ g' H' is J → R J H' := q
      have go : ∀ {P' : St → O → Prop}, P' st' o → RunAt f st P' (exc ⟨X.K, n⟩ W g H F) := fun {P'} k => by
        unfold RunAt
        rw [hf]
        exact k
      cases o with
      | im i =>
        cases i with
        | lst l =>
          cases hi
          refine (pi_list h).run pins s σ H R Iv ⟨g, st, F, rs, go fun g1 H1 F1 v Fv p ro => ?_⟩
          cases ro.im_inv with
          | lst a b => exact ⟨_, rfl, ⟨_, a.sq⟩, q2 g1 H1 F1 _ p.drop (gives_lst a b)⟩
        | tup l =>
          cases hi
          refine (pi_tup h).run pins s σ H R Iv ⟨g, st, F, rs, go fun g1 H1 F1 v Fv p ro => ?_⟩
          cases ro.im_inv with
          | tup a b => exact ⟨_, rfl, ⟨_, a⟩, q2 g1 H1 F1 _ p.drop (gives_tup a b)⟩
        | str x =>
          cases hi
          refine (pi_str h).run pins s σ H R Iv ⟨g, st, F, rs, go fun g1 H1 F1 v Fv p ro => ?_⟩
          cases ro.im_inv with
          | str => exact ⟨x, rfl, q2 g1 H1 F1 _ p.drop gives_str⟩
        | _ => cases hi
      | tup l =>
        refine (pi_tup h).run pins s σ H R Iv ⟨g, st, F, rs, go fun g1 H1 F1 v Fv p ro => ?_⟩
        cases ro with
        | tup a b =>
          obtain ⟨b, _⟩ := RepIL.allIm hi b
          exact ⟨_, rfl, ⟨_, a⟩, q2 g1 H1 F1 _ p.drop (gives_tup a b)⟩
      | _ => cases hi
theorem RunAt.both {α : Type} {f : M α} {st} {ok ok' : St → α → Prop} {ex ex' : St → Nat → List I → Prop} (h : RunAt f st ok ex) (h' : RunAt f st ok' ex') : RunAt f st (fun s a => ok s a ∧ ok' s a) fun s c i => ex s c i ∧ ex' s c i := by
  unfold RunAt at h h' ⊢
  split at h
  · exact h.elim
  · rename_i e; rw [e] at h'; exact ⟨h, h'⟩
  · rename_i e; rw [e] at h'; exact ⟨h, h'⟩
theorem r62_ok {j : Int} (h : r62 j = true) : -(2 ^ 62) ≤ j ∧ j < 2 ^ 62 := by simpa [r62] using h
theorem RepOL.one {o v} {Fv} (r : RepOL P g H [o] v Fv) : ∃ x G, v = [x] ∧ RepO P g H o x G := by
  cases r with
  | cons a b d => cases b with | nil => exact ⟨_, _, rfl, a⟩
theorem RepOL.two {o o' v} {Fv} (r : RepOL P g H [o, o'] v Fv) : ∃ x y G G', v = [x, y] ∧ RepO P g H o x G ∧ RepO P g H o' y G' := by
  cases r with
  | cons a b d => cases b with | cons a' b' d' => cases b' with | nil => exact ⟨_, _, _, _, rfl, a, a'⟩
theorem pi_rng1 {f : AM} {p : Pos} (hm : X.mg "range" = none) (ha : PA X [a] (OkA ⟨X.K, n⟩ W f)) (hg : Gl X "range" := by rfl) (hs : starEach [a] X.env = [(false, eval a X.env)] := by rfl) (hl : ∀ st os st', f st = some (.ok os, st') → os.length = 1) : PI X tg (.Call (.Name "range" p) [a] [] pos) (OkI ⟨X.K, n⟩ W (itR f)) := by
  refine ⟨fun pins s σ H R Iv hw => (pi_range1 hg hm ha hs).run pins s σ H R Iv ?_⟩
  obtain ⟨g, st, F, rs, q⟩ := hw
  refine ⟨g, st, F, rs, ?_⟩
  have q := q.bnd
  have q0 : RunAt f st (fun _ os => os.length = 1) (fun _ _ _ => True) := by
    unfold RunAt at q ⊢
    split at q
    · exact q
    · rename_i e; exact hl _ _ _ e
    · trivial
  refine RunAt.imp (q.both q0) (fun st' os ⟨q, hl⟩ => ?_) fun _ _ _ z => z.1
  · skip
    intro g1 H1 F1 vs Fv p r
    split at q
    · split at q
      · rename_i hj
        obtain ⟨x, G, rfl, rx⟩ := r.one
        cases rx.im_inv
        obtain ⟨h1, h2⟩ := r62_ok hj
        exact ⟨_, rfl, h1, h2, RunAt.ret q g1 H1 F1 _ p.drop gives_rng⟩
      · exact q.elim
    · simp at hl
    · exact q.elim
theorem pi_rng2 {f : AM} {p : Pos} (hm : X.mg "range" = none) (ha : PA X [a, b] (OkA ⟨X.K, n⟩ W f)) (hg : Gl X "range" := by rfl) (hs : starEach [a, b] X.env = [(false, eval a X.env), (false, eval b X.env)] := by rfl) (hs2 : starEach [b] X.env = [(false, eval b X.env)] := by rfl) (hl : ∀ st os st', f st = some (.ok os, st') → os.length = 2) : PI X tg (.Call (.Name "range" p) [a, b] [] pos) (OkI ⟨X.K, n⟩ W (itR f)) := by
  refine ⟨fun pins s σ H R Iv hw => (pi_range2 hg hm ha hs hs2).run pins s σ H R Iv ?_⟩
  obtain ⟨g, st, F, rs, q⟩ := hw
  refine ⟨g, st, F, rs, ?_⟩
  have q := q.bnd
  have q0 : RunAt f st (fun _ os => os.length = 2) (fun _ _ _ => True) := by
    unfold RunAt at q ⊢
    split at q
    · exact q
    · rename_i e; exact hl _ _ _ e
    · trivial
  refine RunAt.imp (q.both q0) (fun st' os ⟨q, hl⟩ => ?_) fun _ _ _ z => z.1
  · skip
    intro g1 H1 F1 vs Fv p r
    split at q
    · simp at hl
    · split at q
      · rename_i hj
        obtain ⟨x, y, G, G', rfl, rx, ry⟩ := r.two
        cases rx.im_inv
        cases ry.im_inv
        have hj := Bool.and_eq_true_iff.mp hj
        obtain ⟨h1, h2⟩ := r62_ok hj.1
        obtain ⟨h3, h4⟩ := r62_ok hj.2
        exact ⟨_, _, rfl, ⟨h1, h2, h3, h4⟩, RunAt.ret q g1 H1 F1 _ p.drop gives_rng⟩
      · exact q.elim
    · exact q.elim
theorem bnd_ok {α β : Type} {m : M α} {k : α → M β} {st b st'} (h : bnd m k st = some (.ok b, st')) : ∃ a s1, m st = some (.ok a, s1) ∧ k a s1 = some (.ok b, st') := by
  unfold bnd at h
  split at h
  · cases h
  · rename_i e; exact ⟨_, _, e, h⟩
  · cases h
theorem len1 {f : EM} {st os st'} (h : aCons f aNil st = some (.ok os, st')) : os.length = 1 := by
  obtain ⟨o, s1, _, h⟩ := bnd_ok h
  obtain ⟨os2, s2, e, h⟩ := bnd_ok h
  cases e
  cases h
  rfl
theorem len2 {f k : EM} {st os st'} (h : aCons f (aCons k aNil) st = some (.ok os, st')) : os.length = 2 := by
  obtain ⟨o, s1, _, h⟩ := bnd_ok h
  obtain ⟨os2, s2, e, h⟩ := bnd_ok h
  have := len1 e
  cases h
  simp [this]
theorem ev_r1 {f : EM} {p : Pos} (hm : X.mg "range" = none) (ha : PE X a (OkE ⟨X.K, n⟩ W f)) (hg : Gl X "range" := by rfl) (hs : starEach [a] X.env = [(false, eval a X.env)] := by rfl) : PI X tg (.Call (.Name "range" p) [a] [] pos) (OkI ⟨X.K, n⟩ W (itR (aCons f aNil))) :=
  pi_rng1 hm (av_cons ha av_nil hs) hg hs fun _ _ _ => len1
theorem ev_r2 {f k : EM} {p : Pos} (hm : X.mg "range" = none) (ha : PE X a (OkE ⟨X.K, n⟩ W f)) (hb : PE X b (OkE ⟨X.K, n⟩ W k)) (hg : Gl X "range" := by rfl) (hs : starEach [a, b] X.env = [(false, eval a X.env), (false, eval b X.env)] := by rfl) (hs2 : starEach [b] X.env = [(false, eval b X.env)] := by rfl) : PI X tg (.Call (.Name "range" p) [a, b] [] pos) (OkI ⟨X.K, n⟩ W (itR (aCons f (aCons k aNil)))) :=
  pi_rng2 hm (av_cons ha (av_cons hb av_nil hs2) (hs.trans (by rw [hs2]))) hg hs hs2 fun _ _ _ => len2
theorem ev_en {f : EM} {p tpos : Pos} {elts : List Expr} {kk : Nat} (hm : X.mg "enumerate" = none) (ha : PE X a (OkE ⟨X.K, n⟩ W f)) (hg : Gl X "enumerate" := by rfl) (hs : starEach [a] X.env = [(false, eval a X.env)] := by rfl) : PI X (.Tuple elts kk tpos) (.Call (.Name "enumerate" p) [a] [] pos) (OkI ⟨X.K, n⟩ W (itE f)) := by
  refine ⟨fun pins s σ H R Iv hw => (pi_enum hg hm (av_cons ha (av_nil (W := W)) hs) hs).run pins s σ H R Iv ?_⟩
  obtain ⟨g, st, F, rs, q⟩ := hw
  refine ⟨g, st, F, rs, ?_⟩
  have q := q.bnd
  have q2 : RunAt (aCons f aNil) st (fun s os => ∃ o, os = [o] ∧ RunAt (match o with | .im (.lst l) => ret (numb 0 l) | _ => lift none : IM) s (fun st' is => ∀ g' H' F' J, PostS ⟨X.K, n⟩ g H F g' H' F' st' σ emp → Gives ⟨X.K, n⟩ g' H' is J → R J H') (exc ⟨X.K, n⟩ W g H F)) (exc ⟨X.K, n⟩ W g H F) := by
    unfold RunAt at q
    unfold aCons RunAt bnd
    cases hf : f st with
    | none => rw [hf] at q; exact q
    | some z =>
      obtain ⟨z, s1⟩ := z
      rw [hf] at q
      cases z with
      | ok o => exact ⟨o, rfl, q⟩
      | ex c i => exact q
  refine RunAt.imp q2 (fun s1 os ⟨o, eo, q3⟩ g1 H1 F1 vs Fv p r => ?_) fun _ _ _ z => z
  subst eo
  obtain ⟨x, G, rfl, rx⟩ := r.one
  split at q3
  · cases rx.im_inv with
    | lst a b => exact ⟨_, _, rfl, a.sq, RunAt.ret q3 g1 H1 F1 _ p.drop (gives_enum a b)⟩
  · exact q3.elim
theorem ev_zp {f : AM} {p tpos : Pos} {elts : List Expr} {kk : Nat} (hm : X.mg "zip" = none) (ha : PA X [a, b] (OkA ⟨X.K, n⟩ W f)) (hg : Gl X "zip" := by rfl) (hs : starEach [a, b] X.env = (false, eval a X.env) :: starEach [b] X.env := by rfl) (hpl : (backTo pos (starEach [b] X.env)).any (·.1) = false := by rfl) : PI X (.Tuple elts kk tpos) (.Call (.Name "zip" p) [a, b] [] pos) (OkI ⟨X.K, n⟩ W (itZ f)) := by
  refine ⟨fun pins s σ H R Iv hw => (RZ.pi_zipA hg hm ha hs hpl).run pins s σ H R Iv ?_⟩
  obtain ⟨g, st, F, rs, q⟩ := hw
  refine ⟨g, st, F, rs, q.bnd.imp (fun s os k g1 H1 F1 vs Fv p r => ?_) fun _ _ _ z => z⟩
  split at k
  · obtain ⟨x, y, G, G', rfl, rx, ry⟩ := r.two
    cases rx.im_inv with
    | lst a b =>
      cases ry.im_inv with
      | lst a' b' => exact ⟨_, _, _, _, rfl, .inl ⟨a.sq, a'.sq, RunAt.ret k g1 H1 F1 _ p.drop (gives_zip a b a' b')⟩⟩
  · obtain ⟨x, y, G, G', rfl, rx, ry⟩ := r.two
    cases rx.im_inv with
    | tup a b =>
      cases ry.im_inv with
      | tup a' b' => exact ⟨_, _, _, _, rfl, .inr ⟨a, a', RunAt.ret k g1 H1 F1 _ p.drop (gives_zipT a b a' b')⟩⟩
  · exact k.elim
end
end VS

namespace VS
open PySem L2
/-! ### list comprehensions -/
def wip (sl : List O) : List Nat → List O
  | [] => sl
  | v :: vs => (wip sl vs).set v .hole
def resto (old : List O) : List Nat → List O → List O
  | [], sl => sl
  | v :: vs, sl => (resto old vs sl).set v (old.getD v .hole)
def isIm : O → Bool
  | .im _ => true
  | .hole => true
  | _ => false
def imAt (own : List Nat) (sl : List O) : Bool := own.all fun k => isIm (sl.getD k .hole)
def wipM (own : List Nat) : M Unit := fun st => some (.ok (), { st with sl := wip st.sl own })
def lcL (own : List Nat) (T : Tg) (t : BM) (e : EM) : List I → List O → M (List O)
  | [], acc => ret acc
  | i :: is, acc => bnd (wipM own) fun _ => bnd (putT T i) fun _ => bnd t fun c => if c then bnd e fun o => if acc.length < sizeLine then lcL own T t e is (acc ++ [o]) else lift none else lcL own T t e is acc
def blkM {α β : Type} (own : List Nat) (m : M α) (k : α → β) : M β := fun st => if imAt own st.sl then match m st with
  | some (.ok acc, st') => some (.ok (k acc), { st' with sl := resto st.sl own st'.sl })
  | _ => none else none
def eLc (own : List Nat) (src : IM) (T : Tg) (t : BM) (e : EM) : EM := bnd src fun is => blkM own (lcL own T t e is []) .lst
def bYes : BM := ret true
theorem wip_len (sl : List O) : ∀ vs, (wip sl vs).length = sl.length
  | [] => rfl
  | v :: vs => by simp [wip, wip_len sl vs]
theorem resto_len (old sl : List O) : ∀ vs, (resto old vs sl).length = sl.length
  | [] => rfl
  | v :: vs => by simp [resto, resto_len old sl vs]
theorem wip_out {sl : List O} {j : Nat} : ∀ {vs : List Nat}, j ∉ vs → (wip sl vs)[j]? = sl[j]?
  | [], _ => rfl
  | v :: vs, h => by
    simp only [List.mem_cons, not_or] at h
    rw [wip, List.getElem?_set_ne (Ne.symm h.1), wip_out h.2]
theorem wip_in {sl : List O} {j : Nat} : ∀ {vs : List Nat}, j ∈ vs → j < sl.length → (wip sl vs)[j]? = some .hole
  | v :: vs, h, l => by
    by_cases e : v = j
    · subst e
      rw [wip, List.getElem?_set_self (by rw [wip_len]; exact l)]
    · rw [wip, List.getElem?_set_ne e]
      exact wip_in ((List.mem_cons.mp h).resolve_left (Ne.symm e)) l
theorem resto_out {old sl : List O} {j : Nat} : ∀ {vs : List Nat}, j ∉ vs → (resto old vs sl)[j]? = sl[j]?
  | [], _ => rfl
  | v :: vs, h => by
    simp only [List.mem_cons, not_or] at h
    rw [resto, List.getElem?_set_ne (Ne.symm h.1), resto_out h.2]
theorem resto_in {old sl : List O} {j : Nat} : ∀ {vs : List Nat}, j ∈ vs → j < sl.length → (resto old vs sl)[j]? = some (old.getD j .hole)
  | v :: vs, h, l => by
    by_cases e : v = j
    · subst e
      rw [resto, List.getElem?_set_self (by rw [resto_len]; exact l)]
    · rw [resto, List.getElem?_set_ne e]
      exact resto_in ((List.mem_cons.mp h).resolve_left (Ne.symm e)) l
theorem wipe_out {σ : L2.St} {j : Nat} : ∀ {vs : List Nat}, j ∉ vs → (wipe σ vs)[j]? = σ[j]?
  | [], _ => rfl
  | v :: vs, h => by
    simp only [List.mem_cons, not_or] at h
    rw [wipe, List.getElem?_set_ne (Ne.symm h.1), wipe_out h.2]
theorem wipe_in {σ : L2.St} {j : Nat} : ∀ {vs : List Nat}, j ∈ vs → j < σ.length → (wipe σ vs)[j]? = some none
  | v :: vs, h, l => by
    by_cases e : v = j
    · subst e
      rw [wipe, List.getElem?_set_self (by rw [wipe_length]; exact l)]
    · rw [wipe, List.getElem?_set_ne e]
      exact wipe_in ((List.mem_cons.mp h).resolve_left (Ne.symm e)) l
theorem wipe_eq {σ σ' : L2.St} {vs l : List Nat} (h : Off l (wipe σ vs) σ') (hl : ∀ k ∈ l, k ∈ vs) : wipe σ' vs = wipe σ vs := by
  have len : σ'.length = σ.length := by rw [h.1, wipe_length]
  apply List.ext_getElem?
  intro j
  by_cases hj : j ∈ vs
  · by_cases hb : j < σ.length
    · rw [wipe_in hj hb, wipe_in hj (by rw [len]; exact hb)]
    · rw [List.getElem?_eq_none (by rw [wipe_length, len]; omega), List.getElem?_eq_none (by rw [wipe_length]; omega)]
  · rw [wipe_out hj, h.2 j fun z => hj (hl j z)]
def Gh.np (g : Gh) : Gh := { g with pn := [] }
def Gh.wp (g : Gh) (p : List (Nat × V)) : Gh := { g with pn := p }
section
variable {n : Pn} {W : WX} {X : Cx} {P : Pg} {e a b c tg : Expr} {es : List Expr} {g g' : Gh} {H H' : Hp} {st st' : St} {σ : L2.St} {F F' : Lo → Fp} {FX Fv : Fp} {pos : Pos} {io : List Nat} {s : Stmt} {ss : List Stmt} {D : Ends}
/-- some slots forgotten -/
def dropF (F : Lo → Fp) (own : List Nat) : Lo → Fp
  | .inl k => if k ∈ own then emp else F (.inl k)
  | .inr r => F (.inr r)
theorem dropF_sub {own : List Nat} {l b} (h : dropF F own l b) : F l b := by
  cases l with
  | inl k =>
    have h : (if k ∈ own then emp else F (.inl k)) b := h
    by_cases q : k ∈ own
    · rw [if_pos q] at h; exact h.elim
    · rw [if_neg q] at h; exact h
  | inr r => exact h
theorem RepS.wipe {own : List Nat} (r : RepS P g H st σ F) (hp : g.pn = []) : RepS P g H { st with sl := wip st.sl own } (L2.wipe σ own) (dropF F own) where
  len := by simp [wip_len, wipe_length, r.len]
  slot i o h := by
    by_cases hi : i ∈ own
    · have h' : (wip st.sl own)[i]? = some o := h
      have hl : i < st.sl.length := by rw [← wip_len st.sl own]; exact (List.getElem?_eq_some_iff.mp h').1
      rw [wip_in hi hl] at h'
      cases h'
      exact .inl ⟨rfl, fun b x => by simp [dropF, hi, emp] at x⟩
    · have h' : (wip st.sl own)[i]? = some o := h
      rw [wip_out hi] at h'
      have e : dropF F own (.inl i) = F (.inl i) := by simp [dropF, hi]
      rw [e]
      rcases r.slot i o h' with q | ⟨v, q, z⟩
      · exact .inl q
      · exact .inr ⟨v, by rw [wipe_out hi]; exact q, z⟩
  sto := r.sto
  ln := r.ln
  dj l m h b x y := r.dj l m h b (dropF_sub x) (dropF_sub y)
  out1 i b h x := r.out1 i b (by simpa [wip_len] using h) (dropF_sub x)
  out2 i b h x := r.out2 i b h x
  pin p hp' := by rw [hp] at hp'; cases hp'
  zd := r.zd
theorem RepOL.snoc : ∀ {os : List O} {vs : List V} {F G : Fp} {o v}, RepOL P g H os vs F → RepO P g H o v G → Fp.dj F G → ∃ F', RepOL P g H (os ++ [o]) (vs ++ [v]) F' ∧ ∀ b, F' b ↔ F b ∨ G b
  | [], _, _, G, o, v, r, ro, _ => by
    cases r
    exact ⟨un G emp, .cons ro .nil fun _ _ h => h, fun b => by simp [un, emp]⟩
  | x :: os, _, _, G, o, v, r, ro, d => by
    cases r with
    | @cons _ y _ vs F1 F2 a b d' =>
      obtain ⟨F', r', e⟩ := RepOL.snoc b ro fun c x y => d c (.inr x) y
      refine ⟨un F1 F', .cons a r' fun c x y => ?_, fun c => ?_⟩
      · rcases (e c).mp y with y | y
        · exact d' c x y
        · exact d c (.inl x) y
      · simp only [un, e, or_assoc]
/-- an object that is nobody's is changed -/
theorem Ch.setl {p o} (m : Mt H p) (z : ¬ g.Z p) : Ch (fun b => b = p) g H g (upd H p o) where
  keep b u e n := by rw [upd_ne n]; exact e
  dom b u e := by
    by_cases hb : b = p
    · subst hb; exact ⟨o, upd_same⟩
    · exact ⟨u, by rw [upd_ne hb]; exact e⟩
  mt b h := by subst h; exact ⟨m, z⟩
  zle _ z := z
  znew _ z := .inl z
  rho := ⟨[], by simp⟩
theorem set_zd {p u} (z : ∀ b, g.Z b → ∃ o, H b = some o) : ∀ b, g.Z b → ∃ o, upd H p u b = some o := fun b x => by
  by_cases hb : b = p
  · subst hb; exact ⟨u, upd_same⟩
  · obtain ⟨o, e⟩ := z b x
    exact ⟨o, by rw [upd_ne hb]; exact e⟩
theorem PTs.imp {e : List Expr} {t t' : TT} (h : PTs X e t) (i : ∀ σ H Q, t' σ H Q → t σ H Q) : PTs X e t' := ⟨fun pins s σ H Q I q => h.run pins s σ H Q I (i _ _ _ q)⟩
theorem PTs.nil' : PTs X [] (OkB P W bYes) := PTs.imp pts_nil fun σ H Q ⟨g, st, F, rs, q⟩ => q.ret g H F (.refl rs)
theorem PTs.one' {t : BM} (h : PT X c (OkB P W t)) : PTs X [c] (OkB P W t) := pts_one h
/-- no exception -/
abbrev W0 : WX := fun _ _ _ _ => False
theorem imAt_get {own : List Nat} {sl : List O} (h : imAt own sl = true) {k : Nat} (hk : k ∈ own) : isIm (sl.getD k .hole) = true := by
  unfold imAt at h
  exact List.all_eq_true.mp h k hk
theorem PostS.over {own : List Nat} {g g1 g2 : Gh} {H H1 H2 : Hp} {F F1 F2 : Lo → Fp} {st1 st2 : St} {Fv Fw : Fp} (p : PostS P g H F g1 H1 F1 st1 σ Fv) (q : PostS P (g1.np) H1 F1 g2 H2 F2 { st2 with sl := wip st2.sl own } (wipe σ own) Fw) (im : imAt own st1.sl = true) :
    PostS P g H F (g2.wp g.pn) H2 (dropF F2 own) { st2 with sl := resto st1.sl own st2.sl } σ Fw := by
  have c1 : Ch (tot F1) g1 H1 (g2.wp g.pn) H2 := by
    have a : Ch emp g1 H1 (g1.np) H1 := .repn
    have b : Ch emp g2 H2 (g2.wp g.pn) H2 := .repn
    have c := (a.wider (fun _ h => h.elim) p.rs.mt).trans q.ch fun b h => .inl h
    exact c.trans b fun _ h => h.elim
  have cq : Ch emp g2 H2 (g2.wp g.pn) H2 := .repn
  have sub : ∀ b, tot (dropF F2 own) b → tot F2 b := fun b ⟨l, h⟩ => ⟨l, dropF_sub h⟩
  have ln : st2.sl.length = st1.sl.length := by
    have a := q.rs.len
    have b := p.rs.len
    simp only [wip_len, wipe_length] at a
    omega
  refine ⟨⟨?_, fun i o h => ?_, fun i o h => ?_, q.rs.ln, fun l m h b x y => q.rs.dj l m h b (dropF_sub x) (dropF_sub y), fun i b h x => q.rs.out1 i b (by simpa [wip_len, resto_len] using h) (dropF_sub x), fun i b h x => q.rs.out2 i b h x, ?_, q.rs.zd⟩, fun b x y => q.dj b x (sub b y), ?_, fun b x => ?_, rfl⟩
  · have b := p.rs.len
    simp only [resto_len]
    omega
  · have h' : (resto st1.sl own st2.sl)[i]? = some o := h
    have hl : i < st2.sl.length := by rw [← resto_len st1.sl st2.sl own]; exact (List.getElem?_eq_some_iff.mp h').1
    by_cases hi : i ∈ own
    · rw [resto_in hi hl] at h'
      have e : dropF F2 own (.inl i) = emp := by simp [dropF, hi]
      rw [e]
      have hl1 : i < st1.sl.length := by omega
      have e1 : st1.sl[i]? = some (st1.sl.getD i .hole) := by simp [List.getD, hl1]
      have im1 := imAt_get im hi
      cases h'
      rcases p.rs.slot i _ e1 with ⟨q, _⟩ | ⟨v, q, z⟩
      · exact .inl ⟨q, fun _ h => h⟩
      · refine .inr ⟨v, q, ?_⟩
        generalize st1.sl.getD i .hole = o at *
        cases o with
        | im x => exact .im (z.im_inv.ch c1)
        | hole => exact absurd rfl (not_hole z)
        | _ => cases im1
    · rw [resto_out hi] at h'
      have e : dropF F2 own (.inl i) = F2 (.inl i) := by simp [dropF, hi]
      rw [e]
      rcases q.rs.slot i o (by show (wip st2.sl own)[i]? = _; rw [wip_out hi]; exact h') with q | ⟨v, q, z⟩
      · exact .inl q
      · rw [wipe_out hi] at q
        exact .inr ⟨v, q, z.ch cq fun _ _ h => h.elim⟩
  · obtain ⟨t, e1, rr⟩ := q.rs.sto i o h
    exact ⟨t, e1, rr.ch cq fun _ _ h => h.elim⟩
  · intro z hz
    have hz : z ∈ g.pn := hz
    rw [← p.pn] at hz
    exact p.rs.pin z hz
  · exact p.ch.trans c1 fun b h => p.sub b (.inl h)
  · have q1 : tot F2 b ∨ Fw b := x.elim (fun x => .inl (sub b x)) .inr
    rcases q.sub b q1 with x | x
    · exact p.sub b (.inl x)
    · exact .inr (p.ch.back x)
theorem lc_go {own : List Nat} {src : IM} {T : Tg} {t : BM} {f : EM} {Q : VK} (hT : ∀ k ∈ slT T, k ∈ own) (h : OkE P W (eLc own src T t f) σ H Q) : tLc (OkI P W src) (gOf P.K T) (OkB P W0 t) (OkE P W0 f) own σ H Q := by
  obtain ⟨g, st, F, rs, q⟩ := h
  refine ⟨g, st, F, rs, q.bnd.imp (fun s1 is k g1 H1 F1 J p gv => ?_) fun _ _ _ z => z⟩
  intro Dl hD
  -- the block
  unfold RunAt blkM at k
  by_cases im : imAt own s1.sl = true
  · rw [if_pos im] at k
    have k1 : RunAt (lcL own T t f is []) s1 (fun st' acc => ∀ g' H' F' v Fv, PostS P g H F g' H' F' { st' with sl := resto s1.sl own st'.sl } σ Fv → RepO P g' H' (.lst acc) v Fv → Q v H') fun _ _ _ => False := by
      unfold RunAt
      cases hm : lcL own T t f is [] s1 with
      | none => rw [hm] at k; exact k
      | some z =>
        obtain ⟨z, s2⟩ := z
        rw [hm] at k
        cases z with
        | ok acc => exact k
        | ex c i => exact k
    clear k
    have cB : Ch emp g1 H1 (g1.np) H1 := .repn
    have rsB : RepS P (g1.np) H1 s1 σ F1 :=
      ⟨p.rs.len, fun i o h => (p.rs.slot i o h).imp id fun ⟨v, q, z⟩ => ⟨v, q, z.ch cB fun _ _ h => h.elim⟩, fun i o h => let ⟨t, e, z⟩ := p.rs.sto i o h; ⟨t, e, z.ch cB fun _ _ h => h.elim⟩, p.rs.ln, p.rs.dj, p.rs.out1, p.rs.out2, (fun _ h => by cases h), p.rs.zd⟩
    have start : PostS P (g1.np) H1 F1 (g1.np) (upd H1 Dl (.lst [])) (dropF F1 own) { s1 with sl := wip s1.sl own } (wipe σ own) (ins1 Dl emp) := by
      have r0 := rsB.wipe (own := own) rfl
      have cn : Ch emp (g1.np) H1 (g1.np) (upd H1 Dl (.lst [])) := .new hD
      refine ⟨r0.ch cn (fun _ _ h => h.elim) rfl rfl (new_zd p.rs.zd hD), fun b x ⟨l, y⟩ => ?_, cn.wider (fun _ h => h.elim) rsB.mt, fun b x => ?_, rfl⟩
      · rcases x with x | x
        · subst x
          obtain ⟨⟨_, e, _⟩, _⟩ := p.rs.mt _ ⟨l, dropF_sub y⟩
          rw [hD] at e; cases e
        · exact x
      · rcases x with ⟨l, x⟩ | x | x
        · exact .inl ⟨l, dropF_sub x⟩
        · subst x; exact .inr hD
        · exact x.elim
    have ro0 : RepO P (g1.np) (upd H1 Dl (.lst [])) (.lst []) (.ref Dl) (ins1 Dl emp) := .lst upd_same (p.rs.nz hD) .nil fun h => h
    refine ⟨fun i m Hx => m = is.length - i ∧ i ≤ is.length ∧ ∃ g' st' F' acc Fv, PostS P (g1.np) H1 F1 g' Hx F' { st' with sl := wip st'.sl own } (wipe σ own) Fv ∧ RepO P g' Hx (.lst acc) (.ref Dl) Fv ∧
      RunAt (lcL own T t f (is.drop i) acc) st' (fun st' acc => ∀ g' H' F' v Fv, PostS P g H F g' H' F' { st' with sl := resto s1.sl own st'.sl } σ Fv → RepO P g' H' (.lst acc) v Fv → Q v H') fun _ _ _ => False, ⟨is.length, rfl, Nat.zero_le _, _, s1, _, [], _, start, ro0, k1⟩, ?_⟩
    rintro i m H2 ⟨rfl, hi, g2, s2, F2, acc, Fv, p2, ra, k2⟩
    have cg : Ch (tot F1) g1 H1 g2 H2 := (cB.wider (fun _ h => h.elim) p.rs.mt).trans p2.ch fun b h => .inl h
    by_cases hlt : i < is.length
    · have ei : is[i]? = some is[i] := List.getElem?_eq_getElem hlt
      have ed : is.drop i = is[i] :: is.drop (i + 1) := List.drop_eq_getElem_cons hlt
      obtain ⟨go, yl⟩ := (gv g2 H2 _ cg).1 i _ ei
      refine .inr ⟨go, fun Hx => ∃ g' st' F' acc Fv, PostS P (g1.np) H1 F1 g' Hx F' { st' with sl := wip st'.sl own } (wipe σ own) Fv ∧ RepO P g' Hx (.lst acc) (.ref Dl) Fv ∧
        RunAt (lcL own T t f (is.drop (i + 1)) acc) st' (fun st' acc => ∀ g' H' F' v Fv, PostS P g H F g' H' F' { st' with sl := resto s1.sl own st'.sl } σ Fv → RepO P g' H' (.lst acc) v Fv → Q v H') fun _ _ _ => False,
        fun H' x => ⟨is.length - (i + 1), by omega, rfl, hlt, x⟩, fun x H3 y => ?_⟩
      obtain ⟨ho, rx⟩ := yl x H3 y
      have p3 : PostS P (g1.np) H1 F1 g2 H3 F2 { s2 with sl := wip s2.sl own } (wipe σ own) Fv ∧ RepO P g2 H3 (.lst acc) (.ref Dl) Fv := by
        rcases ho with rfl | ⟨t, o, hn, rfl⟩
        · exact ⟨p2, ra⟩
        · have cn : Ch emp g2 H2 g2 (upd H2 t o) := .new hn
          exact ⟨p2.mk1 hn (fun _ x => .inl x) fun b x => (ra.mt b x).1, ra.ch cn fun _ _ h => h.elim⟩
      obtain ⟨p3, ra3⟩ := p3
      rw [ed] at k2
      unfold lcL at k2
      have k3 : RunAt (bnd (putT T is[i]) fun _ => bnd t fun c => if c then bnd f fun o => if acc.length < sizeLine then lcL own T t f (is.drop (i + 1)) (acc ++ [o]) else lift none else lcL own T t f (is.drop (i + 1)) acc) { s2 with sl := wip s2.sl own } _ (fun _ _ _ => False) := k2
      have ep : g2.pn = [] := p2.pn
      refine putT_go (.refl p3.rs) rx (fun k hk q hq => by rw [ep] at hq; cases hq) k3.bnd fun st' σ' F' p4 of4 k4 => ?_
      have wq : wipe σ' own = wipe σ own := wipe_eq of4 hT
      refine ⟨wq, ?_⟩
      -- the test
      have q4 := k4.bnd
      refine ⟨g2, st', F', p4.rs, q4.imp (fun s5 c k5 g5 H5 F5 p5 => ?_) fun _ _ _ z => z.elim⟩
      have tot4 : ∀ b, tot F' b → tot F2 b ∨ H3 b = none := fun b h => p4.sub b (.inl h)
      have base : ∀ {g6 H6 F6 s6 σ6 Fw}, PostS P g2 H3 F2 g6 H6 F6 s6 σ6 Fw → PostS P (g1.np) H1 F1 g6 H6 F6 s6 σ6 (un Fv Fw) ∧ RepO P g6 H6 (.lst acc) (.ref Dl) Fv ∧ Fp.dj Fv Fw := fun {g6 H6 F6 s6 σ6 Fw} p6 => p3.both ra3 p6
      have fin : ∀ {g6 H6 F6 s6 Fz acc'}, PostS P (g1.np) H1 F1 g6 H6 F6 s6 σ' Fz → RepO P g6 H6 (.lst acc') (.ref Dl) Fz → RunAt (lcL own T t f (is.drop (i + 1)) acc') s6 (fun st' acc => ∀ g' H' F' v Fv, PostS P g H F g' H' F' { st' with sl := resto s1.sl own st'.sl } σ Fv → RepO P g' H' (.lst acc) v Fv → Q v H') (fun _ _ _ => False) →
          ∃ g' st' F' acc Fv, PostS P (g1.np) H1 F1 g' H6 F' { st' with sl := wip st'.sl own } (wipe σ own) Fv ∧ RepO P g' H6 (.lst acc) (.ref Dl) Fv ∧
            RunAt (lcL own T t f (is.drop (i + 1)) acc) st' (fun st' acc => ∀ g' H' F' v Fv, PostS P g H F g' H' F' { st' with sl := resto s1.sl own st'.sl } σ Fv → RepO P g' H' (.lst acc) v Fv → Q v H') fun _ _ _ => False := fun {g6 H6 F6 s6 Fz acc'} p6 r6 k6 => by
        have r7 := p6.rs.wipe (own := own) p6.pn
        rw [wq] at r7
        exact ⟨g6, s6, dropF F6 own, acc', Fz, ⟨r7, fun b x ⟨l, y⟩ => p6.dj b x ⟨l, dropF_sub y⟩, p6.ch, fun b x => p6.sub b (x.imp (fun ⟨l, y⟩ => ⟨l, dropF_sub y⟩) id), p6.pn⟩, r6, k6⟩
      cases c with
      | false =>
        simp only [Bool.false_eq_true, if_false] at k5 ⊢
        obtain ⟨p6, r6, _⟩ := base (p4.trans p5)
        have p6' : PostS P (g1.np) H1 F1 g5 H5 F5 s5 σ' Fv := ⟨p6.rs, fun b x y => p6.dj b (.inl x) y, p6.ch, fun b x => p6.sub b (x.imp id .inl), p6.pn⟩
        exact fin p6' r6 k5
      | true =>
        simp only [if_true] at k5 ⊢
        have q5 := k5.bnd
        refine ⟨g5, s5, F5, p5.rs, q5.imp (fun s6 o k6 g6 H6 F6 v Fw p6 ro => ?_) fun _ _ _ z => z.elim⟩
        obtain ⟨p7, r7, d7⟩ := base ((p4.trans p5).trans p6)
        by_cases hz : acc.length < sizeLine
        · rw [if_pos hz] at k6
          cases r7 with
          | @lst _ _ vs Fa e7 z7 rl n7 =>
            refine ⟨vs, e7, by rw [← rl.len]; exact hz, ?_⟩
            have nF : ¬ Fw Dl := fun x => d7 Dl (.inl rfl) x
            obtain ⟨F8, r8, e8⟩ := rl.snoc ro fun b x y => d7 b (.inr x) y
            have cs : Ch (fun b => b = Dl) g6 H6 g6 (upd H6 Dl (.lst (vs ++ [v]))) := .setl ⟨_, e7, rfl⟩ z7
            have n8 : ¬ F8 Dl := fun x => ((e8 Dl).mp x).elim n7 nF
            have r9 : RepO P g6 (upd H6 Dl (.lst (vs ++ [v]))) (.lst (acc ++ [o])) (.ref Dl) (ins1 Dl F8) :=
              .lst upd_same z7 (r8.ch cs fun b x y => n8 (by rw [← y]; exact x)) n8
            have nt : ¬ tot F6 Dl := fun x => p7.dj Dl (.inl (.inl rfl)) x
            have nb : H1 Dl = none := hD
            refine fin (Fz := ins1 Dl F8) ⟨p7.rs.ch cs (fun b x y => nt (by rw [← y]; exact x)) rfl rfl (set_zd p7.rs.zd), fun b x y => ?_, p7.ch.trans cs fun b x => .inr (by rw [x]; exact nb), fun b x => ?_, p7.pn⟩ r9 k6
            · rcases x with x | x
              · subst x; exact nt y
              · rcases (e8 b).mp x with x | x
                · exact p7.dj b (.inl (.inr x)) y
                · exact p7.dj b (.inr x) y
            · rcases x with x | x | x
              · exact p7.sub b (.inl x)
              · subst x; exact .inr nb
              · rcases (e8 b).mp x with x | x
                · exact p7.sub b (.inr (.inl (.inr x)))
                · exact p7.sub b (.inr (.inr x))
        · rw [if_neg hz] at k6
          exact k6.elim
    · have e : i = is.length := by omega
      subst e
      rw [List.drop_length] at k2
      refine .inl ⟨(gv g2 H2 _ cg).2, ?_⟩
      have k2 : ∀ g' H' F' v Fv, PostS P g H F g' H' F' { s2 with sl := resto s1.sl own s2.sl } σ Fv → RepO P g' H' (.lst acc) v Fv → Q v H' := k2
      have cq : Ch emp g2 H2 (g2.wp g.pn) H2 := .repn
      exact k2 _ H2 _ (.ref Dl) Fv (PostS.over p p2 im) (ra.ch cq fun _ _ h => h.elim)
  · rw [if_neg im] at k
    exact k.elim
theorem ev_lc {elt tg iter : Expr} {ifs : List Expr} {scope : Scope} {own : List (Str × Nat)} {pos : Pos} {src : IM} {T : Tg} {t : BM} {f : EM} (hc : X.calm = true) (hN : X.N.Nodup) (hi : PI X tg iter (OkI ⟨X.K, n⟩ W src)) (ok : BlkOk X.N X.env.scope scope own)
    (hT : ∀ k ∈ slT T, k ∈ own.map (·.2))
    (hg : ∀ (s : Shared) (H : Hp) (C : Addr) (cl : List (Str × Addr)) (fp : List Addr), PG (X.blk s H scope (compEnvC scope cl C X.env) fp) tg (gOf X.K T)) (ht : ∀ (s : Shared) (H : Hp) (C : Addr) (cl : List (Str × Addr)) (fp : List Addr), PTs (X.blk s H scope (compEnvC scope cl C X.env) fp) ifs (OkB ⟨X.K, n⟩ W0 t))
    (he : ∀ (s : Shared) (H : Hp) (C : Addr) (cl : List (Str × Addr)) (fp : List Addr), PE (X.blk s H scope (compEnvC scope cl C X.env) fp) elt (OkE ⟨X.K, n⟩ W0 f)) (hs : ∀ x, foldedSetIterable iter X.env x = pure x := by intro _; rfl) :
    PE X (.ListComp elt [⟨tg, iter, ifs, 0⟩] scope pos) (OkE ⟨X.K, n⟩ W (eLc (own.map (·.2)) src T t f)) :=
  PE.imp (pe_lc hc hN hi ok hg ht he hs) fun _ _ _ h => lc_go (P := ⟨X.K, n⟩) hT h
theorem sv_setLc {i : Nat} {y : Str} {py : Pos} {elt tg iter : Expr} {ifs : List Expr} {scope : Scope} {own : List (Str × Nat)} {pos spos : Pos} {src : IM} {T : Tg} {t : BM} {f : EM} (hk : i ∉ io) (hc : X.calm = true) (hN : X.N.Nodup) (hy : X.N[i]? = some y) (hyl : X.env.scope.names.lookup y = some .local)
    (hsw : swapsWith (.ListComp elt [⟨tg, iter, ifs, 0⟩] scope pos) (some (.Name y py)) spos.line X.env = pure true) (hi : PI X tg iter (OkI ⟨X.K, n⟩ W src)) (ok : BlkOk X.N X.env.scope scope own)
    (hT : ∀ k ∈ slT T, k ∈ own.map (·.2))
    (hg : ∀ (s : Shared) (H : Hp) (C : Addr) (cl : List (Str × Addr)) (fp : List Addr), PG (X.blk s H scope (compEnvC scope cl C X.env) fp) tg (gOf X.K T)) (ht : ∀ (s : Shared) (H : Hp) (C : Addr) (cl : List (Str × Addr)) (fp : List Addr), PTs (X.blk s H scope (compEnvC scope cl C X.env) fp) ifs (OkB ⟨X.K, n⟩ W0 t))
    (he : ∀ (s : Shared) (H : Hp) (C : Addr) (cl : List (Str × Addr)) (fp : List Addr), PE (X.blk s H scope (compEnvC scope cl C X.env) fp) elt (OkE ⟨X.K, n⟩ W0 f)) (hs : ∀ x, foldedSetIterable iter X.env x = pure x := by intro _; rfl) :
    PS X (.Assign [.Name y py] (.ListComp elt [⟨tg, iter, ifs, 0⟩] scope pos) spos) (OkS ⟨X.K, n⟩ W io (sSet i (eLc (own.map (·.2)) src T t f))) :=
  PS.imp (ps_setLc hc hN hy hyl hsw hi ok hg ht he hs) fun D σ H h => lc_go (P := ⟨X.K, n⟩) hT (set_go hk h)
end
end VS

namespace VS
open PySem L2
section
variable {n : Pn} {W : WX} {X : Cx} {P : Pg} {e a b c tg : Expr} {es : List Expr} {g g' : Gh} {H H' : Hp} {st st' : St} {σ : L2.St} {F F' : Lo → Fp} {FX Fv : Fp} {pos : Pos}
/-! ### what a value is, read off -/
theorem RepF.non_inv {v} (r : RepF P g H .non v) : v = .non := by cases r with | im r => cases r; rfl
theorem RepF.bl_inv {x v} (r : RepF P g H (.bl x) v) : v = .bl x := by cases r with | im r => cases r; rfl
theorem RepF.int_inv {x v} (r : RepF P g H (.int x) v) : v = .int x := by cases r with | im r => cases r; rfl
theorem RepF.str_inv {x v} (r : RepF P g H (.str x) v) : v = .str x := by cases r with | im r => cases r; rfl
theorem RepF.lst_inv {l v} (r : RepF P g H (.lst l) v) : ∃ p vs, v = .ref p ∧ LsR P.K H p vs ∧ RepIL P g H l vs := by
  cases r with
  | im r => cases r with | lst h r => exact ⟨_, _, rfl, h.r, r⟩
  | lst h r => exact ⟨_, _, rfl, h, r⟩
theorem RepF.tup_inv {l v} (r : RepF P g H (.tup l) v) : ∃ p vs, v = .ref p ∧ SqT P.K H p vs ∧ RepIL P g H l vs := by
  cases r with
  | im r => cases r with | tup h r => exact ⟨_, _, rfl, h, r⟩
/-- l's list or tuple -/
theorem RepF.seq_inv {i l v} (r : RepF P g H i v) (h : i = .lst l ∨ i = .tup l) : ∃ p vs, v = .ref p ∧ (SqL P.K H p vs ∨ SqT P.K H p vs) ∧ RepIL P g H l vs := by
  rcases h with rfl | rfl
  · obtain ⟨p, vs, a, b, c⟩ := r.lst_inv
    exact ⟨p, vs, a, .inl b.sq, c⟩
  · obtain ⟨p, vs, a, b, c⟩ := r.tup_inv
    exact ⟨p, vs, a, .inr b, c⟩
theorem RepFL.one {i vs} (r : RepFL P g H [i] vs) : ∃ v, vs = [v] ∧ RepF P g H i v := by
  cases r with | cons a b => cases b; exact ⟨_, rfl, a⟩
theorem RepFL.two {i j vs} (r : RepFL P g H [i, j] vs) : ∃ v u, vs = [v, u] ∧ RepF P g H i v ∧ RepF P g H j u := by
  cases r with | cons a b => cases b with | cons b c => cases c; exact ⟨_, _, rfl, a, b⟩
theorem RepFL.len {is vs} (r : RepFL P g H is vs) : is.length = vs.length := Paired.length r
/-- a new list -/
theorem PostR.newL {l : List I} {p vs} (hp : H p = none) (zd : ∀ b, g.Z b → ∃ o, H b = some o) (r : RepIL P g H l vs) : PostR P g H g (upd H p (.lst vs)) (.lst (l.map .im)) (.ref p) (ins1 p emp) where
  ro := .lst upd_same (fun z => by obtain ⟨o, e⟩ := zd p z; rw [hp] at e; cases e) (r.ch (.new hp)).o fun h => h
  ch := .new hp
  fr b h := h.elim (fun e => by rw [e]; exact hp) fun h => h.elim
  rho := rfl
  zz := rfl
  pn := rfl
/-- a new tuple -/
theorem PostR.newT {l : List I} {p vs} (hp : H p = none) (r : RepIL P g H l vs) : PostR P g H g (upd H p (.tup vs)) (.im (.tup l)) (.ref p) emp where
  ro := .im (.tup (.inl (.of upd_same)) (r.ch (.new hp)))
  ch := .new hp
  fr _ h := h.elim
  rho := rfl
  zz := rfl
  pn := rfl
theorem RepIL.append {l m : List I} {vs ws} (a : RepIL P g H l vs) (b : RepIL P g H m ws) : RepIL P g H (l ++ m) (vs ++ ws) := by
  induction l generalizing vs with
  | nil => cases a; exact b
  | cons i l ih => cases a with | cons x y => exact .cons x (ih y)
theorem RepIL.drop {l : List I} {vs} (k : Nat) (a : RepIL P g H l vs) : RepIL P g H (l.drop k) (vs.drop k) := by
  induction k generalizing l vs with
  | zero => exact a
  | succ k ih => cases a with
    | nil => exact .nil
    | cons x y => exact ih y
theorem RepIL.take {l : List I} {vs} (k : Nat) (a : RepIL P g H l vs) : RepIL P g H (l.take k) (vs.take k) := by
  induction k generalizing l vs with
  | zero => exact .nil
  | succ k ih => cases a with
    | nil => exact .nil
    | cons x y => exact .cons x (ih y)
theorem RepIL.flat {l : List I} {vs} (k : Nat) (a : RepIL P g H l vs) : RepIL P g H (List.replicate k l).flatten (List.replicate k vs).flatten := by
  induction k with
  | zero => exact .nil
  | succ k ih => exact a.append ih
/-! ### arithmetic -/
def mulOk (i j : Int) : Bool := decide ((-(2 ^ 64) < i ∧ i < 2 ^ 64) ∨ (-(2 ^ 64) < j ∧ j < 2 ^ 64)) || decide (i.natAbs.log2 + j.natAbs.log2 < 1000000)
def rep62 (k : Int) : Bool := decide (-(2 ^ 62) < k ∧ k < 2 ^ 62)
def fAdd : List I → Option O
  | [.int i, .int j] => some (.im (.int (i + j)))
  | [.str i, .str j] => if i.length + j.length ≤ sizeLine then some (.im (.str (i ++ j))) else none
  | [.lst l, .lst m] => if l.length + m.length ≤ sizeLine then some (.lst ((l ++ m).map .im)) else none
  | [.tup l, .tup m] => if l.length + m.length ≤ sizeLine then some (.im (.tup (l ++ m))) else none
  | _ => none
def fSub : List I → Option O
  | [.int i, .int j] => some (.im (.int (i - j)))
  | _ => none
def strRep (x : Str) (k : Nat) : Str := ⟨(List.replicate k x.cps.toList).flatten.toArray⟩
def fMul : List I → Option O
  | [.int i, .int j] => if mulOk i j then some (.im (.int (i * j))) else none
  | [.str x, .int k] => if rep62 k && decide (x.length * k.toNat ≤ sizeLine) then some (.im (.str (strRep x k.toNat))) else none
  | [.lst l, .int k] => if rep62 k && decide (l.length * k.toNat ≤ sizeLine) then some (.lst ((List.replicate k.toNat l).flatten.map .im)) else none
  | [.tup l, .int k] => if decide (l ≠ [] ∧ 2 ≤ k ∧ k ≤ 1000 ∧ l.length ≤ 1000) then some (.im (.tup (List.replicate k.toNat l).flatten)) else none
  | _ => none
def fdvOk (j : Int) : Bool := decide (0 < j ∧ j < 1073741824) || decide (0 < j ∧ j.natAbs.log2 < 9000)
def fFdv : List I → Option O
  | [.int i, .int j] => if fdvOk j then some (.im (.int (i / j))) else none
  | _ => none
def fMod : List I → Option O
  | [.int i, .int j] => if decide (0 < j) then some (.im (.int (i % j))) else none
  | _ => none
def fPow : List I → Option O
  | [.int i, .int j] => if decide (0 ≤ j ∧ j ≤ 1000000 ∧ i.natAbs < 2 ^ 64) then some (.im (.int (i ^ j.toNat))) else none
  | _ => none
def fNeg : List I → Option O
  | [.int i] => some (.im (.int (-i)))
  | _ => none
theorem q_int {i : Int} {o : O} {Q : VK} (q : ∀ g' H' v Fv, PostR P g H g' H' o v Fv → Q v H') (e : some (O.im (.int i)) = some o) : Q (.int i) H := by
  cases e; exact q g H _ emp (.same (.int i))
theorem q_bl {i : Bool} {o : O} {Q : VK} (q : ∀ g' H' v Fv, PostR P g H g' H' o v Fv → Q v H') (e : some (O.im (.bl i)) = some o) : Q (.bl i) H := by
  cases e; exact q g H _ emp (.same (.bl i))
theorem q_str {i : Str} {o : O} {Q : VK} (q : ∀ g' H' v Fv, PostR P g H g' H' o v Fv → Q v H') (e : some (O.im (.str i)) = some o) : Q (.str i) H := by
  cases e; exact q g H _ emp (.same (.str i))
/-- a list that may be read, as it stands in the heap -/
theorem rd_list {pins : List (Addr × Obj)} {s : Shared} {l : Addr} {xs : List V} (I : L2.Inv X pins σ H s) (h : LsR X.K H l xs) : xs.length ≤ sizeLine ∧ ∃ (its : List Value) (k : Nat), Vals xs its ∧ xs.length = its.length ∧ s.heap.get? l = some { cls := .type "list", data := .seq its.toArray k } := by
  rcases h with h | ⟨its, k, h, hz, rv⟩
  · obtain ⟨hz, its, k, rv, e⟩ := h.ok I.hok
    exact ⟨hz, its, k, rv, rv.length, e⟩
  · exact ⟨by rw [rv.length]; simpa using hz, its.toList, k, rv, rv.length, by simpa using I.kIn _ _ h⟩
theorem op_catR : OpR X (binaryOp .Add) fun x y H Q => ∃ l b xs zs, x = .ref l ∧ y = .ref b ∧ LsR X.K H l xs ∧ LsR X.K H b zs ∧ xs.length + zs.length ≤ sizeLine ∧ ∀ p, H p = none → Q (.ref p) (upd H p (.lst (xs ++ zs))) := by
  intro pins s σ H x y v u Q Iv rx ry h
  obtain ⟨l, b, xs, zs, rfl, rfl, h1, h2, hz, q⟩ := h
  cases rx
  cases ry
  obtain ⟨z1, is1, k1, v1, l1, e1⟩ := rd_list Iv h1
  obtain ⟨z2, is2, k2, v2, l2, e2⟩ := rd_list Iv h2
  have hs : is1.toArray.size + is2.toArray.size ≤ sizeLine := by simp only [List.size_toArray]; omega
  refine PySem.P.add_list e1 e2 ?_ hs
  rw [List.append_toArray]
  exact ⟨.ref s.heap.objs.size, _, Iv.lnew (t' := s.toks) (v1.append v2) (by rw [List.length_append]; exact hz), rfl, q _ Iv.fresh⟩
theorem op_repR : OpR X (binaryOp .Mult) fun x y H Q => ∃ l k xs, x = .ref l ∧ y = .int k ∧ LsR X.K H l xs ∧ -(2 ^ 63) ≤ k ∧ k < 2 ^ 63 ∧ xs.length * k.toNat ≤ sizeLine ∧
    ∀ p, H p = none → Q (.ref p) (upd H p (.lst (List.replicate k.toNat xs).flatten)) := by
  intro pins s σ H x y v u Q Iv rx ry hyp
  obtain ⟨l, k, xs, rfl, rfl, h1, lo, hi, hsz, q⟩ := hyp
  cases rx
  obtain ⟨tk, rfl⟩ := ry
  obtain ⟨z1, is1, k1, v1, l1, e1⟩ := rd_list Iv h1
  have sz : is1.toArray.size * k.toNat ≤ sizeLine := by simpa [← l1] using hsz
  have c1 : ¬ is1.toArray.size * k.toNat > (2 ^ 63 - 1) / 8 := fun z => by
    have y : (sizeLine : Nat) ≤ (2 ^ 63 - 1) / 8 := by decide
    omega
  have c2 : ¬ (!Builtin.List.listFitsIndex k) = true := by rw [fitsIndex_both lo hi]; decide
  have c3 : ¬ Builtin.List.listTooLong (is1.toArray.size * k.toNat) = true := by rw [notLongL sz]; decide
  have all : ∀ (m : Nat) (acc : List Value), (List.replicate m is1.toArray).foldl (fun a b => a ++ b) acc.toArray = (acc ++ (List.replicate m is1).flatten).toArray := by
    intro m
    induction m with
    | zero => intro acc; simp
    | succ m ih =>
      intro acc
      rw [List.replicate_succ, List.foldl_cons, List.append_toArray, ih, List.replicate_succ, List.flatten_cons, List.append_assoc]
  have made : (List.replicate (if is1.toArray.isEmpty = true then 0 else k.toNat) is1.toArray).foldl (fun a b => a ++ b) #[] = (List.replicate k.toNat is1).flatten.toArray := by
    have all0 := fun m => (all m []).trans (by rw [List.nil_append])
    cases is1 with
    | nil => exact (all0 _).trans (by simp)
    | cons y ys =>
      rw [if_neg (by simp)]
      exact all0 _
  have lst : s.TypeIs (.ref l) "list" := ⟨_, e1, rfl⟩
  refine wpAny_binaryOp_repeat_ref (T := "list") (U := "int") (by decide) lst (fun _ => typeIs_int _ k tk)
    noFill_list_mul F.fills_int_mul F.slot_int_rmul repeat_list F.slot_int_index.lookup ?_
  refine call_meets F.slot_int_rmul (typeIs_int s k tk) F.entry_int_rmul (F.args_int_rmul_2 _ _)
    (int___rmul___int_list k tk l is1.toArray k1) ⟨e1, rfl, lst, ?_⟩
  refine call_meets F.slot_list_mul lst F.entry_list_mul (F.args_list_mul_2 _ _)
    (AutoListH.list___mul___list_int_3 l is1.toArray k1 k tk c2 c1 c3) ⟨e1, ?_⟩
  rw [made]
  refine ⟨.ref s.heap.objs.size, _, Iv.lnew (t' := s.toks) (v1.rep k.toNat) ?_, rfl, q _ Iv.fresh⟩
  rw [PyProof.Rows.lm_len_rep_flat, Nat.mul_comm]
  exact hsz
theorem or_add : OpR X (binaryOp .Add) fun x y => RdOp ⟨X.K, n⟩ fAdd [x, y] := by
  intro pins s σ H x y v u Q Iv rx ry h
  obtain ⟨g, is, zd, hr, o, ho, q⟩ := h
  unfold fAdd at ho
  split at ho
  · obtain ⟨_, _, ev, h1, h2⟩ := hr.two
    cases ev
    cases h1.int_inv
    cases h2.int_inv
    exact op_add pins s σ H _ _ v u Q Iv rx ry ⟨_, _, rfl, rfl, q_int q ho⟩
  · split at ho
    · obtain ⟨_, _, ev, h1, h2⟩ := hr.two
      cases ev
      cases h1.str_inv
      cases h2.str_inv
      exact op_add_str pins s σ H _ _ v u Q Iv rx ry ⟨_, _, rfl, rfl, by assumption, q_str q ho⟩
    · cases ho
  · split at ho
    · obtain ⟨_, _, ev, h1, h2⟩ := hr.two
      cases ev
      obtain ⟨p, vs, rfl, hp, r1⟩ := h1.lst_inv
      obtain ⟨p', vs', rfl, hp', r2⟩ := h2.lst_inv
      cases ho
      exact op_catR pins s σ H _ _ v u Q Iv rx ry ⟨_, _, _, _, rfl, rfl, hp, hp', by rw [← r1.len, ← r2.len]; assumption, fun p hn => q _ _ _ _ (.newL hn zd (r1.append r2))⟩
    · cases ho
  · split at ho
    · obtain ⟨_, _, ev, h1, h2⟩ := hr.two
      cases ev
      obtain ⟨p, vs, rfl, hp, r1⟩ := h1.tup_inv
      obtain ⟨p', vs', rfl, hp', r2⟩ := h2.tup_inv
      cases ho
      refine op_catA pins s σ H _ _ v u Q Iv rx ry ⟨_, _, _, _, rfl, rfl, hp, hp', by rw [← r1.len, ← r2.len]; assumption, fun e => ?_, fun _ e => ?_, fun _ _ p hn => q _ _ _ _ (.newT hn (r1.append r2))⟩
      · subst e
        cases r1
        exact q g H _ emp (.same (.tup hp' r2))
      · subst e
        cases r2
        rw [List.append_nil] at q
        exact q g H _ emp (.same (.tup hp r1))
    · cases ho
  · cases ho
theorem or_sub : OpR X (binaryOp .Sub) fun x y => RdOp ⟨X.K, n⟩ fSub [x, y] := by
  intro pins s σ H x y v u Q Iv rx ry h
  obtain ⟨g, is, zd, hr, o, ho, q⟩ := h
  unfold fSub at ho
  split at ho
  · obtain ⟨_, _, ev, h1, h2⟩ := hr.two
    cases ev
    cases h1.int_inv
    cases h2.int_inv
    exact op_sub pins s σ H _ _ v u Q Iv rx ry ⟨_, _, rfl, rfl, q_int q ho⟩
  · cases ho
theorem or_fdv : OpR X (binaryOp .FloorDiv) fun x y => RdOp ⟨X.K, n⟩ fFdv [x, y] := by
  intro pins s σ H x y v u Q Iv rx ry h
  obtain ⟨g, is, zd, hr, o, ho, q⟩ := h
  unfold fFdv at ho
  split at ho
  · obtain ⟨_, _, ev, h1, h2⟩ := hr.two
    cases ev
    cases h1.int_inv
    cases h2.int_inv
    split at ho
    · rename_i hc
      rcases Bool.or_eq_true_iff.mp (show fdvOk _ = true from hc) with hc | hc
      · have hc2 := of_decide_eq_true hc
        exact op_fdiv pins s σ H _ _ v u Q Iv rx ry ⟨_, _, rfl, rfl, hc2, q_int q ho⟩
      · have hc2 := of_decide_eq_true hc
        exact op_fdivW pins s σ H _ _ v u Q Iv rx ry ⟨_, _, rfl, rfl, hc2, q_int q ho⟩
    · cases ho
  · cases ho
theorem or_mod : OpR X (binaryOp .Mod) fun x y => RdOp ⟨X.K, n⟩ fMod [x, y] := by
  intro pins s σ H x y v u Q Iv rx ry h
  obtain ⟨g, is, zd, hr, o, ho, q⟩ := h
  unfold fMod at ho
  split at ho
  · obtain ⟨_, _, ev, h1, h2⟩ := hr.two
    cases ev
    cases h1.int_inv
    cases h2.int_inv
    split at ho
    · rename_i hc
      have hc2 := of_decide_eq_true hc
      exact op_mod pins s σ H _ _ v u Q Iv rx ry ⟨_, _, rfl, rfl, hc2, q_int q ho⟩
    · cases ho
  · cases ho
theorem or_pow : OpR X (binaryOp .Pow) fun x y => RdOp ⟨X.K, n⟩ fPow [x, y] := by
  intro pins s σ H x y v u Q Iv rx ry h
  obtain ⟨g, is, zd, hr, o, ho, q⟩ := h
  unfold fPow at ho
  split at ho
  · obtain ⟨_, _, ev, h1, h2⟩ := hr.two
    cases ev
    cases h1.int_inv
    cases h2.int_inv
    split at ho
    · rename_i hc
      have hc2 := of_decide_eq_true hc
      exact op_pow pins s σ H _ _ v u Q Iv rx ry ⟨_, _, rfl, rfl, hc2, q_int q ho⟩
    · cases ho
  · cases ho
theorem foldl_rep (x : Array Nat) : ∀ (k : Nat) (acc : Array Nat), ((List.replicate k x).foldl (· ++ ·) acc).toList = acc.toList ++ (List.replicate k x.toList).flatten
  | 0, acc => by simp
  | k + 1, acc => by
    rw [List.replicate_succ, List.foldl_cons, foldl_rep x k (acc ++ x), List.replicate_succ, List.flatten_cons, Array.toList_append, List.append_assoc]
theorem or_mul : OpR X (binaryOp .Mult) fun x y => RdOp ⟨X.K, n⟩ fMul [x, y] := by
  intro pins s σ H x y v u Q Iv rx ry h
  obtain ⟨g, is, zd, hr, o, ho, q⟩ := h
  unfold fMul at ho
  split at ho
  · obtain ⟨_, _, ev, h1, h2⟩ := hr.two
    cases ev
    cases h1.int_inv
    cases h2.int_inv
    split at ho
    · rename_i hc
      unfold mulOk at hc
      rcases Bool.or_eq_true_iff.mp hc with hc | hc
      · have hc2 := of_decide_eq_true hc
        exact op_mul pins s σ H _ _ v u Q Iv rx ry ⟨_, _, rfl, rfl, hc2, q_int q ho⟩
      · have hc2 := of_decide_eq_true hc
        exact op_mulW pins s σ H _ _ v u Q Iv rx ry ⟨_, _, rfl, rfl, hc2, q_int q ho⟩
    · cases ho
  · obtain ⟨_, _, ev, h1, h2⟩ := hr.two
    cases ev
    cases h1.str_inv
    cases h2.int_inv
    rename_i x k
    split at ho
    · rename_i hc
      obtain ⟨h3, h4⟩ := Bool.and_eq_true_iff.mp hc
      have h3 : -(2 ^ 62) < k ∧ k < 2 ^ 62 := of_decide_eq_true h3
      have h4 : x.length * k.toNat ≤ sizeLine := of_decide_eq_true h4
      obtain ⟨t, rfl⟩ := rx
      obtain ⟨t', rfl⟩ := ry
      cases ho
      have b63 : (decide (k < -(2 ^ 63 : Int)) || decide (k ≥ 2 ^ 63)) = false := by
        have e1 : ¬ k < -(2 ^ 63 : Int) := by omega
        have e2 : ¬ k ≥ 2 ^ 63 := by omega
        rw [decide_eq_false e1, decide_eq_false e2]; rfl
      have hz : sizeLine = 16777216 := sizeLine_eq
      refine PySem.P.mul_str b63 (fun hn hb => ?_) (fun hn hb => ?_) ?_
      · have hk : 0 < k := by omega
        have : (x.length : Int) * k ≤ 16777216 := by
          have e : ((x.length * k.toNat : Nat) : Int) = (x.length : Int) * k := by
            rw [Int.natCast_mul, Int.toNat_of_nonneg (by omega)]
          rw [← e]
          omega
        have h5 : (x.length : Int) ≤ (2 ^ 63 - 1) / k := by
          rw [Int.le_ediv_iff_mul_le hk]
          omega
        omega
      · unfold Builtin.Str.tooLong
        exact decide_eq_false (by omega)
      · split
        · rename_i hk
          have e : strRep x k.toNat = Str.empty := by
            have : k.toNat = 0 := by omega
            simp [strRep, this, Str.empty]
          refine ⟨by decide, ⟨.str _, H, Iv.tok _, ⟨_, rfl⟩, ?_⟩⟩
          rw [← e]
          exact q g H _ emp (.same (.str _))
        · split
          · rename_i h1 h2
            have e : strRep x k.toNat = x := by
              rcases Bool.or_eq_true_iff.mp h2 with h2 | h2
              · have : k = 1 := by simpa using h2
                subst this
                simp [strRep]
              · have h2 : x.length = 0 := by simpa using h2
                have h2 : x.cps = #[] := by simpa [Str.length] using h2
                have : ∀ m, (List.replicate m ([] : List Nat)).flatten = [] := fun m => by induction m <;> simp_all [List.replicate_succ]
                cases x
                simp only at h2
                subst h2
                simp [strRep, this]
            refine ⟨.str _, H, Iv, ⟨_, rfl⟩, ?_⟩
            rw [← e]
            exact q g H _ emp (.same (.str _))
          · have e : (⟨(List.replicate k.toNat x.cps).foldl (· ++ ·) #[]⟩ : Str) = strRep x k.toNat := by
              unfold strRep
              congr 1
              apply Array.toList_inj.mp
              rw [foldl_rep]
              simp
            rw [e]
            refine ⟨?_, ⟨.str _, H, Iv.tok _, ⟨_, rfl⟩, q g H _ emp (.same (.str _))⟩⟩
            show (strRep x k.toNat).length ≤ sizeLine
            have : (strRep x k.toNat).length = k.toNat * x.length := by
              simp [strRep, Str.length, List.length_flatten]
            rw [this, Nat.mul_comm]
            exact h4
    · cases ho
  · obtain ⟨_, _, ev, h1, h2⟩ := hr.two
    cases ev
    obtain ⟨p, vs, rfl, hp, r1⟩ := h1.lst_inv
    cases h2.int_inv
    split at ho
    · rename_i hc
      obtain ⟨h3, h4⟩ := Bool.and_eq_true_iff.mp hc
      have h3 := of_decide_eq_true h3
      have h4 := of_decide_eq_true h4
      cases ho
      exact op_repR pins s σ H _ _ v u Q Iv rx ry ⟨_, _, _, rfl, rfl, hp, by omega, by omega, by rw [← r1.len]; exact h4, fun p hn => q _ _ _ _ (.newL hn zd (r1.flat _))⟩
    · cases ho
  · obtain ⟨_, _, ev, h1, h2⟩ := hr.two
    cases ev
    obtain ⟨p, vs, rfl, hp, r1⟩ := h1.tup_inv
    cases h2.int_inv
    split at ho
    · rename_i hc
      obtain ⟨h3, h4, h5, h6⟩ := of_decide_eq_true hc
      cases ho
      refine op_repT pins s σ H _ _ v u Q Iv rx ry ⟨_, _, _, rfl, rfl, hp, fun e => ?_, h4, h5, by rw [← r1.len]; exact h6, fun p hn => q _ _ _ _ (.newT hn (r1.flat _))⟩
      subst e
      cases r1
      exact h3 rfl
    · cases ho
  · cases ho
end
end VS

namespace VS
open PySem L2
/-! ### data -/
mutual
def toD : I → Option PyData
  | .non => some .none
  | .bl b => some (.bool b)
  | .int i => some (.int i)
  | .str s => some (.str s)
  | .tup l => (toDL l).map .tuple
  | .lst l => (toDL l).map .list
  | .dct _ => none
  | .ref _ => none
  | .fn _ => none
def toDL : List I → Option (List PyData)
  | [] => some []
  | i :: is => match toD i, toDL is with
    | some d, some ds => some (d :: ds)
    | _, _ => none
end
def okD (d : PyData) : Bool := d.canLay0
def fEqB (neg : Bool) : List I → Option O
  | [i, j] => match toD i, toD j with
    | some d, some e => if okD d && okD e && decide (min d.depth e.depth ≤ 120) then some (.im (.bl (if neg then !PyData.eqv d e else PyData.eqv d e))) else none
    | _, _ => none
  | _ => none
def fEq : List I → Option O := fEqB false
def fNe : List I → Option O := fEqB true
def strLt (x y : Str) : Bool := decide (x.cps.toList < y.cps.toList)
def fLt : List I → Option O
  | [.int i, .int j] => some (.im (.bl (decide (i < j))))
  | [.str i, .str j] => some (.im (.bl (strLt i j)))
  | _ => none
def fLe : List I → Option O
  | [.int i, .int j] => some (.im (.bl (decide (i ≤ j))))
  | [.str i, .str j] => some (.im (.bl (!strLt j i)))
  | _ => none
def fGt : List I → Option O
  | [.int i, .int j] => some (.im (.bl (decide (j < i))))
  | [.str i, .str j] => some (.im (.bl (strLt j i)))
  | _ => none
def fGe : List I → Option O
  | [.int i, .int j] => some (.im (.bl (decide (j ≤ i))))
  | [.str i, .str j] => some (.im (.bl (!strLt i j)))
  | _ => none
def isNon : I → Bool
  | .non => true
  | _ => false
def fIsB (neg : Bool) : List I → Option O
  | [i, .non] => some (.im (.bl (if neg then !isNon i else isNon i)))
  | [.bl a, .bl b] => some (.im (.bl (if neg then !decide (a = b) else decide (a = b))))
  | _ => none
def fIs : List I → Option O := fIsB false
def fIsNot : List I → Option O := fIsB true
/-- in -/
def flatI : I → Bool
  | .non => true
  | .bl _ => true
  | .int _ => true
  | .str _ => true
  | _ => false
def eqI : I → I → Bool
  | .non, .non => true
  | .bl a, .bl b => a == b
  | .bl a, .int b => (if a then 1 else 0) == b
  | .int a, .bl b => a == (if b then 1 else 0)
  | .int a, .int b => a == b
  | .str a, .str b => a == b
  | _, _ => false
def inI (x : I) (l : List I) : Bool := l.any fun y => eqI y x
def one? (x : Str) : Option Nat := match x.cps.toList with
  | [c] => some c
  | _ => none
def inL (i : I) (l : List I) : Option Bool := if flatI i && l.all flatI then some (inI i l) else none
def inDeep (i : I) (l : List I) : Option Bool := match toD i, toDL l with
  | some d, some ds => if okD d && okD (.list ds) && decide (d.depth ≤ 60) && decide ((PyData.list ds).depth ≤ 60) then some (ds.any fun z => PyData.eqv z d) else none
  | _, _ => none
def inOp : List I → Option Bool
  | [.str x, .str z] => match one? x with
    | some c => some (decide (c ∈ z.cps.toList))
    | none => some (!(Builtin.Str.occurrences z x 0 z.length 1).isEmpty)
  | [i, .tup l] => inL i l
  | [i, .lst l] => match inL i l with
    | some b => some b
    | none => inDeep i l
  | _ => none
def fIn (l : List I) : Option O := (inOp l).map fun b => .im (.bl b)
def fNotIn (l : List I) : Option O := (inOp l).map fun b => .im (.bl (!b))
/-! subscripts -/
def fIx : List I → Option O
  | [.lst l, .int i] => (atI l i).map .im
  | [.tup l, .int i] => (atI l i).map .im
  | [.str z, .int i] => if z.length ≤ sizeLine then (atI z.cps.toList i).map fun c => .im (.str ⟨#[c]⟩) else none
  | _ => none
def lenI : List I → Option Nat
  | [.lst l] => some l.length
  | [.tup l] => some l.length
  | [.str z] => if z.length ≤ sizeLine then some z.length else none
  | [.dct kvs] => some kvs.length
  | _ => none
def fLen (l : List I) : Option O := (lenI l).map fun k => .im (.int (k : Nat))
def fAbs : List I → Option O
  | [.int i] => some (.im (.int (if i < 0 then -i else i)))
  | _ => none
def fMax : List I → Option O
  | [.int i, .int j] => some (.im (.int (if j > i then j else i)))
  | _ => none
def fMin : List I → Option O
  | [.int i, .int j] => some (.im (.int (if j < i then j else i)))
  | _ => none
def blsOf : List I → Option (List Bool)
  | [] => some []
  | .bl b :: r => (blsOf r).map (b :: ·)
  | _ => none
def fAll : List I → Option O
  | [.lst l] => (blsOf l).map fun bs => .im (.bl (bs.all id))
  | _ => none
def fAny : List I → Option O
  | [.lst l] => (blsOf l).map fun bs => .im (.bl (bs.any id))
  | _ => none
def strsOf : List I → Option (List Str)
  | [] => some []
  | .str b :: r => (strsOf r).map (b :: ·)
  | _ => none
def jn (a : Str) (l : List I) : Option O := match strsOf l with
  | some ys => if (ys.map (·.length)).sum + ys.length * a.length ≤ 16777216 then some (.im (.str (Txt.join a ys))) else none
  | none => none
def fJoin : List I → Option O
  | [.str a, .lst l] => jn a l
  | [.str a, .tup l] => jn a l
  | _ => none
def fList : List I → Option O
  | [.lst l] => some (.lst (l.map .im))
  | [.tup l] => some (.lst (l.map .im))
  | [.str z] => if z.length ≤ sizeLine then some (.lst ((chars z).map .im)) else none
  | _ => none
def fTuple : List I → Option O
  | [.lst l] => some (.im (.tup l))
  | [.tup l] => some (.im (.tup l))
  | _ => none
def fStr : List I → Option O
  | [.int i] => if i.natAbs.log2 < 1920 then some (.im (.str (toString i))) else none
  | [.str a] => some (.im (.str a))
  | _ => none
def tyI : I → Option String
  | .non => some "NoneType"
  | .bl _ => some "bool"
  | .int _ => some "int"
  | .str _ => some "str"
  | .tup _ => some "tuple"
  | .lst _ => some "list"
  | .dct _ => some "dict"
  | _ => none
def isTy (t T : String) : Bool := t == T || (t == "bool" && T == "int")
def fIsi (T : String) : List I → Option O
  | [i] => (tyI i).map fun t => .im (.bl (isTy t T))
  | _ => none
def fIsiT (Ts : List String) : List I → Option O
  | [i] => (tyI i).map fun t => .im (.bl (Ts.any fun T => isTy t T))
  | _ => none
section
variable {n : Pn} {W : WX} {X : Cx} {P : Pg} {e a b c tg : Expr} {es : List Expr} {g g' : Gh} {H H' : Hp} {st st' : St} {σ : L2.St} {F F' : Lo → Fp} {FX Fv : Fp} {pos : Pos}
mutual
theorem RepI.dp : ∀ {i : I} {v d}, RepI P g H i v → toD i = some d → Dp P.K H v d
  | .non, _, _, r, h => by cases r; cases h; exact .non
  | .bl _, _, _, r, h => by cases r; cases h; exact .bl _
  | .int _, _, _, r, h => by cases r; cases h; exact .int _
  | .str _, _, _, r, h => by cases r; cases h; exact .str _
  | .tup l, _, _, r, h => by
    unfold toD at h
    obtain ⟨ds, e, rfl⟩ := Option.map_eq_some_iff.mp h
    cases r with | tup a b => exact .tup a (RepIL.dp b e)
  | .lst l, _, _, r, h => by
    unfold toD at h
    obtain ⟨ds, e, rfl⟩ := Option.map_eq_some_iff.mp h
    cases r with | lst a b => exact .lst a.sq (RepIL.dp b e)
  | .dct _, _, _, _, h => by cases h
  | .ref _, _, _, _, h => by cases h
  | .fn _, _, _, _, h => by cases h
theorem RepIL.dp : ∀ {l : List I} {vs ds}, RepIL P g H l vs → toDL l = some ds → DpAll P.K H vs ds
  | [], _, _, r, h => by cases r; cases h; exact .nil
  | i :: l, _, _, r, h => by
    unfold toDL at h
    cases r with
    | cons a b =>
      split at h
      · rename_i h1 h2
        cases h
        exact .cons (RepI.dp a h1) (RepIL.dp b h2)
      · cases h
end
theorem RepF.dp {i : I} {v d} (r : RepF P g H i v) (h : toD i = some d) : Dp P.K H v d := by
  cases r with
  | im r => exact r.dp h
  | lst h1 r =>
    unfold toD at h
    obtain ⟨ds, e, rfl⟩ := Option.map_eq_some_iff.mp h
    exact .lst h1.sq (r.dp e)
  | dctK _ _ _ => cases h
  | dctT _ _ _ => cases h
/-- what OpR asks, for a comparison by == -/
theorem or_eqB {neg : Bool} {op : CmpOp} (ho : op = if neg then .NotEq else .Eq) (hu : X.A.units + 120 < cLine) : OpR X (compareOp op) fun x y => RdOp ⟨X.K, n⟩ (fEqB neg) [x, y] := by
  intro pins s σ H x y v u Q Iv rx ry h
  obtain ⟨g, is, zd, hr, o, ho', q⟩ := h
  unfold fEqB at ho'
  split at ho'
  · split at ho'
    · rename_i d e hd he
      split at ho'
      · rename_i hc
        obtain ⟨hc, h3⟩ := Bool.and_eq_true_iff.mp hc
        obtain ⟨h1, h2⟩ := Bool.and_eq_true_iff.mp hc
        have h3 : min d.depth e.depth ≤ 120 := of_decide_eq_true h3
        obtain ⟨_, _, ev, r1, r2⟩ := hr.two
        cases ev
        obtain ⟨as, p1⟩ := Dp.reads Iv d x v (r1.dp hd) rx
        obtain ⟨bs, p2⟩ := Dp.reads Iv e y u (r2.dp he) ry
        have hq := q_bl q ho'
        subst ho
        cases neg with
        | false => exact PySem.SeqAt.compareEq_reads p1 p2 h1 h2 (by omega) ⟨.bl _, H, Iv, rfl, hq⟩
        | true => exact PySem.SeqAt.compareNe_reads p1 p2 h1 h2 (by omega) ⟨.bl _, H, Iv, rfl, hq⟩
      · cases ho'
    · cases ho'
  · cases ho'
theorem or_eq (hu : X.A.units + 120 < cLine) : OpR X (compareOp .Eq) fun x y => RdOp ⟨X.K, n⟩ fEq [x, y] := or_eqB (neg := false) rfl hu
theorem or_ne (hu : X.A.units + 120 < cLine) : OpR X (compareOp .NotEq) fun x y => RdOp ⟨X.K, n⟩ fNe [x, y] := or_eqB (neg := true) rfl hu
theorem or_lt : OpR X (compareOp .Lt) fun x y => RdOp ⟨X.K, n⟩ fLt [x, y] := by
  intro pins s σ H x y v u Q Iv rx ry h
  obtain ⟨g, is, zd, hr, o, ho, q⟩ := h
  unfold fLt at ho
  split at ho
  · obtain ⟨_, _, ev, h1, h2⟩ := hr.two
    cases ev
    cases h1.int_inv
    cases h2.int_inv
    exact op_lt pins s σ H _ _ v u Q Iv rx ry ⟨_, _, rfl, rfl, q_bl q ho⟩
  · obtain ⟨_, _, ev, h1, h2⟩ := hr.two
    cases ev
    cases h1.str_inv
    cases h2.str_inv
    exact op_lt_str pins s σ H _ _ v u Q Iv rx ry ⟨_, _, rfl, rfl, q_bl q ho⟩
  · cases ho
theorem or_le : OpR X (compareOp .LtE) fun x y => RdOp ⟨X.K, n⟩ fLe [x, y] := by
  intro pins s σ H x y v u Q Iv rx ry h
  obtain ⟨g, is, zd, hr, o, ho, q⟩ := h
  unfold fLe at ho
  split at ho
  · obtain ⟨_, _, ev, h1, h2⟩ := hr.two
    cases ev
    cases h1.int_inv
    cases h2.int_inv
    exact op_le pins s σ H _ _ v u Q Iv rx ry ⟨_, _, rfl, rfl, q_bl q ho⟩
  · obtain ⟨_, _, ev, h1, h2⟩ := hr.two
    cases ev
    cases h1.str_inv
    cases h2.str_inv
    exact op_le_str pins s σ H _ _ v u Q Iv rx ry ⟨_, _, rfl, rfl, q_bl q ho⟩
  · cases ho
theorem or_gt : OpR X (compareOp .Gt) fun x y => RdOp ⟨X.K, n⟩ fGt [x, y] := by
  intro pins s σ H x y v u Q Iv rx ry h
  obtain ⟨g, is, zd, hr, o, ho, q⟩ := h
  unfold fGt at ho
  split at ho
  · obtain ⟨_, _, ev, h1, h2⟩ := hr.two
    cases ev
    cases h1.int_inv
    cases h2.int_inv
    exact op_gt pins s σ H _ _ v u Q Iv rx ry ⟨_, _, rfl, rfl, q_bl q ho⟩
  · obtain ⟨_, _, ev, h1, h2⟩ := hr.two
    cases ev
    cases h1.str_inv
    cases h2.str_inv
    exact op_gt_str pins s σ H _ _ v u Q Iv rx ry ⟨_, _, rfl, rfl, q_bl q ho⟩
  · cases ho
theorem or_ge : OpR X (compareOp .GtE) fun x y => RdOp ⟨X.K, n⟩ fGe [x, y] := by
  intro pins s σ H x y v u Q Iv rx ry h
  obtain ⟨g, is, zd, hr, o, ho, q⟩ := h
  unfold fGe at ho
  split at ho
  · obtain ⟨_, _, ev, h1, h2⟩ := hr.two
    cases ev
    cases h1.int_inv
    cases h2.int_inv
    exact op_ge pins s σ H _ _ v u Q Iv rx ry ⟨_, _, rfl, rfl, q_bl q ho⟩
  · obtain ⟨_, _, ev, h1, h2⟩ := hr.two
    cases ev
    cases h1.str_inv
    cases h2.str_inv
    exact op_ge_str pins s σ H _ _ v u Q Iv rx ry ⟨_, _, rfl, rfl, q_bl q ho⟩
  · cases ho
theorem RepF.non {i v} (r : RepF P g H i v) : decide (v = .non) = isNon i := by
  cases r with
  | im r => cases r <;> first | rfl | (apply decide_eq_false; intro h; cases h)
  | lst _ _ => apply decide_eq_false; intro h; cases h
  | dctK _ _ _ => apply decide_eq_false; intro h; cases h
  | dctT _ _ _ => apply decide_eq_false; intro h; cases h
theorem or_is : OpR X (compareOp .Is) fun x y => RdOp ⟨X.K, n⟩ fIs [x, y] := by
  intro pins s σ H x y v u Q Iv rx ry h
  obtain ⟨g, is, zd, hr, o, ho, q⟩ := h
  unfold fIs fIsB at ho
  split at ho
  · obtain ⟨_, _, ev, h1, h2⟩ := hr.two
    cases ev
    cases h2.non_inv
    exact op_isN pins s σ H _ _ v u Q Iv rx ry ⟨rfl, by rw [h1.non]; exact q_bl q ho⟩
  · obtain ⟨_, _, ev, h1, h2⟩ := hr.two
    cases ev
    cases h1.bl_inv
    cases h2.bl_inv
    exact op_isBl pins s σ H _ _ v u Q Iv rx ry ⟨_, _, rfl, rfl, q_bl q ho⟩
  · cases ho
theorem or_isnot : OpR X (compareOp .IsNot) fun x y => RdOp ⟨X.K, n⟩ fIsNot [x, y] := by
  intro pins s σ H x y v u Q Iv rx ry h
  obtain ⟨g, is, zd, hr, o, ho, q⟩ := h
  unfold fIsNot fIsB at ho
  split at ho
  · obtain ⟨_, _, ev, h1, h2⟩ := hr.two
    cases ev
    cases h2.non_inv
    exact op_notN pins s σ H _ _ v u Q Iv rx ry ⟨rfl, by rw [h1.non]; exact q_bl q ho⟩
  · obtain ⟨_, _, ev, h1, h2⟩ := hr.two
    cases ev
    cases h1.bl_inv
    cases h2.bl_inv
    exact op_notBl pins s σ H _ _ v u Q Iv rx ry ⟨_, _, rfl, rfl, q_bl q ho⟩
  · cases ho
theorem RepF.flatV {i v} (r : RepF P g H i v) (h : flatI i = true) : flatV v = true := by
  cases r with
  | im r => cases r <;> first | rfl | cases h
  | lst _ _ => cases h
  | dctK _ _ _ => cases h
  | dctT _ _ _ => cases h
theorem RepI.flatV {i v} (r : RepI P g H i v) (h : flatI i = true) : L2.flatV v = true := (RepF.im r).flatV h
theorem eqI_V {i j v u} (r : RepI P g H i v) (r' : RepF P g H j u) (h : flatI i = true) (h' : flatI j = true) : eqV v u = eqI i j := by
  cases r' with
  | im r' => cases r <;> cases r' <;> first | rfl | cases h | cases h'
  | lst _ _ => cases h'
  | dctK _ _ _ => cases h'
  | dctT _ _ _ => cases h'
theorem inI_V {j u} (r' : RepF P g H j u) (h' : flatI j = true) : ∀ {l : List I} {vs}, RepIL P g H l vs → l.all flatI = true → vs.all L2.flatV = true ∧ inV u vs = inI j l
  | [], _, r, _ => by cases r; exact ⟨rfl, rfl⟩
  | i :: l, _, r, h => by
    cases r with
    | cons a b =>
      rw [List.all_cons, Bool.and_eq_true] at h
      obtain ⟨c, d⟩ := inI_V r' h' b h.2
      refine ⟨by rw [List.all_cons, c, a.flatV h.1]; rfl, ?_⟩
      unfold inV inI at d ⊢
      rw [List.any_cons, List.any_cons, d, eqI_V a r' h.1 h']
theorem in_seq {neg : Bool} {op : CmpOp} (ho : op = if neg then .NotIn else .In) {pins : List (Addr × Obj)} {s : Shared} {x y : V} {v u : Value} {Q : VK} {i : I} {l : List I} {p : Addr} {vs : List V} (Iv : L2.Inv X pins σ H s) (rx : RelV x v) (ry : RelV y u) (ey : y = .ref p) (sq : SqL X.K H p vs ∨ SqT X.K H p vs)
    (r1 : RepF ⟨X.K, n⟩ g H i x) (r2 : RepIL ⟨X.K, n⟩ g H l vs) {b : Bool} (hb : inL i l = some b) (q : Q (.bl (if neg then !b else b)) H) : wpAny (model X.prog X.w) X.A (compareOp op v u) (EP X pins σ Q) X.xe s := by
  unfold inL at hb
  split at hb
  · rename_i hc
    cases hb
    obtain ⟨h1, h2⟩ := Bool.and_eq_true_iff.mp hc
    obtain ⟨h3, h4⟩ := inI_V r1 h1 r2 h2
    subst ho
    cases neg with
    | false => exact op_in_seq pins s σ H _ _ v u Q Iv rx ry ⟨p, vs, ey, sq, r1.flatV h1, h3, by rw [h4]; exact q⟩
    | true => exact op_notIn_seq pins s σ H _ _ v u Q Iv rx ry ⟨p, vs, ey, sq, r1.flatV h1, h3, by rw [h4]; exact q⟩
  · cases hb
theorem or_inB {neg : Bool} {op : CmpOp} {f : List I → Option O} (ho : op = if neg then .NotIn else .In) (hf : f = fun l => (inOp l).map fun b => .im (.bl (if neg then !b else b))) (hu : X.A.units + 65 < cLine) : OpR X (compareOp op) fun x y => RdOp ⟨X.K, n⟩ f [x, y] := by
  intro pins s σ H x y v u Q Iv rx ry h
  obtain ⟨g, is, zd, hr, o, ho', q⟩ := h
  subst hf
  obtain ⟨b, hb, rfl⟩ := Option.map_eq_some_iff.mp ho'
  have hq : Q (.bl (if neg then !b else b)) H := q_bl q rfl
  unfold inOp at hb
  split at hb
  · obtain ⟨_, _, ev, h1, h2⟩ := hr.two
    cases ev
    cases h1.str_inv
    cases h2.str_inv
    rename_i z1 z2
    split at hb
    · rename_i c hc
      cases hb
      have e : z1 = ⟨#[c]⟩ := by
        unfold one? at hc
        split at hc
        · rename_i c' e'
          cases hc
          cases z1
          simp only at e'
          congr 1
          exact Array.toList_inj.mp (by simpa using e')
        · cases hc
      subst ho
      cases neg with
      | false => exact op_in_sign pins s σ H _ _ v u Q Iv rx ry ⟨c, z2, by rw [e], rfl, hq⟩
      | true => exact op_notIn_sign pins s σ H _ _ v u Q Iv rx ry ⟨c, z2, by rw [e], rfl, hq⟩
    · cases hb
      subst ho
      cases neg with
      | false => exact op_in_str pins s σ H _ _ v u Q Iv rx ry ⟨_, _, rfl, rfl, hq⟩
      | true => exact op_notin_str pins s σ H _ _ v u Q Iv rx ry ⟨_, _, rfl, rfl, hq⟩
  · obtain ⟨_, _, ev, h1, h2⟩ := hr.two
    cases ev
    obtain ⟨p, vs, e1, hp, r2⟩ := h2.tup_inv
    exact in_seq ho Iv rx ry e1 (.inr hp) h1 r2 hb hq
  · obtain ⟨_, _, ev, h1, h2⟩ := hr.two
    cases ev
    split at hb
    · rename_i b' hb'
      cases hb
      obtain ⟨p, vs, e1, hp, r2⟩ := h2.lst_inv
      exact in_seq ho Iv rx ry e1 (.inl hp.sq) h1 r2 hb' hq
    · unfold inDeep at hb
      split at hb
      · rename_i d ds hd hds
        split at hb
        · rename_i hc
          cases hb
          obtain ⟨hc, h6⟩ := Bool.and_eq_true_iff.mp hc
          obtain ⟨hc, h5⟩ := Bool.and_eq_true_iff.mp hc
          obtain ⟨h3, h4⟩ := Bool.and_eq_true_iff.mp hc
          have h5 := of_decide_eq_true h5
          have h6 := of_decide_eq_true h6
          have d1 : Dp X.K H x d := h1.dp hd
          have d2 : Dp X.K H y (.list ds) := h2.dp (by unfold toD; rw [hds]; rfl)
          have s1 : SeqAt.shaped d = true := by
            unfold SeqAt.shaped
            rw [show d.canLay0 = true from h3, decide_eq_true (show d.depth ≤ 64 by omega)]; rfl
          have s2 : SeqAt.shaped (.list ds) = true := by
            unfold SeqAt.shaped
            rw [show (PyData.list ds).canLay0 = true from h4, decide_eq_true (show (PyData.list ds).depth ≤ 64 by omega)]; rfl
          subst ho
          cases neg with
          | false => exact op_inD hu pins s σ H _ _ v u Q Iv rx ry ⟨_, _, d1, d2, s1, s2, hq⟩
          | true => exact op_notInD hu pins s σ H _ _ v u Q Iv rx ry ⟨_, _, d1, d2, s1, s2, hq⟩
        · cases hb
      · cases hb
  · cases hb
theorem or_in (hu : X.A.units + 65 < cLine) : OpR X (compareOp .In) fun x y => RdOp ⟨X.K, n⟩ fIn [x, y] := or_inB (neg := false) rfl rfl hu
theorem or_notin (hu : X.A.units + 65 < cLine) : OpR X (compareOp .NotIn) fun x y => RdOp ⟨X.K, n⟩ fNotIn [x, y] := or_inB (neg := true) rfl rfl hu
/-! ### subscripts -/
theorem RepIL.ati {l : List I} {vs i x} (r : RepIL P g H l vs) (h : atI l i = some x) : ∃ v, atI vs i = some v ∧ RepI P g H x v := by
  unfold atI at h ⊢
  rw [← r.len]
  cases hk : ixN l.length i with
  | none => rw [hk] at h; cases h
  | some j =>
    rw [hk] at h
    obtain ⟨v, e, q⟩ := r.get h
    exact ⟨v, e, q⟩
theorem ix_any : IxR X fun x y => RdOp ⟨X.K, n⟩ fIx [x, y] := by
  intro value slice pins s σ H x y v u Q Iv rx ry h hs
  obtain ⟨g, is, zd, hr, o, ho, q⟩ := h
  unfold fIx at ho
  split at ho
  · obtain ⟨_, _, ev, h1, h2⟩ := hr.two
    cases ev
    obtain ⟨z, hz, rfl⟩ := Option.map_eq_some_iff.mp ho
    obtain ⟨p, vs, rfl, hp, r1⟩ := h1.lst_inv
    cases h2.int_inv
    obtain ⟨w, hw, rw'⟩ := r1.ati hz
    exact ix_list value slice pins s σ H _ _ v u Q Iv rx ry ⟨p, vs, _, w, rfl, rfl, hp.sq, hw, q g H _ emp (.same rw')⟩ hs
  · obtain ⟨_, _, ev, h1, h2⟩ := hr.two
    cases ev
    obtain ⟨z, hz, rfl⟩ := Option.map_eq_some_iff.mp ho
    obtain ⟨p, vs, rfl, hp, r1⟩ := h1.tup_inv
    cases h2.int_inv
    obtain ⟨w, hw, rw'⟩ := r1.ati hz
    exact ix_tup value slice pins s σ H _ _ v u Q Iv rx ry ⟨p, vs, _, w, rfl, rfl, hp, hw, q g H _ emp (.same rw')⟩ hs
  · obtain ⟨_, _, ev, h1, h2⟩ := hr.two
    cases ev
    split at ho
    · rename_i hl
      obtain ⟨z, hz, rfl⟩ := Option.map_eq_some_iff.mp ho
      cases h1.str_inv
      cases h2.int_inv
      exact ix_str value slice pins s σ H _ _ v u Q Iv rx ry ⟨_, _, z, rfl, rfl, hl, hz, q_str q rfl⟩ hs
    · cases ho
  · cases ho
/-! ### slices -/
def cutI {α : Type} (xs : List α) (lo hi : Option Int) : List α := (xs.drop (HT.sIx xs.length 0 lo)).take (HT.sIx xs.length xs.length hi - HT.sIx xs.length 0 lo)
def fSl (lo hi : Option Int) : List I → Option O
  | [.lst l] => some (.lst ((cutI l lo hi).map .im))
  | [.tup l] => if HT.sIx l.length 0 lo = 0 ∧ HT.sIx l.length l.length hi = l.length then none else some (.im (.tup (cutI l lo hi)))
  | [.str z] => if z.length ≤ sizeLine then some (.im (.str (cutS z lo hi))) else none
  | _ => none
theorem sl_any : SlR X fun x lo hi => RdOp ⟨X.K, n⟩ (fSl lo hi) [x] := by
  intro pins s σ H x v vl vu lo hi sl Q Iv rx hs pl pu h
  obtain ⟨g, is, zd, hr, o, ho, q⟩ := h
  unfold fSl at ho
  split at ho
  · obtain ⟨_, ev, h1⟩ := hr.one
    cases ev
    cases ho
    obtain ⟨p, vs, rfl, hp, r1⟩ := h1.lst_inv
    refine sl_list pins s σ H _ v vl vu lo hi sl Q Iv rx hs pl pu ⟨p, vs, rfl, hp.sq, fun t ht => q _ _ _ _ (.newL ht zd ?_)⟩
    unfold cutI cutV
    rw [r1.len]
    exact (r1.drop _).take _
  · obtain ⟨_, ev, h1⟩ := hr.one
    cases ev
    split at ho
    · cases ho
    · rename_i hc
      cases ho
      obtain ⟨p, vs, rfl, hp, r1⟩ := h1.tup_inv
      refine sl_tup pins s σ H _ v vl vu lo hi sl Q Iv rx hs pl pu ⟨p, vs, rfl, hp, by rw [← r1.len]; exact hc, fun t ht => q _ _ _ _ (.newT ht ?_)⟩
      unfold cutI cutV
      rw [r1.len]
      exact (r1.drop _).take _
  · obtain ⟨_, ev, h1⟩ := hr.one
    cases ev
    split at ho
    · cases h1.str_inv
      exact sl_str pins s σ H _ v vl vu lo hi sl Q Iv rx hs pl pu ⟨_, rfl, by assumption, q_str q ho⟩
    · cases ho
  · cases ho
/-- a part of a slice -/
abbrev OP := M (Option Int)
def pNo : OP := ret none
def pAt (m : EM) : OP := bnd m fun o => match o with
  | .im (.int i) => ret (some i)
  | _ => lift none
def eSl (a : OM) (lo hi : OP) : EM := bnd a fun x => bnd lo fun l => bnd hi fun h => rd (fSl l h) [x]
def OkP (P : Pg) (W : WX) (f : OP) : TO := fun σ H Q => ∃ g st F, RepS P g H st σ F ∧
  RunAt f st (fun st' o => ∀ g' H' F', PostS P g H F g' H' F' st' σ emp → Q o H') (exc P W g H F)
theorem PO.imp {e : Option Expr} {t t' : TO} (h : PO X e t) (i : ∀ σ H Q, t' σ H Q → t σ H Q) : PO X e t' := ⟨fun pins s σ H Q I q => h.run pins s σ H Q I (i _ _ _ q)⟩
theorem op_no : PO X none (OkP P W pNo) := PO.imp po_none fun σ H Q ⟨g, st, F, rs, q⟩ => q.ret g H F (.refl rs)
theorem op_at {f : EM} (h : PE X e (OkE P W f)) : PO X (some e) (OkP P W (pAt f)) := PO.imp (po_some h) fun σ H Q ⟨g, st, F, rs, q⟩ =>
  ⟨g, st, F, rs, q.bnd.imp (fun s o k g1 H1 F1 v Fv p ro => by
    split at k
    · cases ro.im_inv
      exact ⟨_, rfl, k.ret g1 H1 F1 p.drop⟩
    · exact k.elim) fun _ _ _ z => z⟩
theorem dropR {g H F g1 H1 F1 st1 σ1 Fv} (p : PostS P g H F g1 H1 F1 st1 σ1 (un Fv emp)) : PostS P g H F g1 H1 F1 st1 σ1 Fv := ⟨p.rs, fun b x y => p.dj b (.inl x) y, p.ch, fun b x => p.sub b (x.imp id .inl), p.pn⟩
theorem ev_sl {f : OM} {lo hi : Option Expr} {fl fh : OP} {p2 : Pos} (ha : PE X e (OkO ⟨X.K, n⟩ W f)) (hl : PO X lo (OkP ⟨X.K, n⟩ W fl)) (hh : PO X hi (OkP ⟨X.K, n⟩ W fh)) : PE X (.Subscript e (.Slice lo hi none p2) pos) (OkE ⟨X.K, n⟩ W (eSl f fl fh)) :=
  PE.imp (pe_slice sl_any ha hl hh) fun σ H Q ⟨g, st, F, rs, q⟩ => ⟨g, st, F, rs, q.bnd.imp (fun s x k g1 H1 F1 v Fv p rx => ⟨g1, s, F1, p.rs, k.bnd.imp (fun s2 l k2 g2 H2 F2 p2 => ⟨g2, s2, F2, p2.rs, k2.bnd.imp (fun s3 h k3 g3 H3 F3 p3 => by
    have p4 := dropR (p.bothO rx (p2.trans p3)).1
    exact rd_go p4.w (.one (p.bothO rx (p2.trans p3)).2.1) k3) fun _ _ _ z => exc_step (p.trans p2) z⟩) fun _ _ _ z => exc_step p z⟩) fun _ _ _ z => z⟩
/-! ### chains -/
def eCh (f h : List I → Option O) (a b : OM) (c : OM) : EM := bnd a fun x => bnd b fun y => bnd (rd f [x, y]) fun z => match z with
  | .im (.bl true) => bnd c fun w => rd h [y, w]
  | .im (.bl false) => ret (.im (.bl false))
  | _ => lift none
theorem rd_same {f : List I → Option O} {os vs st Fv g0 H0 F0 ok ex} (p : PostS P g0 H0 F0 g H F st σ Fv) (r : RepOpL P g H σ os vs Fv) (h : RunAt (rd f os) st ok ex) : ∃ o, ok st o ∧ ∀ Q : VK, (∀ g' H' v Fw, PostR P g H g' H' o v Fw → Q v H') → RdOp P f vs H Q := by
  obtain ⟨is, o, e1, e2, q⟩ := h.rd
  exact ⟨o, q, fun Q k => ⟨g, is, p.rs.zd, r.fl p.rs e1, o, e2, k⟩⟩
theorem ch_go {f h : List I → Option O} {fa fb fc : OM} {Q : VK} (hw : OkE P W (eCh f h fa fb fc) σ H Q) : tChain (fun x y => RdOp P f [x, y]) (fun x y => RdOp P h [x, y]) (OkO P W fa) (OkO P W fb) (OkO P W fc) σ H Q := by
  obtain ⟨g, st, F, rs, q⟩ := hw
  refine ⟨g, st, F, rs, q.bnd.imp (fun s1 x k1 g1 H1 F1 v1 Fv1 p1 r1 => ⟨g1, s1, F1, p1.rs, k1.bnd.imp (fun s2 y k2 g2 H2 F2 v2 Fv2 p2 r2 => ?_) fun _ _ _ z => exc_step p1 z⟩) fun _ _ _ z => z⟩
  obtain ⟨p3, r3, d3⟩ := p1.bothO r1 p2.w
  obtain ⟨o, ko, go⟩ := rd_same p3 (.cons r3 (.one r2) d3) k2.bnd
  refine go _ fun g4 H4 v4 Fv4 pr => ?_
  have p4 := p3.read pr
  have ry : RepOp P g4 H4 σ y v2 Fv2 := r2.ch pr.ch fun _ _ h => h.elim
  have rv := pr.ro
  have p5 : PostS P g H F g4 H4 F2 s2 σ Fv2 := by
    have q5 := pr.toS p3.rs
    have c5 : PostS P g1 H1 F1 g4 H4 F2 s2 σ (un Fv2 Fv4) := (p2.bothO r2 q5).1
    have := p1.trans c5
    exact ⟨this.rs, fun b x y => this.dj b (.inl x) y, this.ch, fun b x => this.sub b (x.imp id .inl), this.pn⟩
  split at ko
  · cases rv.im_inv
    refine ⟨true, rfl, ?_⟩
    rw [if_pos rfl]
    refine ⟨g4, s2, F2, p5.rs, ko.bnd.imp (fun s6 w k6 g6 H6 F6 v6 Fv6 p6 r6 => ?_) fun _ _ _ z => exc_step p5 z⟩
    obtain ⟨p7, r7, d7⟩ := p5.bothO ry p6.w
    exact rd_go p7 (.cons r7 (.one r6) d7) k6
  · cases rv.im_inv
    refine ⟨false, rfl, ?_⟩
    rw [if_neg Bool.false_ne_true]
    exact ko.ret g4 H4 F2 _ emp p5.drop (.im (.bl false))
  · exact ko.elim
theorem ev_ch {op op' : CmpOp} {f h : List I → Option O} {fa fb fc : OM} (ho : OpR X (compareOp op) fun x y => RdOp ⟨X.K, n⟩ f [x, y]) (ho' : OpR X (compareOp op') fun x y => RdOp ⟨X.K, n⟩ h [x, y]) (ha : PE X a (OkO ⟨X.K, n⟩ W fa)) (hb : PE X b (OkO ⟨X.K, n⟩ W fb)) (hc : PE X c (OkO ⟨X.K, n⟩ W fc))
    (hm : lastMarks [op, op'] [b, c] = false := by with_unfolding_all rfl) : PE X (.Compare a [op, op'] [b, c] pos) (OkE ⟨X.K, n⟩ W (eCh f h fa fb fc)) := PE.imp (pe_chain ho ho' ha hb hc hm) fun _ _ _ h => ch_go h
theorem bt_ch {op op' : CmpOp} {f h : List I → Option O} {fa fb fc : OM} (ho : OpR X (compareOp op) fun x y => RdOp ⟨X.K, n⟩ f [x, y]) (ho' : OpR X (compareOp op') fun x y => RdOp ⟨X.K, n⟩ h [x, y]) (ha : PE X a (OkO ⟨X.K, n⟩ W fa)) (hb : PE X b (OkO ⟨X.K, n⟩ W fb)) (hc : PE X c (OkO ⟨X.K, n⟩ W fc))
    (hm : lastMarks [op, op'] [b, c] = false := by with_unfolding_all rfl) : PT X (.Compare a [op, op'] [b, c] pos) (OkB ⟨X.K, n⟩ W (asB (eCh f h fa fb fc))) := PT.imp (pt_chain ho ho' ha hb hc hm) fun _ _ _ h => ch_go (asB_go h)
end
end VS

namespace VS
open PySem L2
section
variable {n : Pn} {W : WX} {X : Cx} {P : Pg} {e a b c tg : Expr} {es : List Expr} {g g' : Gh} {H H' : Hp} {st st' : St} {σ : L2.St} {F F' : Lo → Fp} {FX Fv : Fp} {pos : Pos} {io : List Nat}
/-! ### calls of builtins -/
theorem cr_len : CallR X (.builtin "len") (RdOp ⟨X.K, n⟩ fLen) := by
  intro pins s σ H xs us Q Iv rv h
  obtain ⟨g, is, zd, hr, o, ho, q⟩ := h
  obtain ⟨k, hk, rfl⟩ := Option.map_eq_some_iff.mp ho
  have hq : Q (.int (k : Nat)) H := q_int q rfl
  unfold lenI at hk
  split at hk
  · obtain ⟨_, ev, h1⟩ := hr.one
    cases ev
    cases hk
    obtain ⟨p, vs, rfl, hp, r1⟩ := h1.lst_inv
    rw [r1.len] at hq
    exact call_len_seq pins s σ H _ us Q Iv rv ⟨p, vs, rfl, .inl hp.sq, hq⟩
  · obtain ⟨_, ev, h1⟩ := hr.one
    cases ev
    cases hk
    obtain ⟨p, vs, rfl, hp, r1⟩ := h1.tup_inv
    rw [r1.len] at hq
    exact call_len_seq pins s σ H _ us Q Iv rv ⟨p, vs, rfl, .inr hp, hq⟩
  · obtain ⟨_, ev, h1⟩ := hr.one
    cases ev
    split at hk
    · cases hk
      cases h1.str_inv
      exact call_len_str pins s σ H _ us Q Iv rv ⟨_, rfl, by assumption, hq⟩
    · cases hk
  · obtain ⟨_, ev, h1⟩ := hr.one
    cases ev
    cases hk
    have go : ∀ {kvs p} {ks : List (Key × V)}, Q (.int ((kvs : List (DK × I)).length : Nat)) H → H p = some (.dK ks) → kvs.map Prod.fst = ks.map (fun x => (Sum.inl x.1 : DK)) → Vals [V.ref p] us → wpAny (model X.prog X.w) X.A (call (.builtin "len") us) (EP X pins σ Q) X.xe s := fun {kvs p ks} hq hp e rv => by
      have := congrArg List.length e
      simp only [List.length_map] at this
      rw [this] at hq
      exact call_lenD pins s σ H _ us Q Iv rv ⟨p, ks, rfl, hp, hq⟩
    have go2 : ∀ {kvs p} {ks : List (List Key × V)}, Q (.int ((kvs : List (DK × I)).length : Nat)) H → H p = some (.dT ks) → kvs.map Prod.fst = ks.map (fun x => (Sum.inr x.1 : DK)) → Vals [V.ref p] us → wpAny (model X.prog X.w) X.A (call (.builtin "len") us) (EP X pins σ Q) X.xe s := fun {kvs p ks} hq hp e rv => by
      have := congrArg List.length e
      simp only [List.length_map] at this
      rw [this] at hq
      exact call_len_dT pins s σ H _ us Q Iv rv ⟨p, ks, rfl, hp, hq⟩
    cases h1 with
    | im r => cases r with
      | dctK hp _ e _ => exact go hq hp e rv
      | dctT hp _ e _ => exact go2 hq hp e rv
    | dctK hp e _ => exact go hq hp e rv
    | dctT hp e _ => exact go2 hq hp e rv
  · cases hk
theorem cr_abs : CallR X (.builtin "abs") (RdOp ⟨X.K, n⟩ fAbs) := by
  intro pins s σ H xs us Q Iv rv h
  obtain ⟨g, is, zd, hr, o, ho, q⟩ := h
  unfold fAbs at ho
  split at ho
  · obtain ⟨_, ev, h1⟩ := hr.one
    cases ev
    cases h1.int_inv
    exact call_abs pins s σ H _ us Q Iv rv ⟨_, rfl, q_int q ho⟩
  · cases ho
theorem cr_max (hc : X.calm = true) : CallR X (.builtin "max") (RdOp ⟨X.K, n⟩ fMax) := by
  intro pins s σ H xs us Q Iv rv h
  obtain ⟨g, is, zd, hr, o, ho, q⟩ := h
  unfold fMax at ho
  split at ho
  · obtain ⟨_, _, ev, h1, h2⟩ := hr.two
    cases ev
    cases h1.int_inv
    cases h2.int_inv
    exact call_max2 hc pins s σ H _ us Q Iv rv ⟨_, _, rfl, q_int q ho⟩
  · cases ho
theorem cr_min (hc : X.calm = true) : CallR X (.builtin "min") (RdOp ⟨X.K, n⟩ fMin) := by
  intro pins s σ H xs us Q Iv rv h
  obtain ⟨g, is, zd, hr, o, ho, q⟩ := h
  unfold fMin at ho
  split at ho
  · obtain ⟨_, _, ev, h1, h2⟩ := hr.two
    cases ev
    cases h1.int_inv
    cases h2.int_inv
    exact call_min2 hc pins s σ H _ us Q Iv rv ⟨_, _, rfl, q_int q ho⟩
  · cases ho
theorem blsOf_V : ∀ {l : List I} {bs vs}, blsOf l = some bs → RepIL P g H l vs → vs = bs.map V.bl
  | [], _, _, h, r => by cases h; cases r; rfl
  | .bl b :: l, _, _, h, r => by
    unfold blsOf at h
    obtain ⟨bs, e, rfl⟩ := Option.map_eq_some_iff.mp h
    cases r with | cons a t => cases a; rw [blsOf_V e t]; rfl
  | .non :: _, _, _, h, _ => by cases h
  | .int _ :: _, _, _, h, _ => by cases h
  | .str _ :: _, _, _, h, _ => by cases h
  | .tup _ :: _, _, _, h, _ => by cases h
  | .lst _ :: _, _, _, h, _ => by cases h
  | .dct _ :: _, _, _, h, _ => by cases h
  | .ref _ :: _, _, _, h, _ => by cases h
  | .fn _ :: _, _, _, h, _ => by cases h
theorem strsOf_V : ∀ {l : List I} {bs vs}, strsOf l = some bs → RepIL P g H l vs → vs = bs.map V.str
  | [], _, _, h, r => by cases h; cases r; rfl
  | .str b :: l, _, _, h, r => by
    unfold strsOf at h
    obtain ⟨bs, e, rfl⟩ := Option.map_eq_some_iff.mp h
    cases r with | cons a t => cases a; rw [strsOf_V e t]; rfl
  | .non :: _, _, _, h, _ => by cases h
  | .int _ :: _, _, _, h, _ => by cases h
  | .bl _ :: _, _, _, h, _ => by cases h
  | .tup _ :: _, _, _, h, _ => by cases h
  | .lst _ :: _, _, _, h, _ => by cases h
  | .dct _ :: _, _, _, h, _ => by cases h
  | .ref _ :: _, _, _, h, _ => by cases h
  | .fn _ :: _, _, _, h, _ => by cases h
theorem cr_all (hc : X.calm = true) : CallR X (.builtin "all") (RdOp ⟨X.K, n⟩ fAll) := by
  intro pins s σ H xs us Q Iv rv h
  obtain ⟨g, is, zd, hr, o, ho, q⟩ := h
  unfold fAll at ho
  split at ho
  · obtain ⟨_, ev, h1⟩ := hr.one
    cases ev
    obtain ⟨bs, hb, rfl⟩ := Option.map_eq_some_iff.mp ho
    obtain ⟨p, vs, rfl, hp, r1⟩ := h1.lst_inv
    have e := blsOf_V hb r1
    subst e
    exact L2.cr_all hc pins s σ H _ us Q Iv rv ⟨p, bs, rfl, hp.sq, q_bl q rfl⟩
  · cases ho
theorem cr_any (hc : X.calm = true) : CallR X (.builtin "any") (RdOp ⟨X.K, n⟩ fAny) := by
  intro pins s σ H xs us Q Iv rv h
  obtain ⟨g, is, zd, hr, o, ho, q⟩ := h
  unfold fAny at ho
  split at ho
  · obtain ⟨_, ev, h1⟩ := hr.one
    cases ev
    obtain ⟨bs, hb, rfl⟩ := Option.map_eq_some_iff.mp ho
    obtain ⟨p, vs, rfl, hp, r1⟩ := h1.lst_inv
    have e := blsOf_V hb r1
    subst e
    exact L2.cr_any hc pins s σ H _ us Q Iv rv ⟨p, bs, rfl, hp.sq, q_bl q rfl⟩
  · cases ho
theorem chars_rep {z : Str} : RepIL P g H (chars z) (z.cps.toList.map fun c => V.str ⟨#[c]⟩) := by
  unfold chars
  induction z.cps.toList with
  | nil => exact .nil
  | cons c r ih => exact .cons (.str _) ih
theorem cr_list (hd : X.A.handled = none) : CallR X (.type "list") (RdOp ⟨X.K, n⟩ fList) := by
  intro pins s σ H xs us Q Iv rv h
  obtain ⟨g, is, zd, hr, o, ho, q⟩ := h
  unfold fList at ho
  split at ho
  · obtain ⟨_, ev, h1⟩ := hr.one
    cases ev
    cases ho
    obtain ⟨p, vs, rfl, hp, r1⟩ := h1.lst_inv
    exact call_list_of pins s σ H _ us Q Iv rv ⟨p, vs, rfl, .inl hp.sq, fun t ht => q _ _ _ _ (.newL ht zd r1)⟩
  · obtain ⟨_, ev, h1⟩ := hr.one
    cases ev
    cases ho
    obtain ⟨p, vs, rfl, hp, r1⟩ := h1.tup_inv
    exact call_list_of pins s σ H _ us Q Iv rv ⟨p, vs, rfl, .inr hp, fun t ht => q _ _ _ _ (.newL ht zd r1)⟩
  · rename_i z
    obtain ⟨_, ev, h1⟩ := hr.one
    cases ev
    split at ho
    · rename_i hz
      cases ho
      cases h1.str_inv
      obtain ⟨u, rfl, t, rfl⟩ := vals1 rv
      have hz' : z.cps.size ≤ sizeLine := hz
      refine PySem.call_list_str (hn := hz') hd z t fun h' tk acc' c' hk hS' hacc => ?_
      have hn : H s.heap.objs.size = none := Iv.hok.fresh (Nat.le_refl _)
      have vl : Vals (z.cps.toList.map fun c => V.str ⟨#[c]⟩) acc'.toList := by
        have go : ∀ (cs : List Nat) (us : List Value), cs.length = us.length → (∀ (i : Nat) (v : Value), us[i]? = some v → ∃ c t, cs[i]? = some c ∧ v = Value.str ⟨#[c]⟩ t) → Vals (cs.map fun c => V.str ⟨#[c]⟩) us := by
          intro cs
          induction cs with
          | nil => intro us hl _; cases us with | nil => exact .nil | cons _ _ => cases hl
          | cons c cs ih =>
            intro us hl hh
            cases us with
            | nil => cases hl
            | cons u us =>
              obtain ⟨c', t', e1, e2⟩ := hh 0 u (by simp)
              have e1 : c = c' := by simpa using e1
              subst e1
              exact .cons ⟨t', e2⟩ (ih us (by simpa using hl) fun i v e => hh (i + 1) v (by simpa using e))
        refine go _ _ (by simp [hacc.1]) fun i v e => ?_
        obtain ⟨c, t', hc, ev⟩ := hacc.2 i v (by simpa using e)
        exact ⟨c, t', by simpa using hc, ev⟩
      refine ⟨.ref s.heap.objs.size, _, Iv.laid (a := s.heap.objs.size) (o := .lst (z.cps.toList.map fun c => V.str ⟨#[c]⟩)) (t' := tk) hk (Nat.le_refl _) ⟨by simpa using hz', acc'.toList, c', vl, by simpa using hS'⟩, rfl, q _ _ _ _ (.newL hn zd chars_rep)⟩
    · cases ho
  · cases ho
theorem cr_tuple : CallR X (.type "tuple") (RdOp ⟨X.K, n⟩ fTuple) := by
  intro pins s σ H xs us Q Iv rv h
  obtain ⟨g, is, zd, hr, o, ho, q⟩ := h
  unfold fTuple at ho
  split at ho
  · obtain ⟨_, ev, h1⟩ := hr.one
    cases ev
    cases ho
    obtain ⟨p, vs, rfl, hp, r1⟩ := h1.lst_inv
    exact call_tuple_of pins s σ H _ us Q Iv rv ⟨p, vs, rfl, .inl ⟨hp.sq, fun t ht => q _ _ _ _ (.newT ht r1)⟩⟩
  · obtain ⟨_, ev, h1⟩ := hr.one
    cases ev
    cases ho
    obtain ⟨p, vs, rfl, hp, r1⟩ := h1.tup_inv
    exact call_tuple_of pins s σ H _ us Q Iv rv ⟨p, vs, rfl, .inr ⟨hp, q _ _ _ _ (.same (.tup hp r1))⟩⟩
  · cases ho
theorem cr_str : CallR X (.type "str") (RdOp ⟨X.K, n⟩ fStr) := by
  intro pins s σ H xs us Q Iv rv h
  obtain ⟨g, is, zd, hr, o, ho, q⟩ := h
  unfold fStr at ho
  split at ho
  · obtain ⟨_, ev, h1⟩ := hr.one
    cases ev
    split at ho
    · cases h1.int_inv
      exact call_str_int pins s σ H _ us Q Iv rv ⟨_, rfl, by assumption, q_str q ho⟩
    · cases ho
  · obtain ⟨_, ev, h1⟩ := hr.one
    cases ev
    cases h1.str_inv
    exact SkE.call_str_str pins s σ H _ us Q Iv rv ⟨_, rfl, q_str q ho⟩
  · cases ho
theorem mt_jn : MtR X "str.join" fun x xs => RdOp ⟨X.K, n⟩ fJoin (x :: xs) := by
  intro pins s σ H x xs v us Q Iv rx rv h
  obtain ⟨g, is, zd, hr, o, ho, q⟩ := h
  have fin : ∀ {a l p vs}, jn a l = some o → RepIL ⟨X.K, n⟩ g H l vs → (SqL X.K H p vs ∨ SqT X.K H p vs) → x = .str a → xs = [.ref p] → wpAny (model X.prog X.w) X.A (call (.builtin "str.join") (v :: us)) (EP X pins σ Q) X.xe s := fun {a l p vs} hj r sq e1 e2 => by
    unfold jn at hj
    split at hj
    · rename_i ys hy
      split at hj
      · have e := strsOf_V hy r
        subst e
        exact mt_join pins s σ H x xs v us Q Iv rx rv ⟨a, p, ys, e1, e2, sq, by assumption, q_str q hj⟩
      · cases hj
    · cases hj
  unfold fJoin at ho
  split at ho
  · obtain ⟨_, _, ev, h1, h2⟩ := hr.two
    cases ev
    obtain ⟨p, vs, rfl, hp, r1⟩ := h2.lst_inv
    exact fin ho r1 (.inl hp.sq) h1.str_inv rfl
  · obtain ⟨_, _, ev, h1, h2⟩ := hr.two
    cases ev
    obtain ⟨p, vs, rfl, hp, r1⟩ := h2.tup_inv
    exact fin ho r1 (.inr hp) h1.str_inv rfl
  · cases ho
/-- a text's method -/
def eT0 (f : List I → Option O) (m : EM) : EM := bnd m fun o => match o with
  | .im (.str a) => rd f [.o (.im (.str a))]
  | _ => lift none
def eT1 (f : List I → Option O) (m : EM) (k : OM) : EM := bnd m fun o => match o with
  | .im (.str a) => bnd k fun y => rd f [.o (.im (.str a)), y]
  | _ => lift none
theorem t1_go {f : List I → Option O} {m : EM} {k : OM} {H σ Q} (h : OkE P W (eT1 f m k) σ H Q) : tM1 (fun x xs => RdOp P f (x :: xs)) (OkE P W m) (OkO P W k) σ H Q := by
  obtain ⟨g, st, F, rs, q⟩ := h
  refine ⟨g, st, F, rs, q.bnd.imp (fun s x k1 g1 H1 F1 v Fv p rx => ?_) fun _ _ _ z => z⟩
  split at k1
  · rename_i a
    have ri := rx.im_inv
    cases ri
    refine ⟨⟨_, rfl⟩, g1, s, F1, p.rs, k1.bnd.imp (fun s2 y k2 g2 H2 F2 u Fu p2 ry => ?_) fun _ _ _ z => exc_step p z⟩
    have p3 := p.drop.trans p2
    have ra : RepOp P g2 H2 σ (.o (.im (.str a))) (.str a) emp := RepO.im (.str a)
    exact rd_go ⟨p3.rs, fun b x y => p3.dj b (x.elim (fun z => z.elim) id |>.elim id fun z => z.elim) y, p3.ch, fun b x => p3.sub b (x.imp id fun z => z.elim (fun z => z.elim) fun z => z.elim id fun z => z.elim), p3.pn⟩ (.cons ra (.one ry) fun _ h => h.elim) k2
  · exact k1.elim
theorem t0_go {f : List I → Option O} {m : EM} {H σ Q} (h : OkE P W (eT0 f m) σ H Q) : tM0 (fun x xs => RdOp P f (x :: xs)) (OkE P W m) σ H Q := by
  obtain ⟨g, st, F, rs, q⟩ := h
  refine ⟨g, st, F, rs, q.bnd.imp (fun s x k1 g1 H1 F1 v Fv p rx => ?_) fun _ _ _ z => z⟩
  split at k1
  · rename_i a
    have ri := rx.im_inv
    cases ri
    exact ⟨⟨_, rfl⟩, rd_go p.drop.w (.one (show RepOp P g1 H1 σ (.o (.im (.str a))) (.str a) emp from RepO.im (.str a))) k1⟩
  · exact k1.elim
theorem ev_t1 {o : Expr} {id : String} {name : Str} {apos : Pos} {f : List I → Option O} {m : EM} {k : OM} (slot : Slot "str" name id) (ty : typeOf (.builtin id) = pure (.type "method_descriptor")) (rule : MtR X id fun x xs => RdOp ⟨X.K, n⟩ f (x :: xs)) (ho : PE X o (OkE ⟨X.K, n⟩ W m)) (he : PE X e (OkO ⟨X.K, n⟩ W k))
    (hs : starEach [e] X.env = [(false, eval e X.env)] := by rfl) (hbase : attributeBase o name X.env (eval o X.env) = eval o X.env := by rfl) (hline : (apos.endLine == pos.line) = true := by rfl) : PE X (.Call (.Attribute o name apos) [e] [] pos) (OkE ⟨X.K, n⟩ W (eT1 f m k)) :=
  PE.imp (pe_m1 slot ty rule ho he hs hbase hline) fun _ _ _ h => t1_go h
theorem ev_t0 {o : Expr} {id : String} {name : Str} {apos : Pos} {f : List I → Option O} {m : EM} (slot : Slot "str" name id) (ty : typeOf (.builtin id) = pure (.type "method_descriptor")) (rule : MtR X id fun x xs => RdOp ⟨X.K, n⟩ f (x :: xs)) (ho : PE X o (OkE ⟨X.K, n⟩ W m))
    (hbase : attributeBase o name X.env (eval o X.env) = eval o X.env := by rfl) (hline : (apos.endLine == pos.line) = true := by rfl) : PE X (.Call (.Attribute o name apos) [] [] pos) (OkE ⟨X.K, n⟩ W (eT0 f m)) :=
  PE.imp (pe_m0 slot ty rule ho hbase hline) fun _ _ _ h => t0_go h
/-! isinstance -/
theorem RepF.ty {i v t} (r : RepF P g H i v) (h : tyI i = some t) : TyX P.K H v (.type t) := by
  have tup : ∀ {p vs}, SqT P.K H p vs → TyX P.K H (.ref p) (.type "tuple") := fun {p vs} s => by
    rcases s with (s | ⟨o, s⟩) | ⟨o, its, m, s, c, _⟩
    · exact .base (.tup s)
    · exact .fTuple s
    · exact .kTuple s c
  have lsr : ∀ {p vs}, LsR P.K H p vs → TyX P.K H (.ref p) (.type "list") := fun {p vs} s => by
    rcases s with (s | ⟨o, s⟩) | ⟨its, k, s, _⟩
    · exact .base (.lst s)
    · exact .base (.frz s)
    · exact .kList s rfl
  cases r with
  | im r =>
    cases r with
    | non => cases h; exact .base .non
    | bl b => cases h; exact .base (.bl b)
    | int i => cases h; exact .base (.int i)
    | str s => cases h; exact .base (.str s)
    | tup s _ => cases h; exact tup s
    | lst s _ =>
      cases h
      exact lsr s.r
    | dctK s _ _ _ => cases h; exact .base (.dK s)
    | dctT s _ _ _ => cases h; exact .base (.dT s)
    | ref _ => cases h
    | fn _ => cases h
  | lst s _ =>
    cases h
    exact lsr s
  | dctK s _ _ => cases h; exact .base (.dK s)
  | dctT s _ _ => cases h; exact .base (.dT s)
def tyB (T : String) : Prop := T = "str" ∨ T = "int" ∨ T = "bool" ∨ T = "tuple" ∨ T = "list" ∨ T = "dict"
theorem kit_all {K : PySem.W.Frag} {i : I} {t T : String} (h : tyI i = some t) (hT : tyB T) : PySem.W.kitOne K (.type t) (.type T) = some (isTy t T) := by
  have : ∀ t ∈ ["NoneType", "bool", "int", "str", "tuple", "list", "dict"], ∀ T ∈ ["str", "int", "bool", "tuple", "list", "dict"], kitB t T = some (isTy t T) := by decide +kernel
  refine kit_ty (this t ?_ T ?_)
  · cases i <;> first | (cases h; decide) | cases h
  · rcases hT with rfl | rfl | rfl | rfl | rfl | rfl <;> decide
/-- isinstance(e, T) -/
def tIsi (T : String) (t : TE) : TA := tCons t (tCons (tC (.ty T)) tNil)
theorem ev_isi {T : String} {x : Str} {p p2 : Pos} {f : OM} (hT : tyB T) (hb : bootBuiltins x = some (.type T)) (hm : X.mg "isinstance" = none) (hm2 : X.mg x = none) (ha : PE X e (OkO ⟨X.K, n⟩ W f)) (hg : Gl X "isinstance" := by rfl) (hg2 : Gl X x := by rfl) (hn : x ≠ "__name__" := by decide) (hd : (x == ("__debug__" : Str)) = false := by decide)
    (he : starEach [e, .Name x p2] X.env = (false, eval e X.env) :: starEach [.Name x p2] X.env := by rfl) (he2 : starEach [.Name x p2] X.env = (false, eval (.Name x p2) X.env) :: starEach [] X.env := by rfl) (hpl : (backTo pos (starEach [.Name x p2] X.env)).any (·.1) = false := by rfl) :
    PE X (.Call (.Name "isinstance" p) [e, .Name x p2] [] pos) (OkE ⟨X.K, n⟩ W (op1 (fIsi T) f)) := by
  have base := pe_callB (pos := pos) (p := p) call_isi hg hm PyProof.Rows.boot_isinstance (pa_cons ha (pa_cons (pe_bltn hg2 hm2 hb (v := V.ty T) rfl hn hd) pa_nil he2) he) (by decide) (by decide) he hpl
  refine PE.imp base fun σ H Q h => ?_
  obtain ⟨g, st, F, rs, q⟩ := go1 h
  refine ⟨g, st, F, rs, q.imp (fun s x k1 g1 H1 F1 v Fv p rx => ?_) fun _ _ _ z => z⟩
  obtain ⟨g2, is, zd, hr, o, ho, q2⟩ := k1 g1 H1 F1 v Fv p rx
  unfold fIsi at ho
  split at ho
  · obtain ⟨t, ht, rfl⟩ := Option.map_eq_some_iff.mp ho
    obtain ⟨_, ev, r1⟩ := hr.one
    cases ev
    exact ⟨v, .ty T, .type t, .type T, isTy t T, rfl, .ty T, r1.ty ht, kit_all ht hT, q_bl q2 rfl⟩
  · cases ho
end
end VS

namespace VS
open PySem L2
/-! ### stores into lists -/
/-- x[j] = o, x the k-th slot -/
def putAt (k : Nat) (o j : O) : M Unit := fun st => match st.sl[k]?, j with
  | some (.lst l), .im (.int i) => match ixN l.length i with
    | some j => some (.ok (), { st with sl := st.sl.set k (.lst (l.set j o)) })
    | none => none
  | _, _ => none
def sPut (k : Nat) (ix m : EM) : SM := bnd m fun o => bnd (bo k) fun _ => bnd ix fun j => bnd (putAt k o j) fun _ => ret .nx
section
variable {n : Pn} {W : WX} {X : Cx} {P : Pg} {e a b c tg i : Expr} {es : List Expr} {g g' g0 : Gh} {H H' H0 : Hp} {st st' : St} {σ : L2.St} {F F' F0 : Lo → Fp} {FX Fv : Fp} {pos : Pos} {io : List Nat} {D : Ends}
theorem RepOL.set : ∀ {os : List O} {vs : List V} {F G : Fp} {o v} (j : Nat), RepOL P g H os vs F → RepO P g H o v G → Fp.dj F G → ∃ F', RepOL P g H (os.set j o) (vs.set j v) F' ∧ ∀ b, F' b → F b ∨ G b
  | [], _, F, G, o, v, j, r, ro, _ => by
    cases r
    exact ⟨emp, by simpa using RepOL.nil, fun _ h => h.elim⟩
  | x :: os, _, _, G, o, v, 0, r, ro, d => by
    cases r with
    | @cons _ y _ vs F1 F2 a b d' => exact ⟨un G F2, .cons ro b fun c x y => d c (.inr y) x, fun c h => h.elim .inr fun h => .inl (.inr h)⟩
  | x :: os, _, _, G, o, v, j + 1, r, ro, d => by
    cases r with
    | @cons _ y _ vs F1 F2 a b d' =>
      obtain ⟨F', r', e⟩ := RepOL.set j b ro fun c x y => d c (.inr x) y
      refine ⟨un F1 F', .cons a r' fun c x y => ?_, fun c h => ?_⟩
      · rcases e c y with y | y
        · exact d' c x y
        · exact d c (.inl x) y
      · rcases h with h | h
        · exact .inl (.inl h)
        · exact (e c h).imp .inr id
/-- a slot's own object changes -/
theorem PostS.mod {k : Nat} {p : Addr} {u : HO} {o' : O} {G : Fp} (q : PostS P g0 H0 F0 g H F st σ Fv) (hk : k < st.sl.length) (hv : σ[k]? = some (some (.ref p))) (ha : F (.inl k) p) (r : RepO P g (upd H p u) o' (.ref p) G) (hG : ∀ b, G b → F (.inl k) b ∨ Fv b) :
    PostS P g0 H0 F0 g (upd H p u) (upF F (.inl k) G) { st with sl := st.sl.set k o' } σ emp := by
  obtain ⟨m, z⟩ := q.rs.mt p ⟨_, ha⟩
  have cs : Ch (fun b => b = p) g H g (upd H p u) := .setl m z
  refine ⟨q.rs.upd (o := o') (Fn := G) cs (fun l hl b x y => q.rs.dj l (.inl k) hl b x (by rw [show b = p from y]; exact ha)) rfl rfl hk rfl (fun _ _ => rfl) (fun _ _ => rfl) (.inr ⟨_, hv, r⟩) (fun l hl b x y => ?_) (set_zd q.rs.zd), fun _ h => h.elim,
    q.ch.trans cs fun b x => by rw [show b = p from x]; exact q.sub p (.inl ⟨_, ha⟩), fun b x => ?_, q.pn⟩
  · rcases hG b y with y | y
    · exact q.rs.dj l (.inl k) hl b x y
    · exact q.dj b y ⟨l, x⟩
  · rcases x with x | x
    · rcases tot_up x with ⟨l, _, x⟩ | x
      · exact q.sub b (.inl ⟨l, x⟩)
      · exact q.sub b ((hG b x).imp (fun y => ⟨_, y⟩) id)
    · exact x.elim
theorem bo_slot {k : Nat} {ok ex} (rs : RepS P g H st σ F) (h : RunAt (bo k) st ok ex) : (∃ w, σ[k]? = some (some w)) ∧ ok st (.b k) := by
  unfold RunAt bo at h
  cases q : st.sl[k]? with
  | none => simp [q] at h
  | some o =>
    rcases rs.slot k o q with ⟨rfl, _⟩ | ⟨v, hv, _⟩
    · simp [q] at h
    · refine ⟨⟨v, hv⟩, ?_⟩
      cases o <;> first | (simp only [q] at h; exact h) | (simp [q] at h)
theorem put_go {k : Nat} {f m : EM} (h : OkS P W io (sPut k f m) D σ H) : tAsg (OkE P W m) (gSub (tVar k) (OkE P W f) rSetL) D σ H := by
  obtain ⟨g, st, F, rs, hio, q⟩ := h
  refine ⟨g, st, F, rs, q.bnd.imp (fun s1 o k1 g1 H1 F1 v Fv p1 r1 => ?_) fun _ _ _ z => z⟩
  obtain ⟨⟨w, hw⟩, k1'⟩ := bo_slot p1.rs k1.bnd
  have k1' := k1'.bnd
  refine ⟨w, hw, g1, s1, F1, p1.rs, k1'.imp (fun s2 j k2 g2 H2 F2 u Fu p2 r2 => ?_) fun _ _ _ z => exc_step p1 z⟩
  obtain ⟨p3, r3, d3⟩ := p1.both r1 p2
  have k3 := k2.bnd
  unfold RunAt putAt at k3
  split at k3
  · exact k3.elim
  · rename_i e
    split at e
    · rename_i l i hsl
      split at e
      · rename_i jj hj
        cases e
        cases r2.im_inv
        rcases p3.rs.slot k _ hsl with ⟨z, _⟩ | ⟨w', hw', rr⟩
        · cases z
        · rw [hw] at hw'; cases hw'
          generalize hF : F2 (.inl k) = Fk at rr
          cases rr with
          | @lst _ p vs Fl hp hz rl hn =>
            obtain ⟨G, rG, hG⟩ := rl.set jj r3 fun b x y => p3.dj b (.inl y) ⟨.inl k, by rw [hF]; exact .inr x⟩
            have nv : ¬ Fv p := fun x => p3.dj p (.inl x) ⟨.inl k, by rw [hF]; exact .inl rfl⟩
            have nG : ¬ G p := fun x => (hG p x).elim hn nv
            have cs : Ch (fun b => b = p) g2 H2 g2 (upd H2 p (.lst (vs.set jj v))) := .setl ⟨_, hp, rfl⟩ hz
            have ro : RepO P g2 (upd H2 p (.lst (vs.set jj v))) (.lst (l.set jj o)) (.ref p) (ins1 p G) := .lst upd_same hz (rG.ch cs fun b x y => nG (by rw [← show b = p from y]; exact x)) nG
            refine ⟨p, vs, i, jj, rfl, rfl, hp, by rw [← rl.len]; exact hj, ?_⟩
            have hk : k < s2.sl.length := (List.getElem?_eq_some_iff.mp hsl).1
            exact (show okS P D g H F _ .nx from k3) g2 _ _ σ (p3.mod hk hw (by rw [hF]; exact .inl rfl) ro fun b x => by
              rw [hF]
              rcases x with x | x
              · exact .inl (.inl x)
              · exact (hG b x).imp .inr .inl)
      · cases e
    · cases e
  · rename_i e
    split at e
    · split at e <;> cases e
    · cases e
theorem sv_put {k : Nat} {o v : Expr} {f m : EM} {tpos : Pos} (hv : PE X v (OkE P W m)) (ho : PE X o (tVar k)) (hi : PE X i (OkE P W f)) (hs : swapsWithSole [.Subscript o i tpos] v pos.line X.env = pure false := by rfl) (hw : swappedStores [.Subscript o i tpos] v X.env = pure none := by rfl)
    (h1 : (assignEach [.Subscript o i tpos] X.env).map (·.2) = [assign (.Subscript o i tpos) X.env] := by rfl)
    (ha : ∀ v, assign (.Subscript o i tpos) X.env v = (do
      let ov ← holding [v] (eval o X.env)
      let iv ← holding [v, ov] (eval i X.env)
      standAt tpos
      holding [v, ov, iv] (setItem ov iv v)
      release [v, ov, iv] []) := by intro _; rfl) : PS X (.Assign [.Subscript o i tpos] v pos) (OkS P W io (sPut k f m)) :=
  PS.imp (ps_asg hv (pg_sub ho hi set_list ha) hs hw h1) fun _ _ _ h => put_go h
end
end VS

namespace VS
open PySem PySem.Spec PyProof.Rows L2
/-! ### the end: the law's own def, called by the caller -/
def scr (ns : List Int) : I := .lst (ns.map .int)
theorem scr_rep {P : Pg} {g : Gh} {H : Hp} : ∀ ns : List Int, RepIL P g H (ns.map .int) (ns.map V.int)
  | [] => .nil
  | k :: r => .cons (.int k) (scr_rep r)
section
variable {P : Program} {w : World} {K : PySem.W.Frag} {mg mb : Str → Option Value} {n : Pn} {k N : Nat} {fa a : Addr} {fd : FuncData} {x : Str} {io : List Nat} {fn : Fn} {s : Shared} {vs : List Value} {ns : List Int}
/-- from what is tracked: nothing, or the script as it stands -/
theorem law_from {H : Hp} {Z : Addr → Prop} (KX : K.In s.heap) (hns : s.heap.Ns mainGlobals mg) (hb : s.heap.Ns builtinsNs mb) (hbb : ∀ x : Str, x ≠ "__name__" → mb x = bootBuiltins x) (hlim : s.heap.NoLimit) (hg : s.gens = #[])
    (ha : s.heap.get? a = some { cls := .type "list", data := .seq vs.toArray }) (hr : Room k callerA) (hio : ∀ i ∈ io, i < 1)
    (F : ∀ base : Heap, K.In base → base.Ns mainGlobals mg → FnG P w K mg base k fa fd [x] (spOf ⟨K, n⟩ N 1 io fn)) (hbind : ∀ (s : Shared) (u : Value), BindsTo s fd ⟨[u], []⟩ [(x, u)])
    {fi sto : List O} (hlaw : fn [.im (scr ns)] [] = some (.ok (.im (.bl true)), fi, sto)) (hN : 1 ≤ N)
    (only : ∀ b u, H b = some u → b = a ∧ K.lookup a = none ∧ ∃ o xs, u = .frz o (.lst xs)) (zd : ∀ b, Z b → ∃ o, H b = some o) (hok : HOk P w H s.heap) (hrep : ∀ pn, RepI ⟨K, n⟩ ⟨Z, [], pn⟩ H (scr ns) (.ref a)) :
    codeAny (model P w) callerA (.call (.ref fa) ⟨[.ref a], []⟩) (fun r s' => r = .ok (.ret (.bool true)) ∧ OldK s.heap s'.heap ∧ s'.os = s.os ∧ AllBare s'.gens) s := by
  have untr : ∀ {b : Addr} {o : Obj}, s.heap.get? b = some o → (∀ es ep, o.data = .dict es ep → True) → (b = a → False) → (hidT s.heap H).get? b = some o := fun {b o} e _ nb => hidT_get e (by
    cases q : H b with
    | none => rfl
    | some u => exact (nb (only b u q).1).elim)
  have names : ∀ {b : Addr} {m : Str → Option Value}, s.heap.Ns b m → (hidT s.heap H).Ns b m := by
    rintro b m ⟨o, es, ep, e, d, r⟩
    refine ⟨o, es, ep, untr e (fun _ _ _ => trivial) fun z => ?_, d, r⟩
    subst z
    rw [ha] at e
    cases e
    cases (show Data.seq vs.toArray _ = Data.dict es ep from d)
  have kin : K.In (hidT s.heap H) := fun b o e => hidT_get (KX b o e) (by
    cases q : H b with
    | none => rfl
    | some u =>
      obtain ⟨h1, h2, _⟩ := only b u q
      subst h1
      rw [h2] at e; cases e)
  have md : Mod K mg (hidT s.heap H) := by
    obtain ⟨mc, c1, c2⟩ := hlim
    exact ⟨kin, names hns, ⟨mb, names hb, hbb⟩, mc, names c1, c2⟩
  have env : Env0 P w K mg (hidT s.heap H) callerA [] s H := by
    refine ⟨rfl, md, fun b o e => of_hidT e, Nat.le_of_eq (hidT_size _ _), trivial, ?_, hok, .of_eq hg⟩
    intro b hb
    exact absurd hb (List.not_mem_nil)
  have G := F _ kin (names hns)
  let g : Gh := ⟨Z, [], io.map fun i => (i, ([V.ref a] : List V).getD i .non)⟩
  have rs : RepS ⟨K, n⟩ g H ⟨[.im (scr ns)] ++ List.replicate (N - 1) .hole, []⟩ (([V.ref a] : List V).map some ++ List.replicate (N - 1) none) fun _ => emp := by
    refine ⟨by simp, fun i o e => ?_, fun r o e => ?_, rfl, fun _ _ _ _ h => h.elim, fun _ _ _ h => h, fun _ _ _ h => h, fun p hp => ?_, zd⟩
    · have e' : (O.im (scr ns) :: List.replicate (N - 1) O.hole)[i]? = some o := e
      cases i with
      | zero =>
        simp at e'
        subst e'
        exact .inr ⟨.ref a, rfl, .im (hrep _)⟩
      | succ i =>
        rw [List.getElem?_cons_succ, List.getElem?_replicate] at e'
        split at e'
        · cases e'; exact .inl ⟨rfl, fun _ h => h⟩
        · cases e'
    · simp at e
    · obtain ⟨i, hi, rfl⟩ := List.mem_map.mp hp
      have := hio i hi
      obtain rfl : i = 0 := by omega
      rfl
  have promise : spOf ⟨K, n⟩ N 1 io fn [.ref a] H (fun v _ => v = .bl true) (fun _ _ _ => False) := by
    refine ⟨g, [.im (scr ns)], [], fun _ => emp, rfl, rfl, rfl, rs, ?_⟩
    rw [hlaw]
    intro g' H' F' σ' st' v Fv _ _ ro
    cases ro.im_inv
    rfl
  refine codeAny_mono (G.go callerA [] s H ⟨[.ref a], []⟩ [.ref a] [.ref a] _ _ hr rfl env (hbind s (.ref a)) (.cons rfl .nil) promise) fun r s' hq => ?_
  cases r with
  | error e =>
    obtain ⟨_, _, _, _, _, _, _, _, _, _, _, _, f⟩ := hq
    exact f.elim
  | ok fl =>
    cases fl with
    | next => exact hq.elim
    | brk => exact hq.elim
    | cont => exact hq.elim
    | ret u =>
      obtain ⟨v, H', os, bare, un, hok', r', hv⟩ := hq
      have hv : v = .bl true := hv
      subst hv
      obtain rfl : u = Value.bool true := r'
      refine ⟨rfl, OldK.of_keep fun b o e => ?_, os, bare⟩
      cases q : H b with
      | none => exact un.keep b o e q (by simp [frs]) (by simp)
      | some u =>
        obtain ⟨_, _, ob, xs, rfl⟩ := only b u q
        have q2 := un.frzs b ob _ q
        obtain ⟨e1, _⟩ := hok b _ q
        obtain ⟨e2, _⟩ := hok' b _ q2
        rw [e] at e1; cases e1
        exact e2
theorem law_callG (KX : K.In s.heap) (hns : s.heap.Ns mainGlobals mg) (hb : s.heap.Ns builtinsNs mb) (hbb : ∀ x : Str, x ≠ "__name__" → mb x = bootBuiltins x) (hlim : s.heap.NoLimit) (hg : s.gens = #[])
    (ha : s.heap.get? a = some { cls := .type "list", data := .seq vs.toArray }) (hi : IntsAre vs ns) (hl : ns.length ≤ sizeLine) (hr : Room k callerA) (hio : ∀ i ∈ io, i < 1)
    (F : ∀ base : Heap, K.In base → base.Ns mainGlobals mg → FnG P w K mg base k fa fd [x] (spOf ⟨K, n⟩ N 1 io fn)) (hbind : ∀ (s : Shared) (u : Value), BindsTo s fd ⟨[u], []⟩ [(x, u)])
    {fi sto : List O} (hlaw : fn [.im (scr ns)] [] = some (.ok (.im (.bl true)), fi, sto)) (hN : 1 ≤ N) :
    codeAny (model P w) callerA (.call (.ref fa) ⟨[.ref a], []⟩) (fun r s' => r = .ok (.ret (.bool true)) ∧ OldK s.heap s'.heap ∧ s'.os = s.os ∧ AllBare s'.gens) s := by
  have rv := vals_ints hi
  have len : vs.length = ns.length := hi.length
  cases hk : K.lookup a with
  | some o =>
    have e := KX a o hk
    rw [ha] at e
    cases e
    exact law_from (H := fun _ => none) (Z := fun _ => False) KX hns hb hbb hlim hg ha hr hio F hbind hlaw hN (fun _ _ z => nomatch z) (fun _ z => z.elim) (fun _ _ z => nomatch z)
      fun pn => .lst (.inr ⟨vs.toArray, _, hk, by rw [List.size_toArray, len]; exact hl, by simpa using rv⟩) (scr_rep ns)
  | none =>
    have hH : ∀ {b u}, (if b = a then some (HO.frz { cls := .type "list", data := .seq vs.toArray } (.lst (ns.map V.int))) else none) = some u → b = a ∧ u = HO.frz { cls := .type "list", data := .seq vs.toArray } (.lst (ns.map V.int)) := fun {b u} z => by
      by_cases q : b = a
      · rw [if_pos q] at z; cases z; exact ⟨q, rfl⟩
      · rw [if_neg q] at z; cases z
    refine law_from (H := fun b => if b = a then some (.frz { cls := .type "list", data := .seq vs.toArray } (.lst (ns.map V.int))) else none) (Z := fun b => b = a) KX hns hb hbb hlim hg ha hr hio F hbind hlaw hN (fun b u z => ?_) (fun b z => ⟨_, if_pos z⟩) (fun b u z => ?_)
      fun pn => .lst (.inl ⟨.inr ⟨_, if_pos rfl⟩, rfl⟩) (scr_rep ns)
    · obtain ⟨q, rfl⟩ := hH z
      exact ⟨q, hk, _, _, rfl⟩
    · obtain ⟨q, rfl⟩ := hH z
      subst q
      exact ⟨ha, by rw [List.length_map]; exact hl, vs, _, rv, ha⟩
/-- what k_head leaves -/
theorem walk_G {l : PySem.W.OpenLaw} {m : Nat} {q : Program} {loose : List Str} {XP : (Str → Option Value) → Heap → Prop} {YP : World → Heap → Prop} {d : DefRec} {fn : Fn}
    (hn : l.most = some m) (hn2 : m ≤ sizeLine) (hdf : d.params.defaults = []) (hr : Room k callerA) (hN : 1 ≤ N)
    (F : ∀ (w : World) (mg : Str → Option Value) (fa : Addr) (h : Heap), YP w h → h.Ns mainGlobals mg → mg d.name = some (.ref fa) →
      ∃ (K : PySem.W.Frag) (fd : FuncData) (n : Pn), K.In h ∧ (∀ (s : Shared) (u : Value), BindsTo s fd ⟨[u], []⟩ [(x, u)]) ∧
        ∀ base : Heap, K.In base → base.Ns mainGlobals mg → FnG l.prog w K mg base k fa fd [x] (spOf ⟨K, n⟩ N 1 [] fn))
    (hlaw : ∀ ns : List Int, ns.length ≤ m → ∃ fi sto, fn [.im (scr ns)] [] = some (.ok (.im (.bl true)), fi, sto)) :
    PySem.W.WalkO q loose XP YP l.row.toRowW d [] (fun f vs => PySem.call f vs) := by
  refine Att.attach_call hn hdf fun w s₀ s mg mb fa o pm cd doc a vs ns G Y _ _ _ hmg hobj hints hlen hg => ?_
  obtain ⟨K, fd, n, KX, hb, hF⟩ := F w mg fa _ Y G.T.g hmg
  obtain ⟨fi, sto, e⟩ := hlaw ns hlen
  exact law_callG KX G.T.g G.T.b G.T.builtins G.T.nolimit hg hobj hints (Nat.le_trans hlen hn2) hr (by simp) hF hb e hN
end
end VS

namespace VS
open PySem PySem.Spec PyProof.Rows L2
section
variable {P : Program} {w : World} {K : PySem.W.Frag} {mg : Str → Option Value} {base : Heap} {N : List Str} {qual : Str} {scope : Scope} {f : Addr} {cdv : Value} {A : Around} {outer : List Env} {s : Shared} {H : Hp} {E : XK} {X : Cx} {k : Nat}
theorem cx_owns : PassesOwn (model P w) (cxOf (L2.CX P w) P w K mg base N qual scope f cdv A outer s H E).A (cxOf (L2.CX P w) P w K mg base N qual scope f cdv A outer s H E).env (cxOf (L2.CX P w) P w K mg base N qual scope f cdv A outer s H E).xe := passes_of rfl
theorem cx_takes : Takes (cxOf (L2.CX P w) P w K mg base N qual scope f cdv A outer s H E) (fun cls d _ H => E cls d H) := takes_of rfl rfl rfl rfl
theorem At.u65 (a : At X k) : X.A.units + 65 < cLine := by have := a.room.un; omega
theorem At.u120 (a : At X k) : X.A.units + 120 < cLine := by have := a.room.un; omega
theorem At.hd (a : At X k) : X.A.handled = none := a.room.hd
theorem At.blk {sc : Scope} {s : Shared} {H : Hp} {ce : Env} {fp : List Addr} (a : At X k) : At (X.blk s H sc ce fp) k := ⟨a.room, a.grd⟩
end
end VS
namespace VS
open PySem PySem.Spec PyProof.Rows L2
/-! ### names of the module -/
section
variable {X : Cx} {n : Pn} {W : WX} {x z : Str} {pos : Pos}
theorem e_str {z : Str} (h : ∃ t, X.mg x = some (.str z t)) (hg : Gl X x := by rfl) (hd : (x == ("__debug__" : Str)) = false := by decide) : PE X (.Name x pos) (OkE ⟨X.K, n⟩ W (cI (.str z))) := by
  obtain ⟨t, h⟩ := h
  exact ev_c (pe_glob hg h (v := V.str z) ⟨t, rfl⟩ hd) fun _ _ => .str z
theorem e_int {z : Int} (h : ∃ t, X.mg x = some (.int z t)) (hg : Gl X x := by rfl) (hd : (x == ("__debug__" : Str)) = false := by decide) : PE X (.Name x pos) (OkE ⟨X.K, n⟩ W (cI (.int z))) := by
  obtain ⟨t, h⟩ := h
  exact ev_c (pe_glob hg h (v := V.int z) ⟨t, rfl⟩ hd) fun _ _ => .int z
end
/-- a def that may be called by its name -/
structure Callee (P : Program) (w : World) (K : PySem.W.Frag) (mg : Str → Option Value) (base : Heap) (n : Pn) (x : Str) (k N np : Nat) (io : List Nat) (fn : Fn) (dI : List I) : Prop where
  ex : ∃ f fd ps ds dvs, FnG P w K mg base k f fd ps (spOf ⟨K, n⟩ N np io fn) ∧ mg x = some (.ref f) ∧ PySem.W.keepIn K (.ref f) = true ∧ Binds K fd ps ds ∧ Vals dvs ds ∧ ∀ g H, RepIL ⟨K, n⟩ g H dI dvs
section
variable {P : Program} {w : World} {K : PySem.W.Frag} {mg : Str → Option Value} {base : Heap} {n : Pn} {X : Cx} {W : WX} {x : Str} {k j N np : Nat} {io : List Nat} {fn : Fn} {dI : List I} {f : Addr} {fd : FuncData} {ps : List Str} {e : Expr} {es : List Expr} {p pos : Pos}
theorem Callee.of (G : FnG P w K mg base k f fd ps (spOf ⟨K, n⟩ N np io fn)) (hm : mg x = some (.ref f)) (hk : PySem.W.keepIn K (.ref f) = true) (hb : Binds K fd ps []) : Callee P w K mg base n x k N np io fn [] := ⟨f, fd, ps, [], [], G, hm, hk, hb, .nil, fun _ _ => .nil⟩
theorem Callee.up (C : Callee P w K mg base n x j N np io fn dI) (h : j ≤ k) : Callee P w K mg base n x k N np io fn dI := by
  obtain ⟨f, fd, ps, ds, dvs, G, r⟩ := C
  exact ⟨f, fd, ps, ds, dvs, G.up h, r⟩
theorem ev_callC {fa : OL} (C : Callee X.prog X.w X.K X.mg X.base n x k N np io fn dI) (a : At X j) (hj : k ≤ j) (tk : Takes X W) (ha : PA X (e :: es) (OkOL ⟨X.K, n⟩ W fa)) (hio : ∀ i ∈ io, i < np := by decide)
    (hg : Gl X x := by rfl) (hdb : (x == ("__debug__" : Str)) = false := by decide) (he : starEach (e :: es) X.env = (false, eval e X.env) :: starEach es X.env := by rfl) (hpl : (backTo pos (starEach es X.env)).any (·.1) = false := by rfl) : PE X (.Call (.Name x p) (e :: es) [] pos) (OkE ⟨X.K, n⟩ W (eCall np io fn dI fa)) := by
  obtain ⟨f, fd, ps, ds, dvs, G, hm, hk, hb, hd, hdi⟩ := C
  exact ev_call G (a.le hj) hm hk hb hd hdi tk ha hio hg hdb he hpl
end
end VS

namespace VS
open PySem L2
/-! ### plain reasoning about state functions -/
section
variable {α β : Type} {st : St} {sl sto : List O} {ex : St → Nat → List I → Prop} {k : Nat}
@[simp] theorem q_ret {a : α} {ok : St → α → Prop} : RunAt (ret a) st ok ex ↔ ok st a := Iff.rfl
@[simp] theorem q_bnd {m : M α} {k : α → M β} {ok : St → β → Prop} : RunAt (bnd m k) st ok ex ↔ RunAt m st (fun s a => RunAt (k a) s ok ex) ex := by
  constructor
  · exact RunAt.bnd
  · intro h
    unfold RunAt at h ⊢
    unfold bnd
    cases hm : m st with
    | none => rw [hm] at h; exact h
    | some z =>
      obtain ⟨z, s⟩ := z
      rw [hm] at h
      cases z with
      | ok a => exact h
      | ex c i => exact h
@[simp] theorem q_lift_some {a : α} {ok : St → α → Prop} : RunAt (lift (some a)) st ok ex ↔ ok st a := Iff.rfl
@[simp] theorem q_lift_none {ok : St → α → Prop} : RunAt (lift (none : Option α)) st ok ex ↔ False := Iff.rfl
theorem q_lift {o : Option α} {ok : St → α → Prop} : RunAt (lift o) st ok ex ↔ ∃ a, o = some a ∧ ok st a := by
  cases o with
  | none => simp
  | some a => simp
@[simp] theorem q_none {ok : St → α → Prop} : RunAt (fun _ => none) st ok ex ↔ False := Iff.rfl
@[simp] theorem q_ite {c : Prop} [Decidable c] {m k : M α} {ok : St → α → Prop} : RunAt (if c then m else k) st ok ex ↔ (c → RunAt m st ok ex) ∧ (¬ c → RunAt k st ok ex) := by
  by_cases h : c <;> simp [h]
@[simp] theorem q_cI {i : I} {ok : St → O → Prop} : RunAt (cI i) st ok ex ↔ ok st (.im i) := Iff.rfl
@[simp] theorem q_var {ok : St → O → Prop} : RunAt (eVar k) ⟨sl, sto⟩ ok ex ↔ ∃ i, sl[k]? = some (.im i) ∧ ok ⟨sl, sto⟩ (.im i) := by
  unfold RunAt eVar
  cases h : sl[k]? with
  | none => simp
  | some o => cases o <;> simp
@[simp] theorem q_mv {ok : St → O → Prop} : RunAt (eMv k) ⟨sl, sto⟩ ok ex ↔ ∃ o, sl[k]? = some o ∧ isH o = false ∧ ok ⟨sl.set k .hole, sto⟩ o := by
  unfold RunAt eMv
  cases h : sl[k]? with
  | none => simp
  | some o => cases o <;> simp [isH]
@[simp] theorem q_fv {ok : St → O → Prop} : RunAt (eFv k) ⟨sl, sto⟩ ok ex ↔ ∃ o, sl[k]? = some o ∧ fzb o = true ∧ ok ⟨sl.set k (.im (frz o)), sto⟩ (.im (frz o)) := by
  unfold RunAt eFv
  cases h : sl[k]? with
  | none => simp
  | some o =>
    by_cases hz : fzb o = true <;> simp [hz]
@[simp] theorem q_fz {m : EM} {ok : St → O → Prop} : RunAt (eFz m) st ok ex ↔ RunAt m st (fun s o => fzb o = true ∧ ok s (.im (frz o))) ex := by
  unfold eFz
  rw [q_bnd]
  refine iff_of_eq (congrArg (fun z => RunAt m st z ex) ?_)
  funext s o
  by_cases hz : fzb o = true <;> simp [hz]
@[simp] theorem q_vl {m : EM} {ok : St → Op → Prop} : RunAt (vl m) st ok ex ↔ RunAt m st (fun s o => ok s (.o o)) ex := q_bnd
@[simp] theorem q_bo {ok : St → Op → Prop} : RunAt (bo k) ⟨sl, sto⟩ ok ex ↔ ∃ o, sl[k]? = some o ∧ isH o = false ∧ ok ⟨sl, sto⟩ (.b k) := by
  unfold RunAt bo
  cases h : sl[k]? with
  | none => simp
  | some o => cases o <;> simp [isH]
@[simp] theorem q_aNil {ok : St → List O → Prop} : RunAt aNil st ok ex ↔ ok st [] := Iff.rfl
@[simp] theorem q_aCons {m : EM} {r : AM} {ok : St → List O → Prop} : RunAt (aCons m r) st ok ex ↔ RunAt m st (fun s o => RunAt r s (fun s os => ok s (o :: os)) ex) ex := by
  unfold aCons; simp
@[simp] theorem q_oNil {ok : St → List Op → Prop} : RunAt oNil st ok ex ↔ ok st [] := Iff.rfl
@[simp] theorem q_oCons {m : OM} {r : OL} {ok : St → List Op → Prop} : RunAt (oCons m r) st ok ex ↔ RunAt m st (fun s o => RunAt r s (fun s os => ok s (o :: os)) ex) ex := by
  unfold oCons; simp
@[simp] theorem q_lst {r : AM} {ok : St → O → Prop} : RunAt (eLst r) st ok ex ↔ RunAt r st (fun s os => os.length ≤ sizeLine ∧ ok s (.lst os)) ex := by
  unfold eLst
  rw [q_bnd]
  refine iff_of_eq (congrArg (fun z => RunAt r st z ex) ?_)
  funext s os
  unfold mkLst
  by_cases h : os.length ≤ sizeLine <;> simp [h]
@[simp] theorem q_tup {r : AM} {ok : St → O → Prop} : RunAt (eTup r) st ok ex ↔ RunAt r st (fun s os => ∃ o, mkTup os = some o ∧ ok s o) ex := by
  unfold eTup
  simp [q_lift]
theorem q_rd {f : List I → Option O} {os : List Op} {ok : St → O → Prop} : RunAt (rd f os) st ok ex ↔ ∃ is, flL st os = some is ∧ ∃ o, f is = some o ∧ ok st o := by
  constructor
  · intro h
    obtain ⟨is, o, h1, h2, h3⟩ := h.rd
    exact ⟨is, h1, o, h2, h3⟩
  · rintro ⟨is, h1, o, h2, h3⟩
    unfold RunAt rd
    rw [h1]
    simp only
    rw [h2]
    exact h3
@[simp] theorem q_rd1 {f : List I → Option O} {x : Op} {ok : St → O → Prop} : RunAt (rd f [x]) st ok ex ↔ ∃ i, fl st x = some i ∧ ∃ o, f [i] = some o ∧ ok st o := by
  rw [q_rd]
  constructor
  · rintro ⟨is, h, r⟩
    unfold flL at h
    cases hx : fl st x with
    | none => simp [hx] at h
    | some i => simp [hx, flL] at h; subst h; exact ⟨i, rfl, r⟩
  · rintro ⟨i, h, r⟩
    exact ⟨[i], by simp [flL, h], r⟩
@[simp] theorem q_rd2 {f : List I → Option O} {x y : Op} {ok : St → O → Prop} : RunAt (rd f [x, y]) st ok ex ↔ ∃ i, fl st x = some i ∧ ∃ j, fl st y = some j ∧ ∃ o, f [i, j] = some o ∧ ok st o := by
  rw [q_rd]
  constructor
  · rintro ⟨is, h, r⟩
    unfold flL at h
    cases hx : fl st x with
    | none => simp [hx] at h
    | some i =>
      cases hy : fl st y with
      | none => simp [hx, hy, flL] at h
      | some j => simp [hx, hy, flL] at h; subst h; exact ⟨i, rfl, j, rfl, r⟩
  · rintro ⟨i, h, j, h', r⟩
    exact ⟨[i, j], by simp [flL, h, h'], r⟩
@[simp] theorem fl_o {x : O} : fl st (.o x) = flat x := rfl
@[simp] theorem fl_b : fl ⟨sl, sto⟩ (.b k) = (sl[k]?).bind flat := by
  unfold fl
  cases h : sl[k]? <;> simp [h]
@[simp] theorem flat_im {i : I} : flat (.im i) = some i := rfl
@[simp] theorem flat_lst {l : List O} : flat (.lst l) = (allIm l).map .lst := rfl
@[simp] theorem flat_tup {l : List O} : flat (.tup l) = (allIm l).map .tup := rfl
@[simp] theorem allIm_nil : allIm [] = some [] := rfl
@[simp] theorem allIm_cons {i : I} {r : List O} : allIm (.im i :: r) = (allIm r).map (i :: ·) := rfl
@[simp] theorem isH_im {i : I} : isH (.im i) = false := rfl
@[simp] theorem isH_lst {i : List O} : isH (.lst i) = false := rfl
@[simp] theorem isH_tup {i : List O} : isH (.tup i) = false := rfl
@[simp] theorem isH_dct {i : List (DK × O)} : isH (.dct i) = false := rfl
@[simp] theorem isH_ins {c : Nat} {i : List (Str × O)} : isH (.ins c i) = false := rfl
@[simp] theorem isH_hole : isH .hole = true := rfl
@[simp] theorem fzb_im {i : I} : fzb (.im i) = true := rfl
@[simp] theorem frz_im {i : I} : frz (.im i) = i := rfl
@[simp] theorem ex_ite {α : Type} {c : Prop} [Decidable c] {a : α} {P : α → Prop} : (∃ o, (if c then some a else none) = some o ∧ P o) ↔ c ∧ P a := by
  by_cases h : c <;> simp [h]
@[simp] theorem ex_ite' {α : Type} {c : Prop} [Decidable c] {a : α} {P : α → Prop} : (∃ o, (if c then none else some a) = some o ∧ P o) ↔ ¬ c ∧ P a := by
  by_cases h : c <;> simp [h]
@[simp] theorem ex_map {α β : Type} {x : Option α} {f : α → β} {P : β → Prop} : (∃ o, x.map f = some o ∧ P o) ↔ ∃ a, x = some a ∧ P (f a) := by
  cases x <;> simp
@[simp] theorem ex_and_eq {α : Type} {c : Prop} {a : α} {P : α → Prop} : (∃ o, (c ∧ a = o) ∧ P o) ↔ c ∧ P a := by
  constructor
  · rintro ⟨o, ⟨h, rfl⟩, p⟩; exact ⟨h, p⟩
  · rintro ⟨h, p⟩; exact ⟨a, ⟨h, rfl⟩, p⟩
@[simp] theorem ex_ex_eq {α β : Type} {q : α → Prop} {f : α → β} {P : β → Prop} : (∃ o, (∃ b, q b ∧ f b = o) ∧ P o) ↔ ∃ b, q b ∧ P (f b) := by
  constructor
  · rintro ⟨o, ⟨b, h, rfl⟩, p⟩; exact ⟨b, h, p⟩
  · rintro ⟨b, h, p⟩; exact ⟨_, ⟨b, h, rfl⟩, p⟩
@[simp] theorem mulOk_r {i j : Int} (h1 : -18446744073709551616 < j) (h2 : j < 18446744073709551616) : mulOk i j = true := by
  unfold mulOk
  rw [Bool.or_eq_true_iff]
  exact .inl (decide_eq_true (.inr ⟨by omega, by omega⟩))
@[simp] theorem mulOk_l {i j : Int} (h1 : -18446744073709551616 < i) (h2 : i < 18446744073709551616) : mulOk i j = true := by
  unfold mulOk
  rw [Bool.or_eq_true_iff]
  exact .inl (decide_eq_true (.inl ⟨by omega, by omega⟩))
@[simp] theorem fdvOk_s {j : Int} (h1 : 0 < j) (h2 : j < 1073741824) : fdvOk j = true := by
  unfold fdvOk
  rw [Bool.or_eq_true_iff]
  exact .inl (decide_eq_true ⟨h1, h2⟩)
theorem fin_ix {io : List Nat} {np : Nat} {st : St} : fin io np st = (List.range np).map fun i => if i ∈ io then st.sl.getD i .hole else .hole := rfl
@[simp] theorem fin_1 {io : List Nat} : fin io 1 ⟨sl, sto⟩ = [if 0 ∈ io then sl.getD 0 .hole else .hole] := rfl
@[simp] theorem fin_2 {io : List Nat} : fin io 2 ⟨sl, sto⟩ = [if 0 ∈ io then sl.getD 0 .hole else .hole, if 1 ∈ io then sl.getD 1 .hole else .hole] := rfl
@[simp] theorem fin_3 {io : List Nat} : fin io 3 ⟨sl, sto⟩ = [if 0 ∈ io then sl.getD 0 .hole else .hole, if 1 ∈ io then sl.getD 1 .hole else .hole, if 2 ∈ io then sl.getD 2 .hole else .hole] := rfl
@[simp] theorem fin_4 {io : List Nat} : fin io 4 ⟨sl, sto⟩ = [if 0 ∈ io then sl.getD 0 .hole else .hole, if 1 ∈ io then sl.getD 1 .hole else .hole, if 2 ∈ io then sl.getD 2 .hole else .hole, if 3 ∈ io then sl.getD 3 .hole else .hole] := rfl
@[simp] theorem s_add {i j : Int} : fAdd [.int i, .int j] = some (.im (.int (i + j))) := rfl
@[simp] theorem s_adds {i j : Str} : fAdd [.str i, .str j] = if i.length + j.length ≤ sizeLine then some (.im (.str (i ++ j))) else none := rfl
@[simp] theorem s_addl {l m : List I} : fAdd [.lst l, .lst m] = if l.length + m.length ≤ sizeLine then some (.lst ((l ++ m).map .im)) else none := rfl
@[simp] theorem s_addt {l m : List I} : fAdd [.tup l, .tup m] = if l.length + m.length ≤ sizeLine then some (.im (.tup (l ++ m))) else none := rfl
@[simp] theorem s_sub {i j : Int} : fSub [.int i, .int j] = some (.im (.int (i - j))) := rfl
@[simp] theorem s_mul {i j : Int} : fMul [.int i, .int j] = if mulOk i j then some (.im (.int (i * j))) else none := rfl
@[simp] theorem s_muls {x : Str} {k : Int} : fMul [.str x, .int k] = if rep62 k && decide (x.length * k.toNat ≤ sizeLine) then some (.im (.str (strRep x k.toNat))) else none := rfl
@[simp] theorem s_mull {l : List I} {k : Int} : fMul [.lst l, .int k] = if rep62 k && decide (l.length * k.toNat ≤ sizeLine) then some (.lst ((List.replicate k.toNat l).flatten.map .im)) else none := rfl
@[simp] theorem s_fdv {i j : Int} : fFdv [.int i, .int j] = if fdvOk j then some (.im (.int (i / j))) else none := rfl
@[simp] theorem s_mod {i j : Int} : fMod [.int i, .int j] = if decide (0 < j) then some (.im (.int (i % j))) else none := rfl
@[simp] theorem s_pow {i j : Int} : fPow [.int i, .int j] = if decide (0 ≤ j ∧ j ≤ 1000000 ∧ i.natAbs < 2 ^ 64) then some (.im (.int (i ^ j.toNat))) else none := rfl
@[simp] theorem s_neg {i : Int} : fNeg [.int i] = some (.im (.int (-i))) := rfl
@[simp] theorem s_lt {i j : Int} : fLt [.int i, .int j] = some (.im (.bl (decide (i < j)))) := rfl
@[simp] theorem s_le {i j : Int} : fLe [.int i, .int j] = some (.im (.bl (decide (i ≤ j)))) := rfl
@[simp] theorem s_gt {i j : Int} : fGt [.int i, .int j] = some (.im (.bl (decide (j < i)))) := rfl
@[simp] theorem s_ge {i j : Int} : fGe [.int i, .int j] = some (.im (.bl (decide (j ≤ i)))) := rfl
@[simp] theorem s_isN {i : I} : fIs [i, .non] = some (.im (.bl (isNon i))) := by
  unfold fIs fIsB; split <;> simp_all
@[simp] theorem s_isNotN {i : I} : fIsNot [i, .non] = some (.im (.bl (!isNon i))) := by
  unfold fIsNot fIsB; split <;> simp_all
@[simp] theorem s_isB {a b : Bool} : fIs [.bl a, .bl b] = some (.im (.bl (decide (a = b)))) := rfl
@[simp] theorem s_isNotB {a b : Bool} : fIsNot [.bl a, .bl b] = some (.im (.bl (!decide (a = b)))) := rfl
@[simp] theorem s_ixl {l : List I} {i : Int} : fIx [.lst l, .int i] = (atI l i).map .im := rfl
@[simp] theorem s_ixt {l : List I} {i : Int} : fIx [.tup l, .int i] = (atI l i).map .im := rfl
@[simp] theorem s_ixs {z : Str} {i : Int} : fIx [.str z, .int i] = if z.length ≤ sizeLine then (atI z.cps.toList i).map fun c => .im (.str ⟨#[c]⟩) else none := rfl
@[simp] theorem s_lenl {l : List I} : fLen [.lst l] = some (.im (.int (l.length : Nat))) := rfl
@[simp] theorem s_lent {l : List I} : fLen [.tup l] = some (.im (.int (l.length : Nat))) := rfl
@[simp] theorem s_lens {z : Str} : fLen [.str z] = if z.length ≤ sizeLine then some (.im (.int (z.length : Nat))) else none := by
  unfold fLen lenI; by_cases h : z.length ≤ sizeLine <;> simp [h]
@[simp] theorem s_abs {i : Int} : fAbs [.int i] = some (.im (.int (if i < 0 then -i else i))) := rfl
@[simp] theorem s_max {i j : Int} : fMax [.int i, .int j] = some (.im (.int (if j > i then j else i))) := rfl
@[simp] theorem s_min {i j : Int} : fMin [.int i, .int j] = some (.im (.int (if j < i then j else i))) := rfl
@[simp] theorem s_isi {T : String} {i : I} : fIsi T [i] = (tyI i).map fun t => .im (.bl (isTy t T)) := rfl
@[simp] theorem s_in {l : List I} : fIn l = (inOp l).map fun b => .im (.bl b) := rfl
@[simp] theorem s_notin {l : List I} : fNotIn l = (inOp l).map fun b => .im (.bl (!b)) := rfl
theorem at_nat {α : Type} {l : List α} {k : Nat} (h : k < l.length) : atI l (k : Int) = some l[k] := by
  have : (k : Int) < l.length := by omega
  simp [atI, ixN, this, h]
theorem at_int {α : Type} {l : List α} {i : Int} (h0 : 0 ≤ i) (h : i < l.length) : atI l i = l[i.toNat]? := by
  simp [atI, ixN, h0, h]
theorem at_0 {α : Type} {a : α} {r : List α} : atI (a :: r) 0 = some a := at_nat (k := 0) (by simp)
theorem at_1 {α : Type} {a b : α} {r : List α} : atI (a :: b :: r) 1 = some b := at_nat (k := 1) (by simp)
theorem at_2 {α : Type} {a b c : α} {r : List α} : atI (a :: b :: c :: r) 2 = some c := at_nat (k := 2) (by simp)
theorem at_3 {α : Type} {a b c d : α} {r : List α} : atI (a :: b :: c :: d :: r) 3 = some d := at_nat (k := 3) (by simp)
@[simp] theorem q_op1 {f : List I → Option O} {a : OM} {ok : St → O → Prop} : RunAt (op1 f a) st ok ex ↔ RunAt a st (fun s x => RunAt (rd f [x]) s ok ex) ex := q_bnd
@[simp] theorem q_op2 {f : List I → Option O} {a b : OM} {ok : St → O → Prop} : RunAt (op2 f a b) st ok ex ↔ RunAt a st (fun s x => RunAt b s (fun s y => RunAt (rd f [x, y]) s ok ex) ex) ex := by
  unfold op2; rw [q_bnd]; simp only [q_bnd]
@[simp] theorem q_opN {f : List I → Option O} {a : OL} {ok : St → O → Prop} : RunAt (opN f a) st ok ex ↔ RunAt a st (fun s x => RunAt (rd f x) s ok ex) ex := q_bnd
@[simp] theorem q_eT1 {f : List I → Option O} {m : EM} {k : OM} {ok : St → O → Prop} : RunAt (eT1 f m k) st ok ex ↔ RunAt m st (fun s o => ∃ a, o = .im (.str a) ∧ RunAt k s (fun s y => RunAt (rd f [.o (.im (.str a)), y]) s ok ex) ex) ex := by
  unfold eT1
  rw [q_bnd]
  refine iff_of_eq (congrArg (fun z => RunAt m st z ex) ?_)
  funext s o
  split
  · simp only [q_bnd, O.im.injEq, I.str.injEq, exists_eq_left']
  · rename_i h
    simp only [q_lift_none, eq_iff_iff, false_iff, not_exists, not_and]
    intro a e
    exact absurd e (h a)
@[simp] theorem q_eT0 {f : List I → Option O} {m : EM} {ok : St → O → Prop} : RunAt (eT0 f m) st ok ex ↔ RunAt m st (fun s o => ∃ a, o = .im (.str a) ∧ RunAt (rd f [.o (.im (.str a))]) s ok ex) ex := by
  unfold eT0
  rw [q_bnd]
  refine iff_of_eq (congrArg (fun z => RunAt m st z ex) ?_)
  funext s o
  split
  · simp
  · rename_i h
    simp only [q_lift_none, eq_iff_iff, false_iff, not_exists, not_and]
    intro a e
    exact absurd e (h a)
@[simp] theorem q_asB {m : EM} {ok : St → Bool → Prop} : RunAt (asB m) st ok ex ↔ RunAt m st (fun s o => ∃ b, o = .im (.bl b) ∧ ok s b) ex := by
  unfold asB
  rw [q_bnd]
  refine iff_of_eq (congrArg (fun z => RunAt m st z ex) ?_)
  funext s o
  split
  · simp
  · rename_i h
    simp only [q_lift_none, eq_iff_iff, false_iff, not_exists, not_and]
    intro a e
    exact absurd e (h a)
@[simp] theorem q_bAnd {m k : BM} {ok : St → Bool → Prop} : RunAt (bAnd m k) st ok ex ↔ RunAt m st (fun s b => (b = true → RunAt k s ok ex) ∧ (b = false → ok s false)) ex := by
  unfold bAnd; simp
@[simp] theorem q_bOr {m k : BM} {ok : St → Bool → Prop} : RunAt (bOr m k) st ok ex ↔ RunAt m st (fun s b => (b = true → ok s true) ∧ (b = false → RunAt k s ok ex)) ex := by
  unfold bOr; simp
@[simp] theorem q_bNot {m : BM} {ok : St → Bool → Prop} : RunAt (bNot m) st ok ex ↔ RunAt m st (fun s b => ok s (!b)) ex := by
  unfold bNot; simp
@[simp] theorem q_bYes {ok : St → Bool → Prop} : RunAt bYes st ok ex ↔ ok st true := Iff.rfl
@[simp] theorem q_eAnd {m k : EM} {ok : St → O → Prop} : RunAt (eAnd m k) st ok ex ↔ RunAt (asB m) st (fun s b => (b = true → RunAt k s ok ex) ∧ (b = false → ok s (.im (.bl false)))) ex := by
  unfold eAnd; rw [q_bnd]; simp only [q_ite, q_ret, Bool.not_eq_true]
@[simp] theorem q_eOr {m k : EM} {ok : St → O → Prop} : RunAt (eOr m k) st ok ex ↔ RunAt (asB m) st (fun s b => (b = true → ok s (.im (.bl true))) ∧ (b = false → RunAt k s ok ex)) ex := by
  unfold eOr; rw [q_bnd]; simp only [q_ite, q_ret, Bool.not_eq_true]
@[simp] theorem q_eNot {m : EM} {ok : St → O → Prop} : RunAt (eNot m) st ok ex ↔ RunAt (asB m) st (fun s b => ok s (.im (.bl (!b)))) ex := by
  unfold eNot; rw [q_bnd]; simp only [q_ret]
@[simp] theorem q_eIf {t : BM} {m k : EM} {ok : St → O → Prop} : RunAt (eIf t m k) st ok ex ↔ RunAt t st (fun s b => (b = true → RunAt m s ok ex) ∧ (b = false → RunAt k s ok ex)) ex := by
  unfold eIf; simp
@[simp] theorem q_pNo {ok : St → Option Int → Prop} : RunAt pNo st ok ex ↔ ok st none := Iff.rfl
@[simp] theorem q_pAt {m : EM} {ok : St → Option Int → Prop} : RunAt (pAt m) st ok ex ↔ RunAt m st (fun s o => ∃ i, o = .im (.int i) ∧ ok s (some i)) ex := by
  unfold pAt
  rw [q_bnd]
  refine iff_of_eq (congrArg (fun z => RunAt m st z ex) ?_)
  funext s o
  split
  · simp
  · rename_i h
    simp only [q_lift_none, eq_iff_iff, false_iff, not_exists, not_and]
    intro a e
    exact absurd e (h a)
@[simp] theorem q_eSl {a : OM} {lo hi : OP} {ok : St → O → Prop} : RunAt (eSl a lo hi) st ok ex ↔ RunAt a st (fun s x => RunAt lo s (fun s l => RunAt hi s (fun s h => RunAt (rd (fSl l h) [x]) s ok ex) ex) ex) ex := by
  unfold eSl; simp only [q_bnd]
@[simp] theorem q_eCh {f h : List I → Option O} {a b c : OM} {ok : St → O → Prop} : RunAt (eCh f h a b c) st ok ex ↔ RunAt a st (fun s x => RunAt b s (fun s y => RunAt (asB (rd f [x, y])) s (fun s z => (z = true → RunAt c s (fun s w => RunAt (rd h [y, w]) s ok ex) ex) ∧ (z = false → ok s (.im (.bl false)))) ex) ex) ex := by
  unfold eCh
  simp only [q_bnd]
  refine iff_of_eq (congrArg (fun z => RunAt a st z ex) ?_)
  funext s x
  refine congrArg (fun z => RunAt b s z ex) ?_
  funext s y
  rw [q_asB]
  refine congrArg (fun z => RunAt (rd f [x, y]) s z ex) ?_
  funext s o
  split
  · simp
  · simp
  · rename_i h1 h2
    simp only [q_lift_none, eq_iff_iff, false_iff, not_exists, not_and]
    intro b e
    cases b with
    | true => exact absurd e h1
    | false => exact absurd e h2
/-! statements -/
@[simp] theorem q_sNext {ok : St → VS.Fl → Prop} : RunAt sNext st ok ex ↔ ok st .nx := Iff.rfl
@[simp] theorem q_sBrk {ok : St → VS.Fl → Prop} : RunAt sBrk st ok ex ↔ ok st .bk := Iff.rfl
@[simp] theorem q_sCont {ok : St → VS.Fl → Prop} : RunAt sCont st ok ex ↔ ok st .ct := Iff.rfl
@[simp] theorem q_sRetN {ok : St → VS.Fl → Prop} : RunAt sRetN st ok ex ↔ ok st (.rt (.im .non)) := Iff.rfl
@[simp] theorem q_put {o : O} {ok : St → Unit → Prop} : RunAt (put k o) ⟨sl, sto⟩ ok ex ↔ k < sl.length ∧ ok ⟨sl.set k o, sto⟩ () := by
  unfold RunAt put
  by_cases h : k < sl.length <;> simp [h]
@[simp] theorem q_sSet {m : EM} {ok : St → VS.Fl → Prop} : RunAt (sSet k m) st ok ex ↔ RunAt m st (fun s o => RunAt (put k o) s (fun s _ => ok s .nx) ex) ex := by
  unfold sSet; simp only [q_bnd, q_ret]
@[simp] theorem q_sDrop {m : EM} {ok : St → VS.Fl → Prop} : RunAt (sDrop m) st ok ex ↔ RunAt m st (fun s _ => ok s .nx) ex := by
  unfold sDrop; simp only [q_bnd, q_ret]
@[simp] theorem q_sRet {m : EM} {ok : St → VS.Fl → Prop} : RunAt (sRet m) st ok ex ↔ RunAt m st (fun s o => ok s (.rt o)) ex := by
  unfold sRet; simp only [q_bnd, q_ret]
@[simp] theorem q_sIf {t : BM} {m k : SM} {ok : St → VS.Fl → Prop} : RunAt (sIf t m k) st ok ex ↔ RunAt t st (fun s b => (b = true → RunAt m s ok ex) ∧ (b = false → RunAt k s ok ex)) ex := by
  unfold sIf; simp
/-- what stands behind a statement -/
def thenK (k : SM) (ok : St → VS.Fl → Prop) (ex : St → Nat → List I → Prop) (s : St) (f : VS.Fl) : Prop := match f with
  | .nx => RunAt k s ok ex
  | f => ok s f
@[simp] theorem thenK_nx {m : SM} {ok : St → VS.Fl → Prop} : thenK m ok ex st .nx ↔ RunAt m st ok ex := Iff.rfl
@[simp] theorem thenK_rt {m : SM} {o : O} {ok : St → VS.Fl → Prop} : thenK m ok ex st (.rt o) ↔ ok st (.rt o) := Iff.rfl
@[simp] theorem thenK_bk {m : SM} {ok : St → VS.Fl → Prop} : thenK m ok ex st .bk ↔ ok st .bk := Iff.rfl
@[simp] theorem thenK_ct {m : SM} {ok : St → VS.Fl → Prop} : thenK m ok ex st .ct ↔ ok st .ct := Iff.rfl
@[simp] theorem q_sSeq {m k : SM} {ok : St → VS.Fl → Prop} : RunAt (sSeq m k) st ok ex ↔ RunAt m st (thenK k ok ex) ex := by
  unfold sSeq
  rw [q_bnd]
  refine iff_of_eq (congrArg (fun z => RunAt m st z ex) ?_)
  funext s f
  cases f <;> rfl
@[simp] theorem q_putAt {o j : O} {ok : St → Unit → Prop} : RunAt (putAt k o j) ⟨sl, sto⟩ ok ex ↔ ∃ l, sl[k]? = some (.lst l) ∧ ∃ i, j = .im (.int i) ∧ ∃ n, ixN l.length i = some n ∧ ok ⟨sl.set k (.lst (l.set n o)), sto⟩ () := by
  unfold RunAt putAt
  cases h : sl[k]? with
  | none => simp
  | some x =>
    cases x with
    | lst l =>
      cases j with
      | im i =>
        cases i with
        | int i =>
          cases hn : ixN l.length i with
          | none => simp [hn]
          | some n => simp [hn]
        | _ => simp
      | _ => simp
    | _ => simp
@[simp] theorem q_sPut {ix m : EM} {ok : St → VS.Fl → Prop} : RunAt (sPut k ix m) st ok ex ↔ RunAt m st (fun s o => RunAt (bo k) s (fun s _ => RunAt ix s (fun s j => RunAt (putAt k o j) s (fun s _ => ok s .nx) ex) ex) ex) ex := by
  unfold sPut; simp only [q_bnd, q_ret]
/-! defs -/
@[irreducible] def Does (F : Fn) (os sto : List O) (Q : O → List O → List O → Prop) (E : Nat → List I → List O → List O → Prop) : Prop := match F os sto with
  | none => False
  | some (.ok o, fi, sto') => Q o fi sto'
  | some (.ex c i, fi, sto') => E c i fi sto'
theorem Does.imp {F : Fn} {os sto : List O} {Q Q' : O → List O → List O → Prop} {E E' : Nat → List I → List O → List O → Prop} (h : Does F os sto Q E) (h1 : ∀ o f s, Q o f s → Q' o f s) (h2 : ∀ c i f s, E c i f s → E' c i f s) : Does F os sto Q' E' := by
  unfold Does at h ⊢
  split at h
  · exact h
  · exact h1 _ _ _ h
  · exact h2 _ _ _ _ h
theorem does_mk {N np : Nat} {io : List Nat} {b : SM} {os sto : List O} {Q : O → List O → List O → Prop} {E : Nat → List I → List O → List O → Prop} : Does (mkFn N np io b) os sto Q E ↔ RunAt b ⟨os ++ List.replicate (N - os.length) .hole, sto⟩ (fun st f => match f with
    | .rt o => Q o (fin io np st) st.sto
    | .nx => Q (.im .non) (fin io np st) st.sto
    | _ => False) (fun st c i => E c i (fin io np st) st.sto) := by
  unfold Does mkFn RunAt
  cases h : b ⟨os ++ List.replicate (N - os.length) .hole, sto⟩ with
  | none => simp
  | some z =>
    obtain ⟨z, s⟩ := z
    cases z with
    | ok f => cases f <;> simp
    | ex c i => simp
theorem does_eq {F : Fn} {os sto : List O} {o fi sto'} (h : Does F os sto (fun o' fi' s' => o' = o ∧ fi' = fi ∧ s' = sto') (fun _ _ _ _ => False)) : F os sto = some (.ok o, fi, sto') := by
  unfold Does at h
  split at h
  · exact h.elim
  · rename_i e; obtain ⟨rfl, rfl, rfl⟩ := h; exact e
  · exact h.elim
theorem does_ok {F : Fn} {os sto : List O} {o : O} (h : Does F os sto (fun o' _ _ => o' = o) (fun _ _ _ _ => False)) : ∃ fi s', F os sto = some (.ok o, fi, s') := by
  unfold Does at h
  split at h
  · exact h.elim
  · rename_i e; subst h; exact ⟨_, _, e⟩
  · exact h.elim
@[simp] theorem q_callK {io : List Nat} {F : Fn} {ops : List Op} {ok : St → O → Prop} : RunAt (callK io F ops) ⟨sl, sto⟩ ok ex ↔ ∃ os, resL ⟨sl, sto⟩ ops = some os ∧ (bks ops).Nodup ∧ Does F os sto (fun o fi s' => ∃ sl', back io 0 sl ops fi = some sl' ∧ ok ⟨sl', s'⟩ o) (fun c i fi s' => ∃ sl', back io 0 sl ops fi = some sl' ∧ ex ⟨sl', s'⟩ c i) := by
  unfold RunAt callK Does
  cases hr : resL ⟨sl, sto⟩ ops with
  | none => simp
  | some os =>
    by_cases nd : (bks ops).Nodup
    · simp only [nd, if_true, Option.some.injEq, exists_eq_left', true_and]
      cases hf : F os sto with
      | none => simp
      | some z =>
        obtain ⟨z, fi, s'⟩ := z
        cases hb : back io 0 sl ops fi with
        | none => cases z <;> simp [hb]
        | some sl' => cases z <;> simp [hb]
    · simp [nd]
@[simp] theorem q_eCall {np : Nat} {io : List Nat} {F : Fn} {ds : List I} {a : OL} {ok : St → O → Prop} : RunAt (eCall np io F ds a) st ok ex ↔ RunAt a st (fun s ops => ops.length + ds.length = np ∧ RunAt (callK io F (ops ++ ds.map fun i => .o (.im i))) s ok ex) ex := by
  unfold eCall
  rw [q_bnd]
  refine iff_of_eq (congrArg (fun z => RunAt a st z ex) ?_)
  funext s ops
  by_cases h : ops.length + ds.length = np <;> simp [h]
/-! loops -/
@[simp] theorem q_sFor {m : IM} {T : Tg} {b : SM} {ok : St → VS.Fl → Prop} : RunAt (sFor m T b) st ok ex ↔ RunAt m st (fun s is => RunAt (forL T b is) s ok ex) ex := q_bnd
theorem q_forL {T : Tg} {b : SM} {ok : St → VS.Fl → Prop} (Inv : List I → St → Prop) : ∀ {is : List I} {st : St}, Inv is st → (∀ i r s, i ∈ is → Inv (i :: r) s → RunAt (putT T i) s (fun s _ => RunAt b s (fun s f => match f with
    | .nx => Inv r s
    | .ct => Inv r s
    | .bk => ok s .nx
    | .rt o => ok s (.rt o)) ex) ex) → (∀ s, Inv [] s → ok s .nx) → RunAt (forL T b is) st ok ex
  | [], st, h0, _, hd => hd st h0
  | i :: is, st, h0, hs, hd => by
    unfold forL
    simp only [q_bnd]
    refine RunAt.imp (hs i is st List.mem_cons_self h0) (fun s _ h => RunAt.imp h (fun s f h => ?_) fun _ _ _ h => h) fun _ _ _ h => h
    have next : Inv is s → RunAt (forL T b is) s ok ex := fun h => q_forL Inv h (fun i r s hi => hs i r s (List.mem_cons_of_mem _ hi)) hd
    cases f with
    | nx => exact next h
    | ct => exact next h
    | bk => exact h
    | rt o => exact h
@[simp] theorem q_nm {i : I} {ok : St → Unit → Prop} : RunAt (putT (.nm k) i) st ok ex ↔ RunAt (put k (.im i)) st ok ex := by
  unfold putT; rfl
@[simp] theorem q_itV {m : EM} {ok : St → List I → Prop} : RunAt (itV m) st ok ex ↔ RunAt m st (fun s o => ∃ is, itemsOf o = some is ∧ ok s is) ex := by
  unfold itV; simp [q_lift]
theorem q_itR1 {m : EM} {ok : St → List I → Prop} : RunAt (itR (aCons m aNil)) st ok ex ↔ RunAt m st (fun s o => ∃ j, o = .im (.int j) ∧ r62 j = true ∧ ok s (rng 0 j.toNat)) ex := by
  unfold itR
  simp only [q_bnd, q_aCons, q_aNil]
  refine iff_of_eq (congrArg (fun z => RunAt m st z ex) ?_)
  funext s o
  split
  · rename_i j e
    cases e
    by_cases h : r62 j = true <;> simp [h]
  · rename_i e; cases e
  · rename_i h1 h2
    simp only [q_lift_none, eq_iff_iff, false_iff, not_exists, not_and]
    intro j e
    subst e
    exact absurd rfl (h1 j)
theorem q_blk {own : List Nat} {m : M α} {k : α → β} {ok : St → β → Prop} : RunAt (blkM own m k) ⟨sl, sto⟩ ok ex ↔ imAt own sl = true ∧ RunAt m ⟨sl, sto⟩ (fun s a => ok ⟨resto sl own s.sl, s.sto⟩ (k a)) (fun _ _ _ => False) := by
  unfold RunAt blkM
  by_cases h : imAt own sl = true
  · simp only [h, if_true, true_and]
    cases hm : m ⟨sl, sto⟩ with
    | none => simp
    | some z =>
      obtain ⟨z, s⟩ := z
      cases z <;> simp
  · simp [h]
@[simp] theorem q_eLc {own : List Nat} {src : IM} {T : Tg} {t : BM} {e : EM} {ok : St → O → Prop} : RunAt (eLc own src T t e) st ok ex ↔ RunAt src st (fun s is => RunAt (blkM own (lcL own T t e is []) .lst) s ok ex) ex := q_bnd
theorem q_lcL {own : List Nat} {T : Tg} {t : BM} {e : EM} {ok : St → List O → Prop} (Inv : List I → List O → St → Prop) : ∀ {is : List I} {acc : List O} {st : St}, Inv is acc st → (∀ i r acc s, i ∈ is → Inv (i :: r) acc s → RunAt (putT T i) ⟨wip s.sl own, s.sto⟩ (fun s _ => RunAt t s (fun s c =>
      (c = true → RunAt e s (fun s o => acc.length < sizeLine ∧ Inv r (acc ++ [o]) s) ex) ∧ (c = false → Inv r acc s)) ex) ex) → (∀ acc s, Inv [] acc s → ok s acc) → RunAt (lcL own T t e is acc) st ok ex
  | [], acc, st, h0, _, hd => hd acc st h0
  | i :: is, acc, st, h0, hs, hd => by
    unfold lcL
    simp only [q_bnd]
    show RunAt (putT T i) ⟨wip st.sl own, st.sto⟩ _ ex
    refine RunAt.imp (hs i is acc st List.mem_cons_self h0) (fun s _ h => RunAt.imp h (fun s c h => ?_) fun _ _ _ h => h) fun _ _ _ h => h
    have next : ∀ acc s, Inv is acc s → RunAt (lcL own T t e is acc) s ok ex := fun acc s h => q_lcL Inv h (fun i r acc s hi => hs i r acc s (List.mem_cons_of_mem _ hi)) hd
    cases c with
    | false => simpa using next acc s (h.2 rfl)
    | true =>
      simp only [if_true, q_bnd]
      refine RunAt.imp (h.1 rfl) (fun s o h => ?_) fun _ _ _ h => h
      simp only [h.1, if_true]
      exact next _ s h.2
/-! the same, not to be run by whnf -/
@[irreducible] def Run (f : M α) (st : St) (ok : St → α → Prop) (ex : St → Nat → List I → Prop) : Prop := RunAt f st ok ex
theorem run_iff {f : M α} {ok : St → α → Prop} : Run f st ok ex ↔ RunAt f st ok ex := by
  unfold Run; exact Iff.rfl
theorem Run.imp {f : M α} {ok ok' : St → α → Prop} {ex' : St → Nat → List I → Prop} (h : Run f st ok ex) (h1 : ∀ s a, ok s a → ok' s a) (h2 : ∀ s c i, ex s c i → ex' s c i) : Run f st ok' ex' := run_iff.mpr ((run_iff.mp h).imp h1 h2)
@[irreducible] def thenR (k : SM) (ok : St → VS.Fl → Prop) (ex : St → Nat → List I → Prop) (s : St) (f : VS.Fl) : Prop := thenK k ok ex s f
theorem then_iff {k : SM} {ok : St → VS.Fl → Prop} {f : VS.Fl} : thenR k ok ex st f ↔ thenK k ok ex st f := by
  unfold thenR; exact Iff.rfl
theorem then_fun {k : SM} {ok : St → VS.Fl → Prop} : thenR k ok ex = thenK k ok ex := by
  unfold thenR; rfl
@[simp] theorem thenR_nx {m : SM} {ok : St → VS.Fl → Prop} : thenR m ok ex st .nx ↔ Run m st ok ex := by
  rw [then_iff, run_iff]; exact Iff.rfl
@[simp] theorem thenR_rt {m : SM} {o : O} {ok : St → VS.Fl → Prop} : thenR m ok ex st (.rt o) ↔ ok st (.rt o) := by
  rw [then_iff]; exact Iff.rfl
@[simp] theorem thenR_bk {m : SM} {ok : St → VS.Fl → Prop} : thenR m ok ex st .bk ↔ ok st .bk := by
  rw [then_iff]; exact Iff.rfl
@[simp] theorem thenR_ct {m : SM} {ok : St → VS.Fl → Prop} : thenR m ok ex st .ct ↔ ok st .ct := by
  rw [then_iff]; exact Iff.rfl
@[simp] theorem r_ret {a : α} {ok : St → α → Prop} : Run (ret a) st ok ex ↔ ok st a := by
  simp only [run_iff]
  exact q_ret
@[simp] theorem r_bnd {m : M α} {k : α → M β} {ok : St → β → Prop} : Run (bnd m k) st ok ex ↔ Run m st (fun s a => Run (k a) s ok ex) ex := by
  simp only [run_iff]
  exact q_bnd
@[simp] theorem r_lift_some {a : α} {ok : St → α → Prop} : Run (lift (some a)) st ok ex ↔ ok st a := by
  simp only [run_iff]
  exact q_lift_some
@[simp] theorem r_lift_none {ok : St → α → Prop} : Run (lift (none : Option α)) st ok ex ↔ False := by
  simp only [run_iff]
  exact q_lift_none
theorem r_lift {o : Option α} {ok : St → α → Prop} : Run (lift o) st ok ex ↔ ∃ a, o = some a ∧ ok st a := by
  simp only [run_iff]
  exact q_lift
@[simp] theorem r_none {ok : St → α → Prop} : Run (fun _ => none) st ok ex ↔ False := by
  simp only [run_iff]
  exact q_none
@[simp] theorem r_ite {c : Prop} [Decidable c] {m k : M α} {ok : St → α → Prop} : Run (if c then m else k) st ok ex ↔ (c → Run m st ok ex) ∧ (¬ c → Run k st ok ex) := by
  simp only [run_iff]
  exact q_ite
@[simp] theorem r_cI {i : I} {ok : St → O → Prop} : Run (cI i) st ok ex ↔ ok st (.im i) := by
  simp only [run_iff]
  exact q_cI
@[simp] theorem r_var {ok : St → O → Prop} : Run (eVar k) ⟨sl, sto⟩ ok ex ↔ ∃ i, sl[k]? = some (.im i) ∧ ok ⟨sl, sto⟩ (.im i) := by
  simp only [run_iff]
  exact q_var
@[simp] theorem r_mv {ok : St → O → Prop} : Run (eMv k) ⟨sl, sto⟩ ok ex ↔ ∃ o, sl[k]? = some o ∧ isH o = false ∧ ok ⟨sl.set k .hole, sto⟩ o := by
  simp only [run_iff]
  exact q_mv
@[simp] theorem r_fv {ok : St → O → Prop} : Run (eFv k) ⟨sl, sto⟩ ok ex ↔ ∃ o, sl[k]? = some o ∧ fzb o = true ∧ ok ⟨sl.set k (.im (frz o)), sto⟩ (.im (frz o)) := by
  simp only [run_iff]
  exact q_fv
@[simp] theorem r_fz {m : EM} {ok : St → O → Prop} : Run (eFz m) st ok ex ↔ Run m st (fun s o => fzb o = true ∧ ok s (.im (frz o))) ex := by
  simp only [run_iff]
  exact q_fz
@[simp] theorem r_vl {m : EM} {ok : St → Op → Prop} : Run (vl m) st ok ex ↔ Run m st (fun s o => ok s (.o o)) ex := by
  simp only [run_iff]
  exact q_vl
@[simp] theorem r_bo {ok : St → Op → Prop} : Run (bo k) ⟨sl, sto⟩ ok ex ↔ ∃ o, sl[k]? = some o ∧ isH o = false ∧ ok ⟨sl, sto⟩ (.b k) := by
  simp only [run_iff]
  exact q_bo
@[simp] theorem r_aNil {ok : St → List O → Prop} : Run aNil st ok ex ↔ ok st [] := by
  simp only [run_iff]
  exact q_aNil
@[simp] theorem r_aCons {m : EM} {r : AM} {ok : St → List O → Prop} : Run (aCons m r) st ok ex ↔ Run m st (fun s o => Run r s (fun s os => ok s (o :: os)) ex) ex := by
  simp only [run_iff]
  exact q_aCons
@[simp] theorem r_oNil {ok : St → List Op → Prop} : Run oNil st ok ex ↔ ok st [] := by
  simp only [run_iff]
  exact q_oNil
@[simp] theorem r_oCons {m : OM} {r : OL} {ok : St → List Op → Prop} : Run (oCons m r) st ok ex ↔ Run m st (fun s o => Run r s (fun s os => ok s (o :: os)) ex) ex := by
  simp only [run_iff]
  exact q_oCons
@[simp] theorem r_lst {r : AM} {ok : St → O → Prop} : Run (eLst r) st ok ex ↔ Run r st (fun s os => os.length ≤ sizeLine ∧ ok s (.lst os)) ex := by
  simp only [run_iff]
  exact q_lst
@[simp] theorem r_tup {r : AM} {ok : St → O → Prop} : Run (eTup r) st ok ex ↔ Run r st (fun s os => ∃ o, mkTup os = some o ∧ ok s o) ex := by
  simp only [run_iff]
  exact q_tup
theorem r_rd {f : List I → Option O} {os : List Op} {ok : St → O → Prop} : Run (rd f os) st ok ex ↔ ∃ is, flL st os = some is ∧ ∃ o, f is = some o ∧ ok st o := by
  simp only [run_iff]
  exact q_rd
@[simp] theorem r_rd1 {f : List I → Option O} {x : Op} {ok : St → O → Prop} : Run (rd f [x]) st ok ex ↔ ∃ i, fl st x = some i ∧ ∃ o, f [i] = some o ∧ ok st o := by
  simp only [run_iff]
  exact q_rd1
@[simp] theorem r_rd2 {f : List I → Option O} {x y : Op} {ok : St → O → Prop} : Run (rd f [x, y]) st ok ex ↔ ∃ i, fl st x = some i ∧ ∃ j, fl st y = some j ∧ ∃ o, f [i, j] = some o ∧ ok st o := by
  simp only [run_iff]
  exact q_rd2
@[simp] theorem r_op1 {f : List I → Option O} {a : OM} {ok : St → O → Prop} : Run (op1 f a) st ok ex ↔ Run a st (fun s x => Run (rd f [x]) s ok ex) ex := by
  simp only [run_iff]
  exact q_op1
@[simp] theorem r_op2 {f : List I → Option O} {a b : OM} {ok : St → O → Prop} : Run (op2 f a b) st ok ex ↔ Run a st (fun s x => Run b s (fun s y => Run (rd f [x, y]) s ok ex) ex) ex := by
  simp only [run_iff]
  exact q_op2
@[simp] theorem r_opN {f : List I → Option O} {a : OL} {ok : St → O → Prop} : Run (opN f a) st ok ex ↔ Run a st (fun s x => Run (rd f x) s ok ex) ex := by
  simp only [run_iff]
  exact q_opN
@[simp] theorem r_eT1 {f : List I → Option O} {m : EM} {k : OM} {ok : St → O → Prop} : Run (eT1 f m k) st ok ex ↔ Run m st (fun s o => ∃ a, o = .im (.str a) ∧ Run k s (fun s y => Run (rd f [.o (.im (.str a)), y]) s ok ex) ex) ex := by
  simp only [run_iff]
  exact q_eT1
@[simp] theorem r_eT0 {f : List I → Option O} {m : EM} {ok : St → O → Prop} : Run (eT0 f m) st ok ex ↔ Run m st (fun s o => ∃ a, o = .im (.str a) ∧ Run (rd f [.o (.im (.str a))]) s ok ex) ex := by
  simp only [run_iff]
  exact q_eT0
@[simp] theorem r_asB {m : EM} {ok : St → Bool → Prop} : Run (asB m) st ok ex ↔ Run m st (fun s o => ∃ b, o = .im (.bl b) ∧ ok s b) ex := by
  simp only [run_iff]
  exact q_asB
@[simp] theorem r_bAnd {m k : BM} {ok : St → Bool → Prop} : Run (bAnd m k) st ok ex ↔ Run m st (fun s b => (b = true → Run k s ok ex) ∧ (b = false → ok s false)) ex := by
  simp only [run_iff]
  exact q_bAnd
@[simp] theorem r_bOr {m k : BM} {ok : St → Bool → Prop} : Run (bOr m k) st ok ex ↔ Run m st (fun s b => (b = true → ok s true) ∧ (b = false → Run k s ok ex)) ex := by
  simp only [run_iff]
  exact q_bOr
@[simp] theorem r_bNot {m : BM} {ok : St → Bool → Prop} : Run (bNot m) st ok ex ↔ Run m st (fun s b => ok s (!b)) ex := by
  simp only [run_iff]
  exact q_bNot
@[simp] theorem r_bYes {ok : St → Bool → Prop} : Run bYes st ok ex ↔ ok st true := by
  simp only [run_iff]
  exact q_bYes
@[simp] theorem r_eAnd {m k : EM} {ok : St → O → Prop} : Run (eAnd m k) st ok ex ↔ Run (asB m) st (fun s b => (b = true → Run k s ok ex) ∧ (b = false → ok s (.im (.bl false)))) ex := by
  simp only [run_iff]
  exact q_eAnd
@[simp] theorem r_eOr {m k : EM} {ok : St → O → Prop} : Run (eOr m k) st ok ex ↔ Run (asB m) st (fun s b => (b = true → ok s (.im (.bl true))) ∧ (b = false → Run k s ok ex)) ex := by
  simp only [run_iff]
  exact q_eOr
@[simp] theorem r_eNot {m : EM} {ok : St → O → Prop} : Run (eNot m) st ok ex ↔ Run (asB m) st (fun s b => ok s (.im (.bl (!b)))) ex := by
  simp only [run_iff]
  exact q_eNot
@[simp] theorem r_eIf {t : BM} {m k : EM} {ok : St → O → Prop} : Run (eIf t m k) st ok ex ↔ Run t st (fun s b => (b = true → Run m s ok ex) ∧ (b = false → Run k s ok ex)) ex := by
  simp only [run_iff]
  exact q_eIf
@[simp] theorem r_pNo {ok : St → Option Int → Prop} : Run pNo st ok ex ↔ ok st none := by
  simp only [run_iff]
  exact q_pNo
@[simp] theorem r_pAt {m : EM} {ok : St → Option Int → Prop} : Run (pAt m) st ok ex ↔ Run m st (fun s o => ∃ i, o = .im (.int i) ∧ ok s (some i)) ex := by
  simp only [run_iff]
  exact q_pAt
@[simp] theorem r_eSl {a : OM} {lo hi : OP} {ok : St → O → Prop} : Run (eSl a lo hi) st ok ex ↔ Run a st (fun s x => Run lo s (fun s l => Run hi s (fun s h => Run (rd (fSl l h) [x]) s ok ex) ex) ex) ex := by
  simp only [run_iff]
  exact q_eSl
@[simp] theorem r_eCh {f h : List I → Option O} {a b c : OM} {ok : St → O → Prop} : Run (eCh f h a b c) st ok ex ↔ Run a st (fun s x => Run b s (fun s y => Run (asB (rd f [x, y])) s (fun s z => (z = true → Run c s (fun s w => Run (rd h [y, w]) s ok ex) ex) ∧ (z = false → ok s (.im (.bl false)))) ex) ex) ex := by
  simp only [run_iff]
  exact q_eCh
@[simp] theorem r_sNext {ok : St → VS.Fl → Prop} : Run sNext st ok ex ↔ ok st .nx := by
  simp only [run_iff]
  exact q_sNext
@[simp] theorem r_sBrk {ok : St → VS.Fl → Prop} : Run sBrk st ok ex ↔ ok st .bk := by
  simp only [run_iff]
  exact q_sBrk
@[simp] theorem r_sCont {ok : St → VS.Fl → Prop} : Run sCont st ok ex ↔ ok st .ct := by
  simp only [run_iff]
  exact q_sCont
@[simp] theorem r_sRetN {ok : St → VS.Fl → Prop} : Run sRetN st ok ex ↔ ok st (.rt (.im .non)) := by
  simp only [run_iff]
  exact q_sRetN
@[simp] theorem r_put {o : O} {ok : St → Unit → Prop} : Run (put k o) ⟨sl, sto⟩ ok ex ↔ k < sl.length ∧ ok ⟨sl.set k o, sto⟩ () := by
  simp only [run_iff]
  exact q_put
@[simp] theorem r_sSet {m : EM} {ok : St → VS.Fl → Prop} : Run (sSet k m) st ok ex ↔ Run m st (fun s o => Run (put k o) s (fun s _ => ok s .nx) ex) ex := by
  simp only [run_iff]
  exact q_sSet
@[simp] theorem r_sDrop {m : EM} {ok : St → VS.Fl → Prop} : Run (sDrop m) st ok ex ↔ Run m st (fun s _ => ok s .nx) ex := by
  simp only [run_iff]
  exact q_sDrop
@[simp] theorem r_sRet {m : EM} {ok : St → VS.Fl → Prop} : Run (sRet m) st ok ex ↔ Run m st (fun s o => ok s (.rt o)) ex := by
  simp only [run_iff]
  exact q_sRet
@[simp] theorem r_sIf {t : BM} {m k : SM} {ok : St → VS.Fl → Prop} : Run (sIf t m k) st ok ex ↔ Run t st (fun s b => (b = true → Run m s ok ex) ∧ (b = false → Run k s ok ex)) ex := by
  simp only [run_iff]
  exact q_sIf
@[simp] theorem r_sSeq {m k : SM} {ok : St → VS.Fl → Prop} : Run (sSeq m k) st ok ex ↔ Run m st (thenR k ok ex) ex := by
  simp only [run_iff, then_fun]
  exact q_sSeq
@[simp] theorem r_putAt {o j : O} {ok : St → Unit → Prop} : Run (putAt k o j) ⟨sl, sto⟩ ok ex ↔ ∃ l, sl[k]? = some (.lst l) ∧ ∃ i, j = .im (.int i) ∧ ∃ n, ixN l.length i = some n ∧ ok ⟨sl.set k (.lst (l.set n o)), sto⟩ () := by
  simp only [run_iff]
  exact q_putAt
@[simp] theorem r_sPut {ix m : EM} {ok : St → VS.Fl → Prop} : Run (sPut k ix m) st ok ex ↔ Run m st (fun s o => Run (bo k) s (fun s _ => Run ix s (fun s j => Run (putAt k o j) s (fun s _ => ok s .nx) ex) ex) ex) ex := by
  simp only [run_iff]
  exact q_sPut
@[simp] theorem r_callK {io : List Nat} {F : Fn} {ops : List Op} {ok : St → O → Prop} : Run (callK io F ops) ⟨sl, sto⟩ ok ex ↔ ∃ os, resL ⟨sl, sto⟩ ops = some os ∧ (bks ops).Nodup ∧ Does F os sto (fun o fi s' => ∃ sl', back io 0 sl ops fi = some sl' ∧ ok ⟨sl', s'⟩ o) (fun c i fi s' => ∃ sl', back io 0 sl ops fi = some sl' ∧ ex ⟨sl', s'⟩ c i) := by
  simp only [run_iff]
  exact q_callK
@[simp] theorem r_eCall {np : Nat} {io : List Nat} {F : Fn} {ds : List I} {a : OL} {ok : St → O → Prop} : Run (eCall np io F ds a) st ok ex ↔ Run a st (fun s ops => ops.length + ds.length = np ∧ Run (callK io F (ops ++ ds.map fun i => .o (.im i))) s ok ex) ex := by
  simp only [run_iff]
  exact q_eCall
@[simp] theorem r_sFor {m : IM} {T : Tg} {b : SM} {ok : St → VS.Fl → Prop} : Run (sFor m T b) st ok ex ↔ Run m st (fun s is => Run (forL T b is) s ok ex) ex := by
  simp only [run_iff]
  exact q_sFor
@[simp] theorem r_nm {i : I} {ok : St → Unit → Prop} : Run (putT (.nm k) i) st ok ex ↔ Run (put k (.im i)) st ok ex := by
  simp only [run_iff]
  exact q_nm
@[simp] theorem r_itV {m : EM} {ok : St → List I → Prop} : Run (itV m) st ok ex ↔ Run m st (fun s o => ∃ is, itemsOf o = some is ∧ ok s is) ex := by
  simp only [run_iff]
  exact q_itV
theorem r_itR1 {m : EM} {ok : St → List I → Prop} : Run (itR (aCons m aNil)) st ok ex ↔ Run m st (fun s o => ∃ j, o = .im (.int j) ∧ r62 j = true ∧ ok s (rng 0 j.toNat)) ex := by
  simp only [run_iff]
  exact q_itR1
theorem r_blk {own : List Nat} {m : M α} {k : α → β} {ok : St → β → Prop} : Run (blkM own m k) ⟨sl, sto⟩ ok ex ↔ imAt own sl = true ∧ Run m ⟨sl, sto⟩ (fun s a => ok ⟨resto sl own s.sl, s.sto⟩ (k a)) (fun _ _ _ => False) := by
  simp only [run_iff]
  exact q_blk
@[simp] theorem r_eLc {own : List Nat} {src : IM} {T : Tg} {t : BM} {e : EM} {ok : St → O → Prop} : Run (eLc own src T t e) st ok ex ↔ Run src st (fun s is => Run (blkM own (lcL own T t e is []) .lst) s ok ex) ex := by
  simp only [run_iff]
  exact q_eLc
theorem r_does {N np : Nat} {io : List Nat} {b : SM} {os sto : List O} {Q : O → List O → List O → Prop} {E : Nat → List I → List O → List O → Prop} : Does (mkFn N np io b) os sto Q E ↔ Run b ⟨os ++ List.replicate (N - os.length) .hole, sto⟩ (fun st f => match f with
    | .rt o => Q o (fin io np st) st.sto
    | .nx => Q (.im .non) (fin io np st) st.sto
    | _ => False) (fun st c i => E c i (fin io np st) st.sto) := by
  rw [run_iff]; exact does_mk
theorem r_forL {T : Tg} {b : SM} {ok : St → VS.Fl → Prop} (Inv : List I → St → Prop) {is : List I} {st : St} (h0 : Inv is st) (hs : ∀ i r s, i ∈ is → Inv (i :: r) s → Run (putT T i) s (fun s _ => Run b s (fun s f => match f with
    | .nx => Inv r s
    | .ct => Inv r s
    | .bk => ok s .nx
    | .rt o => ok s (.rt o)) ex) ex) (hd : ∀ s, Inv [] s → ok s .nx) : Run (forL T b is) st ok ex := by
  simp only [run_iff] at hs ⊢
  exact q_forL Inv h0 hs hd
theorem r_lcL {own : List Nat} {T : Tg} {t : BM} {e : EM} {ok : St → List O → Prop} (Inv : List I → List O → St → Prop) {is : List I} {acc : List O} {st : St} (h0 : Inv is acc st) (hs : ∀ i r acc s, i ∈ is → Inv (i :: r) acc s → Run (putT T i) ⟨wip s.sl own, s.sto⟩ (fun s _ => Run t s (fun s c =>
      (c = true → Run e s (fun s o => acc.length < sizeLine ∧ Inv r (acc ++ [o]) s) ex) ∧ (c = false → Inv r acc s)) ex) ex) (hd : ∀ acc s, Inv [] acc s → ok s acc) : Run (lcL own T t e is acc) st ok ex := by
  simp only [run_iff] at hs ⊢
  exact q_lcL Inv h0 hs hd
end
end VS

namespace VS
open PySem L2
section
variable {α β : Type} {st : St} {sl sto : List O} {ex : St → Nat → List I → Prop} {k : Nat}
theorem resto_wip {own : List Nat} {sl sl' : List O} (h : wip sl' own = wip sl own) : resto sl own sl' = sl := by
  have hl : sl'.length = sl.length := by
    have := congrArg List.length h
    simpa [wip_len] using this
  apply List.ext_getElem?
  intro j
  by_cases hj : j ∈ own
  · by_cases hb : j < sl'.length
    · rw [resto_in hj hb]
      have : j < sl.length := by omega
      simp [List.getD, this]
    · rw [List.getElem?_eq_none (by rw [resto_len]; omega), List.getElem?_eq_none (by omega)]
  · rw [resto_out hj, ← wip_out (sl := sl') hj, h, wip_out hj]
/-- a comprehension whose test and element change nothing -/
theorem lc_pure {own : List Nat} {T : Tg} {t : BM} {e : EM} {is : List I} {ok : St → O → Prop} (p : I → Bool) (g : I → O) (him : imAt own sl = true) (hl : is.length ≤ sizeLine)
    (h : ∀ i ∈ is, Run (putT T i) ⟨wip sl own, sto⟩ (fun s _ => Run t s (fun s c => c = p i ∧ (p i = true → Run e s (fun s o => o = g i ∧ wip s.sl own = wip sl own ∧ s.sto = sto) fun _ _ _ => False) ∧
      (p i = false → wip s.sl own = wip sl own ∧ s.sto = sto)) fun _ _ _ => False) fun _ _ _ => False)
    (hok : ok ⟨sl, sto⟩ (.lst ((is.filter p).map g))) : Run (blkM own (lcL own T t e is []) .lst) ⟨sl, sto⟩ ok ex := by
  rw [r_blk]
  refine ⟨him, ?_⟩
  refine r_lcL (fun r acc s => ∃ pre, is = pre ++ r ∧ acc = (pre.filter p).map g ∧ wip s.sl own = wip sl own ∧ s.sto = sto) ⟨[], rfl, rfl, rfl, rfl⟩ ?_ ?_
  · rintro i r acc s hi ⟨pre, e1, rfl, e3, e4⟩
    rw [e3, e4]
    have hlen : ((pre.filter p).map g).length < sizeLine := by
      have h1 := List.length_filter_le p pre
      have h2 := congrArg List.length e1
      simp only [List.length_append, List.length_cons] at h2
      rw [List.length_map]
      omega
    refine Run.imp (h i hi) (fun s1 _ h1 => Run.imp h1 (fun s2 c h2 => ?_) fun _ _ _ z => z.elim) fun _ _ _ z => z.elim
    obtain ⟨rfl, h3, h4⟩ := h2
    refine ⟨fun hc => Run.imp (h3 hc) (fun s3 o h5 => ?_) fun _ _ _ z => z.elim, fun hc => ?_⟩
    · obtain ⟨rfl, h6, h7⟩ := h5
      exact ⟨hlen, pre ++ [i], by rw [e1]; simp, by simp [List.filter_append, hc], h6, h7⟩
    · exact ⟨pre ++ [i], by rw [e1]; simp, by simp [List.filter_append, hc], h4 hc⟩
  · rintro acc s ⟨pre, e1, rfl, e3, e4⟩
    rw [List.append_nil] at e1
    subst e1
    rw [resto_wip e3, e4]
    exact hok
/-- .. without a test -/
theorem lc_map {own : List Nat} {T : Tg} {e : EM} {is : List I} {ok : St → O → Prop} (g : I → O) (him : imAt own sl = true) (hl : is.length ≤ sizeLine)
    (h : ∀ i ∈ is, Run (putT T i) ⟨wip sl own, sto⟩ (fun s _ => Run e s (fun s o => o = g i ∧ wip s.sl own = wip sl own ∧ s.sto = sto) fun _ _ _ => False) fun _ _ _ => False)
    (hok : ok ⟨sl, sto⟩ (.lst (is.map g))) : Run (blkM own (lcL own T bYes e is []) .lst) ⟨sl, sto⟩ ok ex := by
  refine lc_pure (fun _ => true) g him hl (fun i hi => Run.imp (h i hi) (fun s _ h => ?_) fun _ _ _ z => z) ?_
  · exact r_bYes.mpr ⟨rfl, fun _ => h, fun z => by cases z⟩
  · have e : is.filter (fun _ => true) = is := List.filter_eq_self.mpr fun _ _ => rfl
    rw [e]; exact hok
theorem chars_len {x : Str} : (chars x).length = x.length := by simp [chars, Str.length]
theorem chars_mem {x : Str} {i : I} (h : i ∈ chars x) : ∃ c, c ∈ x.cps.toList ∧ i = .str ⟨#[c]⟩ := by
  unfold chars at h
  obtain ⟨c, hc, rfl⟩ := List.mem_map.mp h
  exact ⟨c, hc, rfl⟩
@[simp] theorem items_str {x : Str} : itemsOf (.im (.str x)) = some (chars x) := rfl
@[simp] theorem items_lst {l : List I} : itemsOf (.im (.lst l)) = some l := rfl
@[simp] theorem items_tup {l : List I} : itemsOf (.im (.tup l)) = some l := rfl
@[simp] theorem one_one {c : Nat} : one? ⟨#[c]⟩ = some c := rfl
@[simp] theorem in_one {c : Nat} {z : Str} : inOp [.str ⟨#[c]⟩, .str z] = some (decide (c ∈ z.cps.toList)) := rfl
@[simp] theorem ty_str {x : Str} : tyI (.str x) = some "str" := rfl
@[simp] theorem ty_int {x : Int} : tyI (.int x) = some "int" := rfl
@[simp] theorem ty_bl {x : Bool} : tyI (.bl x) = some "bool" := rfl
@[simp] theorem ty_non : tyI .non = some "NoneType" := rfl
@[simp] theorem ty_tup {x : List I} : tyI (.tup x) = some "tuple" := rfl
@[simp] theorem ty_lst {x : List I} : tyI (.lst x) = some "list" := rfl
@[simp] theorem ty_dct {x : List (DK × I)} : tyI (.dct x) = some "dict" := rfl
@[simp] theorem ty_ref {x : Nat} : tyI (.ref x) = none := rfl
@[simp] theorem ty_fn {x : Nat} : tyI (.fn x) = none := rfl
@[simp] theorem fzb_lst {l : List O} : fzb (.lst l) = fzbL l := by rw [fzb]
@[simp] theorem fzb_tup {l : List O} : fzb (.tup l) = fzbL l := by rw [fzb]
@[simp] theorem fzb_dct {l : List (DK × O)} : fzb (.dct l) = fzbD l := by rw [fzb]
@[simp] theorem frz_lst {l : List O} : frz (.lst l) = .lst (frzL l) := by rw [frz]
@[simp] theorem frz_tup {l : List O} : frz (.tup l) = .tup (frzL l) := by rw [frz]
@[simp] theorem frz_dct {l : List (DK × O)} : frz (.dct l) = .dct (frzD l) := by rw [frz]
@[simp] theorem fzbL_nil : fzbL [] = true := by rw [fzbL]
@[simp] theorem fzbL_cons {a : O} {l : List O} : fzbL (a :: l) = (fzb a && fzbL l) := by rw [fzbL]
@[simp] theorem frzL_nil : frzL [] = [] := by rw [frzL]
@[simp] theorem frzL_cons {a : O} {l : List O} : frzL (a :: l) = frz a :: frzL l := by rw [frzL]
theorem fzbL_im : ∀ l : List I, fzbL (l.map .im) = true
  | [] => fzbL_nil
  | i :: l => by simp [fzbL_im l]
theorem frzL_im : ∀ l : List I, frzL (l.map .im) = l
  | [] => frzL_nil
  | i :: l => by simp [frzL_im l]
theorem r62_s {j : Int} (h1 : -1000000000000 < j) (h2 : j < 1000000000000) : r62 j = true := by
  unfold r62
  refine decide_eq_true ⟨?_, ?_⟩
  · have : -(2 ^ 62 : Int) ≤ -1000000000000 := by decide
    omega
  · have : (1000000000000 : Int) ≤ 2 ^ 62 := by decide
    omega
theorem bls_map {l : List I} {f : I → Bool} : blsOf (l.map fun i => .bl (f i)) = some (l.map f) := by
  induction l with
  | nil => rfl
  | cons a r ih => simp [blsOf, ih]
@[simp] theorem s_all {l : List I} : fAll [.lst l] = (blsOf l).map fun bs => .im (.bl (bs.all id)) := rfl
@[simp] theorem s_any {l : List I} : fAny [.lst l] = (blsOf l).map fun bs => .im (.bl (bs.any id)) := rfl
end
end VS

namespace K01
open PySem PySem.Spec PyProof.Rows L2 VS
/-- is_name -/
noncomputable def b_is_name : SM := (sRet (eAnd (op1 (fIsi "str") (vl (eVar 0))) (eAnd (eCh fLe fLe (vl (cI (.int 1))) (vl (opN fLen (oCons (vl (eVar 0)) oNil))) (vl (cI (.int 8)))) (opN fAll (oCons (vl (eLc [1] (itV (eVar 0)) (.nm 1) bYes (op2 fIn (vl (eVar 1)) (vl (cI (.str "abcdefghijklmnopqrstuvwxyz")))))) oNil)))))
noncomputable def f_is_name : Fn := mkFn 2 1 [] b_is_name
/-- _law_feed -/
noncomputable def b__law_feed : SM := (sSeq (sSet 2 (eIf (asB (op2 fLt (vl (eVar 1)) (vl (opN fLen (oCons (vl (eVar 0)) oNil))))) (op2 fIx (vl (eVar 0)) (vl (eVar 1))) (op2 fAdd (vl (op2 fMul (vl (cI (.int 71))) (vl (eVar 1)))) (vl (cI (.int 23))))))
    (sSeq (sSet 3 (opN fMax (oCons (vl (cI (.int 0))) (oCons (vl (op2 fSub (vl (opN fAbs (oCons (vl (eVar 2)) oNil))) (vl (op2 fPow (vl (cI (.int 10))) (vl (cI (.int 18))))))) oNil))))
    (sSeq (sSet 4 (op2 fMod (vl (op2 fAdd (vl (op2 fAdd (vl (op2 fMul (vl (eVar 2)) (vl (cI (.int 6364136223846793005))))) (vl (op2 fMul (vl (cI (.int 9973))) (vl (eVar 1)))))) (vl (cI (.int 1442695040888963407))))) (vl (cI (.int 2305843009213693951)))))
    (sRet (eLst (aCons (eVar 3) (aCons (eVar 4) aNil)))))))
noncomputable def f__law_feed : Fn := mkFn 5 2 [] b__law_feed
/-- _law_take -/
noncomputable def b__law_take : SM := (sSeq (sIf (asB (op2 fGt (vl (op2 fIx (bo 0) (vl (cI (.int 0))))) (vl (cI (.int 0)))))
    (sSeq (sSet 2 (op2 fMod (vl (op2 fIx (bo 0) (vl (cI (.int 0))))) (vl (eVar 1))))
    (sSeq (sPut 0 (cI (.int 0)) (op2 fFdv (vl (op2 fIx (bo 0) (vl (cI (.int 0))))) (vl (eVar 1))))
    (sRet (eVar 2))))
    sNext)
    (sSeq (sPut 0 (cI (.int 1)) (op2 fMod (vl (op2 fAdd (vl (op2 fMul (vl (op2 fIx (bo 0) (vl (cI (.int 1))))) (vl (cI (.int 6364136223846793005))))) (vl (cI (.int 1442695040888963407))))) (vl (cI (.int 2305843009213693951)))))
    (sRet (op2 fMod (vl (op2 fFdv (vl (op2 fIx (bo 0) (vl (cI (.int 1))))) (vl (cI (.int 65536))))) (vl (eVar 1))))))
noncomputable def f__law_take : Fn := mkFn 3 2 [0] b__law_take
/-- _law_pick -/
noncomputable def b__law_pick : SM := (sRet (op2 fIx (vl (eVar 1)) (vl (eCall 2 [0] f__law_take [] (oCons (bo 0) (oCons (vl (opN fLen (oCons (vl (eVar 1)) oNil))) oNil))))))
noncomputable def f__law_pick : Fn := mkFn 2 2 [0] b__law_pick
/-- law -/
noncomputable def b_law_1 : SM := (sSeq (sSet 8 (eAnd (eCh fLe fLe (vl (cI (.int 1))) (vl (opN fLen (oCons (vl (eVar 7)) oNil))) (vl (cI (.int 8)))) (op2 fEq (vl (eLc [11] (itV (eVar 7)) (.nm 11) (asB (op2 fNotIn (vl (eVar 11)) (vl (eVar 1)))) (eVar 11))) (vl (eLst aNil)))))
    (sSeq (sSet 9 (eFz (eCall 1 [] f_is_name [] (oCons (vl (eVar 7)) oNil))))
    (sIf (bOr (bNot (asB (op1 (fIsi "bool") (vl (eVar 9))))) (asB (op2 fNe (vl (eVar 9)) (vl (eVar 8)))))
    (sRet (cI (.bl false)))
    sNext)))
noncomputable def b_law_2 : SM := (sSeq (sSet 3 (eCall 2 [] f__law_feed [] (oCons (vl (eVar 0)) (oCons (vl (eVar 2)) oNil))))
    (sSeq (sSet 4 (eT1 fJoin (cI (.str "")) (vl (eLc [10] (itR (aCons (eCall 2 [0] f__law_take [] (oCons (bo 3) (oCons (vl (cI (.int 11))) oNil))) aNil)) (.nm 10) bYes (eFz (eCall 2 [0] f__law_pick [] (oCons (bo 3) (oCons (vl (eVar 1)) oNil))))))))
    (sSeq (sSet 5 (eFz (eCall 2 [0] f__law_take [] (oCons (bo 3) (oCons (vl (op2 fAdd (vl (opN fLen (oCons (vl (eVar 4)) oNil))) (vl (cI (.int 1))))) oNil)))))
    (sSeq (sSet 6 (eFz (eCall 2 [0] f__law_pick [] (oCons (bo 3) (oCons (vl (cI (.str "ABZ09_- .{~@\x5b\n\t"))) oNil)))))
    (sSeq (sFor (itV (eFz (eLst (aCons (eVar 4) (aCons (op2 fAdd (vl (op2 fAdd (vl (eSl (vl (eVar 4)) pNo (pAt (eVar 5)))) (vl (eVar 6)))) (vl (eSl (vl (eVar 4)) (pAt (eVar 5)) pNo))) (aCons (op2 fAdd (vl (op2 fAdd (vl (eSl (vl (eVar 4)) pNo (pAt (eVar 5)))) (vl (eVar 6)))) (vl (eSl (vl (eVar 4)) (pAt (op2 fAdd (vl (eVar 5)) (vl (cI (.int 1))))) pNo))) (aCons (op2 fMul (vl (eVar 4)) (vl (cI (.int 2)))) (aCons (eSl (vl (eVar 4)) pNo (pAt (cI (.int 8)))) aNil)))))))) (.nm 7)
    b_law_1)
    (sFor (itV (eFz (eLst (aCons (cI .non) (aCons (cI (.bl true)) (aCons (cI (.int 5)) (aCons (eTup (aCons (eVar 4) aNil)) (aCons (eLst (aCons (eVar 4) aNil)) (aCons (eTup aNil) (aCons (eLst aNil) (aCons (opN fList (oCons (vl (eVar 4)) oNil)) (aCons (op2 fEq (vl (eVar 4)) (vl (cI (.str "")))) aNil)))))))))))) (.nm 7)
    (sIf (asB (op2 fIsNot (vl (eCall 1 [] f_is_name [] (oCons (vl (eVar 7)) oNil))) (vl (cI (.bl false)))))
    (sRet (cI (.bl false)))
    sNext)))))))
noncomputable def b_law : SM := (sSeq (sSet 1 (cI (.str "abcdefghijklmnopqrstuvwxyz")))
    (sSeq (sFor (itR (aCons (opN fMax (oCons (vl (cI (.int 3))) (oCons (vl (opN fMin (oCons (vl (cI (.int 12))) (oCons (vl (opN fLen (oCons (vl (eVar 0)) oNil))) oNil)))) oNil))) aNil)) (.nm 2)
    b_law_2)
    (sRet (eAnd (op2 fIs (vl (eCall 1 [] f_is_name [] (oCons (vl (cI (.str "a"))) oNil))) (vl (cI (.bl true)))) (eAnd (op2 fIs (vl (eCall 1 [] f_is_name [] (oCons (vl (cI (.str "abcdefgh"))) oNil))) (vl (cI (.bl true)))) (op2 fIs (vl (eCall 1 [] f_is_name [] (oCons (vl (cI (.str "abcdefghi"))) oNil))) (vl (cI (.bl false)))))))))
noncomputable def f_law : Fn := mkFn 12 1 [] b_law
end K01

namespace K01
open PySem L2 VS
abbrev feedO (d s : Int) : O := .lst [.im (.int d), .im (.int s)]
abbrev LET : Str := "abcdefghijklmnopqrstuvwxyz"
def nameOk : I → Bool
  | .str x => decide (1 ≤ x.length) && decide (x.length ≤ 8) && x.cps.toList.all fun c => decide (c ∈ LET.cps.toList)
  | _ => false
theorem nameOk_str {x : Str} : nameOk (.str x) = (decide (1 ≤ x.length) && decide (x.length ≤ 8) && x.cps.toList.all fun c => decide (c ∈ LET.cps.toList)) := rfl
def isLet (i : I) : Bool := (inOp [i, .str LET]).getD false
theorem isLet_one {c : Nat} : isLet (.str ⟨#[c]⟩) = decide (c ∈ LET.cps.toList) := rfl
theorem all_let {x : Str} : ((chars x).map isLet).all id = x.cps.toList.all fun c => decide (c ∈ LET.cps.toList) := by
  unfold chars
  rw [List.map_map, List.all_map]
  rfl
section
variable {d s m : Int} {sto : List O} {Q : O → List O → List O → Prop} {E : Nat → List I → List O → List O → Prop}
theorem take_does (hm : 0 < m) (hm2 : m < 1073741824) (h : ∀ r d' s', 0 ≤ r → r < m → Q (.im (.int r)) [feedO d' s', .hole] sto) :
    Does f__law_take [feedO d s, .im (.int m)] sto Q E := by
  unfold f__law_take
  rw [r_does]
  simp [b__law_take, at_0, at_1, ixN, hm, hm2]
  rcases (by omega : 0 < d ∨ d ≤ 0) with h0 | h0
  · exact .inr ⟨h0, h _ _ _ (Int.emod_nonneg _ (by omega)) (Int.emod_lt_of_pos _ hm)⟩
  · exact .inl ⟨h0, h _ _ _ (Int.emod_nonneg _ (by omega)) (Int.emod_lt_of_pos _ hm)⟩
theorem pick_does {x : Str} (h0 : 0 < x.length) (h1 : x.length ≤ sizeLine) (h : ∀ c d' s', c ∈ x.cps.toList → Q (.im (.str ⟨#[c]⟩)) [feedO d' s', .hole] sto) :
    Does f__law_pick [feedO d s, .im (.str x)] sto Q E := by
  unfold f__law_pick
  rw [r_does]
  have hz : sizeLine = 16777216 := sizeLine_eq
  simp [b__law_pick, resL, res1, bks, h1]
  refine take_does (by omega) (by omega) fun r d' s' hr0 hr1 => ?_
  simp [back, h1]
  have hr2 : r.toNat < x.cps.toList.length := by
    have : x.cps.toList.length = x.length := by simp [Str.length]
    omega
  refine ⟨x.cps.toList[r.toNat], ?_, h _ _ _ (List.getElem_mem hr2)⟩
  rw [at_int hr0 (by omega)]
  exact List.getElem?_eq_getElem hr2
theorem feed_does {ns : List Int} {k : Nat} (h : ∀ d' s', Q (feedO d' s') [.hole, .hole] sto) : Does f__law_feed [.im (scr ns), .im (.int k)] sto Q E := by
  unfold f__law_feed
  rw [r_does]
  have fin : ∀ c : Int, Run (sSeq (sSet 3 (opN fMax (oCons (vl (cI (.int 0))) (oCons (vl (op2 fSub (vl (opN fAbs (oCons (vl (eVar 2)) oNil))) (vl (op2 fPow (vl (cI (.int 10))) (vl (cI (.int 18))))))) oNil))))
      (sSeq (sSet 4 (op2 fMod (vl (op2 fAdd (vl (op2 fAdd (vl (op2 fMul (vl (eVar 2)) (vl (cI (.int 6364136223846793005))))) (vl (op2 fMul (vl (cI (.int 9973))) (vl (eVar 1)))))) (vl (cI (.int 1442695040888963407))))) (vl (cI (.int 2305843009213693951)))))
      (sRet (eLst (aCons (eVar 3) (aCons (eVar 4) aNil)))))) ⟨[.im (.lst (ns.map .int)), .im (.int k), .im (.int c), .hole, .hole], sto⟩ (fun st f => match f with
    | .rt o => Q o (VS.fin [] 2 st) st.sto
    | .nx => Q (.im .non) (VS.fin [] 2 st) st.sto
    | _ => False) (fun st c i => E c i (VS.fin [] 2 st) st.sto) := fun c => by
    simp [sizeLine_eq]
    exact h _ _
  unfold b__law_feed
  rw [r_sSeq, r_sSet, r_eIf]
  simp [scr, -r_sSeq]
  by_cases hk : k < ns.length
  · exact .inr ⟨hk, .int ns[k], by rw [at_nat (by simpa using hk)]; simp, fin ns[k]⟩
  · refine .inl ⟨by omega, ?_⟩
    generalize 71 * (k : Int) + 23 = c
    exact fin c
theorem isname_does {i : I} (h8 : ∀ x, i = .str x → x.length ≤ sizeLine) (h2 : ∀ l, i ≠ .dct l) (h3 : (tyI i).isSome = true) (h : Q (.im (.bl (nameOk i))) [.hole] sto) : Does f_is_name [.im i] sto Q E := by
  unfold f_is_name
  rw [r_does]
  unfold b_is_name
  cases i with
  | str x =>
    have hx := h8 x rfl
    simp [isTy, hx]
    rcases (by omega : (x.length : Int) < 1 ∨ 1 ≤ (x.length : Int)) with h1 | h1
    · refine .inl ⟨h1, ?_⟩
      have : nameOk (.str x) = false := by
        rw [nameOk_str, decide_eq_false (by omega : ¬ 1 ≤ x.length)]; rfl
      rw [← this]; exact h
    refine .inr ⟨h1, ?_⟩
    rcases (by omega : 8 < (x.length : Int) ∨ (x.length : Int) ≤ 8) with h4 | h4
    · refine .inl ⟨h4, ?_⟩
      have : nameOk (.str x) = false := by
        rw [nameOk_str, decide_eq_false (by omega : ¬ x.length ≤ 8), Bool.and_false]; rfl
      rw [← this]; exact h
    refine .inr ⟨h4, lc_map (fun i => .im (.bl (isLet i))) rfl (by rw [chars_len]; exact hx) (fun i hi => ?_) ?_⟩
    · obtain ⟨c, hc, rfl⟩ := chars_mem hi
      simp [wip, isLet_one]
      exact (Classical.em _).symm
    · have e : (chars x).map (fun i => O.im (.bl (isLet i))) = ((chars x).map fun i => I.bl (isLet i)).map O.im := by simp
      rw [e]
      simp only [flat_lst, allIm_map, Option.map_some, Option.some.injEq, exists_eq_left', s_all, bls_map]
      rw [all_let]
      rw [nameOk_str, decide_eq_true (by omega : 1 ≤ x.length), decide_eq_true (by omega : x.length ≤ 8)] at h
      exact h
  | _ => simp_all [isTy, nameOk]
/-! texts -/
def okT (t : Str) : Prop := t.length ≤ 1000 ∧ ∀ c ∈ t.cps.toList, c < 0x110000
theorem okT.sz {t : Str} (h : okT t) : t.length ≤ sizeLine := by rw [sizeLine_eq]; have := h.1; omega
theorem okT.app {t u : Str} (h1 : t.length ≤ 400) (h2 : u.length ≤ 400) (h3 : ∀ c ∈ t.cps.toList, c < 0x110000) (h4 : ∀ c ∈ u.cps.toList, c < 0x110000) : okT (t ++ u) := by
  refine ⟨by rw [PySem.Str.length_append]; omega, fun c hc => ?_⟩
  have e : (t ++ u).cps.toList = t.cps.toList ++ u.cps.toList := by
    show (t.cps ++ u.cps).toList = _
    simp
  rw [e] at hc
  rcases List.mem_append.mp hc with h | h
  · exact h3 c h
  · exact h4 c h
def notLet (i : I) : Bool := !isLet i
theorem filt {t : Str} : ((chars t).filter notLet = []) ↔ (t.cps.toList.all fun c => decide (c ∈ LET.cps.toList)) = true := by
  rw [List.filter_eq_nil_iff, List.all_eq_true]
  constructor
  · intro h c hc
    have := h (.str ⟨#[c]⟩) (by unfold chars; exact List.mem_map.mpr ⟨c, hc, rfl⟩)
    simpa [notLet, isLet_one] using this
  · intro h i hi
    obtain ⟨c, hc, rfl⟩ := chars_mem hi
    have := h c hc
    simpa [notLet, isLet_one] using this
theorem toD_chars {l : List I} {t : Str} (ht : ∀ c ∈ t.cps.toList, c < 0x110000) (h : ∀ i ∈ l, i ∈ chars t) : ∃ ds, toDL l = some ds ∧ PyData.canLayAll0 ds = true ∧ ds.length = l.length := by
  induction l with
  | nil => exact ⟨[], rfl, rfl, rfl⟩
  | cons i l ih =>
    obtain ⟨ds, e1, e2, e3⟩ := ih fun j hj => h j (List.mem_cons_of_mem _ hj)
    obtain ⟨c, hc, rfl⟩ := chars_mem (h i List.mem_cons_self)
    refine ⟨.str ⟨#[c]⟩ :: ds, by unfold toDL toD; rw [e1], ?_, by simp [e3]⟩
    have hs : PyData.strOk ⟨#[c]⟩ = true := by
      have := ht c hc
      simp [PyData.strOk, this]
    simp [PyData.canLayAll0, PyData.canLay0, e2, hs]
theorem eq_nil {l : List I} {t : Str} (ht : ∀ c ∈ t.cps.toList, c < 0x110000) (h : ∀ i ∈ l, i ∈ chars t) : fEq [.lst l, .lst []] = some (.im (.bl (decide (l = [])))) := by
  obtain ⟨ds, e1, e2, e3⟩ := toD_chars ht h
  unfold fEq fEqB
  simp only [toD, toDL, e1, Option.map_some]
  have hd : min (PyData.list ds).depth (PyData.list []).depth ≤ 120 := by
    have : (PyData.list []).depth = 1 := by simp [PyData.depth, PyData.depthAll]
    omega
  have hc : (okD (.list ds) && okD (.list []) && decide (min (PyData.list ds).depth (PyData.list []).depth ≤ 120)) = true := by
    simp [okD, PyData.canLay0, PyData.canLayAll0, e2, hd]
  rw [if_pos hc]
  cases l with
  | nil =>
    have : ds = [] := by cases ds with | nil => rfl | cons _ _ => simp at e3
    subst this
    simp [PyData.eqv, PyData.eqvAll]
  | cons i l =>
    cases ds with
    | nil => simp at e3
    | cons d ds => simp [PyData.eqv, PyData.eqvAll]
end
end K01

namespace K01
open PySem L2 VS
/-- a text is judged as due -/
theorem b1_ok {x0 x2 x3 x4 x5 x6 x8 x9 : O} {t : Str} {sto : List O} (ht : okT t) {ok : VS.St → VS.Fl → Prop} {ex} (h : ∀ y8 y9, ok ⟨[x0, .im (.str LET), x2, x3, x4, x5, x6, .im (.str t), y8, y9, .hole, .hole], sto⟩ .nx) :
    Run b_law_1 ⟨[x0, .im (.str LET), x2, x3, x4, x5, x6, .im (.str t), x8, x9, .hole, .hole], sto⟩ ok ex := by
  have hz := ht.sz
  have fin : ∀ b : Bool, b = nameOk (.str t) → Run (sSeq (sSet 9 (eFz (eCall 1 [] f_is_name [] (oCons (vl (eVar 7)) oNil))))
      (sIf (bOr (bNot (asB (op1 (fIsi "bool") (vl (eVar 9))))) (asB (op2 fNe (vl (eVar 9)) (vl (eVar 8)))))
        (sRet (cI (.bl false))) sNext)) ⟨[x0, .im (.str LET), x2, x3, x4, x5, x6, .im (.str t), .im (.bl b), x9, .hole, .hole], sto⟩ ok ex := fun b hb => by
    simp [resL, res1, bks]
    refine isname_does (fun x hx => by cases hx; exact hz) (fun l hl => by cases hl) rfl ?_
    simp [back, isTy, ← hb]
    cases b <;> simp [fNe, fEqB, toD, okD, PyData.canLay0, PyData.depth, PyData.eqv, h]
  unfold b_law_1
  rw [r_sSeq, r_sSet]
  simp [hz, -r_sSeq]
  rcases (by omega : (t.length : Int) < 1 ∨ 1 ≤ (t.length : Int)) with h1 | h1
  · refine .inl ⟨h1, fin false ?_⟩
    rw [nameOk_str, decide_eq_false (by omega : ¬ 1 ≤ t.length)]; rfl
  refine .inr ⟨h1, ?_⟩
  rcases (by omega : 8 < (t.length : Int) ∨ (t.length : Int) ≤ 8) with h4 | h4
  · refine .inl ⟨h4, fin false ?_⟩
    rw [nameOk_str, decide_eq_false (by omega : ¬ t.length ≤ 8), Bool.and_false]; rfl
  refine .inr ⟨h4, lc_pure notLet (fun i => .im i) rfl (by rw [chars_len]; exact hz) (fun i hi => ?_) ?_⟩
  · obtain ⟨c, hc, rfl⟩ := chars_mem hi
    by_cases hm : c ∈ LET.cps <;> simp [wip, notLet, isLet_one, hm]
  · simp only [flat_lst, allIm_map, Option.map_some, Option.some.injEq, exists_eq_left']
    rw [eq_nil ht.2 fun i hi => (List.mem_filter.mp hi).1]
    simp only [Option.some.injEq, exists_eq_left', allIm_nil, Option.map_some]
    rw [r_put]
    refine ⟨by simp, fin _ ?_⟩
    rw [nameOk_str, decide_eq_true (by omega : 1 ≤ t.length), decide_eq_true (by omega : t.length ≤ 8)]
    simp only [Bool.true_and]
    have := @filt t
    cases hb : t.cps.toList.all fun c => decide (c ∈ LET.cps.toList) with
    | true => exact decide_eq_true (this.mpr hb)
    | false => exact decide_eq_false fun z => by rw [this.mp z] at hb; cases hb
end K01

namespace K01
open PySem L2 VS
def sgn (c : Nat) : Str := ⟨#[c]⟩
theorem joinL_nil : ∀ l : List (List Nat), TL.joinL [] l = l.flatten
  | [] => rfl
  | [p] => by simp [TL.joinL]
  | p :: q :: r => by simp [TL.joinL, joinL_nil (q :: r)]
theorem strs_sgn : ∀ cs : List Nat, strsOf (cs.map fun c => .str (sgn c)) = some (cs.map sgn)
  | [] => rfl
  | c :: cs => by simp [strsOf, strs_sgn cs]
theorem sum_sgn : ∀ cs : List Nat, ((cs.map sgn).map (·.length)).sum = cs.length
  | [] => rfl
  | c :: cs => by
    have := sum_sgn cs
    have h1 : (sgn c).length = 1 := rfl
    simp only [List.map_cons, List.sum_cons, List.length_cons, h1, this]
    omega
theorem join_txt {cs : List Nat} (h : cs.length ≤ 1000) : ∃ t : Str, t.cps.toList = cs ∧ fJoin [.str "", .lst (cs.map fun c => .str (sgn c))] = some (.im (.str t)) := by
  refine ⟨Txt.join "" (cs.map sgn), ?_, ?_⟩
  · show (Builtin.Str.glued _ _).cps.toList = _
    rw [StrLaws.glued_eq_join]
    have := TL.tl_join "" (cs.map sgn)
    unfold TL.tl at this
    rw [this]
    have e : (Str.ofString "").cps.toList = [] := by decide
    rw [e, joinL_nil, List.map_map]
    have e2 : ((fun z : Str => z.cps.toList) ∘ sgn) = fun c => [c] := by funext c; rfl
    rw [e2]
    clear this h e
    induction cs with
    | nil => rfl
    | cons c cs ih => simp [ih]
  · unfold fJoin jn
    simp only [strs_sgn]
    rw [if_pos]
    rw [sum_sgn]
    have e : (Str.ofString "").length = 0 := by decide
    rw [e, List.length_map]
    omega
theorem okT_cut {t : Str} (lo hi : Option Int) : (cutS t lo hi).length ≤ t.length ∧ ∀ c ∈ (cutS t lo hi).cps.toList, c ∈ t.cps.toList := by
  constructor
  · unfold cutS
    simp only [Str.length, List.size_toArray, List.length_take, List.length_drop, Array.length_toList]
    omega
  · intro c hc
    unfold cutS at hc
    exact List.mem_of_mem_drop (List.mem_of_mem_take hc)
theorem mem_app {t u : Str} {c : Nat} (h : c ∈ (t ++ u).cps.toList) : c ∈ t.cps.toList ∨ c ∈ u.cps.toList := by
  have e : (t ++ u).cps.toList = t.cps.toList ++ u.cps.toList := by
    show (t.cps ++ u.cps).toList = _
    simp
  rw [e] at h
  exact List.mem_append.mp h
theorem len_app {t u : Str} : (t ++ u).length = t.length + u.length := PySem.Str.length_append _ _
def SIG : Str := "ABZ09_- .{~@\x5b\n\t"
theorem let_small : ∀ c ∈ LET.cps.toList, c < 0x110000 := by decide +kernel
theorem sig_small : ∀ c ∈ SIG.cps.toList, c < 0x110000 := by decide +kernel
/-- a cell's text -/
theorem text_ok {x0 x2 x4 x5 x6 x7 x8 x9 : O} {d s : Int} {sto : List O} {ok : VS.St → O → Prop} {ex} (h : ∀ t d' s', t.length ≤ 10 → (∀ c ∈ t.cps.toList, c < 0x110000) → ok ⟨[x0, .im (.str LET), x2, feedO d' s', x4, x5, x6, x7, x8, x9, .hole, .hole], sto⟩ (.im (.str t))) :
    Run (eT1 fJoin (cI (.str "")) (vl (eLc [10] (itR (aCons (eCall 2 [0] f__law_take [] (oCons (bo 3) (oCons (vl (cI (.int 11))) oNil))) aNil)) (.nm 10) bYes (eFz (eCall 2 [0] f__law_pick [] (oCons (bo 3) (oCons (vl (eVar 1)) oNil)))))))
      ⟨[x0, .im (.str LET), x2, feedO d s, x4, x5, x6, x7, x8, x9, .hole, .hole], sto⟩ ok ex := by
  simp [r_itR1, resL, res1, bks]
  refine take_does (by omega) (by omega) fun r d1 s1 h0 h1 => ?_
  simp [back]
  refine ⟨by simp [r62]; omega, ?_⟩
  rw [r_blk]
  refine ⟨rfl, ?_⟩
  refine r_lcL (fun rr acc st => ∃ (cs : List Nat) (d' s' : Int) (y : O), acc = cs.map (fun c => .im (.str (sgn c))) ∧ (∀ c ∈ cs, c < 0x110000) ∧ cs.length + rr.length = r.toNat ∧ st = ⟨[x0, .im (.str LET), x2, feedO d' s', x4, x5, x6, x7, x8, x9, y, .hole], sto⟩) ⟨[], d1, s1, .hole, rfl, by simp, by simp [rng], rfl⟩ ?_ ?_
  · rintro i rr acc st hi ⟨cs, d', s', y, rfl, hc, hl, rfl⟩
    simp [wip, resL, res1, bks]
    refine pick_does (by decide +kernel) (by rw [sizeLine_eq]; decide +kernel) fun c d2 s2 hm => ?_
    simp [back]
    refine ⟨by rw [sizeLine_eq]; simp at hl; omega, cs ++ [c], ⟨by simp [sgn], ?_, by simp at hl ⊢; omega⟩⟩
    intro c' hc'
    rcases List.mem_append.mp hc' with h | h
    · exact hc c' h
    · simp at h; subst h; exact let_small _ hm
  · rintro acc st ⟨cs, d', s', y, rfl, hc, hl, rfl⟩
    have hl : cs.length ≤ 10 := by simp at hl; omega
    have e : cs.map (fun c => O.im (.str (sgn c))) = (cs.map fun c => I.str (sgn c)).map O.im := by simp
    obtain ⟨t, ht, ej⟩ := join_txt (cs := cs) (by omega)
    rw [e]
    simp only [flat_lst, allIm_map, Option.map_some, Option.some.injEq, exists_eq_left']
    rw [ej]
    simp [resto]
    refine h t d' s' ?_ (by rw [ht]; exact hc)
    have : t.length = t.cps.toList.length := by simp [Str.length]
    rw [this, ht]; exact hl
end K01

namespace K01
open PySem L2 VS
/-- odd things are no names -/
theorem odd_ok {x0 x1 x2 x3 x4 x5 x6 x8 x9 : O} {i : I} {sto : List O} {ok : VS.St → VS.Fl → Prop} {ex} (h1 : ∀ x, i ≠ .str x) (h2 : ∀ l, i ≠ .dct l) (h3 : (tyI i).isSome = true) (h : ok ⟨[x0, x1, x2, x3, x4, x5, x6, .im i, x8, x9, .hole, .hole], sto⟩ .nx) :
    Run (sIf (asB (op2 fIsNot (vl (eCall 1 [] f_is_name [] (oCons (vl (eVar 7)) oNil))) (vl (cI (.bl false)))))
    (sRet (cI (.bl false)))
    sNext) ⟨[x0, x1, x2, x3, x4, x5, x6, .im i, x8, x9, .hole, .hole], sto⟩ ok ex := by
  have hn : nameOk i = false := by
    cases i with
    | str x => exact absurd rfl (h1 x)
    | _ => rfl
  simp [resL, res1, bks]
  refine isname_does (fun x hx => absurd hx (h1 x)) h2 h3 ?_
  rw [hn]
  simp [back, h]
theorem b2_ok {ns : List Int} {k : Nat} {x3 x4 x5 x6 x7 x8 x9 : O} {sto : List O} {ok : VS.St → VS.Fl → Prop} {ex} (h : ∀ y3 y4 y5 y6 y7 y8 y9, ok ⟨[.im (scr ns), .im (.str LET), .im (.int k), y3, y4, y5, y6, y7, y8, y9, .hole, .hole], sto⟩ .nx) :
    Run b_law_2 ⟨[.im (scr ns), .im (.str LET), .im (.int k), x3, x4, x5, x6, x7, x8, x9, .hole, .hole], sto⟩ ok ex := by
  unfold b_law_2
  rw [r_sSeq, r_sSet, r_eCall]
  simp [resL, res1, bks, -r_sSeq, -r_eT1]
  refine feed_does fun d s => ?_
  simp [back, -r_sSeq, -r_eT1]
  rw [r_sSeq, r_sSet]
  refine text_ok fun t d s hl ht => ?_
  have hz : t.length ≤ sizeLine := by rw [sizeLine_eq]; omega
  rw [r_put]
  refine ⟨by simp, ?_⟩
  rw [thenR_nx, r_sSeq, r_sSet]
  simp [resL, res1, bks, hz, -r_sSeq]
  refine take_does (by omega) (by omega) fun at_ d s ha0 ha1 => ?_
  simp [back, -r_sSeq]
  rw [r_sSeq, r_sSet]
  simp [resL, res1, bks, -r_sSeq]
  refine pick_does (by decide +kernel) (by rw [sizeLine_eq]; decide +kernel) fun c d s hc => ?_
  have hc : c < 0x110000 := sig_small c hc
  simp [back, -r_sSeq]
  rw [r_sSeq, r_sFor]
  have hsg : (⟨#[c]⟩ : Str).length = 1 := rfl
  have c1 := fun lo hi => (okT_cut (t := t) lo hi).1
  have c2 := fun lo hi x hx => ht x ((okT_cut (t := t) lo hi).2 x hx)
  have sm : sizeLine = 16777216 := sizeLine_eq
  have k1 : ∀ lo, (cutS t none lo).length + 1 ≤ sizeLine := fun lo => by have := c1 none lo; omega
  have ok1 : ∀ lo hi, okT (cutS t none lo ++ ⟨#[c]⟩ ++ cutS t hi none) := fun lo hi => by
    refine okT.app (by rw [len_app, hsg]; have := c1 none lo; omega) (by have := c1 hi none; omega) (fun y hy => ?_) (c2 hi none)
    rcases mem_app hy with h | h
    · exact c2 none lo y h
    · simp at h; subst h; exact hc
  have ok2 : okT (strRep t 2) := by
    have hr : strRep t 2 = t ++ t := by
      unfold strRep
      simp [List.replicate_succ]
      show (⟨_⟩ : Str) = ⟨t.cps ++ t.cps⟩
      congr 1
      apply Array.toList_inj.mp
      simp
    rw [hr]
    exact okT.app (by omega) (by omega) ht ht
  have k2 : ∀ lo hi, (cutS t none lo ++ ⟨#[c]⟩).length + (cutS t hi none).length ≤ sizeLine := fun lo hi => by
    rw [len_app, hsg]
    have := c1 none lo
    have := c1 hi none
    omega
  have k3 : t.length * 2 ≤ sizeLine := by omega
  have k4 : 5 ≤ sizeLine := by omega
  have k5 : 9 ≤ sizeLine := by omega
  have k6 : 1 ≤ sizeLine := by omega
  have ok0 : okT t := ⟨by omega, ht⟩
  have ok3 : okT (cutS t none (some 8)) := ⟨by have := c1 none (some 8); omega, c2 _ _⟩
  simp [fSl, hz, k1, k2, k3, k4, hsg, rep62, -r_sSeq]
  refine r_forL (fun r st => ∃ y7 y8 y9, st = ⟨[.im (scr ns), .im (.str LET), .im (.int k), feedO d s, .im (.str t), .im (.int at_), .im (.str ⟨#[c]⟩), y7, y8, y9, .hole, .hole], sto⟩) ⟨x7, x8, x9, rfl⟩ ?_ ?_
  · rintro i r st hi ⟨y7, y8, y9, rfl⟩
    have hi2 : ∃ u, okT u ∧ i = .str u := by
      simp at hi
      rcases hi with rfl | rfl | rfl | rfl | rfl
      · exact ⟨_, ok0, rfl⟩
      · exact ⟨_, ok1 _ _, rfl⟩
      · exact ⟨_, ok1 _ _, rfl⟩
      · exact ⟨_, ok2, rfl⟩
      · exact ⟨_, ok3, rfl⟩
    obtain ⟨u, hu, rfl⟩ := hi2
    simp only [r_nm, r_put]
    refine ⟨by simp, b1_ok hu fun y8 y9 => ⟨_, y8, y9, rfl⟩⟩
  rintro st ⟨y7, y8, y9, rfl⟩
  have hsk : PyData.strOk t = true := by
    unfold PyData.strOk
    rw [Array.all_eq_true_iff_forall_mem]
    intro x hx
    exact decide_eq_true (ht x (by simpa using hx))
  have heq : ∃ b, fEq [.str t, .str ""] = some (.im (.bl b)) := by
    refine ⟨PyData.eqv (.str t) (.str ""), ?_⟩
    unfold fEq fEqB
    simp only [toD]
    rw [if_pos]
    · rfl
    · simp [okD, PyData.canLay0, hsk, PyData.depth]
      decide +kernel
  obtain ⟨b, heq⟩ := heq
  rw [thenR_nx, r_sFor]
  simp [mkTup, k5, k6, fList, hz, heq]
  refine ⟨fzbL_im _, ?_⟩
  rw [frzL_im]
  refine r_forL (fun r st => ∃ y7, st = ⟨[.im (scr ns), .im (.str LET), .im (.int k), feedO d s, .im (.str t), .im (.int at_), .im (.str ⟨#[c]⟩), y7, y8, y9, .hole, .hole], sto⟩) ⟨y7, rfl⟩ ?_ ?_
  · rintro i r st hi ⟨y7, rfl⟩
    have hi2 : (∀ x, i ≠ .str x) ∧ (∀ l, i ≠ .dct l) ∧ (tyI i).isSome = true := by
      simp at hi
      rcases hi with rfl | rfl | rfl | rfl | rfl | rfl | rfl | rfl | rfl <;> simp
    simp only [r_nm, r_put]
    exact ⟨by simp, odd_ok hi2.1 hi2.2.1 hi2.2.2 ⟨_, rfl⟩⟩
  · rintro st ⟨y7, rfl⟩
    exact h _ _ _ _ _ _ _
end K01

namespace K01
open PySem L2 VS

theorem law_does (ns : List Int) (hn : ns.length ≤ 63) : Does f_law [.im (scr ns)] [] (fun o _ _ => o = .im (.bl true)) fun _ _ _ _ => False := by
  unfold f_law
  rw [r_does]
  unfold b_law
  rw [r_sSeq, r_sSet, r_cI, r_put]
  refine ⟨by simp, ?_⟩
  rw [thenR_nx, r_sSeq, r_sFor]
  simp [r_itR1, scr, -r_sSeq]
  have hb : ∀ j : Int, 0 ≤ j → 0 < (if 3 < if j < 12 then j else 12 then if j < 12 then j else 12 else 3) ∧ (if 3 < if j < 12 then j else 12 then if j < 12 then j else 12 else 3) < 13 := fun j hj => by
    by_cases h1 : j < 12
    · rw [if_pos h1]
      by_cases h2 : 3 < j
      · rw [if_pos h2]; omega
      · rw [if_neg h2]; omega
    · rw [if_neg h1]; omega
  have hb := hb ns.length (Int.natCast_nonneg _)
  refine ⟨r62_s (Int.lt_trans (by decide) hb.1) (Int.lt_trans hb.2 (by decide)), ?_⟩
  refine r_forL (fun r st => ∃ y2 y3 y4 y5 y6 y7 y8 y9, st = ⟨[.im (scr ns), .im (.str LET), y2, y3, y4, y5, y6, y7, y8, y9, .hole, .hole], []⟩) ⟨_, _, _, _, _, _, _, _, rfl⟩ ?_ ?_
  · rintro i r st hi ⟨y2, y3, y4, y5, y6, y7, y8, y9, rfl⟩
    have hk : ∃ k : Nat, i = .int k := by
      unfold rng at hi
      obtain ⟨k, _, rfl⟩ := List.mem_map.mp hi
      exact ⟨k, by simp⟩
    obtain ⟨k, rfl⟩ := hk
    simp only [r_nm, r_put]
    exact ⟨by simp, b2_ok fun _ _ _ _ _ _ _ => ⟨_, _, _, _, _, _, _, _, rfl⟩⟩
  · intro st hst
    have n1 : nameOk (.str "a") = true := by decide +kernel
    have n2 : nameOk (.str "abcdefgh") = true := by decide +kernel
    have n3 : nameOk (.str "abcdefghi") = false := by decide +kernel
    have sz : ∀ z : Str, z.length ≤ 9 → ∀ x, I.str z = .str x → x.length ≤ sizeLine := fun z h x e => by cases e; rw [sizeLine_eq]; omega
    obtain ⟨y2, y3, y4, y5, y6, y7, y8, y9, hst⟩ := hst
    subst hst
    rw [thenR_nx]
    simp [resL, res1, bks]
    refine isname_does (sz _ (by decide +kernel)) (fun l h => by cases h) rfl ?_
    rw [n1]
    simp [back, resL, res1, bks]
    refine isname_does (sz _ (by decide +kernel)) (fun l h => by cases h) rfl ?_
    rw [n2]
    simp [back, resL, res1, bks]
    refine isname_does (sz _ (by decide +kernel)) (fun l h => by cases h) rfl ?_
    rw [n3]
    simp [back]
theorem plain : ∀ ns : List Int, ns.length ≤ 63 → ∃ fi sto, f_law [.im (scr ns)] [] = some (.ok (.im (.bl true)), fi, sto) := fun ns h => does_ok (law_does ns h)
end K01

namespace K01
open PySem PySem.Spec PyProof.Rows L2 VS
def top (i : Nat) : Stmt := PySem.Challenge.pw_owedonce_k01_names.main.body.getD i (.Pass ⟨0, 0, 0, 0⟩)
structure Gs (mg : Str → Option Value) : Prop where
  f_abs : mg "abs" = none
  f_all : mg "all" = none
  f_bool : mg "bool" = none
  f_isinstance : mg "isinstance" = none
  f_len : mg "len" = none
  f_list : mg "list" = none
  f_max : mg "max" = none
  f_min : mg "min" = none
  f_range : mg "range" = none
  f_str : mg "str" = none
  v_LETTERS : ∃ t, mg "LETTERS" = some (.str "abcdefghijklmnopqrstuvwxyz" t)
  v_MOST_LETTERS : ∃ t, mg "MOST_LETTERS" = some (.int 8 t)
section
variable {P : Program} {w : World} {K : PySem.W.Frag} {mg : Str → Option Value} {base : Heap} {n : Pn}
theorem g_is_name {f : Addr} {fd : FuncData} (FD : FunD K "is_name" "is_name" (defArgs (top 3)) (defBody (top 3)) (defScope (top 3)) [] [] f fd) (G : Gs mg) :
    FnG P w K mg base 1 f fd ["thing"] (spOf ⟨K, n⟩ 2 1 [] f_is_name) := by
  have S : FnScope ["thing", "sign"] ["thing"] (defScope (top 3)) := ⟨rfl, rfl, rfl, by decide +kernel, rfl, by decide +kernel, by decide +kernel⟩
  refine fnG (N := ["thing", "sign"]) (ps := ["thing"]) (n := n) (io := []) (b := b_is_name) FD S (by decide) fun cdv A outer s H E a => ?_
  exact (sv_one (sv_ret (ev_and (ev_isi (.inl rfl) boot_str G.f_isinstance G.f_str (eo_vl (ev_var (pv 0)))) (ev_and (ev_ch or_le or_le (eo_vl ev_int) (eo_vl (ev_callB cr_len G.f_len boot_len (ol_cons (eo_vl (ev_var (pv 0))) ol_nil))) (eo_vl (e_int G.v_MOST_LETTERS))) (ev_one (ev_callB (cr_all rfl) G.f_all boot_all (ol_cons (eo_vl (ev_lc (own := [("sign", 1)]) rfl S.nd (pi_v (ev_var (pv 0))) (blkOk_by (by rfl)) (by decide) (fun _ _ _ _ _ => (pg_nm S.nd rfl (by first | exact .inl rfl | exact .inr rfl))) (fun _ _ _ _ _ => PTs.nil') (fun _ _ _ _ _ => (ev_cmp (or_in a.u65) (eo_vl (ev_var (pv 1))) (eo_vl (e_str G.v_LETTERS)))))) ol_nil)))))))
theorem g__law_feed {f : Addr} {fd : FuncData} (FD : FunD K "_law_feed" "_law_feed" (defArgs (top 5)) (defBody (top 5)) (defScope (top 5)) [] [] f fd) (G : Gs mg) :
    FnG P w K mg base 1 f fd ["script", "k"] (spOf ⟨K, n⟩ 5 2 [] f__law_feed) := by
  have S : FnScope ["script", "k", "cell", "digits", "state"] ["script", "k"] (defScope (top 5)) := ⟨rfl, rfl, rfl, by decide +kernel, rfl, by decide +kernel, by decide +kernel⟩
  refine fnG (N := ["script", "k", "cell", "digits", "state"]) (ps := ["script", "k"]) (n := n) (io := []) (b := b__law_feed) FD S (by decide) fun cdv A outer s H E a => ?_
  exact (sv_cons (sv_set (by decide) S.nd rfl (by first | exact .inl rfl | exact .inr rfl) (ev_if (bt_cmp or_lt (eo_vl (ev_var (pv 1))) (eo_vl (ev_callB cr_len G.f_len boot_len (ol_cons (eo_vl (ev_var (pv 0))) ol_nil)))) (ev_ix ix_any (eo_vl (ev_var (pv 0))) (eo_vl (ev_var (pv 1)))) (ev_bin or_add (eo_vl (ev_bin or_mul (eo_vl ev_int) (eo_vl (ev_var (pv 1))))) (eo_vl ev_int))))
    (sv_cons (sv_set (by decide) S.nd rfl (by first | exact .inl rfl | exact .inr rfl) (ev_callB (cr_max rfl) G.f_max boot_max (ol_cons (eo_vl ev_int) (ol_cons (eo_vl (ev_bin or_sub (eo_vl (ev_callB cr_abs G.f_abs boot_abs (ol_cons (eo_vl (ev_var (pv 2))) ol_nil))) (eo_vl (ev_bin or_pow (eo_vl ev_int) (eo_vl ev_int))))) ol_nil))))
    (sv_cons (sv_set (by decide) S.nd rfl (by first | exact .inl rfl | exact .inr rfl) (ev_bin or_mod (eo_vl (ev_bin or_add (eo_vl (ev_bin or_add (eo_vl (ev_bin or_mul (eo_vl (ev_var (pv 2))) (eo_vl ev_int))) (eo_vl (ev_bin or_mul (eo_vl ev_int) (eo_vl (ev_var (pv 1))))))) (eo_vl ev_int))) (eo_vl ev_int)))
    (sv_one (sv_ret (ev_lst (av_cons (ev_var (pv 3)) (av_cons (ev_var (pv 4)) av_nil))))))))
theorem g__law_take {f : Addr} {fd : FuncData} (FD : FunD K "_law_take" "_law_take" (defArgs (top 6)) (defBody (top 6)) (defScope (top 6)) [] [] f fd) (G : Gs mg) :
    FnG P w K mg base 1 f fd ["feed", "many"] (spOf ⟨K, n⟩ 3 2 [0] f__law_take) := by
  have S : FnScope ["feed", "many", "found"] ["feed", "many"] (defScope (top 6)) := ⟨rfl, rfl, rfl, by decide +kernel, rfl, by decide +kernel, by decide +kernel⟩
  refine fnG (N := ["feed", "many", "found"]) (ps := ["feed", "many"]) (n := n) (io := [0]) (b := b__law_take) FD S (by decide) fun cdv A outer s H E a => ?_
  exact (sv_cons (sv_if (bt_cmp or_gt (eo_vl (ev_ix ix_any (eo_bo (pv 0)) (eo_vl ev_int))) (eo_vl ev_int))
    (sv_cons (sv_set (by decide) S.nd rfl (by first | exact .inl rfl | exact .inr rfl) (ev_bin or_mod (eo_vl (ev_ix ix_any (eo_bo (pv 0)) (eo_vl ev_int))) (eo_vl (ev_var (pv 1)))))
    (sv_cons (sv_put (ev_bin or_fdv (eo_vl (ev_ix ix_any (eo_bo (pv 0)) (eo_vl ev_int))) (eo_vl (ev_var (pv 1)))) (pv 0) ev_int)
    (sv_one (sv_ret (ev_var (pv 2))))))
    sv_next)
    (sv_cons (sv_put (ev_bin or_mod (eo_vl (ev_bin or_add (eo_vl (ev_bin or_mul (eo_vl (ev_ix ix_any (eo_bo (pv 0)) (eo_vl ev_int))) (eo_vl ev_int))) (eo_vl ev_int))) (eo_vl ev_int)) (pv 0) ev_int)
    (sv_one (sv_ret (ev_bin or_mod (eo_vl (ev_bin or_fdv (eo_vl (ev_ix ix_any (eo_bo (pv 0)) (eo_vl ev_int))) (eo_vl ev_int))) (eo_vl (ev_var (pv 1))))))))
theorem g__law_pick {f : Addr} {fd : FuncData} (FD : FunD K "_law_pick" "_law_pick" (defArgs (top 7)) (defBody (top 7)) (defScope (top 7)) [] [] f fd) (G : Gs mg) (C__law_take : Callee P w K mg base n "_law_take" 1 3 2 [0] f__law_take []) :
    FnG P w K mg base 2 f fd ["feed", "some"] (spOf ⟨K, n⟩ 2 2 [0] f__law_pick) := by
  have S : FnScope ["feed", "some"] ["feed", "some"] (defScope (top 7)) := ⟨rfl, rfl, rfl, by decide +kernel, rfl, by decide +kernel, by decide +kernel⟩
  refine fnG (N := ["feed", "some"]) (ps := ["feed", "some"]) (n := n) (io := [0]) (b := b__law_pick) FD S (by decide) fun cdv A outer s H E a => ?_
  exact (sv_one (sv_ret (ev_ix ix_any (eo_vl (ev_var (pv 1))) (eo_vl (ev_callC C__law_take a (by decide) cx_takes (ol_cons (eo_bo (pv 0)) (ol_cons (eo_vl (ev_callB cr_len G.f_len boot_len (ol_cons (eo_vl (ev_var (pv 1))) ol_nil))) ol_nil)))))))
theorem g_law {f : Addr} {fd : FuncData} (FD : FunD K "law" "law" (defArgs (top 8)) (defBody (top 8)) (defScope (top 8)) [] [] f fd) (G : Gs mg) (C__law_feed : Callee P w K mg base n "_law_feed" 1 5 2 [] f__law_feed []) (C__law_take : Callee P w K mg base n "_law_take" 1 3 2 [0] f__law_take []) (C__law_pick : Callee P w K mg base n "_law_pick" 2 2 2 [0] f__law_pick []) (C_is_name : Callee P w K mg base n "is_name" 1 2 1 [] f_is_name []) :
    FnG P w K mg base 3 f fd ["script"] (spOf ⟨K, n⟩ 12 1 [] f_law) := by
  have S : FnScope ["script", "letters", "k", "feed", "text", "at", "sign", "thing", "due", "found", "turn", "one"] ["script"] (defScope (top 8)) := ⟨rfl, rfl, rfl, by decide +kernel, rfl, by decide +kernel, by decide +kernel⟩
  refine fnG (N := ["script", "letters", "k", "feed", "text", "at", "sign", "thing", "due", "found", "turn", "one"]) (ps := ["script"]) (n := n) (io := []) (b := b_law) FD S (by decide) fun cdv A outer s H E a => ?_
  exact (sv_cons (sv_set (by decide) S.nd rfl (by first | exact .inl rfl | exact .inr rfl) ev_str)
    (sv_cons (sv_for cx_owns rfl (ev_r1 G.f_range (ev_callB (cr_max rfl) G.f_max boot_max (ol_cons (eo_vl ev_int) (ol_cons (eo_vl (ev_callB (cr_min rfl) G.f_min boot_min (ol_cons (eo_vl ev_int) (ol_cons (eo_vl (ev_callB cr_len G.f_len boot_len (ol_cons (eo_vl (ev_var (pv 0))) ol_nil))) ol_nil)))) ol_nil)))) (pg_nm S.nd rfl (by first | exact .inl rfl | exact .inr rfl))
    (sv_cons (sv_set (by decide) S.nd rfl (by first | exact .inl rfl | exact .inr rfl) (ev_callC C__law_feed a (by decide) cx_takes (ol_cons (eo_vl (ev_var (pv 0))) (ol_cons (eo_vl (ev_var (pv 2))) ol_nil))))
    (sv_cons (sv_set (by decide) S.nd rfl (by first | exact .inl rfl | exact .inr rfl) (ev_t1 F.slot_str_join F.type_str_join mt_jn ev_str (eo_vl (ev_lc (own := [("turn", 10)]) rfl S.nd (ev_r1 G.f_range (ev_callC C__law_take a (by decide) cx_takes (ol_cons (eo_bo (pv 3)) (ol_cons (eo_vl ev_int) ol_nil)))) (blkOk_by (by rfl)) (by decide) (fun _ _ _ _ _ => (pg_nm S.nd rfl (by first | exact .inl rfl | exact .inr rfl))) (fun _ _ _ _ _ => PTs.nil') (fun _ _ _ _ _ => (ev_fz (ev_callC C__law_pick a.blk (by decide) (no_exc _) (ol_cons (eo_bo (pv 3)) (ol_cons (eo_vl (ev_var (pv 1))) ol_nil)))))))))
    (sv_cons (sv_set (by decide) S.nd rfl (by first | exact .inl rfl | exact .inr rfl) (ev_fz (ev_callC C__law_take a (by decide) cx_takes (ol_cons (eo_bo (pv 3)) (ol_cons (eo_vl (ev_bin or_add (eo_vl (ev_callB cr_len G.f_len boot_len (ol_cons (eo_vl (ev_var (pv 4))) ol_nil))) (eo_vl ev_int))) ol_nil)))))
    (sv_cons (sv_set (by decide) S.nd rfl (by first | exact .inl rfl | exact .inr rfl) (ev_fz (ev_callC C__law_pick a (by decide) cx_takes (ol_cons (eo_bo (pv 3)) (ol_cons (eo_vl ev_str) ol_nil)))))
    (sv_cons (sv_for cx_owns rfl (pi_v (ev_fz (ev_lst (av_cons (ev_var (pv 4)) (av_cons (ev_bin or_add (eo_vl (ev_bin or_add (eo_vl (ev_sl (eo_vl (ev_var (pv 4))) op_no (op_at (ev_var (pv 5))))) (eo_vl (ev_var (pv 6))))) (eo_vl (ev_sl (eo_vl (ev_var (pv 4))) (op_at (ev_var (pv 5))) op_no))) (av_cons (ev_bin or_add (eo_vl (ev_bin or_add (eo_vl (ev_sl (eo_vl (ev_var (pv 4))) op_no (op_at (ev_var (pv 5))))) (eo_vl (ev_var (pv 6))))) (eo_vl (ev_sl (eo_vl (ev_var (pv 4))) (op_at (ev_bin or_add (eo_vl (ev_var (pv 5))) (eo_vl ev_int))) op_no))) (av_cons (ev_bin or_mul (eo_vl (ev_var (pv 4))) (eo_vl ev_int)) (av_cons (ev_sl (eo_vl (ev_var (pv 4))) op_no (op_at ev_int)) av_nil)))))))) (pg_nm S.nd rfl (by first | exact .inl rfl | exact .inr rfl))
    (sv_cons (sv_set (by decide) S.nd rfl (by first | exact .inl rfl | exact .inr rfl) (ev_and (ev_ch or_le or_le (eo_vl ev_int) (eo_vl (ev_callB cr_len G.f_len boot_len (ol_cons (eo_vl (ev_var (pv 7))) ol_nil))) (eo_vl ev_int)) (ev_one (ev_cmp (or_eq a.u120) (eo_vl (ev_lc (own := [("one", 11)]) rfl S.nd (pi_v (ev_var (pv 7))) (blkOk_by (by rfl)) (by decide) (fun _ _ _ _ _ => (pg_nm S.nd rfl (by first | exact .inl rfl | exact .inr rfl))) (fun _ _ _ _ _ => (PTs.one' (bt_cmp (or_notin a.u65) (eo_vl (ev_var (pv 11))) (eo_vl (ev_var (pv 1)))))) (fun _ _ _ _ _ => (ev_var (pv 11))))) (eo_vl (ev_lst av_nil))))))
    (sv_cons (sv_set (by decide) S.nd rfl (by first | exact .inl rfl | exact .inr rfl) (ev_fz (ev_callC C_is_name a (by decide) cx_takes (ol_cons (eo_vl (ev_var (pv 7))) ol_nil))))
    (sv_one (sv_if (PW.pt (bw_or (bt_not (bt_val (ev_isi (.inr (.inr (.inl rfl))) boot_bool G.f_isinstance G.f_bool (eo_vl (ev_var (pv 9)))))) (bw_or1 (bt_cmp (or_ne a.u120) (eo_vl (ev_var (pv 9))) (eo_vl (ev_var (pv 8)))))))
    (sv_one (sv_ret ev_bl))
    sv_next)))) (by decide))
    (sv_one (sv_for cx_owns rfl (pi_v (ev_fz (ev_lst (av_cons ev_non (av_cons ev_bl (av_cons ev_int (av_cons (ev_tup (av_cons (ev_var (pv 4)) av_nil)) (av_cons (ev_lst (av_cons (ev_var (pv 4)) av_nil)) (av_cons (ev_tup av_nil) (av_cons (ev_lst av_nil) (av_cons (ev_callTy (cr_list a.hd) G.f_list boot_list (ol_cons (eo_vl (ev_var (pv 4))) ol_nil)) (av_cons (ev_cmp (or_eq a.u120) (eo_vl (ev_var (pv 4))) (eo_vl ev_str)) av_nil)))))))))))) (pg_nm S.nd rfl (by first | exact .inl rfl | exact .inr rfl))
    (sv_one (sv_if (bt_cmp or_isnot (eo_vl (ev_callC C_is_name a (by decide) cx_takes (ol_cons (eo_vl (ev_var (pv 7))) ol_nil))) (eo_vl ev_bl))
    (sv_one (sv_ret ev_bl))
    sv_next)) (by decide)))))))) (by decide))
    (sv_one (sv_ret (ev_and (ev_cmp or_is (eo_vl (ev_callC C_is_name a (by decide) cx_takes (ol_cons (eo_vl ev_str) ol_nil))) (eo_vl ev_bl)) (ev_and (ev_cmp or_is (eo_vl (ev_callC C_is_name a (by decide) cx_takes (ol_cons (eo_vl ev_str) ol_nil))) (eo_vl ev_bl)) (ev_one (ev_cmp or_is (eo_vl (ev_callC C_is_name a (by decide) cx_takes (ol_cons (eo_vl ev_str) ol_nil))) (eo_vl ev_bl)))))))))
end
end K01

namespace K01
open PySem PySem.Spec PyProof.Rows L2 VS
def d_is_name : He.DefD := ⟨("is_name", none), "is_name", "is_name", defArgs (top 3), defBody (top 3), defScope (top 3), [], []⟩
def d__law_feed : He.DefD := ⟨("_law_feed", none), "_law_feed", "_law_feed", defArgs (top 5), defBody (top 5), defScope (top 5), [], []⟩
def d__law_take : He.DefD := ⟨("_law_take", none), "_law_take", "_law_take", defArgs (top 6), defBody (top 6), defScope (top 6), [], []⟩
def d__law_pick : He.DefD := ⟨("_law_pick", none), "_law_pick", "_law_pick", defArgs (top 7), defBody (top 7), defScope (top 7), [], []⟩
def d_law : He.DefD := ⟨("law", none), "law", "law", defArgs (top 8), defBody (top 8), defScope (top 8), [], []⟩
def fnl : List He.DefD := [d_is_name, d__law_feed, d__law_take, d__law_pick, d_law]
def fal : List He.Fa := [.glo "is_name", .glo "_law_feed", .glo "_law_take", .glo "_law_pick", .glo "law", .free "abs", .free "all", .free "bool", .free "isinstance", .free "len", .free "list", .free "max", .free "min", .free "range", .free "str", .str "LETTERS" "abcdefghijklmnopqrstuvwxyz", .int "MOST_LETTERS" 8]
abbrev R : PySem.W.OpenRow := PySem.W.OpenLaw.row PySem.Challenge.rw_owedonce_k01_names
abbrev hk : PySem.W.Hook := He.hookD 4 fal fnl
def ob (s : PySem.W.SharedT) : He.AlD := He.obsDG 4 fal fnl (HandSHeadRun.getT s)
theorem ob_eq (s : PySem.W.SharedT) : ob s = hk.obs s.abs := He.obsDG_eq (HandSHeadRun.getT_eq s)
theorem run (w : World) : HandSHeadRun.RunEq R (PySem.W.view R.prog [8]) hk ob 760 ["LETTERS", "MOST_LETTERS", "is_name", "_law_feed", "_law_take", "_law_pick"] w := by
  intro os
  kernel_rfl
theorem facts {w : World} {K : PySem.W.Frag} {h : Heap} {mg : Str → Option Value} {f : Addr} (X : K.In h) (G : h.Ns mainGlobals mg) (hfa : mg ("law" : Str) = some (.ref f)) (c : He.SaysD fal fnl K) :
    ∃ (fd : FuncData) (n : Pn), (∀ (s : Shared) (v : Value), BindsTo s fd ⟨[v], []⟩ [("script", v)]) ∧ ∀ base : Heap, K.In base → base.Ns mainGlobals mg → FnG PySem.Challenge.pw_owedonce_k01_names w K mg base 3 f fd ["script"] (spOf ⟨K, n⟩ 12 1 [] f_law) := by
  obtain ⟨fd_is_name, F_is_name⟩ := c.def_ 0 (d := d_is_name) rfl
  obtain ⟨fd__law_feed, F__law_feed⟩ := c.def_ 1 (d := d__law_feed) rfl
  obtain ⟨fd__law_take, F__law_take⟩ := c.def_ 2 (d := d__law_take) rfl
  obtain ⟨fd__law_pick, F__law_pick⟩ := c.def_ 3 (d := d__law_pick) rfl
  obtain ⟨fd_law, F_law⟩ := c.def_ 4 (d := d_law) rfl
  have e := hfa.symm.trans (He.glo_ok X G (c.fact 4 (f := .glo "law") rfl))
  cases e
  have Gs0 : Gs mg := ⟨He.free_ok X G (c.fact 5 (f := .free "abs") rfl), He.free_ok X G (c.fact 6 (f := .free "all") rfl), He.free_ok X G (c.fact 7 (f := .free "bool") rfl), He.free_ok X G (c.fact 8 (f := .free "isinstance") rfl), He.free_ok X G (c.fact 9 (f := .free "len") rfl), He.free_ok X G (c.fact 10 (f := .free "list") rfl), He.free_ok X G (c.fact 11 (f := .free "max") rfl), He.free_ok X G (c.fact 12 (f := .free "min") rfl), He.free_ok X G (c.fact 13 (f := .free "range") rfl), He.free_ok X G (c.fact 14 (f := .free "str") rfl), He.str_ok X G (c.fact 15 (f := .str "LETTERS" "abcdefghijklmnopqrstuvwxyz") rfl), He.int_ok X G (c.fact 16 (f := .int "MOST_LETTERS" 8) rfl)⟩
  have b := FunD.bindsA (ps := ["script"]) F_law fun _ _ _ _ _ _ us hl => match us, hl with | [_], _ => rfl
  refine ⟨fd_law, ⟨fun _ => none, fun _ => none, fun _ => default⟩, fun s v => b s [v] rfl, fun base _ _ => ?_⟩
  have C_is_name := Callee.of (P := PySem.Challenge.pw_owedonce_k01_names) (w := w) (mg := mg) (base := base) (n := ⟨fun _ => none, fun _ => none, fun _ => default⟩) (g_is_name F_is_name Gs0 ) (He.glo_ok X G (c.fact 0 (f := .glo "is_name") rfl)) F_is_name.kp (F_is_name.bindsN fun _ _ _ _ _ _ us hl => match us, hl with | [_], _ => rfl)
  have C__law_feed := Callee.of (P := PySem.Challenge.pw_owedonce_k01_names) (w := w) (mg := mg) (base := base) (n := ⟨fun _ => none, fun _ => none, fun _ => default⟩) (g__law_feed F__law_feed Gs0 ) (He.glo_ok X G (c.fact 1 (f := .glo "_law_feed") rfl)) F__law_feed.kp (F__law_feed.bindsN fun _ _ _ _ _ _ us hl => match us, hl with | [_, _], _ => rfl)
  have C__law_take := Callee.of (P := PySem.Challenge.pw_owedonce_k01_names) (w := w) (mg := mg) (base := base) (n := ⟨fun _ => none, fun _ => none, fun _ => default⟩) (g__law_take F__law_take Gs0 ) (He.glo_ok X G (c.fact 2 (f := .glo "_law_take") rfl)) F__law_take.kp (F__law_take.bindsN fun _ _ _ _ _ _ us hl => match us, hl with | [_, _], _ => rfl)
  have C__law_pick := Callee.of (P := PySem.Challenge.pw_owedonce_k01_names) (w := w) (mg := mg) (base := base) (n := ⟨fun _ => none, fun _ => none, fun _ => default⟩) (g__law_pick F__law_pick Gs0 C__law_take) (He.glo_ok X G (c.fact 3 (f := .glo "_law_pick") rfl)) F__law_pick.kp (F__law_pick.bindsN fun _ _ _ _ _ _ us hl => match us, hl with | [_, _], _ => rfl)
  exact g_law F_law Gs0 C__law_feed C__law_take C__law_pick C_is_name
end K01

open PySem PySem.W PySem.Calls PyProof.Rows
theorem PySem.Challenge.cw_owedonce_k01_names_holds : PySem.Challenge.rw_owedonce_k01_names.Holds := by
  w_on; o_law
  refine HandSHeadRun.head_any (r := OpenLaw.row PySem.Challenge.rw_owedonce_k01_names) (q := view (OpenLaw.row PySem.Challenge.rw_owedonce_k01_names).prog [8]) (H := K01.hk) (ob := K01.ob) (M := 760) (loose := ["LETTERS", "MOST_LETTERS", "is_name", "_law_feed", "_law_take", "_law_pick"]) (d := HandSHeadRun.topDef (OpenLaw.row PySem.Challenge.rw_owedonce_k01_names).prog 8) (kwd := []) K01.ob_eq
    (by kernel_rfl) (fun s => by kernel_rfl) K01.run (by kernel_rfl) (by kernel_rfl) (by kernel_rfl) (by rfl) (by first | assumption | decide +kernel) (by decide +kernel) ⟨rfl, rfl, rfl, rfl, rfl, by decide +kernel⟩ ?hw ?hc
  case hw => w_witness2
  case hc =>
    refine VS.walk_G (l := PySem.Challenge.rw_owedonce_k01_names) (m := 63) (k := 3) (N := 12) (x := "script") (fn := K01.f_law) rfl (by decide) (by kernel_rfl) ⟨rfl, by decide, by decide⟩ (by decide) ?F K01.plain
    intro w mg fa h Y G hmg0
    obtain ⟨K, KX, c⟩ := Y
    have hmg : mg ("law" : PySem.Str) = some (.ref fa) := by
      have e : (HandSHeadRun.topDef (OpenLaw.row PySem.Challenge.rw_owedonce_k01_names).prog 8).name = ("law" : PySem.Str) := by kernel_rfl
      rw [← e]
      exact hmg0
    obtain ⟨fd, n, hb, hF⟩ := K01.facts (w := w) KX G hmg c
    exact ⟨K, fd, n, KX, hb, hF⟩

