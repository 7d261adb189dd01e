import PyProof.Rows.All
import Wide.All
import OpenK.AllK
import Wide.FinOn
import HandS.ForMost
import HandS.Wide
import HandS.Exc
import HandS.ExcOwn
import HandS.WordsExc
import HandS.IsInst
import HandS.AnyAll
import HandS.Lambda
import HandS.Zip
import HandS.TupMul
import HandS.TupAny
import HandS.Style
import HandS.SetFor
import HandS.GenList
import HandS.Defaults
import HandS.Sort
import KE.KStateDown
import HandS.Head0
import HandS.Head1
import HandS.Head2
import HandS.HeadEnd
import HandS.HeadHook1
import HandS.HeadHook2
import HandS.HeadHook3
import HandS.HeadHook4
import HandS.HeadWalk
import PySem.Challenge.RW_pushedclerks_k63_whole_chances
set_option Elab.async false
set_option linter.all false
set_option autoImplicit false
set_option maxRecDepth 100000
set_option maxHeartbeats 4000000
/-! Fw1: trees, what represents them, the canonical readings, the plain rules. -/
noncomputable section
namespace Fw
open PySem PySem.Spec PyProof.Rows L2

/-! ### trees -/
inductive D where
  | non | bl (b : Bool) | int (i : Int) | str (x : Str) | tup (ds : List D) | lst (ds : List D) | dct (kvs : List (D × D)) | rng (lo hi : Int) | arr (a : Addr) (ns : List Int) | row | op (v : V)
/-- an answer; an error by its class's name and its one field; or nothing known -/
inductive Res (α : Type) where
  | ok (a : α) | ex (c : Str) (f : Option (Str × V)) | no
  /-- a draw: any number from 0, below n -/
  | dr (n : Int) (k : Int → Res α)
namespace Res
def bind {α β : Type} : Res α → (α → Res β) → Res β
  | .ok a, k => k a
  | .ex c f, _ => .ex c f
  | .no, _ => .no
  | .dr n j, k => .dr n fun i => (j i).bind k
theorem bind_assoc {α β γ : Type} (f : α → Res β) (g : β → Res γ) : ∀ r : Res α, (r.bind f).bind g = r.bind fun a => (f a).bind g
  | .ok a => rfl
  | .ex c f => rfl
  | .no => rfl
  | .dr n j => congrArg (Res.dr n) (funext fun i => bind_assoc f g (j i))
end Res
abbrev Env := List (Option D)
abbrev St := L2.St
abbrev lim : Nat := 16777216
theorem lim_eq : sizeLine = lim := sizeLine_eq
/-- a key of a dict as a tree -/
def keyD : Key → D
  | .inl i => .int i
  | .inr x => .str x
mutual
/-- no list, no dict within -/
def D.pure : D → Bool
  | .non => true
  | .bl _ => true
  | .int _ => true
  | .str _ => true
  | .tup ds => D.pureL ds
  | .rng _ _ => true
  | .row => true
  | .op _ => true
  | _ => false
def D.pureL : List D → Bool
  | [] => true
  | d :: r => d.pure && D.pureL r
end
theorem pureL_iff : ∀ {ds : List D}, D.pureL ds = true ↔ ∀ d ∈ ds, d.pure = true
  | [] => by simp [D.pureL]
  | d :: r => by
    rw [D.pureL, Bool.and_eq_true, pureL_iff]
    simp

/-! ### representation -/
/-- the written part, and the row that is drawn from -/
structure Kr where
  K : PySem.W.Frag
  row : Option Addr
/-- what may not be leant on: the row that is drawn from, too -/
def avr (K : Kr) (av : Addr → Prop) (a : Addr) : Prop := av a ∨ K.row = some a
/-- a list that stays as it is: no list of a frame's own, a frozen one, one of the text -/
def ArrAt (K : Kr) (av : Addr → Prop) (H : Hp) (a : Addr) (vs : List V) : Prop := (H a = some (.lst vs) ∧ ¬ avr K av a) ∨ (∃ o, H a = some (.frz o (.lst vs))) ∨ ∀ H', SqL K.K H' a vs
mutual
inductive Rp (K : Kr) (av : Addr → Prop) (H : Hp) : D → V → Prop
  | non : Rp K av H .non .non
  | bl (b : Bool) : Rp K av H (.bl b) (.bl b)
  | int (i : Int) : Rp K av H (.int i) (.int i)
  | str (x : Str) : Rp K av H (.str x) (.str x)
  | tup {a : Addr} {vs : List V} {ds : List D} : H a = some (.tup vs) → RpL K av H ds vs → Rp K av H (.tup ds) (.ref a)
  | lst {a : Addr} {vs : List V} {ds : List D} : H a = some (.lst vs) → ¬ avr K av a → RpL K av H ds vs → Rp K av H (.lst ds) (.ref a)
  | dK {a : Addr} {kvs : List (Key × V)} {ds : List (D × D)} : H a = some (.dK kvs) → ¬ avr K av a → RpK K av H ds kvs → Rp K av H (.dct ds) (.ref a)
  | dT {a : Addr} {kvs : List (List Key × V)} {ds : List (D × D)} : H a = some (.dT kvs) → ¬ avr K av a → RpT K av H ds kvs → Rp K av H (.dct ds) (.ref a)
  | rng {a : Addr} (lo hi : Int) : H a = some (.rng lo hi) → Rp K av H (.rng lo hi) (.ref a)
  | arr (a : Addr) (ns : List Int) : ArrAt K av H a (ns.map V.int) → Rp K av H (.arr a ns) (.ref a)
  | row {a : Addr} : K.row = some a → Rp K av H .row (.ref a)
  | op (v : V) : Rp K av H (.op v) v
inductive RpL (K : Kr) (av : Addr → Prop) (H : Hp) : List D → List V → Prop
  | nil : RpL K av H [] []
  | cons {d : D} {ds : List D} {v : V} {vs : List V} : Rp K av H d v → RpL K av H ds vs → RpL K av H (d :: ds) (v :: vs)
inductive RpK (K : Kr) (av : Addr → Prop) (H : Hp) : List (D × D) → List (Key × V) → Prop
  | nil : RpK K av H [] []
  | cons {k : Key} {d : D} {ds : List (D × D)} {v : V} {vs : List (Key × V)} : Rp K av H d v → RpK K av H ds vs → RpK K av H ((keyD k, d) :: ds) ((k, v) :: vs)
inductive RpT (K : Kr) (av : Addr → Prop) (H : Hp) : List (D × D) → List (List Key × V) → Prop
  | nil : RpT K av H [] []
  | cons {k : List Key} {d : D} {ds : List (D × D)} {v : V} {vs : List (List Key × V)} : Rp K av H d v → RpT K av H ds vs → RpT K av H ((.tup (k.map keyD), d) :: ds) ((k, v) :: vs)
end
/-- what a change of the heap must leave -/
structure Stay (K : Kr) (av av' : Addr → Prop) (H H' : Hp) : Prop where
  tup : ∀ a xs, H a = some (.tup xs) → H' a = some (.tup xs)
  lst : ∀ a xs, ¬ avr K av a → H a = some (.lst xs) → H' a = some (.lst xs) ∧ ¬ avr K av' a
  dK : ∀ a xs, ¬ avr K av a → H a = some (.dK xs) → H' a = some (.dK xs) ∧ ¬ avr K av' a
  dT : ∀ a xs, ¬ avr K av a → H a = some (.dT xs) → H' a = some (.dT xs) ∧ ¬ avr K av' a
  rng : ∀ a lo hi, H a = some (.rng lo hi) → H' a = some (.rng lo hi)
  frz : ∀ a o u, H a = some (.frz o u) → H' a = some (.frz o u)
section
variable {K : Kr} {av av' : Addr → Prop} {H H' : Hp}
theorem ArrAt.stay (S : Stay K av av' H H') {a : Addr} {xs : List V} (h : ArrAt K av H a xs) : ArrAt K av' H' a xs := by
  rcases h with ⟨h, n⟩ | ⟨o, h⟩ | h
  · exact .inl (S.lst _ _ n h)
  · exact .inr (.inl ⟨o, S.frz _ _ _ h⟩)
  · exact .inr (.inr h)
theorem ArrAt.sq {a : Addr} {xs : List V} (h : ArrAt K av H a xs) : SqL K.K H a xs := by
  rcases h with ⟨h, n⟩ | ⟨o, h⟩ | h
  · exact .inl (.inl h)
  · exact .inl (.inr ⟨o, h⟩)
  · exact h H
theorem ArrAt.of {a : Addr} {xs : List V} (h : SqL K.K H a xs) (n : ¬ avr K av a) : ArrAt K av H a xs := by
  rcases h with (h | ⟨o, h⟩) | h
  · exact .inl ⟨h, n⟩
  · exact .inr (.inl ⟨o, h⟩)
  · exact .inr (.inr fun _ => .inr h)
mutual
theorem Rp.stay (S : Stay K av av' H H') : ∀ {d : D} {v : V}, Rp K av H d v → Rp K av' H' d v
  | _, _, .non => .non
  | _, _, .bl b => .bl b
  | _, _, .int i => .int i
  | _, _, .str x => .str x
  | _, _, .tup h r => .tup (S.tup _ _ h) (RpL.stay S r)
  | _, _, .lst h n r => .lst (S.lst _ _ n h).1 (S.lst _ _ n h).2 (RpL.stay S r)
  | _, _, .dK h n r => .dK (S.dK _ _ n h).1 (S.dK _ _ n h).2 (RpK.stay S r)
  | _, _, .dT h n r => .dT (S.dT _ _ n h).1 (S.dT _ _ n h).2 (RpT.stay S r)
  | _, _, .rng lo hi h => .rng lo hi (S.rng _ _ _ h)
  | _, _, .arr a ns h => .arr a ns (h.stay S)
  | _, _, .row h => .row h
  | _, _, .op v => .op v
theorem RpL.stay (S : Stay K av av' H H') : ∀ {ds : List D} {vs : List V}, RpL K av H ds vs → RpL K av' H' ds vs
  | _, _, .nil => .nil
  | _, _, .cons h r => .cons (Rp.stay S h) (RpL.stay S r)
theorem RpK.stay (S : Stay K av av' H H') : ∀ {ds : List (D × D)} {vs : List (Key × V)}, RpK K av H ds vs → RpK K av' H' ds vs
  | _, _, .nil => .nil
  | _, _, .cons h r => .cons (Rp.stay S h) (RpK.stay S r)
theorem RpT.stay (S : Stay K av av' H H') : ∀ {ds : List (D × D)} {vs : List (List Key × V)}, RpT K av H ds vs → RpT K av' H' ds vs
  | _, _, .nil => .nil
  | _, _, .cons h r => .cons (Rp.stay S h) (RpT.stay S r)
end
theorem Stay.weak (h : ∀ a, av' a → av a) : Stay K av av' H H :=
  ⟨fun _ _ x => x, fun a _ n x => ⟨x, fun z => n (z.imp (h a) id)⟩, fun a _ n x => ⟨x, fun z => n (z.imp (h a) id)⟩, fun a _ n x => ⟨x, fun z => n (z.imp (h a) id)⟩, fun _ _ _ x => x, fun _ _ _ x => x⟩
mutual
theorem Rp.pureUp : ∀ {d : D} {v : V}, d.pure = true → Rp K av H d v → Rp K av' H d v
  | _, _, _, .non => .non
  | _, _, _, .bl b => .bl b
  | _, _, _, .int i => .int i
  | _, _, _, .str x => .str x
  | _, _, p, .tup h r => .tup h (RpL.pureUp (by simpa [D.pure] using p) r)
  | _, _, p, .lst _ _ _ => by simp [D.pure] at p
  | _, _, p, .dK _ _ _ => by simp [D.pure] at p
  | _, _, p, .dT _ _ _ => by simp [D.pure] at p
  | _, _, _, .rng lo hi h => .rng lo hi h
  | _, _, p, .arr _ _ _ => by simp [D.pure] at p
  | _, _, _, .row h => .row h
  | _, _, _, .op v => .op v
theorem RpL.pureUp : ∀ {ds : List D} {vs : List V}, D.pureL ds = true → RpL K av H ds vs → RpL K av' H ds vs
  | _, _, _, .nil => .nil
  | _, _, p, .cons h r => by
    rw [D.pureL, Bool.and_eq_true] at p
    exact .cons (Rp.pureUp p.1 h) (RpL.pureUp p.2 r)
end
theorem RpL.length : ∀ {ds : List D} {vs : List V}, RpL K av H ds vs → ds.length = vs.length
  | _, _, .nil => rfl
  | _, _, .cons _ r => congrArg (· + 1) (RpL.length r)
theorem RpL.get : ∀ {ds : List D} {vs : List V} {i : Nat} {d : D}, RpL K av H ds vs → ds[i]? = some d → ∃ v, vs[i]? = some v ∧ Rp K av H d v
  | _, _, _, _, .nil, e => by simp at e
  | _, _, 0, _, .cons h _, e => by simp at e; subst e; exact ⟨_, rfl, h⟩
  | _, _, i + 1, d, .cons _ r, e => by
    obtain ⟨v, h1, h2⟩ := RpL.get (i := i) r (by simpa using e)
    exact ⟨v, by simpa using h1, h2⟩
theorem RpL.getV : ∀ {ds : List D} {vs : List V} {i : Nat} {v : V}, RpL K av H ds vs → vs[i]? = some v → ∃ d, ds[i]? = some d ∧ Rp K av H d v
  | _, _, _, _, .nil, e => by simp at e
  | _, _, 0, _, .cons h _, e => by simp at e; subst e; exact ⟨_, rfl, h⟩
  | _, _, i + 1, v, .cons _ r, e => by
    obtain ⟨d, h1, h2⟩ := RpL.getV (i := i) r (by simpa using e)
    exact ⟨d, by simpa using h1, h2⟩
theorem RpL.append : ∀ {ds es : List D} {vs us : List V}, RpL K av H ds vs → RpL K av H es us → RpL K av H (ds ++ es) (vs ++ us)
  | _, _, _, _, .nil, s => s
  | _, _, _, _, .cons h r, s => .cons h (RpL.append r s)
theorem RpL.set {d : D} {v : V} (h : Rp K av H d v) : ∀ {ds : List D} {vs : List V} (i : Nat), RpL K av H ds vs → RpL K av H (ds.set i d) (vs.set i v)
  | _, _, _, .nil => .nil
  | _, _, 0, .cons _ r => .cons h r
  | _, _, i + 1, .cons q r => .cons q (RpL.set h i r)
theorem RpL.take : ∀ {ds : List D} {vs : List V} (n : Nat), RpL K av H ds vs → RpL K av H (ds.take n) (vs.take n)
  | _, _, 0, _ => .nil
  | _, _, _ + 1, .nil => .nil
  | _, _, n + 1, .cons h r => .cons h (RpL.take n r)
theorem RpL.drop : ∀ {ds : List D} {vs : List V} (n : Nat), RpL K av H ds vs → RpL K av H (ds.drop n) (vs.drop n)
  | _, _, 0, r => r
  | _, _, _ + 1, .nil => .nil
  | _, _, n + 1, .cons _ r => RpL.drop n r
theorem RpL.reps : ∀ {ds : List D} {vs : List V} (n : Nat), RpL K av H ds vs → RpL K av H (List.replicate n ds).flatten (List.replicate n vs).flatten
  | _, _, 0, _ => .nil
  | _, _, n + 1, r => by
    rw [List.replicate_succ, List.replicate_succ, List.flatten_cons, List.flatten_cons]
    exact r.append (RpL.reps n r)
/-- a list of whole numbers -/
theorem RpL.ints : ∀ {ns : List Int} {vs : List V}, RpL K av H (ns.map D.int) vs → vs = ns.map V.int
  | [], _, h => by cases h; rfl
  | n :: r, _, h => by
    cases h with
    | cons h1 h2 =>
      cases h1
      rw [RpL.ints h2]
      rfl
theorem RpL.ofInts : ∀ (ns : List Int), RpL K av H (ns.map D.int) (ns.map V.int)
  | [] => .nil
  | n :: r => .cons (.int n) (RpL.ofInts r)
end

/-! ### the whole -/
/-- what is told of the whole text: the written part, the tables of code objects, the classes of errors -/
structure Gm where
  K : PySem.W.Frag
  TG : List Addr
  TL : List (Addr × Str)
  cls : Str → Addr
  row : Option Addr
  /-- the script, where there is a row -/
  scr : Addr
def Gm.kr (Γ : Gm) : Kr := ⟨Γ.K, Γ.row⟩
def Gm.at (Γ : Gm) (r : Option Addr) (s : Addr) : Gm := { Γ with row := r, scr := s }
/-- the row that the law draws from -/
def RowIs (K : PySem.W.Frag) (H : Hp) (r s : Addr) : Prop := ∃ (ns : List Int) (i j k : Int), H r = some (.lst [.ref s, .int i, .int j, .int k]) ∧ SqL K H s (ns.map V.int) ∧ 0 ≤ i ∧ 0 ≤ j ∧ j < 2147483647
def RowOk (Γ : Gm) (H : Hp) : Prop := ∀ r, Γ.row = some r → RowIs Γ.K H r Γ.scr
def Tb (Γ : Gm) (H : Hp) : Prop := (∀ P ∈ Γ.TG, GxR.TabG H P) ∧ LamX.Tabs Γ.TL H
/-- all that was tracked is as it was, but the tables of code objects, which may have grown -/
structure Ext (Γ : Gm) (H H' : Hp) : Prop where
  keep : ∀ b o, H b = some o → (∀ ps, o ≠ .tbl ps) → ((∃ xs, o = .lst xs) → Γ.row ≠ some b) → H' b = some o
  tb : Tb Γ H → Tb Γ H'
  row : RowOk Γ H → RowOk Γ H'
  there : ∀ b, H b ≠ none → H' b ≠ none
theorem Ext.keepN {Γ : Gm} {H H' : Hp} (x : Ext Γ H H') {b : Addr} {o : HO} (h : H b = some o) (n : ∀ ps, o ≠ .tbl ps) (l : ∀ xs, o ≠ .lst xs) : H' b = some o := x.keep b o h n fun ⟨xs, e⟩ => absurd e (l xs)
theorem Ext.keepL {Γ : Gm} {H H' : Hp} (x : Ext Γ H H') {b : Addr} {xs : List V} (h : H b = some (.lst xs)) (n : Γ.row ≠ some b) : H' b = some (.lst xs) := x.keep b _ h (by intro _ z; cases z) fun _ => n
theorem Ext.refl (Γ : Gm) (H : Hp) : Ext Γ H H := ⟨fun _ _ h _ _ => h, fun h => h, fun h => h, fun _ h => h⟩
theorem Ext.trans {Γ : Gm} {H H1 H2 : Hp} (a : Ext Γ H H1) (b : Ext Γ H1 H2) : Ext Γ H H2 := ⟨fun c o h n m => b.keep c o (a.keep c o h n m) n m, fun h => b.tb (a.tb h), fun h => b.row (a.row h), fun c h => b.there c (a.there c h)⟩
theorem Ext.sqT {Γ : Gm} {H H' : Hp} (x : Ext Γ H H') {a : Addr} {xs : List V} (h : SqT Γ.K H a xs) : SqT Γ.K H' a xs := by
  rcases h with (h | ⟨o, h⟩) | h
  · exact .inl (.inl (x.keepN h (by intro _ z; cases z) (by intro _ z; cases z)))
  · exact .inl (.inr ⟨o, x.keepN h (by intro _ z; cases z) (by intro _ z; cases z)⟩)
  · exact .inr h
theorem Ext.stay {Γ : Gm} {H H' : Hp} (x : Ext Γ H H') (av : Addr → Prop) : Stay Γ.kr av av H H' :=
  ⟨fun _ _ h => x.keepN h (by intro _ z; cases z) (by intro _ z; cases z), fun _ _ n h => ⟨x.keepL h fun z => n (.inr z), n⟩, fun _ _ n h => ⟨x.keepN h (by intro _ z; cases z) (by intro _ z; cases z), n⟩, fun _ _ n h => ⟨x.keepN h (by intro _ z; cases z) (by intro _ z; cases z), n⟩,
    fun _ _ _ h => x.keepN h (by intro _ z; cases z) (by intro _ z; cases z), fun _ _ _ h => x.keepN h (by intro _ z; cases z) (by intro _ z; cases z)⟩
theorem Rp.ext {Γ : Gm} {H H' : Hp} (x : Ext Γ H H') {av : Addr → Prop} {d : D} {v : V} (h : Rp Γ.kr av H d v) : Rp Γ.kr av H' d v := h.stay (x.stay av)
theorem RpL.ext {Γ : Gm} {H H' : Hp} (x : Ext Γ H H') {av : Addr → Prop} {d : List D} {v : List V} (h : RpL Γ.kr av H d v) : RpL Γ.kr av H' d v := h.stay (x.stay av)
theorem Tb.ext {Γ : Gm} {H H' : Hp} (t : Tb Γ H) (e : ∀ b o, H b = some o → H' b = some o) : Tb Γ H' :=
  ⟨fun P hP => let ⟨ps, h1, h2⟩ := t.1 P hP; ⟨ps, e _ _ h1, h2⟩, t.2.ext e⟩
theorem sqL_same {K : PySem.W.Frag} {H H' : Hp} (e : ∀ b o, H b = some o → H' b = some o) {a : Addr} {xs : List V} (h : SqL K H a xs) : SqL K H' a xs := by
  rcases h with (h | ⟨o, h⟩) | h
  · exact .inl (.inl (e _ _ h))
  · exact .inl (.inr ⟨o, e _ _ h⟩)
  · exact .inr h
theorem RowOk.same {Γ : Gm} {H H' : Hp} (h : RowOk Γ H) (e : ∀ b o, H b = some o → H' b = some o) : RowOk Γ H' := fun r hr =>
  let ⟨ns, i, j, k, h1, h2, h3⟩ := h r hr
  ⟨ns, i, j, k, e _ _ h1, sqL_same e h2, h3⟩
theorem RowOk.there {Γ : Gm} {H : Hp} (h : RowOk Γ H) {r : Addr} (hr : Γ.row = some r) : H r ≠ none := by
  obtain ⟨ns, i, j, k, h1, _⟩ := h r hr
  rw [h1]
  intro z
  cases z
/-- an address that is neither the row's nor the script's -/
def NR (Γ : Gm) (a : Addr) : Prop := Γ.row ≠ some a ∧ ∀ r, Γ.row = some r → a ≠ Γ.scr ∨ ∃ ns : List Int, ∀ H, SqL Γ.K H Γ.scr (ns.map V.int)
theorem RowOk.nr {Γ : Gm} {H : Hp} (h : RowOk Γ H) {p : Addr} (hp : H p = none) : NR Γ p := by
  refine ⟨fun z => h.there z hp, fun r hr => ?_⟩
  obtain ⟨ns, i, j, k, h1, h2, _⟩ := h r hr
  rcases h2 with (h2 | ⟨o, h2⟩) | h2
  · exact .inl fun z => by rw [← z, hp] at h2; cases h2
  · exact .inl fun z => by rw [← z, hp] at h2; cases h2
  · exact .inr ⟨ns, fun _ => .inr h2⟩
theorem RowOk.new {Γ : Gm} {H : Hp} (h : RowOk Γ H) {p : Addr} (hp : H p = none) : Γ.row ≠ some p := fun z => h.there z hp
theorem Ext.same {Γ : Gm} {H H' : Hp} (e : ∀ b u, H b = some u → H' b = some u) : Ext Γ H H' := by
  refine ⟨fun b u q _ _ => e b u q, fun t => t.ext e, fun t => t.same e, fun b n z => ?_⟩
  cases q : H b with
  | none => exact n q
  | some u => rw [e b u q] at z; cases z
/-- a new object -/
theorem Ext.new {Γ : Gm} {H : Hp} {p : Addr} (o : HO) (h : H p = none) : Ext Γ H (upd H p o) := Ext.same fun b u q => by rw [upd_ne (ne_of_none q h)]; exact q

/-- the heap as the readings find it: the tables stand; what must not be leant on is tracked -/
structure Wf (Γ : Gm) (av : Addr → Prop) (H : Hp) : Prop where
  tb : Tb Γ H
  av : ∀ a, av a → H a ≠ none
  row : RowOk Γ H
theorem Wf.ext {Γ : Gm} {av : Addr → Prop} {H H' : Hp} (w : Wf Γ av H) (x : Ext Γ H H') : Wf Γ av H' := ⟨x.tb w.tb, fun a h => x.there a (w.av a h), x.row w.row⟩
/-- a new address is none that must not be leant on -/
theorem Wf.new {Γ : Gm} {av : Addr → Prop} {H : Hp} (w : Wf Γ av H) {p : Addr} (h : H p = none) : ¬ avr Γ.kr av p := fun z => z.elim (fun z => w.av p z h) fun z => w.row.new h z

/-! ### the canonical readings -/
/-- an error that leaves: its class by its name, its one field -/
def ExOk (Γ : Gm) (H : Hp) (E : XK) (c : Str) : Option (Str × V) → Prop
  | none => ∀ H', Ext Γ H H' → E (.ref (Γ.cls c)) none H'
  | some (f, v) => ∀ H' a, Ext Γ H H' → H a = none → H' a = some (.xd [(f, v)]) → E (.ref (Γ.cls c)) (some a) H'
def ROk {α β : Type} (Γ : Gm) (av : Addr → Prop) (H : Hp) (rel : Hp → α → β → Prop) : Res α → (β → Hp → Prop) → XK → Prop
  | .ok a, Q, E => ∀ b H', Ext Γ H H' → rel H' a b → Q b H'
  | .ex c f, Q, E => ExOk Γ H E c f
  | .no, Q, E => False
  | .dr n k, Q, E => ∀ i, 0 ≤ i → i < n → ROk Γ av H rel (k i) Q E
/-- the names' values -/
structure EnvV (Γ : Gm) (av : Addr → Prop) (H : Hp) (σ : St) (ρ : Env) : Prop where
  wf : Wf Γ av H
  at_ : ∀ (i : Nat) (d : D), ρ[i]? = some (some d) → ∃ v, σ[i]? = some (some v) ∧ Rp Γ.kr av H d v
  len : ρ.length ≤ σ.length
theorem EnvV.ext {Γ : Gm} {av : Addr → Prop} {H H' : Hp} {σ : St} {ρ : Env} (e : EnvV Γ av H σ ρ) (x : Ext Γ H H') : EnvV Γ av H' σ ρ :=
  ⟨e.wf.ext x, fun i d h => let ⟨v, h1, h2⟩ := e.at_ i d h; ⟨v, h1, h2.ext x⟩, e.len⟩
def eT (Γ : Gm) (E : XK) (f : Env → Res D) : TE := fun σ H Q => ∃ av ρ, EnvV Γ av H σ ρ ∧ ROk Γ av H (fun H' d v => Rp Γ.kr av H' d v) (f ρ) Q E
def aT (Γ : Gm) (E : XK) (f : Env → Res (List D)) : TA := fun σ H Q => ∃ av ρ, EnvV Γ av H σ ρ ∧ ROk Γ av H (fun H' d v => RpL Γ.kr av H' d v) (f ρ) Q E
def bT (Γ : Gm) (E : XK) (f : Env → Res Bool) : TT := fun σ H Q => ∃ av ρ, EnvV Γ av H σ ρ ∧ ROk Γ av H (fun _ d v => d = v) (f ρ) Q E
section
variable {Γ : Gm} {av : Addr → Prop} {E : XK} {H H' : Hp} {σ : St} {ρ : Env}
theorem ExOk.ext {c : Str} {f : Option (Str × V)} (x : Ext Γ H H') (h : ExOk Γ H E c f) : ExOk Γ H' E c f := by
  cases f with
  | none => exact fun H2 x2 => h H2 (x.trans x2)
  | some p =>
    obtain ⟨f, d⟩ := p
    refine fun H2 a x2 n h1 => h H2 a (x.trans x2) ?_ h1
    cases q : H a with
    | none => rfl
    | some u => exact absurd n (x.there a (by rw [q]; intro z; cases z))
theorem ROk.ext {α β : Type} {rel : Hp → α → β → Prop} {Q : β → Hp → Prop} (x : Ext Γ H H') : ∀ {r : Res α}, ROk Γ av H rel r Q E → ROk Γ av H' rel r Q E
  | .ok a, h => fun b H2 x2 q => h b H2 (x.trans x2) q
  | .ex c f, h => ExOk.ext x (show ExOk Γ H E c f from h)
  | .no, h => h
  | .dr n k, h => fun i h1 h2 => ROk.ext x (h i h1 h2)
/-- what follows an answer -/
theorem ROk.bind {α β γ δ : Type} {av1 : Addr → Prop} {rel : Hp → β → δ → Prop} {rel1 : Hp → α → γ → Prop} {k : α → Res β} {Q : δ → Hp → Prop} {R : γ → Hp → Prop} : ∀ {r : Res α}, ROk Γ av H rel (r.bind k) Q E →
    (∀ d v H1, Ext Γ H H1 → rel1 H1 d v → ROk Γ av H1 rel (k d) Q E → R v H1) → ROk Γ av1 H rel1 r R E
  | .ok a, h, hk => fun b H2 x2 q => hk a b H2 x2 q (ROk.ext x2 h)
  | .ex c f, h, hk => h
  | .no, h, hk => h
  | .dr n j, h, hk => fun i h1 h2 => ROk.bind (h i h1 h2) hk
/-- .. from an earlier heap -/
theorem ROk.bindAt {α β γ δ : Type} {av1 : Addr → Prop} {rel : Hp → β → δ → Prop} {rel1 : Hp → α → γ → Prop} {k : α → Res β} {Q : δ → Hp → Prop} {R : γ → Hp → Prop} (x : Ext Γ H H') : ∀ {r : Res α}, ROk Γ av H rel (r.bind k) Q E →
    (∀ d v H1, Ext Γ H' H1 → rel1 H1 d v → ROk Γ av H rel (k d) Q E → R v H1) → ROk Γ av1 H' rel1 r R E
  | .ok a, h, hk => fun b H2 x2 q => hk a b H2 x2 q h
  | .ex c f, h, hk => ExOk.ext x (show ExOk Γ H E c f from h)
  | .no, h, hk => h
  | .dr n j, h, hk => fun i h1 h2 => ROk.bindAt x (h i h1 h2) hk
theorem ROk.rel {α γ : Type} {av1 : Addr → Prop} {rel rel1 : Hp → α → γ → Prop} {Q : γ → Hp → Prop} (hr : ∀ d v H1, Ext Γ H H1 → rel1 H1 d v → rel H1 d v) : ∀ {r : Res α}, ROk Γ av H rel r Q E → ROk Γ av1 H rel1 r Q E
  | .ok a, h => fun b H2 x2 q => h b H2 x2 (hr a b H2 x2 q)
  | .ex c f, h => h
  | .no, h => h
  | .dr n j, h => fun i h1 h2 => ROk.rel hr (h i h1 h2)
theorem eT_bind {β : Type} {δ : Type} {rel : Hp → β → δ → Prop} {f : Env → Res D} {k : D → Res β} {Q : δ → Hp → Prop} {R : VK} (env : EnvV Γ av H σ ρ) (h : ROk Γ av H rel ((f ρ).bind k) Q E)
    (hk : ∀ d v H1, Ext Γ H H1 → EnvV Γ av H1 σ ρ → Rp Γ.kr av H1 d v → ROk Γ av H1 rel (k d) Q E → R v H1) : eT Γ E f σ H R := ⟨av, ρ, env, h.bind fun d v H1 x r q => hk d v H1 x (env.ext x) r q⟩
theorem aT_bind {β : Type} {δ : Type} {rel : Hp → β → δ → Prop} {f : Env → Res (List D)} {k : List D → Res β} {Q : δ → Hp → Prop} {R : List V → Hp → Prop} (env : EnvV Γ av H σ ρ) (h : ROk Γ av H rel ((f ρ).bind k) Q E)
    (hk : ∀ d v H1, Ext Γ H H1 → EnvV Γ av H1 σ ρ → RpL Γ.kr av H1 d v → ROk Γ av H1 rel (k d) Q E → R v H1) : aT Γ E f σ H R := ⟨av, ρ, env, h.bind fun d v H1 x r q => hk d v H1 x (env.ext x) r q⟩
theorem bT_bind {β : Type} {δ : Type} {rel : Hp → β → δ → Prop} {f : Env → Res Bool} {k : Bool → Res β} {Q : δ → Hp → Prop} {R : Bool → Hp → Prop} (env : EnvV Γ av H σ ρ) (h : ROk Γ av H rel ((f ρ).bind k) Q E)
    (hk : ∀ d H1, Ext Γ H H1 → EnvV Γ av H1 σ ρ → ROk Γ av H1 rel (k d) Q E → R d H1) : bT Γ E f σ H R := ⟨av, ρ, env, h.bind fun d v H1 x r q => by
  subst r
  exact hk d H1 x (env.ext x) q⟩
/-- a value that stands already -/
theorem ROk.here {d : D} {v : V} {Q : VK} (h : ROk Γ av H (fun H' d v => Rp Γ.kr av H' d v) (.ok d) Q E) (r : Rp Γ.kr av H d v) : Q v H := h v H (Ext.refl Γ H) r
theorem ROk.new {d : D} {p : Addr} {o : HO} {Q : VK} (h : ROk Γ av H (fun H' d v => Rp Γ.kr av H' d v) (.ok d) Q E) (n : H p = none) (r : Rp Γ.kr av (upd H p o) d (.ref p)) : Q (.ref p) (upd H p o) := h _ _ (Ext.new o n) r
end
theorem PE.imp {X : Cx} {e : Expr} {t t' : TE} (h : PE X e t) (i : ∀ σ H Q, t' σ H Q → t σ H Q) : PE X e t' := ⟨fun pins s σ H Q I q => h.run pins s σ H Q I (i σ H Q q)⟩
theorem PT.imp {X : Cx} {e : Expr} {t t' : TT} (h : PT X e t) (i : ∀ σ H Q, t' σ H Q → t σ H Q) : PT X e t' := ⟨fun pins s σ H Q I q => h.run pins s σ H Q I (i σ H Q q)⟩
theorem PW.imp {X : Cx} {e : Expr} {t t' : TT} (h : PW X e t) (i : ∀ σ H Q, t' σ H Q → t σ H Q) : PW X e t' := ⟨fun wh pins s σ H Q I q => h.run wh pins s σ H Q I (i σ H Q q)⟩
theorem PA.imp {X : Cx} {e : List Expr} {t t' : TA} (h : PA X e t) (i : ∀ σ H Q, t' σ H Q → t σ H Q) : PA X e t' := ⟨fun pos pins s σ H Q I q => h.run pos pins s σ H Q I (i σ H Q q)⟩
theorem PS.imp {X : Cx} {e : Stmt} {t t' : TS} (h : PS X e t) (i : ∀ D σ H, t' D σ H → t D σ H) : PS X e t' := ⟨fun pins s σ H D I q => h.run pins s σ H D I (i D σ H q)⟩
theorem PSs.imp {X : Cx} {e : List Stmt} {t t' : TS} (h : PSs X e t) (i : ∀ D σ H, t' D σ H → t D σ H) : PSs X e t' := ⟨fun pins s σ H D I q => h.run pins s σ H D I (i D σ H q)⟩
end Fw
end
set_option Elab.async false
set_option linter.all false
set_option autoImplicit false
set_option maxRecDepth 100000
set_option maxHeartbeats 4000000
/-! Fw2: plain expressions. -/
noncomputable section
namespace Fw
open PySem PySem.Spec PyProof.Rows L2

/-! ### the operations over trees -/
/-- a word of the machine; the kernel is not to reckon with it -/
def inM (b : Int) : Prop := -(2 ^ 63) ≤ b ∧ b < 2 ^ 63
instance (i : Int) : Decidable (inM i) := Classical.propDecidable _
def vr (ρ : Env) (i : Nat) : Res D := match ρ[i]? with | some (some d) => .ok d | _ => .no
def D.add : D → D → Res D
  | .int a, .int b => .ok (.int (a + b))
  | .str a, .str b => if a.length + b.length ≤ lim then .ok (.str (a ++ b)) else .no
  | .lst a, .lst b => if a.length + b.length ≤ lim then .ok (.lst (a ++ b)) else .no
  | .tup a, .tup b => if a.length + b.length ≤ lim then .ok (.tup (a ++ b)) else .no
  | _, _ => .no
def D.sub : D → D → Res D
  | .int a, .int b => .ok (.int (a - b))
  | _, _ => .no
def D.mul : D → D → Res D
  | .int a, .int b => if a.natAbs.log2 + b.natAbs.log2 < 1000000 then .ok (.int (a * b)) else .no
  | .lst a, .int b => if inM b ∧ a.length * b.toNat ≤ lim then .ok (.lst (List.replicate b.toNat a).flatten) else .no
  | .tup a, .int b => if a ≠ [] ∧ 2 ≤ b ∧ b ≤ 1000 ∧ a.length ≤ 1000 then .ok (.tup (List.replicate b.toNat a).flatten) else .no
  | _, _ => .no
def D.fdiv : D → D → Res D
  | .int a, .int b => if 0 < b ∧ b.natAbs.log2 < 9000 then .ok (.int (a / b)) else .no
  | _, _ => .no
def D.mod : D → D → Res D
  | .int a, .int b => if 0 < b then .ok (.int (a % b)) else .no
  | _, _ => .no
def D.pow : D → D → Res D
  | .int a, .int b => if 0 ≤ b ∧ b ≤ 1000000 ∧ a.natAbs < 2 ^ 64 then .ok (.int (a ^ b.toNat)) else .no
  | _, _ => .no
def D.lt : D → D → Res D
  | .int a, .int b => .ok (.bl (decide (a < b)))
  | _, _ => .no
def D.le : D → D → Res D
  | .int a, .int b => .ok (.bl (decide (a ≤ b)))
  | _, _ => .no
def D.gt : D → D → Res D
  | .int a, .int b => .ok (.bl (decide (b < a)))
  | _, _ => .no
def D.ge : D → D → Res D
  | .int a, .int b => .ok (.bl (decide (b ≤ a)))
  | _, _ => .no
mutual
/-- what == may be asked of: no dict, texts whose size is known -/
def D.toPy : D → Option PyData
  | .non => some .none
  | .bl b => some (.bool b)
  | .int i => some (.int i)
  | .str x => some (.str x)
  | .tup ds => (D.toPyL ds).map .tuple
  | .lst ds => (D.toPyL ds).map .list
  | _ => none
def D.toPyL : List D → Option (List PyData)
  | [] => some []
  | d :: r => match d.toPy, D.toPyL r with
    | some p, some q => some (p :: q)
    | _, _ => none
end
def D.eqB (a b : D) : Res Bool := match a.toPy, b.toPy with
  | some p, some q => if SeqAt.shaped p = true ∧ SeqAt.shaped q = true then .ok (PyData.eqv p q) else .no
  | _, _ => .no
def D.eq (a b : D) : Res D := (D.eqB a b).bind fun k => .ok (.bl k)
def D.ne (a b : D) : Res D := (D.eqB a b).bind fun k => .ok (.bl !k)
def D.isNon : D → Bool
  | .non => true
  | _ => false
/-- x is y, of None and of truth values -/
def D.is : D → D → Res D
  | a, .non => match a with | .op _ => .no | _ => .ok (.bl a.isNon)
  | .bl a, .bl b => .ok (.bl (a == b))
  | .non, .bl _ => .ok (.bl false)
  | .int _, .bl _ => .ok (.bl false)
  | .str _, .bl _ => .ok (.bl false)
  | _, _ => .no
def D.asB : D → Res Bool
  | .bl b => .ok b
  | _ => .no
def D.truth : D → Res Bool
  | .non => .ok false
  | .bl b => .ok b
  | .int i => .ok (i != 0)
  | .str x => if x.length ≤ lim then .ok ((x.length : Int) != 0) else .no
  | .tup ds => .ok (!ds.isEmpty)
  | .lst ds => .ok (!ds.isEmpty)
  | _ => .no
def ixG {α : Type} (l : List α) (i : Int) : Res α := match atI l i with | some d => .ok d | none => .no
def D.ix : D → D → Res D
  | .tup ds, .int i => ixG ds i
  | .lst ds, .int i => ixG ds i
  | .arr _ ns, .int i => (ixG ns i).bind fun n => .ok (.int n)
  | .str x, .int i => if x.length ≤ lim then (ixG x.cps.toList i).bind fun c => .ok (.str ⟨#[c]⟩) else .no
  | _, _ => .no
def cutG {α : Type} (xs : List α) (lo hi : Option Int) : List α := (xs.drop (HT.sIx xs.length 0 lo)).take (HT.sIx xs.length xs.length hi - HT.sIx xs.length 0 lo)
def D.slice : D → Option Int → Option Int → Res D
  | .tup ds, lo, hi => .ok (.tup (cutG ds lo hi))
  | .lst ds, lo, hi => .ok (.lst (cutG ds lo hi))
  | .str x, lo, hi => if x.length ≤ lim then .ok (.str (cutS x lo hi)) else .no
  | _, _, _ => .no
def D.asI : D → Res Int
  | .int i => .ok i
  | _ => .no
def D.len : D → Res D
  | .tup ds => .ok (.int ds.length)
  | .lst ds => .ok (.int ds.length)
  | .arr _ ns => .ok (.int ns.length)
  | .str x => if x.length ≤ lim then .ok (.int x.length) else .no
  | .dct ds => .ok (.int ds.length)
  | _ => .no
def D.toTup : D → Res D
  | .tup ds => .ok (.tup ds)
  | .lst ds => .ok (.tup ds)
  | _ => .no
def D.toLst : D → Res D
  | .tup ds => .ok (.lst ds)
  | .lst ds => .ok (.lst ds)
  | _ => .no
def D.toInt : D → Res D
  | .int i => .ok (.int i)
  | .bl b => .ok (.int (if b then 1 else 0))
  | _ => .no
def intsOf : List D → Option (List Int)
  | [] => some []
  | .int i :: r => (intsOf r).map (i :: ·)
  | _ :: _ => none
theorem intsOf_map : ∀ ns : List Int, intsOf (ns.map D.int) = some ns
  | [] => rfl
  | n :: r => by rw [List.map_cons, intsOf, intsOf_map r]; rfl
theorem intsOf_eq : ∀ {ds : List D} {ns : List Int}, intsOf ds = some ns → ds = ns.map D.int
  | [], _, h => by cases h; rfl
  | .int i :: r, ns, h => by
    rw [intsOf] at h
    cases e : intsOf r with
    | none => rw [e] at h; cases h
    | some m =>
      rw [e] at h
      cases h
      rw [intsOf_eq e]
      rfl
  | .non :: _, _, h => by cases h
  | .bl _ :: _, _, h => by cases h
  | .str _ :: _, _, h => by cases h
  | .tup _ :: _, _, h => by cases h
  | .lst _ :: _, _, h => by cases h
  | .dct _ :: _, _, h => by cases h
  | .rng _ _ :: _, _, h => by cases h
  | .arr _ _ :: _, _, h => by cases h
  | .row :: _, _, h => by cases h
  | .op _ :: _, _, h => by cases h
def D.asInts : D → Res (List Int)
  | .lst ds => match intsOf ds with | some ns => .ok ns | none => .no
  | _ => .no
def D.sum (a : D) : Res D := a.asInts.bind fun ns => .ok (.int ns.sum)
def maxL : List Int → Option Int
  | [] => none
  | n :: r => some (r.foldl max n)
def minL : List Int → Option Int
  | [] => none
  | n :: r => some (r.foldl min n)
def D.max1 (a : D) : Res D := a.asInts.bind fun ns => match maxL ns with | some m => .ok (.int m) | none => .no
def D.max2 : D → D → Res D
  | .int a, .int b => .ok (.int (if b > a then b else a))
  | _, _ => .no
def D.min2 : D → D → Res D
  | .int a, .int b => .ok (.int (if b < a then b else a))
  | _, _ => .no
def D.abs : D → Res D
  | .int a => .ok (.int (if a < 0 then -a else a))
  | _ => .no
def D.neg : D → Res D
  | .int a => .ok (.int (-a))
  | _ => .no
def D.cnt : D → D → Res D
  | .lst ds, .int k => match intsOf ds with | some ns => .ok (.int (ns.count k : Nat)) | none => .no
  | _, _ => .no
inductive Ty where | non | bl | int | str | tup | lst | dct
  deriving DecidableEq
def Ty.name : Ty → String
  | .non => "NoneType" | .bl => "bool" | .int => "int" | .str => "str" | .tup => "tuple" | .lst => "list" | .dct => "dict"
def D.ty : D → Option Ty
  | .non => some .non | .bl _ => some .bl | .int _ => some .int | .str _ => some .str | .tup _ => some .tup | .lst _ => some .lst | .dct _ => some .dct
  | _ => none
def isiB (t T : Ty) : Bool := decide (t = T) || (decide (t = .bl) && decide (T = .int))
theorem isiB_kit {K : PySem.W.Frag} (t T : Ty) (h : T ≠ .non) : PySem.W.kitOne K (.type t.name) (.type T.name) = some (isiB t T) := by
  refine kit_ty ?_
  cases T <;> first | exact absurd rfl h | (cases t <;> decide +kernel)
def D.isi (a : D) (T : Ty) : Res D := match a.ty with | some t => .ok (.bl (isiB t T)) | none => .no
def D.isiAny (a : D) (Ts : List Ty) : Res D := match a.ty with | some t => .ok (.bl (Ts.any fun T => isiB t T)) | none => .no

/-! ### the rules -/
section
variable {X : Cx} {Γ : Gm} {E : XK} {x : Str} {a b c : Expr} {es : List Expr} {pos p p2 : Pos} {fa fb fc : Env → Res D} {k : Nat}
theorem te_var (i : Nat) (hN : X.N[i]? = some x := by rfl) (hv : Vis X.env.scope x := by first | exact Or.inl rfl | exact Or.inr (Or.inl rfl) | exact Or.inr (Or.inr rfl)) (hd : (x == ("__debug__" : Str)) = false := by decide)
    (hcd : (x == ("__classdict__" : Str)) = false := by decide) : PE X (.Name x pos) (eT Γ E fun ρ => vr ρ i) := by
  refine PE.imp (pe_var hN hv hd hcd) fun σ H Q ⟨av, ρ, env, h⟩ => ?_
  have h : ROk Γ av H (fun H' d v => Rp Γ.kr av H' d v) (vr ρ i) Q E := h
  unfold vr at h
  split at h
  · rename_i d e
    obtain ⟨v, h1, h2⟩ := env.at_ i d e
    exact ⟨v, h1, h.here h2⟩
  · exact (show False from h).elim
theorem te_const {v : V} {d : D} (h : PE X a (tC v)) (r : ∀ (K : Kr) av H, Rp K av H d v) : PE X a (eT Γ E fun _ => .ok d) :=
  PE.imp h fun σ H Q ⟨av, ρ, env, h⟩ => h.here (r _ _ _)
theorem te_int {i : Int} {j : Nat} : PE X (.Constant (.int i) j pos) (eT Γ E fun _ => .ok (.int i)) := te_const pe_int fun _ _ _ => .int i
theorem te_bl {i : Bool} {j : Nat} : PE X (.Constant (.bool i) j pos) (eT Γ E fun _ => .ok (.bl i)) := te_const pe_bl fun _ _ _ => .bl i
theorem te_str {i : Str} {j : Nat} : PE X (.Constant (.str i) j pos) (eT Γ E fun _ => .ok (.str i)) := te_const pe_str fun _ _ _ => .str i
theorem te_non {j : Nat} : PE X (.Constant .none j pos) (eT Γ E fun _ => .ok .non) := te_const pe_non fun _ _ _ => .non
/-- a number of the module's -/
theorem te_gint {i : Int} {t : Tok} (hm : X.mg x = some (.int i t)) (hg : Gl X x := by rfl) (hd : (x == ("__debug__" : Str)) = false := by decide) : PE X (.Name x pos) (eT Γ E fun _ => .ok (.int i)) := te_const (v := .int i) (pe_glob hg hm ⟨t, rfl⟩ hd) fun _ _ _ => .int i
theorem te_gstr {i : Str} {t : Tok} (hm : X.mg x = some (.str i t)) (hg : Gl X x := by rfl) (hd : (x == ("__debug__" : Str)) = false := by decide) : PE X (.Name x pos) (eT Γ E fun _ => .ok (.str i)) := te_const (v := .str i) (pe_glob hg hm ⟨t, rfl⟩ hd) fun _ _ _ => .str i

/-- what an operation over values must do to fit one over trees -/
def Fit2 (Γ : Gm) (E : XK) (r : R2) (g : D → D → Res D) : Prop := ∀ (av : Addr → Prop) (H : Hp) (da db : D) (va vb : V) (Q : VK), Wf Γ av H → Rp Γ.kr av H da va → Rp Γ.kr av H db vb →
  ROk Γ av H (fun H' d v => Rp Γ.kr av H' d v) (g da db) Q E → r va vb H Q
theorem ROk.ifp {α β : Type} {av : Addr → Prop} {H : Hp} {rel : Hp → α → β → Prop} {q : Prop} [Decidable q] {r : Res α} {Q : β → Hp → Prop} (h : ROk Γ av H rel (if q then r else .no) Q E) : q ∧ ROk Γ av H rel r Q E := by
  by_cases z : q
  · rw [if_pos z] at h; exact ⟨z, h⟩
  · rw [if_neg z] at h; exact h.elim
def bin (g : D → D → Res D) (fa fb : Env → Res D) : Env → Res D := fun ρ => (fa ρ).bind fun d => (fb ρ).bind fun e => g d e
theorem tOp_fit {r : R2} {g : D → D → Res D} (hf : Fit2 Γ E r g) (σ : St) (H : Hp) (Q : VK) (h : eT Γ E (bin g fa fb) σ H Q) : tOp r (eT Γ E fa) (eT Γ E fb) σ H Q := by
  obtain ⟨av, ρ, env, h⟩ := h
  exact eT_bind env h fun d v H1 x1 env1 r1 h1 => eT_bind env1 h1 fun e u H2 x2 env2 r2 h2 => hf av H2 d e v u Q env2.wf (r1.ext x2) r2 h2
theorem te_op {op : Operator} {r : R2} {g : D → D → Res D} (ho : OpR X (binaryOp op) r) (hf : Fit2 Γ E r g) (ha : PE X a (eT Γ E fa)) (hb : PE X b (eT Γ E fb)) : PE X (.BinOp a op b pos) (eT Γ E (bin g fa fb)) :=
  PE.imp (pe_op ho ha hb) fun σ H Q h => tOp_fit hf σ H Q h
theorem te_cmpR {op : CmpOp} {r : R2} {g : D → D → Res D} (ho : OpR X (compareOp op) r) (hf : Fit2 Γ E r g) (ha : PE X a (eT Γ E fa)) (hb : PE X b (eT Γ E fb)) (hm : behindInMarks op b = false) : PE X (.Compare a [op] [b] pos) (eT Γ E (bin g fa fb)) :=
  PE.imp (pe_cmpR ho ha hb hm) fun σ H Q h => tOp_fit hf σ H Q h
def asTest (f : Env → Res D) : Env → Res Bool := fun ρ => (f ρ).bind D.asB
/-- a truth value as a test -/
theorem asB_fit {av : Addr → Prop} {H : Hp} {d : D} {v : V} {Q : Bool → Hp → Prop} (r : Rp Γ.kr av H d v) (h : ROk Γ av H (fun _ d v => d = v) d.asB Q E) : ∃ c, v = .bl c ∧ Q c H := by
  cases r with
  | bl c => exact ⟨c, rfl, h c H (Ext.refl Γ H) rfl⟩
  | _ => exact (show False from h).elim
theorem tb_val (h : PE X a (eT Γ E fa)) (he : ∀ whole, isTrue a X.env whole = (do let v ← whole; standAt a.pos; holding [v] (truthy v)) := by intro _; rfl) : PT X a (bT Γ E (asTest fa)) :=
  PT.imp (pt_val h he) fun σ H Q ⟨av, ρ, env, h⟩ => eT_bind env h fun d v H1 x1 env1 r1 h1 => asB_fit r1 h1
theorem tb_cmpR {op : CmpOp} {r : R2} {g : D → D → Res D} (ho : OpR X (compareOp op) r) (hf : Fit2 Γ E r g) (ha : PE X a (eT Γ E fa)) (hb : PE X b (eT Γ E fb)) (hm : behindInMarks op b = false) : PT X (.Compare a [op] [b] pos) (bT Γ E (asTest (bin g fa fb))) :=
  PT.imp (pt_cmpR ho ha hb hm) fun σ H Q ⟨av, ρ, env, h⟩ => by
    have h' : ROk Γ av H (fun _ d v => d = v) ((fa ρ).bind fun d => (fb ρ).bind fun e => (g d e).bind D.asB) Q E := by
      unfold asTest bin at h
      rw [Res.bind_assoc] at h
      simp only [Res.bind_assoc] at h
      exact h
    refine eT_bind env h' fun d v H1 x1 env1 r1 h1 => eT_bind env1 h1 fun e u H2 x2 env2 r2 h2 => ?_
    exact hf av H2 d e v u _ env2.wf (r1.ext x2) r2 (h2.bind fun z w H3 x3 r3 h3 => asB_fit r3 h3)

/-! the operations -/
theorem fit_II {g : Int → Int → V} {f : D → D → Res D} {C : Int → Int → Prop} (hc : ∀ i j, f (.int i) (.int j) = .no ∨ (C i j ∧ ∃ d, f (.int i) (.int j) = .ok d ∧ ∀ (K : Kr) av H, Rp K av H d (g i j)))
    (hn : ∀ a b, (∀ i j, ¬ (a = .int i ∧ b = .int j)) → f a b = .no) : Fit2 Γ E (rI C g) f := by
  intro av H da db va vb Q wf ra rb h
  by_cases hh : ∃ i j, da = .int i ∧ db = .int j
  · obtain ⟨i, j, rfl, rfl⟩ := hh
    cases ra
    cases rb
    rcases hc i j with e | ⟨q, d, e, r⟩
    · rw [e] at h; exact h.elim
    · rw [e] at h
      exact ⟨i, j, rfl, rfl, q, h.here (r _ _ _)⟩
  · rw [hn da db fun i j z => hh ⟨i, j, z⟩] at h
    exact h.elim
theorem fit_II0 {g : Int → Int → V} {f : D → D → Res D} (hc : ∀ i j, ∃ d, f (.int i) (.int j) = .ok d ∧ ∀ (K : Kr) av H, Rp K av H d (g i j)) (hn : ∀ a b, (∀ i j, ¬ (a = .int i ∧ b = .int j)) → f a b = .no) : Fit2 Γ E (rI0 g) f := by
  intro av H da db va vb Q wf ra rb h
  obtain ⟨i, j, h1, h2, _, h3⟩ := fit_II (C := fun _ _ => True) (g := g) (fun i j => .inr ⟨True.intro, hc i j⟩) hn av H da db va vb Q wf ra rb h
  exact ⟨i, j, h1, h2, h3⟩
/-- two operations in one -/
theorem Fit2.or {r r' : R2} {f f' g : D → D → Res D} (h : Fit2 Γ E r f) (h' : Fit2 Γ E r' f') (hg : ∀ a b, g a b = f a b ∨ g a b = f' a b) : Fit2 Γ E (fun x y H Q => r x y H Q ∨ r' x y H Q) g := by
  intro av H da db va vb Q wf ra rb q
  rcases hg da db with e | e
  · rw [e] at q; exact .inl (h av H da db va vb Q wf ra rb q)
  · rw [e] at q; exact .inr (h' av H da db va vb Q wf ra rb q)
def addI : D → D → Res D
  | .int a, .int b => .ok (.int (a + b))
  | _, _ => .no
def addS : D → D → Res D
  | .str a, .str b => if a.length + b.length ≤ lim then .ok (.str (a ++ b)) else .no
  | _, _ => .no
def addL : D → D → Res D
  | .lst a, .lst b => if a.length + b.length ≤ lim then .ok (.lst (a ++ b)) else .no
  | _, _ => .no
def addT : D → D → Res D
  | .tup a, .tup b => if a.length + b.length ≤ lim then .ok (.tup (a ++ b)) else .no
  | _, _ => .no
local macro_rules | `(tactic| walk_at "nn") => `(tactic| (intro a b h; cases a <;> first | rfl | (cases b <;> first | rfl | exact absurd ⟨rfl, rfl⟩ (h _ _))))
theorem fit_addI : Fit2 Γ E (rI0 fun i j => .int (i + j)) addI := fit_II0 (fun i j => ⟨_, rfl, fun _ _ _ => .int _⟩) (by walk_at "nn")
theorem fit_addS : Fit2 Γ E (fun x y H Q => ∃ i j, x = .str i ∧ y = .str j ∧ i.length + j.length ≤ sizeLine ∧ Q (.str (i ++ j)) H) addS := by
  intro av H da db va vb Q wf ra rb h
  cases ra <;> first | exact (show False from h).elim | skip
  cases rb <;> first | exact (show False from h).elim | skip
  rename_i x y
  obtain ⟨hz, h⟩ := ROk.ifp h
  exact ⟨_, _, rfl, rfl, by rw [lim_eq]; exact hz, h.here (.str _)⟩
theorem fit_addL : Fit2 Γ E rCat addL := by
  intro av H da db va vb Q wf ra rb h
  cases ra <;> first | exact (show False from h).elim | skip
  cases rb <;> first | exact (show False from h).elim | skip
  rename_i a vs ds h1 n1 r1 a' vs' ds' h1' n1' r1'
  obtain ⟨hz, h⟩ := ROk.ifp h
  exact ⟨_, _, _, _, rfl, rfl, h1, h1', by rw [lim_eq, ← r1.length, ← r1'.length]; exact hz, fun p hp => h.new hp (.lst upd_same (wf.new hp) ((r1.append r1').ext (Ext.new _ hp)))⟩
theorem fit_addT : Fit2 Γ E (rCatA Γ.K) addT := by
  intro av H da db va vb Q wf ra rb h
  cases ra <;> first | exact (show False from h).elim | skip
  cases rb <;> first | exact (show False from h).elim | skip
  rename_i a vs ds h1 r1 a' vs' ds' h1' r1'
  obtain ⟨hz, h⟩ := ROk.ifp h
  refine ⟨_, _, _, _, rfl, rfl, SqT.of h1, SqT.of h1', by rw [lim_eq, ← r1.length, ← r1'.length]; exact hz, fun e => ?_, fun _ e => ?_, fun _ _ p hp => h.new hp (.tup upd_same ((r1.append r1').ext (Ext.new _ hp)))⟩
  · subst e
    cases r1
    exact h.here (.tup h1' r1')
  · subst e
    cases r1'
    rw [List.append_nil] at h
    exact h.here (.tup h1 r1)
theorem te_add (ha : PE X a (eT Γ E fa)) (hb : PE X b (eT Γ E fb)) (hK : X.K = Γ.K := by rfl) : PE X (.BinOp a .Add b pos) (eT Γ E (bin D.add fa fb)) := by
  refine te_op (((op_add.or op_add_str).or op_cat).or op_catA) ?_ ha hb
  rw [hK]
  refine Fit2.or (f := fun a b => match a with | .tup _ => .no | _ => D.add a b) (Fit2.or (f := fun a b => match a with | .tup _ => .no | .lst _ => .no | _ => D.add a b) (Fit2.or fit_addI fit_addS ?_) fit_addL ?_) fit_addT ?_
  · intro a b; cases a <;> first | exact .inl rfl | exact .inr rfl | (cases b <;> first | exact .inl rfl | exact .inr rfl)
  · intro a b; cases a <;> first | exact .inl rfl | exact .inr rfl | (cases b <;> first | exact .inl rfl | exact .inr rfl)
  · intro a b; cases a <;> first | exact .inl rfl | exact .inr rfl | (cases b <;> first | exact .inl rfl | exact .inr rfl)
theorem te_sub (ha : PE X a (eT Γ E fa)) (hb : PE X b (eT Γ E fb)) : PE X (.BinOp a .Sub b pos) (eT Γ E (bin D.sub fa fb)) :=
  te_op op_sub (fit_II0 (fun i j => ⟨_, rfl, fun _ _ _ => .int _⟩) (by walk_at "nn")) ha hb
def mulI : D → D → Res D
  | .int a, .int b => if a.natAbs.log2 + b.natAbs.log2 < 1000000 then .ok (.int (a * b)) else .no
  | _, _ => .no
def mulL : D → D → Res D
  | .lst a, .int b => if inM b ∧ a.length * b.toNat ≤ lim then .ok (.lst (List.replicate b.toNat a).flatten) else .no
  | _, _ => .no
def mulT : D → D → Res D
  | .tup a, .int b => if a ≠ [] ∧ 2 ≤ b ∧ b ≤ 1000 ∧ a.length ≤ 1000 then .ok (.tup (List.replicate b.toNat a).flatten) else .no
  | _, _ => .no
theorem fit_mulI : Fit2 Γ E (rI CMulW fun i j => .int (i * j)) mulI := fit_II (fun i j => by
  by_cases h : i.natAbs.log2 + j.natAbs.log2 < 1000000
  · exact .inr ⟨h, _, if_pos h, fun _ _ _ => .int _⟩
  · exact .inl (if_neg h)) (by walk_at "nn")
theorem fit_mulL : Fit2 Γ E rRep mulL := by
  intro av H da db va vb Q wf ra rb h
  cases ra <;> first | exact (show False from h).elim | skip
  cases rb <;> first | exact (show False from h).elim | skip
  rename_i a vs ds h1 n1 r1 i
  obtain ⟨hz, h⟩ := ROk.ifp h
  exact ⟨_, _, _, rfl, rfl, h1, hz.1.1, hz.1.2, by rw [lim_eq, ← r1.length]; exact hz.2, fun p hp => h.new hp (.lst upd_same (wf.new hp) ((r1.reps _).ext (Ext.new _ hp)))⟩
theorem fit_mulT : Fit2 Γ E (rRepT Γ.K) mulT := by
  intro av H da db va vb Q wf ra rb h
  cases ra <;> first | exact (show False from h).elim | skip
  cases rb <;> first | exact (show False from h).elim | skip
  rename_i a vs ds h1 r1 i
  obtain ⟨hz, h⟩ := ROk.ifp h
  refine ⟨_, _, _, rfl, rfl, SqT.of h1, fun e => ?_, hz.2.1, hz.2.2.1, by rw [← r1.length]; exact hz.2.2.2, fun p hp => h.new hp (.tup upd_same ((r1.reps _).ext (Ext.new _ hp)))⟩
  subst e
  cases r1
  exact hz.1 rfl
theorem te_mul (ha : PE X a (eT Γ E fa)) (hb : PE X b (eT Γ E fb)) (hK : X.K = Γ.K := by rfl) : PE X (.BinOp a .Mult b pos) (eT Γ E (bin D.mul fa fb)) := by
  refine te_op ((op_mulW.or op_rep).or op_repT) ?_ ha hb
  rw [hK]
  refine Fit2.or (f := fun a b => match a with | .tup _ => .no | _ => D.mul a b) (Fit2.or fit_mulI fit_mulL ?_) fit_mulT ?_
  · intro a b; cases a <;> first | exact .inl rfl | exact .inr rfl | (cases b <;> first | exact .inl rfl | exact .inr rfl)
  · intro a b; cases a <;> first | exact .inl rfl | exact .inr rfl | (cases b <;> first | exact .inl rfl | exact .inr rfl)
theorem te_fdiv (ha : PE X a (eT Γ E fa)) (hb : PE X b (eT Γ E fb)) : PE X (.BinOp a .FloorDiv b pos) (eT Γ E (bin D.fdiv fa fb)) :=
  te_op op_fdivW (fit_II (fun i j => by
    by_cases h : 0 < j ∧ j.natAbs.log2 < 9000
    · exact .inr ⟨h, _, if_pos h, fun _ _ _ => .int _⟩
    · exact .inl (if_neg h)) (by walk_at "nn")) ha hb
theorem te_mod (ha : PE X a (eT Γ E fa)) (hb : PE X b (eT Γ E fb)) : PE X (.BinOp a .Mod b pos) (eT Γ E (bin D.mod fa fb)) :=
  te_op op_mod (fit_II (fun i j => by
    by_cases h : 0 < j
    · exact .inr ⟨h, _, if_pos h, fun _ _ _ => .int _⟩
    · exact .inl (if_neg h)) (by walk_at "nn")) ha hb
theorem te_pow (ha : PE X a (eT Γ E fa)) (hb : PE X b (eT Γ E fb)) : PE X (.BinOp a .Pow b pos) (eT Γ E (bin D.pow fa fb)) :=
  te_op op_pow (fit_II (fun i j => by
    by_cases h : 0 ≤ j ∧ j ≤ 1000000 ∧ i.natAbs < 2 ^ 64
    · exact .inr ⟨h, _, if_pos h, fun _ _ _ => .int _⟩
    · exact .inl (if_neg h)) (by walk_at "nn")) ha hb

/-! comparisons -/
theorem fit_lt : Fit2 Γ E (rI0 fun i j => .bl (decide (i < j))) D.lt := fit_II0 (fun i j => ⟨_, rfl, fun _ _ _ => .bl _⟩) (by walk_at "nn")
theorem fit_le : Fit2 Γ E (rI0 fun i j => .bl (decide (i ≤ j))) D.le := fit_II0 (fun i j => ⟨_, rfl, fun _ _ _ => .bl _⟩) (by walk_at "nn")
theorem fit_gt : Fit2 Γ E (rI0 fun i j => .bl (decide (j < i))) D.gt := fit_II0 (fun i j => ⟨_, rfl, fun _ _ _ => .bl _⟩) (by walk_at "nn")
theorem fit_ge : Fit2 Γ E (rI0 fun i j => .bl (decide (j ≤ i))) D.ge := fit_II0 (fun i j => ⟨_, rfl, fun _ _ _ => .bl _⟩) (by walk_at "nn")
mutual
theorem Rp.dp {K : PySem.W.Frag} {r : Kr} {av : Addr → Prop} {H : Hp} : ∀ {d : D} {v : V} {p : PyData}, Rp r av H d v → d.toPy = some p → Dp K H v p
  | _, _, _, .non, e => by cases e; exact .non
  | _, _, _, .bl b, e => by cases e; exact .bl b
  | _, _, _, .int i, e => by cases e; exact .int i
  | _, _, _, .str x, e => by cases e; exact .str x
  | _, _, _, .tup (ds := ds) h r, e => by
    rw [D.toPy] at e
    cases q : D.toPyL ds with
    | none => rw [q] at e; cases e
    | some ps => rw [q] at e; cases e; exact .tup (SqT.of h) (RpL.dp r q)
  | _, _, _, .lst (ds := ds) h n r, e => by
    rw [D.toPy] at e
    cases q : D.toPyL ds with
    | none => rw [q] at e; cases e
    | some ps => rw [q] at e; cases e; exact .lst (SqL.of h) (RpL.dp r q)
  | _, _, _, .dK _ _ _, e => by cases e
  | _, _, _, .dT _ _ _, e => by cases e
  | _, _, _, .rng _ _ _, e => by cases e
  | _, _, _, .arr _ _ _, e => by cases e
  | _, _, _, .row _, e => by cases e
  | _, _, _, .op _, e => by cases e
theorem RpL.dp {K : PySem.W.Frag} {r : Kr} {av : Addr → Prop} {H : Hp} : ∀ {ds : List D} {vs : List V} {ps : List PyData}, RpL r av H ds vs → D.toPyL ds = some ps → DpAll K H vs ps
  | _, _, _, .nil, e => by cases e; exact .nil
  | _, _, _, .cons (d := d) (ds := ds) h r, e => by
    rw [D.toPyL] at e
    cases q1 : d.toPy with
    | none => rw [q1] at e; cases e
    | some p =>
      cases q2 : D.toPyL ds with
      | none => rw [q1, q2] at e; cases e
      | some ps => rw [q1, q2] at e; cases e; exact .cons (Rp.dp h q1) (RpL.dp r q2)
end
theorem eqB_out {a b : D} {k : Bool} (h : D.eqB a b = .ok k) : ∃ p q, a.toPy = some p ∧ b.toPy = some q ∧ SeqAt.shaped p = true ∧ SeqAt.shaped q = true ∧ k = PyData.eqv p q := by
  unfold D.eqB at h
  split at h
  · rename_i p q e1 e2
    split at h
    · rename_i hs
      cases h
      exact ⟨p, q, e1, e2, hs.1, hs.2, rfl⟩
    · cases h
  · cases h
theorem eqB_noex {a b : D} {c : Str} {f : Option (Str × V)} : D.eqB a b ≠ .ex c f := by
  unfold D.eqB
  intro h
  split at h
  · split at h <;> cases h
  · cases h
theorem eqB_nodr {a b : D} {n : Int} {k : Int → Res Bool} : D.eqB a b ≠ .dr n k := by
  unfold D.eqB
  intro h
  split at h
  · split at h <;> cases h
  · cases h
theorem fit_eq : Fit2 Γ E (rEqD Γ.K) D.eq := by
  intro av H da db va vb Q wf ra rb h
  unfold D.eq at h
  cases e : D.eqB da db with
  | ok k =>
    rw [e] at h
    obtain ⟨p, q, e1, e2, s1, s2, rfl⟩ := eqB_out e
    exact ⟨p, q, ra.dp e1, rb.dp e2, s1, s2, h.here (.bl _)⟩
  | ex c f => exact absurd e eqB_noex
  | dr n k => exact absurd e eqB_nodr
  | no => rw [e] at h; exact h.elim
theorem fit_ne : Fit2 Γ E (rNeD Γ.K) D.ne := by
  intro av H da db va vb Q wf ra rb h
  unfold D.ne at h
  cases e : D.eqB da db with
  | ok k =>
    rw [e] at h
    obtain ⟨p, q, e1, e2, s1, s2, rfl⟩ := eqB_out e
    exact ⟨p, q, ra.dp e1, rb.dp e2, s1, s2, h.here (.bl _)⟩
  | ex c f => exact absurd e eqB_noex
  | dr n k => exact absurd e eqB_nodr
  | no => rw [e] at h; exact h.elim
theorem te_lt (ha : PE X a (eT Γ E fa)) (hb : PE X b (eT Γ E fb)) : PE X (.Compare a [.Lt] [b] pos) (eT Γ E (bin D.lt fa fb)) := te_cmpR op_lt fit_lt ha hb (nomark _)
theorem te_le (ha : PE X a (eT Γ E fa)) (hb : PE X b (eT Γ E fb)) : PE X (.Compare a [.LtE] [b] pos) (eT Γ E (bin D.le fa fb)) := te_cmpR op_le fit_le ha hb (nomark _)
theorem te_gt (ha : PE X a (eT Γ E fa)) (hb : PE X b (eT Γ E fb)) : PE X (.Compare a [.Gt] [b] pos) (eT Γ E (bin D.gt fa fb)) := te_cmpR op_gt fit_gt ha hb (nomark _)
theorem te_ge (ha : PE X a (eT Γ E fa)) (hb : PE X b (eT Γ E fb)) : PE X (.Compare a [.GtE] [b] pos) (eT Γ E (bin D.ge fa fb)) := te_cmpR op_ge fit_ge ha hb (nomark _)
theorem te_eq (hr : Room k X.A) (ha : PE X a (eT Γ E fa)) (hb : PE X b (eT Γ E fb)) (hK : X.K = Γ.K := by rfl) : PE X (.Compare a [.Eq] [b] pos) (eT Γ E (bin D.eq fa fb)) := te_cmpR (op_eqD hr.units) (hK ▸ fit_eq) ha hb (nomark _)
theorem te_ne (hr : Room k X.A) (ha : PE X a (eT Γ E fa)) (hb : PE X b (eT Γ E fb)) (hK : X.K = Γ.K := by rfl) : PE X (.Compare a [.NotEq] [b] pos) (eT Γ E (bin D.ne fa fb)) := te_cmpR (op_neD hr.units) (hK ▸ fit_ne) ha hb (nomark _)
theorem tb_lt (ha : PE X a (eT Γ E fa)) (hb : PE X b (eT Γ E fb)) : PT X (.Compare a [.Lt] [b] pos) (bT Γ E (asTest (bin D.lt fa fb))) := tb_cmpR op_lt fit_lt ha hb (nomark _)
theorem tb_le (ha : PE X a (eT Γ E fa)) (hb : PE X b (eT Γ E fb)) : PT X (.Compare a [.LtE] [b] pos) (bT Γ E (asTest (bin D.le fa fb))) := tb_cmpR op_le fit_le ha hb (nomark _)
theorem tb_gt (ha : PE X a (eT Γ E fa)) (hb : PE X b (eT Γ E fb)) : PT X (.Compare a [.Gt] [b] pos) (bT Γ E (asTest (bin D.gt fa fb))) := tb_cmpR op_gt fit_gt ha hb (nomark _)
theorem tb_ge (ha : PE X a (eT Γ E fa)) (hb : PE X b (eT Γ E fb)) : PT X (.Compare a [.GtE] [b] pos) (bT Γ E (asTest (bin D.ge fa fb))) := tb_cmpR op_ge fit_ge ha hb (nomark _)
theorem tb_eq (hr : Room k X.A) (ha : PE X a (eT Γ E fa)) (hb : PE X b (eT Γ E fb)) (hK : X.K = Γ.K := by rfl) : PT X (.Compare a [.Eq] [b] pos) (bT Γ E (asTest (bin D.eq fa fb))) := tb_cmpR (op_eqD hr.units) (hK ▸ fit_eq) ha hb (nomark _)
theorem tb_ne (hr : Room k X.A) (ha : PE X a (eT Γ E fa)) (hb : PE X b (eT Γ E fb)) (hK : X.K = Γ.K := by rfl) : PT X (.Compare a [.NotEq] [b] pos) (bT Γ E (asTest (bin D.ne fa fb))) := tb_cmpR (op_neD hr.units) (hK ▸ fit_ne) ha hb (nomark _)
end
end Fw
end
set_option Elab.async false
set_option linter.all false
set_option autoImplicit false
set_option maxRecDepth 100000
set_option maxHeartbeats 4000000
/-! Fw3: tests, displays, subscripts, calls. -/
noncomputable section
namespace Fw
open PySem PySem.Spec PyProof.Rows L2

section
variable {X : Cx} {Γ : Gm} {E : XK} {x : Str} {a b c o : Expr} {es rest : List Expr} {pos p p2 : Pos} {fa fb fc : Env → Res D} {ta tb : Env → Res Bool} {fs : Env → Res (List D)} {k : Nat}

/-! ### tests -/
def andB (f g : Env → Res Bool) : Env → Res Bool := fun ρ => (f ρ).bind fun k => if k then g ρ else .ok false
def orB (f g : Env → Res Bool) : Env → Res Bool := fun ρ => (f ρ).bind fun k => if k then .ok true else g ρ
def notB (f : Env → Res Bool) : Env → Res Bool := fun ρ => (f ρ).bind fun k => .ok !k
def testD (f : Env → Res Bool) : Env → Res D := fun ρ => (f ρ).bind fun k => .ok (.bl k)
def truthOf (f : Env → Res D) : Env → Res Bool := fun ρ => (f ρ).bind D.truth
theorem bok {av : Addr → Prop} {H : Hp} {k : Bool} {Q : Bool → Hp → Prop} (h : ROk Γ av H (fun _ (d v : Bool) => d = v) (.ok k) Q E) : Q k H := h k H (Ext.refl Γ H) rfl
theorem tb_not (h : PT X a (bT Γ E ta)) : PT X (.UnaryOp .Not a pos) (bT Γ E (notB ta)) :=
  PT.imp (pt_not h) fun σ H Q ⟨av, ρ, env, h⟩ => bT_bind env h fun d H1 x1 env1 h1 => bok h1
theorem wb_and1 (h : PT X a (bT Γ E ta)) : PW X (.BoolOp .And [a] pos) (bT Γ E ta) := pw_and1 h
theorem wb_or1 (h : PT X a (bT Γ E ta)) : PW X (.BoolOp .Or [a] pos) (bT Γ E ta) := pw_or1 h
theorem wb_and (h : PT X a (bT Γ E ta)) (h' : PW X (.BoolOp .And (b :: rest) pos) (bT Γ E tb)) : PW X (.BoolOp .And (a :: b :: rest) pos) (bT Γ E (andB ta tb)) :=
  PW.imp (pw_and h h') fun σ H Q ⟨av, ρ, env, h⟩ => bT_bind env h fun d H1 x1 env1 h1 => by
    cases d with
    | true => exact iteT ⟨av, ρ, env1, h1⟩
    | false => exact iteF (bok h1)
theorem wb_or (h : PT X a (bT Γ E ta)) (h' : PW X (.BoolOp .Or (b :: rest) pos) (bT Γ E tb)) : PW X (.BoolOp .Or (a :: b :: rest) pos) (bT Γ E (orB ta tb)) :=
  PW.imp (pw_or h h') fun σ H Q ⟨av, ρ, env, h⟩ => bT_bind env h fun d H1 x1 env1 h1 => by
    cases d with
    | true => exact iteT (bok h1)
    | false => exact iteF ⟨av, ρ, env1, h1⟩
theorem tb_w (h : PW X a (bT Γ E ta)) : PT X a (bT Γ E ta) := h.pt
/-- any expression, by its truth -/
theorem truth_fit {av : Addr → Prop} {H : Hp} {d : D} {v : V} {Q : Bool → Hp → Prop} (r : Rp Γ.kr av H d v) (h : ROk Γ av H (fun _ d v => d = v) d.truth Q E) : ∃ c, TruV Γ.K v H c ∧ Q c H := by
  cases r with
  | non => exact ⟨false, rfl, bok h⟩
  | bl c => exact ⟨c, rfl, bok h⟩
  | int i => exact ⟨_, rfl, bok h⟩
  | str x =>
    obtain ⟨hz, h⟩ := ROk.ifp h
    exact ⟨_, ⟨by rw [lim_eq]; exact hz, rfl⟩, bok h⟩
  | @tup a vs ds h1 h2 =>
    refine ⟨!vs.isEmpty, .inr (.inl ⟨_, SqT.of h1, rfl⟩), ?_⟩
    have e : ds.isEmpty = vs.isEmpty := by cases h2 <;> rfl
    rw [← e]
    exact bok h
  | @lst a vs ds h1 n h2 =>
    refine ⟨!vs.isEmpty, .inl ⟨_, SqL.of h1, rfl⟩, ?_⟩
    have e : ds.isEmpty = vs.isEmpty := by cases h2 <;> rfl
    rw [← e]
    exact bok h
  | _ => exact (show False from h).elim
theorem tb_truth (h : PE X a (eT Γ E fa)) (he : ∀ whole, isTrue a X.env whole = (do let v ← whole; standAt a.pos; holding [v] (truthy v)) := by intro _; rfl) (hK : X.K = Γ.K := by rfl) : PT X a (bT Γ E (truthOf fa)) :=
  PT.imp (pt_truth h he) fun σ H Q ⟨av, ρ, env, h⟩ => eT_bind env h fun d v H1 x1 env1 r1 h1 => hK ▸ truth_fit r1 h1
/-! as values: all but the last True or False -/
def andD (f g : Env → Res D) : Env → Res D := fun ρ => (f ρ).bind fun d => d.asB.bind fun k => if k then g ρ else .ok (.bl false)
def orD (f g : Env → Res D) : Env → Res D := fun ρ => (f ρ).bind fun d => d.asB.bind fun k => if k then .ok (.bl true) else g ρ
def notD (f : Env → Res D) : Env → Res D := fun ρ => (f ρ).bind fun d => d.asB.bind fun k => .ok (.bl !k)
theorem asB_bind {β δ : Type} {av : Addr → Prop} {H : Hp} {d : D} {v : V} {k : Bool → Res β} {rel : Hp → β → δ → Prop} {Q : δ → Hp → Prop} (r : Rp Γ.kr av H d v) (h : ROk Γ av H rel (d.asB.bind k) Q E) : ∃ c, v = .bl c ∧ ROk Γ av H rel (k c) Q E := by
  cases r with
  | bl c => exact ⟨c, rfl, h⟩
  | _ => exact (show False from h).elim
theorem te_one {op : BoolOp} (h : PE X a (eT Γ E fa)) : PE X (.BoolOp op [a] pos) (eT Γ E fa) := pe_one h
theorem te_and (h : PE X a (eT Γ E fa)) (h' : PE X (.BoolOp .And (b :: rest) pos) (eT Γ E fb)) : PE X (.BoolOp .And (a :: b :: rest) pos) (eT Γ E (andD fa fb)) :=
  PE.imp (pe_and h h') fun σ H Q ⟨av, ρ, env, h⟩ => eT_bind env h fun d v H1 x1 env1 r1 h1 => by
    obtain ⟨c, e, h2⟩ := asB_bind r1 h1
    refine ⟨c, e, ?_⟩
    cases c with
    | true => exact iteT ⟨av, ρ, env1, h2⟩
    | false => exact iteF (ROk.here h2 (.bl _))
theorem te_or (h : PE X a (eT Γ E fa)) (h' : PE X (.BoolOp .Or (b :: rest) pos) (eT Γ E fb)) : PE X (.BoolOp .Or (a :: b :: rest) pos) (eT Γ E (orD fa fb)) :=
  PE.imp (pe_or h h') fun σ H Q ⟨av, ρ, env, h⟩ => eT_bind env h fun d v H1 x1 env1 r1 h1 => by
    obtain ⟨c, e, h2⟩ := asB_bind r1 h1
    refine ⟨c, e, ?_⟩
    cases c with
    | true => exact iteT (ROk.here h2 (.bl _))
    | false => exact iteF ⟨av, ρ, env1, h2⟩
theorem te_not (h : PE X a (eT Γ E fa)) : PE X (.UnaryOp .Not a pos) (eT Γ E (notD fa)) :=
  PE.imp (pe_not h) fun σ H Q ⟨av, ρ, env, h⟩ => eT_bind env h fun d v H1 x1 env1 r1 h1 => by
    obtain ⟨c, e, h2⟩ := asB_bind r1 h1
    exact ⟨c, e, ROk.here h2 (.bl _)⟩
def ifD (t : Env → Res Bool) (f g : Env → Res D) : Env → Res D := fun ρ => (t ρ).bind fun k => if k then f ρ else g ρ
theorem te_if (ht : PT X c (bT Γ E ta)) (ha : PE X a (eT Γ E fa)) (hb : PE X b (eT Γ E fb)) : PE X (.IfExp c a b pos) (eT Γ E (ifD ta fa fb)) :=
  PE.imp (pe_ifExp ht ha hb) fun σ H Q ⟨av, ρ, env, h⟩ => bT_bind env h fun d H1 x1 env1 h1 => by
    cases d with
    | true => exact iteT ⟨av, ρ, env1, h1⟩
    | false => exact iteF ⟨av, ρ, env1, h1⟩
/-! a < b < c -/
def chain (g g' : D → D → Res D) (fa fb fc : Env → Res D) : Env → Res D := fun ρ => (fa ρ).bind fun x => (fb ρ).bind fun y => (g x y).bind fun z => z.asB.bind fun k => if k then (fc ρ).bind fun w => g' y w else .ok (.bl false)
theorem chain_fit {r r' : R2} {g g' : D → D → Res D} (hf : Fit2 Γ E r g) (hf' : Fit2 Γ E r' g') (σ : St) (H : Hp) (Q : VK) (h : eT Γ E (chain g g' fa fb fc) σ H Q) : tChain r r' (eT Γ E fa) (eT Γ E fb) (eT Γ E fc) σ H Q := by
  obtain ⟨av, ρ, env, h⟩ := h
  refine eT_bind env h fun d v H1 x1 env1 r1 h1 => eT_bind env1 h1 fun e u H2 x2 env2 r2 h2 => ?_
  refine hf av H2 d e v u _ env2.wf (r1.ext x2) r2 (h2.bind fun z w H3 x3 r3 h3 => ?_)
  obtain ⟨c, ec, h3⟩ := asB_bind r3 h3
  refine ⟨c, ec, ?_⟩
  cases c with
  | true => exact iteT (eT_bind (env2.ext x3) h3 fun z w H4 x4 env4 r4 h4 => hf' av H4 e z u w Q env4.wf ((r2.ext x3).ext x4) r4 h4)
  | false => exact iteF (ROk.here h3 (.bl _))
theorem te_chain {op op' : CmpOp} {r r' : R2} {g g' : D → D → Res D} (ho : OpR X (compareOp op) r) (ho' : OpR X (compareOp op') r') (hf : Fit2 Γ E r g) (hf' : Fit2 Γ E r' g') (ha : PE X a (eT Γ E fa)) (hb : PE X b (eT Γ E fb)) (hc : PE X c (eT Γ E fc))
    (hm : lastMarks [op, op'] [b, c] = false := by rfl) : PE X (.Compare a [op, op'] [b, c] pos) (eT Γ E (chain g g' fa fb fc)) :=
  PE.imp (pe_chain ho ho' ha hb hc hm) (chain_fit hf hf')
theorem asTest_val (σ : St) (H : Hp) (Q : Bool → Hp → Prop) (h : bT Γ E (asTest fa) σ H Q) : eT Γ E fa σ H fun x H' => ∃ k, x = .bl k ∧ Q k H' := by
  obtain ⟨av, ρ, env, h⟩ := h
  exact eT_bind env h fun d v H1 x1 env1 r1 h1 => asB_fit r1 h1
theorem tb_chain {op op' : CmpOp} {r r' : R2} {g g' : D → D → Res D} (ho : OpR X (compareOp op) r) (ho' : OpR X (compareOp op') r') (hf : Fit2 Γ E r g) (hf' : Fit2 Γ E r' g') (ha : PE X a (eT Γ E fa)) (hb : PE X b (eT Γ E fb)) (hc : PE X c (eT Γ E fc))
    (hm : lastMarks [op, op'] [b, c] = false := by rfl) : PT X (.Compare a [op, op'] [b, c] pos) (bT Γ E (asTest (chain g g' fa fb fc))) :=
  PT.imp (pt_chain ho ho' ha hb hc hm) fun σ H Q h => chain_fit hf hf' σ H _ (asTest_val σ H Q h)
/-! x is y -/
theorem fit_isN : Fit2 Γ E (fun x y H Q => y = .non ∧ Q (.bl (decide (x = .non))) H) fun a b => match b with | .non => (match a with | .op _ => .no | _ => .ok (.bl a.isNon)) | _ => .no := by
  intro av H da db va vb Q wf ra rb h
  cases rb <;> first | exact (show False from h).elim | skip
  refine ⟨rfl, ?_⟩
  cases ra <;> first | exact (show False from h).elim | exact ROk.here h (.bl _)
theorem fit_notN : Fit2 Γ E (fun x y H Q => y = .non ∧ Q (.bl (!decide (x = .non))) H) fun a b => match b with | .non => (match a with | .op _ => .no | _ => .ok (.bl !a.isNon)) | _ => .no := by
  intro av H da db va vb Q wf ra rb h
  cases rb <;> first | exact (show False from h).elim | skip
  refine ⟨rfl, ?_⟩
  cases ra <;> first | exact (show False from h).elim | exact ROk.here h (.bl _)
def isN (fa : Env → Res D) : Env → Res D := fun ρ => (fa ρ).bind fun a => match a with | .op _ => .no | _ => .ok (.bl a.isNon)
def notN (fa : Env → Res D) : Env → Res D := fun ρ => (fa ρ).bind fun a => match a with | .op _ => .no | _ => .ok (.bl !a.isNon)
theorem te_isN {j : Nat} (ha : PE X a (eT Γ E fa)) : PE X (.Compare a [.Is] [.Constant .none j p2] pos) (eT Γ E (isN fa)) := by
  refine PE.imp (te_cmpR op_isN fit_isN ha te_non (nomark _)) fun σ H Q h => ?_
  exact h
theorem te_notN {j : Nat} (ha : PE X a (eT Γ E fa)) : PE X (.Compare a [.IsNot] [.Constant .none j p2] pos) (eT Γ E (notN fa)) := by
  refine PE.imp (te_cmpR op_notN fit_notN ha te_non (nomark _)) fun σ H Q h => ?_
  exact h
theorem tb_isN {j : Nat} (ha : PE X a (eT Γ E fa)) : PT X (.Compare a [.Is] [.Constant .none j p2] pos) (bT Γ E (asTest (isN fa))) := by
  refine PT.imp (tb_cmpR op_isN fit_isN ha te_non (nomark _)) fun σ H Q h => ?_
  exact h
theorem tb_notN {j : Nat} (ha : PE X a (eT Γ E fa)) : PT X (.Compare a [.IsNot] [.Constant .none j p2] pos) (bT Γ E (asTest (notN fa))) := by
  refine PT.imp (tb_cmpR op_notN fit_notN ha te_non (nomark _)) fun σ H Q h => ?_
  exact h

/-! ### argument lists, displays -/
def consA (f : Env → Res D) (g : Env → Res (List D)) : Env → Res (List D) := fun ρ => (f ρ).bind fun d => (g ρ).bind fun ds => .ok (d :: ds)
def nilA : Env → Res (List D) := fun _ => .ok []
theorem ta_nil : PA X [] (aT Γ E nilA) := PA.imp pa_nil fun σ H Q ⟨av, ρ, env, h⟩ => h _ _ (Ext.refl Γ H) .nil
theorem ta_cons (ha : PE X a (eT Γ E fa)) (hr : PA X es (aT Γ E fs)) (hs : starEach (a :: es) X.env = (false, eval a X.env) :: starEach es X.env := by rfl) : PA X (a :: es) (aT Γ E (consA fa fs)) :=
  PA.imp (pa_cons ha hr hs) fun σ H Q ⟨av, ρ, env, h⟩ => eT_bind env h fun d v H1 x1 env1 r1 h1 => aT_bind env1 h1 fun ds vs H2 x2 env2 r2 h2 => h2 _ _ (Ext.refl Γ H2) (.cons (r1.ext x2) r2)
def lenOk (n : Nat) (r : Res D) : Res D := if n ≤ lim then r else .no
def tupF (g : Env → Res (List D)) : Env → Res D := fun ρ => (g ρ).bind fun ds => if ds.length ≤ lim then .ok (.tup ds) else .no
def lstF (g : Env → Res (List D)) : Env → Res D := fun ρ => (g ρ).bind fun ds => if ds.length ≤ lim then .ok (.lst ds) else .no
theorem te_tup {x1 : Nat} (h : PA X es (aT Γ E fs)) : PE X (.Tuple es x1 pos) (eT Γ E (tupF fs)) :=
  PE.imp (pe_tup h) fun σ H Q ⟨av, ρ, env, h⟩ => aT_bind env h fun ds vs H1 x1 env1 r1 h1 => by
    obtain ⟨hz, h1⟩ := ROk.ifp h1
    exact ⟨by rw [lim_eq, ← r1.length]; exact hz, fun p hp => h1.new hp (.tup upd_same (r1.ext (Ext.new _ hp)))⟩
theorem te_lst (h : PA X es (aT Γ E fs)) : PE X (.List es pos) (eT Γ E (lstF fs)) :=
  PE.imp (pe_lst h) fun σ H Q ⟨av, ρ, env, h⟩ => aT_bind env h fun ds vs H1 x1 env1 r1 h1 => by
    obtain ⟨hz, h1⟩ := ROk.ifp h1
    exact ⟨by rw [lim_eq, ← r1.length]; exact hz, fun p hp => h1.new hp (.lst upd_same (env1.wf.new hp) (r1.ext (Ext.new _ hp)))⟩

/-! ### subscripts -/
theorem ixG_ok {α : Type} {l : List α} {i : Int} {d : α} (h : ixG l i = .ok d) : atI l i = some d := by
  unfold ixG at h
  cases e : atI l i with
  | none => rw [e] at h; cases h
  | some z => rw [e] at h; cases h; rfl
theorem ixG_cases {α : Type} (l : List α) (i : Int) : (∃ d, ixG l i = .ok d ∧ atI l i = some d) ∨ ixG l i = .no := by
  unfold ixG
  cases e : atI l i with
  | none => exact .inr rfl
  | some z => exact .inl ⟨z, rfl, rfl⟩
theorem RpL.atI {K : Kr} {av : Addr → Prop} {H : Hp} {ds : List D} {vs : List V} {i : Int} {d : D} (r : RpL K av H ds vs) (h : L2.atI ds i = some d) : ∃ v, L2.atI vs i = some v ∧ Rp K av H d v := by
  unfold L2.atI at h ⊢
  rw [r.length] at h
  cases e : ixN vs.length i with
  | none => rw [e] at h; cases h
  | some j =>
    rw [e] at h
    exact r.get (i := j) h
theorem atI_map {α β : Type} (f : α → β) (l : List α) (i : Int) : L2.atI (l.map f) i = (L2.atI l i).map f := by
  unfold L2.atI
  rw [List.length_map]
  cases ixN l.length i with
  | none => rfl
  | some j =>
    show (l.map f)[j]? = (l[j]?).map f
    rw [List.getElem?_map]
def rIxA (K : PySem.W.Frag) : R2 := fun x y H Q => (rIxL K x y H Q ∨ rIxT K x y H Q) ∨ rIxS x y H Q
theorem IxR.or {r r' : R2} (h : IxR X r) (h' : IxR X r') : IxR X (fun x y H Q => r x y H Q ∨ r' x y H Q) := by
  intro value slice pins s σ H x y v u Q I rx ry q hs
  rcases q with q | q
  · exact h value slice pins s σ H x y v u Q I rx ry q hs
  · exact h' value slice pins s σ H x y v u Q I rx ry q hs
theorem ix_any : IxR X (rIxA X.K) := IxR.or (IxR.or ix_list ix_tup) ix_str
theorem fit_ix : Fit2 Γ E (rIxA Γ.K) D.ix := by
  intro av H da db va vb Q wf ra rb h
  cases rb <;> first | (cases da <;> exact (show False from h).elim) | skip
  rename_i i
  cases ra with
  | @tup a vs ds h1 h2 =>
    rcases ixG_cases ds i with ⟨d, e, e'⟩ | e
    · obtain ⟨v, ev, rv⟩ := h2.atI e'
      have h : ROk Γ av H (fun H' d v => Rp Γ.kr av H' d v) (ixG ds i) Q E := h
      rw [e] at h
      exact .inl (.inr ⟨a, vs, i, v, rfl, rfl, SqT.of h1, ev, h.here rv⟩)
    · have h : ROk Γ av H (fun H' d v => Rp Γ.kr av H' d v) (ixG ds i) Q E := h
      rw [e] at h
      exact h.elim
  | @lst a vs ds h1 n h2 =>
    rcases ixG_cases ds i with ⟨d, e, e'⟩ | e
    · obtain ⟨v, ev, rv⟩ := h2.atI e'
      have h : ROk Γ av H (fun H' d v => Rp Γ.kr av H' d v) (ixG ds i) Q E := h
      rw [e] at h
      exact .inl (.inl ⟨a, vs, i, v, rfl, rfl, SqL.of h1, ev, h.here rv⟩)
    · have h : ROk Γ av H (fun H' d v => Rp Γ.kr av H' d v) (ixG ds i) Q E := h
      rw [e] at h
      exact h.elim
  | arr a ns h1 =>
    rcases ixG_cases ns i with ⟨d, e, e'⟩ | e
    · have h : ROk Γ av H (fun H' d v => Rp Γ.kr av H' d v) ((ixG ns i).bind fun n => .ok (.int n)) Q E := h
      rw [e] at h
      exact .inl (.inl ⟨a, _, i, .int d, rfl, rfl, h1.sq, by rw [atI_map, e']; rfl, h.here (.int _)⟩)
    · have h : ROk Γ av H (fun H' d v => Rp Γ.kr av H' d v) ((ixG ns i).bind fun n => .ok (.int n)) Q E := h
      rw [e] at h
      exact h.elim
  | str z =>
    obtain ⟨hz, h⟩ := ROk.ifp h
    rcases ixG_cases z.cps.toList i with ⟨d, e, e'⟩ | e
    · rw [e] at h
      exact .inr ⟨z, i, d, rfl, rfl, by rw [lim_eq]; exact hz, e', h.here (.str _)⟩
    · rw [e] at h
      exact h.elim
  | _ => exact (show False from h).elim
theorem te_ix (ha : PE X a (eT Γ E fa)) (hb : PE X b (eT Γ E fb)) (hs : PlainIx b := by exact fun _ _ => rfl) (hK : X.K = Γ.K := by rfl) : PE X (.Subscript a b pos) (eT Γ E (bin D.ix fa fb)) :=
  PE.imp (pe_ix ix_any ha hb hs) fun σ H Q h => tOp_fit (hK ▸ fit_ix) σ H Q h
/-! slices -/
def oT (Γ : Gm) (E : XK) (f : Env → Res (Option Int)) : TO := fun σ H Q => ∃ av ρ, EnvV Γ av H σ ρ ∧ ROk Γ av H (fun _ d v => d = v) (f ρ) Q E
def noPart : Env → Res (Option Int) := fun _ => .ok none
def part (f : Env → Res D) : Env → Res (Option Int) := fun ρ => (f ρ).bind fun d => d.asI.bind fun i => .ok (some i)
theorem to_none : PO X none (oT Γ E noPart) := ⟨fun pins s σ H Q I ⟨av, ρ, env, h⟩ => po_none.run pins s σ H Q I (h none H (Ext.refl Γ H) rfl)⟩
theorem asI_bind {β δ : Type} {av : Addr → Prop} {H : Hp} {d : D} {v : V} {k : Int → Res β} {rel : Hp → β → δ → Prop} {Q : δ → Hp → Prop} (r : Rp Γ.kr av H d v) (h : ROk Γ av H rel (d.asI.bind k) Q E) : ∃ c, v = .int c ∧ ROk Γ av H rel (k c) Q E := by
  cases r with
  | int c => exact ⟨c, rfl, h⟩
  | _ => exact (show False from h).elim
theorem to_some (h : PE X a (eT Γ E fa)) : PO X (some a) (oT Γ E (part fa)) := ⟨fun pins s σ H Q I ⟨av, ρ, env, hq⟩ => (po_some h).run pins s σ H Q I (eT_bind env hq fun d v H1 x1 env1 r1 h1 => by
  obtain ⟨c, e, h2⟩ := asI_bind r1 h1
  exact ⟨c, e, h2 _ _ (Ext.refl Γ H1) rfl⟩)⟩
theorem oT_bind {β : Type} {δ : Type} {av : Addr → Prop} {ρ : Env} {H : Hp} {σ : St} {rel : Hp → β → δ → Prop} {f : Env → Res (Option Int)} {kk : Option Int → Res β} {Q : δ → Hp → Prop} {R : Option Int → Hp → Prop} (env : EnvV Γ av H σ ρ) (h : ROk Γ av H rel ((f ρ).bind kk) Q E)
    (hk : ∀ d H1, Ext Γ H H1 → EnvV Γ av H1 σ ρ → ROk Γ av H1 rel (kk d) Q E → R d H1) : oT Γ E f σ H R := ⟨av, ρ, env, h.bind fun d v H1 x r q => by
  subst r
  exact hk d H1 x (env.ext x) q⟩
def slF (fa : Env → Res D) (l h : Env → Res (Option Int)) : Env → Res D := fun ρ => (fa ρ).bind fun d => (l ρ).bind fun i => (h ρ).bind fun j => d.slice i j
theorem RpL.cut {K : Kr} {av : Addr → Prop} {H : Hp} {ds : List D} {vs : List V} (r : RpL K av H ds vs) (lo hi : Option Int) : RpL K av H (cutG ds lo hi) (cutV vs lo hi) := by
  unfold cutG cutV
  rw [r.length]
  exact (r.drop _).take _
theorem cut_whole {xs : List V} {lo hi : Option Int} (h : HT.sIx xs.length 0 lo = 0 ∧ HT.sIx xs.length xs.length hi = xs.length) : cutV xs lo hi = xs := by
  unfold cutV
  rw [h.1, h.2]
  simp
theorem te_slice {lo hi : Option Expr} {fl fh : Env → Res (Option Int)} (ha : PE X a (eT Γ E fa)) (hl : PO X lo (oT Γ E fl)) (hh : PO X hi (oT Γ E fh)) (hK : X.K = Γ.K := by rfl) : PE X (.Subscript a (.Slice lo hi none p2) pos) (eT Γ E (slF fa fl fh)) := by
  refine PE.imp (pe_slice ((sl_tupA.or sl_list).or sl_str) ha hl hh) fun σ H Q ⟨av, ρ, env, h⟩ => ?_
  rw [hK]
  refine eT_bind env h fun d v H1 x1 env1 r1 h1 => oT_bind env1 h1 fun i H2 x2 env2 h2 => oT_bind env2 h2 fun j H3 x3 env3 h3 => ?_
  have r3 := (r1.ext x2).ext x3
  cases r3 with
  | @tup a vs ds g1 g2 =>
    refine .inl (.inl ⟨a, vs, rfl, SqT.of g1, fun e => h3.here (.tup g1 ?_), fun _ p hp => h3.new hp (.tup upd_same ((g2.cut i j).ext (Ext.new _ hp)))⟩)
    have q := g2.cut i j
    rw [cut_whole e] at q
    exact q
  | @lst a vs ds g1 n g2 =>
    exact .inl (.inr ⟨a, vs, rfl, SqL.of g1, fun p hp => h3.new hp (.lst upd_same (env3.wf.new hp) ((g2.cut i j).ext (Ext.new _ hp)))⟩)
  | str z =>
    obtain ⟨hz, h3⟩ := ROk.ifp h3
    exact .inr ⟨z, rfl, by rw [lim_eq]; exact hz, h3.here (.str _)⟩
  | _ => exact (show False from h3).elim

/-! ### calls of built-ins -/
def FitC (Γ : Gm) (E : XK) (r : List V → Hp → VK → Prop) (g : List D → Res D) : Prop := ∀ (av : Addr → Prop) (H : Hp) (ds : List D) (vs : List V) (Q : VK), Wf Γ av H → RpL Γ.kr av H ds vs →
  ROk Γ av H (fun H' d v => Rp Γ.kr av H' d v) (g ds) Q E → r vs H Q
def app (g : List D → Res D) (fs : Env → Res (List D)) : Env → Res D := fun ρ => (fs ρ).bind g
theorem tCB_fit {r : List V → Hp → VK → Prop} {g : List D → Res D} (hf : FitC Γ E r g) (σ : St) (H : Hp) (Q : VK) (h : eT Γ E (app g fs) σ H Q) : tCB r (aT Γ E fs) σ H Q := by
  obtain ⟨av, ρ, env, h⟩ := h
  exact aT_bind env h fun ds vs H1 x1 env1 r1 h1 => hf av H1 ds vs Q env1.wf r1 h1
theorem te_callB {id : String} {r : List V → Hp → VK → Prop} {g : List D → Res D} (hc : CallR X (.builtin id) r) (hf : FitC Γ E r g) (hv : bootBuiltins x = some (.builtin id)) (hm : X.mg x = none) (ha : PA X (a :: es) (aT Γ E fs)) (hg : Gl X x := by rfl)
    (hn : x ≠ "__name__" := by decide) (hdb : (x == ("__debug__" : Str)) = false := by decide) (he : starEach (a :: es) X.env = (false, eval a X.env) :: starEach es X.env := by rfl) (hpl : (backTo pos (starEach es X.env)).any (·.1) = false := by rfl) :
    PE X (.Call (.Name x p) (a :: es) [] pos) (eT Γ E (app g fs)) := PE.imp (pe_callB hc hg hm hv ha hn hdb he hpl) fun σ H Q h => tCB_fit hf σ H Q h
theorem te_callTy {T : String} {r : List V → Hp → VK → Prop} {g : List D → Res D} (hc : CallR X (.type T) r) (hf : FitC Γ E r g) (hv : bootBuiltins x = some (.type T)) (hm : X.mg x = none) (ha : PA X (a :: es) (aT Γ E fs)) (hg : Gl X x := by rfl)
    (hn : x ≠ "__name__" := by decide) (hdb : (x == ("__debug__" : Str)) = false := by decide) (he : starEach (a :: es) X.env = (false, eval a X.env) :: starEach es X.env := by rfl) (hpl : (backTo pos (starEach es X.env)).any (·.1) = false := by rfl) :
    PE X (.Call (.Name x p) (a :: es) [] pos) (eT Γ E (app g fs)) := PE.imp (pe_callTy hc hg hm hv ha hn hdb he hpl) fun σ H Q h => tCB_fit hf σ H Q h
def on1 (g : D → Res D) : List D → Res D
  | [a] => g a
  | _ => .no
def on2 (g : D → D → Res D) : List D → Res D
  | [a, b] => g a b
  | _ => .no
theorem fitC1 {r : V → Hp → VK → Prop} {g : D → Res D} (h : ∀ (av : Addr → Prop) (H : Hp) (d : D) (v : V) (Q : VK), Wf Γ av H → Rp Γ.kr av H d v → ROk Γ av H (fun H' d v => Rp Γ.kr av H' d v) (g d) Q E → r v H Q) : FitC Γ E (fun vs H Q => ∃ v, vs = [v] ∧ r v H Q) (on1 g) := by
  intro av H ds vs Q wf rr q
  cases rr with
  | nil => exact (show False from q).elim
  | cons h1 h2 =>
    cases h2 with
    | nil => exact ⟨_, rfl, h av H _ _ Q wf h1 q⟩
    | cons _ _ => exact (show False from q).elim
theorem FitC.imp {r r' : List V → Hp → VK → Prop} {g : List D → Res D} (h : FitC Γ E r g) (i : ∀ vs H Q, r vs H Q → r' vs H Q) : FitC Γ E r' g := fun av H ds vs Q wf rr q => i vs H Q (h av H ds vs Q wf rr q)
/-- len -/
theorem fit_len : FitC Γ E (fun xs H Q => ∃ x n, xs = [x] ∧ LenV Γ.K x H n ∧ Q (.int n) H) (on1 fun d => match d with | .dct _ => .no | d => d.len) := by
  refine (fitC1 (r := fun v H Q => ∃ n, LenV Γ.K v H n ∧ Q (.int n) H) fun av H d v Q wf r h => ?_).imp fun vs H Q ⟨v, e, n, h1, h2⟩ => ⟨v, n, e, h1, h2⟩
  cases r with
  | @tup a vs ds g1 g2 => exact ⟨vs.length, .inr ⟨_, SqT.of g1, rfl⟩, g2.length ▸ h.here (.int _)⟩
  | @lst a vs ds g1 n g2 => exact ⟨vs.length, .inl ⟨_, SqL.of g1, rfl⟩, g2.length ▸ h.here (.int _)⟩
  | arr a ns g1 => exact ⟨ns.length, .inl ⟨_, g1.sq, by simp⟩, h.here (.int _)⟩
  | str z =>
    obtain ⟨hz, h⟩ := ROk.ifp h
    exact ⟨_, ⟨by rw [lim_eq]; exact hz, rfl⟩, h.here (.int _)⟩
  | _ => exact (show False from h).elim
theorem te_len (hm : X.mg "len" = none) (ha : PE X a (eT Γ E fa)) (hg : Gl X "len" := by rfl) (he : starEach [a] X.env = (false, eval a X.env) :: starEach [] X.env := by rfl) (hK : X.K = Γ.K := by rfl) :
    PE X (.Call (.Name "len" p) [a] [] pos) (eT Γ E (app (on1 fun d => match d with | .dct _ => .no | d => d.len) (consA fa nilA))) := te_callB call_len (hK ▸ fit_len) boot_len hm (ta_cons ha ta_nil he) hg (he := he)
theorem fit_tuple : FitC Γ E (fun xs H Q => ∃ p ys, xs = [.ref p] ∧ ((SqL Γ.K H p ys ∧ ∀ l, H l = none → Q (.ref l) (upd H l (.tup ys))) ∨ (SqT Γ.K H p ys ∧ Q (.ref p) H))) (on1 D.toTup) := by
  refine (fitC1 (r := fun v H Q => ∃ p ys, v = .ref p ∧ ((SqL Γ.K H p ys ∧ ∀ l, H l = none → Q (.ref l) (upd H l (.tup ys))) ∨ (SqT Γ.K H p ys ∧ Q (.ref p) H))) fun av H d v Q wf r h => ?_).imp fun vs H Q ⟨v, e, p, ys, e', h⟩ => ⟨p, ys, by rw [e, e'], h⟩
  cases r with
  | @tup a vs ds g1 g2 => exact ⟨_, _, rfl, .inr ⟨SqT.of g1, h.here (.tup g1 g2)⟩⟩
  | @lst a vs ds g1 n g2 => exact ⟨_, _, rfl, .inl ⟨SqL.of g1, fun p hp => h.new hp (.tup upd_same (g2.ext (Ext.new _ hp)))⟩⟩
  | _ => exact (show False from h).elim
theorem te_tuple (hm : X.mg "tuple" = none) (ha : PE X a (eT Γ E fa)) (hg : Gl X "tuple" := by rfl) (he : starEach [a] X.env = (false, eval a X.env) :: starEach [] X.env := by rfl) (hK : X.K = Γ.K := by rfl) :
    PE X (.Call (.Name "tuple" p) [a] [] pos) (eT Γ E (app (on1 D.toTup) (consA fa nilA))) := te_callTy call_tuple_of (hK ▸ fit_tuple) boot_tuple hm (ta_cons ha ta_nil he) hg (he := he)
theorem fit_list : FitC Γ E (fun xs H Q => ∃ p ys, xs = [.ref p] ∧ (SqL Γ.K H p ys ∨ SqT Γ.K H p ys) ∧ ∀ l, H l = none → Q (.ref l) (upd H l (.lst ys))) (on1 D.toLst) := by
  refine (fitC1 (r := fun v H Q => ∃ p ys, v = .ref p ∧ (SqL Γ.K H p ys ∨ SqT Γ.K H p ys) ∧ ∀ l, H l = none → Q (.ref l) (upd H l (.lst ys))) fun av H d v Q wf r h => ?_).imp fun vs H Q ⟨v, e, p, ys, e', h⟩ => ⟨p, ys, by rw [e, e'], h⟩
  cases r with
  | @tup a vs ds g1 g2 => exact ⟨_, _, rfl, .inr (SqT.of g1), fun p hp => h.new hp (.lst upd_same (wf.new hp) (g2.ext (Ext.new _ hp)))⟩
  | @lst a vs ds g1 n g2 => exact ⟨_, _, rfl, .inl (SqL.of g1), fun p hp => h.new hp (.lst upd_same (wf.new hp) (g2.ext (Ext.new _ hp)))⟩
  | _ => exact (show False from h).elim
theorem te_list (hm : X.mg "list" = none) (ha : PE X a (eT Γ E fa)) (hg : Gl X "list" := by rfl) (he : starEach [a] X.env = (false, eval a X.env) :: starEach [] X.env := by rfl) (hK : X.K = Γ.K := by rfl) :
    PE X (.Call (.Name "list" p) [a] [] pos) (eT Γ E (app (on1 D.toLst) (consA fa nilA))) := te_callTy call_list_of (hK ▸ fit_list) boot_list hm (ta_cons ha ta_nil he) hg (he := he)
theorem fit_int : FitC Γ E (fun xs H Q => (∃ i, xs = [.int i] ∧ Q (.int i) H) ∨ ∃ k, xs = [.bl k] ∧ Q (.int (if k then 1 else 0)) H) (on1 D.toInt) := by
  refine (fitC1 (r := fun v H Q => (∃ i, v = .int i ∧ Q (.int i) H) ∨ ∃ k, v = .bl k ∧ Q (.int (if k then 1 else 0)) H) fun av H d v Q wf r h => ?_).imp fun vs H Q ⟨v, e, h⟩ => ?_
  · cases r with
    | int i => exact .inl ⟨_, rfl, h.here (.int _)⟩
    | bl i => exact .inr ⟨_, rfl, h.here (.int _)⟩
    | _ => exact (show False from h).elim
  · rcases h with ⟨i, e', h⟩ | ⟨i, e', h⟩
    · exact .inl ⟨i, by rw [e, e'], h⟩
    · exact .inr ⟨i, by rw [e, e'], h⟩
theorem te_toInt (hm : X.mg "int" = none) (ha : PE X a (eT Γ E fa)) (hg : Gl X "int" := by rfl) (he : starEach [a] X.env = (false, eval a X.env) :: starEach [] X.env := by rfl) :
    PE X (.Call (.Name "int" p) [a] [] pos) (eT Γ E (app (on1 D.toInt) (consA fa nilA))) := te_callTy call_int1 fit_int boot_int hm (ta_cons ha ta_nil he) hg (he := he)
theorem asInts_fit {av : Addr → Prop} {H : Hp} {d : D} {v : V} {β δ : Type} {kk : List Int → Res β} {rel : Hp → β → δ → Prop} {Q : δ → Hp → Prop} (r : Rp Γ.kr av H d v) (h : ROk Γ av H rel (d.asInts.bind kk) Q E) : ∃ p ns, v = .ref p ∧ SqL Γ.K H p (ns.map V.int) ∧ ROk Γ av H rel (kk ns) Q E := by
  cases r with
  | @lst a vs ds g1 n g2 =>
    unfold D.asInts at h
    cases e : intsOf ds with
    | none =>
      simp only [e] at h
      exact (show False from h).elim
    | some ns =>
      simp only [e] at h
      have e2 := intsOf_eq e
      subst e2
      rw [g2.ints] at g1
      exact ⟨a, ns, rfl, SqL.of g1, h⟩
  | _ => exact (show False from h).elim
theorem fit_sum : FitC Γ E (rSum Γ.K) (on1 D.sum) := by
  refine (fitC1 (r := fun v H Q => ∃ (a : Addr) (ns : List Int), v = V.ref a ∧ SqL Γ.K H a (ns.map V.int) ∧ Q (.int ns.sum) H) fun av H d v Q wf r h => ?_).imp fun vs H Q ⟨v, e, a, ns, e', h⟩ => ⟨a, ns, by rw [e, e'], h⟩
  obtain ⟨p, ns, e, h1, h2⟩ := asInts_fit r h
  exact ⟨p, ns, e, h1, h2.here (.int _)⟩
theorem te_sum (hm : X.mg "sum" = none) (hc : X.calm = true) (ha : PE X a (eT Γ E fa)) (hg : Gl X "sum" := by rfl) (he : starEach [a] X.env = (false, eval a X.env) :: starEach [] X.env := by rfl) (hK : X.K = Γ.K := by rfl) (hv : bootBuiltins "sum" = some (.builtin "sum") := by decide +kernel) :
    PE X (.Call (.Name "sum" p) [a] [] pos) (eT Γ E (app (on1 D.sum) (consA fa nilA))) := te_callB (cr_sum hc) (hK ▸ fit_sum) hv hm (ta_cons ha ta_nil he) hg (he := he)
theorem foldl_max_mem : ∀ (l : List Int) (n : Int), l.foldl max n ∈ n :: l
  | [], n => by simp
  | m :: r, n => by
    rw [List.foldl_cons]
    have q := foldl_max_mem r (max n m)
    rcases List.mem_cons.mp q with e | e
    · rw [e]
      by_cases hh : n ≤ m
      · rw [Int.max_eq_right hh]; simp
      · rw [Int.max_eq_left (by omega)]; simp
    · exact List.mem_cons_of_mem _ (List.mem_cons_of_mem _ e)
theorem foldl_max_le : ∀ (l : List Int) (n : Int), n ≤ l.foldl max n ∧ ∀ y ∈ l, y ≤ l.foldl max n
  | [], n => by simp
  | m :: r, n => by
    rw [List.foldl_cons]
    have q := foldl_max_le r (max n m)
    have h1 : n ≤ max n m := Int.le_max_left _ _
    have h2 : m ≤ max n m := Int.le_max_right _ _
    refine ⟨by omega, fun y hy => ?_⟩
    rcases List.mem_cons.mp hy with e | e
    · subst e; omega
    · exact q.2 y e
theorem maxL_spec {ns : List Int} {m m' : Int} (h : maxL ns = some m) (h1 : m' ∈ ns) (h2 : ∀ y ∈ ns, y ≤ m') : m' = m := by
  cases ns with
  | nil => cases h
  | cons n r =>
    have e : r.foldl max n = m := Option.some.inj h
    have a1 := foldl_max_mem r n
    have a2 := foldl_max_le r n
    rw [e] at a1 a2
    have b1 := h2 m a1
    rcases List.mem_cons.mp h1 with z | z
    · subst z; omega
    · have := a2.2 m' z
      omega
theorem fit_max1 : FitC Γ E (rMax Γ.K) (on1 D.max1) := by
  refine (fitC1 (r := fun v H Q => ∃ (a : Addr) (ns : List Int), v = V.ref a ∧ SqL Γ.K H a (ns.map V.int) ∧ 0 < ns.length ∧ ∀ m, m ∈ ns → (∀ y, y ∈ ns → y ≤ m) → Q (.int m) H) fun av H d v Q wf r h => ?_).imp fun vs H Q ⟨v, e, a, ns, e', h⟩ => ⟨a, ns, by rw [e, e'], h⟩
  obtain ⟨p, ns, e, h1, h2⟩ := asInts_fit r h
  cases em : maxL ns with
  | none => simp only [em] at h2; exact (show False from h2).elim
  | some m =>
    simp only [em] at h2
    refine ⟨p, ns, e, h1, ?_, fun m' a b => ?_⟩
    · cases ns with
      | nil => cases em
      | cons _ _ => simp
    · rw [maxL_spec em a b]
      exact h2.here (.int _)
theorem te_max1 (hm : X.mg "max" = none) (hc : X.calm = true) (ha : PE X a (eT Γ E fa)) (hg : Gl X "max" := by rfl) (he : starEach [a] X.env = (false, eval a X.env) :: starEach [] X.env := by rfl) (hK : X.K = Γ.K := by rfl) (hv : bootBuiltins "max" = some (.builtin "max") := by decide +kernel) :
    PE X (.Call (.Name "max" p) [a] [] pos) (eT Γ E (app (on1 D.max1) (consA fa nilA))) := te_callB (cr_max hc) (hK ▸ fit_max1) hv hm (ta_cons ha ta_nil he) hg (he := he)
theorem fitC2II {g : Int → Int → Int} {f : D → D → Res D} (hf : ∀ i j, f (.int i) (.int j) = .ok (.int (g i j))) (hn : ∀ a b, (∀ i j, ¬ (a = .int i ∧ b = .int j)) → f a b = .no) : FitC Γ E (fun xs H Q => ∃ i j, xs = [.int i, .int j] ∧ Q (.int (g i j)) H) (on2 f) := by
  intro av H ds vs Q wf rr q
  cases rr with
  | nil => exact (show False from q).elim
  | cons h1 h2 =>
    cases h2 with
    | nil => exact (show False from q).elim
    | cons h2 h3 =>
      cases h3 with
      | cons _ _ => exact (show False from q).elim
      | nil =>
        rename_i d1 v1 d2 v2
        have q : ROk Γ av H (fun H' d v => Rp Γ.kr av H' d v) (f d1 d2) Q E := q
        by_cases hh : ∃ i j, d1 = .int i ∧ d2 = .int j
        · obtain ⟨i, j, rfl, rfl⟩ := hh
          cases h1
          cases h2
          rw [hf] at q
          exact ⟨i, j, rfl, q.here (.int _)⟩
        · rw [hn d1 d2 fun i j z => hh ⟨i, j, z⟩] at q
          exact q.elim
local macro_rules | `(tactic| walk_at "nn") => `(tactic| (intro a b h; cases a <;> first | rfl | (cases b <;> first | rfl | exact absurd ⟨rfl, rfl⟩ (h _ _))))
theorem te_max2 (hm : X.mg "max" = none) (hc : X.calm = true) (ha : PE X a (eT Γ E fa)) (hb : PE X b (eT Γ E fb)) (hg : Gl X "max" := by rfl) (he : starEach [a, b] X.env = (false, eval a X.env) :: starEach [b] X.env := by rfl) (he2 : starEach [b] X.env = (false, eval b X.env) :: starEach [] X.env := by rfl) (hv : bootBuiltins "max" = some (.builtin "max") := by decide +kernel)
    (hpl : (backTo pos (starEach [b] X.env)).any (·.1) = false := by rfl) : PE X (.Call (.Name "max" p) [a, b] [] pos) (eT Γ E (app (on2 D.max2) (consA fa (consA fb nilA)))) := te_callB (call_max2 hc) (fitC2II (fun _ _ => rfl) (by walk_at "nn")) hv hm (ta_cons ha (ta_cons hb ta_nil he2) he) hg (by decide) (by decide) he hpl
theorem te_min2 (hm : X.mg "min" = none) (hc : X.calm = true) (ha : PE X a (eT Γ E fa)) (hb : PE X b (eT Γ E fb)) (hg : Gl X "min" := by rfl) (he : starEach [a, b] X.env = (false, eval a X.env) :: starEach [b] X.env := by rfl) (he2 : starEach [b] X.env = (false, eval b X.env) :: starEach [] X.env := by rfl) (hv : bootBuiltins "min" = some (.builtin "min") := by decide +kernel)
    (hpl : (backTo pos (starEach [b] X.env)).any (·.1) = false := by rfl) : PE X (.Call (.Name "min" p) [a, b] [] pos) (eT Γ E (app (on2 D.min2) (consA fa (consA fb nilA)))) := te_callB (call_min2 hc) (fitC2II (fun _ _ => rfl) (by walk_at "nn")) hv hm (ta_cons ha (ta_cons hb ta_nil he2) he) hg (by decide) (by decide) he hpl
/-! isinstance -/
theorem Rp.ty {K : PySem.W.Frag} {r : Kr} {av : Addr → Prop} {H : Hp} {d : D} {v : V} {t : Ty} (r : Rp r av H d v) (e : d.ty = some t) : TyX K H v (.type t.name) := by
  cases r with
  | non => cases e; exact .base .non
  | bl b => cases e; exact .base (.bl b)
  | int i => cases e; exact .base (.int i)
  | str x => cases e; exact .base (.str x)
  | tup h _ =>
    cases e
    exact .base (.tup h)
  | lst h _ _ => cases e; exact .base (.lst h)
  | dK h _ _ => cases e; exact .base (.dK h)
  | dT h _ _ => cases e; exact .base (.dT h)
  | rng _ _ _ => cases e
  | arr _ _ h => cases e
  | row _ => cases e
  | op _ => cases e
def isiF (fa : Env → Res D) (T : Ty) : Env → Res D := fun ρ => (fa ρ).bind fun d => d.isi T
theorem te_isi {T : Ty} {y : Str} {py : Pos} (hm : X.mg "isinstance" = none) (hy : X.mg y = none) (hb : bootBuiltins y = some (.type T.name)) (hT : T ≠ .non) (ha : PE X a (eT Γ E fa)) (hg : Gl X "isinstance" := by rfl) (hgy : Gl X y := by rfl) (hn : y ≠ "__name__" := by decide) (hd : (y == ("__debug__" : Str)) = false := by decide)
    (he : starEach [a, .Name y py] X.env = (false, eval a X.env) :: starEach [.Name y py] X.env := by rfl) (he2 : starEach [.Name y py] X.env = (false, eval (.Name y py) X.env) :: starEach [] X.env := by rfl) (hpl : (backTo pos (starEach [.Name y py] X.env)).any (·.1) = false := by rfl) (hK : X.K = Γ.K := by rfl) :
    PE X (.Call (.Name "isinstance" p) [a, .Name y py] [] pos) (eT Γ E (isiF fa T)) := by
  refine PE.imp (pe_callB call_isi hg hm boot_isinstance (pa_cons ha (pa_cons (pe_bltn hgy hy hb (v := .ty T.name) rfl hn hd) pa_nil he2) he) (by decide) (by decide) he hpl) fun σ H Q ⟨av, ρ, env, h⟩ => ?_
  rw [hK]
  refine eT_bind env h fun d v H1 x1 env1 r1 h1 => ?_
  unfold D.isi at h1
  cases e : d.ty with
  | none => simp only [e] at h1; exact (show False from h1).elim
  | some t =>
    simp only [e] at h1
    exact ⟨v, .ty T.name, .type t.name, .type T.name, _, rfl, .ty _, r1.ty e, isiB_kit t T hT, h1.here (.bl _)⟩
def isi2F (fa : Env → Res D) (T U : Ty) : Env → Res D := fun ρ => (fa ρ).bind fun d => d.isiAny [T, U]
theorem te_isi2 {T U : Ty} {y z : Str} {py pz pt : Pos} {kt : Nat} (hm : X.mg "isinstance" = none) (hy : X.mg y = none) (hz : X.mg z = none) (hb : bootBuiltins y = some (.type T.name)) (hbz : bootBuiltins z = some (.type U.name)) (hT : T ≠ .non) (hU : U ≠ .non) (ha : PE X a (eT Γ E fa)) (hg : Gl X "isinstance" := by rfl) (hgy : Gl X y := by rfl) (hgz : Gl X z := by rfl)
    (hn : y ≠ "__name__" := by decide) (hd : (y == ("__debug__" : Str)) = false := by decide) (hnz : z ≠ "__name__" := by decide) (hdz : (z == ("__debug__" : Str)) = false := by decide)
    (he : starEach [a, .Tuple [.Name y py, .Name z pz] kt pt] X.env = (false, eval a X.env) :: starEach [.Tuple [.Name y py, .Name z pz] kt pt] X.env := by rfl) (he2 : starEach [.Tuple [.Name y py, .Name z pz] kt pt] X.env = (false, eval (.Tuple [.Name y py, .Name z pz] kt pt) X.env) :: starEach [] X.env := by rfl)
    (he3 : starEach [.Name y py, .Name z pz] X.env = (false, eval (.Name y py) X.env) :: starEach [.Name z pz] X.env := by rfl) (he4 : starEach [.Name z pz] X.env = (false, eval (.Name z pz) X.env) :: starEach [] X.env := by rfl)
    (hpl : (backTo pos (starEach [.Tuple [.Name y py, .Name z pz] kt pt] X.env)).any (·.1) = false := by rfl) (hK : X.K = Γ.K := by rfl) :
    PE X (.Call (.Name "isinstance" p) [a, .Tuple [.Name y py, .Name z pz] kt pt] [] pos) (eT Γ E (isi2F fa T U)) := by
  refine PE.imp (pe_callB call_isiT hg hm boot_isinstance (pa_cons ha (pa_cons (pe_tup (pa_cons (pe_bltn hgy hy hb (v := .ty T.name) rfl hn hd) (pa_cons (pe_bltn hgz hz hbz (v := .ty U.name) rfl hnz hdz) pa_nil he4) he3)) pa_nil he2) he) (by decide) (by decide) he hpl) fun σ H Q ⟨av, ρ, env, h⟩ => ?_
  rw [hK]
  refine eT_bind env h fun d v H1 x1 env1 r1 h1 => ?_
  unfold D.isiAny at h1
  cases e : d.ty with
  | none => simp only [e] at h1; exact (show False from h1).elim
  | some t =>
    simp only [e] at h1
    refine ⟨by rw [sizeLine_eq]; show (2 : Nat) ≤ 16777216; decide, fun tp htp => ⟨v, tp, [.ty T.name, .ty U.name], .type t.name, [.type T.name, .type U.name], _, rfl, upd_same, .cons (.ty _) (.cons (.ty _) .nil), (r1.ext (Ext.new _ htp)).ty e, ?_, h1 _ _ (Ext.new _ htp) (.bl _)⟩⟩
    have e2 : ([T, U].any fun T => isiB t T) = (isiB t T || isiB t U) := by simp
    rw [e2]
    refine kitAny_cons (isiB_kit t T hT) (fun q => ?_) (fun q => by rw [q]; rfl)
    rw [q, Bool.false_or]
    exact kitAny_cons (isiB_kit t U hU) (fun q => by rw [q]; rfl) (fun q => q)

/-! ### calls of the text's defs -/
/-- what a def answers, whatever row the law draws from -/
def spF (Γ : Gm) (n : Nat) (F : List D → Res D) : Sp := fun vs H Q E => ∃ r sc av ds, Wf (Γ.at r sc) av H ∧ RpL (Γ.at r sc).kr av H ds vs ∧ ds.length = n ∧ ROk (Γ.at r sc) av H (fun H' d v => Rp (Γ.at r sc).kr av H' d v) (F ds) Q E
def callF (n : Nat) (F : List D → Res D) : List D → Res D := fun ds => if ds.length = n then F ds else .no
theorem fit_call {Γ0 : Gm} {n : Nat} {F : List D → Res D} (hΓ : ∀ r sc, Γ.at r sc = Γ0.at r sc) : FitC Γ E (fun vs H Q => spF Γ0 n F (vs ++ []) H Q E) (callF n F) := by
  intro av H ds vs Q wf rr q
  obtain ⟨hz, q⟩ := ROk.ifp q
  rw [List.append_nil]
  have e : Γ0.at Γ.row Γ.scr = Γ := (hΓ Γ.row Γ.scr).symm
  refine ⟨Γ.row, Γ.scr, av, ds, ?_⟩
  rw [e]
  exact ⟨wf, rr, hz, q⟩
theorem te_call {Γ0 : Gm} {CX : CXT} {n j : Nat} {f : Addr} {fd : FuncData} {ps : List Str} {F : List D → Res D} (G : FnOk X.prog X.w X.K X.mg X.base CX j f fd ps (spF Γ0 n F)) (hr : Room j X.A) (hm : X.mg x = some (.ref f)) (hk : PySem.W.keepIn X.K (.ref f) = true) (hb : Binds X.K fd ps []) (hx : Passes CX X E)
    (ha : PA X (a :: es) (aT Γ E fs)) (hg : Gl X x := by rfl) (hdb : (x == ("__debug__" : Str)) = false := by decide) (he : starEach (a :: es) X.env = (false, eval a X.env) :: starEach es X.env := by rfl) (hpl : (backTo pos (starEach es X.env)).any (·.1) = false := by rfl) (hΓ : ∀ r sc, Γ.at r sc = Γ0.at r sc := by intro _ _; rfl) :
    PE X (.Call (.Name x p) (a :: es) [] pos) (eT Γ E (app (callF n F) fs)) :=
  PE.imp (pe_call G hr hg hm hk hb .nil hx ha hdb he hpl) fun σ H Q h => tCB_fit (fit_call hΓ) σ H Q h
end
end Fw
end
set_option Elab.async false
set_option linter.all false
set_option autoImplicit false
set_option maxRecDepth 100000
set_option maxHeartbeats 4000000
/-! Fw4: statements. -/
noncomputable section
namespace Fw
open PySem PySem.Spec PyProof.Rows L2

/-- a slot: nothing known; a value; a container of this frame's own, which it may change; a container handed in, which it may change -/
inductive Sl where
  | dead | val (d : D) | own (d : D) | row (d : D)
abbrev SEnv := List Sl
def Sl.all : Sl → Option D
  | .val d => some d | .own d => some d | .row d => some d | .dead => none
def Sl.vis : Sl → Option D
  | .val d => some d | _ => none
def Sl.noRow : Sl → Option D
  | .val d => some d | .own d => some d | _ => none
def SEnv.all (ρ : SEnv) : Env := ρ.map Sl.all
def SEnv.vis (ρ : SEnv) : Env := ρ.map Sl.vis
def SEnv.noRow (ρ : SEnv) : Env := ρ.map Sl.noRow
def Cont (ρ : SEnv) (i : Nat) (d : D) : Prop := ρ[i]? = some (.own d) ∨ ρ[i]? = some (.row d)
def avO (amb : Addr → Prop) (ad : Nat → Addr) (ρ : SEnv) : Addr → Prop := fun a => amb a ∨ ∃ i d, Cont ρ i d ∧ a = ad i
def avR (amb mr : Addr → Prop) : Addr → Prop := fun a => amb a ∨ mr a
def OwnAt (K : Kr) (av : Addr → Prop) (H : Hp) : D → Addr → Prop
  | .lst ds, a => ∃ vs, H a = some (.lst vs) ∧ RpL K av H ds vs
  | .dct ds, a => (∃ vs, H a = some (.dK vs) ∧ RpK K av H ds vs) ∨ ∃ vs, H a = some (.dT vs) ∧ RpT K av H ds vs
  | _, _ => False
theorem OwnAt.rp {K : Kr} {av : Addr → Prop} {H : Hp} {d : D} {a : Addr} (h : OwnAt K av H d a) (n : ¬ avr K av a) : Rp K av H d (.ref a) := by
  cases d with
  | lst ds => obtain ⟨vs, h1, h2⟩ := h; exact .lst h1 n h2
  | dct ds =>
    rcases h with ⟨vs, h1, h2⟩ | ⟨vs, h1, h2⟩
    · exact .dK h1 n h2
    · exact .dT h1 n h2
  | _ => exact (show False from h).elim
theorem OwnAt.there {K : Kr} {av : Addr → Prop} {H : Hp} {d : D} {a : Addr} (h : OwnAt K av H d a) : H a ≠ none := by
  cases d with
  | lst ds => obtain ⟨vs, h1, h2⟩ := h; rw [h1]; intro z; cases z
  | dct ds =>
    rcases h with ⟨vs, h1, h2⟩ | ⟨vs, h1, h2⟩
    · rw [h1]; intro z; cases z
    · rw [h1]; intro z; cases z
  | _ => exact (show False from h).elim
/-- a container that stays as it is while what its items lean on stays -/
theorem OwnAt.stay {K : Kr} {av av' : Addr → Prop} {H H' : Hp} {d : D} {a : Addr} (S : Stay K av av' H H') (k : ∀ o, H a = some o → (∀ ps, o ≠ .tbl ps) → H' a = some o) (h : OwnAt K av H d a) : OwnAt K av' H' d a := by
  cases d with
  | lst ds => obtain ⟨vs, h1, h2⟩ := h; exact ⟨vs, k _ h1 (by intro _ z; cases z), h2.stay S⟩
  | dct ds =>
    rcases h with ⟨vs, h1, h2⟩ | ⟨vs, h1, h2⟩
    · exact .inl ⟨vs, k _ h1 (by intro _ z; cases z), h2.stay S⟩
    · exact .inr ⟨vs, k _ h1 (by intro _ z; cases z), h2.stay S⟩
  | _ => exact (show False from h).elim
/-- all but what may be changed is as it was -/
structure ExtM (Γ : Gm) (mr : Addr → Prop) (H H' : Hp) : Prop where
  keep : ∀ b o, H b = some o → (∀ ps, o ≠ .tbl ps) → ((∃ xs, o = .lst xs) → Γ.row ≠ some b) → ¬ mr b → H' b = some o
  tb : Tb Γ H → Tb Γ H'
  row : RowOk Γ H → RowOk Γ H'
  there : ∀ b, H b ≠ none → H' b ≠ none
theorem ExtM.refl (Γ : Gm) (mr : Addr → Prop) (H : Hp) : ExtM Γ mr H H := ⟨fun _ _ h _ _ _ => h, fun h => h, fun h => h, fun _ h => h⟩
theorem ExtM.ext {Γ : Gm} {mr : Addr → Prop} {H H1 H2 : Hp} (a : ExtM Γ mr H H1) (b : Ext Γ H1 H2) : ExtM Γ mr H H2 := ⟨fun c o h n l m => b.keep c o (a.keep c o h n l m) n l, fun h => b.tb (a.tb h), fun h => b.row (a.row h), fun c h => b.there c (a.there c h)⟩
theorem ExtM.to {Γ : Gm} {H H' : Hp} (a : ExtM Γ (fun _ => False) H H') : Ext Γ H H' := ⟨fun c o h n l => a.keep c o h n l (fun z => z), a.tb, a.row, a.there⟩
/-- what was handed in to be changed: the slots and the addresses -/
abbrev Mr := Nat → Option Addr
def mrA (mr : Mr) : Addr → Prop := fun a => ∃ i, mr i = some a
/-- the frame's state -/
structure SAd (Γ : Gm) (amb : Addr → Prop) (H0 : Hp) (mr : Mr) (tmp : List (V × D)) (ad : Nat → Addr) (σ : St) (H : Hp) (ρ : SEnv) : Prop where
  ext : ExtM Γ (mrA mr) H0 H
  tb : Tb Γ H
  rw : RowOk Γ H
  len : ρ.length = σ.length
  ambT : ∀ a, amb a → H a ≠ none
  mrIn : ∀ a, mrA mr a → ∃ (i : Nat) (d : D), ρ[i]? = some (Sl.row d) ∧ a = ad i
  inj : ∀ (i j : Nat) (d e : D), Cont ρ i d → Cont ρ j e → ad i = ad j → i = j
  new : ∀ (i : Nat) (d : D), ρ[i]? = some (.own d) → H0 (ad i) = none ∧ ¬ amb (ad i) ∧ NR Γ (ad i)
  rows : ∀ (i : Nat) (d : D), ρ[i]? = some (.row d) → mr i = some (ad i) ∧ ¬ amb (ad i) ∧ NR Γ (ad i)
  val : ∀ (i : Nat) (d : D), ρ[i]? = some (Sl.val d) → ∃ v, σ[i]? = some (some v) ∧ Rp Γ.kr (avO amb ad ρ) H d v
  own : ∀ (i : Nat) (d : D), Cont ρ i d → σ[i]? = some (some (.ref (ad i))) ∧ OwnAt Γ.kr (avO amb ad ρ) H d (ad i)
  tmp : ∀ p ∈ tmp, Rp Γ.kr (avO amb ad ρ) H p.2 p.1
def SA (Γ : Gm) (amb : Addr → Prop) (H0 : Hp) (mr : Mr) (tmp : List (V × D)) (σ : St) (H : Hp) (ρ : SEnv) : Prop := ∃ ad, SAd Γ amb H0 mr tmp ad σ H ρ
/-- what a statement comes to -/
inductive Out where
  | nx (ρ : SEnv) | rt (d : D) (ρ : SEnv) | bk (ρ : SEnv) | ct (ρ : SEnv) | ex (c : Str) (f : Option (Str × V)) | no | dr (n : Int) (k : Int → Out)
def SOk (Γ : Gm) (amb : Addr → Prop) (H0 : Hp) (mr : Mr) (tmp : List (V × D)) : Out → Ends → XK → Prop
  | .nx ρ, Z, E => ∀ σ' H', SA Γ amb H0 mr tmp σ' H' ρ → Z.nx σ' H'
  | .bk ρ, Z, E => ∀ σ' H', SA Γ amb H0 mr tmp σ' H' ρ → Z.bk σ' H'
  | .ct ρ, Z, E => ∀ σ' H', SA Γ amb H0 mr tmp σ' H' ρ → Z.ct σ' H'
  | .rt d ρ, Z, E => ∀ v σ' H' ad, SAd Γ amb H0 mr [] ad σ' H' ρ → Rp Γ.kr (avR amb (mrA mr)) H' d v → Z.rt v H'
  | .ex c f, Z, E => ∀ H', ExtM Γ (mrA mr) H0 H' → Tb Γ H' → ExOk Γ H' E c f
  | .no, Z, E => False
  | .dr n k, Z, E => ∀ i, 0 ≤ i → i < n → SOk Γ amb H0 mr tmp (k i) Z E
def sT (Γ : Gm) (E : XK) (g : SEnv → Out) : TS := fun Z σ H => ∃ amb H0 mr tmp ρ, SA Γ amb H0 mr tmp σ H ρ ∧ SOk Γ amb H0 mr tmp (g ρ) Z E

section
variable {Γ : Gm} {amb : Addr → Prop} {mr : Mr} {H0 H H' : Hp} {tmp : List (V × D)} {ad : Nat → Addr} {σ σ' : St} {ρ : SEnv} {E : XK} {Z : Ends}
theorem mem_all {i : Nat} {d : D} (h : (SEnv.all ρ)[i]? = some (some d)) : ρ[i]? = some (.val d) ∨ Cont ρ i d := by
  unfold SEnv.all at h
  rw [List.getElem?_map] at h
  cases e : ρ[i]? with
  | none => rw [e] at h; cases h
  | some s =>
    rw [e] at h
    cases s with
    | dead => cases h
    | val d' => cases h; exact .inl rfl
    | own d' => cases h; exact .inr (.inl e)
    | row d' => cases h; exact .inr (.inr e)
theorem mem_vis {i : Nat} {d : D} (h : (SEnv.vis ρ)[i]? = some (some d)) : ρ[i]? = some (.val d) := by
  unfold SEnv.vis at h
  rw [List.getElem?_map] at h
  cases e : ρ[i]? with
  | none => rw [e] at h; cases h
  | some s => rw [e] at h; cases s <;> cases h; rfl
theorem mem_noRow {i : Nat} {d : D} (h : (SEnv.noRow ρ)[i]? = some (some d)) : ρ[i]? = some (.val d) ∨ ρ[i]? = some (.own d) := by
  unfold SEnv.noRow at h
  rw [List.getElem?_map] at h
  cases e : ρ[i]? with
  | none => rw [e] at h; cases h
  | some s =>
    rw [e] at h
    cases s with
    | dead => cases h
    | val d' => cases h; exact .inl rfl
    | own d' => cases h; exact .inr rfl
    | row d' => cases h
theorem SAd.mrThere {a : Addr} (S : SAd Γ amb H0 mr tmp ad σ H ρ) (h : mrA mr a) : H a ≠ none := by
  obtain ⟨i, d, e, rfl⟩ := S.mrIn a h
  exact (S.own i d (.inr e)).2.there
theorem SAd.notMr {i : Nat} {d : D} (S : SAd Γ amb H0 mr tmp ad σ H ρ) (h : ρ[i]? = some (.own d)) : ¬ mrA mr (ad i) := fun z => by
  obtain ⟨j, e, q, hj⟩ := S.mrIn _ z
  have := S.inj i j d e (.inl h) (.inr q) hj
  subst this
  rw [h] at q
  cases q
theorem SAd.nr {i : Nat} {d : D} (S : SAd Γ amb H0 mr tmp ad σ H ρ) (h : Cont ρ i d) : NR Γ (ad i) := h.elim (fun h => (S.new i d h).2.2) fun h => (S.rows i d h).2.2
theorem SAd.notRow {i : Nat} {d : D} (S : SAd Γ amb H0 mr tmp ad σ H ρ) (h : Cont ρ i d) : Γ.row ≠ some (ad i) := (S.nr h).1
theorem SAd.avIn (S : SAd Γ amb H0 mr tmp ad σ H ρ) : ∀ a, avO amb ad ρ a → H a ≠ none := fun a h => by
  rcases h with h | ⟨i, d, h, rfl⟩
  · exact S.ambT a h
  · exact (S.own i d h).2.there
theorem SAd.wf (S : SAd Γ amb H0 mr tmp ad σ H ρ) : Wf Γ (avO amb ad ρ) H := ⟨S.tb, S.avIn, S.rw⟩
theorem OwnAt.weak {K : Kr} {av av' : Addr → Prop} {d : D} {a : Addr} (h : OwnAt K av H d a) (i : ∀ b, av' b → av b) : OwnAt K av' H d a := h.stay (Stay.weak i) fun _ e _ => e
/-- all slots may be read, where nothing need be kept off -/
theorem SAd.envAll (S : SAd Γ amb H0 mr tmp ad σ H ρ) : EnvV Γ (fun _ => False) H σ ρ.all := ⟨⟨S.tb, fun _ h => h.elim, S.rw⟩, fun i d h => by
  rcases mem_all h with h | h
  · obtain ⟨v, h1, h2⟩ := S.val i d h
    exact ⟨v, h1, h2.stay (Stay.weak fun _ z => z.elim)⟩
  · obtain ⟨h1, h2⟩ := S.own i d h
    exact ⟨_, h1, (h2.weak fun _ z => z.elim).rp fun z => z.elim id (S.notRow h)⟩, by unfold SEnv.all; rw [List.length_map, S.len]; exact Nat.le_refl _⟩
theorem SAd.envVis (S : SAd Γ amb H0 mr tmp ad σ H ρ) : EnvV Γ (avO amb ad ρ) H σ ρ.vis := ⟨S.wf, fun i d h => S.val i d (mem_vis h), by unfold SEnv.vis; rw [List.length_map, S.len]; exact Nat.le_refl _⟩
theorem SAd.envRet (S : SAd Γ amb H0 mr tmp ad σ H ρ) : EnvV Γ (avR amb (mrA mr)) H σ ρ.noRow := by
  have w : ∀ b, avR amb (mrA mr) b → avO amb ad ρ b := fun b z => by
    rcases z with z | z
    · exact .inl z
    · obtain ⟨i, d, e, rfl⟩ := S.mrIn b z
      exact .inr ⟨i, d, .inr e, rfl⟩
  refine ⟨⟨S.tb, fun a h => S.avIn a (w a h), S.rw⟩, fun i d h => ?_, by unfold SEnv.noRow; rw [List.length_map, S.len]; exact Nat.le_refl _⟩
  rcases mem_noRow h with h | h
  · obtain ⟨v, h1, h2⟩ := S.val i d h
    exact ⟨v, h1, h2.stay (Stay.weak w)⟩
  · obtain ⟨h1, h2⟩ := S.own i d (.inl h)
    refine ⟨_, h1, (h2.weak w).rp fun z => ?_⟩
    rcases z with (z | z) | z
    · exact (S.new i d h).2.1 z
    · exact S.notMr h z
    · exact (S.new i d h).2.2.1 z
theorem SAd.ext_ (S : SAd Γ amb H0 mr tmp ad σ H ρ) (x : Ext Γ H H') : SAd Γ amb H0 mr tmp ad σ H' ρ :=
  ⟨S.ext.ext x, x.tb S.tb, x.row S.rw, S.len, fun a h => x.there a (S.ambT a h), S.mrIn, S.inj, S.new, S.rows, fun i d h => let ⟨v, h1, h2⟩ := S.val i d h; ⟨v, h1, h2.ext x⟩, fun i d h => let ⟨h1, h2⟩ := S.own i d h; ⟨h1, h2.stay (x.stay _) fun o e n => x.keep _ o e n fun _ => S.notRow h⟩, fun p hp => (S.tmp p hp).ext x⟩
theorem SAd.tmps {tmp' : List (V × D)} (S : SAd Γ amb H0 mr tmp ad σ H ρ) (h : ∀ p ∈ tmp', Rp Γ.kr (avO amb ad ρ) H p.2 p.1) : SAd Γ amb H0 mr tmp' ad σ H ρ :=
  ⟨S.ext, S.tb, S.rw, S.len, S.ambT, S.mrIn, S.inj, S.new, S.rows, S.val, S.own, h⟩
theorem SA.sub {tmp' : List (V × D)} (S : SA Γ amb H0 mr tmp σ H ρ) (h : ∀ p ∈ tmp', p ∈ tmp) : SA Γ amb H0 mr tmp' σ H ρ := let ⟨ad, S⟩ := S; ⟨ad, S.tmps fun p hp => S.tmp p (h p hp)⟩
theorem cont_set {i j : Nat} {s : Sl} {d : D} (hs : ∀ e, s ≠ .own e ∧ s ≠ .row e) (h : Cont (ρ.set i s) j d) : Cont ρ j d ∧ j ≠ i := by
  by_cases e : i = j
  · subst e
    by_cases hl : i < ρ.length
    · rcases h with h | h <;> (rw [List.getElem?_set_self hl] at h; cases h)
      · exact absurd rfl (hs d).1
      · exact absurd rfl (hs d).2
    · rcases h with h | h <;> (rw [List.getElem?_eq_none (by simpa using hl)] at h; cases h)
  · rcases h with h | h <;> rw [List.getElem?_set_ne e] at h
    · exact ⟨.inl h, fun z => e z.symm⟩
    · exact ⟨.inr h, fun z => e z.symm⟩
def isRow (ρ : SEnv) (i : Nat) : Bool := match ρ[i]? with | some (.row _) => true | _ => false
theorem isRow_no {i j : Nat} {d : D} (h : isRow ρ i = false) (e : ρ[j]? = some (Sl.row d)) : j ≠ i := fun z => by
  subst z
  unfold isRow at h
  rw [e] at h
  cases h
/-- a slot takes a value -/
theorem SAd.setVal {i : Nat} {d : D} {v : V} (S : SAd Γ amb H0 mr tmp ad σ H ρ) (hr : isRow ρ i = false) (r : Rp Γ.kr (avO amb ad ρ) H d v) : SAd Γ amb H0 mr tmp ad (σ.set i (some v)) H (ρ.set i (.val d)) := by
  have hs : ∀ e, Sl.val d ≠ .own e ∧ Sl.val d ≠ .row e := fun e => ⟨fun z => (by cases z), fun z => (by cases z)⟩
  have w : ∀ b, avO amb ad (ρ.set i (.val d)) b → avO amb ad ρ b := fun b z => by
    rcases z with z | ⟨j, e, z, rfl⟩
    · exact .inl z
    · exact .inr ⟨j, e, (cont_set hs z).1, rfl⟩
  have other : ∀ {j : Nat} {s : Sl}, j ≠ i → (ρ.set i (.val d))[j]? = some s → ρ[j]? = some s := fun {j s} hj h => by rwa [List.getElem?_set_ne (Ne.symm hj)] at h
  refine ⟨S.ext, S.tb, S.rw, by simpa using S.len, S.ambT, fun a z => let ⟨j, e, h1, h2⟩ := S.mrIn a z; ⟨j, e, by rw [List.getElem?_set_ne (Ne.symm (isRow_no hr h1))]; exact h1, h2⟩, fun j k e f h1 h2 => S.inj j k e f (cont_set hs h1).1 (cont_set hs h2).1, fun j e h => ?_, fun j e h => ?_, fun j e h => ?_, fun j e h => ?_, fun p hp => (S.tmp p hp).stay (Stay.weak w)⟩
  · obtain ⟨_, hj⟩ := cont_set hs (.inl h)
    exact S.new j e (other hj h)
  · obtain ⟨_, hj⟩ := cont_set hs (.inr h)
    exact S.rows j e (other hj h)
  · by_cases hj : j = i
    · subst hj
      by_cases hl : j < ρ.length
      · rw [List.getElem?_set_self hl] at h
        cases h
        exact ⟨v, List.getElem?_set_self (by rw [← S.len]; exact hl), r.stay (Stay.weak w)⟩
      · rw [List.getElem?_eq_none (by simpa using hl)] at h; cases h
    · obtain ⟨u, h1, h2⟩ := S.val j e (other hj h)
      exact ⟨u, by rw [List.getElem?_set_ne (Ne.symm hj)]; exact h1, h2.stay (Stay.weak w)⟩
  · obtain ⟨h', hj⟩ := cont_set hs h
    obtain ⟨h1, h2⟩ := S.own j e h'
    exact ⟨by rw [List.getElem?_set_ne (Ne.symm hj)]; exact h1, h2.weak w⟩
/-- new addresses are kept off from now on -/
theorem SAd.reserve {R : Addr → Prop} (S : SAd Γ amb H0 mr tmp ad σ H ρ) (x : Ext Γ H H') (h1 : ∀ a, R a → H a = none) (h2 : ∀ a, R a → H' a ≠ none) : SAd Γ (fun a => amb a ∨ R a) H0 mr tmp ad σ H' ρ := by
  have np : ∀ {j e}, Cont ρ j e → ¬ R (ad j) := fun {j e} h z => (S.own j e h).2.there (h1 _ z)
  have avp : ∀ b, avO (fun a => amb a ∨ R a) ad ρ b → R b ∨ avO amb ad ρ b := fun b z => by
    rcases z with (z | z) | ⟨j, e, z, rfl⟩
    · exact .inr (.inl z)
    · exact .inl z
    · exact .inr (.inr ⟨j, e, z, rfl⟩)
  have st : Stay Γ.kr (avO amb ad ρ) (avO (fun a => amb a ∨ R a) ad ρ) H H' := by
    have s1 := x.stay (avO amb ad ρ)
    have no : ∀ {a : Addr} {o : HO}, H a = some o → ¬ avr Γ.kr (avO amb ad ρ) a → ¬ avr Γ.kr (avO (fun a => amb a ∨ R a) ad ρ) a := fun {a o} h n z => by
      rcases z with z | z
      · rcases avp a z with z | z
        · rw [h1 a z] at h; cases h
        · exact n (.inl z)
      · exact n (.inr z)
    exact ⟨s1.tup, fun a xs n h => ⟨(s1.lst a xs n h).1, no h n⟩, fun a xs n h => ⟨(s1.dK a xs n h).1, no h n⟩, fun a xs n h => ⟨(s1.dT a xs n h).1, no h n⟩, s1.rng, s1.frz⟩
  have mrR : ∀ a, mrA mr a → ¬ R a := fun a m z => S.mrThere m (h1 a z)
  refine ⟨S.ext.ext x, x.tb S.tb, x.row S.rw, S.len, fun a h => ?_, S.mrIn, S.inj, fun i d h => ⟨(S.new i d h).1, fun z => ?_, (S.new i d h).2.2⟩, fun i d h => ⟨(S.rows i d h).1, fun z => ?_, (S.rows i d h).2.2⟩, fun i d h => ?_, fun i d h => ?_, fun p hp => (S.tmp p hp).stay st⟩
  · rcases h with h | h
    · exact x.there a (S.ambT a h)
    · exact h2 a h
  · rcases z with z | z
    · exact (S.new i d h).2.1 z
    · exact np (.inl h) z
  · rcases z with z | z
    · exact (S.rows i d h).2.1 z
    · exact np (.inr h) z
  · obtain ⟨v, g1, g2⟩ := S.val i d h
    exact ⟨v, g1, g2.stay st⟩
  · obtain ⟨g1, g2⟩ := S.own i d h
    exact ⟨g1, g2.stay st fun o e n => x.keep _ o e n fun _ => S.notRow h⟩
/-- less is to be kept off -/
theorem SAd.ambLess {amb' : Addr → Prop} (S : SAd Γ amb H0 mr tmp ad σ H ρ) (h : ∀ a, amb' a → amb a) : SAd Γ amb' H0 mr tmp ad σ H ρ := by
  have w : ∀ b, avO amb' ad ρ b → avO amb ad ρ b := fun b z => z.elim (fun z => .inl (h b z)) .inr
  exact ⟨S.ext, S.tb, S.rw, S.len, fun a z => S.ambT a (h a z), S.mrIn, S.inj, fun i d e => ⟨(S.new i d e).1, fun z => (S.new i d e).2.1 (h _ z), (S.new i d e).2.2⟩, fun i d e => ⟨(S.rows i d e).1, fun z => (S.rows i d e).2.1 (h _ z), (S.rows i d e).2.2⟩,
    fun i d e => let ⟨v, g1, g2⟩ := S.val i d e; ⟨v, g1, g2.stay (Stay.weak w)⟩, fun i d e => let ⟨g1, g2⟩ := S.own i d e; ⟨g1, g2.weak w⟩, fun p hp => (S.tmp p hp).stay (Stay.weak w)⟩
/-- a kept-off container becomes this frame's own -/
theorem SAd.takeIn {R : Addr → Prop} {i : Nat} {d : D} {p : Addr} (S : SAd Γ (fun a => amb a ∨ R a) H0 mr tmp ad σ H ρ) (hr : isRow ρ i = false) (hp : R p) (h0 : H0 p = none) (hm : ¬ amb p) (hrow : NR Γ p) (o : OwnAt Γ.kr (avO (fun a => amb a ∨ R a) ad ρ) H d p) :
    ∃ ad', SAd Γ (fun a => amb a ∨ (R a ∧ a ≠ p)) H0 mr tmp ad' (σ.set i (some (.ref p))) H (ρ.set i (.own d)) ∧ ∀ b, avO (fun a => amb a ∨ (R a ∧ a ≠ p)) ad' (ρ.set i (.own d)) b → avO (fun a => amb a ∨ R a) ad ρ b := by
  by_cases hl : i < ρ.length
  · have lt' : i < σ.length := by rw [← S.len]; exact hl
    have at_ : ∀ {j : Nat} {e : D}, Cont (ρ.set i (.own d)) j e → (j = i ∧ e = d) ∨ (j ≠ i ∧ Cont ρ j e) := fun {j e} h => by
      by_cases hj : j = i
      · subst hj
        rcases h with h | h <;> (rw [List.getElem?_set_self hl] at h; cases h)
        exact .inl ⟨rfl, rfl⟩
      · rcases h with h | h <;> rw [List.getElem?_set_ne (Ne.symm hj)] at h
        · exact .inr ⟨hj, .inl h⟩
        · exact .inr ⟨hj, .inr h⟩
    let ad' : Nat → Addr := fun j => if j = i then p else ad j
    have ai : ad' i = p := if_pos rfl
    have aj : ∀ {j}, j ≠ i → ad' j = ad j := fun hj => if_neg hj
    have np : ∀ {j e}, Cont ρ j e → ad j ≠ p := fun {j e} h z => by
      rcases h with h | h
      · exact (S.new j e h).2.1 (.inr (z ▸ hp))
      · exact (S.rows j e h).2.1 (.inr (z ▸ hp))
    have w : ∀ b, avO (fun a => amb a ∨ (R a ∧ a ≠ p)) ad' (ρ.set i (.own d)) b → avO (fun a => amb a ∨ R a) ad ρ b := fun b z => by
      rcases z with (z | z) | ⟨j, e, z, rfl⟩
      · exact .inl (.inl z)
      · exact .inl (.inr z.1)
      · rcases at_ z with ⟨hj, _⟩ | ⟨hj, z⟩
        · rw [hj, ai]; exact .inl (.inr hp)
        · rw [aj hj]; exact .inr ⟨j, e, z, rfl⟩
    refine ⟨ad', ⟨S.ext, S.tb, S.rw, by simpa using S.len, fun a h => S.ambT a (h.imp id And.left), fun a z => let ⟨j, e, h1, h2⟩ := S.mrIn a z; ⟨j, e, by rw [List.getElem?_set_ne (Ne.symm (isRow_no hr h1))]; exact h1, by rw [aj (isRow_no hr h1)]; exact h2⟩,
      fun j k e f h1 h2 he => ?_, fun j e h => ?_, fun j e h => ?_, fun j e h => ?_, fun j e h => ?_, fun q hq => (S.tmp q hq).stay (Stay.weak w)⟩, w⟩
    · rcases at_ h1 with ⟨hj, _⟩ | ⟨hj, h1⟩
      · rcases at_ h2 with ⟨hk, _⟩ | ⟨hk, h2⟩
        · rw [hj, hk]
        · rw [hj, ai, aj hk] at he
          exact absurd he.symm (np h2)
      · rcases at_ h2 with ⟨hk, _⟩ | ⟨hk, h2⟩
        · rw [hk, ai, aj hj] at he
          exact absurd he (np h1)
        · rw [aj hj, aj hk] at he
          exact S.inj j k e f h1 h2 he
    · by_cases hj : j = i
      · rw [hj, ai]
        exact ⟨h0, fun z => z.elim hm fun z => z.2 rfl, hrow⟩
      · rw [List.getElem?_set_ne (Ne.symm hj)] at h
        rw [aj hj]
        exact ⟨(S.new j e h).1, fun z => (S.new j e h).2.1 (z.imp id And.left), (S.new j e h).2.2⟩
    · by_cases hj : j = i
      · subst hj
        rw [List.getElem?_set_self hl] at h
        cases h
      · rw [List.getElem?_set_ne (Ne.symm hj)] at h
        rw [aj hj]
        exact ⟨(S.rows j e h).1, fun z => (S.rows j e h).2.1 (z.imp id And.left), (S.rows j e h).2.2⟩
    · by_cases hj : j = i
      · subst hj
        rw [List.getElem?_set_self hl] at h
        cases h
      · rw [List.getElem?_set_ne (Ne.symm hj)] at h
        obtain ⟨u, h1, h2⟩ := S.val j e h
        exact ⟨u, by rw [List.getElem?_set_ne (Ne.symm hj)]; exact h1, h2.stay (Stay.weak w)⟩
    · rcases at_ h with ⟨hj, he⟩ | ⟨hj, h⟩
      · subst hj he
        rw [ai]
        exact ⟨List.getElem?_set_self lt', o.weak w⟩
      · obtain ⟨h1, h2⟩ := S.own j e h
        rw [aj hj]
        exact ⟨by rw [List.getElem?_set_ne (Ne.symm hj)]; exact h1, h2.weak w⟩
  · have w : ∀ b, avO (fun a => amb a ∨ (R a ∧ a ≠ p)) ad ρ b → avO (fun a => amb a ∨ R a) ad ρ b := fun b z => z.imp (fun z => z.imp id And.left) id
    rw [List.set_eq_of_length_le (by rw [← S.len]; omega), List.set_eq_of_length_le (by omega)]
    exact ⟨ad, S.ambLess fun a z => z.imp id And.left, w⟩
/-- a slot takes a new container of its own -/
theorem SAd.setNew {i : Nat} {d : D} {p : Addr} (S : SAd Γ amb H0 mr tmp ad σ H ρ) (hr : isRow ρ i = false) (x : Ext Γ H H') (hp : H p = none) (o : OwnAt Γ.kr (fun a => avO amb ad ρ a ∨ a = p) H' d p) : SA Γ amb H0 mr tmp (σ.set i (some (.ref p))) H' (ρ.set i (.own d)) := by
  have S1 := S.reserve (R := fun a => a = p) x (fun a z => by rw [z]; exact hp) (fun a z => by rw [z]; exact o.there)
  have h0 : H0 p = none := by
    cases q : H0 p with
    | none => rfl
    | some u => exact absurd hp (S.ext.there p (by rw [q]; intro z; cases z))
  obtain ⟨ad', S2, _⟩ := S1.takeIn (i := i) (d := d) hr rfl h0 (fun z => S.ambT p z hp) (S.rw.nr hp) (o.weak fun b z => by
    rcases z with (z | z) | z
    · exact .inl (.inl z)
    · exact .inr z
    · exact .inl (.inr z))
  exact ⟨ad', S2.ambLess fun a z => .inl z⟩
end
end Fw
end
set_option Elab.async false
set_option linter.all false
set_option autoImplicit false
set_option maxRecDepth 100000
set_option maxHeartbeats 4000000
/-! Fw5: the statements' rules. -/
noncomputable section
namespace Fw
open PySem PySem.Spec PyProof.Rows L2

def contO : HO → Prop
  | .lst _ => True | .dK _ => True | .dT _ => True | _ => False
theorem Tb.write {Γ : Gm} {H : Hp} {a : Addr} {o u : HO} (t : Tb Γ H) (h : H a = some o) (ho : contO o) : Tb Γ (upd H a u) := by
  have ne : ∀ {b : Addr} {z : HO}, H b = some z → ¬ contO z → b ≠ a := fun {b z} e n q => by
    rw [q, h] at e
    cases e
    exact n ho
  refine ⟨fun P hP => ?_, fun p hp => ?_⟩
  · obtain ⟨ps, h1, h2⟩ := t.1 P hP
    exact ⟨ps, by rw [upd_ne (ne h1 fun z => z)]; exact h1, h2⟩
  · obtain ⟨ps, h1, h2, h3⟩ := t.2 p hp
    refine ⟨ps, by rw [upd_ne (ne h1 fun z => z)]; exact h1, h2, fun pos cv hc => ?_⟩
    obtain ⟨c, e1, e2⟩ := h3 pos cv hc
    exact ⟨c, e1, by rw [upd_ne (ne e2 fun z => z)]; exact e2⟩
theorem sqL_write {K : PySem.W.Frag} {H : Hp} {a c : Addr} {o u : HO} {xs : List V} (hc : c ≠ a) (h : SqL K H c xs) : SqL K (upd H a u) c xs := by
  rcases h with (h | ⟨o, h⟩) | h
  · exact .inl (.inl (by rw [upd_ne hc]; exact h))
  · exact .inl (.inr ⟨o, by rw [upd_ne hc]; exact h⟩)
  · exact .inr h
theorem RowOk.write {Γ : Gm} {H : Hp} {a : Addr} {u : HO} (t : RowOk Γ H) (hr : NR Γ a) : RowOk Γ (upd H a u) := fun r e => by
  obtain ⟨ns, i, j, k, h1, h2, h3⟩ := t r e
  have h1' : upd H a u r = some (.lst [.ref Γ.scr, .int i, .int j, .int k]) := by rw [upd_ne (fun z => hr.1 (by rw [← z]; exact e))]; exact h1
  rcases hr.2 r e with z | ⟨ns', z⟩
  · exact ⟨ns, i, j, k, h1', sqL_write (o := u) (Ne.symm z) h2, h3⟩
  · exact ⟨ns', i, j, k, h1', z _, h3⟩
theorem Stay.write {K : Kr} {av : Addr → Prop} {H : Hp} {a : Addr} {o u : HO} (h : H a = some o) (ho : contO o) (n : av a) : Stay K av av H (upd H a u) := by
  have ne : ∀ {b : Addr} {z : HO}, H b = some z → ¬ contO z → b ≠ a := fun {b z} e n q => by
    rw [q, h] at e
    cases e
    exact n ho
  have na : ∀ {b : Addr}, ¬ avr K av b → b ≠ a := fun {b} m q => m (.inl (q ▸ n))
  exact ⟨fun b xs e => by rw [upd_ne (ne e fun z => z)]; exact e, fun b xs m e => ⟨by rw [upd_ne (na m)]; exact e, m⟩, fun b xs m e => ⟨by rw [upd_ne (na m)]; exact e, m⟩, fun b xs m e => ⟨by rw [upd_ne (na m)]; exact e, m⟩,
    fun b lo hi e => by rw [upd_ne (ne e fun z => z)]; exact e, fun b o u e => by rw [upd_ne (ne e fun z => z)]; exact e⟩
def Sl.put : Sl → D → Sl
  | .row _, d => .row d
  | _, d => .own d
section
variable {Γ : Gm} {amb : Addr → Prop} {mr : Mr} {H0 H H' : Hp} {tmp : List (V × D)} {ad : Nat → Addr} {σ σ' : St} {ρ : SEnv} {E : XK} {Z : Ends}
theorem OwnAt.cont {K : Kr} {av : Addr → Prop} {d : D} {a : Addr} (h : OwnAt K av H d a) : ∃ o, H a = some o ∧ contO o := by
  cases d with
  | lst ds => obtain ⟨vs, h1, h2⟩ := h; exact ⟨_, h1, True.intro⟩
  | dct ds =>
    rcases h with ⟨vs, h1, h2⟩ | ⟨vs, h1, h2⟩
    · exact ⟨_, h1, True.intro⟩
    · exact ⟨_, h1, True.intro⟩
  | _ => exact (show False from h).elim
/-- the frame's own container is changed -/
theorem SAd.write {i : Nat} {s : Sl} {d d' : D} {u : HO} (S : SAd Γ amb H0 mr tmp ad σ H ρ) (hs : ρ[i]? = some s) (hc : s = .own d ∨ s = .row d) (o : OwnAt Γ.kr (avO amb ad ρ) (upd H (ad i) u) d' (ad i)) : SAd Γ amb H0 mr tmp ad σ (upd H (ad i) u) (ρ.set i (s.put d')) := by
  have hl : i < ρ.length := (List.getElem?_eq_some_iff.mp hs).1
  have c : Cont ρ i d := by rcases hc with e | e <;> rw [e] at hs <;> first | exact .inl hs | exact .inr hs
  obtain ⟨o0, h0, ho0⟩ := (S.own i d c).2.cont
  have hav : avO amb ad ρ (ad i) := .inr ⟨i, d, c, rfl⟩
  have st := Stay.write (K := Γ.kr) (u := u) h0 ho0 hav
  have self : (ρ.set i (s.put d'))[i]? = some (s.put d') := List.getElem?_set_self hl
  have back : ∀ {j : Nat} {e : D}, Cont (ρ.set i (s.put d')) j e → (j = i ∧ e = d') ∨ (j ≠ i ∧ Cont ρ j e) := fun {j e} h => by
    by_cases hj : j = i
    · subst hj
      refine .inl ⟨rfl, ?_⟩
      rcases hc with z | z <;> subst z <;> rcases h with h | h <;> rw [self] at h <;> cases h <;> rfl
    · rcases h with h | h <;> rw [List.getElem?_set_ne (Ne.symm hj)] at h
      · exact .inr ⟨hj, .inl h⟩
      · exact .inr ⟨hj, .inr h⟩
  have fwd : ∀ {j : Nat} {e : D}, Cont ρ j e → ∃ e', Cont (ρ.set i (s.put d')) j e' := fun {j e} h => by
    by_cases hj : j = i
    · subst hj
      rcases hc with z | z <;> subst z
      · exact ⟨d', .inl self⟩
      · exact ⟨d', .inr self⟩
    · refine ⟨e, ?_⟩
      rcases h with h | h
      · exact .inl (by rw [List.getElem?_set_ne (Ne.symm hj)]; exact h)
      · exact .inr (by rw [List.getElem?_set_ne (Ne.symm hj)]; exact h)
  have av1 : ∀ b, avO amb ad (ρ.set i (s.put d')) b → avO amb ad ρ b := fun b z => by
    rcases z with z | ⟨j, e, z, rfl⟩
    · exact .inl z
    · rcases back z with ⟨rfl, _⟩ | ⟨_, z⟩
      · exact hav
      · exact .inr ⟨j, e, z, rfl⟩
  have stw : Stay Γ.kr (avO amb ad ρ) (avO amb ad (ρ.set i (s.put d'))) H (upd H (ad i) u) :=
    ⟨st.tup, fun a xs n e => ⟨(st.lst a xs n e).1, fun z => n (z.imp (av1 a) id)⟩, fun a xs n e => ⟨(st.dK a xs n e).1, fun z => n (z.imp (av1 a) id)⟩, fun a xs n e => ⟨(st.dT a xs n e).1, fun z => n (z.imp (av1 a) id)⟩, st.rng, st.frz⟩
  have other : ∀ {j : Nat} {z : Sl}, j ≠ i → (ρ.set i (s.put d'))[j]? = some z → ρ[j]? = some z := fun {j z} hj h => by rwa [List.getElem?_set_ne (Ne.symm hj)] at h
  have fr : ∀ b o, H0 b = some o → ¬ mrA mr b → b ≠ ad i := fun b o e m z => by
    rcases c with c | c
    · rw [z, (S.new i d c).1] at e; cases e
    · exact m (z ▸ ⟨i, (S.rows i d c).1⟩)
  refine ⟨⟨fun b o e n l m => by rw [upd_ne (fr b o e m)]; exact S.ext.keep b o e n l m, fun _ => S.tb.write h0 ho0, fun _ => S.rw.write (S.nr c), fun b n z => ?_⟩, S.tb.write h0 ho0, S.rw.write (S.nr c), by simpa using S.len, fun a z => ?_, fun a z => ?_, fun j k e f h1 h2 he => ?_, fun j e h => ?_, fun j e h => ?_, fun j e h => ?_, fun j e h => ?_, fun p hp => (S.tmp p hp).stay stw⟩
  · by_cases hb : b = ad i
    · rw [hb, upd_same] at z; cases z
    · rw [upd_ne hb] at z; exact S.ext.there b n z
  · by_cases hb : a = ad i
    · rw [hb, upd_same]; intro z; cases z
    · rw [upd_ne hb]; exact S.ambT a z
  · obtain ⟨j, e, h1, h2⟩ := S.mrIn a z
    by_cases hj : j = i
    · subst hj
      refine ⟨j, d', ?_, h2⟩
      rw [self]
      rw [hs] at h1
      rw [Option.some.inj h1]
      rfl
    · exact ⟨j, e, by rw [List.getElem?_set_ne (Ne.symm hj)]; exact h1, h2⟩
  · rcases back h1 with ⟨e1, _⟩ | ⟨_, g1⟩
    · rcases back h2 with ⟨e2, _⟩ | ⟨_, g2⟩
      · rw [e1, e2]
      · rw [e1] at he ⊢
        exact S.inj _ k _ f c g2 he
    · rcases back h2 with ⟨e2, _⟩ | ⟨_, g2⟩
      · rw [e2] at he ⊢
        exact S.inj j _ e _ g1 c he
      · exact S.inj j k e f g1 g2 he
  · by_cases hj : j = i
    · subst hj
      rw [self] at h
      rcases hc with z | z <;> subst z
      · exact S.new j d hs
      · cases h
    · exact S.new j e (other hj h)
  · by_cases hj : j = i
    · subst hj
      rw [self] at h
      rcases hc with z | z <;> subst z
      · cases h
      · exact S.rows j d hs
    · exact S.rows j e (other hj h)
  · by_cases hj : j = i
    · subst hj
      rw [self] at h
      rcases hc with z | z <;> subst z <;> cases h
    · obtain ⟨v, h1, h2⟩ := S.val j e (other hj h)
      exact ⟨v, h1, h2.stay stw⟩
  · rcases back h with ⟨rfl, rfl⟩ | ⟨hj, h⟩
    · exact ⟨(S.own _ d c).1, o.weak av1⟩
    · obtain ⟨h1, h2⟩ := S.own j e h
      refine ⟨h1, h2.stay stw fun q e n => ?_⟩
      rw [upd_ne fun z => hj (S.inj j i _ _ h c z)]
      exact e
end

/-- a new container -/
def nT (Γ : Gm) (E : XK) (f : Env → Res D) : TE := fun σ H Q => ∃ av ρ, EnvV Γ av H σ ρ ∧ ROk Γ av H (fun H' d v => ∃ p, v = .ref p ∧ H p = none ∧ OwnAt Γ.kr (fun a => av a ∨ a = p) H' d p) (f ρ) Q E
section
variable {X : Cx} {Γ : Gm} {E : XK} {x : Str} {a b c o e : Expr} {es : List Expr} {st : Stmt} {sts : List Stmt} {pos p p2 pos' : Pos} {f fa fb fc : Env → Res D} {ta : Env → Res Bool} {fs : Env → Res (List D)} {k i : Nat} {g g1 g2 : SEnv → Out}
theorem te_of_new (h : PE X a (nT Γ E f)) : PE X a (eT Γ E f) := PE.imp h fun σ H Q ⟨av, ρ, env, h⟩ => ⟨av, ρ, env, h.rel fun d v H1 x ⟨p, hv, hp, ho⟩ => by
  subst hv
  exact (ho.weak fun b z => .inl z).rp fun z => z.elim (fun z => env.wf.av p z hp) fun z => env.wf.row.new hp z⟩
/-! what is new -/
theorem rpl_new {K : Kr} {av : Addr → Prop} {H : Hp} {ds : List D} {vs : List V} {p : Addr} (hp : H p = none) (o : HO) (r : RpL K av H ds vs) : RpL K (fun a => av a ∨ a = p) (upd H p o) ds vs := by
  have up : ∀ {b : Addr} {z : HO}, H b = some z → upd H p o b = some z := fun {b z} e => by rw [upd_ne (ne_of_none e hp)]; exact e
  have nn : ∀ {b : Addr} {z : HO}, H b = some z → ¬ avr K av b → ¬ avr K (fun b => av b ∨ b = p) b := fun {b z} e n q => by
    rcases q with (q | q) | q
    · exact n (.inl q)
    · rw [q, hp] at e; cases e
    · exact n (.inr q)
  exact r.stay ⟨fun _ _ e => up e, fun _ _ n e => ⟨up e, nn e n⟩, fun _ _ n e => ⟨up e, nn e n⟩, fun _ _ n e => ⟨up e, nn e n⟩, fun _ _ _ e => up e, fun _ _ _ e => up e⟩
theorem new_bind {β δ : Type} {av : Addr → Prop} {ρ : Env} {H H1 : Hp} {p : Addr} {ds : List D} {vs : List V} {Q : VK} (x1 : Ext Γ H H1) (h : ROk Γ av H1 (fun H' d v => ∃ p, v = V.ref p ∧ H p = none ∧ OwnAt Γ.kr (fun a => av a ∨ a = p) H' d p) (.ok (.lst ds)) Q E) (hp : H1 p = none) (r : RpL Γ.kr av H1 ds vs) :
    Q (.ref p) (upd H1 p (.lst vs)) := by
  refine h _ _ (Ext.new _ hp) ⟨p, rfl, ?_, vs, upd_same, rpl_new hp _ r⟩
  cases q : H p with
  | none => rfl
  | some u => exact absurd hp (x1.there p (by rw [q]; intro z; cases z))
theorem tn_lst (h : PA X es (aT Γ E fs)) : PE X (.List es pos) (nT Γ E (lstF fs)) :=
  PE.imp (pe_lst h) fun σ H Q ⟨av, ρ, env, h⟩ => aT_bind env h fun ds vs H1 x1 env1 r1 h1 => by
    obtain ⟨hz, h1⟩ := ROk.ifp h1
    exact ⟨by rw [lim_eq, ← r1.length]; exact hz, fun p hp => new_bind (β := Unit) (δ := Unit) (ρ := ρ) x1 h1 hp r1⟩
/-- an empty dict whose keys will be ints and texts; tuples -/
theorem tn_dK : PE X (.Dict [] [] pos) (nT Γ E fun _ => .ok (.dct [])) := PE.imp pe_dnewK fun σ H Q ⟨av, ρ, env, h⟩ => fun p hp => h _ _ (Ext.new _ hp) ⟨p, rfl, hp, .inl ⟨[], upd_same, .nil⟩⟩
theorem tn_dT : PE X (.Dict [] [] pos) (nT Γ E fun _ => .ok (.dct [])) := PE.imp pe_dnewT fun σ H Q ⟨av, ρ, env, h⟩ => fun p hp => h _ _ (Ext.new _ hp) ⟨p, rfl, hp, .inr ⟨[], upd_same, .nil⟩⟩
theorem tn_addL (ha : PE X a (eT Γ E fa)) (hb : PE X b (eT Γ E fb)) : PE X (.BinOp a .Add b pos) (nT Γ E (bin addL fa fb)) :=
  PE.imp (pe_op op_cat ha hb) fun σ H Q ⟨av, ρ, env, h⟩ => eT_bind env h fun d v H1 x1 env1 r1 h1 => eT_bind env1 h1 fun e u H2 x2 env2 r2 h2 => by
    clear h1
    replace r1 := r1.ext x2
    cases r1 <;> first | exact (show False from h2).elim | skip
    cases r2 <;> first | exact (show False from h2).elim | skip
    rename_i a vs ds h1 n1 r1 a' vs' ds' h1' n1' r1'
    obtain ⟨hz, h2⟩ := ROk.ifp h2
    exact ⟨_, _, _, _, rfl, rfl, h1, h1', by rw [lim_eq, ← r1.length, ← r1'.length]; exact hz, fun p hp => new_bind (β := Unit) (δ := Unit) (ρ := ρ) (x1.trans x2) h2 hp (r1.append r1')⟩
theorem tn_mulL (ha : PE X a (eT Γ E fa)) (hb : PE X b (eT Γ E fb)) : PE X (.BinOp a .Mult b pos) (nT Γ E (bin mulL fa fb)) :=
  PE.imp (pe_op op_rep ha hb) fun σ H Q ⟨av, ρ, env, h⟩ => eT_bind env h fun d v H1 x1 env1 r1 h1 => eT_bind env1 h1 fun e u H2 x2 env2 r2 h2 => by
    clear h1
    replace r1 := r1.ext x2
    cases r1 <;> first | exact (show False from h2).elim | skip
    cases r2 <;> first | exact (show False from h2).elim | skip
    rename_i a vs ds h1 n1 r1 i
    obtain ⟨hz, h2⟩ := ROk.ifp h2
    exact ⟨_, _, _, rfl, rfl, h1, hz.1.1, hz.1.2, by rw [lim_eq, ← r1.length]; exact hz.2, fun p hp => new_bind (β := Unit) (δ := Unit) (ρ := ρ) (x1.trans x2) h2 hp (r1.reps _)⟩
theorem tn_list (hm : X.mg "list" = none) (ha : PE X a (eT Γ E fa)) (hg : Gl X "list" := by rfl) (he : starEach [a] X.env = (false, eval a X.env) :: starEach [] X.env := by rfl) (hK : X.K = Γ.K := by rfl) :
    PE X (.Call (.Name "list" p) [a] [] pos) (nT Γ E (app (on1 D.toLst) (consA fa nilA))) :=
  PE.imp (pe_callTy call_list_of hg hm boot_list (ta_cons ha ta_nil he) (he := he)) fun σ H Q ⟨av, ρ, env, h⟩ => aT_bind env h fun ds vs H1 x1 env1 r1 h1 => by
    rw [hK]
    cases r1 with
    | nil => exact (show False from h1).elim
    | cons r1 r2 =>
      cases r2 with
      | cons _ _ => exact (show False from h1).elim
      | nil =>
        cases r1 with
        | @tup a vs ds g1 g2 => exact ⟨_, _, rfl, .inr (SqT.of g1), fun p hp => new_bind (β := Unit) (δ := Unit) (ρ := ρ) x1 h1 hp g2⟩
        | @lst a vs ds g1 n g2 => exact ⟨_, _, rfl, .inl (SqL.of g1), fun p hp => new_bind (β := Unit) (δ := Unit) (ρ := ρ) x1 h1 hp g2⟩
        | _ => exact (show False from h1).elim

/-! ### blocks -/
def Out.then : Out → (SEnv → Out) → Out
  | .nx ρ, k => k ρ
  | .rt d ρ, _ => .rt d ρ
  | .bk ρ, _ => .bk ρ
  | .ct ρ, _ => .ct ρ
  | .ex c f, _ => .ex c f
  | .no, _ => .no
  | .dr n j, k => .dr n fun i => (j i).then k
def seqO (g1 g2 : SEnv → Out) : SEnv → Out := fun ρ => (g1 ρ).then g2
theorem SOk.then {amb : Addr → Prop} {mr : Mr} {H0 : Hp} {tmp : List (V × D)} {Z : Ends} {k : SEnv → Out} {N : St → Hp → Prop} (hN : ∀ ρ', SOk Γ amb H0 mr tmp (k ρ') Z E → ∀ σ' H', SA Γ amb H0 mr tmp σ' H' ρ' → N σ' H') : ∀ {r : Out}, SOk Γ amb H0 mr tmp (r.then k) Z E → SOk Γ amb H0 mr tmp r { Z with nx := N } E
  | .nx ρ', h => hN ρ' h
  | .rt d ρ', h => h
  | .bk ρ', h => h
  | .ct ρ', h => h
  | .ex c f, h => h
  | .no, h => h
  | .dr n j, h => fun i h1 h2 => SOk.then hN (h i h1 h2)
theorem ts_nil : PSs X [] (sT Γ E .nx) := PSs.imp pss_nil fun Z σ H ⟨amb, H0, mr, tmp, ρ, S, h⟩ => h σ H S
theorem ts_one (h : PS X st (sT Γ E g)) : PSs X [st] (sT Γ E g) := pss_one h
theorem ts_cons (h1 : PS X st (sT Γ E g1)) (h2 : PSs X sts (sT Γ E g2)) : PSs X (st :: sts) (sT Γ E (seqO g1 g2)) :=
  PSs.imp (pss_cons h1 h2) fun Z σ H ⟨amb, H0, mr, tmp, ρ, S, h⟩ => ⟨amb, H0, mr, tmp, ρ, S, SOk.then (fun ρ' h σ' H' S' => ⟨amb, H0, mr, tmp, ρ', S', h⟩) h⟩
theorem ts_pass : PS X (.Pass pos) (sT Γ E .nx) := PS.imp ps_pass fun Z σ H ⟨amb, H0, mr, tmp, ρ, S, h⟩ => h σ H S
theorem ts_break : PS X (.Break pos) (sT Γ E .bk) := PS.imp ps_break fun Z σ H ⟨amb, H0, mr, tmp, ρ, S, h⟩ => h σ H S
theorem ts_continue : PS X (.Continue pos) (sT Γ E .ct) := PS.imp ps_continue fun Z σ H ⟨amb, H0, mr, tmp, ρ, S, h⟩ => h σ H S
/-- from an expression to a statement -/
def bindO {α : Type} : Res α → (α → Out) → Out
  | .ok d, k => k d
  | .ex c f, _ => .ex c f
  | .no, _ => .no
  | .dr n j, k => .dr n fun i => bindO (j i) k
theorem SOk_ex {amb : Addr → Prop} {mr : Mr} {H0 H : Hp} {tmp : List (V × D)} {ad : Nat → Addr} {σ : St} {ρ : SEnv} {Z : Ends} {c : Str} {f : Option (Str × V)} (S : SAd Γ amb H0 mr tmp ad σ H ρ) (h : SOk Γ amb H0 mr tmp (.ex c f) Z E) : ExOk Γ H E c f := h H S.ext S.tb
theorem SOk.bind {α γ : Type} {amb : Addr → Prop} {mr : Mr} {H0 H : Hp} {tmp : List (V × D)} {ad : Nat → Addr} {σ : St} {ρ : SEnv} {Z : Ends} {av : Addr → Prop} {rel : Hp → α → γ → Prop} {kk : α → Out} {R : γ → Hp → Prop} (S : SAd Γ amb H0 mr tmp ad σ H ρ) : ∀ {r : Res α}, SOk Γ amb H0 mr tmp (bindO r kk) Z E →
    (∀ d v H1, Ext Γ H H1 → SAd Γ amb H0 mr tmp ad σ H1 ρ → rel H1 d v → SOk Γ amb H0 mr tmp (kk d) Z E → R v H1) → ROk Γ av H rel r R E
  | .ok d, h, hk => fun v H1 x r => hk d v H1 x (S.ext_ x) r h
  | .ex c f, h, hk => SOk_ex S h
  | .no, h, hk => h
  | .dr n k, h, hk => fun i h1 h2 => SOk.bind S (h i h1 h2) hk
theorem eT_out {amb : Addr → Prop} {mr : Mr} {H0 H : Hp} {tmp : List (V × D)} {ad : Nat → Addr} {σ : St} {ρ : SEnv} {Z : Ends} {av : Addr → Prop} {ρe : Env} {kk : D → Out} {R : VK} (S : SAd Γ amb H0 mr tmp ad σ H ρ) (env : EnvV Γ av H σ ρe) (h : SOk Γ amb H0 mr tmp (bindO (f ρe) kk) Z E)
    (hk : ∀ d v H1, Ext Γ H H1 → SAd Γ amb H0 mr tmp ad σ H1 ρ → Rp Γ.kr av H1 d v → SOk Γ amb H0 mr tmp (kk d) Z E → R v H1) : eT Γ E f σ H R := ⟨av, ρe, env, SOk.bind S h hk⟩
theorem nT_out {amb : Addr → Prop} {mr : Mr} {H0 H : Hp} {tmp : List (V × D)} {ad : Nat → Addr} {σ : St} {ρ : SEnv} {Z : Ends} {av : Addr → Prop} {ρe : Env} {kk : D → Out} {R : VK} (S : SAd Γ amb H0 mr tmp ad σ H ρ) (env : EnvV Γ av H σ ρe) (h : SOk Γ amb H0 mr tmp (bindO (f ρe) kk) Z E)
    (hk : ∀ d q H1, Ext Γ H H1 → H q = none → OwnAt Γ.kr (fun a => av a ∨ a = q) H1 d q → SOk Γ amb H0 mr tmp (kk d) Z E → R (.ref q) H1) : nT Γ E f σ H R := ⟨av, ρe, env, SOk.bind S h fun d v H1 x _ r h1 => by
  obtain ⟨z, rfl, hz, ho⟩ := r
  exact hk d z H1 x hz ho h1⟩
theorem bT_out {amb : Addr → Prop} {mr : Mr} {H0 H : Hp} {tmp : List (V × D)} {ad : Nat → Addr} {σ : St} {ρ : SEnv} {Z : Ends} {av : Addr → Prop} {ρe : Env} {kk : Bool → Out} {R : Bool → Hp → Prop} (S : SAd Γ amb H0 mr tmp ad σ H ρ) (env : EnvV Γ av H σ ρe) (h : SOk Γ amb H0 mr tmp (bindO (ta ρe) kk) Z E)
    (hk : ∀ d H1, Ext Γ H H1 → SAd Γ amb H0 mr tmp ad σ H1 ρ → SOk Γ amb H0 mr tmp (kk d) Z E → R d H1) : bT Γ E ta σ H R := ⟨av, ρe, env, SOk.bind S h fun d v H1 x S1 r h1 => by
  subst r
  exact hk d H1 x S1 h1⟩
/-- an expression whose value is dropped -/
theorem ts_expr (h : PE X e (eT Γ E f)) (hs : swapsWith e none pos.line X.env = pure false := by rfl) : PS X (.Expr e pos) (sT Γ E fun ρ => bindO (f ρ.all) fun _ => .nx ρ) :=
  PS.imp (ps_expr h hs) fun Z σ H ⟨amb, H0, mr, tmp, ρ, ⟨ad, S⟩, h⟩ => eT_out S S.envAll h fun d v H1 x S1 r1 h1 => h1 σ H1 ⟨ad, S1⟩
/-! return -/
def purO (d : D) (k : Out) : Out := if d.pure = true then k else .no
theorem SOk.ifp {amb : Addr → Prop} {mr : Mr} {H0 : Hp} {tmp : List (V × D)} {Z : Ends} {q : Prop} [Decidable q] {r : Out} (h : SOk Γ amb H0 mr tmp (if q then r else .no) Z E) : q ∧ SOk Γ amb H0 mr tmp r Z E := by
  by_cases z : q
  · rw [if_pos z] at h; exact ⟨z, h⟩
  · rw [if_neg z] at h; exact h.elim
/-- of a value without lists and dicts, whatever it is reckoned from -/
theorem ts_retP (h : PE X e (eT Γ E f)) : PS X (.Return (some e) pos) (sT Γ E fun ρ => bindO (f ρ.all) fun d => purO d (.rt d ρ)) :=
  PS.imp (ps_ret h) fun Z σ H ⟨amb, H0, mr, tmp, ρ, ⟨ad, S⟩, h⟩ => eT_out S S.envAll h fun d v H1 x S1 r1 h1 => by
    obtain ⟨hp, h1⟩ := SOk.ifp h1
    exact h1 v σ H1 ad (S1.tmps fun p hp => absurd hp (by simp)) (r1.pureUp hp)
/-- of any value: nothing handed in is changed here -/
def noRows (ρ : SEnv) (k : Out) : Out := k
theorem ts_ret (h : PE X e (eT Γ E f)) : PS X (.Return (some e) pos) (sT Γ E fun ρ => bindO (f ρ.noRow) fun d => .rt d ρ) := by
  refine PS.imp (ps_ret h) fun Z σ H ⟨amb, H0, mr, tmp, ρ, ⟨ad, S⟩, h⟩ => ?_
  exact eT_out S S.envRet h fun d v H1 x S1 r1 h1 => h1 v σ H1 ad (S1.tmps fun p hp => absurd hp (by simp)) r1
end
end Fw
end
set_option Elab.async false
set_option linter.all false
set_option autoImplicit false
set_option maxRecDepth 100000
set_option maxHeartbeats 4000000
/-! Fw6: stores, targets, branches, loops. -/
noncomputable section
namespace Fw
open PySem PySem.Spec PyProof.Rows L2

/-! ### stores -/
def setO (ρ : SEnv) (i : Nat) (s : Sl) : Out := if isRow ρ i = false then .nx (ρ.set i s) else .no
def purC : D → Bool
  | .lst ds => D.pureL ds
  | .dct ds => ds.all fun p => p.2.pure
  | _ => false
theorem RpK.pureUp {K : Kr} {av av' : Addr → Prop} {H : Hp} : ∀ {ds : List (D × D)} {vs : List (Key × V)}, (ds.all fun p => p.2.pure) = true → RpK K av H ds vs → RpK K av' H ds vs
  | _, _, _, .nil => .nil
  | _, _, p, .cons h r => by
    rw [List.all_cons, Bool.and_eq_true] at p
    exact .cons (h.pureUp p.1) (RpK.pureUp p.2 r)
theorem RpT.pureUp {K : Kr} {av av' : Addr → Prop} {H : Hp} : ∀ {ds : List (D × D)} {vs : List (List Key × V)}, (ds.all fun p => p.2.pure) = true → RpT K av H ds vs → RpT K av' H ds vs
  | _, _, _, .nil => .nil
  | _, _, p, .cons h r => by
    rw [List.all_cons, Bool.and_eq_true] at p
    exact .cons (h.pureUp p.1) (RpT.pureUp p.2 r)
theorem OwnAt.pureUp {K : Kr} {av av' : Addr → Prop} {H : Hp} {d : D} {a : Addr} (p : purC d = true) (h : OwnAt K av H d a) : OwnAt K av' H d a := by
  cases d with
  | lst ds => obtain ⟨vs, h1, h2⟩ := h; exact ⟨vs, h1, h2.pureUp p⟩
  | dct ds =>
    rcases h with ⟨vs, h1, h2⟩ | ⟨vs, h1, h2⟩
    · exact .inl ⟨vs, h1, h2.pureUp p⟩
    · exact .inr ⟨vs, h1, h2.pureUp p⟩
  | _ => exact (show False from h).elim
section
variable {X : Cx} {Γ : Gm} {E : XK} {x : Str} {a b c o e : Expr} {es : List Expr} {st : Stmt} {sts body : List Stmt} {pos p p2 pos' pos'' : Pos} {f fa fb fc : Env → Res D} {ta : Env → Res Bool} {fs : Env → Res (List D)} {k : Nat} {g g1 g2 : SEnv → Out}
/-- x = e, a value without lists and dicts -/
theorem ts_set (i : Nat) (h : PE X e (eT Γ E f)) (hN : X.N.Nodup) (hi : X.N[i]? = some x := by rfl) (hx : Loc X.env.scope x := by first | exact Or.inl rfl | exact Or.inr rfl) (hs : swapsWith e (some (.Name x pos')) pos.line X.env = pure false := by rfl) (hf : X.fn x = true ∨ X.env.scope.names.lookup x = some .local := by first | exact .inl rfl | exact .inr rfl) :
    PS X (.Assign [.Name x pos'] e pos) (sT Γ E fun ρ => bindO (f ρ.all) fun d => purO d (setO ρ i (.val d))) :=
  PS.imp (ps_set hN hi hx h hs hf) fun Z σ H ⟨amb, H0, mr, tmp, ρ, ⟨ad, S⟩, h⟩ => eT_out S S.envAll h fun d v H1 x S1 r1 h1 => by
    obtain ⟨hp, h1⟩ := SOk.ifp h1
    obtain ⟨hr, h1⟩ := SOk.ifp h1
    exact h1 _ H1 ⟨ad, S1.setVal hr (r1.pureUp hp)⟩
/-- x = e, any value; e reads no container of the frame's own -/
theorem ts_setV (i : Nat) (h : PE X e (eT Γ E f)) (hN : X.N.Nodup) (hi : X.N[i]? = some x := by rfl) (hx : Loc X.env.scope x := by first | exact Or.inl rfl | exact Or.inr rfl) (hs : swapsWith e (some (.Name x pos')) pos.line X.env = pure false := by rfl) (hf : X.fn x = true ∨ X.env.scope.names.lookup x = some .local := by first | exact .inl rfl | exact .inr rfl) :
    PS X (.Assign [.Name x pos'] e pos) (sT Γ E fun ρ => bindO (f ρ.vis) fun d => setO ρ i (.val d)) :=
  PS.imp (ps_set hN hi hx h hs hf) fun Z σ H ⟨amb, H0, mr, tmp, ρ, ⟨ad, S⟩, h⟩ => eT_out S S.envVis h fun d v H1 x S1 r1 h1 => by
    obtain ⟨hr, h1⟩ := SOk.ifp h1
    exact h1 _ H1 ⟨ad, S1.setVal hr r1⟩
/-- x = e, a new container of values without lists and dicts -/
theorem ts_new (i : Nat) (h : PE X e (nT Γ E f)) (hN : X.N.Nodup) (hi : X.N[i]? = some x := by rfl) (hx : Loc X.env.scope x := by first | exact Or.inl rfl | exact Or.inr rfl) (hs : swapsWith e (some (.Name x pos')) pos.line X.env = pure false := by rfl) (hf : X.fn x = true ∨ X.env.scope.names.lookup x = some .local := by first | exact .inl rfl | exact .inr rfl) :
    PS X (.Assign [.Name x pos'] e pos) (sT Γ E fun ρ => bindO (f ρ.all) fun d => if purC d = true then setO ρ i (.own d) else .no) :=
  PS.imp (ps_set hN hi hx h hs hf) fun Z σ H ⟨amb, H0, mr, tmp, ρ, ⟨ad, S⟩, h⟩ => nT_out S S.envAll h fun d q H1 x hq ho h1 => by
    obtain ⟨hp, h1⟩ := SOk.ifp h1
    obtain ⟨hr, h1⟩ := SOk.ifp h1
    exact h1 _ H1 (S.setNew hr x hq (ho.pureUp hp))
/-- x = e, a new container of any values; e reads no container of the frame's own -/
theorem ts_newV (i : Nat) (h : PE X e (nT Γ E f)) (hN : X.N.Nodup) (hi : X.N[i]? = some x := by rfl) (hx : Loc X.env.scope x := by first | exact Or.inl rfl | exact Or.inr rfl) (hs : swapsWith e (some (.Name x pos')) pos.line X.env = pure false := by rfl) (hf : X.fn x = true ∨ X.env.scope.names.lookup x = some .local := by first | exact .inl rfl | exact .inr rfl) :
    PS X (.Assign [.Name x pos'] e pos) (sT Γ E fun ρ => bindO (f ρ.vis) fun d => setO ρ i (.own d)) :=
  PS.imp (ps_set hN hi hx h hs hf) fun Z σ H ⟨amb, H0, mr, tmp, ρ, ⟨ad, S⟩, h⟩ => nT_out S S.envVis h fun d q H1 x hq ho h1 => by
    obtain ⟨hr, h1⟩ := SOk.ifp h1
    exact h1 _ H1 (S.setNew hr x hq ho)
/-! the frame's own containers change -/
def contOf (ρ : SEnv) (i : Nat) : Res D := match ρ[i]? with | some (.own d) => .ok d | some (.row d) => .ok d | _ => .no
def putO (ρ : SEnv) (i : Nat) (d : D) : Out := match ρ[i]? with | some s => .nx (ρ.set i (s.put d)) | none => .no
theorem cont_out {amb : Addr → Prop} {mr : Mr} {H0 H : Hp} {tmp : List (V × D)} {ad : Nat → Addr} {σ : St} {ρ : SEnv} {Z : Ends} {i : Nat} {kk : D → Out} (S : SAd Γ amb H0 mr tmp ad σ H ρ) (h : SOk Γ amb H0 mr tmp (bindO (contOf ρ i) kk) Z E) :
    ∃ s d, ρ[i]? = some s ∧ (s = .own d ∨ s = .row d) ∧ Cont ρ i d ∧ SOk Γ amb H0 mr tmp (kk d) Z E := by
  unfold contOf at h
  cases q : ρ[i]? with
  | none => simp only [q] at h; exact (show False from h).elim
  | some s =>
    simp only [q] at h
    cases s with
    | dead => exact (show False from h).elim
    | val d => exact (show False from h).elim
    | own d => exact ⟨_, d, rfl, .inl rfl, .inl q, h⟩
    | row d => exact ⟨_, d, rfl, .inr rfl, .inr q, h⟩
theorem putO_out {amb : Addr → Prop} {mr : Mr} {H0 H : Hp} {tmp : List (V × D)} {ad : Nat → Addr} {σ : St} {ρ : SEnv} {Z : Ends} {i : Nat} {s : Sl} {d d' : D} {u : HO} (S : SAd Γ amb H0 mr tmp ad σ H ρ) (hs : ρ[i]? = some s) (hc : s = .own d ∨ s = .row d)
    (h : SOk Γ amb H0 mr tmp (putO ρ i d') Z E) (o : OwnAt Γ.kr (avO amb ad ρ) (upd H (ad i) u) d' (ad i)) : Z.nx σ (upd H (ad i) u) := by
  unfold putO at h
  rw [hs] at h
  exact h σ _ ⟨ad, S.write hs hc o⟩
/-- items that stand while the list at a is written -/
theorem rpl_write {K : Kr} {av : Addr → Prop} {H : Hp} {a : Addr} {o u : HO} {ds : List D} {vs : List V} (h : H a = some o) (ho : contO o) (n : av a) (r : RpL K av H ds vs) : RpL K av (upd H a u) ds vs := r.stay (Stay.write h ho n)
theorem rp_write {K : Kr} {av : Addr → Prop} {H : Hp} {a : Addr} {o u : HO} {d : D} {v : V} (h : H a = some o) (ho : contO o) (n : av a) (r : Rp K av H d v) : Rp K av (upd H a u) d v := r.stay (Stay.write h ho n)
/-- x.append(e): a value without lists and dicts -/
def appO (f : Env → Res D) (i : Nat) : SEnv → Out := fun ρ => bindO (contOf ρ i) fun l => match l with | .lst ds => bindO (f ρ.all) fun d => purO d (if ds.length < lim then putO ρ i (.lst (ds ++ [d])) else .no) | _ => .no
/-- .. any value -/
def appVO (f : Env → Res D) (i : Nat) : SEnv → Out := fun ρ => bindO (contOf ρ i) fun l => match l with | .lst ds => bindO (f ρ.vis) fun d => if ds.length < lim then putO ρ i (.lst (ds ++ [d])) else .no | _ => .no
theorem app_run {i : Nat} {apos np : Pos} (h : PE X e (eT Γ E f)) (hi : X.N[i]? = some x) (hv : Vis X.env.scope x) (hd : (x == ("__debug__" : Str)) = false) (hcd : (x == ("__classdict__" : Str)) = false)
    (hfew : ((backTo pos' (starEach [e] X.env)).all (fun x => !x.1) && (backToKw pos' (keywordEach [] X.env)).all (fun x => x.1.isSome) && decide ([e].length + ([] : List Keyword).length + (if ([] : List Keyword).isEmpty then 0 else 1) < 30)) = true)
    (hline : (apos.endLine == pos'.line) = true) (he : starEach [e] X.env = (false, eval e X.env) :: starEach [] X.env) (hs : swapsWith (.Call (.Attribute (.Name x np) "append" apos) [e] [] pos') none pos.line X.env = pure false)
    (hb : attributeBase (.Name x np) "append" X.env (eval (.Name x np) X.env) = eval (.Name x np) X.env) :
    PS X (.Expr (.Call (.Attribute (.Name x np) "append" apos) [e] [] pos') pos) (tDrop (tBM X.K "list" rAppend (tVar i) (tCons (eT Γ E f) tNil))) :=
  ps_expr (pe_bm PySem.F.plainAttrs_list PySem.F.slot_list_append PySem.F.type_list_append mt_append (pv i hi hv hd hcd) (pa_cons h pa_nil he) hb hfew hline he) hs
theorem ts_app (i : Nat) {apos np : Pos} (h : PE X e (eT Γ E f)) (hi : X.N[i]? = some x := by rfl) (hv : Vis X.env.scope x := by first | exact Or.inl rfl | exact Or.inr (Or.inl rfl) | exact Or.inr (Or.inr rfl)) (hd : (x == ("__debug__" : Str)) = false := by decide) (hcd : (x == ("__classdict__" : Str)) = false := by decide)
    (hfew : ((backTo pos' (starEach [e] X.env)).all (fun x => !x.1) && (backToKw pos' (keywordEach [] X.env)).all (fun x => x.1.isSome) && decide ([e].length + ([] : List Keyword).length + (if ([] : List Keyword).isEmpty then 0 else 1) < 30)) = true := by rfl)
    (hline : (apos.endLine == pos'.line) = true := by rfl) (he : starEach [e] X.env = (false, eval e X.env) :: starEach [] X.env := by rfl) (hs : swapsWith (.Call (.Attribute (.Name x np) "append" apos) [e] [] pos') none pos.line X.env = pure false := by rfl)
    (hb : attributeBase (.Name x np) "append" X.env (eval (.Name x np) X.env) = eval (.Name x np) X.env := by rfl) :
    PS X (.Expr (.Call (.Attribute (.Name x np) "append" apos) [e] [] pos') pos) (sT Γ E (appO f i)) := by
  refine PS.imp (app_run h hi hv hd hcd hfew hline he hs hb) fun Z σ H ⟨amb, H0, mr, tmp, ρ, ⟨ad, S⟩, h⟩ => ?_
  obtain ⟨s, l, hs, hc, c, h⟩ := cont_out S h
  obtain ⟨g1, g2⟩ := S.own i l c
  have hav : avO amb ad ρ (ad i) := .inr ⟨i, l, c, rfl⟩
  cases l with
  | lst ds =>
    obtain ⟨vs, g3, g4⟩ := g2
    refine ⟨_, g1, .inl ⟨rfl, vs, SqL.of g3⟩, ?_⟩
    refine eT_out S S.envAll h fun d v H1 x1 S1 r1 h1 => ?_
    obtain ⟨hp, h1⟩ := SOk.ifp h1
    obtain ⟨hz, h1⟩ := SOk.ifp h1
    have g3' := x1.keepL g3 (S.notRow c)
    exact ⟨_, vs, v, rfl, rfl, g3', by rw [lim_eq, ← g4.length]; exact hz, putO_out S1 hs hc h1 ⟨_, upd_same, (rpl_write g3' True.intro hav (g4.ext x1)).append (.cons (rp_write g3' True.intro hav (r1.pureUp hp)) .nil)⟩⟩
  | _ => exact (show False from h).elim
theorem ts_appV (i : Nat) {apos np : Pos} (h : PE X e (eT Γ E f)) (hi : X.N[i]? = some x := by rfl) (hv : Vis X.env.scope x := by first | exact Or.inl rfl | exact Or.inr (Or.inl rfl) | exact Or.inr (Or.inr rfl)) (hd : (x == ("__debug__" : Str)) = false := by decide) (hcd : (x == ("__classdict__" : Str)) = false := by decide)
    (hfew : ((backTo pos' (starEach [e] X.env)).all (fun x => !x.1) && (backToKw pos' (keywordEach [] X.env)).all (fun x => x.1.isSome) && decide ([e].length + ([] : List Keyword).length + (if ([] : List Keyword).isEmpty then 0 else 1) < 30)) = true := by rfl)
    (hline : (apos.endLine == pos'.line) = true := by rfl) (he : starEach [e] X.env = (false, eval e X.env) :: starEach [] X.env := by rfl) (hs : swapsWith (.Call (.Attribute (.Name x np) "append" apos) [e] [] pos') none pos.line X.env = pure false := by rfl)
    (hb : attributeBase (.Name x np) "append" X.env (eval (.Name x np) X.env) = eval (.Name x np) X.env := by rfl) :
    PS X (.Expr (.Call (.Attribute (.Name x np) "append" apos) [e] [] pos') pos) (sT Γ E (appVO f i)) := by
  refine PS.imp (app_run h hi hv hd hcd hfew hline he hs hb) fun Z σ H ⟨amb, H0, mr, tmp, ρ, ⟨ad, S⟩, h⟩ => ?_
  obtain ⟨s, l, hs, hc, c, h⟩ := cont_out S h
  obtain ⟨g1, g2⟩ := S.own i l c
  have hav : avO amb ad ρ (ad i) := .inr ⟨i, l, c, rfl⟩
  cases l with
  | lst ds =>
    obtain ⟨vs, g3, g4⟩ := g2
    refine ⟨_, g1, .inl ⟨rfl, vs, SqL.of g3⟩, ?_⟩
    refine eT_out S S.envVis h fun d v H1 x1 S1 r1 h1 => ?_
    obtain ⟨hz, h1⟩ := SOk.ifp h1
    have g3' := x1.keepL g3 (S.notRow c)
    exact ⟨_, vs, v, rfl, rfl, g3', by rw [lim_eq, ← g4.length]; exact hz, putO_out S1 hs hc h1 ⟨_, upd_same, (rpl_write g3' True.intro hav (g4.ext x1)).append (.cons (rp_write g3' True.intro hav r1) .nil)⟩⟩
  | _ => exact (show False from h).elim
/-- x[j] = e of a list of one's own: values without lists and dicts -/
def setiO (f : Env → Res D) (i : Nat) (fj : Env → Res D) : SEnv → Out := fun ρ => bindO (f ρ.all) fun d => purO d (bindO (contOf ρ i) fun l => match l with
  | .lst ds => bindO (fj ρ.all) fun j => match j with | .int j => (match ixN ds.length j with | some n => putO ρ i (.lst (ds.set n d)) | none => .no) | _ => .no
  | _ => .no)
theorem ts_seti (i : Nat) {np : Pos} (h : PE X e (eT Γ E f)) (hj : PE X b (eT Γ E fb)) (hi : X.N[i]? = some x := by rfl) (hv : Vis X.env.scope x := by first | exact Or.inl rfl | exact Or.inr (Or.inl rfl) | exact Or.inr (Or.inr rfl)) (hd : (x == ("__debug__" : Str)) = false := by decide) (hcd : (x == ("__classdict__" : Str)) = false := by decide)
    (ha : ∀ v, assign (.Subscript (.Name x np) b pos') X.env v = (do
      let ov ← holding [v] (eval (.Name x np) X.env)
      let iv ← holding [v, ov] (eval b X.env)
      standAt pos'
      holding [v, ov, iv] (setItem ov iv v)
      release [v, ov, iv] []) := by intro _; rfl)
    (hs : swapsWithSole [.Subscript (.Name x np) b pos'] e pos.line X.env = pure false := by rfl) (hw : swappedStores [.Subscript (.Name x np) b pos'] e X.env = pure none := by rfl)
    (h1 : (assignEach [.Subscript (.Name x np) b pos'] X.env).map (·.2) = [assign (.Subscript (.Name x np) b pos') X.env] := by rfl) :
    PS X (.Assign [.Subscript (.Name x np) b pos'] e pos) (sT Γ E (setiO f i fb)) := by
  refine PS.imp (ps_asg h (pg_sub (pv i hi hv hd hcd) hj set_list ha) hs hw h1) fun Z σ H ⟨amb, H0, mr, tmp, ρ, ⟨ad, S⟩, h⟩ => ?_
  refine eT_out S S.envAll h fun d v H1 x1 S1 r1 h1 => ?_
  obtain ⟨hp, h1⟩ := SOk.ifp h1
  obtain ⟨s, l, hs, hc, c, h1⟩ := cont_out S1 h1
  obtain ⟨g1, g2⟩ := S1.own i l c
  have hav : avO amb ad ρ (ad i) := .inr ⟨i, l, c, rfl⟩
  cases l with
  | lst ds =>
    obtain ⟨vs, g3, g4⟩ := g2
    refine ⟨_, g1, ?_⟩
    refine eT_out S1 S1.envAll h1 fun j w H2 x2 S2 r2 h2 => ?_
    cases r2 with
    | int j =>
      cases q : ixN ds.length j with
      | none => simp only [q] at h2; exact (show False from h2).elim
      | some n =>
        simp only [q] at h2
        have g3' := x2.keepL g3 (S1.notRow c)
        exact ⟨_, vs, j, n, rfl, rfl, g3', by rw [← g4.length]; exact q, putO_out S2 hs hc h2 ⟨_, upd_same, (rpl_write g3' True.intro hav (g4.ext x2)).set (rp_write g3' True.intro hav ((r1.pureUp hp).ext x2)) n⟩⟩
    | _ => exact (show False from h2).elim
  | _ => exact (show False from h1).elim
/-- x += e of a whole number, a text -/
def augO (f : Env → Res D) (i : Nat) (g : D → D → Res D) : SEnv → Out := fun ρ => bindO (vr ρ.all i) fun a => bindO (f ρ.all) fun b => bindO (g a b) fun d => purO d (setO ρ i (.val d))
theorem vr_rp {av : Addr → Prop} {H : Hp} {σ : St} {ρ : Env} {i : Nat} {d : D} (env : EnvV Γ av H σ ρ) (h : vr ρ i = .ok d) : ∃ v, σ[i]? = some (some v) ∧ Rp Γ.kr av H d v := by
  unfold vr at h
  split at h
  · rename_i d' e
    cases h
    exact env.at_ i _ e
  · cases h
theorem bindO_vr {amb : Addr → Prop} {mr : Mr} {H0 : Hp} {tmp : List (V × D)} {Z : Ends} {ρ : Env} {i : Nat} {k : D → Out} (h : SOk Γ amb H0 mr tmp (bindO (vr ρ i) k) Z E) : ∃ d, vr ρ i = .ok d ∧ SOk Γ amb H0 mr tmp (k d) Z E := by
  unfold vr at h ⊢
  split at h
  · rename_i d e
    exact ⟨d, rfl, h⟩
  · exact (show False from h).elim
theorem ip_or {op : Operator} {t t' : TIp} (h : PIp X op t) (h' : PIp X op t') : PIp X op (fun x y H Q => t x y H Q ∨ t' x y H Q) := fun pins s σ H x y v u Q I rx ry q => q.elim (h pins s σ H x y v u Q I rx ry) (h' pins s σ H x y v u Q I rx ry)
theorem ip_addS : PIp X .Add (fun x y H Q => ∃ i j, x = .str i ∧ y = .str j ∧ i.length + j.length ≤ sizeLine ∧ Q (.str (i ++ j)) H) := fun pins s σ H x y v u Q I rx ry q => iop_add_str pins s σ H x y v u Q I rx ry q
theorem ip_mulW : PIp X .Mult (rI CMulW fun i j => .int (i * j)) := fun pins s σ H x y v u Q I rx ry q =>
  opI (fun _ _ _ _ _ _ _ hc q => imul_int q hc.ok) pins s σ H x y v u Q I rx ry q
theorem ts_aug {op : Operator} {t : TIp} {g : D → D → Res D} (i : Nat) (h : PE X e (eT Γ E f)) (hp : PIp X op t) (hg : Fit2 Γ E t g) (hN : X.N.Nodup) (hi : X.N[i]? = some x := by rfl) (hx : Loc X.env.scope x := by first | exact Or.inl rfl | exact Or.inr rfl) (hf : X.fn x = true ∨ X.env.scope.names.lookup x = some .local := by first | exact .inl rfl | exact .inr rfl) :
    PS X (.AugAssign (.Name x pos') op e pos) (sT Γ E (augO f i g)) := by
  refine PS.imp (ps_aug hN hi hx h hp hf) fun Z σ H ⟨amb, H0, mr, tmp, ρ, ⟨ad, S⟩, h⟩ => ?_
  obtain ⟨a, ea, h⟩ := bindO_vr h
  obtain ⟨v, g1, r0⟩ := vr_rp S.envAll ea
  refine ⟨v, g1, ?_⟩
  refine eT_out S S.envAll h fun d w H1 x1 S1 r1 h1 => ?_
  refine hg _ H1 a d v w _ S1.envAll.wf (r0.ext x1) r1 (SOk.bind S1 h1 fun z y H2 x2 S2 r2 h2 => ?_)
  obtain ⟨hpz, h2⟩ := SOk.ifp h2
  obtain ⟨hr, h2⟩ := SOk.ifp h2
  exact h2 _ H2 ⟨ad, S2.setVal hr (r2.pureUp hpz)⟩
def addIS : D → D → Res D := fun a b => match a with | .int _ => addI a b | .str _ => addS a b | _ => .no
theorem ts_augAdd (i : Nat) (h : PE X e (eT Γ E f)) (hN : X.N.Nodup) (hi : X.N[i]? = some x := by rfl) (hx : Loc X.env.scope x := by first | exact Or.inl rfl | exact Or.inr rfl) (hf : X.fn x = true ∨ X.env.scope.names.lookup x = some .local := by first | exact .inl rfl | exact .inr rfl) :
    PS X (.AugAssign (.Name x pos') .Add e pos) (sT Γ E (augO f i addIS)) :=
  ts_aug i h (ip_or ip_add ip_addS) (Fit2.or (f := addI) (f' := addS) fit_addI fit_addS fun a b => by cases a <;> first | exact .inl rfl | exact .inr rfl) hN hi hx hf
theorem ts_augMul (i : Nat) (h : PE X e (eT Γ E f)) (hN : X.N.Nodup) (hi : X.N[i]? = some x := by rfl) (hx : Loc X.env.scope x := by first | exact Or.inl rfl | exact Or.inr rfl) (hf : X.fn x = true ∨ X.env.scope.names.lookup x = some .local := by first | exact .inl rfl | exact .inr rfl) :
    PS X (.AugAssign (.Name x pos') .Mult e pos) (sT Γ E (augO f i mulI)) :=
  ts_aug i h ip_mulW fit_mulI hN hi hx hf

/-! ### branches -/
def ifO (t : Env → Res Bool) (g1 g2 : SEnv → Out) : SEnv → Out := fun ρ => bindO (t ρ.all) fun b => if b then g1 ρ else g2 ρ
theorem ts_if (ht : PT X c (bT Γ E ta)) (h1 : PSs X sts (sT Γ E g1)) (h2 : PSs X body (sT Γ E g2)) : PS X (.If c sts body pos) (sT Γ E (ifO ta g1 g2)) :=
  PS.imp (ps_if ht h1 h2) fun Z σ H ⟨amb, H0, mr, tmp, ρ, ⟨ad, S⟩, h⟩ => bT_out S S.envAll h fun b H1 x1 S1 h1 => by
    cases b with
    | true => exact iteT ⟨amb, H0, mr, tmp, ρ, ⟨ad, S1⟩, h1⟩
    | false => exact iteF ⟨amb, H0, mr, tmp, ρ, ⟨ad, S1⟩, h1⟩
/-- what is never reached -/
theorem ts_never : PS X st (sT Γ E fun _ => .no) := PS.imp ps_never fun Z σ H ⟨amb, H0, mr, tmp, ρ, S, h⟩ => h
end
end Fw
end
set_option Elab.async false
set_option linter.all false
set_option autoImplicit false
set_option maxRecDepth 100000
set_option maxHeartbeats 4000000
/-! Fw7: targets, loops. -/
noncomputable section
namespace Fw
open PySem PySem.Spec PyProof.Rows L2

/-! ### targets -/
inductive Tg where
  | nm (i : Nat) | tp (ts : List Tg)
mutual
def Tg.unp : Tg → D → Option (List (Nat × D))
  | .nm i, d => some [(i, d)]
  | .tp ts, .tup ds => Tg.unpL ts ds
  | .tp _, _ => none
def Tg.unpL : List Tg → List D → Option (List (Nat × D))
  | [], [] => some []
  | t :: ts, d :: ds => match t.unp d, Tg.unpL ts ds with
    | some a, some b => some (a ++ b)
    | _, _ => none
  | _, _ => none
end
structure Chg (K : Kr) (av : Addr → Prop) (H : Hp) (ps : List (Nat × D)) (σ σ' : St) : Prop where
  len : σ'.length = σ.length
  other : ∀ j, (∀ p ∈ ps, p.1 ≠ j) → σ'[j]? = σ[j]?
  at_ : ∀ p ∈ ps, p.1 < σ.length → ∃ w, σ'[p.1]? = some (some w) ∧ Rp K av H p.2 w
def gT (Γ : Gm) (t : Tg) : TG := fun v σ H Q => ∃ av d ps, Wf Γ av H ∧ Rp Γ.kr av H d v ∧ t.unp d = some ps ∧ (ps.map (·.1)).Nodup ∧ ∀ σ' H', Ext Γ H H' → Chg Γ.kr av H' ps σ σ' → Q σ' H'
def gTs (Γ : Gm) (ts : List Tg) : TGs := fun vs σ H Q => ∃ av ds ps, Wf Γ av H ∧ RpL Γ.kr av H ds vs ∧ Tg.unpL ts ds = some ps ∧ (ps.map (·.1)).Nodup ∧ ∀ σ' H', Ext Γ H H' → Chg Γ.kr av H' ps σ σ' → Q σ' H'
theorem PG.imp {X : Cx} {e : Expr} {t t' : TG} (h : PG X e t) (i : ∀ v σ H Q, t' v σ H Q → t v σ H Q) : PG X e t' := ⟨fun pins s σ H v u Q I r q => h.run pins s σ H v u Q I r (i v σ H Q q)⟩
theorem PGs.imp {X : Cx} {e : List Expr} {t t' : TGs} (h : PGs X e t) (i : ∀ v σ H Q, t' v σ H Q → t v σ H Q) : PGs X e t' := ⟨fun pins s σ H v u Q I r q => h.run pins s σ H v u Q I r (i v σ H Q q)⟩
theorem PI.imp {X : Cx} {tg e : Expr} {t t' : TI} (h : PI X tg e t) (i : ∀ σ H R, t' σ H R → t σ H R) : PI X tg e t' := ⟨fun pins s σ H R I q => h.run pins s σ H R I (i σ H R q)⟩
theorem PI.or {X : Cx} {tg e : Expr} {t t' : TI} (h : PI X tg e t) (h' : PI X tg e t') : PI X tg e (fun σ H R => t σ H R ∨ t' σ H R) := ⟨fun pins s σ H R I q => q.elim (h.run pins s σ H R I) (h'.run pins s σ H R I)⟩
theorem Chg.one {K : Kr} {av : Addr → Prop} {H : Hp} {σ : St} {i : Nat} {d : D} {v : V} (r : Rp K av H d v) : Chg K av H [(i, d)] σ (σ.set i (some v)) :=
  ⟨by simp, fun j h => by rw [List.getElem?_set_ne (h (i, d) List.mem_cons_self)], fun p hp hl => by
    rcases List.mem_cons.mp hp with rfl | hp
    · exact ⟨v, List.getElem?_set_self hl, r⟩
    · cases hp⟩
theorem Chg.app {K : Kr} {av : Addr → Prop} {H H' : Hp} {σ σ1 σ2 : St} {a b : List (Nat × D)} (h1 : Chg K av H a σ σ1) (h2 : Chg K av H' b σ1 σ2) (k : ∀ d v, Rp K av H d v → Rp K av H' d v) (nd : ((a ++ b).map (·.1)).Nodup) : Chg K av H' (a ++ b) σ σ2 := by
  rw [List.map_append, List.nodup_append] at nd
  refine ⟨h2.len.trans h1.len, fun j h => ?_, fun p hp hl => ?_⟩
  · rw [h2.other j fun p hp => h p (List.mem_append_right _ hp), h1.other j fun p hp => h p (List.mem_append_left _ hp)]
  · rcases List.mem_append.mp hp with hp | hp
    · obtain ⟨w, e, r⟩ := h1.at_ p hp hl
      refine ⟨w, ?_, k _ _ r⟩
      rw [h2.other p.1 fun q hq z => nd.2.2 p.1 (List.mem_map_of_mem hp) q.1 (List.mem_map_of_mem hq) z.symm]
      exact e
    · exact h2.at_ p hp (by rw [h1.len]; exact hl)
section
variable {X : Cx} {Γ : Gm} {E : XK} {x : Str} {a b c o e iter : Expr} {es : List Expr} {st : Stmt} {sts body : List Stmt} {pos p p2 pos' pos'' : Pos} {f fa fb fc : Env → Res D} {ta : Env → Res Bool} {fs : Env → Res (List D)} {k : Nat} {g g1 g2 : SEnv → Out} {t : Tg} {ts : List Tg}
theorem tg_nm (i : Nat) (hN : X.N.Nodup) (hi : X.N[i]? = some x := by rfl) (hx : Loc X.env.scope x := by first | exact Or.inl rfl | exact Or.inr rfl) (hf : X.fn x = true ∨ X.env.scope.names.lookup x = some .local := by first | exact .inl rfl | exact .inr rfl) : PG X (.Name x pos) (gT Γ (.nm i)) :=
  PG.imp (pg_name hN hi hx hf) fun v σ H Q ⟨av, d, ps, wf, r, hu, nd, q⟩ => by
    cases hu
    exact q _ H (Ext.refl Γ H) (Chg.one r)
theorem tgs_nil : PGs X [] (gTs Γ []) := PGs.imp pgs_nil fun vs σ H Q ⟨av, ds, ps, wf, r, hu, nd, q⟩ => by
  cases r with
  | cons _ _ => cases hu
  | nil =>
    cases hu
    exact ⟨rfl, q σ H (Ext.refl Γ H) ⟨rfl, fun _ _ => rfl, fun p hp => absurd hp (by simp)⟩⟩
theorem tgs_cons (h1 : PG X e (gT Γ t)) (h2 : PGs X es (gTs Γ ts)) (hs : (assignEach (e :: es) X.env).map (·.2) = assign e X.env :: (assignEach es X.env).map (·.2) := by rfl) : PGs X (e :: es) (gTs Γ (t :: ts)) :=
  PGs.imp (pgs_cons h1 h2 hs) fun vs σ H Q ⟨av, ds, ps, wf, r, hu, nd, q⟩ => by
    cases r with
    | nil => cases hu
    | @cons d ds v vs r1 r2 =>
      unfold Tg.unpL at hu
      cases e1 : t.unp d with
      | none => simp only [e1] at hu; cases hu
      | some pa =>
        cases e2 : Tg.unpL ts ds with
        | none => simp only [e1, e2] at hu; cases hu
        | some pb =>
          simp only [e1, e2] at hu
          cases hu
          have nd' := nd
          rw [List.map_append, List.nodup_append] at nd
          exact ⟨v, vs, rfl, av, d, pa, wf, r1, e1, nd.1, fun σ1 H1 x1 c1 => ⟨av, ds, pb, wf.ext x1, r2.ext x1, e2, nd.2.1, fun σ2 H2 x2 c2 => q σ2 H2 (x1.trans x2) (c1.app c2 (fun _ _ z => z.ext x2) nd')⟩⟩
theorem unpL_len : ∀ {ts : List Tg} {ds : List D} {ps : List (Nat × D)}, Tg.unpL ts ds = some ps → ts.length = ds.length
  | [], [], _, _ => rfl
  | [], _ :: _, _, h => by cases h
  | _ :: _, [], _, h => by cases h
  | t :: ts, d :: ds, _, h => by
    unfold Tg.unpL at h
    cases e1 : t.unp d with
    | none => simp only [e1] at h; cases h
    | some pa =>
      cases e2 : Tg.unpL ts ds with
      | none => simp only [e1, e2] at h; cases h
      | some pb => exact congrArg (· + 1) (unpL_len e2)
theorem tg_tp {kt : Nat} (hc : X.calm = true) (h : PGs X es (gTs Γ ts)) (hn : (assignEach es X.env).length = ts.length := by rfl) (hst : (assignEach es X.env).findIdx? (·.1) = none := by rfl) (hK : X.K = Γ.K := by rfl) : PG X (.Tuple es kt pos) (gT Γ (.tp ts)) :=
  PG.imp (pg_tup hc h hn hst) fun v σ H Q ⟨av, d, ps, wf, r, hu, nd, q⟩ => by
    cases r with
    | @tup a vs ds g1 g2 =>
      rw [hK]
      refine ⟨a, vs, rfl, SqT.of g1, by rw [← g2.length]; exact (unpL_len hu).symm, av, ds, ps, wf, g2, hu, nd, q⟩
    | _ => cases hu

/-! ### what is walked -/
structure Wlk (Γ : Gm) (J : It) (pins : List (V × D)) (ds : List D) : Prop where
  go : ∀ (av : Addr → Prop) (i : Nat) (H : Hp), Wf Γ av H → (∀ p ∈ pins, Rp Γ.kr av H p.2 p.1) → i < ds.length → J.go i H
  yld : ∀ (av : Addr → Prop) (i : Nat) (H : Hp) (x : V) (H' : Hp), Wf Γ av H → (∀ p ∈ pins, Rp Γ.kr av H p.2 p.1) → i < ds.length → J.yld i H x H' → Ext Γ H H' ∧ ∃ d, ds[i]? = some d ∧ Rp Γ.kr av H' d x
  stop : ∀ (av : Addr → Prop) (i : Nat) (H : Hp), Wf Γ av H → (∀ p ∈ pins, Rp Γ.kr av H p.2 p.1) → ds.length ≤ i → J.stop i H
def wT (Γ : Gm) (E : XK) (np : Bool) (f : Env → Res (List D)) : TI := fun σ H R => ∃ av ρ, EnvV Γ av H σ ρ ∧ ROk Γ av H (fun H' ds (b : It × List (V × D)) => (np = true → b.2 = []) ∧ (∀ p ∈ b.2, Rp Γ.kr av H' p.2 p.1) ∧ Wlk Γ b.1 b.2 ds) (f ρ) (fun b H' => R b.1 H') E
/-! ranges -/
def rangeD (lo : Int) (n : Nat) : List D := (List.range n).map fun (i : Nat) => D.int (lo + (i : Int))
theorem rangeD_get {lo : Int} {n i : Nat} (h : i < n) : (rangeD lo n)[i]? = some (D.int (lo + (i : Int))) := by
  unfold rangeD
  rw [List.getElem?_map, List.getElem?_range h]
  rfl
theorem wlk_range {lo : Int} {n : Nat} : Wlk Γ (Itr lo n) [] (rangeD lo n) where
  go := fun av i H wf hp hi => by
    show i < n
    simpa [rangeD] using hi
  yld := fun av i H x H' wf hp hi y => by
    obtain ⟨rfl, rfl⟩ := y
    have hi : i < n := by simpa [rangeD] using hi
    exact ⟨Ext.refl Γ _, _, rangeD_get hi, .int _⟩
  stop := fun av i H wf hp hi => by
    show n ≤ i
    simpa [rangeD] using hi
def inR (i : Int) : Prop := -(2 ^ 62) ≤ i ∧ i < 2 ^ 62
instance (i : Int) : Decidable (inR i) := Classical.propDecidable _
def itemsF (f : Env → Res D) : Env → Res (List D) := fun ρ => (f ρ).bind fun d => match d with | .lst ds => .ok ds | .tup ds => .ok ds | .arr _ ns => .ok (ns.map .int) | .rng lo hi => if inR lo ∧ inR hi then .ok (rangeD lo (hi - lo).toNat) else .no | _ => .no
theorem wlk_lst {a : Addr} {ds : List D} : Wlk Γ (Itl Γ.K a) [(.ref a, .lst ds)] ds where
  go := fun av i H wf hp hi => by
    have r := hp _ List.mem_cons_self
    cases r with
    | lst h n r =>
      obtain ⟨v, e, _⟩ := r.get (List.getElem?_eq_getElem hi)
      exact ⟨_, v, SqL.of h, e⟩
  yld := fun av i H x H' wf hp hi y => by
    have r := hp _ List.mem_cons_self
    obtain ⟨rfl, y⟩ := y
    cases r with
    | lst h n r =>
      obtain ⟨d, e, rd⟩ := r.getV (y _ (SqL.of h))
      exact ⟨Ext.refl Γ _, d, e, rd⟩
  stop := fun av i H wf hp hi => by
    have r := hp _ List.mem_cons_self
    cases r with
    | lst h n r => exact ⟨_, SqL.of h, by rw [← r.length]; exact hi⟩
theorem wlk_arr {a : Addr} {ns : List Int} : Wlk Γ (Itl Γ.K a) [(.ref a, .arr a ns)] (ns.map .int) where
  go := fun av i H wf hp hi => by
    have r := hp _ List.mem_cons_self
    cases r with
    | arr _ _ h => exact ⟨_, .int (ns[i]'(by simpa using hi)), h.sq, by rw [List.getElem?_map, List.getElem?_eq_getElem (by simpa using hi)]; rfl⟩
  yld := fun av i H x H' wf hp hi y => by
    have r := hp _ List.mem_cons_self
    obtain ⟨rfl, y⟩ := y
    cases r with
    | arr _ _ h =>
      have e := y _ h.sq
      rw [List.getElem?_map] at e
      cases q : ns[i]? with
      | none => rw [q] at e; cases e
      | some n =>
        rw [q] at e
        cases e
        exact ⟨Ext.refl Γ _, .int n, by rw [List.getElem?_map, q]; rfl, .int n⟩
  stop := fun av i H wf hp hi => by
    have r := hp _ List.mem_cons_self
    cases r with
    | arr _ _ h => exact ⟨_, h.sq, by simpa using hi⟩
theorem wlk_tup {a : Addr} {ds : List D} : Wlk Γ (Itt Γ.K a) [(.ref a, .tup ds)] ds where
  go := fun av i H wf hp hi => by
    have r := hp _ List.mem_cons_self
    cases r with
    | tup h r =>
      obtain ⟨v, e, _⟩ := r.get (List.getElem?_eq_getElem hi)
      exact ⟨_, v, SqT.of h, e⟩
  yld := fun av i H x H' wf hp hi y => by
    have r := hp _ List.mem_cons_self
    obtain ⟨rfl, y⟩ := y
    cases r with
    | tup h r =>
      obtain ⟨d, e, rd⟩ := r.getV (y _ (SqT.of h))
      exact ⟨Ext.refl Γ _, d, e, rd⟩
  stop := fun av i H wf hp hi => by
    have r := hp _ List.mem_cons_self
    cases r with
    | tup h r => exact ⟨_, SqT.of h, by rw [← r.length]; exact hi⟩
theorem pin1 {av : Addr → Prop} {H : Hp} {v : V} {d : D} (r : Rp Γ.kr av H d v) : ∀ p ∈ [(v, d)], Rp Γ.kr av H p.2 p.1 := fun p hp => by
  rcases List.mem_cons.mp hp with rfl | hp
  · exact r
  · cases hp
theorem pin2 {av : Addr → Prop} {H : Hp} {v u : V} {d e : D} (r : Rp Γ.kr av H d v) (q : Rp Γ.kr av H e u) : ∀ p ∈ [(v, d), (u, e)], Rp Γ.kr av H p.2 p.1 := fun p hp => by
  rcases List.mem_cons.mp hp with rfl | hp
  · exact r
  · exact pin1 q p hp
/-- over a list, a tuple -/
theorem pi_seqA {tg l : Expr} {tl : TE} (hl : PE X l tl) : PI X tg l (fun σ H R => tl σ H fun x H1 => ∃ a, x = .ref a ∧ (((∃ xs, SqL X.K H1 a xs) ∧ R (Itl X.K a) H1) ∨ ((∃ xs, SqT X.K H1 a xs) ∧ R (Itt X.K a) H1) ∨ ∃ lo hi, H1 a = some (.rng lo hi) ∧ inR lo ∧ inR hi ∧ R (Itr lo (hi - lo).toNat) H1)) := by
  refine ⟨fun pins s σ H R I h => ?_⟩
  refine thn (hl.run pins s σ H _ I h) fun v s1 ⟨x, H1, I1, r1, q1⟩ => ?_
  obtain ⟨a, e, q1⟩ := q1
  subst e
  cases r1
  rcases q1 with ⟨⟨xs, hq⟩, q⟩ | ⟨⟨xs, hq⟩, q⟩ | ⟨lo, hi, hq, b1, b2, q⟩
  · obtain ⟨its, rv, p, hz⟩ := I1.list hq
    refine wpAny_pyIter_list p.isList ?_
    refine ⟨s1.heap.objs.size, [s1.heap.objs.size], _, _, H1, rfl, I1.kept (t' := s1.toks) fun b o e => Heap.get?_push_of_some _ e, turn_list a _, ⟨_, Heap.get?_push_size _ rfl, rfl, rfl⟩, fun b hb => ?_, q⟩
    have e : b = s1.heap.objs.size := by simpa using hb
    subst e
    exact I1.fpOk (Nat.le_refl _) (I1.hok.fresh (Nat.le_refl _))
  · obtain ⟨its, rv, p, hz⟩ := I1.tuple hq
    refine wpAny_pyIter_tuple p ?_
    refine ⟨s1.heap.objs.size, [s1.heap.objs.size], _, _, H1, rfl, I1.kept (t' := s1.toks) fun b o e => Heap.get?_push_of_some _ e, turn_tuple a _, ⟨_, Heap.get?_push_size _ rfl, rfl, rfl⟩, fun b hb => ?_, q⟩
    have e : b = s1.heap.objs.size := by simpa using hb
    subst e
    exact I1.fpOk (Nat.le_refl _) (I1.hok.fresh (Nat.le_refl _))
  · obtain ⟨t1, t2, t3, ho⟩ := I1.hok a _ hq
    refine wpAny_pyIter_range ho (small_one b1.1 b1.2 b2.1 b2.2) ?_
    refine ⟨s1.heap.objs.size, [s1.heap.objs.size], _, _, H1, rfl, I1.kept (t' := s1.toks) fun b o e => Heap.get?_push_of_some _ e, turn_range _ lo (hi - lo).toNat, ?_, fun b hb => ?_, q⟩
    · have e1 : lo + ((0 : Nat) : Int) * 1 = lo := by simp
      have e2 : (((hi - lo).toNat : Nat) : Int) - ((0 : Nat) : Int) = Builtin.Range.rangeSize lo hi 1 := by rw [rangeSize_one]; split <;> omega
      show IsRangeIter _ _ (lo + ((0 : Nat) : Int) * 1) ((((hi - lo).toNat : Nat) : Int) - ((0 : Nat) : Int)) 1
      rw [e1, e2]
      exact Heap.get?_push_size _ rfl
    · have e : b = s1.heap.objs.size := by simpa using hb
      subst e
      exact I1.fpOk (Nat.le_refl _) (I1.hok.fresh (Nat.le_refl _))
theorem wi_seq {tg : Expr} (h : PE X a (eT Γ E fa)) (hK : X.K = Γ.K := by rfl) : PI X tg a (wT Γ E false (itemsF fa)) := by
  refine PI.imp (pi_seqA h) fun σ H R ⟨av, ρ, env, h⟩ => ?_
  rw [hK]
  refine eT_bind env h fun d v H1 x1 env1 r1 h1 => ?_
  cases r1 with
  | lst g n r => exact ⟨_, rfl, .inl ⟨⟨_, SqL.of g⟩, h1 (_, [(_, _)]) H1 (Ext.refl Γ H1) ⟨(fun z => by cases z), pin1 (.lst g n r), wlk_lst⟩⟩⟩
  | arr a ns g => exact ⟨_, rfl,   .inl ⟨⟨_, g.sq⟩, h1 (_, [(_, _)]) H1 (Ext.refl Γ H1) ⟨(fun z => by cases z), pin1 (.arr _ _ g), wlk_arr⟩⟩⟩
  | rng lo hi g =>
    obtain ⟨⟨b1, b2⟩, h1⟩ := ROk.ifp h1
    exact ⟨_, rfl, .inr (.inr ⟨lo, hi, g, b1, b2, h1 (_, []) H1 (Ext.refl Γ H1) ⟨(fun z => by cases z), (fun p hp => by cases hp), wlk_range⟩⟩)⟩
  | tup g r => exact ⟨_, rfl, .inr (.inl ⟨⟨_, SqT.of g⟩, h1 (_, [(_, _)]) H1 (Ext.refl Γ H1) ⟨(fun z => by cases z), pin1 (.tup g r), wlk_tup⟩⟩)⟩
  | _ => exact (show False from h1).elim
/-! ranges as walks -/
def rng1L : List D → Option (List D)
  | [.int j] => if inR j then some (rangeD 0 j.toNat) else none
  | _ => none
def rng2L : List D → Option (List D)
  | [.int i, .int j] => if inR i ∧ inR j then some (rangeD i (j - i).toNat) else none
  | _ => none
def ofO {α : Type} : Option α → Res α
  | some a => .ok a
  | none => .no
def itL (g : List D → Option (List D)) (fs : Env → Res (List D)) : Env → Res (List D) := fun ρ => (fs ρ).bind fun ds => ofO (g ds)
/-- a walk over what arguments make -/
theorem wi_args {np : Bool} {tg e : Expr} {g : List D → Option (List D)} {r : List V → Hp → (It → Hp → Prop) → Prop} (h : PI X tg e fun σ H R => aT Γ E fs σ H fun vs H1 => r vs H1 R)
    (hr : ∀ (av : Addr → Prop) (H : Hp) (ds us : List D) (vs : List V) (R : It → Hp → Prop), Wf Γ av H → RpL Γ.kr av H ds vs → g ds = some us → (∀ (J : It) (ps : List (V × D)), (np = true → ps = []) → (∀ p ∈ ps, Rp Γ.kr av H p.2 p.1) → Wlk Γ J ps us → R J H) → r vs H R) :
    PI X tg e (wT Γ E np (itL g fs)) := PI.imp h fun σ H R ⟨av, ρ, env, h⟩ => aT_bind env h fun ds vs H1 x1 env1 r1 h1 => by
  cases q : g ds with
  | some us =>
    rw [q] at h1
    exact hr av H1 ds us vs R env1.wf r1 q fun J ps hn hp w => h1 (J, ps) H1 (Ext.refl Γ _) ⟨hn, hp, w⟩
  | none => rw [q] at h1; exact h1.elim
theorem wi_range1 {np : Bool} {tg : Expr} (hm : X.mg "range" = none) (ha : PE X a (eT Γ E fa)) (hg : Gl X "range" := by rfl) (hs : starEach [a] X.env = [(false, eval a X.env)] := by rfl) : PI X tg (.Call (.Name "range" p) [a] [] pos) (wT Γ E np (itL rng1L (consA fa nilA))) :=
  wi_args (pi_range1 hg hm (ta_cons ha ta_nil hs) hs) (fun av H ds us vs R wf r q k => by
    cases r with
    | nil => cases q
    | cons r1 r2 =>
      cases r1 <;> first | cases q | skip
      cases r2 with
      | cons _ _ => cases q
      | nil =>
        rename_i j
        have q : (if inR j then some (rangeD 0 j.toNat) else none) = some us := q
        split at q
        · rename_i z
          cases q
          exact ⟨j, rfl, z.1, z.2, k _ [] (fun _ => rfl) (fun p hp => by cases hp) wlk_range⟩
        · cases q)
theorem wi_range2 {np : Bool} {tg : Expr} (hm : X.mg "range" = none) (ha : PE X a (eT Γ E fa)) (hb : PE X b (eT Γ E fb)) (hg : Gl X "range" := by rfl) (hs : starEach [a, b] X.env = [(false, eval a X.env), (false, eval b X.env)] := by rfl) (hs2 : starEach [b] X.env = [(false, eval b X.env)] := by rfl) :
    PI X tg (.Call (.Name "range" p) [a, b] [] pos) (wT Γ E np (itL rng2L (consA fa (consA fb nilA)))) :=
  wi_args (pi_range2 hg hm (ta_cons ha (ta_cons hb ta_nil hs2) (by rw [hs, hs2])) hs hs2) (fun av H ds us vs R wf r q k => by
    cases r with
    | nil => cases q
    | cons r1 r2 =>
      cases r1 <;> first | cases q | skip
      cases r2 with
      | nil => cases q
      | cons r2 r3 =>
        cases r2 <;> first | cases q | skip
        cases r3 with
        | cons _ _ => cases q
        | nil =>
          rename_i i j
          have q : (if inR i ∧ inR j then some (rangeD i (j - i).toNat) else none) = some us := q
          split at q
          · rename_i z
            cases q
            exact ⟨i, j, rfl, ⟨z.1.1, z.1.2, z.2.1, z.2.2⟩, k _ [] (fun _ => rfl) (fun p hp => by cases hp) wlk_range⟩
          · cases q)
/-! enumerate, zip -/
def enumD (ds : List D) : List D := ds.zipIdx.map fun p => .tup [.int (p.2 : Nat), p.1]
theorem enumD_get {ds : List D} {i : Nat} {d : D} (h : ds[i]? = some d) : (enumD ds)[i]? = some (.tup [.int (i : Nat), d]) := by
  unfold enumD
  rw [List.getElem?_map, List.getElem?_zipIdx, h]
  simp
theorem enumD_len {ds : List D} : (enumD ds).length = ds.length := by simp [enumD]
theorem wlk_enumL {a : Addr} {ds : List D} : Wlk Γ (Ite Γ.K a) [(.ref a, .lst ds)] (enumD ds) where
  go := fun av i H wf hp hi => by
    have r := hp _ List.mem_cons_self
    rw [enumD_len] at hi
    cases r with
    | lst h n r =>
      obtain ⟨v, e, _⟩ := r.get (List.getElem?_eq_getElem hi)
      exact ⟨_, v, SqL.of h, e⟩
  yld := fun av i H x H' wf hp hi y => by
    have r := hp _ List.mem_cons_self
    obtain ⟨T, x0, rfl, hT, rfl, y⟩ := y
    cases r with
    | lst h n r =>
      obtain ⟨d, e, rd⟩ := r.getV (y _ (SqL.of h))
      exact ⟨Ext.new _ hT, _, enumD_get e, .tup upd_same (.cons (.int _) (.cons (rd.ext (Ext.new _ hT)) .nil))⟩
  stop := fun av i H wf hp hi => by
    have r := hp _ List.mem_cons_self
    rw [enumD_len] at hi
    cases r with
    | lst h n r => exact ⟨_, SqL.of h, by rw [← r.length]; exact hi⟩
def zipD (as bs : List D) : List D := (as.zip bs).map fun p => .tup [p.1, p.2]
theorem zipD_get {as bs : List D} {i : Nat} {a b : D} (h : as[i]? = some a) (h' : bs[i]? = some b) : (zipD as bs)[i]? = some (.tup [a, b]) := by
  unfold zipD
  rw [List.getElem?_map, (List.getElem?_zip_eq_some (z := (a, b))).mpr ⟨h, h'⟩]
  rfl
theorem zipD_len {as bs : List D} : (zipD as bs).length = min as.length bs.length := by simp [zipD]
theorem wlk_zipL {a b : Addr} {as bs : List D} : Wlk Γ (Itz Γ.K a b) [(.ref a, .lst as), (.ref b, .lst bs)] (zipD as bs) where
  go := fun av i H wf hp hi => by
    have r := hp _ List.mem_cons_self
    have q := hp _ (List.mem_cons_of_mem _ List.mem_cons_self)
    rw [zipD_len] at hi
    cases r with
    | lst h n r =>
      cases q with
      | lst h' n' q =>
        obtain ⟨v, e, _⟩ := r.get (List.getElem?_eq_getElem (i := i) (by omega))
        obtain ⟨v', e', _⟩ := q.get (List.getElem?_eq_getElem (i := i) (by omega))
        exact ⟨_, _, v, v', SqL.of h, SqL.of h', e, e'⟩
  yld := fun av i H x H' wf hp hi y => by
    have r := hp _ List.mem_cons_self
    have q := hp _ (List.mem_cons_of_mem _ List.mem_cons_self)
    obtain ⟨T, x0, y0, rfl, hT, rfl, y, y'⟩ := y
    cases r with
    | lst h n r =>
      cases q with
      | lst h' n' q =>
        obtain ⟨d, e, rd⟩ := r.getV (y _ (SqL.of h))
        obtain ⟨d', e', rd'⟩ := q.getV (y' _ (SqL.of h'))
        exact ⟨Ext.new _ hT, _, zipD_get e e', .tup upd_same (.cons (rd.ext (Ext.new _ hT)) (.cons (rd'.ext (Ext.new _ hT)) .nil))⟩
  stop := fun av i H wf hp hi => by
    have r := hp _ List.mem_cons_self
    have q := hp _ (List.mem_cons_of_mem _ List.mem_cons_self)
    rw [zipD_len] at hi
    cases r with
    | lst h n r =>
      cases q with
      | lst h' n' q => exact ⟨_, _, SqL.of h, SqL.of h', by rw [← r.length, ← q.length]; omega⟩
theorem wlk_zipT {a b : Addr} {as bs : List D} : Wlk Γ (RZ.ItzT Γ.K a b) [(.ref a, .tup as), (.ref b, .tup bs)] (zipD as bs) where
  go := fun av i H wf hp hi => by
    have r := hp _ List.mem_cons_self
    have q := hp _ (List.mem_cons_of_mem _ List.mem_cons_self)
    rw [zipD_len] at hi
    cases r with
    | tup h r =>
      cases q with
      | tup h' q =>
        obtain ⟨v, e, _⟩ := r.get (List.getElem?_eq_getElem (i := i) (by omega))
        obtain ⟨v', e', _⟩ := q.get (List.getElem?_eq_getElem (i := i) (by omega))
        exact ⟨_, _, v, v', SqT.of h, SqT.of h', e, e'⟩
  yld := fun av i H x H' wf hp hi y => by
    have r := hp _ List.mem_cons_self
    have q := hp _ (List.mem_cons_of_mem _ List.mem_cons_self)
    obtain ⟨T, x0, y0, rfl, hT, rfl, y, y'⟩ := y
    cases r with
    | tup h r =>
      cases q with
      | tup h' q =>
        obtain ⟨d, e, rd⟩ := r.getV (y _ (SqT.of h))
        obtain ⟨d', e', rd'⟩ := q.getV (y' _ (SqT.of h'))
        exact ⟨Ext.new _ hT, _, zipD_get e e', .tup upd_same (.cons (rd.ext (Ext.new _ hT)) (.cons (rd'.ext (Ext.new _ hT)) .nil))⟩
  stop := fun av i H wf hp hi => by
    have r := hp _ List.mem_cons_self
    have q := hp _ (List.mem_cons_of_mem _ List.mem_cons_self)
    rw [zipD_len] at hi
    cases r with
    | tup h r =>
      cases q with
      | tup h' q => exact ⟨_, _, SqT.of h, SqT.of h', by rw [← r.length, ← q.length]; omega⟩
def zipL : List D → Option (List D)
  | [.lst a, .lst b] => some (zipD a b)
  | [.tup a, .tup b] => some (zipD a b)
  | _ => none
theorem wi_zip {elts : List Expr} {kk : Nat} {tpos : Pos} (hm : X.mg "zip" = none) (ha : PE X a (eT Γ E fa)) (hb : PE X b (eT Γ E fb)) (hg : Gl X "zip" := by rfl) (hs : starEach [a, b] X.env = (false, eval a X.env) :: starEach [b] X.env := by rfl) (hs2 : starEach [b] X.env = (false, eval b X.env) :: starEach [] X.env := by rfl)
    (hpl : (backTo pos (starEach [b] X.env)).any (·.1) = false := by rfl) (hK : X.K = Γ.K := by rfl) : PI X (.Tuple elts kk tpos) (.Call (.Name "zip" p) [a, b] [] pos) (wT Γ E false (itL zipL (consA fa (consA fb nilA)))) :=
  wi_args (RZ.pi_zipA hg hm (ta_cons ha (ta_cons hb ta_nil hs2) hs) hs hpl) (fun av H ds us vs R wf r q k => by
    rw [hK]
    cases r with
    | nil => cases q
    | cons r1 r2 =>
      cases r2 with
      | nil => cases r1 <;> cases q
      | cons r2 r3 =>
        cases r3 with
        | cons _ _ => cases r1 <;> cases r2 <;> cases q
        | nil =>
          cases r1 <;> first | (cases r2 <;> cases q; done) | skip
          · rename_i h r
            cases r2 <;> first | (cases q; done) | skip
            rename_i h' r'
            cases q
            exact ⟨_, _, _, _, rfl, .inr ⟨SqT.of h, SqT.of h', k _ _ (fun z => by cases z) (pin2 (.tup h r) (.tup h' r')) wlk_zipT⟩⟩
          · rename_i h n r
            cases r2 <;> first | (cases q; done) | skip
            rename_i h' n' r'
            cases q
            exact ⟨_, _, _, _, rfl, .inl ⟨SqL.of h, SqL.of h', k _ _ (fun z => by cases z) (pin2 (.lst h n r) (.lst h' n' r')) wlk_zipL⟩⟩)
end
end Fw
end
set_option Elab.async false
set_option linter.all false
set_option autoImplicit false
set_option maxRecDepth 100000
set_option maxHeartbeats 4000000
/-! Fw8: loops, list comprehensions. -/
noncomputable section
namespace Fw
open PySem PySem.Spec PyProof.Rows L2

mutual
def Tg.names : Tg → List Nat
  | .nm i => [i]
  | .tp ts => Tg.namesL ts
def Tg.namesL : List Tg → List Nat
  | [] => []
  | t :: ts => t.names ++ Tg.namesL ts
end
mutual
theorem unp_names : ∀ {t : Tg} {d : D} {ps : List (Nat × D)}, t.unp d = some ps → ps.map (·.1) = t.names
  | .nm i, d, ps, h => by cases h; rfl
  | .tp ts, .tup ds, ps, h => by rw [Tg.names]; exact unpL_names h
  | .tp _, .non, _, h => by cases h
  | .tp _, .bl _, _, h => by cases h
  | .tp _, .int _, _, h => by cases h
  | .tp _, .str _, _, h => by cases h
  | .tp _, .lst _, _, h => by cases h
  | .tp _, .dct _, _, h => by cases h
  | .tp _, .rng _ _, _, h => by cases h
  | .tp _, .arr _ _, _, h => by cases h
  | .tp _, .row, _, h => by cases h
  | .tp _, .op _, _, h => by cases h
theorem unpL_names : ∀ {ts : List Tg} {ds : List D} {ps : List (Nat × D)}, Tg.unpL ts ds = some ps → ps.map (·.1) = Tg.namesL ts
  | [], [], _, h => by cases h; rfl
  | [], _ :: _, _, h => by cases h
  | _ :: _, [], _, h => by cases h
  | t :: ts, d :: ds, _, h => by
    unfold Tg.unpL at h
    cases e1 : t.unp d with
    | none => simp only [e1] at h; cases h
    | some pa =>
      cases e2 : Tg.unpL ts ds with
      | none => simp only [e1, e2] at h; cases h
      | some pb =>
        simp only [e1, e2] at h
        cases h
        rw [List.map_append, unp_names e1, unpL_names e2, Tg.namesL]
end
def setMany (ρ : SEnv) : List (Nat × D) → Option SEnv
  | [] => some ρ
  | p :: ps => if isRow ρ p.1 = false then setMany (ρ.set p.1 (.val p.2)) ps else none
def bindT (ρ : SEnv) (t : Tg) (d : D) : Option SEnv := match t.unp d with | some ps => setMany ρ ps | none => none
section
variable {Γ : Gm} {amb : Addr → Prop} {mr : Mr} {H0 H H' : Hp} {tmp : List (V × D)} {ad : Nat → Addr} {σ σ' : St} {ρ ρ' : SEnv} {E : XK} {Z : Ends}
theorem avO_val {i : Nat} {d : D} : ∀ b, avO amb ad (ρ.set i (.val d)) b → avO amb ad ρ b := fun b z => by
  rcases z with z | ⟨j, e, z, rfl⟩
  · exact .inl z
  · exact .inr ⟨j, e, (cont_set (fun e => ⟨fun z => (by cases z), fun z => (by cases z)⟩) z).1, rfl⟩
theorem Chg.cons {K : Kr} {av : Addr → Prop} {p : Nat × D} {ps : List (Nat × D)} (c : Chg K av H (p :: ps) σ σ') (nd : ((p :: ps).map (·.1)).Nodup) :
    (p.1 < σ.length ∧ ∃ w, Rp K av H p.2 w ∧ Chg K av H ps (σ.set p.1 (some w)) σ') ∨ (σ.length ≤ p.1 ∧ Chg K av H ps σ σ') := by
  rw [List.map_cons, List.nodup_cons] at nd
  by_cases hl : p.1 < σ.length
  · obtain ⟨w, e, r⟩ := c.at_ p List.mem_cons_self hl
    refine .inl ⟨hl, w, r, by rw [List.length_set]; exact c.len, fun j h => ?_, fun q hq h => c.at_ q (List.mem_cons_of_mem _ hq) (by simpa using h)⟩
    by_cases hj : p.1 = j
    · rw [← hj, e, List.getElem?_set_self hl]
    · rw [List.getElem?_set_ne hj]
      exact c.other j fun q hq => by
        rcases List.mem_cons.mp hq with rfl | hq
        · exact hj
        · exact h q hq
  · refine .inr ⟨by omega, c.len, fun j h => ?_, fun q hq h => c.at_ q (List.mem_cons_of_mem _ hq) h⟩
    by_cases hj : p.1 = j
    · rw [List.getElem?_eq_none (by rw [c.len]; omega), List.getElem?_eq_none (by omega)]
    · exact c.other j fun q hq => by
        rcases List.mem_cons.mp hq with rfl | hq
        · exact hj
        · exact h q hq
theorem Chg.nil {K : Kr} {av : Addr → Prop} (c : Chg K av H [] σ σ') : σ' = σ := List.ext_getElem? fun j => c.other j fun p hp => by cases hp
theorem Chg.stay {K : Kr} {av av' : Addr → Prop} {ps : List (Nat × D)} (c : Chg K av H ps σ σ') (S : Stay K av av' H H') : Chg K av' H' ps σ σ' := ⟨c.len, c.other, fun p hp h => let ⟨w, e, r⟩ := c.at_ p hp h; ⟨w, e, r.stay S⟩⟩
theorem SAd.setChg : ∀ {ps : List (Nat × D)} {σ : St} {ρ : SEnv}, SAd Γ amb H0 mr tmp ad σ H ρ → Chg Γ.kr (avO amb ad ρ) H ps σ σ' → (ps.map (·.1)).Nodup → setMany ρ ps = some ρ' → SAd Γ amb H0 mr tmp ad σ' H ρ'
  | [], σ, ρ, S, c, nd, h => by cases h; rw [c.nil]; exact S
  | p :: ps, σ, ρ, S, c, nd, h => by
    unfold setMany at h
    split at h
    · rename_i hr
      rcases c.cons nd with ⟨hl, w, r, c'⟩ | ⟨hl, c'⟩
      · exact SAd.setChg (S.setVal hr r) (c'.stay (Stay.weak avO_val)) (List.nodup_cons.mp nd).2 h
      · have e : ρ.set p.1 (.val p.2) = ρ := List.set_eq_of_length_le (by rw [S.len]; exact hl)
        rw [e] at h
        exact SAd.setChg S c' (List.nodup_cons.mp nd).2 h
    · cases h
end
section
variable {X : Cx} {Γ : Gm} {E : XK} {x : Str} {a b c o e iter : Expr} {es : List Expr} {st : Stmt} {sts body : List Stmt} {pos p p2 pos' pos'' : Pos} {f fa fb fc : Env → Res D} {ta : Env → Res Bool} {fs fi : Env → Res (List D)} {k : Nat} {g g1 g2 : SEnv → Out} {t : Tg} {ts : List Tg}
/-! ### for -/
/-- a turn's end -/
def Out.turn : Out → (SEnv → Out) → Out
  | .nx ρ, k => k ρ
  | .ct ρ, k => k ρ
  | .bk ρ, _ => .nx ρ
  | .rt d ρ, _ => .rt d ρ
  | .ex c f, _ => .ex c f
  | .no, _ => .no
  | .dr n j, k => .dr n fun i => (j i).turn k
theorem SOk.turn {amb : Addr → Prop} {mr : Mr} {H0 : Hp} {tmp ps : List (V × D)} {Z : Ends} {k : SEnv → Out} {N : St → Hp → Prop} (hN : ∀ ρ', SOk Γ amb H0 mr tmp (k ρ') Z E → ∀ σ' H', SA Γ amb H0 mr (ps ++ tmp) σ' H' ρ' → N σ' H') :
    ∀ {r : Out}, SOk Γ amb H0 mr tmp (r.turn k) Z E → SOk Γ amb H0 mr (ps ++ tmp) r { Z with nx := N, ct := N, bk := Z.nx } E
  | .nx ρ', h => hN ρ' h
  | .ct ρ', h => hN ρ' h
  | .bk ρ', h => fun σ' H' S' => h σ' H' (S'.sub fun p hp => List.mem_append_right _ hp)
  | .rt d ρ', h => h
  | .ex c f, h => h
  | .no, h => h
  | .dr n j, h => fun i h1 h2 => SOk.turn hN (h i h1 h2)
def loopO (t : Tg) (g : SEnv → Out) : List D → SEnv → Out
  | [], ρ => .nx ρ
  | d :: ds, ρ => match bindT ρ t d with
    | none => .no
    | some ρ1 => (g ρ1).turn fun ρ' => loopO t g ds ρ'
def forO (fi : Env → Res (List D)) (t : Tg) (g : SEnv → Out) : SEnv → Out := fun ρ => bindO (fi ρ.vis) fun ds => loopO t g ds ρ
/-- .. over a range reckoned from what may be a container of one's own -/
def forRO (fi : Env → Res (List D)) (t : Tg) (g : SEnv → Out) : SEnv → Out := fun ρ => bindO (fi ρ.all) fun ds => loopO t g ds ρ
theorem wT_out {amb : Addr → Prop} {mr : Mr} {H0 H : Hp} {tmp : List (V × D)} {ad : Nat → Addr} {σ : St} {ρ : SEnv} {Z : Ends} {av : Addr → Prop} {ρe : Env} {kk : List D → Out} {R : It → Hp → Prop} {np : Bool} (S : SAd Γ amb H0 mr tmp ad σ H ρ) (env : EnvV Γ av H σ ρe) (h : SOk Γ amb H0 mr tmp (bindO (fi ρe) kk) Z E)
    (hk : ∀ ds J ps H1, Ext Γ H H1 → SAd Γ amb H0 mr tmp ad σ H1 ρ → (np = true → ps = []) → (∀ p ∈ ps, Rp Γ.kr av H1 p.2 p.1) → Wlk Γ J ps ds → SOk Γ amb H0 mr tmp (kk ds) Z E → R J H1) : wT Γ E np fi σ H R := by
  exact ⟨av, ρe, env, SOk.bind S h fun ds b H1 x S1 r h1 => hk ds b.1 b.2 H1 x S1 r.1 r.2.1 r.2.2 h1⟩
theorem loop_run {amb : Addr → Prop} {mr : Mr} {H0 H1 : Hp} {tmp : List (V × D)} {ad : Nat → Addr} {σ : St} {ρ : SEnv} {Z : Ends} {J : It} {ps : List (V × D)} {ds : List D} (hnd : t.names.Nodup) (S : SAd Γ amb H0 mr tmp ad σ H1 ρ) (hp : ∀ p ∈ ps, Rp Γ.kr (avO amb ad ρ) H1 p.2 p.1) (w : Wlk Γ J ps ds) (h : SOk Γ amb H0 mr tmp (loopO t g ds ρ) Z E) :
    ∃ W : Nat → Nat → St → Hp → Prop, (∃ m, W 0 m σ H1) ∧ ∀ i m σ H, W i m σ H →
      (J.stop i H ∧ Z.nx σ H) ∨ (J.go i H ∧ ∃ N : St → Hp → Prop, (∀ σ' H', N σ' H' → ∃ m', m' < m ∧ W (i + 1) m' σ' H') ∧ ∀ x H', J.yld i H x H' → gT Γ t x σ H' fun σ2 H2 => sT Γ E g { Z with nx := N, ct := N, bk := Z.nx } σ2 H2) := by
  refine ⟨fun i m σ H => m = ds.length - i ∧ ∃ ρ, SA Γ amb H0 mr (ps ++ tmp) σ H ρ ∧ SOk Γ amb H0 mr tmp (loopO t g (ds.drop i) ρ) Z E, ⟨_, rfl, ρ, ⟨ad, S.tmps fun q hq => ?_⟩, h⟩, ?_⟩
  · rcases List.mem_append.mp hq with hq | hq
    · exact hp q hq
    · exact S.tmp q hq
  rintro i m σ H ⟨rfl, ρ, ⟨ad, S⟩, h⟩
  have hps : ∀ p ∈ ps, Rp Γ.kr (avO amb ad ρ) H p.2 p.1 := fun q hq => S.tmp q (List.mem_append_left _ hq)
  by_cases hi : i < ds.length
  · refine .inr ⟨w.go _ i H S.wf hps hi, fun σ' H' => ∃ ρ, SA Γ amb H0 mr (ps ++ tmp) σ' H' ρ ∧ SOk Γ amb H0 mr tmp (loopO t g (ds.drop (i + 1)) ρ) Z E, fun σ' H' n => ⟨_, by omega, rfl, n⟩, fun x H2 y => ?_⟩
    obtain ⟨x2, d, ed, rd⟩ := w.yld _ i H x H2 S.wf hps hi y
    have S2 := S.ext_ x2
    rw [List.drop_eq_getElem_cons hi] at h
    have ed : ds[i] = d := by rw [List.getElem?_eq_getElem hi] at ed; exact Option.some.inj ed
    rw [ed] at h
    unfold loopO bindT at h
    cases q : t.unp d with
    | none => simp only [q] at h; exact (show False from h).elim
    | some qs =>
      simp only [q] at h
      have nd : (qs.map (·.1)).Nodup := by rw [unp_names q]; exact hnd
      cases q2 : setMany ρ qs with
      | none => simp only [q2] at h; exact (show False from h).elim
      | some ρ1 =>
        simp only [q2] at h
        refine ⟨_, d, qs, S2.wf, rd, q, nd, fun σ3 H3 x3 c3 => ⟨amb, H0, mr, ps ++ tmp, ρ1, ⟨ad, (S2.ext_ x3).setChg c3 nd q2⟩, ?_⟩⟩
        exact SOk.turn (fun ρ' h σ' H' S' => ⟨ρ', S', h⟩) h
  · refine .inl ⟨w.stop _ i H S.wf hps (by omega), ?_⟩
    rw [List.drop_eq_nil_of_le (by omega)] at h
    exact h σ H ⟨ad, S.tmps fun q hq => S.tmp q (List.mem_append_right _ hq)⟩
theorem ts_for {tg : Expr} {np : Bool} (hp : PassesOwn (model X.prog X.w) X.A X.env X.xe) (hc : X.calm = true) (hi : PI X tg iter (wT Γ E np fi)) (hg : PG X tg (gT Γ t)) (hb : PSs X body (sT Γ E g)) (hnd : t.names.Nodup := by decide)
    (hs : ∀ x, foldedSetIterable iter X.env x = pure x := by intro _; rfl) : PS X (.For tg iter body [] pos) (sT Γ E (forO fi t g)) :=
  PS.imp (ps_for hp hc hi hg hb hs) fun Z σ H ⟨amb, H0, mr, tmp, ρ, ⟨ad, S⟩, h⟩ => wT_out S S.envVis h fun ds J ps H1 x1 S1 hn hp w h1 => loop_run hnd S1 hp w h1
theorem ts_forR {tg : Expr} (hp : PassesOwn (model X.prog X.w) X.A X.env X.xe) (hc : X.calm = true) (hi : PI X tg iter (wT Γ E true fi)) (hg : PG X tg (gT Γ t)) (hb : PSs X body (sT Γ E g)) (hnd : t.names.Nodup := by decide)
    (hs : ∀ x, foldedSetIterable iter X.env x = pure x := by intro _; rfl) : PS X (.For tg iter body [] pos) (sT Γ E (forRO fi t g)) :=
  PS.imp (ps_for hp hc hi hg hb hs) fun Z σ H ⟨amb, H0, mr, tmp, ρ, ⟨ad, S⟩, h⟩ => wT_out S S.envAll h fun ds J ps H1 x1 S1 hn hp w h1 => by
    have e := hn rfl
    subst e
    exact loop_run hnd S1 (fun p hp => by cases hp) w h1
/-! a container of one's own becomes a value that stays as it is -/
def frzS (ρ : SEnv) (i : Nat) : SEnv := match ρ[i]? with | some (.own d) => ρ.set i (.val d) | _ => ρ
theorem SAd.freeze {amb : Addr → Prop} {mr : Mr} {H0 H : Hp} {tmp : List (V × D)} {ad : Nat → Addr} {σ : St} {ρ : SEnv} {i : Nat} {d : D} (S : SAd Γ amb H0 mr tmp ad σ H ρ) (h : ρ[i]? = some (.own d)) : SAd Γ amb H0 mr tmp ad σ H (ρ.set i (.val d)) := by
  obtain ⟨g1, g2⟩ := S.own i d (.inl h)
  have hl : i < ρ.length := (List.getElem?_eq_some_iff.mp h).1
  have hr : isRow ρ i = false := by unfold isRow; rw [h]
  have w := avO_val (amb := amb) (ad := ad) (ρ := ρ) (i := i) (d := d)
  have hs : ∀ e, Sl.val d ≠ .own e ∧ Sl.val d ≠ .row e := fun e => ⟨fun z => (by cases z), fun z => (by cases z)⟩
  have other : ∀ {j : Nat} {s : Sl}, j ≠ i → (ρ.set i (.val d))[j]? = some s → ρ[j]? = some s := fun {j s} hj h => by rwa [List.getElem?_set_ne (Ne.symm hj)] at h
  have rv : Rp Γ.kr (avO amb ad (ρ.set i (.val d))) H d (.ref (ad i)) := (g2.weak w).rp fun z => by
    rcases z with (z | ⟨j, e, z, hj⟩) | z
    · exact (S.new i d h).2.1 z
    · obtain ⟨z, hne⟩ := cont_set hs z
      exact hne (S.inj j i e d z (.inl h) hj.symm)
    · exact (S.new i d h).2.2.1 z
  refine ⟨S.ext, S.tb, S.rw, by simpa using S.len, S.ambT, fun a z => let ⟨j, e, h1, h2⟩ := S.mrIn a z; ⟨j, e, by rw [List.getElem?_set_ne (Ne.symm (isRow_no hr h1))]; exact h1, h2⟩, fun j k e f h1 h2 => S.inj j k e f (cont_set hs h1).1 (cont_set hs h2).1, fun j e h => ?_, fun j e h => ?_, fun j e h => ?_, fun j e h => ?_, fun p hp => (S.tmp p hp).stay (Stay.weak w)⟩
  · obtain ⟨_, hj⟩ := cont_set hs (.inl h)
    exact S.new j e (other hj h)
  · obtain ⟨_, hj⟩ := cont_set hs (.inr h)
    exact S.rows j e (other hj h)
  · by_cases hj : j = i
    · subst hj
      rw [List.getElem?_set_self hl] at h
      cases h
      exact ⟨_, g1, rv⟩
    · obtain ⟨u, h1, h2⟩ := S.val j e (other hj h)
      exact ⟨u, h1, h2.stay (Stay.weak w)⟩
  · obtain ⟨h', hj⟩ := cont_set hs h
    obtain ⟨h1, h2⟩ := S.own j e h'
    exact ⟨h1, h2.weak w⟩
theorem ts_frz (i : Nat) (h : PS X st (sT Γ E g)) : PS X st (sT Γ E fun ρ => g (frzS ρ i)) := PS.imp h fun Z σ H ⟨amb, H0, mr, tmp, ρ, ⟨ad, S⟩, h⟩ => by
  have h : SOk Γ amb H0 mr tmp (g (frzS ρ i)) Z E := h
  unfold frzS at h
  split at h
  · rename_i d e
    exact ⟨amb, H0, mr, tmp, _, ⟨ad, S.freeze e⟩, h⟩
  · exact ⟨amb, H0, mr, tmp, ρ, ⟨ad, S⟩, h⟩
/-! ### while -/
def whileO (ta : Env → Res Bool) (g : SEnv → Out) : Nat → SEnv → Out
  | 0, _ => .no
  | n + 1, ρ => bindO (ta ρ.all) fun b => if b then (g ρ).turn fun ρ' => whileO ta g n ρ' else .nx ρ
theorem ts_while (fuel : Nat) (hp : PassesOwn (model X.prog X.w) X.A X.env X.xe) (hc : PT X c (bT Γ E ta)) (hb : PSs X body (sT Γ E g)) : PS X (.While c body [] pos) (sT Γ E (whileO ta g fuel)) :=
  PS.imp (ps_while hp hc hb) fun Z σ H ⟨amb, H0, mr, tmp, ρ, S, h⟩ => by
    refine ⟨fun m σ H => ∃ ρ, SA Γ amb H0 mr tmp σ H ρ ∧ SOk Γ amb H0 mr tmp (whileO ta g m ρ) Z E, ⟨fuel, ρ, S, h⟩, ?_⟩
    rintro m σ H ⟨ρ, ⟨ad, S⟩, h⟩
    cases m with
    | zero => exact (show False from h).elim
    | succ m =>
      refine bT_out S S.envAll h fun b H1 x1 S1 h1 => ?_
      cases b with
      | false => exact iteF (h1 σ H1 ⟨ad, S1⟩)
      | true =>
        refine iteT ⟨fun σ' H' => ∃ ρ, SA Γ amb H0 mr tmp σ' H' ρ ∧ SOk Γ amb H0 mr tmp (whileO ta g m ρ) Z E, fun σ' H' n => ⟨m, Nat.lt_succ_self _, n⟩, amb, H0, mr, tmp, ρ, ⟨ad, S1⟩, ?_⟩
        simp only [if_true] at h1
        exact SOk.turn (ps := []) (fun ρ' h σ' H' S' => ⟨ρ', S', h⟩) h1
/-! ### list comprehensions -/
def putE (ρ : Env) (ps : List (Nat × D)) : Env := ps.foldl (fun ρ p => ρ.set p.1 (some p.2)) ρ
def wipeE (ρ : Env) : List Nat → Env
  | [] => ρ
  | v :: vs => (wipeE ρ vs).set v none
/-- what raises is not known to be right -/
def noX {α : Type} : Res α → Res α
  | .ok a => .ok a
  | .ex _ _ => .no
  | .no => .no
  | .dr n k => .dr n fun i => noX (k i)
abbrev EN : XK := fun _ _ _ => False
theorem ROk.bindX {α β γ δ : Type} {Γ : Gm} {av av1 : Addr → Prop} {H H' : Hp} {E E1 : XK} {rel : Hp → β → δ → Prop} {rel1 : Hp → α → γ → Prop} {k : α → Res β} {Q : δ → Hp → Prop} {R : γ → Hp → Prop} (x : Ext Γ H H') : ∀ {r : Res α}, ROk Γ av H rel ((noX r).bind k) Q E →
    (∀ d v H1, Ext Γ H' H1 → rel1 H1 d v → ROk Γ av H rel (k d) Q E → R v H1) → ROk Γ av1 H' rel1 r R E1
  | .ok a, h, hk => fun b H2 x2 q => hk a b H2 x2 q h
  | .ex c f, h, hk => h.elim
  | .no, h, hk => h.elim
  | .dr n j, h, hk => fun i h1 h2 => ROk.bindX x (h i h1 h2) hk
def lcL (t : Tg) (tt : Env → Res Bool) (fe : Env → Res D) (ρ : Env) : List D → Res (List D)
  | [] => .ok []
  | d :: ds => match t.unp d with
    | none => .no
    | some ps => (noX (tt (putE ρ ps))).bind fun b => if b then (noX (fe (putE ρ ps))).bind fun y => (lcL t tt fe ρ ds).bind fun r => .ok (y :: r) else lcL t tt fe ρ ds
def lcD (fi : Env → Res (List D)) (t : Tg) (tt : Env → Res Bool) (fe : Env → Res D) (vs : List Nat) : Env → Res D := fun ρ => (fi ρ).bind fun ds => if ds.length ≤ lim then (lcL t tt fe (wipeE ρ vs) ds).bind fun r => .ok (.lst r) else .no
section
variable {av : Addr → Prop} {H H' : Hp} {σ σ' : St} {ρ : Env}
theorem wipeE_length (ρ : Env) : ∀ vs : List Nat, (wipeE ρ vs).length = ρ.length
  | [] => rfl
  | v :: vs => by unfold wipeE; rw [List.length_set, wipeE_length ρ vs]
theorem wipe_env (e : EnvV Γ av H σ ρ) : ∀ vs : List Nat, EnvV Γ av H (wipe σ vs) (wipeE ρ vs)
  | [] => e
  | v :: vs => ⟨e.wf, fun i d h => by
    unfold wipeE at h
    unfold wipe
    by_cases hi : v = i
    · subst hi
      rw [List.getElem?_set] at h
      simp at h
    · rw [List.getElem?_set_ne hi] at h ⊢
      exact (wipe_env e vs).at_ i d h, by rw [wipeE_length, wipe_length]; exact e.len⟩
theorem put_env : ∀ {ps : List (Nat × D)} {σ : St} {ρ : Env}, EnvV Γ av H σ ρ → Chg Γ.kr av H ps σ σ' → (ps.map (·.1)).Nodup → EnvV Γ av H σ' (putE ρ ps)
  | [], σ, ρ, e, c, nd => by rw [c.nil]; exact e
  | p :: ps, σ, ρ, e, c, nd => by
    have hl := e.len
    have z : putE ρ (p :: ps) = putE (ρ.set p.1 (some p.2)) ps := rfl
    rw [z]
    rcases c.cons nd with ⟨h1, w, r, c'⟩ | ⟨h1, c'⟩
    · refine put_env ⟨e.wf, fun i d h => ?_, by rw [List.length_set, List.length_set]; exact hl⟩ c' (List.nodup_cons.mp nd).2
      by_cases hi : p.1 = i
      · subst hi
        rw [List.getElem?_set] at h
        simp at h
        exact ⟨w, List.getElem?_set_self h1, by rw [← h.2]; exact r⟩
      · rw [List.getElem?_set_ne hi] at h ⊢
        exact e.at_ i d h
    · rw [List.set_eq_of_length_le (by omega)]
      exact put_env e c' (List.nodup_cons.mp nd).2
end
end
end Fw
end
set_option Elab.async false
set_option linter.all false
set_option autoImplicit false
set_option maxRecDepth 100000
set_option maxHeartbeats 4000000
/-! Fw9: list comprehensions. -/
noncomputable section
namespace Fw
open PySem PySem.Spec PyProof.Rows L2
theorem wipe_get (σ : St) (j : Nat) : ∀ vs : List Nat, (wipe σ vs)[j]? = if j ∈ vs then (σ[j]?).map (fun _ => none) else σ[j]?
  | [] => by simp [wipe]
  | v :: vs => by
    unfold wipe
    by_cases hj : v = j
    · subst hj
      rw [List.getElem?_set]
      simp only [if_true, List.mem_cons_self, wipe_length]
      by_cases hl : v < σ.length
      · rw [if_pos hl, List.getElem?_eq_getElem hl]; rfl
      · rw [if_neg hl, List.getElem?_eq_none (by omega)]; rfl
    · rw [List.getElem?_set_ne hj, wipe_get σ j vs]
      have : (j ∈ v :: vs) ↔ j ∈ vs := by
        rw [List.mem_cons]
        exact ⟨fun z => z.resolve_left fun e => hj e.symm, .inr⟩
      by_cases h : j ∈ vs
      · rw [if_pos h, if_pos (this.mpr h)]
      · rw [if_neg h, if_neg fun z => h (this.mp z)]
theorem wipe_chg {K : Kr} {av : Addr → Prop} {H : Hp} {ps : List (Nat × D)} {σ σ' : St} {vs : List Nat} (c : Chg K av H ps (wipe σ vs) σ') (h : ∀ i ∈ ps.map (·.1), i ∈ vs) : wipe σ' vs = wipe σ vs := by
  refine List.ext_getElem? fun j => ?_
  rw [wipe_get, wipe_get]
  by_cases hj : j ∈ vs
  · rw [if_pos hj, if_pos hj]
    have e := c.len
    rw [wipe_length] at e
    by_cases hl : j < σ.length
    · rw [List.getElem?_eq_getElem hl, List.getElem?_eq_getElem (by omega)]; rfl
    · rw [List.getElem?_eq_none (by omega), List.getElem?_eq_none (by omega)]
  · rw [if_neg hj, if_neg hj, c.other j fun p hp z => hj (h j (z ▸ List.mem_map_of_mem hp)), wipe_get, if_neg hj]
theorem PTs.imp {X : Cx} {e : List Expr} {t t' : TT} (h : PTs X e t) (i : ∀ σ H Q, t' σ H Q → t σ H Q) : PTs X e t' := ⟨fun pins s σ H Q I q => h.run pins s σ H Q I (i σ H Q q)⟩
section
variable {X : Cx} {Γ : Gm} {E : XK} {a b c o e iter elt tg : Expr} {ifs : List Expr} {pos p p2 pos' pos'' : Pos} {f fe : Env → Res D} {ta tt : Env → Res Bool} {fs fi : Env → Res (List D)} {t : Tg} {av av' : Addr → Prop} {H H1 H2 H3 : Hp} {σ : St} {ρ : Env}
def yesB : Env → Res Bool := fun _ => .ok true
theorem tts_nil : PTs X [] (bT Γ E yesB) := PTs.imp pts_nil fun σ H Q ⟨av, ρ, env, h⟩ => h true H (Ext.refl Γ H) rfl
theorem tts_one (h : PT X c (bT Γ E ta)) : PTs X [c] (bT Γ E ta) := pts_one h
theorem eT_at {E1 : XK} {β δ : Type} {rel : Hp → β → δ → Prop} {k : D → Res β} {Q : δ → Hp → Prop} {R : VK} (env : EnvV Γ av' H3 σ ρ) (x : Ext Γ H1 H3) (h : ROk Γ av H1 rel ((noX (f ρ)).bind k) Q E) (hk : ∀ d v H4, Ext Γ H3 H4 → Rp Γ.kr av' H4 d v → ROk Γ av H1 rel (k d) Q E → R v H4) : eT Γ E1 f σ H3 R :=
  ⟨av', ρ, env, h.bindX x hk⟩
theorem bT_at {E1 : XK} {β δ : Type} {rel : Hp → β → δ → Prop} {k : Bool → Res β} {Q : δ → Hp → Prop} {R : Bool → Hp → Prop} (env : EnvV Γ av' H3 σ ρ) (x : Ext Γ H1 H3) (h : ROk Γ av H1 rel ((noX (ta ρ)).bind k) Q E) (hk : ∀ d H4, Ext Γ H3 H4 → ROk Γ av H1 rel (k d) Q E → R d H4) : bT Γ E1 ta σ H3 R :=
  ⟨av', ρ, env, h.bindX x fun d v H4 x4 r h4 => by
    subst r
    exact hk d H4 x4 h4⟩
theorem stay_new {D : Addr} (x : Ext Γ H1 H2) (hD : H1 D = none) : Stay Γ.kr av (fun a => av a ∨ a = D) H1 H2 := by
  have nn : ∀ {b : Addr} {z : HO}, H1 b = some z → ¬ avr Γ.kr av b → ¬ avr Γ.kr (fun b => av b ∨ b = D) b := fun {b z} e n q => by
    rcases q with (q | q) | q
    · exact n (.inl q)
    · rw [q, hD] at e; cases e
    · exact n (.inr q)
  have s := x.stay av
  exact ⟨s.tup, fun a xs n e => ⟨(s.lst a xs n e).1, nn e n⟩, fun a xs n e => ⟨(s.dK a xs n e).1, nn e n⟩, fun a xs n e => ⟨(s.dT a xs n e).1, nn e n⟩, s.rng, s.frz⟩
theorem EnvV.new {D : Addr} {u : HO} (env : EnvV Γ av H1 σ ρ) (x : Ext Γ H1 H2) (hD : H1 D = none) (h2 : H2 D = some u) : EnvV Γ (fun a => av a ∨ a = D) H2 σ ρ :=
  ⟨⟨x.tb env.wf.tb, fun a z => z.elim (fun z => x.there a (env.wf.av a z)) (fun z => by rw [z, h2]; exact Option.some_ne_none u), x.row env.wf.row⟩, fun i d h => let ⟨v, g1, g2⟩ := env.at_ i d h; ⟨v, g1, g2.stay (stay_new x hD)⟩, env.len⟩
/-- the new list is written again -/
theorem Ext.rewrite {D : Addr} {o0 u : HO} (x : Ext Γ H1 H2) (hD : H1 D = none) (h2 : H2 D = some o0) (ho : contO o0) : Ext Γ H1 (upd H2 D u) :=
  ⟨fun b o e n l => by rw [upd_ne (fun z => by rw [z, hD] at e; cases e)]; exact x.keep b o e n l, fun t => Tb.write (x.tb t) h2 ho, fun t => RowOk.write (x.row t) (t.nr hD), fun b n z => by
    by_cases hb : b = D
    · rw [hb, upd_same] at z; cases z
    · rw [upd_ne hb] at z; exact x.there b n z⟩
theorem lc_fit {np : Bool} {vs : List Nat} (hv : ∀ i ∈ t.names, i ∈ vs) (hnd : t.names.Nodup) (σ : L2.St) (H : Hp) (Q : VK) (h : nT Γ E (lcD fi t tt fe vs) σ H Q) : tLc (wT Γ E np fi) (gT Γ t) (bT Γ EN tt) (eT Γ EN fe) vs σ H Q := by
  obtain ⟨av, ρ, env, h⟩ := h
  refine ⟨av, ρ, env, ?_⟩
  unfold lcD at h
  refine ROk.bind h fun ds b H1 x1 r h => ?_
  obtain ⟨J, ps⟩ := b
  obtain ⟨_, hp, w⟩ := r
  · obtain ⟨hz, h⟩ := ROk.ifp h
    intro D hD
    have h0 : H D = none := by
      cases q : H D with
      | none => rfl
      | some u => exact absurd hD (x1.there D (by rw [q]; intro z; cases z))
    generalize hrel : (fun (H' : Hp) (d : Fw.D) (v : V) => ∃ p, v = V.ref p ∧ H p = none ∧ OwnAt Γ.kr (fun a => av a ∨ a = p) H' d p) = rel at h
    refine ⟨fun i m Hc => m = ds.length - i ∧ Ext Γ H1 Hc ∧ ∃ accD acc, Hc D = some (.lst acc) ∧ RpL Γ.kr (fun a => av a ∨ a = D) Hc accD acc ∧ acc.length ≤ i ∧ ROk Γ av H1 rel ((lcL t tt fe (wipeE ρ vs) (ds.drop i)).bind fun r => .ok (.lst (accD ++ r))) Q E, ⟨_, rfl, Ext.new _ hD, [], [], upd_same, .nil, Nat.le_refl _, h⟩, ?_⟩
    rintro i m Hc ⟨rfl, xc, accD, acc, hDc, racc, hacc, h⟩
    have env' := wipe_env ((env.ext x1).new xc hD hDc) vs
    have hps : ∀ p ∈ ps, Rp Γ.kr (fun a => av a ∨ a = D) Hc p.2 p.1 := fun p hp' => (hp p hp').stay (stay_new xc hD)
    by_cases hi : i < ds.length
    · refine .inr ⟨w.go _ i Hc env'.wf hps hi, fun Hn => Ext Γ H1 Hn ∧ ∃ accD acc, Hn D = some (.lst acc) ∧ RpL Γ.kr (fun a => av a ∨ a = D) Hn accD acc ∧ acc.length ≤ i + 1 ∧ ROk Γ av H1 rel ((lcL t tt fe (wipeE ρ vs) (ds.drop (i + 1))).bind fun r => .ok (.lst (accD ++ r))) Q E, fun Hn z => ⟨_, by omega, rfl, z⟩, fun x H2 y => ?_⟩
      obtain ⟨x2, d, ed, rd⟩ := w.yld _ i Hc x H2 env'.wf hps hi y
      have env2 := env'.ext x2
      rw [List.drop_eq_getElem_cons hi] at h
      have ed : ds[i] = d := by rw [List.getElem?_eq_getElem hi] at ed; exact Option.some.inj ed
      rw [ed] at h
      unfold lcL at h
      cases q1 : t.unp d with
      | none => simp only [q1] at h; exact (show False from h).elim
      | some qs =>
        simp only [q1] at h
        have nm := unp_names q1
        have nd : (qs.map (·.1)).Nodup := by rw [nm]; exact hnd
        refine ⟨_, d, qs, env2.wf, rd, q1, nd, fun σ3 H3 x3 c3 => ⟨wipe_chg c3 (by rw [nm]; exact hv), ?_⟩⟩
        have env3 := put_env (env2.ext x3) c3 nd
        have h : ROk Γ av H1 rel (Res.bind (Res.bind (noX (tt (putE (wipeE ρ vs) qs))) _) _) Q E := h
        rw [Res.bind_assoc] at h
        refine bT_at env3 (xc.trans (x2.trans x3)) h fun b H4 x4 h => ?_
        have x14 := xc.trans (x2.trans (x3.trans x4))
        have x24 := x2.trans (x3.trans x4)
        have kD := x24.keepL hDc ((env.ext x1).wf.row.new hD)
        cases b with
        | false => exact iteF ⟨x14, accD, acc, kD, racc.ext x24, by omega, h⟩
        | true =>
          refine iteT ?_
          have h : ROk Γ av H1 rel (Res.bind (Res.bind (noX (fe (putE (wipeE ρ vs) qs))) _) _) Q E := h
          rw [Res.bind_assoc] at h
          refine eT_at (env3.ext x4) x14 h fun y v H5 x5 r5 h => ?_
          have x25 := x24.trans x5
          have kD := x25.keepL hDc ((env.ext x1).wf.row.new hD)
          have h : ROk Γ av H1 rel (Res.bind (Res.bind (lcL t tt fe (wipeE ρ vs) (ds.drop (i + 1))) _) _) Q E := h
          rw [Res.bind_assoc] at h
          refine ⟨acc, kD, by rw [lim_eq]; omega, (xc.trans x25).rewrite hD kD True.intro, accD ++ [y], acc ++ [v], upd_same, ?_, by simp; omega, ?_⟩
          · exact (rpl_write kD True.intro (.inr rfl) (racc.ext x25)).append (.cons (rp_write kD True.intro (.inr rfl) r5) .nil)
          · simp only [List.append_assoc]
            exact h
    · refine .inl ⟨w.stop _ i Hc env'.wf hps (by omega), ?_⟩
      rw [List.drop_eq_nil_of_le (by omega)] at h
      refine h _ Hc xc ?_
      rw [← hrel, List.append_nil]
      exact ⟨D, rfl, h0, acc, hDc, racc⟩
theorem tn_lc {np : Bool} {scope : Scope} (own : List (Str × Nat)) (hc : X.calm = true) (hN : X.N.Nodup) (hi : PI X tg iter (wT Γ E np fi)) (ok : BlkOk X.N X.env.scope scope own)
    (hg : ∀ (s : Shared) (H : Hp) (C : Addr) (cl : List (Str × Addr)) (fp : List Addr), PG (X.blk s H scope (compEnvC scope cl C X.env) fp) tg (gT Γ t)) (ht : ∀ (s : Shared) (H : Hp) (C : Addr) (cl : List (Str × Addr)) (fp : List Addr), PTs (X.blk s H scope (compEnvC scope cl C X.env) fp) ifs (bT Γ EN tt))
    (he : ∀ (s : Shared) (H : Hp) (C : Addr) (cl : List (Str × Addr)) (fp : List Addr), PE (X.blk s H scope (compEnvC scope cl C X.env) fp) elt (eT Γ EN fe)) (hv : ∀ i ∈ t.names, i ∈ own.map (·.2) := by decide) (hnd : t.names.Nodup := by decide) (hs : ∀ x, foldedSetIterable iter X.env x = pure x := by intro _; rfl) :
    PE X (.ListComp elt [⟨tg, iter, ifs, 0⟩] scope pos) (nT Γ E (lcD fi t tt fe (own.map (·.2)))) :=
  PE.imp (pe_lc hc hN hi ok hg ht he hs) (lc_fit hv hnd)
/-- as a value that stays as it is -/
theorem SAd.setNewV {amb : Addr → Prop} {mr : Mr} {H0 H H' : Hp} {tmp : List (V × D)} {ad : Nat → Addr} {σ : L2.St} {ρ : SEnv} {i : Nat} {d : D} {p : Addr} (S : SAd Γ amb H0 mr tmp ad σ H ρ) (hr : isRow ρ i = false) (x : Ext Γ H H') (hp : H p = none) (o : OwnAt Γ.kr (fun a => avO amb ad ρ a ∨ a = p) H' d p) : SA Γ amb H0 mr tmp (σ.set i (some (.ref p))) H' (ρ.set i (.val d)) := by
  obtain ⟨ad', S'⟩ := S.setNew hr x hp o
  by_cases hl : i < ρ.length
  · have := S'.freeze (i := i) (d := d) (List.getElem?_set_self hl)
    rw [List.set_set] at this
    exact ⟨ad', this⟩
  · have e1 : ρ.set i (.own d) = ρ := List.set_eq_of_length_le (by omega)
    have e2 : ρ.set i (.val d) = ρ := List.set_eq_of_length_le (by omega)
    rw [e1] at S'
    rw [e2]
    exact ⟨ad', S'⟩
theorem ts_setLc {np : Bool} {y : Str} {py : Pos} {scope : Scope} {spos : Pos} (i : Nat) (own : List (Str × Nat)) (hc : X.calm = true) (hN : X.N.Nodup) (hi : PI X tg iter (wT Γ E np fi)) (ok : BlkOk X.N X.env.scope scope own)
    (hg : ∀ (s : Shared) (H : Hp) (C : Addr) (cl : List (Str × Addr)) (fp : List Addr), PG (X.blk s H scope (compEnvC scope cl C X.env) fp) tg (gT Γ t)) (ht : ∀ (s : Shared) (H : Hp) (C : Addr) (cl : List (Str × Addr)) (fp : List Addr), PTs (X.blk s H scope (compEnvC scope cl C X.env) fp) ifs (bT Γ EN tt))
    (he : ∀ (s : Shared) (H : Hp) (C : Addr) (cl : List (Str × Addr)) (fp : List Addr), PE (X.blk s H scope (compEnvC scope cl C X.env) fp) elt (eT Γ EN fe)) (hy : X.N[i]? = some y := by rfl) (hyl : X.env.scope.names.lookup y = some .local := by rfl)
    (hsw : swapsWith (.ListComp elt [⟨tg, iter, ifs, 0⟩] scope pos) (some (.Name y py)) spos.line X.env = pure true := by rfl) (hv : ∀ i ∈ t.names, i ∈ own.map (·.2) := by decide) (hnd : t.names.Nodup := by decide) (hs : ∀ x, foldedSetIterable iter X.env x = pure x := by intro _; rfl) :
    PS X (.Assign [.Name y py] (.ListComp elt [⟨tg, iter, ifs, 0⟩] scope pos) spos) (sT Γ E fun ρ => bindO (lcD fi t tt fe (own.map (·.2)) ρ.vis) fun d => setO ρ i (.val d)) :=
  PS.imp (ps_setLc hc hN hy hyl hsw hi ok hg ht he hs) fun Z σ H ⟨amb, H0, mr, tmp, ρ, ⟨ad, S⟩, h⟩ => lc_fit hv hnd _ _ _ (nT_out S S.envVis h fun d q H1 x hq ho h1 => by
    obtain ⟨hr, h1⟩ := SOk.ifp h1
    exact h1 _ H1 (S.setNewV hr x hq ho))
theorem ts_setLcA {np : Bool} {y : Str} {py : Pos} {scope : Scope} {spos : Pos} (i : Nat) (own : List (Str × Nat)) (hc : X.calm = true) (hN : X.N.Nodup) (hi : PI X tg iter (wT Γ E np fi)) (ok : BlkOk X.N X.env.scope scope own)
    (hg : ∀ (s : Shared) (H : Hp) (C : Addr) (cl : List (Str × Addr)) (fp : List Addr), PG (X.blk s H scope (compEnvC scope cl C X.env) fp) tg (gT Γ t)) (ht : ∀ (s : Shared) (H : Hp) (C : Addr) (cl : List (Str × Addr)) (fp : List Addr), PTs (X.blk s H scope (compEnvC scope cl C X.env) fp) ifs (bT Γ EN tt))
    (he : ∀ (s : Shared) (H : Hp) (C : Addr) (cl : List (Str × Addr)) (fp : List Addr), PE (X.blk s H scope (compEnvC scope cl C X.env) fp) elt (eT Γ EN fe)) (hy : X.N[i]? = some y := by rfl) (hyl : X.env.scope.names.lookup y = some .local := by rfl)
    (hsw : swapsWith (.ListComp elt [⟨tg, iter, ifs, 0⟩] scope pos) (some (.Name y py)) spos.line X.env = pure true := by rfl) (hv : ∀ i ∈ t.names, i ∈ own.map (·.2) := by decide) (hnd : t.names.Nodup := by decide) (hs : ∀ x, foldedSetIterable iter X.env x = pure x := by intro _; rfl) :
    PS X (.Assign [.Name y py] (.ListComp elt [⟨tg, iter, ifs, 0⟩] scope pos) spos) (sT Γ E fun ρ => bindO (lcD fi t tt fe (own.map (·.2)) ρ.all) fun d => if purC d = true then setO ρ i (.val d) else .no) :=
  PS.imp (ps_setLc hc hN hy hyl hsw hi ok hg ht he hs) fun Z σ H ⟨amb, H0, mr, tmp, ρ, ⟨ad, S⟩, h⟩ => lc_fit hv hnd _ _ _ (nT_out S S.envAll h fun d q H1 x hq ho h1 => by
    obtain ⟨hp, h1⟩ := SOk.ifp h1
    obtain ⟨hr, h1⟩ := SOk.ifp h1
    exact h1 _ H1 (S.setNewV hr x hq (ho.pureUp hp)))
theorem ts_setLcO {np : Bool} {y : Str} {py : Pos} {scope : Scope} {spos : Pos} (i : Nat) (own : List (Str × Nat)) (hc : X.calm = true) (hN : X.N.Nodup) (hi : PI X tg iter (wT Γ E np fi)) (ok : BlkOk X.N X.env.scope scope own)
    (hg : ∀ (s : Shared) (H : Hp) (C : Addr) (cl : List (Str × Addr)) (fp : List Addr), PG (X.blk s H scope (compEnvC scope cl C X.env) fp) tg (gT Γ t)) (ht : ∀ (s : Shared) (H : Hp) (C : Addr) (cl : List (Str × Addr)) (fp : List Addr), PTs (X.blk s H scope (compEnvC scope cl C X.env) fp) ifs (bT Γ EN tt))
    (he : ∀ (s : Shared) (H : Hp) (C : Addr) (cl : List (Str × Addr)) (fp : List Addr), PE (X.blk s H scope (compEnvC scope cl C X.env) fp) elt (eT Γ EN fe)) (hy : X.N[i]? = some y := by rfl) (hyl : X.env.scope.names.lookup y = some .local := by rfl)
    (hsw : swapsWith (.ListComp elt [⟨tg, iter, ifs, 0⟩] scope pos) (some (.Name y py)) spos.line X.env = pure true := by rfl) (hv : ∀ i ∈ t.names, i ∈ own.map (·.2) := by decide) (hnd : t.names.Nodup := by decide) (hs : ∀ x, foldedSetIterable iter X.env x = pure x := by intro _; rfl) :
    PS X (.Assign [.Name y py] (.ListComp elt [⟨tg, iter, ifs, 0⟩] scope pos) spos) (sT Γ E fun ρ => bindO (lcD fi t tt fe (own.map (·.2)) ρ.vis) fun d => setO ρ i (.own d)) :=
  PS.imp (ps_setLc hc hN hy hyl hsw hi ok hg ht he hs) fun Z σ H ⟨amb, H0, mr, tmp, ρ, ⟨ad, S⟩, h⟩ => lc_fit hv hnd _ _ _ (nT_out S S.envVis h fun d q H1 x hq ho h1 => by
    obtain ⟨hr, h1⟩ := SOk.ifp h1
    exact h1 _ H1 (S.setNew hr x hq ho))
theorem ts_setLcAO {np : Bool} {y : Str} {py : Pos} {scope : Scope} {spos : Pos} (i : Nat) (own : List (Str × Nat)) (hc : X.calm = true) (hN : X.N.Nodup) (hi : PI X tg iter (wT Γ E np fi)) (ok : BlkOk X.N X.env.scope scope own)
    (hg : ∀ (s : Shared) (H : Hp) (C : Addr) (cl : List (Str × Addr)) (fp : List Addr), PG (X.blk s H scope (compEnvC scope cl C X.env) fp) tg (gT Γ t)) (ht : ∀ (s : Shared) (H : Hp) (C : Addr) (cl : List (Str × Addr)) (fp : List Addr), PTs (X.blk s H scope (compEnvC scope cl C X.env) fp) ifs (bT Γ EN tt))
    (he : ∀ (s : Shared) (H : Hp) (C : Addr) (cl : List (Str × Addr)) (fp : List Addr), PE (X.blk s H scope (compEnvC scope cl C X.env) fp) elt (eT Γ EN fe)) (hy : X.N[i]? = some y := by rfl) (hyl : X.env.scope.names.lookup y = some .local := by rfl)
    (hsw : swapsWith (.ListComp elt [⟨tg, iter, ifs, 0⟩] scope pos) (some (.Name y py)) spos.line X.env = pure true := by rfl) (hv : ∀ i ∈ t.names, i ∈ own.map (·.2) := by decide) (hnd : t.names.Nodup := by decide) (hs : ∀ x, foldedSetIterable iter X.env x = pure x := by intro _; rfl) :
    PS X (.Assign [.Name y py] (.ListComp elt [⟨tg, iter, ifs, 0⟩] scope pos) spos) (sT Γ E fun ρ => bindO (lcD fi t tt fe (own.map (·.2)) ρ.all) fun d => if purC d = true then setO ρ i (.own d) else .no) :=
  PS.imp (ps_setLc hc hN hy hyl hsw hi ok hg ht he hs) fun Z σ H ⟨amb, H0, mr, tmp, ρ, ⟨ad, S⟩, h⟩ => lc_fit hv hnd _ _ _ (nT_out S S.envAll h fun d q H1 x hq ho h1 => by
    obtain ⟨hp, h1⟩ := SOk.ifp h1
    obtain ⟨hr, h1⟩ := SOk.ifp h1
    exact h1 _ H1 (S.setNew hr x hq (ho.pureUp hp)))
end
end Fw
end
set_option Elab.async false
set_option linter.all false
set_option autoImplicit false
set_option maxRecDepth 100000
set_option maxHeartbeats 4000000
/-! Fw10: many stores at once. -/
noncomputable section
namespace Fw
open PySem PySem.Spec PyProof.Rows L2

/-- values and new containers: R the containers' places -/
inductive KRel (K : Kr) (av : Addr → Prop) (H : Hp) : List Addr → List Sl → List V → Prop
  | nil : KRel K av H [] [] []
  | val {R : List Addr} {d : D} {v : V} {ss : List Sl} {vs : List V} : Rp K av H d v → KRel K av H R ss vs → KRel K av H R (.val d :: ss) (v :: vs)
  | own {R : List Addr} {d : D} {p : Addr} {ss : List Sl} {vs : List V} : OwnAt K av H d p → p ∉ R → KRel K av H R ss vs → KRel K av H (p :: R) (.own d :: ss) (.ref p :: vs)
theorem KRel.weak {K : Kr} {av av' : Addr → Prop} {H : Hp} (i : ∀ b, av' b → av b) : ∀ {R : List Addr} {ss : List Sl} {vs : List V}, KRel K av H R ss vs → KRel K av' H R ss vs
  | _, _, _, .nil => .nil
  | _, _, _, .val r k => .val (r.stay (Stay.weak i)) (k.weak i)
  | _, _, _, .own o n k => .own (o.weak i) n (k.weak i)
/-- one item -/
def HRel (K : Kr) (av : Addr → Prop) (H H' : Hp) (s : Sl) (v : V) : Prop := match s with
  | .val d => Rp K av H' d v
  | .own d => ∃ p, v = .ref p ∧ H p = none ∧ OwnAt K (fun a => av a ∨ a = p) H' d p
  | _ => False
def hT (Γ : Gm) (E : XK) (f : SEnv → Res Sl) : TE := fun σ H Q => ∃ av av0 ρ, EnvV Γ av H σ (SEnv.vis ρ) ∧ EnvV Γ av0 H σ (SEnv.all ρ) ∧ ROk Γ av H (fun H' s v => HRel Γ.kr av H H' s v) (f ρ) Q E
def kT (Γ : Gm) (E : XK) (f : SEnv → Res (List Sl)) : TA := fun σ H Q => ∃ av av0 ρ, EnvV Γ av H σ (SEnv.vis ρ) ∧ EnvV Γ av0 H σ (SEnv.all ρ) ∧
  ROk Γ av H (fun H' ss vs => ∃ R, (∀ p ∈ R, H p = none ∧ H' p ≠ none) ∧ KRel Γ.kr (fun a => av a ∨ a ∈ R) H' R ss vs) (f ρ) Q E
/-- new places are kept off from now on -/
theorem stay_news {Γ : Gm} {av : Addr → Prop} {H1 H2 : Hp} {R : Addr → Prop} (x : Ext Γ H1 H2) (hR : ∀ p, R p → H1 p = none) : Stay Γ.kr av (fun a => av a ∨ R a) H1 H2 := by
  have nn : ∀ {b : Addr} {z : HO}, H1 b = some z → ¬ avr Γ.kr av b → ¬ avr Γ.kr (fun b => av b ∨ R b) b := fun {b z} e n q => by
    rcases q with (q | q) | q
    · exact n (.inl q)
    · rw [hR b q] at e; cases e
    · exact n (.inr q)
  have s := x.stay av
  exact ⟨s.tup, fun a xs n e => ⟨(s.lst a xs n e).1, nn e n⟩, fun a xs n e => ⟨(s.dK a xs n e).1, nn e n⟩, fun a xs n e => ⟨(s.dT a xs n e).1, nn e n⟩, s.rng, s.frz⟩
section
variable {X : Cx} {Γ : Gm} {E : XK} {x : Str} {a b c o e : Expr} {es : List Expr} {st : Stmt} {pos p p2 pos' : Pos} {f fa fb fc : Env → Res D} {h0 : SEnv → Res Sl} {ks : SEnv → Res (List Sl)}
/-! the items -/
def hV (f : Env → Res D) : SEnv → Res Sl := fun ρ => (f ρ.vis).bind fun d => .ok (.val d)
def hP (f : Env → Res D) : SEnv → Res Sl := fun ρ => (f ρ.all).bind fun d => if d.pure = true then .ok (.val d) else .no
def hN (f : Env → Res D) : SEnv → Res Sl := fun ρ => (f ρ.all).bind fun d => if purC d = true then .ok (.own d) else .no
def hNV (f : Env → Res D) : SEnv → Res Sl := fun ρ => (f ρ.vis).bind fun d => .ok (.own d)
theorem th_v (h : PE X a (eT Γ E f)) : PE X a (hT Γ E (hV f)) := PE.imp h fun σ H Q ⟨av, av0, ρ, e1, e2, h⟩ => ⟨av, _, e1, h.bind fun d v H1 x r q => q v H1 (Ext.refl Γ H1) r⟩
theorem th_p (h : PE X a (eT Γ E f)) : PE X a (hT Γ E (hP f)) := PE.imp h fun σ H Q ⟨av, av0, ρ, e1, e2, h⟩ => ⟨av0, _, e2, h.bind fun d v H1 x r q => by
  obtain ⟨hp, q⟩ := ROk.ifp q
  exact q v H1 (Ext.refl Γ H1) (show Rp Γ.kr av H1 d v from r.pureUp hp)⟩
theorem th_n (h : PE X a (nT Γ E f)) : PE X a (hT Γ E (hN f)) := PE.imp h fun σ H Q ⟨av, av0, ρ, e1, e2, h⟩ => ⟨av0, _, e2, h.bind fun d v H1 x ⟨p, e, hp, o⟩ q => by
  obtain ⟨hq, q⟩ := ROk.ifp q
  exact q v H1 (Ext.refl Γ H1) ⟨p, e, hp, o.pureUp hq⟩⟩
theorem th_nv (h : PE X a (nT Γ E f)) : PE X a (hT Γ E (hNV f)) := PE.imp h fun σ H Q ⟨av, av0, ρ, e1, e2, h⟩ => ⟨av, _, e1, h.bind fun d v H1 x r q => q v H1 (Ext.refl Γ H1) r⟩
def kNil : SEnv → Res (List Sl) := fun _ => .ok []
def kCons (h0 : SEnv → Res Sl) (ks : SEnv → Res (List Sl)) : SEnv → Res (List Sl) := fun ρ => (h0 ρ).bind fun s => (ks ρ).bind fun ss => .ok (s :: ss)
theorem tk_nil : PA X [] (kT Γ E kNil) := PA.imp pa_nil fun σ H Q ⟨av, av0, ρ, e1, e2, h⟩ => h [] H (Ext.refl Γ H) ⟨[], (fun _ hp => by cases hp), .nil⟩
theorem tk_cons (ha : PE X a (hT Γ E h0)) (hr : PA X es (kT Γ E ks)) (hs : starEach (a :: es) X.env = (false, eval a X.env) :: starEach es X.env := by rfl) : PA X (a :: es) (kT Γ E (kCons h0 ks)) :=
  PA.imp (pa_cons ha hr hs) fun σ H Q ⟨av, av0, ρ, e1, e2, h⟩ => ⟨av, av0, ρ, e1, e2, h.bind fun s v H1 x1 r1 h1 => by
    have back : ∀ {p : Addr}, H1 p = none → H p = none := fun {p} hp => by
      cases q : H p with
      | none => rfl
      | some u => exact absurd hp (x1.there p (by rw [q]; intro z; cases z))
    cases s with
    | dead => exact (show False from r1).elim
    | row d => exact (show False from r1).elim
    | val d =>
      refine ⟨av, av0, ρ, e1.ext x1, e2.ext x1, h1.bind fun ss vs H2 x2 r2 h2 => ?_⟩
      obtain ⟨R, hR, k⟩ := r2
      have r1 : Rp Γ.kr av H1 d v := r1
      exact h2 _ H2 (Ext.refl Γ H2) ⟨R, fun p hp => ⟨back (hR p hp).1, (hR p hp).2⟩, .val (r1.stay (stay_news x2 fun p hp => (hR p hp).1)) k⟩
    | own d =>
      obtain ⟨p, rfl, hp, o⟩ := r1
      obtain ⟨u, hu, hcu⟩ := o.cont
      refine ⟨fun a => av a ∨ a = p, av0, ρ, e1.new x1 hp hu, e2.ext x1, ROk.bind (av := av) h1 fun ss vs H2 x2 r2 h2 => ?_⟩
      obtain ⟨R, hR, k⟩ := r2
      have hpR : p ∉ R := fun z => by
        have := (hR p z).1
        rw [hu] at this
        cases this
      have hrow : Γ.row ≠ some p := e1.wf.row.new hp
      have w : ∀ b, (av b ∨ b ∈ p :: R) → ((av b ∨ b = p) ∨ b ∈ R) := fun b z => by
        rcases z with z | z
        · exact .inl (.inl z)
        · rcases List.mem_cons.mp z with z | z
          · exact .inl (.inr z)
          · exact .inr z
      refine h2 _ H2 (Ext.refl Γ H2) ⟨p :: R, fun q hq => ?_, .own ?_ hpR (k.weak w)⟩
      · rcases List.mem_cons.mp hq with z | hq
        · rw [z]; exact ⟨hp, x2.there p (by rw [hu]; exact Option.some_ne_none u)⟩
        · exact ⟨back (hR q hq).1, (hR q hq).2⟩
      · refine (o.stay (stay_news (R := fun a => a ∈ R) x2 fun q hq => (hR q hq).1) fun z e n => x2.keep _ z e n fun _ => hrow).weak w⟩
/-! the stores -/
def storeV (σ : St) : List Nat → List V → St
  | i :: is, v :: vs => storeV (σ.set i (some v)) is vs
  | _, _ => σ
def setSls (ρ : SEnv) : List Nat → List Sl → Option SEnv
  | [], [] => some ρ
  | i :: is, s :: ss => if isRow ρ i = false then setSls (ρ.set i s) is ss else none
  | _, _ => none
def parO (is : List Nat) (ks : SEnv → Res (List Sl)) : SEnv → Out := fun ρ => bindO (ks ρ) fun ss => match setSls ρ is ss with | some ρ' => .nx ρ' | none => .no
theorem setSls_len : ∀ {is : List Nat} {ss : List Sl} {ρ ρ' : SEnv}, setSls ρ is ss = some ρ' → is.length = ss.length
  | [], [], _, _, _ => rfl
  | [], _ :: _, _, _, h => by cases h
  | _ :: _, [], _, _, h => by cases h
  | i :: is, s :: ss, ρ, ρ', h => by
    unfold setSls at h
    split at h
    · exact congrArg (· + 1) (setSls_len h)
    · cases h
theorem KRel.len {K : Kr} {av : Addr → Prop} {H : Hp} : ∀ {R : List Addr} {ss : List Sl} {vs : List V}, KRel K av H R ss vs → ss.length = vs.length
  | _, _, _, .nil => rfl
  | _, _, _, .val _ k => congrArg (· + 1) k.len
  | _, _, _, .own _ _ k => congrArg (· + 1) k.len
theorem store_run {amb : Addr → Prop} {mr : Mr} {H0 H : Hp} {tmp : List (V × D)} {ρ' : SEnv} : ∀ {is : List Nat} {ss : List Sl} {vs : List V} {R : List Addr} {ad : Nat → Addr} {σ : St} {ρ : SEnv}, SAd Γ (fun a => amb a ∨ a ∈ R) H0 mr tmp ad σ H ρ →
    KRel Γ.kr (avO (fun a => amb a ∨ a ∈ R) ad ρ) H R ss vs → (∀ p ∈ R, H0 p = none ∧ ¬ amb p ∧ NR Γ p) → setSls ρ is ss = some ρ' → SA Γ amb H0 mr tmp (storeV σ is vs) H ρ'
  | [], ss, vs, R, ad, σ, ρ, S, k, hR, h => by
    cases ss with
    | cons _ _ => cases h
    | nil =>
      cases h
      cases k
      exact ⟨ad, S.ambLess fun a z => .inl z⟩
  | i :: is, ss, vs, R, ad, σ, ρ, S, k, hR, h => by
    cases k with
    | nil => cases h
    | @val _ d v ss vs r k =>
      unfold setSls at h
      split at h
      · rename_i hr
        exact store_run (is := is) (S.setVal hr r) (k.weak avO_val) hR h
      · cases h
    | @own R d p ss vs o hp k =>
      unfold setSls at h
      split at h
      · rename_i hr
        obtain ⟨g1, g2, g3⟩ := hR p List.mem_cons_self
        obtain ⟨ad', S', w⟩ := S.takeIn (i := i) (d := d) hr List.mem_cons_self g1 g2 g3 o
        have sub : ∀ a, (amb a ∨ a ∈ R) → (amb a ∨ (a ∈ p :: R ∧ a ≠ p)) := fun a z => z.imp id fun z => ⟨List.mem_cons_of_mem _ z, fun e => hp (e ▸ z)⟩
        exact store_run (is := is) (S'.ambLess sub) (k.weak fun b z => w b (Or.imp (sub b) id z)) (fun q hq => hR q (List.mem_cons_of_mem _ hq)) h
      · cases h
theorem par_out {amb : Addr → Prop} {mr : Mr} {H0 H : Hp} {tmp : List (V × D)} {ad : Nat → Addr} {σ : St} {ρ : SEnv} {Z : Ends} {is : List Nat} {R : List V → Hp → Prop} (S : SAd Γ amb H0 mr tmp ad σ H ρ) (h : SOk Γ amb H0 mr tmp (parO is ks ρ) Z E)
    (hk : ∀ vs H1, vs.length = is.length → (∀ H2, Ext Γ H1 H2 → Z.nx (storeV σ is vs) H2) → R vs H1) : kT Γ E ks σ H R := by
  refine ⟨avO amb ad ρ, _, ρ, S.envVis, S.envAll, SOk.bind S h fun ss vs H1 x1 S1 r1 h1 => ?_⟩
  obtain ⟨Rs, hR, k⟩ := r1
  cases q : setSls ρ is ss with
  | none => simp only [q] at h1; exact (show False from h1).elim
  | some ρ' =>
    simp only [q] at h1
    refine hk vs H1 ((setSls_len q).trans k.len).symm fun H2 x2 => h1 _ H2 ?_
    have S2 := S.reserve (R := fun a => a ∈ Rs) (x1.trans x2) (fun a z => (hR a z).1) (fun a z => x2.there a (hR a z).2)
    refine store_run S2 ?_ (fun p hp => ?_) q
    · have w : ∀ b, avO (fun a => amb a ∨ a ∈ Rs) ad ρ b → (avO amb ad ρ b ∨ b ∈ Rs) := fun b z => by
        rcases z with (z | z) | z
        · exact .inl (.inl z)
        · exact .inr z
        · exact .inl (.inr z)
      have ex : ∀ {R' : List Addr} {ss : List Sl} {vs : List V}, (∀ p ∈ R', p ∈ Rs) → KRel Γ.kr (fun a => avO amb ad ρ a ∨ a ∈ Rs) H1 R' ss vs → KRel Γ.kr (fun a => avO amb ad ρ a ∨ a ∈ Rs) H2 R' ss vs := by
        intro R' ss vs hs k
        induction k with
        | nil => exact .nil
        | val r k ih => exact .val (r.ext x2) (ih hs)
        | @own R' d p ss vs o n k ih =>
          refine .own (o.stay (x2.stay _) fun z e n => x2.keep _ z e n fun _ => ?_) n (ih fun q hq => hs q (List.mem_cons_of_mem _ hq))
          exact S.rw.new (hR p (hs p List.mem_cons_self)).1
      exact (ex (fun p hp => hp) k).weak w
    · have hn := (hR p hp).1
      refine ⟨?_, fun z => S.ambT p z hn, S.rw.nr hn⟩
      cases q : H0 p with
      | none => rfl
      | some u => exact absurd hn (S.ext.there p (by rw [q]; intro z; cases z))
theorem ts_par2 {i j : Nat} {x y : Str} {px py pt : Pos} {kt k2 pt2} (hc : X.calm = true) (hN : X.N.Nodup) (ha : PA X [a, b] (kT Γ E ks)) (hi : X.N[i]? = some x := by rfl) (hj : X.N[j]? = some y := by rfl) (hij : i ≠ j := by decide)
    (hx : X.env.scope.names.lookup x = some .local := by rfl) (hy : X.env.scope.names.lookup y = some .local := by rfl)
    (hw : swappedStores [.Tuple [.Name x px, .Name y py] kt pt] (.Tuple [a, b] k2 pt2) X.env = pure (some [x, y]) := by rfl)
    (hs : swapsWithSole [.Tuple [.Name x px, .Name y py] kt pt] (.Tuple [a, b] k2 pt2) pos.line X.env = pure false := by rfl) : PS X (.Assign [.Tuple [.Name x px, .Name y py] kt pt] (.Tuple [a, b] k2 pt2) pos) (sT Γ E (parO [i, j] ks)) :=
  PS.imp (ps_par hc hN hi hj hij hx hy ha hw hs) fun Z σ H ⟨amb, H0, mr, tmp, ρ, ⟨ad, S⟩, h⟩ => par_out S h fun vs H1 hl k => by
    match vs, hl with
    | [v, w], _ => exact ⟨v, w, rfl, k H1 (Ext.refl Γ H1)⟩
theorem ts_par3 {i j l : Nat} {x y z : Str} {px py pz pt : Pos} {kt k2 pt2} (hc : X.calm = true) (hN : X.N.Nodup) (ha : PA X [a, b, c] (kT Γ E ks)) (hi : X.N[i]? = some x := by rfl) (hj : X.N[j]? = some y := by rfl) (hl : X.N[l]? = some z := by rfl) (hij : i ≠ j := by decide) (hil : i ≠ l := by decide) (hjl : j ≠ l := by decide)
    (hx : X.env.scope.names.lookup x = some .local := by rfl) (hy : X.env.scope.names.lookup y = some .local := by rfl) (hz : X.env.scope.names.lookup z = some .local := by rfl)
    (hw : swappedStores [.Tuple [.Name x px, .Name y py, .Name z pz] kt pt] (.Tuple [a, b, c] k2 pt2) X.env = pure (some [x, y, z]) := by rfl)
    (hs : swapsWithSole [.Tuple [.Name x px, .Name y py, .Name z pz] kt pt] (.Tuple [a, b, c] k2 pt2) pos.line X.env = pure false := by rfl) : PS X (.Assign [.Tuple [.Name x px, .Name y py, .Name z pz] kt pt] (.Tuple [a, b, c] k2 pt2) pos) (sT Γ E (parO [i, j, l] ks)) :=
  PS.imp (ps_par3 hc hN hi hj hl hij hil hjl hx hy hz ha hw hs) fun Z σ H ⟨amb, H0, mr, tmp, ρ, ⟨ad, S⟩, h⟩ => par_out S h fun vs H1 hl k => by
    match vs, hl with
    | [u, v, w], _ => exact ⟨u, v, w, rfl, k H1 (Ext.refl Γ H1)⟩
/-- raw targets: plain names -/
def gNs (is : List Nat) : TGs := fun vs σ H Q => vs.length = is.length ∧ Q (storeV σ is vs) H
theorem gns_nil : PGs X [] (gNs []) := PGs.imp pgs_nil fun vs σ H Q ⟨hl, q⟩ => by
  cases vs with
  | nil => exact ⟨rfl, q⟩
  | cons _ _ => cases hl
theorem gns_cons {is : List Nat} (i : Nat) (h : PGs X es (gNs is)) (hN : X.N.Nodup) (hi : X.N[i]? = some x := by rfl) (hx : Loc X.env.scope x := by first | exact Or.inl rfl | exact Or.inr rfl) (hf : X.fn x = true ∨ X.env.scope.names.lookup x = some .local := by first | exact .inl rfl | exact .inr rfl)
    (hs : (assignEach (.Name x pos :: es) X.env).map (·.2) = assign (.Name x pos) X.env :: (assignEach es X.env).map (·.2) := by rfl) : PGs X (.Name x pos :: es) (gNs (i :: is)) :=
  PGs.imp (pgs_cons (pg_name hN hi hx hf) h hs) fun vs σ H Q ⟨hl, q⟩ => by
    cases vs with
    | nil => cases hl
    | cons v vs => exact ⟨v, vs, rfl, by simpa using hl, q⟩
/-- by way of a tuple -/
theorem ts_parT {ts : List Expr} {is : List Nat} {kt k2 : Nat} {pt pt2 : Pos} (hc : X.calm = true) (ha : PA X es (kT Γ E ks)) (hg : PGs X ts (gNs is)) (hz : is.length ≤ lim := by decide) (hn : (assignEach ts X.env).length = is.length := by rfl) (hst : (assignEach ts X.env).findIdx? (·.1) = none := by rfl)
    (hs : swapsWithSole [.Tuple ts kt pt] (.Tuple es k2 pt2) pos.line X.env = pure false := by rfl) (hw : swappedStores [.Tuple ts kt pt] (.Tuple es k2 pt2) X.env = pure none := by rfl)
    (h1 : (assignEach [.Tuple ts kt pt] X.env).map (·.2) = [assign (.Tuple ts kt pt) X.env] := by rfl) : PS X (.Assign [.Tuple ts kt pt] (.Tuple es k2 pt2) pos) (sT Γ E (parO is ks)) :=
  PS.imp (ps_asg (pe_tup ha) (pg_tup hc hg hn hst) hs hw h1) fun Z σ H ⟨amb, H0, mr, tmp, ρ, ⟨ad, S⟩, h⟩ => par_out S h fun vs H1 hl k =>
    ⟨by rw [lim_eq, hl]; exact hz, fun p hp => ⟨p, vs, rfl, SqT.of upd_same, hl, hl, k _ (Ext.new _ hp)⟩⟩
end
end Fw
end
set_option Elab.async false
set_option linter.all false
set_option autoImplicit false
set_option maxRecDepth 100000
set_option maxHeartbeats 4000000
/-! Fw11: all, any of a generator expression; its element runs in the generator's own frame. -/
noncomputable section
namespace Fw
open PySem PySem.Spec PyProof.Rows L2

/-- the state but for the table of generators and the marks -/
structure Slp (s s' : Shared) : Prop where
  heap : s'.heap = s.heap
  os : s'.os = s.os
  bare : AllBare s'.gens
theorem inv_slp {X : Cx} {pins : List (Addr × Obj)} {σ : L2.St} {H : Hp} {s s' : Shared} (I : Inv X pins σ H s) (z : Slp s s') : Inv X pins σ H s' := by
  obtain ⟨h1, h2, h3⟩ := z
  obtain ⟨ok, os, bare, base, loc, cell, free, freeC, pin, hok, len⟩ := I
  refine ⟨ok, h2.trans os, h3, ?_, ?_, ?_, free, freeC, ?_, ?_, len⟩
  · rw [h1]; exact base
  · rw [h1]; exact loc
  · rw [h1]; exact cell
  · rw [h1]; exact pin
  · rw [h1]; exact hok
/-- the context of a generator expression's frame -/
abbrev genCx (X : Cx) (A' : Around) (s : Shared) (H : Hp) (scope : Scope) (cenv : PySem.Env) (fp : List Addr) (pn : List (Addr × Obj)) : Cx :=
  { X with A := A', s_0 := s, H_0 := H, env := cenv, outer := X.stack, stack := cenv :: X.stack, ex := fp, fn := fun x => scope.names.lookup x == some .cell, pn := pn, xe := fun _ _ => False }
structure GenOk (N : List Str) (sc scope : Scope) (own : List (Str × Nat)) : Prop where
  blk : BlkOk N sc scope own
  co : scope.isCoroutine = false
  cell : ∀ y ∈ scope.names, y.2 ≠ .cell
  dot : scope.names.lookup (".0" : Str) = some NameKind.local
section
variable {X : Cx} {pins : List (Addr × Obj)} {σ : L2.St} {H : Hp} {s : Shared}
theorem clo_sub {cells : List (Str × Addr)} {names : List (Str × NameKind)} (has : ∀ y ∈ names, y.2 = .free → ∃ c, cells.lookup y.1 = some c) {y : Str} {c : Addr} (e : (cloFrom cells names []).lookup y = some c) : cells.lookup y = some c := by
  rcases cloFrom_mem (PySem.mem_of_lookup e) with z | ⟨z, rfl⟩
  · exact absurd z (by simp)
  · rcases has _ z rfl with ⟨c, g⟩
    rw [g]
    rfl
theorem clo_get {cells : List (Str × Addr)} {names : List (Str × NameKind)} (has : ∀ y ∈ names, y.2 = .free → ∃ c, cells.lookup y.1 = some c) {y : Str} (e : names.lookup y = some .free) : ∃ c, (cloFrom cells names []).lookup y = some c ∧ cells.lookup y = some c :=
  (mem_lookup (cloFrom_has (cells := cells) (acc := []) (PySem.mem_of_lookup e))).imp fun _ g => ⟨g, clo_sub has g⟩
theorem gen_start {A' : Around} {scope : Scope} {own : List (Str × Nat)} {fp : List Addr} {a : Addr} {og : Obj} {code : Value} {gs5 : Array GenState} {tk5 : Nat} {h5 : Heap} {m0 : Str → Option Value} (I : Inv X pins σ H s) (ok : GenOk X.N X.env.scope scope own) (hN : X.N.Nodup)
    (hfp : ∀ b ∈ fp, FpOk X pins H b ∧ b < s.heap.objs.size) (hA : A'.handled = none) (hfr : A'.frames = some (genEnv scope (cloFrom X.env.cells scope.names []) s.heap.objs.size code builtinsNs X.env :: X.stack))
    (hb : AllBare gs5) (k : ∀ b o, s.heap.get? b = some o → h5.get? b = some o) (hn : h5.Ns s.heap.objs.size m0) (ha : h5.get? a = some og) (hag : s.heap.objs.size ≤ a) (haC : a ≠ s.heap.objs.size) (hao : ∀ v, og.data ≠ .cell v) :
    Inv (genCx X A' s H scope (genEnv scope (cloFrom X.env.cells scope.names []) s.heap.objs.size code builtinsNs X.env) fp [(a, og)]) [] (wipe σ (own.map (·.2))) H { s with gens := gs5, toks := tk5, heap := h5 } := by
  have has : ∀ y ∈ scope.names, y.2 = .free → ∃ c, X.env.cells.lookup y.1 = some c := fun y m f => (ok.blk.free y m f).elim (fun z => I.ok.has _ (.inl z)) fun z => I.ok.has _ (.inr z)
  have sub : ∀ {y c}, (cloFrom X.env.cells scope.names []).lookup y = some c → X.env.cells.lookup y = some c := fun e => clo_sub has e
  have nc : ∀ y, scope.names.lookup y ≠ some .cell := fun y z => ok.cell _ (PySem.mem_of_lookup z) rfl
  have good : (genCx X A' s H scope (genEnv scope (cloFrom X.env.cells scope.names []) s.heap.objs.size code builtinsNs X.env) fp [(a, og)]).Ok := {
    mod := I.ok.mod
    kind := ok.blk.kind
    glob := I.ok.glob
    blt := rfl
    above := Nat.le_refl _
    inj := fun y z c p q => I.ok.inj y z c (sub p) (sub q)
    has := fun y p => p.elim (fun z => absurd z (nc y)) fun z => (clo_get has z).imp fun _ g => g.1
    cab := fun y c z _ => absurd (beq_iff_eq.mp z) (nc y)
    hd := fun _ => hA
    frames := hfr
    stk := .inr ⟨rfl, rfl⟩
    exf := fun b m => ⟨Nat.ne_of_lt (hfp b m).2, fun y c g => (hfp b m).1.2.2.2.2.1 y c (sub g)⟩
    bs := I.bs
    bsz := Nat.le_trans I.ok.bsz I.sz
    noex := fun b o g m => (hfp b m).1.2.2.2.1.elim (I.ok.noex b o g) fun z => Nat.lt_irrefl _ (Nat.lt_of_lt_of_le (Heap.lt_size g) (Nat.le_trans I.ok.bsz z))
    exfs := fun b m z => (List.mem_cons.mp (I.stkSub b z)).elim (hfp b m).1.2.1 (hfp b m).1.2.2.1
    funs := I.stack
    frf := I.stkFree }
  have wide : ∀ (i : Nat) (y : Str) (v : V), X.N[i]? = some y → (wipe σ (own.map (·.2)))[i]? = some (some v) → Vis scope y → scope.names.lookup y = some .free := by
    intro i y v at_ slot vis
    rcases vis with z | z | z
    · refine absurd ?_ (wipe_some slot).2
      rcases ok.blk.own _ (PySem.mem_of_lookup z) (.inl rfl) with q | q
      · rcases List.mem_map.mp q with ⟨p, hp, rfl⟩
        exact List.mem_map.mpr ⟨p, hp, nodup_ix hN (ok.blk.ix p hp) at_⟩
      · exact absurd (List.mem_of_getElem? at_) q
    · exact absurd z (nc y)
    · exact z
  refine {
    ok := good
    os := rfl
    bare := hb
    base := Un.kept k
    loc := ⟨m0, hn, fun i y v at_ slot vis => ?_⟩
    cell := fun y c g => (I.cell y c (sub g)).imp fun _ z => z.keeps k
    free := I.hok.fresh (Nat.le_refl _)
    freeC := fun y c g => I.freeC y c (sub g)
    pin := fun p hp => ?_
    hok := I.hok.kept k
    len := (wipe_length _ _).trans I.len }
  · have fr := wide i y v at_ slot vis
    have kind := ok.blk.free _ (PySem.mem_of_lookup fr) rfl
    rcases clo_get has fr with ⟨c, g1, g2⟩
    rcases I.loc with ⟨m, _, known⟩
    rcases known i y v at_ (wipe_some slot).1 (kind.elim (fun z => .inr (.inl z)) fun z => .inr (.inr z)) with ⟨u, r, ⟨z, _⟩ | ⟨_, c2, g3, held⟩⟩
    · exact (kind.elim (fun q => by cases (show some NameKind.local = some .cell from z.symm.trans q)) fun q => by cases (show some NameKind.local = some .free from z.symm.trans q))
    · cases g2.symm.trans g3
      exact ⟨u, r, .inr ⟨.inr fr, c, g1, held.keeps k⟩⟩
  · cases (show p = (a, og) by simpa using hp)
    refine ⟨ha, I.hok.fresh hag, haC, fun z => ?_, hao⟩
    rcases I.stack.mem (show a ∈ frs X.stack from z) with ⟨_, o, g, _⟩
    exact Nat.lt_irrefl _ (Nat.lt_of_lt_of_le (Heap.lt_size g) hag)
end

/-- all (st = false), any (st = true): what is wanted of the element at each turn; the def's table may have grown -/
def tGen (st : Bool) (wi : TI) (g : TG) (te : TE) (vs : List Nat) (P : Addr) : TE := fun σ H Q => wi σ H fun J H1 => GxR.TabG H1 P ∧ ∀ H2, GxR.Tabbed P H1 H2 → ∃ W : Nat → Nat → Hp → Prop, (∃ m, W 0 m H2) ∧ ∀ i m H, W i m H →
  (J.stop i H ∧ Q (.bl !st) H) ∨ (J.go i H ∧ 0 < m ∧ ∀ x H', J.yld i H x H' → g x (wipe σ vs) H' fun σ2 H2 => wipe σ2 vs = wipe σ vs ∧ te σ2 H2 fun y H3 => ∃ b, y = .bl b ∧ if b = st then Q (.bl st) H3 else ∃ m', m' < m ∧ W (i + 1) m' H3)
section
variable {X : Cx} {elt tg iter : Expr} {scope : Scope} {pos : Pos} {B : Around} {it a : Addr} {og : Obj} {cenv : PySem.Env} {fp : List Addr} {s0 : Shared} {H0 : Hp} {σ : L2.St} {vs : List Nat} {st : Bool} {Q : VK} {J : It} {g : TG} {te : TE} {tn : Nat → Heap → Prop}
abbrev gCode (elt tg iter : Expr) (scope : Scope) (pos : Pos) (it : Addr) (cenv : PySem.Env) : Code := .compLoop (.GeneratorExp elt [⟨tg, iter, [], 0⟩] scope pos) 0 (.ref it) .none cenv
abbrev gCx (X : Cx) (B : Around) (elt tg iter : Expr) (scope : Scope) (pos : Pos) (it : Addr) (cenv : PySem.Env) (s0 : Shared) (H0 : Hp) (fp : List Addr) (a : Addr) (og : Obj) : Cx := genCx X (B.over (gCode elt tg iter scope pos it cenv) []) s0 H0 scope cenv fp [(a, og)]
def gFin (X : Cx) (Q : VK) (st : Bool) (s : Shared) : Prop := ∃ σ' H, Inv X [] σ' H s ∧ Q (.bl !st) H
def gY (X : Cx) (Q : VK) (st : Bool) : Protocol := fun n s₀ v s kap => ∃ b σ' H pins', v = .bool b ∧ Inv X pins' σ' H s ∧ if b = st then Q (.bl st) H else ∀ s', Slp s s' → kap (.send .none) s'
theorem seg_genI (hc : X.calm = true) (hco : scope.isCoroutine = false) (hcs : cenv.scope = scope) (haf : a ∉ fp) (hg : PG (gCx X B elt tg iter scope pos it cenv s0 H0 fp a og) tg g) (he : PE (gCx X B elt tg iter scope pos it cenv s0 H0 fp a og) elt te) (T : Turn X.prog X.w X.K tg J fp it tn) {W : Nat → Nat → Hp → Prop}
    (turn : ∀ i m H, W i m H → (J.stop i H ∧ Q (.bl !st) H) ∨ (J.go i H ∧ 0 < m ∧ ∀ x H', J.yld i H x H' → g x (wipe σ vs) H' fun σ2 H2 => wipe σ2 vs = wipe σ vs ∧ te σ2 H2 fun y H3 => ∃ b, y = .bl b ∧ if b = st then Q (.bl st) H3 else ∃ m', m' < m ∧ W (i + 1) m' H3)) :
    ∀ (n m i : Nat) (s₀ s : Shared) (H : Hp), m ≤ n → Inv (gCx X B elt tg iter scope pos it cenv s0 H0 fp a og) [] (wipe σ vs) H s → tn i s.heap → (∀ b ∈ fp, H b = none) → W i m H →
      Seg (model X.prog X.w) B (fun n s₀ r s₁ => r = .ok .next ∧ gFin (gCx X B elt tg iter scope pos it cenv s0 H0 fp a og) Q st s₁) (gY (gCx X B elt tg iter scope pos it cenv s0 H0 fp a og) Q st) n s₀ (gCode elt tg iter scope pos it cenv) ((model X.prog X.w).den (gCode elt tg iter scope pos it cenv)) [] s := by
  generalize hX : gCx X B elt tg iter scope pos it cenv s0 H0 fp a og = Xg at hg he ⊢
  have ep : Xg.prog = X.prog := by rw [← hX]
  have ew : Xg.w = X.w := by rw [← hX]
  have eK : Xg.K = X.K := by rw [← hX]
  have eA : Xg.A = B.over (gCode elt tg iter scope pos it cenv) [] := by rw [← hX]
  have ee : Xg.env = cenv := by rw [← hX]
  have ex : Xg.ex = fp := by rw [← hX]
  have epn : Xg.pn = [(a, og)] := by rw [← hX]
  have ec : Xg.calm = true := by rw [← hX]; exact hc
  have exe : Xg.xe = fun _ _ => False := by rw [← hX]
  have stat : ∀ {σ' : L2.St} {H' : Hp} {s' : Shared}, Inv Xg [] σ' H' s' → (∀ b ∈ fp, H' b = none) → ∀ b ∈ fp, FpOk Xg [] H' b := fun {σ' H' s'} I' hn b hb => by
    have hb' : b ∈ Xg.ex := by rw [ex]; exact hb
    refine ⟨hn b hb, (I'.ok.exf b hb').1, I'.ok.exfs b hb', .inl hb', fun x c e => (I'.ok.exf b hb').2 x c e, fun p hp z => ?_⟩
    rw [epn] at hp
    have hp : p = (a, og) := by simpa using hp
    rw [hp] at z
    have z : a = b := z
    exact haf (by rw [z]; exact hb)
  intro n
  induction n with
  | zero =>
    intro m i s₀ s H hm I tnI hn w
    rcases turn i m H w with ⟨stop, qq⟩ | ⟨_, hm0, _⟩
    · show Seg _ B _ _ _ s₀ _ ((compTurn (.GeneratorExp elt [⟨tg, iter, [], 0⟩] scope pos) 0 (.ref it) .none cenv).onRaise (leaving cenv)) [] s
      rw [compTurn_gen, Sem.onRaise_eq_wrap]
      refine seg_bind_wrap (wpAny_standAt ?_)
      have td := T.done Xg ep ew eK ec i [] s _ H (fun _ _ => False) I (stat I hn) tnI stop
      rw [eA] at td
      refine seg_bind_wrap (thnF td fun r s6 ⟨hr, I6⟩ => ?_)
      subst hr
      exact seg_end (.ok .next) ⟨rfl, _, H, I6, qq⟩
    · omega
  | succ n ih =>
    intro m i s₀ s H hm I tnI hn w
    show Seg _ B _ _ _ s₀ _ ((compTurn (.GeneratorExp elt [⟨tg, iter, [], 0⟩] scope pos) 0 (.ref it) .none cenv).onRaise (leaving cenv)) [] s
    rw [compTurn_gen, Sem.onRaise_eq_wrap]
    refine seg_bind_wrap (wpAny_standAt ?_)
    rcases turn i m H w with ⟨stop, qq⟩ | ⟨go, hm0, step⟩
    · have td := T.done Xg ep ew eK ec i [] s _ H (fun _ _ => False) I (stat I hn) tnI stop
      rw [eA] at td
      refine seg_bind_wrap (thnF td fun r s6 ⟨hr, I6⟩ => ?_)
      subst hr
      exact seg_end (.ok .next) ⟨rfl, _, H, I6, qq⟩
    · have ti := T.item Xg ep ew eK ec i [] s _ H (fun _ _ => False) I (stat I hn) tnI go
      rw [eA] at ti
      refine seg_bind_wrap (thnF ti fun r s6 ⟨u, hr, h6⟩ => ?_)
      subst hr
      refine seg_bind_wrap (thnF h6 fun _ s7 ⟨x, H7, I7, r7, y7, st7, n7⟩ => ?_)
      have I7' := I7.pinned (stat I7 n7) (T.obj _ _ st7)
      have pg := hg.run _ s7 _ H7 x u _ I7' r7 (step x H7 y7)
      rw [eA, ee, ep, ew, exe] at pg
      refine seg_bind_wrap (thnF pg fun _ s8 ⟨σ8, H8, I8, hw8, q8⟩ => ?_)
      have pe := he.run _ s8 σ8 H8 _ I8 q8
      rw [eA, ee, ep, ew, exe] at pe
      simp only [List.forIn_nil]
      refine seg_bind_wrap (wpAny_pure ?_)
      simp only [if_true]
      have hy : ∀ v, yieldOut cenv v = yieldValue v := fun v => by simp only [yieldOut, hcs, hco, Bool.false_eq_true, if_false]
      simp only [hy]
      rw [Sem.bind_eq_wrap', Sem.bind_eq_wrap', Sem.wrap_wrap, Sem.wrap_wrap]
      refine seg_wrap (thnF pe fun z s10 ⟨yv, H10, I10, r10, b, hyb, nx⟩ => ?_)
      subst hyb
      obtain rfl : z = Value.bool b := r10
      refine seg_at (seg_yield rfl rfl rfl ⟨b, σ8, H10, _, rfl, I10, ?_⟩)
      by_cases hb : b = st
      · rw [if_pos hb] at nx ⊢
        exact nx
      · rw [if_neg hb] at nx ⊢
        intro s' zs
        obtain ⟨m', hm', w'⟩ := nx
        have I11 := inv_slp I10 zs
        have pin' : ∀ b ∈ fp, ∀ o, s7.heap.get? b = some o → s'.heap.get? b = some o ∧ H10 b = none := fun b hb o e =>
          let z := I11.pin (b, o) (List.mem_append_right _ (List.mem_append_right _ (mem_pinsAt hb e)))
          ⟨z.1, z.2.1⟩
        have hl : (wipe σ vs).length = σ8.length := by rw [← hw8, wipe_length]
        refine seg_again rfl (ih m' (i + 1) s' s' H10 (by omega) ((I11.unpinned (pins := [])).weak hl fun j v e => ?_) (T.keep _ _ _ st7 fun b hb o e => (pin' b hb o e).1) (fun b hb => ?_) w')
        · rw [← hw8] at e
          exact (wipe_some e).1
        · obtain ⟨o, e, _⟩ := T.obj _ _ st7 b hb
          exact (pin' b hb o e).2
/-- from its start -/
theorem seg_startI {n : Nat} {s₀ s : Shared} {R : GenEnd} {Y : Protocol} (h : Seg (model X.prog X.w) B R Y n s₀ (gCode elt tg iter scope pos it cenv) ((model X.prog X.w).den (gCode elt tg iter scope pos it cenv)) [] s)
    (hself : ∀ (A : Around) (Q : Value → Shared → Prop) (E : Value → Shared → Prop), Q (.ref it) s → wpAny (model X.prog X.w) A (pyIter (.ref it)) Q E s) :
    Seg (model X.prog X.w) B R Y n s₀ (.compStart (.GeneratorExp elt [⟨tg, iter, [], 0⟩] scope pos) 0 (.ref it) .none cenv) ((model X.prog X.w).den (.compStart (.GeneratorExp elt [⟨tg, iter, [], 0⟩] scope pos) 0 (.ref it) .none cenv)) [] s := by
  show Seg _ B _ _ _ s₀ _ ((compStart (.GeneratorExp elt [⟨tg, iter, [], 0⟩] scope pos) 0 (.ref it) .none cenv).onRaise (leaving cenv)) [] s
  unfold compStart
  rw [Sem.onRaise_eq_wrap]
  show Seg _ B _ _ _ s₀ _ ((ask >>= _).wrap _ _ _ _) [] s
  refine seg_bind_wrap (wpAny_askSetting ?_)
  split
  · exact seg_again rfl h
  · first
      | exact seg_bind_wrap (wpAny_rule (seg_bind_wrap (wpAny_standAt (seg_bind_wrap (hself _ _ _ (seg_again rfl h))))))
      | (refine seg_bind_wrap (wpAny_rule ?_); show Seg _ B _ _ _ s₀ _ ((standAt iter.pos >>= _).wrap _ _ _ _) [] s; exact seg_bind_wrap (wpAny_standAt (seg_bind_wrap (hself _ _ _ (seg_again rfl h)))))
/-! ### the consumers -/
theorem setGen_slp {s s1 : Shared} {g : Nat} {gs : GenState} (hb : AllBare s.gens) (hx : gs.bare = true) : Slp s (s.setGen g gs) := ⟨rfl, rfl, allBare_setGen hb hx⟩
variable {A : Around} {gn : Nat}
/-- what the generator promises, standing in the table at gn -/
def gHold (X Xg : Cx) (A : Around) (Q : VK) (st : Bool) (gn n : Nat) (s : Shared) : Prop :=
  ∃ gs, s.gens[gn]? = some gs ∧ gs.Goes (model X.prog X.w) A.in1.in1 (fun _ _ r s₁ => r = .ok .next ∧ gFin Xg Q st s₁) (gY Xg Q st) n (.send .none) (s.setGen gn .running)
/-- one turn -/
theorem gen_next {Xg : Cx} {σ' : L2.St} {H : Hp} {pins' : List (Addr × Obj)} {n : Nat} {s : Shared} {Qn : Option Value → Shared → Prop} {E : Value → Shared → Prop} (hh : A.handled = none) (hroom : A.depth < recursionLimit) (hpn : (a, og) ∈ Xg.pn) (hog : ∀ h : Heap, h.get? a = some og → h.IsGen a gn)
    (I : Inv Xg pins' σ' H s) (hold : gHold X Xg A Q st gn n s) (hend : ∀ s', (∃ σ' H', Inv Xg [] σ' H' s' ∧ Q (.bl !st) H') → Qn none s')
    (hyes : ∀ s' σ' H' pins', Inv Xg pins' σ' H' s' → Q (.bl st) H' → Qn (some (.bool st)) s') (hno : ∀ s' σ' H' pins' m, n = m + 1 → Inv Xg pins' σ' H' s' → gHold X Xg A Q st gn m s' → Qn (some (.bool !st)) s') :
    wpAny (model X.prog X.w) A.in1 (pyNext (.ref a)) Qn E s := by
  obtain ⟨gs, hgs, hgo⟩ := hold
  have hlt : gn + 1 ≤ s.gens.size := by
    rcases Nat.lt_or_ge gn s.gens.size with h' | h'
    · exact h'
    · rw [Array.getElem?_eq_none h'] at hgs; cases hgs
  have hg : s.heap.IsGen a gn := hog _ (I.pin (a, og) (List.mem_append_left _ hpn)).1
  refine GenW.wpAny_gsz hlt (wpAny_pyNext_genexpQ (A := A.in1) (P := fun _ _ s₁ => gFin Xg Q st s₁) hh I.nolimit hroom hg hgs hgo (fun v s₁ gs' hbare hv hsz => ?_) (fun s₁ hp h' hk hsz => ?_))
  · obtain ⟨b, σ1, H1, pins1, rfl, I1, q⟩ := hv
    have sl : Slp s₁ (s₁.setGen gn gs') := ⟨rfl, rfl, allBare_setGen I1.bare hbare⟩
    by_cases hb : b = st
    · subst hb
      rw [if_pos rfl] at q
      exact hyes _ _ _ _ (inv_slp I1 sl) q
    · rw [if_neg hb] at q
      have hb' : b = !st := by cases b <;> cases st <;> simp_all
      subst hb'
      cases n with
      | zero => exact (q s₁ ⟨rfl, rfl, I1.bare⟩).elim
      | succ m =>
        refine hno _ _ _ _ m rfl (inv_slp I1 sl) ⟨gs', ?_, q _ ⟨rfl, rfl, allBare_setGen (allBare_setGen I1.bare hbare) rfl⟩⟩
        have hsz : gn + 1 ≤ (s₁.setGen gn gs').gens.size := hsz
        have hsz' : gn < s₁.gens.size := by
          simp only [Shared.setGen, Array.size_setIfInBounds] at hsz
          omega
        simp [Shared.setGen, hsz']
  · obtain ⟨σ1, H1, I1, q⟩ := hp
    have sl : Slp s₁ (s₁.setGen gn .finished) := ⟨rfl, rfl, allBare_setGen I1.bare rfl⟩
    exact hend _ ⟨σ1, H1, (inv_slp I1 sl).kept hk, q⟩
theorem all_loopI {Xg : Cx} {Res : Result → Shared → Prop} (hh : A.handled = none) (hroom : A.depth < recursionLimit) (hpn : (a, og) ∈ Xg.pn) (hog : ∀ h : Heap, h.get? a = some og → h.IsGen a gn)
    (hR : ∀ b s' σ' H' pins', Inv Xg pins' σ' H' s' → Q (.bl b) H' → Res (.ok (.ret (.bool b))) s') : ∀ (n : Nat) (s : Shared) (σ' : L2.St) (H : Hp) (pins' : List (Addr × Obj)), Inv Xg pins' σ' H s → gHold X Xg A Q false gn n s →
    codeAny (model X.prog X.w) A (.builtin "all.loop" ⟨[.ref a], []⟩) Res s := by
  intro n
  induction n with
  | zero =>
    intro s σ' H pins' I hold
    refine codeAny_builtin F.entry_all_loop ?_
    rw [Around.under_plainId F.plain_all_loop _]
    show wpAny _ A.in1 (pyNext (.ref a) >>= _) _ _ s
    refine wpAny_bind (gen_next hh hroom hpn hog I hold (fun s' ⟨σ1, H1, I1, q⟩ => ?_) (fun s' σ1 H1 p1 I1 q => ?_) (fun s' σ1 H1 p1 m hm I1 h1 => by cases hm))
    · exact wpAny_bind (wpAny_rule (wpAny_pure (hR true s' σ1 H1 [] I1 q)))
    · refine wpAny_bind (wpAny_holding (wpAny_truthy_bool ?_))
      refine wpAny_bind (wpAny_letGo ?_)
      simp only [Bool.false_eq_true, if_false]
      exact wpAny_bind (wpAny_rule (wpAny_pure (hR false s' σ1 H1 p1 I1 q)))
  | succ n ih =>
    intro s σ' H pins' I hold
    refine codeAny_builtin F.entry_all_loop ?_
    rw [Around.under_plainId F.plain_all_loop _]
    show wpAny _ A.in1 (pyNext (.ref a) >>= _) _ _ s
    refine wpAny_bind (gen_next hh hroom hpn hog I hold (fun s' ⟨σ1, H1, I1, q⟩ => ?_) (fun s' σ1 H1 p1 I1 q => ?_) (fun s' σ1 H1 p1 m hm I1 h1 => ?_))
    · exact wpAny_bind (wpAny_rule (wpAny_pure (hR true s' σ1 H1 [] I1 q)))
    · refine wpAny_bind (wpAny_holding (wpAny_truthy_bool ?_))
      refine wpAny_bind (wpAny_letGo ?_)
      simp only [Bool.false_eq_true, if_false]
      exact wpAny_bind (wpAny_rule (wpAny_pure (hR false s' σ1 H1 p1 I1 q)))
    · cases hm
      refine wpAny_bind (wpAny_holding (wpAny_truthy_bool ?_))
      refine wpAny_bind (wpAny_letGo ?_)
      simp only [Bool.not_false, if_true]
      exact wpAny_pure ⟨plainId_quiet F.plain_all_loop _, ih s' σ1 H1 p1 I1 h1⟩
theorem any_loopI {Xg : Cx} {Res : Result → Shared → Prop} (hh : A.handled = none) (hroom : A.depth < recursionLimit) (hpn : (a, og) ∈ Xg.pn) (hog : ∀ h : Heap, h.get? a = some og → h.IsGen a gn)
    (hR : ∀ b s' σ' H' pins', Inv Xg pins' σ' H' s' → Q (.bl b) H' → Res (.ok (.ret (.bool b))) s') : ∀ (n : Nat) (s : Shared) (σ' : L2.St) (H : Hp) (pins' : List (Addr × Obj)), Inv Xg pins' σ' H s → gHold X Xg A Q true gn n s →
    codeAny (model X.prog X.w) A (.builtin "any.loop" ⟨[.ref a], []⟩) Res s := by
  intro n
  induction n with
  | zero =>
    intro s σ' H pins' I hold
    refine codeAny_builtin F.entry_any_loop ?_
    rw [Around.under_plainId F.plain_any_loop _]
    show wpAny _ A.in1 (pyNext (.ref a) >>= _) _ _ s
    refine wpAny_bind (gen_next hh hroom hpn hog I hold (fun s' ⟨σ1, H1, I1, q⟩ => ?_) (fun s' σ1 H1 p1 I1 q => ?_) (fun s' σ1 H1 p1 m hm I1 h1 => by cases hm))
    · exact wpAny_bind (wpAny_rule (wpAny_pure (hR false s' σ1 H1 [] I1 q)))
    · refine wpAny_bind (wpAny_holding (wpAny_truthy_bool ?_))
      refine wpAny_bind (wpAny_letGo ?_)
      simp only [if_true]
      exact wpAny_bind (wpAny_rule (wpAny_pure (hR true s' σ1 H1 p1 I1 q)))
  | succ n ih =>
    intro s σ' H pins' I hold
    refine codeAny_builtin F.entry_any_loop ?_
    rw [Around.under_plainId F.plain_any_loop _]
    show wpAny _ A.in1 (pyNext (.ref a) >>= _) _ _ s
    refine wpAny_bind (gen_next hh hroom hpn hog I hold (fun s' ⟨σ1, H1, I1, q⟩ => ?_) (fun s' σ1 H1 p1 I1 q => ?_) (fun s' σ1 H1 p1 m hm I1 h1 => ?_))
    · exact wpAny_bind (wpAny_rule (wpAny_pure (hR false s' σ1 H1 [] I1 q)))
    · refine wpAny_bind (wpAny_holding (wpAny_truthy_bool ?_))
      refine wpAny_bind (wpAny_letGo ?_)
      simp only [if_true]
      exact wpAny_bind (wpAny_rule (wpAny_pure (hR true s' σ1 H1 p1 I1 q)))
    · cases hm
      refine wpAny_bind (wpAny_holding (wpAny_truthy_bool ?_))
      refine wpAny_bind (wpAny_letGo ?_)
      simp only [Bool.not_true, Bool.false_eq_true, if_false]
      exact wpAny_pure ⟨plainId_quiet F.plain_any_loop _, ih s' σ1 H1 p1 I1 h1⟩
end

section
variable {X : Cx} {elt tg iter : Expr} {scope : Scope} {gpos p pos : Pos} {σ : L2.St} {H : Hp} {s : Shared} {pins : List (Addr × Obj)} {own : List (Str × Nat)} {st : Bool} {Q : VK} {wi : TI} {g : TG} {te : TE} {c P : Addr} {k : Nat}
abbrev gEnvX (X : Cx) (scope : Scope) (C : Addr) (code : Value) : PySem.Env := genEnv scope (cloFrom X.env.cells scope.names []) C code builtinsNs X.env
theorem over_frames {A : Around} {cenv : PySem.Env} {it : Addr} {l : List PySem.Env} (h : A.frames = some l) : (A.over (gCode elt tg iter scope gpos it cenv) []).frames = some (cenv :: l) := by
  show pushEnvs (gCode elt tg iter scope gpos it cenv).envs (pushEnvs (envsOf []) A.frames) = _
  rw [h]
  rfl
theorem over_handled0 {A : Around} {cenv : PySem.Env} {it : Addr} : (A.over (gCode elt tg iter scope gpos it cenv) []).handled = A.handled := rfl
theorem Room.gen {A : Around} {cenv : PySem.Env} {it : Addr} (r : Room (k + 1) A) : Room k (A.in1.in1.over (gCode elt tg iter scope gpos it cenv) []) := by
  refine ⟨r.hd, ?_, ?_⟩
  · have := r.dp
    have e : (A.in1.in1.over (gCode elt tg iter scope gpos it cenv) []).depth = A.depth + 1 := rfl
    rw [e]; omega
  · have := r.un
    have e : (A.in1.in1.over (gCode elt tg iter scope gpos it cenv) []).units = A.units + 1 + 1 + 0 + 3 := rfl
    rw [e]; omega
theorem gen_make {Q' : Value → Shared → Prop} (hr : Room k X.A) (hc : X.calm = true) (hN : X.N.Nodup) (TB : GxR.TabB X.base X.mg c P) (hcode : X.env.code = .ref c) (ok : GenOk X.N X.env.scope scope own) (hi : PI X tg iter wi)
    (hg : ∀ (s0 : Shared) (H0 : Hp) (C : Addr) (code : Value) (it : Addr) (fp : List Addr) (a : Addr) (og : Obj), PG (gCx X X.A.in1.in1 elt tg iter scope gpos it (gEnvX X scope C code) s0 H0 fp a og) tg g)
    (he : ∀ (s0 : Shared) (H0 : Hp) (C : Addr) (code : Value) (it : Addr) (fp : List Addr) (a : Addr) (og : Obj), PE (gCx X X.A.in1.in1 elt tg iter scope gpos it (gEnvX X scope C code) s0 H0 fp a og) elt te)
    (hs : ∀ v, genFold iter X.env v = pure v) (I : Inv X pins σ H s) (h : tGen st wi g te (own.map (·.2)) P σ H Q)
    (hQ : ∀ (a : Addr) (og : Obj) (gn n : Nat) (Xg : Cx) (σ' : L2.St) (H' : Hp) (s5 : Shared), (a, og) ∈ Xg.pn → (∀ h : Heap, h.get? a = some og → h.IsGen a gn) → Inv Xg [] σ' H' s5 → gHold X Xg X.A Q st gn n s5 →
      (∀ σ1 H1 pins1 s1, Inv Xg pins1 σ1 H1 s1 → Inv X pins σ H1 s1) → Q' (.ref a) s5) :
    wpAny (model X.prog X.w) X.A (eval (.GeneratorExp elt [⟨tg, iter, [], 0⟩] scope gpos) X.env) Q' X.xe s := by
  have hfree : ∀ y ∈ scope.names, y.2 = .free → ∃ c, X.env.cells.lookup y.1 = some c := fun y hy e => by
    rcases ok.blk.free y hy e with k | k
    · exact I.ok.has _ (.inl k)
    · exact I.ok.has _ (.inr k)
  refine wpAny_GeneratorExp_make ok.co (closure_ok hfree) ok.cell ok.dot ok.blk.kind (by have := hr.dp; omega) ?_ hs
  refine thn (hi.run pins s σ H _ I h) fun xv s1 hx => thn hx fun itv s2 h2 => ?_
  obtain ⟨it, fp, tn, J, H2, e, I2, T, st2, f2, ⟨ps, hP, ht⟩, q⟩ := h2
  subst e
  have hPs : s2.heap.get? P = some { cls := .none, data := .fields ps } := I2.hok P _ hP
  have hPlt : P < s2.heap.objs.size := Heap.lt_size hPs
  have cd : PySem.W.CodeHd s2.heap c P := TB.code.keeps fun b u e => I2.bk b u e
  have fpP : P ∉ fp := fun z => by
    have := (f2 P z).1
    rw [hP] at this
    cases this
  have fsz : ∀ b ∈ fp, b < s2.heap.objs.size := fun b hb => by
    obtain ⟨o, e, _⟩ := T.obj _ _ st2 b hb
    exact Heap.lt_size e
  have cont : ∀ (code : Value) (h3 : Heap) (tk : Nat) (ps' : Array Value), Heap.ExtBut P s2.heap h3 → s2.heap.objs.size ≤ h3.objs.size → h3.get? P = some { cls := .none, data := .fields ps' } → (∃ more, ps' = ps ++ more) → TriplesOk ps'.toList →
      wpAny (model X.prog X.w) X.A (builtinsFor X.env.globals X.env.builtins) (fun bi s₄ =>
        ∀ h', h'.Ns s₄.heap.objs.size (fun y => if y = ".0" then some (.ref it) else none) → Heap.SameBut s₄.heap.objs.size (s₄.heap.push { cls := .type "frame", data := .dict #[] }) h' →
          Q' (.ref h'.objs.size) { s₄ with
            gens := s₄.gens.push (.fresh (.compStart (.GeneratorExp elt [⟨tg, iter, [], 0⟩] scope gpos) 0 (.ref it) .none (genEnv scope (cloFrom X.env.cells scope.names []) s₄.heap.objs.size code bi X.env))),
            toks := s₄.toks + 1 + 1 + 1,
            heap := h'.push { cls := .type "generator", data := .fields #[.int s₄.gens.size 0, .str "<genexpr>" (s₄.toks + 1), .str (X.env.qual ++ "<genexpr>") (s₄.toks + 1 + 1)] } }) X.xe { s2 with heap := h3, toks := tk } := by
    intro code h3 tk ps' hx hsz hP3 hmore ht3
    obtain ⟨bm, ob, e1, e2, e3, e4, e5, e6, e7, e8⟩ := TB.bm
    have keep3 : ∀ b u, b ≠ P → s2.heap.get? b = some u → h3.get? b = some u := fun b u hb e => hx b u hb e
    refine wpAny_builtinsFor (m := X.mg) (by rw [I2.ok.glob]; exact (I2.mod.glob.keeps I2.bk).extBut hx TB.gP) e1 e2 (keep3 _ _ e4 (I2.bk _ _ e5)) e6 e7 e8 ?_
    intro h' hn' hs'
    obtain ⟨more, em⟩ := hmore
    -- the def's state, its table grown
    have I4 := GxR.inv_tab (more := more) (h' := h3) (g' := s2.gens) (d' := s2.drawn) (t' := tk) I2 hP keep3 (by rw [← em]; exact hP3) I2.bare
    generalize hH4 : upd H2 P (.tbl (ps ++ more)) = H4 at I4
    have hTab : GxR.Tabbed P H2 H4 := by
      rw [← hH4]
      exact ⟨⟨ps ++ more, upd_same, by rw [← em]; exact ht3⟩, fun b hb => upd_ne hb⟩
    obtain ⟨W, ⟨m0, w0⟩, turn⟩ := q H4 hTab
    have up : ∀ b o, h3.get? b = some o → h'.get? b = some o := fun b o e => hs'.extBut b o (Nat.ne_of_lt (Heap.lt_size e)) (Heap.get?_push_of_some _ e)
    have hsz' : h'.objs.size = h3.objs.size + 1 := by rw [hs'.1]; exact Heap.size_push ..
    have kp : ∀ b o, h3.get? b = some o → (h'.push { cls := .type "generator", data := .fields #[.int s2.gens.size 0, .str "<genexpr>" (tk + 1), .str (X.env.qual ++ "<genexpr>") (tk + 1 + 1)] }).get? b = some o := fun b o e => Heap.get?_push_of_some _ (up b o e)
    have f4 : ∀ b ∈ fp, FpOk X pins H4 b ∧ b < h3.objs.size := fun b hb => ⟨⟨by rw [hTab.2 b fun z => fpP (z ▸ hb)]; exact (f2 b hb).1, (f2 b hb).2⟩, Nat.lt_of_lt_of_le (fsz b hb) hsz⟩
    have haC : h'.objs.size ≠ h3.objs.size := by rw [hsz']; exact Nat.succ_ne_self _
    have Ig := gen_start (A' := X.A.in1.in1.over (gCode elt tg iter scope gpos it (gEnvX X scope h3.objs.size code)) []) (code := code) (a := h'.objs.size) (gs5 := s2.gens.push (.fresh (.compStart (.GeneratorExp elt [⟨tg, iter, [], 0⟩] scope gpos) 0 (.ref it) .none (gEnvX X scope h3.objs.size code)))) (tk5 := tk + 1 + 1 + 1) I4 ok hN f4 hr.hd (over_frames (A := X.A.in1.in1) I4.ok.frames)
      (AllBare.push I4.bare rfl) kp (hn'.push _) (Heap.get?_push_size _ rfl) (by rw [hsz']; exact Nat.le_succ _) haC (fun v z => by cases z)
    have st5 : tn 0 (h'.push { cls := .type "generator", data := .fields #[.int s2.gens.size 0, .str "<genexpr>" (tk + 1), .str (X.env.qual ++ "<genexpr>") (tk + 1 + 1)] }) := T.keep _ _ _ st2 fun b hb o e => kp b o (keep3 b o (fun z => fpP (z ▸ hb)) e)
    have haf : h'.objs.size ∉ fp := fun z => by
      exact absurd (Nat.lt_of_lt_of_le (f4 _ z).2 (show h3.objs.size ≤ h'.objs.size by rw [hsz']; exact Nat.le_succ _)) (Nat.lt_irrefl _)
    refine hQ _ _ s2.gens.size m0 _ _ _ _ List.mem_cons_self (fun h e => ⟨_, _, _, e, rfl, rfl, rfl⟩) Ig ⟨_, Array.getElem?_push_size, rfl, ?_⟩ fun σ1 H1 pins1 s1 I1 => ?_
    · refine seg_startI (seg_genI hc ok.co rfl haf (hg _ _ _ _ _ _ _ _) (he _ _ _ _ _ _ _ _) T turn m0 m0 0 _ _ H4 (Nat.le_refl _) (inv_slp Ig ⟨rfl, rfl, allBare_setGen Ig.bare rfl⟩) st5 (fun b hb => (f4 b hb).1.1) w0) fun A Q E q => T.self A 0 _ _ _ st5 q
    · exact I4.call' (ch := fp) I1.os I1.base I1.hok I1.bare fun b hb => ⟨(f4 b hb).1.2.2.2.1, (f4 b hb).1.2.1, (f4 b hb).1.2.2.2.2.1, (f4 b hb).1.2.2.2.2.2⟩
  refine ⟨I2.nolimit, ?_⟩
  cases hf : codeAmong gpos ps.toList with
  | none =>
    refine wpAny_genexprCodeX hcode (cd.code hPs ht) (cd.tab hPs) hf fun c' h' tk hx hge hlt hco' _ htab' _ => ?_
    obtain ⟨o1, vs, f1, tf, fl, tg, inF, tx, tt, op, _, _, _, _, _, _, _, _, _, htr, _⟩ := hco'
    exact cont _ h' tk _ hx (Nat.le_trans hge (Nat.le_of_lt hlt)) htab'.2 ⟨_, rfl⟩ htr
  | some cv =>
    refine wpAny_genexprCode_hit hcode (cd.code hPs ht) hf ?_
    exact cont cv s2.heap s2.toks ps (Heap.ExtBut.refl _ _) (Nat.le_refl _) hPs ⟨#[], by simp⟩ ht
theorem pe_allG (hr : Room k X.A) (hc : X.calm = true) (hN : X.N.Nodup) (hgl : Gl X "all") (hm : X.mg "all" = none) (TB : GxR.TabB X.base X.mg c P) (hcode : X.env.code = .ref c) (ok : GenOk X.N X.env.scope scope own) (hi : PI X tg iter wi)
    (hg : ∀ (s0 : Shared) (H0 : Hp) (C : Addr) (code : Value) (it : Addr) (fp : List Addr) (a : Addr) (og : Obj), PG (gCx X X.A.in1.in1 elt tg iter scope gpos it (gEnvX X scope C code) s0 H0 fp a og) tg g)
    (he : ∀ (s0 : Shared) (H0 : Hp) (C : Addr) (code : Value) (it : Addr) (fp : List Addr) (a : Addr) (og : Obj), PE (gCx X X.A.in1.in1 elt tg iter scope gpos it (gEnvX X scope C code) s0 H0 fp a og) elt te)
    (hs : ∀ v, genFold iter X.env v = pure v) (hb : bootBuiltins "all" = some (.builtin "all"))
    (hst : starEach [.GeneratorExp elt [⟨tg, iter, [], 0⟩] scope gpos] X.env = (false, eval (.GeneratorExp elt [⟨tg, iter, [], 0⟩] scope gpos) X.env) :: starEach [] X.env) :
    PE X (.Call (.Name "all" p) [.GeneratorExp elt [⟨tg, iter, [], 0⟩] scope gpos] [] pos) (tGen false wi g te (own.map (·.2)) P) := by
  refine ⟨fun pins s σ H Q I h => ?_⟩
  refine wpAny_Call_Name_kw (ld_blt I hgl hm hb ?_)
  refine PyProof.Rows.callWith_builtin1 ?_ hst (by rfl)
  rw [hst]
  show wpAny _ _ (spliced ((false, eval (.GeneratorExp elt [⟨tg, iter, [], 0⟩] scope gpos) X.env) :: backTo pos (starEach [] X.env))) _ _ s
  refine Calls.spliced_cons (gen_make hr hc hN TB hcode ok hi hg he hs I h fun a og gn n Xg σ' H' s5 hpn hog Ig hold conv => ?_)
  refine Calls.spliced_nil ?_
  refine call_function_tree F.kind_all F.plain_all F.entry_all (F.args_all1 _) ?_
  unfold Builtin.«all»
  refine wpAny_bind (m := oneArg "all" _) (wpAny_pure ?_)
  refine wpAny_bind (wpAny_pyIter_gen (hog _ (Ig.pin (a, og) (List.mem_append_left _ hpn)).1) ?_)
  exact wpAny_pure ⟨plainId_quiet F.plain_all_loop _, all_loopI hr.hd (by have := hr.dp; omega) hpn hog (fun b s' σ1 H1 pins1 I1 q => ⟨.bl b, H1, conv _ _ _ _ I1, rfl, q⟩) n s5 σ' H' [] Ig hold⟩
theorem pe_anyG (hr : Room k X.A) (hc : X.calm = true) (hN : X.N.Nodup) (hgl : Gl X "any") (hm : X.mg "any" = none) (TB : GxR.TabB X.base X.mg c P) (hcode : X.env.code = .ref c) (ok : GenOk X.N X.env.scope scope own) (hi : PI X tg iter wi)
    (hg : ∀ (s0 : Shared) (H0 : Hp) (C : Addr) (code : Value) (it : Addr) (fp : List Addr) (a : Addr) (og : Obj), PG (gCx X X.A.in1.in1 elt tg iter scope gpos it (gEnvX X scope C code) s0 H0 fp a og) tg g)
    (he : ∀ (s0 : Shared) (H0 : Hp) (C : Addr) (code : Value) (it : Addr) (fp : List Addr) (a : Addr) (og : Obj), PE (gCx X X.A.in1.in1 elt tg iter scope gpos it (gEnvX X scope C code) s0 H0 fp a og) elt te)
    (hs : ∀ v, genFold iter X.env v = pure v)
    (hst : starEach [.GeneratorExp elt [⟨tg, iter, [], 0⟩] scope gpos] X.env = (false, eval (.GeneratorExp elt [⟨tg, iter, [], 0⟩] scope gpos) X.env) :: starEach [] X.env) :
    PE X (.Call (.Name "any" p) [.GeneratorExp elt [⟨tg, iter, [], 0⟩] scope gpos] [] pos) (tGen true wi g te (own.map (·.2)) P) := by
  refine ⟨fun pins s σ H Q I h => ?_⟩
  refine wpAny_Call_Name_kw (ld_blt I hgl hm boot_any ?_)
  refine PyProof.Rows.callWith_builtin1 ?_ hst (by rfl)
  rw [hst]
  show wpAny _ _ (spliced ((false, eval (.GeneratorExp elt [⟨tg, iter, [], 0⟩] scope gpos) X.env) :: backTo pos (starEach [] X.env))) _ _ s
  refine Calls.spliced_cons (gen_make hr hc hN TB hcode ok hi hg he hs I h fun a og gn n Xg σ' H' s5 hpn hog Ig hold conv => ?_)
  refine Calls.spliced_nil ?_
  refine call_function_tree F.kind_any F.plain_any F.entry_any (F.args_any1 _) ?_
  unfold Builtin.«any»
  refine wpAny_bind (m := oneArg "any" _) (wpAny_pure ?_)
  refine wpAny_bind (wpAny_pyIter_gen (hog _ (Ig.pin (a, og) (List.mem_append_left _ hpn)).1) ?_)
  exact wpAny_pure ⟨plainId_quiet F.plain_any_loop _, any_loopI hr.hd (by have := hr.dp; omega) hpn hog (fun b s' σ1 H1 pins1 I1 q => ⟨.bl b, H1, conv _ _ _ _ I1, rfl, q⟩) n s5 σ' H' [] Ig hold⟩

/-! ### over trees -/
def genL (st : Bool) (t : Tg) (fe : Env → Res D) (ρ : Env) : List D → Res D
  | [] => .ok (.bl !st)
  | d :: ds => match t.unp d with
    | none => .no
    | some ps => (noX (fe (putE ρ ps))).bind fun y => y.asB.bind fun b => if b = st then .ok (.bl st) else genL st t fe ρ ds
def genD (st : Bool) (fi : Env → Res (List D)) (t : Tg) (fe : Env → Res D) (vs : List Nat) : Env → Res D := fun ρ => (fi ρ).bind fun ds => genL st t fe (wipeE ρ vs) ds
/-- the table has grown, all else stands -/
theorem Ext.tabbed {Γ : Gm} {H H' : Hp} {P : Addr} (hP : P ∈ Γ.TG) (hT : GxR.TabG H P) (hTL : ∀ p ∈ Γ.TL, p.1 ≠ P) (z : GxR.Tabbed P H H') : Ext Γ H H' := by
  obtain ⟨ps, h0, _⟩ := hT
  have ne : ∀ {b : Addr} {o : HO}, H b = some o → (∀ q, o ≠ .tbl q) → b ≠ P := fun {b o} e n q => by
    rw [q, h0] at e
    cases e
    exact n _ rfl
  refine ⟨fun b o e n _ => by rw [z.2 b (ne e n)]; exact e, fun t => ⟨fun P' hP' => ?_, fun p hp => ?_⟩, fun t r hr => ?_, fun b n q => ?_⟩
  · by_cases h : P' = P
    · rw [h]; exact z.1
    · obtain ⟨qs, g1, g2⟩ := t.1 P' hP'
      exact ⟨qs, by rw [z.2 P' h]; exact g1, g2⟩
  · obtain ⟨qs, g1, g2, g3⟩ := t.2 p hp
    refine ⟨qs, by rw [z.2 _ (hTL p hp)]; exact g1, g2, fun pos cv hc => ?_⟩
    obtain ⟨c, e1, e2⟩ := g3 pos cv hc
    refine ⟨c, e1, ?_⟩
    by_cases h : c = P
    · rw [h, h0] at e2
      cases e2
    · rw [z.2 c h]; exact e2
  · obtain ⟨ns, i, j, k, g1, g2, g3⟩ := t r hr
    refine ⟨ns, i, j, k, by rw [z.2 r (ne g1 (fun q e => by cases e))]; exact g1, ?_, g3⟩
    rcases g2 with (g2 | ⟨o, g2⟩) | g2
    · exact .inl (.inl (by rw [z.2 _ (ne g2 (fun q e => by cases e))]; exact g2))
    · exact .inl (.inr ⟨o, by rw [z.2 _ (ne g2 (fun q e => by cases e))]; exact g2⟩)
    · exact .inr g2
  · by_cases h : b = P
    · obtain ⟨qs, g1, _⟩ := z.1
      rw [h, g1] at q
      cases q
    · rw [z.2 b h] at q; exact n q
theorem gen_fit {Γ : Gm} {E : XK} {np : Bool} {fi : Env → Res (List D)} {t : Tg} {fe : Env → Res D} {vs : List Nat} (hP : P ∈ Γ.TG) (hTL : ∀ p ∈ Γ.TL, p.1 ≠ P) (hv : ∀ i ∈ t.names, i ∈ vs) (hnd : t.names.Nodup) :
    ∀ σ H Q, eT Γ E (genD st fi t fe vs) σ H Q → tGen st (wT Γ E np fi) (gT Γ t) (eT Γ EN fe) vs P σ H Q := fun σ H Q ⟨av, ρ, env, h⟩ => by
  refine ⟨av, ρ, env, ROk.bind h fun ds b H1 x1 r h => ?_⟩
  obtain ⟨J, ps⟩ := b
  obtain ⟨_, hp, w⟩ := r
  have env1 := env.ext x1
  have tP := env1.wf.tb.1 P hP
  refine ⟨tP, fun H2 hT => ?_⟩
  have x12 : Ext Γ H1 H2 := Ext.tabbed hP tP hTL hT
  refine ⟨fun i m Hc => m = ds.length - i ∧ Ext Γ H1 Hc ∧ ROk Γ av H1 (fun H' d v => Rp Γ.kr av H' d v) (genL st t fe (wipeE ρ vs) (ds.drop i)) Q E, ⟨_, rfl, x12, h⟩, ?_⟩
  rintro i m Hc ⟨rfl, xc, h⟩
  have env' := wipe_env (env1.ext xc) vs
  have hps : ∀ p ∈ ps, Rp Γ.kr av Hc p.2 p.1 := fun p hp' => (hp p hp').ext xc
  by_cases hi : i < ds.length
  · refine .inr ⟨w.go _ i Hc env'.wf hps hi, by omega, fun x H3 y => ?_⟩
    obtain ⟨x3, d, ed, rd⟩ := w.yld _ i Hc x H3 env'.wf hps hi y
    have env3 := env'.ext x3
    rw [List.drop_eq_getElem_cons hi] at h
    have ed : ds[i] = d := by rw [List.getElem?_eq_getElem hi] at ed; exact Option.some.inj ed
    rw [ed] at h
    unfold genL at h
    cases q1 : t.unp d with
    | none => simp only [q1] at h; exact (show False from h).elim
    | some qs =>
      simp only [q1] at h
      have nm := unp_names q1
      have nd : (qs.map (·.1)).Nodup := by rw [nm]; exact hnd
      refine ⟨_, d, qs, env3.wf, rd, q1, nd, fun σ4 H4 x4 c4 => ⟨wipe_chg c4 (by rw [nm]; exact hv), ?_⟩⟩
      have env4 := put_env (env3.ext x4) c4 nd
      have x14 := xc.trans (x3.trans x4)
      refine ⟨av, _, env4, ROk.bindX x14 h fun yd yv H5 x5 r5 h5 => ?_⟩
      cases r5 with
      | bl b =>
        have h5 : ROk Γ av H1 (fun H' d v => Rp Γ.kr av H' d v) (if b = st then Res.ok (D.bl st) else genL st t fe (wipeE ρ vs) (List.drop (i + 1) ds)) Q E := h5
        refine ⟨b, rfl, ?_⟩
        by_cases hb : b = st
        · rw [if_pos hb] at h5 ⊢
          exact h5 _ H5 (x14.trans x5) (.bl st)
        · rw [if_neg hb] at h5 ⊢
          exact ⟨_, by omega, rfl, x14.trans x5, h5⟩
      | _ => exact (show False from h5).elim
  · refine .inl ⟨w.stop _ i Hc env'.wf hps (by omega), ?_⟩
    rw [List.drop_eq_nil_of_le (by omega)] at h
    exact h _ Hc xc (.bl _)
theorem te_all {Γ : Gm} {E : XK} {np : Bool} {fi : Env → Res (List D)} {t : Tg} {fe : Env → Res D} (own : List (Str × Nat)) (hr : Room k X.A) (hc : X.calm = true) (hN : X.N.Nodup) (hm : X.mg "all" = none) (TB : GxR.TabB X.base X.mg c P) (hP : P ∈ Γ.TG) (hTL : ∀ p ∈ Γ.TL, p.1 ≠ P) (hi : PI X tg iter (wT Γ E np fi))
    (ok : GenOk X.N X.env.scope scope own)
    (hg : ∀ (s0 : Shared) (H0 : Hp) (C : Addr) (code : Value) (it : Addr) (fp : List Addr) (a : Addr) (og : Obj), PG (gCx X X.A.in1.in1 elt tg iter scope gpos it (gEnvX X scope C code) s0 H0 fp a og) tg (gT Γ t))
    (he : ∀ (s0 : Shared) (H0 : Hp) (C : Addr) (code : Value) (it : Addr) (fp : List Addr) (a : Addr) (og : Obj), PE (gCx X X.A.in1.in1 elt tg iter scope gpos it (gEnvX X scope C code) s0 H0 fp a og) elt (eT Γ EN fe))
    (hcode : X.env.code = .ref c := by rfl) (hgl : Gl X "all" := by rfl) (hv : ∀ i ∈ t.names, i ∈ own.map (·.2) := by decide) (hnd : t.names.Nodup := by decide) (hs : ∀ v, genFold iter X.env v = pure v := by intro _; rfl) (hb : bootBuiltins "all" = some (.builtin "all") := by decide +kernel)
    (hst : starEach [.GeneratorExp elt [⟨tg, iter, [], 0⟩] scope gpos] X.env = (false, eval (.GeneratorExp elt [⟨tg, iter, [], 0⟩] scope gpos) X.env) :: starEach [] X.env := by rfl) :
    PE X (.Call (.Name "all" p) [.GeneratorExp elt [⟨tg, iter, [], 0⟩] scope gpos] [] pos) (eT Γ E (genD false fi t fe (own.map (·.2)))) :=
  PE.imp (pe_allG hr hc hN hgl hm TB hcode ok hi hg he hs hb hst) (gen_fit hP hTL hv hnd)
theorem te_any {Γ : Gm} {E : XK} {np : Bool} {fi : Env → Res (List D)} {t : Tg} {fe : Env → Res D} (own : List (Str × Nat)) (hr : Room k X.A) (hc : X.calm = true) (hN : X.N.Nodup) (hm : X.mg "any" = none) (TB : GxR.TabB X.base X.mg c P) (hP : P ∈ Γ.TG) (hTL : ∀ p ∈ Γ.TL, p.1 ≠ P) (hi : PI X tg iter (wT Γ E np fi))
    (ok : GenOk X.N X.env.scope scope own)
    (hg : ∀ (s0 : Shared) (H0 : Hp) (C : Addr) (code : Value) (it : Addr) (fp : List Addr) (a : Addr) (og : Obj), PG (gCx X X.A.in1.in1 elt tg iter scope gpos it (gEnvX X scope C code) s0 H0 fp a og) tg (gT Γ t))
    (he : ∀ (s0 : Shared) (H0 : Hp) (C : Addr) (code : Value) (it : Addr) (fp : List Addr) (a : Addr) (og : Obj), PE (gCx X X.A.in1.in1 elt tg iter scope gpos it (gEnvX X scope C code) s0 H0 fp a og) elt (eT Γ EN fe))
    (hcode : X.env.code = .ref c := by rfl) (hgl : Gl X "any" := by rfl) (hv : ∀ i ∈ t.names, i ∈ own.map (·.2) := by decide) (hnd : t.names.Nodup := by decide) (hs : ∀ v, genFold iter X.env v = pure v := by intro _; rfl)
    (hst : starEach [.GeneratorExp elt [⟨tg, iter, [], 0⟩] scope gpos] X.env = (false, eval (.GeneratorExp elt [⟨tg, iter, [], 0⟩] scope gpos) X.env) :: starEach [] X.env := by rfl) :
    PE X (.Call (.Name "any" p) [.GeneratorExp elt [⟨tg, iter, [], 0⟩] scope gpos] [] pos) (eT Γ E (genD true fi t fe (own.map (·.2)))) :=
  PE.imp (pe_anyG hr hc hN hgl hm TB hcode ok hi hg he hs hst) (gen_fit hP hTL hv hnd)
end
end Fw
end
set_option Elab.async false
set_option linter.all false
set_option autoImplicit false
set_option maxRecDepth 100000
set_option maxHeartbeats 4000000
/-! Fw12: a def's promise. -/
noncomputable section
namespace Fw
open PySem PySem.Spec PyProof.Rows L2

def Out.fin : Out → Res D
  | .nx _ => .ok .non
  | .rt d _ => .ok d
  | .bk _ => .no
  | .ct _ => .no
  | .ex c f => .ex c f
  | .no => .no
  | .dr n k => .dr n fun i => (k i).fin
def start0 (m : Nat) (ds : List D) : SEnv := ds.map Sl.val ++ List.replicate (m - ds.length) Sl.dead
def defF (m : Nat) (g : SEnv → Out) : List D → Res D := fun ds => (g (start0 m ds)).fin
abbrev noMr : Mr := fun _ => none
theorem ExtM.none {Γ : Gm} {H H' : Hp} (a : ExtM Γ (mrA noMr) H H') : Ext Γ H H' := ⟨fun c o h n l => a.keep c o h n l (fun ⟨_, z⟩ => by cases z), a.tb, a.row, a.there⟩
theorem SOk.fin {Γ : Gm} {av : Addr → Prop} {H : Hp} {Q : VK} {E : XK} : ∀ {r : Out}, ROk Γ av H (fun H' d v => Rp Γ.kr av H' d v) r.fin Q E → SOk Γ av H noMr [] r { nx := fun _ H' => Q .non H', rt := Q } E
  | .nx ρ, h => fun σ' H' ⟨ad, S⟩ => h .non H' S.ext.none .non
  | .rt d ρ, h => fun v σ' H' ad S r => h v H' S.ext.none (r.stay (Stay.weak fun b z => .inl z))
  | .bk ρ, h => h.elim
  | .ct ρ, h => h.elim
  | .ex c f, h => fun H' x _ => ExOk.ext x.none (show ExOk Γ H E c f from h)
  | .no, h => h
  | .dr n k, h => fun i h1 h2 => SOk.fin (h i h1 h2)
theorem start0_get {m : Nat} {ds : List D} {i : Nat} {s : Sl} (h : (start0 m ds)[i]? = some s) : (∃ d, s = .val d ∧ ds[i]? = some d) ∨ s = .dead := by
  unfold start0 at h
  by_cases hi : i < ds.length
  · rw [List.getElem?_append_left (by simpa using hi), List.getElem?_map] at h
    cases e : ds[i]? with
    | none => rw [e] at h; cases h
    | some d => rw [e] at h; cases h; exact .inl ⟨d, rfl, rfl⟩
  · rw [List.getElem?_append_right (by simpa using hi)] at h
    exact .inr (List.eq_of_mem_replicate (List.mem_of_getElem? h))
theorem start0_cont {m : Nat} {ds : List D} {i : Nat} {d : D} (h : Cont (start0 m ds) i d) : False := by
  rcases h with h | h <;> rcases start0_get h with ⟨_, e, _⟩ | e <;> cases e
theorem start_sad {Γ : Gm} {av : Addr → Prop} {H : Hp} {N : List Str} {vs : List V} {ds : List D} (wf : Wf Γ av H) (r : RpL Γ.kr av H ds vs) (hl : ds.length ≤ N.length) : SAd Γ av H noMr [] (fun _ => 0) (L2.start N vs) H (start0 N.length ds) where
  ext := ExtM.refl _ _ _
  tb := wf.tb
  rw := wf.row
  len := by
    unfold start0 L2.start
    simp [r.length]
  ambT := wf.av
  mrIn := fun a ⟨_, z⟩ => by cases z
  inj := fun i j d e h _ _ => (start0_cont h).elim
  new := fun i d h => (start0_cont (.inl h)).elim
  rows := fun i d h => (start0_cont (.inr h)).elim
  val := fun i d h => by
    rcases start0_get h with ⟨d', e, h'⟩ | e
    · cases e
      obtain ⟨v, e1, e2⟩ := r.get h'
      refine ⟨v, ?_, e2.stay (Stay.weak fun b z => z.elim id fun ⟨i, d, c, _⟩ => (start0_cont c).elim)⟩
      unfold L2.start
      have hi : i < vs.length := (List.getElem?_eq_some_iff.mp e1).1
      rw [List.getElem?_append_left (by simpa using hi), List.getElem?_map, e1]
      rfl
    · cases e
  own := fun i d h => (start0_cont h).elim
  tmp := fun p hp => by cases hp
theorem passD {P : Program} {w : World} {K : PySem.W.Frag} {mg : Str → Option Value} {base : Heap} {N : List Str} {qual : Str} {sc : Scope} {f : Addr} {cd : Value} {A : Around} {outer : List PySem.Env} {s : Shared} {H : Hp} {E : XK} : Passes (L2.CX P w) (cxOf (L2.CX P w) P w K mg base N qual sc f cd A outer s H E) E :=
  passes_call (takes_of rfl rfl rfl rfl) fun _ _ _ _ h => h
theorem ownD {P : Program} {w : World} {K : PySem.W.Frag} {mg : Str → Option Value} {base : Heap} {N : List Str} {qual : Str} {sc : Scope} {f : Addr} {cd : Value} {A : Around} {outer : List PySem.Env} {s : Shared} {H : Hp} {E : XK} : PassesOwn (model P w) (cxOf (L2.CX P w) P w K mg base N qual sc f cd A outer s H E).A (cxOf (L2.CX P w) P w K mg base N qual sc f cd A outer s H E).env (cxOf (L2.CX P w) P w K mg base N qual sc f cd A outer s H E).xe :=
  passes_of (X := cxOf (L2.CX P w) P w K mg base N qual sc f cd A outer s H E) rfl
section
variable {P : Program} {w : World} {K : PySem.W.Frag} {mg : Str → Option Value} {base : Heap}
/-- a def as the head tells it -/
abbrev FnP (K : PySem.W.Frag) (x qual : Str) (st : Stmt) (f : Addr) (fd : FuncData) : Prop := FunD K x qual (defArgs st) (defBody st) (defScope st) [] [] f fd
/-- a def's body keeps its promise; its code object is told -/
theorem okC {x qual : Str} {st : Stmt} {f : Addr} {fd : FuncData} {N ps : List Str} {k : Nat} {sp : Sp} (F : FnP K x qual st f fd) (S : FnScope N ps (defScope st)) (len : ∀ vs H Q E, sp vs H Q E → vs.length = ps.length)
    (hbody : ∀ (cdv : Value) (A : Around) (outer : List PySem.Env) (s : Shared) (H : Hp) (vs : List V) (Q : VK) (E : XK), fd.code = cdv → Room k (A.deeper (envOfC qual (defScope st) s.heap.objs.size f cdv)) → sp vs H Q E →
      ∃ t, PSs (cxOf (L2.CX P w) P w K mg base N qual (defScope st) f cdv A outer s H E) (defBody st) t ∧ t { nx := fun _ H' => Q .non H', rt := Q } (L2.start N vs) H) : FnOk P w K mg base (L2.CX P w) (k + 1) f fd ps sp := by
  obtain ⟨oc, od, dV, kV, doc, pm, an, cdv, ct, osl, rfl, lk, hcd, _, _⟩ := F.ex
  exact fn_of lk hcd S len fun A outer s H vs Q E hr hsp => hbody cdv A outer s H vs Q E rfl hr hsp
/-- a def's promise, from its body -/
theorem fn_F {Γ : Gm} {x qual : Str} {st : Stmt} {f : Addr} {fd : FuncData} {N ps : List Str} {k : Nat} {g : SEnv → Out} (F : FnP K x qual st f fd) (S : FnScope N ps (defScope st))
    (hb : ∀ (r : Option Addr) (sc : Addr) (cdv : Value) (A : Around) (outer : List PySem.Env) (s : Shared) (H : Hp) (E : XK), fd.code = cdv → Room k (A.deeper (envOfC qual (defScope st) s.heap.objs.size f cdv)) →
      PSs (cxOf (L2.CX P w) P w K mg base N qual (defScope st) f cdv A outer s H E) (defBody st) (sT (Γ.at r sc) E g)) (hl : ps.length ≤ N.length := by decide) : FnOk P w K mg base (L2.CX P w) (k + 1) f fd ps (spF Γ ps.length (defF N.length g)) := by
  refine okC F S (fun vs H Q E h => ?_) (fun cdv A outer s H vs Q E hcd hr h => ?_)
  · obtain ⟨r, sc, av, ds, wf, rr, hlen, q⟩ := h
    rw [← rr.length]
    exact hlen
  · obtain ⟨r, sc, av, ds, wf, rr, hlen, q⟩ := h
    exact ⟨_, hb r sc cdv A outer s H E hcd hr, av, H, noMr, [], _, ⟨_, start_sad wf rr (by rw [hlen]; exact hl)⟩, SOk.fin q⟩
/-- nothing is promised of what is not known -/
theorem fn_none {Γ : Gm} {f : Addr} {fd : FuncData} {ps : List Str} {k : Nat} : FnOk P w K mg base (L2.CX P w) k f fd ps (spF Γ ps.length fun _ => .no) :=
  ⟨fun vs H Q E ⟨_, _, _, _, _, _, _, q⟩ => (show False from q).elim, fun A outer s H args us vs Q E _ _ _ _ ⟨_, _, _, _, _, _, _, q⟩ => (show False from q).elim⟩
/-! ### the draws -/
def takenF : List D → Res D
  | [.row, .int n] => if 0 < n ∧ n.natAbs.log2 < 9000 then .dr n fun i => .ok (.int i) else .no
  | _ => .no
/-- the row as a list of one's own -/
def rowD (a : Addr) (ns : List Int) (i j k : Int) : D := .lst [.arr a ns, .int i, .int j, .int k]
theorem fn_taken {Γ : Gm} {x qual : Str} {st : Stmt} {f : Addr} {fd : FuncData} {N ps : List Str} {k : Nat} {g : SEnv → Out} (F : FnP K x qual st f fd) (S : FnScope N ps (defScope st)) (hK : Γ.K = K)
    (hb : ∀ (cdv : Value) (A : Around) (outer : List PySem.Env) (s : Shared) (H : Hp) (E : XK), Room k (A.deeper (envOfC qual (defScope st) s.heap.objs.size f cdv)) →
      PSs (cxOf (L2.CX P w) P w K mg base N qual (defScope st) f cdv A outer s H E) (defBody st) (sT (Γ.at none 0) E g)) (hN : N.length = 4 := by rfl) (hps : ps.length = 2 := by rfl)
    (hg : ∀ (a : Addr) (ns : List Int) (i j k n : Int), 0 ≤ i → 0 ≤ j → j < 2147483647 → 0 < n → n.natAbs.log2 < 9000 →
      ∃ v i' j' k' ρ', g [.row (rowD a ns i j k), .val (.int n), .dead, .dead] = .rt (.int v) ρ' ∧ ρ'[0]? = some (.row (rowD a ns i' j' k')) ∧ 0 ≤ v ∧ v < n ∧ 0 ≤ i' ∧ 0 ≤ j' ∧ j' < 2147483647) : FnOk P w K mg base (L2.CX P w) (k + 1) f fd ps (spF Γ 2 takenF) := by
  refine okC F S (fun vs H Q E h => ?_) (fun cdv A outer s H vs Q E hcd hr h => ?_)
  · obtain ⟨r, sc, av, ds, wf, rr, hlen, q⟩ := h
    rw [← rr.length, hps]
    exact hlen
  · obtain ⟨r, sc, av, ds, wf, rr, hlen, q⟩ := h
    cases rr with
    | nil => cases hlen
    | cons r1 rr =>
      cases rr with
      | nil => cases hlen
      | cons r2 rr =>
        cases rr with
        | cons _ _ => cases hlen
        | nil =>
          cases r1 <;> first | exact (show False from q).elim | skip
          cases r2 <;> first | exact (show False from q).elim | skip
          rename_i a hra n
          obtain ⟨⟨hn, hn2⟩, q⟩ := ROk.ifp q
          have hra : r = some a := hra
          subst hra
          obtain ⟨ns, i, j, kk, h1, h2, hi, hj, hj2⟩ := wf.row a rfl
          obtain ⟨v, i', j', k', ρ', e, e0, v1, v2, hi', hj', hj2'⟩ := hg sc ns i j kk n hi hj hj2 hn hn2
          have h2 : SqL Γ.K H sc (ns.map V.int) := h2
          have hna : sc ≠ a ∨ ∀ H', SqL Γ.K H' sc (ns.map V.int) := by
            rcases h2 with (h2 | ⟨o, h2⟩) | h2
            · refine .inl fun z => ?_
              rw [z, h1] at h2
              cases ns with
              | nil => cases h2
              | cons _ _ => cases h2
            · exact .inl fun z => by rw [z, h1] at h2; cases h2
            · exact .inr fun _ => .inr h2
          refine ⟨_, hb cdv A outer s H E hr, fun b => av b ∧ b ≠ a ∧ b ≠ sc, H, fun i => if i = 0 then some a else none, [], [.row (rowD sc ns i j kk), .val (.int n), .dead, .dead], ⟨fun _ => a, ?_⟩, ?_⟩
          · have es : L2.start N [.ref a, .int n] = [some (.ref a), some (.int n), none, none] := by
              unfold L2.start
              rw [hN]
              rfl
            rw [es]
            have c0 : ∀ {m : Nat} {d : D}, Cont [Sl.row (rowD sc ns i j kk), .val (.int n), .dead, .dead] m d → m = 0 ∧ d = rowD sc ns i j kk := by
              intro m d h
              match m, h with
              | 0, .inl h => cases h
              | 0, .inr h => cases h; exact ⟨rfl, rfl⟩
              | 1, .inl h => cases h
              | 1, .inr h => cases h
              | 2, .inl h => cases h
              | 2, .inr h => cases h
              | 3, .inl h => cases h
              | 3, .inr h => cases h
              | m + 4, .inl h => cases h
              | m + 4, .inr h => cases h
            refine ⟨ExtM.refl _ _ _, wf.tb, fun r e => (by cases e), rfl, fun b z => wf.av b z.1, fun b ⟨m, z⟩ => ?_, fun m m' d e h1 h2 _ => (c0 h1).1.trans (c0 h2).1.symm, fun m d h => ?_, fun m d h => ?_, fun m d h => ?_, fun m d h => ?_, fun p hp => by cases hp⟩
            · by_cases hm : m = 0
              · simp only [hm, if_true] at z
                exact ⟨0, _, rfl, (Option.some.inj z).symm⟩
              · simp only [hm, if_false] at z
                cases z
            · obtain ⟨rfl, _⟩ := c0 (.inl h)
              cases h
            · obtain ⟨rfl, _⟩ := c0 (.inr h)
              exact ⟨rfl, fun z => z.2.1 rfl, fun z => (by cases z), fun r e => (by cases e)⟩
            · match m, h with
              | 1, h => cases h; exact ⟨_, rfl, .int n⟩
              | 0, h => cases h
              | 2, h => cases h
              | 3, h => cases h
              | m + 4, h => cases h
            · obtain ⟨rfl, rfl⟩ := c0 h
              refine ⟨rfl, _, h1, .cons (.arr _ _ ?_) (.cons (.int _) (.cons (.int _) (.cons (.int _) .nil)))⟩
              rcases h2 with (g2 | ⟨o, g2⟩) | g2
              · rcases hna with z | z
                · refine .inl ⟨g2, fun y => ?_⟩
                  rcases y with (y | ⟨m, d, y, e⟩) | y
                  · exact y.2.2 rfl
                  · exact z e
                  · cases y
                · exact .inr (.inr z)
              · exact .inr (.inl ⟨o, g2⟩)
              · exact .inr (.inr fun _ => .inr g2)
          · rw [e]
            refine fun u σ' H' ad S ru => ?_
            have ru : Rp _ _ H' (.int v) u := ru
            cases ru
            refine (q v v1 v2) (.int v) H' ⟨fun b o eb n l => ?_, S.ext.tb, fun _ r er => ?_, S.ext.there⟩ (.int v)
            · refine S.ext.keep b o eb n (fun _ => by intro z; cases z) fun ⟨m, z⟩ => ?_
              by_cases hm : m = 0
              · simp only [hm, if_true] at z
                cases z
                rw [h1] at eb
                cases eb
                exact l ⟨_, rfl⟩ rfl
              · simp only [hm, if_false] at z
                cases z
            · cases er
              obtain ⟨s1, s2⟩ := S.own 0 _ (.inr e0)
              have ha : ad 0 = a := by
                have := (S.rows 0 _ e0).1
                simpa using this.symm
              rw [ha] at s2
              obtain ⟨us, u1, u2⟩ := s2
              cases u2 with
              | cons p1 u2 =>
                cases u2 with
                | cons p2 u2 =>
                  cases u2 with
                  | cons p3 u2 =>
                    cases u2 with
                    | cons p4 u2 =>
                      cases u2
                      cases p1 with
                      | arr _ _ p1 =>
                        cases p2
                        cases p3
                        cases p4
                        exact ⟨ns, i', j', k', u1, p1.sq, hi', hj', hj2'⟩
end
end Fw
end
set_option Elab.async false
set_option linter.all false
set_option autoImplicit false
set_option maxRecDepth 100000
set_option maxHeartbeats 4000000
/-! Fw13: more of the built-in words. -/
noncomputable section
namespace Fw
open PySem PySem.Spec PyProof.Rows L2
section
variable {X : Cx} {Γ : Gm} {E : XK} {x : Str} {a b c o e : Expr} {es : List Expr} {st : Stmt} {sts : List Stmt} {pos p p2 pos' apos cpos : Pos} {f fa fb fc : Env → Res D} {ta : Env → Res Bool} {fs : Env → Res (List D)} {k i : Nat} {g g1 g2 : SEnv → Out} {t : Tg}
/-! range(a, b) as a value -/
def rngD : List D → Res D
  | [.int i, .int j] => .ok (.rng i j)
  | _ => .no
theorem fit_rng2 : FitC Γ E (fun vs H Q => ∃ i j, vs = [V.int i, V.int j] ∧ ∀ p, H p = none → Q (.ref p) (upd H p (.rng i j))) rngD := by
  intro av H ds vs Q wf rr h
  cases rr with
  | nil => exact (show False from h).elim
  | cons r1 rr =>
    cases rr with
    | nil => cases r1 <;> exact (show False from h).elim
    | cons r2 rr =>
      cases rr with
      | cons _ _ => cases r1 <;> cases r2 <;> exact (show False from h).elim
      | nil =>
        cases r1 <;> first | (cases r2 <;> exact (show False from h).elim) | skip
        cases r2 <;> first | exact (show False from h).elim | skip
        rename_i i j
        exact ⟨i, j, rfl, fun p hp => h.new hp (.rng i j upd_same)⟩
theorem te_range2 (hm : X.mg "range" = none) (ha : PE X a (eT Γ E fa)) (hb : PE X b (eT Γ E fb)) (hg : Gl X "range" := by rfl) (he : starEach [a, b] X.env = (false, eval a X.env) :: starEach [b] X.env := by rfl) (he2 : starEach [b] X.env = (false, eval b X.env) :: starEach [] X.env := by rfl)
    (hpl : (backTo pos (starEach [b] X.env)).any (·.1) = false := by rfl) : PE X (.Call (.Name "range" p) [a, b] [] pos) (eT Γ E (app rngD (consA fa (consA fb nilA)))) :=
  te_callTy (X := X) cr_range2 fit_rng2 boot_range hm (ta_cons ha (ta_cons hb ta_nil he2) he) hg (by decide) (by decide) he hpl
/-! methods -/
def bmF (T : Ty) (f : Env → Res D) (fs : Env → Res (List D)) (gg : D → List D → Res D) : Env → Res D := fun ρ => (f ρ).bind fun d => if d.ty = some T then (fs ρ).bind fun ds => gg d ds else .no
theorem Rp.tyV {K : PySem.W.Frag} {r : Kr} {av : Addr → Prop} {H : Hp} {d : D} {v : V} {T : Ty} (h : Rp r av H d v) (hT : T = .lst ∨ T = .str ∨ T = .dct) (e : d.ty = some T) : L2.tyV K T.name v H := by
  cases h with
  | str x => cases e; exact rfl
  | lst g _ _ => cases e; exact .inl ⟨rfl, _, SqL.of g⟩
  | dK g _ _ => cases e; exact .inr (.inr (.inl ⟨rfl, .inl ⟨_, g⟩⟩))
  | dT g _ _ => cases e; exact .inr (.inr (.inl ⟨rfl, .inr ⟨_, g⟩⟩))
  | tup _ _ => cases e; rcases hT with h | h | h <;> cases h
  | non => cases e; rcases hT with h | h | h <;> cases h
  | bl _ => cases e; rcases hT with h | h | h <;> cases h
  | int _ => cases e; rcases hT with h | h | h <;> cases h
  | _ => cases e
/-- what a method over values must do to fit one over trees -/
def FitM (Γ : Gm) (E : XK) (T : Ty) (r : V → List V → Hp → VK → Prop) (gg : D → List D → Res D) : Prop := ∀ (av : Addr → Prop) (H : Hp) (d : D) (v : V) (ds : List D) (vs : List V) (Q : VK), Wf Γ av H → Rp Γ.kr av H d v → RpL Γ.kr av H ds vs →
  ROk Γ av H (fun H' d v => Rp Γ.kr av H' d v) (gg d ds) Q E → r v vs H Q
theorem te_bm {T : Ty} {id : String} {name : Str} {r : V → List V → Hp → VK → Prop} {gg : D → List D → Res D} (pa : PlainAttrs T.name) (slot : Slot T.name name id) (hty : typeOf (.builtin id) = pure (.type "method_descriptor")) (hm : MtR X id r) (hT : T = .lst ∨ T = .str ∨ T = .dct)
    (hf : FitM Γ E T r gg) (ho : PE X o (eT Γ E f)) (ha : PA X (a :: es) (aT Γ E fs)) (hbase : attributeBase o name X.env (eval o X.env) = eval o X.env := by rfl)
    (hfew : ((backTo cpos (starEach (a :: es) X.env)).all (fun x => !x.1) && (backToKw cpos (keywordEach [] X.env)).all (fun x => x.1.isSome) && decide ((a :: es).length + ([] : List Keyword).length + (if ([] : List Keyword).isEmpty then 0 else 1) < 30)) = true := by rfl)
    (hline : (apos.endLine == cpos.line) = true := by rfl) (hs : starEach (a :: es) X.env = (false, eval a X.env) :: starEach es X.env := by rfl) (hplain : (backTo cpos (starEach es X.env)).any (·.1) = false := by rfl) :
    PE X (.Call (.Attribute o name apos) (a :: es) [] cpos) (eT Γ E (bmF T f fs gg)) :=
  PE.imp (pe_bm pa slot hty hm ho ha hbase hfew hline hs hplain) fun σ H Q ⟨av, ρ, env, h⟩ => eT_bind env h fun d v H1 x1 env1 r1 h1 => by
    obtain ⟨ht, h1⟩ := ROk.ifp h1
    exact ⟨r1.tyV hT ht, aT_bind env1 h1 fun ds vs H2 x2 env2 r2 h2 => hf av H2 d v ds vs Q env2.wf (r1.ext x2) r2 h2⟩
def cntG : D → List D → Res D
  | .lst ds, [.int k] => match intsOf ds with | some ns => .ok (.int (ns.count k : Nat)) | none => .no
  | _, _ => .no
theorem fit_cnt (hK : X.K = Γ.K) : FitM Γ E .lst (rCntI X.K) cntG := by
  intro av H d v ds vs Q wf r rr h
  cases r <;> first | exact (show False from h).elim | skip
  rename_i a vs' ds' g n r
  cases rr with
  | nil => exact (show False from h).elim
  | cons r1 rr =>
    cases rr with
    | cons _ _ => cases r1 <;> exact (show False from h).elim
    | nil =>
      cases r1 <;> first | exact (show False from h).elim | skip
      rename_i k
      unfold cntG at h
      cases e : intsOf ds' with
      | none => simp only [e] at h; exact (show False from h).elim
      | some ns =>
        simp only [e] at h
        have e' := intsOf_eq e
        subst e'
        have := r.ints
        subst this
        exact ⟨a, ns, k, rfl, rfl, SqL.of g, h.here (.int _)⟩
theorem te_count (ho : PE X o (eT Γ E f)) (ha : PE X a (eT Γ E fa)) (hK : X.K = Γ.K := by rfl) (hbase : attributeBase o "count" X.env (eval o X.env) = eval o X.env := by rfl)
    (hfew : ((backTo cpos (starEach [a] X.env)).all (fun x => !x.1) && (backToKw cpos (keywordEach [] X.env)).all (fun x => x.1.isSome) && decide ([a].length + ([] : List Keyword).length + (if ([] : List Keyword).isEmpty then 0 else 1) < 30)) = true := by rfl)
    (hline : (apos.endLine == cpos.line) = true := by rfl) (hs : starEach [a] X.env = (false, eval a X.env) :: starEach [] X.env := by rfl) : PE X (.Call (.Attribute o "count" apos) [a] [] cpos) (eT Γ E (bmF .lst f (consA fa nilA) cntG)) :=
  te_bm (T := .lst) PySem.F.plainAttrs_list PySem.F.slot_list_count PySem.F.type_list_count mt_lcount (.inl rfl) (fit_cnt hK) ho (ta_cons ha ta_nil hs) hbase hfew hline hs rfl
/-! x, y = e -/
def unpO (f : Env → Res D) (t : Tg) : SEnv → Out := fun ρ => bindO (f ρ.vis) fun d => match bindT ρ t d with | some ρ' => .nx ρ' | none => .no
theorem ts_unp {tg : Expr} (h : PE X e (eT Γ E f)) (hg : PG X tg (gT Γ t)) (hnd : t.names.Nodup := by decide) (hs : swapsWithSole [tg] e pos.line X.env = pure false := by rfl) (hw : swappedStores [tg] e X.env = pure none := by rfl)
    (h1 : (assignEach [tg] X.env).map (·.2) = [assign tg X.env] := by rfl) : PS X (.Assign [tg] e pos) (sT Γ E (unpO f t)) :=
  PS.imp (ps_asg h hg hs hw h1) fun Z σ H ⟨amb, H0, mr, tmp, ρ, ⟨ad, S⟩, h⟩ => eT_out S S.envVis h fun d v H1 x1 S1 r1 h1 => by
    unfold bindT at h1
    cases q : t.unp d with
    | none => simp only [q] at h1; exact (show False from h1).elim
    | some qs =>
      simp only [q] at h1
      have nd : (qs.map (·.1)).Nodup := by rw [unp_names q]; exact hnd
      cases q2 : setMany ρ qs with
      | none => simp only [q2] at h1; exact (show False from h1).elim
      | some ρ1 =>
        simp only [q2] at h1
        exact ⟨_, d, qs, S1.wf, r1, q, nd, fun σ' H' x' c => h1 σ' H' ⟨ad, (S1.ext_ x').setChg c nd q2⟩⟩
/-! a new list put in a name on one line -/
theorem ts_skip (h : PS X st (sT Γ E g)) : PS X st (sT Γ E g) := h
/-! tuple * k where nothing is repeated: the same object for k = 1 or an empty tuple, else (k at most 0) an empty one -/
def noRep (xs : Array Value) (k : Int) : Bool := xs.isEmpty || k == 1
theorem mul_few {t : Addr} {o : Obj} {xs : Array Value} {k : Int} (u : Tok) (at_ : ∃ n, o = { cls := .type "tuple", dict := o.dict, data := .seq xs n, slots := o.slots }) (fit : -(2 ^ 63) ≤ k ∧ k < 2 ^ 63) (few : noRep xs k = true ∨ k ≤ 0) :
    Meets (Builtin.«tuple.__mul__» ⟨[.ref t, .int k u], []⟩) (fun _ R s => s.heap.get? t = some o ∧ (noRep xs k = true → R (.ok (.ret (.ref t))) s) ∧ (noRep xs k = false → R (.ok (.ret (.ref s.heap.objs.size))) { s with heap := s.heap.push { cls := .type "tuple", data := .seq #[] } })) :=
  .of_wp fun P w A R s ⟨g, same, new⟩ => by
    have ⟨n, eo⟩ := at_
    rw [eo] at g
    rcases s with ⟨hp, gs, dr, tk, os⟩
    have over : ¬ (decide (k < -(2 ^ 63)) || decide (k ≥ 2 ^ 63)) = true := by simp; omega
    have ix := AutoSeq1.idx_int
    wp_walk using wpAny_loadPart' g
    cases e : noRep xs k
    · have le : (decide (k ≤ 0) || xs.isEmpty) = true := by
        rcases few with z | z
        · rw [e] at z; cases z
        · simp [z]
      have ne : ¬ (xs.isEmpty || k == 1) = true := by
        show ¬ noRep xs k = true
        simp [e]
      repeat (any_goals (first
        | (apply wpAny_ite_false (decide_eq_false over); wp_walk using wpAny_loadPart' g)
        | (apply wpAny_ite_false (decide_eq_false ne); wp_walk using wpAny_loadPart' g)
        | (apply wpAny_ite_true (decide_eq_true le); wp_walk using wpAny_loadPart' g)))
      all_goals exact ⟨_, rfl, new e⟩
    · have yes : (xs.isEmpty || k == 1) = true := e
      repeat (any_goals (first
        | (apply wpAny_ite_false (decide_eq_false over); wp_walk using wpAny_loadPart' g)
        | (apply wpAny_ite_true (decide_eq_true yes); wp_walk using wpAny_loadPart' g)))
      all_goals exact ⟨_, rfl, same e⟩
def rRepT01 (K : PySem.W.Frag) : R2 := fun x y H Q => ∃ l k xs, x = .ref l ∧ y = .int k ∧ SqT K H l xs ∧ 0 ≤ k ∧ k ≤ 1000 ∧ ((k = 1 ∨ xs = []) → Q (.ref l) H) ∧ (¬ (k = 1 ∨ xs = []) → k ≤ 0 ∧ ∀ p, H p = none → Q (.ref p) (upd H p (.tup [])))
theorem op_repT01 : OpR X (binaryOp .Mult) (rRepT01 X.K) := by
  rintro pins s σ H _ _ v u Q I rx ry ⟨l, k, xs, rfl, rfl, sq, lo, hi, same, new⟩
  cases (show v = .ref l from rx)
  rcases ry with ⟨t, rfl⟩
  rcases I.tuple sq with ⟨its, vals, ⟨⟨c, dd, dat, sl⟩, g, hc, n, hd⟩, _⟩
  cases (show c = .type "tuple" from hc)
  cases (show dat = .seq its.toArray n from hd)
  have num := vals.length
  have empty : its = [] ↔ xs = [] := by rw [← List.length_eq_zero_iff, ← List.length_eq_zero_iff, num]
  have when_ : noRep its.toArray k = true ↔ (k = 1 ∨ xs = []) := by
    simp only [noRep, Bool.or_eq_true, Array.isEmpty_iff, List.toArray_eq_iff, beq_iff_eq]
    rw [empty]
    exact Or.comm
  have few : noRep its.toArray k = true ∨ k ≤ 0 := by
    rcases Classical.em (k = 1 ∨ xs = []) with z | z
    · exact .inl (when_.2 z)
    · exact .inr (new z).1
  have tt : s.TypeIs (.ref l) "tuple" := ⟨_, g, rfl⟩
  have spec := mul_few (t := l) (o := { cls := .type "tuple", dict := dd, data := .seq its.toArray n, slots := sl }) (xs := its.toArray) (k := k) t ⟨n, rfl⟩ (by omega) few
  have run : wpAny (model X.prog X.w) X.A (call (.builtin "tuple.__mul__") [.ref l, .int k t]) (EP X pins σ Q) X.xe s := by
    refine call_meets F.slot_tuple_mul tt F.entry_tuple_mul (F.args_tuple_mul_2 _ _) spec ⟨g, fun z => ?_, fun z => ?_⟩
    · exact ⟨.ref l, H, I, rfl, same (when_.1 z)⟩
    · have z2 : ¬ (k = 1 ∨ xs = []) := fun q => by rw [when_.2 q] at z; cases z
      have old : ∀ b ob, s.heap.get? b = some ob → (s.heap.push { cls := .type "tuple", data := .seq #[] }).get? b = some ob := fun _ _ q => Heap.get?_push_of_some _ q
      exact ⟨.ref s.heap.objs.size, _, I.laid (t' := s.toks) (o := .tup []) old (Nat.le_refl _) ⟨Nat.zero_le _, [], .nil, IsTup.new _ _⟩, rfl, (new z2).2 _ (I.hok.fresh (Nat.le_refl _))⟩
  apply wpAny_binaryOp_repeat_ref (T := "tuple") (U := "int") (by decide) tt (fun z => typeIs_int z k t) noFill_tuple_mul F.fills_int_mul F.slot_int_rmul repeat_tuple F.slot_int_index.lookup
  exact call_meets F.slot_int_rmul (typeIs_int s k t) F.entry_int_rmul (F.args_int_rmul_2 _ _) (int_rmul_tuple k t l its.toArray n dd sl) ⟨g, rfl, tt, run⟩
/-- tuple * int, any int from 0 to 1000 -/
def mulTT : D → D → Res D
  | .tup a, .int b => if 0 ≤ b ∧ b ≤ 1000 ∧ a.length ≤ 1000 then .ok (.tup (List.replicate b.toNat a).flatten) else .no
  | _, _ => .no
theorem fit_mulTT : Fit2 Γ E (fun x y H Q => rRepT Γ.K x y H Q ∨ rRepT01 Γ.K x y H Q) mulTT := by
  intro av H da db va vb Q wf ra rb h
  cases ra <;> first | exact (show False from h).elim | skip
  cases rb <;> first | exact (show False from h).elim | skip
  rename_i a vs ds h1 r1 k
  obtain ⟨hz, h⟩ := ROk.ifp h
  by_cases hc : k = 1 ∨ vs = []
  · refine .inr ⟨_, _, _, rfl, rfl, SqT.of h1, hz.1, hz.2.1, fun _ => ?_, fun z => absurd hc z⟩
    refine h.here (.tup h1 ?_)
    rcases hc with z | z
    · rw [z]
      simpa using r1
    · subst z
      cases r1
      have : (List.replicate k.toNat ([] : List D)).flatten = [] := by simp
      rw [this]
      exact .nil
  · by_cases hk : k ≤ 0
    · have k0 : k = 0 := by omega
      subst k0
      exact .inr ⟨_, _, _, rfl, rfl, SqT.of h1, hz.1, hz.2.1, fun z => absurd z hc, fun _ => ⟨hk, fun p hp => h.new hp (.tup upd_same .nil)⟩⟩
    · exact .inl ⟨_, _, _, rfl, rfl, SqT.of h1, fun e => hc (.inr e), by omega, hz.2.1, by rw [← r1.length]; exact hz.2.2, fun p hp => h.new hp (.tup upd_same ((r1.reps _).ext (Ext.new _ hp)))⟩
theorem te_mulT (ha : PE X a (eT Γ E fa)) (hb : PE X b (eT Γ E fb)) (hK : X.K = Γ.K := by rfl) : PE X (.BinOp a .Mult b pos) (eT Γ E (bin mulTT fa fb)) := by
  refine te_op (op_repT.or op_repT01) ?_ ha hb
  rw [hK]
  exact fit_mulTT
/-! names of the module, minus -/
theorem te_cint {i : Int} (h : ∃ t, X.mg x = some (.int i t)) (hg : Gl X x := by rfl) (hd : (x == ("__debug__" : Str)) = false := by decide) : PE X (.Name x pos) (eT Γ E fun _ => .ok (.int i)) := te_gint h.choose_spec hg hd
theorem te_cstr {i : Str} (h : ∃ t, X.mg x = some (.str i t)) (hg : Gl X x := by rfl) (hd : (x == ("__debug__" : Str)) = false := by decide) : PE X (.Name x pos) (eT Γ E fun _ => .ok (.str i)) := te_gstr h.choose_spec hg hd
def un1 (g : D → Res D) (fa : Env → Res D) : Env → Res D := fun ρ => (fa ρ).bind g
theorem te_neg (ha : PE X a (eT Γ E fa)) : PE X (.UnaryOp .USub a pos) (eT Γ E (un1 D.neg fa)) :=
  PE.imp (pe_un un_neg ha) fun σ H Q ⟨av, ρ, env, h⟩ => eT_bind env h fun d v H1 x1 env1 r1 h1 => by
    cases r1 <;> first | exact (show False from h1).elim | skip
    rename_i i
    exact ⟨i, rfl, h1.here (.int _)⟩
end
/-- a generator expression's scope, by a Bool -/
def genC (N : List Str) (sc scope : Scope) (own : List (Str × Nat)) : Bool := blkC N sc scope own && (!scope.isCoroutine && (scope.names.all fun y => match y.2 with | .cell => false | _ => true) && decide (scope.names.lookup (".0" : Str) = some NameKind.local))
theorem genOk_by {N : List Str} {sc scope : Scope} {own : List (Str × Nat)} (h : genC N sc scope own = true) : GenOk N sc scope own := by
  unfold genC at h
  simp only [Bool.and_eq_true, List.all_eq_true, decide_eq_true_eq, Bool.not_eq_true'] at h
  obtain ⟨h1, ⟨h2, h3⟩, h4⟩ := h
  refine ⟨blkOk_by h1, h2, fun y hy e => ?_, h4⟩
  have := h3 y hy
  rw [e] at this
  cases this
end Fw
end
set_option Elab.async false
set_option linter.all false
set_option autoImplicit false
set_option maxRecDepth 100000
set_option maxHeartbeats 4000000
/-! Fw14: the law's own promise. -/
noncomputable section
namespace Fw
open PySem PySem.Spec PyProof.Rows L2
/-- whatever is drawn: an answer with P -/
def AllOk {α : Type} (P : α → Prop) : Res α → Prop
  | .ok d => P d
  | .dr n k => ∀ i, 0 ≤ i → i < n → AllOk P (k i)
  | .ex _ _ => False
  | .no => False
theorem AllOk.imp {α : Type} {P Q : α → Prop} (h : ∀ d, P d → Q d) : ∀ {r : Res α}, AllOk P r → AllOk Q r
  | .ok d, p => h d p
  | .dr n k, p => fun i h1 h2 => AllOk.imp h (p i h1 h2)
  | .ex _ _, p => p
  | .no, p => p
theorem AllOk.bind {α β : Type} {P : α → Prop} {Q : β → Prop} {k : α → Res β} (h : ∀ d, P d → AllOk Q (k d)) : ∀ {r : Res α}, AllOk P r → AllOk Q (r.bind k)
  | .ok d, p => h d p
  | .dr n j, p => fun i h1 h2 => AllOk.bind h (p i h1 h2)
  | .ex _ _, p => p.elim
  | .no, p => p.elim
theorem AllOk.rok {α γ : Type} {P : α → Prop} {Γ : Gm} {av : Addr → Prop} {H : Hp} {rel : Hp → α → γ → Prop} {Q : γ → Hp → Prop} {E : XK} (h : ∀ d v H', P d → rel H' d v → Q v H') : ∀ {r : Res α}, AllOk P r → ROk Γ av H rel r Q E
  | .ok d, p => fun v H' x q => h d v H' p q
  | .dr n j, p => fun i h1 h2 => AllOk.rok h (p i h1 h2)
  | .ex _ _, p => p.elim
  | .no, p => p.elim
/-- law's promise: a list of whole numbers is handed in, True comes out -/
def spLaw (Γ : Gm) : Sp := fun vs H Q E => ∃ (a : Addr) (ns : List Int), vs = [.ref a] ∧ SqL Γ.K H a (ns.map V.int) ∧ Tb Γ H ∧ ∀ v H', v = .bl true → Q v H'
section
variable {P : Program} {w : World} {K : PySem.W.Frag} {mg : Str → Option Value} {base : Heap}
/-- law's first statement makes the row -/
theorem fn_law {Γ : Gm} {x qual : Str} {st s0 : Stmt} {rest : List Stmt} {f : Addr} {fd : FuncData} {N : List Str} {y : Str} {k : Nat} {g : SEnv → Out} (F : FnP K x qual st f fd) (S : FnScope N [y] (defScope st)) (hK : Γ.K = K) (hbody : defBody st = s0 :: rest)
    (h0 : ∀ (cdv : Value) (A : Around) (outer : List PySem.Env) (s : Shared) (H : Hp) (E : XK), PS (cxOf (L2.CX P w) P w K mg base N qual (defScope st) f cdv A outer s H E) s0 (tAsg (tLst (tCons (tVar 0) (tCons (tC (.int 0)) (tCons (tC (.int 9734)) (tCons (tC (.int 0)) tNil))))) (gName 1)))
    (hb : ∀ (r sc : Addr) (cdv : Value) (A : Around) (outer : List PySem.Env) (s : Shared) (H : Hp) (E : XK), fd.code = cdv → Room k (A.deeper (envOfC qual (defScope st) s.heap.objs.size f cdv)) →
      PSs (cxOf (L2.CX P w) P w K mg base N qual (defScope st) f cdv A outer s H E) rest (sT (Γ.at (some r) sc) E g)) (hN : 2 ≤ N.length)
    (hg : ∀ (a : Addr) (ns : List Int), AllOk (fun d => d = .bl true) (g (.val (.arr a ns) :: .val .row :: List.replicate (N.length - 2) .dead)).fin) : FnOk P w K mg base (L2.CX P w) (k + 1) f fd [y] (spLaw Γ) := by
  refine okC F S (fun vs H Q E h => ?_) (fun cdv A outer s H vs Q E hcd hr h => ?_)
  · obtain ⟨a, ns, rfl, _⟩ := h
    rfl
  · obtain ⟨a, ns, rfl, hs, tb, q⟩ := h
    rw [hbody]
    -- whatever the row's place is
    have hrest : PSs (cxOf (L2.CX P w) P w K mg base N qual (defScope st) f cdv A outer s H E) rest (fun D σ H' => ∃ r sc, sT (Γ.at (some r) sc) E g D σ H') := ⟨fun pins s1 σ H1 D I ⟨r, sc, h⟩ => (hb r sc cdv A outer s H E hcd hr).run pins s1 σ H1 D I h⟩
    refine ⟨_, pss_cons (h0 cdv A outer s H E) hrest, ?_⟩
    have hn : L2.start N [.ref a] = some (.ref a) :: none :: List.replicate (N.length - 2) none := by
      unfold L2.start
      have : N.length - [V.ref a].length = (N.length - 2) + 1 := by simp; omega
      rw [this, List.replicate_succ]
      rfl
    rw [hn]
    refine ⟨.ref a, rfl, ?_⟩
    refine ⟨by rw [lim_eq]; show 4 ≤ lim; decide, fun p hp => ⟨p, a, fun _ => False, upd H p (.lst [.ref a, .int 0, .int 9734, .int 0]), noMr, [], _, ⟨fun _ => 0, ?_⟩, SOk.fin (AllOk.rok (P := fun d => d = .bl true) (fun d v H' e r => ?_) (hg a ns))⟩⟩
    · have x1 : Ext Γ H (upd H p (.lst [.ref a, .int 0, .int 9734, .int 0])) := Ext.same fun b o e => by rw [upd_ne (ne_of_none e hp)]; exact e
      have hs' : SqL Γ.K (upd H p (.lst [.ref a, .int 0, .int 9734, .int 0])) a (ns.map V.int) := sqL_same (fun b o e => by rw [upd_ne (ne_of_none e hp)]; exact e) hs
      have nc : ∀ {i : Nat} {d : D}, ¬ Cont (Sl.val (.arr a ns) :: .val .row :: List.replicate (N.length - 2) .dead) i d := by
        intro i d h
        match i, h with
        | 0, .inl h => cases h
        | 0, .inr h => cases h
        | 1, .inl h => cases h
        | 1, .inr h => cases h
        | i + 2, .inl h => have h : (List.replicate (N.length - 2) Sl.dead)[i]? = some (.own d) := h; cases List.eq_of_mem_replicate (List.mem_of_getElem? h)
        | i + 2, .inr h => have h : (List.replicate (N.length - 2) Sl.dead)[i]? = some (.row d) := h; cases List.eq_of_mem_replicate (List.mem_of_getElem? h)
      refine ⟨ExtM.refl _ _ _, x1.tb tb, fun r e => ?_, by simp, fun _ z => z.elim, fun b ⟨_, z⟩ => (by cases z), fun i j d e h _ _ => absurd h nc, fun i d h => absurd (.inl h) nc, fun i d h => absurd (.inr h) nc, fun i d h => ?_, fun i d h => absurd h nc, fun p hp => (by cases hp)⟩
      · cases e
        exact ⟨ns, 0, 9734, 0, upd_same, hs', by decide, by decide, by decide⟩
      · match i, h with
        | 0, h =>
          cases h
          refine ⟨_, rfl, .arr _ _ ?_⟩
          rcases hs' with (g2 | ⟨o, g2⟩) | g2
          · refine .inl ⟨g2, fun y => ?_⟩
            rcases y with (y | ⟨m, d, y, e⟩) | y
            · exact y
            · exact nc y
            · have y : some p = some a := y
              cases y
              rw [upd_same] at g2
              cases ns with
              | nil => cases g2
              | cons _ _ => cases g2
          · exact .inr (.inl ⟨o, g2⟩)
          · exact .inr (.inr fun _ => .inr g2)
        | 1, h => cases h; exact ⟨_, rfl, .row rfl⟩
        | i + 2, h => have h : (List.replicate (N.length - 2) Sl.dead)[i]? = some (.val d) := h; cases List.eq_of_mem_replicate (List.mem_of_getElem? h)
    · subst e
      cases r
      exact q _ _ rfl
end
end Fw
end
set_option Elab.async false
set_option linter.all false
set_option autoImplicit false
set_option maxRecDepth 100000
set_option maxHeartbeats 4000000
/-! Fw15: reckoning with trees. -/
noncomputable section
namespace Fw
open PySem PySem.Spec
section
variable {α β : Type} {ρ : SEnv} {r : Env} {fa fb fc : Env → Res D} {fs gs : Env → Res (List D)} {ta tb : Env → Res Bool} {g1 g2 : SEnv → Out} {d : D} {s : Sl} {k : SEnv → Out}
@[simp] theorem bind_ok (a : α) (k : α → Res β) : (Res.ok a).bind k = k a := rfl
@[simp] theorem bind_no (k : α → Res β) : (Res.no : Res α).bind k = .no := rfl
@[simp] theorem bind_ex (c : Str) (f : Option (Str × L2.V)) (k : α → Res β) : (Res.ex c f : Res α).bind k = .ex c f := rfl
@[simp] theorem bind_dr (n : Int) (j : Int → Res α) (k : α → Res β) : (Res.dr n j).bind k = .dr n fun i => (j i).bind k := rfl
@[simp] theorem bindO_ok (a : α) (k : α → Out) : bindO (.ok a) k = k a := rfl
@[simp] theorem bindO_no (k : α → Out) : bindO (.no : Res α) k = .no := rfl
@[simp] theorem bindO_ex (c : Str) (f : Option (Str × L2.V)) (k : α → Out) : bindO (.ex c f : Res α) k = .ex c f := rfl
@[simp] theorem bindO_dr (n : Int) (j : Int → Res α) (k : α → Out) : bindO (.dr n j) k = .dr n fun i => bindO (j i) k := rfl
@[simp] theorem then_nx : (Out.nx ρ).then k = k ρ := rfl
@[simp] theorem then_rt : (Out.rt d ρ).then k = .rt d ρ := rfl
@[simp] theorem then_bk : (Out.bk ρ).then k = .bk ρ := rfl
@[simp] theorem then_ct : (Out.ct ρ).then k = .ct ρ := rfl
@[simp] theorem then_no : Out.no.then k = .no := rfl
@[simp] theorem then_ex (c : Str) (f : Option (Str × L2.V)) : (Out.ex c f).then k = .ex c f := rfl
@[simp] theorem then_dr (n : Int) (j : Int → Out) : (Out.dr n j).then k = .dr n fun i => (j i).then k := rfl
@[simp] theorem turn_nx : (Out.nx ρ).turn k = k ρ := rfl
@[simp] theorem turn_rt : (Out.rt d ρ).turn k = .rt d ρ := rfl
@[simp] theorem turn_bk : (Out.bk ρ).turn k = .nx ρ := rfl
@[simp] theorem turn_ct : (Out.ct ρ).turn k = k ρ := rfl
@[simp] theorem turn_no : Out.no.turn k = .no := rfl
@[simp] theorem turn_dr (n : Int) (j : Int → Out) : (Out.dr n j).turn k = .dr n fun i => (j i).turn k := rfl
@[simp] theorem fin_nx : (Out.nx ρ).fin = .ok .non := rfl
@[simp] theorem fin_rt : (Out.rt d ρ).fin = .ok d := rfl
@[simp] theorem fin_no : Out.no.fin = .no := rfl
@[simp] theorem fin_dr (n : Int) (j : Int → Out) : (Out.dr n j).fin = .dr n fun i => (j i).fin := rfl
@[simp] theorem seqO_eq : seqO g1 g2 ρ = (g1 ρ).then g2 := rfl
@[simp] theorem ifO_eq : ifO ta g1 g2 ρ = bindO (ta ρ.all) fun b => if b then g1 ρ else g2 ρ := rfl
@[simp] theorem bin_eq (g : D → D → Res D) : bin g fa fb r = (fa r).bind fun d => (fb r).bind fun e => g d e := rfl
@[simp] theorem un1_eq (g : D → Res D) : un1 g fa r = (fa r).bind g := rfl
@[simp] theorem app_eq (g : List D → Res D) : app g fs r = (fs r).bind g := rfl
@[simp] theorem consA_eq : consA fa fs r = (fa r).bind fun d => (fs r).bind fun ds => .ok (d :: ds) := rfl
@[simp] theorem nilA_eq : nilA r = .ok [] := rfl
@[simp] theorem tupF_eq : tupF fs r = (fs r).bind fun ds => if ds.length ≤ lim then .ok (.tup ds) else .no := rfl
@[simp] theorem lstF_eq : lstF fs r = (fs r).bind fun ds => if ds.length ≤ lim then .ok (.lst ds) else .no := rfl
@[simp] theorem asTest_eq : asTest fa r = (fa r).bind D.asB := rfl
@[simp] theorem truthOf_eq : truthOf fa r = (fa r).bind D.truth := rfl
@[simp] theorem andB_eq : andB ta tb r = (ta r).bind fun k => if k then tb r else .ok false := rfl
@[simp] theorem orB_eq : orB ta tb r = (ta r).bind fun k => if k then .ok true else tb r := rfl
@[simp] theorem notB_eq : notB ta r = (ta r).bind fun k => .ok !k := rfl
@[simp] theorem andD_eq : andD fa fb r = (fa r).bind fun d => d.asB.bind fun k => if k then fb r else .ok (.bl false) := rfl
@[simp] theorem orD_eq : orD fa fb r = (fa r).bind fun d => d.asB.bind fun k => if k then .ok (.bl true) else fb r := rfl
@[simp] theorem notD_eq : notD fa r = (fa r).bind fun d => d.asB.bind fun k => .ok (.bl !k) := rfl
@[simp] theorem ifD_eq : ifD ta fa fb r = (ta r).bind fun k => if k then fa r else fb r := rfl
@[simp] theorem chain_eq (g g' : D → D → Res D) : chain g g' fa fb fc r = (fa r).bind fun x => (fb r).bind fun y => (g x y).bind fun z => z.asB.bind fun k => if k then (fc r).bind fun w => g' y w else .ok (.bl false) := rfl
@[simp] theorem isN_eq : isN fa r = (fa r).bind fun a => match a with | .op _ => .no | _ => .ok (.bl a.isNon) := rfl
@[simp] theorem notN_eq : notN fa r = (fa r).bind fun a => match a with | .op _ => .no | _ => .ok (.bl !a.isNon) := rfl
@[simp] theorem isiF_eq (T : Ty) : isiF fa T r = (fa r).bind fun d => d.isi T := rfl
@[simp] theorem isi2F_eq (T U : Ty) : isi2F fa T U r = (fa r).bind fun d => d.isiAny [T, U] := rfl
@[simp] theorem slF_eq (l h : Env → Res (Option Int)) : slF fa l h r = (fa r).bind fun d => (l r).bind fun i => (h r).bind fun j => d.slice i j := rfl
@[simp] theorem part_eq : part fa r = (fa r).bind fun d => d.asI.bind fun i => .ok (some i) := rfl
@[simp] theorem noPart_eq : noPart r = .ok none := rfl
@[simp] theorem itL_eq (g : List D → Option (List D)) : itL g fs r = (fs r).bind fun ds => ofO (g ds) := rfl
@[simp] theorem itemsF_eq : itemsF fa r = (fa r).bind fun d => match d with | .lst ds => .ok ds | .tup ds => .ok ds | .arr _ ns => .ok (ns.map .int) | .rng lo hi => if inR lo ∧ inR hi then .ok (rangeD lo (hi - lo).toNat) else .no | _ => .no := rfl
@[simp] theorem bmF_eq (T : Ty) (gg : D → List D → Res D) : bmF T fa fs gg r = (fa r).bind fun d => if d.ty = some T then (fs r).bind fun ds => gg d ds else .no := rfl
@[simp] theorem vr_eq (i : Nat) : vr r i = match r[i]? with | some (some d) => .ok d | _ => .no := rfl
@[simp] theorem all_nil : SEnv.all [] = [] := rfl
@[simp] theorem all_cons : SEnv.all (s :: ρ) = s.all :: SEnv.all ρ := rfl
@[simp] theorem vis_nil : SEnv.vis [] = [] := rfl
@[simp] theorem vis_cons : SEnv.vis (s :: ρ) = s.vis :: SEnv.vis ρ := rfl
@[simp] theorem noRow_nil : SEnv.noRow [] = [] := rfl
@[simp] theorem noRow_cons : SEnv.noRow (s :: ρ) = s.noRow :: SEnv.noRow ρ := rfl
@[simp] theorem all_val : (Sl.val d).all = some d := rfl
@[simp] theorem all_own : (Sl.own d).all = some d := rfl
@[simp] theorem all_row : (Sl.row d).all = some d := rfl
@[simp] theorem all_dead : Sl.dead.all = none := rfl
@[simp] theorem vis_val : (Sl.val d).vis = some d := rfl
@[simp] theorem vis_own : (Sl.own d).vis = none := rfl
@[simp] theorem vis_row : (Sl.row d).vis = none := rfl
@[simp] theorem vis_dead : Sl.dead.vis = none := rfl
@[simp] theorem noRow_val : (Sl.val d).noRow = some d := rfl
@[simp] theorem noRow_own : (Sl.own d).noRow = some d := rfl
@[simp] theorem noRow_dead : Sl.dead.noRow = none := rfl
@[simp] theorem put_own (e : D) : (Sl.own e).put d = .own d := rfl
@[simp] theorem put_row (e : D) : (Sl.row e).put d = .row d := rfl
@[simp] theorem setO_eq (i : Nat) : setO ρ i s = if isRow ρ i = false then .nx (ρ.set i s) else .no := rfl
@[simp] theorem isRow_eq (i : Nat) : isRow ρ i = match ρ[i]? with | some (.row _) => true | _ => false := rfl
@[simp] theorem purO_eq (o : Out) : purO d o = if d.pure = true then o else .no := rfl
@[simp] theorem contOf_eq (i : Nat) : contOf ρ i = match ρ[i]? with | some (.own d) => .ok d | some (.row d) => .ok d | _ => .no := rfl
@[simp] theorem putO_eq (i : Nat) : putO ρ i d = match ρ[i]? with | some s => .nx (ρ.set i (s.put d)) | none => .no := rfl
@[simp] theorem frzS_eq (i : Nat) : frzS ρ i = match ρ[i]? with | some (.own d) => ρ.set i (.val d) | _ => ρ := rfl
@[simp] theorem asB_bl (b : Bool) : (D.bl b).asB = .ok b := rfl
@[simp] theorem asI_int (i : Int) : (D.int i).asI = .ok i := rfl
@[simp] theorem add_int (i j : Int) : D.add (.int i) (.int j) = .ok (.int (i + j)) := rfl
@[simp] theorem sub_int (i j : Int) : D.sub (.int i) (.int j) = .ok (.int (i - j)) := rfl
@[simp] theorem mul_int (i j : Int) : D.mul (.int i) (.int j) = if i.natAbs.log2 + j.natAbs.log2 < 1000000 then .ok (.int (i * j)) else .no := rfl
@[simp] theorem fdiv_int (i j : Int) : D.fdiv (.int i) (.int j) = if 0 < j ∧ j.natAbs.log2 < 9000 then .ok (.int (i / j)) else .no := rfl
@[simp] theorem mod_int (i j : Int) : D.mod (.int i) (.int j) = if 0 < j then .ok (.int (i % j)) else .no := rfl
@[simp] theorem pow_int (i j : Int) : D.pow (.int i) (.int j) = if 0 ≤ j ∧ j ≤ 1000000 ∧ i.natAbs < 2 ^ 64 then .ok (.int (i ^ j.toNat)) else .no := rfl
@[simp] theorem lt_int (i j : Int) : D.lt (.int i) (.int j) = .ok (.bl (decide (i < j))) := rfl
@[simp] theorem le_int (i j : Int) : D.le (.int i) (.int j) = .ok (.bl (decide (i ≤ j))) := rfl
@[simp] theorem gt_int (i j : Int) : D.gt (.int i) (.int j) = .ok (.bl (decide (j < i))) := rfl
@[simp] theorem ge_int (i j : Int) : D.ge (.int i) (.int j) = .ok (.bl (decide (j ≤ i))) := rfl
@[simp] theorem truth_int (i : Int) : (D.int i).truth = .ok (i != 0) := rfl
@[simp] theorem truth_bl (b : Bool) : (D.bl b).truth = .ok b := rfl
@[simp] theorem toInt_int (i : Int) : (D.int i).toInt = .ok (.int i) := rfl
@[simp] theorem on1_eq (g : D → Res D) : on1 g [d] = g d := rfl
@[simp] theorem on2_eq (g : D → D → Res D) (e : D) : on2 g [d, e] = g d e := rfl
@[simp] theorem len_tup (ds : List D) : (D.tup ds).len = .ok (.int ds.length) := rfl
@[simp] theorem len_lst (ds : List D) : (D.lst ds).len = .ok (.int ds.length) := rfl
@[simp] theorem len_arr (a : PySem.Addr) (ns : List Int) : (D.arr a ns).len = .ok (.int ns.length) := rfl
@[simp] theorem ix_tup (ds : List D) (i : Int) : (D.tup ds).ix (.int i) = ixG ds i := rfl
@[simp] theorem ix_lst (ds : List D) (i : Int) : (D.lst ds).ix (.int i) = ixG ds i := rfl
@[simp] theorem ix_arr (a : PySem.Addr) (ns : List Int) (i : Int) : (D.arr a ns).ix (.int i) = (ixG ns i).bind fun n => .ok (.int n) := rfl
@[simp] theorem pure_int (i : Int) : (D.int i).pure = true := rfl
@[simp] theorem pure_bl (i : Bool) : (D.bl i).pure = true := rfl
@[simp] theorem callF_eq (n : Nat) (F : List D → Res D) (ds : List D) : callF n F ds = if ds.length = n then F ds else .no := rfl
end
theorem ixG_at {α : Type} (l : List α) (n : Nat) : ixG l (n : Int) = match l[n]? with | some d => .ok d | none => .no := by
  unfold ixG L2.atI L2.ixN
  by_cases h : n < l.length
  · have h1 : ¬ ((n : Int) < 0) := by omega
    simp [h1, h]
  · have h1 : ¬ ((n : Int) < 0) := by omega
    rw [List.getElem?_eq_none (by omega)]
    simp [h1, h]
theorem ix0 {α : Type} (x y z w : α) : ixG [x, y, z, w] 0 = .ok x := rfl
theorem ix1 {α : Type} (x y z w : α) : ixG [x, y, z, w] 1 = .ok y := rfl
theorem ix2 {α : Type} (x y z w : α) : ixG [x, y, z, w] 2 = .ok z := rfl
theorem ix3 {α : Type} (x y z w : α) : ixG [x, y, z, w] 3 = .ok w := rfl
theorem small_log {j : Int} (h : 0 ≤ j) (h2 : j < 2147483647) : j.natAbs.log2 + Nat.log2 48271 < 1000000 := by
  have h3 : j.natAbs < 2 ^ 31 := by omega
  have h4 : j.natAbs.log2 ≤ 31 := by
    by_cases h0 : j.natAbs = 0
    · rw [h0]; decide
    · have := (Nat.log2_lt h0).mpr h3
      omega
  have h5 : Nat.log2 48271 < 900000 := by decide +kernel
  omega
end Fw
end
set_option Elab.async false
set_option linter.all false
set_option autoImplicit false
set_option maxRecDepth 100000
set_option maxHeartbeats 4000000
/-! Fw16: reckoning with trees: loops, comprehensions. -/
noncomputable section
namespace Fw
open PySem PySem.Spec
section
variable {α β : Type} {ρ : SEnv} {r : Env} {f fa fb fc fe : Env → Res D} {fs fi : Env → Res (List D)} {ta tt : Env → Res Bool} {g g1 g2 : SEnv → Out} {d : D} {ds : List D} {s : Sl} {t : Tg} {ts : List Tg} {i : Nat}
@[simp] theorem unp_nm : (Tg.nm i).unp d = some [(i, d)] := rfl
@[simp] theorem unp_tp : (Tg.tp ts).unp (.tup ds) = Tg.unpL ts ds := rfl
@[simp] theorem unpL_nil : Tg.unpL [] [] = some [] := rfl
@[simp] theorem unpL_cons : Tg.unpL (t :: ts) (d :: ds) = match t.unp d, Tg.unpL ts ds with | some a, some b => some (a ++ b) | _, _ => none := rfl
@[simp] theorem setMany_nil : setMany ρ [] = some ρ := rfl
@[simp] theorem setMany_cons (p : Nat × D) (ps : List (Nat × D)) : setMany ρ (p :: ps) = if isRow ρ p.1 = false then setMany (ρ.set p.1 (.val p.2)) ps else none := rfl
@[simp] theorem bindT_eq : bindT ρ t d = match t.unp d with | some ps => setMany ρ ps | none => none := rfl
@[simp] theorem loopO_nil : loopO t g [] ρ = .nx ρ := rfl
theorem loopO_cons : loopO t g (d :: ds) ρ = match bindT ρ t d with | none => .no | some ρ1 => (g ρ1).turn fun ρ' => loopO t g ds ρ' := rfl
@[simp] theorem forO_eq : forO fi t g ρ = bindO (fi ρ.vis) fun ds => loopO t g ds ρ := rfl
@[simp] theorem forRO_eq : forRO fi t g ρ = bindO (fi ρ.all) fun ds => loopO t g ds ρ := rfl
theorem whileO_succ (n : Nat) : whileO ta g (n + 1) ρ = bindO (ta ρ.all) fun b => if b then (g ρ).turn fun ρ' => whileO ta g n ρ' else .nx ρ := rfl
@[simp] theorem ofO_some (a : α) : ofO (some a) = .ok a := rfl
@[simp] theorem noX_ok (a : α) : noX (.ok a) = .ok a := rfl
@[simp] theorem noX_dr (n : Int) (k : Int → Res α) : noX (.dr n k) = .dr n fun i => noX (k i) := rfl
@[simp] theorem parO_eq (is : List Nat) (ks : SEnv → Res (List Sl)) : parO is ks ρ = bindO (ks ρ) fun ss => match setSls ρ is ss with | some ρ' => .nx ρ' | none => .no := rfl
@[simp] theorem kNil_eq : kNil ρ = .ok [] := rfl
@[simp] theorem kCons_eq (h0 : SEnv → Res Sl) (ks : SEnv → Res (List Sl)) : kCons h0 ks ρ = (h0 ρ).bind fun s => (ks ρ).bind fun ss => .ok (s :: ss) := rfl
@[simp] theorem hV_eq : hV f ρ = (f ρ.vis).bind fun d => .ok (.val d) := rfl
@[simp] theorem hP_eq : hP f ρ = (f ρ.all).bind fun d => if d.pure = true then .ok (.val d) else .no := rfl
@[simp] theorem hN_eq : hN f ρ = (f ρ.all).bind fun d => if purC d = true then .ok (.own d) else .no := rfl
@[simp] theorem hNV_eq : hNV f ρ = (f ρ.vis).bind fun d => .ok (.own d) := rfl
@[simp] theorem setSls_nil : setSls ρ [] [] = some ρ := rfl
@[simp] theorem setSls_cons (is : List Nat) (ss : List Sl) : setSls ρ (i :: is) (s :: ss) = if isRow ρ i = false then setSls (ρ.set i s) is ss else none := rfl
@[simp] theorem unpO_eq : unpO f t ρ = bindO (f ρ.vis) fun d => match bindT ρ t d with | some ρ' => .nx ρ' | none => .no := rfl
@[simp] theorem genD_eq (st : Bool) (vs : List Nat) : genD st fi t fe vs r = (fi r).bind fun ds => genL st t fe (wipeE r vs) ds := rfl
@[simp] theorem lcD_eq (vs : List Nat) : lcD fi t tt fe vs r = (fi r).bind fun ds => if ds.length ≤ lim then (lcL t tt fe (wipeE r vs) ds).bind fun r => .ok (.lst r) else .no := rfl
@[simp] theorem wipeE_nil : wipeE r [] = r := rfl
@[simp] theorem wipeE_cons (v : Nat) (vs : List Nat) : wipeE r (v :: vs) = (wipeE r vs).set v none := rfl
@[simp] theorem putE_nil : putE r [] = r := rfl
@[simp] theorem putE_cons (p : Nat × D) (ps : List (Nat × D)) : putE r (p :: ps) = putE (r.set p.1 (some p.2)) ps := rfl
@[simp] theorem yesB_eq : yesB r = .ok true := rfl
@[simp] theorem appO_eq : appO f i ρ = bindO (contOf ρ i) fun l => match l with | .lst ds => bindO (f ρ.all) fun d => purO d (if ds.length < lim then putO ρ i (.lst (ds ++ [d])) else .no) | _ => .no := rfl
@[simp] theorem appVO_eq : appVO f i ρ = bindO (contOf ρ i) fun l => match l with | .lst ds => bindO (f ρ.vis) fun d => if ds.length < lim then putO ρ i (.lst (ds ++ [d])) else .no | _ => .no := rfl
@[simp] theorem augO_eq (h : D → D → Res D) : augO f i h ρ = bindO (vr ρ.all i) fun a => bindO (f ρ.all) fun b => bindO (h a b) fun d => purO d (setO ρ i (.val d)) := rfl
@[simp] theorem defF_eq (m : Nat) : defF m g ds = (g (start0 m ds)).fin := rfl
@[simp] theorem toTup_lst : (D.lst ds).toTup = .ok (.tup ds) := rfl
@[simp] theorem toTup_tup : (D.tup ds).toTup = .ok (.tup ds) := rfl
@[simp] theorem addL_lst (es : List D) : addL (.lst ds) (.lst es) = if ds.length + es.length ≤ lim then .ok (.lst (ds ++ es)) else .no := rfl
@[simp] theorem add_tup (es : List D) : D.add (.tup ds) (.tup es) = if ds.length + es.length ≤ lim then .ok (.tup (ds ++ es)) else .no := rfl
end
section
variable {fe : Env → Res D} {tt : Env → Res Bool} {r : Env} {i : Nat}
/-- a comprehension with a test -/
theorem lcL_eq (p : D → Bool) (h : D → D) : ∀ ds : List D, (∀ d ∈ ds, tt (r.set i (some d)) = .ok (p d)) → (∀ d ∈ ds, p d = true → fe (r.set i (some d)) = .ok (h d)) → lcL (.nm i) tt fe r ds = .ok ((ds.filter p).map h)
  | [], _, _ => rfl
  | d :: ds, h1, h2 => by
    have ih := lcL_eq p h ds (fun x hx => h1 x (List.mem_cons_of_mem _ hx)) (fun x hx => h2 x (List.mem_cons_of_mem _ hx))
    have e1 := h1 d List.mem_cons_self
    cases hp : p d with
    | false => simp [lcL, e1, hp, ih]
    | true => simp [lcL, e1, hp, ih, h2 d List.mem_cons_self hp]
theorem lcL_map (h : D → D) (ds : List D) (h2 : ∀ d ∈ ds, fe (r.set i (some d)) = .ok (h d)) : lcL (.nm i) yesB fe r ds = .ok (ds.map h) := by
  rw [lcL_eq (fun _ => true) h ds (fun _ _ => rfl) fun d hd _ => h2 d hd, List.filter_eq_self.mpr fun _ _ => rfl]
/-- whatever is drawn -/
theorem lcL_all (P : D → Prop) : ∀ ds : List D, (∀ d ∈ ds, AllOk P (fe (r.set i (some d)))) → AllOk (fun l => l.length = ds.length ∧ ∀ x ∈ l, P x) (lcL (.nm i) yesB fe r ds)
  | [], _ => ⟨rfl, fun x hx => by cases hx⟩
  | d :: ds, h => by
    have ih := lcL_all P ds fun x hx => h x (List.mem_cons_of_mem _ hx)
    have e : lcL (.nm i) yesB fe r (d :: ds) = (noX (fe (r.set i (some d)))).bind fun y => (lcL (.nm i) yesB fe r ds).bind fun l => .ok (y :: l) := rfl
    rw [e]
    refine AllOk.bind (P := P) (fun y hy => AllOk.bind (fun l hl => ?_) ih) ?_
    · refine ⟨by simp [hl.1], fun x hx => ?_⟩
      rcases List.mem_cons.mp hx with rfl | hx
      · exact hy
      · exact hl.2 x hx
    · have := h d List.mem_cons_self
      revert this
      generalize fe (r.set i (some d)) = z
      intro hz
      induction z with
      | ok a => exact hz
      | ex c f => exact hz.elim
      | no => exact hz.elim
      | dr n k ih => exact fun i h1 h2 => ih i (hz i h1 h2)
theorem genL_all (p : D → Bool) : ∀ ds : List D, (∀ d ∈ ds, fe (r.set i (some d)) = .ok (.bl (p d))) → genL false (.nm i) fe r ds = .ok (.bl (ds.all p))
  | [], _ => rfl
  | d :: ds, h => by
    have ih := genL_all p ds fun x hx => h x (List.mem_cons_of_mem _ hx)
    have e := h d List.mem_cons_self
    cases hp : p d with
    | false => simp [genL, e, hp]
    | true => simp [genL, e, hp, ih]
theorem genL_any (p : D → Bool) : ∀ ds : List D, (∀ d ∈ ds, fe (r.set i (some d)) = .ok (.bl (p d))) → genL true (.nm i) fe r ds = .ok (.bl (ds.any p))
  | [], _ => rfl
  | d :: ds, h => by
    have ih := genL_any p ds fun x hx => h x (List.mem_cons_of_mem _ hx)
    have e := h d List.mem_cons_self
    cases hp : p d with
    | false => simp [genL, e, hp, ih]
    | true => simp [genL, e, hp]
end
theorem rangeD_zero (lo : Int) : rangeD lo 0 = [] := rfl
theorem rangeD_succ (lo : Int) (n : Nat) : rangeD lo (n + 1) = .int lo :: rangeD (lo + 1) n := by
  unfold rangeD
  rw [List.range_succ_eq_map, List.map_cons, List.map_map]
  congr 1
  · simp
  · refine List.map_congr_left fun x _ => ?_
    simp
    omega
theorem rangeD_len (lo : Int) (n : Nat) : (rangeD lo n).length = n := by simp [rangeD]
theorem rangeD_mem {lo : Int} {n : Nat} {d : D} (h : d ∈ rangeD lo n) : ∃ i : Nat, i < n ∧ d = .int (lo + i) := by
  unfold rangeD at h
  obtain ⟨i, hi, e⟩ := List.mem_map.mp h
  exact ⟨i, List.mem_range.mp hi, e.symm⟩
/-- sizes of numbers -/
theorem log2_of_lt {i : Int} {k : Nat} (h : i.natAbs < 2 ^ k) : i.natAbs.log2 ≤ k := by
  by_cases h0 : i.natAbs = 0
  · rw [h0]; exact Nat.zero_le _
  · have := (Nat.log2_lt h0).mpr h
    omega
end Fw
end
set_option Elab.async false
set_option linter.all false
set_option autoImplicit false
set_option maxRecDepth 100000
set_option maxHeartbeats 4000000
/-! Fw17: when two trees are equal. -/
noncomputable section
namespace Fw
open PySem PySem.Spec PyProof.Rows L2
/-- a text that can be shown -/
def okS (x : Str) : Bool := PyData.canLay0 (.str x)
/-- plain: None, whole numbers, texts, tuples and lists of such; no truth values; at most n deep -/
inductive Fl : Nat → D → Prop
  | non (n : Nat) : Fl n .non
  | int (n : Nat) (i : Int) : Fl n (.int i)
  | str (n : Nat) (x : Str) : okS x = true → Fl n (.str x)
  | tup (n : Nat) (ds : List D) : (∀ d ∈ ds, Fl n d) → Fl (n + 1) (.tup ds)
  | lst (n : Nat) (ds : List D) : (∀ d ∈ ds, Fl n d) → Fl (n + 1) (.lst ds)
theorem depthAll_le {n : Nat} : ∀ {ps : List PyData}, (∀ p ∈ ps, p.depth ≤ n) → PyData.depthAll ps ≤ n
  | [], _ => Nat.zero_le _
  | p :: ps, h => by
    rw [PyData.depthAll]
    exact Nat.max_le.mpr ⟨h p List.mem_cons_self, depthAll_le fun q hq => h q (List.mem_cons_of_mem _ hq)⟩
theorem canAll {ps : List PyData} : (∀ p ∈ ps, p.canLay0 = true) → PyData.canLayAll0 ps = true := by
  induction ps with
  | nil => intro _; rfl
  | cons p ps ih =>
    intro h
    rw [PyData.canLayAll0, h p List.mem_cons_self, ih fun q hq => h q (List.mem_cons_of_mem _ hq)]
    rfl
theorem pyL {n : Nat} : ∀ {ds : List D}, (∀ d ∈ ds, ∃ p, d.toPy = some p ∧ p.canLay0 = true ∧ p.depth ≤ n) → ∃ ps, D.toPyL ds = some ps ∧ (∀ p ∈ ps, p.canLay0 = true) ∧ ∀ p ∈ ps, p.depth ≤ n
  | [], _ => ⟨[], rfl, (fun p hp => by cases hp), fun p hp => by cases hp⟩
  | d :: ds, ih => by
    obtain ⟨p, h1, h2, h3⟩ := ih d List.mem_cons_self
    obtain ⟨ps, g1, g2, g3⟩ := pyL fun e he => ih e (List.mem_cons_of_mem _ he)
    refine ⟨p :: ps, by rw [D.toPyL, h1, g1], fun q hq => ?_, fun q hq => ?_⟩
    · rcases List.mem_cons.mp hq with rfl | hq
      · exact h2
      · exact g2 q hq
    · rcases List.mem_cons.mp hq with rfl | hq
      · exact h3
      · exact g3 q hq
/-- what a plain tree is as a value -/
theorem Fl.py {n : Nat} {d : D} (h : Fl n d) : ∃ p, d.toPy = some p ∧ p.canLay0 = true ∧ p.depth ≤ n := by
  induction h with
  | non n => exact ⟨_, rfl, rfl, Nat.zero_le _⟩
  | int n i => exact ⟨_, rfl, rfl, Nat.zero_le _⟩
  | str n x hx => exact ⟨_, rfl, hx, Nat.zero_le _⟩
  | tup n ds _ ih =>
    obtain ⟨ps, g1, g2, g3⟩ := pyL ih
    exact ⟨.tuple ps, by rw [D.toPy, g1]; rfl, canAll g2, Nat.succ_le_succ (depthAll_le g3)⟩
  | lst n ds _ ih =>
    obtain ⟨ps, g1, g2, g3⟩ := pyL ih
    exact ⟨.list ps, by rw [D.toPy, g1]; rfl, canAll g2, Nat.succ_le_succ (depthAll_le g3)⟩
/-- two plain trees -/
theorem Fl.eqv {n : Nat} {d : D} (h : Fl n d) : ∀ {m : Nat} {e : D}, Fl m e → ∀ {p q : PyData}, d.toPy = some p → e.toPy = some q → (PyData.eqv p q = true ↔ d = e) := by
  have lists : ∀ {n : Nat} {ds : List D}, (∀ d ∈ ds, ∀ {m : Nat} {e : D}, Fl m e → ∀ {p q : PyData}, d.toPy = some p → e.toPy = some q → (PyData.eqv p q = true ↔ d = e)) →
      ∀ {m : Nat} {es : List D}, (∀ e ∈ es, Fl m e) → ∀ {ps qs : List PyData}, D.toPyL ds = some ps → D.toPyL es = some qs → (PyData.eqvAll ps qs = true ↔ ds = es) := by
    intro n ds
    induction ds with
    | nil =>
      intro _ m es _ ps qs h1 h2
      cases h1
      cases es with
      | nil => cases h2; exact ⟨fun _ => rfl, fun _ => rfl⟩
      | cons e es =>
        rw [D.toPyL] at h2
        cases e1 : e.toPy with
        | none => rw [e1] at h2; cases h2
        | some q =>
          cases e2 : D.toPyL es with
          | none => rw [e1, e2] at h2; cases h2
          | some qs' =>
            rw [e1, e2] at h2
            cases h2
            exact ⟨fun z => (by cases z), fun z => by cases z⟩
    | cons d ds ihl =>
      intro ih m es hes ps qs h1 h2
      rw [D.toPyL] at h1
      cases d1 : d.toPy with
      | none => rw [d1] at h1; cases h1
      | some p =>
        cases d2 : D.toPyL ds with
        | none => rw [d1, d2] at h1; cases h1
        | some ps' =>
          rw [d1, d2] at h1
          cases h1
          cases es with
          | nil => cases h2; exact ⟨fun z => (by cases z), fun z => by cases z⟩
          | cons e es =>
            rw [D.toPyL] at h2
            cases e1 : e.toPy with
            | none => rw [e1] at h2; cases h2
            | some q =>
              cases e2 : D.toPyL es with
              | none => rw [e1, e2] at h2; cases h2
              | some qs' =>
                rw [e1, e2] at h2
                cases h2
                rw [PyData.eqvAll, Bool.and_eq_true, ih d List.mem_cons_self (hes e List.mem_cons_self) d1 e1, ihl (fun x hx => ih x (List.mem_cons_of_mem _ hx)) (fun x hx => hes x (List.mem_cons_of_mem _ hx)) d2 e2, List.cons.injEq]
  induction h with
  | non n =>
    intro m e he p q h1 h2
    cases h1
    cases he with
    | non => cases h2; exact ⟨fun _ => rfl, fun _ => rfl⟩
    | int _ i => cases h2; exact ⟨fun z => (by cases z), fun z => by cases z⟩
    | str _ i => cases h2; exact ⟨fun z => (by cases z), fun z => by cases z⟩
    | tup _ ds _ =>
      rw [D.toPy] at h2
      cases e2 : D.toPyL ds with
      | none => rw [e2] at h2; cases h2
      | some qs => rw [e2] at h2; cases h2; exact ⟨fun z => (by cases z), fun z => by cases z⟩
    | lst _ ds _ =>
      rw [D.toPy] at h2
      cases e2 : D.toPyL ds with
      | none => rw [e2] at h2; cases h2
      | some qs => rw [e2] at h2; cases h2; exact ⟨fun z => (by cases z), fun z => by cases z⟩
  | int n i =>
    intro m e he p q h1 h2
    cases h1
    cases he with
    | non => cases h2; exact ⟨fun z => (by cases z), fun z => by cases z⟩
    | int _ j =>
      cases h2
      show ((i == j) = true) ↔ _
      rw [beq_iff_eq, D.int.injEq]
    | str _ i => cases h2; exact ⟨fun z => (by cases z), fun z => by cases z⟩
    | tup _ ds _ =>
      rw [D.toPy] at h2
      cases e2 : D.toPyL ds with
      | none => rw [e2] at h2; cases h2
      | some qs => rw [e2] at h2; cases h2; exact ⟨fun z => (by cases z), fun z => by cases z⟩
    | lst _ ds _ =>
      rw [D.toPy] at h2
      cases e2 : D.toPyL ds with
      | none => rw [e2] at h2; cases h2
      | some qs => rw [e2] at h2; cases h2; exact ⟨fun z => (by cases z), fun z => by cases z⟩
  | str n x hx =>
    intro m e he p q h1 h2
    cases h1
    cases he with
    | non => cases h2; exact ⟨fun z => (by cases z), fun z => by cases z⟩
    | int _ i => cases h2; exact ⟨fun z => (by cases z), fun z => by cases z⟩
    | str _ y =>
      cases h2
      show ((x == y) = true) ↔ _
      rw [beq_iff_eq, D.str.injEq]
    | tup _ ds _ =>
      rw [D.toPy] at h2
      cases e2 : D.toPyL ds with
      | none => rw [e2] at h2; cases h2
      | some qs => rw [e2] at h2; cases h2; exact ⟨fun z => (by cases z), fun z => by cases z⟩
    | lst _ ds _ =>
      rw [D.toPy] at h2
      cases e2 : D.toPyL ds with
      | none => rw [e2] at h2; cases h2
      | some qs => rw [e2] at h2; cases h2; exact ⟨fun z => (by cases z), fun z => by cases z⟩
  | tup n ds _ ih =>
    intro m e he p q h1 h2
    rw [D.toPy] at h1
    cases d1 : D.toPyL ds with
    | none => rw [d1] at h1; cases h1
    | some ps =>
      rw [d1] at h1
      cases h1
      cases he with
      | non => cases h2; exact ⟨fun z => (by cases z), fun z => by cases z⟩
      | int _ i => cases h2; exact ⟨fun z => (by cases z), fun z => by cases z⟩
      | str _ i => cases h2; exact ⟨fun z => (by cases z), fun z => by cases z⟩
      | tup _ es hes =>
        rw [D.toPy] at h2
        cases e2 : D.toPyL es with
        | none => rw [e2] at h2; cases h2
        | some qs =>
          rw [e2] at h2
          cases h2
          rw [D.tup.injEq]
          exact lists (n := n) (fun d hd => ih d hd) hes d1 e2
      | lst _ es _ =>
        rw [D.toPy] at h2
        cases e2 : D.toPyL es with
        | none => rw [e2] at h2; cases h2
        | some qs => rw [e2] at h2; cases h2; exact ⟨fun z => (by cases z), fun z => by cases z⟩
  | lst n ds _ ih =>
    intro m e he p q h1 h2
    rw [D.toPy] at h1
    cases d1 : D.toPyL ds with
    | none => rw [d1] at h1; cases h1
    | some ps =>
      rw [d1] at h1
      cases h1
      cases he with
      | non => cases h2; exact ⟨fun z => (by cases z), fun z => by cases z⟩
      | int _ i => cases h2; exact ⟨fun z => (by cases z), fun z => by cases z⟩
      | str _ i => cases h2; exact ⟨fun z => (by cases z), fun z => by cases z⟩
      | tup _ es _ =>
        rw [D.toPy] at h2
        cases e2 : D.toPyL es with
        | none => rw [e2] at h2; cases h2
        | some qs => rw [e2] at h2; cases h2; exact ⟨fun z => (by cases z), fun z => by cases z⟩
      | lst _ es hes =>
        rw [D.toPy] at h2
        cases e2 : D.toPyL es with
        | none => rw [e2] at h2; cases h2
        | some qs =>
          rw [e2] at h2
          cases h2
          rw [D.lst.injEq]
          exact lists (n := n) (fun d hd => ih d hd) hes d1 e2
open Classical in
theorem eqB_fl {n m : Nat} {a b : D} (ha : Fl n a) (hb : Fl m b) (hn : n ≤ 64 := by decide) (hm : m ≤ 64 := by decide) : D.eqB a b = .ok (decide (a = b)) := by
  obtain ⟨p, p1, p2, p3⟩ := ha.py
  obtain ⟨q, q1, q2, q3⟩ := hb.py
  have e := ha.eqv hb p1 q1
  have s1 : SeqAt.shaped p = true := Bool.and_eq_true_iff.mpr ⟨p2, decide_eq_true (by omega)⟩
  have s2 : SeqAt.shaped q = true := Bool.and_eq_true_iff.mpr ⟨q2, decide_eq_true (by omega)⟩
  unfold D.eqB
  rw [p1, q1]
  simp only [s1, s2, and_self, if_true]
  congr 1
  by_cases h : a = b
  · rw [decide_eq_true h]; exact e.mpr h
  · rw [decide_eq_false h]
    cases z : PyData.eqv p q with
    | false => rfl
    | true => exact absurd (e.mp z) h
open Classical in
theorem eq_fl {n m : Nat} {a b : D} (ha : Fl n a) (hb : Fl m b) (hn : n ≤ 64 := by decide) (hm : m ≤ 64 := by decide) : D.eq a b = .ok (.bl (decide (a = b))) := by
  unfold D.eq
  rw [eqB_fl ha hb hn hm]
  rfl
open Classical in
theorem ne_fl {n m : Nat} {a b : D} (ha : Fl n a) (hb : Fl m b) (hn : n ≤ 64 := by decide) (hm : m ≤ 64 := by decide) : D.ne a b = .ok (.bl !(decide (a = b))) := by
  unfold D.ne
  rw [eqB_fl ha hb hn hm]
  rfl
theorem eq_same {n : Nat} {a : D} (ha : Fl n a) (hn : n ≤ 64 := by decide) : D.eq a a = .ok (.bl true) := by
  rw [eq_fl ha ha hn hn]
  simp
theorem ne_same {n : Nat} {a : D} (ha : Fl n a) (hn : n ≤ 64 := by decide) : D.ne a a = .ok (.bl false) := by
  rw [ne_fl ha ha hn hn]
  simp
theorem Fl.mono {n : Nat} {d : D} (h : Fl n d) : ∀ {m : Nat}, n ≤ m → Fl m d := by
  induction h with
  | non n => exact fun _ => .non _
  | int n i => exact fun _ => .int _ _
  | str n x hx => exact fun _ => .str _ _ hx
  | tup n ds _ ih =>
    intro m hm
    obtain ⟨k, rfl⟩ : ∃ k, m = k + 1 := ⟨m - 1, by omega⟩
    exact .tup _ _ fun d hd => ih d hd (by omega)
  | lst n ds _ ih =>
    intro m hm
    obtain ⟨k, rfl⟩ : ∃ k, m = k + 1 := ⟨m - 1, by omega⟩
    exact .lst _ _ fun d hd => ih d hd (by omega)
/-! whatever is drawn: statements -/
def AllO (P : SEnv → Prop) : Out → Prop
  | .nx ρ => P ρ
  | .dr n k => ∀ i, 0 ≤ i → i < n → AllO P (k i)
  | _ => False
end Fw
end
set_option Elab.async false
set_option linter.all false
set_option autoImplicit false
set_option maxRecDepth 100000
set_option maxHeartbeats 4000000
/-! printed by wip/gen.py -/
noncomputable section
namespace Lw
open PySem PySem.Spec PyProof.Rows L2 Fw
def N_n_is_number : List Str := ["value", "low", "high"]
theorem nd_n_is_number : N_n_is_number.Nodup := by decide +kernel
def g_n_is_number : SEnv → Out :=
  (fun ρ => bindO ((andD (isiF (fun ρ => vr ρ 0) .int) (andD (notD (isiF (fun ρ => vr ρ 0) .bl)) (chain D.le D.le (fun ρ => vr ρ 1) (fun ρ => vr ρ 0) (fun ρ => vr ρ 2)))) ρ.noRow) fun d => .rt d ρ)
def F_n_is_number : List D → Res D := defF 3 g_n_is_number
def N_n_need_number : List Str := ["value", "low", "high"]
theorem nd_n_need_number : N_n_need_number.Nodup := by decide +kernel
def g_n_need_number : SEnv → Out :=
  (ifO (notB (truthOf (app (callF 3 F_n_is_number) (consA (fun ρ => vr ρ 0) (consA (fun ρ => vr ρ 1) (consA (fun ρ => vr ρ 2) nilA))))))
  (fun _ => .no)
  .nx)
def F_n_need_number : List D → Res D := defF 3 g_n_need_number
def N_n_are_rows : List Str := ["value", "states", "letters", "most", "row", "one"]
theorem nd_n_are_rows : N_n_are_rows.Nodup := by decide +kernel
def ge_n_are_rows_1 : Fw.Env → Res D :=
  (app (callF 3 F_n_is_number) (consA (fun ρ => vr ρ 5) (consA (fun _ => .ok (.int 0)) (consA (fun ρ => vr ρ 3) nilA))))
def lb_n_are_rows_1 : SEnv → Out :=
  (ifO (orB (notB (truthOf (isiF (fun ρ => vr ρ 4) .tup))) (orB (asTest (bin D.ne (app (on1 fun d => match d with | .dct _ => .no | d => d.len) (consA (fun ρ => vr ρ 4) nilA)) (fun ρ => vr ρ 2))) (notB (truthOf (genD false (itemsF (fun ρ => vr ρ 4)) (.nm 5) ge_n_are_rows_1 [5])))))
  (fun ρ => bindO ((fun _ => .ok (.bl false)) ρ.noRow) fun d => .rt d ρ)
  .nx)
def g_n_are_rows : SEnv → Out :=
  (seqO (ifO (orB (notB (truthOf (isiF (fun ρ => vr ρ 0) .tup))) (asTest (bin D.ne (app (on1 fun d => match d with | .dct _ => .no | d => d.len) (consA (fun ρ => vr ρ 0) nilA)) (fun ρ => vr ρ 1))))
  (fun ρ => bindO ((fun _ => .ok (.bl false)) ρ.noRow) fun d => .rt d ρ)
  .nx)
  (seqO (forO (itemsF (fun ρ => vr ρ 0)) (.nm 4) lb_n_are_rows_1)
  (fun ρ => bindO ((fun _ => .ok (.bl true)) ρ.noRow) fun d => .rt d ρ)))
def F_n_are_rows : List D → Res D := defF 6 g_n_are_rows
def N_n_need_machine : List Str := ["value", "steps", "answers", "letters"]
theorem nd_n_need_machine : N_n_need_machine.Nodup := by decide +kernel
def g_n_need_machine : SEnv → Out :=
  (seqO (ifO (orB (notB (truthOf (isiF (fun ρ => vr ρ 0) .tup))) (asTest (bin D.ne (app (on1 fun d => match d with | .dct _ => .no | d => d.len) (consA (fun ρ => vr ρ 0) nilA)) (fun _ => .ok (.int 2)))))
  (fun _ => .no)
  .nx)
  (seqO (unpO (fun ρ => vr ρ 0) (.tp [(.nm 1), (.nm 2)]))
  (seqO (ifO (orB (notB (truthOf (isiF (fun ρ => vr ρ 1) .tup))) (orB (notB (asTest (chain D.le D.le (fun _ => .ok (.int 1)) (app (on1 fun d => match d with | .dct _ => .no | d => d.len) (consA (fun ρ => vr ρ 1) nilA)) (fun _ => .ok (.int 6))))) (notB (truthOf (isiF (bin D.ix (fun ρ => vr ρ 1) (fun _ => .ok (.int 0))) .tup)))))
  (fun _ => .no)
  .nx)
  (seqO (fun ρ => bindO ((app (on1 fun d => match d with | .dct _ => .no | d => d.len) (consA (bin D.ix (fun ρ => vr ρ 1) (fun _ => .ok (.int 0))) nilA)) ρ.vis) fun d => setO ρ 3 (.val d))
  (seqO (ifO (orB (notB (asTest (chain D.le D.le (fun _ => .ok (.int 1)) (fun ρ => vr ρ 3) (fun _ => .ok (.int 3))))) (notB (truthOf (app (callF 4 F_n_are_rows) (consA (fun ρ => vr ρ 1) (consA (app (on1 fun d => match d with | .dct _ => .no | d => d.len) (consA (fun ρ => vr ρ 1) nilA)) (consA (fun ρ => vr ρ 3) (consA (bin D.sub (app (on1 fun d => match d with | .dct _ => .no | d => d.len) (consA (fun ρ => vr ρ 1) nilA)) (fun _ => .ok (.int 1))) nilA))))))))
  (fun _ => .no)
  .nx)
  (ifO (notB (truthOf (app (callF 4 F_n_are_rows) (consA (fun ρ => vr ρ 2) (consA (app (on1 fun d => match d with | .dct _ => .no | d => d.len) (consA (fun ρ => vr ρ 1) nilA)) (consA (fun ρ => vr ρ 3) (consA (fun _ => .ok (.int 9)) nilA)))))))
  (fun _ => .no)
  .nx))))))
def F_n_need_machine : List D → Res D := defF 4 g_n_need_machine
def N_n_letters_of : List Str := ["machine"]
theorem nd_n_letters_of : N_n_letters_of.Nodup := by decide +kernel
def g_n_letters_of : SEnv → Out :=
  (fun ρ => bindO ((app (on1 fun d => match d with | .dct _ => .no | d => d.len) (consA (bin D.ix (bin D.ix (fun ρ => vr ρ 0) (fun _ => .ok (.int 0))) (fun _ => .ok (.int 0))) nilA)) ρ.noRow) fun d => .rt d ρ)
def F_n_letters_of : List D → Res D := defF 1 g_n_letters_of
def N_n_is_word : List Str := ["machine", "value", "letter"]
theorem nd_n_is_word : N_n_is_word.Nodup := by decide +kernel
def ge_n_is_word_1 : Fw.Env → Res D :=
  (app (callF 3 F_n_is_number) (consA (fun ρ => vr ρ 2) (consA (fun _ => .ok (.int 0)) (consA (bin D.sub (app (callF 1 F_n_letters_of) (consA (fun ρ => vr ρ 0) nilA)) (fun _ => .ok (.int 1))) nilA))))
def g_n_is_word : SEnv → Out :=
  (seqO (ifO (orB (notB (truthOf (isiF (fun ρ => vr ρ 1) .tup))) (asTest (bin D.gt (app (on1 fun d => match d with | .dct _ => .no | d => d.len) (consA (fun ρ => vr ρ 1) nilA)) (fun _ => .ok (.int 4000)))))
  (fun ρ => bindO ((fun _ => .ok (.bl false)) ρ.noRow) fun d => .rt d ρ)
  .nx)
  (fun ρ => bindO ((genD false (itemsF (fun ρ => vr ρ 1)) (.nm 2) ge_n_is_word_1 [2]) ρ.noRow) fun d => .rt d ρ))
def F_n_is_word : List D → Res D := defF 3 g_n_is_word
def N_n_need_word : List Str := ["machine", "value"]
theorem nd_n_need_word : N_n_need_word.Nodup := by decide +kernel
def g_n_need_word : SEnv → Out :=
  (ifO (notB (truthOf (app (callF 2 F_n_is_word) (consA (fun ρ => vr ρ 0) (consA (fun ρ => vr ρ 1) nilA)))))
  (fun _ => .no)
  .nx)
def F_n_need_word : List D → Res D := defF 2 g_n_need_word
def N_n_led : List Str := ["machine", "state", "word", "letter"]
theorem nd_n_led : N_n_led.Nodup := by decide +kernel
def lb_n_led_1 : SEnv → Out :=
  (fun ρ => bindO ((bin D.ix (bin D.ix (bin D.ix (fun ρ => vr ρ 0) (fun _ => .ok (.int 0))) (fun ρ => vr ρ 1)) (fun ρ => vr ρ 3)) ρ.vis) fun d => setO ρ 1 (.val d))
def g_n_led : SEnv → Out :=
  (seqO (forO (itemsF (fun ρ => vr ρ 2)) (.nm 3) lb_n_led_1)
  (fun ρ => bindO ((fun ρ => vr ρ 1) ρ.noRow) fun d => .rt d ρ))
def F_n_led : List D → Res D := defF 4 g_n_led
def N_n_told : List Str := ["machine", "state", "word", "found", "letter"]
theorem nd_n_told : N_n_told.Nodup := by decide +kernel
def lb_n_told_1 : SEnv → Out :=
  (seqO (appVO (bin D.ix (bin D.ix (bin D.ix (fun ρ => vr ρ 0) (fun _ => .ok (.int 1))) (fun ρ => vr ρ 1)) (fun ρ => vr ρ 4)) 3)
  (fun ρ => bindO ((bin D.ix (bin D.ix (bin D.ix (fun ρ => vr ρ 0) (fun _ => .ok (.int 0))) (fun ρ => vr ρ 1)) (fun ρ => vr ρ 4)) ρ.vis) fun d => setO ρ 1 (.val d)))
def g_n_told : SEnv → Out :=
  (seqO (fun ρ => bindO ((lstF nilA) ρ.vis) fun d => setO ρ 3 (.own d))
  (seqO (forO (itemsF (fun ρ => vr ρ 2)) (.nm 4) lb_n_told_1)
  (fun ρ => bindO ((fun ρ => vr ρ 3) ρ.noRow) fun d => .rt d ρ)))
def F_n_told : List D → Res D := defF 5 g_n_told
def N_n_need_chance : List Str := ["value"]
theorem nd_n_need_chance : N_n_need_chance.Nodup := by decide +kernel
def g_n_need_chance : SEnv → Out :=
  (seqO (ifO (orB (notB (truthOf (isiF (fun ρ => vr ρ 0) .tup))) (orB (asTest (bin D.ne (app (on1 fun d => match d with | .dct _ => .no | d => d.len) (consA (fun ρ => vr ρ 0) nilA)) (fun _ => .ok (.int 2)))) (notB (truthOf (app (callF 3 F_n_is_number) (consA (bin D.ix (fun ρ => vr ρ 0) (fun _ => .ok (.int 1))) (consA (fun _ => .ok (.int 1)) (consA (fun _ => .ok (.int 100)) nilA))))))))
  (fun _ => .no)
  .nx)
  (ifO (notB (truthOf (app (callF 3 F_n_is_number) (consA (bin D.ix (fun ρ => vr ρ 0) (fun _ => .ok (.int 0))) (consA (fun _ => .ok (.int 0)) (consA (bin D.ix (fun ρ => vr ρ 0) (fun _ => .ok (.int 1))) nilA))))))
  (fun _ => .no)
  .nx))
def F_n_need_chance : List D → Res D := defF 1 g_n_need_chance
def N_n_lowest : List Str := ["top", "bottom", "one", "other"]
theorem nd_n_lowest : N_n_lowest.Nodup := by decide +kernel
def wb_n_lowest_1 : SEnv → Out :=
  (parO [2, 3] (kCons (hV (fun ρ => vr ρ 3)) (kCons (hV (bin D.mod (fun ρ => vr ρ 2) (fun ρ => vr ρ 3))) kNil)))
def wt_n_lowest_1 : Fw.Env → Res Bool :=
  (truthOf (fun ρ => vr ρ 3))
def g_n_lowest : SEnv → Out :=
  (seqO (parO [2, 3] (kCons (hV (fun ρ => vr ρ 0)) (kCons (hV (fun ρ => vr ρ 1)) kNil)))
  (seqO (whileO wt_n_lowest_1 wb_n_lowest_1 lim)
  (fun ρ => bindO ((tupF (consA (bin D.fdiv (fun ρ => vr ρ 0) (fun ρ => vr ρ 2)) (consA (bin D.fdiv (fun ρ => vr ρ 1) (fun ρ => vr ρ 2)) nilA))) ρ.noRow) fun d => .rt d ρ)))
def F_n_lowest : List D → Res D := defF 4 g_n_lowest
def N_n_choose : List Str := ["many", "some", "found", "at"]
theorem nd_n_choose : N_n_choose.Nodup := by decide +kernel
def lb_n_choose_1 : SEnv → Out :=
  (fun ρ => bindO ((bin D.fdiv (bin D.mul (fun ρ => vr ρ 2) (bin D.sub (fun ρ => vr ρ 0) (fun ρ => vr ρ 3))) (bin D.add (fun ρ => vr ρ 3) (fun _ => .ok (.int 1)))) ρ.vis) fun d => setO ρ 2 (.val d))
def g_n_choose : SEnv → Out :=
  (seqO (fun ρ => bindO ((fun _ => .ok (.int 1)) ρ.vis) fun d => setO ρ 2 (.val d))
  (seqO (forO (itL rng1L (consA (fun ρ => vr ρ 1) nilA)) (.nm 3) lb_n_choose_1)
  (fun ρ => bindO ((fun ρ => vr ρ 2) ρ.noRow) fun d => .rt d ρ)))
def F_n_choose : List D → Res D := defF 4 g_n_choose
def N_n_power : List Str := ["number", "many", "found", "_"]
theorem nd_n_power : N_n_power.Nodup := by decide +kernel
def lb_n_power_1 : SEnv → Out :=
  (augO (fun ρ => vr ρ 0) 2 mulI)
def g_n_power : SEnv → Out :=
  (seqO (fun ρ => bindO ((fun _ => .ok (.int 1)) ρ.vis) fun d => setO ρ 2 (.val d))
  (seqO (forO (itL rng1L (consA (fun ρ => vr ρ 1) nilA)) (.nm 3) lb_n_power_1)
  (fun ρ => bindO ((fun ρ => vr ρ 2) ρ.noRow) fun d => .rt d ρ)))
def F_n_power : List D → Res D := defF 4 g_n_power
def N_n_right_by : List Str := ["copies", "top", "bottom", "most", "whole", "many"]
theorem nd_n_right_by : N_n_right_by.Nodup := by decide +kernel
def ce_n_right_by_1 : Fw.Env → Res D :=
  (bin D.mul (bin D.mul (app (callF 2 F_n_choose) (consA (fun ρ => vr ρ 0) (consA (fun ρ => vr ρ 5) nilA))) (app (callF 2 F_n_power) (consA (fun ρ => vr ρ 1) (consA (fun ρ => vr ρ 5) nilA)))) (app (callF 2 F_n_power) (consA (bin D.sub (fun ρ => vr ρ 2) (fun ρ => vr ρ 1)) (consA (bin D.sub (fun ρ => vr ρ 0) (fun ρ => vr ρ 5)) nilA))))
def g_n_right_by : SEnv → Out :=
  (seqO (fun ρ => bindO ((app rngD (consA (bin D.add (bin D.fdiv (fun ρ => vr ρ 0) (fun _ => .ok (.int 2))) (fun _ => .ok (.int 1))) (consA (bin D.add (fun ρ => vr ρ 0) (fun _ => .ok (.int 1))) nilA))) ρ.vis) fun d => setO ρ 3 (.val d))
  (seqO (fun ρ => bindO ((app (on1 D.sum) (consA (lcD (itemsF (fun ρ => vr ρ 3)) (.nm 5) yesB ce_n_right_by_1 [5]) nilA)) ρ.vis) fun d => setO ρ 4 (.val d))
  (fun ρ => bindO ((app (callF 2 F_n_lowest) (consA (fun ρ => vr ρ 4) (consA (app (callF 2 F_n_power) (consA (fun ρ => vr ρ 2) (consA (fun ρ => vr ρ 0) nilA))) nilA))) ρ.noRow) fun d => .rt d ρ)))
def F_n_right_by : List D → Res D := defF 6 g_n_right_by
def N_n_chances_of : List Str := ["machine", "copies", "chance", "way", "word", "states", "right", "rows", "found", "at", "alike", "top", "state", "row"]
theorem nd_n_chances_of : N_n_chances_of.Nodup := by decide +kernel
def ce_n_chances_of_1 : Fw.Env → Res D :=
  (app (callF 3 F_n_told) (consA (fun ρ => vr ρ 0) (consA (fun ρ => vr ρ 12) (consA (fun ρ => vr ρ 4) nilA))))
def ce_n_chances_of_2 : Fw.Env → Res D :=
  (fun ρ => vr ρ 13)
def ct_n_chances_of_1 : Fw.Env → Res Bool :=
  (asTest (bin D.eq (bin D.ix (fun ρ => vr ρ 13) (fun ρ => vr ρ 9)) (bin D.ix (fun ρ => vr ρ 6) (fun ρ => vr ρ 9))))
def lb_n_chances_of_1 : SEnv → Out :=
  (seqO (fun ρ => bindO ((app (on1 fun d => match d with | .dct _ => .no | d => d.len) (consA (lcD (itemsF (fun ρ => vr ρ 7)) (.nm 13) ct_n_chances_of_1 ce_n_chances_of_2 [13]) nilA)) ρ.vis) fun d => setO ρ 10 (.val d))
  (seqO (fun ρ => bindO ((bin D.add (bin D.mul (bin D.sub (bin D.ix (fun ρ => vr ρ 2) (fun _ => .ok (.int 1))) (bin D.ix (fun ρ => vr ρ 2) (fun _ => .ok (.int 0)))) (fun ρ => vr ρ 5)) (bin D.mul (bin D.ix (fun ρ => vr ρ 2) (fun _ => .ok (.int 0))) (fun ρ => vr ρ 10))) ρ.vis) fun d => setO ρ 11 (.val d))
  (appVO (app (callF 3 F_n_right_by) (consA (fun ρ => vr ρ 1) (consA (fun ρ => vr ρ 11) (consA (bin D.mul (bin D.ix (fun ρ => vr ρ 2) (fun _ => .ok (.int 1))) (fun ρ => vr ρ 5)) nilA)))) 8)))
def g_n_chances_of : SEnv → Out :=
  (seqO (fun ρ => bindO ((app (on1 fun d => match d with | .dct _ => .no | d => d.len) (consA (bin D.ix (fun ρ => vr ρ 0) (fun _ => .ok (.int 0))) nilA)) ρ.vis) fun d => setO ρ 5 (.val d))
  (seqO (fun ρ => bindO ((app (callF 3 F_n_told) (consA (fun ρ => vr ρ 0) (consA (app (callF 3 F_n_led) (consA (fun ρ => vr ρ 0) (consA (fun _ => .ok (.int 0)) (consA (fun ρ => vr ρ 3) nilA)))) (consA (fun ρ => vr ρ 4) nilA)))) ρ.vis) fun d => setO ρ 6 (.val d))
  (seqO (fun ρ => bindO ((lcD (itL rng1L (consA (fun ρ => vr ρ 5) nilA)) (.nm 12) yesB ce_n_chances_of_1 [12]) ρ.vis) fun d => setO ρ 7 (.val d))
  (seqO (fun ρ => bindO ((lstF nilA) ρ.vis) fun d => setO ρ 8 (.own d))
  (seqO (forO (itL rng1L (consA (app (on1 fun d => match d with | .dct _ => .no | d => d.len) (consA (fun ρ => vr ρ 4) nilA)) nilA)) (.nm 9) lb_n_chances_of_1)
  (fun ρ => bindO ((fun ρ => vr ρ 8) ρ.noRow) fun d => .rt d ρ))))))
def F_n_chances_of : List D → Res D := defF 14 g_n_chances_of
def N_n_need_all : List Str := ["machine", "copies", "chance", "way", "word"]
theorem nd_n_need_all : N_n_need_all.Nodup := by decide +kernel
def g_n_need_all : SEnv → Out :=
  (seqO (fun ρ => bindO ((app (callF 1 F_n_need_machine) (consA (fun ρ => vr ρ 0) nilA)) ρ.all) fun _ => .nx ρ)
  (seqO (fun ρ => bindO ((app (callF 3 F_n_need_number) (consA (fun ρ => vr ρ 1) (consA (fun _ => .ok (.int 1)) (consA (fun _ => .ok (.int 25)) nilA)))) ρ.all) fun _ => .nx ρ)
  (seqO (fun ρ => bindO ((app (callF 1 F_n_need_chance) (consA (fun ρ => vr ρ 2) nilA)) ρ.all) fun _ => .nx ρ)
  (seqO (fun ρ => bindO ((app (callF 2 F_n_need_word) (consA (fun ρ => vr ρ 0) (consA (fun ρ => vr ρ 3) nilA))) ρ.all) fun _ => .nx ρ)
  (fun ρ => bindO ((app (callF 2 F_n_need_word) (consA (fun ρ => vr ρ 0) (consA (fun ρ => vr ρ 4) nilA))) ρ.all) fun _ => .nx ρ)))))
def F_n_need_all : List D → Res D := defF 5 g_n_need_all
def N_n_right_chances : List Str := ["machine", "copies", "chance", "way", "word"]
theorem nd_n_right_chances : N_n_right_chances.Nodup := by decide +kernel
def g_n_right_chances : SEnv → Out :=
  (seqO (fun ρ => bindO ((app (callF 5 F_n_need_all) (consA (fun ρ => vr ρ 0) (consA (fun ρ => vr ρ 1) (consA (fun ρ => vr ρ 2) (consA (fun ρ => vr ρ 3) (consA (fun ρ => vr ρ 4) nilA)))))) ρ.all) fun _ => .nx ρ)
  (fun ρ => bindO ((app (on1 D.toTup) (consA (app (callF 5 F_n_chances_of) (consA (fun ρ => vr ρ 0) (consA (fun ρ => vr ρ 1) (consA (fun ρ => vr ρ 2) (consA (fun ρ => vr ρ 3) (consA (fun ρ => vr ρ 4) nilA)))))) nilA)) ρ.noRow) fun d => .rt d ρ))
def F_n_right_chances : List D → Res D := defF 5 g_n_right_chances
def N_n_mean_misses : List Str := ["machine", "copies", "chance", "way", "word", "whole", "top", "bottom"]
theorem nd_n_mean_misses : N_n_mean_misses.Nodup := by decide +kernel
def lb_n_mean_misses_1 : SEnv → Out :=
  (fun ρ => bindO ((app (callF 2 F_n_lowest) (consA (bin D.add (bin D.mul (bin D.ix (fun ρ => vr ρ 5) (fun _ => .ok (.int 0))) (fun ρ => vr ρ 7)) (bin D.mul (bin D.ix (fun ρ => vr ρ 5) (fun _ => .ok (.int 1))) (bin D.sub (fun ρ => vr ρ 7) (fun ρ => vr ρ 6)))) (consA (bin D.mul (bin D.ix (fun ρ => vr ρ 5) (fun _ => .ok (.int 1))) (fun ρ => vr ρ 7)) nilA))) ρ.vis) fun d => setO ρ 5 (.val d))
def g_n_mean_misses : SEnv → Out :=
  (seqO (fun ρ => bindO ((app (callF 5 F_n_need_all) (consA (fun ρ => vr ρ 0) (consA (fun ρ => vr ρ 1) (consA (fun ρ => vr ρ 2) (consA (fun ρ => vr ρ 3) (consA (fun ρ => vr ρ 4) nilA)))))) ρ.all) fun _ => .nx ρ)
  (seqO (fun ρ => bindO ((tupF (consA (fun _ => .ok (.int 0)) (consA (fun _ => .ok (.int 1)) nilA))) ρ.vis) fun d => setO ρ 5 (.val d))
  (seqO (forO (itemsF (app (callF 5 F_n_chances_of) (consA (fun ρ => vr ρ 0) (consA (fun ρ => vr ρ 1) (consA (fun ρ => vr ρ 2) (consA (fun ρ => vr ρ 3) (consA (fun ρ => vr ρ 4) nilA))))))) (.tp [(.nm 6), (.nm 7)]) lb_n_mean_misses_1)
  (fun ρ => bindO ((fun ρ => vr ρ 5) ρ.noRow) fun d => .rt d ρ))))
def F_n_mean_misses : List D → Res D := defF 8 g_n_mean_misses
def N_n__law_taken : List Str := ["_law_row", "_law_many", "_law_found", "_law_cell"]
theorem nd_n__law_taken : N_n__law_taken.Nodup := by decide +kernel
def g_n__law_taken : SEnv → Out :=
  (seqO (ifO (asTest (bin D.gt (bin D.ix (fun ρ => vr ρ 0) (fun _ => .ok (.int 3))) (fun _ => .ok (.int 0))))
  (seqO (fun ρ => bindO ((bin D.mod (app (on1 D.toInt) (consA (bin D.ix (fun ρ => vr ρ 0) (fun _ => .ok (.int 3))) nilA)) (fun ρ => vr ρ 1)) ρ.all) fun d => purO d (setO ρ 2 (.val d)))
  (seqO (setiO (bin D.fdiv (bin D.ix (fun ρ => vr ρ 0) (fun _ => .ok (.int 3))) (fun ρ => vr ρ 1)) 0 (fun _ => .ok (.int 3)))
  (fun ρ => bindO ((fun ρ => vr ρ 2) ρ.all) fun d => purO d (.rt d ρ))))
  .nx)
  (seqO (setiO (bin D.add (bin D.ix (fun ρ => vr ρ 0) (fun _ => .ok (.int 1))) (fun _ => .ok (.int 1))) 0 (fun _ => .ok (.int 1)))
  (seqO (ifO (asTest (bin D.gt (bin D.ix (fun ρ => vr ρ 0) (fun _ => .ok (.int 1))) (app (on1 fun d => match d with | .dct _ => .no | d => d.len) (consA (bin D.ix (fun ρ => vr ρ 0) (fun _ => .ok (.int 0))) nilA))))
  (seqO (setiO (bin D.mod (app (on1 D.toInt) (consA (bin D.add (bin D.mul (bin D.ix (fun ρ => vr ρ 0) (fun _ => .ok (.int 2))) (fun _ => .ok (.int 48271))) (fun _ => .ok (.int 11))) nilA)) (fun _ => .ok (.int 2147483647))) 0 (fun _ => .ok (.int 2)))
  (fun ρ => bindO ((bin D.mod (app (on1 D.toInt) (consA (bin D.fdiv (bin D.ix (fun ρ => vr ρ 0) (fun _ => .ok (.int 2))) (fun _ => .ok (.int 7))) nilA)) (fun ρ => vr ρ 1)) ρ.all) fun d => purO d (.rt d ρ)))
  .nx)
  (seqO (fun ρ => bindO ((bin D.ix (bin D.ix (fun ρ => vr ρ 0) (fun _ => .ok (.int 0))) (bin D.sub (bin D.ix (fun ρ => vr ρ 0) (fun _ => .ok (.int 1))) (fun _ => .ok (.int 1)))) ρ.all) fun d => purO d (setO ρ 3 (.val d)))
  (seqO (setiO (bin D.mod (app (on1 D.toInt) (consA (bin D.add (bin D.add (bin D.mul (bin D.ix (fun ρ => vr ρ 0) (fun _ => .ok (.int 2))) (fun _ => .ok (.int 48271))) (fun ρ => vr ρ 3)) (fun _ => .ok (.int 11))) nilA)) (fun _ => .ok (.int 2147483647))) 0 (fun _ => .ok (.int 2)))
  (seqO (ifO (asTest (bin D.ge (fun ρ => vr ρ 3) (bin D.pow (fun _ => .ok (.int 10)) (fun _ => .ok (.int 18)))))
  (setiO (bin D.fdiv (fun ρ => vr ρ 3) (fun ρ => vr ρ 1)) 0 (fun _ => .ok (.int 3)))
  .nx)
  (fun ρ => bindO ((bin D.mod (app (on1 D.toInt) (consA (fun ρ => vr ρ 3) nilA)) (fun ρ => vr ρ 1)) ρ.all) fun d => purO d (.rt d ρ))))))))
def F_n__law_taken : List D → Res D := takenF
def N_n__law_alike : List Str := ["_law_found", "_law_due", "_law_k"]
theorem nd_n__law_alike : N_n__law_alike.Nodup := by decide +kernel
def ce_n__law_alike_1 : Fw.Env → Res D :=
  (fun ρ => vr ρ 2)
def ct_n__law_alike_1 (F0 : List D → Res D) : Fw.Env → Res Bool :=
  (notB (truthOf (app (callF 2 F0) (consA (bin D.ix (fun ρ => vr ρ 0) (fun ρ => vr ρ 2)) (consA (bin D.ix (fun ρ => vr ρ 1) (fun ρ => vr ρ 2)) nilA)))))
def g_n__law_alike (F0 : List D → Res D) : SEnv → Out :=
  (seqO (ifO (truthOf (isi2F (fun ρ => vr ρ 1) .tup .lst))
  (seqO (ifO (orB (notB (truthOf (isi2F (fun ρ => vr ρ 0) .tup .lst))) (asTest (bin D.ne (isiF (fun ρ => vr ρ 0) .lst) (isiF (fun ρ => vr ρ 1) .lst))))
  (fun ρ => bindO ((fun _ => .ok (.bl false)) ρ.noRow) fun d => .rt d ρ)
  .nx)
  (seqO (ifO (asTest (bin D.ne (app (on1 fun d => match d with | .dct _ => .no | d => d.len) (consA (fun ρ => vr ρ 0) nilA)) (app (on1 fun d => match d with | .dct _ => .no | d => d.len) (consA (fun ρ => vr ρ 1) nilA))))
  (fun ρ => bindO ((fun _ => .ok (.bl false)) ρ.noRow) fun d => .rt d ρ)
  .nx)
  (fun ρ => bindO ((bin D.eq (lcD (itL rng1L (consA (app (on1 fun d => match d with | .dct _ => .no | d => d.len) (consA (fun ρ => vr ρ 1) nilA)) nilA)) (.nm 2) (ct_n__law_alike_1 F0) ce_n__law_alike_1 [2]) (lstF nilA)) ρ.noRow) fun d => .rt d ρ)))
  .nx)
  (seqO (ifO (orB (asTest (isN (fun ρ => vr ρ 1))) (truthOf (isiF (fun ρ => vr ρ 1) .str)))
  (fun ρ => bindO ((andD (bin D.eq (fun ρ => vr ρ 0) (fun ρ => vr ρ 1)) (bin D.eq (isiF (fun ρ => vr ρ 0) .str) (isiF (fun ρ => vr ρ 1) .str))) ρ.noRow) fun d => .rt d ρ)
  .nx)
  (fun ρ => bindO ((andD (isiF (fun ρ => vr ρ 0) .int) (andD (bin D.eq (isiF (fun ρ => vr ρ 0) .bl) (isiF (fun ρ => vr ρ 1) .bl)) (bin D.eq (fun ρ => vr ρ 0) (fun ρ => vr ρ 1)))) ρ.noRow) fun d => .rt d ρ)))
def F_n__law_alike : Nat → List D → Res D
  | 0 => fun _ => .no
  | n + 1 => defF 3 (g_n__law_alike (F_n__law_alike n))
def N_n__law_machine : List Str := ["_law_row", "_law_states", "_law_letters", "_law_many", "_law_wide", "_law_kind", "_law_steps", "_law_said", "_law_state", "_law_letter"]
theorem nd_n__law_machine : N_n__law_machine.Nodup := by decide +kernel
def ce_n__law_machine_1 : Fw.Env → Res D :=
  (ifD (asTest (bin D.eq (fun ρ => vr ρ 9) (bin D.sub (fun ρ => vr ρ 4) (fun _ => .ok (.int 1))))) (app (on2 D.min2) (consA (bin D.sub (fun ρ => vr ρ 3) (fun _ => .ok (.int 1))) (consA (bin D.add (fun ρ => vr ρ 8) (fun _ => .ok (.int 1))) nilA))) (fun _ => .ok (.int 0)))
def ce_n__law_machine_2 : Fw.Env → Res D :=
  (app (on2 D.min2) (consA (bin D.sub (fun ρ => vr ρ 3) (fun _ => .ok (.int 1))) (consA (fun ρ => vr ρ 9) nilA)))
def ce_n__law_machine_3 : Fw.Env → Res D :=
  (app (callF 2 F_n__law_taken) (consA (fun ρ => vr ρ 0) (consA (fun ρ => vr ρ 3) nilA)))
def ce_n__law_machine_4 : Fw.Env → Res D :=
  (app (callF 2 F_n__law_taken) (consA (fun ρ => vr ρ 0) (consA (fun _ => .ok (.int 2)) nilA)))
def lb_n__law_machine_1 : SEnv → Out :=
  (seqO (ifO (asTest (bin D.eq (fun ρ => vr ρ 5) (fun _ => .ok (.int 0))))
  (appVO (app (on1 D.toTup) (consA (lcD (itL rng1L (consA (fun ρ => vr ρ 4) nilA)) (.nm 9) yesB ce_n__law_machine_1 [9]) nilA)) 6)
  (ifO (asTest (bin D.eq (fun ρ => vr ρ 5) (fun _ => .ok (.int 1))))
  (appVO (app (on1 D.toTup) (consA (lcD (itL rng1L (consA (fun ρ => vr ρ 4) nilA)) (.nm 9) yesB ce_n__law_machine_2 [9]) nilA)) 6)
  (appVO (app (on1 D.toTup) (consA (lcD (itL rng1L (consA (fun ρ => vr ρ 4) nilA)) (.nm 9) yesB ce_n__law_machine_3 [9]) nilA)) 6)))
  (appVO (app (on1 D.toTup) (consA (lcD (itL rng1L (consA (fun ρ => vr ρ 4) nilA)) (.nm 9) yesB ce_n__law_machine_4 [9]) nilA)) 7))
def g_n__law_machine : SEnv → Out :=
  (seqO (parO [3, 4, 5] (kCons (hV (bin D.add (fun _ => .ok (.int 1)) (app (callF 2 F_n__law_taken) (consA (fun ρ => vr ρ 0) (consA (fun ρ => vr ρ 1) nilA))))) (kCons (hV (bin D.add (fun _ => .ok (.int 1)) (app (callF 2 F_n__law_taken) (consA (fun ρ => vr ρ 0) (consA (fun ρ => vr ρ 2) nilA))))) (kCons (hV (app (callF 2 F_n__law_taken) (consA (fun ρ => vr ρ 0) (consA (fun _ => .ok (.int 4)) nilA)))) kNil))))
  (seqO (parO [6, 7] (kCons (hNV (lstF nilA)) (kCons (hNV (lstF nilA)) kNil)))
  (seqO (forO (itL rng1L (consA (fun ρ => vr ρ 3) nilA)) (.nm 8) lb_n__law_machine_1)
  (fun ρ => bindO ((tupF (consA (app (on1 D.toTup) (consA (fun ρ => vr ρ 6) nilA)) (consA (app (on1 D.toTup) (consA (fun ρ => vr ρ 7) nilA)) nilA))) ρ.noRow) fun d => .rt d ρ))))
def F_n__law_machine : List D → Res D := defF 10 g_n__law_machine
def N_n__law_word : List Str := ["_law_row", "_law_machine_here", "_law_most", "_law_at"]
theorem nd_n__law_word : N_n__law_word.Nodup := by decide +kernel
def ce_n__law_word_1 : Fw.Env → Res D :=
  (app (callF 2 F_n__law_taken) (consA (fun ρ => vr ρ 0) (consA (app (on1 fun d => match d with | .dct _ => .no | d => d.len) (consA (bin D.ix (bin D.ix (fun ρ => vr ρ 1) (fun _ => .ok (.int 0))) (fun _ => .ok (.int 0))) nilA)) nilA)))
def g_n__law_word : SEnv → Out :=
  (fun ρ => bindO ((app (on1 D.toTup) (consA (lcD (itL rng1L (consA (app (callF 2 F_n__law_taken) (consA (fun ρ => vr ρ 0) (consA (bin D.add (fun ρ => vr ρ 2) (fun _ => .ok (.int 1))) nilA))) nilA)) (.nm 3) yesB ce_n__law_word_1 [3]) nilA)) ρ.noRow) fun d => .rt d ρ)
def F_n__law_word : List D → Res D := defF 4 g_n__law_word
def N_n__law_low : List Str := ["_law_top", "_law_bottom", "_law_one", "_law_other"]
theorem nd_n__law_low : N_n__law_low.Nodup := by decide +kernel
def wb_n__law_low_1 : SEnv → Out :=
  (parO [2, 3] (kCons (hV (fun ρ => vr ρ 3)) (kCons (hV (bin D.mod (app (on1 D.toInt) (consA (fun ρ => vr ρ 2) nilA)) (fun ρ => vr ρ 3))) kNil)))
def wt_n__law_low_1 : Fw.Env → Res Bool :=
  (asTest (bin D.gt (fun ρ => vr ρ 3) (fun _ => .ok (.int 0))))
def g_n__law_low : SEnv → Out :=
  (seqO (parO [2, 3] (kCons (hV (fun ρ => vr ρ 0)) (kCons (hV (fun ρ => vr ρ 1)) kNil)))
  (seqO (whileO wt_n__law_low_1 wb_n__law_low_1 lim)
  (fun ρ => bindO ((tupF (consA (bin D.fdiv (fun ρ => vr ρ 0) (fun ρ => vr ρ 2)) (consA (bin D.fdiv (fun ρ => vr ρ 1) (fun ρ => vr ρ 2)) nilA))) ρ.noRow) fun d => .rt d ρ)))
def F_n__law_low : List D → Res D := defF 4 g_n__law_low
def N_n__law_after : List Str := ["_law_machine_here", "_law_state", "_law_word_here", "_law_letter"]
theorem nd_n__law_after : N_n__law_after.Nodup := by decide +kernel
def lb_n__law_after_1 : SEnv → Out :=
  (fun ρ => bindO ((bin D.ix (bin D.ix (bin D.ix (fun ρ => vr ρ 0) (fun _ => .ok (.int 0))) (fun ρ => vr ρ 1)) (fun ρ => vr ρ 3)) ρ.vis) fun d => setO ρ 1 (.val d))
def g_n__law_after : SEnv → Out :=
  (seqO (forO (itemsF (fun ρ => vr ρ 2)) (.nm 3) lb_n__law_after_1)
  (fun ρ => bindO ((fun ρ => vr ρ 1) ρ.noRow) fun d => .rt d ρ))
def F_n__law_after : List D → Res D := defF 4 g_n__law_after
def N_n_law : List Str := ["_law_script", "_law_row", "_law_machine_here", "_law_copies", "_law_low_here", "_law_chance", "_law_way", "_law_word_here", "_law_many", "_law_right", "_law_rows", "_law_copy", "_law_longer", "_law_some", "_law_weight", "_law_whole", "_law_due", "_law_mean", "_law_at", "_law_good", "_law_answer", "_law_said", "_law_state"]
theorem nd_n_law : N_n_law.Nodup := by decide +kernel
def ce_n_law_1 : Fw.Env → Res D :=
  (tupF (consA (bin D.add (fun ρ => vr ρ 13) (tupF (consA (fun ρ => vr ρ 22) nilA))) (consA (bin D.mul (fun ρ => vr ρ 14) (bin D.ix (fun ρ => vr ρ 5) (fun _ => .ok (.int 0)))) nilA)))
def lb_n_law_1 : SEnv → Out :=
  (seqO (appVO (tupF (consA (bin D.add (fun ρ => vr ρ 13) (tupF (consA (fun ρ => vr ρ 9) nilA))) (consA (bin D.mul (bin D.mul (fun ρ => vr ρ 14) (bin D.sub (bin D.ix (fun ρ => vr ρ 5) (fun _ => .ok (.int 1))) (bin D.ix (fun ρ => vr ρ 5) (fun _ => .ok (.int 0))))) (fun ρ => vr ρ 8)) nilA))) 12)
  (fun ρ => bindO ((bin addL (fun ρ => vr ρ 12) (lcD (itL rng1L (consA (fun ρ => vr ρ 8) nilA)) (.nm 22) yesB ce_n_law_1 [22])) ρ.all) fun d => if purC d = true then setO ρ 12 (.own d) else .no))
def lb_n_law_2 : SEnv → Out :=
  (seqO (fun ρ => bindO ((lstF nilA) ρ.vis) fun d => setO ρ 12 (.own d))
  (seqO (forO (itemsF (fun ρ => vr ρ 10)) (.tp [(.nm 13), (.nm 14)]) lb_n_law_1)
  (fun ρ => (fun ρ => bindO ((fun ρ => vr ρ 12) ρ.vis) fun d => setO ρ 10 (.val d)) (frzS ρ 12))))
def ce_n_law_2 : Fw.Env → Res D :=
  (fun ρ => vr ρ 14)
def ce_n_law_3 : Fw.Env → Res D :=
  (bin D.ix (bin D.ix (bin D.ix (fun ρ => vr ρ 2) (fun _ => .ok (.int 1))) (app (callF 3 F_n__law_after) (consA (fun ρ => vr ρ 2) (consA (fun ρ => vr ρ 22) (consA (slF (fun ρ => vr ρ 7) noPart (part (fun ρ => vr ρ 18))) nilA))))) (bin D.ix (fun ρ => vr ρ 7) (fun ρ => vr ρ 18)))
def lb_n_law_3 : SEnv → Out :=
  (seqO (fun ρ => bindO ((lcD (itemsF (fun ρ => vr ρ 13)) (.nm 22) yesB ce_n_law_3 [22]) ρ.vis) fun d => setO ρ 21 (.val d))
  (fun ρ => bindO ((bin D.add (fun ρ => vr ρ 19) (ifD (asTest (bin D.gt (bin D.mul (fun _ => .ok (.int 2)) (bmF .lst (fun ρ => vr ρ 21) (consA (fun ρ => vr ρ 20) nilA) cntG)) (fun ρ => vr ρ 3))) (fun ρ => vr ρ 14) (fun _ => .ok (.int 0)))) ρ.vis) fun d => setO ρ 19 (.val d)))
def lb_n_law_4 : SEnv → Out :=
  (seqO (parO [19, 20] (kCons (hV (fun _ => .ok (.int 0))) (kCons (hV (bin D.ix (bin D.ix (bin D.ix (fun ρ => vr ρ 2) (fun _ => .ok (.int 1))) (app (callF 3 F_n__law_after) (consA (fun ρ => vr ρ 2) (consA (fun ρ => vr ρ 9) (consA (slF (fun ρ => vr ρ 7) noPart (part (fun ρ => vr ρ 18))) nilA))))) (bin D.ix (fun ρ => vr ρ 7) (fun ρ => vr ρ 18)))) kNil)))
  (seqO (forO (itemsF (fun ρ => vr ρ 10)) (.tp [(.nm 13), (.nm 14)]) lb_n_law_3)
  (seqO (appVO (app (callF 2 F_n__law_low) (consA (fun ρ => vr ρ 19) (consA (fun ρ => vr ρ 15) nilA))) 16)
  (fun ρ => bindO ((tupF (consA (bin D.add (bin D.mul (bin D.ix (fun ρ => vr ρ 17) (fun _ => .ok (.int 0))) (fun ρ => vr ρ 15)) (bin D.mul (bin D.ix (fun ρ => vr ρ 17) (fun _ => .ok (.int 1))) (bin D.sub (fun ρ => vr ρ 15) (fun ρ => vr ρ 19)))) (consA (bin D.mul (bin D.ix (fun ρ => vr ρ 17) (fun _ => .ok (.int 1))) (fun ρ => vr ρ 15)) nilA))) ρ.vis) fun d => setO ρ 17 (.val d)))))
def g_n_law : SEnv → Out :=
  (seqO (parO [2, 3] (kCons (hV (app (callF 3 F_n__law_machine) (consA (fun ρ => vr ρ 1) (consA (fun _ => .ok (.int 3)) (consA (fun _ => .ok (.int 2)) nilA))))) (kCons (hV (bin D.add (fun _ => .ok (.int 1)) (app (callF 2 F_n__law_taken) (consA (fun ρ => vr ρ 1) (consA (fun _ => .ok (.int 4)) nilA))))) kNil)))
  (seqO (fun ρ => bindO ((bin D.add (fun _ => .ok (.int 1)) (app (callF 2 F_n__law_taken) (consA (fun ρ => vr ρ 1) (consA (fun _ => .ok (.int 5)) nilA)))) ρ.vis) fun d => setO ρ 4 (.val d))
  (seqO (parO [5, 6, 7] (kCons (hV (tupF (consA (app (callF 2 F_n__law_taken) (consA (fun ρ => vr ρ 1) (consA (bin D.add (fun ρ => vr ρ 4) (fun _ => .ok (.int 1))) nilA))) (consA (fun ρ => vr ρ 4) nilA)))) (kCons (hV (app (callF 3 F_n__law_word) (consA (fun ρ => vr ρ 1) (consA (fun ρ => vr ρ 2) (consA (fun _ => .ok (.int 3)) nilA))))) (kCons (hV (app (callF 3 F_n__law_word) (consA (fun ρ => vr ρ 1) (consA (fun ρ => vr ρ 2) (consA (fun _ => .ok (.int 4)) nilA))))) kNil))))
  (seqO (parO [8, 9] (kCons (hV (app (on1 fun d => match d with | .dct _ => .no | d => d.len) (consA (bin D.ix (fun ρ => vr ρ 2) (fun _ => .ok (.int 0))) nilA))) (kCons (hV (app (callF 3 F_n__law_after) (consA (fun ρ => vr ρ 2) (consA (fun _ => .ok (.int 0)) (consA (fun ρ => vr ρ 6) nilA))))) kNil)))
  (seqO (fun ρ => bindO ((lstF (consA (tupF (consA (tupF nilA) (consA (fun _ => .ok (.int 1)) nilA))) nilA)) ρ.vis) fun d => setO ρ 10 (.val d))
  (seqO (forO (itL rng1L (consA (fun ρ => vr ρ 3) nilA)) (.nm 11) lb_n_law_2)
  (seqO (fun ρ => bindO ((app (on1 D.sum) (consA (lcD (itemsF (fun ρ => vr ρ 10)) (.tp [(.nm 13), (.nm 14)]) yesB ce_n_law_2 [13, 14]) nilA)) ρ.vis) fun d => setO ρ 15 (.val d))
  (seqO (parO [16, 17] (kCons (hNV (lstF nilA)) (kCons (hV (tupF (consA (fun _ => .ok (.int 0)) (consA (fun _ => .ok (.int 1)) nilA)))) kNil)))
  (seqO (forO (itL rng1L (consA (app (on1 fun d => match d with | .dct _ => .no | d => d.len) (consA (fun ρ => vr ρ 7) nilA)) nilA)) (.nm 18) lb_n_law_4)
  (seqO (ifO (notB (truthOf (app (callF 2 (F_n__law_alike 8)) (consA (app (callF 5 F_n_right_chances) (consA (fun ρ => vr ρ 2) (consA (fun ρ => vr ρ 3) (consA (fun ρ => vr ρ 5) (consA (fun ρ => vr ρ 6) (consA (fun ρ => vr ρ 7) nilA)))))) (consA (app (on1 D.toTup) (consA (fun ρ => vr ρ 16) nilA)) nilA)))))
  (fun ρ => bindO ((fun _ => .ok (.bl false)) ρ.noRow) fun d => .rt d ρ)
  .nx)
  (seqO (ifO (notB (truthOf (app (callF 2 (F_n__law_alike 8)) (consA (app (callF 5 F_n_mean_misses) (consA (fun ρ => vr ρ 2) (consA (fun ρ => vr ρ 3) (consA (fun ρ => vr ρ 5) (consA (fun ρ => vr ρ 6) (consA (fun ρ => vr ρ 7) nilA)))))) (consA (app (callF 2 F_n__law_low) (consA (bin D.ix (fun ρ => vr ρ 17) (fun _ => .ok (.int 0))) (consA (bin D.ix (fun ρ => vr ρ 17) (fun _ => .ok (.int 1))) nilA))) nilA)))))
  (fun ρ => bindO ((fun _ => .ok (.bl false)) ρ.noRow) fun d => .rt d ρ)
  .nx)
  (seqO (ifO (orB (asTest (bin D.ne (app (callF 5 F_n_right_chances) (consA (fun ρ => vr ρ 2) (consA (fun _ => .ok (.int 25)) (consA (tupF (consA (fun _ => .ok (.int 0)) (consA (fun _ => .ok (.int 7)) nilA))) (consA (fun ρ => vr ρ 6) (consA (fun ρ => vr ρ 7) nilA)))))) (bin mulTT (tupF (consA (tupF (consA (fun _ => .ok (.int 1)) (consA (fun _ => .ok (.int 1)) nilA))) nilA)) (app (on1 fun d => match d with | .dct _ => .no | d => d.len) (consA (fun ρ => vr ρ 7) nilA))))) (asTest (bin D.ne (app (callF 5 F_n_mean_misses) (consA (fun ρ => vr ρ 2) (consA (fun _ => .ok (.int 25)) (consA (tupF (consA (fun _ => .ok (.int 0)) (consA (fun _ => .ok (.int 7)) nilA))) (consA (fun ρ => vr ρ 6) (consA (tupF nilA) nilA)))))) (tupF (consA (fun _ => .ok (.int 0)) (consA (fun _ => .ok (.int 1)) nilA))))))
  (fun ρ => bindO ((fun _ => .ok (.bl false)) ρ.noRow) fun d => .rt d ρ)
  .nx)
  (fun ρ => bindO ((bin D.eq (app (callF 5 F_n_mean_misses) (consA (fun ρ => vr ρ 2) (consA (fun ρ => vr ρ 3) (consA (tupF (consA (fun _ => .ok (.int 0)) (consA (fun _ => .ok (.int 1)) nilA))) (consA (fun ρ => vr ρ 6) (consA (fun ρ => vr ρ 7) nilA)))))) (tupF (consA (fun _ => .ok (.int 0)) (consA (fun _ => .ok (.int 1)) nilA)))) ρ.noRow) fun d => .rt d ρ)))))))))))))
theorem taken_g (a : PySem.Addr) (ns : List Int) (i j k n : Int) (hi : 0 ≤ i) (hj : 0 ≤ j) (hj2 : j < 2147483647) (hn : 0 < n) (hn2 : n.natAbs.log2 < 9000) :
    ∃ v i' j' k' ρ', g_n__law_taken [.row (rowD a ns i j k), .val (.int n), .dead, .dead] = .rt (.int v) ρ' ∧ ρ'[0]? = some (.row (rowD a ns i' j' k')) ∧ 0 ≤ v ∧ v < n ∧ 0 ≤ i' ∧ 0 ≤ j' ∧ j' < 2147483647 := by
  have hm := fun x => Int.emod_nonneg x (Int.ne_of_gt hn)
  have hl := fun x => Int.emod_lt_of_pos x hn
  have hm2 := fun x => Int.emod_nonneg x (show (2147483647 : Int) ≠ 0 by decide)
  have hl2 := fun x => Int.emod_lt_of_pos x (show (0 : Int) < 2147483647 by decide)
  have sl := small_log hj hj2
  have lg7 : Nat.log2 7 < 9000 := by decide +kernel
  have n1 : L2.ixN 4 1 = some 1 := rfl
  have n2 : L2.ixN 4 2 = some 2 := rfl
  have n3 : L2.ixN 4 3 = some 3 := rfl
  by_cases h0 : 0 < k
  · simp [g_n__law_taken, rowD, ix0, ix1, ix2, ix3, hn, hn2, h0, setiO, n1, n2, n3, hm, hl, hi, hj, hj2]
    exact ⟨_, i, j, _, _, ⟨rfl, rfl⟩, rfl, hm _, hl _, hi, hj, hj2⟩
  obtain ⟨m, rfl⟩ : ∃ m : Nat, i = m := ⟨i.toNat, by omega⟩
  by_cases h1 : (m : Int) + 1 > (ns.length : Int)
  · simp [g_n__law_taken, rowD, ix0, ix1, ix2, ix3, hn, hn2, h0, h1, setiO, n1, n2, n3, hm, hl, hm2, hl2, sl, lg7]
    exact ⟨_, _, _, _, _, ⟨rfl, rfl⟩, rfl, hm _, hl _, by omega, hm2 _, hl2 _⟩
  have hm' : m < ns.length := by omega
  have e : ixG ns (m : Int) = .ok ns[m] := by rw [ixG_at, List.getElem?_eq_getElem hm']
  have em : (m : Int) + 1 - 1 = m := by omega
  have h18 : (1000000000000000000 : Int) ≤ ns[m] ∨ ¬ (1000000000000000000 : Int) ≤ ns[m] := Classical.em _
  rcases h18 with h18 | h18
  · simp [g_n__law_taken, rowD, ix0, ix1, ix2, ix3, hn, hn2, h0, h1, setiO, n1, n2, n3, hm, hl, hm2, hl2, sl, lg7, e, em, h18]
    exact ⟨_, _, _, _, _, ⟨rfl, rfl⟩, rfl, hm _, hl _, by omega, hm2 _, hl2 _⟩
  · simp [g_n__law_taken, rowD, ix0, ix1, ix2, ix3, hn, hn2, h0, h1, setiO, n1, n2, n3, hm, hl, hm2, hl2, sl, lg7, e, em, h18]
    exact ⟨_, _, _, _, _, ⟨rfl, rfl⟩, rfl, hm _, hl _, by omega, hm2 _, hl2 _⟩
end Lw
end
set_option Elab.async false
set_option linter.all false
set_option autoImplicit false
set_option maxRecDepth 100000
set_option maxHeartbeats 4000000
/-! printed by wip/gen.py -/
namespace Lw
open PySem PySem.Spec PyProof.Rows L2 Fw
def top (i : Nat) : Stmt := PySem.Challenge.pw_pushedclerks_k63_whole_chances.main.body.getD i (.Pass ⟨0, 0, 0, 0⟩)
abbrev s_n_is_number : Stmt := top 11
theorem sc_n_is_number : FnScope N_n_is_number ["value", "low", "high"] (defScope s_n_is_number) := ⟨rfl, rfl, rfl, nd_n_is_number, rfl, by decide +kernel, by decide +kernel⟩
abbrev s_n_need_number : Stmt := top 12
theorem sc_n_need_number : FnScope N_n_need_number ["value", "low", "high"] (defScope s_n_need_number) := ⟨rfl, rfl, rfl, nd_n_need_number, rfl, by decide +kernel, by decide +kernel⟩
abbrev s_n_are_rows : Stmt := top 13
theorem sc_n_are_rows : FnScope N_n_are_rows ["value", "states", "letters", "most"] (defScope s_n_are_rows) := ⟨rfl, rfl, rfl, nd_n_are_rows, rfl, by decide +kernel, by decide +kernel⟩
abbrev s_n_need_machine : Stmt := top 14
theorem sc_n_need_machine : FnScope N_n_need_machine ["value"] (defScope s_n_need_machine) := ⟨rfl, rfl, rfl, nd_n_need_machine, rfl, by decide +kernel, by decide +kernel⟩
abbrev s_n_letters_of : Stmt := top 15
theorem sc_n_letters_of : FnScope N_n_letters_of ["machine"] (defScope s_n_letters_of) := ⟨rfl, rfl, rfl, nd_n_letters_of, rfl, by decide +kernel, by decide +kernel⟩
abbrev s_n_is_word : Stmt := top 16
theorem sc_n_is_word : FnScope N_n_is_word ["machine", "value"] (defScope s_n_is_word) := ⟨rfl, rfl, rfl, nd_n_is_word, rfl, by decide +kernel, by decide +kernel⟩
abbrev s_n_need_word : Stmt := top 17
theorem sc_n_need_word : FnScope N_n_need_word ["machine", "value"] (defScope s_n_need_word) := ⟨rfl, rfl, rfl, nd_n_need_word, rfl, by decide +kernel, by decide +kernel⟩
abbrev s_n_led : Stmt := top 18
theorem sc_n_led : FnScope N_n_led ["machine", "state", "word"] (defScope s_n_led) := ⟨rfl, rfl, rfl, nd_n_led, rfl, by decide +kernel, by decide +kernel⟩
abbrev s_n_told : Stmt := top 19
theorem sc_n_told : FnScope N_n_told ["machine", "state", "word"] (defScope s_n_told) := ⟨rfl, rfl, rfl, nd_n_told, rfl, by decide +kernel, by decide +kernel⟩
abbrev s_n_need_chance : Stmt := top 22
theorem sc_n_need_chance : FnScope N_n_need_chance ["value"] (defScope s_n_need_chance) := ⟨rfl, rfl, rfl, nd_n_need_chance, rfl, by decide +kernel, by decide +kernel⟩
abbrev s_n_lowest : Stmt := top 23
theorem sc_n_lowest : FnScope N_n_lowest ["top", "bottom"] (defScope s_n_lowest) := ⟨rfl, rfl, rfl, nd_n_lowest, rfl, by decide +kernel, by decide +kernel⟩
abbrev s_n_choose : Stmt := top 24
theorem sc_n_choose : FnScope N_n_choose ["many", "some"] (defScope s_n_choose) := ⟨rfl, rfl, rfl, nd_n_choose, rfl, by decide +kernel, by decide +kernel⟩
abbrev s_n_power : Stmt := top 25
theorem sc_n_power : FnScope N_n_power ["number", "many"] (defScope s_n_power) := ⟨rfl, rfl, rfl, nd_n_power, rfl, by decide +kernel, by decide +kernel⟩
abbrev s_n_right_by : Stmt := top 26
theorem sc_n_right_by : FnScope N_n_right_by ["copies", "top", "bottom"] (defScope s_n_right_by) := ⟨rfl, rfl, rfl, nd_n_right_by, rfl, by decide +kernel, by decide +kernel⟩
abbrev s_n_chances_of : Stmt := top 27
theorem sc_n_chances_of : FnScope N_n_chances_of ["machine", "copies", "chance", "way", "word"] (defScope s_n_chances_of) := ⟨rfl, rfl, rfl, nd_n_chances_of, rfl, by decide +kernel, by decide +kernel⟩
abbrev s_n_need_all : Stmt := top 28
theorem sc_n_need_all : FnScope N_n_need_all ["machine", "copies", "chance", "way", "word"] (defScope s_n_need_all) := ⟨rfl, rfl, rfl, nd_n_need_all, rfl, by decide +kernel, by decide +kernel⟩
abbrev s_n_right_chances : Stmt := top 29
theorem sc_n_right_chances : FnScope N_n_right_chances ["machine", "copies", "chance", "way", "word"] (defScope s_n_right_chances) := ⟨rfl, rfl, rfl, nd_n_right_chances, rfl, by decide +kernel, by decide +kernel⟩
abbrev s_n_mean_misses : Stmt := top 30
theorem sc_n_mean_misses : FnScope N_n_mean_misses ["machine", "copies", "chance", "way", "word"] (defScope s_n_mean_misses) := ⟨rfl, rfl, rfl, nd_n_mean_misses, rfl, by decide +kernel, by decide +kernel⟩
abbrev s_n__law_taken : Stmt := top 32
theorem sc_n__law_taken : FnScope N_n__law_taken ["_law_row", "_law_many"] (defScope s_n__law_taken) := ⟨rfl, rfl, rfl, nd_n__law_taken, rfl, by decide +kernel, by decide +kernel⟩
abbrev s_n__law_alike : Stmt := top 33
theorem sc_n__law_alike : FnScope N_n__law_alike ["_law_found", "_law_due"] (defScope s_n__law_alike) := ⟨rfl, rfl, rfl, nd_n__law_alike, rfl, by decide +kernel, by decide +kernel⟩
abbrev s_n__law_machine : Stmt := top 34
theorem sc_n__law_machine : FnScope N_n__law_machine ["_law_row", "_law_states", "_law_letters"] (defScope s_n__law_machine) := ⟨rfl, rfl, rfl, nd_n__law_machine, rfl, by decide +kernel, by decide +kernel⟩
abbrev s_n__law_word : Stmt := top 35
theorem sc_n__law_word : FnScope N_n__law_word ["_law_row", "_law_machine_here", "_law_most"] (defScope s_n__law_word) := ⟨rfl, rfl, rfl, nd_n__law_word, rfl, by decide +kernel, by decide +kernel⟩
abbrev s_n__law_low : Stmt := top 36
theorem sc_n__law_low : FnScope N_n__law_low ["_law_top", "_law_bottom"] (defScope s_n__law_low) := ⟨rfl, rfl, rfl, nd_n__law_low, rfl, by decide +kernel, by decide +kernel⟩
abbrev s_n__law_after : Stmt := top 37
theorem sc_n__law_after : FnScope N_n__law_after ["_law_machine_here", "_law_state", "_law_word_here"] (defScope s_n__law_after) := ⟨rfl, rfl, rfl, nd_n__law_after, rfl, by decide +kernel, by decide +kernel⟩
abbrev s_n_law : Stmt := top 38
theorem sc_n_law : FnScope N_n_law ["_law_script"] (defScope s_n_law) := ⟨rfl, rfl, rfl, nd_n_law, rfl, by decide +kernel, by decide +kernel⟩
structure Ad where
  n_is_number : Addr
  n_need_number : Addr
  n_are_rows : Addr
  n_need_machine : Addr
  n_letters_of : Addr
  n_is_word : Addr
  n_need_word : Addr
  n_led : Addr
  n_told : Addr
  n_need_chance : Addr
  n_lowest : Addr
  n_choose : Addr
  n_power : Addr
  n_right_by : Addr
  n_chances_of : Addr
  n_need_all : Addr
  n_right_chances : Addr
  n_mean_misses : Addr
  n__law_taken : Addr
  n__law_alike : Addr
  n__law_machine : Addr
  n__law_word : Addr
  n__law_low : Addr
  n__law_after : Addr
  n_law : Addr
  c_n_are_rows : Addr
  P_n_are_rows : Addr
  c_n_is_word : Addr
  P_n_is_word : Addr
structure Fd where
  n_is_number : FuncData
  n_need_number : FuncData
  n_are_rows : FuncData
  n_need_machine : FuncData
  n_letters_of : FuncData
  n_is_word : FuncData
  n_need_word : FuncData
  n_led : FuncData
  n_told : FuncData
  n_need_chance : FuncData
  n_lowest : FuncData
  n_choose : FuncData
  n_power : FuncData
  n_right_by : FuncData
  n_chances_of : FuncData
  n_need_all : FuncData
  n_right_chances : FuncData
  n_mean_misses : FuncData
  n__law_taken : FuncData
  n__law_alike : FuncData
  n__law_machine : FuncData
  n__law_word : FuncData
  n__law_low : FuncData
  n__law_after : FuncData
  n_law : FuncData
def TGof (a : Ad) : List Addr := [a.P_n_are_rows, a.P_n_is_word]
def G0 (K : PySem.W.Frag) (a : Ad) : Gm := ⟨K, TGof a, [], fun _ => 0, none, 0⟩
structure Tx (K : PySem.W.Frag) (mg : Str → Option Value) (base : Heap) (a : Ad) (e : Fd) : Prop where
  f_n_is_number : FnP K "is_number" "is_number" s_n_is_number a.n_is_number e.n_is_number
  g_n_is_number : mg "is_number" = some (.ref a.n_is_number)
  bi_n_is_number : Binds K e.n_is_number ["value", "low", "high"] []
  f_n_need_number : FnP K "need_number" "need_number" s_n_need_number a.n_need_number e.n_need_number
  g_n_need_number : mg "need_number" = some (.ref a.n_need_number)
  bi_n_need_number : Binds K e.n_need_number ["value", "low", "high"] []
  f_n_are_rows : FnP K "are_rows" "are_rows" s_n_are_rows a.n_are_rows e.n_are_rows
  g_n_are_rows : mg "are_rows" = some (.ref a.n_are_rows)
  bi_n_are_rows : Binds K e.n_are_rows ["value", "states", "letters", "most"] []
  f_n_need_machine : FnP K "need_machine" "need_machine" s_n_need_machine a.n_need_machine e.n_need_machine
  g_n_need_machine : mg "need_machine" = some (.ref a.n_need_machine)
  bi_n_need_machine : Binds K e.n_need_machine ["value"] []
  f_n_letters_of : FnP K "letters_of" "letters_of" s_n_letters_of a.n_letters_of e.n_letters_of
  g_n_letters_of : mg "letters_of" = some (.ref a.n_letters_of)
  bi_n_letters_of : Binds K e.n_letters_of ["machine"] []
  f_n_is_word : FnP K "is_word" "is_word" s_n_is_word a.n_is_word e.n_is_word
  g_n_is_word : mg "is_word" = some (.ref a.n_is_word)
  bi_n_is_word : Binds K e.n_is_word ["machine", "value"] []
  f_n_need_word : FnP K "need_word" "need_word" s_n_need_word a.n_need_word e.n_need_word
  g_n_need_word : mg "need_word" = some (.ref a.n_need_word)
  bi_n_need_word : Binds K e.n_need_word ["machine", "value"] []
  f_n_led : FnP K "led" "led" s_n_led a.n_led e.n_led
  g_n_led : mg "led" = some (.ref a.n_led)
  bi_n_led : Binds K e.n_led ["machine", "state", "word"] []
  f_n_told : FnP K "told" "told" s_n_told a.n_told e.n_told
  g_n_told : mg "told" = some (.ref a.n_told)
  bi_n_told : Binds K e.n_told ["machine", "state", "word"] []
  f_n_need_chance : FnP K "need_chance" "need_chance" s_n_need_chance a.n_need_chance e.n_need_chance
  g_n_need_chance : mg "need_chance" = some (.ref a.n_need_chance)
  bi_n_need_chance : Binds K e.n_need_chance ["value"] []
  f_n_lowest : FnP K "lowest" "lowest" s_n_lowest a.n_lowest e.n_lowest
  g_n_lowest : mg "lowest" = some (.ref a.n_lowest)
  bi_n_lowest : Binds K e.n_lowest ["top", "bottom"] []
  f_n_choose : FnP K "choose" "choose" s_n_choose a.n_choose e.n_choose
  g_n_choose : mg "choose" = some (.ref a.n_choose)
  bi_n_choose : Binds K e.n_choose ["many", "some"] []
  f_n_power : FnP K "power" "power" s_n_power a.n_power e.n_power
  g_n_power : mg "power" = some (.ref a.n_power)
  bi_n_power : Binds K e.n_power ["number", "many"] []
  f_n_right_by : FnP K "right_by" "right_by" s_n_right_by a.n_right_by e.n_right_by
  g_n_right_by : mg "right_by" = some (.ref a.n_right_by)
  bi_n_right_by : Binds K e.n_right_by ["copies", "top", "bottom"] []
  f_n_chances_of : FnP K "chances_of" "chances_of" s_n_chances_of a.n_chances_of e.n_chances_of
  g_n_chances_of : mg "chances_of" = some (.ref a.n_chances_of)
  bi_n_chances_of : Binds K e.n_chances_of ["machine", "copies", "chance", "way", "word"] []
  f_n_need_all : FnP K "need_all" "need_all" s_n_need_all a.n_need_all e.n_need_all
  g_n_need_all : mg "need_all" = some (.ref a.n_need_all)
  bi_n_need_all : Binds K e.n_need_all ["machine", "copies", "chance", "way", "word"] []
  f_n_right_chances : FnP K "right_chances" "right_chances" s_n_right_chances a.n_right_chances e.n_right_chances
  g_n_right_chances : mg "right_chances" = some (.ref a.n_right_chances)
  bi_n_right_chances : Binds K e.n_right_chances ["machine", "copies", "chance", "way", "word"] []
  f_n_mean_misses : FnP K "mean_misses" "mean_misses" s_n_mean_misses a.n_mean_misses e.n_mean_misses
  g_n_mean_misses : mg "mean_misses" = some (.ref a.n_mean_misses)
  bi_n_mean_misses : Binds K e.n_mean_misses ["machine", "copies", "chance", "way", "word"] []
  f_n__law_taken : FnP K "_law_taken" "_law_taken" s_n__law_taken a.n__law_taken e.n__law_taken
  g_n__law_taken : mg "_law_taken" = some (.ref a.n__law_taken)
  bi_n__law_taken : Binds K e.n__law_taken ["_law_row", "_law_many"] []
  f_n__law_alike : FnP K "_law_alike" "_law_alike" s_n__law_alike a.n__law_alike e.n__law_alike
  g_n__law_alike : mg "_law_alike" = some (.ref a.n__law_alike)
  bi_n__law_alike : Binds K e.n__law_alike ["_law_found", "_law_due"] []
  f_n__law_machine : FnP K "_law_machine" "_law_machine" s_n__law_machine a.n__law_machine e.n__law_machine
  g_n__law_machine : mg "_law_machine" = some (.ref a.n__law_machine)
  bi_n__law_machine : Binds K e.n__law_machine ["_law_row", "_law_states", "_law_letters"] []
  f_n__law_word : FnP K "_law_word" "_law_word" s_n__law_word a.n__law_word e.n__law_word
  g_n__law_word : mg "_law_word" = some (.ref a.n__law_word)
  bi_n__law_word : Binds K e.n__law_word ["_law_row", "_law_machine_here", "_law_most"] []
  f_n__law_low : FnP K "_law_low" "_law_low" s_n__law_low a.n__law_low e.n__law_low
  g_n__law_low : mg "_law_low" = some (.ref a.n__law_low)
  bi_n__law_low : Binds K e.n__law_low ["_law_top", "_law_bottom"] []
  f_n__law_after : FnP K "_law_after" "_law_after" s_n__law_after a.n__law_after e.n__law_after
  g_n__law_after : mg "_law_after" = some (.ref a.n__law_after)
  bi_n__law_after : Binds K e.n__law_after ["_law_machine_here", "_law_state", "_law_word_here"] []
  f_n_law : FnP K "law" "law" s_n_law a.n_law e.n_law
  g_n_law : mg "law" = some (.ref a.n_law)
  bi_n_law : Binds K e.n_law ["_law_script"] []
  cd_n_are_rows : e.n_are_rows.code = .ref a.c_n_are_rows
  tb_n_are_rows : GxR.TabB base mg a.c_n_are_rows a.P_n_are_rows
  cd_n_is_word : e.n_is_word.code = .ref a.c_n_is_word
  tb_n_is_word : GxR.TabB base mg a.c_n_is_word a.P_n_is_word
  b_all : mg "all" = none
  b_bool : mg "bool" = none
  b_int : mg "int" = none
  b_isinstance : mg "isinstance" = none
  b_len : mg "len" = none
  b_list : mg "list" = none
  b_min : mg "min" = none
  b_range : mg "range" = none
  b_str : mg "str" = none
  b_sum : mg "sum" = none
  b_tuple : mg "tuple" = none
  c_MOST_ANSWER : ∃ t, mg "MOST_ANSWER" = some (.int 9 t)
  c_MOST_BY_CHANCE : ∃ t, mg "MOST_BY_CHANCE" = some (.int 25 t)
  c_MOST_LETTERS : ∃ t, mg "MOST_LETTERS" = some (.int 3 t)
  c_MOST_ROW : ∃ t, mg "MOST_ROW" = some (.int 4000 t)
  c_MOST_STATES : ∃ t, mg "MOST_STATES" = some (.int 6 t)
section
variable {P : Program} {w : World} {K : PySem.W.Frag} {mg : Str → Option Value} {base : Heap} {a : Ad} {e : Fd}
theorem ok_n_is_number (T : Tx K mg base a e) : FnOk P w K mg base (L2.CX P w) 1 a.n_is_number e.n_is_number ["value", "low", "high"] (spF (G0 K a) 3 F_n_is_number) :=
  fn_F (k := 0) T.f_n_is_number sc_n_is_number fun r sc cdv A outer s H E hcd hr =>
  (ts_one (ts_ret (te_and (te_isi (T := .int) T.b_isinstance T.b_int (by decide +kernel) (by decide) (te_var 0)) (te_and (te_not (te_isi (T := .bl) T.b_isinstance T.b_bool (by decide +kernel) (by decide) (te_var 0))) (te_one (te_chain op_le op_le fit_le fit_le (te_var 1) (te_var 0) (te_var 2)))))))
theorem ok_n_need_number (T : Tx K mg base a e) : FnOk P w K mg base (L2.CX P w) 2 a.n_need_number e.n_need_number ["value", "low", "high"] (spF (G0 K a) 3 F_n_need_number) :=
  fn_F (k := 1) T.f_n_need_number sc_n_need_number fun r sc cdv A outer s H E hcd hr =>
  (ts_one (ts_if (tb_not (tb_truth (te_call (ok_n_is_number T) (hr.mono (by omega)) T.g_n_is_number T.f_n_is_number.kp T.bi_n_is_number passD (ta_cons (te_var 0) (ta_cons (te_var 1) (ta_cons (te_var 2) ta_nil))))))
  (ts_one ts_never)
  ts_nil))
theorem ok_n_are_rows (T : Tx K mg base a e) : FnOk P w K mg base (L2.CX P w) 3 a.n_are_rows e.n_are_rows ["value", "states", "letters", "most"] (spF (G0 K a) 4 F_n_are_rows) :=
  fn_F (k := 2) T.f_n_are_rows sc_n_are_rows fun r sc cdv A outer s H E hcd hr =>
  (ts_cons (ts_if (tb_w (wb_or (tb_not (tb_truth (te_isi (T := .tup) T.b_isinstance T.b_tuple (by decide +kernel) (by decide) (te_var 0)))) (wb_or1 (tb_ne hr (te_len T.b_len (te_var 0)) (te_var 1)))))
  (ts_one (ts_ret te_bl))
  ts_nil)
  (ts_cons (ts_for ownD rfl (wi_seq (te_var 0)) (tg_nm 4 nd_n_are_rows) (ts_one (ts_if (tb_w (wb_or (tb_not (tb_truth (te_isi (T := .tup) T.b_isinstance T.b_tuple (by decide +kernel) (by decide) (te_var 4)))) (wb_or (tb_ne hr (te_len T.b_len (te_var 4)) (te_var 2)) (wb_or1 (tb_not (tb_truth (te_all [("one", 5)] hr rfl nd_n_are_rows T.b_all T.tb_n_are_rows (List.mem_of_getElem? (i := 0) rfl) (fun _ h => by cases h) (wi_seq (te_var 4)) (genOk_by (by rfl)) (fun s0 H0 C code it fp a og => (tg_nm 5 nd_n_are_rows)) (fun s0 H0 C code it fp a og => (te_call (ok_n_is_number T) ((Room.gen (k := 1) (hr.mono (by omega))).mono (by omega)) T.g_n_is_number T.f_n_is_number.kp T.bi_n_is_number passL (ta_cons (te_var 5) (ta_cons te_int (ta_cons (te_var 3) ta_nil))))) (hcd.symm.trans T.cd_n_are_rows))))))))
  (ts_one (ts_ret te_bl))
  ts_nil)))
  (ts_one (ts_ret te_bl))))
theorem ok_n_need_machine (T : Tx K mg base a e) : FnOk P w K mg base (L2.CX P w) 4 a.n_need_machine e.n_need_machine ["value"] (spF (G0 K a) 1 F_n_need_machine) :=
  fn_F (k := 3) T.f_n_need_machine sc_n_need_machine fun r sc cdv A outer s H E hcd hr =>
  (ts_cons (ts_if (tb_w (wb_or (tb_not (tb_truth (te_isi (T := .tup) T.b_isinstance T.b_tuple (by decide +kernel) (by decide) (te_var 0)))) (wb_or1 (tb_ne hr (te_len T.b_len (te_var 0)) te_int))))
  (ts_one ts_never)
  ts_nil)
  (ts_cons (ts_unp (te_var 0) (tg_tp rfl (tgs_cons (tg_nm 1 nd_n_need_machine) (tgs_cons (tg_nm 2 nd_n_need_machine) tgs_nil))))
  (ts_cons (ts_if (tb_w (wb_or (tb_not (tb_truth (te_isi (T := .tup) T.b_isinstance T.b_tuple (by decide +kernel) (by decide) (te_var 1)))) (wb_or (tb_not (tb_chain op_le op_le fit_le fit_le te_int (te_len T.b_len (te_var 1)) (te_cint T.c_MOST_STATES))) (wb_or1 (tb_not (tb_truth (te_isi (T := .tup) T.b_isinstance T.b_tuple (by decide +kernel) (by decide) (te_ix (te_var 1) te_int))))))))
  (ts_one ts_never)
  ts_nil)
  (ts_cons (ts_setV 3 (te_len T.b_len (te_ix (te_var 1) te_int)) nd_n_need_machine)
  (ts_cons (ts_if (tb_w (wb_or (tb_not (tb_chain op_le op_le fit_le fit_le te_int (te_var 3) (te_cint T.c_MOST_LETTERS))) (wb_or1 (tb_not (tb_truth (te_call (ok_n_are_rows T) (hr.mono (by omega)) T.g_n_are_rows T.f_n_are_rows.kp T.bi_n_are_rows passD (ta_cons (te_var 1) (ta_cons (te_len T.b_len (te_var 1)) (ta_cons (te_var 3) (ta_cons (te_sub (te_len T.b_len (te_var 1)) te_int) ta_nil))))))))))
  (ts_one ts_never)
  ts_nil)
  (ts_one (ts_if (tb_not (tb_truth (te_call (ok_n_are_rows T) (hr.mono (by omega)) T.g_n_are_rows T.f_n_are_rows.kp T.bi_n_are_rows passD (ta_cons (te_var 2) (ta_cons (te_len T.b_len (te_var 1)) (ta_cons (te_var 3) (ta_cons (te_cint T.c_MOST_ANSWER) ta_nil)))))))
  (ts_one ts_never)
  ts_nil)))))))
theorem ok_n_letters_of (T : Tx K mg base a e) : FnOk P w K mg base (L2.CX P w) 1 a.n_letters_of e.n_letters_of ["machine"] (spF (G0 K a) 1 F_n_letters_of) :=
  fn_F (k := 0) T.f_n_letters_of sc_n_letters_of fun r sc cdv A outer s H E hcd hr =>
  (ts_one (ts_ret (te_len T.b_len (te_ix (te_ix (te_var 0) te_int) te_int))))
theorem ok_n_is_word (T : Tx K mg base a e) : FnOk P w K mg base (L2.CX P w) 3 a.n_is_word e.n_is_word ["machine", "value"] (spF (G0 K a) 2 F_n_is_word) :=
  fn_F (k := 2) T.f_n_is_word sc_n_is_word fun r sc cdv A outer s H E hcd hr =>
  (ts_cons (ts_if (tb_w (wb_or (tb_not (tb_truth (te_isi (T := .tup) T.b_isinstance T.b_tuple (by decide +kernel) (by decide) (te_var 1)))) (wb_or1 (tb_gt (te_len T.b_len (te_var 1)) (te_cint T.c_MOST_ROW)))))
  (ts_one (ts_ret te_bl))
  ts_nil)
  (ts_one (ts_ret (te_all [("letter", 2)] hr rfl nd_n_is_word T.b_all T.tb_n_is_word (List.mem_of_getElem? (i := 1) rfl) (fun _ h => by cases h) (wi_seq (te_var 1)) (genOk_by (by rfl)) (fun s0 H0 C code it fp a og => (tg_nm 2 nd_n_is_word)) (fun s0 H0 C code it fp a og => (te_call (ok_n_is_number T) ((Room.gen (k := 1) (hr.mono (by omega))).mono (by omega)) T.g_n_is_number T.f_n_is_number.kp T.bi_n_is_number passL (ta_cons (te_var 2) (ta_cons te_int (ta_cons (te_sub (te_call (ok_n_letters_of T) ((Room.gen (k := 1) (hr.mono (by omega))).mono (by omega)) T.g_n_letters_of T.f_n_letters_of.kp T.bi_n_letters_of passL (ta_cons (te_var 0) ta_nil)) te_int) ta_nil))))) (hcd.symm.trans T.cd_n_is_word)))))
theorem ok_n_need_word (T : Tx K mg base a e) : FnOk P w K mg base (L2.CX P w) 4 a.n_need_word e.n_need_word ["machine", "value"] (spF (G0 K a) 2 F_n_need_word) :=
  fn_F (k := 3) T.f_n_need_word sc_n_need_word fun r sc cdv A outer s H E hcd hr =>
  (ts_one (ts_if (tb_not (tb_truth (te_call (ok_n_is_word T) (hr.mono (by omega)) T.g_n_is_word T.f_n_is_word.kp T.bi_n_is_word passD (ta_cons (te_var 0) (ta_cons (te_var 1) ta_nil)))))
  (ts_one ts_never)
  ts_nil))
theorem ok_n_led (T : Tx K mg base a e) : FnOk P w K mg base (L2.CX P w) 1 a.n_led e.n_led ["machine", "state", "word"] (spF (G0 K a) 3 F_n_led) :=
  fn_F (k := 0) T.f_n_led sc_n_led fun r sc cdv A outer s H E hcd hr =>
  (ts_cons (ts_for ownD rfl (wi_seq (te_var 2)) (tg_nm 3 nd_n_led) (ts_one (ts_setV 1 (te_ix (te_ix (te_ix (te_var 0) te_int) (te_var 1)) (te_var 3)) nd_n_led)))
  (ts_one (ts_ret (te_var 1))))
theorem ok_n_told (T : Tx K mg base a e) : FnOk P w K mg base (L2.CX P w) 1 a.n_told e.n_told ["machine", "state", "word"] (spF (G0 K a) 3 F_n_told) :=
  fn_F (k := 0) T.f_n_told sc_n_told fun r sc cdv A outer s H E hcd hr =>
  (ts_cons (ts_newV 3 (tn_lst ta_nil) nd_n_told)
  (ts_cons (ts_for ownD rfl (wi_seq (te_var 2)) (tg_nm 4 nd_n_told) (ts_cons (ts_appV 3 (te_ix (te_ix (te_ix (te_var 0) te_int) (te_var 1)) (te_var 4)))
  (ts_one (ts_setV 1 (te_ix (te_ix (te_ix (te_var 0) te_int) (te_var 1)) (te_var 4)) nd_n_told))))
  (ts_one (ts_ret (te_var 3)))))
theorem ok_n_need_chance (T : Tx K mg base a e) : FnOk P w K mg base (L2.CX P w) 2 a.n_need_chance e.n_need_chance ["value"] (spF (G0 K a) 1 F_n_need_chance) :=
  fn_F (k := 1) T.f_n_need_chance sc_n_need_chance fun r sc cdv A outer s H E hcd hr =>
  (ts_cons (ts_if (tb_w (wb_or (tb_not (tb_truth (te_isi (T := .tup) T.b_isinstance T.b_tuple (by decide +kernel) (by decide) (te_var 0)))) (wb_or (tb_ne hr (te_len T.b_len (te_var 0)) te_int) (wb_or1 (tb_not (tb_truth (te_call (ok_n_is_number T) (hr.mono (by omega)) T.g_n_is_number T.f_n_is_number.kp T.bi_n_is_number passD (ta_cons (te_ix (te_var 0) te_int) (ta_cons te_int (ta_cons te_int ta_nil))))))))))
  (ts_one ts_never)
  ts_nil)
  (ts_one (ts_if (tb_not (tb_truth (te_call (ok_n_is_number T) (hr.mono (by omega)) T.g_n_is_number T.f_n_is_number.kp T.bi_n_is_number passD (ta_cons (te_ix (te_var 0) te_int) (ta_cons te_int (ta_cons (te_ix (te_var 0) te_int) ta_nil))))))
  (ts_one ts_never)
  ts_nil)))
theorem ok_n_lowest (T : Tx K mg base a e) : FnOk P w K mg base (L2.CX P w) 1 a.n_lowest e.n_lowest ["top", "bottom"] (spF (G0 K a) 2 F_n_lowest) :=
  fn_F (k := 0) T.f_n_lowest sc_n_lowest fun r sc cdv A outer s H E hcd hr =>
  (ts_cons (ts_par2 rfl nd_n_lowest (tk_cons (th_v (te_var 0)) (tk_cons (th_v (te_var 1)) tk_nil)))
  (ts_cons (ts_while lim ownD (tb_truth (te_var 3)) (ts_one (ts_par2 rfl nd_n_lowest (tk_cons (th_v (te_var 3)) (tk_cons (th_v (te_mod (te_var 2) (te_var 3))) tk_nil)))))
  (ts_one (ts_ret (te_tup (ta_cons (te_fdiv (te_var 0) (te_var 2)) (ta_cons (te_fdiv (te_var 1) (te_var 2)) ta_nil)))))))
theorem ok_n_choose (T : Tx K mg base a e) : FnOk P w K mg base (L2.CX P w) 1 a.n_choose e.n_choose ["many", "some"] (spF (G0 K a) 2 F_n_choose) :=
  fn_F (k := 0) T.f_n_choose sc_n_choose fun r sc cdv A outer s H E hcd hr =>
  (ts_cons (ts_setV 2 te_int nd_n_choose)
  (ts_cons (ts_for ownD rfl (wi_range1 (np := false) T.b_range (te_var 1)) (tg_nm 3 nd_n_choose) (ts_one (ts_setV 2 (te_fdiv (te_mul (te_var 2) (te_sub (te_var 0) (te_var 3))) (te_add (te_var 3) te_int)) nd_n_choose)))
  (ts_one (ts_ret (te_var 2)))))
theorem ok_n_power (T : Tx K mg base a e) : FnOk P w K mg base (L2.CX P w) 1 a.n_power e.n_power ["number", "many"] (spF (G0 K a) 2 F_n_power) :=
  fn_F (k := 0) T.f_n_power sc_n_power fun r sc cdv A outer s H E hcd hr =>
  (ts_cons (ts_setV 2 te_int nd_n_power)
  (ts_cons (ts_for ownD rfl (wi_range1 (np := false) T.b_range (te_var 1)) (tg_nm 3 nd_n_power) (ts_one (ts_augMul 2 (te_var 0) nd_n_power)))
  (ts_one (ts_ret (te_var 2)))))
theorem ok_n_right_by (T : Tx K mg base a e) : FnOk P w K mg base (L2.CX P w) 2 a.n_right_by e.n_right_by ["copies", "top", "bottom"] (spF (G0 K a) 3 F_n_right_by) :=
  fn_F (k := 1) T.f_n_right_by sc_n_right_by fun r sc cdv A outer s H E hcd hr =>
  (ts_cons (ts_setV 3 (te_range2 T.b_range (te_add (te_fdiv (te_var 0) te_int) te_int) (te_add (te_var 0) te_int)) nd_n_right_by)
  (ts_cons (ts_setV 4 (te_sum T.b_sum rfl (te_of_new (tn_lc [("many", 5)] rfl nd_n_right_by (wi_seq (te_var 3)) (blkOk_by (by rfl)) (fun s H C cl fp => (tg_nm 5 nd_n_right_by)) (fun s H C cl fp => tts_nil) (fun s H C cl fp => (te_mul (te_mul (te_call (ok_n_choose T) (hr.mono (by omega)) T.g_n_choose T.f_n_choose.kp T.bi_n_choose passL (ta_cons (te_var 0) (ta_cons (te_var 5) ta_nil))) (te_call (ok_n_power T) (hr.mono (by omega)) T.g_n_power T.f_n_power.kp T.bi_n_power passL (ta_cons (te_var 1) (ta_cons (te_var 5) ta_nil)))) (te_call (ok_n_power T) (hr.mono (by omega)) T.g_n_power T.f_n_power.kp T.bi_n_power passL (ta_cons (te_sub (te_var 2) (te_var 1)) (ta_cons (te_sub (te_var 0) (te_var 5)) ta_nil)))))))) nd_n_right_by)
  (ts_one (ts_ret (te_call (ok_n_lowest T) (hr.mono (by omega)) T.g_n_lowest T.f_n_lowest.kp T.bi_n_lowest passD (ta_cons (te_var 4) (ta_cons (te_call (ok_n_power T) (hr.mono (by omega)) T.g_n_power T.f_n_power.kp T.bi_n_power passD (ta_cons (te_var 2) (ta_cons (te_var 0) ta_nil))) ta_nil)))))))
theorem ok_n_chances_of (T : Tx K mg base a e) : FnOk P w K mg base (L2.CX P w) 3 a.n_chances_of e.n_chances_of ["machine", "copies", "chance", "way", "word"] (spF (G0 K a) 5 F_n_chances_of) :=
  fn_F (k := 2) T.f_n_chances_of sc_n_chances_of fun r sc cdv A outer s H E hcd hr =>
  (ts_cons (ts_setV 5 (te_len T.b_len (te_ix (te_var 0) te_int)) nd_n_chances_of)
  (ts_cons (ts_setV 6 (te_call (ok_n_told T) (hr.mono (by omega)) T.g_n_told T.f_n_told.kp T.bi_n_told passD (ta_cons (te_var 0) (ta_cons (te_call (ok_n_led T) (hr.mono (by omega)) T.g_n_led T.f_n_led.kp T.bi_n_led passD (ta_cons (te_var 0) (ta_cons te_int (ta_cons (te_var 3) ta_nil)))) (ta_cons (te_var 4) ta_nil)))) nd_n_chances_of)
  (ts_cons (ts_setLc 7 [("state", 12)] rfl nd_n_chances_of (wi_range1 (np := false) T.b_range (te_var 5)) (blkOk_by (by rfl)) (fun s H C cl fp => (tg_nm 12 nd_n_chances_of)) (fun s H C cl fp => tts_nil) (fun s H C cl fp => (te_call (ok_n_told T) (hr.mono (by omega)) T.g_n_told T.f_n_told.kp T.bi_n_told passL (ta_cons (te_var 0) (ta_cons (te_var 12) (ta_cons (te_var 4) ta_nil))))))
  (ts_cons (ts_newV 8 (tn_lst ta_nil) nd_n_chances_of)
  (ts_cons (ts_for ownD rfl (wi_range1 (np := false) T.b_range (te_len T.b_len (te_var 4))) (tg_nm 9 nd_n_chances_of) (ts_cons (ts_setV 10 (te_len T.b_len (te_of_new (tn_lc [("row", 13)] rfl nd_n_chances_of (wi_seq (te_var 7)) (blkOk_by (by rfl)) (fun s H C cl fp => (tg_nm 13 nd_n_chances_of)) (fun s H C cl fp => (tts_one (tb_eq hr (te_ix (te_var 13) (te_var 9)) (te_ix (te_var 6) (te_var 9))))) (fun s H C cl fp => (te_var 13))))) nd_n_chances_of)
  (ts_cons (ts_setV 11 (te_add (te_mul (te_sub (te_ix (te_var 2) te_int) (te_ix (te_var 2) te_int)) (te_var 5)) (te_mul (te_ix (te_var 2) te_int) (te_var 10))) nd_n_chances_of)
  (ts_one (ts_appV 8 (te_call (ok_n_right_by T) (hr.mono (by omega)) T.g_n_right_by T.f_n_right_by.kp T.bi_n_right_by passD (ta_cons (te_var 1) (ta_cons (te_var 11) (ta_cons (te_mul (te_ix (te_var 2) te_int) (te_var 5)) ta_nil)))))))))
  (ts_one (ts_ret (te_var 8))))))))
theorem ok_n_need_all (T : Tx K mg base a e) : FnOk P w K mg base (L2.CX P w) 5 a.n_need_all e.n_need_all ["machine", "copies", "chance", "way", "word"] (spF (G0 K a) 5 F_n_need_all) :=
  fn_F (k := 4) T.f_n_need_all sc_n_need_all fun r sc cdv A outer s H E hcd hr =>
  (ts_cons (ts_expr (te_call (ok_n_need_machine T) (hr.mono (by omega)) T.g_n_need_machine T.f_n_need_machine.kp T.bi_n_need_machine passD (ta_cons (te_var 0) ta_nil)))
  (ts_cons (ts_expr (te_call (ok_n_need_number T) (hr.mono (by omega)) T.g_n_need_number T.f_n_need_number.kp T.bi_n_need_number passD (ta_cons (te_var 1) (ta_cons te_int (ta_cons (te_cint T.c_MOST_BY_CHANCE) ta_nil)))))
  (ts_cons (ts_expr (te_call (ok_n_need_chance T) (hr.mono (by omega)) T.g_n_need_chance T.f_n_need_chance.kp T.bi_n_need_chance passD (ta_cons (te_var 2) ta_nil)))
  (ts_cons (ts_expr (te_call (ok_n_need_word T) (hr.mono (by omega)) T.g_n_need_word T.f_n_need_word.kp T.bi_n_need_word passD (ta_cons (te_var 0) (ta_cons (te_var 3) ta_nil))))
  (ts_one (ts_expr (te_call (ok_n_need_word T) (hr.mono (by omega)) T.g_n_need_word T.f_n_need_word.kp T.bi_n_need_word passD (ta_cons (te_var 0) (ta_cons (te_var 4) ta_nil)))))))))
theorem ok_n_right_chances (T : Tx K mg base a e) : FnOk P w K mg base (L2.CX P w) 6 a.n_right_chances e.n_right_chances ["machine", "copies", "chance", "way", "word"] (spF (G0 K a) 5 F_n_right_chances) :=
  fn_F (k := 5) T.f_n_right_chances sc_n_right_chances fun r sc cdv A outer s H E hcd hr =>
  (ts_cons (ts_expr (te_call (ok_n_need_all T) (hr.mono (by omega)) T.g_n_need_all T.f_n_need_all.kp T.bi_n_need_all passD (ta_cons (te_var 0) (ta_cons (te_var 1) (ta_cons (te_var 2) (ta_cons (te_var 3) (ta_cons (te_var 4) ta_nil)))))))
  (ts_one (ts_ret (te_tuple T.b_tuple (te_call (ok_n_chances_of T) (hr.mono (by omega)) T.g_n_chances_of T.f_n_chances_of.kp T.bi_n_chances_of passD (ta_cons (te_var 0) (ta_cons (te_var 1) (ta_cons (te_var 2) (ta_cons (te_var 3) (ta_cons (te_var 4) ta_nil))))))))))
theorem ok_n_mean_misses (T : Tx K mg base a e) : FnOk P w K mg base (L2.CX P w) 6 a.n_mean_misses e.n_mean_misses ["machine", "copies", "chance", "way", "word"] (spF (G0 K a) 5 F_n_mean_misses) :=
  fn_F (k := 5) T.f_n_mean_misses sc_n_mean_misses fun r sc cdv A outer s H E hcd hr =>
  (ts_cons (ts_expr (te_call (ok_n_need_all T) (hr.mono (by omega)) T.g_n_need_all T.f_n_need_all.kp T.bi_n_need_all passD (ta_cons (te_var 0) (ta_cons (te_var 1) (ta_cons (te_var 2) (ta_cons (te_var 3) (ta_cons (te_var 4) ta_nil)))))))
  (ts_cons (ts_setV 5 (te_tup (ta_cons te_int (ta_cons te_int ta_nil))) nd_n_mean_misses)
  (ts_cons (ts_for ownD rfl (wi_seq (te_call (ok_n_chances_of T) (hr.mono (by omega)) T.g_n_chances_of T.f_n_chances_of.kp T.bi_n_chances_of passD (ta_cons (te_var 0) (ta_cons (te_var 1) (ta_cons (te_var 2) (ta_cons (te_var 3) (ta_cons (te_var 4) ta_nil))))))) (tg_tp rfl (tgs_cons (tg_nm 6 nd_n_mean_misses) (tgs_cons (tg_nm 7 nd_n_mean_misses) tgs_nil))) (ts_one (ts_setV 5 (te_call (ok_n_lowest T) (hr.mono (by omega)) T.g_n_lowest T.f_n_lowest.kp T.bi_n_lowest passD (ta_cons (te_add (te_mul (te_ix (te_var 5) te_int) (te_var 7)) (te_mul (te_ix (te_var 5) te_int) (te_sub (te_var 7) (te_var 6)))) (ta_cons (te_mul (te_ix (te_var 5) te_int) (te_var 7)) ta_nil))) nd_n_mean_misses)))
  (ts_one (ts_ret (te_var 5))))))
theorem d_n__law_taken (T : Tx K mg base a e) : ∀ (cdv : Value) (A : Around) (outer : List PySem.Env) (s : Shared) (H : Hp) (E : XK), Room 0 (A.deeper (envOfC "_law_taken" (defScope s_n__law_taken) s.heap.objs.size a.n__law_taken cdv)) →
    PSs (cxOf (L2.CX P w) P w K mg base N_n__law_taken "_law_taken" (defScope s_n__law_taken) a.n__law_taken cdv A outer s H E) (defBody s_n__law_taken) (sT ((G0 K a).at none 0) E g_n__law_taken) := fun cdv A outer s H E hr =>
  (ts_cons (ts_if (tb_gt (te_ix (te_var 0) te_int) te_int)
  (ts_cons (ts_set 2 (te_mod (te_toInt T.b_int (te_ix (te_var 0) te_int)) (te_var 1)) nd_n__law_taken)
  (ts_cons (ts_seti 0 (te_fdiv (te_ix (te_var 0) te_int) (te_var 1)) te_int)
  (ts_one (ts_retP (te_var 2)))))
  ts_nil)
  (ts_cons (ts_seti 0 (te_add (te_ix (te_var 0) te_int) te_int) te_int)
  (ts_cons (ts_if (tb_gt (te_ix (te_var 0) te_int) (te_len T.b_len (te_ix (te_var 0) te_int)))
  (ts_cons (ts_seti 0 (te_mod (te_toInt T.b_int (te_add (te_mul (te_ix (te_var 0) te_int) te_int) te_int)) te_int) te_int)
  (ts_one (ts_retP (te_mod (te_toInt T.b_int (te_fdiv (te_ix (te_var 0) te_int) te_int)) (te_var 1)))))
  ts_nil)
  (ts_cons (ts_set 3 (te_ix (te_ix (te_var 0) te_int) (te_sub (te_ix (te_var 0) te_int) te_int)) nd_n__law_taken)
  (ts_cons (ts_seti 0 (te_mod (te_toInt T.b_int (te_add (te_add (te_mul (te_ix (te_var 0) te_int) te_int) (te_var 3)) te_int)) te_int) te_int)
  (ts_cons (ts_if (tb_ge (te_var 3) (te_pow te_int te_int))
  (ts_one (ts_seti 0 (te_fdiv (te_var 3) (te_var 1)) te_int))
  ts_nil)
  (ts_one (ts_retP (te_mod (te_toInt T.b_int (te_var 3)) (te_var 1))))))))))
theorem ok_n__law_taken (T : Tx K mg base a e) : FnOk P w K mg base (L2.CX P w) 1 a.n__law_taken e.n__law_taken ["_law_row", "_law_many"] (spF (G0 K a) 2 F_n__law_taken) :=
  fn_taken T.f_n__law_taken sc_n__law_taken rfl (d_n__law_taken T) rfl rfl taken_g
theorem ok_n__law_alike (T : Tx K mg base a e) : ∀ n : Nat, FnOk P w K mg base (L2.CX P w) (n + 1) a.n__law_alike e.n__law_alike ["_law_found", "_law_due"] (spF (G0 K a) 2 (F_n__law_alike n))
  | 0 => fn_none
  | n + 1 => by
    have G0 := ok_n__law_alike T n
    exact (fn_F (k := n + 1) T.f_n__law_alike sc_n__law_alike (fun r sc cdv A outer s H E hcd hr =>
  (ts_cons (ts_if (tb_truth (te_isi2 (T := .tup) (U := .lst) T.b_isinstance T.b_tuple T.b_list (by decide +kernel) (by decide +kernel) (by decide) (by decide) (te_var 1)))
  (ts_cons (ts_if (tb_w (wb_or (tb_not (tb_truth (te_isi2 (T := .tup) (U := .lst) T.b_isinstance T.b_tuple T.b_list (by decide +kernel) (by decide +kernel) (by decide) (by decide) (te_var 0)))) (wb_or1 (tb_ne hr (te_isi (T := .lst) T.b_isinstance T.b_list (by decide +kernel) (by decide) (te_var 0)) (te_isi (T := .lst) T.b_isinstance T.b_list (by decide +kernel) (by decide) (te_var 1))))))
  (ts_one (ts_ret te_bl))
  ts_nil)
  (ts_cons (ts_if (tb_ne hr (te_len T.b_len (te_var 0)) (te_len T.b_len (te_var 1)))
  (ts_one (ts_ret te_bl))
  ts_nil)
  (ts_one (ts_ret (te_eq hr (te_of_new (tn_lc [("_law_k", 2)] rfl nd_n__law_alike (wi_range1 (np := false) T.b_range (te_len T.b_len (te_var 1))) (blkOk_by (by rfl)) (fun s H C cl fp => (tg_nm 2 nd_n__law_alike)) (fun s H C cl fp => (tts_one (tb_not (tb_truth (te_call G0 (hr.mono (by omega)) T.g_n__law_alike T.f_n__law_alike.kp T.bi_n__law_alike passL (ta_cons (te_ix (te_var 0) (te_var 2)) (ta_cons (te_ix (te_var 1) (te_var 2)) ta_nil))))))) (fun s H C cl fp => (te_var 2)))) (te_lst ta_nil))))))
  ts_nil)
  (ts_cons (ts_if (tb_w (wb_or (tb_isN (te_var 1)) (wb_or1 (tb_truth (te_isi (T := .str) T.b_isinstance T.b_str (by decide +kernel) (by decide) (te_var 1))))))
  (ts_one (ts_ret (te_and (te_eq hr (te_var 0) (te_var 1)) (te_one (te_eq hr (te_isi (T := .str) T.b_isinstance T.b_str (by decide +kernel) (by decide) (te_var 0)) (te_isi (T := .str) T.b_isinstance T.b_str (by decide +kernel) (by decide) (te_var 1)))))))
  ts_nil)
  (ts_one (ts_ret (te_and (te_isi (T := .int) T.b_isinstance T.b_int (by decide +kernel) (by decide) (te_var 0)) (te_and (te_eq hr (te_isi (T := .bl) T.b_isinstance T.b_bool (by decide +kernel) (by decide) (te_var 0)) (te_isi (T := .bl) T.b_isinstance T.b_bool (by decide +kernel) (by decide) (te_var 1))) (te_one (te_eq hr (te_var 0) (te_var 1)))))))))))
theorem ok_n__law_machine (T : Tx K mg base a e) : FnOk P w K mg base (L2.CX P w) 2 a.n__law_machine e.n__law_machine ["_law_row", "_law_states", "_law_letters"] (spF (G0 K a) 3 F_n__law_machine) :=
  fn_F (k := 1) T.f_n__law_machine sc_n__law_machine fun r sc cdv A outer s H E hcd hr =>
  (ts_cons (ts_parT rfl (tk_cons (th_v (te_add te_int (te_call (ok_n__law_taken T) (hr.mono (by omega)) T.g_n__law_taken T.f_n__law_taken.kp T.bi_n__law_taken passD (ta_cons (te_var 0) (ta_cons (te_var 1) ta_nil))))) (tk_cons (th_v (te_add te_int (te_call (ok_n__law_taken T) (hr.mono (by omega)) T.g_n__law_taken T.f_n__law_taken.kp T.bi_n__law_taken passD (ta_cons (te_var 0) (ta_cons (te_var 2) ta_nil))))) (tk_cons (th_v (te_call (ok_n__law_taken T) (hr.mono (by omega)) T.g_n__law_taken T.f_n__law_taken.kp T.bi_n__law_taken passD (ta_cons (te_var 0) (ta_cons te_int ta_nil)))) tk_nil))) (gns_cons 3 (gns_cons 4 (gns_cons 5 gns_nil nd_n__law_machine) nd_n__law_machine) nd_n__law_machine))
  (ts_cons (ts_par2 rfl nd_n__law_machine (tk_cons (th_nv (tn_lst ta_nil)) (tk_cons (th_nv (tn_lst ta_nil)) tk_nil)))
  (ts_cons (ts_for ownD rfl (wi_range1 (np := false) T.b_range (te_var 3)) (tg_nm 8 nd_n__law_machine) (ts_cons (ts_if (tb_eq hr (te_var 5) te_int)
  (ts_one (ts_appV 6 (te_tuple T.b_tuple (te_of_new (tn_lc [("_law_letter", 9)] rfl nd_n__law_machine (wi_range1 (np := false) T.b_range (te_var 4)) (blkOk_by (by rfl)) (fun s H C cl fp => (tg_nm 9 nd_n__law_machine)) (fun s H C cl fp => tts_nil) (fun s H C cl fp => (te_if (tb_eq hr (te_var 9) (te_sub (te_var 4) te_int)) (te_min2 T.b_min rfl (te_sub (te_var 3) te_int) (te_add (te_var 8) te_int)) te_int)))))))
  (ts_one (ts_if (tb_eq hr (te_var 5) te_int)
  (ts_one (ts_appV 6 (te_tuple T.b_tuple (te_of_new (tn_lc [("_law_letter", 9)] rfl nd_n__law_machine (wi_range1 (np := false) T.b_range (te_var 4)) (blkOk_by (by rfl)) (fun s H C cl fp => (tg_nm 9 nd_n__law_machine)) (fun s H C cl fp => tts_nil) (fun s H C cl fp => (te_min2 T.b_min rfl (te_sub (te_var 3) te_int) (te_var 9))))))))
  (ts_one (ts_appV 6 (te_tuple T.b_tuple (te_of_new (tn_lc [("_law_letter", 9)] rfl nd_n__law_machine (wi_range1 (np := false) T.b_range (te_var 4)) (blkOk_by (by rfl)) (fun s H C cl fp => (tg_nm 9 nd_n__law_machine)) (fun s H C cl fp => tts_nil) (fun s H C cl fp => (te_call (ok_n__law_taken T) (hr.mono (by omega)) T.g_n__law_taken T.f_n__law_taken.kp T.bi_n__law_taken passL (ta_cons (te_var 0) (ta_cons (te_var 3) ta_nil))))))))))))
  (ts_one (ts_appV 7 (te_tuple T.b_tuple (te_of_new (tn_lc [("_law_letter", 9)] rfl nd_n__law_machine (wi_range1 (np := false) T.b_range (te_var 4)) (blkOk_by (by rfl)) (fun s H C cl fp => (tg_nm 9 nd_n__law_machine)) (fun s H C cl fp => tts_nil) (fun s H C cl fp => (te_call (ok_n__law_taken T) (hr.mono (by omega)) T.g_n__law_taken T.f_n__law_taken.kp T.bi_n__law_taken passL (ta_cons (te_var 0) (ta_cons te_int ta_nil)))))))))))
  (ts_one (ts_ret (te_tup (ta_cons (te_tuple T.b_tuple (te_var 6)) (ta_cons (te_tuple T.b_tuple (te_var 7)) ta_nil))))))))
theorem ok_n__law_word (T : Tx K mg base a e) : FnOk P w K mg base (L2.CX P w) 2 a.n__law_word e.n__law_word ["_law_row", "_law_machine_here", "_law_most"] (spF (G0 K a) 3 F_n__law_word) :=
  fn_F (k := 1) T.f_n__law_word sc_n__law_word fun r sc cdv A outer s H E hcd hr =>
  (ts_one (ts_ret (te_tuple T.b_tuple (te_of_new (tn_lc [("_law_at", 3)] rfl nd_n__law_word (wi_range1 (np := false) T.b_range (te_call (ok_n__law_taken T) (hr.mono (by omega)) T.g_n__law_taken T.f_n__law_taken.kp T.bi_n__law_taken passD (ta_cons (te_var 0) (ta_cons (te_add (te_var 2) te_int) ta_nil)))) (blkOk_by (by rfl)) (fun s H C cl fp => (tg_nm 3 nd_n__law_word)) (fun s H C cl fp => tts_nil) (fun s H C cl fp => (te_call (ok_n__law_taken T) (hr.mono (by omega)) T.g_n__law_taken T.f_n__law_taken.kp T.bi_n__law_taken passL (ta_cons (te_var 0) (ta_cons (te_len T.b_len (te_ix (te_ix (te_var 1) te_int) te_int)) ta_nil)))))))))
theorem ok_n__law_low (T : Tx K mg base a e) : FnOk P w K mg base (L2.CX P w) 1 a.n__law_low e.n__law_low ["_law_top", "_law_bottom"] (spF (G0 K a) 2 F_n__law_low) :=
  fn_F (k := 0) T.f_n__law_low sc_n__law_low fun r sc cdv A outer s H E hcd hr =>
  (ts_cons (ts_par2 rfl nd_n__law_low (tk_cons (th_v (te_var 0)) (tk_cons (th_v (te_var 1)) tk_nil)))
  (ts_cons (ts_while lim ownD (tb_gt (te_var 3) te_int) (ts_one (ts_par2 rfl nd_n__law_low (tk_cons (th_v (te_var 3)) (tk_cons (th_v (te_mod (te_toInt T.b_int (te_var 2)) (te_var 3))) tk_nil)))))
  (ts_one (ts_ret (te_tup (ta_cons (te_fdiv (te_var 0) (te_var 2)) (ta_cons (te_fdiv (te_var 1) (te_var 2)) ta_nil)))))))
theorem ok_n__law_after (T : Tx K mg base a e) : FnOk P w K mg base (L2.CX P w) 1 a.n__law_after e.n__law_after ["_law_machine_here", "_law_state", "_law_word_here"] (spF (G0 K a) 3 F_n__law_after) :=
  fn_F (k := 0) T.f_n__law_after sc_n__law_after fun r sc cdv A outer s H E hcd hr =>
  (ts_cons (ts_for ownD rfl (wi_seq (te_var 2)) (tg_nm 3 nd_n__law_after) (ts_one (ts_setV 1 (te_ix (te_ix (te_ix (te_var 0) te_int) (te_var 1)) (te_var 3)) nd_n__law_after)))
  (ts_one (ts_ret (te_var 1))))
theorem ok_n_law (T : Tx K mg base a e) (hg : ∀ (b : Addr) (ns : List Int), AllOk (fun d => d = .bl true) (g_n_law (.val (.arr b ns) :: .val .row :: List.replicate 21 .dead)).fin) : FnOk P w K mg base (L2.CX P w) 10 a.n_law e.n_law ["_law_script"] (spLaw (G0 K a)) :=
  fn_law (y := "_law_script") T.f_n_law sc_n_law rfl rfl (fun cdv A outer s H E => ps_set (i := 1) nd_n_law rfl (by first | exact .inl rfl | exact .inr rfl) (pe_lst (pa_cons (pv 0) (pa_cons pe_int (pa_cons pe_int (pa_cons pe_int pa_nil))))))
  (fun r sc cdv A outer s H E hcd hr =>
  (ts_cons (ts_parT rfl (tk_cons (th_v (te_call (ok_n__law_machine T) (hr.mono (by omega)) T.g_n__law_machine T.f_n__law_machine.kp T.bi_n__law_machine passD (ta_cons (te_var 1) (ta_cons te_int (ta_cons te_int ta_nil))))) (tk_cons (th_v (te_add te_int (te_call (ok_n__law_taken T) (hr.mono (by omega)) T.g_n__law_taken T.f_n__law_taken.kp T.bi_n__law_taken passD (ta_cons (te_var 1) (ta_cons te_int ta_nil))))) tk_nil)) (gns_cons 2 (gns_cons 3 gns_nil nd_n_law) nd_n_law))
  (ts_cons (ts_setV 4 (te_add te_int (te_call (ok_n__law_taken T) (hr.mono (by omega)) T.g_n__law_taken T.f_n__law_taken.kp T.bi_n__law_taken passD (ta_cons (te_var 1) (ta_cons te_int ta_nil)))) nd_n_law)
  (ts_cons (ts_parT rfl (tk_cons (th_v (te_tup (ta_cons (te_call (ok_n__law_taken T) (hr.mono (by omega)) T.g_n__law_taken T.f_n__law_taken.kp T.bi_n__law_taken passD (ta_cons (te_var 1) (ta_cons (te_add (te_var 4) te_int) ta_nil))) (ta_cons (te_var 4) ta_nil)))) (tk_cons (th_v (te_call (ok_n__law_word T) (hr.mono (by omega)) T.g_n__law_word T.f_n__law_word.kp T.bi_n__law_word passD (ta_cons (te_var 1) (ta_cons (te_var 2) (ta_cons te_int ta_nil))))) (tk_cons (th_v (te_call (ok_n__law_word T) (hr.mono (by omega)) T.g_n__law_word T.f_n__law_word.kp T.bi_n__law_word passD (ta_cons (te_var 1) (ta_cons (te_var 2) (ta_cons te_int ta_nil))))) tk_nil))) (gns_cons 5 (gns_cons 6 (gns_cons 7 gns_nil nd_n_law) nd_n_law) nd_n_law))
  (ts_cons (ts_par2 rfl nd_n_law (tk_cons (th_v (te_len T.b_len (te_ix (te_var 2) te_int))) (tk_cons (th_v (te_call (ok_n__law_after T) (hr.mono (by omega)) T.g_n__law_after T.f_n__law_after.kp T.bi_n__law_after passD (ta_cons (te_var 2) (ta_cons te_int (ta_cons (te_var 6) ta_nil))))) tk_nil)))
  (ts_cons (ts_setV 10 (te_lst (ta_cons (te_tup (ta_cons (te_tup ta_nil) (ta_cons te_int ta_nil))) ta_nil)) nd_n_law)
  (ts_cons (ts_for ownD rfl (wi_range1 (np := false) T.b_range (te_var 3)) (tg_nm 11 nd_n_law) (ts_cons (ts_newV 12 (tn_lst ta_nil) nd_n_law)
  (ts_cons (ts_for ownD rfl (wi_seq (te_var 10)) (tg_tp rfl (tgs_cons (tg_nm 13 nd_n_law) (tgs_cons (tg_nm 14 nd_n_law) tgs_nil))) (ts_cons (ts_appV 12 (te_tup (ta_cons (te_add (te_var 13) (te_tup (ta_cons (te_var 9) ta_nil))) (ta_cons (te_mul (te_mul (te_var 14) (te_sub (te_ix (te_var 5) te_int) (te_ix (te_var 5) te_int))) (te_var 8)) ta_nil))))
  (ts_one (ts_new 12 (tn_addL (te_var 12) (te_of_new (tn_lc [("_law_state", 22)] rfl nd_n_law (wi_range1 (np := false) T.b_range (te_var 8)) (blkOk_by (by rfl)) (fun s H C cl fp => (tg_nm 22 nd_n_law)) (fun s H C cl fp => tts_nil) (fun s H C cl fp => (te_tup (ta_cons (te_add (te_var 13) (te_tup (ta_cons (te_var 22) ta_nil))) (ta_cons (te_mul (te_var 14) (te_ix (te_var 5) te_int)) ta_nil))))))) nd_n_law))))
  (ts_one (ts_frz 12 (ts_setV 10 (te_var 12) nd_n_law))))))
  (ts_cons (ts_setV 15 (te_sum T.b_sum rfl (te_of_new (tn_lc [("_law_some", 13), ("_law_weight", 14)] rfl nd_n_law (wi_seq (te_var 10)) (blkOk_by (by rfl)) (fun s H C cl fp => (tg_tp rfl (tgs_cons (tg_nm 13 nd_n_law) (tgs_cons (tg_nm 14 nd_n_law) tgs_nil)))) (fun s H C cl fp => tts_nil) (fun s H C cl fp => (te_var 14))))) nd_n_law)
  (ts_cons (ts_par2 rfl nd_n_law (tk_cons (th_nv (tn_lst ta_nil)) (tk_cons (th_v (te_tup (ta_cons te_int (ta_cons te_int ta_nil)))) tk_nil)))
  (ts_cons (ts_for ownD rfl (wi_range1 (np := false) T.b_range (te_len T.b_len (te_var 7))) (tg_nm 18 nd_n_law) (ts_cons (ts_par2 rfl nd_n_law (tk_cons (th_v te_int) (tk_cons (th_v (te_ix (te_ix (te_ix (te_var 2) te_int) (te_call (ok_n__law_after T) (hr.mono (by omega)) T.g_n__law_after T.f_n__law_after.kp T.bi_n__law_after passD (ta_cons (te_var 2) (ta_cons (te_var 9) (ta_cons (te_slice (te_var 7) to_none (to_some (te_var 18))) ta_nil))))) (te_ix (te_var 7) (te_var 18)))) tk_nil)))
  (ts_cons (ts_for ownD rfl (wi_seq (te_var 10)) (tg_tp rfl (tgs_cons (tg_nm 13 nd_n_law) (tgs_cons (tg_nm 14 nd_n_law) tgs_nil))) (ts_cons (ts_setLc 21 [("_law_state", 22)] rfl nd_n_law (wi_seq (te_var 13)) (blkOk_by (by rfl)) (fun s H C cl fp => (tg_nm 22 nd_n_law)) (fun s H C cl fp => tts_nil) (fun s H C cl fp => (te_ix (te_ix (te_ix (te_var 2) te_int) (te_call (ok_n__law_after T) (hr.mono (by omega)) T.g_n__law_after T.f_n__law_after.kp T.bi_n__law_after passL (ta_cons (te_var 2) (ta_cons (te_var 22) (ta_cons (te_slice (te_var 7) to_none (to_some (te_var 18))) ta_nil))))) (te_ix (te_var 7) (te_var 18)))))
  (ts_one (ts_setV 19 (te_add (te_var 19) (te_if (tb_gt (te_mul te_int (te_count (te_var 21) (te_var 20))) (te_var 3)) (te_var 14) te_int)) nd_n_law))))
  (ts_cons (ts_appV 16 (te_call (ok_n__law_low T) (hr.mono (by omega)) T.g_n__law_low T.f_n__law_low.kp T.bi_n__law_low passD (ta_cons (te_var 19) (ta_cons (te_var 15) ta_nil))))
  (ts_one (ts_setV 17 (te_tup (ta_cons (te_add (te_mul (te_ix (te_var 17) te_int) (te_var 15)) (te_mul (te_ix (te_var 17) te_int) (te_sub (te_var 15) (te_var 19)))) (ta_cons (te_mul (te_ix (te_var 17) te_int) (te_var 15)) ta_nil))) nd_n_law))))))
  (ts_cons (ts_if (tb_not (tb_truth (te_call (ok_n__law_alike T 8) (hr.mono (by omega)) T.g_n__law_alike T.f_n__law_alike.kp T.bi_n__law_alike passD (ta_cons (te_call (ok_n_right_chances T) (hr.mono (by omega)) T.g_n_right_chances T.f_n_right_chances.kp T.bi_n_right_chances passD (ta_cons (te_var 2) (ta_cons (te_var 3) (ta_cons (te_var 5) (ta_cons (te_var 6) (ta_cons (te_var 7) ta_nil)))))) (ta_cons (te_tuple T.b_tuple (te_var 16)) ta_nil)))))
  (ts_one (ts_ret te_bl))
  ts_nil)
  (ts_cons (ts_if (tb_not (tb_truth (te_call (ok_n__law_alike T 8) (hr.mono (by omega)) T.g_n__law_alike T.f_n__law_alike.kp T.bi_n__law_alike passD (ta_cons (te_call (ok_n_mean_misses T) (hr.mono (by omega)) T.g_n_mean_misses T.f_n_mean_misses.kp T.bi_n_mean_misses passD (ta_cons (te_var 2) (ta_cons (te_var 3) (ta_cons (te_var 5) (ta_cons (te_var 6) (ta_cons (te_var 7) ta_nil)))))) (ta_cons (te_call (ok_n__law_low T) (hr.mono (by omega)) T.g_n__law_low T.f_n__law_low.kp T.bi_n__law_low passD (ta_cons (te_ix (te_var 17) te_int) (ta_cons (te_ix (te_var 17) te_int) ta_nil))) ta_nil)))))
  (ts_one (ts_ret te_bl))
  ts_nil)
  (ts_cons (ts_if (tb_w (wb_or (tb_ne hr (te_call (ok_n_right_chances T) (hr.mono (by omega)) T.g_n_right_chances T.f_n_right_chances.kp T.bi_n_right_chances passD (ta_cons (te_var 2) (ta_cons te_int (ta_cons (te_tup (ta_cons te_int (ta_cons te_int ta_nil))) (ta_cons (te_var 6) (ta_cons (te_var 7) ta_nil)))))) (te_mulT (te_tup (ta_cons (te_tup (ta_cons te_int (ta_cons te_int ta_nil))) ta_nil)) (te_len T.b_len (te_var 7)))) (wb_or1 (tb_ne hr (te_call (ok_n_mean_misses T) (hr.mono (by omega)) T.g_n_mean_misses T.f_n_mean_misses.kp T.bi_n_mean_misses passD (ta_cons (te_var 2) (ta_cons te_int (ta_cons (te_tup (ta_cons te_int (ta_cons te_int ta_nil))) (ta_cons (te_var 6) (ta_cons (te_tup ta_nil) ta_nil)))))) (te_tup (ta_cons te_int (ta_cons te_int ta_nil)))))))
  (ts_one (ts_ret te_bl))
  ts_nil)
  (ts_one (ts_ret (te_eq hr (te_call (ok_n_mean_misses T) (hr.mono (by omega)) T.g_n_mean_misses T.f_n_mean_misses.kp T.bi_n_mean_misses passD (ta_cons (te_var 2) (ta_cons (te_var 3) (ta_cons (te_tup (ta_cons te_int (ta_cons te_int ta_nil))) (ta_cons (te_var 6) (ta_cons (te_var 7) ta_nil)))))) (te_tup (ta_cons te_int (ta_cons te_int ta_nil))))))))))))))))))) (by decide) hg
end
end Lw
set_option Elab.async false
set_option linter.all false
set_option autoImplicit false
set_option maxRecDepth 100000
set_option maxHeartbeats 4000000
noncomputable section
namespace Lw
open Fw
/-! ### machines: the defs that every law holds -/
@[simp] theorem isi_int_int (v : Int) : (D.int v).isi .int = .ok (.bl true) := rfl
@[simp] theorem isi_int_bl (v : Int) : (D.int v).isi .bl = .ok (.bl false) := rfl
@[simp] theorem isi_tup_tup (v : List D) : (D.tup v).isi .tup = .ok (.bl true) := rfl
@[simp] theorem toPy_int (v : Int) : (D.int v).toPy = some (.int v) := rfl
theorem eqB_int (a b : Int) : D.eqB (.int a) (.int b) = .ok (decide (a = b)) := by
  unfold D.eqB
  simp only [toPy_int]
  rw [if_pos ⟨rfl, rfl⟩]
  congr 1
@[simp] theorem ne_int (a b : Int) : D.ne (.int a) (.int b) = .ok (.bl !(decide (a = b))) := by
  unfold D.ne
  rw [eqB_int]
  rfl
@[simp] theorem eq_int (a b : Int) : D.eq (.int a) (.int b) = .ok (.bl (decide (a = b))) := by
  unfold D.eq
  rw [eqB_int]
  rfl
def iL (l : List Int) : List D := l.map .int
def rowsT (st : List (List Int)) : D := .tup (st.map fun r => .tup (iL r))
def machT (st an : List (List Int)) : D := .tup [rowsT st, rowsT an]
theorem iL_len (l : List Int) : (iL l).length = l.length := by simp [iL]
structure Good (st an : List (List Int)) (l : Nat) : Prop where
  n1 : 1 ≤ st.length
  n6 : st.length ≤ 6
  l1 : 1 ≤ l
  l3 : l ≤ 3
  sl : ∀ r ∈ st, r.length = l
  sv : ∀ r ∈ st, ∀ v ∈ r, 0 ≤ v ∧ v < (st.length : Int)
  al : ∀ r ∈ an, r.length = l
  av : ∀ r ∈ an, ∀ v ∈ r, 0 ≤ v ∧ v ≤ 9
  same : an.length = st.length
theorem F_is_number (v lo hi : Int) : F_n_is_number [.int v, .int lo, .int hi] = .ok (.bl (decide (lo ≤ v) && decide (v ≤ hi))) := by
  by_cases h1 : lo ≤ v <;> simp [F_n_is_number, g_n_is_number, start0, h1]
theorem F_need_number (v lo hi : Int) (h1 : lo ≤ v) (h2 : v ≤ hi) : F_n_need_number [.int v, .int lo, .int hi] = .ok .non := by
  simp [F_n_need_number, g_n_need_number, start0, F_is_number, h1, h2]
theorem are_rows_loop (l : Nat) (most : Int) : ∀ (rs : List (List Int)) (v n : D) (x : Sl), isRow [x] 0 = false → (∀ r ∈ rs, r.length = l ∧ ∀ v ∈ r, 0 ≤ v ∧ v ≤ most) →
    ∃ y, isRow [y] 0 = false ∧ loopO (.nm 4) lb_n_are_rows_1 (rs.map fun r => .tup (iL r)) [.val v, .val n, .val (.int l), .val (.int most), x, .dead] = .nx [.val v, .val n, .val (.int l), .val (.int most), y, .dead]
  | [], v, n, x, hx, _ => ⟨x, hx, rfl⟩
  | r :: rs, v, n, x, hx, h => by
    obtain ⟨h1, h2⟩ := h r List.mem_cons_self
    obtain ⟨y, hy, ih⟩ := are_rows_loop l most rs v n (.val (.tup (iL r))) rfl fun q hq => h q (List.mem_cons_of_mem _ hq)
    refine ⟨y, hy, ?_⟩
    rw [List.map_cons, loopO_cons]
    have hall : genL false (.nm 5) ge_n_are_rows_1 [some v, some n, some (.int l), some (.int most), some (.tup (iL r)), none] (iL r) = .ok (.bl true) := by
      rw [genL_all (fun d => match d with | .int i => decide (0 ≤ i) && decide (i ≤ most) | _ => false) (iL r) fun d hd => ?_]
      · congr 2
        rw [List.all_eq_true]
        intro d hd
        obtain ⟨i, hi, rfl⟩ := List.mem_map.mp hd
        simp [h2 i hi]
      · obtain ⟨i, hi, rfl⟩ := List.mem_map.mp hd
        simp [ge_n_are_rows_1, F_is_number]
    simp at hx
    simp [lb_n_are_rows_1, hall, hx, iL_len, h1]
    exact ih
theorem F_are_rows (rs : List (List Int)) (l : Nat) (most : Int) (h : ∀ r ∈ rs, r.length = l ∧ ∀ v ∈ r, 0 ≤ v ∧ v ≤ most) :
    F_n_are_rows [rowsT rs, .int rs.length, .int l, .int most] = .ok (.bl true) := by
  obtain ⟨y, hy, e⟩ := are_rows_loop l most rs (rowsT rs) (.int rs.length) .dead rfl h
  simp [F_n_are_rows, g_n_are_rows, start0, rowsT] at e ⊢
  rw [e]
  simp
theorem ixG_nat {α : Type} {l : List α} {n : Nat} {x : α} (h : l[n]? = some x) : ixG l (n : Int) = .ok x := by rw [ixG_at, h]
theorem ixG_zero {α : Type} {x : α} {l : List α} : ixG (x :: l) 0 = .ok x := ixG_nat (l := x :: l) (n := 0) rfl
theorem ixG_one {α : Type} {x y : α} {l : List α} : ixG (x :: y :: l) 1 = .ok y := by
  have := ixG_nat (l := x :: y :: l) (n := 1) (x := y) rfl
  exact this
theorem F_letters_of {st an : List (List Int)} {l : Nat} (G : Good st an l) : F_n_letters_of [machT st an] = .ok (.int l) := by
  obtain ⟨r, st', rfl⟩ : ∃ r st', st = r :: st' := by
    cases st with
    | nil => exact absurd G.n1 (by decide)
    | cons r t => exact ⟨r, t, rfl⟩
  have := G.sl r List.mem_cons_self
  simp [F_n_letters_of, g_n_letters_of, start0, machT, rowsT, ixG_zero, iL_len, this]
theorem F_need_machine {st an : List (List Int)} {l : Nat} (G : Good st an l) : F_n_need_machine [machT st an] = .ok .non := by
  have e1 := F_are_rows st l (st.length - 1) fun r hr => ⟨G.sl r hr, fun v hv => by have := G.sv r hr v hv; omega⟩
  have e2 := F_are_rows an l 9 fun r hr => ⟨G.al r hr, G.av r hr⟩
  rw [G.same] at e2
  obtain ⟨r, st', e⟩ : ∃ r st', st = r :: st' := by
    cases st with
    | nil => exact absurd G.n1 (by decide)
    | cons r t => exact ⟨r, t, rfl⟩
  have hr := G.sl r (by rw [e]; exact List.mem_cons_self)
  have h0 : ixG (st.map fun r => D.tup (iL r)) 0 = .ok (.tup (iL r)) := by rw [e, List.map_cons]; exact ixG_zero
  have n1 := G.n1
  have n6 := G.n6
  have l1 := G.l1
  have l3 := G.l3
  have a1 : (1 : Int) ≤ (st.length : Int) := by omega
  have a2 : (st.length : Int) ≤ 6 := by omega
  have a3 : (1 : Int) ≤ (l : Int) := by omega
  have a4 : (l : Int) ≤ 3 := by omega
  simp only [rowsT] at e1 e2
  simp [F_n_need_machine, g_n_need_machine, start0, machT, rowsT, h0, iL_len, hr, a1, a2, a3, a4, e1, e2]
theorem F_is_word {st an : List (List Int)} {l : Nat} (G : Good st an l) (w : List Int) (hl : w.length ≤ 4000) (h : ∀ v ∈ w, 0 ≤ v ∧ v < (l : Int)) : F_n_is_word [machT st an, .tup (iL w)] = .ok (.bl true) := by
  have hall : genL false (.nm 2) ge_n_is_word_1 [some (machT st an), some (.tup (iL w)), none] (iL w) = .ok (.bl true) := by
    rw [genL_all (fun d => match d with | .int i => decide (0 ≤ i) && decide (i ≤ l - 1) | _ => false) (iL w) fun d hd => ?_]
    · congr 2
      rw [List.all_eq_true]
      intro d hd
      obtain ⟨i, hi, rfl⟩ := List.mem_map.mp hd
      have := h i hi
      simp
      omega
    · obtain ⟨i, hi, rfl⟩ := List.mem_map.mp hd
      simp [ge_n_is_word_1, F_is_number, F_letters_of G]
  have a1 : ¬ (4000 : Int) < (w.length : Int) := by omega
  simp [F_n_is_word, g_n_is_word, start0, iL_len, a1, hall]
theorem F_need_word {st an : List (List Int)} {l : Nat} (G : Good st an l) (w : List Int) (hl : w.length ≤ 4000) (h : ∀ v ∈ w, 0 ≤ v ∧ v < (l : Int)) : F_n_need_word [machT st an, .tup (iL w)] = .ok .non := by
  simp [F_n_need_word, g_n_need_word, start0, F_is_word G w hl h]
/-! runs -/
def stepN (st : List (List Int)) (s a : Nat) : Nat := ((st.getD s []).getD a 0).toNat
def ansI (an : List (List Int)) (s a : Nat) : Int := (an.getD s []).getD a 0
def runN (st : List (List Int)) (s : Nat) : List Nat → Nat
  | [] => s
  | a :: w => runN st (stepN st s a) w
def saidN (st an : List (List Int)) (s : Nat) : List Nat → List Int
  | [] => []
  | a :: w => ansI an s a :: saidN st an (stepN st s a) w
theorem get_rows {rs : List (List Int)} {s : Nat} (h : s < rs.length) : (rs.map fun r => D.tup (iL r))[s]? = some (.tup (iL (rs.getD s []))) := by
  rw [List.getElem?_map, List.getElem?_eq_getElem h]
  simp [List.getD_eq_getElem?_getD, List.getElem?_eq_getElem h]
theorem get_iL {r : List Int} {a : Nat} (h : a < r.length) : (iL r)[a]? = some (.int (r.getD a 0)) := by
  unfold iL
  rw [List.getElem?_map, List.getElem?_eq_getElem h]
  simp [List.getD_eq_getElem?_getD, List.getElem?_eq_getElem h]
theorem getD_mem {α : Type} {l : List α} {i : Nat} {d : α} (h : i < l.length) : l.getD i d ∈ l := by
  rw [List.getD_eq_getElem?_getD, List.getElem?_eq_getElem h]
  exact List.getElem_mem h
theorem Good.row {st an : List (List Int)} {l : Nat} (G : Good st an l) {s : Nat} (h : s < st.length) : (st.getD s []).length = l := G.sl _ (getD_mem h)
theorem Good.step {st an : List (List Int)} {l : Nat} (G : Good st an l) {s a : Nat} (h : s < st.length) (ha : a < l) : stepN st s a < st.length ∧ (st.getD s []).getD a 0 = (stepN st s a : Int) := by
  have hr := G.row h
  have := G.sv _ (getD_mem h) _ (getD_mem (d := 0) (show a < (st.getD s []).length by omega))
  unfold stepN
  omega
/-- machine[0][s][a], machine[1][s][a] -/
theorem mach0 (st an : List (List Int)) : (machT st an).ix (.int 0) = .ok (rowsT st) := by unfold machT; rw [ix_tup, ixG_zero]
theorem mach1 (st an : List (List Int)) : (machT st an).ix (.int 1) = .ok (rowsT an) := by unfold machT; rw [ix_tup, ixG_one]
theorem rows_at {rs : List (List Int)} {s : Nat} (h : s < rs.length) : (rowsT rs).ix (.int s) = .ok (.tup (iL (rs.getD s []))) := by unfold rowsT; rw [ix_tup, ixG_nat (get_rows h)]
theorem row_at {r : List Int} {a : Nat} (h : a < r.length) : (D.tup (iL r)).ix (.int a) = .ok (.int (r.getD a 0)) := by rw [ix_tup, ixG_nat (get_iL h)]
theorem lst_at {r : List Int} {a : Nat} (h : a < r.length) : (D.lst (iL r)).ix (.int a) = .ok (.int (r.getD a 0)) := by rw [ix_lst, ixG_nat (get_iL h)]
theorem Good.at0 {st an : List (List Int)} {l : Nat} (G : Good st an l) {s a : Nat} (h : s < st.length) (ha : a < l) : (D.tup (iL (st.getD s []))).ix (.int a) = .ok (.int (stepN st s a : Nat)) := by
  rw [row_at (by rw [G.row h]; exact ha), (G.step h ha).2]
theorem Good.at1 {st an : List (List Int)} {l : Nat} (G : Good st an l) {s a : Nat} (h : s < st.length) (ha : a < l) : (rowsT an).ix (.int s) = .ok (.tup (iL (an.getD s []))) ∧ (D.tup (iL (an.getD s []))).ix (.int a) = .ok (.int (ansI an s a)) := by
  have h' : s < an.length := by rw [G.same]; exact h
  exact ⟨rows_at h', row_at (by rw [G.al _ (getD_mem h')]; exact ha)⟩
def wN (w : List Nat) : List D := w.map fun (a : Nat) => D.int (a : Int)
theorem led_loop {st an : List (List Int)} {l : Nat} (G : Good st an l) : ∀ (w : List Nat) (s : Nat) (wd : D) (x : Sl), isRow [x] 0 = false → s < st.length → (∀ a ∈ w, a < l) →
    ∃ y, loopO (.nm 3) lb_n_led_1 (wN w) [.val (machT st an), .val (.int s), .val wd, x] = .nx [.val (machT st an), .val (.int (runN st s w : Nat)), .val wd, y]
  | [], s, wd, x, hx, hs, hw => ⟨x, rfl⟩
  | a :: w, s, wd, x, hx, hs, hw => by
    have ha := hw a List.mem_cons_self
    obtain ⟨y, ih⟩ := led_loop G w (stepN st s a) wd (.val (.int a)) rfl (G.step hs ha).1 fun b hb => hw b (List.mem_cons_of_mem _ hb)
    refine ⟨y, ?_⟩
    simp at hx
    rw [wN, List.map_cons, loopO_cons]
    simp [-ix_tup, -List.getD_eq_getElem?_getD, lb_n_led_1, hx, mach0, rows_at hs, G.at0 hs ha]
    exact ih
theorem Good.run {st an : List (List Int)} {l : Nat} (G : Good st an l) : ∀ (w : List Nat) (s : Nat), s < st.length → (∀ a ∈ w, a < l) → runN st s w < st.length
  | [], _, h, _ => h
  | a :: w, s, h, hw => G.run w _ (G.step h (hw a List.mem_cons_self)).1 fun b hb => hw b (List.mem_cons_of_mem _ hb)
theorem F_led {st an : List (List Int)} {l : Nat} (G : Good st an l) (w : List Nat) (s : Nat) (hs : s < st.length) (hw : ∀ a ∈ w, a < l) : F_n_led [machT st an, .int s, .tup (wN w)] = .ok (.int (runN st s w : Nat)) := by
  obtain ⟨y, e⟩ := led_loop G w s (.tup (wN w)) .dead rfl hs hw
  simp [F_n_led, g_n_led, start0, e]
theorem saidN_len (st an : List (List Int)) : ∀ (w : List Nat) (s : Nat), (saidN st an s w).length = w.length
  | [], _ => rfl
  | a :: w, s => by simp [saidN, saidN_len st an w]
theorem told_loop {st an : List (List Int)} {l : Nat} (G : Good st an l) : ∀ (w : List Nat) (s : Nat) (wd : D) (x : Sl) (acc : List Int), isRow [x] 0 = false → s < st.length → (∀ a ∈ w, a < l) → acc.length + w.length ≤ 4000 →
    ∃ y z, loopO (.nm 4) lb_n_told_1 (wN w) [.val (machT st an), .val (.int s), .val wd, .own (.lst (iL acc)), x] = .nx [.val (machT st an), y, .val wd, .own (.lst (iL (acc ++ saidN st an s w))), z]
  | [], s, wd, x, acc, hx, hs, hw, hl => ⟨_, x, by rw [saidN, List.append_nil]; rfl⟩
  | a :: w, s, wd, x, acc, hx, hs, hw, hl => by
    have ha := hw a List.mem_cons_self
    obtain ⟨y, z, ih⟩ := told_loop G w (stepN st s a) wd (.val (.int a)) (acc ++ [ansI an s a]) rfl (G.step hs ha).1 (fun b hb => hw b (List.mem_cons_of_mem _ hb)) (by simp at hl ⊢; omega)
    refine ⟨y, z, ?_⟩
    simp at hx
    have hl2 : acc.length < lim := by
      have : acc.length < 4000 := by simp at hl; omega
      exact Nat.lt_trans this (by decide)
    rw [wN, List.map_cons, loopO_cons]
    have e : iL (acc ++ [ansI an s a]) = iL acc ++ [.int (ansI an s a)] := by simp [iL]
    rw [e, List.append_assoc] at ih
    simp [-ix_tup, -List.getD_eq_getElem?_getD, lb_n_told_1, hx, mach0, mach1, rows_at hs, G.at0 hs ha, G.at1 hs ha, iL_len, hl2]
    exact ih
theorem F_told {st an : List (List Int)} {l : Nat} (G : Good st an l) (w : List Nat) (s : Nat) (hs : s < st.length) (hw : ∀ a ∈ w, a < l) (hl : w.length ≤ 4000) : F_n_told [machT st an, .int s, .tup (wN w)] = .ok (.lst (iL (saidN st an s w))) := by
  obtain ⟨y, z, e⟩ := told_loop G w s (.tup (wN w)) .dead [] rfl hs hw (by simpa using hl)
  have e0 : iL [] = [] := rfl
  rw [e0, List.nil_append] at e
  simp [F_n_told, g_n_told, start0, e]
end Lw
end
set_option Elab.async false
set_option linter.all false
set_option autoImplicit false
set_option maxRecDepth 100000
set_option maxHeartbeats 4000000
noncomputable section
namespace Lw
open Fw
/-! ### chances -/
theorem low_step (t b : D) (x y : Int) (hy : 0 < y) : wb_n_lowest_1 [.val t, .val b, .val (.int x), .val (.int y)] = .nx [.val t, .val b, .val (.int y), .val (.int (x % y))] := by simp [wb_n_lowest_1, hy]
theorem low_test (t b : D) (x y : Int) : wt_n_lowest_1 [some t, some b, some (.int x), some (.int y)] = .ok (y != 0) := by simp [wt_n_lowest_1]
theorem low_on (t b : D) (x y : Nat) (n : Nat) (hy : 0 < y) : whileO wt_n_lowest_1 wb_n_lowest_1 (n + 1) [.val t, .val b, .val (.int (x : Int)), .val (.int (y : Int))] = whileO wt_n_lowest_1 wb_n_lowest_1 n [.val t, .val b, .val (.int (y : Int)), .val (.int ((x % y : Nat) : Int))] := by
  have e1 : ((x : Int) % (y : Int)) = ((x % y : Nat) : Int) := by omega
  have s := low_step t b x y (by omega)
  rw [e1] at s
  have n0 : ((y : Int) != 0) = true := by simp; omega
  rw [whileO_succ]
  simp only [all_cons, all_val, all_nil, low_test, n0, bindO_ok, if_true, s, turn_nx]
theorem low_off (t b : D) (x : Int) (n : Nat) : whileO wt_n_lowest_1 wb_n_lowest_1 (n + 1) [.val t, .val b, .val (.int x), .val (.int 0)] = .nx [.val t, .val b, .val (.int x), .val (.int 0)] := by
  rw [whileO_succ]
  simp [low_test]
theorem gcd_loop (t b : D) : ∀ (k : Nat) (fuel x y : Nat), y < 2 ^ k → 2 * k + 1 ≤ fuel → whileO wt_n_lowest_1 wb_n_lowest_1 fuel [.val t, .val b, .val (.int (x : Int)), .val (.int (y : Int))] = .nx [.val t, .val b, .val (.int ((Nat.gcd x y : Nat) : Int)), .val (.int 0)]
  | 0, fuel, x, y, hy, hf => by
    have h0 : y = 0 := by omega
    obtain ⟨n, rfl⟩ : ∃ n, fuel = n + 1 := ⟨fuel - 1, by omega⟩
    subst h0
    rw [Nat.gcd_zero_right]
    exact low_off t b x n
  | k + 1, fuel, x, y, hy, hf => by
    obtain ⟨n, rfl⟩ : ∃ n, fuel = n + 1 := ⟨fuel - 1, by omega⟩
    by_cases h0 : y = 0
    · subst h0
      rw [Nat.gcd_zero_right]
      exact low_off t b x n
    · rw [low_on t b x y n (by omega)]
      obtain ⟨n', rfl⟩ : ∃ n', n = n' + 1 := ⟨n - 1, by omega⟩
      by_cases h1 : x % y = 0
      · have g1 : Nat.gcd x y = y := by
          rw [Nat.gcd_comm, Nat.gcd_rec y x, h1, Nat.gcd_zero_left]
        rw [h1, g1]
        exact low_off t b y n'
      · rw [low_on t b y (x % y) n' (by omega)]
        have lt : y % (x % y) < 2 ^ k := by
          have a1 : y % (x % y) < x % y := Nat.mod_lt _ (by omega)
          have a2 : x % y < y := Nat.mod_lt _ (by omega)
          have a3 : y % (x % y) ≤ y - x % y := by
            rw [Nat.mod_eq_sub_mod (show x % y ≤ y by omega)]
            exact Nat.mod_le _ _
          have a4 : 2 ^ (k + 1) = 2 * 2 ^ k := by rw [Nat.pow_succ]; omega
          omega
        have g1 : Nat.gcd x y = Nat.gcd (x % y) (y % (x % y)) := by
          rw [Nat.gcd_comm x y, Nat.gcd_rec y x, Nat.gcd_rec (x % y) y, Nat.gcd_comm]
        rw [g1]
        exact gcd_loop t b k n' (x % y) (y % (x % y)) lt (by omega)
/-- a fraction in lowest terms -/
def lowT (t b : Nat) : D := .tup [.int ((t / Nat.gcd t b : Nat) : Int), .int ((b / Nat.gcd t b : Nat) : Int)]
theorem log_small {n k : Nat} (h : n < 2 ^ k) : n.log2 ≤ k := by
  by_cases h0 : n = 0
  · rw [h0]; exact Nat.zero_le _
  · have := (Nat.log2_lt h0).mpr h
    omega
theorem F_lowest (t b : Nat) (hb : 0 < b) (hs : b < 2 ^ 8000) : F_n_lowest [.int (t : Int), .int (b : Int)] = .ok (lowT t b) := by
  have e := gcd_loop (.int (t : Int)) (.int (b : Int)) 8000 lim t b hs (by decide)
  have g0 : 0 < Nat.gcd t b := Nat.gcd_pos_of_pos_right _ hb
  have g1 : (0 : Int) < ((Nat.gcd t b : Nat) : Int) := by omega
  have g2 : Nat.gcd t b ≤ b := Nat.gcd_le_right _ hb
  have g3 : (Nat.gcd t b).log2 < 9000 := by
    have := log_small (Nat.lt_of_le_of_lt g2 hs)
    omega
  have g4 : (2 : Nat) ≤ lim := by decide
  simp [F_n_lowest, g_n_lowest, start0, e, g0, g3, lowT, g4]
end Lw
end
set_option Elab.async false
set_option linter.all false
set_option autoImplicit false
set_option maxRecDepth 100000
set_option maxHeartbeats 4000000
noncomputable section
namespace Lw
open Fw
/-! sizes -/
def Sm (k : Nat) (x : Int) : Prop := x.natAbs < 2 ^ k
theorem Sm.mono {j k : Nat} {x : Int} (h : Sm j x) (l : j ≤ k) : Sm k x := Nat.lt_of_lt_of_le h (Nat.pow_le_pow_right (by decide) l)
theorem Sm.mul {j k : Nat} {x y : Int} (h : Sm j x) (h' : Sm k y) : Sm (j + k) (x * y) := by
  unfold Sm at *
  rw [Int.natAbs_mul, Nat.pow_add]
  exact Nat.mul_lt_mul'' h h'
theorem Sm.add {k : Nat} {x y : Int} (h : Sm k x) (h' : Sm k y) : Sm (k + 1) (x + y) := by
  unfold Sm at *
  have := Int.natAbs_add_le x y
  rw [Nat.pow_succ]
  omega
theorem Sm.of {n k : Nat} (h : n < 2 ^ k) : Sm k (n : Int) := by
  unfold Sm
  rw [Int.natAbs_natCast]
  exact h
theorem Sm.log {k : Nat} {x : Int} (h : Sm k x) : x.natAbs.log2 ≤ k := log_small h
theorem mul_sm {j k : Nat} {x y : Int} (h : Sm j x) (h' : Sm k y) (l : j + k < 1000000) : D.mul (.int x) (.int y) = .ok (.int (x * y)) := by
  have := h.log
  have := h'.log
  rw [mul_int, if_pos (by omega)]
theorem mulI_sm {j k : Nat} {x y : Int} (h : Sm j x) (h' : Sm k y) (l : j + k < 1000000) : mulI (.int x) (.int y) = .ok (.int (x * y)) := by
  have := h.log
  have := h'.log
  have e : mulI (.int x) (.int y) = if x.natAbs.log2 + y.natAbs.log2 < 1000000 then .ok (.int (x * y)) else .no := rfl
  rw [e, if_pos (by omega)]
/-! binomials -/
def ch : Nat → Nat → Nat
  | _, 0 => 1
  | 0, _ + 1 => 0
  | n + 1, k + 1 => ch n k + ch n (k + 1)
theorem ch_zero (n : Nat) : ch n 0 = 1 := by cases n <;> rfl
theorem ch_out : ∀ (n k : Nat), n < k → ch n k = 0
  | 0, k + 1, _ => rfl
  | n + 1, k + 1, h => by rw [ch, ch_out n k (by omega), ch_out n (k + 1) (by omega)]
theorem ch_succ : ∀ (n k : Nat), k ≤ n → ch n (k + 1) * (k + 1) = ch n k * (n - k)
  | 0, 0, _ => by simp [ch]
  | n + 1, 0, _ => by
    have e := ch_succ n 0 (Nat.zero_le _)
    rw [ch_zero] at e
    have e1 : ch (n + 1) (0 + 1) = ch n 0 + ch n (0 + 1) := rfl
    rw [e1, ch_zero, ch_zero]
    omega
  | n + 1, k + 1, h => by
    by_cases hk : k + 1 ≤ n
    · have e1 := ch_succ n (k + 1) hk
      have e2 := ch_succ n k (by omega)
      rw [ch, ch, Nat.add_mul, e1]
      have e3 : n + 1 - (k + 1) = n - k := by omega
      rw [e3, Nat.add_mul, ← e2]
      have e4 : n - k = (n - (k + 1)) + 1 := by omega
      rw [e4, Nat.mul_add, Nat.mul_add, Nat.mul_add]
      omega
    · have hk : k = n := by omega
      subst hk
      rw [ch, ch_out k (k + 1) (by omega), ch_out k (k + 1 + 1) (by omega)]
      simp
theorem ch_le : ∀ (n k : Nat), ch n k ≤ 2 ^ n
  | n, 0 => by rw [ch_zero]; exact Nat.one_le_two_pow
  | 0, k + 1 => Nat.zero_le _
  | n + 1, k + 1 => by
    have a := ch_le n k
    have b := ch_le n (k + 1)
    rw [ch, Nat.pow_succ]
    omega
theorem choose_loop (n : Nat) (hn : n ≤ 25) (s : D) : ∀ (m i : Nat) (x : Sl), isRow [x] 0 = false → i + m ≤ n → ∃ y, loopO (.nm 3) lb_n_choose_1 (rangeD i m) [.val (.int n), .val s, .val (.int (ch n i : Nat)), x] = .nx [.val (.int n), .val s, .val (.int (ch n (i + m) : Nat)), y]
  | 0, i, x, hx, h => ⟨x, rfl⟩
  | m + 1, i, x, hx, h => by
    obtain ⟨y, ih⟩ := choose_loop n hn s m (i + 1) (.val (.int i)) rfl (by omega)
    refine ⟨y, ?_⟩
    have e : i + 1 + m = i + (m + 1) := by omega
    rw [e] at ih
    simp at hx
    have s1 : Sm 26 ((ch n i : Nat) : Int) := Sm.of (Nat.lt_of_le_of_lt (ch_le n i) (Nat.pow_lt_pow_right (by decide) (by omega)))
    have s2 : Sm 5 ((n : Int) - (i : Int)) := by
      unfold Sm
      omega
    have e2 := ch_succ n i (by omega)
    have e3 : ((ch n i : Nat) : Int) * ((n : Int) - (i : Int)) / ((i : Int) + 1) = ((ch n (i + 1) : Nat) : Int) := by
      have e4 : ((n : Int) - (i : Int)) = ((n - i : Nat) : Int) := by omega
      rw [e4, ← Int.natCast_mul, ← e2]
      have e5 : ((i : Int) + 1) = ((i + 1 : Nat) : Int) := by omega
      rw [e5, Int.natCast_mul]
      exact Int.mul_ediv_cancel _ (by omega)
    have p1 : (0 : Int) < (i : Int) + 1 := by omega
    have p2 : ((i : Int) + 1).natAbs.log2 < 9000 := by
      have : Sm 5 ((i : Int) + 1) := by unfold Sm; omega
      have := this.log
      omega
    have ec : ((i : Int) + 1) = ((i + 1 : Nat) : Int) := by omega
    rw [rangeD_succ, loopO_cons]
    simp [-mul_int, lb_n_choose_1, hx, mul_sm s1 s2 (by decide), p1, p2, e3]
    rw [ec]
    exact ih
theorem inR_small {i : Nat} (h : i < 1000000) : inR (i : Int) := by
  unfold inR
  omega
theorem rng1_nat {m : Nat} (h : m < 1000000) : rng1L [.int (m : Int)] = some (rangeD 0 m) := by
  have e : rng1L [.int (m : Int)] = if inR (m : Int) then some (rangeD 0 (m : Int).toNat) else none := rfl
  rw [e, if_pos (inR_small h), Int.toNat_natCast]
theorem power_loop (b : Int) (kb : Nat) (hb : Sm kb b) (s : D) : ∀ (m i : Nat) (lo : Int) (x : Sl), isRow [x] 0 = false → kb * (i + m + 1) + 2 < 1000000 → ∃ y, loopO (.nm 3) lb_n_power_1 (rangeD lo m) [.val (.int b), .val s, .val (.int (b ^ i)), x] = .nx [.val (.int b), .val s, .val (.int (b ^ (i + m))), y]
  | 0, i, lo, x, hx, h => ⟨x, rfl⟩
  | m + 1, i, lo, x, hx, h => by
    obtain ⟨y, ih⟩ := power_loop b kb hb s m (i + 1) (lo + 1) (.val (.int lo)) rfl (by
      have : i + 1 + m + 1 = i + (m + 1) + 1 := by omega
      rw [this]; exact h)
    refine ⟨y, ?_⟩
    have e : i + 1 + m = i + (m + 1) := by omega
    rw [e] at ih
    simp at hx
    have s1 : ∀ j, Sm (kb * j + 1) (b ^ j) := by
      intro j
      induction j with
      | zero =>
        rw [Int.pow_zero, Nat.mul_zero, Nat.zero_add]
        exact show (1 : Int).natAbs < 2 ^ 1 by decide
      | succ j ihj =>
        rw [Int.pow_succ]
        refine (ihj.mul hb).mono ?_
        rw [Nat.mul_succ]
        omega
    have l : kb * i + 1 + kb < 1000000 := by
      have : kb * (i + 1) ≤ kb * (i + (m + 1) + 1) := Nat.mul_le_mul_left _ (by omega)
      rw [Nat.mul_succ] at this
      omega
    rw [rangeD_succ, loopO_cons]
    simp [lb_n_power_1, hx, mulI_sm (s1 i) hb l]
    rw [← Int.pow_succ]
    exact ih
theorem F_choose (n k : Nat) (hn : n ≤ 25) (hk : k ≤ n) : F_n_choose [.int n, .int k] = .ok (.int (ch n k : Nat)) := by
  obtain ⟨y, e⟩ := choose_loop n hn (.int k) k 0 .dead rfl (by omega)
  have hi := rng1_nat (m := k) (by omega)
  rw [ch_zero, Nat.zero_add] at e
  have e0 : ((0 : Nat) : Int) = 0 := rfl
  have e1 : ((1 : Nat) : Int) = 1 := rfl
  rw [e0, e1] at e
  simp [F_n_choose, g_n_choose, start0, hi, e]
theorem F_power (b : Int) (kb m : Nat) (hb : Sm kb b) (h : kb * (m + 1) + 2 < 1000000) (hm : m < 1000000) : F_n_power [.int b, .int m] = .ok (.int (b ^ m)) := by
  obtain ⟨y, e⟩ := power_loop b kb hb (.int m) m 0 0 .dead rfl (by simpa using h)
  have hi := rng1_nat hm
  rw [Int.pow_zero, Nat.zero_add] at e
  simp [F_n_power, g_n_power, start0, hi, e]
/-! the chance that more than half are right -/
def term (n t b m : Nat) : Nat := ch n m * t ^ m * (b - t) ^ (n - m)
def rightSum (n t b : Nat) : Nat := ((List.range (n - n / 2)).map fun i => term n t b (n / 2 + 1 + i)).sum
theorem Sm.pow {k : Nat} {x : Int} (h : Sm k x) : ∀ j : Nat, Sm (k * j + 1) (x ^ j)
  | 0 => by
    rw [Int.pow_zero, Nat.mul_zero, Nat.zero_add]
    exact show (1 : Int).natAbs < 2 ^ 1 by decide
  | j + 1 => by
    rw [Int.pow_succ]
    refine ((h.pow j).mul h).mono ?_
    rw [Nat.mul_succ]
    omega
theorem ce_right (n t b m : Nat) (hn : n ≤ 25) (hm : m ≤ n) (ht : t ≤ b) (hb : b < 2 ^ 100) (d3 d4 : Option D) : ce_n_right_by_1 [some (.int n), some (.int t), some (.int b), d3, d4, some (.int m)] = .ok (.int (term n t b m : Nat)) := by
  have s0 : Sm 26 ((ch n m : Nat) : Int) := Sm.of (Nat.lt_of_le_of_lt (ch_le n m) (Nat.pow_lt_pow_right (by decide) (by omega)))
  have st : Sm 100 (t : Int) := Sm.of (by omega)
  have sb : Sm 100 ((b - t : Nat) : Int) := Sm.of (by omega)
  have e1 : ((b : Int) - (t : Int)) = ((b - t : Nat) : Int) := by omega
  have e2 : ((n : Int) - (m : Int)) = ((n - m : Nat) : Int) := by omega
  have p1 := F_power (t : Int) 100 m st (by omega) (by omega)
  have p2 := F_power ((b - t : Nat) : Int) 100 (n - m) sb (by omega) (by omega)
  have m1 := mul_sm s0 (st.pow m) (by omega)
  have m2 := mul_sm (s0.mul (st.pow m)) (sb.pow (n - m)) (by omega)
  simp [-mul_int, ce_n_right_by_1, F_choose n m hn hm, p1, m1, e1, e2, p2, m2, term]
theorem pow_lt {b k n m : Nat} (hb : b < 2 ^ k) (h : k * n < m) : b ^ n < 2 ^ m := by
  have h1 : b ^ n ≤ (2 ^ k) ^ n := Nat.pow_le_pow_left (Nat.le_of_lt hb) n
  rw [← Nat.pow_mul] at h1
  exact Nat.lt_of_le_of_lt h1 (Nat.pow_lt_pow_right (by decide) h)
theorem F_right_by (n t b : Nat) (hn : n ≤ 25) (ht : t ≤ b) (hb0 : 0 < b) (hb : b < 2 ^ 100) : F_n_right_by [.int n, .int t, .int b] = .ok (lowT (rightSum n t b) (b ^ n)) := by
  have c1 : ((n : Int) / 2 + 1) = ((n / 2 + 1 : Nat) : Int) := by omega
  have c2 : ((n : Int) + 1) = ((n + 1 : Nat) : Int) := by omega
  have c3 : (((n + 1 : Nat) : Int) - ((n / 2 + 1 : Nat) : Int)).toNat = n - n / 2 := by omega
  have hin : inR ((n / 2 + 1 : Nat) : Int) ∧ inR ((n + 1 : Nat) : Int) := ⟨inR_small (by omega), inR_small (by omega)⟩
  have lg2 : (2 : Nat).log2 < 9000 := by decide +kernel
  have hl : (rangeD ((n / 2 + 1 : Nat) : Int) (n - n / 2)).length ≤ lim := by
    rw [rangeD_len]
    have : n - n / 2 ≤ 100 := by omega
    exact Nat.le_trans this (by decide)
  have hlc : lcL (.nm 5) yesB ce_n_right_by_1 [some (.int n), some (.int t), some (.int b), some (.rng ((n / 2 + 1 : Nat) : Int) ((n + 1 : Nat) : Int)), none, none] (rangeD ((n / 2 + 1 : Nat) : Int) (n - n / 2)) =
      .ok ((((List.range (n - n / 2)).map fun i => ((term n t b (n / 2 + 1 + i) : Nat) : Int))).map D.int) := by
    rw [lcL_map (fun d => match d with | .int v => .int ((term n t b v.toNat : Nat) : Int) | d => d) _ fun d hd => ?_]
    · unfold rangeD
      rw [List.map_map, List.map_map]
      congr 1
    · obtain ⟨i, hi, rfl⟩ := rangeD_mem hd
      have e : ((n / 2 + 1 : Nat) : Int) + (i : Int) = ((n / 2 + 1 + i : Nat) : Int) := by omega
      rw [e]
      exact ce_right n t b _ hn (by omega) ht hb _ _
  have hsum : D.sum (.lst (((List.range (n - n / 2)).map fun i => ((term n t b (n / 2 + 1 + i) : Nat) : Int)).map D.int)) = .ok (.int ((rightSum n t b : Nat) : Int)) := by
    unfold D.sum D.asInts
    simp only [intsOf_map, bind_ok]
    congr 2
    unfold rightSum
    generalize List.range (n - n / 2) = l
    induction l with
    | nil => rfl
    | cons x l ih => simp [ih]
  have sb : Sm 100 (b : Int) := Sm.of hb
  have pw := F_power (b : Int) 100 n sb (by omega) (by omega)
  have lo := F_lowest (rightSum n t b) (b ^ n) (Nat.pow_pos hb0) (pow_lt hb (by omega))
  rw [Int.natCast_pow] at lo
  generalize (List.range (n - n / 2)).map (fun i => ((term n t b (n / 2 + 1 + i) : Nat) : Int)) = L at hlc hsum
  generalize ((n / 2 + 1 : Nat) : Int) = A at c1 c3 hin hl hlc
  generalize ((n + 1 : Nat) : Int) = B at c2 c3 hin hl hlc
  simp [-mul_int, F_n_right_by, g_n_right_by, start0, rngD, lg2, c1, c2, c3, hin, hl, hlc, hsum, pw, lo]
end Lw
end
set_option Elab.async false
set_option linter.all false
set_option autoImplicit false
set_option maxRecDepth 100000
set_option maxHeartbeats 4000000
noncomputable section
namespace Lw
open Fw
def alikeN (st an : List (List Int)) (w : List Nat) (i : Nat) (r : Int) : Nat := ((List.range st.length).filter fun j => decide ((saidN st an j w).getD i 0 = r)).length
def rightI (st an : List (List Int)) (s : Nat) (w : List Nat) (i : Nat) : Int := (saidN st an s w).getD i 0
def topN (st an : List (List Int)) (s : Nat) (w : List Nat) (t q i : Nat) : Nat := (q - t) * st.length + t * alikeN st an w i (rightI st an s w i)
def goodN (st an : List (List Int)) (s : Nat) (w : List Nat) (n t q i : Nat) : Nat := rightSum n (topN st an s w t q i) (q * st.length)
def wholeN (st : List (List Int)) (n q : Nat) : Nat := (q * st.length) ^ n
def chD (st an : List (List Int)) (s : Nat) (w : List Nat) (n t q i : Nat) : D := lowT (goodN st an s w n t q i) (wholeN st n q)
theorem alikeN_le (st an : List (List Int)) (w : List Nat) (i : Nat) (r : Int) : alikeN st an w i r ≤ st.length := by
  unfold alikeN
  have := List.length_filter_le (fun j => decide ((saidN st an j w).getD i 0 = r)) (List.range st.length)
  simpa using this
theorem topN_le (st an : List (List Int)) (s : Nat) (w : List Nat) (t q i : Nat) (h : t ≤ q) : topN st an s w t q i ≤ q * st.length := by
  unfold topN
  have := alikeN_le st an w i (rightI st an s w i)
  have h1 : t * alikeN st an w i (rightI st an s w i) ≤ t * st.length := Nat.mul_le_mul_left _ this
  have h2 : (q - t) * st.length + t * st.length = q * st.length := by
    rw [← Nat.add_mul]
    congr 1
    omega
  omega
theorem mul_small {a b : Nat} (h : a < 2 ^ 100) (h' : b < 2 ^ 100) : D.mul (.int (a : Int)) (.int (b : Int)) = .ok (.int ((a * b : Nat) : Int)) := by
  rw [mul_sm (Sm.of h) (Sm.of h') (by omega), Int.natCast_mul]
def atI (i : Nat) : D → Int
  | .lst ds => match ds[i]? with | some (.int v) => v | _ => 0
  | _ => 0
theorem atI_iL {q : List Int} {i : Nat} (h : i < q.length) : atI i (.lst (iL q)) = q.getD i 0 := by
  have := get_iL h
  simp [-List.getD_eq_getElem?_getD, atI, this]
theorem ch_rows (rows : List (List Int)) (i : Nat) (r : Int) (right : List Int) (hr : ∀ q ∈ rows, i < q.length) (hi : i < right.length) (hx : right.getD i 0 = r)
    (m c ch wy wd S : Option D) (y10 y11 y12 : Option D) (o7 o8 : Option D) :
    lcL (.nm 13) ct_n_chances_of_1 ce_n_chances_of_2 [m, c, ch, wy, wd, S, some (.lst (iL right)), o7, o8, some (.int i), y10, y11, y12, none] (rows.map fun q => .lst (iL q)) = .ok ((rows.filter fun q => decide (q.getD i 0 = r)).map fun q => .lst (iL q)) := by
  rw [lcL_eq (fun d => decide (atI i d = r)) (fun d => d) _ (fun d hd => ?_) (fun d hd _ => ?_)]
  · congr 1
    rw [List.map_id', List.filter_map]
    congr 1
    refine List.filter_congr fun q hq => ?_
    simp only [Function.comp, atI_iL (hr q hq)]
  · obtain ⟨q, hq, rfl⟩ := List.mem_map.mp hd
    have e1 := lst_at (hr q hq)
    have e2 := lst_at hi
    rw [hx] at e2
    rw [atI_iL (hr q hq)]
    simp [-ix_lst, -List.getD_eq_getElem?_getD, ct_n_chances_of_1, e1, e2]
  · obtain ⟨q, hq, rfl⟩ := List.mem_map.mp hd
    simp [ce_n_chances_of_2]
theorem F_right_chance (st an : List (List Int)) (s : Nat) (w : List Nat) (n t q i : Nat) (hn : n ≤ 25) (ht : t ≤ q) (hq : 0 < q) (hq2 : q ≤ 100) (hs : 0 < st.length) (hs2 : st.length ≤ 6) :
    F_n_right_by [.int n, .int (topN st an s w t q i : Nat), .int (q * st.length : Nat)] = .ok (chD st an s w n t q i) := by
  have h : q * st.length ≤ 100 * 6 := Nat.mul_le_mul hq2 hs2
  exact F_right_by n _ _ hn (topN_le st an s w t q i ht) (Nat.mul_pos hq hs) (Nat.lt_of_le_of_lt h (by decide))
theorem chances_loop (st an : List (List Int)) (s : Nat) (w : List Nat) (n t q : Nat) (hn : n ≤ 25) (ht : t ≤ q) (hq : 0 < q) (hq2 : q ≤ 100) (hs : 0 < st.length) (hs2 : st.length ≤ 6) (M wy wd : D) :
    ∀ (m i : Nat) (x9 x10 x11 : Sl) (acc : List D), isRow [x9] 0 = false → isRow [x10] 0 = false → isRow [x11] 0 = false → i + m = w.length → acc.length + m ≤ 4000 →
    ∃ y9 y10 y11, loopO (.nm 9) lb_n_chances_of_1 (rangeD i m) [.val M, .val (.int n), .val (.tup [.int t, .int q]), .val wy, .val wd, .val (.int st.length), .val (.lst (iL (saidN st an s w))), .val (.lst ((List.range st.length).map fun j => .lst (iL (saidN st an j w)))), .own (.lst acc), x9, x10, x11, .dead, .dead]
      = .nx [.val M, .val (.int n), .val (.tup [.int t, .int q]), .val wy, .val wd, .val (.int st.length), .val (.lst (iL (saidN st an s w))), .val (.lst ((List.range st.length).map fun j => .lst (iL (saidN st an j w)))), .own (.lst (acc ++ (List.range' i m).map fun j => chD st an s w n t q j)), y9, y10, y11, .dead, .dead]
  | 0, i, x9, x10, x11, acc, h9, h10, h11, he, hl => ⟨x9, x10, x11, by rw [List.range'_zero, List.map_nil, List.append_nil]; rfl⟩
  | m + 1, i, x9, x10, x11, acc, h9, h10, h11, he, hl => by
    obtain ⟨y9, y10, y11, ih⟩ := chances_loop st an s w n t q hn ht hq hq2 hs hs2 M wy wd m (i + 1) (.val (.int i)) (.val (.int (alikeN st an w i (rightI st an s w i) : Nat))) (.val (.int (topN st an s w t q i : Nat))) (acc ++ [chD st an s w n t q i]) rfl rfl rfl (by omega) (by simp; omega)
    refine ⟨y9, y10, y11, ?_⟩
    have hal := alikeN_le st an w i (rightI st an s w i)
    have hr := ch_rows ((List.range st.length).map fun j => saidN st an j w) i (rightI st an s w i) (saidN st an s w) (fun r hr => by
      obtain ⟨j, _, rfl⟩ := List.mem_map.mp hr
      rw [saidN_len]
      omega) (by rw [saidN_len]; omega) rfl
    rw [List.map_map] at hr
    have ef : ((fun q => D.lst (iL q)) ∘ fun j => saidN st an j w) = fun j => D.lst (iL (saidN st an j w)) := rfl
    have el : ((((List.range st.length).map fun j => saidN st an j w).filter fun q => decide (q.getD i 0 = rightI st an s w i)).map fun q => D.lst (iL q)).length = alikeN st an w i (rightI st an s w i) := by
      rw [List.length_map, List.filter_map, List.length_map]
      rfl
    rw [ef] at hr
    generalize hX : ((((List.range st.length).map fun j => saidN st an j w).filter fun q => decide (q.getD i 0 = rightI st an s w i)).map fun q => D.lst (iL q)) = X at hr el
    have rc := F_right_chance st an s w n t q i hn ht hq hq2 hs hs2
    have e1 : ((q : Int) - (t : Int)) = ((q - t : Nat) : Int) := by omega
    have m1 := mul_small (a := q - t) (b := st.length) (by omega) (by omega)
    have m2 := mul_small (a := t) (b := alikeN st an w i (rightI st an s w i)) (by omega) (by omega)
    have m3 := mul_small (a := q) (b := st.length) (by omega) (by omega)
    have e2 : ((((q - t) * st.length : Nat) : Int) + ((t * alikeN st an w i (rightI st an s w i) : Nat) : Int)) = ((topN st an s w t q i : Nat) : Int) := by
      unfold topN
      omega
    have hl0 : ((List.range st.length).map fun j => D.lst (iL (saidN st an j w))).length ≤ lim := by
      rw [List.length_map, List.length_range]
      exact Nat.le_trans hs2 (by decide)
    have hl2 : acc.length < lim := by
      have : acc.length < 4000 := by omega
      exact Nat.lt_trans this (by decide)
    simp at h9 h10 h11
    have ec : ((i : Int) + 1) = ((i + 1 : Nat) : Int) := by omega
    generalize ((List.range st.length).map fun j => D.lst (iL (saidN st an j w))) = R at hr hl0 ih ⊢
    generalize saidN st an s w = SD at hr ih ⊢
    rw [List.append_assoc] at ih
    generalize ((q - t : Nat) : Int) = A1 at *
    generalize (((q - t) * st.length : Nat) : Int) = A2 at *
    generalize ((t * alikeN st an w i (rightI st an s w i) : Nat) : Int) = A3 at *
    generalize ((q * st.length : Nat) : Int) = A4 at *
    generalize ((topN st an s w t q i : Nat) : Int) = A5 at *
    rw [rangeD_succ, loopO_cons]
    simp [-mul_int, lb_n_chances_of_1, h9, h10, h11, hr, hl0, hl2, el, ixG_zero, ixG_one, e1, m1, m2, m3, e2, rc]
    rw [ec]
    exact ih
theorem F_chances_of {st an : List (List Int)} {l : Nat} (G : Good st an l) (n t q : Nat) (w1 w2 : List Nat) (hn : n ≤ 25) (ht : t ≤ q) (hq : 0 < q) (hq2 : q ≤ 100) (h1 : ∀ a ∈ w1, a < l) (h2 : ∀ a ∈ w2, a < l) (hl : w2.length ≤ 4000) :
    F_n_chances_of [machT st an, .int n, .tup [.int t, .int q], .tup (wN w1), .tup (wN w2)] = .ok (.lst ((List.range' 0 w2.length).map fun j => chD st an (runN st 0 w1) w2 n t q j)) := by
  have n1 := G.n1
  have n6 := G.n6
  have hs : runN st 0 w1 < st.length := G.run w1 0 (by omega) h1
  have hled := F_led G w1 0 (by omega) h1
  have htold := F_told G w2 _ hs h2 hl
  have hrows : lcL (.nm 12) yesB ce_n_chances_of_1 [some (machT st an), some (.int n), some (.tup [.int t, .int q]), some (.tup (wN w1)), some (.tup (wN w2)), some (.int st.length), some (.lst (iL (saidN st an (runN st 0 w1) w2))), none, none, none, none, none, none, none] (rangeD 0 st.length) = .ok ((List.range st.length).map fun j => .lst (iL (saidN st an j w2))) := by
    rw [lcL_map (fun d => match d with | .int v => .lst (iL (saidN st an v.toNat w2)) | d => d) _ fun d hd => ?_]
    · unfold rangeD
      rw [List.map_map]
      congr 2
      funext j
      simp
    · obtain ⟨i, hi, rfl⟩ := rangeD_mem hd
      have e : (0 : Int) + (i : Int) = ((i : Nat) : Int) := by omega
      rw [e]
      have := F_told G w2 i hi h2 hl
      simp [ce_n_chances_of_1, this]
  obtain ⟨y9, y10, y11, e⟩ := chances_loop st an (runN st 0 w1) w2 n t q hn ht hq hq2 (by omega) (by omega) (machT st an) (.tup (wN w1)) (.tup (wN w2)) w2.length 0 .dead .dead .dead [] rfl rfl rfl (by omega) (by simpa using hl)
  have r1 := rng1_nat (m := st.length) (by omega)
  have r2 := rng1_nat (m := w2.length) (by omega)
  have rl : (rangeD 0 st.length).length ≤ lim := by
    rw [rangeD_len]
    exact Nat.le_trans n6 (by decide)
  have ln : (rowsT st).len = .ok (.int st.length) := by simp [rowsT]
  have lw : (wN w2).length = w2.length := by simp [wN]
  have e0 : ((0 : Nat) : Int) = 0 := rfl
  rw [e0] at hled e
  rw [List.nil_append] at e
  generalize (List.range st.length).map (fun j => D.lst (iL (saidN st an j w2))) = R at *
  generalize saidN st an (runN st 0 w1) w2 = SD at *
  generalize (List.range' 0 w2.length).map (fun j => chD st an (runN st 0 w1) w2 n t q j) = X at *
  simp [-ix_tup, F_n_chances_of, g_n_chances_of, start0, mach0, rowsT, hled, htold, r1, rl, ln, hrows, r2, lw, e]
end Lw
end
set_option Elab.async false
set_option linter.all false
set_option autoImplicit false
set_option maxRecDepth 100000
set_option maxHeartbeats 4000000
noncomputable section
namespace Lw
open Fw
theorem F_need_chance (t q : Nat) (ht : t ≤ q) (hq : 0 < q) (hq2 : q ≤ 100) : F_n_need_chance [.tup [.int t, .int q]] = .ok .non := by
  have a1 : (1 : Int) ≤ (q : Int) := by omega
  have a2 : (q : Int) ≤ 100 := by omega
  have a3 : (0 : Int) ≤ (t : Int) := by omega
  have a4 : (t : Int) ≤ (q : Int) := by omega
  simp [F_n_need_chance, g_n_need_chance, start0, ixG_zero, ixG_one, F_is_number, a1, a2, a3, a4]
theorem wN_iL (w : List Nat) : wN w = iL (w.map fun (a : Nat) => (a : Int)) := by
  unfold wN iL
  rw [List.map_map]
  rfl
theorem F_need_wordN {st an : List (List Int)} {l : Nat} (G : Good st an l) (w : List Nat) (hl : w.length ≤ 4000) (h : ∀ a ∈ w, a < l) : F_n_need_word [machT st an, .tup (wN w)] = .ok .non := by
  rw [wN_iL]
  refine F_need_word G _ (by simpa using hl) fun v hv => ?_
  obtain ⟨a, ha, rfl⟩ := List.mem_map.mp hv
  have := h a ha
  omega
theorem F_need_all {st an : List (List Int)} {l : Nat} (G : Good st an l) (n t q : Nat) (w1 w2 : List Nat) (hn : n ≤ 25) (hn1 : 1 ≤ n) (ht : t ≤ q) (hq : 0 < q) (hq2 : q ≤ 100) (h1 : ∀ a ∈ w1, a < l) (h2 : ∀ a ∈ w2, a < l) (hl1 : w1.length ≤ 4000) (hl : w2.length ≤ 4000) :
    F_n_need_all [machT st an, .int n, .tup [.int t, .int q], .tup (wN w1), .tup (wN w2)] = .ok .non := by
  have c := F_need_chance t q ht hq hq2
  have b := F_need_number n 1 25 (by omega) (by omega)
  have a := F_need_machine G
  have d := F_need_wordN G w1 hl1 h1
  have e := F_need_wordN G w2 hl h2
  simp [F_n_need_all, g_n_need_all, start0, a, b, c, d, e]
theorem F_right_chances {st an : List (List Int)} {l : Nat} (G : Good st an l) (n t q : Nat) (w1 w2 : List Nat) (hn : n ≤ 25) (hn1 : 1 ≤ n) (ht : t ≤ q) (hq : 0 < q) (hq2 : q ≤ 100) (h1 : ∀ a ∈ w1, a < l) (h2 : ∀ a ∈ w2, a < l) (hl1 : w1.length ≤ 4000) (hl : w2.length ≤ 4000) :
    F_n_right_chances [machT st an, .int n, .tup [.int t, .int q], .tup (wN w1), .tup (wN w2)] = .ok (.tup ((List.range' 0 w2.length).map fun j => chD st an (runN st 0 w1) w2 n t q j)) := by
  have a := F_need_all G n t q w1 w2 hn hn1 ht hq hq2 h1 h2 hl1 hl
  have b := F_chances_of G n t q w1 w2 hn ht hq hq2 h1 h2 hl
  generalize (List.range' 0 w2.length).map (fun j => chD st an (runN st 0 w1) w2 n t q j) = X at *
  simp [F_n_right_chances, g_n_right_chances, start0, a, b]
/-! fractions -/
theorem lowT_eq {x y u v : Nat} (hy : 0 < y) (hv : 0 < v) (h : x * v = u * y) : lowT x y = lowT u v := by
  have g1 : 0 < Nat.gcd x y := Nat.gcd_pos_of_pos_right _ hy
  have g2 : 0 < Nat.gcd u v := Nat.gcd_pos_of_pos_right _ hv
  have e : Nat.gcd x y * v = Nat.gcd u v * y := by
    rw [← Nat.gcd_mul_right, ← Nat.gcd_mul_right, h, Nat.mul_comm y v]
  have e' : Nat.gcd x y * u = Nat.gcd u v * x := by
    have : (Nat.gcd x y * u) * v = (Nat.gcd u v * x) * v := by
      calc (Nat.gcd x y * u) * v = (Nat.gcd x y * v) * u := by rw [Nat.mul_right_comm]
        _ = Nat.gcd u v * y * u := by rw [e]
        _ = Nat.gcd u v * (u * y) := by rw [Nat.mul_assoc, Nat.mul_comm y u]
        _ = Nat.gcd u v * (x * v) := by rw [h]
        _ = (Nat.gcd u v * x) * v := by rw [Nat.mul_assoc]
    exact Nat.eq_of_mul_eq_mul_right hv this
  have d1 := Nat.gcd_dvd_left x y
  have d2 := Nat.gcd_dvd_right x y
  have d3 := Nat.gcd_dvd_left u v
  have d4 := Nat.gcd_dvd_right u v
  have q1 : x / Nat.gcd x y = u / Nat.gcd u v := by
    refine Nat.div_eq_of_eq_mul_left g1 ?_
    rw [Nat.div_mul_right_comm d3]
    symm
    refine Nat.div_eq_of_eq_mul_left g2 ?_
    rw [Nat.mul_comm u, e', Nat.mul_comm]
  have q2 : y / Nat.gcd x y = v / Nat.gcd u v := by
    refine Nat.div_eq_of_eq_mul_left g1 ?_
    rw [Nat.div_mul_right_comm d4]
    symm
    refine Nat.div_eq_of_eq_mul_left g2 ?_
    rw [Nat.mul_comm v, e, Nat.mul_comm]
  unfold lowT
  rw [q1, q2]
theorem low_cross (x y : Nat) : x / Nat.gcd x y * y = x * (y / Nat.gcd x y) := by
  rw [← Nat.mul_div_right_comm (Nat.gcd_dvd_left x y), Nat.mul_div_assoc x (Nat.gcd_dvd_right x y)]
end Lw
end
set_option Elab.async false
set_option linter.all false
set_option autoImplicit false
set_option maxRecDepth 100000
set_option maxHeartbeats 4000000
noncomputable section
namespace Lw
open Fw
/-! how the whole of the copies tells: plain numbers -/
def ss (f : Nat → Nat) : Nat → Nat → Nat
  | _, 0 => 0
  | k, c + 1 => f k + ss f (k + 1) c
theorem ss_range (f : Nat → Nat) : ∀ c k : Nat, ((List.range' 0 c).map fun i => f (k + i)).sum = ss f k c
  | 0, _ => rfl
  | c + 1, k => by
    rw [List.range'_succ, List.map_cons, List.sum_cons, ss, ← ss_range f c (k + 1), ← List.map_add_range' (a := 1) (s := 0), List.map_map]
    congr 3
    funext i
    simp only [Function.comp]
    congr 1
    omega
theorem ss_zero {f : Nat → Nat} : ∀ c k : Nat, (∀ i, k ≤ i → f i = 0) → ss f k c = 0
  | 0, _, _ => rfl
  | c + 1, k, h => by rw [ss, h k (Nat.le_refl _), ss_zero c (k + 1) fun i hi => h i (by omega)]
def tm (t u n m : Nat) : Nat := ch n m * t ^ m * u ^ (n - m)
theorem tm_zero (t u n : Nat) : tm t u (n + 1) 0 = u * tm t u n 0 := by
  unfold tm
  rw [ch_zero, ch_zero, Nat.sub_zero, Nat.sub_zero, Nat.pow_succ]
  simp [Nat.mul_comm]
theorem tm_succ (t u n m : Nat) : tm t u (n + 1) (m + 1) = t * tm t u n m + u * tm t u n (m + 1) := by
  unfold tm
  rw [ch, Nat.pow_succ, Nat.add_sub_add_right]
  by_cases h : m + 1 ≤ n
  · have e : n - m = (n - (m + 1)) + 1 := by omega
    rw [e, Nat.pow_succ]
    generalize ch n m = a
    generalize ch n (m + 1) = b
    generalize t ^ m = x
    generalize u ^ (n - (m + 1)) = y
    rw [Nat.add_mul, Nat.add_mul]
    congr 1
    · ac_rfl
    · ac_rfl
  · rw [ch_out n (m + 1) (by omega)]
    simp
    ac_rfl
theorem tm_out (t u n m : Nat) (h : n < m) : tm t u n m = 0 := by
  unfold tm
  rw [ch_out n m h]
  simp
theorem ss_tm (t u n : Nat) : ∀ c k : Nat, ss (tm t u (n + 1)) (k + 1) c = t * ss (tm t u n) k c + u * ss (tm t u n) (k + 1) c
  | 0, _ => rfl
  | c + 1, k => by
    rw [ss, ss, ss, ss_tm t u n c (k + 1), tm_succ, Nat.mul_add, Nat.mul_add]
    omega
/-- the whole of n pushes -/
def Ex (t u : Nat) : Nat → (Nat → Nat) → Nat
  | 0, f => f 0
  | n + 1, f => Ex t u n fun c => t * f (c + 1) + u * f c
theorem Ex_lin (t u a b : Nat) : ∀ (n : Nat) (f h : Nat → Nat), Ex t u n (fun c => a * f c + b * h c) = a * Ex t u n f + b * Ex t u n h
  | 0, f, h => rfl
  | n + 1, f, h => by
    rw [Ex, Ex, Ex, ← Ex_lin t u a b n]
    congr 1
    funext c
    simp only [Nat.mul_add]
    have e1 : t * (a * f (c + 1)) = a * (t * f (c + 1)) := Nat.mul_left_comm _ _ _
    have e2 : t * (b * h (c + 1)) = b * (t * h (c + 1)) := Nat.mul_left_comm _ _ _
    have e3 : u * (a * f c) = a * (u * f c) := Nat.mul_left_comm _ _ _
    have e4 : u * (b * h c) = b * (u * h c) := Nat.mul_left_comm _ _ _
    omega
theorem Ex_succ (t u n : Nat) (f : Nat → Nat) : Ex t u (n + 1) f = t * Ex t u n (fun c => f (c + 1)) + u * Ex t u n f := by
  rw [Ex, Ex_lin t u t u n (fun c => f (c + 1)) f]
theorem Ex_one (t u : Nat) : ∀ n : Nat, Ex t u n (fun _ => 1) = (t + u) ^ n
  | 0 => rfl
  | n + 1 => by
    rw [Ex_succ, Ex_one t u n, Nat.pow_succ, ← Nat.add_mul, Nat.mul_comm]
def ge1 (k c : Nat) : Nat := if k ≤ c then 1 else 0
theorem ss_Ex (t u : Nat) : ∀ (n k c : Nat), n < k + c → ss (tm t u n) k c = Ex t u n (ge1 k)
  | 0, 0, 0, h => by omega
  | 0, 0, c + 1, h => by
    rw [ss, ss_zero c (0 + 1) fun i hi => tm_out t u 0 i (by omega)]
    rfl
  | 0, k + 1, c, h => by
    rw [ss_zero c (k + 1) fun i hi => tm_out t u 0 i (by omega)]
    rfl
  | n + 1, 0, 0, h => by omega
  | n + 1, 0, c + 1, h => by
    have e1 := ss_Ex t u n 0 c (by omega)
    have e2 := ss_Ex t u n 0 (c + 1) (by omega)
    rw [ss] at e2
    rw [ss, ss_tm, tm_zero, Ex_succ, e1]
    have e3 : (fun c => ge1 0 (c + 1)) = ge1 0 := rfl
    rw [e3, ← e2]
    simp only [Nat.mul_add]
    omega
  | n + 1, k + 1, c, h => by
    have e3 : (fun c => ge1 (k + 1) (c + 1)) = ge1 k := by
      funext c
      unfold ge1
      simp
    rw [ss_tm, ss_Ex t u n k c (by omega), ss_Ex t u n (k + 1) c (by omega), Ex_succ, e3]
theorem Ex_le (t u : Nat) : ∀ (n : Nat) (f h : Nat → Nat), (∀ c, f c ≤ h c) → Ex t u n f ≤ Ex t u n h
  | 0, f, h, l => l 0
  | n + 1, f, h, l => Ex_le t u n _ _ fun c => Nat.add_le_add (Nat.mul_le_mul_left _ (l _)) (Nat.mul_le_mul_left _ (l _))
theorem right_Ex (n t b : Nat) : rightSum n t b = Ex t (b - t) n (ge1 (n / 2 + 1)) := by
  rw [← ss_Ex t (b - t) n (n / 2 + 1) (n - n / 2) (by omega), ← ss_range, List.range_eq_range'.symm]
  rfl
theorem right_le (n t b : Nat) (h : t ≤ b) : rightSum n t b ≤ b ^ n := by
  rw [right_Ex]
  have e := Ex_one t (b - t) n
  have : t + (b - t) = b := by omega
  rw [this] at e
  rw [← e]
  refine Ex_le t (b - t) n _ _ fun c => ?_
  unfold ge1
  split <;> omega
end Lw
end
set_option Elab.async false
set_option linter.all false
set_option autoImplicit false
set_option maxRecDepth 100000
set_option maxHeartbeats 4000000
noncomputable section
namespace Lw
open Fw
def meanN (W : Nat) : List Nat → Nat × Nat → Nat × Nat
  | [], p => p
  | g :: gs, p => meanN W gs (p.1 * W + p.2 * (W - g), p.2 * W)
theorem mean_step {c d g W : Nat} (hd : 0 < d) (hW : 0 < W) (hg : g ≤ W) :
    lowT (c / Nat.gcd c d * (W / Nat.gcd g W) + d / Nat.gcd c d * (W / Nat.gcd g W - g / Nat.gcd g W)) (d / Nat.gcd c d * (W / Nat.gcd g W)) = lowT (c * W + d * (W - g)) (d * W) := by
  have x1 := low_cross c d
  have x2 := low_cross g W
  have p1 : 0 < d / Nat.gcd c d := Nat.div_pos (Nat.gcd_le_right _ hd) (Nat.gcd_pos_of_pos_right _ hd)
  have p2 : 0 < W / Nat.gcd g W := Nat.div_pos (Nat.gcd_le_right _ hW) (Nat.gcd_pos_of_pos_right _ hW)
  generalize c / Nat.gcd c d = a at *
  generalize d / Nat.gcd c d = b at *
  generalize g / Nat.gcd g W = x at *
  generalize W / Nat.gcd g W = y at *
  refine lowT_eq (Nat.mul_pos p1 p2) (Nat.mul_pos hd hW) ?_
  have x3 : (y - x) * W = y * (W - g) := by
    rw [Nat.sub_mul, Nat.mul_sub, x2, Nat.mul_comm g y]
  rw [Nat.add_mul, Nat.add_mul]
  congr 1
  · calc a * y * (d * W) = (a * d) * (y * W) := by ac_rfl
      _ = (c * b) * (y * W) := by rw [x1]
      _ = c * W * (b * y) := by ac_rfl
  · calc b * (y - x) * (d * W) = (b * d) * ((y - x) * W) := by ac_rfl
      _ = (b * d) * (y * (W - g)) := by rw [x3]
      _ = d * (W - g) * (b * y) := by ac_rfl
theorem miss_loop (K W : Nat) (hW : 0 < W) (hWK : W < 2 ^ K) (m n ch wy wd : D) : ∀ (gs : List Nat) (c d X : Nat) (x6 x7 : Sl), isRow [x6] 0 = false → isRow [x7] 0 = false → 0 < d → c < 2 ^ X → d < 2 ^ X → (∀ g ∈ gs, g ≤ W) → X + (K + 1) * gs.length ≤ 7900 →
    ∃ y6 y7, loopO (.tp [.nm 6, .nm 7]) lb_n_mean_misses_1 (gs.map fun g => lowT g W) [.val m, .val n, .val ch, .val wy, .val wd, .val (lowT c d), x6, x7] = .nx [.val m, .val n, .val ch, .val wy, .val wd, .val (lowT (meanN W gs (c, d)).1 (meanN W gs (c, d)).2), y6, y7]
  | [], c, d, X, x6, x7, h6, h7, hd, hc, hd2, hg, hX => ⟨x6, x7, rfl⟩
  | g :: gs, c, d, X, x6, x7, h6, h7, hd, hc, hd2, hg, hX => by
    have hgW := hg g List.mem_cons_self
    have hX1 : X + K + 1 + (K + 1) * gs.length ≤ 7900 := by
      rw [List.length_cons, Nat.mul_succ] at hX
      omega
    have cX : c * W + d * (W - g) < 2 ^ (X + K + 1) := by
      have a1 : c * W ≤ 2 ^ X * 2 ^ K := Nat.mul_le_mul (Nat.le_of_lt hc) (Nat.le_of_lt hWK)
      have a2 : d * (W - g) < 2 ^ X * 2 ^ K := Nat.mul_lt_mul'' hd2 (by omega)
      rw [Nat.pow_succ, Nat.pow_add]
      omega
    have dX : d * W < 2 ^ (X + K + 1) := by
      have a2 : d * W < 2 ^ X * 2 ^ K := Nat.mul_lt_mul'' hd2 hWK
      rw [Nat.pow_succ, Nat.pow_add]
      omega
    obtain ⟨y6, y7, ih⟩ := miss_loop K W hW hWK m n ch wy wd gs _ _ (X + K + 1) (.val (.int ((g / Nat.gcd g W : Nat) : Int))) (.val (.int ((W / Nat.gcd g W : Nat) : Int))) rfl rfl (Nat.mul_pos hd hW) cX dX (fun q hq => hg q (List.mem_cons_of_mem _ hq)) hX1
    refine ⟨y6, y7, ?_⟩
    rw [meanN]
    rw [← mean_step hd hW hgW] at ih
    simp at h6 h7
    have p1 : 0 < d / Nat.gcd c d := Nat.div_pos (Nat.gcd_le_right _ hd) (Nat.gcd_pos_of_pos_right _ hd)
    have p2 : 0 < W / Nat.gcd g W := Nat.div_pos (Nat.gcd_le_right _ hW) (Nat.gcd_pos_of_pos_right _ hW)
    have l1 : c / Nat.gcd c d < 2 ^ X := Nat.lt_of_le_of_lt (Nat.div_le_self _ _) hc
    have l2 : d / Nat.gcd c d < 2 ^ X := Nat.lt_of_le_of_lt (Nat.div_le_self _ _) hd2
    have l3 : W / Nat.gcd g W < 2 ^ K := Nat.lt_of_le_of_lt (Nat.div_le_self _ _) hWK
    have l4 : g / Nat.gcd g W ≤ W / Nat.gcd g W := Nat.div_le_div_right hgW
    have hl : ∀ q : Nat, lowT c d = lowT c d := fun _ => rfl
    rw [List.map_cons, loopO_cons]
    unfold lowT at ih ⊢
    generalize c / Nat.gcd c d = a at *
    generalize d / Nat.gcd c d = b at *
    generalize g / Nat.gcd g W = x at *
    generalize W / Nat.gcd g W = y at *
    have m1 := mul_sm (Sm.of l1) (Sm.of l3) (by omega)
    have m2 := mul_sm (Sm.of l2) (Sm.of (show y - x < 2 ^ K by omega)) (by omega)
    have m3 := mul_sm (Sm.of l2) (Sm.of l3) (by omega)
    have e1 : ((y : Int) - (x : Int)) = ((y - x : Nat) : Int) := by omega
    have lb : b * y < 2 ^ 8000 := by
      have : b * y < 2 ^ X * 2 ^ K := Nat.mul_lt_mul'' l2 l3
      rw [← Nat.pow_add] at this
      exact Nat.lt_of_lt_of_le this (Nat.pow_le_pow_right (by decide) (by omega))
    have lo := F_lowest (a * y + b * (y - x)) (b * y) (Nat.mul_pos p1 p2) lb
    rw [Int.natCast_add, Int.natCast_mul, Int.natCast_mul, Int.natCast_mul] at lo
    generalize ((y - x : Nat) : Int) = Z at *
    unfold lowT at lo
    simp [-mul_int, lb_n_mean_misses_1, h6, h7, ixG_zero, ixG_one, m1, m2, m3, e1, lo]
    exact ih
end Lw
end
set_option Elab.async false
set_option linter.all false
set_option autoImplicit false
set_option maxRecDepth 100000
set_option maxHeartbeats 4000000
noncomputable section
namespace Lw
open Fw
/-! ### draws: machines and words -/
def AllO (P : SEnv → Prop) : Out → Prop
  | .nx ρ => P ρ
  | .dr n k => ∀ i, 0 ≤ i → i < n → AllO P (k i)
  | _ => False
theorem AllO.bindR {α : Type} {P : α → Prop} {Q : SEnv → Prop} {k : α → Out} (h : ∀ d, P d → AllO Q (k d)) : ∀ {r : Res α}, AllOk P r → AllO Q (bindO r k)
  | .ok d, p => h d p
  | .dr n j, p => fun i h1 h2 => AllO.bindR h (p i h1 h2)
  | .ex _ _, p => p.elim
  | .no, p => p.elim
theorem AllO.thn {P Q : SEnv → Prop} {k : SEnv → Out} (h : ∀ ρ, P ρ → AllO Q (k ρ)) : ∀ {o : Out}, AllO P o → AllO Q (o.then k)
  | .nx d, p => h d p
  | .dr n j, p => fun i h1 h2 => AllO.thn h (p i h1 h2)
  | .ex _ _, p => p.elim
  | .no, p => p.elim
  | .rt _ _, p => p.elim
  | .bk _, p => p.elim
  | .ct _, p => p.elim
theorem AllO.trn {P Q : SEnv → Prop} {k : SEnv → Out} (h : ∀ ρ, P ρ → AllO Q (k ρ)) : ∀ {o : Out}, AllO P o → AllO Q (o.turn k)
  | .nx d, p => h d p
  | .dr n j, p => fun i h1 h2 => AllO.trn h (p i h1 h2)
  | .ex _ _, p => p.elim
  | .no, p => p.elim
  | .rt _ _, p => p.elim
  | .bk _, p => p.elim
  | .ct _, p => p.elim
theorem AllO.done {P : SEnv → Prop} {Q : D → Prop} {k : SEnv → Out} (h : ∀ ρ, P ρ → AllOk Q (k ρ).fin) : ∀ {o : Out}, AllO P o → AllOk Q (o.then k).fin
  | .nx d, p => h d p
  | .dr n j, p => fun i h1 h2 => AllO.done h (p i h1 h2)
  | .ex _ _, p => p.elim
  | .no, p => p.elim
  | .rt _ _, p => p.elim
  | .bk _, p => p.elim
  | .ct _, p => p.elim
theorem AllOk.fin {α : Type} {P : α → Prop} {Q : D → Prop} {k : α → Out} (h : ∀ d, P d → AllOk Q (k d).fin) : ∀ {r : Res α}, AllOk P r → AllOk Q (bindO r k).fin
  | .ok d, p => h d p
  | .dr n j, p => fun i h1 h2 => AllOk.fin h (p i h1 h2)
  | .ex _ _, p => p.elim
  | .no, p => p.elim
theorem taken_ok (n : Int) (h : 0 < n) (h2 : n ≤ 1000000) : F_n__law_taken [.row, .int n] = .dr n fun i => .ok (.int i) := by
  have : n.natAbs.log2 < 9000 := by
    have := log2_of_lt (i := n) (k := 20) (by omega)
    omega
  simp [F_n__law_taken, takenF, h, this]
theorem ints_of {l : List D} {P : Int → Prop} (h : ∀ x ∈ l, ∃ v, x = .int v ∧ P v) : ∃ r : List Int, l = iL r ∧ ∀ v ∈ r, P v := by
  induction l with
  | nil => exact ⟨[], rfl, fun v hv => by cases hv⟩
  | cons x l ih =>
    obtain ⟨v, rfl, hv⟩ := h x List.mem_cons_self
    obtain ⟨r, rfl, hr⟩ := ih fun y hy => h y (List.mem_cons_of_mem _ hy)
    exact ⟨v :: r, rfl, fun u hu => by
      rcases List.mem_cons.mp hu with rfl | hu
      · exact hv
      · exact hr u hu⟩
theorem ints_all {P : Int → Prop} {n : Nat} {r : Res (List D)} (h : AllOk (fun l => l.length = n ∧ ∀ x ∈ l, ∃ v, x = D.int v ∧ P v) r) : AllOk (fun l => ∃ q : List Int, l = iL q ∧ q.length = n ∧ ∀ v ∈ q, P v) r :=
  h.imp fun l hl => by
    obtain ⟨q, rfl, hq⟩ := ints_of hl.2
    exact ⟨q, rfl, by rw [← hl.1, iL_len], hq⟩
@[simp] theorem min2_int (a b : Int) : D.min2 (.int a) (.int b) = .ok (.int (if b < a then b else a)) := rfl
theorem ok_int {P : Int → Prop} {v : Int} (h : P v) : AllOk (fun x => ∃ v, x = D.int v ∧ P v) (.ok (.int v)) := ⟨v, rfl, h⟩
/-- the four ways a row is drawn -/
theorem el1 (many wide kind : Int) (x6 x7 : Option D) (i : Nat) (a b x9 : Option D) (n : Nat) (hm : 0 < many) :
    ∀ d ∈ rangeD 0 n, AllOk (fun x => ∃ v, x = D.int v ∧ 0 ≤ v ∧ v < many) (ce_n__law_machine_1 ([some .row, a, b, some (.int many), some (.int wide), some (.int kind), x6, x7, some (.int (i : Int)), x9].set 9 (some d))) := by
  intro d hd
  obtain ⟨j, hj, rfl⟩ := rangeD_mem hd
  by_cases e : ((0 : Int) + (j : Int)) = wide - 1
  · have e' : ce_n__law_machine_1 ([some .row, a, b, some (.int many), some (.int wide), some (.int kind), x6, x7, some (.int (i : Int)), x9].set 9 (some (.int (0 + (j : Int))))) = .ok (.int (if (i : Int) + 1 < many - 1 then (i : Int) + 1 else many - 1)) := by
      rw [e]
      simp [ce_n__law_machine_1]
    rw [e']
    refine ok_int ?_
    split <;> omega
  · have e' : ce_n__law_machine_1 ([some .row, a, b, some (.int many), some (.int wide), some (.int kind), x6, x7, some (.int (i : Int)), x9].set 9 (some (.int (0 + (j : Int))))) = .ok (.int 0) := by
      generalize (0 : Int) + (j : Int) = z at e ⊢
      simp [ce_n__law_machine_1, e]
    rw [e']
    exact ok_int ⟨by omega, hm⟩
theorem el2 (many wide kind : Int) (x6 x7 : Option D) (i : Nat) (a b x9 : Option D) (n : Nat) (hm : 0 < many) :
    ∀ d ∈ rangeD 0 n, AllOk (fun x => ∃ v, x = D.int v ∧ 0 ≤ v ∧ v < many) (ce_n__law_machine_2 ([some .row, a, b, some (.int many), some (.int wide), some (.int kind), x6, x7, some (.int (i : Int)), x9].set 9 (some d))) := by
  intro d hd
  obtain ⟨j, hj, rfl⟩ := rangeD_mem hd
  have e' : ce_n__law_machine_2 ([some .row, a, b, some (.int many), some (.int wide), some (.int kind), x6, x7, some (.int (i : Int)), x9].set 9 (some (.int (0 + (j : Int))))) = .ok (.int (if 0 + (j : Int) < many - 1 then 0 + (j : Int) else many - 1)) := by
    generalize (0 : Int) + (j : Int) = z
    simp [ce_n__law_machine_2]
  rw [e']
  refine ok_int ?_
  split <;> omega
theorem el3 (many wide kind : Int) (x6 x7 : Option D) (i : Nat) (a b x9 : Option D) (n : Nat) (hm : 0 < many) (hm2 : many ≤ 6) :
    ∀ d ∈ rangeD 0 n, AllOk (fun x => ∃ v, x = D.int v ∧ 0 ≤ v ∧ v < many) (ce_n__law_machine_3 ([some .row, a, b, some (.int many), some (.int wide), some (.int kind), x6, x7, some (.int (i : Int)), x9].set 9 (some d))) := by
  intro d hd
  obtain ⟨j, hj, rfl⟩ := rangeD_mem hd
  generalize (0 : Int) + (j : Int) = z
  simp [ce_n__law_machine_3, taken_ok many hm (by omega)]
  exact fun v h1 h2 => ok_int ⟨h1, h2⟩
theorem el4 (many wide kind : Int) (x6 x7 : Option D) (i : Nat) (a b x9 : Option D) (n : Nat) :
    ∀ d ∈ rangeD 0 n, AllOk (fun x => ∃ v, x = D.int v ∧ 0 ≤ v ∧ v ≤ 9) (ce_n__law_machine_4 ([some .row, a, b, some (.int many), some (.int wide), some (.int kind), x6, x7, some (.int (i : Int)), x9].set 9 (some d))) := by
  intro d hd
  obtain ⟨j, hj, rfl⟩ := rangeD_mem hd
  generalize (0 : Int) + (j : Int) = z
  simp [ce_n__law_machine_4, taken_ok 2 (by decide) (by decide)]
  exact fun v h1 h2 => ok_int ⟨h1, by omega⟩
def Row (w : Nat) (P : Int → Prop) (r : List Int) : Prop := r.length = w ∧ ∀ v ∈ r, P v
def mEnv (a b : Int) (many wide : Nat) (kind : Int) (st an : List (List Int)) (x8 : Sl) : SEnv := [.val .row, .val (.int a), .val (.int b), .val (.int many), .val (.int wide), .val (.int kind), .own (.lst (st.map fun r => .tup (iL r))), .own (.lst (an.map fun r => .tup (iL r))), x8, .dead]
def mInv (a b : Int) (many wide : Nat) (kind : Int) (i : Nat) (ρ : SEnv) : Prop :=
  ∃ st an x8, ρ = mEnv a b many wide kind st an x8 ∧ isRow [x8] 0 = false ∧ st.length = i ∧ an.length = i ∧ (∀ r ∈ st, Row wide (fun v => 0 ≤ v ∧ v < many) r) ∧ (∀ r ∈ an, Row wide (fun v => 0 ≤ v ∧ v ≤ 9) r)
theorem lim_big {n : Nat} (h : n ≤ 10000) : n ≤ lim := Nat.le_trans h (by decide)
theorem lim_big' {n : Nat} (h : n < 10000) : n < lim := Nat.lt_of_lt_of_le h (by decide)
/-- one row put at the end -/
theorem app_row {P : Int → Prop} {i : Nat} {wide : Nat} {fe : Fw.Env → Res D} {ρ : SEnv} {Q : SEnv → Prop} {ds : List D} {fi : Fw.Env → Res (List D)} {vs : List Nat} {k : Nat}
    (hfi : fi ρ.vis = .ok (rangeD 0 wide)) (hw : wide ≤ 10000) (hds : ds.length < 10000) (hc : contOf ρ k = .ok (.lst ds))
    (h : ∀ d ∈ rangeD 0 wide, AllOk (fun x => ∃ v, x = D.int v ∧ P v) (fe ((wipeE ρ.vis vs).set i (some d))))
    (hq : ∀ q : List Int, q.length = wide → (∀ v ∈ q, P v) → AllO Q (putO ρ k (.lst (ds ++ [.tup (iL q)])))) :
    AllO Q (appVO (app (on1 D.toTup) (consA (lcD fi (.nm i) yesB fe vs) nilA)) k ρ) := by
  have hl : (rangeD 0 wide).length ≤ lim := by rw [rangeD_len]; exact lim_big hw
  rw [appVO_eq, hc, bindO_ok]
  simp only [app_eq, consA_eq, lcD_eq, hfi, bind_ok, hl, if_true, nilA_eq]
  have := ints_all (lcL_all _ (rangeD 0 wide) h)
  rw [rangeD_len] at this
  refine AllO.bindR (P := fun d => ∃ q : List Int, d = .tup (iL q) ∧ q.length = wide ∧ ∀ v ∈ q, P v) (fun d ⟨q, e, h1, h2⟩ => ?_) (AllOk.bind (P := fun ds => ∃ q : List Int, ds = [.lst (iL q)] ∧ q.length = wide ∧ ∀ v ∈ q, P v) (fun l ⟨q, e, h1, h2⟩ => ?_) (AllOk.bind (P := fun d => ∃ q : List Int, d = .lst (iL q) ∧ q.length = wide ∧ ∀ v ∈ q, P v) (fun d ⟨q, e, h1, h2⟩ => ⟨q, by rw [e], h1, h2⟩) (AllOk.bind (fun l ⟨q, e, h1, h2⟩ => ⟨q, by rw [e], h1, h2⟩) this)))
  · rw [e]
    have : ds.length < lim := lim_big' hds
    simp only [this, if_true]
    exact hq q h1 h2
  · rw [e]
    exact ⟨q, rfl, h1, h2⟩
theorem mach_step (a b : Int) (many wide : Nat) (kind : Int) (i : Nat) (hm : 0 < many) (hm2 : many ≤ 6) (hw : wide ≤ 3) (hi : i < many) (ρ : SEnv) (h : mInv a b many wide kind i ρ) :
    ∃ ρ1, bindT ρ (.nm 8) (.int i) = some ρ1 ∧ AllO (mInv a b many wide kind (i + 1)) (lb_n__law_machine_1 ρ1) := by
  obtain ⟨st, an, x8, rfl, h8, h1, h2, h3, h4⟩ := h
  have hr := rng1_nat (m := wide) (by omega)
  simp at h8
  refine ⟨mEnv a b many wide kind st an (.val (.int i)), by simp [mEnv, h8], ?_⟩
  have fi : ∀ (u v : List (List Int)), (itL rng1L (consA (fun ρ => vr ρ 4) nilA)) (mEnv a b many wide kind u v (.val (.int i))).vis = .ok (rangeD 0 wide) := by
    intro u v
    simp [mEnv, hr]
  have second : ∀ u : List (List Int), u.length = i + 1 → (∀ r ∈ u, Row wide (fun v => 0 ≤ v ∧ v < many) r) → AllO (mInv a b many wide kind (i + 1)) (appVO (app (on1 D.toTup) (consA (lcD (itL rng1L (consA (fun ρ => vr ρ 4) nilA)) (.nm 9) yesB ce_n__law_machine_4 [9]) nilA)) 7 (mEnv a b many wide kind u an (.val (.int i)))) := by
    intro u hu hu2
    refine app_row (P := fun v => 0 ≤ v ∧ v ≤ 9) (ds := an.map fun r => .tup (iL r)) (fi u an) (by omega) (by rw [List.length_map]; omega) rfl (fun d hd => ?_) fun q hq1 hq2 => ?_
    · exact el4 many wide kind _ _ i _ _ _ wide d hd
    · refine ⟨u, an ++ [q], .val (.int i), ?_, rfl, hu, by simp [h2], hu2, fun r hr => ?_⟩
      · unfold mEnv
        rw [List.map_append]
        rfl
      · rcases List.mem_append.mp hr with hr | hr
        · exact h4 r hr
        · rw [List.mem_singleton.mp hr]
          exact ⟨hq1, hq2⟩
  have first : ∀ (fe : Fw.Env → Res D), (∀ d ∈ rangeD 0 wide, AllOk (fun x => ∃ v, x = D.int v ∧ 0 ≤ v ∧ v < (many : Int)) (fe ([some .row, some (.int a), some (.int b), some (.int many), some (.int wide), some (.int kind), none, none, some (.int (i : Int)), none].set 9 (some d)))) →
      AllO (fun ρ => ∃ u, ρ = mEnv a b many wide kind u an (.val (.int i)) ∧ u.length = i + 1 ∧ ∀ r ∈ u, Row wide (fun v => 0 ≤ v ∧ v < many) r) (appVO (app (on1 D.toTup) (consA (lcD (itL rng1L (consA (fun ρ => vr ρ 4) nilA)) (.nm 9) yesB fe [9]) nilA)) 6 (mEnv a b many wide kind st an (.val (.int i)))) := by
    intro fe hfe
    refine app_row (P := fun v => 0 ≤ v ∧ v < (many : Int)) (ds := st.map fun r => .tup (iL r)) (fi st an) (by omega) (by rw [List.length_map]; omega) rfl (fun d hd => hfe d hd) fun q hq1 hq2 => ?_
    refine ⟨st ++ [q], ?_, by simp [h1], fun r hr => ?_⟩
    · unfold mEnv
      rw [List.map_append]
      rfl
    · rcases List.mem_append.mp hr with hr | hr
      · exact h3 r hr
      · rw [List.mem_singleton.mp hr]
        exact ⟨hq1, hq2⟩
  unfold lb_n__law_machine_1
  rw [seqO_eq]
  refine AllO.thn (fun ρ ⟨u, e, hu1, hu2⟩ => ?_) (P := fun ρ => ∃ u, ρ = mEnv a b many wide kind u an (.val (.int i)) ∧ u.length = i + 1 ∧ ∀ r ∈ u, Row wide (fun v => 0 ≤ v ∧ v < many) r) ?_
  · rw [e]
    exact second u hu1 hu2
  · have c : ∀ k : Int, asTest (bin D.eq (fun ρ => vr ρ 5) (fun _ => .ok (.int k))) (mEnv a b many wide kind st an (.val (.int i))).all = .ok (decide (kind = k)) := by
      intro k
      simp [mEnv]
    rw [ifO_eq, c, bindO_ok]
    by_cases k0 : kind = 0
    · simp only [k0, decide_true, if_true]
      rw [k0] at first
      exact first _ fun d hd => el1 many wide 0 _ _ i _ _ _ wide (by omega) d hd
    · simp only [k0, decide_false, if_false, Bool.false_eq_true]
      rw [ifO_eq, c, bindO_ok]
      by_cases k1 : kind = 1
      · simp only [k1, decide_true, if_true]
        rw [k1] at first
        exact first _ fun d hd => el2 many wide 1 _ _ i _ _ _ wide (by omega) d hd
      · simp only [k1, decide_false, if_false, Bool.false_eq_true]
        exact first _ fun d hd => el3 many wide kind _ _ i _ _ _ wide (by omega) (by omega) d hd
theorem mach_loop (a b : Int) (many wide : Nat) (kind : Int) (hm : 0 < many) (hm2 : many ≤ 6) (hw : wide ≤ 3) : ∀ (m i : Nat) (ρ : SEnv), i + m = many → mInv a b many wide kind i ρ → AllO (mInv a b many wide kind many) (loopO (.nm 8) lb_n__law_machine_1 (rangeD i m) ρ)
  | 0, i, ρ, h, hi => by
    have : i = many := by omega
    subst this
    exact hi
  | m + 1, i, ρ, h, hi => by
    obtain ⟨ρ1, e1, e2⟩ := mach_step a b many wide kind i hm hm2 hw (by omega) ρ hi
    rw [rangeD_succ, loopO_cons, e1]
    have ec : ((i : Int) + 1) = ((i + 1 : Nat) : Int) := by omega
    rw [ec]
    exact AllO.trn (fun ρ' h' => mach_loop a b many wide kind hm hm2 hw m (i + 1) ρ' (by omega) h') e2
theorem F_machine (a b : Nat) (ha : 0 < a) (ha2 : a ≤ 6) (hb : 0 < b) (hb2 : b ≤ 3) : AllOk (fun d => ∃ st an l, d = machT st an ∧ Good st an l ∧ st.length ≤ a ∧ l ≤ b) (F_n__law_machine [.row, .int a, .int b]) := by
  have t1 := taken_ok (a : Int) (by omega) (by omega)
  have t2 := taken_ok (b : Int) (by omega) (by omega)
  have t3 := taken_ok 4 (by decide) (by decide)
  unfold F_n__law_machine g_n__law_machine
  simp only [defF_eq, start0, seqO_eq]
  simp [t1, t2, t3]
  intro i hi1 hi2 j hj1 hj2 k hk1 hk2
  obtain ⟨i', rfl⟩ : ∃ i' : Nat, i = i' := ⟨i.toNat, by omega⟩
  obtain ⟨j', rfl⟩ : ∃ j' : Nat, j = j' := ⟨j.toNat, by omega⟩
  have e1 : (1 : Int) + (i' : Int) = ((i' + 1 : Nat) : Int) := by omega
  have e2 : (1 : Int) + (j' : Int) = ((j' + 1 : Nat) : Int) := by omega
  have hr := rng1_nat (m := i' + 1) (by omega)
  have start : mInv a b (i' + 1) (j' + 1) k 0 [.val .row, .val (.int a), .val (.int b), .val (.int ((i' + 1 : Nat) : Int)), .val (.int ((j' + 1 : Nat) : Int)), .val (.int k), .own (.lst []), .own (.lst []), .dead, .dead] :=
    ⟨[], [], .dead, rfl, rfl, rfl, rfl, (fun r hr => absurd hr List.not_mem_nil), (fun r hr => absurd hr List.not_mem_nil)⟩
  have hl := mach_loop a b (i' + 1) (j' + 1) k (by omega) (by omega) (by omega) (i' + 1) 0 _ (by omega) start
  show AllOk _ (Out.fin _)
  rw [e1, e2, hr, ofO_some, bindO_ok]
  refine AllO.done (fun ρ h => ?_) hl
  obtain ⟨st, an, x8, rfl, h8, h1, h2, h3, h4⟩ := h
  have l2 : (2 : Nat) ≤ lim := lim_big (by decide)
  simp [mEnv, l2]
  refine ⟨st, an, rfl, j' + 1, ⟨by omega, by omega, by omega, by omega, fun r hr => (h3 r hr).1, fun r hr v hv => ?_, fun r hr => (h4 r hr).1, fun r hr => (h4 r hr).2, by omega⟩, by omega, by omega⟩
  have := (h3 r hr).2 v hv
  omega
theorem F_word {st an : List (List Int)} {l : Nat} (G : Good st an l) (most : Nat) (hm : most ≤ 4000) : AllOk (fun d => ∃ w, d = .tup (wN w) ∧ w.length ≤ most ∧ ∀ a ∈ w, a < l) (F_n__law_word [.row, machT st an, .int most]) := by
  have t1 := taken_ok ((most : Int) + 1) (by omega) (by omega)
  have lt := G.l3
  have l1 := G.l1
  have t2 := taken_ok (l : Int) (by omega) (by omega)
  obtain ⟨r, st', e⟩ : ∃ r st', st = r :: st' := by
    cases st with
    | nil => exact absurd G.n1 (by decide)
    | cons r t => exact ⟨r, t, rfl⟩
  have hr := G.sl r (by rw [e]; exact List.mem_cons_self)
  have h0 : (rowsT st).ix (.int 0) = .ok (.tup (iL r)) := by
    have := rows_at (rs := st) (s := 0) (by have := G.n1; omega)
    rw [e] at this
    rw [e]
    exact this
  unfold F_n__law_word g_n__law_word
  simp only [defF_eq, start0]
  simp [t1]
  intro i hi1 hi2
  obtain ⟨i', rfl⟩ : ∃ i' : Nat, i = i' := ⟨i.toNat, by omega⟩
  show AllOk _ (Out.fin _)
  rw [rng1_nat (m := i') (by omega)]
  have hl : (rangeD 0 i').length ≤ lim := by rw [rangeD_len]; exact lim_big (by omega)
  simp only [ofO_some, bind_ok, hl, if_true]
  have he : ∀ d ∈ rangeD 0 i', AllOk (fun x => ∃ v, x = D.int v ∧ 0 ≤ v ∧ v < (l : Int)) (ce_n__law_word_1 (([some .row, some (machT st an), some (.int most), none] : Fw.Env).set 3 (some d))) := by
    intro d hd
    simp [-ix_tup, ce_n__law_word_1, mach0, h0, iL_len, hr, t2]
    exact fun v h1 h2 => ok_int ⟨h1, h2⟩
  have := ints_all (lcL_all _ (rangeD 0 i') he)
  rw [rangeD_len] at this
  refine AllOk.fin (P := fun d => ∃ q : List Int, d = .tup (iL q) ∧ q.length = i' ∧ ∀ v ∈ q, 0 ≤ v ∧ v < (l : Int)) (fun d ⟨q, e, h1, h2⟩ => ?_) (AllOk.bind (P := fun ds => ∃ q : List Int, ds = [.lst (iL q)] ∧ q.length = i' ∧ ∀ v ∈ q, 0 ≤ v ∧ v < (l : Int)) (fun l ⟨q, e, h1, h2⟩ => ?_) (AllOk.bind (P := fun d => ∃ q : List Int, d = .lst (iL q) ∧ q.length = i' ∧ ∀ v ∈ q, 0 ≤ v ∧ v < (l : Int)) (fun d ⟨q, e, h1, h2⟩ => ⟨q, by rw [e], h1, h2⟩) (AllOk.bind (fun l ⟨q, e, h1, h2⟩ => ⟨q, by rw [e], h1, h2⟩) this)))
  · refine ⟨q.map Int.toNat, ?_, by rw [List.length_map]; omega, fun a ha => ?_⟩
    · rw [e, wN_iL, List.map_map]
      congr 2
      refine (List.map_id _).symm.trans (List.map_congr_left fun v hv => ?_)
      have := h2 v hv
      simp
      omega
    · obtain ⟨v, hv, rfl⟩ := List.mem_map.mp ha
      have := h2 v hv
      omega
  · rw [e]
    exact ⟨q, rfl, h1, h2⟩
end Lw
end
set_option Elab.async false
set_option linter.all false
set_option autoImplicit false
set_option maxRecDepth 100000
set_option maxHeartbeats 4000000
noncomputable section
namespace Lw
open Fw
theorem goodN_le (st an : List (List Int)) (s : Nat) (w : List Nat) (n t q i : Nat) (h : t ≤ q) : goodN st an s w n t q i ≤ wholeN st n q := right_le _ _ _ (topN_le st an s w t q i h)
theorem F_mean_misses {st an : List (List Int)} {l : Nat} (G : Good st an l) (n t q : Nat) (w1 w2 : List Nat) (K : Nat) (hK : wholeN st n q < 2 ^ K) (hn : n ≤ 25) (hn1 : 1 ≤ n) (ht : t ≤ q) (hq : 0 < q) (hq2 : q ≤ 100) (h1 : ∀ a ∈ w1, a < l) (h2 : ∀ a ∈ w2, a < l) (hl1 : w1.length ≤ 4000) (hl : w2.length ≤ 4000) (hX : 1 + (K + 1) * w2.length ≤ 7900) :
    F_n_mean_misses [machT st an, .int n, .tup [.int t, .int q], .tup (wN w1), .tup (wN w2)] = .ok (lowT (meanN (wholeN st n q) ((List.range' 0 w2.length).map fun j => goodN st an (runN st 0 w1) w2 n t q j) (0, 1)).1 (meanN (wholeN st n q) ((List.range' 0 w2.length).map fun j => goodN st an (runN st 0 w1) w2 n t q j) (0, 1)).2) := by
  have a := F_need_all G n t q w1 w2 hn hn1 ht hq hq2 h1 h2 hl1 hl
  have b := F_chances_of G n t q w1 w2 hn ht hq hq2 h1 h2 hl
  have n1 := G.n1
  have hW : 0 < wholeN st n q := Nat.pow_pos (Nat.mul_pos hq (by omega))
  obtain ⟨y6, y7, e⟩ := miss_loop K (wholeN st n q) hW hK (machT st an) (.int n) (.tup [.int t, .int q]) (.tup (wN w1)) (.tup (wN w2)) ((List.range' 0 w2.length).map fun j => goodN st an (runN st 0 w1) w2 n t q j) 0 1 1 .dead .dead rfl rfl (by decide) (by decide) (by decide) (fun g hg => by
    obtain ⟨j, _, rfl⟩ := List.mem_map.mp hg
    exact goodN_le st an _ w2 n t q j ht) (by simpa using hX)
  rw [List.map_map] at e
  have ee : ((fun g => lowT g (wholeN st n q)) ∘ fun j => goodN st an (runN st 0 w1) w2 n t q j) = fun j => chD st an (runN st 0 w1) w2 n t q j := rfl
  have e0 : lowT 0 1 = .tup [.int 0, .int 1] := by
    unfold lowT
    rfl
  rw [ee, e0] at e
  have l2 : (2 : Nat) ≤ lim := lim_big (by decide)
  generalize (List.range' 0 w2.length).map (fun j => chD st an (runN st 0 w1) w2 n t q j) = X at *
  generalize lowT (meanN (wholeN st n q) ((List.range' 0 w2.length).map fun j => goodN st an (runN st 0 w1) w2 n t q j) (0, 1)).1 (meanN (wholeN st n q) ((List.range' 0 w2.length).map fun j => goodN st an (runN st 0 w1) w2 n t q j) (0, 1)).2 = Z at *
  simp [F_n_mean_misses, g_n_mean_misses, start0, a, b, l2, e]
/-! the law's own fractions -/
theorem llow_step (t b : D) (x y : Int) (hy : 0 < y) : wb_n__law_low_1 [.val t, .val b, .val (.int x), .val (.int y)] = .nx [.val t, .val b, .val (.int y), .val (.int (x % y))] := by simp [wb_n__law_low_1, hy]
theorem llow_test (t b : D) (x y : Int) : wt_n__law_low_1 [some t, some b, some (.int x), some (.int y)] = .ok (decide (0 < y)) := by simp [wt_n__law_low_1]
theorem llow_on (t b : D) (x y : Nat) (n : Nat) (hy : 0 < y) : whileO wt_n__law_low_1 wb_n__law_low_1 (n + 1) [.val t, .val b, .val (.int (x : Int)), .val (.int (y : Int))] = whileO wt_n__law_low_1 wb_n__law_low_1 n [.val t, .val b, .val (.int (y : Int)), .val (.int ((x % y : Nat) : Int))] := by
  have e1 : ((x : Int) % (y : Int)) = ((x % y : Nat) : Int) := by omega
  have s := llow_step t b x y (by omega)
  rw [e1] at s
  have n0 : decide ((0 : Int) < (y : Int)) = true := by simp; omega
  rw [whileO_succ]
  simp only [all_cons, all_val, all_nil, llow_test, n0, bindO_ok, if_true, s, turn_nx]
theorem llow_off (t b : D) (x : Int) (n : Nat) : whileO wt_n__law_low_1 wb_n__law_low_1 (n + 1) [.val t, .val b, .val (.int x), .val (.int 0)] = .nx [.val t, .val b, .val (.int x), .val (.int 0)] := by
  rw [whileO_succ]
  simp [llow_test]
theorem lgcd_loop (t b : D) : ∀ (k : Nat) (fuel x y : Nat), y < 2 ^ k → 2 * k + 1 ≤ fuel → whileO wt_n__law_low_1 wb_n__law_low_1 fuel [.val t, .val b, .val (.int (x : Int)), .val (.int (y : Int))] = .nx [.val t, .val b, .val (.int ((Nat.gcd x y : Nat) : Int)), .val (.int 0)]
  | 0, fuel, x, y, hy, hf => by
    have h0 : y = 0 := by omega
    obtain ⟨n, rfl⟩ : ∃ n, fuel = n + 1 := ⟨fuel - 1, by omega⟩
    subst h0
    rw [Nat.gcd_zero_right]
    exact llow_off t b x n
  | k + 1, fuel, x, y, hy, hf => by
    obtain ⟨n, rfl⟩ : ∃ n, fuel = n + 1 := ⟨fuel - 1, by omega⟩
    by_cases h0 : y = 0
    · subst h0
      rw [Nat.gcd_zero_right]
      exact llow_off t b x n
    · rw [llow_on t b x y n (by omega)]
      obtain ⟨n', rfl⟩ : ∃ n', n = n' + 1 := ⟨n - 1, by omega⟩
      by_cases h1 : x % y = 0
      · have g1 : Nat.gcd x y = y := by
          rw [Nat.gcd_comm, Nat.gcd_rec y x, h1, Nat.gcd_zero_left]
        rw [h1, g1]
        exact llow_off t b y n'
      · rw [llow_on t b y (x % y) n' (by omega)]
        have lt : y % (x % y) < 2 ^ k := by
          have a1 : y % (x % y) < x % y := Nat.mod_lt _ (by omega)
          have a2 : x % y < y := Nat.mod_lt _ (by omega)
          have a3 : y % (x % y) ≤ y - x % y := by
            rw [Nat.mod_eq_sub_mod (show x % y ≤ y by omega)]
            exact Nat.mod_le _ _
          have a4 : 2 ^ (k + 1) = 2 * 2 ^ k := by rw [Nat.pow_succ]; omega
          omega
        have g1 : Nat.gcd x y = Nat.gcd (x % y) (y % (x % y)) := by
          rw [Nat.gcd_comm x y, Nat.gcd_rec y x, Nat.gcd_rec (x % y) y, Nat.gcd_comm]
        rw [g1]
        exact lgcd_loop t b k n' (x % y) (y % (x % y)) lt (by omega)
theorem F_low (t b : Nat) (hb : 0 < b) (hs : b < 2 ^ 8000) : F_n__law_low [.int (t : Int), .int (b : Int)] = .ok (lowT t b) := by
  have e := lgcd_loop (.int (t : Int)) (.int (b : Int)) 8000 lim t b hs (by decide)
  have g0 : 0 < Nat.gcd t b := Nat.gcd_pos_of_pos_right _ hb
  have g1 : (0 : Int) < ((Nat.gcd t b : Nat) : Int) := by omega
  have g2 : Nat.gcd t b ≤ b := Nat.gcd_le_right _ hb
  have g3 : (Nat.gcd t b).log2 < 9000 := by
    have := log_small (Nat.lt_of_le_of_lt g2 hs)
    omega
  have g4 : (2 : Nat) ≤ lim := by decide
  simp [F_n__law_low, g_n__law_low, start0, e, g0, g3, lowT, g4]
theorem after_loop {st an : List (List Int)} {l : Nat} (G : Good st an l) : ∀ (w : List Nat) (s : Nat) (wd : D) (x : Sl), isRow [x] 0 = false → s < st.length → (∀ a ∈ w, a < l) →
    ∃ y, loopO (.nm 3) lb_n__law_after_1 (wN w) [.val (machT st an), .val (.int s), .val wd, x] = .nx [.val (machT st an), .val (.int (runN st s w : Nat)), .val wd, y]
  | [], s, wd, x, hx, hs, hw => ⟨x, rfl⟩
  | a :: w, s, wd, x, hx, hs, hw => by
    have ha := hw a List.mem_cons_self
    obtain ⟨y, ih⟩ := after_loop G w (stepN st s a) wd (.val (.int a)) rfl (G.step hs ha).1 fun b hb => hw b (List.mem_cons_of_mem _ hb)
    refine ⟨y, ?_⟩
    simp at hx
    rw [wN, List.map_cons, loopO_cons]
    simp [-ix_tup, -List.getD_eq_getElem?_getD, lb_n__law_after_1, hx, mach0, rows_at hs, G.at0 hs ha]
    exact ih
theorem F_after {st an : List (List Int)} {l : Nat} (G : Good st an l) (w : List Nat) (s : Nat) (hs : s < st.length) (hw : ∀ a ∈ w, a < l) : F_n__law_after [machT st an, .int s, .tup (wN w)] = .ok (.int (runN st s w : Nat)) := by
  obtain ⟨y, e⟩ := after_loop G w s (.tup (wN w)) .dead rfl hs hw
  simp [F_n__law_after, g_n__law_after, start0, e]
/-! alike -/
@[simp] theorem isiAny_int (v : Int) : (D.int v).isiAny [.tup, .lst] = .ok (.bl false) := rfl
@[simp] theorem isiAny_tup (v : List D) : (D.tup v).isiAny [.tup, .lst] = .ok (.bl true) := rfl
@[simp] theorem isi_int_str (v : Int) : (D.int v).isi .str = .ok (.bl false) := rfl
@[simp] theorem isi_tup_lst (v : List D) : (D.tup v).isi .lst = .ok (.bl false) := rfl
@[simp] theorem isNon_int (v : Int) : (D.int v).isNon = false := rfl
@[simp] theorem eq_bl (a b : Bool) : D.eq (.bl a) (.bl b) = .ok (.bl (a == b)) := by cases a <;> cases b <;> rfl
@[simp] theorem ne_bl (a b : Bool) : D.ne (.bl a) (.bl b) = .ok (.bl !(a == b)) := by cases a <;> cases b <;> rfl
@[simp] theorem eq_nil : D.eq (.lst []) (.lst []) = .ok (.bl true) := rfl
theorem alike_int (k : Nat) (v : Int) : F_n__law_alike (k + 1) [.int v, .int v] = .ok (.bl true) := by
  simp [F_n__law_alike, g_n__law_alike, start0]
theorem alike_tup (k : Nat) (ds : List D) (hl : ds.length ≤ 10000) (h : ∀ d ∈ ds, F_n__law_alike k [d, d] = .ok (.bl true)) : F_n__law_alike (k + 1) [.tup ds, .tup ds] = .ok (.bl true) := by
  have hr := rng1_nat (m := ds.length) (by omega)
  have l0 : (0 : Nat) ≤ lim := Nat.zero_le _
  have hl2 : (rangeD 0 ds.length).length ≤ lim := by rw [rangeD_len]; exact lim_big hl
  have e : lcL (.nm 2) (ct_n__law_alike_1 (F_n__law_alike k)) ce_n__law_alike_1 [some (.tup ds), some (.tup ds), none] (rangeD 0 ds.length) = .ok [] := by
    rw [lcL_eq (fun _ => false) (fun d => d) _ (fun d hd => ?_) (fun _ _ h => by cases h)]
    · rw [List.filter_eq_nil_iff.mpr (fun _ _ h => by cases h)]
      rfl
    · obtain ⟨i, hi, rfl⟩ := rangeD_mem hd
      have e : (0 : Int) + (i : Int) = ((i : Nat) : Int) := by omega
      rw [e]
      have hx : (D.tup ds).ix (.int (i : Int)) = .ok ds[i] := by
        rw [ix_tup]
        exact ixG_nat (List.getElem?_eq_getElem hi)
      have := h _ (List.getElem_mem hi)
      simp [-ix_tup, ct_n__law_alike_1, hx, this]
  simp [F_n__law_alike, g_n__law_alike, start0, hr, hl2, e, l0]
end Lw
end
set_option Elab.async false
set_option linter.all false
set_option autoImplicit false
set_option maxRecDepth 100000
set_option maxHeartbeats 4000000
noncomputable section
namespace Lw
open Fw
/-! the pushes one by one: plain numbers -/
def nextR (S right t q : Nat) (p : List Nat × Nat) : List (List Nat × Nat) := (p.1 ++ [right], p.2 * (q - t) * S) :: (List.range' 0 S).map fun j => (p.1 ++ [j], p.2 * t)
def RN (S right t q : Nat) : Nat → List (List Nat × Nat)
  | 0 => [([], 1)]
  | n + 1 => (RN S right t q n).flatMap (nextR S right t q)
structure Push (S n : Nat) (p : List Nat × Nat) : Prop where
  len : p.1.length = n
  st : ∀ j ∈ p.1, j < S
  wt : p.2 < 2 ^ (4 * n + 1)
theorem nextR_ok {S right t q n : Nat} (hS : S ≤ 3) (hr : right < S) (hq : q ≤ 5) (ht : t ≤ q) {p : List Nat × Nat} (h : Push S n p) : ∀ x ∈ nextR S right t q p, Push S (n + 1) x := by
  have b : 2 ^ (4 * (n + 1) + 1) = 2 ^ (4 * n + 1) * 16 := by
    have : 4 * (n + 1) + 1 = (4 * n + 1) + 4 := by omega
    rw [this, Nat.pow_add]
  intro x hx
  rcases List.mem_cons.mp hx with rfl | hx
  · refine ⟨by simp [h.len], fun j hj => ?_, ?_⟩
    · rcases List.mem_append.mp hj with hj | hj
      · exact h.st j hj
      · rw [List.mem_singleton.mp hj]; exact hr
    · have : (q - t) * S ≤ 5 * 3 := Nat.mul_le_mul (by omega) hS
      have w := h.wt
      rw [b]
      show p.2 * (q - t) * S < _
      rw [Nat.mul_assoc]
      exact Nat.mul_lt_mul'' w (by omega)
  · obtain ⟨j, hj, rfl⟩ := List.mem_map.mp hx
    rw [List.mem_range'_1] at hj
    refine ⟨by simp [h.len], fun i hi => ?_, ?_⟩
    · rcases List.mem_append.mp hi with hi | hi
      · exact h.st i hi
      · rw [List.mem_singleton.mp hi]; omega
    · rw [b]
      exact Nat.mul_lt_mul'' h.wt (by omega)
theorem RN_ok {S right t q : Nat} (hS : S ≤ 3) (hr : right < S) (hq : q ≤ 5) (ht : t ≤ q) : ∀ n : Nat, ∀ p ∈ RN S right t q n, Push S n p
  | 0, p, hp => by
    rw [List.mem_singleton.mp hp]
    exact ⟨rfl, fun j hj => absurd hj List.not_mem_nil, by decide⟩
  | n + 1, p, hp => by
    obtain ⟨x, hx, hp⟩ := List.mem_flatMap.mp hp
    exact nextR_ok hS hr hq ht (RN_ok hS hr hq ht n x hx) p hp
theorem RN_len (S right t q : Nat) : ∀ n : Nat, (RN S right t q n).length = (S + 1) ^ n
  | 0 => rfl
  | n + 1 => by
    rw [RN, List.length_flatMap]
    have : (fun p => (nextR S right t q p).length) = fun _ => S + 1 := by
      funext p
      simp [nextR]
    rw [this, List.map_const', List.sum_replicate_nat, RN_len S right t q n, Nat.pow_succ]
def wsum (f : List Nat → Nat) (R : List (List Nat × Nat)) : Nat := (R.map fun p => p.2 * f p.1).sum
theorem wsum_flat (f : List Nat → Nat) (g : List Nat × Nat → List (List Nat × Nat)) (h : List Nat → Nat) (hg : ∀ p, wsum f (g p) = p.2 * h p.1) : ∀ R, wsum f (R.flatMap g) = wsum h R
  | [] => rfl
  | p :: R => by
    have ih := wsum_flat f g h hg R
    unfold wsum at *
    rw [List.flatMap_cons, List.map_append, List.sum_append, ih, hg p, List.map_cons, List.sum_cons]
theorem sum_two (S : Nat) (pr : Nat → Bool) (x y : Nat) : ((List.range' 0 S).map fun j => if pr j = true then x else y).sum = ((List.range' 0 S).countP pr) * x + (S - (List.range' 0 S).countP pr) * y := by
  have : ∀ l : List Nat, (l.map fun j => if pr j = true then x else y).sum = l.countP pr * x + (l.length - l.countP pr) * y := by
    intro l
    induction l with
    | nil => simp
    | cons a l ih =>
      have hc := List.countP_le_length (p := pr) (l := l)
      rw [List.map_cons, List.sum_cons, ih, List.countP_cons, List.length_cons]
      cases h : pr a with
      | true =>
        simp only [if_true]
        have e : l.length + 1 - (l.countP pr + 1) = l.length - l.countP pr := by omega
        rw [e, Nat.add_mul]
        omega
      | false =>
        simp only [if_false, Bool.false_eq_true, Nat.add_zero]
        have e : l.length + 1 - l.countP pr = (l.length - l.countP pr) + 1 := by omega
        rw [e, Nat.add_mul]
        omega
  rw [this, List.length_range']
theorem wsum_next (S right t q : Nat) (pr : Nat → Bool) (hr : pr right = true) (f : Nat → Nat) (p : List Nat × Nat) :
    wsum (fun w => f (w.countP pr)) (nextR S right t q p) = p.2 * (((q - t) * S + t * (List.range' 0 S).countP pr) * f (p.1.countP pr + 1) + t * (S - (List.range' 0 S).countP pr) * f (p.1.countP pr)) := by
  unfold wsum nextR
  rw [List.map_cons, List.sum_cons, List.map_map]
  have e1 : (p.1 ++ [right]).countP pr = p.1.countP pr + 1 := by
    rw [List.countP_append, List.countP_cons, hr]
    rfl
  have e2 : ((fun p : List Nat × Nat => p.2 * f (p.1.countP pr)) ∘ fun j => (p.1 ++ [j], p.2 * t)) = fun j => if pr j = true then p.2 * t * f (p.1.countP pr + 1) else p.2 * t * f (p.1.countP pr) := by
    funext j
    simp only [Function.comp]
    rw [List.countP_append, List.countP_cons]
    cases h : pr j <;> simp
  rw [e2, sum_two]
  simp only [e1]
  generalize (List.range' 0 S).countP pr = a
  generalize S - a = b
  generalize f (p.1.countP pr + 1) = x
  generalize f (p.1.countP pr) = y
  rw [Nat.mul_add, Nat.add_mul, Nat.mul_add]
  have z1 : p.2 * (q - t) * S * x = p.2 * ((q - t) * S * x) := by ac_rfl
  have z2 : a * (p.2 * t * x) = p.2 * (t * a * x) := by ac_rfl
  have z3 : b * (p.2 * t * y) = p.2 * (t * b * y) := by ac_rfl
  omega
theorem wsum_Ex (S right t q : Nat) (pr : Nat → Bool) (hr : pr right = true) : ∀ (n : Nat) (f : Nat → Nat), wsum (fun w => f (w.countP pr)) (RN S right t q n) = Ex ((q - t) * S + t * (List.range' 0 S).countP pr) (t * (S - (List.range' 0 S).countP pr)) n f
  | 0, f => by simp [wsum, RN, Ex]
  | n + 1, f => by
    rw [RN, wsum_flat _ _ (fun w => ((q - t) * S + t * (List.range' 0 S).countP pr) * f (w.countP pr + 1) + t * (S - (List.range' 0 S).countP pr) * f (w.countP pr)) fun p => wsum_next S right t q pr hr f p, Ex]
    exact wsum_Ex S right t q pr hr n fun c => ((q - t) * S + t * (List.range' 0 S).countP pr) * f (c + 1) + t * (S - (List.range' 0 S).countP pr) * f c
def prI (st an : List (List Int)) (s : Nat) (w : List Nat) (i j : Nat) : Bool := decide ((saidN st an j w).getD i 0 = rightI st an s w i)
theorem alike_countP (st an : List (List Int)) (s : Nat) (w : List Nat) (i : Nat) : (List.range' 0 st.length).countP (prI st an s w i) = alikeN st an w i (rightI st an s w i) := by
  rw [List.countP_eq_length_filter, ← List.range_eq_range']
  rfl
theorem good_sum (st an : List (List Int)) (s : Nat) (w : List Nat) (n t q i : Nat) (ht : t ≤ q) :
    wsum (fun v => ge1 (n / 2 + 1) (v.countP (prI st an s w i))) (RN st.length s t q n) = goodN st an s w n t q i := by
  rw [wsum_Ex st.length s t q (prI st an s w i) (by simp [prI, rightI]) n (ge1 (n / 2 + 1)), alike_countP]
  unfold goodN
  rw [right_Ex]
  have e : t * (st.length - alikeN st an w i (rightI st an s w i)) = q * st.length - topN st an s w t q i := by
    have l := alikeN_le st an w i (rightI st an s w i)
    unfold topN
    generalize alikeN st an w i (rightI st an s w i) = a at *
    have h2 : (q - t) * st.length + t * st.length = q * st.length := by
      rw [← Nat.add_mul]
      congr 1
      omega
    have h3 : t * a ≤ t * st.length := Nat.mul_le_mul_left _ l
    rw [Nat.mul_sub]
    omega
  rw [e]
  rfl
theorem whole_sum (S s t q n : Nat) (ht : t ≤ q) : ((RN S s t q n).map fun p => p.2).sum = (q * S) ^ n := by
  have := wsum_Ex S s t q (fun _ => true) rfl n (fun _ => 1)
  rw [Ex_one] at this
  unfold wsum at this
  simp only [Nat.mul_one] at this
  rw [this]
  congr 1
  have hc : (List.range' 0 S).countP (fun _ => true) = S := by
    rw [List.countP_true, List.length_range']
  rw [hc, Nat.sub_self, Nat.mul_zero, Nat.add_zero, ← Nat.add_mul]
  congr 1
  omega
end Lw
end
set_option Elab.async false
set_option linter.all false
set_option autoImplicit false
set_option maxRecDepth 100000
set_option maxHeartbeats 4000000
noncomputable section
namespace Lw
open Fw
theorem cut_to {α : Type} (ds : List α) (i : Nat) : cutG ds none (some (i : Int)) = ds.take i := by
  unfold cutG
  simp only [HT.sIx_none, HT.sIx_nat, List.drop_zero, Nat.sub_zero]
  by_cases h : i ≤ ds.length
  · rw [Nat.min_eq_left h]
  · rw [Nat.min_eq_right (by omega), List.take_length, List.take_of_length_le (by omega)]
@[simp] theorem slice_tup (ds : List D) (a b : Option Int) : (D.tup ds).slice a b = .ok (.tup (cutG ds a b)) := rfl
@[simp] theorem pureL_nil : D.pureL [] = true := rfl
@[simp] theorem pureL_cons (d : D) (ds : List D) : D.pureL (d :: ds) = (d.pure && D.pureL ds) := rfl
@[simp] theorem pure_tup (ds : List D) : (D.tup ds).pure = D.pureL ds := rfl
@[simp] theorem purC_lst (ds : List D) : purC (.lst ds) = D.pureL ds := rfl
def pairD (p : List Nat × Nat) : D := .tup [.tup (wN p.1), .int (p.2 : Nat)]
def rowsD (R : List (List Nat × Nat)) : List D := R.map pairD
theorem wN_pure (w : List Nat) : D.pureL (wN w) = true := pureL_iff.mpr fun d hd => by
  obtain ⟨a, _, rfl⟩ := List.mem_map.mp hd
  rfl
theorem rowsD_pure (R : List (List Nat × Nat)) : D.pureL (rowsD R) = true := pureL_iff.mpr fun d hd => by
  obtain ⟨a, _, rfl⟩ := List.mem_map.mp hd
  simp [pairD, wN_pure]
theorem wN_app (u : List Nat) (j : Nat) : wN u ++ [D.int (j : Int)] = wN (u ++ [j]) := by simp [wN]
theorem wN_len (u : List Nat) : (wN u).length = u.length := by simp [wN]
def lEnv (sc M : D) (n q t : Nat) (w1 w2 : D) (S r : Nat) (s10 s11 s12 s13 s14 s15 s16 s17 s18 s19 s20 s21 : Sl) : SEnv := [.val sc, .val .row, .val M, .val (.int n), .val (.int q), .val (.tup [.int t, .int q]), .val w1, .val w2, .val (.int S), .val (.int r), s10, s11, s12, s13, s14, s15, s16, s17, s18, s19, s20, s21, .dead]
theorem lc_next (sc M : Option D) (n q : Option D) (t qq : Nat) (w1 w2 : Option D) (S : Nat) (x8 x9 x10 x11 x12 x15 x16 x17 x18 x19 x20 x21 : Option D) (p : List Nat × Nat) (h1 : p.1.length ≤ 100) (h2 : p.2 < 2 ^ 100) (ht : t < 2 ^ 100) :
    lcL (.nm 22) yesB ce_n_law_1 [sc, some .row, M, n, q, some (.tup [.int t, .int qq]), w1, w2, x8, x9, x10, x11, x12, some (.tup (wN p.1)), some (.int p.2), x15, x16, x17, x18, x19, x20, x21, none] (rangeD 0 S) = .ok (rowsD ((List.range' 0 S).map fun j => (p.1 ++ [j], p.2 * t))) := by
  rw [lcL_map (fun d => match d with | .int v => pairD (p.1 ++ [v.toNat], p.2 * t) | d => d) _ fun d hd => ?_]
  · unfold rowsD rangeD
    rw [List.map_map, List.map_map, List.range_eq_range']
    congr 2
    funext j
    simp
  · obtain ⟨j, hj, rfl⟩ := rangeD_mem hd
    have e : (0 : Int) + (j : Int) = ((j : Nat) : Int) := by omega
    rw [e]
    have m := mul_sm (Sm.of h2) (Sm.of ht) (by omega)
    have l1 : (wN p.1).length + 1 ≤ lim := by rw [wN_len]; exact lim_big (by omega)
    have l2 : (2 : Nat) ≤ lim := lim_big (by decide)
    have l3 : (1 : Nat) ≤ lim := lim_big (by decide)
    have a := wN_app p.1 j
    simp [-mul_int, ce_n_law_1, ixG_zero, m, l1, l2, l3, pairD, a]
theorem rows1 (sc M : D) (n q t : Nat) (w1 w2 : D) (S r : Nat) (s10 s11 s15 s16 s17 s18 s19 s20 s21 : Sl) (ht : t ≤ q) (hq : q ≤ 5) (hS : S ≤ 3) (hv : ∀ s ∈ [s10, s11, s15, s16, s17, s18, s19, s20, s21], isRow [s] 0 = false) :
    ∀ (R acc : List (List Nat × Nat)) (s13 s14 : Sl), isRow [s13] 0 = false → isRow [s14] 0 = false → (∀ p ∈ R, p.1.length ≤ 100 ∧ p.2 < 2 ^ 50) → acc.length + R.length * (S + 1) ≤ 9000 →
    ∃ y13 y14, isRow [y13] 0 = false ∧ isRow [y14] 0 = false ∧ loopO (.tp [.nm 13, .nm 14]) lb_n_law_1 (rowsD R) (lEnv sc M n q t w1 w2 S r s10 s11 (.own (.lst (rowsD acc))) s13 s14 s15 s16 s17 s18 s19 s20 s21) = .nx (lEnv sc M n q t w1 w2 S r s10 s11 (.own (.lst (rowsD (acc ++ R.flatMap (nextR S r t q))))) y13 y14 s15 s16 s17 s18 s19 s20 s21)
  | [], acc, s13, s14, h13, h14, hp, hl => ⟨s13, s14, h13, h14, by rw [List.flatMap_nil, List.append_nil]; rfl⟩
  | p :: R, acc, s13, s14, h13, h14, hp, hl => by
    have hp0 := hp p List.mem_cons_self
    have hlen : (nextR S r t q p).length = S + 1 := by simp [nextR]
    have hl1 : acc.length + (S + 1) + R.length * (S + 1) ≤ 9000 := by
      rw [List.length_cons, Nat.succ_mul] at hl
      omega
    obtain ⟨y13, y14, h1, h2, ih⟩ := rows1 sc M n q t w1 w2 S r s10 s11 s15 s16 s17 s18 s19 s20 s21 ht hq hS hv R (acc ++ nextR S r t q p) (.val (.tup (wN p.1))) (.val (.int p.2)) rfl rfl (fun x hx => hp x (List.mem_cons_of_mem _ hx)) (by rw [List.length_append, hlen]; exact hl1)
    refine ⟨y13, y14, h1, h2, ?_⟩
    have e1 : ((q : Int) - (t : Int)) = ((q - t : Nat) : Int) := by omega
    have b1 : p.2 * (q - t) < 2 ^ 50 * 2 ^ 5 := Nat.mul_lt_mul'' hp0.2 (by omega)
    have m1 := mul_small (a := p.2) (b := q - t) (by omega) (by omega)
    have m2 := mul_small (a := p.2 * (q - t)) (b := S) (by omega) (by omega)
    have a1 := wN_app p.1 r
    have l1 : (wN p.1).length + 1 ≤ lim := by rw [wN_len]; exact lim_big (by omega)
    have l2 : (2 : Nat) ≤ lim := lim_big (by decide)
    have l3 : (1 : Nat) ≤ lim := lim_big (by decide)
    have rl : (rowsD acc).length = acc.length := by simp [rowsD]
    have l4 : (rowsD acc).length < lim := by rw [rl]; exact lim_big' (by omega)
    have l5 : (rangeD 0 S).length ≤ lim := by rw [rangeD_len]; exact lim_big (by omega)
    have hr := rng1_nat (m := S) (by omega)
    have lc := fun x8 x9 x10 x11 x12 x15 x16 x17 x18 x19 x20 x21 => lc_next (some sc) (some M) (some (.int n)) (some (.int q)) t q (some w1) (some w2) S x8 x9 x10 x11 x12 x15 x16 x17 x18 x19 x20 x21 p hp0.1 (by omega) (by omega)
    have en : rowsD acc ++ [pairD (p.1 ++ [r], p.2 * (q - t) * S)] ++ rowsD ((List.range' 0 S).map fun j => (p.1 ++ [j], p.2 * t)) = rowsD (acc ++ nextR S r t q p) := by
      unfold rowsD nextR
      rw [List.map_append, List.map_cons, List.append_assoc]
      rfl
    have l6 : (rowsD acc).length + 1 + (rowsD ((List.range' 0 S).map fun j => (p.1 ++ [j], p.2 * t))).length ≤ lim := by
      rw [rl]
      have : (rowsD ((List.range' 0 S).map fun j => (p.1 ++ [j], p.2 * t))).length = S := by simp [rowsD]
      rw [this]
      exact lim_big (by omega)
    have pu := rowsD_pure (acc ++ nextR S r t q p)
    rw [← en] at pu ih
    have pd : D.tup [.tup (wN p.1 ++ [.int (r : Int)]), .int ((p.2 * (q - t) * S : Nat) : Int)] = pairD (p.1 ++ [r], p.2 * (q - t) * S) := by
      unfold pairD
      rw [a1]
    generalize rowsD ((List.range' 0 S).map fun j => (p.1 ++ [j], p.2 * t)) = X at *
    rw [List.flatMap_cons, ← List.append_assoc acc]
    generalize rowsD (acc ++ nextR S r t q p ++ R.flatMap (nextR S r t q)) = Y at *
    generalize rowsD acc = A at *
    have e0 : rowsD (p :: R) = pairD p :: rowsD R := rfl
    rw [e0, loopO_cons]
    generalize ((p.2 * (q - t) * S : Nat) : Int) = Z at *
    generalize ((p.2 * (q - t) : Nat) : Int) = Z1 at *
    generalize ((q - t : Nat) : Int) = Z2 at *
    generalize hpd : pairD (p.1 ++ [r], p.2 * (q - t) * S) = PD at *
    simp [isRow_eq] at h13 h14
    simp only [List.append_assoc, List.singleton_append] at pu ih
    unfold lEnv at ih ⊢
    have step : lb_n_law_1 [.val sc, .val .row, .val M, .val (.int n), .val (.int q), .val (.tup [.int t, .int q]), .val w1, .val w2, .val (.int S), .val (.int r), s10, s11, .own (.lst A), .val (.tup (wN p.1)), .val (.int p.2), s15, s16, s17, s18, s19, s20, s21, .dead] = .nx [.val sc, .val .row, .val M, .val (.int n), .val (.int q), .val (.tup [.int t, .int q]), .val w1, .val w2, .val (.int S), .val (.int r), s10, s11, .own (.lst (A ++ PD :: X)), .val (.tup (wN p.1)), .val (.int p.2), s15, s16, s17, s18, s19, s20, s21, .dead] := by
      simp [-mul_int, pairD, lb_n_law_1, ixG_zero, ixG_one, e1, m1, m2, l1, l2, l3, l4, l5, l6, hr, lc, pd, pu]
    have bd : bindT [.val sc, .val .row, .val M, .val (.int n), .val (.int q), .val (.tup [.int t, .int q]), .val w1, .val w2, .val (.int S), .val (.int r), s10, s11, .own (.lst A), s13, s14, s15, s16, s17, s18, s19, s20, s21, .dead] (.tp [.nm 13, .nm 14]) (pairD p) = some [.val sc, .val .row, .val M, .val (.int n), .val (.int q), .val (.tup [.int t, .int q]), .val w1, .val w2, .val (.int S), .val (.int r), s10, s11, .own (.lst A), .val (.tup (wN p.1)), .val (.int p.2), s15, s16, s17, s18, s19, s20, s21, .dead] := by
      simp [pairD, h13, h14]
    rw [bd]
    simp only [step, turn_nx]
    exact ih
end Lw
end
set_option Elab.async false
set_option linter.all false
set_option autoImplicit false
set_option maxRecDepth 100000
set_option maxHeartbeats 4000000
noncomputable section
namespace Lw
open Fw
theorem RN_len_le {S r t q n : Nat} (hS : S ≤ 3) (hn : n ≤ 4) : (RN S r t q n).length ≤ 256 := by
  rw [RN_len]
  have h1 : (S + 1) ^ n ≤ 4 ^ n := Nat.pow_le_pow_left (by omega) n
  have h2 : 4 ^ n ≤ 4 ^ 4 := Nat.pow_le_pow_right (by decide) hn
  exact Nat.le_trans h1 h2
theorem copies_loop (sc M : D) (n q t : Nat) (w1 w2 : D) (S r : Nat) (s15 s16 s17 s18 s19 s20 s21 : Sl) (ht : t ≤ q) (hq : q ≤ 5) (hS : S ≤ 3) (hr : r < S) (hv : ∀ s ∈ [s15, s16, s17, s18, s19, s20, s21], isRow [s] 0 = false) :
    ∀ (m i : Nat) (s11 s12 s13 s14 : Sl), isRow [s11] 0 = false → isRow [s12] 0 = false → isRow [s13] 0 = false → isRow [s14] 0 = false → i + m ≤ 4 →
    ∃ y11 y12 y13 y14, isRow [y13] 0 = false ∧ isRow [y14] 0 = false ∧ loopO (.nm 11) lb_n_law_2 (rangeD i m) (lEnv sc M n q t w1 w2 S r (.val (.lst (rowsD (RN S r t q i)))) s11 s12 s13 s14 s15 s16 s17 s18 s19 s20 s21) = .nx (lEnv sc M n q t w1 w2 S r (.val (.lst (rowsD (RN S r t q (i + m))))) y11 y12 y13 y14 s15 s16 s17 s18 s19 s20 s21)
  | 0, i, s11, s12, s13, s14, h11, h12, h13, h14, hl => ⟨s11, s12, s13, s14, h13, h14, rfl⟩
  | m + 1, i, s11, s12, s13, s14, h11, h12, h13, h14, hl => by
    obtain ⟨z13, z14, hz13, hz14, e⟩ := rows1 sc M n q t w1 w2 S r (.val (.lst (rowsD (RN S r t q i)))) (.val (.int i)) s15 s16 s17 s18 s19 s20 s21 ht hq hS (fun s hs => by
      rcases List.mem_cons.mp hs with rfl | hs
      · rfl
      · rcases List.mem_cons.mp hs with rfl | hs
        · rfl
        · exact hv s hs) (RN S r t q i) [] s13 s14 h13 h14 (fun p hp => by
          have := RN_ok hS hr hq ht i p hp
          refine ⟨by rw [this.len]; omega, Nat.lt_of_lt_of_le this.wt (Nat.pow_le_pow_right (by decide) (by omega))⟩) (by
          have h1 := RN_len_le (S := S) (r := r) (t := t) (q := q) (n := i) hS (by omega)
          have : (RN S r t q i).length * (S + 1) ≤ 256 * 4 := Nat.mul_le_mul h1 (by omega)
          simp
          omega)
    obtain ⟨y11, y12, y13, y14, h1, h2, ih⟩ := copies_loop sc M n q t w1 w2 S r s15 s16 s17 s18 s19 s20 s21 ht hq hS hr hv m (i + 1) (.val (.int i)) (.val (.lst (rowsD (RN S r t q (i + 1))))) z13 z14 rfl rfl hz13 hz14 (by omega)
    refine ⟨y11, y12, y13, y14, h1, h2, ?_⟩
    have ec : ((i : Int) + 1) = ((i + 1 : Nat) : Int) := by omega
    have ei : i + 1 + m = i + (m + 1) := by omega
    rw [ei] at ih
    have e0 : rowsD [] = [] := rfl
    rw [e0, List.nil_append] at e
    rw [rangeD_succ, loopO_cons]
    have er : (RN S r t q i).flatMap (nextR S r t q) = RN S r t q (i + 1) := rfl
    rw [er] at e
    generalize rowsD (RN S r t q (i + 1)) = R1 at *
    generalize rowsD (RN S r t q (i + (m + 1))) = R2 at *
    generalize rowsD (RN S r t q i) = R0 at *
    simp [isRow_eq] at h11 h12
    unfold lEnv at ih e ⊢
    have l0 : (0 : Nat) ≤ lim := Nat.zero_le _
    have step : lb_n_law_2 [.val sc, .val .row, .val M, .val (.int n), .val (.int q), .val (.tup [.int t, .int q]), .val w1, .val w2, .val (.int S), .val (.int r), .val (.lst R0), .val (.int i), s12, s13, s14, s15, s16, s17, s18, s19, s20, s21, .dead] = .nx [.val sc, .val .row, .val M, .val (.int n), .val (.int q), .val (.tup [.int t, .int q]), .val w1, .val w2, .val (.int S), .val (.int r), .val (.lst R1), .val (.int i), .val (.lst R1), z13, z14, s15, s16, s17, s18, s19, s20, s21, .dead] := by
      simp [lb_n_law_2, h12, l0, e]
    have bd : bindT [.val sc, .val .row, .val M, .val (.int n), .val (.int q), .val (.tup [.int t, .int q]), .val w1, .val w2, .val (.int S), .val (.int r), .val (.lst R0), s11, s12, s13, s14, s15, s16, s17, s18, s19, s20, s21, .dead] (.nm 11) (.int i) = some [.val sc, .val .row, .val M, .val (.int n), .val (.int q), .val (.tup [.int t, .int q]), .val w1, .val w2, .val (.int S), .val (.int r), .val (.lst R0), .val (.int i), s12, s13, s14, s15, s16, s17, s18, s19, s20, s21, .dead] := by
      simp [h11]
    rw [bd]
    simp only [step, turn_nx]
    rw [ec]
    exact ih
/-! the answers at one place -/
theorem said_at {st an : List (List Int)} : ∀ (w : List Nat) (s i : Nat) (h : i < w.length), (saidN st an s w).getD i 0 = ansI an (runN st s (w.take i)) w[i]
  | [], s, i, h => absurd h (Nat.not_lt_zero _)
  | a :: w, s, 0, h => rfl
  | a :: w, s, i + 1, h => by
    rw [saidN, List.getD_cons_succ, said_at w (stepN st s a) i (by simpa using h)]
    rfl
theorem wN_take (w : List Nat) (i : Nat) : (wN w).take i = wN (w.take i) := by simp [wN, List.map_take]
theorem wN_at {w : List Nat} {i : Nat} (h : i < w.length) : (D.tup (wN w)).ix (.int (i : Int)) = .ok (.int (w[i] : Int)) := by
  rw [ix_tup]
  refine ixG_nat ?_
  simp [wN, h]
def ansE (st an : List (List Int)) (w : List Nat) (i j : Nat) : Int := (saidN st an j w).getD i 0
theorem ce3 {st an : List (List Int)} {l : Nat} (G : Good st an l) (w : List Nat) (hw : ∀ a ∈ w, a < l) (i j : Nat) (hi : i < w.length) (hj : j < st.length) (x0 x1 x3 x4 x5 x6 x8 x9 x10 x11 x12 x13 x14 x15 x16 x17 x19 x20 x21 : Option D) :
    ce_n_law_3 [x0, x1, some (machT st an), x3, x4, x5, x6, some (.tup (wN w)), x8, x9, x10, x11, x12, x13, x14, x15, x16, x17, some (.int i), x19, x20, x21, some (.int j)] = .ok (.int (ansE st an w i j)) := by
  have hc := cut_to (wN w) i
  have hm : ∀ a ∈ w.take i, a < l := fun a ha => hw a (List.mem_of_mem_take ha)
  have ha := F_after G (w.take i) j hj hm
  have hrun := G.run (w.take i) j hj hm
  have hl := hw _ (List.getElem_mem hi)
  have h1 := G.at1 hrun hl
  have hx := wN_at hi
  have he := said_at (st := st) (an := an) w j i hi
  rw [wN_take] at hc
  unfold ansE
  rw [he]
  generalize w[i] = wi at *
  simp [-ix_tup, -List.getD_eq_getElem?_getD, ce_n_law_3, mach1, hc, ha, h1, hx]
end Lw
end
set_option Elab.async false
set_option linter.all false
set_option autoImplicit false
set_option maxRecDepth 100000
set_option maxHeartbeats 4000000
noncomputable section
namespace Lw
open Fw
theorem cnt_iL (ns : List Int) (k : Int) : cntG (.lst (iL ns)) [.int k] = .ok (.int (ns.count k : Nat)) := by
  unfold cntG iL
  simp only [intsOf_map]
@[simp] theorem ty_lst (ds : List D) : (D.lst ds).ty = some .lst := rfl
theorem count_pr (st an : List (List Int)) (s : Nat) (w : List Nat) (i : Nat) (v : List Nat) : (v.map fun j => ansE st an w i j).count (rightI st an s w i) = v.countP (prI st an s w i) := by
  rw [List.count, List.countP_map]
  refine List.countP_congr fun j _ => ?_
  simp [ansE, prI, Function.comp]
theorem lc_said {st an : List (List Int)} {l : Nat} (G : Good st an l) (w : List Nat) (hw : ∀ a ∈ w, a < l) (i : Nat) (hi : i < w.length) (v : List Nat) (hv : ∀ j ∈ v, j < st.length) (x0 x1 x3 x4 x5 x6 x8 x9 x10 x11 x12 x13 x14 x15 x16 x17 x19 x20 x21 : Option D) :
    lcL (.nm 22) yesB ce_n_law_3 [x0, x1, some (machT st an), x3, x4, x5, x6, some (.tup (wN w)), x8, x9, x10, x11, x12, x13, x14, x15, x16, x17, some (.int i), x19, x20, x21, none] (wN v) = .ok (iL (v.map fun j => ansE st an w i j)) := by
  rw [lcL_map (fun d => match d with | .int z => .int (ansE st an w i z.toNat) | d => d) _ fun d hd => ?_]
  · unfold wN iL
    rw [List.map_map, List.map_map]
    congr 1
  · obtain ⟨j, hj, rfl⟩ := List.mem_map.mp hd
    exact ce3 G w hw i j hi (hv j hj) _ _ _ _ _ _ _ _ _ _ _ _ _ _ _ _ _ _ _
theorem ge_half (n c : Nat) (w : Nat) : (if (n : Int) < 2 * (c : Int) then (w : Int) else 0) = ((w * ge1 (n / 2 + 1) c : Nat) : Int) := by
  unfold ge1
  by_cases h : n / 2 + 1 ≤ c
  · rw [if_pos h, if_pos (by omega), Nat.mul_one]
  · rw [if_neg h, if_neg (by omega), Nat.mul_zero]
    rfl
theorem good_loop {st an : List (List Int)} {l : Nat} (G : Good st an l) (sc : D) (n q t : Nat) (w1 : D) (w : List Nat) (hw : ∀ a ∈ w, a < l) (S r : Nat) (s10 s11 s12 s15 s16 s17 : Sl) (i : Nat) (hi : i < w.length) (hr : r < st.length) :
    ∀ (R : List (List Nat × Nat)) (g : Nat) (s13 s14 s21 : Sl), isRow [s13] 0 = false → isRow [s14] 0 = false → isRow [s21] 0 = false → (∀ p ∈ R, p.1.length ≤ 100 ∧ ∀ j ∈ p.1, j < st.length) →
    ∃ y13 y14 y21, isRow [y13] 0 = false ∧ isRow [y14] 0 = false ∧ isRow [y21] 0 = false ∧ loopO (.tp [.nm 13, .nm 14]) lb_n_law_3 (rowsD R) (lEnv sc (machT st an) n q t w1 (.tup (wN w)) S r s10 s11 s12 s13 s14 s15 s16 s17 (.val (.int i)) (.val (.int g)) (.val (.int (rightI st an r w i))) s21) = .nx (lEnv sc (machT st an) n q t w1 (.tup (wN w)) S r s10 s11 s12 y13 y14 s15 s16 s17 (.val (.int i)) (.val (.int (g + wsum (fun v => ge1 (n / 2 + 1) (v.countP (prI st an r w i))) R : Nat))) (.val (.int (rightI st an r w i))) y21)
  | [], g, s13, s14, s21, h13, h14, h21, hp => ⟨s13, s14, s21, h13, h14, h21, rfl⟩
  | p :: R, g, s13, s14, s21, h13, h14, h21, hp => by
    have hp0 := hp p List.mem_cons_self
    obtain ⟨y13, y14, y21, h1, h2, h3, ih⟩ := good_loop G sc n q t w1 w hw S r s10 s11 s12 s15 s16 s17 i hi hr R (g + p.2 * ge1 (n / 2 + 1) (p.1.countP (prI st an r w i))) (.val (.tup (wN p.1))) (.val (.int p.2)) (.val (.lst (iL (p.1.map fun j => ansE st an w i j)))) rfl rfl rfl fun x hx => hp x (List.mem_cons_of_mem _ hx)
    refine ⟨y13, y14, y21, h1, h2, h3, ?_⟩
    have es : g + p.2 * ge1 (n / 2 + 1) (p.1.countP (prI st an r w i)) + wsum (fun v => ge1 (n / 2 + 1) (v.countP (prI st an r w i))) R = g + wsum (fun v => ge1 (n / 2 + 1) (v.countP (prI st an r w i))) (p :: R) := by
      unfold wsum
      rw [List.map_cons, List.sum_cons, ← Nat.add_assoc]
    rw [es] at ih
    have lc := fun x0 x1 x3 x4 x5 x6 x8 x9 x10 x11 x12 x13 x14 x15 x16 x17 x19 x20 x21 => lc_said G w hw i hi p.1 hp0.2 x0 x1 x3 x4 x5 x6 x8 x9 x10 x11 x12 x13 x14 x15 x16 x17 x19 x20 x21
    have ct := cnt_iL (p.1.map fun j => ansE st an w i j) (rightI st an r w i)
    rw [count_pr] at ct
    have gh := ge_half n (p.1.countP (prI st an r w i)) p.2
    have ll : (wN p.1).length ≤ lim := by rw [wN_len]; exact lim_big (by omega)
    have cl : p.1.countP (prI st an r w i) ≤ 100 := Nat.le_trans List.countP_le_length hp0.1
    have m2 := mul_small (a := 2) (b := p.1.countP (prI st an r w i)) (by decide) (by omega)
    rw [Int.natCast_mul] at m2
    have c2 : ((2 : Nat) : Int) = 2 := rfl
    rw [c2] at m2
    have e0 : rowsD (p :: R) = pairD p :: rowsD R := rfl
    rw [e0, loopO_cons]
    rw [Int.natCast_add] at ih
    generalize p.1.countP (prI st an r w i) = c at *
    generalize ((p.2 * ge1 (n / 2 + 1) c : Nat) : Int) = Z at *
    generalize iL (p.1.map fun j => ansE st an w i j) = SD at *
    generalize ((g + wsum (fun v => ge1 (n / 2 + 1) (v.countP (prI st an r w i))) (p :: R) : Nat) : Int) = Y at *
    generalize rightI st an r w i = A at *
    simp [isRow_eq] at h13 h14 h21
    unfold lEnv at ih ⊢
    have step : lb_n_law_3 [.val sc, .val .row, .val (machT st an), .val (.int n), .val (.int q), .val (.tup [.int t, .int q]), .val w1, .val (.tup (wN w)), .val (.int S), .val (.int r), s10, s11, s12, .val (.tup (wN p.1)), .val (.int p.2), s15, s16, s17, .val (.int i), .val (.int g), .val (.int A), s21, .dead] = .nx [.val sc, .val .row, .val (machT st an), .val (.int n), .val (.int q), .val (.tup [.int t, .int q]), .val w1, .val (.tup (wN w)), .val (.int S), .val (.int r), s10, s11, s12, .val (.tup (wN p.1)), .val (.int p.2), s15, s16, s17, .val (.int i), .val (.int ((g : Int) + Z)), .val (.int A), .val (.lst SD), .dead] := by
      by_cases hc : (n : Int) < 2 * (c : Int)
      · rw [if_pos hc] at gh
        simp [-mul_int, lb_n_law_3, h21, ll, lc, ct, m2, hc, gh]
      · rw [if_neg hc] at gh
        simp [-mul_int, lb_n_law_3, h21, ll, lc, ct, m2, hc, gh]
    have bd : bindT [.val sc, .val .row, .val (machT st an), .val (.int n), .val (.int q), .val (.tup [.int t, .int q]), .val w1, .val (.tup (wN w)), .val (.int S), .val (.int r), s10, s11, s12, s13, s14, s15, s16, s17, .val (.int i), .val (.int g), .val (.int A), s21, .dead] (.tp [.nm 13, .nm 14]) (pairD p) = some [.val sc, .val .row, .val (machT st an), .val (.int n), .val (.int q), .val (.tup [.int t, .int q]), .val w1, .val (.tup (wN w)), .val (.int S), .val (.int r), s10, s11, s12, .val (.tup (wN p.1)), .val (.int p.2), s15, s16, s17, .val (.int i), .val (.int g), .val (.int A), s21, .dead] := by
      simp [pairD, h13, h14]
    rw [bd]
    simp only [step, turn_nx]
    exact ih
end Lw
end
set_option Elab.async false
set_option linter.all false
set_option autoImplicit false
set_option maxRecDepth 100000
set_option maxHeartbeats 4000000
noncomputable section
namespace Lw
open Fw
theorem ix_pair0 (x y : D) : (D.tup [x, y]).ix (.int 0) = .ok x := by rw [ix_tup, ixG_zero]
theorem ix_pair1 (x y : D) : (D.tup [x, y]).ix (.int 1) = .ok y := by rw [ix_tup, ixG_one]
theorem due_loop {st an : List (List Int)} {l : Nat} (G : Good st an l) (sc : D) (n q t : Nat) (w1 : D) (w : List Nat) (hw : ∀ a ∈ w, a < l) (hwl : w.length ≤ 4) (r : Nat) (s11 s12 : Sl) (hr : r < st.length) (hS : st.length ≤ 3) (hq : q ≤ 5) (hq0 : 0 < q) (ht : t ≤ q) (hn : n ≤ 4) :
    ∀ (m i c d : Nat) (acc : List D) (s13 s14 s18 s19 s20 s21 : Sl), isRow [s13] 0 = false → isRow [s14] 0 = false → isRow [s18] 0 = false → isRow [s19] 0 = false → isRow [s20] 0 = false → isRow [s21] 0 = false → i + m = w.length → acc.length ≤ i → c < 2 ^ (1 + 21 * i) → d < 2 ^ (1 + 21 * i) →
    ∃ y13 y14 y18 y19 y20 y21, isRow [y18] 0 = false ∧ loopO (.nm 18) lb_n_law_4 (rangeD i m) (lEnv sc (machT st an) n q t w1 (.tup (wN w)) st.length r (.val (.lst (rowsD (RN st.length r t q n)))) s11 s12 s13 s14 (.val (.int (wholeN st n q : Nat))) (.own (.lst acc)) (.val (.tup [.int c, .int d])) s18 s19 s20 s21) =
      .nx (lEnv sc (machT st an) n q t w1 (.tup (wN w)) st.length r (.val (.lst (rowsD (RN st.length r t q n)))) s11 s12 y13 y14 (.val (.int (wholeN st n q : Nat))) (.own (.lst (acc ++ (List.range' i m).map fun j => chD st an r w n t q j))) (.val (.tup [.int (meanN (wholeN st n q) ((List.range' i m).map fun j => goodN st an r w n t q j) (c, d)).1, .int (meanN (wholeN st n q) ((List.range' i m).map fun j => goodN st an r w n t q j) (c, d)).2])) y18 y19 y20 y21)
  | 0, i, c, d, acc, s13, s14, s18, s19, s20, s21, h13, h14, h18, h19, h20, h21, hl, ha, hc, hd => ⟨s13, s14, s18, s19, s20, s21, h18, by rw [List.range'_zero, List.map_nil, List.map_nil, List.append_nil]; rfl⟩
  | m + 1, i, c, d, acc, s13, s14, s18, s19, s20, s21, h13, h14, h18, h19, h20, h21, hl, ha, hc, hd => by
    have hi : i < w.length := by omega
    have hi4 : i ≤ 3 := by omega
    have W20 : wholeN st n q < 2 ^ 20 := by
      unfold wholeN
      have a1 : q * st.length ≤ 5 * 3 := Nat.mul_le_mul hq hS
      have a2 : (q * st.length) ^ n ≤ 15 ^ n := Nat.pow_le_pow_left a1 n
      have a3 : 15 ^ n ≤ 15 ^ 4 := Nat.pow_le_pow_right (by decide) hn
      exact Nat.lt_of_le_of_lt (Nat.le_trans a2 a3) (by decide)
    have n1 := G.n1
    have W0 : 0 < wholeN st n q := Nat.pow_pos (Nat.mul_pos hq0 (by omega))
    have gW := goodN_le st an r w n t q i ht
    have hc1 : c < 2 ^ 70 := Nat.lt_of_lt_of_le hc (Nat.pow_le_pow_right (by decide) (by omega))
    have hd1 : d < 2 ^ 70 := Nat.lt_of_lt_of_le hd (Nat.pow_le_pow_right (by decide) (by omega))
    have ex : 1 + 21 * (i + 1) = (1 + 21 * i) + 20 + 1 := by omega
    have cX : c * wholeN st n q + d * (wholeN st n q - goodN st an r w n t q i) < 2 ^ (1 + 21 * (i + 1)) := by
      have a1 : c * wholeN st n q ≤ 2 ^ (1 + 21 * i) * 2 ^ 20 := Nat.mul_le_mul (Nat.le_of_lt hc) (Nat.le_of_lt W20)
      have a2 : d * (wholeN st n q - goodN st an r w n t q i) < 2 ^ (1 + 21 * i) * 2 ^ 20 := Nat.mul_lt_mul'' hd (by omega)
      rw [ex, Nat.pow_succ, Nat.pow_add]
      omega
    have dX : d * wholeN st n q < 2 ^ (1 + 21 * (i + 1)) := by
      have a2 : d * wholeN st n q < 2 ^ (1 + 21 * i) * 2 ^ 20 := Nat.mul_lt_mul'' hd W20
      rw [ex, Nat.pow_succ, Nat.pow_add]
      omega
    obtain ⟨z13, z14, z21, k13, k14, k21, e⟩ := good_loop G sc n q t w1 w hw st.length r (.val (.lst (rowsD (RN st.length r t q n)))) s11 s12 (.val (.int (wholeN st n q : Nat))) (.own (.lst acc)) (.val (.tup [.int c, .int d])) i hi hr (RN st.length r t q n) 0 s13 s14 s21 h13 h14 h21 (fun p hp => by
      have := RN_ok hS hr hq ht n p hp
      exact ⟨by rw [this.len]; omega, this.st⟩)
    rw [good_sum st an r w n t q i ht, Nat.zero_add] at e
    obtain ⟨y13, y14, y18, y19, y20, y21, h18', ih⟩ := due_loop G sc n q t w1 w hw hwl r s11 s12 hr hS hq hq0 ht hn m (i + 1) (c * wholeN st n q + d * (wholeN st n q - goodN st an r w n t q i)) (d * wholeN st n q) (acc ++ [chD st an r w n t q i]) z13 z14 (.val (.int i)) (.val (.int (goodN st an r w n t q i : Nat))) (.val (.int (rightI st an r w i))) z21 k13 k14 rfl rfl rfl k21 (by omega) (by simp; omega) cX dX
    refine ⟨y13, y14, y18, y19, y20, y21, h18', ?_⟩
    have lo := F_low (goodN st an r w n t q i) (wholeN st n q) W0 (Nat.lt_of_lt_of_le W20 (Nat.pow_le_pow_right (by decide) (by decide)))
    have ech : lowT (goodN st an r w n t q i) (wholeN st n q) = chD st an r w n t q i := rfl
    rw [ech] at lo
    have eg : (((wholeN st n q : Nat) : Int) - ((goodN st an r w n t q i : Nat) : Int)) = ((wholeN st n q - goodN st an r w n t q i : Nat) : Int) := by omega
    have m1 := mul_small (a := c) (b := wholeN st n q) (by omega) (by omega)
    have m2 := mul_small (a := d) (b := wholeN st n q - goodN st an r w n t q i) (by omega) (by omega)
    have m3 := mul_small (a := d) (b := wholeN st n q) (by omega) (by omega)
    have hcut := cut_to (wN w) i
    rw [wN_take] at hcut
    have hm : ∀ a ∈ w.take i, a < l := fun a ha => hw a (List.mem_of_mem_take ha)
    have haf := F_after G (w.take i) r hr hm
    have hrun := G.run (w.take i) r hr hm
    have hlt := hw _ (List.getElem_mem hi)
    have h1 := G.at1 hrun hlt
    have hx := wN_at hi
    have he : rightI st an r w i = ansI an (runN st r (w.take i)) w[i] := said_at w r i hi
    rw [← he] at h1
    have la : acc.length < lim := lim_big' (by omega)
    have l2 : (2 : Nat) ≤ lim := lim_big (by decide)
    have ec : ((i : Int) + 1) = ((i + 1 : Nat) : Int) := by omega
    have e00 : ((0 : Nat) : Int) = 0 := rfl
    rw [e00] at e
    rw [Int.natCast_add (c * wholeN st n q)] at ih
    have er : List.range' i (m + 1) = i :: List.range' (i + 1) m := List.range'_succ
    rw [er, List.map_cons, List.map_cons, meanN]
    clear he
    generalize w[i] = wi at *
    generalize meanN (wholeN st n q) ((List.range' (i + 1) m).map fun j => goodN st an r w n t q j) (c * wholeN st n q + d * (wholeN st n q - goodN st an r w n t q i), d * wholeN st n q) = MM at *
    generalize (List.range' (i + 1) m).map (fun j => chD st an r w n t q j) = CC at *
    generalize chD st an r w n t q i = CH at *
    generalize ((c * wholeN st n q : Nat) : Int) = A1 at *
    generalize ((d * (wholeN st n q - goodN st an r w n t q i) : Nat) : Int) = A2 at *
    generalize ((d * wholeN st n q : Nat) : Int) = A3 at *
    generalize ((wholeN st n q - goodN st an r w n t q i : Nat) : Int) = A4 at *
    generalize ((wholeN st n q : Nat) : Int) = A5 at *
    generalize ((goodN st an r w n t q i : Nat) : Int) = A6 at *
    generalize rightI st an r w i = A7 at *
    generalize rowsD (RN st.length r t q n) = RR at *
    simp [isRow_eq] at h18 h19 h20
    rw [rangeD_succ, loopO_cons]
    unfold lEnv at ih e ⊢
    have step : lb_n_law_4 [.val sc, .val .row, .val (machT st an), .val (.int n), .val (.int q), .val (.tup [.int t, .int q]), .val w1, .val (.tup (wN w)), .val (.int st.length), .val (.int r), .val (.lst RR), s11, s12, s13, s14, .val (.int A5), .own (.lst acc), .val (.tup [.int c, .int d]), .val (.int i), s19, s20, s21, .dead]
        = .nx [.val sc, .val .row, .val (machT st an), .val (.int n), .val (.int q), .val (.tup [.int t, .int q]), .val w1, .val (.tup (wN w)), .val (.int st.length), .val (.int r), .val (.lst RR), s11, s12, z13, z14, .val (.int A5), .own (.lst (acc ++ [CH])), .val (.tup [.int (A1 + A2), .int A3]), .val (.int i), .val (.int A6), .val (.int A7), z21, .dead] := by
      simp [-mul_int, -ix_tup, -List.getD_eq_getElem?_getD, lb_n_law_4, h19, h20, mach1, hcut, haf, h1, hx, e, lo, la, l2, ix_pair0, ix_pair1, eg, m1, m2, m3]
    have bd : bindT [.val sc, .val .row, .val (machT st an), .val (.int n), .val (.int q), .val (.tup [.int t, .int q]), .val w1, .val (.tup (wN w)), .val (.int st.length), .val (.int r), .val (.lst RR), s11, s12, s13, s14, .val (.int A5), .own (.lst acc), .val (.tup [.int c, .int d]), s18, s19, s20, s21, .dead] (.nm 18) (.int i) = some [.val sc, .val .row, .val (machT st an), .val (.int n), .val (.int q), .val (.tup [.int t, .int q]), .val w1, .val (.tup (wN w)), .val (.int st.length), .val (.int r), .val (.lst RR), s11, s12, s13, s14, .val (.int A5), .own (.lst acc), .val (.tup [.int c, .int d]), .val (.int i), s19, s20, s21, .dead] := by
      simp [h18]
    rw [bd]
    simp only [step, turn_nx]
    rw [ec]
    rw [List.append_assoc, List.singleton_append] at ih
    exact ih
end Lw
end
set_option Elab.async false
set_option linter.all false
set_option autoImplicit false
set_option maxRecDepth 100000
set_option maxHeartbeats 400000
noncomputable section
namespace Lw
open Fw
theorem AllOk.mapv {P : D → Prop} {X : Res D} (h : AllOk P X) : AllOk (fun s => ∃ d, s = Sl.val d ∧ P d) (X.bind fun d => .ok (.val d)) :=
  AllOk.bind (Q := fun s => ∃ d, s = Sl.val d ∧ P d) (k := fun d => .ok (Sl.val d)) (fun d hd => show ∃ d', Sl.val d = Sl.val d' ∧ P d' from ⟨d, rfl, hd⟩) h
theorem taken1 (n : Int) (h : 0 < n) (h2 : n ≤ 1000000) : AllOk (fun d => ∃ k : Nat, d = .int ((k + 1 : Nat) : Int) ∧ (k : Int) < n) ((F_n__law_taken [.row, .int n]).bind fun d => D.add (.int 1) d) := by
  rw [taken_ok n h h2]
  intro i h1 h2
  obtain ⟨i', rfl⟩ : ∃ i' : Nat, i = i' := ⟨i.toNat, by omega⟩
  exact ⟨i', by simp; omega, h2⟩
def A0 (sc : D) (s2 s3 s4 s5 s6 s7 s8 s9 s10 : Sl) : SEnv := [.val sc, .val .row, s2, s3, s4, s5, s6, s7, s8, s9, s10, .dead, .dead, .dead, .dead, .dead, .dead, .dead, .dead, .dead, .dead, .dead, .dead]
theorem partA (sc : D) : AllO (fun ρ => ∃ st an l n, ρ = A0 sc (.val (machT st an)) (.val (.int ((n + 1 : Nat) : Int))) .dead .dead .dead .dead .dead .dead .dead ∧ Good st an l ∧ st.length ≤ 3 ∧ l ≤ 2 ∧ n < 4)
    ((parO [2, 3] (kCons (hV (app (callF 3 F_n__law_machine) (consA (fun ρ => vr ρ 1) (consA (fun _ => .ok (.int 3)) (consA (fun _ => .ok (.int 2)) nilA))))) (kCons (hV (bin D.add (fun _ => .ok (.int 1)) (app (callF 2 F_n__law_taken) (consA (fun ρ => vr ρ 1) (consA (fun _ => .ok (.int 4)) nilA))))) kNil))) (A0 sc .dead .dead .dead .dead .dead .dead .dead .dead .dead)) := by
  have m := F_machine 3 2 (by decide) (by decide) (by decide) (by decide)
  have t := taken1 4 (by decide) (by decide)
  have c3 : ((3 : Nat) : Int) = 3 := rfl
  have c2 : ((2 : Nat) : Int) = 2 := rfl
  rw [c3, c2] at m
  unfold A0
  rw [parO_eq]
  refine AllO.bindR (P := fun ss => ∃ st an l n, ss = [.val (machT st an), .val (.int ((n + 1 : Nat) : Int))] ∧ Good st an l ∧ st.length ≤ 3 ∧ l ≤ 2 ∧ n < 4) (fun ss ⟨st, an, l, n, e, h⟩ => ?q1) ?q2
  case q1 =>
    rw [e]
    exact ⟨st, an, l, n, rfl, h⟩
  case q2 =>
    simp only [kCons_eq, kNil_eq, hV_eq, app_eq, consA_eq, nilA_eq, vis_cons, vis_val, vis_dead, vis_nil, bin_eq, vr_eq, bind_ok, List.getElem?_cons_succ, List.getElem?_cons_zero, callF_eq, List.length_cons, List.length_nil, if_true]
    generalize F_n__law_machine [D.row, D.int 3, D.int 2] = X3 at *
    refine AllOk.bind (fun s ⟨d, e, st, an, l, e2, h⟩ => ?_) (AllOk.mapv m)
    refine AllOk.bind (fun s2 ⟨ss, e3⟩ => ?_) (P := fun ss => ∃ n : Nat, ss = [.val (.int ((n + 1 : Nat) : Int))] ∧ n < 4) (AllOk.bind (fun s2 ⟨d2, e3, k, e4, h4⟩ => ?_) (AllOk.mapv t))
    · exact ⟨st, an, l, ss, by rw [e, e2, e3.1], h.1, h.2.1, h.2.2, e3.2⟩
    · exact ⟨k, by rw [e3, e4], by omega⟩
theorem partB (sc M n : D) : AllO (fun ρ => ∃ k, ρ = A0 sc (.val M) (.val n) (.val (.int ((k + 1 : Nat) : Int))) .dead .dead .dead .dead .dead .dead ∧ k < 5)
    ((fun ρ : SEnv => bindO ((bin D.add (fun _ => .ok (.int 1)) (app (callF 2 F_n__law_taken) (consA (fun ρ => vr ρ 1) (consA (fun _ => .ok (.int 5)) nilA)))) ρ.vis) fun d => setO ρ 4 (.val d)) (A0 sc (.val M) (.val n) .dead .dead .dead .dead .dead .dead .dead)) := by
  have t := taken1 5 (by decide) (by decide)
  unfold A0
  simp only [app_eq, consA_eq, nilA_eq, vis_cons, vis_val, vis_dead, vis_nil, bin_eq, vr_eq, bind_ok, List.getElem?_cons_succ, List.getElem?_cons_zero, callF_eq, List.length_cons, List.length_nil, if_true]
  refine AllO.bindR (fun d ⟨k, e, h⟩ => ?_) t
  rw [e]
  exact ⟨k, rfl, by omega⟩
theorem partC {st an : List (List Int)} {l : Nat} (G : Good st an l) (sc n : D) (k : Nat) (hk : k < 5) : AllO (fun ρ => ∃ t w1 w2, ρ = A0 sc (.val (machT st an)) (.val n) (.val (.int ((k + 1 : Nat) : Int))) (.val (.tup [.int (t : Nat), .int ((k + 1 : Nat) : Int)])) (.val (.tup (wN w1))) (.val (.tup (wN w2))) .dead .dead .dead ∧ t ≤ k + 1 ∧ w1.length ≤ 3 ∧ w2.length ≤ 4 ∧ (∀ a ∈ w1, a < l) ∧ ∀ a ∈ w2, a < l)
    ((parO [5, 6, 7] (kCons (hV (tupF (consA (app (callF 2 F_n__law_taken) (consA (fun ρ => vr ρ 1) (consA (bin D.add (fun ρ => vr ρ 4) (fun _ => .ok (.int 1))) nilA))) (consA (fun ρ => vr ρ 4) nilA)))) (kCons (hV (app (callF 3 F_n__law_word) (consA (fun ρ => vr ρ 1) (consA (fun ρ => vr ρ 2) (consA (fun _ => .ok (.int 3)) nilA))))) (kCons (hV (app (callF 3 F_n__law_word) (consA (fun ρ => vr ρ 1) (consA (fun ρ => vr ρ 2) (consA (fun _ => .ok (.int 4)) nilA))))) kNil)))) (A0 sc (.val (machT st an)) (.val n) (.val (.int ((k + 1 : Nat) : Int))) .dead .dead .dead .dead .dead .dead)) := by
  have a3 := F_word G 3 (by decide)
  have a4 := F_word G 4 (by decide)
  have t := taken_ok (((k + 1 : Nat) : Int) + 1) (by omega) (by omega)
  have c3 : ((3 : Nat) : Int) = 3 := rfl
  have c4 : ((4 : Nat) : Int) = 4 := rfl
  have l2 : (2 : Nat) ≤ lim := lim_big (by decide)
  rw [c3] at a3
  rw [c4] at a4
  unfold A0
  rw [parO_eq]
  refine AllO.bindR (P := fun ss => ∃ t w1 w2, ss = [.val (.tup [.int (t : Nat), .int ((k + 1 : Nat) : Int)]), .val (.tup (wN w1)), .val (.tup (wN w2))] ∧ t ≤ k + 1 ∧ w1.length ≤ 3 ∧ w2.length ≤ 4 ∧ (∀ a ∈ w1, a < l) ∧ ∀ a ∈ w2, a < l) (fun ss ⟨t, w1, w2, e, h⟩ => ?q1) ?q2
  case q1 =>
    rw [e]
    exact ⟨t, w1, w2, rfl, h⟩
  case q2 =>
    simp only [kCons_eq, kNil_eq, hV_eq, app_eq, tupF_eq, consA_eq, nilA_eq, vis_cons, vis_val, vis_dead, vis_nil, bin_eq, vr_eq, bind_ok, bind_dr, List.getElem?_cons_succ, List.getElem?_cons_zero, callF_eq, List.length_cons, List.length_nil, if_true, add_int, t, l2]
    generalize F_n__law_word [D.row, machT st an, D.int 3] = X3 at *
    generalize F_n__law_word [D.row, machT st an, D.int 4] = X4 at *
    intro i h1 h2
    have ei : ((i.toNat : Nat) : Int) = i := by omega
    refine AllOk.bind (fun ss ⟨w1, w2, e, h⟩ => ?_) (P := fun ss => ∃ w1 w2, ss = [Sl.val (.tup (wN w1)), .val (.tup (wN w2))] ∧ w1.length ≤ 3 ∧ w2.length ≤ 4 ∧ (∀ a ∈ w1, a < l) ∧ ∀ a ∈ w2, a < l) ?_
    · exact ⟨i.toNat, w1, w2, by rw [e, ei], by omega, h⟩
    · refine AllOk.bind (fun s ⟨d, e, w1, e2, h⟩ => ?_) (AllOk.mapv a3)
      refine AllOk.bind (fun ss ⟨w2, e3, h3⟩ => ?_) (P := fun ss => ∃ w2, ss = [Sl.val (.tup (wN w2))] ∧ w2.length ≤ 4 ∧ ∀ a ∈ w2, a < l) (AllOk.bind (fun s2 ⟨d2, e3, w2, e4, h4⟩ => ?_) (AllOk.mapv a4))
      · exact ⟨w1, w2, by rw [e, e2, e3], h.1, h3.1, h.2, h3.2⟩
      · exact ⟨w2, by rw [e3, e4], h4⟩
end Lw
end
set_option Elab.async false
set_option linter.all false
set_option autoImplicit false
set_option maxRecDepth 100000
set_option maxHeartbeats 4000000
noncomputable section
namespace Lw
open Fw
/-- what is to be shown of the law's end; a structure, so that nothing reckons it out -/
structure Gl (o : Out) : Prop where
  run : AllOk (fun d => d = .bl true) o.fin
theorem step_nx {g k : SEnv → Out} {ρ : SEnv} (ρ' : SEnv) (h : g ρ = .nx ρ') (h2 : Gl (k ρ')) : Gl ((seqO g k) ρ) := by
  rw [seqO_eq, h, then_nx]
  exact h2
theorem Gl.seq {P : SEnv → Prop} {g k : SEnv → Out} {ρ : SEnv} (h : AllO P (g ρ)) (h2 : ∀ ρ, P ρ → Gl (k ρ)) : Gl ((seqO g k) ρ) := ⟨by
  rw [seqO_eq]
  exact AllO.done (fun ρ hp => (h2 ρ hp).run) h⟩
theorem forO_run {fi : Fw.Env → Res (List D)} {t : Tg} {g : SEnv → Out} {ρ : SEnv} {ds : List D} {o : Out} (h1 : fi ρ.vis = .ok ds) (h2 : loopO t g ds ρ = o) : forO fi t g ρ = o := by
  rw [forO_eq, h1, bindO_ok]
  exact h2
theorem rowsD_len (R : List (List Nat × Nat)) : (rowsD R).length = R.length := by simp [rowsD]
/-- a comprehension over pairs -/
theorem lcL_pairs {fe : Fw.Env → Res D} {r : Fw.Env} {i j : Nat} (h : List Nat × Nat → D) : ∀ R : List (List Nat × Nat), (∀ p ∈ R, fe (putE r [(i, .tup (wN p.1)), (j, .int (p.2 : Nat))]) = .ok (h p)) → lcL (.tp [.nm i, .nm j]) yesB fe r (rowsD R) = .ok (R.map h)
  | [], _ => rfl
  | p :: R, hp => by
    have ih := lcL_pairs h R fun x hx => hp x (List.mem_cons_of_mem _ hx)
    have e := hp p List.mem_cons_self
    have e0 : rowsD (p :: R) = pairD p :: rowsD R := rfl
    have e1 : lcL (.tp [.nm i, .nm j]) yesB fe r (pairD p :: rowsD R) = (noX (fe (putE r [(i, .tup (wN p.1)), (j, .int (p.2 : Nat))]))).bind fun y => (lcL (.tp [.nm i, .nm j]) yesB fe r (rowsD R)).bind fun l => .ok (y :: l) := rfl
    rw [e0, e1, e, ih]
    rfl
theorem sum_nats (l : List Nat) : D.sum (.lst (l.map fun (n : Nat) => D.int (n : Int))) = .ok (.int (l.sum : Nat)) := by
  have e : (l.map fun (n : Nat) => D.int (n : Int)) = (l.map fun (n : Nat) => (n : Int)).map D.int := by rw [List.map_map]; rfl
  unfold D.sum D.asInts
  rw [e]
  simp only [intsOf_map, bind_ok]
  congr 2
  induction l with
  | nil => rfl
  | cons x l ih => simp [ih]
theorem lowT_alike (k t b : Nat) : F_n__law_alike (k + 2) [lowT t b, lowT t b] = .ok (.bl true) := by
  unfold lowT
  refine alike_tup (k + 1) _ (by simp) fun d hd => ?_
  rcases List.mem_cons.mp hd with rfl | hd
  · exact alike_int k _
  · rcases List.mem_cons.mp hd with rfl | hd
    · exact alike_int k _
    · cases hd
theorem lowT_same (b : Nat) (hb : 0 < b) : lowT b b = .tup [.int 1, .int 1] := by
  unfold lowT
  rw [Nat.gcd_self, Nat.div_self hb]
  rfl
theorem lowT_zero (b : Nat) (hb : 0 < b) : lowT 0 b = .tup [.int 0, .int 1] := by
  unfold lowT
  rw [Nat.gcd_zero_left, Nat.div_self hb, Nat.zero_div]
  rfl
/-! impossible pushes -/
theorem Ex_zero : ∀ (m : Nat) (f : Nat → Nat) (x : Nat), Ex x 0 m f = x ^ m * f m
  | 0, f, x => by simp [Ex]
  | m + 1, f, x => by
    rw [Ex, Ex_zero m, Nat.pow_succ]
    simp [Nat.mul_assoc]
theorem good_none (st an : List (List Int)) (s : Nat) (w : List Nat) (n q i : Nat) (hn : 1 ≤ n) : goodN st an s w n 0 q i = wholeN st n q := by
  have e := right_Ex n (topN st an s w 0 q i) (q * st.length)
  have t : topN st an s w 0 q i = q * st.length := by simp [topN]
  unfold goodN wholeN
  rw [e, t, Nat.sub_self, Ex_zero]
  have h : ge1 (n / 2 + 1) n = 1 := if_pos (by omega)
  rw [h, Nat.mul_one]
theorem chD_none (st an : List (List Int)) (s : Nat) (w : List Nat) (n q i : Nat) (hn : 1 ≤ n) (hw : 0 < wholeN st n q) : chD st an s w n 0 q i = .tup [.int 1, .int 1] := by
  unfold chD
  rw [good_none st an s w n q i hn, lowT_same _ hw]
theorem meanN_none (W : Nat) (hW : 0 < W) : ∀ (gs : List Nat) (d : Nat), (∀ g ∈ gs, g = W) → 0 < d → (meanN W gs (0, d)).1 = 0 ∧ 0 < (meanN W gs (0, d)).2
  | [], d, _, hd => ⟨rfl, hd⟩
  | g :: gs, d, h, hd => by
    have e := h g List.mem_cons_self
    subst e
    rw [meanN]
    have z : ((0, d).1 * g + (0, d).2 * (g - g), (0, d).2 * g) = (0, d * g) := by simp
    rw [z]
    exact meanN_none g hW gs (d * g) (fun x hx => h x (List.mem_cons_of_mem _ hx)) (Nat.mul_pos hd hW)
theorem map_same {α : Type} (f : Nat → α) (x : α) (h : ∀ i, f i = x) (n : Nat) : (List.range' 0 n).map f = List.replicate n x := by
  rw [List.map_congr_left (g := fun _ => x) fun i _ => h i, List.map_const', List.length_range']
theorem pow21 {S : Nat} (hS : S ≤ 3) : wholeN [] 25 7 ≤ 0 ∧ (7 * S) ^ 25 < 2 ^ 111 := by
  refine ⟨by decide +kernel, ?_⟩
  have a : (7 * S) ^ 25 ≤ 21 ^ 25 := Nat.pow_le_pow_left (by omega) 25
  exact Nat.lt_of_le_of_lt a (by decide +kernel)
theorem reps_one {α : Type} (x : α) : ∀ n : Nat, (List.replicate n [x]).flatten = List.replicate n x
  | 0 => rfl
  | n + 1 => by rw [List.replicate_succ, List.replicate_succ, List.flatten_cons, reps_one x n]; rfl
theorem mulTT_tup (a : List D) (b : Int) : mulTT (.tup a) (.int b) = if 0 ≤ b ∧ b ≤ 1000 ∧ a.length ≤ 1000 then .ok (.tup (List.replicate b.toNat a).flatten) else .no := rfl
theorem fl_pair (i j : Int) : Fl 1 (.tup [.int i, .int j]) := .tup _ _ fun d hd => by
  rcases List.mem_cons.mp hd with rfl | hd
  · exact .int _ _
  · rcases List.mem_cons.mp hd with rfl | hd
    · exact .int _ _
    · cases hd
theorem law_true (b : PySem.Addr) (ns : List Int) : AllOk (fun d => d = .bl true) (g_n_law (.val (.arr b ns) :: .val .row :: List.replicate 21 .dead)).fin := by
  have h0 : (Sl.val (.arr b ns) :: Sl.val .row :: List.replicate 21 Sl.dead) = A0 (.arr b ns) .dead .dead .dead .dead .dead .dead .dead .dead .dead := rfl
  rw [h0]
  suffices h : Gl (g_n_law (A0 (.arr b ns) .dead .dead .dead .dead .dead .dead .dead .dead .dead)) by
    obtain ⟨h⟩ := h
    assumption
  unfold g_n_law
  refine Gl.seq (partA (.arr b ns)) ?_
  intro ρ hρ
  obtain ⟨st, an, l, n, e, G, hS, hl, hn⟩ := hρ
  rw [e]
  refine Gl.seq (partB (.arr b ns) (machT st an) (.int ((n + 1 : Nat) : Int))) ?_
  intro ρ hρ
  obtain ⟨k, e, hk⟩ := hρ
  rw [e]
  refine Gl.seq (partC G (.arr b ns) (.int ((n + 1 : Nat) : Int)) k hk) ?_
  intro ρ hρ
  obtain ⟨t, w1, w2, e, ht, l1, l2, hw1, hw2⟩ := hρ
  rw [e]
  clear e
  generalize hN : n + 1 = N
  generalize hq : k + 1 = q at *
  have n1 := G.n1
  have hs0 : 0 < st.length := by omega
  have hr : runN st 0 w1 < st.length := G.run w1 0 hs0 hw1
  have haf := F_after G w1 0 hs0 hw1
  have e00 : ((0 : Nat) : Int) = 0 := rfl
  rw [e00] at haf
  generalize D.arr b ns = sc
  -- the number of states, the right state
  refine step_nx (lEnv sc (machT st an) N q t (.tup (wN w1)) (.tup (wN w2)) st.length (runN st 0 w1) .dead .dead .dead .dead .dead .dead .dead .dead .dead .dead .dead .dead) ?_ ?_
  · simp [-ix_tup, A0, lEnv, mach0, rowsT, haf]
  -- the rows
  refine step_nx (lEnv sc (machT st an) N q t (.tup (wN w1)) (.tup (wN w2)) st.length (runN st 0 w1) (.val (.lst (rowsD (RN st.length (runN st 0 w1) t q 0)))) .dead .dead .dead .dead .dead .dead .dead .dead .dead .dead .dead) ?_ ?_
  · have l0 : (0 : Nat) ≤ lim := Nat.zero_le _
    have l1 : (1 : Nat) ≤ lim := lim_big (by decide)
    have l2 : (2 : Nat) ≤ lim := lim_big (by decide)
    simp [lEnv, l0, l1, l2, rowsD, RN, pairD, wN]
  obtain ⟨y11, y12, y13, y14, h13, h14, ec⟩ := copies_loop sc (machT st an) N q t (.tup (wN w1)) (.tup (wN w2)) st.length (runN st 0 w1) .dead .dead .dead .dead .dead .dead .dead ht (by omega) hS hr (fun s hs => by
    simp at hs
    rw [hs]
    rfl) N 0 .dead .dead .dead .dead rfl rfl rfl rfl (by omega)
  rw [e00, Nat.zero_add] at ec
  have hrN := rng1_nat (m := N) (by omega)
  refine step_nx _ (forO_run (ds := rangeD 0 N) (by simp [lEnv, hrN]) ec) ?_
  -- the whole
  have hRN := RN_ok hS hr (show q ≤ 5 by omega) ht N
  have hW : ((RN st.length (runN st 0 w1) t q N).map fun p => p.2).sum = wholeN st N q := whole_sum st.length (runN st 0 w1) t q N ht
  have hRl := RN_len_le (S := st.length) (r := runN st 0 w1) (t := t) (q := q) (n := N) hS (by omega)
  refine step_nx (lEnv sc (machT st an) N q t (.tup (wN w1)) (.tup (wN w2)) st.length (runN st 0 w1) (.val (.lst (rowsD (RN st.length (runN st 0 w1) t q N)))) y11 y12 y13 y14 (.val (.int (wholeN st N q : Nat))) .dead .dead .dead .dead .dead .dead) ?_ ?_
  · have hlc : ∀ r : Fw.Env, r.length = 23 → lcL (.tp [.nm 13, .nm 14]) yesB ce_n_law_2 r (rowsD (RN st.length (runN st 0 w1) t q N)) = .ok ((RN st.length (runN st 0 w1) t q N).map fun p => .int (p.2 : Nat)) := by
      intro r hl
      refine lcL_pairs (fun p => .int (p.2 : Nat)) _ fun p hp => ?_
      simp [ce_n_law_2, hl]
    have hsm := sum_nats ((RN st.length (runN st 0 w1) t q N).map fun p => p.2)
    rw [hW, List.map_map] at hsm
    have hcomp : ((fun (n : Nat) => D.int (n : Int)) ∘ fun (p : List Nat × Nat) => p.2) = fun p => D.int ((p.2 : Nat) : Int) := rfl
    rw [hcomp] at hsm
    have hlen : (rowsD (RN st.length (runN st 0 w1) t q N)).length ≤ lim := by rw [rowsD_len]; exact lim_big (by omega)
    generalize rowsD (RN st.length (runN st 0 w1) t q N) = RR at *
    generalize (RN st.length (runN st 0 w1) t q N).map (fun p => D.int ((p.2 : Nat) : Int)) = SS at *
    simp [lEnv, hlen, hlc, hsm]
  refine step_nx (lEnv sc (machT st an) N q t (.tup (wN w1)) (.tup (wN w2)) st.length (runN st 0 w1) (.val (.lst (rowsD (RN st.length (runN st 0 w1) t q N)))) y11 y12 y13 y14 (.val (.int (wholeN st N q : Nat))) (.own (.lst [])) (.val (.tup [.int (0 : Nat), .int (1 : Nat)])) .dead .dead .dead .dead) ?_ ?_
  · have l0 : (0 : Nat) ≤ lim := Nat.zero_le _
    have l2 : (2 : Nat) ≤ lim := lim_big (by decide)
    simp [lEnv, l0, l2]
  obtain ⟨z13, z14, z18, z19, z20, z21, h18, ed⟩ := due_loop G sc N q t (.tup (wN w1)) w2 hw2 l2 (runN st 0 w1) y11 y12 hr hS (by omega) (by omega) ht (by omega) w2.length 0 0 1 [] y13 y14 .dead .dead .dead .dead h13 h14 rfl rfl rfl rfl (by omega) (by simp) (by decide) (by decide)
  rw [e00, List.nil_append] at ed
  have hr2 := rng1_nat (m := w2.length) (by omega)
  refine step_nx _ (forO_run (ds := rangeD 0 w2.length) (by simp [lEnv, wN_len, hr2]) ed) ?_
  -- the four questions
  have hWp : 0 < wholeN st N q := Nat.pow_pos (Nat.mul_pos (by omega) hs0)
  have rc := F_right_chances G N t q w1 w2 (by omega) (by omega) ht (by omega) (by omega) hw1 hw2 (by omega) (by omega)
  have WK : wholeN st N q < 2 ^ 20 := by
    unfold wholeN
    have a1 : q * st.length ≤ 5 * 3 := Nat.mul_le_mul (by omega) hS
    have a2 : (q * st.length) ^ N ≤ 15 ^ N := Nat.pow_le_pow_left a1 N
    have a3 : 15 ^ N ≤ 15 ^ 4 := Nat.pow_le_pow_right (by decide) (by omega)
    exact Nat.lt_of_le_of_lt (Nat.le_trans a2 a3) (by decide)
  have mm := F_mean_misses G N t q w1 w2 20 WK (by omega) (by omega) ht (by omega) (by omega) hw1 hw2 (by omega) (by omega) (by omega)
  have hW7 : 0 < wholeN st 25 7 := Nat.pow_pos (Nat.mul_pos (by decide) hs0)
  have rc25 := F_right_chances G 25 0 7 w1 w2 (by decide) (by decide) (by decide) (by decide) (by decide) hw1 hw2 (by omega) (by omega)
  rw [map_same _ _ (fun i => chD_none st an (runN st 0 w1) w2 25 7 i (by decide) hW7)] at rc25
  have mm25 := F_mean_misses G 25 0 7 w1 [] 111 (pow21 hS).2 (by decide) (by decide) (by decide) (by decide) (by decide) hw1 (fun a ha => by cases ha) (by omega) (by decide) (by decide)
  have mm0 := F_mean_misses G N 0 1 w1 w2 20 (by
    unfold wholeN
    have a1 : 1 * st.length ≤ 3 := by omega
    have a2 : (1 * st.length) ^ N ≤ 3 ^ N := Nat.pow_le_pow_left a1 N
    have a3 : 3 ^ N ≤ 3 ^ 4 := Nat.pow_le_pow_right (by decide) (by omega)
    exact Nat.lt_of_le_of_lt (Nat.le_trans a2 a3) (by decide)) (by omega) (by omega) (by decide) (by decide) (by decide) hw1 hw2 (by omega) (by omega) (by omega)
  have hW1 : 0 < wholeN st N 1 := Nat.pow_pos (Nat.mul_pos (by decide) hs0)
  have mz := meanN_none (wholeN st N 1) hW1 ((List.range' 0 w2.length).map fun j => goodN st an (runN st 0 w1) w2 N 0 1 j) 1 (fun g hg => by
    obtain ⟨j, _, rfl⟩ := List.mem_map.mp hg
    exact good_none st an _ w2 N 1 j (by omega)) (by decide)
  rw [mz.1, lowT_zero _ mz.2] at mm0
  have wnil : wN ([] : List Nat) = [] := rfl
  have low01 : lowT 0 1 = .tup [.int 0, .int 1] := lowT_zero 1 (by decide)
  have mm25' : F_n_mean_misses [machT st an, .int ((25 : Nat) : Int), .tup [.int ((0 : Nat) : Int), .int ((7 : Nat) : Int)], .tup (wN w1), .tup []] = .ok (.tup [.int 0, .int 1]) := by
    rw [← low01]
    exact mm25
  -- the mean, in lowest terms
  have hmp : 0 < (meanN (wholeN st N q) ((List.range' 0 w2.length).map fun j => goodN st an (runN st 0 w1) w2 N t q j) (0, 1)).2 := by
    have : ∀ (gs : List Nat) (c d : Nat), 0 < d → 0 < (meanN (wholeN st N q) gs (c, d)).2 := by
      intro gs
      induction gs with
      | nil => intro c d h; exact h
      | cons g gs ih => intro c d h; exact ih _ _ (Nat.mul_pos h hWp)
    exact this _ _ _ (by decide)
  have hms : (meanN (wholeN st N q) ((List.range' 0 w2.length).map fun j => goodN st an (runN st 0 w1) w2 N t q j) (0, 1)).2 < 2 ^ 8000 := by
    have : ∀ (gs : List Nat) (c d X : Nat), d < 2 ^ X → (meanN (wholeN st N q) gs (c, d)).2 < 2 ^ (X + 20 * gs.length) := by
      intro gs
      induction gs with
      | nil => intro c d X h; exact h
      | cons g gs ih =>
        intro c d X h
        have e : X + 20 * (g :: gs).length = (X + 20) + 20 * gs.length := by rw [List.length_cons]; omega
        rw [e]
        refine ih _ _ (X + 20) ?_
        rw [Nat.pow_add]
        exact Nat.mul_lt_mul'' h WK
    refine Nat.lt_of_lt_of_le (this _ 0 1 1 (by decide)) (Nat.pow_le_pow_right (by decide) ?_)
    simp
    omega
  have lo := F_low (meanN (wholeN st N q) ((List.range' 0 w2.length).map fun j => goodN st an (runN st 0 w1) w2 N t q j) (0, 1)).1 (meanN (wholeN st N q) ((List.range' 0 w2.length).map fun j => goodN st an (runN st 0 w1) w2 N t q j) (0, 1)).2 hmp hms
  have al1 : F_n__law_alike 8 [.tup ((List.range' 0 w2.length).map fun j => chD st an (runN st 0 w1) w2 N t q j), .tup ((List.range' 0 w2.length).map fun j => chD st an (runN st 0 w1) w2 N t q j)] = .ok (.bl true) := by
    refine alike_tup 7 _ (by simp; omega) fun d hd => ?_
    obtain ⟨j, _, rfl⟩ := List.mem_map.mp hd
    exact lowT_alike 5 _ _
  have al2 := lowT_alike 6 (meanN (wholeN st N q) ((List.range' 0 w2.length).map fun j => goodN st an (runN st 0 w1) w2 N t q j) (0, 1)).1 (meanN (wholeN st N q) ((List.range' 0 w2.length).map fun j => goodN st an (runN st 0 w1) w2 N t q j) (0, 1)).2
  generalize (meanN (wholeN st N q) ((List.range' 0 w2.length).map fun j => goodN st an (runN st 0 w1) w2 N t q j) (0, 1)).1 = M1 at *
  generalize (meanN (wholeN st N q) ((List.range' 0 w2.length).map fun j => goodN st an (runN st 0 w1) w2 N t q j) (0, 1)).2 = M2 at *
  generalize (List.range' 0 w2.length).map (fun j => chD st an (runN st 0 w1) w2 N t q j) = CC at *
  generalize lowT M1 M2 = LL at *
  have e25 : ((25 : Nat) : Int) = 25 := rfl
  have e7 : ((7 : Nat) : Int) = 7 := rfl
  have e1 : ((1 : Nat) : Int) = 1 := rfl
  rw [e25, e7, e00] at rc25 mm25'
  rw [e00, e1] at mm0
  have l1' : (1 : Nat) ≤ lim := lim_big (by decide)
  have l2' : (2 : Nat) ≤ lim := lim_big (by decide)
  have l0 : (0 : Nat) ≤ lim := Nat.zero_le _
  have ml : mulTT (.tup [.tup [.int 1, .int 1]]) (.int (w2.length : Int)) = .ok (.tup (List.replicate w2.length (.tup [.int 1, .int 1]))) := by
    rw [mulTT_tup, if_pos ⟨by omega, by omega, by decide⟩, Int.toNat_natCast, reps_one]
  have flr : Fl 2 (.tup (List.replicate w2.length (.tup [.int 1, .int 1]))) := .tup _ _ fun d hd => by
    rw [List.eq_of_mem_replicate hd]
    exact fl_pair 1 1
  have ne1 := ne_same flr
  have ne2 := ne_same (fl_pair 0 1)
  have eq1 := eq_same (fl_pair 0 1)
  generalize D.tup (List.replicate w2.length (.tup [.int 1, .int 1])) = RPL at *
  unfold lEnv
  refine step_nx _ (by
    simp [-ix_tup, rc, al1]
    rfl) ?_
  refine step_nx _ (by
    simp [-ix_tup, ix_pair0, ix_pair1, mm, lo, al2]
    rfl) ?_
  refine step_nx _ (by
    simp [-ix_tup, l0, l1', l2', rc25, wN_len, ml, ne1, mm25', ne2]
    rfl) ?_
  exact ⟨by simp [l2', mm0, eq1, AllOk]⟩
end Lw
end
set_option Elab.async false
set_option linter.all false
set_option autoImplicit false
set_option maxRecDepth 100000
set_option maxHeartbeats 0
/-! printed by wip/gen.py: the head, the end -/
namespace Lw
open PySem PySem.Spec PyProof.Rows L2 Fw
def dd_n_is_number : He.DefD := ⟨("is_number", none), "is_number", "is_number", defArgs s_n_is_number, defBody s_n_is_number, defScope s_n_is_number, [], []⟩
def dd_n_need_number : He.DefD := ⟨("need_number", none), "need_number", "need_number", defArgs s_n_need_number, defBody s_n_need_number, defScope s_n_need_number, [], []⟩
def dd_n_are_rows : He.DefD := ⟨("are_rows", none), "are_rows", "are_rows", defArgs s_n_are_rows, defBody s_n_are_rows, defScope s_n_are_rows, [], []⟩
def dd_n_need_machine : He.DefD := ⟨("need_machine", none), "need_machine", "need_machine", defArgs s_n_need_machine, defBody s_n_need_machine, defScope s_n_need_machine, [], []⟩
def dd_n_letters_of : He.DefD := ⟨("letters_of", none), "letters_of", "letters_of", defArgs s_n_letters_of, defBody s_n_letters_of, defScope s_n_letters_of, [], []⟩
def dd_n_is_word : He.DefD := ⟨("is_word", none), "is_word", "is_word", defArgs s_n_is_word, defBody s_n_is_word, defScope s_n_is_word, [], []⟩
def dd_n_need_word : He.DefD := ⟨("need_word", none), "need_word", "need_word", defArgs s_n_need_word, defBody s_n_need_word, defScope s_n_need_word, [], []⟩
def dd_n_led : He.DefD := ⟨("led", none), "led", "led", defArgs s_n_led, defBody s_n_led, defScope s_n_led, [], []⟩
def dd_n_told : He.DefD := ⟨("told", none), "told", "told", defArgs s_n_told, defBody s_n_told, defScope s_n_told, [], []⟩
def dd_n_need_chance : He.DefD := ⟨("need_chance", none), "need_chance", "need_chance", defArgs s_n_need_chance, defBody s_n_need_chance, defScope s_n_need_chance, [], []⟩
def dd_n_lowest : He.DefD := ⟨("lowest", none), "lowest", "lowest", defArgs s_n_lowest, defBody s_n_lowest, defScope s_n_lowest, [], []⟩
def dd_n_choose : He.DefD := ⟨("choose", none), "choose", "choose", defArgs s_n_choose, defBody s_n_choose, defScope s_n_choose, [], []⟩
def dd_n_power : He.DefD := ⟨("power", none), "power", "power", defArgs s_n_power, defBody s_n_power, defScope s_n_power, [], []⟩
def dd_n_right_by : He.DefD := ⟨("right_by", none), "right_by", "right_by", defArgs s_n_right_by, defBody s_n_right_by, defScope s_n_right_by, [], []⟩
def dd_n_chances_of : He.DefD := ⟨("chances_of", none), "chances_of", "chances_of", defArgs s_n_chances_of, defBody s_n_chances_of, defScope s_n_chances_of, [], []⟩
def dd_n_need_all : He.DefD := ⟨("need_all", none), "need_all", "need_all", defArgs s_n_need_all, defBody s_n_need_all, defScope s_n_need_all, [], []⟩
def dd_n_right_chances : He.DefD := ⟨("right_chances", none), "right_chances", "right_chances", defArgs s_n_right_chances, defBody s_n_right_chances, defScope s_n_right_chances, [], []⟩
def dd_n_mean_misses : He.DefD := ⟨("mean_misses", none), "mean_misses", "mean_misses", defArgs s_n_mean_misses, defBody s_n_mean_misses, defScope s_n_mean_misses, [], []⟩
def dd_n__law_taken : He.DefD := ⟨("_law_taken", none), "_law_taken", "_law_taken", defArgs s_n__law_taken, defBody s_n__law_taken, defScope s_n__law_taken, [], []⟩
def dd_n__law_alike : He.DefD := ⟨("_law_alike", none), "_law_alike", "_law_alike", defArgs s_n__law_alike, defBody s_n__law_alike, defScope s_n__law_alike, [], []⟩
def dd_n__law_machine : He.DefD := ⟨("_law_machine", none), "_law_machine", "_law_machine", defArgs s_n__law_machine, defBody s_n__law_machine, defScope s_n__law_machine, [], []⟩
def dd_n__law_word : He.DefD := ⟨("_law_word", none), "_law_word", "_law_word", defArgs s_n__law_word, defBody s_n__law_word, defScope s_n__law_word, [], []⟩
def dd_n__law_low : He.DefD := ⟨("_law_low", none), "_law_low", "_law_low", defArgs s_n__law_low, defBody s_n__law_low, defScope s_n__law_low, [], []⟩
def dd_n__law_after : He.DefD := ⟨("_law_after", none), "_law_after", "_law_after", defArgs s_n__law_after, defBody s_n__law_after, defScope s_n__law_after, [], []⟩
def dd_n_law : He.DefD := ⟨("law", none), "law", "law", defArgs s_n_law, defBody s_n_law, defScope s_n_law, [], []⟩
def fnL : List He.DefD := [dd_n_is_number, dd_n_need_number, dd_n_are_rows, dd_n_need_machine, dd_n_letters_of, dd_n_is_word, dd_n_need_word, dd_n_led, dd_n_told, dd_n_need_chance, dd_n_lowest, dd_n_choose, dd_n_power, dd_n_right_by, dd_n_chances_of, dd_n_need_all, dd_n_right_chances, dd_n_mean_misses, dd_n__law_taken, dd_n__law_alike, dd_n__law_machine, dd_n__law_word, dd_n__law_low, dd_n__law_after, dd_n_law]
def faL : List He.Fa := [.glo "is_number", .glo "need_number", .glo "are_rows", .glo "need_machine", .glo "letters_of", .glo "is_word", .glo "need_word", .glo "led", .glo "told", .glo "need_chance", .glo "lowest", .glo "choose", .glo "power", .glo "right_by", .glo "chances_of", .glo "need_all", .glo "right_chances", .glo "mean_misses", .glo "_law_taken", .glo "_law_alike", .glo "_law_machine", .glo "_law_word", .glo "_law_low", .glo "_law_after", .glo "law", .free "all", .free "bool", .free "int", .free "isinstance", .free "len", .free "list", .free "min", .free "range", .free "str", .free "sum", .free "tuple", .int "MOST_ANSWER" 9, .int "MOST_BY_CHANCE" 25, .int "MOST_LETTERS" 3, .int "MOST_ROW" 4000, .int "MOST_STATES" 6]
def tfL : List He.Defn := [("are_rows", none), ("is_word", none)]
abbrev Rw : PySem.W.OpenRow := PySem.W.OpenLaw.row PySem.Challenge.rw_pushedclerks_k63_whole_chances
abbrev hk : PySem.W.Hook := He.hookX 4 faL fnL [] tfL fun _ => true
def ob (s : PySem.W.SharedT) : He.AlX := He.obsX 4 faL fnL [] tfL (fun _ => true) (HandSHeadRun.getT s)
theorem ob_eq (s : PySem.W.SharedT) : ob s = hk.obs s.abs := He.obsX_eq (HandSHeadRun.getT_eq s)
def looseL : List Str := (["ClerkError", "BadMachine", "BadNumber", "BadLetters", "BadChance", "MOST_STATES", "MOST_LETTERS", "MOST_ANSWER", "MOST_ROW", "is_number", "need_number", "are_rows", "need_machine", "letters_of", "is_word", "need_word", "led", "told", "MOST_BY_CHANCE", "need_chance", "lowest", "choose", "power", "right_by", "chances_of", "need_all", "right_chances", "mean_misses", "_law_taken", "_law_alike"] : List Str) ++ (["_law_machine", "_law_word", "_law_low", "_law_after"] : List Str)
theorem run (w : World) : HandSHeadRun.RunEq Rw (PySem.W.view Rw.prog [38]) hk ob 4000 looseL w := by
  intro os
  kernel_rfl
theorem facts {P : Program} {w : World} {K : PySem.W.Frag} {h : Heap} {mg : Str → Option Value} {fl : Addr} (X : K.In h) (G : h.Ns mainGlobals mg) (hfa : mg ("law" : Str) = some (.ref fl)) (c : He.SaysX faL fnL [] tfL (fun _ => true) w h K) :
    ∃ (a : Ad) (e : Fd), fl = a.n_law ∧ (∀ (s : Shared) (v : Value), BindsTo s e.n_law ⟨[v], []⟩ [("_law_script", v)]) ∧ [(a.c_n_are_rows, a.P_n_are_rows), (a.c_n_is_word, a.P_n_is_word)] = tfL.map (He.cT K) ∧
      ∀ base : Heap, K.In base → base.Ns mainGlobals mg → (∀ p ∈ tfL.map (He.cT K), GxR.TabB base mg p.1 p.2) → Tx K mg base a e := by
  have cD : He.SaysD faL fnL K := congrArg (fun z : He.AlT => z.1) c.t
  obtain ⟨e0, F0⟩ := cD.def_ 0 (d := dd_n_is_number) rfl
  obtain ⟨e1, F1⟩ := cD.def_ 1 (d := dd_n_need_number) rfl
  obtain ⟨e2, F2⟩ := cD.def_ 2 (d := dd_n_are_rows) rfl
  obtain ⟨e3, F3⟩ := cD.def_ 3 (d := dd_n_need_machine) rfl
  obtain ⟨e4, F4⟩ := cD.def_ 4 (d := dd_n_letters_of) rfl
  obtain ⟨e5, F5⟩ := cD.def_ 5 (d := dd_n_is_word) rfl
  obtain ⟨e6, F6⟩ := cD.def_ 6 (d := dd_n_need_word) rfl
  obtain ⟨e7, F7⟩ := cD.def_ 7 (d := dd_n_led) rfl
  obtain ⟨e8, F8⟩ := cD.def_ 8 (d := dd_n_told) rfl
  obtain ⟨e9, F9⟩ := cD.def_ 9 (d := dd_n_need_chance) rfl
  obtain ⟨e10, F10⟩ := cD.def_ 10 (d := dd_n_lowest) rfl
  obtain ⟨e11, F11⟩ := cD.def_ 11 (d := dd_n_choose) rfl
  obtain ⟨e12, F12⟩ := cD.def_ 12 (d := dd_n_power) rfl
  obtain ⟨e13, F13⟩ := cD.def_ 13 (d := dd_n_right_by) rfl
  obtain ⟨e14, F14⟩ := cD.def_ 14 (d := dd_n_chances_of) rfl
  obtain ⟨e15, F15⟩ := cD.def_ 15 (d := dd_n_need_all) rfl
  obtain ⟨e16, F16⟩ := cD.def_ 16 (d := dd_n_right_chances) rfl
  obtain ⟨e17, F17⟩ := cD.def_ 17 (d := dd_n_mean_misses) rfl
  obtain ⟨e18, F18⟩ := cD.def_ 18 (d := dd_n__law_taken) rfl
  obtain ⟨e19, F19⟩ := cD.def_ 19 (d := dd_n__law_alike) rfl
  obtain ⟨e20, F20⟩ := cD.def_ 20 (d := dd_n__law_machine) rfl
  obtain ⟨e21, F21⟩ := cD.def_ 21 (d := dd_n__law_word) rfl
  obtain ⟨e22, F22⟩ := cD.def_ 22 (d := dd_n__law_low) rfl
  obtain ⟨e23, F23⟩ := cD.def_ 23 (d := dd_n__law_after) rfl
  obtain ⟨e24, F24⟩ := cD.def_ 24 (d := dd_n_law) rfl
  have eL := hfa.symm.trans (He.glo_ok X G (cD.fact 24 (f := .glo "law") rfl))
  cases eL
  have hc2 : e2.code = .ref (He.codeOf K ("are_rows", none)) := by
    obtain ⟨oc, od, dV, kV, doc, pm, an, cdv, ct, osl, rfl, lk, hcd, _⟩ := F2.ex
    obtain ⟨cc, hcc⟩ := He.codeIn_ref hcd
    rw [show He.codeOf K ("are_rows", none) = cc from He.codeOf_eq lk hcc]
    exact hcc
  have hc5 : e5.code = .ref (He.codeOf K ("is_word", none)) := by
    obtain ⟨oc, od, dV, kV, doc, pm, an, cdv, ct, osl, rfl, lk, hcd, _⟩ := F5.ex
    obtain ⟨cc, hcc⟩ := He.codeIn_ref hcd
    rw [show He.codeOf K ("is_word", none) = cc from He.codeOf_eq lk hcc]
    exact hcc
  refine ⟨⟨He.fAd K ("is_number", none), He.fAd K ("need_number", none), He.fAd K ("are_rows", none), He.fAd K ("need_machine", none), He.fAd K ("letters_of", none), He.fAd K ("is_word", none), He.fAd K ("need_word", none), He.fAd K ("led", none), He.fAd K ("told", none), He.fAd K ("need_chance", none), He.fAd K ("lowest", none), He.fAd K ("choose", none), He.fAd K ("power", none), He.fAd K ("right_by", none), He.fAd K ("chances_of", none), He.fAd K ("need_all", none), He.fAd K ("right_chances", none), He.fAd K ("mean_misses", none), He.fAd K ("_law_taken", none), He.fAd K ("_law_alike", none), He.fAd K ("_law_machine", none), He.fAd K ("_law_word", none), He.fAd K ("_law_low", none), He.fAd K ("_law_after", none), He.fAd K ("law", none), (He.cT K ("are_rows", none)).1, (He.cT K ("are_rows", none)).2, (He.cT K ("is_word", none)).1, (He.cT K ("is_word", none)).2⟩, ⟨e0, e1, e2, e3, e4, e5, e6, e7, e8, e9, e10, e11, e12, e13, e14, e15, e16, e17, e18, e19, e20, e21, e22, e23, e24⟩, rfl, fun s v => FunD.bindsA (ps := ["_law_script"]) F24 (fun _ _ _ _ _ _ us hl => match us, hl with | [_], _ => rfl) s [v] rfl, rfl, fun base _ _ tb => ?_⟩
  exact ⟨F0,
    (He.glo_ok X G (cD.fact 0 (f := .glo "is_number") rfl)),
    (FunD.bindsN (ps := ["value", "low", "high"]) F0 fun _ _ _ _ _ _ us hl => match us, hl with | [_, _, _], _ => rfl),
    F1,
    (He.glo_ok X G (cD.fact 1 (f := .glo "need_number") rfl)),
    (FunD.bindsN (ps := ["value", "low", "high"]) F1 fun _ _ _ _ _ _ us hl => match us, hl with | [_, _, _], _ => rfl),
    F2,
    (He.glo_ok X G (cD.fact 2 (f := .glo "are_rows") rfl)),
    (FunD.bindsN (ps := ["value", "states", "letters", "most"]) F2 fun _ _ _ _ _ _ us hl => match us, hl with | [_, _, _, _], _ => rfl),
    F3,
    (He.glo_ok X G (cD.fact 3 (f := .glo "need_machine") rfl)),
    (FunD.bindsN (ps := ["value"]) F3 fun _ _ _ _ _ _ us hl => match us, hl with | [_], _ => rfl),
    F4,
    (He.glo_ok X G (cD.fact 4 (f := .glo "letters_of") rfl)),
    (FunD.bindsN (ps := ["machine"]) F4 fun _ _ _ _ _ _ us hl => match us, hl with | [_], _ => rfl),
    F5,
    (He.glo_ok X G (cD.fact 5 (f := .glo "is_word") rfl)),
    (FunD.bindsN (ps := ["machine", "value"]) F5 fun _ _ _ _ _ _ us hl => match us, hl with | [_, _], _ => rfl),
    F6,
    (He.glo_ok X G (cD.fact 6 (f := .glo "need_word") rfl)),
    (FunD.bindsN (ps := ["machine", "value"]) F6 fun _ _ _ _ _ _ us hl => match us, hl with | [_, _], _ => rfl),
    F7,
    (He.glo_ok X G (cD.fact 7 (f := .glo "led") rfl)),
    (FunD.bindsN (ps := ["machine", "state", "word"]) F7 fun _ _ _ _ _ _ us hl => match us, hl with | [_, _, _], _ => rfl),
    F8,
    (He.glo_ok X G (cD.fact 8 (f := .glo "told") rfl)),
    (FunD.bindsN (ps := ["machine", "state", "word"]) F8 fun _ _ _ _ _ _ us hl => match us, hl with | [_, _, _], _ => rfl),
    F9,
    (He.glo_ok X G (cD.fact 9 (f := .glo "need_chance") rfl)),
    (FunD.bindsN (ps := ["value"]) F9 fun _ _ _ _ _ _ us hl => match us, hl with | [_], _ => rfl),
    F10,
    (He.glo_ok X G (cD.fact 10 (f := .glo "lowest") rfl)),
    (FunD.bindsN (ps := ["top", "bottom"]) F10 fun _ _ _ _ _ _ us hl => match us, hl with | [_, _], _ => rfl),
    F11,
    (He.glo_ok X G (cD.fact 11 (f := .glo "choose") rfl)),
    (FunD.bindsN (ps := ["many", "some"]) F11 fun _ _ _ _ _ _ us hl => match us, hl with | [_, _], _ => rfl),
    F12,
    (He.glo_ok X G (cD.fact 12 (f := .glo "power") rfl)),
    (FunD.bindsN (ps := ["number", "many"]) F12 fun _ _ _ _ _ _ us hl => match us, hl with | [_, _], _ => rfl),
    F13,
    (He.glo_ok X G (cD.fact 13 (f := .glo "right_by") rfl)),
    (FunD.bindsN (ps := ["copies", "top", "bottom"]) F13 fun _ _ _ _ _ _ us hl => match us, hl with | [_, _, _], _ => rfl),
    F14,
    (He.glo_ok X G (cD.fact 14 (f := .glo "chances_of") rfl)),
    (FunD.bindsN (ps := ["machine", "copies", "chance", "way", "word"]) F14 fun _ _ _ _ _ _ us hl => match us, hl with | [_, _, _, _, _], _ => rfl),
    F15,
    (He.glo_ok X G (cD.fact 15 (f := .glo "need_all") rfl)),
    (FunD.bindsN (ps := ["machine", "copies", "chance", "way", "word"]) F15 fun _ _ _ _ _ _ us hl => match us, hl with | [_, _, _, _, _], _ => rfl),
    F16,
    (He.glo_ok X G (cD.fact 16 (f := .glo "right_chances") rfl)),
    (FunD.bindsN (ps := ["machine", "copies", "chance", "way", "word"]) F16 fun _ _ _ _ _ _ us hl => match us, hl with | [_, _, _, _, _], _ => rfl),
    F17,
    (He.glo_ok X G (cD.fact 17 (f := .glo "mean_misses") rfl)),
    (FunD.bindsN (ps := ["machine", "copies", "chance", "way", "word"]) F17 fun _ _ _ _ _ _ us hl => match us, hl with | [_, _, _, _, _], _ => rfl),
    F18,
    (He.glo_ok X G (cD.fact 18 (f := .glo "_law_taken") rfl)),
    (FunD.bindsN (ps := ["_law_row", "_law_many"]) F18 fun _ _ _ _ _ _ us hl => match us, hl with | [_, _], _ => rfl),
    F19,
    (He.glo_ok X G (cD.fact 19 (f := .glo "_law_alike") rfl)),
    (FunD.bindsN (ps := ["_law_found", "_law_due"]) F19 fun _ _ _ _ _ _ us hl => match us, hl with | [_, _], _ => rfl),
    F20,
    (He.glo_ok X G (cD.fact 20 (f := .glo "_law_machine") rfl)),
    (FunD.bindsN (ps := ["_law_row", "_law_states", "_law_letters"]) F20 fun _ _ _ _ _ _ us hl => match us, hl with | [_, _, _], _ => rfl),
    F21,
    (He.glo_ok X G (cD.fact 21 (f := .glo "_law_word") rfl)),
    (FunD.bindsN (ps := ["_law_row", "_law_machine_here", "_law_most"]) F21 fun _ _ _ _ _ _ us hl => match us, hl with | [_, _, _], _ => rfl),
    F22,
    (He.glo_ok X G (cD.fact 22 (f := .glo "_law_low") rfl)),
    (FunD.bindsN (ps := ["_law_top", "_law_bottom"]) F22 fun _ _ _ _ _ _ us hl => match us, hl with | [_, _], _ => rfl),
    F23,
    (He.glo_ok X G (cD.fact 23 (f := .glo "_law_after") rfl)),
    (FunD.bindsN (ps := ["_law_machine_here", "_law_state", "_law_word_here"]) F23 fun _ _ _ _ _ _ us hl => match us, hl with | [_, _, _], _ => rfl),
    F24,
    (He.glo_ok X G (cD.fact 24 (f := .glo "law") rfl)),
    (FunD.bindsN (ps := ["_law_script"]) F24 fun _ _ _ _ _ _ us hl => match us, hl with | [_], _ => rfl),
    hc2,
    (tb _ (List.mem_of_getElem? (i := 0) rfl)),
    hc5,
    (tb _ (List.mem_of_getElem? (i := 1) rfl)),
    (He.free_ok X G (cD.fact 25 (f := .free "all") rfl)),
    (He.free_ok X G (cD.fact 26 (f := .free "bool") rfl)),
    (He.free_ok X G (cD.fact 27 (f := .free "int") rfl)),
    (He.free_ok X G (cD.fact 28 (f := .free "isinstance") rfl)),
    (He.free_ok X G (cD.fact 29 (f := .free "len") rfl)),
    (He.free_ok X G (cD.fact 30 (f := .free "list") rfl)),
    (He.free_ok X G (cD.fact 31 (f := .free "min") rfl)),
    (He.free_ok X G (cD.fact 32 (f := .free "range") rfl)),
    (He.free_ok X G (cD.fact 33 (f := .free "str") rfl)),
    (He.free_ok X G (cD.fact 34 (f := .free "sum") rfl)),
    (He.free_ok X G (cD.fact 35 (f := .free "tuple") rfl)),
    (He.int_ok X G (cD.fact 36 (f := .int "MOST_ANSWER" 9) rfl)),
    (He.int_ok X G (cD.fact 37 (f := .int "MOST_BY_CHANCE" 25) rfl)),
    (He.int_ok X G (cD.fact 38 (f := .int "MOST_LETTERS" 3) rfl)),
    (He.int_ok X G (cD.fact 39 (f := .int "MOST_ROW" 4000) rfl)),
    (He.int_ok X G (cD.fact 40 (f := .int "MOST_STATES" 6) rfl))⟩
end Lw
open PySem PySem.W PySem.Calls PyProof.Rows
theorem PySem.Challenge.cw_pushedclerks_k63_whole_chances_holds : PySem.Challenge.rw_pushedclerks_k63_whole_chances.Holds := by
  w_on; o_law
  refine HandSHeadRun.head_any (r := OpenLaw.row PySem.Challenge.rw_pushedclerks_k63_whole_chances) (q := view (OpenLaw.row PySem.Challenge.rw_pushedclerks_k63_whole_chances).prog [38]) (H := Lw.hk) (ob := Lw.ob) (M := 4000) (loose := Lw.looseL) (d := HandSHeadRun.topDef (OpenLaw.row PySem.Challenge.rw_pushedclerks_k63_whole_chances).prog 38) (kwd := []) Lw.ob_eq
    (by kernel_rfl) (fun s => by kernel_rfl) Lw.run (by kernel_rfl) (by kernel_rfl) (by kernel_rfl) (by rfl) (by first | assumption | decide +kernel) (by decide +kernel) ⟨rfl, rfl, rfl, rfl, rfl, by decide +kernel⟩ ?hw ?hc
  case hw => w_witness2
  case hc =>
    refine LamX.walk_ofTsE (l := PySem.Challenge.rw_pushedclerks_k63_whole_chances) (n := 63) (k := 10) (x := "_law_script") (CX := fun w => L2.CX (PySem.Challenge.rw_pushedclerks_k63_whole_chances).prog w) rfl (by decide) (by kernel_rfl) ⟨rfl, by decide, by decide⟩ ?F (fun _ _ _ _ _ z => by obtain ⟨_, _, _, _, _, _, _, _, _, _, _, _, z⟩ := z; exact z.elim)
    intro w mg fl h Y G hmg0
    obtain ⟨K, KX, c⟩ := Y
    have hmg : mg ("law" : PySem.Str) = some (.ref fl) := by
      have e : (HandSHeadRun.topDef (OpenLaw.row PySem.Challenge.rw_pushedclerks_k63_whole_chances).prog 38).name = ("law" : PySem.Str) := by kernel_rfl
      rw [← e]
      exact hmg0
    obtain ⟨a, e, rfl, hb, hcs, hT⟩ := Lw.facts (P := (PySem.Challenge.rw_pushedclerks_k63_whole_chances).prog) (w := w) KX G hmg c
    refine ⟨K, KX, e.n_law, Lw.tfL.map (He.cT K), Fw.spLaw (Lw.G0 K a), fun p hp => ?_, fun p hp => ?_, fun p hp => ?_, hb, fun H b ns hl _ htab hS => ⟨b, ns, rfl, hS, ⟨fun P hP => ?_, fun p hp => by cases hp⟩, fun v H' e => e⟩, fun base Kb Gb tb => Lw.ok_n_law (hT base Kb Gb fun p hp => ⟨(tb p hp).code, (tb p hp).bm, (tb p hp).gP⟩) Lw.law_true⟩
    · obtain ⟨q, hq, rfl⟩ := List.mem_map.mp hp
      exact c.empty q hq
    · obtain ⟨q, hq, rfl⟩ := List.mem_map.mp hp
      exact c.out q hq
    · obtain ⟨q, hq, rfl⟩ := List.mem_map.mp hp
      exact PySem.W.codeHd_of_K KX (c.hd q hq)
    · have hP : P ∈ Lw.TGof a := hP
      have e2 : Lw.TGof a = (Lw.tfL.map (He.cT K)).map (·.2) := by rw [← hcs]; rfl
      rw [e2] at hP
      obtain ⟨p, hp, rfl⟩ := List.mem_map.mp hP
      exact ⟨#[], htab p hp, by first | trivial | simp [TriplesOk]⟩
