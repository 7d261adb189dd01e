import PyProof.Rows.All
import Wide.All
import OpenK.AllK
import Wide.FinOn
import HandS.ForMost
import HandS.Wide
import HandS.Exc
import HandS.ExcOwn
import HandS.WordsExc
import HandS.IsInst
import HandS.AnyAll
import HandS.Lambda
import HandS.Zip
import HandS.TupMul
import HandS.TupAny
import HandS.Style
import HandS.SetFor
import HandS.GenList
import HandS.Defaults
import HandS.Sort
import KE.DataMinKey
import HandS.TupSets
import HandS.Strs
import KE.KDictPairs
import HandS.Iter
import HandS.Zip0
import PyProof.EnumMake
import KE.GoesMore
import HandS.FStr
import HandS.Text
import HandS.SortInts
import HandS.Conv
import PyProof.StrLaws
import PyProof.FitsInt
import HandS.DictTup
import KE.KDictSum
import HandS.More
import HandS.DictSubView
import KE.KEqDict
import KE.KDictDisplayH
import HandS.SortRule
import HandS.TupLe
import HandS.Small
import HandS.ExcIs
import KE.KIndexOf
import PyProof.ExcBaseAll.ValueError
import KE.KeyNested
import HandS.SortOrd
import HandS.SortKw
import KE.KSortTupAny
import HandS.Deep
import HandS.Flow
import PyProof.SeqI3
import KE.KStateDown
import HandS.Head0
import HandS.Head1
import HandS.Head2
import HandS.HeadEnd
import HandS.HeadHook1
import HandS.HeadHook2
import HandS.HeadHook3
import HandS.HeadHook4
import HandS.HeadWalk
import PySem.Challenge.RW_pushedclerks_k01_whole_machines
set_option Elab.async false
set_option linter.all false
set_option autoImplicit false
set_option maxRecDepth 100000
set_option maxHeartbeats 4000000
/-! Fw1: trees, what represents them, the canonical readings, the plain rules. -/
noncomputable section
namespace Fw
open PySem PySem.Spec PyProof.Rows L2

/-! ### trees -/
inductive D where
  | non | bl (b : Bool) | int (i : Int) | str (x : Str) | tup (ds : List D) | lst (ds : List D) | dct (t : Bool) (kvs : List (D × D)) | ins (c : Addr) (fs : List (Str × D))
  /-- a tuple whose object is known: it has no dict -/
  | ftp (ds : List D) | rng (lo hi : Int) | arr (a : Addr) (ns : List Int) | row | op (v : V)
/-- an answer; an error by its class's name and its one field; or nothing known -/
inductive Res (α : Type) where
  | ok (a : α) | ex (c : Str) (f : Option (Str × V)) | no
  /-- a draw: any number from 0, below n -/
  | dr (n : Int) (k : Int → Res α)
namespace Res
def bind {α β : Type} : Res α → (α → Res β) → Res β
  | .ok a, k => k a
  | .ex c f, _ => .ex c f
  | .no, _ => .no
  | .dr n j, k => .dr n fun i => (j i).bind k
theorem bind_assoc {α β γ : Type} (f : α → Res β) (g : β → Res γ) : ∀ r : Res α, (r.bind f).bind g = r.bind fun a => (f a).bind g
  | .ok a => rfl
  | .ex c f => rfl
  | .no => rfl
  | .dr n j => congrArg (Res.dr n) (funext fun i => bind_assoc f g (j i))
end Res
abbrev Env := List (Option D)
abbrev St := L2.St
abbrev lim : Nat := 16777216
theorem lim_eq : sizeLine = lim := sizeLine_eq
/-- a key of a dict as a tree -/
def keyD : Key → D
  | .inl i => .int i
  | .inr x => .str x
mutual
/-- no list, no dict within -/
def D.pure : D → Bool
  | .non => true
  | .bl _ => true
  | .int _ => true
  | .str _ => true
  | .tup ds => D.pureL ds
  | .ftp ds => D.pureL ds
  | .rng _ _ => true
  | .row => true
  | .op _ => true
  | _ => false
def D.pureL : List D → Bool
  | [] => true
  | d :: r => d.pure && D.pureL r
end
theorem pureL_iff : ∀ {ds : List D}, D.pureL ds = true ↔ ∀ d ∈ ds, d.pure = true
  | [] => by simp [D.pureL]
  | d :: r => by
    rw [D.pureL, Bool.and_eq_true, pureL_iff]
    simp

/-! ### representation -/
/-- the written part, and the row that is drawn from -/
structure Kr where
  K : PySem.W.Frag
  row : Option Addr
/-- what may not be leant on: the row that is drawn from, too -/
def avr (K : Kr) (av : Addr → Prop) (a : Addr) : Prop := av a ∨ K.row = some a
/-- a list that stays as it is: no list of a frame's own, a frozen one, one of the text -/
def ArrAt (K : Kr) (av : Addr → Prop) (H : Hp) (a : Addr) (vs : List V) : Prop := (H a = some (.lst vs) ∧ ¬ avr K av a) ∨ (∃ o, H a = some (.frz o (.lst vs))) ∨ ∀ H', SqL K.K H' a vs
mutual
inductive Rp (K : Kr) (av : Addr → Prop) (H : Hp) : D → V → Prop
  | non : Rp K av H .non .non
  | bl (b : Bool) : Rp K av H (.bl b) (.bl b)
  | int (i : Int) : Rp K av H (.int i) (.int i)
  | str (x : Str) : Rp K av H (.str x) (.str x)
  | tup {a : Addr} {vs : List V} {ds : List D} : H a = some (.tup vs) → RpL K av H ds vs → Rp K av H (.tup ds) (.ref a)
  | ftp {a : Addr} {o : Obj} {vs : List V} {ds : List D} : H a = some (.frz o (.tup vs)) → o.dict = none → RpL K av H ds vs → Rp K av H (.ftp ds) (.ref a)
  | lst {a : Addr} {vs : List V} {ds : List D} : H a = some (.lst vs) → ¬ avr K av a → RpL K av H ds vs → Rp K av H (.lst ds) (.ref a)
  | dK {a : Addr} {kvs : List (Key × V)} {ds : List (D × D)} : H a = some (.dK kvs) → ¬ avr K av a → RpK K av H ds kvs → Rp K av H (.dct false ds) (.ref a)
  | dT {a : Addr} {kvs : List (List Key × V)} {ds : List (D × D)} : H a = some (.dT kvs) → ¬ avr K av a → RpT K av H ds kvs → Rp K av H (.dct true ds) (.ref a)
  | rng {a : Addr} (lo hi : Int) : H a = some (.rng lo hi) → Rp K av H (.rng lo hi) (.ref a)
  | arr (a : Addr) (ns : List Int) : ArrAt K av H a (ns.map V.int) → Rp K av H (.arr a ns) (.ref a)
  | row {a : Addr} : K.row = some a → Rp K av H .row (.ref a)
  | op (v : V) : Rp K av H (.op v) v
inductive RpL (K : Kr) (av : Addr → Prop) (H : Hp) : List D → List V → Prop
  | nil : RpL K av H [] []
  | cons {d : D} {ds : List D} {v : V} {vs : List V} : Rp K av H d v → RpL K av H ds vs → RpL K av H (d :: ds) (v :: vs)
inductive RpK (K : Kr) (av : Addr → Prop) (H : Hp) : List (D × D) → List (Key × V) → Prop
  | nil : RpK K av H [] []
  | cons {k : Key} {d : D} {ds : List (D × D)} {v : V} {vs : List (Key × V)} : Rp K av H d v → RpK K av H ds vs → RpK K av H ((keyD k, d) :: ds) ((k, v) :: vs)
inductive RpT (K : Kr) (av : Addr → Prop) (H : Hp) : List (D × D) → List (List Key × V) → Prop
  | nil : RpT K av H [] []
  | cons {k : List Key} {d : D} {ds : List (D × D)} {v : V} {vs : List (List Key × V)} : Rp K av H d v → RpT K av H ds vs → RpT K av H ((.tup (k.map keyD), d) :: ds) ((k, v) :: vs)
end
/-- what a change of the heap must leave -/
structure Stay (K : Kr) (av av' : Addr → Prop) (H H' : Hp) : Prop where
  tup : ∀ a xs, H a = some (.tup xs) → H' a = some (.tup xs)
  lst : ∀ a xs, ¬ avr K av a → H a = some (.lst xs) → H' a = some (.lst xs) ∧ ¬ avr K av' a
  dK : ∀ a xs, ¬ avr K av a → H a = some (.dK xs) → H' a = some (.dK xs) ∧ ¬ avr K av' a
  dT : ∀ a xs, ¬ avr K av a → H a = some (.dT xs) → H' a = some (.dT xs) ∧ ¬ avr K av' a
  rng : ∀ a lo hi, H a = some (.rng lo hi) → H' a = some (.rng lo hi)
  frz : ∀ a o u, H a = some (.frz o u) → H' a = some (.frz o u)
section
variable {K : Kr} {av av' : Addr → Prop} {H H' : Hp}
theorem ArrAt.stay (S : Stay K av av' H H') {a : Addr} {xs : List V} (h : ArrAt K av H a xs) : ArrAt K av' H' a xs := by
  rcases h with ⟨h, n⟩ | ⟨o, h⟩ | h
  · exact .inl (S.lst _ _ n h)
  · exact .inr (.inl ⟨o, S.frz _ _ _ h⟩)
  · exact .inr (.inr h)
theorem ArrAt.sq {a : Addr} {xs : List V} (h : ArrAt K av H a xs) : SqL K.K H a xs := by
  rcases h with ⟨h, n⟩ | ⟨o, h⟩ | h
  · exact .inl (.inl h)
  · exact .inl (.inr ⟨o, h⟩)
  · exact h H
theorem ArrAt.of {a : Addr} {xs : List V} (h : SqL K.K H a xs) (n : ¬ avr K av a) : ArrAt K av H a xs := by
  rcases h with (h | ⟨o, h⟩) | h
  · exact .inl ⟨h, n⟩
  · exact .inr (.inl ⟨o, h⟩)
  · exact .inr (.inr fun _ => .inr h)
mutual
theorem Rp.stay (S : Stay K av av' H H') : ∀ {d : D} {v : V}, Rp K av H d v → Rp K av' H' d v
  | _, _, .non => .non
  | _, _, .bl b => .bl b
  | _, _, .int i => .int i
  | _, _, .str x => .str x
  | _, _, .tup h r => .tup (S.tup _ _ h) (RpL.stay S r)
  | _, _, .ftp h n r => .ftp (S.frz _ _ _ h) n (RpL.stay S r)
  | _, _, .lst h n r => .lst (S.lst _ _ n h).1 (S.lst _ _ n h).2 (RpL.stay S r)
  | _, _, .dK h n r => .dK (S.dK _ _ n h).1 (S.dK _ _ n h).2 (RpK.stay S r)
  | _, _, .dT h n r => .dT (S.dT _ _ n h).1 (S.dT _ _ n h).2 (RpT.stay S r)
  | _, _, .rng lo hi h => .rng lo hi (S.rng _ _ _ h)
  | _, _, .arr a ns h => .arr a ns (h.stay S)
  | _, _, .row h => .row h
  | _, _, .op v => .op v
theorem RpL.stay (S : Stay K av av' H H') : ∀ {ds : List D} {vs : List V}, RpL K av H ds vs → RpL K av' H' ds vs
  | _, _, .nil => .nil
  | _, _, .cons h r => .cons (Rp.stay S h) (RpL.stay S r)
theorem RpK.stay (S : Stay K av av' H H') : ∀ {ds : List (D × D)} {vs : List (Key × V)}, RpK K av H ds vs → RpK K av' H' ds vs
  | _, _, .nil => .nil
  | _, _, .cons h r => .cons (Rp.stay S h) (RpK.stay S r)
theorem RpT.stay (S : Stay K av av' H H') : ∀ {ds : List (D × D)} {vs : List (List Key × V)}, RpT K av H ds vs → RpT K av' H' ds vs
  | _, _, .nil => .nil
  | _, _, .cons h r => .cons (Rp.stay S h) (RpT.stay S r)
end
theorem Stay.weak (h : ∀ a, av' a → av a) : Stay K av av' H H :=
  ⟨fun _ _ x => x, fun a _ n x => ⟨x, fun z => n (z.imp (h a) id)⟩, fun a _ n x => ⟨x, fun z => n (z.imp (h a) id)⟩, fun a _ n x => ⟨x, fun z => n (z.imp (h a) id)⟩, fun _ _ _ x => x, fun _ _ _ x => x⟩
mutual
theorem Rp.pureUp : ∀ {d : D} {v : V}, d.pure = true → Rp K av H d v → Rp K av' H d v
  | _, _, _, .non => .non
  | _, _, _, .bl b => .bl b
  | _, _, _, .int i => .int i
  | _, _, _, .str x => .str x
  | _, _, p, .tup h r => .tup h (RpL.pureUp (by simpa [D.pure] using p) r)
  | _, _, p, .ftp h n r => .ftp h n (RpL.pureUp (by simpa [D.pure] using p) r)
  | _, _, p, .lst _ _ _ => by simp [D.pure] at p
  | _, _, p, .dK _ _ _ => by simp [D.pure] at p
  | _, _, p, .dT _ _ _ => by simp [D.pure] at p
  | _, _, _, .rng lo hi h => .rng lo hi h
  | _, _, p, .arr _ _ _ => by simp [D.pure] at p
  | _, _, _, .row h => .row h
  | _, _, _, .op v => .op v
theorem RpL.pureUp : ∀ {ds : List D} {vs : List V}, D.pureL ds = true → RpL K av H ds vs → RpL K av' H ds vs
  | _, _, _, .nil => .nil
  | _, _, p, .cons h r => by
    rw [D.pureL, Bool.and_eq_true] at p
    exact .cons (Rp.pureUp p.1 h) (RpL.pureUp p.2 r)
end
theorem RpL.length : ∀ {ds : List D} {vs : List V}, RpL K av H ds vs → ds.length = vs.length
  | _, _, .nil => rfl
  | _, _, .cons _ r => congrArg (· + 1) (RpL.length r)
theorem RpL.get : ∀ {ds : List D} {vs : List V} {i : Nat} {d : D}, RpL K av H ds vs → ds[i]? = some d → ∃ v, vs[i]? = some v ∧ Rp K av H d v
  | _, _, _, _, .nil, e => by simp at e
  | _, _, 0, _, .cons h _, e => by simp at e; subst e; exact ⟨_, rfl, h⟩
  | _, _, i + 1, d, .cons _ r, e => by
    obtain ⟨v, h1, h2⟩ := RpL.get (i := i) r (by simpa using e)
    exact ⟨v, by simpa using h1, h2⟩
theorem RpL.getV : ∀ {ds : List D} {vs : List V} {i : Nat} {v : V}, RpL K av H ds vs → vs[i]? = some v → ∃ d, ds[i]? = some d ∧ Rp K av H d v
  | _, _, _, _, .nil, e => by simp at e
  | _, _, 0, _, .cons h _, e => by simp at e; subst e; exact ⟨_, rfl, h⟩
  | _, _, i + 1, v, .cons _ r, e => by
    obtain ⟨d, h1, h2⟩ := RpL.getV (i := i) r (by simpa using e)
    exact ⟨d, by simpa using h1, h2⟩
theorem RpL.append : ∀ {ds es : List D} {vs us : List V}, RpL K av H ds vs → RpL K av H es us → RpL K av H (ds ++ es) (vs ++ us)
  | _, _, _, _, .nil, s => s
  | _, _, _, _, .cons h r, s => .cons h (RpL.append r s)
theorem RpL.set {d : D} {v : V} (h : Rp K av H d v) : ∀ {ds : List D} {vs : List V} (i : Nat), RpL K av H ds vs → RpL K av H (ds.set i d) (vs.set i v)
  | _, _, _, .nil => .nil
  | _, _, 0, .cons _ r => .cons h r
  | _, _, i + 1, .cons q r => .cons q (RpL.set h i r)
theorem RpL.take : ∀ {ds : List D} {vs : List V} (n : Nat), RpL K av H ds vs → RpL K av H (ds.take n) (vs.take n)
  | _, _, 0, _ => .nil
  | _, _, _ + 1, .nil => .nil
  | _, _, n + 1, .cons h r => .cons h (RpL.take n r)
theorem RpL.drop : ∀ {ds : List D} {vs : List V} (n : Nat), RpL K av H ds vs → RpL K av H (ds.drop n) (vs.drop n)
  | _, _, 0, r => r
  | _, _, _ + 1, .nil => .nil
  | _, _, n + 1, .cons _ r => RpL.drop n r
theorem RpL.reps : ∀ {ds : List D} {vs : List V} (n : Nat), RpL K av H ds vs → RpL K av H (List.replicate n ds).flatten (List.replicate n vs).flatten
  | _, _, 0, _ => .nil
  | _, _, n + 1, r => by
    rw [List.replicate_succ, List.replicate_succ, List.flatten_cons, List.flatten_cons]
    exact r.append (RpL.reps n r)
/-- a list of whole numbers -/
theorem RpL.ints : ∀ {ns : List Int} {vs : List V}, RpL K av H (ns.map D.int) vs → vs = ns.map V.int
  | [], _, h => by cases h; rfl
  | n :: r, _, h => by
    cases h with
    | cons h1 h2 =>
      cases h1
      rw [RpL.ints h2]
      rfl
theorem RpL.ofInts : ∀ (ns : List Int), RpL K av H (ns.map D.int) (ns.map V.int)
  | [] => .nil
  | n :: r => .cons (.int n) (RpL.ofInts r)
end

/-! ### the whole -/
/-- what is told of the whole text: the written part, the tables of code objects, the classes of errors -/
structure Gm where
  K : PySem.W.Frag
  TG : List Addr
  TL : List (Addr × Str)
  cls : Str → Addr
  row : Option Addr
  /-- the script, where there is a row -/
  scr : Addr
def Gm.kr (Γ : Gm) : Kr := ⟨Γ.K, Γ.row⟩
def Gm.at (Γ : Gm) (r : Option Addr) (s : Addr) : Gm := { Γ with row := r, scr := s }
/-- the row that the law draws from -/
def RowIs (K : PySem.W.Frag) (H : Hp) (r s : Addr) : Prop := ∃ (ns : List Int) (i j k : Int), H r = some (.lst [.ref s, .int i, .int j, .int k]) ∧ SqL K H s (ns.map V.int) ∧ 0 ≤ i ∧ 0 ≤ j ∧ j < 2147483647
def RowOk (Γ : Gm) (H : Hp) : Prop := ∀ r, Γ.row = some r → RowIs Γ.K H r Γ.scr
def Tb (Γ : Gm) (H : Hp) : Prop := (∀ P ∈ Γ.TG, GxR.TabG H P) ∧ LamX.Tabs Γ.TL H
/-- all that was tracked is as it was, but the tables of code objects, which may have grown -/
structure Ext (Γ : Gm) (H H' : Hp) : Prop where
  keep : ∀ b o, H b = some o → (∀ ps, o ≠ .tbl ps) → ((∃ xs, o = .lst xs) → Γ.row ≠ some b) → H' b = some o
  tb : Tb Γ H → Tb Γ H'
  row : RowOk Γ H → RowOk Γ H'
  there : ∀ b, H b ≠ none → H' b ≠ none
theorem Ext.keepN {Γ : Gm} {H H' : Hp} (x : Ext Γ H H') {b : Addr} {o : HO} (h : H b = some o) (n : ∀ ps, o ≠ .tbl ps) (l : ∀ xs, o ≠ .lst xs) : H' b = some o := x.keep b o h n fun ⟨xs, e⟩ => absurd e (l xs)
theorem Ext.keepL {Γ : Gm} {H H' : Hp} (x : Ext Γ H H') {b : Addr} {xs : List V} (h : H b = some (.lst xs)) (n : Γ.row ≠ some b) : H' b = some (.lst xs) := x.keep b _ h (by intro _ z; cases z) fun _ => n
theorem Ext.refl (Γ : Gm) (H : Hp) : Ext Γ H H := ⟨fun _ _ h _ _ => h, fun h => h, fun h => h, fun _ h => h⟩
theorem Ext.trans {Γ : Gm} {H H1 H2 : Hp} (a : Ext Γ H H1) (b : Ext Γ H1 H2) : Ext Γ H H2 := ⟨fun c o h n m => b.keep c o (a.keep c o h n m) n m, fun h => b.tb (a.tb h), fun h => b.row (a.row h), fun c h => b.there c (a.there c h)⟩
theorem Ext.sqT {Γ : Gm} {H H' : Hp} (x : Ext Γ H H') {a : Addr} {xs : List V} (h : SqT Γ.K H a xs) : SqT Γ.K H' a xs := by
  rcases h with (h | ⟨o, h⟩) | h
  · exact .inl (.inl (x.keepN h (by intro _ z; cases z) (by intro _ z; cases z)))
  · exact .inl (.inr ⟨o, x.keepN h (by intro _ z; cases z) (by intro _ z; cases z)⟩)
  · exact .inr h
theorem Ext.stay {Γ : Gm} {H H' : Hp} (x : Ext Γ H H') (av : Addr → Prop) : Stay Γ.kr av av H H' :=
  ⟨fun _ _ h => x.keepN h (by intro _ z; cases z) (by intro _ z; cases z), fun _ _ n h => ⟨x.keepL h fun z => n (.inr z), n⟩, fun _ _ n h => ⟨x.keepN h (by intro _ z; cases z) (by intro _ z; cases z), n⟩, fun _ _ n h => ⟨x.keepN h (by intro _ z; cases z) (by intro _ z; cases z), n⟩,
    fun _ _ _ h => x.keepN h (by intro _ z; cases z) (by intro _ z; cases z), fun _ _ _ h => x.keepN h (by intro _ z; cases z) (by intro _ z; cases z)⟩
theorem Rp.ext {Γ : Gm} {H H' : Hp} (x : Ext Γ H H') {av : Addr → Prop} {d : D} {v : V} (h : Rp Γ.kr av H d v) : Rp Γ.kr av H' d v := h.stay (x.stay av)
theorem RpL.ext {Γ : Gm} {H H' : Hp} (x : Ext Γ H H') {av : Addr → Prop} {d : List D} {v : List V} (h : RpL Γ.kr av H d v) : RpL Γ.kr av H' d v := h.stay (x.stay av)
theorem Tb.ext {Γ : Gm} {H H' : Hp} (t : Tb Γ H) (e : ∀ b o, H b = some o → H' b = some o) : Tb Γ H' :=
  ⟨fun P hP => let ⟨ps, h1, h2⟩ := t.1 P hP; ⟨ps, e _ _ h1, h2⟩, t.2.ext e⟩
theorem sqL_same {K : PySem.W.Frag} {H H' : Hp} (e : ∀ b o, H b = some o → H' b = some o) {a : Addr} {xs : List V} (h : SqL K H a xs) : SqL K H' a xs := by
  rcases h with (h | ⟨o, h⟩) | h
  · exact .inl (.inl (e _ _ h))
  · exact .inl (.inr ⟨o, e _ _ h⟩)
  · exact .inr h
theorem RowOk.same {Γ : Gm} {H H' : Hp} (h : RowOk Γ H) (e : ∀ b o, H b = some o → H' b = some o) : RowOk Γ H' := fun r hr =>
  let ⟨ns, i, j, k, h1, h2, h3⟩ := h r hr
  ⟨ns, i, j, k, e _ _ h1, sqL_same e h2, h3⟩
theorem RowOk.there {Γ : Gm} {H : Hp} (h : RowOk Γ H) {r : Addr} (hr : Γ.row = some r) : H r ≠ none := by
  obtain ⟨ns, i, j, k, h1, _⟩ := h r hr
  rw [h1]
  intro z
  cases z
/-- an address that is neither the row's nor the script's -/
def NR (Γ : Gm) (a : Addr) : Prop := Γ.row ≠ some a ∧ ∀ r, Γ.row = some r → a ≠ Γ.scr ∨ ∃ ns : List Int, ∀ H, SqL Γ.K H Γ.scr (ns.map V.int)
theorem RowOk.nr {Γ : Gm} {H : Hp} (h : RowOk Γ H) {p : Addr} (hp : H p = none) : NR Γ p := by
  refine ⟨fun z => h.there z hp, fun r hr => ?_⟩
  obtain ⟨ns, i, j, k, h1, h2, _⟩ := h r hr
  rcases h2 with (h2 | ⟨o, h2⟩) | h2
  · exact .inl fun z => by rw [← z, hp] at h2; cases h2
  · exact .inl fun z => by rw [← z, hp] at h2; cases h2
  · exact .inr ⟨ns, fun _ => .inr h2⟩
theorem RowOk.new {Γ : Gm} {H : Hp} (h : RowOk Γ H) {p : Addr} (hp : H p = none) : Γ.row ≠ some p := fun z => h.there z hp
theorem Ext.same {Γ : Gm} {H H' : Hp} (e : ∀ b u, H b = some u → H' b = some u) : Ext Γ H H' := by
  refine ⟨fun b u q _ _ => e b u q, fun t => t.ext e, fun t => t.same e, fun b n z => ?_⟩
  cases q : H b with
  | none => exact n q
  | some u => rw [e b u q] at z; cases z
/-- a new object -/
theorem Ext.new {Γ : Gm} {H : Hp} {p : Addr} (o : HO) (h : H p = none) : Ext Γ H (upd H p o) := Ext.same fun b u q => by rw [upd_ne (ne_of_none q h)]; exact q

/-- the heap as the readings find it: the tables stand; what must not be leant on is tracked -/
structure Wf (Γ : Gm) (av : Addr → Prop) (H : Hp) : Prop where
  tb : Tb Γ H
  av : ∀ a, av a → H a ≠ none
  row : RowOk Γ H
theorem Wf.ext {Γ : Gm} {av : Addr → Prop} {H H' : Hp} (w : Wf Γ av H) (x : Ext Γ H H') : Wf Γ av H' := ⟨x.tb w.tb, fun a h => x.there a (w.av a h), x.row w.row⟩
/-- a new address is none that must not be leant on -/
theorem Wf.new {Γ : Gm} {av : Addr → Prop} {H : Hp} (w : Wf Γ av H) {p : Addr} (h : H p = none) : ¬ avr Γ.kr av p := fun z => z.elim (fun z => w.av p z h) fun z => w.row.new h z

/-! ### the canonical readings -/
/-- an error that leaves: its class by its name, its one field -/
def ExOk (Γ : Gm) (H : Hp) (E : XK) (c : Str) : Option (Str × V) → Prop
  | none => ∀ H', Ext Γ H H' → E (.ref (Γ.cls c)) none H'
  | some (f, v) => ∀ H' a, Ext Γ H H' → H a = none → H' a = some (.xd [(f, v)]) → E (.ref (Γ.cls c)) (some a) H'
def ROk {α β : Type} (Γ : Gm) (av : Addr → Prop) (H : Hp) (rel : Hp → α → β → Prop) : Res α → (β → Hp → Prop) → XK → Prop
  | .ok a, Q, E => ∀ b H', Ext Γ H H' → rel H' a b → Q b H'
  | .ex c f, Q, E => ExOk Γ H E c f
  | .no, Q, E => False
  | .dr n k, Q, E => ∀ i, 0 ≤ i → i < n → ROk Γ av H rel (k i) Q E
/-- the names' values -/
structure EnvV (Γ : Gm) (av : Addr → Prop) (H : Hp) (σ : St) (ρ : Env) : Prop where
  wf : Wf Γ av H
  at_ : ∀ (i : Nat) (d : D), ρ[i]? = some (some d) → ∃ v, σ[i]? = some (some v) ∧ Rp Γ.kr av H d v
  len : ρ.length ≤ σ.length
theorem EnvV.ext {Γ : Gm} {av : Addr → Prop} {H H' : Hp} {σ : St} {ρ : Env} (e : EnvV Γ av H σ ρ) (x : Ext Γ H H') : EnvV Γ av H' σ ρ :=
  ⟨e.wf.ext x, fun i d h => let ⟨v, h1, h2⟩ := e.at_ i d h; ⟨v, h1, h2.ext x⟩, e.len⟩
def eT (Γ : Gm) (E : XK) (f : Env → Res D) : TE := fun σ H Q => ∃ av ρ, EnvV Γ av H σ ρ ∧ ROk Γ av H (fun H' d v => Rp Γ.kr av H' d v) (f ρ) Q E
def aT (Γ : Gm) (E : XK) (f : Env → Res (List D)) : TA := fun σ H Q => ∃ av ρ, EnvV Γ av H σ ρ ∧ ROk Γ av H (fun H' d v => RpL Γ.kr av H' d v) (f ρ) Q E
def bT (Γ : Gm) (E : XK) (f : Env → Res Bool) : TT := fun σ H Q => ∃ av ρ, EnvV Γ av H σ ρ ∧ ROk Γ av H (fun _ d v => d = v) (f ρ) Q E
section
variable {Γ : Gm} {av : Addr → Prop} {E : XK} {H H' : Hp} {σ : St} {ρ : Env}
theorem ExOk.ext {c : Str} {f : Option (Str × V)} (x : Ext Γ H H') (h : ExOk Γ H E c f) : ExOk Γ H' E c f := by
  cases f with
  | none => exact fun H2 x2 => h H2 (x.trans x2)
  | some p =>
    obtain ⟨f, d⟩ := p
    refine fun H2 a x2 n h1 => h H2 a (x.trans x2) ?_ h1
    cases q : H a with
    | none => rfl
    | some u => exact absurd n (x.there a (by rw [q]; intro z; cases z))
theorem ROk.ext {α β : Type} {rel : Hp → α → β → Prop} {Q : β → Hp → Prop} (x : Ext Γ H H') : ∀ {r : Res α}, ROk Γ av H rel r Q E → ROk Γ av H' rel r Q E
  | .ok a, h => fun b H2 x2 q => h b H2 (x.trans x2) q
  | .ex c f, h => ExOk.ext x (show ExOk Γ H E c f from h)
  | .no, h => h
  | .dr n k, h => fun i h1 h2 => ROk.ext x (h i h1 h2)
/-- what follows an answer -/
theorem ROk.bind {α β γ δ : Type} {av1 : Addr → Prop} {rel : Hp → β → δ → Prop} {rel1 : Hp → α → γ → Prop} {k : α → Res β} {Q : δ → Hp → Prop} {R : γ → Hp → Prop} : ∀ {r : Res α}, ROk Γ av H rel (r.bind k) Q E →
    (∀ d v H1, Ext Γ H H1 → rel1 H1 d v → ROk Γ av H1 rel (k d) Q E → R v H1) → ROk Γ av1 H rel1 r R E
  | .ok a, h, hk => fun b H2 x2 q => hk a b H2 x2 q (ROk.ext x2 h)
  | .ex c f, h, hk => h
  | .no, h, hk => h
  | .dr n j, h, hk => fun i h1 h2 => ROk.bind (h i h1 h2) hk
/-- .. from an earlier heap -/
theorem ROk.bindAt {α β γ δ : Type} {av1 : Addr → Prop} {rel : Hp → β → δ → Prop} {rel1 : Hp → α → γ → Prop} {k : α → Res β} {Q : δ → Hp → Prop} {R : γ → Hp → Prop} (x : Ext Γ H H') : ∀ {r : Res α}, ROk Γ av H rel (r.bind k) Q E →
    (∀ d v H1, Ext Γ H' H1 → rel1 H1 d v → ROk Γ av H rel (k d) Q E → R v H1) → ROk Γ av1 H' rel1 r R E
  | .ok a, h, hk => fun b H2 x2 q => hk a b H2 x2 q h
  | .ex c f, h, hk => ExOk.ext x (show ExOk Γ H E c f from h)
  | .no, h, hk => h
  | .dr n j, h, hk => fun i h1 h2 => ROk.bindAt x (h i h1 h2) hk
theorem ROk.rel {α γ : Type} {av1 : Addr → Prop} {rel rel1 : Hp → α → γ → Prop} {Q : γ → Hp → Prop} (hr : ∀ d v H1, Ext Γ H H1 → rel1 H1 d v → rel H1 d v) : ∀ {r : Res α}, ROk Γ av H rel r Q E → ROk Γ av1 H rel1 r Q E
  | .ok a, h => fun b H2 x2 q => h b H2 x2 (hr a b H2 x2 q)
  | .ex c f, h => h
  | .no, h => h
  | .dr n j, h => fun i h1 h2 => ROk.rel hr (h i h1 h2)
theorem eT_bind {β : Type} {δ : Type} {rel : Hp → β → δ → Prop} {f : Env → Res D} {k : D → Res β} {Q : δ → Hp → Prop} {R : VK} (env : EnvV Γ av H σ ρ) (h : ROk Γ av H rel ((f ρ).bind k) Q E)
    (hk : ∀ d v H1, Ext Γ H H1 → EnvV Γ av H1 σ ρ → Rp Γ.kr av H1 d v → ROk Γ av H1 rel (k d) Q E → R v H1) : eT Γ E f σ H R := ⟨av, ρ, env, h.bind fun d v H1 x r q => hk d v H1 x (env.ext x) r q⟩
theorem aT_bind {β : Type} {δ : Type} {rel : Hp → β → δ → Prop} {f : Env → Res (List D)} {k : List D → Res β} {Q : δ → Hp → Prop} {R : List V → Hp → Prop} (env : EnvV Γ av H σ ρ) (h : ROk Γ av H rel ((f ρ).bind k) Q E)
    (hk : ∀ d v H1, Ext Γ H H1 → EnvV Γ av H1 σ ρ → RpL Γ.kr av H1 d v → ROk Γ av H1 rel (k d) Q E → R v H1) : aT Γ E f σ H R := ⟨av, ρ, env, h.bind fun d v H1 x r q => hk d v H1 x (env.ext x) r q⟩
theorem bT_bind {β : Type} {δ : Type} {rel : Hp → β → δ → Prop} {f : Env → Res Bool} {k : Bool → Res β} {Q : δ → Hp → Prop} {R : Bool → Hp → Prop} (env : EnvV Γ av H σ ρ) (h : ROk Γ av H rel ((f ρ).bind k) Q E)
    (hk : ∀ d H1, Ext Γ H H1 → EnvV Γ av H1 σ ρ → ROk Γ av H1 rel (k d) Q E → R d H1) : bT Γ E f σ H R := ⟨av, ρ, env, h.bind fun d v H1 x r q => by
  subst r
  exact hk d H1 x (env.ext x) q⟩
/-- a value that stands already -/
theorem ROk.here {d : D} {v : V} {Q : VK} (h : ROk Γ av H (fun H' d v => Rp Γ.kr av H' d v) (.ok d) Q E) (r : Rp Γ.kr av H d v) : Q v H := h v H (Ext.refl Γ H) r
theorem ROk.new {d : D} {p : Addr} {o : HO} {Q : VK} (h : ROk Γ av H (fun H' d v => Rp Γ.kr av H' d v) (.ok d) Q E) (n : H p = none) (r : Rp Γ.kr av (upd H p o) d (.ref p)) : Q (.ref p) (upd H p o) := h _ _ (Ext.new o n) r
end
theorem PE.imp {X : Cx} {e : Expr} {t t' : TE} (h : PE X e t) (i : ∀ σ H Q, t' σ H Q → t σ H Q) : PE X e t' := ⟨fun pins s σ H Q I q => h.run pins s σ H Q I (i σ H Q q)⟩
theorem PT.imp {X : Cx} {e : Expr} {t t' : TT} (h : PT X e t) (i : ∀ σ H Q, t' σ H Q → t σ H Q) : PT X e t' := ⟨fun pins s σ H Q I q => h.run pins s σ H Q I (i σ H Q q)⟩
theorem PW.imp {X : Cx} {e : Expr} {t t' : TT} (h : PW X e t) (i : ∀ σ H Q, t' σ H Q → t σ H Q) : PW X e t' := ⟨fun wh pins s σ H Q I q => h.run wh pins s σ H Q I (i σ H Q q)⟩
theorem PA.imp {X : Cx} {e : List Expr} {t t' : TA} (h : PA X e t) (i : ∀ σ H Q, t' σ H Q → t σ H Q) : PA X e t' := ⟨fun pos pins s σ H Q I q => h.run pos pins s σ H Q I (i σ H Q q)⟩
theorem PS.imp {X : Cx} {e : Stmt} {t t' : TS} (h : PS X e t) (i : ∀ D σ H, t' D σ H → t D σ H) : PS X e t' := ⟨fun pins s σ H D I q => h.run pins s σ H D I (i D σ H q)⟩
theorem PSs.imp {X : Cx} {e : List Stmt} {t t' : TS} (h : PSs X e t) (i : ∀ D σ H, t' D σ H → t D σ H) : PSs X e t' := ⟨fun pins s σ H D I q => h.run pins s σ H D I (i D σ H q)⟩
end Fw
end
set_option Elab.async false
set_option linter.all false
set_option autoImplicit false
set_option maxRecDepth 100000
set_option maxHeartbeats 4000000
/-! Fw2: plain expressions. -/
noncomputable section
namespace Fw
open PySem PySem.Spec PyProof.Rows L2

/-! ### the operations over trees -/
/-- a word of the machine; the kernel is not to reckon with it -/
def inM (b : Int) : Prop := -(2 ^ 63) ≤ b ∧ b < 2 ^ 63
instance (i : Int) : Decidable (inM i) := Classical.propDecidable _
def vr (ρ : Env) (i : Nat) : Res D := match ρ[i]? with | some (some d) => .ok d | _ => .no
def D.add : D → D → Res D
  | .int a, .int b => .ok (.int (a + b))
  | .str a, .str b => if a.length + b.length ≤ lim then .ok (.str (a ++ b)) else .no
  | .lst a, .lst b => if a.length + b.length ≤ lim then .ok (.lst (a ++ b)) else .no
  | .tup a, .tup b => if a.length + b.length ≤ lim then .ok (.tup (a ++ b)) else .no
  | _, _ => .no
def D.sub : D → D → Res D
  | .int a, .int b => .ok (.int (a - b))
  | _, _ => .no
def D.mul : D → D → Res D
  | .int a, .int b => if a.natAbs.log2 + b.natAbs.log2 < 1000000 then .ok (.int (a * b)) else .no
  | .lst a, .int b => if inM b ∧ a.length * b.toNat ≤ lim then .ok (.lst (List.replicate b.toNat a).flatten) else .no
  | .tup a, .int b => if a ≠ [] ∧ 2 ≤ b ∧ b ≤ 1000 ∧ a.length ≤ 1000 then .ok (.tup (List.replicate b.toNat a).flatten) else .no
  | _, _ => .no
def D.fdiv : D → D → Res D
  | .int a, .int b => if 0 < b ∧ b.natAbs.log2 < 9000 then .ok (.int (a / b)) else .no
  | _, _ => .no
def D.mod : D → D → Res D
  | .int a, .int b => if 0 < b then .ok (.int (a % b)) else .no
  | _, _ => .no
def D.pow : D → D → Res D
  | .int a, .int b => if 0 ≤ b ∧ b ≤ 1000000 ∧ a.natAbs < 2 ^ 64 then .ok (.int (a ^ b.toNat)) else .no
  | _, _ => .no
def D.lt : D → D → Res D
  | .int a, .int b => .ok (.bl (decide (a < b)))
  | _, _ => .no
def D.le : D → D → Res D
  | .int a, .int b => .ok (.bl (decide (a ≤ b)))
  | _, _ => .no
def D.gt : D → D → Res D
  | .int a, .int b => .ok (.bl (decide (b < a)))
  | _, _ => .no
def D.ge : D → D → Res D
  | .int a, .int b => .ok (.bl (decide (b ≤ a)))
  | _, _ => .no
mutual
/-- what == may be asked of: no dict, texts whose size is known -/
def D.toPy : D → Option PyData
  | .non => some .none
  | .bl b => some (.bool b)
  | .int i => some (.int i)
  | .str x => some (.str x)
  | .tup ds => (D.toPyL ds).map .tuple
  | .ftp ds => (D.toPyL ds).map .tuple
  | .lst ds => (D.toPyL ds).map .list
  | _ => none
def D.toPyL : List D → Option (List PyData)
  | [] => some []
  | d :: r => match d.toPy, D.toPyL r with
    | some p, some q => some (p :: q)
    | _, _ => none
end
def D.eqB (a b : D) : Res Bool := match a.toPy, b.toPy with
  | some p, some q => if SeqAt.shaped p = true ∧ SeqAt.shaped q = true then .ok (PyData.eqv p q) else .no
  | _, _ => .no
def D.eq (a b : D) : Res D := (D.eqB a b).bind fun k => .ok (.bl k)
def D.ne (a b : D) : Res D := (D.eqB a b).bind fun k => .ok (.bl !k)
def D.isNon : D → Bool
  | .non => true
  | _ => false
/-- x is y, of None and of truth values -/
def D.is : D → D → Res D
  | a, .non => match a with | .op _ => .no | _ => .ok (.bl a.isNon)
  | .bl a, .bl b => .ok (.bl (a == b))
  | .non, .bl _ => .ok (.bl false)
  | .int _, .bl _ => .ok (.bl false)
  | .str _, .bl _ => .ok (.bl false)
  | _, _ => .no
def D.asB : D → Res Bool
  | .bl b => .ok b
  | _ => .no
def D.truth : D → Res Bool
  | .non => .ok false
  | .bl b => .ok b
  | .int i => .ok (i != 0)
  | .str x => if x.length ≤ lim then .ok ((x.length : Int) != 0) else .no
  | .tup ds => .ok (!ds.isEmpty)
  | .ftp ds => .ok (!ds.isEmpty)
  | .lst ds => .ok (!ds.isEmpty)
  | _ => .no
def ixG {α : Type} (l : List α) (i : Int) : Res α := match atI l i with | some d => .ok d | none => .no
def D.ix : D → D → Res D
  | .tup ds, .int i => ixG ds i
  | .ftp ds, .int i => ixG ds i
  | .lst ds, .int i => ixG ds i
  | .arr _ ns, .int i => (ixG ns i).bind fun n => .ok (.int n)
  | .str x, .int i => if x.length ≤ lim then (ixG x.cps.toList i).bind fun c => .ok (.str ⟨#[c]⟩) else .no
  | _, _ => .no
def cutG {α : Type} (xs : List α) (lo hi : Option Int) : List α := (xs.drop (HT.sIx xs.length 0 lo)).take (HT.sIx xs.length xs.length hi - HT.sIx xs.length 0 lo)
def D.slice : D → Option Int → Option Int → Res D
  | .tup ds, lo, hi => .ok (.tup (cutG ds lo hi))
  | .ftp ds, lo, hi => if HT.sIx ds.length 0 lo = 0 ∧ HT.sIx ds.length ds.length hi = ds.length then .ok (.ftp ds) else .ok (.tup (cutG ds lo hi))
  | .lst ds, lo, hi => .ok (.lst (cutG ds lo hi))
  | .str x, lo, hi => if x.length ≤ lim then .ok (.str (cutS x lo hi)) else .no
  | _, _, _ => .no
def D.asI : D → Res Int
  | .int i => .ok i
  | _ => .no
def D.len : D → Res D
  | .tup ds => .ok (.int ds.length)
  | .ftp ds => .ok (.int ds.length)
  | .lst ds => .ok (.int ds.length)
  | .arr _ ns => .ok (.int ns.length)
  | .str x => if x.length ≤ lim then .ok (.int x.length) else .no
  | .dct _ ds => .ok (.int ds.length)
  | _ => .no
def D.toTup : D → Res D
  | .tup ds => .ok (.tup ds)
  | .lst ds => .ok (.tup ds)
  | _ => .no
def D.toLst : D → Res D
  | .tup ds => .ok (.lst ds)
  | .ftp ds => .ok (.lst ds)
  | .lst ds => .ok (.lst ds)
  | _ => .no
def D.toInt : D → Res D
  | .int i => .ok (.int i)
  | .bl b => .ok (.int (if b then 1 else 0))
  | _ => .no
def intsOf : List D → Option (List Int)
  | [] => some []
  | .int i :: r => (intsOf r).map (i :: ·)
  | _ :: _ => none
theorem intsOf_map : ∀ ns : List Int, intsOf (ns.map D.int) = some ns
  | [] => rfl
  | n :: r => by rw [List.map_cons, intsOf, intsOf_map r]; rfl
theorem intsOf_eq : ∀ {ds : List D} {ns : List Int}, intsOf ds = some ns → ds = ns.map D.int
  | [], _, h => by cases h; rfl
  | .int i :: r, ns, h => by
    rw [intsOf] at h
    cases e : intsOf r with
    | none => rw [e] at h; cases h
    | some m =>
      rw [e] at h
      cases h
      rw [intsOf_eq e]
      rfl
  | .non :: _, _, h => by cases h
  | .bl _ :: _, _, h => by cases h
  | .str _ :: _, _, h => by cases h
  | .tup _ :: _, _, h => by cases h
  | .ftp _ :: _, _, h => by cases h
  | .lst _ :: _, _, h => by cases h
  | .dct _ _ :: _, _, h => by cases h
  | .ins _ _ :: _, _, h => by cases h
  | .rng _ _ :: _, _, h => by cases h
  | .arr _ _ :: _, _, h => by cases h
  | .row :: _, _, h => by cases h
  | .op _ :: _, _, h => by cases h
def D.asInts : D → Res (List Int)
  | .lst ds => match intsOf ds with | some ns => .ok ns | none => .no
  | _ => .no
def D.sum (a : D) : Res D := a.asInts.bind fun ns => .ok (.int ns.sum)
def maxL : List Int → Option Int
  | [] => none
  | n :: r => some (r.foldl max n)
def minL : List Int → Option Int
  | [] => none
  | n :: r => some (r.foldl min n)
def D.max1 (a : D) : Res D := a.asInts.bind fun ns => match maxL ns with | some m => .ok (.int m) | none => .no
def D.max2 : D → D → Res D
  | .int a, .int b => .ok (.int (if b > a then b else a))
  | _, _ => .no
def D.min2 : D → D → Res D
  | .int a, .int b => .ok (.int (if b < a then b else a))
  | _, _ => .no
def D.abs : D → Res D
  | .int a => .ok (.int (if a < 0 then -a else a))
  | _ => .no
def D.neg : D → Res D
  | .int a => .ok (.int (-a))
  | _ => .no
def D.cnt : D → D → Res D
  | .lst ds, .int k => match intsOf ds with | some ns => .ok (.int (ns.count k : Nat)) | none => .no
  | _, _ => .no
inductive Ty where | non | bl | int | str | tup | lst | dct
  deriving DecidableEq
def Ty.name : Ty → String
  | .non => "NoneType" | .bl => "bool" | .int => "int" | .str => "str" | .tup => "tuple" | .lst => "list" | .dct => "dict"
def D.ty : D → Option Ty
  | .non => some .non | .bl _ => some .bl | .int _ => some .int | .str _ => some .str | .tup _ => some .tup | .ftp _ => some .tup | .lst _ => some .lst | .dct _ _ => some .dct
  | _ => none
def isiB (t T : Ty) : Bool := decide (t = T) || (decide (t = .bl) && decide (T = .int))
theorem isiB_kit {K : PySem.W.Frag} (t T : Ty) (h : T ≠ .non) : PySem.W.kitOne K (.type t.name) (.type T.name) = some (isiB t T) := by
  refine kit_ty ?_
  cases T <;> first | exact absurd rfl h | (cases t <;> decide +kernel)
def D.isi (a : D) (T : Ty) : Res D := match a.ty with | some t => .ok (.bl (isiB t T)) | none => .no
def D.isiAny (a : D) (Ts : List Ty) : Res D := match a.ty with | some t => .ok (.bl (Ts.any fun T => isiB t T)) | none => .no

/-! ### the rules -/
section
variable {X : Cx} {Γ : Gm} {E : XK} {x : Str} {a b c : Expr} {es : List Expr} {pos p p2 : Pos} {fa fb fc : Env → Res D} {k : Nat}
theorem te_var (i : Nat) (hN : X.N[i]? = some x := by rfl) (hv : Vis X.env.scope x := by first | exact Or.inl rfl | exact Or.inr (Or.inl rfl) | exact Or.inr (Or.inr rfl)) (hd : (x == ("__debug__" : Str)) = false := by decide)
    (hcd : (x == ("__classdict__" : Str)) = false := by decide) : PE X (.Name x pos) (eT Γ E fun ρ => vr ρ i) := by
  refine PE.imp (pe_var hN hv hd hcd) fun σ H Q ⟨av, ρ, env, h⟩ => ?_
  have h : ROk Γ av H (fun H' d v => Rp Γ.kr av H' d v) (vr ρ i) Q E := h
  unfold vr at h
  split at h
  · rename_i d e
    obtain ⟨v, h1, h2⟩ := env.at_ i d e
    exact ⟨v, h1, h.here h2⟩
  · exact (show False from h).elim
theorem te_const {v : V} {d : D} (h : PE X a (tC v)) (r : ∀ (K : Kr) av H, Rp K av H d v) : PE X a (eT Γ E fun _ => .ok d) :=
  PE.imp h fun σ H Q ⟨av, ρ, env, h⟩ => h.here (r _ _ _)
theorem te_int {i : Int} {j : Nat} : PE X (.Constant (.int i) j pos) (eT Γ E fun _ => .ok (.int i)) := te_const pe_int fun _ _ _ => .int i
theorem te_bl {i : Bool} {j : Nat} : PE X (.Constant (.bool i) j pos) (eT Γ E fun _ => .ok (.bl i)) := te_const pe_bl fun _ _ _ => .bl i
theorem te_str {i : Str} {j : Nat} : PE X (.Constant (.str i) j pos) (eT Γ E fun _ => .ok (.str i)) := te_const pe_str fun _ _ _ => .str i
theorem te_non {j : Nat} : PE X (.Constant .none j pos) (eT Γ E fun _ => .ok .non) := te_const pe_non fun _ _ _ => .non
/-- a number of the module's -/
theorem te_gint {i : Int} {t : Tok} (hm : X.mg x = some (.int i t)) (hg : Gl X x := by rfl) (hd : (x == ("__debug__" : Str)) = false := by decide) : PE X (.Name x pos) (eT Γ E fun _ => .ok (.int i)) := te_const (v := .int i) (pe_glob hg hm ⟨t, rfl⟩ hd) fun _ _ _ => .int i
theorem te_gstr {i : Str} {t : Tok} (hm : X.mg x = some (.str i t)) (hg : Gl X x := by rfl) (hd : (x == ("__debug__" : Str)) = false := by decide) : PE X (.Name x pos) (eT Γ E fun _ => .ok (.str i)) := te_const (v := .str i) (pe_glob hg hm ⟨t, rfl⟩ hd) fun _ _ _ => .str i

/-- what an operation over values must do to fit one over trees -/
def Fit2 (Γ : Gm) (E : XK) (r : R2) (g : D → D → Res D) : Prop := ∀ (av : Addr → Prop) (H : Hp) (da db : D) (va vb : V) (Q : VK), Wf Γ av H → Rp Γ.kr av H da va → Rp Γ.kr av H db vb →
  ROk Γ av H (fun H' d v => Rp Γ.kr av H' d v) (g da db) Q E → r va vb H Q
theorem ROk.ifp {α β : Type} {av : Addr → Prop} {H : Hp} {rel : Hp → α → β → Prop} {q : Prop} [Decidable q] {r : Res α} {Q : β → Hp → Prop} (h : ROk Γ av H rel (if q then r else .no) Q E) : q ∧ ROk Γ av H rel r Q E := by
  by_cases z : q
  · rw [if_pos z] at h; exact ⟨z, h⟩
  · rw [if_neg z] at h; exact h.elim
def bin (g : D → D → Res D) (fa fb : Env → Res D) : Env → Res D := fun ρ => (fa ρ).bind fun d => (fb ρ).bind fun e => g d e
theorem tOp_fit {r : R2} {g : D → D → Res D} (hf : Fit2 Γ E r g) (σ : St) (H : Hp) (Q : VK) (h : eT Γ E (bin g fa fb) σ H Q) : tOp r (eT Γ E fa) (eT Γ E fb) σ H Q := by
  obtain ⟨av, ρ, env, h⟩ := h
  exact eT_bind env h fun d v H1 x1 env1 r1 h1 => eT_bind env1 h1 fun e u H2 x2 env2 r2 h2 => hf av H2 d e v u Q env2.wf (r1.ext x2) r2 h2
theorem te_op {op : Operator} {r : R2} {g : D → D → Res D} (ho : OpR X (binaryOp op) r) (hf : Fit2 Γ E r g) (ha : PE X a (eT Γ E fa)) (hb : PE X b (eT Γ E fb)) : PE X (.BinOp a op b pos) (eT Γ E (bin g fa fb)) :=
  PE.imp (pe_op ho ha hb) fun σ H Q h => tOp_fit hf σ H Q h
theorem te_cmpR {op : CmpOp} {r : R2} {g : D → D → Res D} (ho : OpR X (compareOp op) r) (hf : Fit2 Γ E r g) (ha : PE X a (eT Γ E fa)) (hb : PE X b (eT Γ E fb)) (hm : behindInMarks op b = false) : PE X (.Compare a [op] [b] pos) (eT Γ E (bin g fa fb)) :=
  PE.imp (pe_cmpR ho ha hb hm) fun σ H Q h => tOp_fit hf σ H Q h
def asTest (f : Env → Res D) : Env → Res Bool := fun ρ => (f ρ).bind D.asB
/-- a truth value as a test -/
theorem asB_fit {av : Addr → Prop} {H : Hp} {d : D} {v : V} {Q : Bool → Hp → Prop} (r : Rp Γ.kr av H d v) (h : ROk Γ av H (fun _ d v => d = v) d.asB Q E) : ∃ c, v = .bl c ∧ Q c H := by
  cases r with
  | bl c => exact ⟨c, rfl, h c H (Ext.refl Γ H) rfl⟩
  | _ => exact (show False from h).elim
theorem tb_val (h : PE X a (eT Γ E fa)) (he : ∀ whole, isTrue a X.env whole = (do let v ← whole; standAt a.pos; holding [v] (truthy v)) := by intro _; rfl) : PT X a (bT Γ E (asTest fa)) :=
  PT.imp (pt_val h he) fun σ H Q ⟨av, ρ, env, h⟩ => eT_bind env h fun d v H1 x1 env1 r1 h1 => asB_fit r1 h1
theorem tb_cmpR {op : CmpOp} {r : R2} {g : D → D → Res D} (ho : OpR X (compareOp op) r) (hf : Fit2 Γ E r g) (ha : PE X a (eT Γ E fa)) (hb : PE X b (eT Γ E fb)) (hm : behindInMarks op b = false) : PT X (.Compare a [op] [b] pos) (bT Γ E (asTest (bin g fa fb))) :=
  PT.imp (pt_cmpR ho ha hb hm) fun σ H Q ⟨av, ρ, env, h⟩ => by
    have h' : ROk Γ av H (fun _ d v => d = v) ((fa ρ).bind fun d => (fb ρ).bind fun e => (g d e).bind D.asB) Q E := by
      unfold asTest bin at h
      rw [Res.bind_assoc] at h
      simp only [Res.bind_assoc] at h
      exact h
    refine eT_bind env h' fun d v H1 x1 env1 r1 h1 => eT_bind env1 h1 fun e u H2 x2 env2 r2 h2 => ?_
    exact hf av H2 d e v u _ env2.wf (r1.ext x2) r2 (h2.bind fun z w H3 x3 r3 h3 => asB_fit r3 h3)

/-! the operations -/
theorem fit_II {g : Int → Int → V} {f : D → D → Res D} {C : Int → Int → Prop} (hc : ∀ i j, f (.int i) (.int j) = .no ∨ (C i j ∧ ∃ d, f (.int i) (.int j) = .ok d ∧ ∀ (K : Kr) av H, Rp K av H d (g i j)))
    (hn : ∀ a b, (∀ i j, ¬ (a = .int i ∧ b = .int j)) → f a b = .no) : Fit2 Γ E (rI C g) f := by
  intro av H da db va vb Q wf ra rb h
  by_cases hh : ∃ i j, da = .int i ∧ db = .int j
  · obtain ⟨i, j, rfl, rfl⟩ := hh
    cases ra
    cases rb
    rcases hc i j with e | ⟨q, d, e, r⟩
    · rw [e] at h; exact h.elim
    · rw [e] at h
      exact ⟨i, j, rfl, rfl, q, h.here (r _ _ _)⟩
  · rw [hn da db fun i j z => hh ⟨i, j, z⟩] at h
    exact h.elim
theorem fit_II0 {g : Int → Int → V} {f : D → D → Res D} (hc : ∀ i j, ∃ d, f (.int i) (.int j) = .ok d ∧ ∀ (K : Kr) av H, Rp K av H d (g i j)) (hn : ∀ a b, (∀ i j, ¬ (a = .int i ∧ b = .int j)) → f a b = .no) : Fit2 Γ E (rI0 g) f := by
  intro av H da db va vb Q wf ra rb h
  obtain ⟨i, j, h1, h2, _, h3⟩ := fit_II (C := fun _ _ => True) (g := g) (fun i j => .inr ⟨True.intro, hc i j⟩) hn av H da db va vb Q wf ra rb h
  exact ⟨i, j, h1, h2, h3⟩
/-- two operations in one -/
theorem Fit2.or {r r' : R2} {f f' g : D → D → Res D} (h : Fit2 Γ E r f) (h' : Fit2 Γ E r' f') (hg : ∀ a b, g a b = f a b ∨ g a b = f' a b) : Fit2 Γ E (fun x y H Q => r x y H Q ∨ r' x y H Q) g := by
  intro av H da db va vb Q wf ra rb q
  rcases hg da db with e | e
  · rw [e] at q; exact .inl (h av H da db va vb Q wf ra rb q)
  · rw [e] at q; exact .inr (h' av H da db va vb Q wf ra rb q)
def addI : D → D → Res D
  | .int a, .int b => .ok (.int (a + b))
  | _, _ => .no
def addS : D → D → Res D
  | .str a, .str b => if a.length + b.length ≤ lim then .ok (.str (a ++ b)) else .no
  | _, _ => .no
def addL : D → D → Res D
  | .lst a, .lst b => if a.length + b.length ≤ lim then .ok (.lst (a ++ b)) else .no
  | _, _ => .no
def addT : D → D → Res D
  | .tup a, .tup b => if a.length + b.length ≤ lim then .ok (.tup (a ++ b)) else .no
  | _, _ => .no
local macro_rules | `(tactic| walk_at "nn") => `(tactic| (intro a b h; cases a <;> first | rfl | (cases b <;> first | rfl | exact absurd ⟨rfl, rfl⟩ (h _ _))))
theorem fit_addI : Fit2 Γ E (rI0 fun i j => .int (i + j)) addI := fit_II0 (fun i j => ⟨_, rfl, fun _ _ _ => .int _⟩) (by walk_at "nn")
theorem fit_addS : Fit2 Γ E (fun x y H Q => ∃ i j, x = .str i ∧ y = .str j ∧ i.length + j.length ≤ sizeLine ∧ Q (.str (i ++ j)) H) addS := by
  intro av H da db va vb Q wf ra rb h
  cases ra <;> first | exact (show False from h).elim | skip
  cases rb <;> first | exact (show False from h).elim | skip
  rename_i x y
  obtain ⟨hz, h⟩ := ROk.ifp h
  exact ⟨_, _, rfl, rfl, by rw [lim_eq]; exact hz, h.here (.str _)⟩
theorem fit_addL : Fit2 Γ E rCat addL := by
  intro av H da db va vb Q wf ra rb h
  cases ra <;> first | exact (show False from h).elim | skip
  cases rb <;> first | exact (show False from h).elim | skip
  rename_i a vs ds h1 n1 r1 a' vs' ds' h1' n1' r1'
  obtain ⟨hz, h⟩ := ROk.ifp h
  exact ⟨_, _, _, _, rfl, rfl, h1, h1', by rw [lim_eq, ← r1.length, ← r1'.length]; exact hz, fun p hp => h.new hp (.lst upd_same (wf.new hp) ((r1.append r1').ext (Ext.new _ hp)))⟩
theorem fit_addT : Fit2 Γ E (rCatA Γ.K) addT := by
  intro av H da db va vb Q wf ra rb h
  cases ra <;> first | exact (show False from h).elim | skip
  cases rb <;> first | exact (show False from h).elim | skip
  rename_i a vs ds h1 r1 a' vs' ds' h1' r1'
  obtain ⟨hz, h⟩ := ROk.ifp h
  refine ⟨_, _, _, _, rfl, rfl, SqT.of h1, SqT.of h1', by rw [lim_eq, ← r1.length, ← r1'.length]; exact hz, fun e => ?_, fun _ e => ?_, fun _ _ p hp => h.new hp (.tup upd_same ((r1.append r1').ext (Ext.new _ hp)))⟩
  · subst e
    cases r1
    exact h.here (.tup h1' r1')
  · subst e
    cases r1'
    rw [List.append_nil] at h
    exact h.here (.tup h1 r1)
theorem te_add (ha : PE X a (eT Γ E fa)) (hb : PE X b (eT Γ E fb)) (hK : X.K = Γ.K := by rfl) : PE X (.BinOp a .Add b pos) (eT Γ E (bin D.add fa fb)) := by
  refine te_op (((op_add.or op_add_str).or op_cat).or op_catA) ?_ ha hb
  rw [hK]
  refine Fit2.or (f := fun a b => match a with | .tup _ => .no | _ => D.add a b) (Fit2.or (f := fun a b => match a with | .tup _ => .no | .lst _ => .no | _ => D.add a b) (Fit2.or fit_addI fit_addS ?_) fit_addL ?_) fit_addT ?_
  · intro a b; cases a <;> first | exact .inl rfl | exact .inr rfl | (cases b <;> first | exact .inl rfl | exact .inr rfl)
  · intro a b; cases a <;> first | exact .inl rfl | exact .inr rfl | (cases b <;> first | exact .inl rfl | exact .inr rfl)
  · intro a b; cases a <;> first | exact .inl rfl | exact .inr rfl | (cases b <;> first | exact .inl rfl | exact .inr rfl)
theorem te_sub (ha : PE X a (eT Γ E fa)) (hb : PE X b (eT Γ E fb)) : PE X (.BinOp a .Sub b pos) (eT Γ E (bin D.sub fa fb)) :=
  te_op op_sub (fit_II0 (fun i j => ⟨_, rfl, fun _ _ _ => .int _⟩) (by walk_at "nn")) ha hb
def mulI : D → D → Res D
  | .int a, .int b => if a.natAbs.log2 + b.natAbs.log2 < 1000000 then .ok (.int (a * b)) else .no
  | _, _ => .no
def mulL : D → D → Res D
  | .lst a, .int b => if inM b ∧ a.length * b.toNat ≤ lim then .ok (.lst (List.replicate b.toNat a).flatten) else .no
  | _, _ => .no
def mulT : D → D → Res D
  | .tup a, .int b => if a ≠ [] ∧ 2 ≤ b ∧ b ≤ 1000 ∧ a.length ≤ 1000 then .ok (.tup (List.replicate b.toNat a).flatten) else .no
  | _, _ => .no
theorem fit_mulI : Fit2 Γ E (rI CMulW fun i j => .int (i * j)) mulI := fit_II (fun i j => by
  by_cases h : i.natAbs.log2 + j.natAbs.log2 < 1000000
  · exact .inr ⟨h, _, if_pos h, fun _ _ _ => .int _⟩
  · exact .inl (if_neg h)) (by walk_at "nn")
theorem fit_mulL : Fit2 Γ E rRep mulL := by
  intro av H da db va vb Q wf ra rb h
  cases ra <;> first | exact (show False from h).elim | skip
  cases rb <;> first | exact (show False from h).elim | skip
  rename_i a vs ds h1 n1 r1 i
  obtain ⟨hz, h⟩ := ROk.ifp h
  exact ⟨_, _, _, rfl, rfl, h1, hz.1.1, hz.1.2, by rw [lim_eq, ← r1.length]; exact hz.2, fun p hp => h.new hp (.lst upd_same (wf.new hp) ((r1.reps _).ext (Ext.new _ hp)))⟩
theorem fit_mulT : Fit2 Γ E (rRepT Γ.K) mulT := by
  intro av H da db va vb Q wf ra rb h
  cases ra <;> first | exact (show False from h).elim | skip
  cases rb <;> first | exact (show False from h).elim | skip
  rename_i a vs ds h1 r1 i
  obtain ⟨hz, h⟩ := ROk.ifp h
  refine ⟨_, _, _, rfl, rfl, SqT.of h1, fun e => ?_, hz.2.1, hz.2.2.1, by rw [← r1.length]; exact hz.2.2.2, fun p hp => h.new hp (.tup upd_same ((r1.reps _).ext (Ext.new _ hp)))⟩
  subst e
  cases r1
  exact hz.1 rfl
theorem te_mul (ha : PE X a (eT Γ E fa)) (hb : PE X b (eT Γ E fb)) (hK : X.K = Γ.K := by rfl) : PE X (.BinOp a .Mult b pos) (eT Γ E (bin D.mul fa fb)) := by
  refine te_op ((op_mulW.or op_rep).or op_repT) ?_ ha hb
  rw [hK]
  refine Fit2.or (f := fun a b => match a with | .tup _ => .no | _ => D.mul a b) (Fit2.or fit_mulI fit_mulL ?_) fit_mulT ?_
  · intro a b; cases a <;> first | exact .inl rfl | exact .inr rfl | (cases b <;> first | exact .inl rfl | exact .inr rfl)
  · intro a b; cases a <;> first | exact .inl rfl | exact .inr rfl | (cases b <;> first | exact .inl rfl | exact .inr rfl)
theorem te_fdiv (ha : PE X a (eT Γ E fa)) (hb : PE X b (eT Γ E fb)) : PE X (.BinOp a .FloorDiv b pos) (eT Γ E (bin D.fdiv fa fb)) :=
  te_op op_fdivW (fit_II (fun i j => by
    by_cases h : 0 < j ∧ j.natAbs.log2 < 9000
    · exact .inr ⟨h, _, if_pos h, fun _ _ _ => .int _⟩
    · exact .inl (if_neg h)) (by walk_at "nn")) ha hb
theorem te_mod (ha : PE X a (eT Γ E fa)) (hb : PE X b (eT Γ E fb)) : PE X (.BinOp a .Mod b pos) (eT Γ E (bin D.mod fa fb)) :=
  te_op op_mod (fit_II (fun i j => by
    by_cases h : 0 < j
    · exact .inr ⟨h, _, if_pos h, fun _ _ _ => .int _⟩
    · exact .inl (if_neg h)) (by walk_at "nn")) ha hb
theorem te_pow (ha : PE X a (eT Γ E fa)) (hb : PE X b (eT Γ E fb)) : PE X (.BinOp a .Pow b pos) (eT Γ E (bin D.pow fa fb)) :=
  te_op op_pow (fit_II (fun i j => by
    by_cases h : 0 ≤ j ∧ j ≤ 1000000 ∧ i.natAbs < 2 ^ 64
    · exact .inr ⟨h, _, if_pos h, fun _ _ _ => .int _⟩
    · exact .inl (if_neg h)) (by walk_at "nn")) ha hb

/-! comparisons -/
theorem fit_lt : Fit2 Γ E (rI0 fun i j => .bl (decide (i < j))) D.lt := fit_II0 (fun i j => ⟨_, rfl, fun _ _ _ => .bl _⟩) (by walk_at "nn")
theorem fit_le : Fit2 Γ E (rI0 fun i j => .bl (decide (i ≤ j))) D.le := fit_II0 (fun i j => ⟨_, rfl, fun _ _ _ => .bl _⟩) (by walk_at "nn")
theorem fit_gt : Fit2 Γ E (rI0 fun i j => .bl (decide (j < i))) D.gt := fit_II0 (fun i j => ⟨_, rfl, fun _ _ _ => .bl _⟩) (by walk_at "nn")
theorem fit_ge : Fit2 Γ E (rI0 fun i j => .bl (decide (j ≤ i))) D.ge := fit_II0 (fun i j => ⟨_, rfl, fun _ _ _ => .bl _⟩) (by walk_at "nn")
mutual
theorem Rp.dp {K : PySem.W.Frag} {r : Kr} {av : Addr → Prop} {H : Hp} : ∀ {d : D} {v : V} {p : PyData}, Rp r av H d v → d.toPy = some p → Dp K H v p
  | _, _, _, .non, e => by cases e; exact .non
  | _, _, _, .bl b, e => by cases e; exact .bl b
  | _, _, _, .int i, e => by cases e; exact .int i
  | _, _, _, .str x, e => by cases e; exact .str x
  | _, _, _, .tup (ds := ds) h r, e => by
    rw [D.toPy] at e
    cases q : D.toPyL ds with
    | none => rw [q] at e; cases e
    | some ps => rw [q] at e; cases e; exact .tup (SqT.of h) (RpL.dp r q)
  | _, _, _, .ftp (ds := ds) h n r, e => by
    rw [D.toPy] at e
    cases q : D.toPyL ds with
    | none => rw [q] at e; cases e
    | some ps => rw [q] at e; cases e; exact .tup (.inl (.inr ⟨_, h⟩)) (RpL.dp r q)
  | _, _, _, .lst (ds := ds) h n r, e => by
    rw [D.toPy] at e
    cases q : D.toPyL ds with
    | none => rw [q] at e; cases e
    | some ps => rw [q] at e; cases e; exact .lst (SqL.of h) (RpL.dp r q)
  | _, _, _, .dK _ _ _, e => by cases e
  | _, _, _, .dT _ _ _, e => by cases e
  | _, _, _, .rng _ _ _, e => by cases e
  | _, _, _, .arr _ _ _, e => by cases e
  | _, _, _, .row _, e => by cases e
  | _, _, _, .op _, e => by cases e
theorem RpL.dp {K : PySem.W.Frag} {r : Kr} {av : Addr → Prop} {H : Hp} : ∀ {ds : List D} {vs : List V} {ps : List PyData}, RpL r av H ds vs → D.toPyL ds = some ps → DpAll K H vs ps
  | _, _, _, .nil, e => by cases e; exact .nil
  | _, _, _, .cons (d := d) (ds := ds) h r, e => by
    rw [D.toPyL] at e
    cases q1 : d.toPy with
    | none => rw [q1] at e; cases e
    | some p =>
      cases q2 : D.toPyL ds with
      | none => rw [q1, q2] at e; cases e
      | some ps => rw [q1, q2] at e; cases e; exact .cons (Rp.dp h q1) (RpL.dp r q2)
end
theorem eqB_out {a b : D} {k : Bool} (h : D.eqB a b = .ok k) : ∃ p q, a.toPy = some p ∧ b.toPy = some q ∧ SeqAt.shaped p = true ∧ SeqAt.shaped q = true ∧ k = PyData.eqv p q := by
  unfold D.eqB at h
  split at h
  · rename_i p q e1 e2
    split at h
    · rename_i hs
      cases h
      exact ⟨p, q, e1, e2, hs.1, hs.2, rfl⟩
    · cases h
  · cases h
theorem eqB_noex {a b : D} {c : Str} {f : Option (Str × V)} : D.eqB a b ≠ .ex c f := by
  unfold D.eqB
  intro h
  split at h
  · split at h <;> cases h
  · cases h
theorem eqB_nodr {a b : D} {n : Int} {k : Int → Res Bool} : D.eqB a b ≠ .dr n k := by
  unfold D.eqB
  intro h
  split at h
  · split at h <;> cases h
  · cases h
theorem fit_eq : Fit2 Γ E (rEqD Γ.K) D.eq := by
  intro av H da db va vb Q wf ra rb h
  unfold D.eq at h
  cases e : D.eqB da db with
  | ok k =>
    rw [e] at h
    obtain ⟨p, q, e1, e2, s1, s2, rfl⟩ := eqB_out e
    exact ⟨p, q, ra.dp e1, rb.dp e2, s1, s2, h.here (.bl _)⟩
  | ex c f => exact absurd e eqB_noex
  | dr n k => exact absurd e eqB_nodr
  | no => rw [e] at h; exact h.elim
theorem fit_ne : Fit2 Γ E (rNeD Γ.K) D.ne := by
  intro av H da db va vb Q wf ra rb h
  unfold D.ne at h
  cases e : D.eqB da db with
  | ok k =>
    rw [e] at h
    obtain ⟨p, q, e1, e2, s1, s2, rfl⟩ := eqB_out e
    exact ⟨p, q, ra.dp e1, rb.dp e2, s1, s2, h.here (.bl _)⟩
  | ex c f => exact absurd e eqB_noex
  | dr n k => exact absurd e eqB_nodr
  | no => rw [e] at h; exact h.elim
theorem te_lt (ha : PE X a (eT Γ E fa)) (hb : PE X b (eT Γ E fb)) : PE X (.Compare a [.Lt] [b] pos) (eT Γ E (bin D.lt fa fb)) := te_cmpR op_lt fit_lt ha hb (nomark _)
theorem te_le (ha : PE X a (eT Γ E fa)) (hb : PE X b (eT Γ E fb)) : PE X (.Compare a [.LtE] [b] pos) (eT Γ E (bin D.le fa fb)) := te_cmpR op_le fit_le ha hb (nomark _)
theorem te_gt (ha : PE X a (eT Γ E fa)) (hb : PE X b (eT Γ E fb)) : PE X (.Compare a [.Gt] [b] pos) (eT Γ E (bin D.gt fa fb)) := te_cmpR op_gt fit_gt ha hb (nomark _)
theorem te_ge (ha : PE X a (eT Γ E fa)) (hb : PE X b (eT Γ E fb)) : PE X (.Compare a [.GtE] [b] pos) (eT Γ E (bin D.ge fa fb)) := te_cmpR op_ge fit_ge ha hb (nomark _)
theorem te_eq (hr : Room k X.A) (ha : PE X a (eT Γ E fa)) (hb : PE X b (eT Γ E fb)) (hK : X.K = Γ.K := by rfl) : PE X (.Compare a [.Eq] [b] pos) (eT Γ E (bin D.eq fa fb)) := te_cmpR (op_eqD hr.units) (hK ▸ fit_eq) ha hb (nomark _)
theorem te_ne (hr : Room k X.A) (ha : PE X a (eT Γ E fa)) (hb : PE X b (eT Γ E fb)) (hK : X.K = Γ.K := by rfl) : PE X (.Compare a [.NotEq] [b] pos) (eT Γ E (bin D.ne fa fb)) := te_cmpR (op_neD hr.units) (hK ▸ fit_ne) ha hb (nomark _)
theorem tb_lt (ha : PE X a (eT Γ E fa)) (hb : PE X b (eT Γ E fb)) : PT X (.Compare a [.Lt] [b] pos) (bT Γ E (asTest (bin D.lt fa fb))) := tb_cmpR op_lt fit_lt ha hb (nomark _)
theorem tb_le (ha : PE X a (eT Γ E fa)) (hb : PE X b (eT Γ E fb)) : PT X (.Compare a [.LtE] [b] pos) (bT Γ E (asTest (bin D.le fa fb))) := tb_cmpR op_le fit_le ha hb (nomark _)
theorem tb_gt (ha : PE X a (eT Γ E fa)) (hb : PE X b (eT Γ E fb)) : PT X (.Compare a [.Gt] [b] pos) (bT Γ E (asTest (bin D.gt fa fb))) := tb_cmpR op_gt fit_gt ha hb (nomark _)
theorem tb_ge (ha : PE X a (eT Γ E fa)) (hb : PE X b (eT Γ E fb)) : PT X (.Compare a [.GtE] [b] pos) (bT Γ E (asTest (bin D.ge fa fb))) := tb_cmpR op_ge fit_ge ha hb (nomark _)
theorem tb_eq (hr : Room k X.A) (ha : PE X a (eT Γ E fa)) (hb : PE X b (eT Γ E fb)) (hK : X.K = Γ.K := by rfl) : PT X (.Compare a [.Eq] [b] pos) (bT Γ E (asTest (bin D.eq fa fb))) := tb_cmpR (op_eqD hr.units) (hK ▸ fit_eq) ha hb (nomark _)
theorem tb_ne (hr : Room k X.A) (ha : PE X a (eT Γ E fa)) (hb : PE X b (eT Γ E fb)) (hK : X.K = Γ.K := by rfl) : PT X (.Compare a [.NotEq] [b] pos) (bT Γ E (asTest (bin D.ne fa fb))) := tb_cmpR (op_neD hr.units) (hK ▸ fit_ne) ha hb (nomark _)
end
end Fw
end
set_option Elab.async false
set_option linter.all false
set_option autoImplicit false
set_option maxRecDepth 100000
set_option maxHeartbeats 4000000
/-! Fw3: tests, displays, subscripts, calls. -/
noncomputable section
namespace Fw
open PySem PySem.Spec PyProof.Rows L2

section
variable {X : Cx} {Γ : Gm} {E : XK} {x : Str} {a b c o : Expr} {es rest : List Expr} {pos p p2 : Pos} {fa fb fc : Env → Res D} {ta tb : Env → Res Bool} {fs : Env → Res (List D)} {k : Nat}

/-! ### tests -/
def andB (f g : Env → Res Bool) : Env → Res Bool := fun ρ => (f ρ).bind fun k => if k then g ρ else .ok false
def orB (f g : Env → Res Bool) : Env → Res Bool := fun ρ => (f ρ).bind fun k => if k then .ok true else g ρ
def notB (f : Env → Res Bool) : Env → Res Bool := fun ρ => (f ρ).bind fun k => .ok !k
def testD (f : Env → Res Bool) : Env → Res D := fun ρ => (f ρ).bind fun k => .ok (.bl k)
def truthOf (f : Env → Res D) : Env → Res Bool := fun ρ => (f ρ).bind D.truth
theorem bok {av : Addr → Prop} {H : Hp} {k : Bool} {Q : Bool → Hp → Prop} (h : ROk Γ av H (fun _ (d v : Bool) => d = v) (.ok k) Q E) : Q k H := h k H (Ext.refl Γ H) rfl
theorem tb_not (h : PT X a (bT Γ E ta)) : PT X (.UnaryOp .Not a pos) (bT Γ E (notB ta)) :=
  PT.imp (pt_not h) fun σ H Q ⟨av, ρ, env, h⟩ => bT_bind env h fun d H1 x1 env1 h1 => bok h1
theorem wb_and1 (h : PT X a (bT Γ E ta)) : PW X (.BoolOp .And [a] pos) (bT Γ E ta) := pw_and1 h
theorem wb_or1 (h : PT X a (bT Γ E ta)) : PW X (.BoolOp .Or [a] pos) (bT Γ E ta) := pw_or1 h
theorem wb_and (h : PT X a (bT Γ E ta)) (h' : PW X (.BoolOp .And (b :: rest) pos) (bT Γ E tb)) : PW X (.BoolOp .And (a :: b :: rest) pos) (bT Γ E (andB ta tb)) :=
  PW.imp (pw_and h h') fun σ H Q ⟨av, ρ, env, h⟩ => bT_bind env h fun d H1 x1 env1 h1 => by
    cases d with
    | true => exact iteT ⟨av, ρ, env1, h1⟩
    | false => exact iteF (bok h1)
theorem wb_or (h : PT X a (bT Γ E ta)) (h' : PW X (.BoolOp .Or (b :: rest) pos) (bT Γ E tb)) : PW X (.BoolOp .Or (a :: b :: rest) pos) (bT Γ E (orB ta tb)) :=
  PW.imp (pw_or h h') fun σ H Q ⟨av, ρ, env, h⟩ => bT_bind env h fun d H1 x1 env1 h1 => by
    cases d with
    | true => exact iteT (bok h1)
    | false => exact iteF ⟨av, ρ, env1, h1⟩
theorem tb_w (h : PW X a (bT Γ E ta)) : PT X a (bT Γ E ta) := h.pt
/-- any expression, by its truth -/
theorem truth_fit {av : Addr → Prop} {H : Hp} {d : D} {v : V} {Q : Bool → Hp → Prop} (r : Rp Γ.kr av H d v) (h : ROk Γ av H (fun _ d v => d = v) d.truth Q E) : ∃ c, TruV Γ.K v H c ∧ Q c H := by
  cases r with
  | non => exact ⟨false, rfl, bok h⟩
  | bl c => exact ⟨c, rfl, bok h⟩
  | int i => exact ⟨_, rfl, bok h⟩
  | str x =>
    obtain ⟨hz, h⟩ := ROk.ifp h
    exact ⟨_, ⟨by rw [lim_eq]; exact hz, rfl⟩, bok h⟩
  | @tup a vs ds h1 h2 =>
    refine ⟨!vs.isEmpty, .inr (.inl ⟨_, SqT.of h1, rfl⟩), ?_⟩
    have e : ds.isEmpty = vs.isEmpty := by cases h2 <;> rfl
    rw [← e]
    exact bok h
  | @ftp a o vs ds h1 n h2 =>
    refine ⟨!vs.isEmpty, .inr (.inl ⟨_, .inl (.inr ⟨o, h1⟩), rfl⟩), ?_⟩
    have e : ds.isEmpty = vs.isEmpty := by cases h2 <;> rfl
    rw [← e]
    exact bok h
  | @lst a vs ds h1 n h2 =>
    refine ⟨!vs.isEmpty, .inl ⟨_, SqL.of h1, rfl⟩, ?_⟩
    have e : ds.isEmpty = vs.isEmpty := by cases h2 <;> rfl
    rw [← e]
    exact bok h
  | _ => exact (show False from h).elim
theorem tb_truth (h : PE X a (eT Γ E fa)) (he : ∀ whole, isTrue a X.env whole = (do let v ← whole; standAt a.pos; holding [v] (truthy v)) := by intro _; rfl) (hK : X.K = Γ.K := by rfl) : PT X a (bT Γ E (truthOf fa)) :=
  PT.imp (pt_truth h he) fun σ H Q ⟨av, ρ, env, h⟩ => eT_bind env h fun d v H1 x1 env1 r1 h1 => hK ▸ truth_fit r1 h1
/-! as values: all but the last True or False -/
def andD (f g : Env → Res D) : Env → Res D := fun ρ => (f ρ).bind fun d => d.asB.bind fun k => if k then g ρ else .ok (.bl false)
def orD (f g : Env → Res D) : Env → Res D := fun ρ => (f ρ).bind fun d => d.asB.bind fun k => if k then .ok (.bl true) else g ρ
def notD (f : Env → Res D) : Env → Res D := fun ρ => (f ρ).bind fun d => d.asB.bind fun k => .ok (.bl !k)
theorem asB_bind {β δ : Type} {av : Addr → Prop} {H : Hp} {d : D} {v : V} {k : Bool → Res β} {rel : Hp → β → δ → Prop} {Q : δ → Hp → Prop} (r : Rp Γ.kr av H d v) (h : ROk Γ av H rel (d.asB.bind k) Q E) : ∃ c, v = .bl c ∧ ROk Γ av H rel (k c) Q E := by
  cases r with
  | bl c => exact ⟨c, rfl, h⟩
  | _ => exact (show False from h).elim
theorem te_one {op : BoolOp} (h : PE X a (eT Γ E fa)) : PE X (.BoolOp op [a] pos) (eT Γ E fa) := pe_one h
theorem te_and (h : PE X a (eT Γ E fa)) (h' : PE X (.BoolOp .And (b :: rest) pos) (eT Γ E fb)) : PE X (.BoolOp .And (a :: b :: rest) pos) (eT Γ E (andD fa fb)) :=
  PE.imp (pe_and h h') fun σ H Q ⟨av, ρ, env, h⟩ => eT_bind env h fun d v H1 x1 env1 r1 h1 => by
    obtain ⟨c, e, h2⟩ := asB_bind r1 h1
    refine ⟨c, e, ?_⟩
    cases c with
    | true => exact iteT ⟨av, ρ, env1, h2⟩
    | false => exact iteF (ROk.here h2 (.bl _))
theorem te_or (h : PE X a (eT Γ E fa)) (h' : PE X (.BoolOp .Or (b :: rest) pos) (eT Γ E fb)) : PE X (.BoolOp .Or (a :: b :: rest) pos) (eT Γ E (orD fa fb)) :=
  PE.imp (pe_or h h') fun σ H Q ⟨av, ρ, env, h⟩ => eT_bind env h fun d v H1 x1 env1 r1 h1 => by
    obtain ⟨c, e, h2⟩ := asB_bind r1 h1
    refine ⟨c, e, ?_⟩
    cases c with
    | true => exact iteT (ROk.here h2 (.bl _))
    | false => exact iteF ⟨av, ρ, env1, h2⟩
theorem te_not (h : PE X a (eT Γ E fa)) : PE X (.UnaryOp .Not a pos) (eT Γ E (notD fa)) :=
  PE.imp (pe_not h) fun σ H Q ⟨av, ρ, env, h⟩ => eT_bind env h fun d v H1 x1 env1 r1 h1 => by
    obtain ⟨c, e, h2⟩ := asB_bind r1 h1
    exact ⟨c, e, ROk.here h2 (.bl _)⟩
def ifD (t : Env → Res Bool) (f g : Env → Res D) : Env → Res D := fun ρ => (t ρ).bind fun k => if k then f ρ else g ρ
theorem te_if (ht : PT X c (bT Γ E ta)) (ha : PE X a (eT Γ E fa)) (hb : PE X b (eT Γ E fb)) : PE X (.IfExp c a b pos) (eT Γ E (ifD ta fa fb)) :=
  PE.imp (pe_ifExp ht ha hb) fun σ H Q ⟨av, ρ, env, h⟩ => bT_bind env h fun d H1 x1 env1 h1 => by
    cases d with
    | true => exact iteT ⟨av, ρ, env1, h1⟩
    | false => exact iteF ⟨av, ρ, env1, h1⟩
/-! a < b < c -/
def chain (g g' : D → D → Res D) (fa fb fc : Env → Res D) : Env → Res D := fun ρ => (fa ρ).bind fun x => (fb ρ).bind fun y => (g x y).bind fun z => z.asB.bind fun k => if k then (fc ρ).bind fun w => g' y w else .ok (.bl false)
theorem chain_fit {r r' : R2} {g g' : D → D → Res D} (hf : Fit2 Γ E r g) (hf' : Fit2 Γ E r' g') (σ : St) (H : Hp) (Q : VK) (h : eT Γ E (chain g g' fa fb fc) σ H Q) : tChain r r' (eT Γ E fa) (eT Γ E fb) (eT Γ E fc) σ H Q := by
  obtain ⟨av, ρ, env, h⟩ := h
  refine eT_bind env h fun d v H1 x1 env1 r1 h1 => eT_bind env1 h1 fun e u H2 x2 env2 r2 h2 => ?_
  refine hf av H2 d e v u _ env2.wf (r1.ext x2) r2 (h2.bind fun z w H3 x3 r3 h3 => ?_)
  obtain ⟨c, ec, h3⟩ := asB_bind r3 h3
  refine ⟨c, ec, ?_⟩
  cases c with
  | true => exact iteT (eT_bind (env2.ext x3) h3 fun z w H4 x4 env4 r4 h4 => hf' av H4 e z u w Q env4.wf ((r2.ext x3).ext x4) r4 h4)
  | false => exact iteF (ROk.here h3 (.bl _))
theorem te_chain {op op' : CmpOp} {r r' : R2} {g g' : D → D → Res D} (ho : OpR X (compareOp op) r) (ho' : OpR X (compareOp op') r') (hf : Fit2 Γ E r g) (hf' : Fit2 Γ E r' g') (ha : PE X a (eT Γ E fa)) (hb : PE X b (eT Γ E fb)) (hc : PE X c (eT Γ E fc))
    (hm : lastMarks [op, op'] [b, c] = false := by rfl) : PE X (.Compare a [op, op'] [b, c] pos) (eT Γ E (chain g g' fa fb fc)) :=
  PE.imp (pe_chain ho ho' ha hb hc hm) (chain_fit hf hf')
theorem asTest_val (σ : St) (H : Hp) (Q : Bool → Hp → Prop) (h : bT Γ E (asTest fa) σ H Q) : eT Γ E fa σ H fun x H' => ∃ k, x = .bl k ∧ Q k H' := by
  obtain ⟨av, ρ, env, h⟩ := h
  exact eT_bind env h fun d v H1 x1 env1 r1 h1 => asB_fit r1 h1
theorem tb_chain {op op' : CmpOp} {r r' : R2} {g g' : D → D → Res D} (ho : OpR X (compareOp op) r) (ho' : OpR X (compareOp op') r') (hf : Fit2 Γ E r g) (hf' : Fit2 Γ E r' g') (ha : PE X a (eT Γ E fa)) (hb : PE X b (eT Γ E fb)) (hc : PE X c (eT Γ E fc))
    (hm : lastMarks [op, op'] [b, c] = false := by rfl) : PT X (.Compare a [op, op'] [b, c] pos) (bT Γ E (asTest (chain g g' fa fb fc))) :=
  PT.imp (pt_chain ho ho' ha hb hc hm) fun σ H Q h => chain_fit hf hf' σ H _ (asTest_val σ H Q h)
/-! x is y -/
theorem fit_isN : Fit2 Γ E (fun x y H Q => y = .non ∧ Q (.bl (decide (x = .non))) H) fun a b => match b with | .non => (match a with | .op _ => .no | _ => .ok (.bl a.isNon)) | _ => .no := by
  intro av H da db va vb Q wf ra rb h
  cases rb <;> first | exact (show False from h).elim | skip
  refine ⟨rfl, ?_⟩
  cases ra <;> first | exact (show False from h).elim | exact ROk.here h (.bl _)
theorem fit_notN : Fit2 Γ E (fun x y H Q => y = .non ∧ Q (.bl (!decide (x = .non))) H) fun a b => match b with | .non => (match a with | .op _ => .no | _ => .ok (.bl !a.isNon)) | _ => .no := by
  intro av H da db va vb Q wf ra rb h
  cases rb <;> first | exact (show False from h).elim | skip
  refine ⟨rfl, ?_⟩
  cases ra <;> first | exact (show False from h).elim | exact ROk.here h (.bl _)
def isN (fa : Env → Res D) : Env → Res D := fun ρ => (fa ρ).bind fun a => match a with | .op _ => .no | _ => .ok (.bl a.isNon)
def notN (fa : Env → Res D) : Env → Res D := fun ρ => (fa ρ).bind fun a => match a with | .op _ => .no | _ => .ok (.bl !a.isNon)
theorem te_isN {j : Nat} (ha : PE X a (eT Γ E fa)) : PE X (.Compare a [.Is] [.Constant .none j p2] pos) (eT Γ E (isN fa)) := by
  refine PE.imp (te_cmpR op_isN fit_isN ha te_non (nomark _)) fun σ H Q h => ?_
  exact h
theorem te_notN {j : Nat} (ha : PE X a (eT Γ E fa)) : PE X (.Compare a [.IsNot] [.Constant .none j p2] pos) (eT Γ E (notN fa)) := by
  refine PE.imp (te_cmpR op_notN fit_notN ha te_non (nomark _)) fun σ H Q h => ?_
  exact h
theorem tb_isN {j : Nat} (ha : PE X a (eT Γ E fa)) : PT X (.Compare a [.Is] [.Constant .none j p2] pos) (bT Γ E (asTest (isN fa))) := by
  refine PT.imp (tb_cmpR op_isN fit_isN ha te_non (nomark _)) fun σ H Q h => ?_
  exact h
theorem tb_notN {j : Nat} (ha : PE X a (eT Γ E fa)) : PT X (.Compare a [.IsNot] [.Constant .none j p2] pos) (bT Γ E (asTest (notN fa))) := by
  refine PT.imp (tb_cmpR op_notN fit_notN ha te_non (nomark _)) fun σ H Q h => ?_
  exact h

/-! ### argument lists, displays -/
def consA (f : Env → Res D) (g : Env → Res (List D)) : Env → Res (List D) := fun ρ => (f ρ).bind fun d => (g ρ).bind fun ds => .ok (d :: ds)
def nilA : Env → Res (List D) := fun _ => .ok []
theorem ta_nil : PA X [] (aT Γ E nilA) := PA.imp pa_nil fun σ H Q ⟨av, ρ, env, h⟩ => h _ _ (Ext.refl Γ H) .nil
theorem ta_cons (ha : PE X a (eT Γ E fa)) (hr : PA X es (aT Γ E fs)) (hs : starEach (a :: es) X.env = (false, eval a X.env) :: starEach es X.env := by rfl) : PA X (a :: es) (aT Γ E (consA fa fs)) :=
  PA.imp (pa_cons ha hr hs) fun σ H Q ⟨av, ρ, env, h⟩ => eT_bind env h fun d v H1 x1 env1 r1 h1 => aT_bind env1 h1 fun ds vs H2 x2 env2 r2 h2 => h2 _ _ (Ext.refl Γ H2) (.cons (r1.ext x2) r2)
def lenOk (n : Nat) (r : Res D) : Res D := if n ≤ lim then r else .no
def tupF (g : Env → Res (List D)) : Env → Res D := fun ρ => (g ρ).bind fun ds => if ds.length ≤ lim then .ok (.tup ds) else .no
def lstF (g : Env → Res (List D)) : Env → Res D := fun ρ => (g ρ).bind fun ds => if ds.length ≤ lim then .ok (.lst ds) else .no
theorem te_tup {x1 : Nat} (h : PA X es (aT Γ E fs)) : PE X (.Tuple es x1 pos) (eT Γ E (tupF fs)) :=
  PE.imp (pe_tup h) fun σ H Q ⟨av, ρ, env, h⟩ => aT_bind env h fun ds vs H1 x1 env1 r1 h1 => by
    obtain ⟨hz, h1⟩ := ROk.ifp h1
    exact ⟨by rw [lim_eq, ← r1.length]; exact hz, fun p hp => h1.new hp (.tup upd_same (r1.ext (Ext.new _ hp)))⟩
theorem te_lst (h : PA X es (aT Γ E fs)) : PE X (.List es pos) (eT Γ E (lstF fs)) :=
  PE.imp (pe_lst h) fun σ H Q ⟨av, ρ, env, h⟩ => aT_bind env h fun ds vs H1 x1 env1 r1 h1 => by
    obtain ⟨hz, h1⟩ := ROk.ifp h1
    exact ⟨by rw [lim_eq, ← r1.length]; exact hz, fun p hp => h1.new hp (.lst upd_same (env1.wf.new hp) (r1.ext (Ext.new _ hp)))⟩

/-! ### subscripts -/
theorem ixG_ok {α : Type} {l : List α} {i : Int} {d : α} (h : ixG l i = .ok d) : atI l i = some d := by
  unfold ixG at h
  cases e : atI l i with
  | none => rw [e] at h; cases h
  | some z => rw [e] at h; cases h; rfl
theorem ixG_cases {α : Type} (l : List α) (i : Int) : (∃ d, ixG l i = .ok d ∧ atI l i = some d) ∨ ixG l i = .no := by
  unfold ixG
  cases e : atI l i with
  | none => exact .inr rfl
  | some z => exact .inl ⟨z, rfl, rfl⟩
theorem RpL.atI {K : Kr} {av : Addr → Prop} {H : Hp} {ds : List D} {vs : List V} {i : Int} {d : D} (r : RpL K av H ds vs) (h : L2.atI ds i = some d) : ∃ v, L2.atI vs i = some v ∧ Rp K av H d v := by
  unfold L2.atI at h ⊢
  rw [r.length] at h
  cases e : ixN vs.length i with
  | none => rw [e] at h; cases h
  | some j =>
    rw [e] at h
    exact r.get (i := j) h
theorem atI_map {α β : Type} (f : α → β) (l : List α) (i : Int) : L2.atI (l.map f) i = (L2.atI l i).map f := by
  unfold L2.atI
  rw [List.length_map]
  cases ixN l.length i with
  | none => rfl
  | some j =>
    show (l.map f)[j]? = (l[j]?).map f
    rw [List.getElem?_map]
def rIxA (K : PySem.W.Frag) : R2 := fun x y H Q => (rIxL K x y H Q ∨ rIxT K x y H Q) ∨ rIxS x y H Q
theorem IxR.or {r r' : R2} (h : IxR X r) (h' : IxR X r') : IxR X (fun x y H Q => r x y H Q ∨ r' x y H Q) := by
  intro value slice pins s σ H x y v u Q I rx ry q hs
  rcases q with q | q
  · exact h value slice pins s σ H x y v u Q I rx ry q hs
  · exact h' value slice pins s σ H x y v u Q I rx ry q hs
theorem ix_any : IxR X (rIxA X.K) := IxR.or (IxR.or ix_list ix_tup) ix_str
theorem fit_ix : Fit2 Γ E (rIxA Γ.K) D.ix := by
  intro av H da db va vb Q wf ra rb h
  cases rb <;> first | (cases da <;> exact (show False from h).elim) | skip
  rename_i i
  cases ra with
  | @tup a vs ds h1 h2 =>
    rcases ixG_cases ds i with ⟨d, e, e'⟩ | e
    · obtain ⟨v, ev, rv⟩ := h2.atI e'
      have h : ROk Γ av H (fun H' d v => Rp Γ.kr av H' d v) (ixG ds i) Q E := h
      rw [e] at h
      exact .inl (.inr ⟨a, vs, i, v, rfl, rfl, SqT.of h1, ev, h.here rv⟩)
    · have h : ROk Γ av H (fun H' d v => Rp Γ.kr av H' d v) (ixG ds i) Q E := h
      rw [e] at h
      exact h.elim
  | @ftp a o vs ds h1 n h2 =>
    rcases ixG_cases ds i with ⟨d, e, e'⟩ | e
    · obtain ⟨v, ev, rv⟩ := h2.atI e'
      have h : ROk Γ av H (fun H' d v => Rp Γ.kr av H' d v) (ixG ds i) Q E := h
      rw [e] at h
      exact .inl (.inr ⟨a, vs, i, v, rfl, rfl, (.inl (.inr ⟨o, h1⟩)), ev, h.here rv⟩)
    · have h : ROk Γ av H (fun H' d v => Rp Γ.kr av H' d v) (ixG ds i) Q E := h
      rw [e] at h
      exact h.elim
  | @lst a vs ds h1 n h2 =>
    rcases ixG_cases ds i with ⟨d, e, e'⟩ | e
    · obtain ⟨v, ev, rv⟩ := h2.atI e'
      have h : ROk Γ av H (fun H' d v => Rp Γ.kr av H' d v) (ixG ds i) Q E := h
      rw [e] at h
      exact .inl (.inl ⟨a, vs, i, v, rfl, rfl, SqL.of h1, ev, h.here rv⟩)
    · have h : ROk Γ av H (fun H' d v => Rp Γ.kr av H' d v) (ixG ds i) Q E := h
      rw [e] at h
      exact h.elim
  | arr a ns h1 =>
    rcases ixG_cases ns i with ⟨d, e, e'⟩ | e
    · have h : ROk Γ av H (fun H' d v => Rp Γ.kr av H' d v) ((ixG ns i).bind fun n => .ok (.int n)) Q E := h
      rw [e] at h
      exact .inl (.inl ⟨a, _, i, .int d, rfl, rfl, h1.sq, by rw [atI_map, e']; rfl, h.here (.int _)⟩)
    · have h : ROk Γ av H (fun H' d v => Rp Γ.kr av H' d v) ((ixG ns i).bind fun n => .ok (.int n)) Q E := h
      rw [e] at h
      exact h.elim
  | str z =>
    obtain ⟨hz, h⟩ := ROk.ifp h
    rcases ixG_cases z.cps.toList i with ⟨d, e, e'⟩ | e
    · rw [e] at h
      exact .inr ⟨z, i, d, rfl, rfl, by rw [lim_eq]; exact hz, e', h.here (.str _)⟩
    · rw [e] at h
      exact h.elim
  | _ => exact (show False from h).elim
theorem te_ix (ha : PE X a (eT Γ E fa)) (hb : PE X b (eT Γ E fb)) (hs : PlainIx b := by exact fun _ _ => rfl) (hK : X.K = Γ.K := by rfl) : PE X (.Subscript a b pos) (eT Γ E (bin D.ix fa fb)) :=
  PE.imp (pe_ix ix_any ha hb hs) fun σ H Q h => tOp_fit (hK ▸ fit_ix) σ H Q h
/-! slices -/
def oT (Γ : Gm) (E : XK) (f : Env → Res (Option Int)) : TO := fun σ H Q => ∃ av ρ, EnvV Γ av H σ ρ ∧ ROk Γ av H (fun _ d v => d = v) (f ρ) Q E
def noPart : Env → Res (Option Int) := fun _ => .ok none
def part (f : Env → Res D) : Env → Res (Option Int) := fun ρ => (f ρ).bind fun d => d.asI.bind fun i => .ok (some i)
theorem to_none : PO X none (oT Γ E noPart) := ⟨fun pins s σ H Q I ⟨av, ρ, env, h⟩ => po_none.run pins s σ H Q I (h none H (Ext.refl Γ H) rfl)⟩
theorem asI_bind {β δ : Type} {av : Addr → Prop} {H : Hp} {d : D} {v : V} {k : Int → Res β} {rel : Hp → β → δ → Prop} {Q : δ → Hp → Prop} (r : Rp Γ.kr av H d v) (h : ROk Γ av H rel (d.asI.bind k) Q E) : ∃ c, v = .int c ∧ ROk Γ av H rel (k c) Q E := by
  cases r with
  | int c => exact ⟨c, rfl, h⟩
  | _ => exact (show False from h).elim
theorem to_some (h : PE X a (eT Γ E fa)) : PO X (some a) (oT Γ E (part fa)) := ⟨fun pins s σ H Q I ⟨av, ρ, env, hq⟩ => (po_some h).run pins s σ H Q I (eT_bind env hq fun d v H1 x1 env1 r1 h1 => by
  obtain ⟨c, e, h2⟩ := asI_bind r1 h1
  exact ⟨c, e, h2 _ _ (Ext.refl Γ H1) rfl⟩)⟩
theorem oT_bind {β : Type} {δ : Type} {av : Addr → Prop} {ρ : Env} {H : Hp} {σ : St} {rel : Hp → β → δ → Prop} {f : Env → Res (Option Int)} {kk : Option Int → Res β} {Q : δ → Hp → Prop} {R : Option Int → Hp → Prop} (env : EnvV Γ av H σ ρ) (h : ROk Γ av H rel ((f ρ).bind kk) Q E)
    (hk : ∀ d H1, Ext Γ H H1 → EnvV Γ av H1 σ ρ → ROk Γ av H1 rel (kk d) Q E → R d H1) : oT Γ E f σ H R := ⟨av, ρ, env, h.bind fun d v H1 x r q => by
  subst r
  exact hk d H1 x (env.ext x) q⟩
def slF (fa : Env → Res D) (l h : Env → Res (Option Int)) : Env → Res D := fun ρ => (fa ρ).bind fun d => (l ρ).bind fun i => (h ρ).bind fun j => d.slice i j
theorem RpL.cut {K : Kr} {av : Addr → Prop} {H : Hp} {ds : List D} {vs : List V} (r : RpL K av H ds vs) (lo hi : Option Int) : RpL K av H (cutG ds lo hi) (cutV vs lo hi) := by
  unfold cutG cutV
  rw [r.length]
  exact (r.drop _).take _
theorem cut_whole {xs : List V} {lo hi : Option Int} (h : HT.sIx xs.length 0 lo = 0 ∧ HT.sIx xs.length xs.length hi = xs.length) : cutV xs lo hi = xs := by
  unfold cutV
  rw [h.1, h.2]
  simp
theorem te_slice {lo hi : Option Expr} {fl fh : Env → Res (Option Int)} (ha : PE X a (eT Γ E fa)) (hl : PO X lo (oT Γ E fl)) (hh : PO X hi (oT Γ E fh)) (hK : X.K = Γ.K := by rfl) : PE X (.Subscript a (.Slice lo hi none p2) pos) (eT Γ E (slF fa fl fh)) := by
  refine PE.imp (pe_slice ((sl_tupA.or sl_list).or sl_str) ha hl hh) fun σ H Q ⟨av, ρ, env, h⟩ => ?_
  rw [hK]
  refine eT_bind env h fun d v H1 x1 env1 r1 h1 => oT_bind env1 h1 fun i H2 x2 env2 h2 => oT_bind env2 h2 fun j H3 x3 env3 h3 => ?_
  have r3 := (r1.ext x2).ext x3
  cases r3 with
  | @tup a vs ds g1 g2 =>
    refine .inl (.inl ⟨a, vs, rfl, SqT.of g1, fun e => h3.here (.tup g1 ?_), fun _ p hp => h3.new hp (.tup upd_same ((g2.cut i j).ext (Ext.new _ hp)))⟩)
    have q := g2.cut i j
    rw [cut_whole e] at q
    exact q
  | @ftp a o vs ds g1 n g2 =>
    replace h3 : ROk Γ av H3 (fun H' d v => Rp Γ.kr av H' d v) (if HT.sIx ds.length 0 i = 0 ∧ HT.sIx ds.length ds.length j = ds.length then .ok (.ftp ds) else .ok (.tup (cutG ds i j))) Q E := h3
    refine .inl (.inl ⟨a, vs, rfl, .inl (.inr ⟨o, g1⟩), fun e => ?_, fun e p hp => ?_⟩)
    · rw [if_pos (by rw [g2.length]; exact e)] at h3
      exact h3.here (.ftp g1 n g2)
    · by_cases z : HT.sIx ds.length 0 i = 0 ∧ HT.sIx ds.length ds.length j = ds.length
      · exact absurd (by rw [g2.length] at z; exact z) e
      · rw [if_neg z] at h3
        exact h3.new hp (.tup upd_same ((g2.cut i j).ext (Ext.new _ hp)))
  | @lst a vs ds g1 n g2 =>
    exact .inl (.inr ⟨a, vs, rfl, SqL.of g1, fun p hp => h3.new hp (.lst upd_same (env3.wf.new hp) ((g2.cut i j).ext (Ext.new _ hp)))⟩)
  | str z =>
    obtain ⟨hz, h3⟩ := ROk.ifp h3
    exact .inr ⟨z, rfl, by rw [lim_eq]; exact hz, h3.here (.str _)⟩
  | _ => exact (show False from h3).elim

/-! ### calls of built-ins -/
def FitC (Γ : Gm) (E : XK) (r : List V → Hp → VK → Prop) (g : List D → Res D) : Prop := ∀ (av : Addr → Prop) (H : Hp) (ds : List D) (vs : List V) (Q : VK), Wf Γ av H → RpL Γ.kr av H ds vs →
  ROk Γ av H (fun H' d v => Rp Γ.kr av H' d v) (g ds) Q E → r vs H Q
def app (g : List D → Res D) (fs : Env → Res (List D)) : Env → Res D := fun ρ => (fs ρ).bind g
theorem tCB_fit {r : List V → Hp → VK → Prop} {g : List D → Res D} (hf : FitC Γ E r g) (σ : St) (H : Hp) (Q : VK) (h : eT Γ E (app g fs) σ H Q) : tCB r (aT Γ E fs) σ H Q := by
  obtain ⟨av, ρ, env, h⟩ := h
  exact aT_bind env h fun ds vs H1 x1 env1 r1 h1 => hf av H1 ds vs Q env1.wf r1 h1
theorem te_callB {id : String} {r : List V → Hp → VK → Prop} {g : List D → Res D} (hc : CallR X (.builtin id) r) (hf : FitC Γ E r g) (hv : bootBuiltins x = some (.builtin id)) (hm : X.mg x = none) (ha : PA X (a :: es) (aT Γ E fs)) (hg : Gl X x := by rfl)
    (hn : x ≠ "__name__" := by decide) (hdb : (x == ("__debug__" : Str)) = false := by decide) (he : starEach (a :: es) X.env = (false, eval a X.env) :: starEach es X.env := by rfl) (hpl : (backTo pos (starEach es X.env)).any (·.1) = false := by rfl) :
    PE X (.Call (.Name x p) (a :: es) [] pos) (eT Γ E (app g fs)) := PE.imp (pe_callB hc hg hm hv ha hn hdb he hpl) fun σ H Q h => tCB_fit hf σ H Q h
theorem te_callTy {T : String} {r : List V → Hp → VK → Prop} {g : List D → Res D} (hc : CallR X (.type T) r) (hf : FitC Γ E r g) (hv : bootBuiltins x = some (.type T)) (hm : X.mg x = none) (ha : PA X (a :: es) (aT Γ E fs)) (hg : Gl X x := by rfl)
    (hn : x ≠ "__name__" := by decide) (hdb : (x == ("__debug__" : Str)) = false := by decide) (he : starEach (a :: es) X.env = (false, eval a X.env) :: starEach es X.env := by rfl) (hpl : (backTo pos (starEach es X.env)).any (·.1) = false := by rfl) :
    PE X (.Call (.Name x p) (a :: es) [] pos) (eT Γ E (app g fs)) := PE.imp (pe_callTy hc hg hm hv ha hn hdb he hpl) fun σ H Q h => tCB_fit hf σ H Q h
def on1 (g : D → Res D) : List D → Res D
  | [a] => g a
  | _ => .no
def on2 (g : D → D → Res D) : List D → Res D
  | [a, b] => g a b
  | _ => .no
theorem fitC1 {r : V → Hp → VK → Prop} {g : D → Res D} (h : ∀ (av : Addr → Prop) (H : Hp) (d : D) (v : V) (Q : VK), Wf Γ av H → Rp Γ.kr av H d v → ROk Γ av H (fun H' d v => Rp Γ.kr av H' d v) (g d) Q E → r v H Q) : FitC Γ E (fun vs H Q => ∃ v, vs = [v] ∧ r v H Q) (on1 g) := by
  intro av H ds vs Q wf rr q
  cases rr with
  | nil => exact (show False from q).elim
  | cons h1 h2 =>
    cases h2 with
    | nil => exact ⟨_, rfl, h av H _ _ Q wf h1 q⟩
    | cons _ _ => exact (show False from q).elim
theorem FitC.imp {r r' : List V → Hp → VK → Prop} {g : List D → Res D} (h : FitC Γ E r g) (i : ∀ vs H Q, r vs H Q → r' vs H Q) : FitC Γ E r' g := fun av H ds vs Q wf rr q => i vs H Q (h av H ds vs Q wf rr q)
def lenN : D → Res D := fun d => match d with | .dct _ _ => .no | d => d.len
/-- len -/
theorem fit_len : FitC Γ E (fun xs H Q => ∃ x n, xs = [x] ∧ LenV Γ.K x H n ∧ Q (.int n) H) (on1 lenN) := by
  refine (fitC1 (r := fun v H Q => ∃ n, LenV Γ.K v H n ∧ Q (.int n) H) fun av H d v Q wf r h => ?_).imp fun vs H Q ⟨v, e, n, h1, h2⟩ => ⟨v, n, e, h1, h2⟩
  cases r with
  | @tup a vs ds g1 g2 => exact ⟨vs.length, .inr ⟨_, SqT.of g1, rfl⟩, g2.length ▸ h.here (.int _)⟩
  | @ftp a o vs ds g1 n g2 => exact ⟨vs.length, .inr ⟨_, .inl (.inr ⟨o, g1⟩), rfl⟩, g2.length ▸ h.here (.int _)⟩
  | @lst a vs ds g1 n g2 => exact ⟨vs.length, .inl ⟨_, SqL.of g1, rfl⟩, g2.length ▸ h.here (.int _)⟩
  | arr a ns g1 => exact ⟨ns.length, .inl ⟨_, g1.sq, by simp⟩, h.here (.int _)⟩
  | str z =>
    obtain ⟨hz, h⟩ := ROk.ifp h
    exact ⟨_, ⟨by rw [lim_eq]; exact hz, rfl⟩, h.here (.int _)⟩
  | _ => exact (show False from h).elim
theorem te_len (hm : X.mg "len" = none) (ha : PE X a (eT Γ E fa)) (hg : Gl X "len" := by rfl) (he : starEach [a] X.env = (false, eval a X.env) :: starEach [] X.env := by rfl) (hK : X.K = Γ.K := by rfl) :
    PE X (.Call (.Name "len" p) [a] [] pos) (eT Γ E (app (on1 lenN) (consA fa nilA))) := te_callB call_len (hK ▸ fit_len) boot_len hm (ta_cons ha ta_nil he) hg (he := he)
theorem fit_tuple : FitC Γ E (fun xs H Q => ∃ p ys, xs = [.ref p] ∧ ((SqL Γ.K H p ys ∧ ∀ l, H l = none → Q (.ref l) (upd H l (.tup ys))) ∨ (SqT Γ.K H p ys ∧ Q (.ref p) H))) (on1 D.toTup) := by
  refine (fitC1 (r := fun v H Q => ∃ p ys, v = .ref p ∧ ((SqL Γ.K H p ys ∧ ∀ l, H l = none → Q (.ref l) (upd H l (.tup ys))) ∨ (SqT Γ.K H p ys ∧ Q (.ref p) H))) fun av H d v Q wf r h => ?_).imp fun vs H Q ⟨v, e, p, ys, e', h⟩ => ⟨p, ys, by rw [e, e'], h⟩
  cases r with
  | @tup a vs ds g1 g2 => exact ⟨_, _, rfl, .inr ⟨SqT.of g1, h.here (.tup g1 g2)⟩⟩
  | @lst a vs ds g1 n g2 => exact ⟨_, _, rfl, .inl ⟨SqL.of g1, fun p hp => h.new hp (.tup upd_same (g2.ext (Ext.new _ hp)))⟩⟩
  | _ => exact (show False from h).elim
theorem te_tuple (hm : X.mg "tuple" = none) (ha : PE X a (eT Γ E fa)) (hg : Gl X "tuple" := by rfl) (he : starEach [a] X.env = (false, eval a X.env) :: starEach [] X.env := by rfl) (hK : X.K = Γ.K := by rfl) :
    PE X (.Call (.Name "tuple" p) [a] [] pos) (eT Γ E (app (on1 D.toTup) (consA fa nilA))) := te_callTy call_tuple_of (hK ▸ fit_tuple) boot_tuple hm (ta_cons ha ta_nil he) hg (he := he)
theorem fit_list : FitC Γ E (fun xs H Q => ∃ p ys, xs = [.ref p] ∧ (SqL Γ.K H p ys ∨ SqT Γ.K H p ys) ∧ ∀ l, H l = none → Q (.ref l) (upd H l (.lst ys))) (on1 D.toLst) := by
  refine (fitC1 (r := fun v H Q => ∃ p ys, v = .ref p ∧ (SqL Γ.K H p ys ∨ SqT Γ.K H p ys) ∧ ∀ l, H l = none → Q (.ref l) (upd H l (.lst ys))) fun av H d v Q wf r h => ?_).imp fun vs H Q ⟨v, e, p, ys, e', h⟩ => ⟨p, ys, by rw [e, e'], h⟩
  cases r with
  | @tup a vs ds g1 g2 => exact ⟨_, _, rfl, .inr (SqT.of g1), fun p hp => h.new hp (.lst upd_same (wf.new hp) (g2.ext (Ext.new _ hp)))⟩
  | @ftp a o vs ds g1 n g2 => exact ⟨_, _, rfl, .inr (.inl (.inr ⟨o, g1⟩)), fun p hp => h.new hp (.lst upd_same (wf.new hp) (g2.ext (Ext.new _ hp)))⟩
  | @lst a vs ds g1 n g2 => exact ⟨_, _, rfl, .inl (SqL.of g1), fun p hp => h.new hp (.lst upd_same (wf.new hp) (g2.ext (Ext.new _ hp)))⟩
  | _ => exact (show False from h).elim
theorem te_list (hm : X.mg "list" = none) (ha : PE X a (eT Γ E fa)) (hg : Gl X "list" := by rfl) (he : starEach [a] X.env = (false, eval a X.env) :: starEach [] X.env := by rfl) (hK : X.K = Γ.K := by rfl) :
    PE X (.Call (.Name "list" p) [a] [] pos) (eT Γ E (app (on1 D.toLst) (consA fa nilA))) := te_callTy call_list_of (hK ▸ fit_list) boot_list hm (ta_cons ha ta_nil he) hg (he := he)
theorem fit_int : FitC Γ E (fun xs H Q => (∃ i, xs = [.int i] ∧ Q (.int i) H) ∨ ∃ k, xs = [.bl k] ∧ Q (.int (if k then 1 else 0)) H) (on1 D.toInt) := by
  refine (fitC1 (r := fun v H Q => (∃ i, v = .int i ∧ Q (.int i) H) ∨ ∃ k, v = .bl k ∧ Q (.int (if k then 1 else 0)) H) fun av H d v Q wf r h => ?_).imp fun vs H Q ⟨v, e, h⟩ => ?_
  · cases r with
    | int i => exact .inl ⟨_, rfl, h.here (.int _)⟩
    | bl i => exact .inr ⟨_, rfl, h.here (.int _)⟩
    | _ => exact (show False from h).elim
  · rcases h with ⟨i, e', h⟩ | ⟨i, e', h⟩
    · exact .inl ⟨i, by rw [e, e'], h⟩
    · exact .inr ⟨i, by rw [e, e'], h⟩
theorem te_toInt (hm : X.mg "int" = none) (ha : PE X a (eT Γ E fa)) (hg : Gl X "int" := by rfl) (he : starEach [a] X.env = (false, eval a X.env) :: starEach [] X.env := by rfl) :
    PE X (.Call (.Name "int" p) [a] [] pos) (eT Γ E (app (on1 D.toInt) (consA fa nilA))) := te_callTy call_int1 fit_int boot_int hm (ta_cons ha ta_nil he) hg (he := he)
theorem asInts_fit {av : Addr → Prop} {H : Hp} {d : D} {v : V} {β δ : Type} {kk : List Int → Res β} {rel : Hp → β → δ → Prop} {Q : δ → Hp → Prop} (r : Rp Γ.kr av H d v) (h : ROk Γ av H rel (d.asInts.bind kk) Q E) : ∃ p ns, v = .ref p ∧ SqL Γ.K H p (ns.map V.int) ∧ ROk Γ av H rel (kk ns) Q E := by
  cases r with
  | @lst a vs ds g1 n g2 =>
    unfold D.asInts at h
    cases e : intsOf ds with
    | none =>
      simp only [e] at h
      exact (show False from h).elim
    | some ns =>
      simp only [e] at h
      have e2 := intsOf_eq e
      subst e2
      rw [g2.ints] at g1
      exact ⟨a, ns, rfl, SqL.of g1, h⟩
  | _ => exact (show False from h).elim
theorem fit_sum : FitC Γ E (rSum Γ.K) (on1 D.sum) := by
  refine (fitC1 (r := fun v H Q => ∃ (a : Addr) (ns : List Int), v = V.ref a ∧ SqL Γ.K H a (ns.map V.int) ∧ Q (.int ns.sum) H) fun av H d v Q wf r h => ?_).imp fun vs H Q ⟨v, e, a, ns, e', h⟩ => ⟨a, ns, by rw [e, e'], h⟩
  obtain ⟨p, ns, e, h1, h2⟩ := asInts_fit r h
  exact ⟨p, ns, e, h1, h2.here (.int _)⟩
theorem te_sum (hm : X.mg "sum" = none) (hc : X.calm = true) (ha : PE X a (eT Γ E fa)) (hg : Gl X "sum" := by rfl) (he : starEach [a] X.env = (false, eval a X.env) :: starEach [] X.env := by rfl) (hK : X.K = Γ.K := by rfl) (hv : bootBuiltins "sum" = some (.builtin "sum") := by decide +kernel) :
    PE X (.Call (.Name "sum" p) [a] [] pos) (eT Γ E (app (on1 D.sum) (consA fa nilA))) := te_callB (cr_sum hc) (hK ▸ fit_sum) hv hm (ta_cons ha ta_nil he) hg (he := he)
theorem foldl_max_mem : ∀ (l : List Int) (n : Int), l.foldl max n ∈ n :: l
  | [], n => by simp
  | m :: r, n => by
    rw [List.foldl_cons]
    have q := foldl_max_mem r (max n m)
    rcases List.mem_cons.mp q with e | e
    · rw [e]
      by_cases hh : n ≤ m
      · rw [Int.max_eq_right hh]; simp
      · rw [Int.max_eq_left (by omega)]; simp
    · exact List.mem_cons_of_mem _ (List.mem_cons_of_mem _ e)
theorem foldl_max_le : ∀ (l : List Int) (n : Int), n ≤ l.foldl max n ∧ ∀ y ∈ l, y ≤ l.foldl max n
  | [], n => by simp
  | m :: r, n => by
    rw [List.foldl_cons]
    have q := foldl_max_le r (max n m)
    have h1 : n ≤ max n m := Int.le_max_left _ _
    have h2 : m ≤ max n m := Int.le_max_right _ _
    refine ⟨by omega, fun y hy => ?_⟩
    rcases List.mem_cons.mp hy with e | e
    · subst e; omega
    · exact q.2 y e
theorem maxL_spec {ns : List Int} {m m' : Int} (h : maxL ns = some m) (h1 : m' ∈ ns) (h2 : ∀ y ∈ ns, y ≤ m') : m' = m := by
  cases ns with
  | nil => cases h
  | cons n r =>
    have e : r.foldl max n = m := Option.some.inj h
    have a1 := foldl_max_mem r n
    have a2 := foldl_max_le r n
    rw [e] at a1 a2
    have b1 := h2 m a1
    rcases List.mem_cons.mp h1 with z | z
    · subst z; omega
    · have := a2.2 m' z
      omega
theorem fit_max1 : FitC Γ E (rMax Γ.K) (on1 D.max1) := by
  refine (fitC1 (r := fun v H Q => ∃ (a : Addr) (ns : List Int), v = V.ref a ∧ SqL Γ.K H a (ns.map V.int) ∧ 0 < ns.length ∧ ∀ m, m ∈ ns → (∀ y, y ∈ ns → y ≤ m) → Q (.int m) H) fun av H d v Q wf r h => ?_).imp fun vs H Q ⟨v, e, a, ns, e', h⟩ => ⟨a, ns, by rw [e, e'], h⟩
  obtain ⟨p, ns, e, h1, h2⟩ := asInts_fit r h
  cases em : maxL ns with
  | none => simp only [em] at h2; exact (show False from h2).elim
  | some m =>
    simp only [em] at h2
    refine ⟨p, ns, e, h1, ?_, fun m' a b => ?_⟩
    · cases ns with
      | nil => cases em
      | cons _ _ => simp
    · rw [maxL_spec em a b]
      exact h2.here (.int _)
theorem te_max1 (hm : X.mg "max" = none) (hc : X.calm = true) (ha : PE X a (eT Γ E fa)) (hg : Gl X "max" := by rfl) (he : starEach [a] X.env = (false, eval a X.env) :: starEach [] X.env := by rfl) (hK : X.K = Γ.K := by rfl) (hv : bootBuiltins "max" = some (.builtin "max") := by decide +kernel) :
    PE X (.Call (.Name "max" p) [a] [] pos) (eT Γ E (app (on1 D.max1) (consA fa nilA))) := te_callB (cr_max hc) (hK ▸ fit_max1) hv hm (ta_cons ha ta_nil he) hg (he := he)
theorem fitC2II {g : Int → Int → Int} {f : D → D → Res D} (hf : ∀ i j, f (.int i) (.int j) = .ok (.int (g i j))) (hn : ∀ a b, (∀ i j, ¬ (a = .int i ∧ b = .int j)) → f a b = .no) : FitC Γ E (fun xs H Q => ∃ i j, xs = [.int i, .int j] ∧ Q (.int (g i j)) H) (on2 f) := by
  intro av H ds vs Q wf rr q
  cases rr with
  | nil => exact (show False from q).elim
  | cons h1 h2 =>
    cases h2 with
    | nil => exact (show False from q).elim
    | cons h2 h3 =>
      cases h3 with
      | cons _ _ => exact (show False from q).elim
      | nil =>
        rename_i d1 v1 d2 v2
        have q : ROk Γ av H (fun H' d v => Rp Γ.kr av H' d v) (f d1 d2) Q E := q
        by_cases hh : ∃ i j, d1 = .int i ∧ d2 = .int j
        · obtain ⟨i, j, rfl, rfl⟩ := hh
          cases h1
          cases h2
          rw [hf] at q
          exact ⟨i, j, rfl, q.here (.int _)⟩
        · rw [hn d1 d2 fun i j z => hh ⟨i, j, z⟩] at q
          exact q.elim
local macro_rules | `(tactic| walk_at "nn") => `(tactic| (intro a b h; cases a <;> first | rfl | (cases b <;> first | rfl | exact absurd ⟨rfl, rfl⟩ (h _ _))))
theorem te_max2 (hm : X.mg "max" = none) (hc : X.calm = true) (ha : PE X a (eT Γ E fa)) (hb : PE X b (eT Γ E fb)) (hg : Gl X "max" := by rfl) (he : starEach [a, b] X.env = (false, eval a X.env) :: starEach [b] X.env := by rfl) (he2 : starEach [b] X.env = (false, eval b X.env) :: starEach [] X.env := by rfl) (hv : bootBuiltins "max" = some (.builtin "max") := by decide +kernel)
    (hpl : (backTo pos (starEach [b] X.env)).any (·.1) = false := by rfl) : PE X (.Call (.Name "max" p) [a, b] [] pos) (eT Γ E (app (on2 D.max2) (consA fa (consA fb nilA)))) := te_callB (call_max2 hc) (fitC2II (fun _ _ => rfl) (by walk_at "nn")) hv hm (ta_cons ha (ta_cons hb ta_nil he2) he) hg (by decide) (by decide) he hpl
theorem te_min2 (hm : X.mg "min" = none) (hc : X.calm = true) (ha : PE X a (eT Γ E fa)) (hb : PE X b (eT Γ E fb)) (hg : Gl X "min" := by rfl) (he : starEach [a, b] X.env = (false, eval a X.env) :: starEach [b] X.env := by rfl) (he2 : starEach [b] X.env = (false, eval b X.env) :: starEach [] X.env := by rfl) (hv : bootBuiltins "min" = some (.builtin "min") := by decide +kernel)
    (hpl : (backTo pos (starEach [b] X.env)).any (·.1) = false := by rfl) : PE X (.Call (.Name "min" p) [a, b] [] pos) (eT Γ E (app (on2 D.min2) (consA fa (consA fb nilA)))) := te_callB (call_min2 hc) (fitC2II (fun _ _ => rfl) (by walk_at "nn")) hv hm (ta_cons ha (ta_cons hb ta_nil he2) he) hg (by decide) (by decide) he hpl
/-! isinstance -/
theorem Rp.ty {K : PySem.W.Frag} {r : Kr} {av : Addr → Prop} {H : Hp} {d : D} {v : V} {t : Ty} (r : Rp r av H d v) (e : d.ty = some t) : TyX K H v (.type t.name) := by
  cases r with
  | non => cases e; exact .base .non
  | bl b => cases e; exact .base (.bl b)
  | int i => cases e; exact .base (.int i)
  | str x => cases e; exact .base (.str x)
  | tup h _ =>
    cases e
    exact .base (.tup h)
  | ftp h _ _ => cases e; exact .fTuple h
  | lst h _ _ => cases e; exact .base (.lst h)
  | dK h _ _ => cases e; exact .base (.dK h)
  | dT h _ _ => cases e; exact .base (.dT h)
  | rng _ _ _ => cases e
  | arr _ _ h => cases e
  | row _ => cases e
  | op _ => cases e
def isiF (fa : Env → Res D) (T : Ty) : Env → Res D := fun ρ => (fa ρ).bind fun d => d.isi T
theorem te_isi {T : Ty} {y : Str} {py : Pos} (hm : X.mg "isinstance" = none) (hy : X.mg y = none) (hb : bootBuiltins y = some (.type T.name)) (hT : T ≠ .non) (ha : PE X a (eT Γ E fa)) (hg : Gl X "isinstance" := by rfl) (hgy : Gl X y := by rfl) (hn : y ≠ "__name__" := by decide) (hd : (y == ("__debug__" : Str)) = false := by decide)
    (he : starEach [a, .Name y py] X.env = (false, eval a X.env) :: starEach [.Name y py] X.env := by rfl) (he2 : starEach [.Name y py] X.env = (false, eval (.Name y py) X.env) :: starEach [] X.env := by rfl) (hpl : (backTo pos (starEach [.Name y py] X.env)).any (·.1) = false := by rfl) (hK : X.K = Γ.K := by rfl) :
    PE X (.Call (.Name "isinstance" p) [a, .Name y py] [] pos) (eT Γ E (isiF fa T)) := by
  refine PE.imp (pe_callB call_isi hg hm boot_isinstance (pa_cons ha (pa_cons (pe_bltn hgy hy hb (v := .ty T.name) rfl hn hd) pa_nil he2) he) (by decide) (by decide) he hpl) fun σ H Q ⟨av, ρ, env, h⟩ => ?_
  rw [hK]
  refine eT_bind env h fun d v H1 x1 env1 r1 h1 => ?_
  unfold D.isi at h1
  cases e : d.ty with
  | none => simp only [e] at h1; exact (show False from h1).elim
  | some t =>
    simp only [e] at h1
    exact ⟨v, .ty T.name, .type t.name, .type T.name, _, rfl, .ty _, r1.ty e, isiB_kit t T hT, h1.here (.bl _)⟩
def isi2F (fa : Env → Res D) (T U : Ty) : Env → Res D := fun ρ => (fa ρ).bind fun d => d.isiAny [T, U]
theorem te_isi2 {T U : Ty} {y z : Str} {py pz pt : Pos} {kt : Nat} (hm : X.mg "isinstance" = none) (hy : X.mg y = none) (hz : X.mg z = none) (hb : bootBuiltins y = some (.type T.name)) (hbz : bootBuiltins z = some (.type U.name)) (hT : T ≠ .non) (hU : U ≠ .non) (ha : PE X a (eT Γ E fa)) (hg : Gl X "isinstance" := by rfl) (hgy : Gl X y := by rfl) (hgz : Gl X z := by rfl)
    (hn : y ≠ "__name__" := by decide) (hd : (y == ("__debug__" : Str)) = false := by decide) (hnz : z ≠ "__name__" := by decide) (hdz : (z == ("__debug__" : Str)) = false := by decide)
    (he : starEach [a, .Tuple [.Name y py, .Name z pz] kt pt] X.env = (false, eval a X.env) :: starEach [.Tuple [.Name y py, .Name z pz] kt pt] X.env := by rfl) (he2 : starEach [.Tuple [.Name y py, .Name z pz] kt pt] X.env = (false, eval (.Tuple [.Name y py, .Name z pz] kt pt) X.env) :: starEach [] X.env := by rfl)
    (he3 : starEach [.Name y py, .Name z pz] X.env = (false, eval (.Name y py) X.env) :: starEach [.Name z pz] X.env := by rfl) (he4 : starEach [.Name z pz] X.env = (false, eval (.Name z pz) X.env) :: starEach [] X.env := by rfl)
    (hpl : (backTo pos (starEach [.Tuple [.Name y py, .Name z pz] kt pt] X.env)).any (·.1) = false := by rfl) (hK : X.K = Γ.K := by rfl) :
    PE X (.Call (.Name "isinstance" p) [a, .Tuple [.Name y py, .Name z pz] kt pt] [] pos) (eT Γ E (isi2F fa T U)) := by
  refine PE.imp (pe_callB call_isiT hg hm boot_isinstance (pa_cons ha (pa_cons (pe_tup (pa_cons (pe_bltn hgy hy hb (v := .ty T.name) rfl hn hd) (pa_cons (pe_bltn hgz hz hbz (v := .ty U.name) rfl hnz hdz) pa_nil he4) he3)) pa_nil he2) he) (by decide) (by decide) he hpl) fun σ H Q ⟨av, ρ, env, h⟩ => ?_
  rw [hK]
  refine eT_bind env h fun d v H1 x1 env1 r1 h1 => ?_
  unfold D.isiAny at h1
  cases e : d.ty with
  | none => simp only [e] at h1; exact (show False from h1).elim
  | some t =>
    simp only [e] at h1
    refine ⟨by rw [sizeLine_eq]; show (2 : Nat) ≤ 16777216; decide, fun tp htp => ⟨v, tp, [.ty T.name, .ty U.name], .type t.name, [.type T.name, .type U.name], _, rfl, upd_same, .cons (.ty _) (.cons (.ty _) .nil), (r1.ext (Ext.new _ htp)).ty e, ?_, h1 _ _ (Ext.new _ htp) (.bl _)⟩⟩
    have e2 : ([T, U].any fun T => isiB t T) = (isiB t T || isiB t U) := by simp
    rw [e2]
    refine kitAny_cons (isiB_kit t T hT) (fun q => ?_) (fun q => by rw [q]; rfl)
    rw [q, Bool.false_or]
    exact kitAny_cons (isiB_kit t U hU) (fun q => by rw [q]; rfl) (fun q => q)

/-! ### calls of the text's defs -/
/-- what a def answers, whatever row the law draws from -/
def spF (Γ : Gm) (n : Nat) (F : List D → Res D) : Sp := fun vs H Q E => ∃ r sc av ds, Wf (Γ.at r sc) av H ∧ RpL (Γ.at r sc).kr av H ds vs ∧ ds.length = n ∧ ROk (Γ.at r sc) av H (fun H' d v => Rp (Γ.at r sc).kr av H' d v) (F ds) Q E
def callF (n : Nat) (F : List D → Res D) : List D → Res D := fun ds => if ds.length = n then F ds else .no
theorem fit_call {Γ0 : Gm} {n : Nat} {F : List D → Res D} (hΓ : ∀ r sc, Γ.at r sc = Γ0.at r sc) : FitC Γ E (fun vs H Q => spF Γ0 n F (vs ++ []) H Q E) (callF n F) := by
  intro av H ds vs Q wf rr q
  obtain ⟨hz, q⟩ := ROk.ifp q
  rw [List.append_nil]
  have e : Γ0.at Γ.row Γ.scr = Γ := (hΓ Γ.row Γ.scr).symm
  refine ⟨Γ.row, Γ.scr, av, ds, ?_⟩
  rw [e]
  exact ⟨wf, rr, hz, q⟩
theorem te_call {Γ0 : Gm} {CX : CXT} {n j : Nat} {f : Addr} {fd : FuncData} {ps : List Str} {F : List D → Res D} (G : FnOk X.prog X.w X.K X.mg X.base CX j f fd ps (spF Γ0 n F)) (hr : Room j X.A) (hm : X.mg x = some (.ref f)) (hk : PySem.W.keepIn X.K (.ref f) = true) (hb : Binds X.K fd ps []) (hx : Passes CX X E)
    (ha : PA X (a :: es) (aT Γ E fs)) (hg : Gl X x := by rfl) (hdb : (x == ("__debug__" : Str)) = false := by decide) (he : starEach (a :: es) X.env = (false, eval a X.env) :: starEach es X.env := by rfl) (hpl : (backTo pos (starEach es X.env)).any (·.1) = false := by rfl) (hΓ : ∀ r sc, Γ.at r sc = Γ0.at r sc := by intro _ _; rfl) :
    PE X (.Call (.Name x p) (a :: es) [] pos) (eT Γ E (app (callF n F) fs)) :=
  PE.imp (pe_call G hr hg hm hk hb .nil hx ha hdb he hpl) fun σ H Q h => tCB_fit (fit_call hΓ) σ H Q h
end
end Fw
end
set_option Elab.async false
set_option linter.all false
set_option autoImplicit false
set_option maxRecDepth 100000
set_option maxHeartbeats 4000000
/-! Fw4: statements. -/
noncomputable section
namespace Fw
open PySem PySem.Spec PyProof.Rows L2

/-- a slot: nothing known; a value; a container of this frame's own, which it may change; a container handed in, which it may change -/
inductive Sl where
  | dead | val (d : D) | own (d : D) | row (d : D)
abbrev SEnv := List Sl
def Sl.all : Sl → Option D
  | .val d => some d | .own d => some d | .row d => some d | .dead => none
def Sl.vis : Sl → Option D
  | .val d => some d | _ => none
def Sl.noRow : Sl → Option D
  | .val d => some d | .own d => some d | _ => none
def SEnv.all (ρ : SEnv) : Env := ρ.map Sl.all
def SEnv.vis (ρ : SEnv) : Env := ρ.map Sl.vis
def SEnv.noRow (ρ : SEnv) : Env := ρ.map Sl.noRow
def Cont (ρ : SEnv) (i : Nat) (d : D) : Prop := ρ[i]? = some (.own d) ∨ ρ[i]? = some (.row d)
def avO (amb : Addr → Prop) (ad : Nat → Addr) (ρ : SEnv) : Addr → Prop := fun a => amb a ∨ ∃ i d, Cont ρ i d ∧ a = ad i
def avR (amb mr : Addr → Prop) : Addr → Prop := fun a => amb a ∨ mr a
def OwnAt (K : Kr) (av : Addr → Prop) (H : Hp) : D → Addr → Prop
  | .lst ds, a => ∃ vs, H a = some (.lst vs) ∧ RpL K av H ds vs
  | .dct false ds, a => ∃ vs, H a = some (.dK vs) ∧ RpK K av H ds vs
  | .dct true ds, a => ∃ vs, H a = some (.dT vs) ∧ RpT K av H ds vs
  | _, _ => False
theorem OwnAt.rp {K : Kr} {av : Addr → Prop} {H : Hp} {d : D} {a : Addr} (h : OwnAt K av H d a) (n : ¬ avr K av a) : Rp K av H d (.ref a) := by
  cases d with
  | lst ds => obtain ⟨vs, h1, h2⟩ := h; exact .lst h1 n h2
  | dct t ds =>
    cases t <;> obtain ⟨vs, h1, h2⟩ := h
    · exact .dK h1 n h2
    · exact .dT h1 n h2
  | _ => exact (show False from h).elim
theorem OwnAt.there {K : Kr} {av : Addr → Prop} {H : Hp} {d : D} {a : Addr} (h : OwnAt K av H d a) : H a ≠ none := by
  cases d with
  | lst ds => obtain ⟨vs, h1, h2⟩ := h; rw [h1]; intro z; cases z
  | dct t ds =>
    cases t <;> obtain ⟨vs, h1, h2⟩ := h
    · rw [h1]; intro z; cases z
    · rw [h1]; intro z; cases z
  | _ => exact (show False from h).elim
/-- a container that stays as it is while what its items lean on stays -/
theorem OwnAt.stay {K : Kr} {av av' : Addr → Prop} {H H' : Hp} {d : D} {a : Addr} (S : Stay K av av' H H') (k : ∀ o, H a = some o → (∀ ps, o ≠ .tbl ps) → H' a = some o) (h : OwnAt K av H d a) : OwnAt K av' H' d a := by
  cases d with
  | lst ds => obtain ⟨vs, h1, h2⟩ := h; exact ⟨vs, k _ h1 (by intro _ z; cases z), h2.stay S⟩
  | dct t ds =>
    cases t <;> obtain ⟨vs, h1, h2⟩ := h
    · exact ⟨vs, k _ h1 (by intro _ z; cases z), h2.stay S⟩
    · exact ⟨vs, k _ h1 (by intro _ z; cases z), h2.stay S⟩
  | _ => exact (show False from h).elim
/-- all but what may be changed is as it was -/
structure ExtM (Γ : Gm) (mr : Addr → Prop) (H H' : Hp) : Prop where
  keep : ∀ b o, H b = some o → (∀ ps, o ≠ .tbl ps) → ((∃ xs, o = .lst xs) → Γ.row ≠ some b) → ¬ mr b → H' b = some o
  tb : Tb Γ H → Tb Γ H'
  row : RowOk Γ H → RowOk Γ H'
  there : ∀ b, H b ≠ none → H' b ≠ none
theorem ExtM.refl (Γ : Gm) (mr : Addr → Prop) (H : Hp) : ExtM Γ mr H H := ⟨fun _ _ h _ _ _ => h, fun h => h, fun h => h, fun _ h => h⟩
theorem ExtM.ext {Γ : Gm} {mr : Addr → Prop} {H H1 H2 : Hp} (a : ExtM Γ mr H H1) (b : Ext Γ H1 H2) : ExtM Γ mr H H2 := ⟨fun c o h n l m => b.keep c o (a.keep c o h n l m) n l, fun h => b.tb (a.tb h), fun h => b.row (a.row h), fun c h => b.there c (a.there c h)⟩
theorem ExtM.to {Γ : Gm} {H H' : Hp} (a : ExtM Γ (fun _ => False) H H') : Ext Γ H H' := ⟨fun c o h n l => a.keep c o h n l (fun z => z), a.tb, a.row, a.there⟩
/-- what was handed in to be changed: the slots and the addresses -/
abbrev Mr := Nat → Option Addr
def mrA (mr : Mr) : Addr → Prop := fun a => ∃ i, mr i = some a
/-- the frame's state -/
structure SAd (Γ : Gm) (amb : Addr → Prop) (H0 : Hp) (mr : Mr) (tmp : List (V × D)) (ad : Nat → Addr) (σ : St) (H : Hp) (ρ : SEnv) : Prop where
  ext : ExtM Γ (mrA mr) H0 H
  tb : Tb Γ H
  rw : RowOk Γ H
  len : ρ.length = σ.length
  ambT : ∀ a, amb a → H a ≠ none
  mrIn : ∀ a, mrA mr a → ∃ (i : Nat) (d : D), ρ[i]? = some (Sl.row d) ∧ a = ad i
  inj : ∀ (i j : Nat) (d e : D), Cont ρ i d → Cont ρ j e → ad i = ad j → i = j
  new : ∀ (i : Nat) (d : D), ρ[i]? = some (.own d) → H0 (ad i) = none ∧ ¬ amb (ad i) ∧ NR Γ (ad i)
  rows : ∀ (i : Nat) (d : D), ρ[i]? = some (.row d) → mr i = some (ad i) ∧ ¬ amb (ad i) ∧ NR Γ (ad i)
  val : ∀ (i : Nat) (d : D), ρ[i]? = some (Sl.val d) → ∃ v, σ[i]? = some (some v) ∧ Rp Γ.kr (avO amb ad ρ) H d v
  own : ∀ (i : Nat) (d : D), Cont ρ i d → σ[i]? = some (some (.ref (ad i))) ∧ OwnAt Γ.kr (avO amb ad ρ) H d (ad i)
  tmp : ∀ p ∈ tmp, Rp Γ.kr (avO amb ad ρ) H p.2 p.1
def SA (Γ : Gm) (amb : Addr → Prop) (H0 : Hp) (mr : Mr) (tmp : List (V × D)) (σ : St) (H : Hp) (ρ : SEnv) : Prop := ∃ ad, SAd Γ amb H0 mr tmp ad σ H ρ
/-- what a statement comes to -/
inductive Out where
  | nx (ρ : SEnv) | rt (d : D) (ρ : SEnv) | bk (ρ : SEnv) | ct (ρ : SEnv) | ex (c : Str) (f : Option (Str × V)) | no | dr (n : Int) (k : Int → Out)
def SOk (Γ : Gm) (amb : Addr → Prop) (H0 : Hp) (mr : Mr) (tmp : List (V × D)) : Out → Ends → XK → Prop
  | .nx ρ, Z, E => ∀ σ' H', SA Γ amb H0 mr tmp σ' H' ρ → Z.nx σ' H'
  | .bk ρ, Z, E => ∀ σ' H', SA Γ amb H0 mr tmp σ' H' ρ → Z.bk σ' H'
  | .ct ρ, Z, E => ∀ σ' H', SA Γ amb H0 mr tmp σ' H' ρ → Z.ct σ' H'
  | .rt d ρ, Z, E => ∀ v σ' H' ad, SAd Γ amb H0 mr [] ad σ' H' ρ → Rp Γ.kr (avR amb (mrA mr)) H' d v → Z.rt v H'
  | .ex c f, Z, E => ∀ H', ExtM Γ (mrA mr) H0 H' → Tb Γ H' → ExOk Γ H' E c f
  | .no, Z, E => False
  | .dr n k, Z, E => ∀ i, 0 ≤ i → i < n → SOk Γ amb H0 mr tmp (k i) Z E
def sT (Γ : Gm) (E : XK) (g : SEnv → Out) : TS := fun Z σ H => ∃ amb H0 mr tmp ρ, SA Γ amb H0 mr tmp σ H ρ ∧ SOk Γ amb H0 mr tmp (g ρ) Z E

section
variable {Γ : Gm} {amb : Addr → Prop} {mr : Mr} {H0 H H' : Hp} {tmp : List (V × D)} {ad : Nat → Addr} {σ σ' : St} {ρ : SEnv} {E : XK} {Z : Ends}
theorem mem_all {i : Nat} {d : D} (h : (SEnv.all ρ)[i]? = some (some d)) : ρ[i]? = some (.val d) ∨ Cont ρ i d := by
  unfold SEnv.all at h
  rw [List.getElem?_map] at h
  cases e : ρ[i]? with
  | none => rw [e] at h; cases h
  | some s =>
    rw [e] at h
    cases s with
    | dead => cases h
    | val d' => cases h; exact .inl rfl
    | own d' => cases h; exact .inr (.inl e)
    | row d' => cases h; exact .inr (.inr e)
theorem mem_vis {i : Nat} {d : D} (h : (SEnv.vis ρ)[i]? = some (some d)) : ρ[i]? = some (.val d) := by
  unfold SEnv.vis at h
  rw [List.getElem?_map] at h
  cases e : ρ[i]? with
  | none => rw [e] at h; cases h
  | some s => rw [e] at h; cases s <;> cases h; rfl
theorem mem_noRow {i : Nat} {d : D} (h : (SEnv.noRow ρ)[i]? = some (some d)) : ρ[i]? = some (.val d) ∨ ρ[i]? = some (.own d) := by
  unfold SEnv.noRow at h
  rw [List.getElem?_map] at h
  cases e : ρ[i]? with
  | none => rw [e] at h; cases h
  | some s =>
    rw [e] at h
    cases s with
    | dead => cases h
    | val d' => cases h; exact .inl rfl
    | own d' => cases h; exact .inr rfl
    | row d' => cases h
theorem SAd.mrThere {a : Addr} (S : SAd Γ amb H0 mr tmp ad σ H ρ) (h : mrA mr a) : H a ≠ none := by
  obtain ⟨i, d, e, rfl⟩ := S.mrIn a h
  exact (S.own i d (.inr e)).2.there
theorem SAd.notMr {i : Nat} {d : D} (S : SAd Γ amb H0 mr tmp ad σ H ρ) (h : ρ[i]? = some (.own d)) : ¬ mrA mr (ad i) := fun z => by
  obtain ⟨j, e, q, hj⟩ := S.mrIn _ z
  have := S.inj i j d e (.inl h) (.inr q) hj
  subst this
  rw [h] at q
  cases q
theorem SAd.nr {i : Nat} {d : D} (S : SAd Γ amb H0 mr tmp ad σ H ρ) (h : Cont ρ i d) : NR Γ (ad i) := h.elim (fun h => (S.new i d h).2.2) fun h => (S.rows i d h).2.2
theorem SAd.notRow {i : Nat} {d : D} (S : SAd Γ amb H0 mr tmp ad σ H ρ) (h : Cont ρ i d) : Γ.row ≠ some (ad i) := (S.nr h).1
theorem SAd.avIn (S : SAd Γ amb H0 mr tmp ad σ H ρ) : ∀ a, avO amb ad ρ a → H a ≠ none := fun a h => by
  rcases h with h | ⟨i, d, h, rfl⟩
  · exact S.ambT a h
  · exact (S.own i d h).2.there
theorem SAd.wf (S : SAd Γ amb H0 mr tmp ad σ H ρ) : Wf Γ (avO amb ad ρ) H := ⟨S.tb, S.avIn, S.rw⟩
theorem OwnAt.weak {K : Kr} {av av' : Addr → Prop} {d : D} {a : Addr} (h : OwnAt K av H d a) (i : ∀ b, av' b → av b) : OwnAt K av' H d a := h.stay (Stay.weak i) fun _ e _ => e
/-- all slots may be read, where nothing need be kept off -/
theorem SAd.envAll (S : SAd Γ amb H0 mr tmp ad σ H ρ) : EnvV Γ (fun _ => False) H σ ρ.all := ⟨⟨S.tb, fun _ h => h.elim, S.rw⟩, fun i d h => by
  rcases mem_all h with h | h
  · obtain ⟨v, h1, h2⟩ := S.val i d h
    exact ⟨v, h1, h2.stay (Stay.weak fun _ z => z.elim)⟩
  · obtain ⟨h1, h2⟩ := S.own i d h
    exact ⟨_, h1, (h2.weak fun _ z => z.elim).rp fun z => z.elim id (S.notRow h)⟩, by unfold SEnv.all; rw [List.length_map, S.len]; exact Nat.le_refl _⟩
theorem SAd.envVis (S : SAd Γ amb H0 mr tmp ad σ H ρ) : EnvV Γ (avO amb ad ρ) H σ ρ.vis := ⟨S.wf, fun i d h => S.val i d (mem_vis h), by unfold SEnv.vis; rw [List.length_map, S.len]; exact Nat.le_refl _⟩
theorem SAd.envRet (S : SAd Γ amb H0 mr tmp ad σ H ρ) : EnvV Γ (avR amb (mrA mr)) H σ ρ.noRow := by
  have w : ∀ b, avR amb (mrA mr) b → avO amb ad ρ b := fun b z => by
    rcases z with z | z
    · exact .inl z
    · obtain ⟨i, d, e, rfl⟩ := S.mrIn b z
      exact .inr ⟨i, d, .inr e, rfl⟩
  refine ⟨⟨S.tb, fun a h => S.avIn a (w a h), S.rw⟩, fun i d h => ?_, by unfold SEnv.noRow; rw [List.length_map, S.len]; exact Nat.le_refl _⟩
  rcases mem_noRow h with h | h
  · obtain ⟨v, h1, h2⟩ := S.val i d h
    exact ⟨v, h1, h2.stay (Stay.weak w)⟩
  · obtain ⟨h1, h2⟩ := S.own i d (.inl h)
    refine ⟨_, h1, (h2.weak w).rp fun z => ?_⟩
    rcases z with (z | z) | z
    · exact (S.new i d h).2.1 z
    · exact S.notMr h z
    · exact (S.new i d h).2.2.1 z
theorem SAd.ext_ (S : SAd Γ amb H0 mr tmp ad σ H ρ) (x : Ext Γ H H') : SAd Γ amb H0 mr tmp ad σ H' ρ :=
  ⟨S.ext.ext x, x.tb S.tb, x.row S.rw, S.len, fun a h => x.there a (S.ambT a h), S.mrIn, S.inj, S.new, S.rows, fun i d h => let ⟨v, h1, h2⟩ := S.val i d h; ⟨v, h1, h2.ext x⟩, fun i d h => let ⟨h1, h2⟩ := S.own i d h; ⟨h1, h2.stay (x.stay _) fun o e n => x.keep _ o e n fun _ => S.notRow h⟩, fun p hp => (S.tmp p hp).ext x⟩
theorem SAd.tmps {tmp' : List (V × D)} (S : SAd Γ amb H0 mr tmp ad σ H ρ) (h : ∀ p ∈ tmp', Rp Γ.kr (avO amb ad ρ) H p.2 p.1) : SAd Γ amb H0 mr tmp' ad σ H ρ :=
  ⟨S.ext, S.tb, S.rw, S.len, S.ambT, S.mrIn, S.inj, S.new, S.rows, S.val, S.own, h⟩
theorem SA.sub {tmp' : List (V × D)} (S : SA Γ amb H0 mr tmp σ H ρ) (h : ∀ p ∈ tmp', p ∈ tmp) : SA Γ amb H0 mr tmp' σ H ρ := let ⟨ad, S⟩ := S; ⟨ad, S.tmps fun p hp => S.tmp p (h p hp)⟩
theorem cont_set {i j : Nat} {s : Sl} {d : D} (hs : ∀ e, s ≠ .own e ∧ s ≠ .row e) (h : Cont (ρ.set i s) j d) : Cont ρ j d ∧ j ≠ i := by
  by_cases e : i = j
  · subst e
    by_cases hl : i < ρ.length
    · rcases h with h | h <;> (rw [List.getElem?_set_self hl] at h; cases h)
      · exact absurd rfl (hs d).1
      · exact absurd rfl (hs d).2
    · rcases h with h | h <;> (rw [List.getElem?_eq_none (by simpa using hl)] at h; cases h)
  · rcases h with h | h <;> rw [List.getElem?_set_ne e] at h
    · exact ⟨.inl h, fun z => e z.symm⟩
    · exact ⟨.inr h, fun z => e z.symm⟩
def isRow (ρ : SEnv) (i : Nat) : Bool := match ρ[i]? with | some (.row _) => true | _ => false
theorem isRow_no {i j : Nat} {d : D} (h : isRow ρ i = false) (e : ρ[j]? = some (Sl.row d)) : j ≠ i := fun z => by
  subst z
  unfold isRow at h
  rw [e] at h
  cases h
/-- a slot takes a value -/
theorem SAd.setVal {i : Nat} {d : D} {v : V} (S : SAd Γ amb H0 mr tmp ad σ H ρ) (hr : isRow ρ i = false) (r : Rp Γ.kr (avO amb ad ρ) H d v) : SAd Γ amb H0 mr tmp ad (σ.set i (some v)) H (ρ.set i (.val d)) := by
  have hs : ∀ e, Sl.val d ≠ .own e ∧ Sl.val d ≠ .row e := fun e => ⟨fun z => (by cases z), fun z => (by cases z)⟩
  have w : ∀ b, avO amb ad (ρ.set i (.val d)) b → avO amb ad ρ b := fun b z => by
    rcases z with z | ⟨j, e, z, rfl⟩
    · exact .inl z
    · exact .inr ⟨j, e, (cont_set hs z).1, rfl⟩
  have other : ∀ {j : Nat} {s : Sl}, j ≠ i → (ρ.set i (.val d))[j]? = some s → ρ[j]? = some s := fun {j s} hj h => by rwa [List.getElem?_set_ne (Ne.symm hj)] at h
  refine ⟨S.ext, S.tb, S.rw, by simpa using S.len, S.ambT, fun a z => let ⟨j, e, h1, h2⟩ := S.mrIn a z; ⟨j, e, by rw [List.getElem?_set_ne (Ne.symm (isRow_no hr h1))]; exact h1, h2⟩, fun j k e f h1 h2 => S.inj j k e f (cont_set hs h1).1 (cont_set hs h2).1, fun j e h => ?_, fun j e h => ?_, fun j e h => ?_, fun j e h => ?_, fun p hp => (S.tmp p hp).stay (Stay.weak w)⟩
  · obtain ⟨_, hj⟩ := cont_set hs (.inl h)
    exact S.new j e (other hj h)
  · obtain ⟨_, hj⟩ := cont_set hs (.inr h)
    exact S.rows j e (other hj h)
  · by_cases hj : j = i
    · subst hj
      by_cases hl : j < ρ.length
      · rw [List.getElem?_set_self hl] at h
        cases h
        exact ⟨v, List.getElem?_set_self (by rw [← S.len]; exact hl), r.stay (Stay.weak w)⟩
      · rw [List.getElem?_eq_none (by simpa using hl)] at h; cases h
    · obtain ⟨u, h1, h2⟩ := S.val j e (other hj h)
      exact ⟨u, by rw [List.getElem?_set_ne (Ne.symm hj)]; exact h1, h2.stay (Stay.weak w)⟩
  · obtain ⟨h', hj⟩ := cont_set hs h
    obtain ⟨h1, h2⟩ := S.own j e h'
    exact ⟨by rw [List.getElem?_set_ne (Ne.symm hj)]; exact h1, h2.weak w⟩
/-- new addresses are kept off from now on -/
theorem SAd.reserve {R : Addr → Prop} (S : SAd Γ amb H0 mr tmp ad σ H ρ) (x : Ext Γ H H') (h1 : ∀ a, R a → H a = none) (h2 : ∀ a, R a → H' a ≠ none) : SAd Γ (fun a => amb a ∨ R a) H0 mr tmp ad σ H' ρ := by
  have np : ∀ {j e}, Cont ρ j e → ¬ R (ad j) := fun {j e} h z => (S.own j e h).2.there (h1 _ z)
  have avp : ∀ b, avO (fun a => amb a ∨ R a) ad ρ b → R b ∨ avO amb ad ρ b := fun b z => by
    rcases z with (z | z) | ⟨j, e, z, rfl⟩
    · exact .inr (.inl z)
    · exact .inl z
    · exact .inr (.inr ⟨j, e, z, rfl⟩)
  have st : Stay Γ.kr (avO amb ad ρ) (avO (fun a => amb a ∨ R a) ad ρ) H H' := by
    have s1 := x.stay (avO amb ad ρ)
    have no : ∀ {a : Addr} {o : HO}, H a = some o → ¬ avr Γ.kr (avO amb ad ρ) a → ¬ avr Γ.kr (avO (fun a => amb a ∨ R a) ad ρ) a := fun {a o} h n z => by
      rcases z with z | z
      · rcases avp a z with z | z
        · rw [h1 a z] at h; cases h
        · exact n (.inl z)
      · exact n (.inr z)
    exact ⟨s1.tup, fun a xs n h => ⟨(s1.lst a xs n h).1, no h n⟩, fun a xs n h => ⟨(s1.dK a xs n h).1, no h n⟩, fun a xs n h => ⟨(s1.dT a xs n h).1, no h n⟩, s1.rng, s1.frz⟩
  have mrR : ∀ a, mrA mr a → ¬ R a := fun a m z => S.mrThere m (h1 a z)
  refine ⟨S.ext.ext x, x.tb S.tb, x.row S.rw, S.len, fun a h => ?_, S.mrIn, S.inj, fun i d h => ⟨(S.new i d h).1, fun z => ?_, (S.new i d h).2.2⟩, fun i d h => ⟨(S.rows i d h).1, fun z => ?_, (S.rows i d h).2.2⟩, fun i d h => ?_, fun i d h => ?_, fun p hp => (S.tmp p hp).stay st⟩
  · rcases h with h | h
    · exact x.there a (S.ambT a h)
    · exact h2 a h
  · rcases z with z | z
    · exact (S.new i d h).2.1 z
    · exact np (.inl h) z
  · rcases z with z | z
    · exact (S.rows i d h).2.1 z
    · exact np (.inr h) z
  · obtain ⟨v, g1, g2⟩ := S.val i d h
    exact ⟨v, g1, g2.stay st⟩
  · obtain ⟨g1, g2⟩ := S.own i d h
    exact ⟨g1, g2.stay st fun o e n => x.keep _ o e n fun _ => S.notRow h⟩
/-- less is to be kept off -/
theorem SAd.ambLess {amb' : Addr → Prop} (S : SAd Γ amb H0 mr tmp ad σ H ρ) (h : ∀ a, amb' a → amb a) : SAd Γ amb' H0 mr tmp ad σ H ρ := by
  have w : ∀ b, avO amb' ad ρ b → avO amb ad ρ b := fun b z => z.elim (fun z => .inl (h b z)) .inr
  exact ⟨S.ext, S.tb, S.rw, S.len, fun a z => S.ambT a (h a z), S.mrIn, S.inj, fun i d e => ⟨(S.new i d e).1, fun z => (S.new i d e).2.1 (h _ z), (S.new i d e).2.2⟩, fun i d e => ⟨(S.rows i d e).1, fun z => (S.rows i d e).2.1 (h _ z), (S.rows i d e).2.2⟩,
    fun i d e => let ⟨v, g1, g2⟩ := S.val i d e; ⟨v, g1, g2.stay (Stay.weak w)⟩, fun i d e => let ⟨g1, g2⟩ := S.own i d e; ⟨g1, g2.weak w⟩, fun p hp => (S.tmp p hp).stay (Stay.weak w)⟩
/-- a kept-off container becomes this frame's own -/
theorem SAd.takeIn {R : Addr → Prop} {i : Nat} {d : D} {p : Addr} (S : SAd Γ (fun a => amb a ∨ R a) H0 mr tmp ad σ H ρ) (hr : isRow ρ i = false) (hp : R p) (h0 : H0 p = none) (hm : ¬ amb p) (hrow : NR Γ p) (o : OwnAt Γ.kr (avO (fun a => amb a ∨ R a) ad ρ) H d p) :
    ∃ ad', SAd Γ (fun a => amb a ∨ (R a ∧ a ≠ p)) H0 mr tmp ad' (σ.set i (some (.ref p))) H (ρ.set i (.own d)) ∧ ∀ b, avO (fun a => amb a ∨ (R a ∧ a ≠ p)) ad' (ρ.set i (.own d)) b → avO (fun a => amb a ∨ R a) ad ρ b := by
  by_cases hl : i < ρ.length
  · have lt' : i < σ.length := by rw [← S.len]; exact hl
    have at_ : ∀ {j : Nat} {e : D}, Cont (ρ.set i (.own d)) j e → (j = i ∧ e = d) ∨ (j ≠ i ∧ Cont ρ j e) := fun {j e} h => by
      by_cases hj : j = i
      · subst hj
        rcases h with h | h <;> (rw [List.getElem?_set_self hl] at h; cases h)
        exact .inl ⟨rfl, rfl⟩
      · rcases h with h | h <;> rw [List.getElem?_set_ne (Ne.symm hj)] at h
        · exact .inr ⟨hj, .inl h⟩
        · exact .inr ⟨hj, .inr h⟩
    let ad' : Nat → Addr := fun j => if j = i then p else ad j
    have ai : ad' i = p := if_pos rfl
    have aj : ∀ {j}, j ≠ i → ad' j = ad j := fun hj => if_neg hj
    have np : ∀ {j e}, Cont ρ j e → ad j ≠ p := fun {j e} h z => by
      rcases h with h | h
      · exact (S.new j e h).2.1 (.inr (z ▸ hp))
      · exact (S.rows j e h).2.1 (.inr (z ▸ hp))
    have w : ∀ b, avO (fun a => amb a ∨ (R a ∧ a ≠ p)) ad' (ρ.set i (.own d)) b → avO (fun a => amb a ∨ R a) ad ρ b := fun b z => by
      rcases z with (z | z) | ⟨j, e, z, rfl⟩
      · exact .inl (.inl z)
      · exact .inl (.inr z.1)
      · rcases at_ z with ⟨hj, _⟩ | ⟨hj, z⟩
        · rw [hj, ai]; exact .inl (.inr hp)
        · rw [aj hj]; exact .inr ⟨j, e, z, rfl⟩
    refine ⟨ad', ⟨S.ext, S.tb, S.rw, by simpa using S.len, fun a h => S.ambT a (h.imp id And.left), fun a z => let ⟨j, e, h1, h2⟩ := S.mrIn a z; ⟨j, e, by rw [List.getElem?_set_ne (Ne.symm (isRow_no hr h1))]; exact h1, by rw [aj (isRow_no hr h1)]; exact h2⟩,
      fun j k e f h1 h2 he => ?_, fun j e h => ?_, fun j e h => ?_, fun j e h => ?_, fun j e h => ?_, fun q hq => (S.tmp q hq).stay (Stay.weak w)⟩, w⟩
    · rcases at_ h1 with ⟨hj, _⟩ | ⟨hj, h1⟩
      · rcases at_ h2 with ⟨hk, _⟩ | ⟨hk, h2⟩
        · rw [hj, hk]
        · rw [hj, ai, aj hk] at he
          exact absurd he.symm (np h2)
      · rcases at_ h2 with ⟨hk, _⟩ | ⟨hk, h2⟩
        · rw [hk, ai, aj hj] at he
          exact absurd he (np h1)
        · rw [aj hj, aj hk] at he
          exact S.inj j k e f h1 h2 he
    · by_cases hj : j = i
      · rw [hj, ai]
        exact ⟨h0, fun z => z.elim hm fun z => z.2 rfl, hrow⟩
      · rw [List.getElem?_set_ne (Ne.symm hj)] at h
        rw [aj hj]
        exact ⟨(S.new j e h).1, fun z => (S.new j e h).2.1 (z.imp id And.left), (S.new j e h).2.2⟩
    · by_cases hj : j = i
      · subst hj
        rw [List.getElem?_set_self hl] at h
        cases h
      · rw [List.getElem?_set_ne (Ne.symm hj)] at h
        rw [aj hj]
        exact ⟨(S.rows j e h).1, fun z => (S.rows j e h).2.1 (z.imp id And.left), (S.rows j e h).2.2⟩
    · by_cases hj : j = i
      · subst hj
        rw [List.getElem?_set_self hl] at h
        cases h
      · rw [List.getElem?_set_ne (Ne.symm hj)] at h
        obtain ⟨u, h1, h2⟩ := S.val j e h
        exact ⟨u, by rw [List.getElem?_set_ne (Ne.symm hj)]; exact h1, h2.stay (Stay.weak w)⟩
    · rcases at_ h with ⟨hj, he⟩ | ⟨hj, h⟩
      · subst hj he
        rw [ai]
        exact ⟨List.getElem?_set_self lt', o.weak w⟩
      · obtain ⟨h1, h2⟩ := S.own j e h
        rw [aj hj]
        exact ⟨by rw [List.getElem?_set_ne (Ne.symm hj)]; exact h1, h2.weak w⟩
  · have w : ∀ b, avO (fun a => amb a ∨ (R a ∧ a ≠ p)) ad ρ b → avO (fun a => amb a ∨ R a) ad ρ b := fun b z => z.imp (fun z => z.imp id And.left) id
    rw [List.set_eq_of_length_le (by rw [← S.len]; omega), List.set_eq_of_length_le (by omega)]
    exact ⟨ad, S.ambLess fun a z => z.imp id And.left, w⟩
/-- a slot takes a new container of its own -/
theorem SAd.setNew {i : Nat} {d : D} {p : Addr} (S : SAd Γ amb H0 mr tmp ad σ H ρ) (hr : isRow ρ i = false) (x : Ext Γ H H') (hp : H p = none) (o : OwnAt Γ.kr (fun a => avO amb ad ρ a ∨ a = p) H' d p) : SA Γ amb H0 mr tmp (σ.set i (some (.ref p))) H' (ρ.set i (.own d)) := by
  have S1 := S.reserve (R := fun a => a = p) x (fun a z => by rw [z]; exact hp) (fun a z => by rw [z]; exact o.there)
  have h0 : H0 p = none := by
    cases q : H0 p with
    | none => rfl
    | some u => exact absurd hp (S.ext.there p (by rw [q]; intro z; cases z))
  obtain ⟨ad', S2, _⟩ := S1.takeIn (i := i) (d := d) hr rfl h0 (fun z => S.ambT p z hp) (S.rw.nr hp) (o.weak fun b z => by
    rcases z with (z | z) | z
    · exact .inl (.inl z)
    · exact .inr z
    · exact .inl (.inr z))
  exact ⟨ad', S2.ambLess fun a z => .inl z⟩
end
end Fw
end
set_option Elab.async false
set_option linter.all false
set_option autoImplicit false
set_option maxRecDepth 100000
set_option maxHeartbeats 4000000
/-! Fw5: the statements' rules. -/
noncomputable section
namespace Fw
open PySem PySem.Spec PyProof.Rows L2

def contO : HO → Prop
  | .lst _ => True | .dK _ => True | .dT _ => True | _ => False
theorem Tb.write {Γ : Gm} {H : Hp} {a : Addr} {o u : HO} (t : Tb Γ H) (h : H a = some o) (ho : contO o) : Tb Γ (upd H a u) := by
  have ne : ∀ {b : Addr} {z : HO}, H b = some z → ¬ contO z → b ≠ a := fun {b z} e n q => by
    rw [q, h] at e
    cases e
    exact n ho
  refine ⟨fun P hP => ?_, fun p hp => ?_⟩
  · obtain ⟨ps, h1, h2⟩ := t.1 P hP
    exact ⟨ps, by rw [upd_ne (ne h1 fun z => z)]; exact h1, h2⟩
  · obtain ⟨ps, h1, h2, h3⟩ := t.2 p hp
    refine ⟨ps, by rw [upd_ne (ne h1 fun z => z)]; exact h1, h2, fun pos cv hc => ?_⟩
    obtain ⟨c, e1, e2⟩ := h3 pos cv hc
    exact ⟨c, e1, by rw [upd_ne (ne e2 fun z => z)]; exact e2⟩
theorem sqL_write {K : PySem.W.Frag} {H : Hp} {a c : Addr} {o u : HO} {xs : List V} (hc : c ≠ a) (h : SqL K H c xs) : SqL K (upd H a u) c xs := by
  rcases h with (h | ⟨o, h⟩) | h
  · exact .inl (.inl (by rw [upd_ne hc]; exact h))
  · exact .inl (.inr ⟨o, by rw [upd_ne hc]; exact h⟩)
  · exact .inr h
theorem RowOk.write {Γ : Gm} {H : Hp} {a : Addr} {u : HO} (t : RowOk Γ H) (hr : NR Γ a) : RowOk Γ (upd H a u) := fun r e => by
  obtain ⟨ns, i, j, k, h1, h2, h3⟩ := t r e
  have h1' : upd H a u r = some (.lst [.ref Γ.scr, .int i, .int j, .int k]) := by rw [upd_ne (fun z => hr.1 (by rw [← z]; exact e))]; exact h1
  rcases hr.2 r e with z | ⟨ns', z⟩
  · exact ⟨ns, i, j, k, h1', sqL_write (o := u) (Ne.symm z) h2, h3⟩
  · exact ⟨ns', i, j, k, h1', z _, h3⟩
theorem Stay.write {K : Kr} {av : Addr → Prop} {H : Hp} {a : Addr} {o u : HO} (h : H a = some o) (ho : contO o) (n : av a) : Stay K av av H (upd H a u) := by
  have ne : ∀ {b : Addr} {z : HO}, H b = some z → ¬ contO z → b ≠ a := fun {b z} e n q => by
    rw [q, h] at e
    cases e
    exact n ho
  have na : ∀ {b : Addr}, ¬ avr K av b → b ≠ a := fun {b} m q => m (.inl (q ▸ n))
  exact ⟨fun b xs e => by rw [upd_ne (ne e fun z => z)]; exact e, fun b xs m e => ⟨by rw [upd_ne (na m)]; exact e, m⟩, fun b xs m e => ⟨by rw [upd_ne (na m)]; exact e, m⟩, fun b xs m e => ⟨by rw [upd_ne (na m)]; exact e, m⟩,
    fun b lo hi e => by rw [upd_ne (ne e fun z => z)]; exact e, fun b o u e => by rw [upd_ne (ne e fun z => z)]; exact e⟩
def Sl.put : Sl → D → Sl
  | .row _, d => .row d
  | _, d => .own d
section
variable {Γ : Gm} {amb : Addr → Prop} {mr : Mr} {H0 H H' : Hp} {tmp : List (V × D)} {ad : Nat → Addr} {σ σ' : St} {ρ : SEnv} {E : XK} {Z : Ends}
theorem OwnAt.cont {K : Kr} {av : Addr → Prop} {d : D} {a : Addr} (h : OwnAt K av H d a) : ∃ o, H a = some o ∧ contO o := by
  cases d with
  | lst ds => obtain ⟨vs, h1, h2⟩ := h; exact ⟨_, h1, True.intro⟩
  | dct t ds =>
    cases t <;> obtain ⟨vs, h1, h2⟩ := h
    · exact ⟨_, h1, True.intro⟩
    · exact ⟨_, h1, True.intro⟩
  | _ => exact (show False from h).elim
/-- the frame's own container is changed -/
theorem SAd.write {i : Nat} {s : Sl} {d d' : D} {u : HO} (S : SAd Γ amb H0 mr tmp ad σ H ρ) (hs : ρ[i]? = some s) (hc : s = .own d ∨ s = .row d) (o : OwnAt Γ.kr (avO amb ad ρ) (upd H (ad i) u) d' (ad i)) : SAd Γ amb H0 mr tmp ad σ (upd H (ad i) u) (ρ.set i (s.put d')) := by
  have hl : i < ρ.length := (List.getElem?_eq_some_iff.mp hs).1
  have c : Cont ρ i d := by rcases hc with e | e <;> rw [e] at hs <;> first | exact .inl hs | exact .inr hs
  obtain ⟨o0, h0, ho0⟩ := (S.own i d c).2.cont
  have hav : avO amb ad ρ (ad i) := .inr ⟨i, d, c, rfl⟩
  have st := Stay.write (K := Γ.kr) (u := u) h0 ho0 hav
  have self : (ρ.set i (s.put d'))[i]? = some (s.put d') := List.getElem?_set_self hl
  have back : ∀ {j : Nat} {e : D}, Cont (ρ.set i (s.put d')) j e → (j = i ∧ e = d') ∨ (j ≠ i ∧ Cont ρ j e) := fun {j e} h => by
    by_cases hj : j = i
    · subst hj
      refine .inl ⟨rfl, ?_⟩
      rcases hc with z | z <;> subst z <;> rcases h with h | h <;> rw [self] at h <;> cases h <;> rfl
    · rcases h with h | h <;> rw [List.getElem?_set_ne (Ne.symm hj)] at h
      · exact .inr ⟨hj, .inl h⟩
      · exact .inr ⟨hj, .inr h⟩
  have fwd : ∀ {j : Nat} {e : D}, Cont ρ j e → ∃ e', Cont (ρ.set i (s.put d')) j e' := fun {j e} h => by
    by_cases hj : j = i
    · subst hj
      rcases hc with z | z <;> subst z
      · exact ⟨d', .inl self⟩
      · exact ⟨d', .inr self⟩
    · refine ⟨e, ?_⟩
      rcases h with h | h
      · exact .inl (by rw [List.getElem?_set_ne (Ne.symm hj)]; exact h)
      · exact .inr (by rw [List.getElem?_set_ne (Ne.symm hj)]; exact h)
  have av1 : ∀ b, avO amb ad (ρ.set i (s.put d')) b → avO amb ad ρ b := fun b z => by
    rcases z with z | ⟨j, e, z, rfl⟩
    · exact .inl z
    · rcases back z with ⟨rfl, _⟩ | ⟨_, z⟩
      · exact hav
      · exact .inr ⟨j, e, z, rfl⟩
  have stw : Stay Γ.kr (avO amb ad ρ) (avO amb ad (ρ.set i (s.put d'))) H (upd H (ad i) u) :=
    ⟨st.tup, fun a xs n e => ⟨(st.lst a xs n e).1, fun z => n (z.imp (av1 a) id)⟩, fun a xs n e => ⟨(st.dK a xs n e).1, fun z => n (z.imp (av1 a) id)⟩, fun a xs n e => ⟨(st.dT a xs n e).1, fun z => n (z.imp (av1 a) id)⟩, st.rng, st.frz⟩
  have other : ∀ {j : Nat} {z : Sl}, j ≠ i → (ρ.set i (s.put d'))[j]? = some z → ρ[j]? = some z := fun {j z} hj h => by rwa [List.getElem?_set_ne (Ne.symm hj)] at h
  have fr : ∀ b o, H0 b = some o → ¬ mrA mr b → b ≠ ad i := fun b o e m z => by
    rcases c with c | c
    · rw [z, (S.new i d c).1] at e; cases e
    · exact m (z ▸ ⟨i, (S.rows i d c).1⟩)
  refine ⟨⟨fun b o e n l m => by rw [upd_ne (fr b o e m)]; exact S.ext.keep b o e n l m, fun _ => S.tb.write h0 ho0, fun _ => S.rw.write (S.nr c), fun b n z => ?_⟩, S.tb.write h0 ho0, S.rw.write (S.nr c), by simpa using S.len, fun a z => ?_, fun a z => ?_, fun j k e f h1 h2 he => ?_, fun j e h => ?_, fun j e h => ?_, fun j e h => ?_, fun j e h => ?_, fun p hp => (S.tmp p hp).stay stw⟩
  · by_cases hb : b = ad i
    · rw [hb, upd_same] at z; cases z
    · rw [upd_ne hb] at z; exact S.ext.there b n z
  · by_cases hb : a = ad i
    · rw [hb, upd_same]; intro z; cases z
    · rw [upd_ne hb]; exact S.ambT a z
  · obtain ⟨j, e, h1, h2⟩ := S.mrIn a z
    by_cases hj : j = i
    · subst hj
      refine ⟨j, d', ?_, h2⟩
      rw [self]
      rw [hs] at h1
      rw [Option.some.inj h1]
      rfl
    · exact ⟨j, e, by rw [List.getElem?_set_ne (Ne.symm hj)]; exact h1, h2⟩
  · rcases back h1 with ⟨e1, _⟩ | ⟨_, g1⟩
    · rcases back h2 with ⟨e2, _⟩ | ⟨_, g2⟩
      · rw [e1, e2]
      · rw [e1] at he ⊢
        exact S.inj _ k _ f c g2 he
    · rcases back h2 with ⟨e2, _⟩ | ⟨_, g2⟩
      · rw [e2] at he ⊢
        exact S.inj j _ e _ g1 c he
      · exact S.inj j k e f g1 g2 he
  · by_cases hj : j = i
    · subst hj
      rw [self] at h
      rcases hc with z | z <;> subst z
      · exact S.new j d hs
      · cases h
    · exact S.new j e (other hj h)
  · by_cases hj : j = i
    · subst hj
      rw [self] at h
      rcases hc with z | z <;> subst z
      · cases h
      · exact S.rows j d hs
    · exact S.rows j e (other hj h)
  · by_cases hj : j = i
    · subst hj
      rw [self] at h
      rcases hc with z | z <;> subst z <;> cases h
    · obtain ⟨v, h1, h2⟩ := S.val j e (other hj h)
      exact ⟨v, h1, h2.stay stw⟩
  · rcases back h with ⟨rfl, rfl⟩ | ⟨hj, h⟩
    · exact ⟨(S.own _ d c).1, o.weak av1⟩
    · obtain ⟨h1, h2⟩ := S.own j e h
      refine ⟨h1, h2.stay stw fun q e n => ?_⟩
      rw [upd_ne fun z => hj (S.inj j i _ _ h c z)]
      exact e
end

/-- a new container -/
def nT (Γ : Gm) (E : XK) (f : Env → Res D) : TE := fun σ H Q => ∃ av ρ, EnvV Γ av H σ ρ ∧ ROk Γ av H (fun H' d v => ∃ p, v = .ref p ∧ H p = none ∧ OwnAt Γ.kr (fun a => av a ∨ a = p) H' d p) (f ρ) Q E
section
variable {X : Cx} {Γ : Gm} {E : XK} {x : Str} {a b c o e : Expr} {es : List Expr} {st : Stmt} {sts : List Stmt} {pos p p2 pos' : Pos} {f fa fb fc : Env → Res D} {ta : Env → Res Bool} {fs : Env → Res (List D)} {k i : Nat} {g g1 g2 : SEnv → Out}
theorem te_of_new (h : PE X a (nT Γ E f)) : PE X a (eT Γ E f) := PE.imp h fun σ H Q ⟨av, ρ, env, h⟩ => ⟨av, ρ, env, h.rel fun d v H1 x ⟨p, hv, hp, ho⟩ => by
  subst hv
  exact (ho.weak fun b z => .inl z).rp fun z => z.elim (fun z => env.wf.av p z hp) fun z => env.wf.row.new hp z⟩
/-! what is new -/
theorem rpl_new {K : Kr} {av : Addr → Prop} {H : Hp} {ds : List D} {vs : List V} {p : Addr} (hp : H p = none) (o : HO) (r : RpL K av H ds vs) : RpL K (fun a => av a ∨ a = p) (upd H p o) ds vs := by
  have up : ∀ {b : Addr} {z : HO}, H b = some z → upd H p o b = some z := fun {b z} e => by rw [upd_ne (ne_of_none e hp)]; exact e
  have nn : ∀ {b : Addr} {z : HO}, H b = some z → ¬ avr K av b → ¬ avr K (fun b => av b ∨ b = p) b := fun {b z} e n q => by
    rcases q with (q | q) | q
    · exact n (.inl q)
    · rw [q, hp] at e; cases e
    · exact n (.inr q)
  exact r.stay ⟨fun _ _ e => up e, fun _ _ n e => ⟨up e, nn e n⟩, fun _ _ n e => ⟨up e, nn e n⟩, fun _ _ n e => ⟨up e, nn e n⟩, fun _ _ _ e => up e, fun _ _ _ e => up e⟩
theorem new_bind {β δ : Type} {av : Addr → Prop} {ρ : Env} {H H1 : Hp} {p : Addr} {ds : List D} {vs : List V} {Q : VK} (x1 : Ext Γ H H1) (h : ROk Γ av H1 (fun H' d v => ∃ p, v = V.ref p ∧ H p = none ∧ OwnAt Γ.kr (fun a => av a ∨ a = p) H' d p) (.ok (.lst ds)) Q E) (hp : H1 p = none) (r : RpL Γ.kr av H1 ds vs) :
    Q (.ref p) (upd H1 p (.lst vs)) := by
  refine h _ _ (Ext.new _ hp) ⟨p, rfl, ?_, vs, upd_same, rpl_new hp _ r⟩
  cases q : H p with
  | none => rfl
  | some u => exact absurd hp (x1.there p (by rw [q]; intro z; cases z))
theorem tn_lst (h : PA X es (aT Γ E fs)) : PE X (.List es pos) (nT Γ E (lstF fs)) :=
  PE.imp (pe_lst h) fun σ H Q ⟨av, ρ, env, h⟩ => aT_bind env h fun ds vs H1 x1 env1 r1 h1 => by
    obtain ⟨hz, h1⟩ := ROk.ifp h1
    exact ⟨by rw [lim_eq, ← r1.length]; exact hz, fun p hp => new_bind (β := Unit) (δ := Unit) (ρ := ρ) x1 h1 hp r1⟩
/-- an empty dict whose keys will be ints and texts; tuples -/
theorem tn_dK : PE X (.Dict [] [] pos) (nT Γ E fun _ => .ok (.dct false [])) := PE.imp pe_dnewK fun σ H Q ⟨av, ρ, env, h⟩ => fun p hp => h _ _ (Ext.new _ hp) ⟨p, rfl, hp, [], upd_same, .nil⟩
theorem tn_dT : PE X (.Dict [] [] pos) (nT Γ E fun _ => .ok (.dct true [])) := PE.imp pe_dnewT fun σ H Q ⟨av, ρ, env, h⟩ => fun p hp => h _ _ (Ext.new _ hp) ⟨p, rfl, hp, [], upd_same, .nil⟩
theorem tn_addL (ha : PE X a (eT Γ E fa)) (hb : PE X b (eT Γ E fb)) : PE X (.BinOp a .Add b pos) (nT Γ E (bin addL fa fb)) :=
  PE.imp (pe_op op_cat ha hb) fun σ H Q ⟨av, ρ, env, h⟩ => eT_bind env h fun d v H1 x1 env1 r1 h1 => eT_bind env1 h1 fun e u H2 x2 env2 r2 h2 => by
    clear h1
    replace r1 := r1.ext x2
    cases r1 <;> first | exact (show False from h2).elim | skip
    cases r2 <;> first | exact (show False from h2).elim | skip
    rename_i a vs ds h1 n1 r1 a' vs' ds' h1' n1' r1'
    obtain ⟨hz, h2⟩ := ROk.ifp h2
    exact ⟨_, _, _, _, rfl, rfl, h1, h1', by rw [lim_eq, ← r1.length, ← r1'.length]; exact hz, fun p hp => new_bind (β := Unit) (δ := Unit) (ρ := ρ) (x1.trans x2) h2 hp (r1.append r1')⟩
theorem tn_mulL (ha : PE X a (eT Γ E fa)) (hb : PE X b (eT Γ E fb)) : PE X (.BinOp a .Mult b pos) (nT Γ E (bin mulL fa fb)) :=
  PE.imp (pe_op op_rep ha hb) fun σ H Q ⟨av, ρ, env, h⟩ => eT_bind env h fun d v H1 x1 env1 r1 h1 => eT_bind env1 h1 fun e u H2 x2 env2 r2 h2 => by
    clear h1
    replace r1 := r1.ext x2
    cases r1 <;> first | exact (show False from h2).elim | skip
    cases r2 <;> first | exact (show False from h2).elim | skip
    rename_i a vs ds h1 n1 r1 i
    obtain ⟨hz, h2⟩ := ROk.ifp h2
    exact ⟨_, _, _, rfl, rfl, h1, hz.1.1, hz.1.2, by rw [lim_eq, ← r1.length]; exact hz.2, fun p hp => new_bind (β := Unit) (δ := Unit) (ρ := ρ) (x1.trans x2) h2 hp (r1.reps _)⟩
theorem tn_list (hm : X.mg "list" = none) (ha : PE X a (eT Γ E fa)) (hg : Gl X "list" := by rfl) (he : starEach [a] X.env = (false, eval a X.env) :: starEach [] X.env := by rfl) (hK : X.K = Γ.K := by rfl) :
    PE X (.Call (.Name "list" p) [a] [] pos) (nT Γ E (app (on1 D.toLst) (consA fa nilA))) :=
  PE.imp (pe_callTy call_list_of hg hm boot_list (ta_cons ha ta_nil he) (he := he)) fun σ H Q ⟨av, ρ, env, h⟩ => aT_bind env h fun ds vs H1 x1 env1 r1 h1 => by
    rw [hK]
    cases r1 with
    | nil => exact (show False from h1).elim
    | cons r1 r2 =>
      cases r2 with
      | cons _ _ => exact (show False from h1).elim
      | nil =>
        cases r1 with
        | @tup a vs ds g1 g2 => exact ⟨_, _, rfl, .inr (SqT.of g1), fun p hp => new_bind (β := Unit) (δ := Unit) (ρ := ρ) x1 h1 hp g2⟩
        | @ftp a o vs ds g1 n g2 => exact ⟨_, _, rfl, .inr (.inl (.inr ⟨o, g1⟩)), fun p hp => new_bind (β := Unit) (δ := Unit) (ρ := ρ) x1 h1 hp g2⟩
        | @lst a vs ds g1 n g2 => exact ⟨_, _, rfl, .inl (SqL.of g1), fun p hp => new_bind (β := Unit) (δ := Unit) (ρ := ρ) x1 h1 hp g2⟩
        | _ => exact (show False from h1).elim

/-! ### blocks -/
def Out.then : Out → (SEnv → Out) → Out
  | .nx ρ, k => k ρ
  | .rt d ρ, _ => .rt d ρ
  | .bk ρ, _ => .bk ρ
  | .ct ρ, _ => .ct ρ
  | .ex c f, _ => .ex c f
  | .no, _ => .no
  | .dr n j, k => .dr n fun i => (j i).then k
def seqO (g1 g2 : SEnv → Out) : SEnv → Out := fun ρ => (g1 ρ).then g2
theorem SOk.then {amb : Addr → Prop} {mr : Mr} {H0 : Hp} {tmp : List (V × D)} {Z : Ends} {k : SEnv → Out} {N : St → Hp → Prop} (hN : ∀ ρ', SOk Γ amb H0 mr tmp (k ρ') Z E → ∀ σ' H', SA Γ amb H0 mr tmp σ' H' ρ' → N σ' H') : ∀ {r : Out}, SOk Γ amb H0 mr tmp (r.then k) Z E → SOk Γ amb H0 mr tmp r { Z with nx := N } E
  | .nx ρ', h => hN ρ' h
  | .rt d ρ', h => h
  | .bk ρ', h => h
  | .ct ρ', h => h
  | .ex c f, h => h
  | .no, h => h
  | .dr n j, h => fun i h1 h2 => SOk.then hN (h i h1 h2)
theorem ts_nil : PSs X [] (sT Γ E .nx) := PSs.imp pss_nil fun Z σ H ⟨amb, H0, mr, tmp, ρ, S, h⟩ => h σ H S
theorem ts_one (h : PS X st (sT Γ E g)) : PSs X [st] (sT Γ E g) := pss_one h
theorem ts_cons (h1 : PS X st (sT Γ E g1)) (h2 : PSs X sts (sT Γ E g2)) : PSs X (st :: sts) (sT Γ E (seqO g1 g2)) :=
  PSs.imp (pss_cons h1 h2) fun Z σ H ⟨amb, H0, mr, tmp, ρ, S, h⟩ => ⟨amb, H0, mr, tmp, ρ, S, SOk.then (fun ρ' h σ' H' S' => ⟨amb, H0, mr, tmp, ρ', S', h⟩) h⟩
theorem ts_pass : PS X (.Pass pos) (sT Γ E .nx) := PS.imp ps_pass fun Z σ H ⟨amb, H0, mr, tmp, ρ, S, h⟩ => h σ H S
theorem ts_break : PS X (.Break pos) (sT Γ E .bk) := PS.imp ps_break fun Z σ H ⟨amb, H0, mr, tmp, ρ, S, h⟩ => h σ H S
theorem ts_continue : PS X (.Continue pos) (sT Γ E .ct) := PS.imp ps_continue fun Z σ H ⟨amb, H0, mr, tmp, ρ, S, h⟩ => h σ H S
/-- from an expression to a statement -/
def bindO {α : Type} : Res α → (α → Out) → Out
  | .ok d, k => k d
  | .ex c f, _ => .ex c f
  | .no, _ => .no
  | .dr n j, k => .dr n fun i => bindO (j i) k
theorem SOk_ex {amb : Addr → Prop} {mr : Mr} {H0 H : Hp} {tmp : List (V × D)} {ad : Nat → Addr} {σ : St} {ρ : SEnv} {Z : Ends} {c : Str} {f : Option (Str × V)} (S : SAd Γ amb H0 mr tmp ad σ H ρ) (h : SOk Γ amb H0 mr tmp (.ex c f) Z E) : ExOk Γ H E c f := h H S.ext S.tb
theorem SOk.bind {α γ : Type} {amb : Addr → Prop} {mr : Mr} {H0 H : Hp} {tmp : List (V × D)} {ad : Nat → Addr} {σ : St} {ρ : SEnv} {Z : Ends} {av : Addr → Prop} {rel : Hp → α → γ → Prop} {kk : α → Out} {R : γ → Hp → Prop} (S : SAd Γ amb H0 mr tmp ad σ H ρ) : ∀ {r : Res α}, SOk Γ amb H0 mr tmp (bindO r kk) Z E →
    (∀ d v H1, Ext Γ H H1 → SAd Γ amb H0 mr tmp ad σ H1 ρ → rel H1 d v → SOk Γ amb H0 mr tmp (kk d) Z E → R v H1) → ROk Γ av H rel r R E
  | .ok d, h, hk => fun v H1 x r => hk d v H1 x (S.ext_ x) r h
  | .ex c f, h, hk => SOk_ex S h
  | .no, h, hk => h
  | .dr n k, h, hk => fun i h1 h2 => SOk.bind S (h i h1 h2) hk
theorem eT_out {amb : Addr → Prop} {mr : Mr} {H0 H : Hp} {tmp : List (V × D)} {ad : Nat → Addr} {σ : St} {ρ : SEnv} {Z : Ends} {av : Addr → Prop} {ρe : Env} {kk : D → Out} {R : VK} (S : SAd Γ amb H0 mr tmp ad σ H ρ) (env : EnvV Γ av H σ ρe) (h : SOk Γ amb H0 mr tmp (bindO (f ρe) kk) Z E)
    (hk : ∀ d v H1, Ext Γ H H1 → SAd Γ amb H0 mr tmp ad σ H1 ρ → Rp Γ.kr av H1 d v → SOk Γ amb H0 mr tmp (kk d) Z E → R v H1) : eT Γ E f σ H R := ⟨av, ρe, env, SOk.bind S h hk⟩
theorem nT_out {amb : Addr → Prop} {mr : Mr} {H0 H : Hp} {tmp : List (V × D)} {ad : Nat → Addr} {σ : St} {ρ : SEnv} {Z : Ends} {av : Addr → Prop} {ρe : Env} {kk : D → Out} {R : VK} (S : SAd Γ amb H0 mr tmp ad σ H ρ) (env : EnvV Γ av H σ ρe) (h : SOk Γ amb H0 mr tmp (bindO (f ρe) kk) Z E)
    (hk : ∀ d q H1, Ext Γ H H1 → H q = none → OwnAt Γ.kr (fun a => av a ∨ a = q) H1 d q → SOk Γ amb H0 mr tmp (kk d) Z E → R (.ref q) H1) : nT Γ E f σ H R := ⟨av, ρe, env, SOk.bind S h fun d v H1 x _ r h1 => by
  obtain ⟨z, rfl, hz, ho⟩ := r
  exact hk d z H1 x hz ho h1⟩
theorem bT_out {amb : Addr → Prop} {mr : Mr} {H0 H : Hp} {tmp : List (V × D)} {ad : Nat → Addr} {σ : St} {ρ : SEnv} {Z : Ends} {av : Addr → Prop} {ρe : Env} {kk : Bool → Out} {R : Bool → Hp → Prop} (S : SAd Γ amb H0 mr tmp ad σ H ρ) (env : EnvV Γ av H σ ρe) (h : SOk Γ amb H0 mr tmp (bindO (ta ρe) kk) Z E)
    (hk : ∀ d H1, Ext Γ H H1 → SAd Γ amb H0 mr tmp ad σ H1 ρ → SOk Γ amb H0 mr tmp (kk d) Z E → R d H1) : bT Γ E ta σ H R := ⟨av, ρe, env, SOk.bind S h fun d v H1 x S1 r h1 => by
  subst r
  exact hk d H1 x S1 h1⟩
/-- an expression whose value is dropped -/
theorem ts_expr (h : PE X e (eT Γ E f)) (hs : swapsWith e none pos.line X.env = pure false := by rfl) : PS X (.Expr e pos) (sT Γ E fun ρ => bindO (f ρ.all) fun _ => .nx ρ) :=
  PS.imp (ps_expr h hs) fun Z σ H ⟨amb, H0, mr, tmp, ρ, ⟨ad, S⟩, h⟩ => eT_out S S.envAll h fun d v H1 x S1 r1 h1 => h1 σ H1 ⟨ad, S1⟩
/-! return -/
def purO (d : D) (k : Out) : Out := if d.pure = true then k else .no
theorem SOk.ifp {amb : Addr → Prop} {mr : Mr} {H0 : Hp} {tmp : List (V × D)} {Z : Ends} {q : Prop} [Decidable q] {r : Out} (h : SOk Γ amb H0 mr tmp (if q then r else .no) Z E) : q ∧ SOk Γ amb H0 mr tmp r Z E := by
  by_cases z : q
  · rw [if_pos z] at h; exact ⟨z, h⟩
  · rw [if_neg z] at h; exact h.elim
/-- of a value without lists and dicts, whatever it is reckoned from -/
theorem ts_retP (h : PE X e (eT Γ E f)) : PS X (.Return (some e) pos) (sT Γ E fun ρ => bindO (f ρ.all) fun d => purO d (.rt d ρ)) :=
  PS.imp (ps_ret h) fun Z σ H ⟨amb, H0, mr, tmp, ρ, ⟨ad, S⟩, h⟩ => eT_out S S.envAll h fun d v H1 x S1 r1 h1 => by
    obtain ⟨hp, h1⟩ := SOk.ifp h1
    exact h1 v σ H1 ad (S1.tmps fun p hp => absurd hp (by simp)) (r1.pureUp hp)
/-- of any value: nothing handed in is changed here -/
def noRows (ρ : SEnv) (k : Out) : Out := k
theorem ts_ret (h : PE X e (eT Γ E f)) : PS X (.Return (some e) pos) (sT Γ E fun ρ => bindO (f ρ.noRow) fun d => .rt d ρ) := by
  refine PS.imp (ps_ret h) fun Z σ H ⟨amb, H0, mr, tmp, ρ, ⟨ad, S⟩, h⟩ => ?_
  exact eT_out S S.envRet h fun d v H1 x S1 r1 h1 => h1 v σ H1 ad (S1.tmps fun p hp => absurd hp (by simp)) r1
end
end Fw
end
set_option Elab.async false
set_option linter.all false
set_option autoImplicit false
set_option maxRecDepth 100000
set_option maxHeartbeats 4000000
/-! Fw6: stores, targets, branches, loops. -/
noncomputable section
namespace Fw
open PySem PySem.Spec PyProof.Rows L2

/-! ### stores -/
def setO (ρ : SEnv) (i : Nat) (s : Sl) : Out := if isRow ρ i = false then .nx (ρ.set i s) else .no
def purC : D → Bool
  | .lst ds => D.pureL ds
  | .dct _ ds => ds.all fun p => p.2.pure
  | _ => false
theorem RpK.pureUp {K : Kr} {av av' : Addr → Prop} {H : Hp} : ∀ {ds : List (D × D)} {vs : List (Key × V)}, (ds.all fun p => p.2.pure) = true → RpK K av H ds vs → RpK K av' H ds vs
  | _, _, _, .nil => .nil
  | _, _, p, .cons h r => by
    rw [List.all_cons, Bool.and_eq_true] at p
    exact .cons (h.pureUp p.1) (RpK.pureUp p.2 r)
theorem RpT.pureUp {K : Kr} {av av' : Addr → Prop} {H : Hp} : ∀ {ds : List (D × D)} {vs : List (List Key × V)}, (ds.all fun p => p.2.pure) = true → RpT K av H ds vs → RpT K av' H ds vs
  | _, _, _, .nil => .nil
  | _, _, p, .cons h r => by
    rw [List.all_cons, Bool.and_eq_true] at p
    exact .cons (h.pureUp p.1) (RpT.pureUp p.2 r)
theorem OwnAt.pureUp {K : Kr} {av av' : Addr → Prop} {H : Hp} {d : D} {a : Addr} (p : purC d = true) (h : OwnAt K av H d a) : OwnAt K av' H d a := by
  cases d with
  | lst ds => obtain ⟨vs, h1, h2⟩ := h; exact ⟨vs, h1, h2.pureUp p⟩
  | dct t ds =>
    cases t <;> obtain ⟨vs, h1, h2⟩ := h
    · exact ⟨vs, h1, h2.pureUp p⟩
    · exact ⟨vs, h1, h2.pureUp p⟩
  | _ => exact (show False from h).elim
section
variable {X : Cx} {Γ : Gm} {E : XK} {x : Str} {a b c o e : Expr} {es : List Expr} {st : Stmt} {sts body : List Stmt} {pos p p2 pos' pos'' : Pos} {f fa fb fc : Env → Res D} {ta : Env → Res Bool} {fs : Env → Res (List D)} {k : Nat} {g g1 g2 : SEnv → Out}
/-- x = e, a value without lists and dicts -/
theorem ts_set (i : Nat) (h : PE X e (eT Γ E f)) (hN : X.N.Nodup) (hi : X.N[i]? = some x := by rfl) (hx : Loc X.env.scope x := by first | exact Or.inl rfl | exact Or.inr rfl) (hs : swapsWith e (some (.Name x pos')) pos.line X.env = pure false := by rfl) (hf : X.fn x = true ∨ X.env.scope.names.lookup x = some .local := by first | exact .inl rfl | exact .inr rfl) :
    PS X (.Assign [.Name x pos'] e pos) (sT Γ E fun ρ => bindO (f ρ.all) fun d => purO d (setO ρ i (.val d))) :=
  PS.imp (ps_set hN hi hx h hs hf) fun Z σ H ⟨amb, H0, mr, tmp, ρ, ⟨ad, S⟩, h⟩ => eT_out S S.envAll h fun d v H1 x S1 r1 h1 => by
    obtain ⟨hp, h1⟩ := SOk.ifp h1
    obtain ⟨hr, h1⟩ := SOk.ifp h1
    exact h1 _ H1 ⟨ad, S1.setVal hr (r1.pureUp hp)⟩
/-- x = e, any value; e reads no container of the frame's own -/
theorem ts_setV (i : Nat) (h : PE X e (eT Γ E f)) (hN : X.N.Nodup) (hi : X.N[i]? = some x := by rfl) (hx : Loc X.env.scope x := by first | exact Or.inl rfl | exact Or.inr rfl) (hs : swapsWith e (some (.Name x pos')) pos.line X.env = pure false := by rfl) (hf : X.fn x = true ∨ X.env.scope.names.lookup x = some .local := by first | exact .inl rfl | exact .inr rfl) :
    PS X (.Assign [.Name x pos'] e pos) (sT Γ E fun ρ => bindO (f ρ.vis) fun d => setO ρ i (.val d)) :=
  PS.imp (ps_set hN hi hx h hs hf) fun Z σ H ⟨amb, H0, mr, tmp, ρ, ⟨ad, S⟩, h⟩ => eT_out S S.envVis h fun d v H1 x S1 r1 h1 => by
    obtain ⟨hr, h1⟩ := SOk.ifp h1
    exact h1 _ H1 ⟨ad, S1.setVal hr r1⟩
/-- x = e, a new container of values without lists and dicts -/
theorem ts_new (i : Nat) (h : PE X e (nT Γ E f)) (hN : X.N.Nodup) (hi : X.N[i]? = some x := by rfl) (hx : Loc X.env.scope x := by first | exact Or.inl rfl | exact Or.inr rfl) (hs : swapsWith e (some (.Name x pos')) pos.line X.env = pure false := by rfl) (hf : X.fn x = true ∨ X.env.scope.names.lookup x = some .local := by first | exact .inl rfl | exact .inr rfl) :
    PS X (.Assign [.Name x pos'] e pos) (sT Γ E fun ρ => bindO (f ρ.all) fun d => if purC d = true then setO ρ i (.own d) else .no) :=
  PS.imp (ps_set hN hi hx h hs hf) fun Z σ H ⟨amb, H0, mr, tmp, ρ, ⟨ad, S⟩, h⟩ => nT_out S S.envAll h fun d q H1 x hq ho h1 => by
    obtain ⟨hp, h1⟩ := SOk.ifp h1
    obtain ⟨hr, h1⟩ := SOk.ifp h1
    exact h1 _ H1 (S.setNew hr x hq (ho.pureUp hp))
/-- x = e, a new container of any values; e reads no container of the frame's own -/
theorem ts_newV (i : Nat) (h : PE X e (nT Γ E f)) (hN : X.N.Nodup) (hi : X.N[i]? = some x := by rfl) (hx : Loc X.env.scope x := by first | exact Or.inl rfl | exact Or.inr rfl) (hs : swapsWith e (some (.Name x pos')) pos.line X.env = pure false := by rfl) (hf : X.fn x = true ∨ X.env.scope.names.lookup x = some .local := by first | exact .inl rfl | exact .inr rfl) :
    PS X (.Assign [.Name x pos'] e pos) (sT Γ E fun ρ => bindO (f ρ.vis) fun d => setO ρ i (.own d)) :=
  PS.imp (ps_set hN hi hx h hs hf) fun Z σ H ⟨amb, H0, mr, tmp, ρ, ⟨ad, S⟩, h⟩ => nT_out S S.envVis h fun d q H1 x hq ho h1 => by
    obtain ⟨hr, h1⟩ := SOk.ifp h1
    exact h1 _ H1 (S.setNew hr x hq ho)
/-! the frame's own containers change -/
def contOf (ρ : SEnv) (i : Nat) : Res D := match ρ[i]? with | some (.own d) => .ok d | some (.row d) => .ok d | _ => .no
def putO (ρ : SEnv) (i : Nat) (d : D) : Out := match ρ[i]? with | some s => .nx (ρ.set i (s.put d)) | none => .no
theorem cont_out {amb : Addr → Prop} {mr : Mr} {H0 H : Hp} {tmp : List (V × D)} {ad : Nat → Addr} {σ : St} {ρ : SEnv} {Z : Ends} {i : Nat} {kk : D → Out} (S : SAd Γ amb H0 mr tmp ad σ H ρ) (h : SOk Γ amb H0 mr tmp (bindO (contOf ρ i) kk) Z E) :
    ∃ s d, ρ[i]? = some s ∧ (s = .own d ∨ s = .row d) ∧ Cont ρ i d ∧ SOk Γ amb H0 mr tmp (kk d) Z E := by
  unfold contOf at h
  cases q : ρ[i]? with
  | none => simp only [q] at h; exact (show False from h).elim
  | some s =>
    simp only [q] at h
    cases s with
    | dead => exact (show False from h).elim
    | val d => exact (show False from h).elim
    | own d => exact ⟨_, d, rfl, .inl rfl, .inl q, h⟩
    | row d => exact ⟨_, d, rfl, .inr rfl, .inr q, h⟩
theorem putO_out {amb : Addr → Prop} {mr : Mr} {H0 H : Hp} {tmp : List (V × D)} {ad : Nat → Addr} {σ : St} {ρ : SEnv} {Z : Ends} {i : Nat} {s : Sl} {d d' : D} {u : HO} (S : SAd Γ amb H0 mr tmp ad σ H ρ) (hs : ρ[i]? = some s) (hc : s = .own d ∨ s = .row d)
    (h : SOk Γ amb H0 mr tmp (putO ρ i d') Z E) (o : OwnAt Γ.kr (avO amb ad ρ) (upd H (ad i) u) d' (ad i)) : Z.nx σ (upd H (ad i) u) := by
  unfold putO at h
  rw [hs] at h
  exact h σ _ ⟨ad, S.write hs hc o⟩
/-- items that stand while the list at a is written -/
theorem rpl_write {K : Kr} {av : Addr → Prop} {H : Hp} {a : Addr} {o u : HO} {ds : List D} {vs : List V} (h : H a = some o) (ho : contO o) (n : av a) (r : RpL K av H ds vs) : RpL K av (upd H a u) ds vs := r.stay (Stay.write h ho n)
theorem rp_write {K : Kr} {av : Addr → Prop} {H : Hp} {a : Addr} {o u : HO} {d : D} {v : V} (h : H a = some o) (ho : contO o) (n : av a) (r : Rp K av H d v) : Rp K av (upd H a u) d v := r.stay (Stay.write h ho n)
/-- x.append(e): a value without lists and dicts -/
def appO (f : Env → Res D) (i : Nat) : SEnv → Out := fun ρ => bindO (contOf ρ i) fun l => match l with | .lst ds => bindO (f ρ.all) fun d => purO d (if ds.length < lim then putO ρ i (.lst (ds ++ [d])) else .no) | _ => .no
/-- .. any value -/
def appVO (f : Env → Res D) (i : Nat) : SEnv → Out := fun ρ => bindO (contOf ρ i) fun l => match l with | .lst ds => bindO (f ρ.vis) fun d => if ds.length < lim then putO ρ i (.lst (ds ++ [d])) else .no | _ => .no
theorem app_run {i : Nat} {apos np : Pos} (h : PE X e (eT Γ E f)) (hi : X.N[i]? = some x) (hv : Vis X.env.scope x) (hd : (x == ("__debug__" : Str)) = false) (hcd : (x == ("__classdict__" : Str)) = false)
    (hfew : ((backTo pos' (starEach [e] X.env)).all (fun x => !x.1) && (backToKw pos' (keywordEach [] X.env)).all (fun x => x.1.isSome) && decide ([e].length + ([] : List Keyword).length + (if ([] : List Keyword).isEmpty then 0 else 1) < 30)) = true)
    (hline : (apos.endLine == pos'.line) = true) (he : starEach [e] X.env = (false, eval e X.env) :: starEach [] X.env) (hs : swapsWith (.Call (.Attribute (.Name x np) "append" apos) [e] [] pos') none pos.line X.env = pure false)
    (hb : attributeBase (.Name x np) "append" X.env (eval (.Name x np) X.env) = eval (.Name x np) X.env) :
    PS X (.Expr (.Call (.Attribute (.Name x np) "append" apos) [e] [] pos') pos) (tDrop (tBM X.K "list" rAppend (tVar i) (tCons (eT Γ E f) tNil))) :=
  ps_expr (pe_bm PySem.F.plainAttrs_list PySem.F.slot_list_append PySem.F.type_list_append mt_append (pv i hi hv hd hcd) (pa_cons h pa_nil he) hb hfew hline he) hs
theorem ts_app (i : Nat) {apos np : Pos} (h : PE X e (eT Γ E f)) (hi : X.N[i]? = some x := by rfl) (hv : Vis X.env.scope x := by first | exact Or.inl rfl | exact Or.inr (Or.inl rfl) | exact Or.inr (Or.inr rfl)) (hd : (x == ("__debug__" : Str)) = false := by decide) (hcd : (x == ("__classdict__" : Str)) = false := by decide)
    (hfew : ((backTo pos' (starEach [e] X.env)).all (fun x => !x.1) && (backToKw pos' (keywordEach [] X.env)).all (fun x => x.1.isSome) && decide ([e].length + ([] : List Keyword).length + (if ([] : List Keyword).isEmpty then 0 else 1) < 30)) = true := by rfl)
    (hline : (apos.endLine == pos'.line) = true := by rfl) (he : starEach [e] X.env = (false, eval e X.env) :: starEach [] X.env := by rfl) (hs : swapsWith (.Call (.Attribute (.Name x np) "append" apos) [e] [] pos') none pos.line X.env = pure false := by rfl)
    (hb : attributeBase (.Name x np) "append" X.env (eval (.Name x np) X.env) = eval (.Name x np) X.env := by rfl) :
    PS X (.Expr (.Call (.Attribute (.Name x np) "append" apos) [e] [] pos') pos) (sT Γ E (appO f i)) := by
  refine PS.imp (app_run h hi hv hd hcd hfew hline he hs hb) fun Z σ H ⟨amb, H0, mr, tmp, ρ, ⟨ad, S⟩, h⟩ => ?_
  obtain ⟨s, l, hs, hc, c, h⟩ := cont_out S h
  obtain ⟨g1, g2⟩ := S.own i l c
  have hav : avO amb ad ρ (ad i) := .inr ⟨i, l, c, rfl⟩
  cases l with
  | lst ds =>
    obtain ⟨vs, g3, g4⟩ := g2
    refine ⟨_, g1, .inl ⟨rfl, vs, SqL.of g3⟩, ?_⟩
    refine eT_out S S.envAll h fun d v H1 x1 S1 r1 h1 => ?_
    obtain ⟨hp, h1⟩ := SOk.ifp h1
    obtain ⟨hz, h1⟩ := SOk.ifp h1
    have g3' := x1.keepL g3 (S.notRow c)
    exact ⟨_, vs, v, rfl, rfl, g3', by rw [lim_eq, ← g4.length]; exact hz, putO_out S1 hs hc h1 ⟨_, upd_same, (rpl_write g3' True.intro hav (g4.ext x1)).append (.cons (rp_write g3' True.intro hav (r1.pureUp hp)) .nil)⟩⟩
  | _ => exact (show False from h).elim
theorem ts_appV (i : Nat) {apos np : Pos} (h : PE X e (eT Γ E f)) (hi : X.N[i]? = some x := by rfl) (hv : Vis X.env.scope x := by first | exact Or.inl rfl | exact Or.inr (Or.inl rfl) | exact Or.inr (Or.inr rfl)) (hd : (x == ("__debug__" : Str)) = false := by decide) (hcd : (x == ("__classdict__" : Str)) = false := by decide)
    (hfew : ((backTo pos' (starEach [e] X.env)).all (fun x => !x.1) && (backToKw pos' (keywordEach [] X.env)).all (fun x => x.1.isSome) && decide ([e].length + ([] : List Keyword).length + (if ([] : List Keyword).isEmpty then 0 else 1) < 30)) = true := by rfl)
    (hline : (apos.endLine == pos'.line) = true := by rfl) (he : starEach [e] X.env = (false, eval e X.env) :: starEach [] X.env := by rfl) (hs : swapsWith (.Call (.Attribute (.Name x np) "append" apos) [e] [] pos') none pos.line X.env = pure false := by rfl)
    (hb : attributeBase (.Name x np) "append" X.env (eval (.Name x np) X.env) = eval (.Name x np) X.env := by rfl) :
    PS X (.Expr (.Call (.Attribute (.Name x np) "append" apos) [e] [] pos') pos) (sT Γ E (appVO f i)) := by
  refine PS.imp (app_run h hi hv hd hcd hfew hline he hs hb) fun Z σ H ⟨amb, H0, mr, tmp, ρ, ⟨ad, S⟩, h⟩ => ?_
  obtain ⟨s, l, hs, hc, c, h⟩ := cont_out S h
  obtain ⟨g1, g2⟩ := S.own i l c
  have hav : avO amb ad ρ (ad i) := .inr ⟨i, l, c, rfl⟩
  cases l with
  | lst ds =>
    obtain ⟨vs, g3, g4⟩ := g2
    refine ⟨_, g1, .inl ⟨rfl, vs, SqL.of g3⟩, ?_⟩
    refine eT_out S S.envVis h fun d v H1 x1 S1 r1 h1 => ?_
    obtain ⟨hz, h1⟩ := SOk.ifp h1
    have g3' := x1.keepL g3 (S.notRow c)
    exact ⟨_, vs, v, rfl, rfl, g3', by rw [lim_eq, ← g4.length]; exact hz, putO_out S1 hs hc h1 ⟨_, upd_same, (rpl_write g3' True.intro hav (g4.ext x1)).append (.cons (rp_write g3' True.intro hav r1) .nil)⟩⟩
  | _ => exact (show False from h).elim
/-- x[j] = e of a list of one's own: values without lists and dicts -/
def setiO (f : Env → Res D) (i : Nat) (fj : Env → Res D) : SEnv → Out := fun ρ => bindO (f ρ.all) fun d => purO d (bindO (contOf ρ i) fun l => match l with
  | .lst ds => bindO (fj ρ.all) fun j => match j with | .int j => (match ixN ds.length j with | some n => putO ρ i (.lst (ds.set n d)) | none => .no) | _ => .no
  | _ => .no)
theorem ts_seti (i : Nat) {np : Pos} (h : PE X e (eT Γ E f)) (hj : PE X b (eT Γ E fb)) (hi : X.N[i]? = some x := by rfl) (hv : Vis X.env.scope x := by first | exact Or.inl rfl | exact Or.inr (Or.inl rfl) | exact Or.inr (Or.inr rfl)) (hd : (x == ("__debug__" : Str)) = false := by decide) (hcd : (x == ("__classdict__" : Str)) = false := by decide)
    (ha : ∀ v, assign (.Subscript (.Name x np) b pos') X.env v = (do
      let ov ← holding [v] (eval (.Name x np) X.env)
      let iv ← holding [v, ov] (eval b X.env)
      standAt pos'
      holding [v, ov, iv] (setItem ov iv v)
      release [v, ov, iv] []) := by intro _; rfl)
    (hs : swapsWithSole [.Subscript (.Name x np) b pos'] e pos.line X.env = pure false := by rfl) (hw : swappedStores [.Subscript (.Name x np) b pos'] e X.env = pure none := by rfl)
    (h1 : (assignEach [.Subscript (.Name x np) b pos'] X.env).map (·.2) = [assign (.Subscript (.Name x np) b pos') X.env] := by rfl) :
    PS X (.Assign [.Subscript (.Name x np) b pos'] e pos) (sT Γ E (setiO f i fb)) := by
  refine PS.imp (ps_asg h (pg_sub (pv i hi hv hd hcd) hj set_list ha) hs hw h1) fun Z σ H ⟨amb, H0, mr, tmp, ρ, ⟨ad, S⟩, h⟩ => ?_
  refine eT_out S S.envAll h fun d v H1 x1 S1 r1 h1 => ?_
  obtain ⟨hp, h1⟩ := SOk.ifp h1
  obtain ⟨s, l, hs, hc, c, h1⟩ := cont_out S1 h1
  obtain ⟨g1, g2⟩ := S1.own i l c
  have hav : avO amb ad ρ (ad i) := .inr ⟨i, l, c, rfl⟩
  cases l with
  | lst ds =>
    obtain ⟨vs, g3, g4⟩ := g2
    refine ⟨_, g1, ?_⟩
    refine eT_out S1 S1.envAll h1 fun j w H2 x2 S2 r2 h2 => ?_
    cases r2 with
    | int j =>
      cases q : ixN ds.length j with
      | none => simp only [q] at h2; exact (show False from h2).elim
      | some n =>
        simp only [q] at h2
        have g3' := x2.keepL g3 (S1.notRow c)
        exact ⟨_, vs, j, n, rfl, rfl, g3', by rw [← g4.length]; exact q, putO_out S2 hs hc h2 ⟨_, upd_same, (rpl_write g3' True.intro hav (g4.ext x2)).set (rp_write g3' True.intro hav ((r1.pureUp hp).ext x2)) n⟩⟩
    | _ => exact (show False from h2).elim
  | _ => exact (show False from h1).elim
/-- x += e of a whole number, a text -/
def augO (f : Env → Res D) (i : Nat) (g : D → D → Res D) : SEnv → Out := fun ρ => bindO (vr ρ.all i) fun a => bindO (f ρ.all) fun b => bindO (g a b) fun d => purO d (setO ρ i (.val d))
theorem vr_rp {av : Addr → Prop} {H : Hp} {σ : St} {ρ : Env} {i : Nat} {d : D} (env : EnvV Γ av H σ ρ) (h : vr ρ i = .ok d) : ∃ v, σ[i]? = some (some v) ∧ Rp Γ.kr av H d v := by
  unfold vr at h
  split at h
  · rename_i d' e
    cases h
    exact env.at_ i _ e
  · cases h
theorem bindO_vr {amb : Addr → Prop} {mr : Mr} {H0 : Hp} {tmp : List (V × D)} {Z : Ends} {ρ : Env} {i : Nat} {k : D → Out} (h : SOk Γ amb H0 mr tmp (bindO (vr ρ i) k) Z E) : ∃ d, vr ρ i = .ok d ∧ SOk Γ amb H0 mr tmp (k d) Z E := by
  unfold vr at h ⊢
  split at h
  · rename_i d e
    exact ⟨d, rfl, h⟩
  · exact (show False from h).elim
theorem ip_or {op : Operator} {t t' : TIp} (h : PIp X op t) (h' : PIp X op t') : PIp X op (fun x y H Q => t x y H Q ∨ t' x y H Q) := fun pins s σ H x y v u Q I rx ry q => q.elim (h pins s σ H x y v u Q I rx ry) (h' pins s σ H x y v u Q I rx ry)
theorem ip_addS : PIp X .Add (fun x y H Q => ∃ i j, x = .str i ∧ y = .str j ∧ i.length + j.length ≤ sizeLine ∧ Q (.str (i ++ j)) H) := fun pins s σ H x y v u Q I rx ry q => iop_add_str pins s σ H x y v u Q I rx ry q
theorem ip_mulW : PIp X .Mult (rI CMulW fun i j => .int (i * j)) := fun pins s σ H x y v u Q I rx ry q =>
  opI (fun _ _ _ _ _ _ _ hc q => imul_int q hc.ok) pins s σ H x y v u Q I rx ry q
theorem ts_aug {op : Operator} {t : TIp} {g : D → D → Res D} (i : Nat) (h : PE X e (eT Γ E f)) (hp : PIp X op t) (hg : Fit2 Γ E t g) (hN : X.N.Nodup) (hi : X.N[i]? = some x := by rfl) (hx : Loc X.env.scope x := by first | exact Or.inl rfl | exact Or.inr rfl) (hf : X.fn x = true ∨ X.env.scope.names.lookup x = some .local := by first | exact .inl rfl | exact .inr rfl) :
    PS X (.AugAssign (.Name x pos') op e pos) (sT Γ E (augO f i g)) := by
  refine PS.imp (ps_aug hN hi hx h hp hf) fun Z σ H ⟨amb, H0, mr, tmp, ρ, ⟨ad, S⟩, h⟩ => ?_
  obtain ⟨a, ea, h⟩ := bindO_vr h
  obtain ⟨v, g1, r0⟩ := vr_rp S.envAll ea
  refine ⟨v, g1, ?_⟩
  refine eT_out S S.envAll h fun d w H1 x1 S1 r1 h1 => ?_
  refine hg _ H1 a d v w _ S1.envAll.wf (r0.ext x1) r1 (SOk.bind S1 h1 fun z y H2 x2 S2 r2 h2 => ?_)
  obtain ⟨hpz, h2⟩ := SOk.ifp h2
  obtain ⟨hr, h2⟩ := SOk.ifp h2
  exact h2 _ H2 ⟨ad, S2.setVal hr (r2.pureUp hpz)⟩
def addIS : D → D → Res D := fun a b => match a with | .int _ => addI a b | .str _ => addS a b | _ => .no
theorem ts_augAdd (i : Nat) (h : PE X e (eT Γ E f)) (hN : X.N.Nodup) (hi : X.N[i]? = some x := by rfl) (hx : Loc X.env.scope x := by first | exact Or.inl rfl | exact Or.inr rfl) (hf : X.fn x = true ∨ X.env.scope.names.lookup x = some .local := by first | exact .inl rfl | exact .inr rfl) :
    PS X (.AugAssign (.Name x pos') .Add e pos) (sT Γ E (augO f i addIS)) :=
  ts_aug i h (ip_or ip_add ip_addS) (Fit2.or (f := addI) (f' := addS) fit_addI fit_addS fun a b => by cases a <;> first | exact .inl rfl | exact .inr rfl) hN hi hx hf
theorem ts_augMul (i : Nat) (h : PE X e (eT Γ E f)) (hN : X.N.Nodup) (hi : X.N[i]? = some x := by rfl) (hx : Loc X.env.scope x := by first | exact Or.inl rfl | exact Or.inr rfl) (hf : X.fn x = true ∨ X.env.scope.names.lookup x = some .local := by first | exact .inl rfl | exact .inr rfl) :
    PS X (.AugAssign (.Name x pos') .Mult e pos) (sT Γ E (augO f i mulI)) :=
  ts_aug i h ip_mulW fit_mulI hN hi hx hf

/-! ### branches -/
def ifO (t : Env → Res Bool) (g1 g2 : SEnv → Out) : SEnv → Out := fun ρ => bindO (t ρ.all) fun b => if b then g1 ρ else g2 ρ
theorem ts_if (ht : PT X c (bT Γ E ta)) (h1 : PSs X sts (sT Γ E g1)) (h2 : PSs X body (sT Γ E g2)) : PS X (.If c sts body pos) (sT Γ E (ifO ta g1 g2)) :=
  PS.imp (ps_if ht h1 h2) fun Z σ H ⟨amb, H0, mr, tmp, ρ, ⟨ad, S⟩, h⟩ => bT_out S S.envAll h fun b H1 x1 S1 h1 => by
    cases b with
    | true => exact iteT ⟨amb, H0, mr, tmp, ρ, ⟨ad, S1⟩, h1⟩
    | false => exact iteF ⟨amb, H0, mr, tmp, ρ, ⟨ad, S1⟩, h1⟩
/-- what is never reached -/
theorem ts_never : PS X st (sT Γ E fun _ => .no) := PS.imp ps_never fun Z σ H ⟨amb, H0, mr, tmp, ρ, S, h⟩ => h
end
end Fw
end
set_option Elab.async false
set_option linter.all false
set_option autoImplicit false
set_option maxRecDepth 100000
set_option maxHeartbeats 4000000
/-! Fw7: targets, loops. -/
noncomputable section
namespace Fw
open PySem PySem.Spec PyProof.Rows L2

/-! ### targets -/
inductive Tg where
  | nm (i : Nat) | tp (ts : List Tg)
mutual
def Tg.unp : Tg → D → Option (List (Nat × D))
  | .nm i, d => some [(i, d)]
  | .tp ts, .tup ds => Tg.unpL ts ds
  | .tp ts, .ftp ds => Tg.unpL ts ds
  | .tp _, _ => none
def Tg.unpL : List Tg → List D → Option (List (Nat × D))
  | [], [] => some []
  | t :: ts, d :: ds => match t.unp d, Tg.unpL ts ds with
    | some a, some b => some (a ++ b)
    | _, _ => none
  | _, _ => none
end
structure Chg (K : Kr) (av : Addr → Prop) (H : Hp) (ps : List (Nat × D)) (σ σ' : St) : Prop where
  len : σ'.length = σ.length
  other : ∀ j, (∀ p ∈ ps, p.1 ≠ j) → σ'[j]? = σ[j]?
  at_ : ∀ p ∈ ps, p.1 < σ.length → ∃ w, σ'[p.1]? = some (some w) ∧ Rp K av H p.2 w
def gT (Γ : Gm) (t : Tg) : TG := fun v σ H Q => ∃ av d ps, Wf Γ av H ∧ Rp Γ.kr av H d v ∧ t.unp d = some ps ∧ (ps.map (·.1)).Nodup ∧ ∀ σ' H', Ext Γ H H' → Chg Γ.kr av H' ps σ σ' → Q σ' H'
def gTs (Γ : Gm) (ts : List Tg) : TGs := fun vs σ H Q => ∃ av ds ps, Wf Γ av H ∧ RpL Γ.kr av H ds vs ∧ Tg.unpL ts ds = some ps ∧ (ps.map (·.1)).Nodup ∧ ∀ σ' H', Ext Γ H H' → Chg Γ.kr av H' ps σ σ' → Q σ' H'
theorem PG.imp {X : Cx} {e : Expr} {t t' : TG} (h : PG X e t) (i : ∀ v σ H Q, t' v σ H Q → t v σ H Q) : PG X e t' := ⟨fun pins s σ H v u Q I r q => h.run pins s σ H v u Q I r (i v σ H Q q)⟩
theorem PGs.imp {X : Cx} {e : List Expr} {t t' : TGs} (h : PGs X e t) (i : ∀ v σ H Q, t' v σ H Q → t v σ H Q) : PGs X e t' := ⟨fun pins s σ H v u Q I r q => h.run pins s σ H v u Q I r (i v σ H Q q)⟩
theorem PI.imp {X : Cx} {tg e : Expr} {t t' : TI} (h : PI X tg e t) (i : ∀ σ H R, t' σ H R → t σ H R) : PI X tg e t' := ⟨fun pins s σ H R I q => h.run pins s σ H R I (i σ H R q)⟩
theorem PI.or {X : Cx} {tg e : Expr} {t t' : TI} (h : PI X tg e t) (h' : PI X tg e t') : PI X tg e (fun σ H R => t σ H R ∨ t' σ H R) := ⟨fun pins s σ H R I q => q.elim (h.run pins s σ H R I) (h'.run pins s σ H R I)⟩
theorem Chg.one {K : Kr} {av : Addr → Prop} {H : Hp} {σ : St} {i : Nat} {d : D} {v : V} (r : Rp K av H d v) : Chg K av H [(i, d)] σ (σ.set i (some v)) :=
  ⟨by simp, fun j h => by rw [List.getElem?_set_ne (h (i, d) List.mem_cons_self)], fun p hp hl => by
    rcases List.mem_cons.mp hp with rfl | hp
    · exact ⟨v, List.getElem?_set_self hl, r⟩
    · cases hp⟩
theorem Chg.app {K : Kr} {av : Addr → Prop} {H H' : Hp} {σ σ1 σ2 : St} {a b : List (Nat × D)} (h1 : Chg K av H a σ σ1) (h2 : Chg K av H' b σ1 σ2) (k : ∀ d v, Rp K av H d v → Rp K av H' d v) (nd : ((a ++ b).map (·.1)).Nodup) : Chg K av H' (a ++ b) σ σ2 := by
  rw [List.map_append, List.nodup_append] at nd
  refine ⟨h2.len.trans h1.len, fun j h => ?_, fun p hp hl => ?_⟩
  · rw [h2.other j fun p hp => h p (List.mem_append_right _ hp), h1.other j fun p hp => h p (List.mem_append_left _ hp)]
  · rcases List.mem_append.mp hp with hp | hp
    · obtain ⟨w, e, r⟩ := h1.at_ p hp hl
      refine ⟨w, ?_, k _ _ r⟩
      rw [h2.other p.1 fun q hq z => nd.2.2 p.1 (List.mem_map_of_mem hp) q.1 (List.mem_map_of_mem hq) z.symm]
      exact e
    · exact h2.at_ p hp (by rw [h1.len]; exact hl)
section
variable {X : Cx} {Γ : Gm} {E : XK} {x : Str} {a b c o e iter : Expr} {es : List Expr} {st : Stmt} {sts body : List Stmt} {pos p p2 pos' pos'' : Pos} {f fa fb fc : Env → Res D} {ta : Env → Res Bool} {fs : Env → Res (List D)} {k : Nat} {g g1 g2 : SEnv → Out} {t : Tg} {ts : List Tg}
theorem tg_nm (i : Nat) (hN : X.N.Nodup) (hi : X.N[i]? = some x := by rfl) (hx : Loc X.env.scope x := by first | exact Or.inl rfl | exact Or.inr rfl) (hf : X.fn x = true ∨ X.env.scope.names.lookup x = some .local := by first | exact .inl rfl | exact .inr rfl) : PG X (.Name x pos) (gT Γ (.nm i)) :=
  PG.imp (pg_name hN hi hx hf) fun v σ H Q ⟨av, d, ps, wf, r, hu, nd, q⟩ => by
    cases hu
    exact q _ H (Ext.refl Γ H) (Chg.one r)
theorem tgs_nil : PGs X [] (gTs Γ []) := PGs.imp pgs_nil fun vs σ H Q ⟨av, ds, ps, wf, r, hu, nd, q⟩ => by
  cases r with
  | cons _ _ => cases hu
  | nil =>
    cases hu
    exact ⟨rfl, q σ H (Ext.refl Γ H) ⟨rfl, fun _ _ => rfl, fun p hp => absurd hp (by simp)⟩⟩
theorem tgs_cons (h1 : PG X e (gT Γ t)) (h2 : PGs X es (gTs Γ ts)) (hs : (assignEach (e :: es) X.env).map (·.2) = assign e X.env :: (assignEach es X.env).map (·.2) := by rfl) : PGs X (e :: es) (gTs Γ (t :: ts)) :=
  PGs.imp (pgs_cons h1 h2 hs) fun vs σ H Q ⟨av, ds, ps, wf, r, hu, nd, q⟩ => by
    cases r with
    | nil => cases hu
    | @cons d ds v vs r1 r2 =>
      unfold Tg.unpL at hu
      cases e1 : t.unp d with
      | none => simp only [e1] at hu; cases hu
      | some pa =>
        cases e2 : Tg.unpL ts ds with
        | none => simp only [e1, e2] at hu; cases hu
        | some pb =>
          simp only [e1, e2] at hu
          cases hu
          have nd' := nd
          rw [List.map_append, List.nodup_append] at nd
          exact ⟨v, vs, rfl, av, d, pa, wf, r1, e1, nd.1, fun σ1 H1 x1 c1 => ⟨av, ds, pb, wf.ext x1, r2.ext x1, e2, nd.2.1, fun σ2 H2 x2 c2 => q σ2 H2 (x1.trans x2) (c1.app c2 (fun _ _ z => z.ext x2) nd')⟩⟩
theorem unpL_len : ∀ {ts : List Tg} {ds : List D} {ps : List (Nat × D)}, Tg.unpL ts ds = some ps → ts.length = ds.length
  | [], [], _, _ => rfl
  | [], _ :: _, _, h => by cases h
  | _ :: _, [], _, h => by cases h
  | t :: ts, d :: ds, _, h => by
    unfold Tg.unpL at h
    cases e1 : t.unp d with
    | none => simp only [e1] at h; cases h
    | some pa =>
      cases e2 : Tg.unpL ts ds with
      | none => simp only [e1, e2] at h; cases h
      | some pb => exact congrArg (· + 1) (unpL_len e2)
theorem tg_tp {kt : Nat} (hc : X.calm = true) (h : PGs X es (gTs Γ ts)) (hn : (assignEach es X.env).length = ts.length := by rfl) (hst : (assignEach es X.env).findIdx? (·.1) = none := by rfl) (hK : X.K = Γ.K := by rfl) : PG X (.Tuple es kt pos) (gT Γ (.tp ts)) :=
  PG.imp (pg_tup hc h hn hst) fun v σ H Q ⟨av, d, ps, wf, r, hu, nd, q⟩ => by
    cases r with
    | @tup a vs ds g1 g2 =>
      rw [hK]
      refine ⟨a, vs, rfl, SqT.of g1, by rw [← g2.length]; exact (unpL_len hu).symm, av, ds, ps, wf, g2, hu, nd, q⟩
    | @ftp a o vs ds g1 n g2 =>
      rw [hK]
      refine ⟨a, vs, rfl, .inl (.inr ⟨o, g1⟩), by rw [← g2.length]; exact (unpL_len hu).symm, av, ds, ps, wf, g2, hu, nd, q⟩
    | _ => cases hu

/-! ### what is walked -/
structure Wlk (Γ : Gm) (J : It) (pins : List (V × D)) (ds : List D) : Prop where
  go : ∀ (av : Addr → Prop) (i : Nat) (H : Hp), Wf Γ av H → (∀ p ∈ pins, Rp Γ.kr av H p.2 p.1) → i < ds.length → J.go i H
  yld : ∀ (av : Addr → Prop) (i : Nat) (H : Hp) (x : V) (H' : Hp), Wf Γ av H → (∀ p ∈ pins, Rp Γ.kr av H p.2 p.1) → i < ds.length → J.yld i H x H' → Ext Γ H H' ∧ ∃ d, ds[i]? = some d ∧ Rp Γ.kr av H' d x
  stop : ∀ (av : Addr → Prop) (i : Nat) (H : Hp), Wf Γ av H → (∀ p ∈ pins, Rp Γ.kr av H p.2 p.1) → ds.length ≤ i → J.stop i H
def wT (Γ : Gm) (E : XK) (np : Bool) (f : Env → Res (List D)) : TI := fun σ H R => ∃ av ρ, EnvV Γ av H σ ρ ∧ ROk Γ av H (fun H' ds (b : It × List (V × D)) => (np = true → b.2 = []) ∧ (∀ p ∈ b.2, Rp Γ.kr av H' p.2 p.1) ∧ Wlk Γ b.1 b.2 ds) (f ρ) (fun b H' => R b.1 H') E
/-! ranges -/
def rangeD (lo : Int) (n : Nat) : List D := (List.range n).map fun (i : Nat) => D.int (lo + (i : Int))
theorem rangeD_get {lo : Int} {n i : Nat} (h : i < n) : (rangeD lo n)[i]? = some (D.int (lo + (i : Int))) := by
  unfold rangeD
  rw [List.getElem?_map, List.getElem?_range h]
  rfl
theorem wlk_range {lo : Int} {n : Nat} : Wlk Γ (Itr lo n) [] (rangeD lo n) where
  go := fun av i H wf hp hi => by
    show i < n
    simpa [rangeD] using hi
  yld := fun av i H x H' wf hp hi y => by
    obtain ⟨rfl, rfl⟩ := y
    have hi : i < n := by simpa [rangeD] using hi
    exact ⟨Ext.refl Γ _, _, rangeD_get hi, .int _⟩
  stop := fun av i H wf hp hi => by
    show n ≤ i
    simpa [rangeD] using hi
def inR (i : Int) : Prop := -(2 ^ 62) ≤ i ∧ i < 2 ^ 62
instance (i : Int) : Decidable (inR i) := Classical.propDecidable _
def itemsF (f : Env → Res D) : Env → Res (List D) := fun ρ => (f ρ).bind fun d => match d with | .lst ds => .ok ds | .tup ds => .ok ds | .ftp ds => .ok ds | .arr _ ns => .ok (ns.map .int) | .rng lo hi => if inR lo ∧ inR hi then .ok (rangeD lo (hi - lo).toNat) else .no | _ => .no
theorem wlk_lst {a : Addr} {ds : List D} : Wlk Γ (Itl Γ.K a) [(.ref a, .lst ds)] ds where
  go := fun av i H wf hp hi => by
    have r := hp _ List.mem_cons_self
    cases r with
    | lst h n r =>
      obtain ⟨v, e, _⟩ := r.get (List.getElem?_eq_getElem hi)
      exact ⟨_, v, SqL.of h, e⟩
  yld := fun av i H x H' wf hp hi y => by
    have r := hp _ List.mem_cons_self
    obtain ⟨rfl, y⟩ := y
    cases r with
    | lst h n r =>
      obtain ⟨d, e, rd⟩ := r.getV (y _ (SqL.of h))
      exact ⟨Ext.refl Γ _, d, e, rd⟩
  stop := fun av i H wf hp hi => by
    have r := hp _ List.mem_cons_self
    cases r with
    | lst h n r => exact ⟨_, SqL.of h, by rw [← r.length]; exact hi⟩
theorem wlk_arr {a : Addr} {ns : List Int} : Wlk Γ (Itl Γ.K a) [(.ref a, .arr a ns)] (ns.map .int) where
  go := fun av i H wf hp hi => by
    have r := hp _ List.mem_cons_self
    cases r with
    | arr _ _ h => exact ⟨_, .int (ns[i]'(by simpa using hi)), h.sq, by rw [List.getElem?_map, List.getElem?_eq_getElem (by simpa using hi)]; rfl⟩
  yld := fun av i H x H' wf hp hi y => by
    have r := hp _ List.mem_cons_self
    obtain ⟨rfl, y⟩ := y
    cases r with
    | arr _ _ h =>
      have e := y _ h.sq
      rw [List.getElem?_map] at e
      cases q : ns[i]? with
      | none => rw [q] at e; cases e
      | some n =>
        rw [q] at e
        cases e
        exact ⟨Ext.refl Γ _, .int n, by rw [List.getElem?_map, q]; rfl, .int n⟩
  stop := fun av i H wf hp hi => by
    have r := hp _ List.mem_cons_self
    cases r with
    | arr _ _ h => exact ⟨_, h.sq, by simpa using hi⟩
theorem wlk_tup {a : Addr} {ds : List D} : Wlk Γ (Itt Γ.K a) [(.ref a, .tup ds)] ds where
  go := fun av i H wf hp hi => by
    have r := hp _ List.mem_cons_self
    cases r with
    | tup h r =>
      obtain ⟨v, e, _⟩ := r.get (List.getElem?_eq_getElem hi)
      exact ⟨_, v, SqT.of h, e⟩
  yld := fun av i H x H' wf hp hi y => by
    have r := hp _ List.mem_cons_self
    obtain ⟨rfl, y⟩ := y
    cases r with
    | tup h r =>
      obtain ⟨d, e, rd⟩ := r.getV (y _ (SqT.of h))
      exact ⟨Ext.refl Γ _, d, e, rd⟩
  stop := fun av i H wf hp hi => by
    have r := hp _ List.mem_cons_self
    cases r with
    | tup h r => exact ⟨_, SqT.of h, by rw [← r.length]; exact hi⟩
theorem wlk_ftp {a : Addr} {ds : List D} : Wlk Γ (Itt Γ.K a) [(.ref a, .ftp ds)] ds where
  go := fun av i H wf hp hi => by
    have r := hp _ List.mem_cons_self
    cases r with
    | @ftp _ o _ _ h n r =>
      obtain ⟨v, e, _⟩ := r.get (List.getElem?_eq_getElem hi)
      exact ⟨_, v, (.inl (.inr ⟨o, h⟩)), e⟩
  yld := fun av i H x H' wf hp hi y => by
    have r := hp _ List.mem_cons_self
    obtain ⟨rfl, y⟩ := y
    cases r with
    | @ftp _ o _ _ h n r =>
      obtain ⟨d, e, rd⟩ := r.getV (y _ ((.inl (.inr ⟨o, h⟩))))
      exact ⟨Ext.refl Γ _, d, e, rd⟩
  stop := fun av i H wf hp hi => by
    have r := hp _ List.mem_cons_self
    cases r with
    | @ftp _ o _ _ h n r => exact ⟨_, (.inl (.inr ⟨o, h⟩)), by rw [← r.length]; exact hi⟩
theorem pin1 {av : Addr → Prop} {H : Hp} {v : V} {d : D} (r : Rp Γ.kr av H d v) : ∀ p ∈ [(v, d)], Rp Γ.kr av H p.2 p.1 := fun p hp => by
  rcases List.mem_cons.mp hp with rfl | hp
  · exact r
  · cases hp
theorem pin2 {av : Addr → Prop} {H : Hp} {v u : V} {d e : D} (r : Rp Γ.kr av H d v) (q : Rp Γ.kr av H e u) : ∀ p ∈ [(v, d), (u, e)], Rp Γ.kr av H p.2 p.1 := fun p hp => by
  rcases List.mem_cons.mp hp with rfl | hp
  · exact r
  · exact pin1 q p hp
/-- over a list, a tuple -/
theorem pi_seqA {tg l : Expr} {tl : TE} (hl : PE X l tl) : PI X tg l (fun σ H R => tl σ H fun x H1 => ∃ a, x = .ref a ∧ (((∃ xs, SqL X.K H1 a xs) ∧ R (Itl X.K a) H1) ∨ ((∃ xs, SqT X.K H1 a xs) ∧ R (Itt X.K a) H1) ∨ ∃ lo hi, H1 a = some (.rng lo hi) ∧ inR lo ∧ inR hi ∧ R (Itr lo (hi - lo).toNat) H1)) := by
  refine ⟨fun pins s σ H R I h => ?_⟩
  refine thn (hl.run pins s σ H _ I h) fun v s1 ⟨x, H1, I1, r1, q1⟩ => ?_
  obtain ⟨a, e, q1⟩ := q1
  subst e
  cases r1
  rcases q1 with ⟨⟨xs, hq⟩, q⟩ | ⟨⟨xs, hq⟩, q⟩ | ⟨lo, hi, hq, b1, b2, q⟩
  · obtain ⟨its, rv, p, hz⟩ := I1.list hq
    refine wpAny_pyIter_list p.isList ?_
    refine ⟨s1.heap.objs.size, [s1.heap.objs.size], _, _, H1, rfl, I1.kept (t' := s1.toks) fun b o e => Heap.get?_push_of_some _ e, turn_list a _, ⟨_, Heap.get?_push_size _ rfl, rfl, rfl⟩, fun b hb => ?_, q⟩
    have e : b = s1.heap.objs.size := by simpa using hb
    subst e
    exact I1.fpOk (Nat.le_refl _) (I1.hok.fresh (Nat.le_refl _))
  · obtain ⟨its, rv, p, hz⟩ := I1.tuple hq
    refine wpAny_pyIter_tuple p ?_
    refine ⟨s1.heap.objs.size, [s1.heap.objs.size], _, _, H1, rfl, I1.kept (t' := s1.toks) fun b o e => Heap.get?_push_of_some _ e, turn_tuple a _, ⟨_, Heap.get?_push_size _ rfl, rfl, rfl⟩, fun b hb => ?_, q⟩
    have e : b = s1.heap.objs.size := by simpa using hb
    subst e
    exact I1.fpOk (Nat.le_refl _) (I1.hok.fresh (Nat.le_refl _))
  · obtain ⟨t1, t2, t3, ho⟩ := I1.hok a _ hq
    refine wpAny_pyIter_range ho (small_one b1.1 b1.2 b2.1 b2.2) ?_
    refine ⟨s1.heap.objs.size, [s1.heap.objs.size], _, _, H1, rfl, I1.kept (t' := s1.toks) fun b o e => Heap.get?_push_of_some _ e, turn_range _ lo (hi - lo).toNat, ?_, fun b hb => ?_, q⟩
    · have e1 : lo + ((0 : Nat) : Int) * 1 = lo := by simp
      have e2 : (((hi - lo).toNat : Nat) : Int) - ((0 : Nat) : Int) = Builtin.Range.rangeSize lo hi 1 := by rw [rangeSize_one]; split <;> omega
      show IsRangeIter _ _ (lo + ((0 : Nat) : Int) * 1) ((((hi - lo).toNat : Nat) : Int) - ((0 : Nat) : Int)) 1
      rw [e1, e2]
      exact Heap.get?_push_size _ rfl
    · have e : b = s1.heap.objs.size := by simpa using hb
      subst e
      exact I1.fpOk (Nat.le_refl _) (I1.hok.fresh (Nat.le_refl _))
theorem wi_seq {tg : Expr} (h : PE X a (eT Γ E fa)) (hK : X.K = Γ.K := by rfl) : PI X tg a (wT Γ E false (itemsF fa)) := by
  refine PI.imp (pi_seqA h) fun σ H R ⟨av, ρ, env, h⟩ => ?_
  rw [hK]
  refine eT_bind env h fun d v H1 x1 env1 r1 h1 => ?_
  cases r1 with
  | lst g n r => exact ⟨_, rfl, .inl ⟨⟨_, SqL.of g⟩, h1 (_, [(_, _)]) H1 (Ext.refl Γ H1) ⟨(fun z => by cases z), pin1 (.lst g n r), wlk_lst⟩⟩⟩
  | arr a ns g => exact ⟨_, rfl,   .inl ⟨⟨_, g.sq⟩, h1 (_, [(_, _)]) H1 (Ext.refl Γ H1) ⟨(fun z => by cases z), pin1 (.arr _ _ g), wlk_arr⟩⟩⟩
  | rng lo hi g =>
    obtain ⟨⟨b1, b2⟩, h1⟩ := ROk.ifp h1
    exact ⟨_, rfl, .inr (.inr ⟨lo, hi, g, b1, b2, h1 (_, []) H1 (Ext.refl Γ H1) ⟨(fun z => by cases z), (fun p hp => by cases hp), wlk_range⟩⟩)⟩
  | @ftp _ o _ _ g n r => exact ⟨_, rfl, .inr (.inl ⟨⟨_, .inl (.inr ⟨o, g⟩)⟩, h1 (_, [(_, _)]) H1 (Ext.refl Γ H1) ⟨(fun z => by cases z), pin1 (.ftp g n r), wlk_ftp⟩⟩)⟩
  | tup g r => exact ⟨_, rfl, .inr (.inl ⟨⟨_, SqT.of g⟩, h1 (_, [(_, _)]) H1 (Ext.refl Γ H1) ⟨(fun z => by cases z), pin1 (.tup g r), wlk_tup⟩⟩)⟩
  | _ => exact (show False from h1).elim
/-! ranges as walks -/
def rng1L : List D → Option (List D)
  | [.int j] => if inR j then some (rangeD 0 j.toNat) else none
  | _ => none
def rng2L : List D → Option (List D)
  | [.int i, .int j] => if inR i ∧ inR j then some (rangeD i (j - i).toNat) else none
  | _ => none
def ofO {α : Type} : Option α → Res α
  | some a => .ok a
  | none => .no
def itL (g : List D → Option (List D)) (fs : Env → Res (List D)) : Env → Res (List D) := fun ρ => (fs ρ).bind fun ds => ofO (g ds)
/-- a walk over what arguments make -/
theorem wi_args {np : Bool} {tg e : Expr} {g : List D → Option (List D)} {r : List V → Hp → (It → Hp → Prop) → Prop} (h : PI X tg e fun σ H R => aT Γ E fs σ H fun vs H1 => r vs H1 R)
    (hr : ∀ (av : Addr → Prop) (H : Hp) (ds us : List D) (vs : List V) (R : It → Hp → Prop), Wf Γ av H → RpL Γ.kr av H ds vs → g ds = some us → (∀ (J : It) (ps : List (V × D)), (np = true → ps = []) → (∀ p ∈ ps, Rp Γ.kr av H p.2 p.1) → Wlk Γ J ps us → R J H) → r vs H R) :
    PI X tg e (wT Γ E np (itL g fs)) := PI.imp h fun σ H R ⟨av, ρ, env, h⟩ => aT_bind env h fun ds vs H1 x1 env1 r1 h1 => by
  cases q : g ds with
  | some us =>
    rw [q] at h1
    exact hr av H1 ds us vs R env1.wf r1 q fun J ps hn hp w => h1 (J, ps) H1 (Ext.refl Γ _) ⟨hn, hp, w⟩
  | none => rw [q] at h1; exact h1.elim
theorem wi_range1 {np : Bool} {tg : Expr} (hm : X.mg "range" = none) (ha : PE X a (eT Γ E fa)) (hg : Gl X "range" := by rfl) (hs : starEach [a] X.env = [(false, eval a X.env)] := by rfl) : PI X tg (.Call (.Name "range" p) [a] [] pos) (wT Γ E np (itL rng1L (consA fa nilA))) :=
  wi_args (pi_range1 hg hm (ta_cons ha ta_nil hs) hs) (fun av H ds us vs R wf r q k => by
    cases r with
    | nil => cases q
    | cons r1 r2 =>
      cases r1 <;> first | cases q | skip
      cases r2 with
      | cons _ _ => cases q
      | nil =>
        rename_i j
        have q : (if inR j then some (rangeD 0 j.toNat) else none) = some us := q
        split at q
        · rename_i z
          cases q
          exact ⟨j, rfl, z.1, z.2, k _ [] (fun _ => rfl) (fun p hp => by cases hp) wlk_range⟩
        · cases q)
theorem wi_range2 {np : Bool} {tg : Expr} (hm : X.mg "range" = none) (ha : PE X a (eT Γ E fa)) (hb : PE X b (eT Γ E fb)) (hg : Gl X "range" := by rfl) (hs : starEach [a, b] X.env = [(false, eval a X.env), (false, eval b X.env)] := by rfl) (hs2 : starEach [b] X.env = [(false, eval b X.env)] := by rfl) :
    PI X tg (.Call (.Name "range" p) [a, b] [] pos) (wT Γ E np (itL rng2L (consA fa (consA fb nilA)))) :=
  wi_args (pi_range2 hg hm (ta_cons ha (ta_cons hb ta_nil hs2) (by rw [hs, hs2])) hs hs2) (fun av H ds us vs R wf r q k => by
    cases r with
    | nil => cases q
    | cons r1 r2 =>
      cases r1 <;> first | cases q | skip
      cases r2 with
      | nil => cases q
      | cons r2 r3 =>
        cases r2 <;> first | cases q | skip
        cases r3 with
        | cons _ _ => cases q
        | nil =>
          rename_i i j
          have q : (if inR i ∧ inR j then some (rangeD i (j - i).toNat) else none) = some us := q
          split at q
          · rename_i z
            cases q
            exact ⟨i, j, rfl, ⟨z.1.1, z.1.2, z.2.1, z.2.2⟩, k _ [] (fun _ => rfl) (fun p hp => by cases hp) wlk_range⟩
          · cases q)
/-! enumerate, zip -/
def enumD (ds : List D) : List D := ds.zipIdx.map fun p => .tup [.int (p.2 : Nat), p.1]
theorem enumD_get {ds : List D} {i : Nat} {d : D} (h : ds[i]? = some d) : (enumD ds)[i]? = some (.tup [.int (i : Nat), d]) := by
  unfold enumD
  rw [List.getElem?_map, List.getElem?_zipIdx, h]
  simp
theorem enumD_len {ds : List D} : (enumD ds).length = ds.length := by simp [enumD]
theorem wlk_enumL {a : Addr} {ds : List D} : Wlk Γ (Ite Γ.K a) [(.ref a, .lst ds)] (enumD ds) where
  go := fun av i H wf hp hi => by
    have r := hp _ List.mem_cons_self
    rw [enumD_len] at hi
    cases r with
    | lst h n r =>
      obtain ⟨v, e, _⟩ := r.get (List.getElem?_eq_getElem hi)
      exact ⟨_, v, SqL.of h, e⟩
  yld := fun av i H x H' wf hp hi y => by
    have r := hp _ List.mem_cons_self
    obtain ⟨T, x0, rfl, hT, rfl, y⟩ := y
    cases r with
    | lst h n r =>
      obtain ⟨d, e, rd⟩ := r.getV (y _ (SqL.of h))
      exact ⟨Ext.new _ hT, _, enumD_get e, .tup upd_same (.cons (.int _) (.cons (rd.ext (Ext.new _ hT)) .nil))⟩
  stop := fun av i H wf hp hi => by
    have r := hp _ List.mem_cons_self
    rw [enumD_len] at hi
    cases r with
    | lst h n r => exact ⟨_, SqL.of h, by rw [← r.length]; exact hi⟩
def zipD (as bs : List D) : List D := (as.zip bs).map fun p => .tup [p.1, p.2]
theorem zipD_get {as bs : List D} {i : Nat} {a b : D} (h : as[i]? = some a) (h' : bs[i]? = some b) : (zipD as bs)[i]? = some (.tup [a, b]) := by
  unfold zipD
  rw [List.getElem?_map, (List.getElem?_zip_eq_some (z := (a, b))).mpr ⟨h, h'⟩]
  rfl
theorem zipD_len {as bs : List D} : (zipD as bs).length = min as.length bs.length := by simp [zipD]
theorem wlk_zipL {a b : Addr} {as bs : List D} : Wlk Γ (Itz Γ.K a b) [(.ref a, .lst as), (.ref b, .lst bs)] (zipD as bs) where
  go := fun av i H wf hp hi => by
    have r := hp _ List.mem_cons_self
    have q := hp _ (List.mem_cons_of_mem _ List.mem_cons_self)
    rw [zipD_len] at hi
    cases r with
    | lst h n r =>
      cases q with
      | lst h' n' q =>
        obtain ⟨v, e, _⟩ := r.get (List.getElem?_eq_getElem (i := i) (by omega))
        obtain ⟨v', e', _⟩ := q.get (List.getElem?_eq_getElem (i := i) (by omega))
        exact ⟨_, _, v, v', SqL.of h, SqL.of h', e, e'⟩
  yld := fun av i H x H' wf hp hi y => by
    have r := hp _ List.mem_cons_self
    have q := hp _ (List.mem_cons_of_mem _ List.mem_cons_self)
    obtain ⟨T, x0, y0, rfl, hT, rfl, y, y'⟩ := y
    cases r with
    | lst h n r =>
      cases q with
      | lst h' n' q =>
        obtain ⟨d, e, rd⟩ := r.getV (y _ (SqL.of h))
        obtain ⟨d', e', rd'⟩ := q.getV (y' _ (SqL.of h'))
        exact ⟨Ext.new _ hT, _, zipD_get e e', .tup upd_same (.cons (rd.ext (Ext.new _ hT)) (.cons (rd'.ext (Ext.new _ hT)) .nil))⟩
  stop := fun av i H wf hp hi => by
    have r := hp _ List.mem_cons_self
    have q := hp _ (List.mem_cons_of_mem _ List.mem_cons_self)
    rw [zipD_len] at hi
    cases r with
    | lst h n r =>
      cases q with
      | lst h' n' q => exact ⟨_, _, SqL.of h, SqL.of h', by rw [← r.length, ← q.length]; omega⟩
/-- the items of a tuple -/
def tupOf : D → Option (List D)
  | .tup ds => some ds
  | .ftp ds => some ds
  | _ => none
theorem Rp.tupOf {K : Kr} {av : Addr → Prop} {H : Hp} {d : D} {v : V} {ds : List D} (r : Rp K av H d v) (h : Fw.tupOf d = some ds) : ∃ a vs, v = .ref a ∧ SqT K.K H a vs ∧ RpL K av H ds vs := by
  cases r with
  | @tup a vs ds g q => cases h; exact ⟨a, vs, rfl, SqT.of g, q⟩
  | @ftp a o vs ds g n q => cases h; exact ⟨a, vs, rfl, .inl (.inr ⟨o, g⟩), q⟩
  | _ => cases h
theorem wlk_zipT {a b : Addr} {as bs : List D} {d1 d2 : D} (t1 : tupOf d1 = some as) (t2 : tupOf d2 = some bs) : Wlk Γ (RZ.ItzT Γ.K a b) [(.ref a, d1), (.ref b, d2)] (zipD as bs) where
  go := fun av i H wf hp hi => by
    obtain ⟨a', vs, ea, h, r⟩ := (hp _ List.mem_cons_self).tupOf t1
    obtain ⟨b', us, eb, h', q⟩ := (hp _ (List.mem_cons_of_mem _ List.mem_cons_self)).tupOf t2
    cases ea
    cases eb
    rw [zipD_len] at hi
    obtain ⟨v, e, _⟩ := r.get (List.getElem?_eq_getElem (i := i) (by omega))
    obtain ⟨v', e', _⟩ := q.get (List.getElem?_eq_getElem (i := i) (by omega))
    exact ⟨_, _, v, v', h, h', e, e'⟩
  yld := fun av i H x H' wf hp hi y => by
    obtain ⟨a', vs, ea, h, r⟩ := (hp _ List.mem_cons_self).tupOf t1
    obtain ⟨b', us, eb, h', q⟩ := (hp _ (List.mem_cons_of_mem _ List.mem_cons_self)).tupOf t2
    cases ea
    cases eb
    obtain ⟨T, x0, y0, rfl, hT, rfl, y, y'⟩ := y
    obtain ⟨d, e, rd⟩ := r.getV (y _ h)
    obtain ⟨d', e', rd'⟩ := q.getV (y' _ h')
    exact ⟨Ext.new _ hT, _, zipD_get e e', .tup upd_same (.cons (rd.ext (Ext.new _ hT)) (.cons (rd'.ext (Ext.new _ hT)) .nil))⟩
  stop := fun av i H wf hp hi => by
    obtain ⟨a', vs, ea, h, r⟩ := (hp _ List.mem_cons_self).tupOf t1
    obtain ⟨b', us, eb, h', q⟩ := (hp _ (List.mem_cons_of_mem _ List.mem_cons_self)).tupOf t2
    cases ea
    cases eb
    rw [zipD_len] at hi
    exact ⟨_, _, h, h', by rw [← r.length, ← q.length]; omega⟩
def lstOf : D → Option (List D)
  | .lst ds => some ds
  | _ => none
theorem Rp.lstOf {K : Kr} {av : Addr → Prop} {H : Hp} {d : D} {v : V} {ds : List D} (r : Rp K av H d v) (h : Fw.lstOf d = some ds) : d = .lst ds ∧ ∃ a vs, v = .ref a ∧ SqL K.K H a vs := by
  cases r with
  | @lst a vs ds g n q => cases h; exact ⟨rfl, a, vs, rfl, SqL.of g⟩
  | _ => cases h
def zip2 (a b : D) : Option (List D) := match lstOf a, lstOf b with
  | some x, some y => some (zipD x y)
  | _, _ => match tupOf a, tupOf b with | some x, some y => some (zipD x y) | _, _ => none
def zipL : List D → Option (List D)
  | [a, b] => zip2 a b
  | _ => none
theorem zip2_some {a b : D} {us : List D} (h : zip2 a b = some us) : (∃ x y, lstOf a = some x ∧ lstOf b = some y ∧ us = zipD x y) ∨ ∃ x y, tupOf a = some x ∧ tupOf b = some y ∧ us = zipD x y := by
  unfold zip2 at h
  split at h
  · rename_i x y e1 e2
    cases h
    exact .inl ⟨x, y, e1, e2, rfl⟩
  · split at h
    · rename_i x y e1 e2
      cases h
      exact .inr ⟨x, y, e1, e2, rfl⟩
    · cases h
theorem wi_zip {elts : List Expr} {kk : Nat} {tpos : Pos} (hm : X.mg "zip" = none) (ha : PE X a (eT Γ E fa)) (hb : PE X b (eT Γ E fb)) (hg : Gl X "zip" := by rfl) (hs : starEach [a, b] X.env = (false, eval a X.env) :: starEach [b] X.env := by rfl) (hs2 : starEach [b] X.env = (false, eval b X.env) :: starEach [] X.env := by rfl)
    (hpl : (backTo pos (starEach [b] X.env)).any (·.1) = false := by rfl) (hK : X.K = Γ.K := by rfl) : PI X (.Tuple elts kk tpos) (.Call (.Name "zip" p) [a, b] [] pos) (wT Γ E false (itL zipL (consA fa (consA fb nilA)))) :=
  wi_args (RZ.pi_zipA hg hm (ta_cons ha (ta_cons hb ta_nil hs2) hs) hs hpl) (fun av H ds us vs R wf r q k => by
    rw [hK]
    cases r with
    | nil => cases q
    | cons r1 r2 =>
      cases r2 with
      | nil => cases q
      | cons r2 r3 =>
        cases r3 with
        | cons _ _ => cases q
        | nil =>
          rename_i d1 v1 d2 v2
          rcases zip2_some q with ⟨x, y, e1, e2, rfl⟩ | ⟨x, y, e1, e2, rfl⟩
          · obtain ⟨rfl, a, vs, rfl, h⟩ := r1.lstOf e1
            obtain ⟨rfl, b, us, rfl, h'⟩ := r2.lstOf e2
            exact ⟨_, _, _, _, rfl, .inl ⟨h, h', k _ _ (fun z => by cases z) (pin2 r1 r2) wlk_zipL⟩⟩
          · obtain ⟨a, vs, rfl, h, _⟩ := r1.tupOf e1
            obtain ⟨b, us, rfl, h', _⟩ := r2.tupOf e2
            exact ⟨_, _, _, _, rfl, .inr ⟨h, h', k _ _ (fun z => by cases z) (pin2 r1 r2) (wlk_zipT e1 e2)⟩⟩)
end
end Fw
end
set_option Elab.async false
set_option linter.all false
set_option autoImplicit false
set_option maxRecDepth 100000
set_option maxHeartbeats 4000000
/-! Fw8: loops, list comprehensions. -/
noncomputable section
namespace Fw
open PySem PySem.Spec PyProof.Rows L2

mutual
def Tg.names : Tg → List Nat
  | .nm i => [i]
  | .tp ts => Tg.namesL ts
def Tg.namesL : List Tg → List Nat
  | [] => []
  | t :: ts => t.names ++ Tg.namesL ts
end
mutual
theorem unp_names : ∀ {t : Tg} {d : D} {ps : List (Nat × D)}, t.unp d = some ps → ps.map (·.1) = t.names
  | .nm i, d, ps, h => by cases h; rfl
  | .tp ts, .tup ds, ps, h => by rw [Tg.names]; exact unpL_names h
  | .tp _, .non, _, h => by cases h
  | .tp _, .bl _, _, h => by cases h
  | .tp _, .int _, _, h => by cases h
  | .tp _, .str _, _, h => by cases h
  | .tp _, .lst _, _, h => by cases h
  | .tp _, .dct _ _, _, h => by cases h
  | .tp _, .ins _ _, _, h => by cases h
  | .tp ts, .ftp ds, ps, h => by rw [Tg.names]; exact unpL_names h
  | .tp _, .rng _ _, _, h => by cases h
  | .tp _, .arr _ _, _, h => by cases h
  | .tp _, .row, _, h => by cases h
  | .tp _, .op _, _, h => by cases h
theorem unpL_names : ∀ {ts : List Tg} {ds : List D} {ps : List (Nat × D)}, Tg.unpL ts ds = some ps → ps.map (·.1) = Tg.namesL ts
  | [], [], _, h => by cases h; rfl
  | [], _ :: _, _, h => by cases h
  | _ :: _, [], _, h => by cases h
  | t :: ts, d :: ds, _, h => by
    unfold Tg.unpL at h
    cases e1 : t.unp d with
    | none => simp only [e1] at h; cases h
    | some pa =>
      cases e2 : Tg.unpL ts ds with
      | none => simp only [e1, e2] at h; cases h
      | some pb =>
        simp only [e1, e2] at h
        cases h
        rw [List.map_append, unp_names e1, unpL_names e2, Tg.namesL]
end
def setMany (ρ : SEnv) : List (Nat × D) → Option SEnv
  | [] => some ρ
  | p :: ps => if isRow ρ p.1 = false then setMany (ρ.set p.1 (.val p.2)) ps else none
def bindT (ρ : SEnv) (t : Tg) (d : D) : Option SEnv := match t.unp d with | some ps => setMany ρ ps | none => none
section
variable {Γ : Gm} {amb : Addr → Prop} {mr : Mr} {H0 H H' : Hp} {tmp : List (V × D)} {ad : Nat → Addr} {σ σ' : St} {ρ ρ' : SEnv} {E : XK} {Z : Ends}
theorem avO_val {i : Nat} {d : D} : ∀ b, avO amb ad (ρ.set i (.val d)) b → avO amb ad ρ b := fun b z => by
  rcases z with z | ⟨j, e, z, rfl⟩
  · exact .inl z
  · exact .inr ⟨j, e, (cont_set (fun e => ⟨fun z => (by cases z), fun z => (by cases z)⟩) z).1, rfl⟩
theorem Chg.cons {K : Kr} {av : Addr → Prop} {p : Nat × D} {ps : List (Nat × D)} (c : Chg K av H (p :: ps) σ σ') (nd : ((p :: ps).map (·.1)).Nodup) :
    (p.1 < σ.length ∧ ∃ w, Rp K av H p.2 w ∧ Chg K av H ps (σ.set p.1 (some w)) σ') ∨ (σ.length ≤ p.1 ∧ Chg K av H ps σ σ') := by
  rw [List.map_cons, List.nodup_cons] at nd
  by_cases hl : p.1 < σ.length
  · obtain ⟨w, e, r⟩ := c.at_ p List.mem_cons_self hl
    refine .inl ⟨hl, w, r, by rw [List.length_set]; exact c.len, fun j h => ?_, fun q hq h => c.at_ q (List.mem_cons_of_mem _ hq) (by simpa using h)⟩
    by_cases hj : p.1 = j
    · rw [← hj, e, List.getElem?_set_self hl]
    · rw [List.getElem?_set_ne hj]
      exact c.other j fun q hq => by
        rcases List.mem_cons.mp hq with rfl | hq
        · exact hj
        · exact h q hq
  · refine .inr ⟨by omega, c.len, fun j h => ?_, fun q hq h => c.at_ q (List.mem_cons_of_mem _ hq) h⟩
    by_cases hj : p.1 = j
    · rw [List.getElem?_eq_none (by rw [c.len]; omega), List.getElem?_eq_none (by omega)]
    · exact c.other j fun q hq => by
        rcases List.mem_cons.mp hq with rfl | hq
        · exact hj
        · exact h q hq
theorem Chg.nil {K : Kr} {av : Addr → Prop} (c : Chg K av H [] σ σ') : σ' = σ := List.ext_getElem? fun j => c.other j fun p hp => by cases hp
theorem Chg.stay {K : Kr} {av av' : Addr → Prop} {ps : List (Nat × D)} (c : Chg K av H ps σ σ') (S : Stay K av av' H H') : Chg K av' H' ps σ σ' := ⟨c.len, c.other, fun p hp h => let ⟨w, e, r⟩ := c.at_ p hp h; ⟨w, e, r.stay S⟩⟩
theorem SAd.setChg : ∀ {ps : List (Nat × D)} {σ : St} {ρ : SEnv}, SAd Γ amb H0 mr tmp ad σ H ρ → Chg Γ.kr (avO amb ad ρ) H ps σ σ' → (ps.map (·.1)).Nodup → setMany ρ ps = some ρ' → SAd Γ amb H0 mr tmp ad σ' H ρ'
  | [], σ, ρ, S, c, nd, h => by cases h; rw [c.nil]; exact S
  | p :: ps, σ, ρ, S, c, nd, h => by
    unfold setMany at h
    split at h
    · rename_i hr
      rcases c.cons nd with ⟨hl, w, r, c'⟩ | ⟨hl, c'⟩
      · exact SAd.setChg (S.setVal hr r) (c'.stay (Stay.weak avO_val)) (List.nodup_cons.mp nd).2 h
      · have e : ρ.set p.1 (.val p.2) = ρ := List.set_eq_of_length_le (by rw [S.len]; exact hl)
        rw [e] at h
        exact SAd.setChg S c' (List.nodup_cons.mp nd).2 h
    · cases h
end
section
variable {X : Cx} {Γ : Gm} {E : XK} {x : Str} {a b c o e iter : Expr} {es : List Expr} {st : Stmt} {sts body : List Stmt} {pos p p2 pos' pos'' : Pos} {f fa fb fc : Env → Res D} {ta : Env → Res Bool} {fs fi : Env → Res (List D)} {k : Nat} {g g1 g2 : SEnv → Out} {t : Tg} {ts : List Tg}
/-! ### for -/
/-- a turn's end -/
def Out.turn : Out → (SEnv → Out) → Out
  | .nx ρ, k => k ρ
  | .ct ρ, k => k ρ
  | .bk ρ, _ => .nx ρ
  | .rt d ρ, _ => .rt d ρ
  | .ex c f, _ => .ex c f
  | .no, _ => .no
  | .dr n j, k => .dr n fun i => (j i).turn k
theorem SOk.turn {amb : Addr → Prop} {mr : Mr} {H0 : Hp} {tmp ps : List (V × D)} {Z : Ends} {k : SEnv → Out} {N : St → Hp → Prop} (hN : ∀ ρ', SOk Γ amb H0 mr tmp (k ρ') Z E → ∀ σ' H', SA Γ amb H0 mr (ps ++ tmp) σ' H' ρ' → N σ' H') :
    ∀ {r : Out}, SOk Γ amb H0 mr tmp (r.turn k) Z E → SOk Γ amb H0 mr (ps ++ tmp) r { Z with nx := N, ct := N, bk := Z.nx } E
  | .nx ρ', h => hN ρ' h
  | .ct ρ', h => hN ρ' h
  | .bk ρ', h => fun σ' H' S' => h σ' H' (S'.sub fun p hp => List.mem_append_right _ hp)
  | .rt d ρ', h => h
  | .ex c f, h => h
  | .no, h => h
  | .dr n j, h => fun i h1 h2 => SOk.turn hN (h i h1 h2)
def loopO (t : Tg) (g : SEnv → Out) : List D → SEnv → Out
  | [], ρ => .nx ρ
  | d :: ds, ρ => match bindT ρ t d with
    | none => .no
    | some ρ1 => (g ρ1).turn fun ρ' => loopO t g ds ρ'
def forO (fi : Env → Res (List D)) (t : Tg) (g : SEnv → Out) : SEnv → Out := fun ρ => bindO (fi ρ.vis) fun ds => loopO t g ds ρ
/-- .. over a range reckoned from what may be a container of one's own -/
def forRO (fi : Env → Res (List D)) (t : Tg) (g : SEnv → Out) : SEnv → Out := fun ρ => bindO (fi ρ.all) fun ds => loopO t g ds ρ
theorem wT_out {amb : Addr → Prop} {mr : Mr} {H0 H : Hp} {tmp : List (V × D)} {ad : Nat → Addr} {σ : St} {ρ : SEnv} {Z : Ends} {av : Addr → Prop} {ρe : Env} {kk : List D → Out} {R : It → Hp → Prop} {np : Bool} (S : SAd Γ amb H0 mr tmp ad σ H ρ) (env : EnvV Γ av H σ ρe) (h : SOk Γ amb H0 mr tmp (bindO (fi ρe) kk) Z E)
    (hk : ∀ ds J ps H1, Ext Γ H H1 → SAd Γ amb H0 mr tmp ad σ H1 ρ → (np = true → ps = []) → (∀ p ∈ ps, Rp Γ.kr av H1 p.2 p.1) → Wlk Γ J ps ds → SOk Γ amb H0 mr tmp (kk ds) Z E → R J H1) : wT Γ E np fi σ H R := by
  exact ⟨av, ρe, env, SOk.bind S h fun ds b H1 x S1 r h1 => hk ds b.1 b.2 H1 x S1 r.1 r.2.1 r.2.2 h1⟩
theorem loop_run {amb : Addr → Prop} {mr : Mr} {H0 H1 : Hp} {tmp : List (V × D)} {ad : Nat → Addr} {σ : St} {ρ : SEnv} {Z : Ends} {J : It} {ps : List (V × D)} {ds : List D} (hnd : t.names.Nodup) (S : SAd Γ amb H0 mr tmp ad σ H1 ρ) (hp : ∀ p ∈ ps, Rp Γ.kr (avO amb ad ρ) H1 p.2 p.1) (w : Wlk Γ J ps ds) (h : SOk Γ amb H0 mr tmp (loopO t g ds ρ) Z E) :
    ∃ W : Nat → Nat → St → Hp → Prop, (∃ m, W 0 m σ H1) ∧ ∀ i m σ H, W i m σ H →
      (J.stop i H ∧ Z.nx σ H) ∨ (J.go i H ∧ ∃ N : St → Hp → Prop, (∀ σ' H', N σ' H' → ∃ m', m' < m ∧ W (i + 1) m' σ' H') ∧ ∀ x H', J.yld i H x H' → gT Γ t x σ H' fun σ2 H2 => sT Γ E g { Z with nx := N, ct := N, bk := Z.nx } σ2 H2) := by
  refine ⟨fun i m σ H => m = ds.length - i ∧ ∃ ρ, SA Γ amb H0 mr (ps ++ tmp) σ H ρ ∧ SOk Γ amb H0 mr tmp (loopO t g (ds.drop i) ρ) Z E, ⟨_, rfl, ρ, ⟨ad, S.tmps fun q hq => ?_⟩, h⟩, ?_⟩
  · rcases List.mem_append.mp hq with hq | hq
    · exact hp q hq
    · exact S.tmp q hq
  rintro i m σ H ⟨rfl, ρ, ⟨ad, S⟩, h⟩
  have hps : ∀ p ∈ ps, Rp Γ.kr (avO amb ad ρ) H p.2 p.1 := fun q hq => S.tmp q (List.mem_append_left _ hq)
  by_cases hi : i < ds.length
  · refine .inr ⟨w.go _ i H S.wf hps hi, fun σ' H' => ∃ ρ, SA Γ amb H0 mr (ps ++ tmp) σ' H' ρ ∧ SOk Γ amb H0 mr tmp (loopO t g (ds.drop (i + 1)) ρ) Z E, fun σ' H' n => ⟨_, by omega, rfl, n⟩, fun x H2 y => ?_⟩
    obtain ⟨x2, d, ed, rd⟩ := w.yld _ i H x H2 S.wf hps hi y
    have S2 := S.ext_ x2
    rw [List.drop_eq_getElem_cons hi] at h
    have ed : ds[i] = d := by rw [List.getElem?_eq_getElem hi] at ed; exact Option.some.inj ed
    rw [ed] at h
    unfold loopO bindT at h
    cases q : t.unp d with
    | none => simp only [q] at h; exact (show False from h).elim
    | some qs =>
      simp only [q] at h
      have nd : (qs.map (·.1)).Nodup := by rw [unp_names q]; exact hnd
      cases q2 : setMany ρ qs with
      | none => simp only [q2] at h; exact (show False from h).elim
      | some ρ1 =>
        simp only [q2] at h
        refine ⟨_, d, qs, S2.wf, rd, q, nd, fun σ3 H3 x3 c3 => ⟨amb, H0, mr, ps ++ tmp, ρ1, ⟨ad, (S2.ext_ x3).setChg c3 nd q2⟩, ?_⟩⟩
        exact SOk.turn (fun ρ' h σ' H' S' => ⟨ρ', S', h⟩) h
  · refine .inl ⟨w.stop _ i H S.wf hps (by omega), ?_⟩
    rw [List.drop_eq_nil_of_le (by omega)] at h
    exact h σ H ⟨ad, S.tmps fun q hq => S.tmp q (List.mem_append_right _ hq)⟩
theorem ts_for {tg : Expr} {np : Bool} (hp : PassesOwn (model X.prog X.w) X.A X.env X.xe) (hc : X.calm = true) (hi : PI X tg iter (wT Γ E np fi)) (hg : PG X tg (gT Γ t)) (hb : PSs X body (sT Γ E g)) (hnd : t.names.Nodup := by decide)
    (hs : ∀ x, foldedSetIterable iter X.env x = pure x := by intro _; rfl) : PS X (.For tg iter body [] pos) (sT Γ E (forO fi t g)) :=
  PS.imp (ps_for hp hc hi hg hb hs) fun Z σ H ⟨amb, H0, mr, tmp, ρ, ⟨ad, S⟩, h⟩ => wT_out S S.envVis h fun ds J ps H1 x1 S1 hn hp w h1 => loop_run hnd S1 hp w h1
theorem ts_forR {tg : Expr} (hp : PassesOwn (model X.prog X.w) X.A X.env X.xe) (hc : X.calm = true) (hi : PI X tg iter (wT Γ E true fi)) (hg : PG X tg (gT Γ t)) (hb : PSs X body (sT Γ E g)) (hnd : t.names.Nodup := by decide)
    (hs : ∀ x, foldedSetIterable iter X.env x = pure x := by intro _; rfl) : PS X (.For tg iter body [] pos) (sT Γ E (forRO fi t g)) :=
  PS.imp (ps_for hp hc hi hg hb hs) fun Z σ H ⟨amb, H0, mr, tmp, ρ, ⟨ad, S⟩, h⟩ => wT_out S S.envAll h fun ds J ps H1 x1 S1 hn hp w h1 => by
    have e := hn rfl
    subst e
    exact loop_run hnd S1 (fun p hp => by cases hp) w h1
/-! a container of one's own becomes a value that stays as it is -/
def frzS (ρ : SEnv) (i : Nat) : SEnv := match ρ[i]? with | some (.own d) => ρ.set i (.val d) | _ => ρ
theorem SAd.freeze {amb : Addr → Prop} {mr : Mr} {H0 H : Hp} {tmp : List (V × D)} {ad : Nat → Addr} {σ : St} {ρ : SEnv} {i : Nat} {d : D} (S : SAd Γ amb H0 mr tmp ad σ H ρ) (h : ρ[i]? = some (.own d)) : SAd Γ amb H0 mr tmp ad σ H (ρ.set i (.val d)) := by
  obtain ⟨g1, g2⟩ := S.own i d (.inl h)
  have hl : i < ρ.length := (List.getElem?_eq_some_iff.mp h).1
  have hr : isRow ρ i = false := by unfold isRow; rw [h]
  have w := avO_val (amb := amb) (ad := ad) (ρ := ρ) (i := i) (d := d)
  have hs : ∀ e, Sl.val d ≠ .own e ∧ Sl.val d ≠ .row e := fun e => ⟨fun z => (by cases z), fun z => (by cases z)⟩
  have other : ∀ {j : Nat} {s : Sl}, j ≠ i → (ρ.set i (.val d))[j]? = some s → ρ[j]? = some s := fun {j s} hj h => by rwa [List.getElem?_set_ne (Ne.symm hj)] at h
  have rv : Rp Γ.kr (avO amb ad (ρ.set i (.val d))) H d (.ref (ad i)) := (g2.weak w).rp fun z => by
    rcases z with (z | ⟨j, e, z, hj⟩) | z
    · exact (S.new i d h).2.1 z
    · obtain ⟨z, hne⟩ := cont_set hs z
      exact hne (S.inj j i e d z (.inl h) hj.symm)
    · exact (S.new i d h).2.2.1 z
  refine ⟨S.ext, S.tb, S.rw, by simpa using S.len, S.ambT, fun a z => let ⟨j, e, h1, h2⟩ := S.mrIn a z; ⟨j, e, by rw [List.getElem?_set_ne (Ne.symm (isRow_no hr h1))]; exact h1, h2⟩, fun j k e f h1 h2 => S.inj j k e f (cont_set hs h1).1 (cont_set hs h2).1, fun j e h => ?_, fun j e h => ?_, fun j e h => ?_, fun j e h => ?_, fun p hp => (S.tmp p hp).stay (Stay.weak w)⟩
  · obtain ⟨_, hj⟩ := cont_set hs (.inl h)
    exact S.new j e (other hj h)
  · obtain ⟨_, hj⟩ := cont_set hs (.inr h)
    exact S.rows j e (other hj h)
  · by_cases hj : j = i
    · subst hj
      rw [List.getElem?_set_self hl] at h
      cases h
      exact ⟨_, g1, rv⟩
    · obtain ⟨u, h1, h2⟩ := S.val j e (other hj h)
      exact ⟨u, h1, h2.stay (Stay.weak w)⟩
  · obtain ⟨h', hj⟩ := cont_set hs h
    obtain ⟨h1, h2⟩ := S.own j e h'
    exact ⟨h1, h2.weak w⟩
theorem ts_frz (i : Nat) (h : PS X st (sT Γ E g)) : PS X st (sT Γ E fun ρ => g (frzS ρ i)) := PS.imp h fun Z σ H ⟨amb, H0, mr, tmp, ρ, ⟨ad, S⟩, h⟩ => by
  have h : SOk Γ amb H0 mr tmp (g (frzS ρ i)) Z E := h
  unfold frzS at h
  split at h
  · rename_i d e
    exact ⟨amb, H0, mr, tmp, _, ⟨ad, S.freeze e⟩, h⟩
  · exact ⟨amb, H0, mr, tmp, ρ, ⟨ad, S⟩, h⟩
/-! ### while -/
def whileO (ta : Env → Res Bool) (g : SEnv → Out) : Nat → SEnv → Out
  | 0, _ => .no
  | n + 1, ρ => bindO (ta ρ.all) fun b => if b then (g ρ).turn fun ρ' => whileO ta g n ρ' else .nx ρ
theorem ts_while (fuel : Nat) (hp : PassesOwn (model X.prog X.w) X.A X.env X.xe) (hc : PT X c (bT Γ E ta)) (hb : PSs X body (sT Γ E g)) : PS X (.While c body [] pos) (sT Γ E (whileO ta g fuel)) :=
  PS.imp (ps_while hp hc hb) fun Z σ H ⟨amb, H0, mr, tmp, ρ, S, h⟩ => by
    refine ⟨fun m σ H => ∃ ρ, SA Γ amb H0 mr tmp σ H ρ ∧ SOk Γ amb H0 mr tmp (whileO ta g m ρ) Z E, ⟨fuel, ρ, S, h⟩, ?_⟩
    rintro m σ H ⟨ρ, ⟨ad, S⟩, h⟩
    cases m with
    | zero => exact (show False from h).elim
    | succ m =>
      refine bT_out S S.envAll h fun b H1 x1 S1 h1 => ?_
      cases b with
      | false => exact iteF (h1 σ H1 ⟨ad, S1⟩)
      | true =>
        refine iteT ⟨fun σ' H' => ∃ ρ, SA Γ amb H0 mr tmp σ' H' ρ ∧ SOk Γ amb H0 mr tmp (whileO ta g m ρ) Z E, fun σ' H' n => ⟨m, Nat.lt_succ_self _, n⟩, amb, H0, mr, tmp, ρ, ⟨ad, S1⟩, ?_⟩
        simp only [if_true] at h1
        exact SOk.turn (ps := []) (fun ρ' h σ' H' S' => ⟨ρ', S', h⟩) h1
/-! ### list comprehensions -/
def putE (ρ : Env) (ps : List (Nat × D)) : Env := ps.foldl (fun ρ p => ρ.set p.1 (some p.2)) ρ
def wipeE (ρ : Env) : List Nat → Env
  | [] => ρ
  | v :: vs => (wipeE ρ vs).set v none
/-- what raises is not known to be right -/
def noX {α : Type} : Res α → Res α
  | .ok a => .ok a
  | .ex _ _ => .no
  | .no => .no
  | .dr n k => .dr n fun i => noX (k i)
abbrev EN : XK := fun _ _ _ => False
theorem ROk.bindX {α β γ δ : Type} {Γ : Gm} {av av1 : Addr → Prop} {H H' : Hp} {E E1 : XK} {rel : Hp → β → δ → Prop} {rel1 : Hp → α → γ → Prop} {k : α → Res β} {Q : δ → Hp → Prop} {R : γ → Hp → Prop} (x : Ext Γ H H') : ∀ {r : Res α}, ROk Γ av H rel ((noX r).bind k) Q E →
    (∀ d v H1, Ext Γ H' H1 → rel1 H1 d v → ROk Γ av H rel (k d) Q E → R v H1) → ROk Γ av1 H' rel1 r R E1
  | .ok a, h, hk => fun b H2 x2 q => hk a b H2 x2 q h
  | .ex c f, h, hk => h.elim
  | .no, h, hk => h.elim
  | .dr n j, h, hk => fun i h1 h2 => ROk.bindX x (h i h1 h2) hk
def lcL (t : Tg) (tt : Env → Res Bool) (fe : Env → Res D) (ρ : Env) : List D → Res (List D)
  | [] => .ok []
  | d :: ds => match t.unp d with
    | none => .no
    | some ps => (noX (tt (putE ρ ps))).bind fun b => if b then (noX (fe (putE ρ ps))).bind fun y => (lcL t tt fe ρ ds).bind fun r => .ok (y :: r) else lcL t tt fe ρ ds
def lcD (fi : Env → Res (List D)) (t : Tg) (tt : Env → Res Bool) (fe : Env → Res D) (vs : List Nat) : Env → Res D := fun ρ => (fi ρ).bind fun ds => if ds.length ≤ lim then (lcL t tt fe (wipeE ρ vs) ds).bind fun r => .ok (.lst r) else .no
section
variable {av : Addr → Prop} {H H' : Hp} {σ σ' : St} {ρ : Env}
theorem wipeE_length (ρ : Env) : ∀ vs : List Nat, (wipeE ρ vs).length = ρ.length
  | [] => rfl
  | v :: vs => by unfold wipeE; rw [List.length_set, wipeE_length ρ vs]
theorem wipe_env (e : EnvV Γ av H σ ρ) : ∀ vs : List Nat, EnvV Γ av H (wipe σ vs) (wipeE ρ vs)
  | [] => e
  | v :: vs => ⟨e.wf, fun i d h => by
    unfold wipeE at h
    unfold wipe
    by_cases hi : v = i
    · subst hi
      rw [List.getElem?_set] at h
      simp at h
    · rw [List.getElem?_set_ne hi] at h ⊢
      exact (wipe_env e vs).at_ i d h, by rw [wipeE_length, wipe_length]; exact e.len⟩
theorem put_env : ∀ {ps : List (Nat × D)} {σ : St} {ρ : Env}, EnvV Γ av H σ ρ → Chg Γ.kr av H ps σ σ' → (ps.map (·.1)).Nodup → EnvV Γ av H σ' (putE ρ ps)
  | [], σ, ρ, e, c, nd => by rw [c.nil]; exact e
  | p :: ps, σ, ρ, e, c, nd => by
    have hl := e.len
    have z : putE ρ (p :: ps) = putE (ρ.set p.1 (some p.2)) ps := rfl
    rw [z]
    rcases c.cons nd with ⟨h1, w, r, c'⟩ | ⟨h1, c'⟩
    · refine put_env ⟨e.wf, fun i d h => ?_, by rw [List.length_set, List.length_set]; exact hl⟩ c' (List.nodup_cons.mp nd).2
      by_cases hi : p.1 = i
      · subst hi
        rw [List.getElem?_set] at h
        simp at h
        exact ⟨w, List.getElem?_set_self h1, by rw [← h.2]; exact r⟩
      · rw [List.getElem?_set_ne hi] at h ⊢
        exact e.at_ i d h
    · rw [List.set_eq_of_length_le (by omega)]
      exact put_env e c' (List.nodup_cons.mp nd).2
end
end
end Fw
end
set_option Elab.async false
set_option linter.all false
set_option autoImplicit false
set_option maxRecDepth 100000
set_option maxHeartbeats 4000000
/-! Fw9: list comprehensions. -/
noncomputable section
namespace Fw
open PySem PySem.Spec PyProof.Rows L2
theorem wipe_get (σ : St) (j : Nat) : ∀ vs : List Nat, (wipe σ vs)[j]? = if j ∈ vs then (σ[j]?).map (fun _ => none) else σ[j]?
  | [] => by simp [wipe]
  | v :: vs => by
    unfold wipe
    by_cases hj : v = j
    · subst hj
      rw [List.getElem?_set]
      simp only [if_true, List.mem_cons_self, wipe_length]
      by_cases hl : v < σ.length
      · rw [if_pos hl, List.getElem?_eq_getElem hl]; rfl
      · rw [if_neg hl, List.getElem?_eq_none (by omega)]; rfl
    · rw [List.getElem?_set_ne hj, wipe_get σ j vs]
      have : (j ∈ v :: vs) ↔ j ∈ vs := by
        rw [List.mem_cons]
        exact ⟨fun z => z.resolve_left fun e => hj e.symm, .inr⟩
      by_cases h : j ∈ vs
      · rw [if_pos h, if_pos (this.mpr h)]
      · rw [if_neg h, if_neg fun z => h (this.mp z)]
theorem wipe_chg {K : Kr} {av : Addr → Prop} {H : Hp} {ps : List (Nat × D)} {σ σ' : St} {vs : List Nat} (c : Chg K av H ps (wipe σ vs) σ') (h : ∀ i ∈ ps.map (·.1), i ∈ vs) : wipe σ' vs = wipe σ vs := by
  refine List.ext_getElem? fun j => ?_
  rw [wipe_get, wipe_get]
  by_cases hj : j ∈ vs
  · rw [if_pos hj, if_pos hj]
    have e := c.len
    rw [wipe_length] at e
    by_cases hl : j < σ.length
    · rw [List.getElem?_eq_getElem hl, List.getElem?_eq_getElem (by omega)]; rfl
    · rw [List.getElem?_eq_none (by omega), List.getElem?_eq_none (by omega)]
  · rw [if_neg hj, if_neg hj, c.other j fun p hp z => hj (h j (z ▸ List.mem_map_of_mem hp)), wipe_get, if_neg hj]
theorem PTs.imp {X : Cx} {e : List Expr} {t t' : TT} (h : PTs X e t) (i : ∀ σ H Q, t' σ H Q → t σ H Q) : PTs X e t' := ⟨fun pins s σ H Q I q => h.run pins s σ H Q I (i σ H Q q)⟩
section
variable {X : Cx} {Γ : Gm} {E : XK} {a b c o e iter elt tg : Expr} {ifs : List Expr} {pos p p2 pos' pos'' : Pos} {f fe : Env → Res D} {ta tt : Env → Res Bool} {fs fi : Env → Res (List D)} {t : Tg} {av av' : Addr → Prop} {H H1 H2 H3 : Hp} {σ : St} {ρ : Env}
def yesB : Env → Res Bool := fun _ => .ok true
theorem tts_nil : PTs X [] (bT Γ E yesB) := PTs.imp pts_nil fun σ H Q ⟨av, ρ, env, h⟩ => h true H (Ext.refl Γ H) rfl
theorem tts_one (h : PT X c (bT Γ E ta)) : PTs X [c] (bT Γ E ta) := pts_one h
theorem eT_at {E1 : XK} {β δ : Type} {rel : Hp → β → δ → Prop} {k : D → Res β} {Q : δ → Hp → Prop} {R : VK} (env : EnvV Γ av' H3 σ ρ) (x : Ext Γ H1 H3) (h : ROk Γ av H1 rel ((noX (f ρ)).bind k) Q E) (hk : ∀ d v H4, Ext Γ H3 H4 → Rp Γ.kr av' H4 d v → ROk Γ av H1 rel (k d) Q E → R v H4) : eT Γ E1 f σ H3 R :=
  ⟨av', ρ, env, h.bindX x hk⟩
theorem bT_at {E1 : XK} {β δ : Type} {rel : Hp → β → δ → Prop} {k : Bool → Res β} {Q : δ → Hp → Prop} {R : Bool → Hp → Prop} (env : EnvV Γ av' H3 σ ρ) (x : Ext Γ H1 H3) (h : ROk Γ av H1 rel ((noX (ta ρ)).bind k) Q E) (hk : ∀ d H4, Ext Γ H3 H4 → ROk Γ av H1 rel (k d) Q E → R d H4) : bT Γ E1 ta σ H3 R :=
  ⟨av', ρ, env, h.bindX x fun d v H4 x4 r h4 => by
    subst r
    exact hk d H4 x4 h4⟩
theorem stay_new {D : Addr} (x : Ext Γ H1 H2) (hD : H1 D = none) : Stay Γ.kr av (fun a => av a ∨ a = D) H1 H2 := by
  have nn : ∀ {b : Addr} {z : HO}, H1 b = some z → ¬ avr Γ.kr av b → ¬ avr Γ.kr (fun b => av b ∨ b = D) b := fun {b z} e n q => by
    rcases q with (q | q) | q
    · exact n (.inl q)
    · rw [q, hD] at e; cases e
    · exact n (.inr q)
  have s := x.stay av
  exact ⟨s.tup, fun a xs n e => ⟨(s.lst a xs n e).1, nn e n⟩, fun a xs n e => ⟨(s.dK a xs n e).1, nn e n⟩, fun a xs n e => ⟨(s.dT a xs n e).1, nn e n⟩, s.rng, s.frz⟩
theorem EnvV.new {D : Addr} {u : HO} (env : EnvV Γ av H1 σ ρ) (x : Ext Γ H1 H2) (hD : H1 D = none) (h2 : H2 D = some u) : EnvV Γ (fun a => av a ∨ a = D) H2 σ ρ :=
  ⟨⟨x.tb env.wf.tb, fun a z => z.elim (fun z => x.there a (env.wf.av a z)) (fun z => by rw [z, h2]; exact Option.some_ne_none u), x.row env.wf.row⟩, fun i d h => let ⟨v, g1, g2⟩ := env.at_ i d h; ⟨v, g1, g2.stay (stay_new x hD)⟩, env.len⟩
/-- the new list is written again -/
theorem Ext.rewrite {D : Addr} {o0 u : HO} (x : Ext Γ H1 H2) (hD : H1 D = none) (h2 : H2 D = some o0) (ho : contO o0) : Ext Γ H1 (upd H2 D u) :=
  ⟨fun b o e n l => by rw [upd_ne (fun z => by rw [z, hD] at e; cases e)]; exact x.keep b o e n l, fun t => Tb.write (x.tb t) h2 ho, fun t => RowOk.write (x.row t) (t.nr hD), fun b n z => by
    by_cases hb : b = D
    · rw [hb, upd_same] at z; cases z
    · rw [upd_ne hb] at z; exact x.there b n z⟩
theorem lc_fit {np : Bool} {vs : List Nat} (hv : ∀ i ∈ t.names, i ∈ vs) (hnd : t.names.Nodup) (σ : L2.St) (H : Hp) (Q : VK) (h : nT Γ E (lcD fi t tt fe vs) σ H Q) : tLc (wT Γ E np fi) (gT Γ t) (bT Γ EN tt) (eT Γ EN fe) vs σ H Q := by
  obtain ⟨av, ρ, env, h⟩ := h
  refine ⟨av, ρ, env, ?_⟩
  unfold lcD at h
  refine ROk.bind h fun ds b H1 x1 r h => ?_
  obtain ⟨J, ps⟩ := b
  obtain ⟨_, hp, w⟩ := r
  · obtain ⟨hz, h⟩ := ROk.ifp h
    intro D hD
    have h0 : H D = none := by
      cases q : H D with
      | none => rfl
      | some u => exact absurd hD (x1.there D (by rw [q]; intro z; cases z))
    generalize hrel : (fun (H' : Hp) (d : Fw.D) (v : V) => ∃ p, v = V.ref p ∧ H p = none ∧ OwnAt Γ.kr (fun a => av a ∨ a = p) H' d p) = rel at h
    refine ⟨fun i m Hc => m = ds.length - i ∧ Ext Γ H1 Hc ∧ ∃ accD acc, Hc D = some (.lst acc) ∧ RpL Γ.kr (fun a => av a ∨ a = D) Hc accD acc ∧ acc.length ≤ i ∧ ROk Γ av H1 rel ((lcL t tt fe (wipeE ρ vs) (ds.drop i)).bind fun r => .ok (.lst (accD ++ r))) Q E, ⟨_, rfl, Ext.new _ hD, [], [], upd_same, .nil, Nat.le_refl _, h⟩, ?_⟩
    rintro i m Hc ⟨rfl, xc, accD, acc, hDc, racc, hacc, h⟩
    have env' := wipe_env ((env.ext x1).new xc hD hDc) vs
    have hps : ∀ p ∈ ps, Rp Γ.kr (fun a => av a ∨ a = D) Hc p.2 p.1 := fun p hp' => (hp p hp').stay (stay_new xc hD)
    by_cases hi : i < ds.length
    · refine .inr ⟨w.go _ i Hc env'.wf hps hi, fun Hn => Ext Γ H1 Hn ∧ ∃ accD acc, Hn D = some (.lst acc) ∧ RpL Γ.kr (fun a => av a ∨ a = D) Hn accD acc ∧ acc.length ≤ i + 1 ∧ ROk Γ av H1 rel ((lcL t tt fe (wipeE ρ vs) (ds.drop (i + 1))).bind fun r => .ok (.lst (accD ++ r))) Q E, fun Hn z => ⟨_, by omega, rfl, z⟩, fun x H2 y => ?_⟩
      obtain ⟨x2, d, ed, rd⟩ := w.yld _ i Hc x H2 env'.wf hps hi y
      have env2 := env'.ext x2
      rw [List.drop_eq_getElem_cons hi] at h
      have ed : ds[i] = d := by rw [List.getElem?_eq_getElem hi] at ed; exact Option.some.inj ed
      rw [ed] at h
      unfold lcL at h
      cases q1 : t.unp d with
      | none => simp only [q1] at h; exact (show False from h).elim
      | some qs =>
        simp only [q1] at h
        have nm := unp_names q1
        have nd : (qs.map (·.1)).Nodup := by rw [nm]; exact hnd
        refine ⟨_, d, qs, env2.wf, rd, q1, nd, fun σ3 H3 x3 c3 => ⟨wipe_chg c3 (by rw [nm]; exact hv), ?_⟩⟩
        have env3 := put_env (env2.ext x3) c3 nd
        have h : ROk Γ av H1 rel (Res.bind (Res.bind (noX (tt (putE (wipeE ρ vs) qs))) _) _) Q E := h
        rw [Res.bind_assoc] at h
        refine bT_at env3 (xc.trans (x2.trans x3)) h fun b H4 x4 h => ?_
        have x14 := xc.trans (x2.trans (x3.trans x4))
        have x24 := x2.trans (x3.trans x4)
        have kD := x24.keepL hDc ((env.ext x1).wf.row.new hD)
        cases b with
        | false => exact iteF ⟨x14, accD, acc, kD, racc.ext x24, by omega, h⟩
        | true =>
          refine iteT ?_
          have h : ROk Γ av H1 rel (Res.bind (Res.bind (noX (fe (putE (wipeE ρ vs) qs))) _) _) Q E := h
          rw [Res.bind_assoc] at h
          refine eT_at (env3.ext x4) x14 h fun y v H5 x5 r5 h => ?_
          have x25 := x24.trans x5
          have kD := x25.keepL hDc ((env.ext x1).wf.row.new hD)
          have h : ROk Γ av H1 rel (Res.bind (Res.bind (lcL t tt fe (wipeE ρ vs) (ds.drop (i + 1))) _) _) Q E := h
          rw [Res.bind_assoc] at h
          refine ⟨acc, kD, by rw [lim_eq]; omega, (xc.trans x25).rewrite hD kD True.intro, accD ++ [y], acc ++ [v], upd_same, ?_, by simp; omega, ?_⟩
          · exact (rpl_write kD True.intro (.inr rfl) (racc.ext x25)).append (.cons (rp_write kD True.intro (.inr rfl) r5) .nil)
          · simp only [List.append_assoc]
            exact h
    · refine .inl ⟨w.stop _ i Hc env'.wf hps (by omega), ?_⟩
      rw [List.drop_eq_nil_of_le (by omega)] at h
      refine h _ Hc xc ?_
      rw [← hrel, List.append_nil]
      exact ⟨D, rfl, h0, acc, hDc, racc⟩
theorem tn_lc {np : Bool} {scope : Scope} (own : List (Str × Nat)) (hc : X.calm = true) (hN : X.N.Nodup) (hi : PI X tg iter (wT Γ E np fi)) (ok : BlkOk X.N X.env.scope scope own)
    (hg : ∀ (s : Shared) (H : Hp) (C : Addr) (cl : List (Str × Addr)) (fp : List Addr), PG (X.blk s H scope (compEnvC scope cl C X.env) fp) tg (gT Γ t)) (ht : ∀ (s : Shared) (H : Hp) (C : Addr) (cl : List (Str × Addr)) (fp : List Addr), PTs (X.blk s H scope (compEnvC scope cl C X.env) fp) ifs (bT Γ EN tt))
    (he : ∀ (s : Shared) (H : Hp) (C : Addr) (cl : List (Str × Addr)) (fp : List Addr), PE (X.blk s H scope (compEnvC scope cl C X.env) fp) elt (eT Γ EN fe)) (hv : ∀ i ∈ t.names, i ∈ own.map (·.2) := by decide) (hnd : t.names.Nodup := by decide) (hs : ∀ x, foldedSetIterable iter X.env x = pure x := by intro _; rfl) :
    PE X (.ListComp elt [⟨tg, iter, ifs, 0⟩] scope pos) (nT Γ E (lcD fi t tt fe (own.map (·.2)))) :=
  PE.imp (pe_lc hc hN hi ok hg ht he hs) (lc_fit hv hnd)
/-- as a value that stays as it is -/
theorem SAd.setNewV {amb : Addr → Prop} {mr : Mr} {H0 H H' : Hp} {tmp : List (V × D)} {ad : Nat → Addr} {σ : L2.St} {ρ : SEnv} {i : Nat} {d : D} {p : Addr} (S : SAd Γ amb H0 mr tmp ad σ H ρ) (hr : isRow ρ i = false) (x : Ext Γ H H') (hp : H p = none) (o : OwnAt Γ.kr (fun a => avO amb ad ρ a ∨ a = p) H' d p) : SA Γ amb H0 mr tmp (σ.set i (some (.ref p))) H' (ρ.set i (.val d)) := by
  obtain ⟨ad', S'⟩ := S.setNew hr x hp o
  by_cases hl : i < ρ.length
  · have := S'.freeze (i := i) (d := d) (List.getElem?_set_self hl)
    rw [List.set_set] at this
    exact ⟨ad', this⟩
  · have e1 : ρ.set i (.own d) = ρ := List.set_eq_of_length_le (by omega)
    have e2 : ρ.set i (.val d) = ρ := List.set_eq_of_length_le (by omega)
    rw [e1] at S'
    rw [e2]
    exact ⟨ad', S'⟩
theorem ts_setLc {np : Bool} {y : Str} {py : Pos} {scope : Scope} {spos : Pos} (i : Nat) (own : List (Str × Nat)) (hc : X.calm = true) (hN : X.N.Nodup) (hi : PI X tg iter (wT Γ E np fi)) (ok : BlkOk X.N X.env.scope scope own)
    (hg : ∀ (s : Shared) (H : Hp) (C : Addr) (cl : List (Str × Addr)) (fp : List Addr), PG (X.blk s H scope (compEnvC scope cl C X.env) fp) tg (gT Γ t)) (ht : ∀ (s : Shared) (H : Hp) (C : Addr) (cl : List (Str × Addr)) (fp : List Addr), PTs (X.blk s H scope (compEnvC scope cl C X.env) fp) ifs (bT Γ EN tt))
    (he : ∀ (s : Shared) (H : Hp) (C : Addr) (cl : List (Str × Addr)) (fp : List Addr), PE (X.blk s H scope (compEnvC scope cl C X.env) fp) elt (eT Γ EN fe)) (hy : X.N[i]? = some y := by rfl) (hyl : X.env.scope.names.lookup y = some .local := by rfl)
    (hsw : swapsWith (.ListComp elt [⟨tg, iter, ifs, 0⟩] scope pos) (some (.Name y py)) spos.line X.env = pure true := by rfl) (hv : ∀ i ∈ t.names, i ∈ own.map (·.2) := by decide) (hnd : t.names.Nodup := by decide) (hs : ∀ x, foldedSetIterable iter X.env x = pure x := by intro _; rfl) :
    PS X (.Assign [.Name y py] (.ListComp elt [⟨tg, iter, ifs, 0⟩] scope pos) spos) (sT Γ E fun ρ => bindO (lcD fi t tt fe (own.map (·.2)) ρ.vis) fun d => setO ρ i (.val d)) :=
  PS.imp (ps_setLc hc hN hy hyl hsw hi ok hg ht he hs) fun Z σ H ⟨amb, H0, mr, tmp, ρ, ⟨ad, S⟩, h⟩ => lc_fit hv hnd _ _ _ (nT_out S S.envVis h fun d q H1 x hq ho h1 => by
    obtain ⟨hr, h1⟩ := SOk.ifp h1
    exact h1 _ H1 (S.setNewV hr x hq ho))
theorem ts_setLcA {np : Bool} {y : Str} {py : Pos} {scope : Scope} {spos : Pos} (i : Nat) (own : List (Str × Nat)) (hc : X.calm = true) (hN : X.N.Nodup) (hi : PI X tg iter (wT Γ E np fi)) (ok : BlkOk X.N X.env.scope scope own)
    (hg : ∀ (s : Shared) (H : Hp) (C : Addr) (cl : List (Str × Addr)) (fp : List Addr), PG (X.blk s H scope (compEnvC scope cl C X.env) fp) tg (gT Γ t)) (ht : ∀ (s : Shared) (H : Hp) (C : Addr) (cl : List (Str × Addr)) (fp : List Addr), PTs (X.blk s H scope (compEnvC scope cl C X.env) fp) ifs (bT Γ EN tt))
    (he : ∀ (s : Shared) (H : Hp) (C : Addr) (cl : List (Str × Addr)) (fp : List Addr), PE (X.blk s H scope (compEnvC scope cl C X.env) fp) elt (eT Γ EN fe)) (hy : X.N[i]? = some y := by rfl) (hyl : X.env.scope.names.lookup y = some .local := by rfl)
    (hsw : swapsWith (.ListComp elt [⟨tg, iter, ifs, 0⟩] scope pos) (some (.Name y py)) spos.line X.env = pure true := by rfl) (hv : ∀ i ∈ t.names, i ∈ own.map (·.2) := by decide) (hnd : t.names.Nodup := by decide) (hs : ∀ x, foldedSetIterable iter X.env x = pure x := by intro _; rfl) :
    PS X (.Assign [.Name y py] (.ListComp elt [⟨tg, iter, ifs, 0⟩] scope pos) spos) (sT Γ E fun ρ => bindO (lcD fi t tt fe (own.map (·.2)) ρ.all) fun d => if purC d = true then setO ρ i (.val d) else .no) :=
  PS.imp (ps_setLc hc hN hy hyl hsw hi ok hg ht he hs) fun Z σ H ⟨amb, H0, mr, tmp, ρ, ⟨ad, S⟩, h⟩ => lc_fit hv hnd _ _ _ (nT_out S S.envAll h fun d q H1 x hq ho h1 => by
    obtain ⟨hp, h1⟩ := SOk.ifp h1
    obtain ⟨hr, h1⟩ := SOk.ifp h1
    exact h1 _ H1 (S.setNewV hr x hq (ho.pureUp hp)))
theorem ts_setLcO {np : Bool} {y : Str} {py : Pos} {scope : Scope} {spos : Pos} (i : Nat) (own : List (Str × Nat)) (hc : X.calm = true) (hN : X.N.Nodup) (hi : PI X tg iter (wT Γ E np fi)) (ok : BlkOk X.N X.env.scope scope own)
    (hg : ∀ (s : Shared) (H : Hp) (C : Addr) (cl : List (Str × Addr)) (fp : List Addr), PG (X.blk s H scope (compEnvC scope cl C X.env) fp) tg (gT Γ t)) (ht : ∀ (s : Shared) (H : Hp) (C : Addr) (cl : List (Str × Addr)) (fp : List Addr), PTs (X.blk s H scope (compEnvC scope cl C X.env) fp) ifs (bT Γ EN tt))
    (he : ∀ (s : Shared) (H : Hp) (C : Addr) (cl : List (Str × Addr)) (fp : List Addr), PE (X.blk s H scope (compEnvC scope cl C X.env) fp) elt (eT Γ EN fe)) (hy : X.N[i]? = some y := by rfl) (hyl : X.env.scope.names.lookup y = some .local := by rfl)
    (hsw : swapsWith (.ListComp elt [⟨tg, iter, ifs, 0⟩] scope pos) (some (.Name y py)) spos.line X.env = pure true := by rfl) (hv : ∀ i ∈ t.names, i ∈ own.map (·.2) := by decide) (hnd : t.names.Nodup := by decide) (hs : ∀ x, foldedSetIterable iter X.env x = pure x := by intro _; rfl) :
    PS X (.Assign [.Name y py] (.ListComp elt [⟨tg, iter, ifs, 0⟩] scope pos) spos) (sT Γ E fun ρ => bindO (lcD fi t tt fe (own.map (·.2)) ρ.vis) fun d => setO ρ i (.own d)) :=
  PS.imp (ps_setLc hc hN hy hyl hsw hi ok hg ht he hs) fun Z σ H ⟨amb, H0, mr, tmp, ρ, ⟨ad, S⟩, h⟩ => lc_fit hv hnd _ _ _ (nT_out S S.envVis h fun d q H1 x hq ho h1 => by
    obtain ⟨hr, h1⟩ := SOk.ifp h1
    exact h1 _ H1 (S.setNew hr x hq ho))
theorem ts_setLcAO {np : Bool} {y : Str} {py : Pos} {scope : Scope} {spos : Pos} (i : Nat) (own : List (Str × Nat)) (hc : X.calm = true) (hN : X.N.Nodup) (hi : PI X tg iter (wT Γ E np fi)) (ok : BlkOk X.N X.env.scope scope own)
    (hg : ∀ (s : Shared) (H : Hp) (C : Addr) (cl : List (Str × Addr)) (fp : List Addr), PG (X.blk s H scope (compEnvC scope cl C X.env) fp) tg (gT Γ t)) (ht : ∀ (s : Shared) (H : Hp) (C : Addr) (cl : List (Str × Addr)) (fp : List Addr), PTs (X.blk s H scope (compEnvC scope cl C X.env) fp) ifs (bT Γ EN tt))
    (he : ∀ (s : Shared) (H : Hp) (C : Addr) (cl : List (Str × Addr)) (fp : List Addr), PE (X.blk s H scope (compEnvC scope cl C X.env) fp) elt (eT Γ EN fe)) (hy : X.N[i]? = some y := by rfl) (hyl : X.env.scope.names.lookup y = some .local := by rfl)
    (hsw : swapsWith (.ListComp elt [⟨tg, iter, ifs, 0⟩] scope pos) (some (.Name y py)) spos.line X.env = pure true := by rfl) (hv : ∀ i ∈ t.names, i ∈ own.map (·.2) := by decide) (hnd : t.names.Nodup := by decide) (hs : ∀ x, foldedSetIterable iter X.env x = pure x := by intro _; rfl) :
    PS X (.Assign [.Name y py] (.ListComp elt [⟨tg, iter, ifs, 0⟩] scope pos) spos) (sT Γ E fun ρ => bindO (lcD fi t tt fe (own.map (·.2)) ρ.all) fun d => if purC d = true then setO ρ i (.own d) else .no) :=
  PS.imp (ps_setLc hc hN hy hyl hsw hi ok hg ht he hs) fun Z σ H ⟨amb, H0, mr, tmp, ρ, ⟨ad, S⟩, h⟩ => lc_fit hv hnd _ _ _ (nT_out S S.envAll h fun d q H1 x hq ho h1 => by
    obtain ⟨hp, h1⟩ := SOk.ifp h1
    obtain ⟨hr, h1⟩ := SOk.ifp h1
    exact h1 _ H1 (S.setNew hr x hq (ho.pureUp hp)))
end
end Fw
end
set_option Elab.async false
set_option linter.all false
set_option autoImplicit false
set_option maxRecDepth 100000
set_option maxHeartbeats 4000000
/-! Fw10: many stores at once. -/
noncomputable section
namespace Fw
open PySem PySem.Spec PyProof.Rows L2

/-- values and new containers: R the containers' places -/
inductive KRel (K : Kr) (av : Addr → Prop) (H : Hp) : List Addr → List Sl → List V → Prop
  | nil : KRel K av H [] [] []
  | val {R : List Addr} {d : D} {v : V} {ss : List Sl} {vs : List V} : Rp K av H d v → KRel K av H R ss vs → KRel K av H R (.val d :: ss) (v :: vs)
  | own {R : List Addr} {d : D} {p : Addr} {ss : List Sl} {vs : List V} : OwnAt K av H d p → p ∉ R → KRel K av H R ss vs → KRel K av H (p :: R) (.own d :: ss) (.ref p :: vs)
theorem KRel.weak {K : Kr} {av av' : Addr → Prop} {H : Hp} (i : ∀ b, av' b → av b) : ∀ {R : List Addr} {ss : List Sl} {vs : List V}, KRel K av H R ss vs → KRel K av' H R ss vs
  | _, _, _, .nil => .nil
  | _, _, _, .val r k => .val (r.stay (Stay.weak i)) (k.weak i)
  | _, _, _, .own o n k => .own (o.weak i) n (k.weak i)
/-- one item -/
def HRel (K : Kr) (av : Addr → Prop) (H H' : Hp) (s : Sl) (v : V) : Prop := match s with
  | .val d => Rp K av H' d v
  | .own d => ∃ p, v = .ref p ∧ H p = none ∧ OwnAt K (fun a => av a ∨ a = p) H' d p
  | _ => False
def hT (Γ : Gm) (E : XK) (f : SEnv → Res Sl) : TE := fun σ H Q => ∃ av av0 ρ, EnvV Γ av H σ (SEnv.vis ρ) ∧ EnvV Γ av0 H σ (SEnv.all ρ) ∧ ROk Γ av H (fun H' s v => HRel Γ.kr av H H' s v) (f ρ) Q E
def kT (Γ : Gm) (E : XK) (f : SEnv → Res (List Sl)) : TA := fun σ H Q => ∃ av av0 ρ, EnvV Γ av H σ (SEnv.vis ρ) ∧ EnvV Γ av0 H σ (SEnv.all ρ) ∧
  ROk Γ av H (fun H' ss vs => ∃ R, (∀ p ∈ R, H p = none ∧ H' p ≠ none) ∧ KRel Γ.kr (fun a => av a ∨ a ∈ R) H' R ss vs) (f ρ) Q E
/-- new places are kept off from now on -/
theorem stay_news {Γ : Gm} {av : Addr → Prop} {H1 H2 : Hp} {R : Addr → Prop} (x : Ext Γ H1 H2) (hR : ∀ p, R p → H1 p = none) : Stay Γ.kr av (fun a => av a ∨ R a) H1 H2 := by
  have nn : ∀ {b : Addr} {z : HO}, H1 b = some z → ¬ avr Γ.kr av b → ¬ avr Γ.kr (fun b => av b ∨ R b) b := fun {b z} e n q => by
    rcases q with (q | q) | q
    · exact n (.inl q)
    · rw [hR b q] at e; cases e
    · exact n (.inr q)
  have s := x.stay av
  exact ⟨s.tup, fun a xs n e => ⟨(s.lst a xs n e).1, nn e n⟩, fun a xs n e => ⟨(s.dK a xs n e).1, nn e n⟩, fun a xs n e => ⟨(s.dT a xs n e).1, nn e n⟩, s.rng, s.frz⟩
section
variable {X : Cx} {Γ : Gm} {E : XK} {x : Str} {a b c o e : Expr} {es : List Expr} {st : Stmt} {pos p p2 pos' : Pos} {f fa fb fc : Env → Res D} {h0 : SEnv → Res Sl} {ks : SEnv → Res (List Sl)}
/-! the items -/
def hV (f : Env → Res D) : SEnv → Res Sl := fun ρ => (f ρ.vis).bind fun d => .ok (.val d)
def hP (f : Env → Res D) : SEnv → Res Sl := fun ρ => (f ρ.all).bind fun d => if d.pure = true then .ok (.val d) else .no
def hN (f : Env → Res D) : SEnv → Res Sl := fun ρ => (f ρ.all).bind fun d => if purC d = true then .ok (.own d) else .no
def hNV (f : Env → Res D) : SEnv → Res Sl := fun ρ => (f ρ.vis).bind fun d => .ok (.own d)
theorem th_v (h : PE X a (eT Γ E f)) : PE X a (hT Γ E (hV f)) := PE.imp h fun σ H Q ⟨av, av0, ρ, e1, e2, h⟩ => ⟨av, _, e1, h.bind fun d v H1 x r q => q v H1 (Ext.refl Γ H1) r⟩
theorem th_p (h : PE X a (eT Γ E f)) : PE X a (hT Γ E (hP f)) := PE.imp h fun σ H Q ⟨av, av0, ρ, e1, e2, h⟩ => ⟨av0, _, e2, h.bind fun d v H1 x r q => by
  obtain ⟨hp, q⟩ := ROk.ifp q
  exact q v H1 (Ext.refl Γ H1) (show Rp Γ.kr av H1 d v from r.pureUp hp)⟩
theorem th_n (h : PE X a (nT Γ E f)) : PE X a (hT Γ E (hN f)) := PE.imp h fun σ H Q ⟨av, av0, ρ, e1, e2, h⟩ => ⟨av0, _, e2, h.bind fun d v H1 x ⟨p, e, hp, o⟩ q => by
  obtain ⟨hq, q⟩ := ROk.ifp q
  exact q v H1 (Ext.refl Γ H1) ⟨p, e, hp, o.pureUp hq⟩⟩
theorem th_nv (h : PE X a (nT Γ E f)) : PE X a (hT Γ E (hNV f)) := PE.imp h fun σ H Q ⟨av, av0, ρ, e1, e2, h⟩ => ⟨av, _, e1, h.bind fun d v H1 x r q => q v H1 (Ext.refl Γ H1) r⟩
def kNil : SEnv → Res (List Sl) := fun _ => .ok []
def kCons (h0 : SEnv → Res Sl) (ks : SEnv → Res (List Sl)) : SEnv → Res (List Sl) := fun ρ => (h0 ρ).bind fun s => (ks ρ).bind fun ss => .ok (s :: ss)
theorem tk_nil : PA X [] (kT Γ E kNil) := PA.imp pa_nil fun σ H Q ⟨av, av0, ρ, e1, e2, h⟩ => h [] H (Ext.refl Γ H) ⟨[], (fun _ hp => by cases hp), .nil⟩
theorem tk_cons (ha : PE X a (hT Γ E h0)) (hr : PA X es (kT Γ E ks)) (hs : starEach (a :: es) X.env = (false, eval a X.env) :: starEach es X.env := by rfl) : PA X (a :: es) (kT Γ E (kCons h0 ks)) :=
  PA.imp (pa_cons ha hr hs) fun σ H Q ⟨av, av0, ρ, e1, e2, h⟩ => ⟨av, av0, ρ, e1, e2, h.bind fun s v H1 x1 r1 h1 => by
    have back : ∀ {p : Addr}, H1 p = none → H p = none := fun {p} hp => by
      cases q : H p with
      | none => rfl
      | some u => exact absurd hp (x1.there p (by rw [q]; intro z; cases z))
    cases s with
    | dead => exact (show False from r1).elim
    | row d => exact (show False from r1).elim
    | val d =>
      refine ⟨av, av0, ρ, e1.ext x1, e2.ext x1, h1.bind fun ss vs H2 x2 r2 h2 => ?_⟩
      obtain ⟨R, hR, k⟩ := r2
      have r1 : Rp Γ.kr av H1 d v := r1
      exact h2 _ H2 (Ext.refl Γ H2) ⟨R, fun p hp => ⟨back (hR p hp).1, (hR p hp).2⟩, .val (r1.stay (stay_news x2 fun p hp => (hR p hp).1)) k⟩
    | own d =>
      obtain ⟨p, rfl, hp, o⟩ := r1
      obtain ⟨u, hu, hcu⟩ := o.cont
      refine ⟨fun a => av a ∨ a = p, av0, ρ, e1.new x1 hp hu, e2.ext x1, ROk.bind (av := av) h1 fun ss vs H2 x2 r2 h2 => ?_⟩
      obtain ⟨R, hR, k⟩ := r2
      have hpR : p ∉ R := fun z => by
        have := (hR p z).1
        rw [hu] at this
        cases this
      have hrow : Γ.row ≠ some p := e1.wf.row.new hp
      have w : ∀ b, (av b ∨ b ∈ p :: R) → ((av b ∨ b = p) ∨ b ∈ R) := fun b z => by
        rcases z with z | z
        · exact .inl (.inl z)
        · rcases List.mem_cons.mp z with z | z
          · exact .inl (.inr z)
          · exact .inr z
      refine h2 _ H2 (Ext.refl Γ H2) ⟨p :: R, fun q hq => ?_, .own ?_ hpR (k.weak w)⟩
      · rcases List.mem_cons.mp hq with z | hq
        · rw [z]; exact ⟨hp, x2.there p (by rw [hu]; exact Option.some_ne_none u)⟩
        · exact ⟨back (hR q hq).1, (hR q hq).2⟩
      · refine (o.stay (stay_news (R := fun a => a ∈ R) x2 fun q hq => (hR q hq).1) fun z e n => x2.keep _ z e n fun _ => hrow).weak w⟩
/-! the stores -/
def storeV (σ : St) : List Nat → List V → St
  | i :: is, v :: vs => storeV (σ.set i (some v)) is vs
  | _, _ => σ
def setSls (ρ : SEnv) : List Nat → List Sl → Option SEnv
  | [], [] => some ρ
  | i :: is, s :: ss => if isRow ρ i = false then setSls (ρ.set i s) is ss else none
  | _, _ => none
def parO (is : List Nat) (ks : SEnv → Res (List Sl)) : SEnv → Out := fun ρ => bindO (ks ρ) fun ss => match setSls ρ is ss with | some ρ' => .nx ρ' | none => .no
theorem setSls_len : ∀ {is : List Nat} {ss : List Sl} {ρ ρ' : SEnv}, setSls ρ is ss = some ρ' → is.length = ss.length
  | [], [], _, _, _ => rfl
  | [], _ :: _, _, _, h => by cases h
  | _ :: _, [], _, _, h => by cases h
  | i :: is, s :: ss, ρ, ρ', h => by
    unfold setSls at h
    split at h
    · exact congrArg (· + 1) (setSls_len h)
    · cases h
theorem KRel.len {K : Kr} {av : Addr → Prop} {H : Hp} : ∀ {R : List Addr} {ss : List Sl} {vs : List V}, KRel K av H R ss vs → ss.length = vs.length
  | _, _, _, .nil => rfl
  | _, _, _, .val _ k => congrArg (· + 1) k.len
  | _, _, _, .own _ _ k => congrArg (· + 1) k.len
theorem store_run {amb : Addr → Prop} {mr : Mr} {H0 H : Hp} {tmp : List (V × D)} {ρ' : SEnv} : ∀ {is : List Nat} {ss : List Sl} {vs : List V} {R : List Addr} {ad : Nat → Addr} {σ : St} {ρ : SEnv}, SAd Γ (fun a => amb a ∨ a ∈ R) H0 mr tmp ad σ H ρ →
    KRel Γ.kr (avO (fun a => amb a ∨ a ∈ R) ad ρ) H R ss vs → (∀ p ∈ R, H0 p = none ∧ ¬ amb p ∧ NR Γ p) → setSls ρ is ss = some ρ' → SA Γ amb H0 mr tmp (storeV σ is vs) H ρ'
  | [], ss, vs, R, ad, σ, ρ, S, k, hR, h => by
    cases ss with
    | cons _ _ => cases h
    | nil =>
      cases h
      cases k
      exact ⟨ad, S.ambLess fun a z => .inl z⟩
  | i :: is, ss, vs, R, ad, σ, ρ, S, k, hR, h => by
    cases k with
    | nil => cases h
    | @val _ d v ss vs r k =>
      unfold setSls at h
      split at h
      · rename_i hr
        exact store_run (is := is) (S.setVal hr r) (k.weak avO_val) hR h
      · cases h
    | @own R d p ss vs o hp k =>
      unfold setSls at h
      split at h
      · rename_i hr
        obtain ⟨g1, g2, g3⟩ := hR p List.mem_cons_self
        obtain ⟨ad', S', w⟩ := S.takeIn (i := i) (d := d) hr List.mem_cons_self g1 g2 g3 o
        have sub : ∀ a, (amb a ∨ a ∈ R) → (amb a ∨ (a ∈ p :: R ∧ a ≠ p)) := fun a z => z.imp id fun z => ⟨List.mem_cons_of_mem _ z, fun e => hp (e ▸ z)⟩
        exact store_run (is := is) (S'.ambLess sub) (k.weak fun b z => w b (Or.imp (sub b) id z)) (fun q hq => hR q (List.mem_cons_of_mem _ hq)) h
      · cases h
theorem par_out {amb : Addr → Prop} {mr : Mr} {H0 H : Hp} {tmp : List (V × D)} {ad : Nat → Addr} {σ : St} {ρ : SEnv} {Z : Ends} {is : List Nat} {R : List V → Hp → Prop} (S : SAd Γ amb H0 mr tmp ad σ H ρ) (h : SOk Γ amb H0 mr tmp (parO is ks ρ) Z E)
    (hk : ∀ vs H1, vs.length = is.length → (∀ H2, Ext Γ H1 H2 → Z.nx (storeV σ is vs) H2) → R vs H1) : kT Γ E ks σ H R := by
  refine ⟨avO amb ad ρ, _, ρ, S.envVis, S.envAll, SOk.bind S h fun ss vs H1 x1 S1 r1 h1 => ?_⟩
  obtain ⟨Rs, hR, k⟩ := r1
  cases q : setSls ρ is ss with
  | none => simp only [q] at h1; exact (show False from h1).elim
  | some ρ' =>
    simp only [q] at h1
    refine hk vs H1 ((setSls_len q).trans k.len).symm fun H2 x2 => h1 _ H2 ?_
    have S2 := S.reserve (R := fun a => a ∈ Rs) (x1.trans x2) (fun a z => (hR a z).1) (fun a z => x2.there a (hR a z).2)
    refine store_run S2 ?_ (fun p hp => ?_) q
    · have w : ∀ b, avO (fun a => amb a ∨ a ∈ Rs) ad ρ b → (avO amb ad ρ b ∨ b ∈ Rs) := fun b z => by
        rcases z with (z | z) | z
        · exact .inl (.inl z)
        · exact .inr z
        · exact .inl (.inr z)
      have ex : ∀ {R' : List Addr} {ss : List Sl} {vs : List V}, (∀ p ∈ R', p ∈ Rs) → KRel Γ.kr (fun a => avO amb ad ρ a ∨ a ∈ Rs) H1 R' ss vs → KRel Γ.kr (fun a => avO amb ad ρ a ∨ a ∈ Rs) H2 R' ss vs := by
        intro R' ss vs hs k
        induction k with
        | nil => exact .nil
        | val r k ih => exact .val (r.ext x2) (ih hs)
        | @own R' d p ss vs o n k ih =>
          refine .own (o.stay (x2.stay _) fun z e n => x2.keep _ z e n fun _ => ?_) n (ih fun q hq => hs q (List.mem_cons_of_mem _ hq))
          exact S.rw.new (hR p (hs p List.mem_cons_self)).1
      exact (ex (fun p hp => hp) k).weak w
    · have hn := (hR p hp).1
      refine ⟨?_, fun z => S.ambT p z hn, S.rw.nr hn⟩
      cases q : H0 p with
      | none => rfl
      | some u => exact absurd hn (S.ext.there p (by rw [q]; intro z; cases z))
theorem ts_par2 {i j : Nat} {x y : Str} {px py pt : Pos} {kt k2 pt2} (hc : X.calm = true) (hN : X.N.Nodup) (ha : PA X [a, b] (kT Γ E ks)) (hi : X.N[i]? = some x := by rfl) (hj : X.N[j]? = some y := by rfl) (hij : i ≠ j := by decide)
    (hx : X.env.scope.names.lookup x = some .local := by rfl) (hy : X.env.scope.names.lookup y = some .local := by rfl)
    (hw : swappedStores [.Tuple [.Name x px, .Name y py] kt pt] (.Tuple [a, b] k2 pt2) X.env = pure (some [x, y]) := by rfl)
    (hs : swapsWithSole [.Tuple [.Name x px, .Name y py] kt pt] (.Tuple [a, b] k2 pt2) pos.line X.env = pure false := by rfl) : PS X (.Assign [.Tuple [.Name x px, .Name y py] kt pt] (.Tuple [a, b] k2 pt2) pos) (sT Γ E (parO [i, j] ks)) :=
  PS.imp (ps_par hc hN hi hj hij hx hy ha hw hs) fun Z σ H ⟨amb, H0, mr, tmp, ρ, ⟨ad, S⟩, h⟩ => par_out S h fun vs H1 hl k => by
    match vs, hl with
    | [v, w], _ => exact ⟨v, w, rfl, k H1 (Ext.refl Γ H1)⟩
theorem ts_par3 {i j l : Nat} {x y z : Str} {px py pz pt : Pos} {kt k2 pt2} (hc : X.calm = true) (hN : X.N.Nodup) (ha : PA X [a, b, c] (kT Γ E ks)) (hi : X.N[i]? = some x := by rfl) (hj : X.N[j]? = some y := by rfl) (hl : X.N[l]? = some z := by rfl) (hij : i ≠ j := by decide) (hil : i ≠ l := by decide) (hjl : j ≠ l := by decide)
    (hx : X.env.scope.names.lookup x = some .local := by rfl) (hy : X.env.scope.names.lookup y = some .local := by rfl) (hz : X.env.scope.names.lookup z = some .local := by rfl)
    (hw : swappedStores [.Tuple [.Name x px, .Name y py, .Name z pz] kt pt] (.Tuple [a, b, c] k2 pt2) X.env = pure (some [x, y, z]) := by rfl)
    (hs : swapsWithSole [.Tuple [.Name x px, .Name y py, .Name z pz] kt pt] (.Tuple [a, b, c] k2 pt2) pos.line X.env = pure false := by rfl) : PS X (.Assign [.Tuple [.Name x px, .Name y py, .Name z pz] kt pt] (.Tuple [a, b, c] k2 pt2) pos) (sT Γ E (parO [i, j, l] ks)) :=
  PS.imp (ps_par3 hc hN hi hj hl hij hil hjl hx hy hz ha hw hs) fun Z σ H ⟨amb, H0, mr, tmp, ρ, ⟨ad, S⟩, h⟩ => par_out S h fun vs H1 hl k => by
    match vs, hl with
    | [u, v, w], _ => exact ⟨u, v, w, rfl, k H1 (Ext.refl Γ H1)⟩
/-- raw targets: plain names -/
def gNs (is : List Nat) : TGs := fun vs σ H Q => vs.length = is.length ∧ Q (storeV σ is vs) H
theorem gns_nil : PGs X [] (gNs []) := PGs.imp pgs_nil fun vs σ H Q ⟨hl, q⟩ => by
  cases vs with
  | nil => exact ⟨rfl, q⟩
  | cons _ _ => cases hl
theorem gns_cons {is : List Nat} (i : Nat) (h : PGs X es (gNs is)) (hN : X.N.Nodup) (hi : X.N[i]? = some x := by rfl) (hx : Loc X.env.scope x := by first | exact Or.inl rfl | exact Or.inr rfl) (hf : X.fn x = true ∨ X.env.scope.names.lookup x = some .local := by first | exact .inl rfl | exact .inr rfl)
    (hs : (assignEach (.Name x pos :: es) X.env).map (·.2) = assign (.Name x pos) X.env :: (assignEach es X.env).map (·.2) := by rfl) : PGs X (.Name x pos :: es) (gNs (i :: is)) :=
  PGs.imp (pgs_cons (pg_name hN hi hx hf) h hs) fun vs σ H Q ⟨hl, q⟩ => by
    cases vs with
    | nil => cases hl
    | cons v vs => exact ⟨v, vs, rfl, by simpa using hl, q⟩
/-- by way of a tuple -/
theorem ts_parT {ts : List Expr} {is : List Nat} {kt k2 : Nat} {pt pt2 : Pos} (hc : X.calm = true) (ha : PA X es (kT Γ E ks)) (hg : PGs X ts (gNs is)) (hz : is.length ≤ lim := by decide) (hn : (assignEach ts X.env).length = is.length := by rfl) (hst : (assignEach ts X.env).findIdx? (·.1) = none := by rfl)
    (hs : swapsWithSole [.Tuple ts kt pt] (.Tuple es k2 pt2) pos.line X.env = pure false := by rfl) (hw : swappedStores [.Tuple ts kt pt] (.Tuple es k2 pt2) X.env = pure none := by rfl)
    (h1 : (assignEach [.Tuple ts kt pt] X.env).map (·.2) = [assign (.Tuple ts kt pt) X.env] := by rfl) : PS X (.Assign [.Tuple ts kt pt] (.Tuple es k2 pt2) pos) (sT Γ E (parO is ks)) :=
  PS.imp (ps_asg (pe_tup ha) (pg_tup hc hg hn hst) hs hw h1) fun Z σ H ⟨amb, H0, mr, tmp, ρ, ⟨ad, S⟩, h⟩ => par_out S h fun vs H1 hl k =>
    ⟨by rw [lim_eq, hl]; exact hz, fun p hp => ⟨p, vs, rfl, SqT.of upd_same, hl, hl, k _ (Ext.new _ hp)⟩⟩
end
end Fw
end
set_option Elab.async false
set_option linter.all false
set_option autoImplicit false
set_option maxRecDepth 100000
set_option maxHeartbeats 4000000
/-! Fw11: all, any of a generator expression; its element runs in the generator's own frame. -/
noncomputable section
namespace Fw
open PySem PySem.Spec PyProof.Rows L2

/-- the state but for the table of generators and the marks -/
structure Slp (s s' : Shared) : Prop where
  heap : s'.heap = s.heap
  os : s'.os = s.os
  bare : AllBare s'.gens
theorem inv_slp {X : Cx} {pins : List (Addr × Obj)} {σ : L2.St} {H : Hp} {s s' : Shared} (I : Inv X pins σ H s) (z : Slp s s') : Inv X pins σ H s' := by
  obtain ⟨h1, h2, h3⟩ := z
  obtain ⟨ok, os, bare, base, loc, cell, free, freeC, pin, hok, len⟩ := I
  refine ⟨ok, h2.trans os, h3, ?_, ?_, ?_, free, freeC, ?_, ?_, len⟩
  · rw [h1]; exact base
  · rw [h1]; exact loc
  · rw [h1]; exact cell
  · rw [h1]; exact pin
  · rw [h1]; exact hok
/-- the context of a generator expression's frame -/
abbrev genCx (X : Cx) (A' : Around) (s : Shared) (H : Hp) (scope : Scope) (cenv : PySem.Env) (fp : List Addr) (pn : List (Addr × Obj)) : Cx :=
  { X with A := A', s_0 := s, H_0 := H, env := cenv, outer := X.stack, stack := cenv :: X.stack, ex := fp, fn := fun x => scope.names.lookup x == some .cell, pn := pn, xe := fun _ _ => False }
structure GenOk (N : List Str) (sc scope : Scope) (own : List (Str × Nat)) : Prop where
  blk : BlkOk N sc scope own
  co : scope.isCoroutine = false
  cell : ∀ y ∈ scope.names, y.2 ≠ .cell
  dot : scope.names.lookup (".0" : Str) = some NameKind.local
section
variable {X : Cx} {pins : List (Addr × Obj)} {σ : L2.St} {H : Hp} {s : Shared}
theorem clo_sub {cells : List (Str × Addr)} {names : List (Str × NameKind)} (has : ∀ y ∈ names, y.2 = .free → ∃ c, cells.lookup y.1 = some c) {y : Str} {c : Addr} (e : (cloFrom cells names []).lookup y = some c) : cells.lookup y = some c := by
  rcases cloFrom_mem (PySem.mem_of_lookup e) with z | ⟨z, rfl⟩
  · exact absurd z (by simp)
  · rcases has _ z rfl with ⟨c, g⟩
    rw [g]
    rfl
theorem clo_get {cells : List (Str × Addr)} {names : List (Str × NameKind)} (has : ∀ y ∈ names, y.2 = .free → ∃ c, cells.lookup y.1 = some c) {y : Str} (e : names.lookup y = some .free) : ∃ c, (cloFrom cells names []).lookup y = some c ∧ cells.lookup y = some c :=
  (mem_lookup (cloFrom_has (cells := cells) (acc := []) (PySem.mem_of_lookup e))).imp fun _ g => ⟨g, clo_sub has g⟩
theorem gen_start {A' : Around} {scope : Scope} {own : List (Str × Nat)} {fp : List Addr} {a : Addr} {og : Obj} {code : Value} {gs5 : Array GenState} {tk5 : Nat} {h5 : Heap} {m0 : Str → Option Value} (I : Inv X pins σ H s) (ok : GenOk X.N X.env.scope scope own) (hN : X.N.Nodup)
    (hfp : ∀ b ∈ fp, FpOk X pins H b ∧ b < s.heap.objs.size) (hA : A'.handled = none) (hfr : A'.frames = some (genEnv scope (cloFrom X.env.cells scope.names []) s.heap.objs.size code builtinsNs X.env :: X.stack))
    (hb : AllBare gs5) (k : ∀ b o, s.heap.get? b = some o → h5.get? b = some o) (hn : h5.Ns s.heap.objs.size m0) (ha : h5.get? a = some og) (hag : s.heap.objs.size ≤ a) (haC : a ≠ s.heap.objs.size) (hao : ∀ v, og.data ≠ .cell v) :
    Inv (genCx X A' s H scope (genEnv scope (cloFrom X.env.cells scope.names []) s.heap.objs.size code builtinsNs X.env) fp [(a, og)]) [] (wipe σ (own.map (·.2))) H { s with gens := gs5, toks := tk5, heap := h5 } := by
  have has : ∀ y ∈ scope.names, y.2 = .free → ∃ c, X.env.cells.lookup y.1 = some c := fun y m f => (ok.blk.free y m f).elim (fun z => I.ok.has _ (.inl z)) fun z => I.ok.has _ (.inr z)
  have sub : ∀ {y c}, (cloFrom X.env.cells scope.names []).lookup y = some c → X.env.cells.lookup y = some c := fun e => clo_sub has e
  have nc : ∀ y, scope.names.lookup y ≠ some .cell := fun y z => ok.cell _ (PySem.mem_of_lookup z) rfl
  have good : (genCx X A' s H scope (genEnv scope (cloFrom X.env.cells scope.names []) s.heap.objs.size code builtinsNs X.env) fp [(a, og)]).Ok := {
    mod := I.ok.mod
    kind := ok.blk.kind
    glob := I.ok.glob
    blt := rfl
    above := Nat.le_refl _
    inj := fun y z c p q => I.ok.inj y z c (sub p) (sub q)
    has := fun y p => p.elim (fun z => absurd z (nc y)) fun z => (clo_get has z).imp fun _ g => g.1
    cab := fun y c z _ => absurd (beq_iff_eq.mp z) (nc y)
    hd := fun _ => hA
    frames := hfr
    stk := .inr ⟨rfl, rfl⟩
    exf := fun b m => ⟨Nat.ne_of_lt (hfp b m).2, fun y c g => (hfp b m).1.2.2.2.2.1 y c (sub g)⟩
    bs := I.bs
    bsz := Nat.le_trans I.ok.bsz I.sz
    noex := fun b o g m => (hfp b m).1.2.2.2.1.elim (I.ok.noex b o g) fun z => Nat.lt_irrefl _ (Nat.lt_of_lt_of_le (Heap.lt_size g) (Nat.le_trans I.ok.bsz z))
    exfs := fun b m z => (List.mem_cons.mp (I.stkSub b z)).elim (hfp b m).1.2.1 (hfp b m).1.2.2.1
    funs := I.stack
    frf := I.stkFree }
  have wide : ∀ (i : Nat) (y : Str) (v : V), X.N[i]? = some y → (wipe σ (own.map (·.2)))[i]? = some (some v) → Vis scope y → scope.names.lookup y = some .free := by
    intro i y v at_ slot vis
    rcases vis with z | z | z
    · refine absurd ?_ (wipe_some slot).2
      rcases ok.blk.own _ (PySem.mem_of_lookup z) (.inl rfl) with q | q
      · rcases List.mem_map.mp q with ⟨p, hp, rfl⟩
        exact List.mem_map.mpr ⟨p, hp, nodup_ix hN (ok.blk.ix p hp) at_⟩
      · exact absurd (List.mem_of_getElem? at_) q
    · exact absurd z (nc y)
    · exact z
  refine {
    ok := good
    os := rfl
    bare := hb
    base := Un.kept k
    loc := ⟨m0, hn, fun i y v at_ slot vis => ?_⟩
    cell := fun y c g => (I.cell y c (sub g)).imp fun _ z => z.keeps k
    free := I.hok.fresh (Nat.le_refl _)
    freeC := fun y c g => I.freeC y c (sub g)
    pin := fun p hp => ?_
    hok := I.hok.kept k
    len := (wipe_length _ _).trans I.len }
  · have fr := wide i y v at_ slot vis
    have kind := ok.blk.free _ (PySem.mem_of_lookup fr) rfl
    rcases clo_get has fr with ⟨c, g1, g2⟩
    rcases I.loc with ⟨m, _, known⟩
    rcases known i y v at_ (wipe_some slot).1 (kind.elim (fun z => .inr (.inl z)) fun z => .inr (.inr z)) with ⟨u, r, ⟨z, _⟩ | ⟨_, c2, g3, held⟩⟩
    · exact (kind.elim (fun q => by cases (show some NameKind.local = some .cell from z.symm.trans q)) fun q => by cases (show some NameKind.local = some .free from z.symm.trans q))
    · cases g2.symm.trans g3
      exact ⟨u, r, .inr ⟨.inr fr, c, g1, held.keeps k⟩⟩
  · cases (show p = (a, og) by simpa using hp)
    refine ⟨ha, I.hok.fresh hag, haC, fun z => ?_, hao⟩
    rcases I.stack.mem (show a ∈ frs X.stack from z) with ⟨_, o, g, _⟩
    exact Nat.lt_irrefl _ (Nat.lt_of_lt_of_le (Heap.lt_size g) hag)
end

/-- all (st = false), any (st = true): what is wanted of the element at each turn; the def's table may have grown -/
def tGen (st : Bool) (wi : TI) (g : TG) (te : TE) (vs : List Nat) (P : Addr) : TE := fun σ H Q => wi σ H fun J H1 => GxR.TabG H1 P ∧ ∀ H2, GxR.Tabbed P H1 H2 → ∃ W : Nat → Nat → Hp → Prop, (∃ m, W 0 m H2) ∧ ∀ i m H, W i m H →
  (J.stop i H ∧ Q (.bl !st) H) ∨ (J.go i H ∧ 0 < m ∧ ∀ x H', J.yld i H x H' → g x (wipe σ vs) H' fun σ2 H2 => wipe σ2 vs = wipe σ vs ∧ te σ2 H2 fun y H3 => ∃ b, y = .bl b ∧ if b = st then Q (.bl st) H3 else ∃ m', m' < m ∧ W (i + 1) m' H3)
section
variable {X : Cx} {elt tg iter : Expr} {scope : Scope} {pos : Pos} {B : Around} {it a : Addr} {og : Obj} {cenv : PySem.Env} {fp : List Addr} {s0 : Shared} {H0 : Hp} {σ : L2.St} {vs : List Nat} {st : Bool} {Q : VK} {J : It} {g : TG} {te : TE} {tn : Nat → Heap → Prop}
abbrev gCode (elt tg iter : Expr) (scope : Scope) (pos : Pos) (it : Addr) (cenv : PySem.Env) : Code := .compLoop (.GeneratorExp elt [⟨tg, iter, [], 0⟩] scope pos) 0 (.ref it) .none cenv
abbrev gCx (X : Cx) (B : Around) (elt tg iter : Expr) (scope : Scope) (pos : Pos) (it : Addr) (cenv : PySem.Env) (s0 : Shared) (H0 : Hp) (fp : List Addr) (a : Addr) (og : Obj) : Cx := genCx X (B.over (gCode elt tg iter scope pos it cenv) []) s0 H0 scope cenv fp [(a, og)]
def gFin (X : Cx) (Q : VK) (st : Bool) (s : Shared) : Prop := ∃ σ' H, Inv X [] σ' H s ∧ Q (.bl !st) H
def gY (X : Cx) (Q : VK) (st : Bool) : Protocol := fun n s₀ v s kap => ∃ b σ' H pins', v = .bool b ∧ Inv X pins' σ' H s ∧ if b = st then Q (.bl st) H else ∀ s', Slp s s' → kap (.send .none) s'
theorem seg_genI (hc : X.calm = true) (hco : scope.isCoroutine = false) (hcs : cenv.scope = scope) (haf : a ∉ fp) (hg : PG (gCx X B elt tg iter scope pos it cenv s0 H0 fp a og) tg g) (he : PE (gCx X B elt tg iter scope pos it cenv s0 H0 fp a og) elt te) (T : Turn X.prog X.w X.K tg J fp it tn) {W : Nat → Nat → Hp → Prop}
    (turn : ∀ i m H, W i m H → (J.stop i H ∧ Q (.bl !st) H) ∨ (J.go i H ∧ 0 < m ∧ ∀ x H', J.yld i H x H' → g x (wipe σ vs) H' fun σ2 H2 => wipe σ2 vs = wipe σ vs ∧ te σ2 H2 fun y H3 => ∃ b, y = .bl b ∧ if b = st then Q (.bl st) H3 else ∃ m', m' < m ∧ W (i + 1) m' H3)) :
    ∀ (n m i : Nat) (s₀ s : Shared) (H : Hp), m ≤ n → Inv (gCx X B elt tg iter scope pos it cenv s0 H0 fp a og) [] (wipe σ vs) H s → tn i s.heap → (∀ b ∈ fp, H b = none) → W i m H →
      Seg (model X.prog X.w) B (fun n s₀ r s₁ => r = .ok .next ∧ gFin (gCx X B elt tg iter scope pos it cenv s0 H0 fp a og) Q st s₁) (gY (gCx X B elt tg iter scope pos it cenv s0 H0 fp a og) Q st) n s₀ (gCode elt tg iter scope pos it cenv) ((model X.prog X.w).den (gCode elt tg iter scope pos it cenv)) [] s := by
  generalize hX : gCx X B elt tg iter scope pos it cenv s0 H0 fp a og = Xg at hg he ⊢
  have ep : Xg.prog = X.prog := by rw [← hX]
  have ew : Xg.w = X.w := by rw [← hX]
  have eK : Xg.K = X.K := by rw [← hX]
  have eA : Xg.A = B.over (gCode elt tg iter scope pos it cenv) [] := by rw [← hX]
  have ee : Xg.env = cenv := by rw [← hX]
  have ex : Xg.ex = fp := by rw [← hX]
  have epn : Xg.pn = [(a, og)] := by rw [← hX]
  have ec : Xg.calm = true := by rw [← hX]; exact hc
  have exe : Xg.xe = fun _ _ => False := by rw [← hX]
  have stat : ∀ {σ' : L2.St} {H' : Hp} {s' : Shared}, Inv Xg [] σ' H' s' → (∀ b ∈ fp, H' b = none) → ∀ b ∈ fp, FpOk Xg [] H' b := fun {σ' H' s'} I' hn b hb => by
    have hb' : b ∈ Xg.ex := by rw [ex]; exact hb
    refine ⟨hn b hb, (I'.ok.exf b hb').1, I'.ok.exfs b hb', .inl hb', fun x c e => (I'.ok.exf b hb').2 x c e, fun p hp z => ?_⟩
    rw [epn] at hp
    have hp : p = (a, og) := by simpa using hp
    rw [hp] at z
    have z : a = b := z
    exact haf (by rw [z]; exact hb)
  intro n
  induction n with
  | zero =>
    intro m i s₀ s H hm I tnI hn w
    rcases turn i m H w with ⟨stop, qq⟩ | ⟨_, hm0, _⟩
    · show Seg _ B _ _ _ s₀ _ ((compTurn (.GeneratorExp elt [⟨tg, iter, [], 0⟩] scope pos) 0 (.ref it) .none cenv).onRaise (leaving cenv)) [] s
      rw [compTurn_gen, Sem.onRaise_eq_wrap]
      refine seg_bind_wrap (wpAny_standAt ?_)
      have td := T.done Xg ep ew eK ec i [] s _ H (fun _ _ => False) I (stat I hn) tnI stop
      rw [eA] at td
      refine seg_bind_wrap (thnF td fun r s6 ⟨hr, I6⟩ => ?_)
      subst hr
      exact seg_end (.ok .next) ⟨rfl, _, H, I6, qq⟩
    · omega
  | succ n ih =>
    intro m i s₀ s H hm I tnI hn w
    show Seg _ B _ _ _ s₀ _ ((compTurn (.GeneratorExp elt [⟨tg, iter, [], 0⟩] scope pos) 0 (.ref it) .none cenv).onRaise (leaving cenv)) [] s
    rw [compTurn_gen, Sem.onRaise_eq_wrap]
    refine seg_bind_wrap (wpAny_standAt ?_)
    rcases turn i m H w with ⟨stop, qq⟩ | ⟨go, hm0, step⟩
    · have td := T.done Xg ep ew eK ec i [] s _ H (fun _ _ => False) I (stat I hn) tnI stop
      rw [eA] at td
      refine seg_bind_wrap (thnF td fun r s6 ⟨hr, I6⟩ => ?_)
      subst hr
      exact seg_end (.ok .next) ⟨rfl, _, H, I6, qq⟩
    · have ti := T.item Xg ep ew eK ec i [] s _ H (fun _ _ => False) I (stat I hn) tnI go
      rw [eA] at ti
      refine seg_bind_wrap (thnF ti fun r s6 ⟨u, hr, h6⟩ => ?_)
      subst hr
      refine seg_bind_wrap (thnF h6 fun _ s7 ⟨x, H7, I7, r7, y7, st7, n7⟩ => ?_)
      have I7' := I7.pinned (stat I7 n7) (T.obj _ _ st7)
      have pg := hg.run _ s7 _ H7 x u _ I7' r7 (step x H7 y7)
      rw [eA, ee, ep, ew, exe] at pg
      refine seg_bind_wrap (thnF pg fun _ s8 ⟨σ8, H8, I8, hw8, q8⟩ => ?_)
      have pe := he.run _ s8 σ8 H8 _ I8 q8
      rw [eA, ee, ep, ew, exe] at pe
      simp only [List.forIn_nil]
      refine seg_bind_wrap (wpAny_pure ?_)
      simp only [if_true]
      have hy : ∀ v, yieldOut cenv v = yieldValue v := fun v => by simp only [yieldOut, hcs, hco, Bool.false_eq_true, if_false]
      simp only [hy]
      rw [Sem.bind_eq_wrap', Sem.bind_eq_wrap', Sem.wrap_wrap, Sem.wrap_wrap]
      refine seg_wrap (thnF pe fun z s10 ⟨yv, H10, I10, r10, b, hyb, nx⟩ => ?_)
      subst hyb
      obtain rfl : z = Value.bool b := r10
      refine seg_at (seg_yield rfl rfl rfl ⟨b, σ8, H10, _, rfl, I10, ?_⟩)
      by_cases hb : b = st
      · rw [if_pos hb] at nx ⊢
        exact nx
      · rw [if_neg hb] at nx ⊢
        intro s' zs
        obtain ⟨m', hm', w'⟩ := nx
        have I11 := inv_slp I10 zs
        have pin' : ∀ b ∈ fp, ∀ o, s7.heap.get? b = some o → s'.heap.get? b = some o ∧ H10 b = none := fun b hb o e =>
          let z := I11.pin (b, o) (List.mem_append_right _ (List.mem_append_right _ (mem_pinsAt hb e)))
          ⟨z.1, z.2.1⟩
        have hl : (wipe σ vs).length = σ8.length := by rw [← hw8, wipe_length]
        refine seg_again rfl (ih m' (i + 1) s' s' H10 (by omega) ((I11.unpinned (pins := [])).weak hl fun j v e => ?_) (T.keep _ _ _ st7 fun b hb o e => (pin' b hb o e).1) (fun b hb => ?_) w')
        · rw [← hw8] at e
          exact (wipe_some e).1
        · obtain ⟨o, e, _⟩ := T.obj _ _ st7 b hb
          exact (pin' b hb o e).2
/-- from its start -/
theorem seg_startI {n : Nat} {s₀ s : Shared} {R : GenEnd} {Y : Protocol} (h : Seg (model X.prog X.w) B R Y n s₀ (gCode elt tg iter scope pos it cenv) ((model X.prog X.w).den (gCode elt tg iter scope pos it cenv)) [] s)
    (hself : ∀ (A : Around) (Q : Value → Shared → Prop) (E : Value → Shared → Prop), Q (.ref it) s → wpAny (model X.prog X.w) A (pyIter (.ref it)) Q E s) :
    Seg (model X.prog X.w) B R Y n s₀ (.compStart (.GeneratorExp elt [⟨tg, iter, [], 0⟩] scope pos) 0 (.ref it) .none cenv) ((model X.prog X.w).den (.compStart (.GeneratorExp elt [⟨tg, iter, [], 0⟩] scope pos) 0 (.ref it) .none cenv)) [] s := by
  show Seg _ B _ _ _ s₀ _ ((compStart (.GeneratorExp elt [⟨tg, iter, [], 0⟩] scope pos) 0 (.ref it) .none cenv).onRaise (leaving cenv)) [] s
  unfold compStart
  rw [Sem.onRaise_eq_wrap]
  show Seg _ B _ _ _ s₀ _ ((ask >>= _).wrap _ _ _ _) [] s
  refine seg_bind_wrap (wpAny_askSetting ?_)
  split
  · exact seg_again rfl h
  · first
      | exact seg_bind_wrap (wpAny_rule (seg_bind_wrap (wpAny_standAt (seg_bind_wrap (hself _ _ _ (seg_again rfl h))))))
      | (refine seg_bind_wrap (wpAny_rule ?_); show Seg _ B _ _ _ s₀ _ ((standAt iter.pos >>= _).wrap _ _ _ _) [] s; exact seg_bind_wrap (wpAny_standAt (seg_bind_wrap (hself _ _ _ (seg_again rfl h)))))
/-! ### the consumers -/
theorem setGen_slp {s s1 : Shared} {g : Nat} {gs : GenState} (hb : AllBare s.gens) (hx : gs.bare = true) : Slp s (s.setGen g gs) := ⟨rfl, rfl, allBare_setGen hb hx⟩
variable {A : Around} {gn : Nat}
/-- what the generator promises, standing in the table at gn -/
def gHold (X Xg : Cx) (A : Around) (Q : VK) (st : Bool) (gn n : Nat) (s : Shared) : Prop :=
  ∃ gs, s.gens[gn]? = some gs ∧ gs.Goes (model X.prog X.w) A.in1.in1 (fun _ _ r s₁ => r = .ok .next ∧ gFin Xg Q st s₁) (gY Xg Q st) n (.send .none) (s.setGen gn .running)
/-- one turn -/
theorem gen_next {Xg : Cx} {σ' : L2.St} {H : Hp} {pins' : List (Addr × Obj)} {n : Nat} {s : Shared} {Qn : Option Value → Shared → Prop} {E : Value → Shared → Prop} (hh : A.handled = none) (hroom : A.depth < recursionLimit) (hpn : (a, og) ∈ Xg.pn) (hog : ∀ h : Heap, h.get? a = some og → h.IsGen a gn)
    (I : Inv Xg pins' σ' H s) (hold : gHold X Xg A Q st gn n s) (hend : ∀ s', (∃ σ' H', Inv Xg [] σ' H' s' ∧ Q (.bl !st) H') → Qn none s')
    (hyes : ∀ s' σ' H' pins', Inv Xg pins' σ' H' s' → Q (.bl st) H' → Qn (some (.bool st)) s') (hno : ∀ s' σ' H' pins' m, n = m + 1 → Inv Xg pins' σ' H' s' → gHold X Xg A Q st gn m s' → Qn (some (.bool !st)) s') :
    wpAny (model X.prog X.w) A.in1 (pyNext (.ref a)) Qn E s := by
  obtain ⟨gs, hgs, hgo⟩ := hold
  have hlt : gn + 1 ≤ s.gens.size := by
    rcases Nat.lt_or_ge gn s.gens.size with h' | h'
    · exact h'
    · rw [Array.getElem?_eq_none h'] at hgs; cases hgs
  have hg : s.heap.IsGen a gn := hog _ (I.pin (a, og) (List.mem_append_left _ hpn)).1
  refine GenW.wpAny_gsz hlt (wpAny_pyNext_genexpQ (A := A.in1) (P := fun _ _ s₁ => gFin Xg Q st s₁) hh I.nolimit hroom hg hgs hgo (fun v s₁ gs' hbare hv hsz => ?_) (fun s₁ hp h' hk hsz => ?_))
  · obtain ⟨b, σ1, H1, pins1, rfl, I1, q⟩ := hv
    have sl : Slp s₁ (s₁.setGen gn gs') := ⟨rfl, rfl, allBare_setGen I1.bare hbare⟩
    by_cases hb : b = st
    · subst hb
      rw [if_pos rfl] at q
      exact hyes _ _ _ _ (inv_slp I1 sl) q
    · rw [if_neg hb] at q
      have hb' : b = !st := by cases b <;> cases st <;> simp_all
      subst hb'
      cases n with
      | zero => exact (q s₁ ⟨rfl, rfl, I1.bare⟩).elim
      | succ m =>
        refine hno _ _ _ _ m rfl (inv_slp I1 sl) ⟨gs', ?_, q _ ⟨rfl, rfl, allBare_setGen (allBare_setGen I1.bare hbare) rfl⟩⟩
        have hsz : gn + 1 ≤ (s₁.setGen gn gs').gens.size := hsz
        have hsz' : gn < s₁.gens.size := by
          simp only [Shared.setGen, Array.size_setIfInBounds] at hsz
          omega
        simp [Shared.setGen, hsz']
  · obtain ⟨σ1, H1, I1, q⟩ := hp
    have sl : Slp s₁ (s₁.setGen gn .finished) := ⟨rfl, rfl, allBare_setGen I1.bare rfl⟩
    exact hend _ ⟨σ1, H1, (inv_slp I1 sl).kept hk, q⟩
theorem all_loopI {Xg : Cx} {Res : Result → Shared → Prop} (hh : A.handled = none) (hroom : A.depth < recursionLimit) (hpn : (a, og) ∈ Xg.pn) (hog : ∀ h : Heap, h.get? a = some og → h.IsGen a gn)
    (hR : ∀ b s' σ' H' pins', Inv Xg pins' σ' H' s' → Q (.bl b) H' → Res (.ok (.ret (.bool b))) s') : ∀ (n : Nat) (s : Shared) (σ' : L2.St) (H : Hp) (pins' : List (Addr × Obj)), Inv Xg pins' σ' H s → gHold X Xg A Q false gn n s →
    codeAny (model X.prog X.w) A (.builtin "all.loop" ⟨[.ref a], []⟩) Res s := by
  intro n
  induction n with
  | zero =>
    intro s σ' H pins' I hold
    refine codeAny_builtin F.entry_all_loop ?_
    rw [Around.under_plainId F.plain_all_loop _]
    show wpAny _ A.in1 (pyNext (.ref a) >>= _) _ _ s
    refine wpAny_bind (gen_next hh hroom hpn hog I hold (fun s' ⟨σ1, H1, I1, q⟩ => ?_) (fun s' σ1 H1 p1 I1 q => ?_) (fun s' σ1 H1 p1 m hm I1 h1 => by cases hm))
    · exact wpAny_bind (wpAny_rule (wpAny_pure (hR true s' σ1 H1 [] I1 q)))
    · refine wpAny_bind (wpAny_holding (wpAny_truthy_bool ?_))
      refine wpAny_bind (wpAny_letGo ?_)
      simp only [Bool.false_eq_true, if_false]
      exact wpAny_bind (wpAny_rule (wpAny_pure (hR false s' σ1 H1 p1 I1 q)))
  | succ n ih =>
    intro s σ' H pins' I hold
    refine codeAny_builtin F.entry_all_loop ?_
    rw [Around.under_plainId F.plain_all_loop _]
    show wpAny _ A.in1 (pyNext (.ref a) >>= _) _ _ s
    refine wpAny_bind (gen_next hh hroom hpn hog I hold (fun s' ⟨σ1, H1, I1, q⟩ => ?_) (fun s' σ1 H1 p1 I1 q => ?_) (fun s' σ1 H1 p1 m hm I1 h1 => ?_))
    · exact wpAny_bind (wpAny_rule (wpAny_pure (hR true s' σ1 H1 [] I1 q)))
    · refine wpAny_bind (wpAny_holding (wpAny_truthy_bool ?_))
      refine wpAny_bind (wpAny_letGo ?_)
      simp only [Bool.false_eq_true, if_false]
      exact wpAny_bind (wpAny_rule (wpAny_pure (hR false s' σ1 H1 p1 I1 q)))
    · cases hm
      refine wpAny_bind (wpAny_holding (wpAny_truthy_bool ?_))
      refine wpAny_bind (wpAny_letGo ?_)
      simp only [Bool.not_false, if_true]
      exact wpAny_pure ⟨plainId_quiet F.plain_all_loop _, ih s' σ1 H1 p1 I1 h1⟩
theorem any_loopI {Xg : Cx} {Res : Result → Shared → Prop} (hh : A.handled = none) (hroom : A.depth < recursionLimit) (hpn : (a, og) ∈ Xg.pn) (hog : ∀ h : Heap, h.get? a = some og → h.IsGen a gn)
    (hR : ∀ b s' σ' H' pins', Inv Xg pins' σ' H' s' → Q (.bl b) H' → Res (.ok (.ret (.bool b))) s') : ∀ (n : Nat) (s : Shared) (σ' : L2.St) (H : Hp) (pins' : List (Addr × Obj)), Inv Xg pins' σ' H s → gHold X Xg A Q true gn n s →
    codeAny (model X.prog X.w) A (.builtin "any.loop" ⟨[.ref a], []⟩) Res s := by
  intro n
  induction n with
  | zero =>
    intro s σ' H pins' I hold
    refine codeAny_builtin F.entry_any_loop ?_
    rw [Around.under_plainId F.plain_any_loop _]
    show wpAny _ A.in1 (pyNext (.ref a) >>= _) _ _ s
    refine wpAny_bind (gen_next hh hroom hpn hog I hold (fun s' ⟨σ1, H1, I1, q⟩ => ?_) (fun s' σ1 H1 p1 I1 q => ?_) (fun s' σ1 H1 p1 m hm I1 h1 => by cases hm))
    · exact wpAny_bind (wpAny_rule (wpAny_pure (hR false s' σ1 H1 [] I1 q)))
    · refine wpAny_bind (wpAny_holding (wpAny_truthy_bool ?_))
      refine wpAny_bind (wpAny_letGo ?_)
      simp only [if_true]
      exact wpAny_bind (wpAny_rule (wpAny_pure (hR true s' σ1 H1 p1 I1 q)))
  | succ n ih =>
    intro s σ' H pins' I hold
    refine codeAny_builtin F.entry_any_loop ?_
    rw [Around.under_plainId F.plain_any_loop _]
    show wpAny _ A.in1 (pyNext (.ref a) >>= _) _ _ s
    refine wpAny_bind (gen_next hh hroom hpn hog I hold (fun s' ⟨σ1, H1, I1, q⟩ => ?_) (fun s' σ1 H1 p1 I1 q => ?_) (fun s' σ1 H1 p1 m hm I1 h1 => ?_))
    · exact wpAny_bind (wpAny_rule (wpAny_pure (hR false s' σ1 H1 [] I1 q)))
    · refine wpAny_bind (wpAny_holding (wpAny_truthy_bool ?_))
      refine wpAny_bind (wpAny_letGo ?_)
      simp only [if_true]
      exact wpAny_bind (wpAny_rule (wpAny_pure (hR true s' σ1 H1 p1 I1 q)))
    · cases hm
      refine wpAny_bind (wpAny_holding (wpAny_truthy_bool ?_))
      refine wpAny_bind (wpAny_letGo ?_)
      simp only [Bool.not_true, Bool.false_eq_true, if_false]
      exact wpAny_pure ⟨plainId_quiet F.plain_any_loop _, ih s' σ1 H1 p1 I1 h1⟩
end

section
variable {X : Cx} {elt tg iter : Expr} {scope : Scope} {gpos p pos : Pos} {σ : L2.St} {H : Hp} {s : Shared} {pins : List (Addr × Obj)} {own : List (Str × Nat)} {st : Bool} {Q : VK} {wi : TI} {g : TG} {te : TE} {c P : Addr} {k : Nat}
abbrev gEnvX (X : Cx) (scope : Scope) (C : Addr) (code : Value) : PySem.Env := genEnv scope (cloFrom X.env.cells scope.names []) C code builtinsNs X.env
theorem over_frames {A : Around} {cenv : PySem.Env} {it : Addr} {l : List PySem.Env} (h : A.frames = some l) : (A.over (gCode elt tg iter scope gpos it cenv) []).frames = some (cenv :: l) := by
  show pushEnvs (gCode elt tg iter scope gpos it cenv).envs (pushEnvs (envsOf []) A.frames) = _
  rw [h]
  rfl
theorem over_handled0 {A : Around} {cenv : PySem.Env} {it : Addr} : (A.over (gCode elt tg iter scope gpos it cenv) []).handled = A.handled := rfl
theorem Room.gen {A : Around} {cenv : PySem.Env} {it : Addr} (r : Room (k + 1) A) : Room k (A.in1.in1.over (gCode elt tg iter scope gpos it cenv) []) := by
  refine ⟨r.hd, ?_, ?_⟩
  · have := r.dp
    have e : (A.in1.in1.over (gCode elt tg iter scope gpos it cenv) []).depth = A.depth + 1 := rfl
    rw [e]; omega
  · have := r.un
    have e : (A.in1.in1.over (gCode elt tg iter scope gpos it cenv) []).units = A.units + 1 + 1 + 0 + 3 := rfl
    rw [e]; omega
theorem gen_make {Q' : Value → Shared → Prop} (hr : Room k X.A) (hc : X.calm = true) (hN : X.N.Nodup) (TB : GxR.TabB X.base X.mg c P) (hcode : X.env.code = .ref c) (ok : GenOk X.N X.env.scope scope own) (hi : PI X tg iter wi)
    (hg : ∀ (s0 : Shared) (H0 : Hp) (C : Addr) (code : Value) (it : Addr) (fp : List Addr) (a : Addr) (og : Obj), PG (gCx X X.A.in1.in1 elt tg iter scope gpos it (gEnvX X scope C code) s0 H0 fp a og) tg g)
    (he : ∀ (s0 : Shared) (H0 : Hp) (C : Addr) (code : Value) (it : Addr) (fp : List Addr) (a : Addr) (og : Obj), PE (gCx X X.A.in1.in1 elt tg iter scope gpos it (gEnvX X scope C code) s0 H0 fp a og) elt te)
    (hs : ∀ v, genFold iter X.env v = pure v) (I : Inv X pins σ H s) (h : tGen st wi g te (own.map (·.2)) P σ H Q)
    (hQ : ∀ (a : Addr) (og : Obj) (gn n : Nat) (Xg : Cx) (σ' : L2.St) (H' : Hp) (s5 : Shared), (a, og) ∈ Xg.pn → (∀ h : Heap, h.get? a = some og → h.IsGen a gn) → Inv Xg [] σ' H' s5 → gHold X Xg X.A Q st gn n s5 →
      (∀ σ1 H1 pins1 s1, Inv Xg pins1 σ1 H1 s1 → Inv X pins σ H1 s1) → Q' (.ref a) s5) :
    wpAny (model X.prog X.w) X.A (eval (.GeneratorExp elt [⟨tg, iter, [], 0⟩] scope gpos) X.env) Q' X.xe s := by
  have hfree : ∀ y ∈ scope.names, y.2 = .free → ∃ c, X.env.cells.lookup y.1 = some c := fun y hy e => by
    rcases ok.blk.free y hy e with k | k
    · exact I.ok.has _ (.inl k)
    · exact I.ok.has _ (.inr k)
  refine wpAny_GeneratorExp_make ok.co (closure_ok hfree) ok.cell ok.dot ok.blk.kind (by have := hr.dp; omega) ?_ hs
  refine thn (hi.run pins s σ H _ I h) fun xv s1 hx => thn hx fun itv s2 h2 => ?_
  obtain ⟨it, fp, tn, J, H2, e, I2, T, st2, f2, ⟨ps, hP, ht⟩, q⟩ := h2
  subst e
  have hPs : s2.heap.get? P = some { cls := .none, data := .fields ps } := I2.hok P _ hP
  have hPlt : P < s2.heap.objs.size := Heap.lt_size hPs
  have cd : PySem.W.CodeHd s2.heap c P := TB.code.keeps fun b u e => I2.bk b u e
  have fpP : P ∉ fp := fun z => by
    have := (f2 P z).1
    rw [hP] at this
    cases this
  have fsz : ∀ b ∈ fp, b < s2.heap.objs.size := fun b hb => by
    obtain ⟨o, e, _⟩ := T.obj _ _ st2 b hb
    exact Heap.lt_size e
  have cont : ∀ (code : Value) (h3 : Heap) (tk : Nat) (ps' : Array Value), Heap.ExtBut P s2.heap h3 → s2.heap.objs.size ≤ h3.objs.size → h3.get? P = some { cls := .none, data := .fields ps' } → (∃ more, ps' = ps ++ more) → TriplesOk ps'.toList →
      wpAny (model X.prog X.w) X.A (builtinsFor X.env.globals X.env.builtins) (fun bi s₄ =>
        ∀ h', h'.Ns s₄.heap.objs.size (fun y => if y = ".0" then some (.ref it) else none) → Heap.SameBut s₄.heap.objs.size (s₄.heap.push { cls := .type "frame", data := .dict #[] }) h' →
          Q' (.ref h'.objs.size) { s₄ with
            gens := s₄.gens.push (.fresh (.compStart (.GeneratorExp elt [⟨tg, iter, [], 0⟩] scope gpos) 0 (.ref it) .none (genEnv scope (cloFrom X.env.cells scope.names []) s₄.heap.objs.size code bi X.env))),
            toks := s₄.toks + 1 + 1 + 1,
            heap := h'.push { cls := .type "generator", data := .fields #[.int s₄.gens.size 0, .str "<genexpr>" (s₄.toks + 1), .str (X.env.qual ++ "<genexpr>") (s₄.toks + 1 + 1)] } }) X.xe { s2 with heap := h3, toks := tk } := by
    intro code h3 tk ps' hx hsz hP3 hmore ht3
    obtain ⟨bm, ob, e1, e2, e3, e4, e5, e6, e7, e8⟩ := TB.bm
    have keep3 : ∀ b u, b ≠ P → s2.heap.get? b = some u → h3.get? b = some u := fun b u hb e => hx b u hb e
    refine wpAny_builtinsFor (m := X.mg) (by rw [I2.ok.glob]; exact (I2.mod.glob.keeps I2.bk).extBut hx TB.gP) e1 e2 (keep3 _ _ e4 (I2.bk _ _ e5)) e6 e7 e8 ?_
    intro h' hn' hs'
    obtain ⟨more, em⟩ := hmore
    -- the def's state, its table grown
    have I4 := GxR.inv_tab (more := more) (h' := h3) (g' := s2.gens) (d' := s2.drawn) (t' := tk) I2 hP keep3 (by rw [← em]; exact hP3) I2.bare
    generalize hH4 : upd H2 P (.tbl (ps ++ more)) = H4 at I4
    have hTab : GxR.Tabbed P H2 H4 := by
      rw [← hH4]
      exact ⟨⟨ps ++ more, upd_same, by rw [← em]; exact ht3⟩, fun b hb => upd_ne hb⟩
    obtain ⟨W, ⟨m0, w0⟩, turn⟩ := q H4 hTab
    have up : ∀ b o, h3.get? b = some o → h'.get? b = some o := fun b o e => hs'.extBut b o (Nat.ne_of_lt (Heap.lt_size e)) (Heap.get?_push_of_some _ e)
    have hsz' : h'.objs.size = h3.objs.size + 1 := by rw [hs'.1]; exact Heap.size_push ..
    have kp : ∀ b o, h3.get? b = some o → (h'.push { cls := .type "generator", data := .fields #[.int s2.gens.size 0, .str "<genexpr>" (tk + 1), .str (X.env.qual ++ "<genexpr>") (tk + 1 + 1)] }).get? b = some o := fun b o e => Heap.get?_push_of_some _ (up b o e)
    have f4 : ∀ b ∈ fp, FpOk X pins H4 b ∧ b < h3.objs.size := fun b hb => ⟨⟨by rw [hTab.2 b fun z => fpP (z ▸ hb)]; exact (f2 b hb).1, (f2 b hb).2⟩, Nat.lt_of_lt_of_le (fsz b hb) hsz⟩
    have haC : h'.objs.size ≠ h3.objs.size := by rw [hsz']; exact Nat.succ_ne_self _
    have Ig := gen_start (A' := X.A.in1.in1.over (gCode elt tg iter scope gpos it (gEnvX X scope h3.objs.size code)) []) (code := code) (a := h'.objs.size) (gs5 := s2.gens.push (.fresh (.compStart (.GeneratorExp elt [⟨tg, iter, [], 0⟩] scope gpos) 0 (.ref it) .none (gEnvX X scope h3.objs.size code)))) (tk5 := tk + 1 + 1 + 1) I4 ok hN f4 hr.hd (over_frames (A := X.A.in1.in1) I4.ok.frames)
      (AllBare.push I4.bare rfl) kp (hn'.push _) (Heap.get?_push_size _ rfl) (by rw [hsz']; exact Nat.le_succ _) haC (fun v z => by cases z)
    have st5 : tn 0 (h'.push { cls := .type "generator", data := .fields #[.int s2.gens.size 0, .str "<genexpr>" (tk + 1), .str (X.env.qual ++ "<genexpr>") (tk + 1 + 1)] }) := T.keep _ _ _ st2 fun b hb o e => kp b o (keep3 b o (fun z => fpP (z ▸ hb)) e)
    have haf : h'.objs.size ∉ fp := fun z => by
      exact absurd (Nat.lt_of_lt_of_le (f4 _ z).2 (show h3.objs.size ≤ h'.objs.size by rw [hsz']; exact Nat.le_succ _)) (Nat.lt_irrefl _)
    refine hQ _ _ s2.gens.size m0 _ _ _ _ List.mem_cons_self (fun h e => ⟨_, _, _, e, rfl, rfl, rfl⟩) Ig ⟨_, Array.getElem?_push_size, rfl, ?_⟩ fun σ1 H1 pins1 s1 I1 => ?_
    · refine seg_startI (seg_genI hc ok.co rfl haf (hg _ _ _ _ _ _ _ _) (he _ _ _ _ _ _ _ _) T turn m0 m0 0 _ _ H4 (Nat.le_refl _) (inv_slp Ig ⟨rfl, rfl, allBare_setGen Ig.bare rfl⟩) st5 (fun b hb => (f4 b hb).1.1) w0) fun A Q E q => T.self A 0 _ _ _ st5 q
    · exact I4.call' (ch := fp) I1.os I1.base I1.hok I1.bare fun b hb => ⟨(f4 b hb).1.2.2.2.1, (f4 b hb).1.2.1, (f4 b hb).1.2.2.2.2.1, (f4 b hb).1.2.2.2.2.2⟩
  refine ⟨I2.nolimit, ?_⟩
  cases hf : codeAmong gpos ps.toList with
  | none =>
    refine wpAny_genexprCodeX hcode (cd.code hPs ht) (cd.tab hPs) hf fun c' h' tk hx hge hlt hco' _ htab' _ => ?_
    obtain ⟨o1, vs, f1, tf, fl, tg, inF, tx, tt, op, _, _, _, _, _, _, _, _, _, htr, _⟩ := hco'
    exact cont _ h' tk _ hx (Nat.le_trans hge (Nat.le_of_lt hlt)) htab'.2 ⟨_, rfl⟩ htr
  | some cv =>
    refine wpAny_genexprCode_hit hcode (cd.code hPs ht) hf ?_
    exact cont cv s2.heap s2.toks ps (Heap.ExtBut.refl _ _) (Nat.le_refl _) hPs ⟨#[], by simp⟩ ht
theorem pe_allG (hr : Room k X.A) (hc : X.calm = true) (hN : X.N.Nodup) (hgl : Gl X "all") (hm : X.mg "all" = none) (TB : GxR.TabB X.base X.mg c P) (hcode : X.env.code = .ref c) (ok : GenOk X.N X.env.scope scope own) (hi : PI X tg iter wi)
    (hg : ∀ (s0 : Shared) (H0 : Hp) (C : Addr) (code : Value) (it : Addr) (fp : List Addr) (a : Addr) (og : Obj), PG (gCx X X.A.in1.in1 elt tg iter scope gpos it (gEnvX X scope C code) s0 H0 fp a og) tg g)
    (he : ∀ (s0 : Shared) (H0 : Hp) (C : Addr) (code : Value) (it : Addr) (fp : List Addr) (a : Addr) (og : Obj), PE (gCx X X.A.in1.in1 elt tg iter scope gpos it (gEnvX X scope C code) s0 H0 fp a og) elt te)
    (hs : ∀ v, genFold iter X.env v = pure v) (hb : bootBuiltins "all" = some (.builtin "all"))
    (hst : starEach [.GeneratorExp elt [⟨tg, iter, [], 0⟩] scope gpos] X.env = (false, eval (.GeneratorExp elt [⟨tg, iter, [], 0⟩] scope gpos) X.env) :: starEach [] X.env) :
    PE X (.Call (.Name "all" p) [.GeneratorExp elt [⟨tg, iter, [], 0⟩] scope gpos] [] pos) (tGen false wi g te (own.map (·.2)) P) := by
  refine ⟨fun pins s σ H Q I h => ?_⟩
  refine wpAny_Call_Name_kw (ld_blt I hgl hm hb ?_)
  refine PyProof.Rows.callWith_builtin1 ?_ hst (by rfl)
  rw [hst]
  show wpAny _ _ (spliced ((false, eval (.GeneratorExp elt [⟨tg, iter, [], 0⟩] scope gpos) X.env) :: backTo pos (starEach [] X.env))) _ _ s
  refine Calls.spliced_cons (gen_make hr hc hN TB hcode ok hi hg he hs I h fun a og gn n Xg σ' H' s5 hpn hog Ig hold conv => ?_)
  refine Calls.spliced_nil ?_
  refine call_function_tree F.kind_all F.plain_all F.entry_all (F.args_all1 _) ?_
  unfold Builtin.«all»
  refine wpAny_bind (m := oneArg "all" _) (wpAny_pure ?_)
  refine wpAny_bind (wpAny_pyIter_gen (hog _ (Ig.pin (a, og) (List.mem_append_left _ hpn)).1) ?_)
  exact wpAny_pure ⟨plainId_quiet F.plain_all_loop _, all_loopI hr.hd (by have := hr.dp; omega) hpn hog (fun b s' σ1 H1 pins1 I1 q => ⟨.bl b, H1, conv _ _ _ _ I1, rfl, q⟩) n s5 σ' H' [] Ig hold⟩
theorem pe_anyG (hr : Room k X.A) (hc : X.calm = true) (hN : X.N.Nodup) (hgl : Gl X "any") (hm : X.mg "any" = none) (TB : GxR.TabB X.base X.mg c P) (hcode : X.env.code = .ref c) (ok : GenOk X.N X.env.scope scope own) (hi : PI X tg iter wi)
    (hg : ∀ (s0 : Shared) (H0 : Hp) (C : Addr) (code : Value) (it : Addr) (fp : List Addr) (a : Addr) (og : Obj), PG (gCx X X.A.in1.in1 elt tg iter scope gpos it (gEnvX X scope C code) s0 H0 fp a og) tg g)
    (he : ∀ (s0 : Shared) (H0 : Hp) (C : Addr) (code : Value) (it : Addr) (fp : List Addr) (a : Addr) (og : Obj), PE (gCx X X.A.in1.in1 elt tg iter scope gpos it (gEnvX X scope C code) s0 H0 fp a og) elt te)
    (hs : ∀ v, genFold iter X.env v = pure v)
    (hst : starEach [.GeneratorExp elt [⟨tg, iter, [], 0⟩] scope gpos] X.env = (false, eval (.GeneratorExp elt [⟨tg, iter, [], 0⟩] scope gpos) X.env) :: starEach [] X.env) :
    PE X (.Call (.Name "any" p) [.GeneratorExp elt [⟨tg, iter, [], 0⟩] scope gpos] [] pos) (tGen true wi g te (own.map (·.2)) P) := by
  refine ⟨fun pins s σ H Q I h => ?_⟩
  refine wpAny_Call_Name_kw (ld_blt I hgl hm boot_any ?_)
  refine PyProof.Rows.callWith_builtin1 ?_ hst (by rfl)
  rw [hst]
  show wpAny _ _ (spliced ((false, eval (.GeneratorExp elt [⟨tg, iter, [], 0⟩] scope gpos) X.env) :: backTo pos (starEach [] X.env))) _ _ s
  refine Calls.spliced_cons (gen_make hr hc hN TB hcode ok hi hg he hs I h fun a og gn n Xg σ' H' s5 hpn hog Ig hold conv => ?_)
  refine Calls.spliced_nil ?_
  refine call_function_tree F.kind_any F.plain_any F.entry_any (F.args_any1 _) ?_
  unfold Builtin.«any»
  refine wpAny_bind (m := oneArg "any" _) (wpAny_pure ?_)
  refine wpAny_bind (wpAny_pyIter_gen (hog _ (Ig.pin (a, og) (List.mem_append_left _ hpn)).1) ?_)
  exact wpAny_pure ⟨plainId_quiet F.plain_any_loop _, any_loopI hr.hd (by have := hr.dp; omega) hpn hog (fun b s' σ1 H1 pins1 I1 q => ⟨.bl b, H1, conv _ _ _ _ I1, rfl, q⟩) n s5 σ' H' [] Ig hold⟩

/-! ### over trees -/
def genL (st : Bool) (t : Tg) (fe : Env → Res D) (ρ : Env) : List D → Res D
  | [] => .ok (.bl !st)
  | d :: ds => match t.unp d with
    | none => .no
    | some ps => (noX (fe (putE ρ ps))).bind fun y => y.asB.bind fun b => if b = st then .ok (.bl st) else genL st t fe ρ ds
def genD (st : Bool) (fi : Env → Res (List D)) (t : Tg) (fe : Env → Res D) (vs : List Nat) : Env → Res D := fun ρ => (fi ρ).bind fun ds => genL st t fe (wipeE ρ vs) ds
/-- the table has grown, all else stands -/
theorem Ext.tabbed {Γ : Gm} {H H' : Hp} {P : Addr} (hP : P ∈ Γ.TG) (hT : GxR.TabG H P) (hTL : ∀ p ∈ Γ.TL, p.1 ≠ P) (z : GxR.Tabbed P H H') : Ext Γ H H' := by
  obtain ⟨ps, h0, _⟩ := hT
  have ne : ∀ {b : Addr} {o : HO}, H b = some o → (∀ q, o ≠ .tbl q) → b ≠ P := fun {b o} e n q => by
    rw [q, h0] at e
    cases e
    exact n _ rfl
  refine ⟨fun b o e n _ => by rw [z.2 b (ne e n)]; exact e, fun t => ⟨fun P' hP' => ?_, fun p hp => ?_⟩, fun t r hr => ?_, fun b n q => ?_⟩
  · by_cases h : P' = P
    · rw [h]; exact z.1
    · obtain ⟨qs, g1, g2⟩ := t.1 P' hP'
      exact ⟨qs, by rw [z.2 P' h]; exact g1, g2⟩
  · obtain ⟨qs, g1, g2, g3⟩ := t.2 p hp
    refine ⟨qs, by rw [z.2 _ (hTL p hp)]; exact g1, g2, fun pos cv hc => ?_⟩
    obtain ⟨c, e1, e2⟩ := g3 pos cv hc
    refine ⟨c, e1, ?_⟩
    by_cases h : c = P
    · rw [h, h0] at e2
      cases e2
    · rw [z.2 c h]; exact e2
  · obtain ⟨ns, i, j, k, g1, g2, g3⟩ := t r hr
    refine ⟨ns, i, j, k, by rw [z.2 r (ne g1 (fun q e => by cases e))]; exact g1, ?_, g3⟩
    rcases g2 with (g2 | ⟨o, g2⟩) | g2
    · exact .inl (.inl (by rw [z.2 _ (ne g2 (fun q e => by cases e))]; exact g2))
    · exact .inl (.inr ⟨o, by rw [z.2 _ (ne g2 (fun q e => by cases e))]; exact g2⟩)
    · exact .inr g2
  · by_cases h : b = P
    · obtain ⟨qs, g1, _⟩ := z.1
      rw [h, g1] at q
      cases q
    · rw [z.2 b h] at q; exact n q
theorem gen_fit {Γ : Gm} {E : XK} {np : Bool} {fi : Env → Res (List D)} {t : Tg} {fe : Env → Res D} {vs : List Nat} (hP : P ∈ Γ.TG) (hTL : ∀ p ∈ Γ.TL, p.1 ≠ P) (hv : ∀ i ∈ t.names, i ∈ vs) (hnd : t.names.Nodup) :
    ∀ σ H Q, eT Γ E (genD st fi t fe vs) σ H Q → tGen st (wT Γ E np fi) (gT Γ t) (eT Γ EN fe) vs P σ H Q := fun σ H Q ⟨av, ρ, env, h⟩ => by
  refine ⟨av, ρ, env, ROk.bind h fun ds b H1 x1 r h => ?_⟩
  obtain ⟨J, ps⟩ := b
  obtain ⟨_, hp, w⟩ := r
  have env1 := env.ext x1
  have tP := env1.wf.tb.1 P hP
  refine ⟨tP, fun H2 hT => ?_⟩
  have x12 : Ext Γ H1 H2 := Ext.tabbed hP tP hTL hT
  refine ⟨fun i m Hc => m = ds.length - i ∧ Ext Γ H1 Hc ∧ ROk Γ av H1 (fun H' d v => Rp Γ.kr av H' d v) (genL st t fe (wipeE ρ vs) (ds.drop i)) Q E, ⟨_, rfl, x12, h⟩, ?_⟩
  rintro i m Hc ⟨rfl, xc, h⟩
  have env' := wipe_env (env1.ext xc) vs
  have hps : ∀ p ∈ ps, Rp Γ.kr av Hc p.2 p.1 := fun p hp' => (hp p hp').ext xc
  by_cases hi : i < ds.length
  · refine .inr ⟨w.go _ i Hc env'.wf hps hi, by omega, fun x H3 y => ?_⟩
    obtain ⟨x3, d, ed, rd⟩ := w.yld _ i Hc x H3 env'.wf hps hi y
    have env3 := env'.ext x3
    rw [List.drop_eq_getElem_cons hi] at h
    have ed : ds[i] = d := by rw [List.getElem?_eq_getElem hi] at ed; exact Option.some.inj ed
    rw [ed] at h
    unfold genL at h
    cases q1 : t.unp d with
    | none => simp only [q1] at h; exact (show False from h).elim
    | some qs =>
      simp only [q1] at h
      have nm := unp_names q1
      have nd : (qs.map (·.1)).Nodup := by rw [nm]; exact hnd
      refine ⟨_, d, qs, env3.wf, rd, q1, nd, fun σ4 H4 x4 c4 => ⟨wipe_chg c4 (by rw [nm]; exact hv), ?_⟩⟩
      have env4 := put_env (env3.ext x4) c4 nd
      have x14 := xc.trans (x3.trans x4)
      refine ⟨av, _, env4, ROk.bindX x14 h fun yd yv H5 x5 r5 h5 => ?_⟩
      cases r5 with
      | bl b =>
        have h5 : ROk Γ av H1 (fun H' d v => Rp Γ.kr av H' d v) (if b = st then Res.ok (D.bl st) else genL st t fe (wipeE ρ vs) (List.drop (i + 1) ds)) Q E := h5
        refine ⟨b, rfl, ?_⟩
        by_cases hb : b = st
        · rw [if_pos hb] at h5 ⊢
          exact h5 _ H5 (x14.trans x5) (.bl st)
        · rw [if_neg hb] at h5 ⊢
          exact ⟨_, by omega, rfl, x14.trans x5, h5⟩
      | _ => exact (show False from h5).elim
  · refine .inl ⟨w.stop _ i Hc env'.wf hps (by omega), ?_⟩
    rw [List.drop_eq_nil_of_le (by omega)] at h
    exact h _ Hc xc (.bl _)
theorem te_all {Γ : Gm} {E : XK} {np : Bool} {fi : Env → Res (List D)} {t : Tg} {fe : Env → Res D} (own : List (Str × Nat)) (hr : Room k X.A) (hc : X.calm = true) (hN : X.N.Nodup) (hm : X.mg "all" = none) (TB : GxR.TabB X.base X.mg c P) (hP : P ∈ Γ.TG) (hTL : ∀ p ∈ Γ.TL, p.1 ≠ P) (hi : PI X tg iter (wT Γ E np fi))
    (ok : GenOk X.N X.env.scope scope own)
    (hg : ∀ (s0 : Shared) (H0 : Hp) (C : Addr) (code : Value) (it : Addr) (fp : List Addr) (a : Addr) (og : Obj), PG (gCx X X.A.in1.in1 elt tg iter scope gpos it (gEnvX X scope C code) s0 H0 fp a og) tg (gT Γ t))
    (he : ∀ (s0 : Shared) (H0 : Hp) (C : Addr) (code : Value) (it : Addr) (fp : List Addr) (a : Addr) (og : Obj), PE (gCx X X.A.in1.in1 elt tg iter scope gpos it (gEnvX X scope C code) s0 H0 fp a og) elt (eT Γ EN fe))
    (hcode : X.env.code = .ref c := by rfl) (hgl : Gl X "all" := by rfl) (hv : ∀ i ∈ t.names, i ∈ own.map (·.2) := by decide) (hnd : t.names.Nodup := by decide) (hs : ∀ v, genFold iter X.env v = pure v := by intro _; rfl) (hb : bootBuiltins "all" = some (.builtin "all") := by decide +kernel)
    (hst : starEach [.GeneratorExp elt [⟨tg, iter, [], 0⟩] scope gpos] X.env = (false, eval (.GeneratorExp elt [⟨tg, iter, [], 0⟩] scope gpos) X.env) :: starEach [] X.env := by rfl) :
    PE X (.Call (.Name "all" p) [.GeneratorExp elt [⟨tg, iter, [], 0⟩] scope gpos] [] pos) (eT Γ E (genD false fi t fe (own.map (·.2)))) :=
  PE.imp (pe_allG hr hc hN hgl hm TB hcode ok hi hg he hs hb hst) (gen_fit hP hTL hv hnd)
theorem te_any {Γ : Gm} {E : XK} {np : Bool} {fi : Env → Res (List D)} {t : Tg} {fe : Env → Res D} (own : List (Str × Nat)) (hr : Room k X.A) (hc : X.calm = true) (hN : X.N.Nodup) (hm : X.mg "any" = none) (TB : GxR.TabB X.base X.mg c P) (hP : P ∈ Γ.TG) (hTL : ∀ p ∈ Γ.TL, p.1 ≠ P) (hi : PI X tg iter (wT Γ E np fi))
    (ok : GenOk X.N X.env.scope scope own)
    (hg : ∀ (s0 : Shared) (H0 : Hp) (C : Addr) (code : Value) (it : Addr) (fp : List Addr) (a : Addr) (og : Obj), PG (gCx X X.A.in1.in1 elt tg iter scope gpos it (gEnvX X scope C code) s0 H0 fp a og) tg (gT Γ t))
    (he : ∀ (s0 : Shared) (H0 : Hp) (C : Addr) (code : Value) (it : Addr) (fp : List Addr) (a : Addr) (og : Obj), PE (gCx X X.A.in1.in1 elt tg iter scope gpos it (gEnvX X scope C code) s0 H0 fp a og) elt (eT Γ EN fe))
    (hcode : X.env.code = .ref c := by rfl) (hgl : Gl X "any" := by rfl) (hv : ∀ i ∈ t.names, i ∈ own.map (·.2) := by decide) (hnd : t.names.Nodup := by decide) (hs : ∀ v, genFold iter X.env v = pure v := by intro _; rfl)
    (hst : starEach [.GeneratorExp elt [⟨tg, iter, [], 0⟩] scope gpos] X.env = (false, eval (.GeneratorExp elt [⟨tg, iter, [], 0⟩] scope gpos) X.env) :: starEach [] X.env := by rfl) :
    PE X (.Call (.Name "any" p) [.GeneratorExp elt [⟨tg, iter, [], 0⟩] scope gpos] [] pos) (eT Γ E (genD true fi t fe (own.map (·.2)))) :=
  PE.imp (pe_anyG hr hc hN hgl hm TB hcode ok hi hg he hs hst) (gen_fit hP hTL hv hnd)
end
end Fw
end
set_option Elab.async false
set_option linter.all false
set_option autoImplicit false
set_option maxRecDepth 100000
set_option maxHeartbeats 4000000
/-! Fw12: a def's promise. -/
noncomputable section
namespace Fw
open PySem PySem.Spec PyProof.Rows L2

def Out.fin : Out → Res D
  | .nx _ => .ok .non
  | .rt d _ => .ok d
  | .bk _ => .no
  | .ct _ => .no
  | .ex c f => .ex c f
  | .no => .no
  | .dr n k => .dr n fun i => (k i).fin
def start0 (m : Nat) (ds : List D) : SEnv := ds.map Sl.val ++ List.replicate (m - ds.length) Sl.dead
def defF (m : Nat) (g : SEnv → Out) : List D → Res D := fun ds => (g (start0 m ds)).fin
abbrev noMr : Mr := fun _ => none
theorem ExtM.none {Γ : Gm} {H H' : Hp} (a : ExtM Γ (mrA noMr) H H') : Ext Γ H H' := ⟨fun c o h n l => a.keep c o h n l (fun ⟨_, z⟩ => by cases z), a.tb, a.row, a.there⟩
theorem SOk.fin {Γ : Gm} {av : Addr → Prop} {H : Hp} {Q : VK} {E : XK} : ∀ {r : Out}, ROk Γ av H (fun H' d v => Rp Γ.kr av H' d v) r.fin Q E → SOk Γ av H noMr [] r { nx := fun _ H' => Q .non H', rt := Q } E
  | .nx ρ, h => fun σ' H' ⟨ad, S⟩ => h .non H' S.ext.none .non
  | .rt d ρ, h => fun v σ' H' ad S r => h v H' S.ext.none (r.stay (Stay.weak fun b z => .inl z))
  | .bk ρ, h => h.elim
  | .ct ρ, h => h.elim
  | .ex c f, h => fun H' x _ => ExOk.ext x.none (show ExOk Γ H E c f from h)
  | .no, h => h
  | .dr n k, h => fun i h1 h2 => SOk.fin (h i h1 h2)
theorem start0_get {m : Nat} {ds : List D} {i : Nat} {s : Sl} (h : (start0 m ds)[i]? = some s) : (∃ d, s = .val d ∧ ds[i]? = some d) ∨ s = .dead := by
  unfold start0 at h
  by_cases hi : i < ds.length
  · rw [List.getElem?_append_left (by simpa using hi), List.getElem?_map] at h
    cases e : ds[i]? with
    | none => rw [e] at h; cases h
    | some d => rw [e] at h; cases h; exact .inl ⟨d, rfl, rfl⟩
  · rw [List.getElem?_append_right (by simpa using hi)] at h
    exact .inr (List.eq_of_mem_replicate (List.mem_of_getElem? h))
theorem start0_cont {m : Nat} {ds : List D} {i : Nat} {d : D} (h : Cont (start0 m ds) i d) : False := by
  rcases h with h | h <;> rcases start0_get h with ⟨_, e, _⟩ | e <;> cases e
theorem start_sad {Γ : Gm} {av : Addr → Prop} {H : Hp} {N : List Str} {vs : List V} {ds : List D} (wf : Wf Γ av H) (r : RpL Γ.kr av H ds vs) (hl : ds.length ≤ N.length) : SAd Γ av H noMr [] (fun _ => 0) (L2.start N vs) H (start0 N.length ds) where
  ext := ExtM.refl _ _ _
  tb := wf.tb
  rw := wf.row
  len := by
    unfold start0 L2.start
    simp [r.length]
  ambT := wf.av
  mrIn := fun a ⟨_, z⟩ => by cases z
  inj := fun i j d e h _ _ => (start0_cont h).elim
  new := fun i d h => (start0_cont (.inl h)).elim
  rows := fun i d h => (start0_cont (.inr h)).elim
  val := fun i d h => by
    rcases start0_get h with ⟨d', e, h'⟩ | e
    · cases e
      obtain ⟨v, e1, e2⟩ := r.get h'
      refine ⟨v, ?_, e2.stay (Stay.weak fun b z => z.elim id fun ⟨i, d, c, _⟩ => (start0_cont c).elim)⟩
      unfold L2.start
      have hi : i < vs.length := (List.getElem?_eq_some_iff.mp e1).1
      rw [List.getElem?_append_left (by simpa using hi), List.getElem?_map, e1]
      rfl
    · cases e
  own := fun i d h => (start0_cont h).elim
  tmp := fun p hp => by cases hp
theorem passD {P : Program} {w : World} {K : PySem.W.Frag} {mg : Str → Option Value} {base : Heap} {N : List Str} {qual : Str} {sc : Scope} {f : Addr} {cd : Value} {A : Around} {outer : List PySem.Env} {s : Shared} {H : Hp} {E : XK} : Passes (L2.CX P w) (cxOf (L2.CX P w) P w K mg base N qual sc f cd A outer s H E) E :=
  passes_call (takes_of rfl rfl rfl rfl) fun _ _ _ _ h => h
theorem ownD {P : Program} {w : World} {K : PySem.W.Frag} {mg : Str → Option Value} {base : Heap} {N : List Str} {qual : Str} {sc : Scope} {f : Addr} {cd : Value} {A : Around} {outer : List PySem.Env} {s : Shared} {H : Hp} {E : XK} : PassesOwn (model P w) (cxOf (L2.CX P w) P w K mg base N qual sc f cd A outer s H E).A (cxOf (L2.CX P w) P w K mg base N qual sc f cd A outer s H E).env (cxOf (L2.CX P w) P w K mg base N qual sc f cd A outer s H E).xe :=
  passes_of (X := cxOf (L2.CX P w) P w K mg base N qual sc f cd A outer s H E) rfl
section
variable {P : Program} {w : World} {K : PySem.W.Frag} {mg : Str → Option Value} {base : Heap}
/-- a def as the head tells it -/
abbrev FnP (K : PySem.W.Frag) (x qual : Str) (st : Stmt) (f : Addr) (fd : FuncData) : Prop := FunD K x qual (defArgs st) (defBody st) (defScope st) [] [] f fd
/-- a def's body keeps its promise; its code object is told -/
theorem okC {x qual : Str} {st : Stmt} {f : Addr} {fd : FuncData} {N ps : List Str} {k : Nat} {sp : Sp} (F : FnP K x qual st f fd) (S : FnScope N ps (defScope st)) (len : ∀ vs H Q E, sp vs H Q E → vs.length = ps.length)
    (hbody : ∀ (cdv : Value) (A : Around) (outer : List PySem.Env) (s : Shared) (H : Hp) (vs : List V) (Q : VK) (E : XK), fd.code = cdv → Room k (A.deeper (envOfC qual (defScope st) s.heap.objs.size f cdv)) → sp vs H Q E →
      ∃ t, PSs (cxOf (L2.CX P w) P w K mg base N qual (defScope st) f cdv A outer s H E) (defBody st) t ∧ t { nx := fun _ H' => Q .non H', rt := Q } (L2.start N vs) H) : FnOk P w K mg base (L2.CX P w) (k + 1) f fd ps sp := by
  obtain ⟨oc, od, dV, kV, doc, pm, an, cdv, ct, osl, rfl, lk, hcd, _, _⟩ := F.ex
  exact fn_of lk hcd S len fun A outer s H vs Q E hr hsp => hbody cdv A outer s H vs Q E rfl hr hsp
/-- a def's promise, from its body -/
theorem fn_F {Γ : Gm} {x qual : Str} {st : Stmt} {f : Addr} {fd : FuncData} {N ps : List Str} {k : Nat} {g : SEnv → Out} (F : FnP K x qual st f fd) (S : FnScope N ps (defScope st))
    (hb : ∀ (r : Option Addr) (sc : Addr) (cdv : Value) (A : Around) (outer : List PySem.Env) (s : Shared) (H : Hp) (E : XK), fd.code = cdv → Room k (A.deeper (envOfC qual (defScope st) s.heap.objs.size f cdv)) →
      PSs (cxOf (L2.CX P w) P w K mg base N qual (defScope st) f cdv A outer s H E) (defBody st) (sT (Γ.at r sc) E g)) (hl : ps.length ≤ N.length := by decide) : FnOk P w K mg base (L2.CX P w) (k + 1) f fd ps (spF Γ ps.length (defF N.length g)) := by
  refine okC F S (fun vs H Q E h => ?_) (fun cdv A outer s H vs Q E hcd hr h => ?_)
  · obtain ⟨r, sc, av, ds, wf, rr, hlen, q⟩ := h
    rw [← rr.length]
    exact hlen
  · obtain ⟨r, sc, av, ds, wf, rr, hlen, q⟩ := h
    exact ⟨_, hb r sc cdv A outer s H E hcd hr, av, H, noMr, [], _, ⟨_, start_sad wf rr (by rw [hlen]; exact hl)⟩, SOk.fin q⟩
/-- nothing is promised of what is not known -/
theorem fn_none {Γ : Gm} {f : Addr} {fd : FuncData} {ps : List Str} {k : Nat} : FnOk P w K mg base (L2.CX P w) k f fd ps (spF Γ ps.length fun _ => .no) :=
  ⟨fun vs H Q E ⟨_, _, _, _, _, _, _, q⟩ => (show False from q).elim, fun A outer s H args us vs Q E _ _ _ _ ⟨_, _, _, _, _, _, _, q⟩ => (show False from q).elim⟩
/-! ### the draws -/
def takenF : List D → Res D
  | [.row, .int n] => if 0 < n ∧ n.natAbs.log2 < 9000 then .dr n fun i => .ok (.int i) else .no
  | _ => .no
/-- the row as a list of one's own -/
def rowD (a : Addr) (ns : List Int) (i j k : Int) : D := .lst [.arr a ns, .int i, .int j, .int k]
theorem fn_taken {Γ : Gm} {x qual : Str} {st : Stmt} {f : Addr} {fd : FuncData} {N ps : List Str} {k : Nat} {g : SEnv → Out} (F : FnP K x qual st f fd) (S : FnScope N ps (defScope st)) (hK : Γ.K = K)
    (hb : ∀ (cdv : Value) (A : Around) (outer : List PySem.Env) (s : Shared) (H : Hp) (E : XK), Room k (A.deeper (envOfC qual (defScope st) s.heap.objs.size f cdv)) →
      PSs (cxOf (L2.CX P w) P w K mg base N qual (defScope st) f cdv A outer s H E) (defBody st) (sT (Γ.at none 0) E g)) (hN : N.length = 4 := by rfl) (hps : ps.length = 2 := by rfl)
    (hg : ∀ (a : Addr) (ns : List Int) (i j k n : Int), 0 ≤ i → 0 ≤ j → j < 2147483647 → 0 < n → n.natAbs.log2 < 9000 →
      ∃ v i' j' k' ρ', g [.row (rowD a ns i j k), .val (.int n), .dead, .dead] = .rt (.int v) ρ' ∧ ρ'[0]? = some (.row (rowD a ns i' j' k')) ∧ 0 ≤ v ∧ v < n ∧ 0 ≤ i' ∧ 0 ≤ j' ∧ j' < 2147483647) : FnOk P w K mg base (L2.CX P w) (k + 1) f fd ps (spF Γ 2 takenF) := by
  refine okC F S (fun vs H Q E h => ?_) (fun cdv A outer s H vs Q E hcd hr h => ?_)
  · obtain ⟨r, sc, av, ds, wf, rr, hlen, q⟩ := h
    rw [← rr.length, hps]
    exact hlen
  · obtain ⟨r, sc, av, ds, wf, rr, hlen, q⟩ := h
    cases rr with
    | nil => cases hlen
    | cons r1 rr =>
      cases rr with
      | nil => cases hlen
      | cons r2 rr =>
        cases rr with
        | cons _ _ => cases hlen
        | nil =>
          cases r1 <;> first | exact (show False from q).elim | skip
          cases r2 <;> first | exact (show False from q).elim | skip
          rename_i a hra n
          obtain ⟨⟨hn, hn2⟩, q⟩ := ROk.ifp q
          have hra : r = some a := hra
          subst hra
          obtain ⟨ns, i, j, kk, h1, h2, hi, hj, hj2⟩ := wf.row a rfl
          obtain ⟨v, i', j', k', ρ', e, e0, v1, v2, hi', hj', hj2'⟩ := hg sc ns i j kk n hi hj hj2 hn hn2
          have h2 : SqL Γ.K H sc (ns.map V.int) := h2
          have hna : sc ≠ a ∨ ∀ H', SqL Γ.K H' sc (ns.map V.int) := by
            rcases h2 with (h2 | ⟨o, h2⟩) | h2
            · refine .inl fun z => ?_
              rw [z, h1] at h2
              cases ns with
              | nil => cases h2
              | cons _ _ => cases h2
            · exact .inl fun z => by rw [z, h1] at h2; cases h2
            · exact .inr fun _ => .inr h2
          refine ⟨_, hb cdv A outer s H E hr, fun b => av b ∧ b ≠ a ∧ b ≠ sc, H, fun i => if i = 0 then some a else none, [], [.row (rowD sc ns i j kk), .val (.int n), .dead, .dead], ⟨fun _ => a, ?_⟩, ?_⟩
          · have es : L2.start N [.ref a, .int n] = [some (.ref a), some (.int n), none, none] := by
              unfold L2.start
              rw [hN]
              rfl
            rw [es]
            have c0 : ∀ {m : Nat} {d : D}, Cont [Sl.row (rowD sc ns i j kk), .val (.int n), .dead, .dead] m d → m = 0 ∧ d = rowD sc ns i j kk := by
              intro m d h
              match m, h with
              | 0, .inl h => cases h
              | 0, .inr h => cases h; exact ⟨rfl, rfl⟩
              | 1, .inl h => cases h
              | 1, .inr h => cases h
              | 2, .inl h => cases h
              | 2, .inr h => cases h
              | 3, .inl h => cases h
              | 3, .inr h => cases h
              | m + 4, .inl h => cases h
              | m + 4, .inr h => cases h
            refine ⟨ExtM.refl _ _ _, wf.tb, fun r e => (by cases e), rfl, fun b z => wf.av b z.1, fun b ⟨m, z⟩ => ?_, fun m m' d e h1 h2 _ => (c0 h1).1.trans (c0 h2).1.symm, fun m d h => ?_, fun m d h => ?_, fun m d h => ?_, fun m d h => ?_, fun p hp => by cases hp⟩
            · by_cases hm : m = 0
              · simp only [hm, if_true] at z
                exact ⟨0, _, rfl, (Option.some.inj z).symm⟩
              · simp only [hm, if_false] at z
                cases z
            · obtain ⟨rfl, _⟩ := c0 (.inl h)
              cases h
            · obtain ⟨rfl, _⟩ := c0 (.inr h)
              exact ⟨rfl, fun z => z.2.1 rfl, fun z => (by cases z), fun r e => (by cases e)⟩
            · match m, h with
              | 1, h => cases h; exact ⟨_, rfl, .int n⟩
              | 0, h => cases h
              | 2, h => cases h
              | 3, h => cases h
              | m + 4, h => cases h
            · obtain ⟨rfl, rfl⟩ := c0 h
              refine ⟨rfl, _, h1, .cons (.arr _ _ ?_) (.cons (.int _) (.cons (.int _) (.cons (.int _) .nil)))⟩
              rcases h2 with (g2 | ⟨o, g2⟩) | g2
              · rcases hna with z | z
                · refine .inl ⟨g2, fun y => ?_⟩
                  rcases y with (y | ⟨m, d, y, e⟩) | y
                  · exact y.2.2 rfl
                  · exact z e
                  · cases y
                · exact .inr (.inr z)
              · exact .inr (.inl ⟨o, g2⟩)
              · exact .inr (.inr fun _ => .inr g2)
          · rw [e]
            refine fun u σ' H' ad S ru => ?_
            have ru : Rp _ _ H' (.int v) u := ru
            cases ru
            refine (q v v1 v2) (.int v) H' ⟨fun b o eb n l => ?_, S.ext.tb, fun _ r er => ?_, S.ext.there⟩ (.int v)
            · refine S.ext.keep b o eb n (fun _ => by intro z; cases z) fun ⟨m, z⟩ => ?_
              by_cases hm : m = 0
              · simp only [hm, if_true] at z
                cases z
                rw [h1] at eb
                cases eb
                exact l ⟨_, rfl⟩ rfl
              · simp only [hm, if_false] at z
                cases z
            · cases er
              obtain ⟨s1, s2⟩ := S.own 0 _ (.inr e0)
              have ha : ad 0 = a := by
                have := (S.rows 0 _ e0).1
                simpa using this.symm
              rw [ha] at s2
              obtain ⟨us, u1, u2⟩ := s2
              cases u2 with
              | cons p1 u2 =>
                cases u2 with
                | cons p2 u2 =>
                  cases u2 with
                  | cons p3 u2 =>
                    cases u2 with
                    | cons p4 u2 =>
                      cases u2
                      cases p1 with
                      | arr _ _ p1 =>
                        cases p2
                        cases p3
                        cases p4
                        exact ⟨ns, i', j', k', u1, p1.sq, hi', hj', hj2'⟩
end
end Fw
end
set_option Elab.async false
set_option linter.all false
set_option autoImplicit false
set_option maxRecDepth 100000
set_option maxHeartbeats 4000000
/-! Fw13: more of the built-in words. -/
noncomputable section
namespace Fw
open PySem PySem.Spec PyProof.Rows L2
section
variable {X : Cx} {Γ : Gm} {E : XK} {x : Str} {a b c o e : Expr} {es : List Expr} {st : Stmt} {sts : List Stmt} {pos p p2 pos' apos cpos : Pos} {f fa fb fc : Env → Res D} {ta : Env → Res Bool} {fs : Env → Res (List D)} {k i : Nat} {g g1 g2 : SEnv → Out} {t : Tg}
/-! range(a, b) as a value -/
def rngD : List D → Res D
  | [.int i, .int j] => .ok (.rng i j)
  | _ => .no
theorem fit_rng2 : FitC Γ E (fun vs H Q => ∃ i j, vs = [V.int i, V.int j] ∧ ∀ p, H p = none → Q (.ref p) (upd H p (.rng i j))) rngD := by
  intro av H ds vs Q wf rr h
  cases rr with
  | nil => exact (show False from h).elim
  | cons r1 rr =>
    cases rr with
    | nil => cases r1 <;> exact (show False from h).elim
    | cons r2 rr =>
      cases rr with
      | cons _ _ => cases r1 <;> cases r2 <;> exact (show False from h).elim
      | nil =>
        cases r1 <;> first | (cases r2 <;> exact (show False from h).elim) | skip
        cases r2 <;> first | exact (show False from h).elim | skip
        rename_i i j
        exact ⟨i, j, rfl, fun p hp => h.new hp (.rng i j upd_same)⟩
theorem te_range2 (hm : X.mg "range" = none) (ha : PE X a (eT Γ E fa)) (hb : PE X b (eT Γ E fb)) (hg : Gl X "range" := by rfl) (he : starEach [a, b] X.env = (false, eval a X.env) :: starEach [b] X.env := by rfl) (he2 : starEach [b] X.env = (false, eval b X.env) :: starEach [] X.env := by rfl)
    (hpl : (backTo pos (starEach [b] X.env)).any (·.1) = false := by rfl) : PE X (.Call (.Name "range" p) [a, b] [] pos) (eT Γ E (app rngD (consA fa (consA fb nilA)))) :=
  te_callTy (X := X) cr_range2 fit_rng2 boot_range hm (ta_cons ha (ta_cons hb ta_nil he2) he) hg (by decide) (by decide) he hpl
/-! methods -/
def bmF (T : Ty) (f : Env → Res D) (fs : Env → Res (List D)) (gg : D → List D → Res D) : Env → Res D := fun ρ => (f ρ).bind fun d => if d.ty = some T then (fs ρ).bind fun ds => gg d ds else .no
theorem Rp.tyV {K : PySem.W.Frag} {r : Kr} {av : Addr → Prop} {H : Hp} {d : D} {v : V} {T : Ty} (h : Rp r av H d v) (hT : T = .lst ∨ T = .str ∨ T = .dct) (e : d.ty = some T) : L2.tyV K T.name v H := by
  cases h with
  | str x => cases e; exact rfl
  | lst g _ _ => cases e; exact .inl ⟨rfl, _, SqL.of g⟩
  | dK g _ _ => cases e; exact .inr (.inr (.inl ⟨rfl, .inl ⟨_, g⟩⟩))
  | dT g _ _ => cases e; exact .inr (.inr (.inl ⟨rfl, .inr ⟨_, g⟩⟩))
  | tup _ _ => cases e; rcases hT with h | h | h <;> cases h
  | ftp _ _ _ => cases e; rcases hT with h | h | h <;> cases h
  | non => cases e; rcases hT with h | h | h <;> cases h
  | bl _ => cases e; rcases hT with h | h | h <;> cases h
  | int _ => cases e; rcases hT with h | h | h <;> cases h
  | _ => cases e
/-- what a method over values must do to fit one over trees -/
def FitM (Γ : Gm) (E : XK) (T : Ty) (r : V → List V → Hp → VK → Prop) (gg : D → List D → Res D) : Prop := ∀ (av : Addr → Prop) (H : Hp) (d : D) (v : V) (ds : List D) (vs : List V) (Q : VK), Wf Γ av H → Rp Γ.kr av H d v → RpL Γ.kr av H ds vs →
  ROk Γ av H (fun H' d v => Rp Γ.kr av H' d v) (gg d ds) Q E → r v vs H Q
theorem te_bm {T : Ty} {id : String} {name : Str} {r : V → List V → Hp → VK → Prop} {gg : D → List D → Res D} (pa : PlainAttrs T.name) (slot : Slot T.name name id) (hty : typeOf (.builtin id) = pure (.type "method_descriptor")) (hm : MtR X id r) (hT : T = .lst ∨ T = .str ∨ T = .dct)
    (hf : FitM Γ E T r gg) (ho : PE X o (eT Γ E f)) (ha : PA X (a :: es) (aT Γ E fs)) (hbase : attributeBase o name X.env (eval o X.env) = eval o X.env := by rfl)
    (hfew : ((backTo cpos (starEach (a :: es) X.env)).all (fun x => !x.1) && (backToKw cpos (keywordEach [] X.env)).all (fun x => x.1.isSome) && decide ((a :: es).length + ([] : List Keyword).length + (if ([] : List Keyword).isEmpty then 0 else 1) < 30)) = true := by rfl)
    (hline : (apos.endLine == cpos.line) = true := by rfl) (hs : starEach (a :: es) X.env = (false, eval a X.env) :: starEach es X.env := by rfl) (hplain : (backTo cpos (starEach es X.env)).any (·.1) = false := by rfl) :
    PE X (.Call (.Attribute o name apos) (a :: es) [] cpos) (eT Γ E (bmF T f fs gg)) :=
  PE.imp (pe_bm pa slot hty hm ho ha hbase hfew hline hs hplain) fun σ H Q ⟨av, ρ, env, h⟩ => eT_bind env h fun d v H1 x1 env1 r1 h1 => by
    obtain ⟨ht, h1⟩ := ROk.ifp h1
    exact ⟨r1.tyV hT ht, aT_bind env1 h1 fun ds vs H2 x2 env2 r2 h2 => hf av H2 d v ds vs Q env2.wf (r1.ext x2) r2 h2⟩
def cntG : D → List D → Res D
  | .lst ds, [.int k] => match intsOf ds with | some ns => .ok (.int (ns.count k : Nat)) | none => .no
  | _, _ => .no
theorem fit_cnt (hK : X.K = Γ.K) : FitM Γ E .lst (rCntI X.K) cntG := by
  intro av H d v ds vs Q wf r rr h
  cases r <;> first | exact (show False from h).elim | skip
  rename_i a vs' ds' g n r
  cases rr with
  | nil => exact (show False from h).elim
  | cons r1 rr =>
    cases rr with
    | cons _ _ => cases r1 <;> exact (show False from h).elim
    | nil =>
      cases r1 <;> first | exact (show False from h).elim | skip
      rename_i k
      unfold cntG at h
      cases e : intsOf ds' with
      | none => simp only [e] at h; exact (show False from h).elim
      | some ns =>
        simp only [e] at h
        have e' := intsOf_eq e
        subst e'
        have := r.ints
        subst this
        exact ⟨a, ns, k, rfl, rfl, SqL.of g, h.here (.int _)⟩
theorem te_count (ho : PE X o (eT Γ E f)) (ha : PE X a (eT Γ E fa)) (hK : X.K = Γ.K := by rfl) (hbase : attributeBase o "count" X.env (eval o X.env) = eval o X.env := by rfl)
    (hfew : ((backTo cpos (starEach [a] X.env)).all (fun x => !x.1) && (backToKw cpos (keywordEach [] X.env)).all (fun x => x.1.isSome) && decide ([a].length + ([] : List Keyword).length + (if ([] : List Keyword).isEmpty then 0 else 1) < 30)) = true := by rfl)
    (hline : (apos.endLine == cpos.line) = true := by rfl) (hs : starEach [a] X.env = (false, eval a X.env) :: starEach [] X.env := by rfl) : PE X (.Call (.Attribute o "count" apos) [a] [] cpos) (eT Γ E (bmF .lst f (consA fa nilA) cntG)) :=
  te_bm (T := .lst) PySem.F.plainAttrs_list PySem.F.slot_list_count PySem.F.type_list_count mt_lcount (.inl rfl) (fit_cnt hK) ho (ta_cons ha ta_nil hs) hbase hfew hline hs rfl
/-! x, y = e -/
def unpO (f : Env → Res D) (t : Tg) : SEnv → Out := fun ρ => bindO (f ρ.vis) fun d => match bindT ρ t d with | some ρ' => .nx ρ' | none => .no
theorem ts_unp {tg : Expr} (h : PE X e (eT Γ E f)) (hg : PG X tg (gT Γ t)) (hnd : t.names.Nodup := by decide) (hs : swapsWithSole [tg] e pos.line X.env = pure false := by rfl) (hw : swappedStores [tg] e X.env = pure none := by rfl)
    (h1 : (assignEach [tg] X.env).map (·.2) = [assign tg X.env] := by rfl) : PS X (.Assign [tg] e pos) (sT Γ E (unpO f t)) :=
  PS.imp (ps_asg h hg hs hw h1) fun Z σ H ⟨amb, H0, mr, tmp, ρ, ⟨ad, S⟩, h⟩ => eT_out S S.envVis h fun d v H1 x1 S1 r1 h1 => by
    unfold bindT at h1
    cases q : t.unp d with
    | none => simp only [q] at h1; exact (show False from h1).elim
    | some qs =>
      simp only [q] at h1
      have nd : (qs.map (·.1)).Nodup := by rw [unp_names q]; exact hnd
      cases q2 : setMany ρ qs with
      | none => simp only [q2] at h1; exact (show False from h1).elim
      | some ρ1 =>
        simp only [q2] at h1
        exact ⟨_, d, qs, S1.wf, r1, q, nd, fun σ' H' x' c => h1 σ' H' ⟨ad, (S1.ext_ x').setChg c nd q2⟩⟩
/-! a new list put in a name on one line -/
theorem ts_skip (h : PS X st (sT Γ E g)) : PS X st (sT Γ E g) := h
/-! tuple * k where nothing is repeated: the same object for k = 1 or an empty tuple, else (k at most 0) an empty one -/
def noRep (xs : Array Value) (k : Int) : Bool := xs.isEmpty || k == 1
theorem mul_few {t : Addr} {o : Obj} {xs : Array Value} {k : Int} (u : Tok) (at_ : ∃ n, o = { cls := .type "tuple", dict := o.dict, data := .seq xs n, slots := o.slots }) (fit : -(2 ^ 63) ≤ k ∧ k < 2 ^ 63) (few : noRep xs k = true ∨ k ≤ 0) :
    Meets (Builtin.«tuple.__mul__» ⟨[.ref t, .int k u], []⟩) (fun _ R s => s.heap.get? t = some o ∧ (noRep xs k = true → R (.ok (.ret (.ref t))) s) ∧ (noRep xs k = false → R (.ok (.ret (.ref s.heap.objs.size))) { s with heap := s.heap.push { cls := .type "tuple", data := .seq #[] } })) :=
  .of_wp fun P w A R s ⟨g, same, new⟩ => by
    have ⟨n, eo⟩ := at_
    rw [eo] at g
    rcases s with ⟨hp, gs, dr, tk, os⟩
    have over : ¬ (decide (k < -(2 ^ 63)) || decide (k ≥ 2 ^ 63)) = true := by simp; omega
    have ix := AutoSeq1.idx_int
    wp_walk using wpAny_loadPart' g
    cases e : noRep xs k
    · have le : (decide (k ≤ 0) || xs.isEmpty) = true := by
        rcases few with z | z
        · rw [e] at z; cases z
        · simp [z]
      have ne : ¬ (xs.isEmpty || k == 1) = true := by
        show ¬ noRep xs k = true
        simp [e]
      repeat (any_goals (first
        | (apply wpAny_ite_false (decide_eq_false over); wp_walk using wpAny_loadPart' g)
        | (apply wpAny_ite_false (decide_eq_false ne); wp_walk using wpAny_loadPart' g)
        | (apply wpAny_ite_true (decide_eq_true le); wp_walk using wpAny_loadPart' g)))
      all_goals exact ⟨_, rfl, new e⟩
    · have yes : (xs.isEmpty || k == 1) = true := e
      repeat (any_goals (first
        | (apply wpAny_ite_false (decide_eq_false over); wp_walk using wpAny_loadPart' g)
        | (apply wpAny_ite_true (decide_eq_true yes); wp_walk using wpAny_loadPart' g)))
      all_goals exact ⟨_, rfl, same e⟩
def rRepT01 (K : PySem.W.Frag) : R2 := fun x y H Q => ∃ l k xs, x = .ref l ∧ y = .int k ∧ SqT K H l xs ∧ 0 ≤ k ∧ k ≤ 1000 ∧ ((k = 1 ∨ xs = []) → Q (.ref l) H) ∧ (¬ (k = 1 ∨ xs = []) → k ≤ 0 ∧ ∀ p, H p = none → Q (.ref p) (upd H p (.tup [])))
theorem op_repT01 : OpR X (binaryOp .Mult) (rRepT01 X.K) := by
  rintro pins s σ H _ _ v u Q I rx ry ⟨l, k, xs, rfl, rfl, sq, lo, hi, same, new⟩
  cases (show v = .ref l from rx)
  rcases ry with ⟨t, rfl⟩
  rcases I.tuple sq with ⟨its, vals, ⟨⟨c, dd, dat, sl⟩, g, hc, n, hd⟩, _⟩
  cases (show c = .type "tuple" from hc)
  cases (show dat = .seq its.toArray n from hd)
  have num := vals.length
  have empty : its = [] ↔ xs = [] := by rw [← List.length_eq_zero_iff, ← List.length_eq_zero_iff, num]
  have when_ : noRep its.toArray k = true ↔ (k = 1 ∨ xs = []) := by
    simp only [noRep, Bool.or_eq_true, Array.isEmpty_iff, List.toArray_eq_iff, beq_iff_eq]
    rw [empty]
    exact Or.comm
  have few : noRep its.toArray k = true ∨ k ≤ 0 := by
    rcases Classical.em (k = 1 ∨ xs = []) with z | z
    · exact .inl (when_.2 z)
    · exact .inr (new z).1
  have tt : s.TypeIs (.ref l) "tuple" := ⟨_, g, rfl⟩
  have spec := mul_few (t := l) (o := { cls := .type "tuple", dict := dd, data := .seq its.toArray n, slots := sl }) (xs := its.toArray) (k := k) t ⟨n, rfl⟩ (by omega) few
  have run : wpAny (model X.prog X.w) X.A (call (.builtin "tuple.__mul__") [.ref l, .int k t]) (EP X pins σ Q) X.xe s := by
    refine call_meets F.slot_tuple_mul tt F.entry_tuple_mul (F.args_tuple_mul_2 _ _) spec ⟨g, fun z => ?_, fun z => ?_⟩
    · exact ⟨.ref l, H, I, rfl, same (when_.1 z)⟩
    · have z2 : ¬ (k = 1 ∨ xs = []) := fun q => by rw [when_.2 q] at z; cases z
      have old : ∀ b ob, s.heap.get? b = some ob → (s.heap.push { cls := .type "tuple", data := .seq #[] }).get? b = some ob := fun _ _ q => Heap.get?_push_of_some _ q
      exact ⟨.ref s.heap.objs.size, _, I.laid (t' := s.toks) (o := .tup []) old (Nat.le_refl _) ⟨Nat.zero_le _, [], .nil, IsTup.new _ _⟩, rfl, (new z2).2 _ (I.hok.fresh (Nat.le_refl _))⟩
  apply wpAny_binaryOp_repeat_ref (T := "tuple") (U := "int") (by decide) tt (fun z => typeIs_int z k t) noFill_tuple_mul F.fills_int_mul F.slot_int_rmul repeat_tuple F.slot_int_index.lookup
  exact call_meets F.slot_int_rmul (typeIs_int s k t) F.entry_int_rmul (F.args_int_rmul_2 _ _) (int_rmul_tuple k t l its.toArray n dd sl) ⟨g, rfl, tt, run⟩
/-- tuple * int, any int from 0 to 1000 -/
def mulTT : D → D → Res D
  | .tup a, .int b => if 0 ≤ b ∧ b ≤ 1000 ∧ a.length ≤ 1000 then .ok (.tup (List.replicate b.toNat a).flatten) else .no
  | _, _ => .no
theorem fit_mulTT : Fit2 Γ E (fun x y H Q => rRepT Γ.K x y H Q ∨ rRepT01 Γ.K x y H Q) mulTT := by
  intro av H da db va vb Q wf ra rb h
  cases ra <;> first | exact (show False from h).elim | skip
  cases rb <;> first | exact (show False from h).elim | skip
  rename_i a vs ds h1 r1 k
  obtain ⟨hz, h⟩ := ROk.ifp h
  by_cases hc : k = 1 ∨ vs = []
  · refine .inr ⟨_, _, _, rfl, rfl, SqT.of h1, hz.1, hz.2.1, fun _ => ?_, fun z => absurd hc z⟩
    refine h.here (.tup h1 ?_)
    rcases hc with z | z
    · rw [z]
      simpa using r1
    · subst z
      cases r1
      have : (List.replicate k.toNat ([] : List D)).flatten = [] := by simp
      rw [this]
      exact .nil
  · by_cases hk : k ≤ 0
    · have k0 : k = 0 := by omega
      subst k0
      exact .inr ⟨_, _, _, rfl, rfl, SqT.of h1, hz.1, hz.2.1, fun z => absurd z hc, fun _ => ⟨hk, fun p hp => h.new hp (.tup upd_same .nil)⟩⟩
    · exact .inl ⟨_, _, _, rfl, rfl, SqT.of h1, fun e => hc (.inr e), by omega, hz.2.1, by rw [← r1.length]; exact hz.2.2, fun p hp => h.new hp (.tup upd_same ((r1.reps _).ext (Ext.new _ hp)))⟩
theorem te_mulT (ha : PE X a (eT Γ E fa)) (hb : PE X b (eT Γ E fb)) (hK : X.K = Γ.K := by rfl) : PE X (.BinOp a .Mult b pos) (eT Γ E (bin mulTT fa fb)) := by
  refine te_op (op_repT.or op_repT01) ?_ ha hb
  rw [hK]
  exact fit_mulTT
/-! names of the module, minus -/
theorem te_cint {i : Int} (h : ∃ t, X.mg x = some (.int i t)) (hg : Gl X x := by rfl) (hd : (x == ("__debug__" : Str)) = false := by decide) : PE X (.Name x pos) (eT Γ E fun _ => .ok (.int i)) := te_gint h.choose_spec hg hd
theorem te_cstr {i : Str} (h : ∃ t, X.mg x = some (.str i t)) (hg : Gl X x := by rfl) (hd : (x == ("__debug__" : Str)) = false := by decide) : PE X (.Name x pos) (eT Γ E fun _ => .ok (.str i)) := te_gstr h.choose_spec hg hd
def un1 (g : D → Res D) (fa : Env → Res D) : Env → Res D := fun ρ => (fa ρ).bind g
theorem te_neg (ha : PE X a (eT Γ E fa)) : PE X (.UnaryOp .USub a pos) (eT Γ E (un1 D.neg fa)) :=
  PE.imp (pe_un un_neg ha) fun σ H Q ⟨av, ρ, env, h⟩ => eT_bind env h fun d v H1 x1 env1 r1 h1 => by
    cases r1 <;> first | exact (show False from h1).elim | skip
    rename_i i
    exact ⟨i, rfl, h1.here (.int _)⟩
end
/-- a generator expression's scope, by a Bool -/
def genC (N : List Str) (sc scope : Scope) (own : List (Str × Nat)) : Bool := blkC N sc scope own && (!scope.isCoroutine && (scope.names.all fun y => match y.2 with | .cell => false | _ => true) && decide (scope.names.lookup (".0" : Str) = some NameKind.local))
theorem genOk_by {N : List Str} {sc scope : Scope} {own : List (Str × Nat)} (h : genC N sc scope own = true) : GenOk N sc scope own := by
  unfold genC at h
  simp only [Bool.and_eq_true, List.all_eq_true, decide_eq_true_eq, Bool.not_eq_true'] at h
  obtain ⟨h1, ⟨h2, h3⟩, h4⟩ := h
  refine ⟨blkOk_by h1, h2, fun y hy e => ?_, h4⟩
  have := h3 y hy
  rw [e] at this
  cases this
end Fw
end
set_option Elab.async false
set_option linter.all false
set_option autoImplicit false
set_option maxRecDepth 100000
set_option maxHeartbeats 4000000
/-! Fw14: the law's own promise. -/
noncomputable section
namespace Fw
open PySem PySem.Spec PyProof.Rows L2
/-- whatever is drawn: an answer with P -/
def AllOk {α : Type} (P : α → Prop) : Res α → Prop
  | .ok d => P d
  | .dr n k => ∀ i, 0 ≤ i → i < n → AllOk P (k i)
  | .ex _ _ => False
  | .no => False
theorem AllOk.imp {α : Type} {P Q : α → Prop} (h : ∀ d, P d → Q d) : ∀ {r : Res α}, AllOk P r → AllOk Q r
  | .ok d, p => h d p
  | .dr n k, p => fun i h1 h2 => AllOk.imp h (p i h1 h2)
  | .ex _ _, p => p
  | .no, p => p
theorem AllOk.bind {α β : Type} {P : α → Prop} {Q : β → Prop} {k : α → Res β} (h : ∀ d, P d → AllOk Q (k d)) : ∀ {r : Res α}, AllOk P r → AllOk Q (r.bind k)
  | .ok d, p => h d p
  | .dr n j, p => fun i h1 h2 => AllOk.bind h (p i h1 h2)
  | .ex _ _, p => p.elim
  | .no, p => p.elim
theorem AllOk.rok {α γ : Type} {P : α → Prop} {Γ : Gm} {av : Addr → Prop} {H : Hp} {rel : Hp → α → γ → Prop} {Q : γ → Hp → Prop} {E : XK} (h : ∀ d v H', P d → rel H' d v → Q v H') : ∀ {r : Res α}, AllOk P r → ROk Γ av H rel r Q E
  | .ok d, p => fun v H' x q => h d v H' p q
  | .dr n j, p => fun i h1 h2 => AllOk.rok h (p i h1 h2)
  | .ex _ _, p => p.elim
  | .no, p => p.elim
/-- law's promise: a list of whole numbers is handed in, True comes out -/
def spLaw (Γ : Gm) : Sp := fun vs H Q E => ∃ (a : Addr) (ns : List Int), vs = [.ref a] ∧ SqL Γ.K H a (ns.map V.int) ∧ Tb Γ H ∧ ∀ v H', v = .bl true → Q v H'
section
variable {P : Program} {w : World} {K : PySem.W.Frag} {mg : Str → Option Value} {base : Heap}
/-- law's first statement makes the row -/
theorem fn_law {sd : Int} {Γ : Gm} {x qual : Str} {st s0 : Stmt} {rest : List Stmt} {f : Addr} {fd : FuncData} {N : List Str} {y : Str} {k : Nat} {g : SEnv → Out} (F : FnP K x qual st f fd) (S : FnScope N [y] (defScope st)) (hK : Γ.K = K) (hbody : defBody st = s0 :: rest)
    (h0 : ∀ (cdv : Value) (A : Around) (outer : List PySem.Env) (s : Shared) (H : Hp) (E : XK), PS (cxOf (L2.CX P w) P w K mg base N qual (defScope st) f cdv A outer s H E) s0 (tAsg (tLst (tCons (tVar 0) (tCons (tC (.int 0)) (tCons (tC (.int sd)) (tCons (tC (.int 0)) tNil))))) (gName 1)))
    (hb : ∀ (r sc : Addr) (cdv : Value) (A : Around) (outer : List PySem.Env) (s : Shared) (H : Hp) (E : XK), fd.code = cdv → Room k (A.deeper (envOfC qual (defScope st) s.heap.objs.size f cdv)) →
      PSs (cxOf (L2.CX P w) P w K mg base N qual (defScope st) f cdv A outer s H E) rest (sT (Γ.at (some r) sc) E g)) (hN : 2 ≤ N.length)
    (hg : ∀ (a : Addr) (ns : List Int), AllOk (fun d => d = .bl true) (g (.val (.arr a ns) :: .val .row :: List.replicate (N.length - 2) .dead)).fin) (hd0 : 0 ≤ sd := by decide) (hd1 : sd < 2147483647 := by decide) : FnOk P w K mg base (L2.CX P w) (k + 1) f fd [y] (spLaw Γ) := by
  refine okC F S (fun vs H Q E h => ?_) (fun cdv A outer s H vs Q E hcd hr h => ?_)
  · obtain ⟨a, ns, rfl, _⟩ := h
    rfl
  · obtain ⟨a, ns, rfl, hs, tb, q⟩ := h
    rw [hbody]
    -- whatever the row's place is
    have hrest : PSs (cxOf (L2.CX P w) P w K mg base N qual (defScope st) f cdv A outer s H E) rest (fun D σ H' => ∃ r sc, sT (Γ.at (some r) sc) E g D σ H') := ⟨fun pins s1 σ H1 D I ⟨r, sc, h⟩ => (hb r sc cdv A outer s H E hcd hr).run pins s1 σ H1 D I h⟩
    refine ⟨_, pss_cons (h0 cdv A outer s H E) hrest, ?_⟩
    have hn : L2.start N [.ref a] = some (.ref a) :: none :: List.replicate (N.length - 2) none := by
      unfold L2.start
      have : N.length - [V.ref a].length = (N.length - 2) + 1 := by simp; omega
      rw [this, List.replicate_succ]
      rfl
    rw [hn]
    refine ⟨.ref a, rfl, ?_⟩
    refine ⟨by rw [lim_eq]; show 4 ≤ lim; decide, fun p hp => ⟨p, a, fun _ => False, upd H p (.lst [.ref a, .int 0, .int sd, .int 0]), noMr, [], _, ⟨fun _ => 0, ?_⟩, SOk.fin (AllOk.rok (P := fun d => d = .bl true) (fun d v H' e r => ?_) (hg a ns))⟩⟩
    · have x1 : Ext Γ H (upd H p (.lst [.ref a, .int 0, .int sd, .int 0])) := Ext.same fun b o e => by rw [upd_ne (ne_of_none e hp)]; exact e
      have hs' : SqL Γ.K (upd H p (.lst [.ref a, .int 0, .int sd, .int 0])) a (ns.map V.int) := sqL_same (fun b o e => by rw [upd_ne (ne_of_none e hp)]; exact e) hs
      have nc : ∀ {i : Nat} {d : D}, ¬ Cont (Sl.val (.arr a ns) :: .val .row :: List.replicate (N.length - 2) .dead) i d := by
        intro i d h
        match i, h with
        | 0, .inl h => cases h
        | 0, .inr h => cases h
        | 1, .inl h => cases h
        | 1, .inr h => cases h
        | i + 2, .inl h => have h : (List.replicate (N.length - 2) Sl.dead)[i]? = some (.own d) := h; cases List.eq_of_mem_replicate (List.mem_of_getElem? h)
        | i + 2, .inr h => have h : (List.replicate (N.length - 2) Sl.dead)[i]? = some (.row d) := h; cases List.eq_of_mem_replicate (List.mem_of_getElem? h)
      refine ⟨ExtM.refl _ _ _, x1.tb tb, fun r e => ?_, by simp, fun _ z => z.elim, fun b ⟨_, z⟩ => (by cases z), fun i j d e h _ _ => absurd h nc, fun i d h => absurd (.inl h) nc, fun i d h => absurd (.inr h) nc, fun i d h => ?_, fun i d h => absurd h nc, fun p hp => (by cases hp)⟩
      · cases e
        exact ⟨ns, 0, sd, 0, upd_same, hs', by decide, hd0, hd1⟩
      · match i, h with
        | 0, h =>
          cases h
          refine ⟨_, rfl, .arr _ _ ?_⟩
          rcases hs' with (g2 | ⟨o, g2⟩) | g2
          · refine .inl ⟨g2, fun y => ?_⟩
            rcases y with (y | ⟨m, d, y, e⟩) | y
            · exact y
            · exact nc y
            · have y : some p = some a := y
              cases y
              rw [upd_same] at g2
              cases ns with
              | nil => cases g2
              | cons _ _ => cases g2
          · exact .inr (.inl ⟨o, g2⟩)
          · exact .inr (.inr fun _ => .inr g2)
        | 1, h => cases h; exact ⟨_, rfl, .row rfl⟩
        | i + 2, h => have h : (List.replicate (N.length - 2) Sl.dead)[i]? = some (.val d) := h; cases List.eq_of_mem_replicate (List.mem_of_getElem? h)
    · subst e
      cases r
      exact q _ _ rfl
end
end Fw
end
set_option Elab.async false
set_option linter.all false
set_option autoImplicit false
set_option maxRecDepth 100000
set_option maxHeartbeats 4000000
/-! Fw15: reckoning with trees. -/
noncomputable section
namespace Fw
open PySem PySem.Spec
section
variable {α β : Type} {ρ : SEnv} {r : Env} {fa fb fc : Env → Res D} {fs gs : Env → Res (List D)} {ta tb : Env → Res Bool} {g1 g2 : SEnv → Out} {d : D} {s : Sl} {k : SEnv → Out}
@[simp] theorem bind_ok (a : α) (k : α → Res β) : (Res.ok a).bind k = k a := rfl
@[simp] theorem bind_no (k : α → Res β) : (Res.no : Res α).bind k = .no := rfl
@[simp] theorem bind_ex (c : Str) (f : Option (Str × L2.V)) (k : α → Res β) : (Res.ex c f : Res α).bind k = .ex c f := rfl
@[simp] theorem bind_dr (n : Int) (j : Int → Res α) (k : α → Res β) : (Res.dr n j).bind k = .dr n fun i => (j i).bind k := rfl
@[simp] theorem bindO_ok (a : α) (k : α → Out) : bindO (.ok a) k = k a := rfl
@[simp] theorem bindO_no (k : α → Out) : bindO (.no : Res α) k = .no := rfl
@[simp] theorem bindO_ex (c : Str) (f : Option (Str × L2.V)) (k : α → Out) : bindO (.ex c f : Res α) k = .ex c f := rfl
@[simp] theorem bindO_dr (n : Int) (j : Int → Res α) (k : α → Out) : bindO (.dr n j) k = .dr n fun i => bindO (j i) k := rfl
@[simp] theorem then_nx : (Out.nx ρ).then k = k ρ := rfl
@[simp] theorem then_rt : (Out.rt d ρ).then k = .rt d ρ := rfl
@[simp] theorem then_bk : (Out.bk ρ).then k = .bk ρ := rfl
@[simp] theorem then_ct : (Out.ct ρ).then k = .ct ρ := rfl
@[simp] theorem then_no : Out.no.then k = .no := rfl
@[simp] theorem then_ex (c : Str) (f : Option (Str × L2.V)) : (Out.ex c f).then k = .ex c f := rfl
@[simp] theorem then_dr (n : Int) (j : Int → Out) : (Out.dr n j).then k = .dr n fun i => (j i).then k := rfl
@[simp] theorem turn_nx : (Out.nx ρ).turn k = k ρ := rfl
@[simp] theorem turn_rt : (Out.rt d ρ).turn k = .rt d ρ := rfl
@[simp] theorem turn_bk : (Out.bk ρ).turn k = .nx ρ := rfl
@[simp] theorem turn_ct : (Out.ct ρ).turn k = k ρ := rfl
@[simp] theorem turn_no : Out.no.turn k = .no := rfl
@[simp] theorem turn_dr (n : Int) (j : Int → Out) : (Out.dr n j).turn k = .dr n fun i => (j i).turn k := rfl
@[simp] theorem fin_nx : (Out.nx ρ).fin = .ok .non := rfl
@[simp] theorem fin_rt : (Out.rt d ρ).fin = .ok d := rfl
@[simp] theorem fin_no : Out.no.fin = .no := rfl
@[simp] theorem fin_dr (n : Int) (j : Int → Out) : (Out.dr n j).fin = .dr n fun i => (j i).fin := rfl
@[simp] theorem seqO_eq : seqO g1 g2 ρ = (g1 ρ).then g2 := rfl
@[simp] theorem ifO_eq : ifO ta g1 g2 ρ = bindO (ta ρ.all) fun b => if b then g1 ρ else g2 ρ := rfl
@[simp] theorem bin_eq (g : D → D → Res D) : bin g fa fb r = (fa r).bind fun d => (fb r).bind fun e => g d e := rfl
@[simp] theorem un1_eq (g : D → Res D) : un1 g fa r = (fa r).bind g := rfl
@[simp] theorem app_eq (g : List D → Res D) : app g fs r = (fs r).bind g := rfl
@[simp] theorem consA_eq : consA fa fs r = (fa r).bind fun d => (fs r).bind fun ds => .ok (d :: ds) := rfl
@[simp] theorem nilA_eq : nilA r = .ok [] := rfl
@[simp] theorem tupF_eq : tupF fs r = (fs r).bind fun ds => if ds.length ≤ lim then .ok (.tup ds) else .no := rfl
@[simp] theorem lstF_eq : lstF fs r = (fs r).bind fun ds => if ds.length ≤ lim then .ok (.lst ds) else .no := rfl
@[simp] theorem asTest_eq : asTest fa r = (fa r).bind D.asB := rfl
@[simp] theorem truthOf_eq : truthOf fa r = (fa r).bind D.truth := rfl
@[simp] theorem andB_eq : andB ta tb r = (ta r).bind fun k => if k then tb r else .ok false := rfl
@[simp] theorem orB_eq : orB ta tb r = (ta r).bind fun k => if k then .ok true else tb r := rfl
@[simp] theorem notB_eq : notB ta r = (ta r).bind fun k => .ok !k := rfl
@[simp] theorem andD_eq : andD fa fb r = (fa r).bind fun d => d.asB.bind fun k => if k then fb r else .ok (.bl false) := rfl
@[simp] theorem orD_eq : orD fa fb r = (fa r).bind fun d => d.asB.bind fun k => if k then .ok (.bl true) else fb r := rfl
@[simp] theorem notD_eq : notD fa r = (fa r).bind fun d => d.asB.bind fun k => .ok (.bl !k) := rfl
@[simp] theorem ifD_eq : ifD ta fa fb r = (ta r).bind fun k => if k then fa r else fb r := rfl
@[simp] theorem chain_eq (g g' : D → D → Res D) : chain g g' fa fb fc r = (fa r).bind fun x => (fb r).bind fun y => (g x y).bind fun z => z.asB.bind fun k => if k then (fc r).bind fun w => g' y w else .ok (.bl false) := rfl
@[simp] theorem isN_eq : isN fa r = (fa r).bind fun a => match a with | .op _ => .no | _ => .ok (.bl a.isNon) := rfl
@[simp] theorem notN_eq : notN fa r = (fa r).bind fun a => match a with | .op _ => .no | _ => .ok (.bl !a.isNon) := rfl
@[simp] theorem isiF_eq (T : Ty) : isiF fa T r = (fa r).bind fun d => d.isi T := rfl
@[simp] theorem isi2F_eq (T U : Ty) : isi2F fa T U r = (fa r).bind fun d => d.isiAny [T, U] := rfl
@[simp] theorem slF_eq (l h : Env → Res (Option Int)) : slF fa l h r = (fa r).bind fun d => (l r).bind fun i => (h r).bind fun j => d.slice i j := rfl
@[simp] theorem part_eq : part fa r = (fa r).bind fun d => d.asI.bind fun i => .ok (some i) := rfl
@[simp] theorem noPart_eq : noPart r = .ok none := rfl
@[simp] theorem itL_eq (g : List D → Option (List D)) : itL g fs r = (fs r).bind fun ds => ofO (g ds) := rfl
@[simp] theorem itemsF_eq : itemsF fa r = (fa r).bind fun d => match d with | .lst ds => .ok ds | .tup ds => .ok ds | .ftp ds => .ok ds | .arr _ ns => .ok (ns.map .int) | .rng lo hi => if inR lo ∧ inR hi then .ok (rangeD lo (hi - lo).toNat) else .no | _ => .no := rfl
@[simp] theorem bmF_eq (T : Ty) (gg : D → List D → Res D) : bmF T fa fs gg r = (fa r).bind fun d => if d.ty = some T then (fs r).bind fun ds => gg d ds else .no := rfl
@[simp] theorem vr_eq (i : Nat) : vr r i = match r[i]? with | some (some d) => .ok d | _ => .no := rfl
@[simp] theorem all_nil : SEnv.all [] = [] := rfl
@[simp] theorem all_cons : SEnv.all (s :: ρ) = s.all :: SEnv.all ρ := rfl
@[simp] theorem vis_nil : SEnv.vis [] = [] := rfl
@[simp] theorem vis_cons : SEnv.vis (s :: ρ) = s.vis :: SEnv.vis ρ := rfl
@[simp] theorem noRow_nil : SEnv.noRow [] = [] := rfl
@[simp] theorem noRow_cons : SEnv.noRow (s :: ρ) = s.noRow :: SEnv.noRow ρ := rfl
@[simp] theorem all_val : (Sl.val d).all = some d := rfl
@[simp] theorem all_own : (Sl.own d).all = some d := rfl
@[simp] theorem all_row : (Sl.row d).all = some d := rfl
@[simp] theorem all_dead : Sl.dead.all = none := rfl
@[simp] theorem vis_val : (Sl.val d).vis = some d := rfl
@[simp] theorem vis_own : (Sl.own d).vis = none := rfl
@[simp] theorem vis_row : (Sl.row d).vis = none := rfl
@[simp] theorem vis_dead : Sl.dead.vis = none := rfl
@[simp] theorem noRow_val : (Sl.val d).noRow = some d := rfl
@[simp] theorem noRow_own : (Sl.own d).noRow = some d := rfl
@[simp] theorem noRow_dead : Sl.dead.noRow = none := rfl
@[simp] theorem put_own (e : D) : (Sl.own e).put d = .own d := rfl
@[simp] theorem put_row (e : D) : (Sl.row e).put d = .row d := rfl
@[simp] theorem setO_eq (i : Nat) : setO ρ i s = if isRow ρ i = false then .nx (ρ.set i s) else .no := rfl
@[simp] theorem isRow_eq (i : Nat) : isRow ρ i = match ρ[i]? with | some (.row _) => true | _ => false := rfl
@[simp] theorem purO_eq (o : Out) : purO d o = if d.pure = true then o else .no := rfl
@[simp] theorem contOf_eq (i : Nat) : contOf ρ i = match ρ[i]? with | some (.own d) => .ok d | some (.row d) => .ok d | _ => .no := rfl
@[simp] theorem putO_eq (i : Nat) : putO ρ i d = match ρ[i]? with | some s => .nx (ρ.set i (s.put d)) | none => .no := rfl
@[simp] theorem frzS_eq (i : Nat) : frzS ρ i = match ρ[i]? with | some (.own d) => ρ.set i (.val d) | _ => ρ := rfl
@[simp] theorem asB_bl (b : Bool) : (D.bl b).asB = .ok b := rfl
@[simp] theorem asI_int (i : Int) : (D.int i).asI = .ok i := rfl
@[simp] theorem add_int (i j : Int) : D.add (.int i) (.int j) = .ok (.int (i + j)) := rfl
@[simp] theorem sub_int (i j : Int) : D.sub (.int i) (.int j) = .ok (.int (i - j)) := rfl
@[simp] theorem mul_int (i j : Int) : D.mul (.int i) (.int j) = if i.natAbs.log2 + j.natAbs.log2 < 1000000 then .ok (.int (i * j)) else .no := rfl
@[simp] theorem fdiv_int (i j : Int) : D.fdiv (.int i) (.int j) = if 0 < j ∧ j.natAbs.log2 < 9000 then .ok (.int (i / j)) else .no := rfl
@[simp] theorem mod_int (i j : Int) : D.mod (.int i) (.int j) = if 0 < j then .ok (.int (i % j)) else .no := rfl
@[simp] theorem pow_int (i j : Int) : D.pow (.int i) (.int j) = if 0 ≤ j ∧ j ≤ 1000000 ∧ i.natAbs < 2 ^ 64 then .ok (.int (i ^ j.toNat)) else .no := rfl
@[simp] theorem lt_int (i j : Int) : D.lt (.int i) (.int j) = .ok (.bl (decide (i < j))) := rfl
@[simp] theorem le_int (i j : Int) : D.le (.int i) (.int j) = .ok (.bl (decide (i ≤ j))) := rfl
@[simp] theorem gt_int (i j : Int) : D.gt (.int i) (.int j) = .ok (.bl (decide (j < i))) := rfl
@[simp] theorem ge_int (i j : Int) : D.ge (.int i) (.int j) = .ok (.bl (decide (j ≤ i))) := rfl
@[simp] theorem truth_int (i : Int) : (D.int i).truth = .ok (i != 0) := rfl
@[simp] theorem truth_bl (b : Bool) : (D.bl b).truth = .ok b := rfl
@[simp] theorem toInt_int (i : Int) : (D.int i).toInt = .ok (.int i) := rfl
@[simp] theorem on1_eq (g : D → Res D) : on1 g [d] = g d := rfl
@[simp] theorem on2_eq (g : D → D → Res D) (e : D) : on2 g [d, e] = g d e := rfl
@[simp] theorem len_tup (ds : List D) : (D.tup ds).len = .ok (.int ds.length) := rfl
@[simp] theorem len_lst (ds : List D) : (D.lst ds).len = .ok (.int ds.length) := rfl
@[simp] theorem len_arr (a : PySem.Addr) (ns : List Int) : (D.arr a ns).len = .ok (.int ns.length) := rfl
@[simp] theorem ix_tup (ds : List D) (i : Int) : (D.tup ds).ix (.int i) = ixG ds i := rfl
@[simp] theorem ix_lst (ds : List D) (i : Int) : (D.lst ds).ix (.int i) = ixG ds i := rfl
@[simp] theorem ix_arr (a : PySem.Addr) (ns : List Int) (i : Int) : (D.arr a ns).ix (.int i) = (ixG ns i).bind fun n => .ok (.int n) := rfl
@[simp] theorem pure_int (i : Int) : (D.int i).pure = true := rfl
@[simp] theorem pure_bl (i : Bool) : (D.bl i).pure = true := rfl
@[simp] theorem callF_eq (n : Nat) (F : List D → Res D) (ds : List D) : callF n F ds = if ds.length = n then F ds else .no := rfl
end
theorem ixG_at {α : Type} (l : List α) (n : Nat) : ixG l (n : Int) = match l[n]? with | some d => .ok d | none => .no := by
  unfold ixG L2.atI L2.ixN
  by_cases h : n < l.length
  · have h1 : ¬ ((n : Int) < 0) := by omega
    simp [h1, h]
  · have h1 : ¬ ((n : Int) < 0) := by omega
    rw [List.getElem?_eq_none (by omega)]
    simp [h1, h]
theorem ix0 {α : Type} (x y z w : α) : ixG [x, y, z, w] 0 = .ok x := rfl
theorem ix1 {α : Type} (x y z w : α) : ixG [x, y, z, w] 1 = .ok y := rfl
theorem ix2 {α : Type} (x y z w : α) : ixG [x, y, z, w] 2 = .ok z := rfl
theorem ix3 {α : Type} (x y z w : α) : ixG [x, y, z, w] 3 = .ok w := rfl
theorem small_log {j : Int} (h : 0 ≤ j) (h2 : j < 2147483647) : j.natAbs.log2 + Nat.log2 48271 < 1000000 := by
  have h3 : j.natAbs < 2 ^ 31 := by omega
  have h4 : j.natAbs.log2 ≤ 31 := by
    by_cases h0 : j.natAbs = 0
    · rw [h0]; decide
    · have := (Nat.log2_lt h0).mpr h3
      omega
  have h5 : Nat.log2 48271 < 900000 := by decide +kernel
  omega
end Fw
end
set_option Elab.async false
set_option linter.all false
set_option autoImplicit false
set_option maxRecDepth 100000
set_option maxHeartbeats 4000000
/-! Fw16: reckoning with trees: loops, comprehensions. -/
noncomputable section
namespace Fw
open PySem PySem.Spec
section
variable {α β : Type} {ρ : SEnv} {r : Env} {f fa fb fc fe : Env → Res D} {fs fi : Env → Res (List D)} {ta tt : Env → Res Bool} {g g1 g2 : SEnv → Out} {d : D} {ds : List D} {s : Sl} {t : Tg} {ts : List Tg} {i : Nat}
@[simp] theorem unp_nm : (Tg.nm i).unp d = some [(i, d)] := rfl
@[simp] theorem unp_tp : (Tg.tp ts).unp (.tup ds) = Tg.unpL ts ds := rfl
@[simp] theorem unpL_nil : Tg.unpL [] [] = some [] := rfl
@[simp] theorem unpL_cons : Tg.unpL (t :: ts) (d :: ds) = match t.unp d, Tg.unpL ts ds with | some a, some b => some (a ++ b) | _, _ => none := rfl
@[simp] theorem setMany_nil : setMany ρ [] = some ρ := rfl
@[simp] theorem setMany_cons (p : Nat × D) (ps : List (Nat × D)) : setMany ρ (p :: ps) = if isRow ρ p.1 = false then setMany (ρ.set p.1 (.val p.2)) ps else none := rfl
@[simp] theorem bindT_eq : bindT ρ t d = match t.unp d with | some ps => setMany ρ ps | none => none := rfl
@[simp] theorem loopO_nil : loopO t g [] ρ = .nx ρ := rfl
theorem loopO_cons : loopO t g (d :: ds) ρ = match bindT ρ t d with | none => .no | some ρ1 => (g ρ1).turn fun ρ' => loopO t g ds ρ' := rfl
@[simp] theorem forO_eq : forO fi t g ρ = bindO (fi ρ.vis) fun ds => loopO t g ds ρ := rfl
@[simp] theorem forRO_eq : forRO fi t g ρ = bindO (fi ρ.all) fun ds => loopO t g ds ρ := rfl
theorem whileO_succ (n : Nat) : whileO ta g (n + 1) ρ = bindO (ta ρ.all) fun b => if b then (g ρ).turn fun ρ' => whileO ta g n ρ' else .nx ρ := rfl
@[simp] theorem ofO_some (a : α) : ofO (some a) = .ok a := rfl
@[simp] theorem noX_ok (a : α) : noX (.ok a) = .ok a := rfl
@[simp] theorem noX_dr (n : Int) (k : Int → Res α) : noX (.dr n k) = .dr n fun i => noX (k i) := rfl
@[simp] theorem parO_eq (is : List Nat) (ks : SEnv → Res (List Sl)) : parO is ks ρ = bindO (ks ρ) fun ss => match setSls ρ is ss with | some ρ' => .nx ρ' | none => .no := rfl
@[simp] theorem kNil_eq : kNil ρ = .ok [] := rfl
@[simp] theorem kCons_eq (h0 : SEnv → Res Sl) (ks : SEnv → Res (List Sl)) : kCons h0 ks ρ = (h0 ρ).bind fun s => (ks ρ).bind fun ss => .ok (s :: ss) := rfl
@[simp] theorem hV_eq : hV f ρ = (f ρ.vis).bind fun d => .ok (.val d) := rfl
@[simp] theorem hP_eq : hP f ρ = (f ρ.all).bind fun d => if d.pure = true then .ok (.val d) else .no := rfl
@[simp] theorem hN_eq : hN f ρ = (f ρ.all).bind fun d => if purC d = true then .ok (.own d) else .no := rfl
@[simp] theorem hNV_eq : hNV f ρ = (f ρ.vis).bind fun d => .ok (.own d) := rfl
@[simp] theorem setSls_nil : setSls ρ [] [] = some ρ := rfl
@[simp] theorem setSls_cons (is : List Nat) (ss : List Sl) : setSls ρ (i :: is) (s :: ss) = if isRow ρ i = false then setSls (ρ.set i s) is ss else none := rfl
@[simp] theorem unpO_eq : unpO f t ρ = bindO (f ρ.vis) fun d => match bindT ρ t d with | some ρ' => .nx ρ' | none => .no := rfl
@[simp] theorem genD_eq (st : Bool) (vs : List Nat) : genD st fi t fe vs r = (fi r).bind fun ds => genL st t fe (wipeE r vs) ds := rfl
@[simp] theorem lcD_eq (vs : List Nat) : lcD fi t tt fe vs r = (fi r).bind fun ds => if ds.length ≤ lim then (lcL t tt fe (wipeE r vs) ds).bind fun r => .ok (.lst r) else .no := rfl
@[simp] theorem wipeE_nil : wipeE r [] = r := rfl
@[simp] theorem wipeE_cons (v : Nat) (vs : List Nat) : wipeE r (v :: vs) = (wipeE r vs).set v none := rfl
@[simp] theorem putE_nil : putE r [] = r := rfl
@[simp] theorem putE_cons (p : Nat × D) (ps : List (Nat × D)) : putE r (p :: ps) = putE (r.set p.1 (some p.2)) ps := rfl
@[simp] theorem yesB_eq : yesB r = .ok true := rfl
@[simp] theorem appO_eq : appO f i ρ = bindO (contOf ρ i) fun l => match l with | .lst ds => bindO (f ρ.all) fun d => purO d (if ds.length < lim then putO ρ i (.lst (ds ++ [d])) else .no) | _ => .no := rfl
@[simp] theorem appVO_eq : appVO f i ρ = bindO (contOf ρ i) fun l => match l with | .lst ds => bindO (f ρ.vis) fun d => if ds.length < lim then putO ρ i (.lst (ds ++ [d])) else .no | _ => .no := rfl
@[simp] theorem augO_eq (h : D → D → Res D) : augO f i h ρ = bindO (vr ρ.all i) fun a => bindO (f ρ.all) fun b => bindO (h a b) fun d => purO d (setO ρ i (.val d)) := rfl
@[simp] theorem defF_eq (m : Nat) : defF m g ds = (g (start0 m ds)).fin := rfl
@[simp] theorem toTup_lst : (D.lst ds).toTup = .ok (.tup ds) := rfl
@[simp] theorem toTup_tup : (D.tup ds).toTup = .ok (.tup ds) := rfl
@[simp] theorem addL_lst (es : List D) : addL (.lst ds) (.lst es) = if ds.length + es.length ≤ lim then .ok (.lst (ds ++ es)) else .no := rfl
@[simp] theorem add_tup (es : List D) : D.add (.tup ds) (.tup es) = if ds.length + es.length ≤ lim then .ok (.tup (ds ++ es)) else .no := rfl
end
section
variable {fe : Env → Res D} {tt : Env → Res Bool} {r : Env} {i : Nat}
/-- a comprehension with a test -/
theorem lcL_eq (p : D → Bool) (h : D → D) : ∀ ds : List D, (∀ d ∈ ds, tt (r.set i (some d)) = .ok (p d)) → (∀ d ∈ ds, p d = true → fe (r.set i (some d)) = .ok (h d)) → lcL (.nm i) tt fe r ds = .ok ((ds.filter p).map h)
  | [], _, _ => rfl
  | d :: ds, h1, h2 => by
    have ih := lcL_eq p h ds (fun x hx => h1 x (List.mem_cons_of_mem _ hx)) (fun x hx => h2 x (List.mem_cons_of_mem _ hx))
    have e1 := h1 d List.mem_cons_self
    cases hp : p d with
    | false => simp [lcL, e1, hp, ih]
    | true => simp [lcL, e1, hp, ih, h2 d List.mem_cons_self hp]
theorem lcL_map (h : D → D) (ds : List D) (h2 : ∀ d ∈ ds, fe (r.set i (some d)) = .ok (h d)) : lcL (.nm i) yesB fe r ds = .ok (ds.map h) := by
  rw [lcL_eq (fun _ => true) h ds (fun _ _ => rfl) fun d hd _ => h2 d hd, List.filter_eq_self.mpr fun _ _ => rfl]
/-- whatever is drawn -/
theorem lcL_all (P : D → Prop) : ∀ ds : List D, (∀ d ∈ ds, AllOk P (fe (r.set i (some d)))) → AllOk (fun l => l.length = ds.length ∧ ∀ x ∈ l, P x) (lcL (.nm i) yesB fe r ds)
  | [], _ => ⟨rfl, fun x hx => by cases hx⟩
  | d :: ds, h => by
    have ih := lcL_all P ds fun x hx => h x (List.mem_cons_of_mem _ hx)
    have e : lcL (.nm i) yesB fe r (d :: ds) = (noX (fe (r.set i (some d)))).bind fun y => (lcL (.nm i) yesB fe r ds).bind fun l => .ok (y :: l) := rfl
    rw [e]
    refine AllOk.bind (P := P) (fun y hy => AllOk.bind (fun l hl => ?_) ih) ?_
    · refine ⟨by simp [hl.1], fun x hx => ?_⟩
      rcases List.mem_cons.mp hx with rfl | hx
      · exact hy
      · exact hl.2 x hx
    · have := h d List.mem_cons_self
      revert this
      generalize fe (r.set i (some d)) = z
      intro hz
      induction z with
      | ok a => exact hz
      | ex c f => exact hz.elim
      | no => exact hz.elim
      | dr n k ih => exact fun i h1 h2 => ih i (hz i h1 h2)
theorem genL_all (p : D → Bool) : ∀ ds : List D, (∀ d ∈ ds, fe (r.set i (some d)) = .ok (.bl (p d))) → genL false (.nm i) fe r ds = .ok (.bl (ds.all p))
  | [], _ => rfl
  | d :: ds, h => by
    have ih := genL_all p ds fun x hx => h x (List.mem_cons_of_mem _ hx)
    have e := h d List.mem_cons_self
    cases hp : p d with
    | false => simp [genL, e, hp]
    | true => simp [genL, e, hp, ih]
theorem genL_any (p : D → Bool) : ∀ ds : List D, (∀ d ∈ ds, fe (r.set i (some d)) = .ok (.bl (p d))) → genL true (.nm i) fe r ds = .ok (.bl (ds.any p))
  | [], _ => rfl
  | d :: ds, h => by
    have ih := genL_any p ds fun x hx => h x (List.mem_cons_of_mem _ hx)
    have e := h d List.mem_cons_self
    cases hp : p d with
    | false => simp [genL, e, hp, ih]
    | true => simp [genL, e, hp]
end
theorem rangeD_zero (lo : Int) : rangeD lo 0 = [] := rfl
theorem rangeD_succ (lo : Int) (n : Nat) : rangeD lo (n + 1) = .int lo :: rangeD (lo + 1) n := by
  unfold rangeD
  rw [List.range_succ_eq_map, List.map_cons, List.map_map]
  congr 1
  · simp
  · refine List.map_congr_left fun x _ => ?_
    simp
    omega
theorem rangeD_len (lo : Int) (n : Nat) : (rangeD lo n).length = n := by simp [rangeD]
theorem rangeD_mem {lo : Int} {n : Nat} {d : D} (h : d ∈ rangeD lo n) : ∃ i : Nat, i < n ∧ d = .int (lo + i) := by
  unfold rangeD at h
  obtain ⟨i, hi, e⟩ := List.mem_map.mp h
  exact ⟨i, List.mem_range.mp hi, e.symm⟩
/-- sizes of numbers -/
theorem log2_of_lt {i : Int} {k : Nat} (h : i.natAbs < 2 ^ k) : i.natAbs.log2 ≤ k := by
  by_cases h0 : i.natAbs = 0
  · rw [h0]; exact Nat.zero_le _
  · have := (Nat.log2_lt h0).mpr h
    omega
end Fw
end
set_option Elab.async false
set_option linter.all false
set_option autoImplicit false
set_option maxRecDepth 100000
set_option maxHeartbeats 4000000
/-! Fw17: when two trees are equal. -/
noncomputable section
namespace Fw
open PySem PySem.Spec PyProof.Rows L2
/-- a text that can be shown -/
def okS (x : Str) : Bool := PyData.canLay0 (.str x)
/-- plain: None, whole numbers, texts, tuples and lists of such; no truth values; at most n deep -/
inductive Fl : Nat → D → Prop
  | non (n : Nat) : Fl n .non
  | int (n : Nat) (i : Int) : Fl n (.int i)
  | str (n : Nat) (x : Str) : okS x = true → Fl n (.str x)
  | tup (n : Nat) (ds : List D) : (∀ d ∈ ds, Fl n d) → Fl (n + 1) (.tup ds)
  | lst (n : Nat) (ds : List D) : (∀ d ∈ ds, Fl n d) → Fl (n + 1) (.lst ds)
theorem depthAll_le {n : Nat} : ∀ {ps : List PyData}, (∀ p ∈ ps, p.depth ≤ n) → PyData.depthAll ps ≤ n
  | [], _ => Nat.zero_le _
  | p :: ps, h => by
    rw [PyData.depthAll]
    exact Nat.max_le.mpr ⟨h p List.mem_cons_self, depthAll_le fun q hq => h q (List.mem_cons_of_mem _ hq)⟩
theorem canAll {ps : List PyData} : (∀ p ∈ ps, p.canLay0 = true) → PyData.canLayAll0 ps = true := by
  induction ps with
  | nil => intro _; rfl
  | cons p ps ih =>
    intro h
    rw [PyData.canLayAll0, h p List.mem_cons_self, ih fun q hq => h q (List.mem_cons_of_mem _ hq)]
    rfl
theorem pyL {n : Nat} : ∀ {ds : List D}, (∀ d ∈ ds, ∃ p, d.toPy = some p ∧ p.canLay0 = true ∧ p.depth ≤ n) → ∃ ps, D.toPyL ds = some ps ∧ (∀ p ∈ ps, p.canLay0 = true) ∧ ∀ p ∈ ps, p.depth ≤ n
  | [], _ => ⟨[], rfl, (fun p hp => by cases hp), fun p hp => by cases hp⟩
  | d :: ds, ih => by
    obtain ⟨p, h1, h2, h3⟩ := ih d List.mem_cons_self
    obtain ⟨ps, g1, g2, g3⟩ := pyL fun e he => ih e (List.mem_cons_of_mem _ he)
    refine ⟨p :: ps, by rw [D.toPyL, h1, g1], fun q hq => ?_, fun q hq => ?_⟩
    · rcases List.mem_cons.mp hq with rfl | hq
      · exact h2
      · exact g2 q hq
    · rcases List.mem_cons.mp hq with rfl | hq
      · exact h3
      · exact g3 q hq
/-- what a plain tree is as a value -/
theorem Fl.py {n : Nat} {d : D} (h : Fl n d) : ∃ p, d.toPy = some p ∧ p.canLay0 = true ∧ p.depth ≤ n := by
  induction h with
  | non n => exact ⟨_, rfl, rfl, Nat.zero_le _⟩
  | int n i => exact ⟨_, rfl, rfl, Nat.zero_le _⟩
  | str n x hx => exact ⟨_, rfl, hx, Nat.zero_le _⟩
  | tup n ds _ ih =>
    obtain ⟨ps, g1, g2, g3⟩ := pyL ih
    exact ⟨.tuple ps, by rw [D.toPy, g1]; rfl, canAll g2, Nat.succ_le_succ (depthAll_le g3)⟩
  | lst n ds _ ih =>
    obtain ⟨ps, g1, g2, g3⟩ := pyL ih
    exact ⟨.list ps, by rw [D.toPy, g1]; rfl, canAll g2, Nat.succ_le_succ (depthAll_le g3)⟩
/-- two plain trees -/
theorem Fl.eqv {n : Nat} {d : D} (h : Fl n d) : ∀ {m : Nat} {e : D}, Fl m e → ∀ {p q : PyData}, d.toPy = some p → e.toPy = some q → (PyData.eqv p q = true ↔ d = e) := by
  have lists : ∀ {n : Nat} {ds : List D}, (∀ d ∈ ds, ∀ {m : Nat} {e : D}, Fl m e → ∀ {p q : PyData}, d.toPy = some p → e.toPy = some q → (PyData.eqv p q = true ↔ d = e)) →
      ∀ {m : Nat} {es : List D}, (∀ e ∈ es, Fl m e) → ∀ {ps qs : List PyData}, D.toPyL ds = some ps → D.toPyL es = some qs → (PyData.eqvAll ps qs = true ↔ ds = es) := by
    intro n ds
    induction ds with
    | nil =>
      intro _ m es _ ps qs h1 h2
      cases h1
      cases es with
      | nil => cases h2; exact ⟨fun _ => rfl, fun _ => rfl⟩
      | cons e es =>
        rw [D.toPyL] at h2
        cases e1 : e.toPy with
        | none => rw [e1] at h2; cases h2
        | some q =>
          cases e2 : D.toPyL es with
          | none => rw [e1, e2] at h2; cases h2
          | some qs' =>
            rw [e1, e2] at h2
            cases h2
            exact ⟨fun z => (by cases z), fun z => by cases z⟩
    | cons d ds ihl =>
      intro ih m es hes ps qs h1 h2
      rw [D.toPyL] at h1
      cases d1 : d.toPy with
      | none => rw [d1] at h1; cases h1
      | some p =>
        cases d2 : D.toPyL ds with
        | none => rw [d1, d2] at h1; cases h1
        | some ps' =>
          rw [d1, d2] at h1
          cases h1
          cases es with
          | nil => cases h2; exact ⟨fun z => (by cases z), fun z => by cases z⟩
          | cons e es =>
            rw [D.toPyL] at h2
            cases e1 : e.toPy with
            | none => rw [e1] at h2; cases h2
            | some q =>
              cases e2 : D.toPyL es with
              | none => rw [e1, e2] at h2; cases h2
              | some qs' =>
                rw [e1, e2] at h2
                cases h2
                rw [PyData.eqvAll, Bool.and_eq_true, ih d List.mem_cons_self (hes e List.mem_cons_self) d1 e1, ihl (fun x hx => ih x (List.mem_cons_of_mem _ hx)) (fun x hx => hes x (List.mem_cons_of_mem _ hx)) d2 e2, List.cons.injEq]
  induction h with
  | non n =>
    intro m e he p q h1 h2
    cases h1
    cases he with
    | non => cases h2; exact ⟨fun _ => rfl, fun _ => rfl⟩
    | int _ i => cases h2; exact ⟨fun z => (by cases z), fun z => by cases z⟩
    | str _ i => cases h2; exact ⟨fun z => (by cases z), fun z => by cases z⟩
    | tup _ ds _ =>
      rw [D.toPy] at h2
      cases e2 : D.toPyL ds with
      | none => rw [e2] at h2; cases h2
      | some qs => rw [e2] at h2; cases h2; exact ⟨fun z => (by cases z), fun z => by cases z⟩
    | lst _ ds _ =>
      rw [D.toPy] at h2
      cases e2 : D.toPyL ds with
      | none => rw [e2] at h2; cases h2
      | some qs => rw [e2] at h2; cases h2; exact ⟨fun z => (by cases z), fun z => by cases z⟩
  | int n i =>
    intro m e he p q h1 h2
    cases h1
    cases he with
    | non => cases h2; exact ⟨fun z => (by cases z), fun z => by cases z⟩
    | int _ j =>
      cases h2
      show ((i == j) = true) ↔ _
      rw [beq_iff_eq, D.int.injEq]
    | str _ i => cases h2; exact ⟨fun z => (by cases z), fun z => by cases z⟩
    | tup _ ds _ =>
      rw [D.toPy] at h2
      cases e2 : D.toPyL ds with
      | none => rw [e2] at h2; cases h2
      | some qs => rw [e2] at h2; cases h2; exact ⟨fun z => (by cases z), fun z => by cases z⟩
    | lst _ ds _ =>
      rw [D.toPy] at h2
      cases e2 : D.toPyL ds with
      | none => rw [e2] at h2; cases h2
      | some qs => rw [e2] at h2; cases h2; exact ⟨fun z => (by cases z), fun z => by cases z⟩
  | str n x hx =>
    intro m e he p q h1 h2
    cases h1
    cases he with
    | non => cases h2; exact ⟨fun z => (by cases z), fun z => by cases z⟩
    | int _ i => cases h2; exact ⟨fun z => (by cases z), fun z => by cases z⟩
    | str _ y =>
      cases h2
      show ((x == y) = true) ↔ _
      rw [beq_iff_eq, D.str.injEq]
    | tup _ ds _ =>
      rw [D.toPy] at h2
      cases e2 : D.toPyL ds with
      | none => rw [e2] at h2; cases h2
      | some qs => rw [e2] at h2; cases h2; exact ⟨fun z => (by cases z), fun z => by cases z⟩
    | lst _ ds _ =>
      rw [D.toPy] at h2
      cases e2 : D.toPyL ds with
      | none => rw [e2] at h2; cases h2
      | some qs => rw [e2] at h2; cases h2; exact ⟨fun z => (by cases z), fun z => by cases z⟩
  | tup n ds _ ih =>
    intro m e he p q h1 h2
    rw [D.toPy] at h1
    cases d1 : D.toPyL ds with
    | none => rw [d1] at h1; cases h1
    | some ps =>
      rw [d1] at h1
      cases h1
      cases he with
      | non => cases h2; exact ⟨fun z => (by cases z), fun z => by cases z⟩
      | int _ i => cases h2; exact ⟨fun z => (by cases z), fun z => by cases z⟩
      | str _ i => cases h2; exact ⟨fun z => (by cases z), fun z => by cases z⟩
      | tup _ es hes =>
        rw [D.toPy] at h2
        cases e2 : D.toPyL es with
        | none => rw [e2] at h2; cases h2
        | some qs =>
          rw [e2] at h2
          cases h2
          rw [D.tup.injEq]
          exact lists (n := n) (fun d hd => ih d hd) hes d1 e2
      | lst _ es _ =>
        rw [D.toPy] at h2
        cases e2 : D.toPyL es with
        | none => rw [e2] at h2; cases h2
        | some qs => rw [e2] at h2; cases h2; exact ⟨fun z => (by cases z), fun z => by cases z⟩
  | lst n ds _ ih =>
    intro m e he p q h1 h2
    rw [D.toPy] at h1
    cases d1 : D.toPyL ds with
    | none => rw [d1] at h1; cases h1
    | some ps =>
      rw [d1] at h1
      cases h1
      cases he with
      | non => cases h2; exact ⟨fun z => (by cases z), fun z => by cases z⟩
      | int _ i => cases h2; exact ⟨fun z => (by cases z), fun z => by cases z⟩
      | str _ i => cases h2; exact ⟨fun z => (by cases z), fun z => by cases z⟩
      | tup _ es _ =>
        rw [D.toPy] at h2
        cases e2 : D.toPyL es with
        | none => rw [e2] at h2; cases h2
        | some qs => rw [e2] at h2; cases h2; exact ⟨fun z => (by cases z), fun z => by cases z⟩
      | lst _ es hes =>
        rw [D.toPy] at h2
        cases e2 : D.toPyL es with
        | none => rw [e2] at h2; cases h2
        | some qs =>
          rw [e2] at h2
          cases h2
          rw [D.lst.injEq]
          exact lists (n := n) (fun d hd => ih d hd) hes d1 e2
open Classical in
theorem eqB_fl {n m : Nat} {a b : D} (ha : Fl n a) (hb : Fl m b) (hn : n ≤ 64 := by decide) (hm : m ≤ 64 := by decide) : D.eqB a b = .ok (decide (a = b)) := by
  obtain ⟨p, p1, p2, p3⟩ := ha.py
  obtain ⟨q, q1, q2, q3⟩ := hb.py
  have e := ha.eqv hb p1 q1
  have s1 : SeqAt.shaped p = true := Bool.and_eq_true_iff.mpr ⟨p2, decide_eq_true (by omega)⟩
  have s2 : SeqAt.shaped q = true := Bool.and_eq_true_iff.mpr ⟨q2, decide_eq_true (by omega)⟩
  unfold D.eqB
  rw [p1, q1]
  simp only [s1, s2, and_self, if_true]
  congr 1
  by_cases h : a = b
  · rw [decide_eq_true h]; exact e.mpr h
  · rw [decide_eq_false h]
    cases z : PyData.eqv p q with
    | false => rfl
    | true => exact absurd (e.mp z) h
open Classical in
theorem eq_fl {n m : Nat} {a b : D} (ha : Fl n a) (hb : Fl m b) (hn : n ≤ 64 := by decide) (hm : m ≤ 64 := by decide) : D.eq a b = .ok (.bl (decide (a = b))) := by
  unfold D.eq
  rw [eqB_fl ha hb hn hm]
  rfl
open Classical in
theorem ne_fl {n m : Nat} {a b : D} (ha : Fl n a) (hb : Fl m b) (hn : n ≤ 64 := by decide) (hm : m ≤ 64 := by decide) : D.ne a b = .ok (.bl !(decide (a = b))) := by
  unfold D.ne
  rw [eqB_fl ha hb hn hm]
  rfl
theorem eq_same {n : Nat} {a : D} (ha : Fl n a) (hn : n ≤ 64 := by decide) : D.eq a a = .ok (.bl true) := by
  rw [eq_fl ha ha hn hn]
  simp
theorem ne_same {n : Nat} {a : D} (ha : Fl n a) (hn : n ≤ 64 := by decide) : D.ne a a = .ok (.bl false) := by
  rw [ne_fl ha ha hn hn]
  simp
theorem Fl.mono {n : Nat} {d : D} (h : Fl n d) : ∀ {m : Nat}, n ≤ m → Fl m d := by
  induction h with
  | non n => exact fun _ => .non _
  | int n i => exact fun _ => .int _ _
  | str n x hx => exact fun _ => .str _ _ hx
  | tup n ds _ ih =>
    intro m hm
    obtain ⟨k, rfl⟩ : ∃ k, m = k + 1 := ⟨m - 1, by omega⟩
    exact .tup _ _ fun d hd => ih d hd (by omega)
  | lst n ds _ ih =>
    intro m hm
    obtain ⟨k, rfl⟩ : ∃ k, m = k + 1 := ⟨m - 1, by omega⟩
    exact .lst _ _ fun d hd => ih d hd (by omega)
/-! whatever is drawn: statements -/
def AllO (P : SEnv → Prop) : Out → Prop
  | .nx ρ => P ρ
  | .dr n k => ∀ i, 0 ≤ i → i < n → AllO P (k i)
  | _ => False
end Fw
end
set_option Elab.async false
set_option linter.all false
set_option autoImplicit false
set_option maxRecDepth 100000
set_option maxHeartbeats 4000000
/-! Fw18: max(list, key=lambda x: ..). -/
noncomputable section
namespace Fw
open PySem PySem.Spec PyProof.Rows L2

/-! ### a lambda with one parameter -/
structure Lam1 (N : List Str) (sc scope : Scope) (x : Str) (i : Nat) : Prop where
  kind : scope.kind = .function
  co : scope.isCoroutine = false
  gen : scope.isGenerator = false
  ix : N[i]? = some x
  loc : scope.names.lookup x = some .local
  own : ∀ y ∈ scope.names, y.2 ≠ .cell ∧ (y.2 = .local → y.1 = x)
  free : ∀ y ∈ scope.names, y.2 = .free → sc.names.lookup y.1 = some .cell ∨ sc.names.lookup y.1 = some .free
def lam1B (N : List Str) (sc scope : Scope) (x : Str) (i : Nat) : Bool :=
  decide (scope.kind = .function) && !scope.isCoroutine && !scope.isGenerator && decide (N[i]? = some x) && decide (scope.names.lookup x = some .local) &&
    scope.names.all fun y => !decide (y.2 = .cell) && (!decide (y.2 = .local) || decide (y.1 = x)) && (!decide (y.2 = .free) || decide (sc.names.lookup y.1 = some .cell) || decide (sc.names.lookup y.1 = some .free))
theorem lam1_by {N : List Str} {sc scope : Scope} {x : Str} {i : Nat} (h : lam1B N sc scope x i = true) : Lam1 N sc scope x i := by
  unfold lam1B at h
  simp only [Bool.and_eq_true, Bool.or_eq_true, Bool.not_eq_true', decide_eq_true_eq, decide_eq_false_iff_not, List.all_eq_true] at h
  obtain ⟨⟨⟨⟨⟨h1, h2⟩, h3⟩, h4⟩, h5⟩, h6⟩ := h
  refine ⟨h1, h2, h3, h4, h5, fun y hy => ⟨(h6 y hy).1.1, fun e => ?_⟩, fun y hy e => ?_⟩
  · rcases (h6 y hy).1.2 with z | z
    · exact absurd e z
    · exact z
  · rcases (h6 y hy).2 with (z | z) | z
    · exact absurd e z
    · exact .inl z
    · exact .inr z
section
variable {X : Cx} {pins : List (Addr × Obj)} {σ : L2.St} {H : Hp} {s : Shared} {scope : Scope} {x : Str} {i : Nat}
theorem Lam1.has (L : Lam1 X.N X.env.scope scope x i) (ok : X.Ok) : ∀ y ∈ scope.names, y.2 = .free → ∃ c, X.env.cells.lookup y.1 = some c := fun y hy e => (L.free y hy e).elim (fun k => ok.has _ (.inl k)) fun k => ok.has _ (.inr k)
theorem lam_enter {A' : Around} {outer : List PySem.Env} {E : XK} {f c' : Addr} {h₁ : Heap} {tk : Nat} {xv : V} {v : Value} (I : Inv X pins σ H s) (L : Lam1 X.N X.env.scope scope x i) (hN : X.N.Nodup) (e0 : Env0 X.prog X.w X.K X.mg X.base A' outer s H) (hd : A'.handled = none)
    (r : RelV xv v) (hns : h₁.Ns s.heap.objs.size fun y => ([(x, v)] : List (Str × Value)).reverse.lookup y) (kp : ∀ b o, s.heap.get? b = some o → h₁.get? b = some o) :
    Inv (LamX.lamCx X A' outer s H E scope f c') [] (σ.set i (some xv)) H { s with heap := h₁, toks := tk } := by
  have hfree := L.has I.ok
  have cm : ∀ {y c}, (cloFrom X.env.cells scope.names []).lookup y = some c → X.env.cells.lookup y = some c := fun {y c} e => by
    rcases cloFrom_mem (PySem.mem_of_lookup e) with hm | ⟨h1, h2⟩
    · cases hm
    · obtain ⟨c1, hc⟩ := hfree _ h1 rfl
      replace hc : X.env.cells.lookup y = some c1 := hc
      rw [h2, hc]
      rfl
  have look : ∀ {y}, scope.names.lookup y = some .free → ∃ c, (cloFrom X.env.cells scope.names []).lookup y = some c := fun {y} hl =>
    mem_lookup (cloFrom_has (cells := X.env.cells) (acc := []) (PySem.mem_of_lookup hl))
  have cellK : ∀ {c : Addr} {u : Option Value}, s.heap.IsCell c u → h₁.IsCell c u := fun z => z.keeps kp
  have noA : ∀ b : Addr, b ∉ (LamX.lamCx X A' outer s H E scope f c').ex := fun b z => absurd (show b ∈ ([] : List Addr) from z) (by simp)
  have nocell : ∀ {y}, scope.names.lookup y ≠ some .cell := fun {y} e => (L.own _ (PySem.mem_of_lookup e)).1 rfl
  refine ⟨⟨e0.mod, L.kind, rfl, rfl, Nat.le_refl _, fun y z c e1 e2 => I.ok.inj y z c (cm e1) (cm e2), fun y hy => ?_, fun y c z _ => ?_, fun _ => hd, Around.frames_deeper e0.frames, .inr ⟨rfl, rfl⟩, fun b z => absurd z (noA b), e0.bs, e0.bsz, fun b _ _ => noA b,
      fun b z => absurd z (noA b), e0.funs, e0.frf⟩,
    rfl, e0.bare, Un.kept kp, ⟨_, hns, fun j y u e1 e2 e3 => ?_⟩, fun y c e => ?_, e0.hok.fresh (Nat.le_refl _), fun y c e => ?_, fun q hq => absurd (show q ∈ ([] : List (Addr × Obj)) ++ [] from hq) (by simp), e0.hok.kept kp, by rw [List.length_set]; exact I.len⟩
  · replace hy : scope.names.lookup y = some .cell ∨ scope.names.lookup y = some .free := hy
    rcases hy with hy | hy
    · exact absurd hy nocell
    · exact look hy
  · replace z : false = true := z
    cases z
  · replace e3 : Vis scope y := e3
    rcases e3 with k | k | k
    · have ey : y = x := (L.own _ (PySem.mem_of_lookup k)).2 rfl
      subst ey
      have ej := nodup_ix hN e1 L.ix
      subst ej
      have hl : j < σ.length := by
        rw [I.len]
        exact (List.getElem?_eq_some_iff.mp L.ix).1
      rw [List.getElem?_set_self hl] at e2
      cases e2
      exact ⟨v, r, .inl ⟨k, by simp⟩⟩
    · exact absurd k nocell
    · have nx : y ≠ x := fun z => by
        rw [z, L.loc] at k
        cases k
      have nj : i ≠ j := fun z => by
        subst z
        have h1 := L.ix
        rw [show X.N[i]? = some y from e1] at h1
        exact nx (Option.some.inj h1)
      rw [List.getElem?_set_ne nj] at e2
      obtain ⟨m, hn, hl⟩ := I.loc
      have hvis : Vis X.env.scope y := (L.free _ (PySem.mem_of_lookup k) rfl).elim (fun k => .inr (.inl k)) (fun k => .inr (.inr k))
      obtain ⟨w', r', q⟩ := hl j y u e1 e2 hvis
      obtain ⟨c2, h2⟩ := look k
      refine ⟨w', r', .inr ⟨.inr k, c2, h2, ?_⟩⟩
      have c1 := cm h2
      rcases q with ⟨k', _⟩ | ⟨_, c3, e', z⟩
      · replace k' : X.env.scope.names.lookup y = some .local := k'
        rcases L.free _ (PySem.mem_of_lookup k) rfl with k2 | k2 <;> rw [show X.env.scope.names.lookup y = _ from k2] at k' <;> cases k'
      · rw [c1] at e'
        cases e'
        exact cellK z
  · obtain ⟨w', z⟩ := I.cell y c (cm e)
    exact ⟨w', cellK z⟩
  · exact I.freeC y c (cm e)
/-- the lambda called with one value -/
theorem lam_run {A' : Around} {E : XK} {f c' : Addr} {xv : V} {v : Value} {params : Arguments} {body : Expr} {pm ctv : Value} {k : Nat} {tb : TE} {Q : VK} (I : Inv X pins σ H s) (L : Lam1 X.N X.env.scope scope x i) (hN : X.N.Nodup)
    (hf : s.heap.get? f = some (PySem.W.kla_obj "<lambda>" (X.env.qual ++ "<lambda>") params body scope (cloFrom X.env.cells scope.names []) pm c' ctv)) (hc : H c' = some (LamX.CodeO c' (X.env.qual ++ "<lambda>")))
    (hbind : ∀ (q : Str) (cl : List (Str × Addr)) (pm cv ctv u : Value), bindArgs (PySem.W.kla_fn "<lambda>" q params body scope cl pm cv ctv) ⟨[u], []⟩ = pure [(x, u)])
    (e0 : Env0 X.prog X.w X.K X.mg X.base A' X.stack s H) (hr : Room (k + 1) A') (r : RelV xv v)
    (hbody : Room k (A'.deeper (LamX.lamEnv X scope s.heap.objs.size f c')) → PE (LamX.lamCx X A' X.stack s H E scope f c') body tb) (ht : tb (σ.set i (some xv)) H Q) :
    codeAny (model X.prog X.w) A' (.call (.ref f) ⟨[v], []⟩) (CR (L2.CX X.prog X.w) X.stack X.prog X.w H s Q E) s := by
  obtain ⟨⟨oc, vs, t, hoc, hdc, hvc⟩, _, _⟩ := I.hok c' _ hc
  refine PySem.W.kla_callFunE hr.depth hf rfl L.co L.gen rfl ⟨c', oc, vs, t, rfl, hoc, hdc, hvc⟩ ?_
  rw [hbind]
  refine wpAny_pure (wpAny_newFunctionEnv (fun y hy => (L.own y hy).1) (fun y hy => ?_) (fun h₁ hns hsb => ⟨I.nolimit.fresh _ hsb, ?_⟩) L.kind)
  · have ey : y = (x, v) := by simpa using hy
    rw [ey]
    exact L.loc
  · show codeAny _ _ (.expr body (LamX.lamEnv X scope s.heap.objs.size f c')) _ _
    have kp : ∀ b o, s.heap.get? b = some o → h₁.get? b = some o := fun b o e => hsb.extBut b o (Nat.ne_of_lt (Heap.lt_size e)) (Heap.get?_push_of_some _ e)
    have J := lam_enter (E := E) (f := f) (c' := c') (tk := s.toks + [(x, v)].length) I L hN e0 hr.hd r hns kp
    refine PySem.W.kla_codeExpr (wpAny_mono ((hbody (hr.deeper _)).run [] _ _ H Q J ht) (fun v s' hq => ?_) fun e s' hq => hq)
    obtain ⟨w', H', J', rv, q⟩ := hq
    exact ⟨w', H', J'.os, J'.bare, J'.base, J'.hok, rv, q⟩
end

/-! ### the lambda is made -/
section
variable {X : Cx} {Γ : Gm} {pins : List (Addr × Obj)} {σ : L2.St} {H : Hp} {s : Shared} {scope : Scope} {c P : Addr} {params : Arguments} {body : Expr} {pos : Pos}
theorem ext_table {q : Str} {ps : Array Value} {l : List Value} {more : Array Value} {c' : Addr} (hP : H P = some (.tbl ps)) (nC : H c' = none) (hu : ∀ p ∈ Γ.TL, p.1 = P → p.2 = q) (hl : (ps ++ more).toList = l) (ht : TriplesOk l)
    (hnew : ∀ (p' : Pos) (cv : Value), codeAmong p' l = some cv → codeAmong p' ps.toList = some cv ∨ cv = .ref c') : Ext Γ H (upd (upd H P (.tbl (ps ++ more))) c' (LamX.CodeO c' q)) := by
  have nPc : P ≠ c' := ne_of_none hP nC
  have keep : ∀ b o, H b = some o → b ≠ P → upd (upd H P (.tbl (ps ++ more))) c' (LamX.CodeO c' q) b = some o := fun b o e n => by
    rw [upd_ne (ne_of_none e nC), upd_ne n]
    exact e
  have keepT : ∀ b o, H b = some o → (∀ qs, o ≠ .tbl qs) → upd (upd H P (.tbl (ps ++ more))) c' (LamX.CodeO c' q) b = some o := fun b o e n => keep b o e fun z => by
    rw [z, hP] at e
    exact n ps (Option.some.inj e).symm
  have atP : upd (upd H P (.tbl (ps ++ more))) c' (LamX.CodeO c' q) P = some (.tbl (ps ++ more)) := by rw [upd_ne nPc, upd_same]
  refine ⟨fun b o e n _ => keepT b o e n, fun t => ⟨fun P' hP' => ?_, fun p hp => ?_⟩, fun r => fun a e => ?_, fun b n z => ?_⟩
  · obtain ⟨qs, h1, h2⟩ := t.1 P' hP'
    by_cases hb : P' = P
    · rw [hb]
      exact ⟨_, atP, by rw [hl]; exact ht⟩
    · exact ⟨qs, keep P' _ h1 hb, h2⟩
  · obtain ⟨qs, h1, h2, h3⟩ := t.2 p hp
    by_cases hb : p.1 = P
    · rw [hu p hp hb, hb]
      rw [hb, hP] at h1
      cases h1
      rw [hu p hp hb] at h3
      refine ⟨_, atP, by rw [hl]; exact ht, fun p' cv hcv => ?_⟩
      rw [hl] at hcv
      rcases hnew p' cv hcv with z | z
      · obtain ⟨c0, e1, e2⟩ := h3 p' cv z
        exact ⟨c0, e1, keepT _ _ e2 LamX.codeO_ne⟩
      · exact ⟨c', z, upd_same⟩
    · refine ⟨qs, keep _ _ h1 hb, h2, fun p' cv hcv => ?_⟩
      obtain ⟨c0, e1, e2⟩ := h3 p' cv hcv
      exact ⟨c0, e1, keepT _ _ e2 LamX.codeO_ne⟩
  · obtain ⟨ns, i, j, k, h1, h2, h3⟩ := r a e
    refine ⟨ns, i, j, k, keepT _ _ h1 (by intro _ z; cases z), ?_, h3⟩
    rcases h2 with (h2 | ⟨o, h2⟩) | h2
    · exact .inl (.inl (keepT _ _ h2 (by intro _ z; cases z)))
    · exact .inl (.inr ⟨o, keepT _ _ h2 (by intro _ z; cases z)⟩)
    · exact .inr h2
  · by_cases h1 : b = c'
    · rw [h1, upd_same] at z; cases z
    · rw [upd_ne h1] at z
      by_cases h2 : b = P
      · rw [h2, upd_same] at z; cases z
      · rw [upd_ne h2] at z; exact n z
theorem lam_new {Q : Value → Shared → Prop} (I : Inv X pins σ H s) (TB : LamX.TabB X.base X.mg c P) (hcode : X.env.code = .ref c) (hm : (P, X.env.qual ++ "<lambda>") ∈ Γ.TL) (hu : ∀ p ∈ Γ.TL, p.1 = P → p.2 = X.env.qual ++ "<lambda>") (hT : Tb Γ H)
    (hdef : defaultsOf params X.env = ([], [])) (hfree : ∀ y ∈ scope.names, y.2 = .free → ∃ c, X.env.cells.lookup y.1 = some c)
    (h : ∀ (f c' : Addr) (pm ctv : Value) (H1 : Hp) (s' : Shared), Inv X pins σ H1 s' → Ext Γ H H1 → s'.heap.get? f = some (PySem.W.kla_obj "<lambda>" (X.env.qual ++ "<lambda>") params body scope (cloFrom X.env.cells scope.names []) pm c' ctv) → s.heap.objs.size ≤ f → H1 f = none → H1 c' = some (LamX.CodeO c' (X.env.qual ++ "<lambda>")) → Q (.ref f) s') :
    wpAny (model X.prog X.w) X.A (eval (.Lambda params body scope pos) X.env) Q X.xe s := by
  rcases hT.2 _ hm with ⟨ps, tab, triples, known⟩
  have at_ : s.heap.get? P = some { cls := .none, data := .fields ps } := I.hok P _ tab
  have glob : s.heap.Ns mainGlobals X.mg := I.mod.glob.keeps I.bk
  have clo := closure_ok hfree
  apply PySem.W.kla_eval hdef
  cases e : codeAmong pos ps.toList
  · -- no code object yet: the table grows
    apply PySem.W.kla_makeFunction (mg := X.mg) (c := c) (P := P) (ps := ps) clo I.ok.glob glob hcode (TB.code.keeps I.bk) at_ triples e TB.gP (TB.bm.keeps I.bk)
    rintro c' ctv h1 tk same low lt ⟨c2, oc, vs, t, same_c, g, dat, val⟩ grown
    cases same_c
    have size_ : s.heap.objs.size ≤ h1.objs.size := Nat.le_of_lt (Nat.lt_of_le_of_lt low lt)
    have free_ := I.hok.fresh low
    have far : P ≠ h1.objs.size := Nat.ne_of_lt (Nat.lt_of_lt_of_le (Heap.lt_size at_) size_)
    have all_ : (ps ++ #[rawInt pos.line, rawInt pos.col, .ref c']).toList = ps.toList ++ [rawInt pos.line, rawInt pos.col, .ref c'] := by rw [Array.toList_append]
    generalize fo_ : PySem.W.kla_obj "<lambda>" (X.env.qual ++ "<lambda>") params body scope (cloFrom X.env.cells scope.names []) ((X.mg "__name__").getD .none) c' ctv = fo at h ⊢
    have made : (h1.push fo).get? h1.objs.size = some fo := Heap.get?_push_size _ (by rw [← fo_]; rfl)
    have up : ∀ {b o}, h1.get? b = some o → (h1.push fo).get? b = some o := fun q => Heap.get?_push_of_some _ q
    refine h h1.objs.size c' _ ctv _ _ (LamX.inv_table (t' := tk) (q := X.env.qual ++ "<lambda>") I tab (fun b o ne q => up (same b o ne q)) (up grown) low ⟨oc, vs, t, up g, dat, val⟩)
      (ext_table (q := X.env.qual ++ "<lambda>") tab free_ hu all_ (PySem.TriplesOk_snoc _ _ _ _ triples) fun _ _ q => LamX.among_app _ triples q) (made.trans (congrArg some fo_.symm)) size_ ?_ upd_same
    exact (upd_ne (Nat.ne_of_gt lt)).trans ((upd_ne (Ne.symm far)).trans (I.hok.fresh size_))
  · rcases known pos _ e with ⟨c', rfl, co⟩
    apply PySem.W.kla_makeFunctionHit (mg := X.mg) (c := c) (P := P) (ps := ps) clo I.ok.glob glob hcode (TB.code.keeps I.bk) at_ triples e (TB.bm.keeps I.bk)
    intro ctv h1 tk same size_
    exact h h1.objs.size c' _ ctv H _ (I.kept fun b o q => Heap.get?_push_of_some _ (same b o q)) (Ext.refl Γ H) (Heap.get?_push_size _ rfl) size_ (I.hok.fresh size_) co
end

/-! ### a list walked while its items may be asked about -/
def WStl (xs : List V) (I ax : Addr) (i : Nat) (h : Heap) : Prop := h.IsListIter I ax i ∧ ∃ its : List Value, Vals xs its ∧ h.IsList ax its.toArray
theorem walks_vals {prog : Program} {w : World} {A : Around} (hh : A.handled = none) (I ax : Addr) (hne : ax ≠ I) (xs : List V) :
    Walks prog w A I [I, ax] [I] xs.length (fun i v => ∃ x, xs[i]? = some x ∧ RelV x v) (WStl xs I ax) where
  sub := fun b hb => by
    have e : b = I := by simpa using hb
    simp [e]
  frame := fun _ _ _ ⟨st, its, r, l⟩ hk => ⟨st.at fun o e => hk I (by simp) o e, its, r, l.at fun o e => hk ax (by simp) o e⟩
  item := fun i s Q E hi ⟨st, its, r, l⟩ hQ => by
    have hx : xs[i]? = some xs[i] := List.getElem?_eq_getElem hi
    obtain ⟨u, hu, ru⟩ := r.get hx
    refine wpAny_pyNext_list_item st l (x := u) (by simpa using hu) fun h' hit' hs' => ?_
    exact hQ _ h' s.toks ⟨_, hx, ru⟩ ⟨hit', its, r, l.extBut hs'.extBut hne⟩ fun b o hb e => hs'.extBut b o (fun h => hb (by simp [h])) e
  done := fun s Q E ⟨st, its, r, l⟩ hQ => wpAny_pyNext_list_end hh st l (by
    have := r.length
    simp
    omega) fun h' he' => hQ h' s.toks fun b o hb e => he' b o (fun h => hb (by simp [h])) e
  self := fun _ _ _ _ ⟨st, _⟩ hQ => wpAny_pyIter_listiter st hQ

/-! ### the trees -/
/-- a key: a whole number, and nothing else -/
def keyI (fk : Env → Res D) (ρ : Env) (i : Nat) (d : D) : Option Int := match fk (ρ.set i (some d)) with | .ok (.int k) => some k | _ => none
def keysI (fk : Env → Res D) (ρ : Env) (i : Nat) : List D → Option (List Int)
  | [] => some []
  | d :: ds => match keyI fk ρ i d, keysI fk ρ i ds with | some k, some ks => some (k :: ks) | _, _ => none
/-- the place of the first greatest -/
def argMax (ks : List Int) : Nat := argBest (fun i j => decide (ks.getD i 0 > ks.getD j 0)) (ks.length - 1)
def maxKey (f : Env → Res D) (i : Nat) (fk : Env → Res D) : Env → Res D := fun ρ => (f ρ).bind fun d => match d with
  | .lst ds => match keysI fk ρ i ds with
    | some ks => match ds[argMax ks]? with | some d => .ok d | none => .no
    | none => .no
  | _ => .no
theorem keysI_get {fk : Env → Res D} {ρ : Env} {i : Nat} : ∀ {ds : List D} {ks : List Int}, keysI fk ρ i ds = some ks → ks.length = ds.length ∧ ∀ (j : Nat) (d : D), ds[j]? = some d → keyI fk ρ i d = some (ks.getD j 0)
  | [], _, h => by cases h; exact ⟨rfl, fun j d e => by simp at e⟩
  | d :: ds, _, h => by
    rw [keysI] at h
    cases e1 : keyI fk ρ i d with
    | none => rw [e1] at h; cases h
    | some k =>
      cases e2 : keysI fk ρ i ds with
      | none => rw [e1, e2] at h; cases h
      | some ks =>
        rw [e1, e2] at h
        cases h
        obtain ⟨h1, h2⟩ := keysI_get e2
        refine ⟨by simp [h1], fun j d' e => ?_⟩
        cases j with
        | zero => simp at e; subst e; simpa using e1
        | succ j => simpa using h2 j d' (by simpa using e)
theorem argBest_le (bt : Nat → Nat → Bool) : ∀ n, argBest bt n ≤ n
  | 0 => Nat.le_refl _
  | n + 1 => by
    rw [argBest]
    have := argBest_le bt n
    split <;> omega
theorem EnvV.set {Γ : Gm} {av : Addr → Prop} {H : Hp} {σ : L2.St} {ρ : Env} {i : Nat} {d : D} {v : V} (e : EnvV Γ av H σ ρ) (r : Rp Γ.kr av H d v) : EnvV Γ av H (σ.set i (some v)) (ρ.set i (some d)) :=
  ⟨e.wf, fun j d' h => by
    by_cases hj : i = j
    · subst hj
      have hl : i < ρ.length := by
        have := (List.getElem?_eq_some_iff.mp h).1
        simpa using this
      rw [List.getElem?_set_self hl] at h
      cases h
      exact ⟨v, List.getElem?_set_self (Nat.lt_of_lt_of_le hl e.len), r⟩
    · rw [List.getElem?_set_ne hj] at h
      obtain ⟨u, h1, h2⟩ := e.at_ j d' h
      exact ⟨u, by rw [List.getElem?_set_ne hj]; exact h1, h2⟩, by rw [List.length_set, List.length_set]; exact e.len⟩
section
variable {X : Cx} {Γ : Gm} {E : XK} {e : Expr} {f fk : Env → Res D} {k i : Nat} {x : Str} {scope : Scope} {params : Arguments} {body : Expr} {c P : Addr} {p pos lpos kpos : Pos}
theorem te_maxKey (hr : Room (k + 2) X.A) (hc : X.calm = true) (hN : X.N.Nodup) (hm : X.mg "max" = none) (TB : LamX.TabB X.base X.mg c P) (hcode : X.env.code = .ref c) (hTL : (P, X.env.qual ++ "<lambda>") ∈ Γ.TL) (hu : ∀ p ∈ Γ.TL, p.1 = P → p.2 = X.env.qual ++ "<lambda>")
    (L : Lam1 X.N X.env.scope scope x i) (he : PE X e (eT Γ E f))
    (hb : ∀ (A' : Around) (s : Shared) (H : Hp) (fa c' : Addr), Room k (A'.deeper (LamX.lamEnv X scope s.heap.objs.size fa c')) → PE (LamX.lamCx X A' X.stack s H (fun _ _ _ => False) scope fa c') body (eT Γ (fun _ _ _ => False) fk))
    (hdef : defaultsOf params X.env = ([], []) := by rfl)
    (hbind : ∀ (q : Str) (cl : List (Str × Addr)) (pm cv ctv u : Value), bindArgs (PySem.W.kla_fn "<lambda>" q params body scope cl pm cv ctv) ⟨[u], []⟩ = pure [(x, u)] := by intros; rfl)
    (hg : Gl X "max" := by rfl) (hs0 : starEach [e] X.env = (false, eval e X.env) :: starEach [] X.env := by rfl) (hs1 : backTo pos (starEach [e] X.env) = (false, eval e X.env) :: backTo pos (starEach [] X.env) := by rfl) (hpl : (backTo pos (starEach [e] X.env)).any (·.1) = false := by rfl)
    (hK : X.K = Γ.K := by rfl) (hv : bootBuiltins "max" = some (.builtin "max") := by decide +kernel) :
    PE X (.Call (.Name "max" p) [e] [⟨some "key", .Lambda params body scope lpos, kpos⟩] pos) (eT Γ E (maxKey f i fk)) := by
  refine ⟨fun pins s σ H Q I ⟨av, ρ, env, h⟩ => ?_⟩
  refine wpAny_Call_Name_kw (ld_blt I hg hm hv ?_)
  refine PyProof.Rows.callWith_kw ?_ hs1 hpl rfl rfl
  rw [hs1]
  refine Calls.spliced_cons (thn (he.run pins s σ H (fun u H1 => ∃ a us ds, u = .ref a ∧ EnvV Γ av H1 σ ρ ∧ H1 a = some (.lst us) ∧ ¬ avr Γ.kr av a ∧ RpL Γ.kr av H1 ds us ∧ ROk Γ av H1 (fun H' d v => Rp Γ.kr av H' d v) (match keysI fk ρ i ds with
      | some ks => match ds[argMax ks]? with | some d => .ok d | none => .no
      | none => .no) Q E) I ⟨av, ρ, env, ROk.bind h fun d v H1 x1 rd h1 => ?_⟩) fun u0 s1 hq => ?_)
  · cases rd with
    | lst g n rl => exact ⟨_, _, _, rfl, env.ext x1, g, n, rl, h1⟩
    | _ => exact (show False from h1).elim
  · obtain ⟨vv, H1, I1, r1, a, xs, ds, evs, env1, hxs, nav, rds, h1⟩ := hq
    subst evs
    obtain rfl : u0 = Value.ref a := r1
    refine Calls.spliced_nil ?_
    show wpAny _ _ (evalAll [do let v ← eval (.Lambda params body scope lpos) X.env; standAt pos; pure v]) _ _ s1
    refine wpAny_evalAll_cons (wpAny_bind ?_)
    refine lam_new I1 TB hcode hTL hu env1.wf.tb hdef (L.has I1.ok) fun fa c' pm ctv H2 s2 I2 x2 hf hfs hfn hco => ?_
    refine wpAny_bind (wpAny_standAt (wpAny_pure (wpAny_evalAll_nil ?_)))
    show wpAny _ _ (call (.builtin "max") [.ref a] [(Str.ofString "key", .ref fa)]) _ _ s2
    cases ek : keysI fk ρ i ds with
    | none => rw [ek] at h1; exact h1.elim
    | some ks =>
    rw [ek] at h1
    obtain ⟨kl, kg⟩ := keysI_get ek
    have env2 := env1.ext x2
    have row : Γ.row ≠ some a := fun z => nav (.inr z)
    have hxs2 : H2 a = some (.lst xs) := x2.keepL hxs row
    have rds2 := rds.ext x2
    have hlen := rds.length
    generalize hfo : PySem.W.kla_obj "<lambda>" (X.env.qual ++ "<lambda>") params body scope (cloFrom X.env.cells scope.names []) pm c' ctv = fo at hf
    -- the function stays where it is
    have I3 : Inv X (pins ++ [(fa, fo)]) σ H2 s2 := I2.pins_of fun p hp => by
      rcases List.mem_append.mp hp with hp | hp
      · exact I2.pin p (List.mem_append_right _ hp)
      · have ep : p = (fa, fo) := by simpa using hp
        rw [ep]
        refine ⟨hf, hfn, Nat.ne_of_gt (Nat.lt_of_lt_of_le I1.lt hfs), I1.nofs hfs, fun v z => ?_⟩
        rw [← hfo] at z
        cases z
    refine call_max_walkK (A := X.A) ?_
    obtain ⟨its, rv, pl, _⟩ := I3.list (SqL.of hxs2)
    refine wpAny_pyIter_list pl.isList ?_
    generalize hI : s2.heap.objs.size = I0
    generalize hh3 : s2.heap.push { cls := .type "list_iterator", data := .fields #[.ref a, .int 0 0] } = h3
    have hz3 : h3.objs.size = I0 + 1 := by rw [← hh3, Heap.size_push, hI]
    have k3 : ∀ b o, s2.heap.get? b = some o → h3.get? b = some o := fun b o e => by rw [← hh3]; exact Heap.get?_push_of_some _ e
    have hit : h3.IsListIter I0 a 0 := by
      rw [← hh3, ← hI]
      exact ⟨_, Heap.get?_push_size _ rfl, rfl, rfl⟩
    have I4 : Inv X (pins ++ [(fa, fo)]) σ H2 { s2 with heap := h3 } := I3.kept (t' := s2.toks) k3
    have aI : a ≠ I0 := by
      rw [← hI]
      obtain ⟨o, ho, _⟩ := pl.isList
      exact Nat.ne_of_lt (Heap.lt_size ho)
    have hnI : 0 < xs.length := by
      cases xs with
      | nil =>
        exfalso
        rw [List.length_nil] at hlen
        have : ds = [] := List.eq_nil_of_length_eq_zero hlen
        subst this
        simp at h1
        exact h1
      | cons _ _ => simp
    have fp0 : ∀ b, I0 ≤ b → ∀ H', H' b = none → FpOk X (pins ++ [(fa, fo)]) H' b := fun b hb H' hn => I3.fpOk (by rw [hI]; exact hb) hn
    have nI : H2 I0 = none := I3.hok.fresh (by rw [hI]; exact Nat.le_refl _)
    have nS : H2 (I0 + 1) = none := I3.hok.fresh (by rw [hI]; exact Nat.le_succ _)
    refine ⟨I0, [I0, a], [I0], fun a b => b = a, xs.length, fun j v => ∃ x, xs[j]? = some x ∧ RelV x v, fun j s => WStl xs I0 a j s.heap,
      fun s => ∃ H', Inv X (pins ++ [(fa, fo)]) σ H' s ∧ Ext Γ H2 H' ∧ H' I0 = none ∧ H' (I0 + 1) = none, fun j v s => ∃ t, v = .int (ks.getD j 0) t, fun i j => decide (ks.getD i 0 > ks.getD j 0), rfl,
      (walks_vals (A := X.A.in1) hr.hd I0 a aI xs).toS, ⟨hit, its, rv, pl.isList.at fun o e => k3 _ o e⟩, fun b hb => ?_, hnI, ?_, ⟨H2, I4, Ext.refl Γ H2, nI, nS⟩, fun v s' hv hJ => ?_⟩
    · show b < h3.objs.size
      rw [hz3]
      rcases List.mem_cons.mp hb with e | hb
      · rw [e]; exact Nat.lt_succ_self _
      · have e : b = a := by simpa using hb
        rw [e]
        obtain ⟨o, ho, _⟩ := pl.isList
        exact Nat.lt_succ_of_lt (by rw [← hI]; exact Heap.lt_size ho)
    · have eS : h3.objs.size = I0 + 1 := hz3
      show KeyRun X.prog X.w X.A.in1 (.ref fa) .Gt h3.objs.size _ _ _ _ _ _ _ _
      rw [eS]
      refine ⟨fun t t' ⟨H', I', x', n1, n2⟩ hm => ?_, fun j v t t' hV _ => hV, fun j v t o Q' E' hj hP hJ hst hS hQ => ?_, fun a b ka kb t Q' E' _ ha hb hq => CmpOf.ints_gt (P := fun i v => ∃ t, v = .int (ks.getD i 0) t) (fun i => ks.getD i 0) (fun i v h => h) a b _ _ _ _ _ ha hb hq⟩
      · rw [Moved.eq_with hm]
        refine ⟨H', I'.turnedL (ch := [I0 + 1, I0]) (fun b o hb e => hm.heap b o hb e) (fun b hb => ?_), x', n1, n2⟩
        rcases List.mem_cons.mp hb with e | hb
        · rw [e]; exact fp0 _ (Nat.le_succ _) _ n2
        · have e : b = I0 := by simpa using hb
          rw [e]; exact fp0 _ (Nat.le_refl _) _ n1
      · obtain ⟨x1, hx1, rx1⟩ := hP
        obtain ⟨H', I', x', n1, n2⟩ := hJ
        obtain ⟨d1, hd1, rd1⟩ := rds2.getV hx1
        have hkey := kg j d1 hd1
        have hfk : fk (ρ.set i (some d1)) = .ok (.int (ks.getD j 0)) := by
          unfold keyI at hkey
          split at hkey
          · rename_i k' e'
            rw [e', Option.some.inj hkey]
          · cases hkey
        have hf' : t.heap.get? fa = some fo := (I'.pin (fa, fo) (List.mem_append_right _ (List.mem_append_right _ (by simp)))).1
        have hco' : H' c' = some (LamX.CodeO c' (X.env.qual ++ "<lambda>")) := x'.keepN hco LamX.codeO_ne (fun xs z => by
          unfold LamX.CodeO at z
          cases z)
        have env' := (env2.ext x').set (i := i) (rd1.ext x')
        have rc := lam_run (A' := X.A.in1) (E := fun _ _ _ => False) (Q := fun y H'' => y = .int (ks.getD j 0) ∧ Ext Γ H' H'') I' L hN (by rw [hf', ← hfo]) hco' hbind I'.env0.in1 hr.in1 rx1 (hb X.A.in1 t H' fa c')
          ⟨av, ρ.set i (some d1), env', by
            rw [hfk]
            intro b H'' xx rr
            cases rr
            exact ⟨rfl, xx⟩⟩
        refine wpAny_call (codeAny_mono rc fun r s' hq => ?_)
        have nfr : ∀ b, I0 ≤ b → b ∉ frs X.stack := fun b hb z => by
          rcases List.mem_cons.mp (I3.stkSub b z) with z | z
          · have := (fp0 b hb (fun _ => none) rfl).2.1
            exact this z
          · exact (fp0 b hb (fun _ => none) rfl).2.2.1 z
        cases r with
        | error e =>
          obtain ⟨_, _, _, _, _, _, _, _, _, _, _, _, z⟩ := hq
          exact z.elim
        | ok fl =>
          cases fl with
          | ret u =>
            obtain ⟨yv, H'', hos, hbr, un, hok, ry, ey, xx⟩ := hq
            subst ey
            obtain ⟨tk, rfl⟩ := ry
            have I'' := I'.call' (ch := []) hos un hok hbr (fun b hb => by cases hb)
            obtain ⟨oI, hoI, cI, dI⟩ := hst.1
            have x'' := x'.trans xx
            obtain ⟨its', rv', pl', _⟩ := I''.list (SqL.of (x''.keepL hxs2 row))
            refine hQ _ s' ⟨H'', I'', x'', un.free I0 _ hoI n1 (by simp), un.free (I0 + 1) _ hS n2 (by simp)⟩ ⟨⟨oI, un.keep I0 _ hoI n1 (nfr _ (Nat.le_refl _)) (by simp), cI, dI⟩, its', rv', pl'.isList⟩ (un.keep (I0 + 1) _ hS n2 (nfr _ (Nat.le_succ _)) (by simp)) ⟨tk, rfl⟩ fun _ _ z => z
          | next => exact False.elim hq
          | brk => exact False.elim hq
          | cont => exact False.elim hq
    · obtain ⟨x1, hx1, rx1⟩ := hv
      obtain ⟨H', I', x', _, _⟩ := hJ
      obtain ⟨d1, hd1, rd1⟩ := rds2.getV hx1
      have ea : ds[argMax ks]? = some d1 := by
        unfold argMax
        rw [kl, hlen]
        exact hd1
      simp only [ea] at h1
      exact ⟨x1, H', I'.unpinned, rx1, h1 x1 H' (x2.trans x') (rd1.ext x')⟩
end
end Fw
end
set_option Elab.async false
set_option linter.all false
set_option autoImplicit false
set_option maxRecDepth 100000
set_option maxHeartbeats 4000000
/-! Fw19: set(l) of a list of whole numbers. -/
noncomputable section
namespace Fw
open PySem PySem.Spec PyProof.Rows L2

section
variable {P : Program} {w : World} {A : Around} {E : Value → Shared → Prop}

/-- T(args) where the arguments of __init__ are looked at in the state that __new__ leaves -/
theorem type_call_by {T nid iid : String} {args : List Value} {s : Shared} {Q B : Value → Shared → Prop} (ft : TypeCalled T nid iid) (ok : checkTypeCall T ⟨args, []⟩ = pure ())
    (mk : codeAny (model P w) A.in1 (.call (.builtin nid) ⟨.type T :: args, []⟩) (wants B E) s)
    (fill : ∀ v t, B v t → t.TypeIs v T ∧ codeAny (model P w) A.in1 (.call (.builtin iid) ⟨v :: args, []⟩) (wants (fun r t' => r = .none ∧ Q v t') E) t) :
    wpAny (model P w) A (call (.type T) args) Q E s := by
  have ⟨nt, cc, ⟨c, tl, order⟩, maker, pl, same, slot⟩ := ft
  apply wpAny_call
  apply codeAny_of_tree
  show wpAny (model P w) _ (callAny (.type T) ⟨args, []⟩) _ _ s
  apply wpAny_pure
  refine And.intro (Code.quiet_builtin _ (by decide +kernel)) (codeAny_builtin F.entry_type_call ?_)
  rw [Around.under_plain (weight_type_call_type T args []) rfl]
  have look := slot.lookup
  repeat (any_goals (first | assumption | wp_step))
  refine codeAny_mono mk ?_
  intro r t got
  match r, got with
  | .error _, got => exact got
  | .ok (.ret v), got =>
    obtain ⟨ty, run⟩ := fill v t got
    have bnd := slot.bind v
    repeat (any_goals (first | assumption | wp_step))
    refine codeAny_mono run ?_
    intro r2 t2 got2
    match r2, got2 with
    | .error _, got2 => exact got2
    | .ok (.ret _), ⟨rfl, q⟩ => repeat (any_goals (first | assumption | wp_step))

/-- what set() makes, empty -/
abbrev noneS (w : World) : Obj := { cls := .type "set", dict := none, data := .set #[] 0 (.fresh 0 0 (!w.params.followText "set-order")) }
/-- set.__init__ of an empty set, over a list: the loop of update over the list's iterator -/
theorem set_fill_list {s : Shared} {S l : Addr} {items : Array Value} {R : Value → Shared → Prop} (at0 : s.heap.get? S = some (noneS w)) (hl : s.heap.IsList l items)
    (loop : ∀ B : Around, B.handled = A.handled → codeAny (model P w) B (.builtin "set.update.loop" ⟨[.ref S, .ref s.heap.objs.size], []⟩) (wants (fun _ t => R .none t) E) { s with heap := s.heap.push { cls := .type "list_iterator", data := .fields #[.ref l, .int 0 0] } }) :
    codeAny (model P w) A (.call (.builtin "set.__init__") ⟨[.ref S, .ref l], []⟩) (wants R E) s := by
  have ty : s.TypeIs (.ref S) "set" := ⟨_, at0, rfl⟩
  refine codeAny_call_builtin F.called_set.init.plain F.entry_set_init (check_set_init_1 ty ?_)
  have ⟨ob, hob, hcl, n, hdat⟩ := hl
  rcases ob with ⟨c, dc, da, sl⟩
  cases (show c = .type "list" from hcl)
  cases (show da = .seq items n from hdat)
  have s1 := F.sub_list_set
  have s2 := F.sub_list_frozenset
  have nd : (Value.type "list" == Value.type "dict") = false := by decide
  unfold Builtin.«set.__init__» noKeywords Builtin.Frozenset.updateFrom
  generalize it : pyIter = iter0
  wp_walk
  subst it
  apply wpAny_pyIter_list hl
  apply wpAny_bind
  apply wpAny_runValue
  refine codeAny_mono (loop _ rfl) fun r t got => ?_
  match r, got with
  | .error _, got => exact got
  | .ok (.ret _), got => exact wpAny_pure (show wpAny _ _ (ret Value.none) _ _ _ from wpAny_pure got)
end
end Fw
end
set_option Elab.async false
set_option linter.all false
set_option autoImplicit false
set_option maxRecDepth 100000
set_option maxHeartbeats 4000000
/-! Fw20: sorted(set(..)), len(set(..)) of whole numbers; sorted(..). -/
noncomputable section
namespace Fw
open PySem PySem.Spec PyProof.Rows L2

/-! ### rising lists -/
def insI (x : Int) : List Int → List Int
  | [] => [x]
  | y :: r => if x < y then x :: y :: r else if x = y then y :: r else y :: insI x r
def setI (ns : List Int) : List Int := ns.foldr insI []
theorem mem_insI (x z : Int) : ∀ l : List Int, z ∈ insI x l ↔ z = x ∨ z ∈ l
  | [] => by simp [insI]
  | y :: r => by
    rw [insI]
    split
    · simp
    · split
      · rename_i h; subst h; simp
      · rw [List.mem_cons, mem_insI x z r, List.mem_cons]
        constructor
        · rintro (h | h | h)
          · exact .inr (.inl h)
          · exact .inl h
          · exact .inr (.inr h)
        · rintro (h | h | h)
          · exact .inr (.inl h)
          · exact .inl h
          · exact .inr (.inr h)
theorem mem_setI (z : Int) : ∀ l : List Int, z ∈ setI l ↔ z ∈ l
  | [] => by simp [setI]
  | y :: r => by
    show z ∈ insI y (setI r) ↔ _
    rw [mem_insI, mem_setI z r, List.mem_cons]
theorem insI_rise (x : Int) : ∀ l : List Int, l.Pairwise (· < ·) → (insI x l).Pairwise (· < ·)
  | [], _ => by simp [insI]
  | y :: r, h => by
    obtain ⟨h1, h2⟩ := List.pairwise_cons.mp h
    rw [insI]
    split
    · rename_i hx
      refine List.pairwise_cons.mpr ⟨fun z hz => ?_, h⟩
      rcases List.mem_cons.mp hz with rfl | hz
      · exact hx
      · have := h1 z hz; omega
    · split
      · exact h
      · refine List.pairwise_cons.mpr ⟨fun z hz => ?_, insI_rise x r h2⟩
        rcases (mem_insI x z r).mp hz with rfl | hz
        · omega
        · exact h1 z hz
theorem setI_rise : ∀ l : List Int, (setI l).Pairwise (· < ·)
  | [] => List.Pairwise.nil
  | y :: r => insI_rise y _ (setI_rise r)
theorem rise_ext : ∀ {a b : List Int}, a.Pairwise (· < ·) → b.Pairwise (· < ·) → (∀ z, z ∈ a ↔ z ∈ b) → a = b
  | [], [], _, _, _ => rfl
  | [], y :: r, _, _, h => absurd ((h y).mpr List.mem_cons_self) List.not_mem_nil
  | x :: r, [], _, _, h => absurd ((h x).mp List.mem_cons_self) List.not_mem_nil
  | x :: r, y :: t, ha, hb, h => by
    obtain ⟨h1, h2⟩ := List.pairwise_cons.mp ha
    obtain ⟨g1, g2⟩ := List.pairwise_cons.mp hb
    have exy : x = y := by
      have a1 := List.mem_cons.mp ((h x).mp List.mem_cons_self)
      have a2 := List.mem_cons.mp ((h y).mpr List.mem_cons_self)
      rcases a1 with a1 | a1
      · exact a1
      · rcases a2 with a2 | a2
        · exact a2.symm
        · have := h1 y a2
          have := g1 x a1
          omega
    subst exy
    congr 1
    refine rise_ext h2 g2 fun z => ⟨fun hz => ?_, fun hz => ?_⟩
    · have := h1 z hz
      rcases List.mem_cons.mp ((h z).mp (List.mem_cons_of_mem _ hz)) with e | e
      · omega
      · exact e
    · have := g1 z hz
      rcases List.mem_cons.mp ((h z).mpr (List.mem_cons_of_mem _ hz)) with e | e
      · omega
      · exact e
theorem rise_nodup {l : List Int} (h : l.Pairwise (· < ·)) : l.Nodup := h.imp fun h e => by omega
theorem len_setI {l ns : List Int} (h : l.Nodup) (hm : ∀ z, z ∈ l ↔ z ∈ ns) : l.length = (setI ns).length :=
  ((List.perm_ext_iff_of_nodup h (rise_nodup (setI_rise ns))).mpr fun z => (hm z).trans (mem_setI z ns).symm).length_eq
/-- by <=, stable: sorted() of whole numbers -/
def insL (x : Int) : List Int → List Int
  | [] => [x]
  | y :: r => if x ≤ y then x :: y :: r else y :: insL x r
def sortI (ns : List Int) : List Int := ns.foldr insL []
theorem insL_perm (x : Int) : ∀ l : List Int, (insL x l).Perm (x :: l)
  | [] => List.Perm.refl _
  | y :: r => by
    rw [insL]
    split
    · exact List.Perm.refl _
    · exact ((insL_perm x r).cons y).trans (List.Perm.swap x y r)
theorem sortI_perm : ∀ l : List Int, (sortI l).Perm l
  | [] => List.Perm.refl _
  | y :: r => (insL_perm y _).trans ((sortI_perm r).cons y)
theorem insL_rise (x : Int) : ∀ l : List Int, l.Pairwise (· ≤ ·) → (insL x l).Pairwise (· ≤ ·)
  | [], _ => by simp [insL]
  | y :: r, h => by
    obtain ⟨h1, h2⟩ := List.pairwise_cons.mp h
    rw [insL]
    split
    · rename_i hx
      refine List.pairwise_cons.mpr ⟨fun z hz => ?_, h⟩
      rcases List.mem_cons.mp hz with rfl | hz
      · exact hx
      · have := h1 z hz; omega
    · refine List.pairwise_cons.mpr ⟨fun z hz => ?_, insL_rise x r h2⟩
      rcases List.mem_cons.mp ((insL_perm x r).mem_iff.mp hz) with rfl | hz
      · omega
      · exact h1 z hz
theorem sortI_rise : ∀ l : List Int, (sortI l).Pairwise (· ≤ ·)
  | [] => List.Pairwise.nil
  | y :: r => insL_rise y _ (sortI_rise r)
theorem rise_perm : ∀ {a b : List Int}, a.Pairwise (· ≤ ·) → b.Pairwise (· ≤ ·) → a.Perm b → a = b
  | [], b, _, _, h => by rw [List.nil_perm.mp h]
  | x :: r, [], _, _, h => absurd h.length_eq (by simp)
  | x :: r, y :: t, ha, hb, h => by
    obtain ⟨h1, h2⟩ := List.pairwise_cons.mp ha
    obtain ⟨g1, g2⟩ := List.pairwise_cons.mp hb
    have exy : x = y := by
      have a1 := List.mem_cons.mp (h.mem_iff.mp List.mem_cons_self)
      have a2 := List.mem_cons.mp (h.mem_iff.mpr (List.mem_cons_self (a := y)))
      rcases a1 with a1 | a1
      · exact a1
      · rcases a2 with a2 | a2
        · exact a2.symm
        · have := h1 y a2
          have := g1 x a1
          omega
    subst exy
    rw [rise_perm h2 g2 (List.Perm.cons_inv h)]

/-! ### the calls -/
section
variable {X : Cx}
theorem int_vals {ns : List Int} {its : List Value} (rv : Vals (ns.map V.int) its) : its.length = ns.length ∧ ∀ (i : Nat) (v : Value), its.toArray[i]? = some v → ∃ k t, ns[i]? = some k ∧ v = .int k t := by
  have hl : its.length = ns.length := by rw [← rv.length, List.length_map]
  refine ⟨hl, fun i v hv => ?_⟩
  have hi : i < ns.length := by
    have := (Array.getElem?_eq_some_iff.mp hv).1
    simpa [hl] using this
  obtain ⟨u, hu, ru⟩ := rv.get (i := i) (x := .int ns[i]) (by rw [List.getElem?_map, List.getElem?_eq_getElem hi]; rfl)
  have e : its.toArray[i]? = some u := by simpa using hu
  rw [e] at hv
  cases hv
  obtain ⟨t, rfl⟩ := ru
  exact ⟨_, t, List.getElem?_eq_getElem hi, rfl⟩
theorem ints_from : ∀ {ns : List Int} {us : List Value}, Vals (ns.map V.int) us → IntsAre us ns
  | [], _, .nil => .nil
  | k :: _, _, .cons ⟨t, e⟩ r => e ▸ .cons k t (ints_from r)
/-- set(l), whole numbers -/
def rSetI (K : PySem.W.Frag) (w : World) : List V → Hp → VK → Prop := fun xs H Q => ∃ (l : Addr) (ns : List Int), xs = [.ref l] ∧ (SqL K H l (ns.map V.int) ∨ SqT K H l (ns.map V.int)) ∧ ns.length + 1 < scanBound ∧
  ∀ p, H p = none → Q (.ref p) (upd H p (SetO w p (fun j => decide (j ∈ ns)) (setI ns).length))
theorem setR_len {w : World} {h : Heap} {a : Addr} {ns : List Int} {n : Nat} (R : SetR w h a (fun j => decide (j ∈ ns)) n) : n = (setI ns).length := by
  obtain ⟨o, es, ep, t, ho, hex, hd, g, nd, hm, hb, hf, hn, r⟩ := R
  have e := len_setI (ns := ns) nd fun z => by rw [← hm z]; exact decide_eq_true_iff
  rw [← hn, ← e, List.length_map, Array.length_toList]
theorem cr_setI (hc : X.calm = true) : CallR X (.type "set") (rSetI X.K X.w) := by
  intro pins s σ H xs us Q I r h
  obtain ⟨l, ns, rfl, hl, hb, q⟩ := h
  rw [Vals.ref1 r]
  have hh := I.ok.hd hc
  have hn : H s.heap.objs.size = none := I.hok.fresh (Nat.le_refl _)
  have fin : ∀ (h' : Heap) (tk c : Nat), SetR X.w h' s.heap.objs.size (fun j => decide (j ∈ ns)) c → (∀ b o, s.heap.get? b = some o → h'.get? b = some o) → EP X pins σ Q (.ref s.heap.objs.size) { s with heap := h', toks := tk } := by
    intro h' tk c R kp
    have ec := setR_len R
    subst ec
    exact ⟨.ref _, _, I.laid (t' := tk) kp (Nat.le_refl _) (setO_new R), rfl, q _ hn⟩
  rcases hl with hl | hl
  · obtain ⟨its, rv, pl, _⟩ := I.list hl
    obtain ⟨hlen, hval⟩ := int_vals rv
    have lt : l < s.heap.objs.size := pl.isList.elim fun _ z => Heap.lt_size z.1
    have sz : its.toArray.size = ns.length := by simpa using hlen
    have z1 : (s.heap.push (noneS X.w)).objs.size = s.heap.objs.size + 1 := Heap.size_push ..
    refine type_call_by (B := fun v t => v = .ref s.heap.objs.size ∧ t = { s with heap := s.heap.push (noneS X.w) }) F.called_set (F.typeCall_set_1 _) (code_set_led1 (.ref l) ⟨rfl, rfl⟩) ?_
    rintro _ _ ⟨rfl, rfl⟩
    have at0 : (s.heap.push (noneS X.w)).get? s.heap.objs.size = some (noneS X.w) := Heap.get?_push_size _ rfl
    have il := pl.isList.at fun o g => Heap.get?_push_of_some (noneS X.w) g
    refine ⟨⟨_, at0, rfl⟩, set_fill_list (s := { s with heap := s.heap.push (noneS X.w) }) at0 il fun B hB => ?_⟩
    show codeAny _ B (.builtin "set.update.loop" ⟨[.ref s.heap.objs.size, .ref (s.heap.push (noneS X.w)).objs.size], []⟩) _ _
    rw [z1]
    have far : l ≠ s.heap.objs.size + 1 := Nat.ne_of_lt (Nat.lt_succ_of_lt lt)
    have W := Walks.list (prog := X.prog) (w := X.w) (A := B.in1) (hB.trans hh) (s.heap.objs.size + 1) l far its.toArray
    refine set_update_ints W.toS s.heap.objs.size ?_ ns sz hb hval its.toArray.size 0 _ (Nat.sub_zero _) (Nat.zero_le _) ⟨⟨_, z1 ▸ Heap.get?_push_size _ rfl, rfl, rfl⟩, il.at fun o g => Heap.get?_push_of_some _ g⟩ ⟨0, Nat.le_refl _, setR_new_at (Heap.get?_push_of_some _ at0)⟩ fun t c mv _ R => ?_
    · simp only [List.mem_cons, List.not_mem_nil, or_false, not_or]
      exact ⟨(Nat.succ_ne_self _).symm, Nat.ne_of_gt lt⟩
    · rw [Moved.eq_with mv]
      refine ⟨rfl, fin t.heap t.toks c R fun b o g => ?_⟩
      have bl := Heap.lt_size g
      exact mv.heap b o (by simp only [List.mem_cons, List.not_mem_nil, or_false, not_or]; exact ⟨Nat.ne_of_lt bl, Nat.ne_of_lt (Nat.lt_succ_of_lt bl)⟩) (Heap.get?_push_of_some _ (Heap.get?_push_of_some _ g))
  · obtain ⟨its, rv, pl, _⟩ := I.tuple hl
    have iv := ints_from rv
    exact call_set_tupI ns hh pl (by simpa using iv) hb fun h' tk c R _ kp => fin h' tk c R kp
/-- len(set) -/
theorem cr_lenI : CallR X (.builtin "len") (fun xs H Q => ∃ (a : Addr) (S : Int → Bool) (n : Nat), xs = [.ref a] ∧ H a = some (SetO X.w a S n) ∧ Q (.int n) H) := by
  intro pins s σ H xs us Q I r h
  obtain ⟨a, S, n, rfl, ha, q⟩ := h
  rw [Vals.ref1 r]
  obtain ⟨o, es, ep, t, ho, hex, hd, _, _, _, hb, hf, hn, _⟩ := setO_get I ha
  refine call_len_set ho hex hd hf ?_ ⟨.int n, H, I.tok _, ⟨_, by rw [hn]⟩, q⟩
  unfold scanBound at hb
  omega
end

/-! ### over trees -/
def seqOf : D → Option (List D)
  | .lst ds => some ds
  | .tup ds => some ds
  | .ftp ds => some ds
  | _ => none
def intsIn (d : D) : Option (List Int) := (seqOf d).bind intsOf
def D.sortSet (d : D) : Res D := match intsIn d with
  | some ns => if ns.length < 64 then .ok (.lst ((setI ns).map .int)) else .no
  | none => .no
def D.lenSet (d : D) : Res D := match intsIn d with
  | some ns => if ns.length < 64 then .ok (.int (setI ns).length) else .no
  | none => .no
theorem Rp.intsIn {K : Kr} {av : Addr → Prop} {H : Hp} {d : D} {v : V} {ns : List Int} (r : Rp K av H d v) (h : Fw.intsIn d = some ns) : ∃ l, v = .ref l ∧ (SqL K.K H l (ns.map V.int) ∨ SqT K.K H l (ns.map V.int)) := by
  unfold Fw.intsIn at h
  cases r with
  | tup g q =>
    have e := intsOf_eq (show intsOf _ = some ns from h)
    subst e
    rw [q.ints] at g
    exact ⟨_, rfl, .inr (SqT.of g)⟩
  | lst g n q =>
    have e := intsOf_eq (show intsOf _ = some ns from h)
    subst e
    rw [q.ints] at g
    exact ⟨_, rfl, .inl (SqL.of g)⟩
  | @ftp a o vs ds g n q =>
    have h : intsOf ds = some ns := h
    have e := intsOf_eq h
    subst e
    rw [q.ints] at g
    exact ⟨_, rfl, .inr (.inl (.inr ⟨o, g⟩))⟩
  | _ => exact absurd h (by simp [seqOf])
theorem rpl_ints {K : Kr} {av : Addr → Prop} {H : Hp} (ns : List Int) : RpL K av H (ns.map D.int) (ns.map V.int) := RpL.ofInts ns
section
variable {X : Cx} {Γ : Gm} {E : XK} {a : Expr} {fa : Env → Res D} {p p2 q pos : Pos}
theorem scan64 {n : Nat} (h : n < 64) : n + 1 < scanBound := Nat.lt_of_lt_of_le (show n + 1 < 65 by omega) (by decide)
theorem setI_le (ns : List Int) : (setI ns).length ≤ ns.length := by
  have h : ∀ (x : Int) (l : List Int), (insI x l).length ≤ l.length + 1 := by
    intro x l
    induction l with
    | nil => simp [insI]
    | cons y r ih => rw [insI]; split <;> (try split) <;> simp_all
  induction ns with
  | nil => exact Nat.le_refl _
  | cons x r ih => exact Nat.le_trans (h x (setI r)) (Nat.succ_le_succ ih)
theorem te_sortSet (hm : X.mg "sorted" = none) (hm2 : X.mg "set" = none) (hc : X.calm = true) (ha : PE X a (eT Γ E fa)) (hg : Gl X "sorted" := by rfl) (hg2 : Gl X "set" := by rfl) (hK : X.K = Γ.K := by rfl)
    (he : starEach [a] X.env = (false, eval a X.env) :: starEach [] X.env := by rfl) (he2 : starEach [.Call (.Name "set" p2) [a] [] q] X.env = (false, eval (.Call (.Name "set" p2) [a] [] q) X.env) :: starEach [] X.env := by rfl) (hv : bootBuiltins "sorted" = some (.builtin "sorted") := by decide +kernel) :
    PE X (.Call (.Name "sorted" p) [.Call (.Name "set" p2) [a] [] q] [] pos) (nT Γ E (app (on1 D.sortSet) (consA fa nilA))) := by
  refine PE.imp (pe_callB (cr_sortedSet hc) hg hm hv (pa_cons (pe_callTy (cr_setI hc) hg2 hm2 boot_set (ta_cons ha ta_nil he) (he := he)) pa_nil he2) (he := he2)) fun σ H Q ⟨av, ρ, env, h⟩ => ?_
  refine aT_bind (β := D) (δ := V) env h fun ds vs H1 x1 env1 r1 h1 => ?_
  cases r1 with
  | nil => exact (show False from h1).elim
  | cons r1 r2 =>
    cases r2 with
    | cons _ _ => exact (show False from h1).elim
    | nil =>
      rename_i d v
      replace h1 : ROk Γ av H1 _ (D.sortSet d) Q E := h1
      unfold D.sortSet at h1
      cases e : intsIn d with
      | none => rw [e] at h1; exact h1.elim
      | some ns =>
        rw [e] at h1
        obtain ⟨hz, h1⟩ := ROk.ifp h1
        obtain ⟨l, rfl, hl⟩ := r1.intsIn e
        rw [hK]
        refine ⟨l, ns, rfl, hl, scan64 hz, fun p1 hp1 => ?_⟩
        refine ⟨p1, _, _, rfl, upd_same, Nat.lt_of_le_of_lt (setI_le ns) hz, fun ns' p' hs hm' hl' hp' => ?_⟩
        have en : ns' = setI ns := rise_ext hs (setI_rise ns) fun z => (hm' z).trans (by rw [decide_eq_true_iff, mem_setI])
        subst en
        have x2 : Ext Γ H1 (upd H1 p1 (SetO X.w p1 (fun j => decide (j ∈ ns)) (setI ns).length)) := Ext.new _ hp1
        refine new_bind (β := Unit) (δ := Unit) (ρ := ρ) (x1.trans x2) (h1.ext x2) hp' (rpl_ints _)
theorem te_lenSet (hm : X.mg "len" = none) (hm2 : X.mg "set" = none) (hc : X.calm = true) (ha : PE X a (eT Γ E fa)) (hg : Gl X "len" := by rfl) (hg2 : Gl X "set" := by rfl) (hK : X.K = Γ.K := by rfl)
    (he : starEach [a] X.env = (false, eval a X.env) :: starEach [] X.env := by rfl) (he2 : starEach [.Call (.Name "set" p2) [a] [] q] X.env = (false, eval (.Call (.Name "set" p2) [a] [] q) X.env) :: starEach [] X.env := by rfl) :
    PE X (.Call (.Name "len" p) [.Call (.Name "set" p2) [a] [] q] [] pos) (eT Γ E (app (on1 D.lenSet) (consA fa nilA))) := by
  refine PE.imp (pe_callB cr_lenI hg hm boot_len (pa_cons (pe_callTy (cr_setI hc) hg2 hm2 boot_set (ta_cons ha ta_nil he) (he := he)) pa_nil he2) (he := he2)) fun σ H Q ⟨av, ρ, env, h⟩ => ?_
  refine aT_bind (β := D) (δ := V) env h fun ds vs H1 x1 env1 r1 h1 => ?_
  cases r1 with
  | nil => exact (show False from h1).elim
  | cons r1 r2 =>
    cases r2 with
    | cons _ _ => exact (show False from h1).elim
    | nil =>
      rename_i d v
      replace h1 : ROk Γ av H1 _ (D.lenSet d) Q E := h1
      unfold D.lenSet at h1
      cases e : intsIn d with
      | none => rw [e] at h1; exact h1.elim
      | some ns =>
        rw [e] at h1
        obtain ⟨hz, h1⟩ := ROk.ifp h1
        obtain ⟨l, rfl, hl⟩ := r1.intsIn e
        rw [hK]
        refine ⟨l, ns, rfl, hl, scan64 hz, fun p1 hp1 => ?_⟩
        exact ⟨p1, _, _, rfl, upd_same, h1 _ _ (Ext.new _ hp1) (.int _)⟩
end
end Fw
end
set_option Elab.async false
set_option linter.all false
set_option autoImplicit false
set_option maxRecDepth 100000
set_option maxHeartbeats 4000000
/-! Fw21: dicts. -/
noncomputable section
namespace Fw
open PySem PySem.Spec PyProof.Rows L2

/-! ### keys -/
def D.asKey : D → Option Key
  | .int i => some (.inl i)
  | .str x => some (.inr x)
  | _ => none
def kkL : List D → Option (List Key)
  | [] => some []
  | d :: r => match d.asKey, kkL r with | some k, some ks => some (k :: ks) | _, _ => none
/-- what a tree is as a key: an int or a text, or a tuple of these -/
def D.kk : D → Option (Key ⊕ List Key)
  | .int i => some (.inl (.inl i))
  | .str x => some (.inl (.inr x))
  | .tup ds => (kkL ds).map .inr
  | _ => none
theorem asKey_eq {d : D} {k : Key} (h : d.asKey = some k) : d = keyD k := by
  cases d <;> first | (cases h; rfl) | cases h
theorem kkL_eq : ∀ {ds : List D} {ks : List Key}, kkL ds = some ks → ds = ks.map keyD
  | [], _, h => by cases h; rfl
  | d :: r, _, h => by
    rw [kkL] at h
    cases e1 : d.asKey with
    | none => rw [e1] at h; cases h
    | some k =>
      cases e2 : kkL r with
      | none => rw [e1, e2] at h; cases h
      | some ks => rw [e1, e2] at h; cases h; rw [asKey_eq e1, kkL_eq e2]; rfl
theorem asKey_keyD (k : Key) : (keyD k).asKey = some k := by cases k <;> rfl
theorem kkL_keyD : ∀ ks : List Key, kkL (ks.map keyD) = some ks
  | [] => rfl
  | k :: r => by rw [List.map_cons, kkL, asKey_keyD, kkL_keyD r]
theorem kk_inl {d : D} {k : Key} (h : d.kk = some (.inl k)) : d = keyD k := by
  cases d with
  | int i => cases h; rfl
  | str x => cases h; rfl
  | tup ds =>
    replace h : (kkL ds).map Sum.inr = some (.inl k) := h
    cases e : kkL ds <;> rw [e] at h <;> cases h
  | _ => cases h
theorem kk_inr {d : D} {ks : List Key} (h : d.kk = some (.inr ks)) : d = .tup (ks.map keyD) := by
  cases d with
  | tup ds =>
    replace h : (kkL ds).map Sum.inr = some (.inr ks) := h
    cases e : kkL ds with
    | none => rw [e] at h; cases h
    | some l => rw [e] at h; cases h; rw [kkL_eq e]
  | _ => cases h
theorem kk_keyD (k : Key) : (keyD k).kk = some (.inl k) := by cases k <;> rfl
theorem kk_tupD (ks : List Key) : (D.tup (ks.map keyD)).kk = some (.inr ks) := by rw [D.kk, kkL_keyD]; rfl
/-- a key of the dict's own kind -/
def kOk (t : Bool) (k : D) : Bool := match k.kk with | some (.inl _) => !t | some (.inr _) => t | none => false
def lookD (ds : List (D × D)) (k : D) : Option D := (ds.find? fun p => decide (p.1.kk = k.kk)).map (·.2)
def putD (ds : List (D × D)) (k v : D) : List (D × D) := if (ds.any fun p => decide (p.1.kk = k.kk)) = true then ds.map (fun p => if p.1.kk = k.kk then (p.1, v) else p) else ds ++ [(k, v)]
section
variable {K : Kr} {av : Addr → Prop} {H : Hp}
theorem kV_rp {k : Key} {v : V} (r : Rp K av H (keyD k) v) : v = kV k := by
  cases k with
  | inl i => cases r; rfl
  | inr x => cases r; rfl
theorem kVs_rp : ∀ {ks : List Key} {vs : List V}, RpL K av H (ks.map keyD) vs → vs = ks.map kV
  | [], _, h => by cases h; rfl
  | k :: r, _, h => by
    cases h with
    | cons h1 h2 => rw [kV_rp h1, kVs_rp h2]; rfl
theorem RpK.look (k : Key) : ∀ {ds : List (D × D)} {kvs : List (Key × V)}, RpK K av H ds kvs → (∃ d v, lookD ds (keyD k) = some d ∧ valV kvs k = some v ∧ Rp K av H d v) ∨ (lookD ds (keyD k) = none ∧ valV kvs k = none)
  | _, _, .nil => .inr ⟨rfl, rfl⟩
  | _, _, .cons (k := j) (d := d) (ds := ds) (v := v) (vs := vs) h1 h2 => by
    by_cases e : j = k
    · subst e
      exact .inl ⟨d, v, by simp [lookD], valV_pos rfl, h1⟩
    · have e' : ¬ (keyD j).kk = (keyD k).kk := by rw [kk_keyD, kk_keyD]; intro z; cases z; exact e rfl
      have e1 : lookD ((keyD j, d) :: ds) (keyD k) = lookD ds (keyD k) := by simp [lookD, List.find?_cons, e']
      rw [e1, valV_neg (by exact e)]
      exact RpK.look k h2
theorem RpT.look (k : List Key) : ∀ {ds : List (D × D)} {kvs : List (List Key × V)}, RpT K av H ds kvs → (∃ d v, lookD ds (.tup (k.map keyD)) = some d ∧ valV kvs k = some v ∧ Rp K av H d v) ∨ (lookD ds (.tup (k.map keyD)) = none ∧ valV kvs k = none)
  | _, _, .nil => .inr ⟨rfl, rfl⟩
  | _, _, .cons (k := j) (d := d) (ds := ds) (v := v) (vs := vs) h1 h2 => by
    by_cases e : j = k
    · subst e
      exact .inl ⟨d, v, by simp [lookD], valV_pos rfl, h1⟩
    · have e' : ¬ (D.tup (j.map keyD)).kk = (D.tup (k.map keyD)).kk := by rw [kk_tupD, kk_tupD]; intro z; cases z; exact e rfl
      have e1 : lookD ((D.tup (j.map keyD), d) :: ds) (.tup (k.map keyD)) = lookD ds (.tup (k.map keyD)) := by simp [lookD, List.find?_cons, e']
      rw [e1, valV_neg (by exact e)]
      exact RpT.look k h2
theorem RpK.length : ∀ {ds : List (D × D)} {kvs : List (Key × V)}, RpK K av H ds kvs → ds.length = kvs.length
  | _, _, .nil => rfl
  | _, _, .cons _ r => congrArg (· + 1) (RpK.length r)
theorem RpT.length : ∀ {ds : List (D × D)} {kvs : List (List Key × V)}, RpT K av H ds kvs → ds.length = kvs.length
  | _, _, .nil => rfl
  | _, _, .cons _ r => congrArg (· + 1) (RpT.length r)
theorem RpK.any (k : Key) : ∀ {ds : List (D × D)} {kvs : List (Key × V)}, RpK K av H ds kvs → (ds.any fun p => decide (p.1.kk = (keyD k).kk)) = kvs.any fun kv => decide (kv.1 = k)
  | _, _, .nil => rfl
  | _, _, .cons (k := j) _ r => by
    rw [List.any_cons, List.any_cons, RpK.any k r]
    congr 1
    show decide ((keyD j).kk = (keyD k).kk) = decide (j = k)
    rw [kk_keyD, kk_keyD]
    by_cases e : j = k
    · subst e; simp
    · rw [decide_eq_false e, decide_eq_false (fun z => by cases z; exact e rfl)]
theorem RpT.any (k : List Key) : ∀ {ds : List (D × D)} {kvs : List (List Key × V)}, RpT K av H ds kvs → (ds.any fun p => decide (p.1.kk = (D.tup (k.map keyD)).kk)) = kvs.any fun kv => decide (kv.1 = k)
  | _, _, .nil => rfl
  | _, _, .cons (k := j) _ r => by
    rw [List.any_cons, List.any_cons, RpT.any k r]
    congr 1
    show decide ((D.tup (j.map keyD)).kk = (D.tup (k.map keyD)).kk) = decide (j = k)
    rw [kk_tupD, kk_tupD]
    by_cases e : j = k
    · subst e; simp
    · rw [decide_eq_false e, decide_eq_false (fun z => by cases z; exact e rfl)]
theorem RpK.snoc {k : Key} {d : D} {v : V} (h : Rp K av H d v) : ∀ {ds : List (D × D)} {kvs : List (Key × V)}, RpK K av H ds kvs → RpK K av H (ds ++ [(keyD k, d)]) (kvs ++ [(k, v)])
  | _, _, .nil => .cons h .nil
  | _, _, .cons h1 r => .cons h1 (RpK.snoc h r)
theorem RpT.snoc {k : List Key} {d : D} {v : V} (h : Rp K av H d v) : ∀ {ds : List (D × D)} {kvs : List (List Key × V)}, RpT K av H ds kvs → RpT K av H (ds ++ [(.tup (k.map keyD), d)]) (kvs ++ [(k, v)])
  | _, _, .nil => .cons h .nil
  | _, _, .cons h1 r => .cons h1 (RpT.snoc h r)
theorem RpK.repl {k : Key} {d : D} {v : V} (h : Rp K av H d v) : ∀ {ds : List (D × D)} {kvs : List (Key × V)}, RpK K av H ds kvs →
    RpK K av H (ds.map fun p => if p.1.kk = (keyD k).kk then (p.1, d) else p) (kvs.map fun kv => if kv.1 = k then (kv.1, v) else kv)
  | _, _, .nil => .nil
  | _, _, .cons (k := j) (d := d') (v := v') h1 r => by
    rw [List.map_cons, List.map_cons]
    by_cases e : j = k
    · subst e
      rw [if_pos rfl, if_pos rfl]
      exact .cons h (RpK.repl h r)
    · rw [if_neg (by rw [kk_keyD, kk_keyD]; intro z; cases z; exact e rfl), if_neg (by exact e)]
      exact .cons h1 (RpK.repl h r)
theorem RpT.repl {k : List Key} {d : D} {v : V} (h : Rp K av H d v) : ∀ {ds : List (D × D)} {kvs : List (List Key × V)}, RpT K av H ds kvs →
    RpT K av H (ds.map fun p => if p.1.kk = (D.tup (k.map keyD)).kk then (p.1, d) else p) (kvs.map fun kv => if kv.1 = k then (kv.1, v) else kv)
  | _, _, .nil => .nil
  | _, _, .cons (k := j) (d := d') (v := v') h1 r => by
    rw [List.map_cons, List.map_cons]
    by_cases e : j = k
    · subst e
      rw [if_pos rfl, if_pos rfl]
      exact .cons h (RpT.repl h r)
    · rw [if_neg (by rw [kk_tupD, kk_tupD]; intro z; cases z; exact e rfl), if_neg (by exact e)]
      exact .cons h1 (RpT.repl h r)
theorem RpK.put {ds : List (D × D)} {kvs : List (Key × V)} {k : Key} {d : D} {v : V} (r : RpK K av H ds kvs) (h : Rp K av H d v) : RpK K av H (putD ds (keyD k) d) (putK kvs k v) := by
  unfold putD putK
  rw [r.any k]
  split
  · exact .repl h r
  · exact .snoc h r
theorem RpT.put {ds : List (D × D)} {kvs : List (List Key × V)} {k : List Key} {d : D} {v : V} (r : RpT K av H ds kvs) (h : Rp K av H d v) : RpT K av H (putD ds (.tup (k.map keyD)) d) (putK kvs k v) := by
  unfold putD putK
  rw [r.any k]
  split
  · exact .repl h r
  · exact .snoc h r
theorem kOk_cases {t : Bool} {k : D} (h : kOk t k = true) : (t = false ∧ ∃ j, k.kk = some (.inl j)) ∨ (t = true ∧ ∃ j, k.kk = some (.inr j)) := by
  unfold kOk at h
  split at h
  · rename_i j e; exact .inl ⟨by simpa using h, j, e⟩
  · rename_i j e; exact .inr ⟨h, j, e⟩
  · cases h
/-- a key of a dict, and what stands there -/
theorem Rp.dget {t : Bool} {ds : List (D × D)} {k : D} {a : Addr} {y : V} (r : Rp K av H (.dct t ds) (.ref a)) (rk : Rp K av H k y) (hk : kOk t k = true) : ∃ o, DGet H a y o ∧ ((∃ d v, lookD ds k = some d ∧ o = some v ∧ Rp K av H d v) ∨ (lookD ds k = none ∧ o = none)) := by
  rcases kOk_cases hk with ⟨rfl, j, e⟩ | ⟨rfl, j, e⟩
  · have ek := kk_inl e
    subst ek
    have ey := kV_rp rk
    subst ey
    cases r with
    | dK g n q =>
      refine ⟨_, DGet.k (k := j) g, ?_⟩
      rcases (q.look j) with ⟨d, v, h1, h2, h3⟩ | ⟨h1, h2⟩
      · exact .inl ⟨d, v, h1, h2, h3⟩
      · exact .inr ⟨h1, h2⟩
  · have ek := kk_inr e
    subst ek
    cases rk with
    | tup gt qt =>
      have ev := kVs_rp qt
      subst ev
      cases r with
      | dT g n q =>
        refine ⟨_, DGet.t (k := j) g gt, ?_⟩
        rcases (q.look j) with ⟨d, v, h1, h2, h3⟩ | ⟨h1, h2⟩
        · exact .inl ⟨d, v, h1, h2, h3⟩
        · exact .inr ⟨h1, h2⟩
theorem Rp.isD {t : Bool} {ds : List (D × D)} {v : V} (r : Rp K av H (.dct t ds) v) : ∃ a, v = .ref a ∧ IsD H a := by
  cases r with
  | dK g n q => exact ⟨_, rfl, .inl ⟨_, .inl g⟩⟩
  | dT g n q => exact ⟨_, rfl, .inr ⟨_, .inl g⟩⟩
end

/-! ### the trees -/
def D.dget : D → D → Res D := fun d k => match d with
  | .dct t ds => if kOk t k = true then (match lookD ds k with | some v => .ok v | none => .no) else .no
  | _ => .no
def D.inD : D → D → Res D := fun k d => match d with
  | .dct t ds => if kOk t k = true then .ok (.bl (lookD ds k).isSome) else .no
  | _ => .no
def D.ninD : D → D → Res D := fun k d => match d with
  | .dct t ds => if kOk t k = true then .ok (.bl (!(lookD ds k).isSome)) else .no
  | _ => .no
def getG (fd fk fx : Env → Res D) : Env → Res D := fun ρ => (fd ρ).bind fun d => match d with
  | .dct t ds => (fk ρ).bind fun k => (fx ρ).bind fun x => if kOk t k = true then .ok ((lookD ds k).getD x) else .no
  | _ => .no
section
variable {X : Cx} {Γ : Gm} {E : XK} {x : Str} {a b c o e : Expr} {es : List Expr} {pos p p2 pos' apos cpos : Pos} {fa fb fc : Env → Res D} {k : Nat}
theorem te_dget (hr : Room k X.A) (ha : PE X a (eT Γ E fa)) (hb : PE X b (eT Γ E fb)) (hs : NoSl b := by intro _ _; rfl) : PE X (.Subscript a b pos) (eT Γ E (bin D.dget fa fb)) :=
  PE.imp (pe_dget (by have := hr.units; omega) ha hb hs) fun σ H Q ⟨av, ρ, env, h⟩ => eT_bind env h fun d v H1 x1 env1 r1 h1 => eT_bind env1 h1 fun e u H2 x2 env2 r2 h2 => by
    replace r1 := r1.ext x2
    unfold D.dget at h2
    cases d with
    | dct t ds =>
      obtain ⟨hk, h2⟩ := ROk.ifp h2
      obtain ⟨a', ea, _⟩ := r1.isD
      subst ea
      obtain ⟨o, hg, q⟩ := r1.dget r2 hk
      rcases q with ⟨d', v', h3, h4, h5⟩ | ⟨h3, h4⟩
      · subst h4
        simp only [h3] at h2
        exact ⟨a', v', rfl, hg, h2.here h5⟩
      · simp only [h3] at h2
        exact h2.elim
    | _ => exact h2.elim
theorem in_fit {σ : L2.St} {H : Hp} {Q : VK} (neg : Bool) (h : eT Γ E (bin (if neg then D.ninD else D.inD) fb fa) σ H Q) : eT Γ E fb σ H fun y H1 => eT Γ E fa σ H1 fun x H2 => ∃ a o, x = .ref a ∧ DGet H2 a y o ∧ Q (.bl (if neg then !o.isSome else o.isSome)) H2 := by
  obtain ⟨av, ρ, env, h⟩ := h
  refine eT_bind env h fun e u H1 x1 env1 r1 h1 => eT_bind env1 h1 fun d v H2 x2 env2 r2 h2 => ?_
  replace r1 := r1.ext x2
  cases d with
  | dct t ds =>
    have hk : kOk t e = true := by
      by_cases z : kOk t e = true
      · exact z
      · exfalso
        cases neg
        · simp only [Bool.false_eq_true, if_false, D.inD, if_neg z] at h2; exact h2
        · simp only [if_true, D.ninD, if_neg z] at h2; exact h2
    obtain ⟨a', ea, _⟩ := r2.isD
    subst ea
    obtain ⟨o, hg, q⟩ := r2.dget r1 hk
    refine ⟨a', o, rfl, hg, ?_⟩
    have eo : o.isSome = (lookD ds e).isSome := by
      rcases q with ⟨d', v', h3, h4, h5⟩ | ⟨h3, h4⟩
      · rw [h3, h4]; rfl
      · rw [h3, h4]; rfl
    rw [eo]
    cases neg
    · simp only [Bool.false_eq_true, if_false, D.inD, if_pos hk] at h2 ⊢
      exact h2.here (.bl _)
    · simp only [if_true, D.ninD, if_pos hk] at h2 ⊢
      exact h2.here (.bl _)
  | _ =>
    exfalso
    cases neg
    · exact h2
    · exact h2
theorem te_inD (hr : Room k X.A) (hb : PE X b (eT Γ E fb)) (ha : PE X a (eT Γ E fa)) (hm : behindInMarks .In a = false := by rfl) : PE X (.Compare b [.In] [a] pos) (eT Γ E (bin D.inD fb fa)) :=
  PE.imp (pe_cmp (pc_din (by have := hr.units; omega) hb ha) hm) fun σ H Q h => in_fit false h
theorem te_ninD (hr : Room k X.A) (hb : PE X b (eT Γ E fb)) (ha : PE X a (eT Γ E fa)) (hm : behindInMarks .NotIn a = false := by rfl) : PE X (.Compare b [.NotIn] [a] pos) (eT Γ E (bin D.ninD fb fa)) :=
  PE.imp (pe_cmp (pc_dnotin (by have := hr.units; omega) hb ha) hm) fun σ H Q h => in_fit true h
theorem tb_inD (hr : Room k X.A) (hb : PE X b (eT Γ E fb)) (ha : PE X a (eT Γ E fa)) (hm : behindInMarks .In a = false := by rfl) : PT X (.Compare b [.In] [a] pos) (bT Γ E (asTest (bin D.inD fb fa))) :=
  PT.imp (pt_cmp (pc_din (by have := hr.units; omega) hb ha) hm) fun σ H Q h => in_fit false (asTest_val σ H Q h)
theorem tb_ninD (hr : Room k X.A) (hb : PE X b (eT Γ E fb)) (ha : PE X a (eT Γ E fa)) (hm : behindInMarks .NotIn a = false := by rfl) : PT X (.Compare b [.NotIn] [a] pos) (bT Γ E (asTest (bin D.ninD fb fa))) :=
  PT.imp (pt_cmp (pc_dnotin (by have := hr.units; omega) hb ha) hm) fun σ H Q h => in_fit true (asTest_val σ H Q h)
/-- d.get(k, x) -/
theorem te_get (hr : Room k X.A) (ha : PE X a (eT Γ E fa)) (hb : PE X b (eT Γ E fb)) (hc : PE X c (eT Γ E fc)) (m : M2 X a "get" apos b c cpos := by exact ⟨rfl, rfl, rfl, rfl⟩) :
    PE X (.Call (.Attribute a "get" apos) [b, c] [] cpos) (eT Γ E (getG fa fb fc)) :=
  PE.imp (pe_dget2 (by have := hr.units; omega) ha hb hc m) fun σ H Q ⟨av, ρ, env, h⟩ => eT_bind env h fun d v H1 x1 env1 r1 h1 => by
    cases d with
    | dct t ds =>
      obtain ⟨a', ea, hD⟩ := r1.isD
      subst ea
      refine ⟨a', rfl, hD, eT_bind env1 h1 fun e u H2 x2 env2 r2 h2 => eT_bind env2 h2 fun z w H3 x3 env3 r3 h3 => ?_⟩
      obtain ⟨hk, h3⟩ := ROk.ifp h3
      obtain ⟨o, hg, q⟩ := ((r1.ext x2).ext x3).dget (r2.ext x3) hk
      refine ⟨o, hg, ?_⟩
      rcases q with ⟨d', v', h4, h5, h6⟩ | ⟨h4, h5⟩
      · rw [h4] at h3
        subst h5
        exact h3.here h6
      · rw [h4] at h3
        subst h5
        exact h3.here r3
    | _ => exact (show False from h1).elim
end
end Fw
end
set_option Elab.async false
set_option linter.all false
set_option autoImplicit false
set_option maxRecDepth 100000
set_option maxHeartbeats 4000000
/-! Fw22: d[k] = v; dict of a tuple of pairs. -/
noncomputable section
namespace Fw
open PySem PySem.Spec PyProof.Rows L2

/-! ### d[k] = v of a dict of one's own -/
def dputO (f : Env → Res D) (i : Nat) (fk : Env → Res D) : SEnv → Out := fun ρ => bindO (f ρ.all) fun d => purO d (bindO (contOf ρ i) fun l => match l with
  | .dct t ds => bindO (fk ρ.all) fun k => if kOk t k = true ∧ ds.length < lim then putO ρ i (.dct t (putD ds k d)) else .no
  | _ => .no)
theorem SOk.if2 {Γ : Gm} {amb : Addr → Prop} {mr : Mr} {H0 : Hp} {tmp : List (V × D)} {Z : Ends} {E : XK} {q : Prop} [Decidable q] {o : Out} (h : SOk Γ amb H0 mr tmp (if q then o else .no) Z E) : q ∧ SOk Γ amb H0 mr tmp o Z E := SOk.ifp h
theorem rpk_write {K : Kr} {av : Addr → Prop} {H : Hp} {a : Addr} {o u : HO} {ds : List (D × D)} {vs : List (Key × V)} (h : H a = some o) (ho : contO o) (n : av a) (r : RpK K av H ds vs) : RpK K av (upd H a u) ds vs := r.stay (Stay.write h ho n)
theorem rpt_write {K : Kr} {av : Addr → Prop} {H : Hp} {a : Addr} {o u : HO} {ds : List (D × D)} {vs : List (List Key × V)} (h : H a = some o) (ho : contO o) (n : av a) (r : RpT K av H ds vs) : RpT K av (upd H a u) ds vs := r.stay (Stay.write h ho n)
section
variable {X : Cx} {Γ : Gm} {E : XK} {x : Str} {a b c o e : Expr} {es : List Expr} {pos p p2 pos' apos cpos : Pos} {f fa fb fc : Env → Res D} {k : Nat}
theorem ts_dput (i : Nat) {np : Pos} (hr : Room k X.A) (h : PE X e (eT Γ E f)) (hj : PE X b (eT Γ E fb)) (hi : X.N[i]? = some x := by rfl) (hv : Vis X.env.scope x := by first | exact Or.inl rfl | exact Or.inr (Or.inl rfl) | exact Or.inr (Or.inr rfl)) (hd : (x == ("__debug__" : Str)) = false := by decide) (hcd : (x == ("__classdict__" : Str)) = false := by decide)
    (hs : swapsWith e (some (.Subscript (.Name x np) b pos')) pos.line X.env = pure false := by rfl) : PS X (.Assign [.Subscript (.Name x np) b pos'] e pos) (sT Γ E (dputO f i fb)) := by
  refine PS.imp (ps_dput (by have := hr.units; omega) (pv i hi hv hd hcd) hj h hs) fun Z σ H ⟨amb, H0, mr, tmp, ρ, ⟨ad, S⟩, h⟩ => ?_
  refine eT_out S S.envAll h fun d v H1 x1 S1 r1 h1 => ?_
  obtain ⟨hp, h1⟩ := SOk.ifp h1
  obtain ⟨s, l, hs, hc, c, h1⟩ := cont_out S1 h1
  obtain ⟨g1, g2⟩ := S1.own i l c
  have hav : avO amb ad ρ (ad i) := .inr ⟨i, l, c, rfl⟩
  cases l with
  | dct t ds =>
    refine ⟨_, g1, ?_⟩
    refine eT_out S1 S1.envAll h1 fun y w H2 x2 S2 r2 h2 => ?_
    obtain ⟨⟨hk, hl⟩, h2⟩ := SOk.ifp h2
    rcases kOk_cases hk with ⟨rfl, j, e⟩ | ⟨rfl, j, e⟩
    · obtain ⟨vs, g3, g4⟩ := g2
      have g3' := x2.keepN g3 (by intro _ z; cases z) (by intro _ z; cases z)
      have ek := kk_inl e
      subst ek
      have ey := kV_rp r2
      subst ey
      refine ⟨ad i, _, rfl, DPut.k g3' (by rw [lim_eq, ← g4.length]; exact hl), putO_out S2 hs hc h2 ⟨_, upd_same, RpK.put (rpk_write g3' True.intro hav (g4.stay (x2.stay _))) (rp_write g3' True.intro hav ((r1.pureUp hp).ext x2))⟩⟩
    · obtain ⟨vs, g3, g4⟩ := g2
      have g3' := x2.keepN g3 (by intro _ z; cases z) (by intro _ z; cases z)
      have ek := kk_inr e
      subst ek
      cases r2 with
      | tup gt qt =>
        have ev := kVs_rp qt
        subst ev
        refine ⟨ad i, _, rfl, DPut.t g3' gt (by rw [lim_eq, ← g4.length]; exact hl), putO_out S2 hs hc h2 ⟨_, upd_same, RpT.put (rpt_write g3' True.intro hav (g4.stay (x2.stay _))) (rp_write g3' True.intro hav ((r1.pureUp hp).ext x2))⟩⟩
  | _ => exact (show False from h1).elim
end

/-! ### dict(t) of a tuple of pairs -/
section
variable {prog : Program} {w : World} {A : Around} {E : Value → Shared → Prop}
theorem dict_of_tuple {s : Shared} {l : Addr} {ol : Obj} {items : Array Value} {n : Nat} {prs : List (Key × Value)} {Q : Value → Shared → Prop} (hh : A.handled = none) (at_ : s.heap.get? l = some ol) (kind : ol.cls = .type "tuple") (bare : ol.dict = none)
    (dat : ol.data = .seq items n) (num : items.size = prs.length) (small : prs.length ≤ sizeLine) (each : ∀ (j : Nat) (q : Key × Value), prs[j]? = some q → ∃ (b : Addr) (u : Value), items[j]? = some (.ref b) ∧ IsTup s.heap b #[u, q.2] ∧ keyIs q.1 u = true)
    (k : ∀ h' tk, h'.DictOf (mixKind prog w) s.heap.objs.size (merged [] prs) → (∀ b o, s.heap.get? b = some o → h'.get? b = some o) → Q (.ref s.heap.objs.size) { s with heap := h', toks := tk }) :
    wpAny (model prog w) A (call (.type "dict") [.ref l]) Q E s := by
  have pick : ∀ j : Nat, ∃ p : Addr × Value, ∀ q, prs[j]? = some q → items[j]? = some (.ref p.1) ∧ IsTup s.heap p.1 #[p.2, q.2] ∧ keyIs q.1 p.2 = true := by
    intro j
    cases e : prs[j]? with
    | none => exact ⟨(0, .none), fun q z => by cases z⟩
    | some q0 =>
      obtain ⟨b, u, r⟩ := each j q0 e
      exact ⟨(b, u), fun q z => by cases z; exact r⟩
  obtain ⟨F, hF⟩ := Classical.axiomOfChoice pick
  let ps : List (Value × Value) := prs.mapIdx fun j q => ((F j).2, q.2)
  have got : ∀ {j : Nat} {x y : Value}, ps[j]? = some (x, y) → ∃ q, prs[j]? = some q ∧ x = (F j).2 ∧ y = q.2 := by
    intro j x y e
    rw [List.getElem?_mapIdx] at e
    cases e2 : prs[j]? with
    | none => rw [e2] at e; cases e
    | some q => rw [e2] at e; cases e; exact ⟨q, rfl, rfl, rfl⟩
  have len : ps.length = prs.length := List.length_mapIdx
  refine call_dict_pairs (knd := mixKind prog w) (kvs := prs) (PairArg.tuple l items (fun j => (F j).1) ps) hh ⟨⟨ol, n, at_, kind, bare, dat⟩, num.trans len.symm, ?_⟩ ⟨len.symm, ?_⟩ (by rw [len]; exact small) fun h' tk d keep => k h' tk d fun b o => keep b o (by simp)
  · intro j x y e
    obtain ⟨q, e2, rfl, rfl⟩ := got e
    obtain ⟨r1, r2, _⟩ := hF j q e2
    exact ⟨r1, .inl r2⟩
  · intro j x y e
    obtain ⟨q, e2, rfl, rfl⟩ := got e
    exact ⟨q.1, e2, (hF j q e2).2.2⟩
end
end Fw
end
set_option Elab.async false
set_option linter.all false
set_option autoImplicit false
set_option maxRecDepth 100000
set_option maxHeartbeats 4000000
/-! Fw23: dict(pairs) over trees; enumerate. -/
noncomputable section
namespace Fw
open PySem PySem.Spec PyProof.Rows L2

/-- a new container of any kind -/
theorem new_own {Γ : Gm} {E : XK} {av : Addr → Prop} {H H1 : Hp} {p : Addr} {d : D} {o : HO} {Q : VK} (x1 : Ext Γ H H1) (h : ROk Γ av H1 (fun H' d v => ∃ p, v = V.ref p ∧ H p = none ∧ OwnAt Γ.kr (fun a => av a ∨ a = p) H' d p) (.ok d) Q E) (hp : H1 p = none)
    (w : OwnAt Γ.kr (fun a => av a ∨ a = p) (upd H1 p o) d p) : Q (.ref p) (upd H1 p o) := by
  refine h _ _ (Ext.new _ hp) ⟨p, rfl, ?_, w⟩
  cases q : H p with
  | none => rfl
  | some u => exact absurd hp (x1.there p (by rw [q]; intro z; cases z))

/-! ### dict(pairs) -/
def pairsOf : List D → Option (List (Key × D))
  | [] => some []
  | .tup [k, v] :: r => match k.asKey, pairsOf r with | some j, some l => some ((j, v) :: l) | _, _ => none
  | _ :: _ => none
def mergeD (acc : List (D × D)) (l : List (Key × D)) : List (D × D) := l.foldl (fun a p => putD a (keyD p.1) p.2) acc
def prsOf : D → Option (List (Key × D))
  | .lst ds => pairsOf ds
  | .ftp ds => pairsOf ds
  | _ => none
def D.toDct (d : D) : Res D := match prsOf d with | some l => .ok (.dct false (mergeD [] l)) | none => .no
section
variable {K : Kr} {av : Addr → Prop} {H : Hp}
inductive RpP (K : Kr) (av : Addr → Prop) (H : Hp) : List (Key × D) → List (Key × V) → Prop
  | nil : RpP K av H [] []
  | cons {k : Key} {d : D} {l : List (Key × D)} {v : V} {vs : List (Key × V)} : Rp K av H d v → RpP K av H l vs → RpP K av H ((k, d) :: l) ((k, v) :: vs)
theorem RpL.pairs : ∀ {ds : List D} {vs : List V} {l : List (Key × D)}, RpL K av H ds vs → pairsOf ds = some l → ∃ (ps : List Addr) (kvs : List (Key × V)), vs = ps.map V.ref ∧ Paired (fun p kv => SqT K.K H p [kV kv.1, kv.2]) ps kvs ∧ RpP K av H l kvs
  | _, _, _, .nil, e => by cases e; exact ⟨[], [], rfl, .nil, .nil⟩
  | _, _, _, .cons (d := d) (ds := ds) r1 r2, e => by
    cases r1 with
    | @tup a us es g q =>
      cases q with
      | nil => cases e
      | cons q1 q2 =>
        cases q2 with
        | nil => cases e
        | cons q2 q3 =>
          cases q3 with
          | cons _ _ => cases e
          | nil =>
            rw [pairsOf] at e
            rename_i k kv v vv
            cases e1 : D.asKey k with
            | none => rw [e1] at e; cases e
            | some j =>
              cases e2 : pairsOf ds with
              | none => rw [e1, e2] at e; cases e
              | some l' =>
                rw [e1, e2] at e
                cases e
                obtain ⟨ps, kvs, h1, h2, h3⟩ := RpL.pairs r2 e2
                have ek := asKey_eq e1
                subst ek
                have ekv := kV_rp q1
                subst ekv
                exact ⟨a :: ps, (j, _) :: kvs, by rw [List.map_cons, h1], .cons (SqT.of g) h2, .cons q2 h3⟩
    | _ => cases e
theorem rpk_merge {l : List (Key × D)} {kvs : List (Key × V)} (p : RpP K av H l kvs) : ∀ {acc : List (D × D)} {acc' : List (Key × V)}, RpK K av H acc acc' → RpK K av H (mergeD acc l) (mergeK acc' kvs) := by
  induction p with
  | nil => exact fun r => r
  | cons h t ih => exact fun r => ih (RpK.put r h)
theorem RpP.stay {K : Kr} {av av' : Addr → Prop} {H H' : Hp} (S : Stay K av av' H H') {l : List (Key × D)} {kvs : List (Key × V)} (p : RpP K av H l kvs) : RpP K av' H' l kvs := by
  induction p with
  | nil => exact .nil
  | cons h t ih => exact .cons (h.stay S) ih
end
section
variable {X : Cx}
/-- dict(t) of a tuple of pairs whose object is known -/
theorem cr_dictT (hcalm : X.calm = true) : CallR X (.type "dict") (fun xs H Q => ∃ (a : Addr) (ob : Obj) (ps : List Addr) (kvs : List (Key × V)), xs = [.ref a] ∧ H a = some (.frz ob (.tup (ps.map V.ref))) ∧ ob.dict = none ∧ Paired (fun p kv => SqT X.K H p [kV kv.1, kv.2]) ps kvs ∧
    ∀ p, H p = none → Q (.ref p) (upd H p (.dK (mergeK [] kvs)))) := by
  intro pins s σ H xs us Q I r q
  obtain ⟨a, ob, ps, kvs, rfl, hq, hd, hp, q⟩ := q
  rw [Vals.ref1 r]
  obtain ⟨ho, hz, its, rv, hit⟩ := I.hok a _ hq
  obtain ⟨ob', ho', hc, n, hdat⟩ := hit
  rw [ho] at ho'
  cases ho'
  have ei := refs_at rv
  subst ei
  rw [List.length_map] at hz
  obtain ⟨prs, rel, hl, hpr⟩ := L2.pairs_of I hp
  refine dict_of_tuple (prs := prs) (I.ok.hd hcalm) ho hc hd hdat (by simp [hl]) (by rw [hl]; exact hz) (fun j q' e => ?_) fun h' tk hd' k => ?_
  · obtain ⟨b, u, e1, e2, e3⟩ := hpr j q' e
    exact ⟨b, u, by simp [e1], e2, e3⟩
  · have hm : (s.heap.objs.size == sysModules) = false := beq_eq_false_iff_ne.mpr (Nat.ne_of_gt I.big)
    have hlen : (mergeK [] kvs).length ≤ sizeLine := Nat.le_trans (length_mergeK kvs []) (by rw [List.length_nil, Nat.zero_add, rel.length, hl]; exact hz)
    have new : ObjOk X.prog X.w (upd H s.heap.objs.size (.dK (mergeK [] kvs))) h' s.heap.objs.size (.dK (mergeK [] kvs)) := ⟨hlen, hm, merged [] prs, KV.merge rel .nil, hd'⟩
    exact ⟨.ref s.heap.objs.size, _, I.laid (t' := tk) k (Nat.le_refl _) new, rfl, q _ (I.hok.fresh (Nat.le_refl _))⟩
/-- tuple(l), its object known -/
theorem cr_tupleZ : CallR X (.type "tuple") (fun xs H Q => ∃ p ys, xs = [.ref p] ∧ SqL X.K H p ys ∧ ∀ l o, H l = none → o.dict = none → Q (.ref l) (upd H l (.frz o (.tup ys)))) := by
  intro pins s σ H xs us Q I r h
  obtain ⟨p, ys, rfl, hq, q⟩ := h
  rw [Vals.ref1 r]
  obtain ⟨its, r', pl, hz⟩ := I.list hq
  have hlen := r'.length
  refine call_tuple_list pl.isList (fun h' kp => ?_) (by simp only [List.size_toArray]; omega)
  have I1 : Inv X pins σ H { s with heap := h' } := I.kept (t' := s.toks) kp
  generalize hob : ({ cls := .type "tuple", data := .seq its.toArray } : Obj) = ob
  have new : ObjOk X.prog X.w (upd H h'.objs.size (.frz ob (.tup ys))) (h'.push ob) h'.objs.size (.frz ob (.tup ys)) := by
    rw [← hob]
    exact ⟨Heap.get?_push_size _ rfl, hz, its, r', IsTup.new _ _⟩
  have I2 := I1.laid (t' := s.toks) (fun b o e => Heap.get?_push_of_some _ e) (Nat.le_refl _) new
  exact ⟨.ref h'.objs.size, _, I2, rfl, q _ ob (I1.hok.fresh (Nat.le_refl _)) (by rw [← hob])⟩
end
def D.toTupZ : D → Res D
  | .lst ds => .ok (.ftp ds)
  | _ => .no
section
variable {X : Cx} {Γ : Gm} {E : XK} {a : Expr} {fa : Env → Res D} {p pos : Pos}
theorem te_tupleZ (hm : X.mg "tuple" = none) (ha : PE X a (eT Γ E fa)) (hg : Gl X "tuple" := by rfl) (he : starEach [a] X.env = (false, eval a X.env) :: starEach [] X.env := by rfl) (hK : X.K = Γ.K := by rfl) :
    PE X (.Call (.Name "tuple" p) [a] [] pos) (eT Γ E (app (on1 D.toTupZ) (consA fa nilA))) := by
  refine te_callTy (r := fun xs H Q => ∃ p ys, xs = [.ref p] ∧ SqL X.K H p ys ∧ ∀ l o, H l = none → o.dict = none → Q (.ref l) (upd H l (.frz o (.tup ys)))) cr_tupleZ ?_ boot_tuple hm (ta_cons ha ta_nil he) hg (he := he)
  rw [hK]
  refine (fitC1 (r := fun v H Q => ∃ p ys, v = .ref p ∧ SqL Γ.K H p ys ∧ ∀ l o, H l = none → o.dict = none → Q (.ref l) (upd H l (.frz o (.tup ys)))) fun av H d v Q wf r h => ?_).imp fun vs H Q ⟨v, e, p, ys, e', h⟩ => ⟨p, ys, by rw [e, e'], h⟩
  cases r with
  | @lst a vs ds g1 n g2 => exact ⟨_, _, rfl, SqL.of g1, fun p o hp ho => h.new hp (.ftp upd_same ho (g2.ext (Ext.new _ hp)))⟩
  | _ => exact (show False from h).elim
theorem te_dictOf (hm : X.mg "dict" = none) (hc : X.calm = true) (ha : PE X a (eT Γ E fa)) (hg : Gl X "dict" := by rfl) (he : starEach [a] X.env = (false, eval a X.env) :: starEach [] X.env := by rfl) (hK : X.K = Γ.K := by rfl) (hv : bootBuiltins "dict" = some (.type "dict") := by decide +kernel) :
    PE X (.Call (.Name "dict" p) [a] [] pos) (nT Γ E (app (on1 D.toDct) (consA fa nilA))) := by
  have hor : CallR X (.type "dict") (fun xs H Q => (∃ (a : Addr) (ps : List Addr) (kvs : List (Key × V)), xs = [.ref a] ∧ SqL X.K H a (ps.map V.ref) ∧ Paired (fun p kv => SqT X.K H p [kV kv.1, kv.2]) ps kvs ∧ ∀ p, H p = none → Q (.ref p) (upd H p (.dK (mergeK [] kvs)))) ∨
      ∃ (a : Addr) (ob : Obj) (ps : List Addr) (kvs : List (Key × V)), xs = [.ref a] ∧ H a = some (.frz ob (.tup (ps.map V.ref))) ∧ ob.dict = none ∧ Paired (fun p kv => SqT X.K H p [kV kv.1, kv.2]) ps kvs ∧ ∀ p, H p = none → Q (.ref p) (upd H p (.dK (mergeK [] kvs)))) := by
    intro pins s σ H vs us Q I r h
    rcases h with h | h
    · exact call_dictP hc pins s σ H vs us Q I r h
    · exact cr_dictT hc pins s σ H vs us Q I r h
  refine PE.imp (pe_callTy hor hg hm hv (ta_cons ha ta_nil he) (he := he)) fun σ H Q ⟨av, ρ, env, h⟩ => ?_
  refine aT_bind (β := D) (δ := V) env h fun ds vs H1 x1 env1 r1 h1 => ?_
  rw [hK]
  cases r1 with
  | nil => exact (show False from h1).elim
  | cons r1 r2 =>
    cases r2 with
    | cons _ _ => exact (show False from h1).elim
    | nil =>
      rename_i d v
      replace h1 : ROk Γ av H1 _ (D.toDct d) Q E := h1
      unfold D.toDct at h1
      cases e : prsOf d with
      | none => rw [e] at h1; exact h1.elim
      | some l =>
        rw [e] at h1
        have fin : ∀ (kvs : List (Key × V)), RpP Γ.kr av H1 l kvs → ∀ p, H1 p = none → Q (.ref p) (upd H1 p (.dK (mergeK [] kvs))) := fun kvs rp p hp =>
          new_own x1 h1 hp ⟨_, upd_same, rpk_merge (rp.stay (stay_new (Ext.new _ hp) hp)) .nil⟩
        cases r1 with
        | @lst a vs es g n q =>
          obtain ⟨ps, kvs, e1, e2, e3⟩ := q.pairs e
          subst e1
          exact .inl ⟨a, ps, kvs, rfl, SqL.of g, e2, fin kvs e3⟩
        | @ftp a o vs es g n q =>
          obtain ⟨ps, kvs, e1, e2, e3⟩ := q.pairs e
          subst e1
          exact .inr ⟨a, o, ps, kvs, rfl, g, n, e2, fin kvs e3⟩
        | _ => cases e
end
end Fw
end
set_option Elab.async false
set_option linter.all false
set_option autoImplicit true
set_option maxRecDepth 100000
set_option maxHeartbeats 4000000
/-! Fw24: enumerate over a tuple, from the library's walks (Draws). -/
noncomputable section
namespace FwE
open PySem PySem.Spec PyProof.Rows L2

/-- where enumerate stands over the tuple at a, its items ws, i of them handed out -/
structure EnAt (a e it : Addr) (i : Nat) (h : Heap) : Prop where
  apart : e ≠ it ∧ e ≠ a ∧ a ≠ it
  head : ∃ was, IsEnum h e it ((i : Nat) : Int) was
  iter : h.IsTupleIter it a i
theorem EnAt.lt {a e it : Addr} {i : Nat} {h : Heap} (t : EnAt a e it i h) : e < h.objs.size ∧ it < h.objs.size := by
  obtain ⟨was, p⟩ := t.head
  obtain ⟨o, q, _⟩ := t.iter
  exact ⟨Heap.lt_size p, Heap.lt_size q⟩
theorem EnAt.keep {a e it : Addr} {i : Nat} {h k : Heap} (t : EnAt a e it i h) (f : ∀ b, b = e ∨ b = it → ∀ o, h.get? b = some o → k.get? b = some o) : EnAt a e it i k :=
  ⟨t.apart, t.head.imp fun _ p => f e (.inl rfl) _ p, t.iter.at fun o q => f it (.inr rfl) o q⟩

/-- the items of (i, x), as they come -/
def IteT (K : PySem.W.Frag) (a : Addr) : It :=
  ⟨fun i H => ∃ (xs : List V) (x : V), SqT K H a xs ∧ xs[i]? = some x, fun i H v H' => ∃ T x, v = .ref T ∧ H T = none ∧ H' = upd H T (.tup [.int (i : Nat), x]) ∧ ∀ xs, SqT K H a xs → xs[i]? = some x, fun i H => ∃ xs : List V, SqT K H a xs ∧ xs.length ≤ i⟩

section
variable {X : Cx} {pins : List (Addr × Obj)} {s : Shared} {σ : L2.St} {H : Hp} {E : Value → Shared → Prop} {tgs : List Expr} {kk : Nat} {pt : Pos} {a e it : Addr} {i : Nat}
/-- what the library tells of one turn, of a tuple told by the trees -/
theorem turn_one (hc : X.calm = true) (I : Inv X pins σ H s) (free : ∀ b, b ∈ [e, it] → FpOk X pins H b) (t : EnAt a e it i s.heap) {xs : List V} {x : V} (q : SqT X.K H a xs) (hx : xs[i]? = some x) :
    wpAny (model X.prog X.w) X.A (pyNext (.ref e)) (fun r s1 => ∃ u, r = some u ∧
      wpAny (model X.prog X.w) X.A (letOwnedTupleGo (.Tuple tgs kk pt) (.ref e) u) (fun _ s2 => ∃ y H', Inv X pins σ H' s2 ∧ RelV y u ∧ (IteT X.K a).yld i H y H' ∧ EnAt a e it (i + 1) s2.heap ∧ ∀ b ∈ [e, it], H' b = none) E s1) E s := by
  obtain ⟨ws, rel, at_, _⟩ := I.tuple q
  obtain ⟨u, atu, relu⟩ := rel.get hx
  obtain ⟨n1, n2, n3⟩ := t.apart
  obtain ⟨was, en⟩ := t.head
  have hi : i < ws.toArray.size := by simpa using (List.getElem?_eq_some_iff.mp atu).1
  have away : e ∉ [it, a] := by simp [n1, n2]
  refine wpAny_pyNext_enum_itemD (Draws.tuple (A := X.A.in1) (I.ok.hd hc) it a n3 ws.toArray) en ⟨t.iter, at_⟩ hi n1 away fun x' h1 tk px out st tup sz old => ⟨_, rfl, ?_⟩
  have ex : x' = u := by
    have z : ws.toArray[i]? = some u := by simpa using atu
    exact Option.some.inj (px.symm.trans z)
  subst ex
  refine wpAny_letOwnedTupleGo_enum (s := { s with heap := h1, toks := tk + 1 }) out fun h2 en2 same => ?_
  have lts := t.lt
  have nT : s.heap.objs.size ≠ e := Nat.ne_of_gt lts.1
  have tup2 := (same.2 s.heap.objs.size nT).trans tup
  have made : ObjOk X.prog X.w (upd H s.heap.objs.size (.tup [.int (i : Nat), x])) h2 s.heap.objs.size (.tup [.int (i : Nat), x]) :=
    ⟨by show 2 ≤ sizeLine; decide, _, .cons (b := Value.int i tk) ⟨_, rfl⟩ (.cons relu .nil), ⟨_, tup2, rfl, _, rfl⟩⟩
  have stay : ∀ b ob, b ∉ [e, it] → s.heap.get? b = some ob → h2.get? b = some ob := by
    intro b ob nb g
    have b1 : b ≠ e := fun z => nb (by simp [z])
    have b2 : b ≠ it := fun z => nb (by simp [z])
    exact (same.2 b b1).trans (old b ob b1 b2 g)
  have J := I.turnedNew (h' := h2) (t' := tk + 1) stay free (Nat.le_refl _) made
  refine ⟨.ref s.heap.objs.size, _, J, rfl, ⟨_, x, rfl, I.hok.fresh (Nat.le_refl _), rfl, fun ys hy => (I.tuple_inj hy q) ▸ hx⟩, ⟨t.apart, ⟨x', ?_⟩, st.1.at fun o g => (same.2 it (Ne.symm n1)).trans g⟩, ?_⟩
  · rw [show ((i + 1 : Nat) : Int) = (i : Int) + 1 by omega]
    exact en2
  · intro b hb
    have lb : b < s.heap.objs.size := by
      rcases List.mem_cons.mp hb with z | z
      · rw [z]; exact lts.1
      · rw [List.mem_singleton.mp z]; exact lts.2
    rw [upd_ne (Nat.ne_of_lt lb)]
    exact (free b hb).1
/-- the walk that has nothing left -/
theorem drained {P : Program} {w : World} {A : Around} (hh : A.handled = none) (n3 : a ≠ it) {ws : Array Value} (hi : ws[i]? = none) :
    Draws P w A it [it, a] i (fun _ _ => False) (fun j h => j = i ∧ h.IsTupleIter it a i ∧ h.IsTuple a ws) where
  live := fun _ _ t => t.2.1.imp fun _ q => q.1
  frame := fun _ _ _ t f => ⟨t.1, t.2.1.at fun o q => f it (by simp) o q, t.2.2.at fun o q => f a (by simp) o q⟩
  item := fun j _ _ _ lt t _ => absurd t.1 (Nat.ne_of_lt lt)
  done := fun s Q E t k => RZ.nextOf_tuple_end hh t.2.1 t.2.2 hi k
theorem turn_last (hc : X.calm = true) (I : Inv X pins σ H s) (free : ∀ b, b ∈ [e, it] → FpOk X pins H b) (t : EnAt a e it i s.heap) {xs : List V} (q : SqT X.K H a xs) (hx : xs.length ≤ i) :
    wpAny (model X.prog X.w) X.A (pyNext (.ref e)) (fun r s1 => r = none ∧ Inv X pins σ H s1) E s := by
  obtain ⟨ws, rel, at_, _⟩ := I.tuple q
  obtain ⟨n1, n2, n3⟩ := t.apart
  obtain ⟨was, en⟩ := t.head
  have sz := rel.length
  obtain ⟨f1, f2, _, f4, f5, f6⟩ := free it (by simp)
  refine wpAny_pyNext_enum_endD (drained (A := X.A.in1) (i := i) (ws := ws.toArray) (I.ok.hd hc) n3 (by simp; omega)) en ⟨rfl, t.iter, at_⟩ fun h1 old => ⟨rfl, ?_⟩
  exact I.turned (t' := s.toks) (fun b o nb g => old b o nb g) f1 f2 f4 f5 f6
end
theorem turn_enumT {P : Program} {w : World} {K : PySem.W.Frag} {tgs : List Expr} {kk : Nat} {pt : Pos} (a e it : Addr) : Turn P w K (.Tuple tgs kk pt) (IteT K a) [e, it] e (EnAt a e it) where
  mem := List.mem_cons_self
  obj := fun i h t b hb => by
    rcases List.mem_cons.mp hb with rfl | hb
    · exact t.head.elim fun _ q => ⟨_, q, fun _ z => by cases z⟩
    · rw [List.mem_singleton.mp hb]
      obtain ⟨o, q, _, d⟩ := t.iter
      exact ⟨o, q, fun _ z => by rw [d] at z; cases z⟩
  keep := fun i h k t f => t.keep fun b hb => f b (by rcases hb with z | z <;> simp [z])
  item := fun X hP hw hK hc i pins s σ H E I free t g => by
    subst hP hw hK
    exact g.elim fun xs g => g.elim fun x g => turn_one hc I free t g.1 g.2
  done := fun X hP hw hK hc i pins s σ H E I free t g => by
    subst hP hw hK
    exact g.elim fun xs g => turn_last hc I free t g.1 g.2
  self := fun A i s Q E t k => t.head.elim fun _ q => wpAny_pyIter_enum q k

/-! ### enumerate(t) -/
section
variable {P : Program} {w : World} {A : Around} {E : Value → Shared → Prop} {s : Shared}
abbrev tupIter (a : Addr) : Obj := { cls := .type "tuple_iterator", data := .fields #[.ref a, .int 0 0] }
abbrev enObj (it : Addr) : Obj := { cls := .type "enumerate", data := .fields #[.none, .bool false, .ref it, rawInt 0, .none, .none] }
theorem enum_made (a : Addr) (els : Array Value) : Meets (Builtin.«enumerate.__new__» ⟨[.type "enumerate", .ref a], []⟩) (fun _ R s => s.heap.IsTuple a els ∧
    R (.ok (.ret (.ref (s.heap.objs.size + 1)))) { s with heap := (s.heap.push (tupIter a)).push (enObj s.heap.objs.size) }) :=
  .of_wp fun P w A R s ⟨hT, k⟩ => by
    have sub := sub_enumerate
    have z : (s.heap.push (tupIter a)).objs.size = s.heap.objs.size + 1 := Heap.size_push ..
    rw [← z] at k
    obtain ⟨hp, gs, dr, tk, os⟩ := s
    obtain ⟨o, ho, hcl, _⟩ := id hT
    have ld : ∀ {M : Model} {A' : Around} {E' : Value → Shared → Prop} {Q' : Obj → Shared → Prop}, Q' o ⟨hp, gs, dr, tk, os⟩ → wpAny M A' (load a) Q' E' ⟨hp, gs, dr, tk, os⟩ := fun q => wpAny_load ho q
    wp_walk using ld, wpAny_pyIter_tuple hT
    all_goals first | exact ⟨_, rfl, k⟩ | skip
    all_goals (refine wpAny_stack_any fun _ => wpAny_pure ?_)
    all_goals split
    all_goals first | (rename_i c _ _ _ _ _; cases (c == Value.type "enumerate")) | skip
    all_goals wp_walk using ld, wpAny_pyIter_tuple hT
    all_goals exact ⟨_, rfl, k⟩
theorem call_enumT {a : Addr} {els : Array Value} {Q : Value → Shared → Prop} (hT : s.heap.IsTuple a els)
    (k : ∀ h1, EnAt a (s.heap.objs.size + 1) s.heap.objs.size 0 h1 → (∀ b o, s.heap.get? b = some o → h1.get? b = some o) → Q (.ref (s.heap.objs.size + 1)) { s with heap := h1 }) :
    wpAny (model P w) A (call (.type "enumerate") [.ref a]) Q E s := by
  have z : (s.heap.push (tupIter a)).objs.size = s.heap.objs.size + 1 := Heap.size_push ..
  have g1 : ((s.heap.push (tupIter a)).push (enObj s.heap.objs.size)).get? (s.heap.objs.size + 1) = some (enObj s.heap.objs.size) := z ▸ Heap.get?_push_size _ rfl
  have old : ∀ b o, s.heap.get? b = some o → ((s.heap.push (tupIter a)).push (enObj s.heap.objs.size)).get? b = some o := fun b o q => Heap.get?_push_of_some _ (Heap.get?_push_of_some _ q)
  have g0 : ((s.heap.push (tupIter a)).push (enObj s.heap.objs.size)).get? s.heap.objs.size = some (tupIter a) := Heap.get?_push_of_some _ (Heap.get?_push_size _ rfl)
  have la : a < s.heap.objs.size := hT.elim fun _ q => Heap.lt_size q.1
  refine callType_new F.called_enumerate (by decide) (F.typeCall_enumerate_1 _) (F.newCall_enumerate_1 _) (fun ob => F.args_object_init_2 ob _) F.entry_enumerate_new (enum_made a els) ⟨hT, ⟨_, g1, rfl⟩, k _ ⟨⟨?_, ?_, ?_⟩, ⟨_, g1⟩, ⟨_, g0, rfl, rfl⟩⟩ old⟩
  · exact Nat.succ_ne_self _
  · exact Nat.ne_of_gt (Nat.lt_succ_of_lt la)
  · exact Nat.ne_of_lt la
end
end FwE
end
set_option Elab.async false
set_option linter.all false
set_option autoImplicit false
set_option maxRecDepth 100000
set_option maxHeartbeats 4000000
/-! Fw25: enumerate; list(d), sorted; texts. -/
noncomputable section
namespace Fw
open PySem PySem.Spec PyProof.Rows L2

/-! ### enumerate -/
theorem pi_enumA {X : Cx} {e : Expr} {ta : TA} {p pos pt : Pos} {tgs : List Expr} {kk : Nat} (jg : Gl X "enumerate") (jm : X.mg "enumerate" = none) (ja : PA X [e] ta) (js : starEach [e] X.env = [(false, eval e X.env)] := by rfl) :
    PI X (.Tuple tgs kk pt) (.Call (.Name "enumerate" p) [e] [] pos) (fun σ H R => ta σ H fun ws H1 => ∃ a xs, ws = [.ref a] ∧ ((SqL X.K H1 a xs ∧ R (Ite X.K a) H1) ∨ (SqT X.K H1 a xs ∧ R (FwE.IteT X.K a) H1))) := by
  refine ⟨fun pins s σ H R I h => ?_⟩
  refine Call_ (ld_blt I jg jm boot_enumerate (PyProof.Rows.callWith_type1 (thn (ja.run pos pins s σ H _ I h) fun uu s8 ⟨ws, H1, I8, rr1, qq1⟩ => ?_) js rfl))
  obtain ⟨a, xs, jex, q⟩ := qq1
  subst jex
  cases rr1 with
  | cons r rr =>
    cases rr
    cases r
    have far : ∀ b, b ∈ [s8.heap.objs.size + 1, s8.heap.objs.size] → FpOk X pins H1 b := fun b jb => by
      have ee : b = s8.heap.objs.size + 1 ∨ b = s8.heap.objs.size := by simpa using jb
      have jle : s8.heap.objs.size ≤ b := by rcases ee with z | z <;> omega
      exact I8.fpOk jle (I8.hok.fresh jle)
    rcases q with ⟨jq, q⟩ | ⟨jq, q⟩
    · obtain ⟨its, rw_, p', zz⟩ := I8.list jq
      refine call_enumerate_list p'.isList fun kh jE jI jz hk => wpAny_pyIter_enum jE ?_
      exact ⟨_, _, _, _, H1, rfl, I8.kept (t' := s8.toks) hk, turn_enum a (s8.heap.objs.size + 1) s8.heap.objs.size, ⟨⟨.none, jE⟩, jI, Nat.succ_ne_self _⟩, far, q⟩
    · obtain ⟨its, rw_, p', zz⟩ := I8.tuple jq
      refine FwE.call_enumT p' fun kh st old => st.head.elim fun _ g => wpAny_pyIter_enum g ?_
      exact ⟨_, _, _, _, H1, rfl, I8.kept (t' := s8.toks) old, FwE.turn_enumT a (s8.heap.objs.size + 1) s8.heap.objs.size, st, far, q⟩
def enumL : List D → Option (List D)
  | [d] => match lstOf d with | some x => some (enumD x) | none => (tupOf d).map enumD
  | _ => none
section
variable {X : Cx} {Γ : Gm} {E : XK} {x : Str} {a b c o e : Expr} {es : List Expr} {pos p p2 pos' apos cpos : Pos} {f fa fb fc : Env → Res D} {fs : Env → Res (List D)} {k : Nat}
theorem wlk_enumT {a : Addr} {d : D} {ds : List D} (t1 : tupOf d = some ds) : Wlk Γ (FwE.IteT Γ.K a) [(.ref a, d)] (enumD ds) where
  go := fun av i H wf hp hi => by
    obtain ⟨a', vs, ea, h, r⟩ := (hp _ List.mem_cons_self).tupOf t1
    cases ea
    rw [enumD_len] at hi
    obtain ⟨v, e, _⟩ := r.get (List.getElem?_eq_getElem hi)
    exact ⟨_, v, h, e⟩
  yld := fun av i H x H' wf hp hi y => by
    obtain ⟨a', vs, ea, h, r⟩ := (hp _ List.mem_cons_self).tupOf t1
    cases ea
    obtain ⟨T, x0, rfl, hT, rfl, y⟩ := y
    obtain ⟨d, e, rd⟩ := r.getV (y _ h)
    exact ⟨Ext.new _ hT, _, enumD_get e, .tup upd_same (.cons (.int _) (.cons (rd.ext (Ext.new _ hT)) .nil))⟩
  stop := fun av i H wf hp hi => by
    obtain ⟨a', vs, ea, h, r⟩ := (hp _ List.mem_cons_self).tupOf t1
    cases ea
    rw [enumD_len] at hi
    exact ⟨_, h, by rw [← r.length]; exact hi⟩
theorem wi_enum {elts : List Expr} {kk : Nat} {tpos : Pos} (hm : X.mg "enumerate" = none) (ha : PE X a (eT Γ E fa)) (hg : Gl X "enumerate" := by rfl) (hs : starEach [a] X.env = [(false, eval a X.env)] := by rfl) (hK : X.K = Γ.K := by rfl) :
    PI X (.Tuple elts kk tpos) (.Call (.Name "enumerate" p) [a] [] pos) (wT Γ E false (itL enumL (consA fa nilA))) :=
  wi_args (pi_enumA hg hm (ta_cons ha ta_nil hs) hs) (fun av H ds us vs R wf r q k => by
    rw [hK]
    cases r with
    | nil => cases q
    | cons r1 r2 =>
      cases r2 with
      | cons _ _ => cases q
      | nil =>
        rename_i d v
        replace q : (match lstOf d with | some x => some (enumD x) | none => (tupOf d).map enumD) = some us := q
        cases e1 : lstOf d with
        | some x =>
          rw [e1] at q
          cases q
          obtain ⟨rfl, a, vs, rfl, h⟩ := r1.lstOf e1
          exact ⟨_, _, rfl, .inl ⟨h, k _ _ (fun z => by cases z) (pin1 r1) wlk_enumL⟩⟩
        | none =>
          rw [e1] at q
          cases e2 : tupOf d with
          | none => rw [e2] at q; cases q
          | some x =>
            rw [e2] at q
            cases q
            obtain ⟨a, vs, rfl, h, _⟩ := r1.tupOf e2
            exact ⟨_, _, rfl, .inr ⟨h, k _ _ (fun z => by cases z) (pin1 r1) (wlk_enumT e2)⟩⟩)

/-! ### list(d), sorted(list of ints) -/
theorem RpK.keys {K : Kr} {av : Addr → Prop} {H : Hp} : ∀ {ds : List (D × D)} {kvs : List (Key × V)}, RpK K av H ds kvs → RpL K av H (ds.map (·.1)) (kvs.map fun kv => kV kv.1)
  | _, _, .nil => .nil
  | _, _, .cons (k := k) _ r => .cons (by cases k <;> first | exact .int _ | exact .str _) (RpK.keys r)
/-- list(d), of a dict whose keys are ints or texts -/
def D.toLstD : D → Res D
  | .dct false ds => .ok (.lst (ds.map (·.1)))
  | _ => .no
theorem tn_listD (hm : X.mg "list" = none) (hc : X.calm = true) (ha : PE X a (eT Γ E fa)) (hg : Gl X "list" := by rfl) (he : starEach [a] X.env = (false, eval a X.env) :: starEach [] X.env := by rfl) :
    PE X (.Call (.Name "list" p) [a] [] pos) (nT Γ E (app (on1 D.toLstD) (consA fa nilA))) :=
  PE.imp (pe_callTy (call_list_dK hc) hg hm boot_list (ta_cons ha ta_nil he) (he := he)) fun σ H Q ⟨av, ρ, env, h⟩ => aT_bind env h fun ds vs H1 x1 env1 r1 h1 => by
    cases r1 with
    | nil => exact (show False from h1).elim
    | cons r1 r2 =>
      cases r2 with
      | cons _ _ => exact (show False from h1).elim
      | nil =>
        cases r1 with
        | @dK a vs ds g n q => exact ⟨_, _, rfl, g, fun p hp => new_bind (β := Unit) (δ := Unit) (ρ := ρ) x1 h1 hp q.keys⟩
        | _ => exact (show False from h1).elim
def D.sortL (d : D) : Res D := d.asInts.bind fun ns => .ok (.lst ((sortI ns).map .int))
theorem perm_sort_eq {ns ns' : List Int} (h : ns'.Perm ns) (s : ns'.Pairwise (· ≤ ·)) : ns' = sortI ns := rise_perm s (sortI_rise ns) (h.trans (sortI_perm ns).symm)
theorem tn_sortL (hm : X.mg "sorted" = none) (ha : PE X a (eT Γ E fa)) (hg : Gl X "sorted" := by rfl) (he : starEach [a] X.env = (false, eval a X.env) :: starEach [] X.env := by rfl) (hK : X.K = Γ.K := by rfl) (hv : bootBuiltins "sorted" = some (.builtin "sorted") := by decide +kernel) :
    PE X (.Call (.Name "sorted" p) [a] [] pos) (nT Γ E (app (on1 D.sortL) (consA fa nilA))) :=
  PE.imp (pe_callB cr_sortedI hg hm hv (ta_cons ha ta_nil he) (he := he)) fun σ H Q ⟨av, ρ, env, h⟩ => aT_bind env h fun ds vs H1 x1 env1 r1 h1 => by
    rw [hK]
    cases r1 with
    | nil => exact (show False from h1).elim
    | cons r1 r2 =>
      cases r2 with
      | cons _ _ => exact (show False from h1).elim
      | nil =>
        obtain ⟨q, ns, e, h2, h3⟩ := asInts_fit r1 h1
        subst e
        exact ⟨q, ns, rfl, h2, fun ns' p' hp hs hn => by
          rw [perm_sort_eq hp hs]
          exact new_bind (β := Unit) (δ := Unit) (ρ := ρ) x1 h3 hn (RpL.ofInts _)⟩

/-! ### a tuple's count -/
theorem mt_tcountI : MtR X "tuple.count" (fun x xs H Q => ∃ (p : Addr) (ns : List Int) (k : Int), x = .ref p ∧ xs = [.int k] ∧ SqT X.K H p (ns.map V.int) ∧ Q (.int (ns.count k : Nat)) H) := by
  rintro pins s σ H _ _ v us Q I rx rxs ⟨p, ns, k, rfl, rfl, sq, q⟩
  cases (show v = .ref p from rx)
  rcases rxs.one with ⟨_, rfl, t, rfl⟩
  rcases I.tuple sq with ⟨its, vals, ⟨⟨c, dd, dat, sl⟩, g, hc, n, hd⟩, _⟩
  cases (show c = .type "tuple" from hc)
  cases (show dat = .seq its.toArray n from hd)
  have are := ints_of_vals vals
  have num : its.toArray.toList.countP (eqk k) = ns.count k := eqk_count are
  have spec := SeqAt.tuple_countAt p its.toArray n dd sl (.int k t) (eqk k)
  have ty : s.TypeIs (.ref p) "tuple" := ⟨_, g, rfl⟩
  apply call_meets PySem.F.slot_tuple_count ty PySem.F.entry_tuple_count (PySem.F.args_tuple_count_2 _ _) spec
  refine ⟨g, fun y hy => (eqk_gives are y (by simpa using hy)).at _ _, ?_⟩
  rw [num]
  exact ⟨.int (ns.count k : Nat), H, I.tok _, ⟨s.toks, rfl⟩, q⟩
/-- of a list, of a tuple whose object is known -/
def cntOf : D → Option (List Int)
  | .lst ds => intsOf ds
  | .ftp ds => intsOf ds
  | _ => none
def asIntR : D → Res Int
  | .int i => .ok i
  | _ => .no
def cntF (fa fb : Env → Res D) : Env → Res D := fun ρ => (fa ρ).bind fun d => match cntOf d with
  | some ns => (fb ρ).bind fun e => (asIntR e).bind fun k => .ok (.int (ns.count k : Nat))
  | none => .no
theorem te_cnt (ha : PE X o (eT Γ E fa)) (hb : PE X a (eT Γ E fb)) (hK : X.K = Γ.K := by rfl) (hbase : attributeBase o "count" X.env (eval o X.env) = eval o X.env := by rfl)
    (hfew : ((backTo cpos (starEach [a] X.env)).all (fun x => !x.1) && (backToKw cpos (keywordEach [] X.env)).all (fun x => x.1.isSome) && decide ([a].length + ([] : List Keyword).length + (if ([] : List Keyword).isEmpty then 0 else 1) < 30)) = true := by rfl)
    (hline : (apos.endLine == cpos.line) = true := by rfl) (hs : starEach [a] X.env = (false, eval a X.env) :: starEach [] X.env := by rfl) (hplain : (backTo cpos (starEach [] X.env)).any (·.1) = false := by rfl) : PE X (.Call (.Attribute o "count" apos) [a] [] cpos) (eT Γ E (cntF fa fb)) := by
  refine ⟨fun pins s σ H Q I ⟨av, ρ, env, h⟩ => ?_⟩
  refine wpAny_Call_method_late hbase hfew hline rfl (thn (ha.run pins s σ H (fun v H1 => ∃ d, EnvV Γ av H1 σ ρ ∧ Rp Γ.kr av H1 d v ∧ ROk Γ av H1 (fun H' d v => Rp Γ.kr av H' d v) (match cntOf d with
      | some ns => (fb ρ).bind fun e => (asIntR e).bind fun k => .ok (.int (ns.count k : Nat))
      | none => .no) Q E) I ⟨av, ρ, env, ROk.bind h fun d v H1 x1 rd h1 => ⟨d, env.ext x1, rd, h1⟩⟩) fun v s1 ⟨x, H1, I1, rx, d, env1, rd, h1⟩ => ?_)
  cases ec : cntOf d with
  | none => rw [ec] at h1; exact h1.elim
  | some ns =>
    rw [ec] at h1
    have hA := (pa_cons hb pa_nil hs).run cpos pins s1 σ H1 (fun vs H2 => ∃ k, vs = [.int k] ∧ Ext Γ H1 H2 ∧ Q (.int (ns.count k : Nat)) H2) I1 (eT_bind env1 h1 fun e u H2 x2 env2 r2 h2 => by
      cases r2 with
      | int k => exact ⟨k, rfl, x2, ROk.here h2 (.int _)⟩
      | _ => exact (show False from h2).elim)
    rw [hs] at hA ⊢
    have fin : ∀ {id : String} {v : Value}, (∀ (s2 : Shared) (H2 : Hp) (k : Int) (us : List Value), Inv X pins σ H2 s2 → Ext Γ H1 H2 → Vals [.int k] us → Q (.int (ns.count k : Nat)) H2 → wpAny (model X.prog X.w) X.A (call (.builtin id) (v :: us)) (EP X pins σ Q) X.xe s2) →
        wpAny (model X.prog X.w) X.A (callWith cpos (.builtin id) [v] (backTo cpos ((false, eval a X.env) :: starEach [] X.env)) []) (EP X pins σ Q) X.xe s1 := fun {id v} k => by
      refine Calls.callWith_builtin (by show (false || (backTo cpos (starEach [] X.env)).any (·.1)) = false; rw [hplain] <;> rfl) (Calls.evalArgs_plain ?_)
      exact thn hA fun us s2 ⟨vs, H2, I2, r2, j, e, x2, q⟩ => k s2 H2 j us I2 x2 (e ▸ r2) q
    cases rd with
    | @lst l vs ds g n q =>
      have e' := intsOf_eq ec
      subst e'
      have ev := q.ints
      subst ev
      cases rx
      obtain ⟨its, _, pl, _⟩ := I1.list (SqL.of g)
      refine ⟨"list", "list.count", PySem.F.plainAttrs_list, PySem.F.slot_list_count, PySem.F.type_list_count, pl.isList.typeIs, fun a e => ?_, fin fun s2 H2 k us I2 x2 rr h2 => ?_⟩
      · cases e
        obtain ⟨o, n, e, c, hd, _⟩ := pl
        exact ⟨o, e, hd⟩
      · exact mt_lcount pins s2 σ H2 (.ref l) [.int k] _ us Q I2 rfl rr ⟨l, ns, k, rfl, rfl, SqL.of (x2.keepL g fun z => n (.inr z)), h2⟩
    | @ftp l ob vs ds g n q =>
      have e' := intsOf_eq ec
      subst e'
      have ev := q.ints
      subst ev
      cases rx
      obtain ⟨ho, hz, its, rv, hit⟩ := I1.hok l _ g
      obtain ⟨ob', ho', hc, m, hdat⟩ := hit
      rw [ho] at ho'
      cases ho'
      refine ⟨"tuple", "tuple.count", PySem.F.plainAttrs_tuple, PySem.F.slot_tuple_count, PySem.F.type_tuple_count, ⟨ob, ho, hc⟩, fun a e => ?_, fin fun s2 H2 k us I2 x2 rr h2 => ?_⟩
      · cases e
        exact ⟨ob, ho, n⟩
      · exact mt_tcountI pins s2 σ H2 (.ref l) [.int k] _ us Q I2 rfl rr ⟨l, ns, k, rfl, rfl, .inl (.inr ⟨ob, x2.keepN g (by intro _ z; cases z) (by intro _ z; cases z)⟩), h2⟩
    | _ => cases ec
end

/-! ### texts -/
section
variable {X : Cx} {Γ : Gm} {E : XK} {x : Str} {a b c o e : Expr} {es : List Expr} {pos p p2 pos' apos cpos : Pos} {f fa fb fc : Env → Res D} {fs : Env → Res (List D)} {k : Nat}
/-- str(i) -/
def D.toStr : D → Res D
  | .int i => if i.natAbs.log2 < 1920 then .ok (.str (toString i)) else .no
  | _ => .no
theorem fit_str : FitC Γ E (fun xs H Q => ∃ i : Int, xs = [.int i] ∧ i.natAbs.log2 < 1920 ∧ Q (.str (toString i)) H) (on1 D.toStr) := by
  refine (fitC1 (r := fun v H Q => ∃ i : Int, v = .int i ∧ i.natAbs.log2 < 1920 ∧ Q (.str (toString i)) H) fun av H d v Q wf r h => ?_).imp fun vs H Q ⟨v, e, i, e', h⟩ => ⟨i, by rw [e, e'], h⟩
  cases r with
  | int i =>
    obtain ⟨hz, h⟩ := ROk.ifp h
    exact ⟨i, rfl, hz, h.here (.str _)⟩
  | _ => exact (show False from h).elim
theorem te_strI (hm : X.mg "str" = none) (ha : PE X a (eT Γ E fa)) (hg : Gl X "str" := by rfl) (he : starEach [a] X.env = (false, eval a X.env) :: starEach [] X.env := by rfl) (hv : bootBuiltins "str" = some (.type "str") := by decide +kernel) :
    PE X (.Call (.Name "str" p) [a] [] pos) (eT Γ E (app (on1 D.toStr) (consA fa nilA))) := te_callTy call_str_int fit_str hv hm (ta_cons ha ta_nil he) hg (he := he)
def strsOf : List D → Option (List Str)
  | [] => some []
  | .str x :: r => (strsOf r).map (x :: ·)
  | _ :: _ => none
theorem strsOf_map : ∀ l : List Str, strsOf (l.map D.str) = some l
  | [] => rfl
  | x :: r => by rw [List.map_cons, strsOf, strsOf_map r]; rfl
theorem strsOf_rp {K : Kr} {av : Addr → Prop} {H : Hp} : ∀ {ds : List D} {vs : List V} {ys : List Str}, RpL K av H ds vs → strsOf ds = some ys → vs = ys.map V.str
  | _, _, _, .nil, e => by cases e; rfl
  | d :: ds, _, ys, .cons r1 r2, e => by
    cases r1 with
    | str x =>
      rw [strsOf] at e
      cases q : strsOf ds with
      | none => rw [q] at e; cases e
      | some l => rw [q] at e; cases e; rw [strsOf_rp r2 q]; rfl
    | _ => cases e
def asStrR : D → Res Str
  | .str x => .ok x
  | _ => .no
def strsR : D → Res (List Str)
  | .lst ds => match strsOf ds with | some l => .ok l | none => .no
  | .tup ds => match strsOf ds with | some l => .ok l | none => .no
  | _ => .no
/-- sep.join(texts) -/
def joinF (fa fb : Env → Res D) : Env → Res D := fun ρ => (fa ρ).bind fun d => (asStrR d).bind fun x => (fb ρ).bind fun e => (strsR e).bind fun l =>
  if (l.map (·.length)).sum + l.length * x.length ≤ lim then .ok (.str (Txt.join x l)) else .no
theorem te_join (ha : PE X o (eT Γ E fa)) (hb : PE X a (eT Γ E fb)) (hK : X.K = Γ.K := by rfl) (hs : starEach [a] X.env = [(false, eval a X.env)] := by rfl) (hbase : attributeBase o "join" X.env (eval o X.env) = eval o X.env := by rfl) (hline : (apos.endLine == pos.line) = true := by rfl) :
    PE X (.Call (.Attribute o "join" apos) [a] [] pos) (eT Γ E (joinF fa fb)) :=
  PE.imp (pe_join ha hb hs hbase hline) fun σ H Q ⟨av, ρ, env, h⟩ => eT_bind env h fun d v H1 x1 env1 r1 h1 => by
    cases r1 with
    | str x =>
      refine ⟨⟨x, rfl⟩, eT_bind env1 h1 fun e u H2 x2 env2 r2 h2 => ?_⟩
      rw [hK]
      cases r2 with
      | @lst a vs ds g n q =>
        replace h2 : ROk Γ av H2 _ ((strsR (.lst ds)).bind _) Q E := h2
        unfold strsR at h2
        cases el : strsOf ds with
        | none => simp only [el] at h2; exact (show False from h2).elim
        | some l =>
          simp only [el] at h2
          obtain ⟨hz, h3⟩ := ROk.ifp h2
          have ev := strsOf_rp q el
          subst ev
          exact ⟨x, a, l, rfl, rfl, .inl (SqL.of g), hz, h3.here (.str _)⟩
      | @tup a vs ds g q =>
        replace h2 : ROk Γ av H2 _ ((strsR (.tup ds)).bind _) Q E := h2
        unfold strsR at h2
        cases el : strsOf ds with
        | none => simp only [el] at h2; exact (show False from h2).elim
        | some l =>
          simp only [el] at h2
          obtain ⟨hz, h3⟩ := ROk.ifp h2
          have ev := strsOf_rp q el
          subst ev
          exact ⟨x, a, l, rfl, rfl, .inr (SqT.of g), hz, h3.here (.str _)⟩
      | _ => exact (show False from h2).elim
    | _ => exact (show False from h1).elim
/-- {x} -/
def D.fmt : D → Res D
  | .int i => if i.natAbs.log2 < 1920 then .ok (.str (toString i)) else .no
  | .str x => if x.length ≤ lim then .ok (.str x) else .no
  | _ => .no
theorem te_fmt (ha : PE X a (eT Γ E fa)) : PE X (.FormattedValue a (-1) none pos) (eT Γ E (un1 D.fmt fa)) :=
  PE.imp (pe_fmt ha) fun σ H Q ⟨av, ρ, env, h⟩ => eT_bind env h fun d v H1 x1 env1 r1 h1 => by
    cases r1 with
    | int i =>
      obtain ⟨hz, h2⟩ := ROk.ifp h1
      exact .inr ⟨i, rfl, hz, h2.here (.str _)⟩
    | str y =>
      obtain ⟨hz, h2⟩ := ROk.ifp h1
      exact .inl ⟨y, rfl, hz, h2.here (.str _)⟩
    | _ => exact (show False from h1).elim
/-- the parts of an f'..' -/
inductive TJ (X : Cx) (Γ : Gm) (E : XK) : List Expr → List (Env → Res D) → Prop where
  | nil : TJ X Γ E [] []
  | cons {e : Expr} {f : Env → Res D} {es : List Expr} {fs : List (Env → Res D)} (h : PE X e (eT Γ E f)) (r : TJ X Γ E es fs) : TJ X Γ E (e :: es) (f :: fs)
def joinedG : List (Env → Res D) → Str → Env → Res Str
  | [], acc, _ => .ok acc
  | f :: fs, acc, ρ => (f ρ).bind fun d => (asStrR d).bind fun y => if (acc ++ y).length ≤ lim then joinedG fs (acc ++ y) ρ else .no
def joinedF (fs : List (Env → Res D)) : Env → Res D := fun ρ => (joinedG fs Str.empty ρ).bind fun x => .ok (.str x)
theorem TJ.pj {es : List Expr} {fs : List (Env → Res D)} (h : TJ X Γ E es fs) : PJ X es (fs.map fun f => eT Γ E f) := by
  induction h with
  | nil => exact .nil
  | cons h r ih => exact .cons h ih
theorem joined_run {Q : VK} {σ : L2.St} {av : Addr → Prop} {ρ : Env} : ∀ (fs : List (Env → Res D)) (acc : Str) (H : Hp), EnvV Γ av H σ ρ → ROk Γ av H (fun H' d v => Rp Γ.kr av H' d v) ((joinedG fs acc ρ).bind fun x => .ok (.str x)) Q E → tJs (fs.map fun f => eT Γ E f) acc σ H fun out H1 => Q (.str out) H1
  | [], acc, H, env, h => h.here (.str _)
  | f :: fs, acc, H, env, h => by
    rw [joinedG, Res.bind_assoc] at h
    refine eT_bind env h fun d v H1 x1 env1 r1 h1 => ?_
    cases r1 with
    | str y =>
      by_cases hz : (acc ++ y).length ≤ lim
      · refine ⟨y, rfl, by rw [lim_eq]; exact hz, joined_run fs (acc ++ y) H1 env1 ?_⟩
        have e1 : (Res.bind (asStrR (D.str y)) fun y => if (acc ++ y).length ≤ lim then joinedG fs (acc ++ y) ρ else .no) = joinedG fs (acc ++ y) ρ := if_pos hz
        rw [e1] at h1
        exact h1
      · have e1 : (Res.bind (asStrR (D.str y)) fun y => if (acc ++ y).length ≤ lim then joinedG fs (acc ++ y) ρ else .no) = .no := if_neg hz
        rw [e1] at h1
        exact (show False from h1).elim
    | _ => exact (show False from h1).elim
theorem te_joined {v1 v2 : Expr} {rest : List Expr} {fs : List (Env → Res D)} (h : TJ X Γ E (v1 :: v2 :: rest) fs) : PE X (.JoinedStr (v1 :: v2 :: rest) pos) (eT Γ E (joinedF fs)) :=
  PE.imp (pe_joined h.pj) fun σ H Q ⟨av, ρ, env, h⟩ => joined_run fs Str.empty H env h
theorem te_joined1 {v1 : Expr} (h : PE X v1 (eT Γ E fa)) : PE X (.JoinedStr [v1] pos) (eT Γ E fa) := pe_joined1 h
end
end Fw
end
set_option Elab.async false
set_option linter.all false
set_option autoImplicit false
set_option maxRecDepth 100000
set_option maxHeartbeats 4000000
/-! Fw26: more statements. -/
noncomputable section
namespace Fw
open PySem PySem.Spec PyProof.Rows L2

section
variable {X : Cx} {Γ : Gm} {E : XK} {x : Str} {a b c o e : Expr} {es : List Expr} {pos p p2 pos' : Pos} {f fa fb fc : Env → Res D} {ks : SEnv → Res (List Sl)} {h0 : SEnv → Res Sl}
/-! ### a tuple of values and new containers -/
def Sl.toD : Sl → D
  | .val d => d
  | .own d => d
  | _ => .non
def tupK (ks : SEnv → Res (List Sl)) : SEnv → Res Sl := fun ρ => (ks ρ).bind fun ss => if ss.length ≤ lim then .ok (.val (.tup (ss.map Sl.toD))) else .no
theorem krel_rpl {K : Kr} {av : Addr → Prop} {H : Hp} {W : Addr → Prop} (hw : ∀ b, av b → W b) : ∀ {R : List Addr} {ss : List Sl} {vs : List V}, (∀ p ∈ R, ¬ avr K av p) → KRel K W H R ss vs → RpL K av H (ss.map Sl.toD) vs
  | _, _, _, hR, .nil => .nil
  | _, _, _, hR, .val r k => .cons (r.stay (Stay.weak hw)) (krel_rpl hw hR k)
  | _, _, _, hR, .own o _ k => .cons ((o.weak hw).rp (hR _ List.mem_cons_self)) (krel_rpl hw (fun q hq => hR q (List.mem_cons_of_mem _ hq)) k)
theorem th_tup {n : Nat} (h : PA X es (kT Γ E ks)) : PE X (.Tuple es n pos) (hT Γ E (tupK ks)) :=
  PE.imp (pe_tup h) fun σ H Q ⟨av, av0, ρ, e1, e2, h⟩ => ⟨av, av0, ρ, e1, e2, ROk.bind h fun ss vs H1 x1 ⟨R, hR, k⟩ h1 => by
    obtain ⟨hz, h1⟩ := ROk.ifp h1
    refine ⟨by rw [lim_eq, ← k.len]; exact hz, fun p hp => h1 _ _ (Ext.new _ hp) ?_⟩
    have r := krel_rpl (av := av) (fun b z => .inl z) (fun q hq z => z.elim (fun z => e1.wf.av q z (hR q hq).1) fun z => e1.wf.row.new (hR q hq).1 z) k
    exact (show Rp Γ.kr av _ (.tup (ss.map Sl.toD)) (.ref p) from .tup upd_same (r.ext (Ext.new _ hp)))⟩
/-- x.append(e): e of values and new containers -/
def appHO (f : SEnv → Res Sl) (i : Nat) : SEnv → Out := fun ρ => bindO (contOf ρ i) fun l => match l with
  | .lst ds => bindO (f ρ) fun s => match s with
    | .val d => if ds.length < lim then putO ρ i (.lst (ds ++ [d])) else .no
    | _ => .no
  | _ => .no
theorem ts_appH (i : Nat) {apos np : Pos} (h : PE X e (hT Γ E h0)) (hi : X.N[i]? = some x := by rfl) (hv : Vis X.env.scope x := by first | exact Or.inl rfl | exact Or.inr (Or.inl rfl) | exact Or.inr (Or.inr rfl)) (hd : (x == ("__debug__" : Str)) = false := by decide) (hcd : (x == ("__classdict__" : Str)) = false := by decide)
    (hfew : ((backTo pos' (starEach [e] X.env)).all (fun x => !x.1) && (backToKw pos' (keywordEach [] X.env)).all (fun x => x.1.isSome) && decide ([e].length + ([] : List Keyword).length + (if ([] : List Keyword).isEmpty then 0 else 1) < 30)) = true := by rfl)
    (hline : (apos.endLine == pos'.line) = true := by rfl) (he : starEach [e] X.env = (false, eval e X.env) :: starEach [] X.env := by rfl) (hs : swapsWith (.Call (.Attribute (.Name x np) "append" apos) [e] [] pos') none pos.line X.env = pure false := by rfl)
    (hb : attributeBase (.Name x np) "append" X.env (eval (.Name x np) X.env) = eval (.Name x np) X.env := by rfl) :
    PS X (.Expr (.Call (.Attribute (.Name x np) "append" apos) [e] [] pos') pos) (sT Γ E (appHO h0 i)) := by
  refine PS.imp (ps_expr (pe_bm PySem.F.plainAttrs_list PySem.F.slot_list_append PySem.F.type_list_append mt_append (pv i hi hv hd hcd) (pa_cons h pa_nil he) hb hfew hline he) hs) fun Z σ H ⟨amb, H0, mr, tmp, ρ, ⟨ad, S⟩, h⟩ => ?_
  obtain ⟨s, l, hs, hc, c, h⟩ := cont_out S h
  obtain ⟨g1, g2⟩ := S.own i l c
  have hav : avO amb ad ρ (ad i) := .inr ⟨i, l, c, rfl⟩
  cases l with
  | lst ds =>
    obtain ⟨vs, g3, g4⟩ := g2
    refine ⟨_, g1, .inl ⟨rfl, vs, SqL.of g3⟩, ?_⟩
    refine ⟨avO amb ad ρ, _, ρ, S.envVis, S.envAll, SOk.bind S h fun t v H1 x1 S1 r1 h1 => ?_⟩
    cases t with
    | val d =>
      replace r1 : Rp Γ.kr (avO amb ad ρ) H1 d v := r1
      obtain ⟨hz, h1⟩ := SOk.ifp h1
      have g3' := x1.keepL g3 (S.notRow c)
      exact ⟨_, vs, v, rfl, rfl, g3', by rw [lim_eq, ← g4.length]; exact hz, putO_out S1 hs hc h1 ⟨_, upd_same, (rpl_write g3' True.intro hav (g4.ext x1)).append (.cons (rp_write g3' True.intro hav r1) .nil)⟩⟩
    | _ => exact (show False from h1).elim
  | _ => exact (show False from h).elim
end
@[simp] theorem lenN_tup (ds : List D) : lenN (.tup ds) = .ok (.int ds.length) := rfl
@[simp] theorem lenN_ftp (ds : List D) : lenN (.ftp ds) = .ok (.int ds.length) := rfl
@[simp] theorem lenN_lst (ds : List D) : lenN (.lst ds) = .ok (.int ds.length) := rfl
@[simp] theorem lenN_arr (a : PySem.Addr) (ns : List Int) : lenN (.arr a ns) = .ok (.int ns.length) := rfl
@[simp] theorem lenN_str (x : Str) : lenN (.str x) = if x.length ≤ lim then .ok (.int x.length) else .no := rfl
theorem nodup_fst {α β : Type} : ∀ {l : List (α × β)}, (l.map (·.1)).Nodup → ∀ {a b : α × β}, a ∈ l → b ∈ l → a.1 = b.1 → a = b
  | [], _, _, _, h, _, _ => by cases h
  | c :: r, n, a, b, ha, hb, e => by
    rw [List.map_cons, List.nodup_cons] at n
    rcases List.mem_cons.mp ha with h1 | h1
    · rcases List.mem_cons.mp hb with h2 | h2
      · rw [h1, h2]
      · exact absurd (h1 ▸ e ▸ List.mem_map_of_mem (f := (·.1)) h2) n.1
    · rcases List.mem_cons.mp hb with h2 | h2
      · exact absurd (h2 ▸ e ▸ List.mem_map_of_mem (f := (·.1)) h1) n.1
      · exact nodup_fst n.2 h1 h2 e
end Fw
end
set_option Elab.async false
set_option linter.all false
set_option autoImplicit false
set_option maxRecDepth 100000
set_option maxHeartbeats 4000000
/-! Fw27: plain reckoning with trees: numbers, rows, draws, loops. -/
noncomputable section
namespace Fw
@[simp] theorem isi_int_int (v : Int) : (D.int v).isi .int = .ok (.bl true) := rfl
@[simp] theorem isi_int_bl (v : Int) : (D.int v).isi .bl = .ok (.bl false) := rfl
@[simp] theorem isi_tup_tup (v : List D) : (D.tup v).isi .tup = .ok (.bl true) := rfl
@[simp] theorem toPy_int (v : Int) : (D.int v).toPy = some (.int v) := rfl
theorem eqB_int (a b : Int) : D.eqB (.int a) (.int b) = .ok (decide (a = b)) := by
  unfold D.eqB
  simp only [toPy_int]
  rw [if_pos ⟨rfl, rfl⟩]
  congr 1
@[simp] theorem ne_int (a b : Int) : D.ne (.int a) (.int b) = .ok (.bl !(decide (a = b))) := by
  unfold D.ne
  rw [eqB_int]
  rfl
@[simp] theorem eq_int (a b : Int) : D.eq (.int a) (.int b) = .ok (.bl (decide (a = b))) := by
  unfold D.eq
  rw [eqB_int]
  rfl
def iL (l : List Int) : List D := l.map .int
theorem iL_len (l : List Int) : (iL l).length = l.length := by simp [iL]
theorem ixG_nat {α : Type} {l : List α} {n : Nat} {x : α} (h : l[n]? = some x) : ixG l (n : Int) = .ok x := by rw [ixG_at, h]
theorem ixG_zero {α : Type} {x : α} {l : List α} : ixG (x :: l) 0 = .ok x := ixG_nat (l := x :: l) (n := 0) rfl
theorem ixG_one {α : Type} {x y : α} {l : List α} : ixG (x :: y :: l) 1 = .ok y := by
  have := ixG_nat (l := x :: y :: l) (n := 1) (x := y) rfl
  exact this
theorem get_iL {r : List Int} {a : Nat} (h : a < r.length) : (iL r)[a]? = some (.int (r.getD a 0)) := by
  unfold iL
  rw [List.getElem?_map, List.getElem?_eq_getElem h]
  simp [List.getD_eq_getElem?_getD, List.getElem?_eq_getElem h]
theorem getD_mem {α : Type} {l : List α} {i : Nat} {d : α} (h : i < l.length) : l.getD i d ∈ l := by
  rw [List.getD_eq_getElem?_getD, List.getElem?_eq_getElem h]
  exact List.getElem_mem h
theorem row_at {r : List Int} {a : Nat} (h : a < r.length) : (D.tup (iL r)).ix (.int a) = .ok (.int (r.getD a 0)) := by rw [ix_tup, ixG_nat (get_iL h)]
theorem lst_at {r : List Int} {a : Nat} (h : a < r.length) : (D.lst (iL r)).ix (.int a) = .ok (.int (r.getD a 0)) := by rw [ix_lst, ixG_nat (get_iL h)]
def wN (w : List Nat) : List D := w.map fun (a : Nat) => D.int (a : Int)
theorem inR_small {i : Nat} (h : i < 1000000) : inR (i : Int) := by
  unfold inR
  omega
theorem rng1_nat {m : Nat} (h : m < 1000000) : rng1L [.int (m : Int)] = some (rangeD 0 m) := by
  have e : rng1L [.int (m : Int)] = if inR (m : Int) then some (rangeD 0 (m : Int).toNat) else none := rfl
  rw [e, if_pos (inR_small h), Int.toNat_natCast]
theorem wN_iL (w : List Nat) : wN w = iL (w.map fun (a : Nat) => (a : Int)) := by
  unfold wN iL
  rw [List.map_map]
  rfl
theorem AllO.bindR {α : Type} {P : α → Prop} {Q : SEnv → Prop} {k : α → Out} (h : ∀ d, P d → AllO Q (k d)) : ∀ {r : Res α}, AllOk P r → AllO Q (bindO r k)
  | .ok d, p => h d p
  | .dr n j, p => fun i h1 h2 => AllO.bindR h (p i h1 h2)
  | .ex _ _, p => p.elim
  | .no, p => p.elim
theorem AllO.thn {P Q : SEnv → Prop} {k : SEnv → Out} (h : ∀ ρ, P ρ → AllO Q (k ρ)) : ∀ {o : Out}, AllO P o → AllO Q (o.then k)
  | .nx d, p => h d p
  | .dr n j, p => fun i h1 h2 => AllO.thn h (p i h1 h2)
  | .ex _ _, p => p.elim
  | .no, p => p.elim
  | .rt _ _, p => p.elim
  | .bk _, p => p.elim
  | .ct _, p => p.elim
theorem AllO.trn {P Q : SEnv → Prop} {k : SEnv → Out} (h : ∀ ρ, P ρ → AllO Q (k ρ)) : ∀ {o : Out}, AllO P o → AllO Q (o.turn k)
  | .nx d, p => h d p
  | .dr n j, p => fun i h1 h2 => AllO.trn h (p i h1 h2)
  | .ex _ _, p => p.elim
  | .no, p => p.elim
  | .rt _ _, p => p.elim
  | .bk _, p => p.elim
  | .ct _, p => p.elim
theorem AllO.done {P : SEnv → Prop} {Q : D → Prop} {k : SEnv → Out} (h : ∀ ρ, P ρ → AllOk Q (k ρ).fin) : ∀ {o : Out}, AllO P o → AllOk Q (o.then k).fin
  | .nx d, p => h d p
  | .dr n j, p => fun i h1 h2 => AllO.done h (p i h1 h2)
  | .ex _ _, p => p.elim
  | .no, p => p.elim
  | .rt _ _, p => p.elim
  | .bk _, p => p.elim
  | .ct _, p => p.elim
theorem AllOk.fin {α : Type} {P : α → Prop} {Q : D → Prop} {k : α → Out} (h : ∀ d, P d → AllOk Q (k d).fin) : ∀ {r : Res α}, AllOk P r → AllOk Q (bindO r k).fin
  | .ok d, p => h d p
  | .dr n j, p => fun i h1 h2 => AllOk.fin h (p i h1 h2)
  | .ex _ _, p => p.elim
  | .no, p => p.elim
theorem ints_of {l : List D} {P : Int → Prop} (h : ∀ x ∈ l, ∃ v, x = .int v ∧ P v) : ∃ r : List Int, l = iL r ∧ ∀ v ∈ r, P v := by
  induction l with
  | nil => exact ⟨[], rfl, fun v hv => by cases hv⟩
  | cons x l ih =>
    obtain ⟨v, rfl, hv⟩ := h x List.mem_cons_self
    obtain ⟨r, rfl, hr⟩ := ih fun y hy => h y (List.mem_cons_of_mem _ hy)
    exact ⟨v :: r, rfl, fun u hu => by
      rcases List.mem_cons.mp hu with rfl | hu
      · exact hv
      · exact hr u hu⟩
theorem ints_all {P : Int → Prop} {n : Nat} {r : Res (List D)} (h : AllOk (fun l => l.length = n ∧ ∀ x ∈ l, ∃ v, x = D.int v ∧ P v) r) : AllOk (fun l => ∃ q : List Int, l = iL q ∧ q.length = n ∧ ∀ v ∈ q, P v) r :=
  h.imp fun l hl => by
    obtain ⟨q, rfl, hq⟩ := ints_of hl.2
    exact ⟨q, rfl, by rw [← hl.1, iL_len], hq⟩
@[simp] theorem min2_int (a b : Int) : D.min2 (.int a) (.int b) = .ok (.int (if b < a then b else a)) := rfl
theorem ok_int {P : Int → Prop} {v : Int} (h : P v) : AllOk (fun x => ∃ v, x = D.int v ∧ P v) (.ok (.int v)) := ⟨v, rfl, h⟩
theorem lim_big {n : Nat} (h : n ≤ 10000) : n ≤ lim := Nat.le_trans h (by decide)
theorem lim_big' {n : Nat} (h : n < 10000) : n < lim := Nat.lt_of_lt_of_le h (by decide)
/-- one row put at the end -/
theorem app_row {P : Int → Prop} {i : Nat} {wide : Nat} {fe : Fw.Env → Res D} {ρ : SEnv} {Q : SEnv → Prop} {ds : List D} {fi : Fw.Env → Res (List D)} {vs : List Nat} {k : Nat}
    (hfi : fi ρ.vis = .ok (rangeD 0 wide)) (hw : wide ≤ 10000) (hds : ds.length < 10000) (hc : contOf ρ k = .ok (.lst ds))
    (h : ∀ d ∈ rangeD 0 wide, AllOk (fun x => ∃ v, x = D.int v ∧ P v) (fe ((wipeE ρ.vis vs).set i (some d))))
    (hq : ∀ q : List Int, q.length = wide → (∀ v ∈ q, P v) → AllO Q (putO ρ k (.lst (ds ++ [.tup (iL q)])))) :
    AllO Q (appVO (app (on1 D.toTup) (consA (lcD fi (.nm i) yesB fe vs) nilA)) k ρ) := by
  have hl : (rangeD 0 wide).length ≤ lim := by rw [rangeD_len]; exact lim_big hw
  rw [appVO_eq, hc, bindO_ok]
  simp only [app_eq, consA_eq, lcD_eq, hfi, bind_ok, hl, if_true, nilA_eq]
  have := ints_all (lcL_all _ (rangeD 0 wide) h)
  rw [rangeD_len] at this
  refine AllO.bindR (P := fun d => ∃ q : List Int, d = .tup (iL q) ∧ q.length = wide ∧ ∀ v ∈ q, P v) (fun d ⟨q, e, h1, h2⟩ => ?_) (AllOk.bind (P := fun ds => ∃ q : List Int, ds = [.lst (iL q)] ∧ q.length = wide ∧ ∀ v ∈ q, P v) (fun l ⟨q, e, h1, h2⟩ => ?_) (AllOk.bind (P := fun d => ∃ q : List Int, d = .lst (iL q) ∧ q.length = wide ∧ ∀ v ∈ q, P v) (fun d ⟨q, e, h1, h2⟩ => ⟨q, by rw [e], h1, h2⟩) (AllOk.bind (fun l ⟨q, e, h1, h2⟩ => ⟨q, by rw [e], h1, h2⟩) this)))
  · rw [e]
    have : ds.length < lim := lim_big' hds
    simp only [this, if_true]
    exact hq q h1 h2
  · rw [e]
    exact ⟨q, rfl, h1, h2⟩
structure LawT (o : Out) : Prop where
  run : AllOk (fun d => d = .bl true) o.fin
theorem step_nx {g k : SEnv → Out} {ρ : SEnv} (ρ' : SEnv) (h : g ρ = .nx ρ') (h2 : LawT (k ρ')) : LawT ((seqO g k) ρ) := by
  rw [seqO_eq, h, then_nx]
  exact h2
theorem LawT.seq {P : SEnv → Prop} {g k : SEnv → Out} {ρ : SEnv} (h : AllO P (g ρ)) (h2 : ∀ ρ, P ρ → LawT (k ρ)) : LawT ((seqO g k) ρ) := ⟨by
  rw [seqO_eq]
  exact AllO.done (fun ρ hp => (h2 ρ hp).run) h⟩
theorem forO_run {fi : Fw.Env → Res (List D)} {t : Tg} {g : SEnv → Out} {ρ : SEnv} {ds : List D} {o : Out} (h1 : fi ρ.vis = .ok ds) (h2 : loopO t g ds ρ = o) : forO fi t g ρ = o := by
  rw [forO_eq, h1, bindO_ok]
  exact h2

theorem log_small {n k : Nat} (h : n < 2 ^ k) : n.log2 ≤ k := by
  have := log2_of_lt (i := (n : Int)) (k := k) (by simpa using h)
  simpa using this
theorem mul_nat {a b : Nat} (h : a < 2 ^ 1000) (h' : b < 2 ^ 1000) : D.mul (.int a) (.int b) = .ok (.int ((a * b : Nat) : Int)) := by
  have h1 := log_small h
  have h2 := log_small h'
  rw [mul_int, if_pos (by simp only [Int.natAbs_natCast]; omega)]
  simp
theorem AllO.bindDr {α : Type} {Q : SEnv → Prop} {n : Int} {j : Int → Res α} {k : α → Out} (h : ∀ i, 0 ≤ i → i < n → AllO Q (bindO (j i) k)) : AllO Q (bindO (.dr n j) k) := h
theorem AllO.thenDr {α : Type} {Q : SEnv → Prop} {n : Int} {j : Int → Res α} {k : α → Out} {g : SEnv → Out} (h : ∀ i, 0 ≤ i → i < n → AllO Q ((bindO (j i) k).then g)) : AllO Q ((bindO (.dr n j) k).then g) := h
theorem AllO.seq {P Q : SEnv → Prop} {g k : SEnv → Out} {ρ : SEnv} (h : AllO P (g ρ)) (h2 : ∀ ρ, P ρ → AllO Q (k ρ)) : AllO Q (seqO g k ρ) := AllO.thn h2 h
theorem AllO.step {Q : SEnv → Prop} {g k : SEnv → Out} {ρ : SEnv} (ρ' : SEnv) (h : g ρ = .nx ρ') (h2 : AllO Q (k ρ')) : AllO Q (seqO g k ρ) := by
  rw [seqO_eq, h, then_nx]
  exact h2
/-! ### loops of draws -/
theorem loop_range {v n : Nat} {g : SEnv → Out} {Inv : Nat → SEnv → Prop} (hs : ∀ i ρ, i < n → Inv i ρ → isRow ρ v = false ∧ AllO (Inv (i + 1)) (g (ρ.set v (.val (.int i))))) : ∀ (m i : Nat) (ρ : SEnv), i + m = n → Inv i ρ → AllO (Inv n) (loopO (.nm v) g (rangeD i m) ρ)
  | 0, i, ρ, h, hi => by
    have : i = n := by omega
    subst this
    exact hi
  | m + 1, i, ρ, h, hi => by
    obtain ⟨e1, e2⟩ := hs i ρ (by omega) hi
    rw [rangeD_succ, loopO_cons, bindT_eq, unp_nm]
    simp only [setMany_cons, e1, if_true, setMany_nil]
    have ec : ((i : Int) + 1) = ((i + 1 : Nat) : Int) := by omega
    rw [ec]
    exact AllO.trn (fun ρ' h' => loop_range hs m (i + 1) ρ' (by omega) h') e2
/-! ### dicts by whole numbers -/
def dN {α : Type} (f : α → D) (q : List (Nat × α)) : List (D × D) := q.map fun p => (.int p.1, f p.2)
def putN {α : Type} (q : List (Nat × α)) (k : Nat) (v : α) : List (Nat × α) := if (q.any fun p => p.1 == k) = true then q.map fun p => if p.1 = k then (p.1, v) else p else q ++ [(k, v)]
def lookN {α : Type} (q : List (Nat × α)) (k : Nat) : Option α := (q.find? fun p => p.1 == k).map (·.2)
theorem kk_nat (k : Nat) : (D.int (k : Int)).kk = some (.inl (.inl (k : Int))) := rfl
theorem kk_eq (i k : Nat) : ((D.int (i : Int)).kk = (D.int (k : Int)).kk) ↔ i = k := by
  rw [kk_nat, kk_nat]
  constructor
  · intro h
    have h1 := Option.some.inj h
    have h2 := Sum.inl.inj h1
    have h3 := Sum.inl.inj h2
    exact Int.ofNat.inj h3
  · intro h; rw [h]
theorem kOk_nat (k : Nat) : kOk false (.int (k : Int)) = true := rfl
theorem look_dN {α : Type} (f : α → D) (k : Nat) : ∀ q : List (Nat × α), lookD (dN f q) (.int k) = (lookN q k).map f
  | [] => rfl
  | p :: q => by
    have ih := look_dN f k q
    unfold lookD lookN dN at *
    rw [List.map_cons, List.find?_cons, List.find?_cons]
    by_cases h : p.1 = k
    · have h1 : decide ((D.int (p.1 : Int)).kk = (D.int (k : Int)).kk) = true := decide_eq_true ((kk_eq _ _).mpr h)
      have h2 : (p.1 == k) = true := by simpa using h
      simp only [h1, h2]
      rfl
    · have h1 : decide ((D.int (p.1 : Int)).kk = (D.int (k : Int)).kk) = false := decide_eq_false fun z => h ((kk_eq _ _).mp z)
      have h2 : (p.1 == k) = false := by simpa using h
      simp only [h1, h2]
      exact ih
theorem put_dN {α : Type} (f : α → D) (q : List (Nat × α)) (k : Nat) (v : α) : putD (dN f q) (.int k) (f v) = dN f (putN q k v) := by
  have ha : ((dN f q).any fun p => decide (p.1.kk = (D.int (k : Int)).kk)) = q.any fun p => p.1 == k := by
    unfold dN
    rw [List.any_map]
    refine congrArg (fun z => q.any z) (funext fun p => ?_)
    by_cases h : p.1 = k
    · simp only [Function.comp, (kk_eq _ _).mpr h, decide_true]
      simp [h]
    · simp only [Function.comp, decide_eq_false fun z => h ((kk_eq _ _).mp z)]
      simp [h]
  unfold putD putN
  rw [ha]
  split
  · unfold dN
    rw [List.map_map, List.map_map]
    refine List.map_congr_left fun p _ => ?_
    simp only [Function.comp]
    by_cases h : p.1 = k
    · simp only [(kk_eq _ _).mpr h, if_true, h]
    · rw [if_neg fun z => h ((kk_eq _ _).mp z), if_neg h]
  · unfold dN
    rw [List.map_append]
    rfl
theorem putN_mem {α : Type} {q : List (Nat × α)} {k : Nat} {v : α} {p : Nat × α} (h : p ∈ putN q k v) : p ∈ q ∨ p = (k, v) := by
  unfold putN at h
  split at h
  · obtain ⟨z, hz, e⟩ := List.mem_map.mp h
    split at e
    · rename_i e1
      exact .inr (by rw [← e, e1])
    · exact .inl (e ▸ hz)
  · rcases List.mem_append.mp h with h | h
    · exact .inl h
    · exact .inr (List.mem_singleton.mp h)
theorem putN_keys {α : Type} (q : List (Nat × α)) (k : Nat) (v : α) : (putN q k v).map (·.1) = if (q.any fun p => p.1 == k) = true then q.map (·.1) else q.map (·.1) ++ [k] := by
  unfold putN
  split
  · rw [List.map_map]
    refine List.map_congr_left fun p _ => ?_
    simp only [Function.comp]
    split <;> rfl
  · rw [List.map_append]; rfl
theorem putN_nodup {α : Type} {q : List (Nat × α)} (k : Nat) (v : α) (h : (q.map (·.1)).Nodup) : ((putN q k v).map (·.1)).Nodup := by
  rw [putN_keys]
  split
  · exact h
  · rename_i hn
    rw [List.nodup_append]
    refine ⟨h, by simp, fun a ha b hb e => hn ?_⟩
    rw [List.mem_singleton] at hb
    subst hb
    subst e
    obtain ⟨p, hp, e⟩ := List.mem_map.mp ha
    exact List.any_eq_true.mpr ⟨p, hp, by simpa using e⟩
theorem putN_ne {α : Type} (q : List (Nat × α)) (k : Nat) (v : α) : putN q k v ≠ [] := by
  unfold putN
  split
  · rename_i h
    cases q with
    | nil => simp at h
    | cons _ _ => simp
  · simp
theorem putN_len {α : Type} (q : List (Nat × α)) (k : Nat) (v : α) : (putN q k v).length ≤ q.length + 1 := by
  unfold putN
  split <;> simp
theorem lookN_some {α : Type} {q : List (Nat × α)} {k : Nat} {v : α} (h : lookN q k = some v) : (k, v) ∈ q := by
  unfold lookN at h
  cases e : q.find? fun p => p.1 == k with
  | none => rw [e] at h; cases h
  | some p =>
    rw [e] at h
    cases h
    have h1 := List.mem_of_find?_eq_some e
    have h2 := List.find?_some e
    have h3 : p.1 = k := by simpa using h2
    rw [← h3]
    exact h1
theorem lookN_has {α : Type} {q : List (Nat × α)} {k : Nat} (h : k ∈ q.map (·.1)) : ∃ v, lookN q k = some v := by
  unfold lookN
  cases e : q.find? fun p => p.1 == k with
  | some p => exact ⟨p.2, rfl⟩
  | none =>
    exfalso
    obtain ⟨p, hp, e1⟩ := List.mem_map.mp h
    have := List.find?_eq_none.mp e p hp
    simp [e1] at this
end Fw
end
set_option Elab.async false
set_option linter.all false
set_option autoImplicit false
set_option maxRecDepth 100000
set_option maxHeartbeats 4000000
/-! Fw28: plain reckoning with trees: loops that run through, adjacent pairs, dicts of tuples, texts. -/
noncomputable section
namespace Fw
open PySem
/-! ### loops that run through -/
theorem loop_at {t : Tg} {g : SEnv → Out} {Inv : Nat → SEnv → Prop} : ∀ (ds : List D) (i : Nat) (ρ : SEnv), (∀ j d ρ, ds[j]? = some d → Inv (i + j) ρ → ∃ ρ1 ρ', bindT ρ t d = some ρ1 ∧ g ρ1 = .nx ρ' ∧ Inv (i + j + 1) ρ') → Inv i ρ → ∃ ρ', loopO t g ds ρ = .nx ρ' ∧ Inv (i + ds.length) ρ'
  | [], i, ρ, h, hi => ⟨ρ, rfl, hi⟩
  | d :: ds, i, ρ, h, hi => by
    obtain ⟨ρ1, ρ2, e1, e2, h2⟩ := h 0 d ρ rfl hi
    obtain ⟨ρ3, e3, h3⟩ := loop_at ds (i + 1) ρ2 (fun j d ρ hj hI => by
      have e : i + 1 + j = i + (j + 1) := by omega
      rw [e] at hI ⊢
      exact h (j + 1) d ρ hj hI) h2
    refine ⟨ρ3, ?_, ?_⟩
    · rw [loopO_cons, e1]
      simp only [e2, turn_nx]
      exact e3
    · have e : i + (d :: ds).length = i + 1 + ds.length := by rw [List.length_cons]; omega
      rw [e]
      exact h3
theorem loop_det {t : Tg} {g : SEnv → Out} {Inv : Nat → SEnv → Prop} {ds : List D} {ρ : SEnv} (h : ∀ j d ρ, ds[j]? = some d → Inv j ρ → ∃ ρ1 ρ', bindT ρ t d = some ρ1 ∧ g ρ1 = .nx ρ' ∧ Inv (j + 1) ρ') (hi : Inv 0 ρ) : ∃ ρ', loopO t g ds ρ = .nx ρ' ∧ Inv ds.length ρ' := by
  obtain ⟨ρ', e, h'⟩ := loop_at (Inv := Inv) ds 0 ρ (fun j d ρ hj hI => by rw [Nat.zero_add] at hI ⊢; exact h j d ρ hj hI) hi
  rw [Nat.zero_add] at h'
  exact ⟨ρ', e, h'⟩
theorem enumD_some {ds : List D} {i : Nat} {e : D} (h : (enumD ds)[i]? = some e) : ∃ d, ds[i]? = some d ∧ e = .tup [.int (i : Nat), d] := by
  cases q : ds[i]? with
  | none =>
    have : (enumD ds).length ≤ i := by rw [enumD_len]; exact List.getElem?_eq_none_iff.mp q
    rw [List.getElem?_eq_none this] at h
    cases h
  | some d =>
    rw [enumD_get q] at h
    cases h
    exact ⟨d, rfl, rfl⟩
theorem loop_enum {t : Tg} {g : SEnv → Out} {Inv : Nat → SEnv → Prop} {ds : List D} {ρ : SEnv} (h : ∀ j d ρ, ds[j]? = some d → Inv j ρ → ∃ ρ1 ρ', bindT ρ t (.tup [.int (j : Nat), d]) = some ρ1 ∧ g ρ1 = .nx ρ' ∧ Inv (j + 1) ρ') (hi : Inv 0 ρ) : ∃ ρ', loopO t g (enumD ds) ρ = .nx ρ' ∧ Inv ds.length ρ' := by
  obtain ⟨ρ', e, h'⟩ := loop_det (t := t) (g := g) (Inv := Inv) (ds := enumD ds) (fun j d ρ hj hI => by
    obtain ⟨d', e1, rfl⟩ := enumD_some hj
    exact h j d' ρ e1 hI) hi
  rw [enumD_len] at h'
  exact ⟨ρ', e, h'⟩
@[simp] theorem lstOf_lst (ds : List D) : lstOf (.lst ds) = some ds := rfl
@[simp] theorem enumL_lst (ds : List D) : enumL [.lst ds] = some (enumD ds) := rfl
@[simp] theorem enumL_tup (ds : List D) : enumL [.tup ds] = some (enumD ds) := rfl
@[simp] theorem enumL_ftp (ds : List D) : enumL [.ftp ds] = some (enumD ds) := rfl
@[simp] theorem zipL_tup (a b : List D) : zipL [.tup a, .tup b] = some (zipD a b) := rfl
@[simp] theorem zipL_ftp (a b : List D) : zipL [.ftp a, .ftp b] = some (zipD a b) := rfl
@[simp] theorem zipL_ft (a b : List D) : zipL [.ftp a, .tup b] = some (zipD a b) := rfl
@[simp] theorem zipL_tf (a b : List D) : zipL [.tup a, .ftp b] = some (zipD a b) := rfl
@[simp] theorem zipL_lst (a b : List D) : zipL [.lst a, .lst b] = some (zipD a b) := rfl
/-! ### adjacent pairs -/
theorem cut_one {α : Type} (x : α) (xs : List α) : cutG (x :: xs) (some 1) none = xs := by
  unfold cutG
  have e1 : HT.sIx (x :: xs).length 0 (some 1) = 1 := by
    have := HT.sIx_nat (x :: xs).length 0 1
    rw [List.length_cons] at this ⊢
    simpa using this
  rw [e1, HT.sIx_none]
  simp
theorem genL_pairs {fe : Env → Res D} {r : Env} {i j : Nat} : ∀ as bs : List D, (∀ p ∈ as.zip bs, fe (putE r [(i, p.1), (j, p.2)]) = .ok (.bl true)) → genL false (.tp [.nm i, .nm j]) fe r (zipD as bs) = .ok (.bl true)
  | [], bs, _ => by simp [zipD]; rfl
  | a :: as, [], _ => by simp [zipD]; rfl
  | a :: as, b :: bs, h => by
    have ih := genL_pairs (fe := fe) (r := r) (i := i) (j := j) as bs fun p hp => h p (List.mem_cons_of_mem _ hp)
    have e := h (a, b) List.mem_cons_self
    have e0 : zipD (a :: as) (b :: bs) = .tup [a, b] :: zipD as bs := rfl
    rw [e0]
    simp at e
    simp [genL, e, ih]
theorem zip_next {α : Type} {P : α → α → Prop} : ∀ {x : α} {xs : List α}, (x :: xs).Pairwise P → ∀ p ∈ (x :: xs).zip xs, P p.1 p.2
  | x, [], _, p, hp => by simp at hp
  | x, y :: ys, h, p, hp => by
    rw [List.zip_cons_cons] at hp
    rcases List.mem_cons.mp hp with rfl | hp
    · exact (List.pairwise_cons.mp h).1 y List.mem_cons_self
    · exact zip_next (List.pairwise_cons.mp h).2 p hp
theorem zip_map {α : Type} (f : α → D) : ∀ as bs : List α, (as.map f).zip (bs.map f) = (as.zip bs).map fun p => (f p.1, f p.2)
  | [], _ => by simp
  | _ :: _, [] => by simp
  | a :: as, b :: bs => by simp [zip_map f as bs]
/-! ### dict(pairs), keys whole numbers -/
def mergeN {α : Type} (acc : List (Nat × α)) (l : List (Nat × α)) : List (Nat × α) := l.foldl (fun a p => putN a p.1 p.2) acc
theorem pairsOf_dN {α : Type} (f : α → D) : ∀ K : List (Nat × α), pairsOf (K.map fun k => .tup [.int (k.1 : Int), f k.2]) = some (K.map fun k => (.inl (k.1 : Int), f k.2))
  | [] => rfl
  | k :: K => by
    rw [List.map_cons, pairsOf, pairsOf_dN f K]
    rfl
theorem merge_dN {α : Type} (f : α → D) : ∀ (K acc : List (Nat × α)), mergeD (dN f acc) (K.map fun k => (.inl (k.1 : Int), f k.2)) = dN f (mergeN acc K)
  | [], _ => rfl
  | k :: K, acc => by
    have e : mergeD (dN f acc) ((k :: K).map fun k => (.inl (k.1 : Int), f k.2)) = mergeD (putD (dN f acc) (.int (k.1 : Int)) (f k.2)) (K.map fun k => (.inl (k.1 : Int), f k.2)) := rfl
    rw [e, put_dN, merge_dN f K]
    rfl
theorem toDct_dN {α : Type} (f : α → D) (K : List (Nat × α)) (d : D) (h : d = .lst (K.map fun k => .tup [.int (k.1 : Int), f k.2]) ∨ d = .ftp (K.map fun k => .tup [.int (k.1 : Int), f k.2])) : D.toDct d = .ok (.dct false (dN f (mergeN [] K))) := by
  have e := merge_dN f K []
  have e0 : dN f ([] : List (Nat × α)) = [] := rfl
  rw [e0] at e
  rcases h with rfl | rfl
  · unfold D.toDct prsOf
    simp only [pairsOf_dN, e]
  · unfold D.toDct prsOf
    simp only [pairsOf_dN, e]
theorem mergeN_mem {α : Type} : ∀ {K acc : List (Nat × α)} {p : Nat × α}, p ∈ mergeN acc K → p ∈ acc ∨ p ∈ K
  | [], _, _, h => .inl h
  | k :: K, acc, p, h => by
    rcases mergeN_mem (K := K) (acc := putN acc k.1 k.2) h with h | h
    · rcases putN_mem h with h | h
      · exact .inl h
      · exact .inr (h ▸ List.mem_cons_self)
    · exact .inr (List.mem_cons_of_mem _ h)
theorem dget_dN {α : Type} (f : α → D) (q : List (Nat × α)) (k : Nat) : D.dget (.dct false (dN f q)) (.int (k : Int)) = match lookN q k with | some v => .ok (f v) | none => .no := by
  unfold D.dget
  simp only [kOk_nat, if_true, look_dN]
  cases lookN q k <;> rfl
theorem inD_dN {α : Type} (f : α → D) (q : List (Nat × α)) (k : Nat) : D.inD (.int (k : Int)) (.dct false (dN f q)) = .ok (.bl (lookN q k).isSome) := by
  unfold D.inD
  simp only [kOk_nat, if_true, look_dN]
  cases lookN q k <;> rfl
theorem getG_dN {α : Type} (f : α → D) (q : List (Nat × α)) (k : Nat) {x : D} {fd fk fx : Env → Res D} {r : Env} (hd : fd r = .ok (.dct false (dN f q))) (hk : fk r = .ok (.int (k : Int))) (hx : fx r = .ok x) : getG fd fk fx r = .ok (match lookN q k with | some v => f v | none => x) := by
  unfold getG
  simp only [hd, hk, hx, bind_ok, kOk_nat, if_true, look_dN]
  cases lookN q k <;> rfl
@[simp] theorem toLst_ftp (ds : List D) : (D.ftp ds).toLst = .ok (.lst ds) := rfl
@[simp] theorem toLst_lst (ds : List D) : (D.lst ds).toLst = .ok (.lst ds) := rfl
@[simp] theorem toTupZ_lst (ds : List D) : (D.lst ds).toTupZ = .ok (.ftp ds) := rfl
/-! ### texts -/
theorem ofS_len (s : String) : (Str.ofString s).length = s.length := by
  rw [Str.ofString_eq_toList]
  show ((s.toList.map Char.toNat).toArray).size = s.length
  rw [List.size_toArray, List.length_map]
  rfl
theorem int_len {i : Int} {k : Nat} (hk : 0 < k) (h : i.natAbs < 10 ^ k) : (Str.ofString (toString i)).length ≤ k + 1 := by
  rw [ofS_len]
  exact int_text_length_le10 hk h
@[simp] theorem add_str (a b : Str) : D.add (.str a) (.str b) = if a.length + b.length ≤ lim then .ok (.str (a ++ b)) else .no := rfl
@[simp] theorem toStr_int (i : Int) : D.toStr (.int i) = if i.natAbs.log2 < 1920 then .ok (.str (toString i)) else .no := rfl
@[simp] theorem fmt_int (i : Int) : D.fmt (.int i) = if i.natAbs.log2 < 1920 then .ok (.str (toString i)) else .no := rfl
@[simp] theorem joinF_eq (fa fb : Env → Res D) (r : Env) : joinF fa fb r = (fa r).bind fun d => (asStrR d).bind fun x => (fb r).bind fun e => (strsR e).bind fun l => if (l.map (·.length)).sum + l.length * x.length ≤ lim then .ok (.str (Txt.join x l)) else .no := rfl
@[simp] theorem joinedF_eq (fs : List (Env → Res D)) (r : Env) : joinedF fs r = (joinedG fs Str.empty r).bind fun x => .ok (.str x) := rfl
@[simp] theorem joinedG_nil (acc : Str) (r : Env) : joinedG [] acc r = .ok acc := rfl
@[simp] theorem joinedG_cons (f : Env → Res D) (fs : List (Env → Res D)) (acc : Str) (r : Env) : joinedG (f :: fs) acc r = (f r).bind fun d => (asStrR d).bind fun y => if (acc ++ y).length ≤ lim then joinedG fs (acc ++ y) r else .no := rfl
@[simp] theorem asStrR_str (x : Str) : asStrR (.str x) = .ok x := rfl
theorem strsR_lst (l : List Str) : strsR (.lst (l.map .str)) = .ok l := by
  unfold strsR
  simp only [strsOf_map]
theorem join_len (y : Str) : ∀ l : List Str, (Txt.join y l).length ≤ (l.map (·.length)).sum + l.length * y.length := by
  intro l
  have e : Txt.join y l = Str.join y l := StrLaws.glued_eq_join y l
  rw [e]
  clear e
  induction l with
  | nil => simp [Str.join]; rfl
  | cons x r ih =>
    cases r with
    | nil => simp [Str.join]
    | cons z r =>
      have e : Str.join y (x :: z :: r) = x ++ y ++ Str.join y (z :: r) := rfl
      rw [e, Str.length_append, Str.length_append]
      simp only [List.map_cons, List.sum_cons, List.length_cons] at ih ⊢
      have : (r.length + 1 + 1) * y.length = (r.length + 1) * y.length + y.length := Nat.succ_mul _ _
      omega
@[simp] theorem cntF_eq (fa fb : Env → Res D) (r : Env) : cntF fa fb r = (fa r).bind fun d => match cntOf d with | some ns => (fb r).bind fun e => (asIntR e).bind fun k => .ok (.int (ns.count k : Nat)) | none => .no := rfl
@[simp] theorem cntOf_lst (ns : List Int) : cntOf (.lst (iL ns)) = some ns := intsOf_map ns
@[simp] theorem cntOf_ftp (ns : List Int) : cntOf (.ftp (iL ns)) = some ns := intsOf_map ns
@[simp] theorem asIntR_int (i : Int) : asIntR (.int i) = .ok i := rfl
theorem sortSet_lst (ns : List Int) (h : ns.length < 64) : D.sortSet (.lst (iL ns)) = .ok (.lst (iL (setI ns))) := by
  unfold D.sortSet intsIn
  have e : (seqOf (.lst (iL ns))).bind intsOf = some ns := intsOf_map ns
  rw [e]
  simp only [h, if_true]
  rfl
theorem sortSet_ftp (ns : List Int) (h : ns.length < 64) : D.sortSet (.ftp (iL ns)) = .ok (.lst (iL (setI ns))) := by
  unfold D.sortSet intsIn
  have e : (seqOf (.ftp (iL ns))).bind intsOf = some ns := intsOf_map ns
  rw [e]
  simp only [h, if_true]
  rfl
/-! ### draws, by statements -/
theorem AllOk.kcons {P : D → Prop} {Q : List Sl → Prop} {f : Env → Res D} {ks : SEnv → Res (List Sl)} {ρ : SEnv} (h : AllOk P (f ρ.vis)) (h2 : ∀ d, P d → AllOk (fun ss => Q (.val d :: ss)) (ks ρ)) : AllOk Q (kCons (hV f) ks ρ) := by
  rw [kCons_eq, hV_eq, Res.bind_assoc]
  refine AllOk.bind (fun d hd => ?_) h
  rw [bind_ok]
  exact AllOk.bind (fun ss hs => hs) (h2 d hd)
theorem AllOk.knil {Q : List Sl → Prop} {ρ : SEnv} (h : Q []) : AllOk Q (kNil ρ) := h
theorem AllO.par {Q : SEnv → Prop} {is : List Nat} {ks : SEnv → Res (List Sl)} {ρ : SEnv} (h : AllOk (fun ss => ∃ ρ', setSls ρ is ss = some ρ' ∧ Q ρ') (ks ρ)) : AllO Q (parO is ks ρ) := by
  rw [parO_eq]
  refine AllO.bindR (fun ss ⟨ρ', e, hq⟩ => ?_) h
  rw [e]
  exact hq
theorem AllO.setV {Q : SEnv → Prop} {P : D → Prop} {f : Env → Res D} {i : Nat} {ρ : SEnv} (h : AllOk P (f ρ.vis)) (hr : isRow ρ i = false) (hq : ∀ d, P d → Q (ρ.set i (.val d))) : AllO Q (bindO (f ρ.vis) fun d => setO ρ i (.val d)) := by
  refine AllO.bindR (fun d hd => ?_) h
  rw [setO_eq, if_pos hr]
  exact hq d hd
theorem AllOk.call {P : D → Prop} {n : Nat} {F : List D → Res D} {fs : Env → Res (List D)} {r : Env} {ds : List D} (hf : fs r = .ok ds) (hl : ds.length = n) (h : AllOk P (F ds)) : AllOk P (app (callF n F) fs r) := by
  rw [app_eq, hf, bind_ok, callF_eq, if_pos hl]
  exact h
end Fw
end
set_option Elab.async false
set_option linter.all false
set_option autoImplicit false
set_option maxRecDepth 100000
set_option maxHeartbeats 4000000
/-! Fw29: sorted(d) of a dict by whole numbers, over the library's collect. -/
noncomputable section
namespace FwS
open PySem PySem.Spec PyProof.Rows L2
open PySem.W
section
variable {prog : Program} {w : World} {A : Around} {E : Value → Shared → Prop} {s : Shared} {T : String} {r d : Addr} {n : Nat} {P : Nat → Value → Prop} {OK : Heap → Prop}
/-- a fresh list of whole numbers, sorted -/
theorem sort_fresh {h : Heap} {tk : Nat} {vs : List Value} {ns : List Int} {R : Shared → Prop} (iv : IntsAre vs ns) (fit : vs.length ≤ sizeLine)
    (k : ∀ (out : List Value) (ep : Nat) (h2 : Heap), (∀ b o, h.get? b = some o → h2.get? b = some o) → h2.get? h.objs.size = some (seqObj "list" out.toArray ep) → IntsAre out (out.map SrtO.iv) → (out.map SrtO.iv).Perm ns → (out.map SrtO.iv).Pairwise (· ≤ ·) → R { s with heap := h2, toks := tk }) :
    wpAny (model prog w) A (call (.builtin "list.sort") [.ref h.objs.size]) (fun _ t => R t) E { s with heap := h.push (seqObj "list" vs.toArray 0), toks := tk } := by
  have at0 : (h.push (seqObj "list" vs.toArray 0)).get? h.objs.size = some (seqObj "list" vs.toArray 0) := Heap.get?_push_size _ rfl
  have ty : Shared.TypeIs { s with heap := h.push (seqObj "list" vs.toArray 0), toks := tk } (.ref h.objs.size) "list" := ⟨_, at0, rfl⟩
  apply wpAny_call_entry slot_list_sort ty entry_list_sort _ (args_list_sort _)
  refine SrtO.list_sort_ord SrtO.swo_int at0 fit (fun two => SrtO.ints_sortable iv two) fun out up st => ?_
  have ⟨a, b, c⟩ := SrtO.ints_out iv up st
  have ⟨ep, g⟩ := sortedHeap_at (vs := vs) (out := out.toArray) at0
  refine ⟨_, rfl, k out ep _ (fun x o e => ?_) g a b c⟩
  have lx : x < h.objs.size := Heap.lt_size e
  exact (sortedHeap_old (Nat.ne_of_lt lx) (size_push' .. ▸ Nat.lt_succ_of_lt lx)).trans (Heap.get?_push_of_some _ e)
theorem sorted_src {Q : Value → Shared → Prop} {ns : List Int} (K : KdlSrc prog w T r d n P OK) (hh : A.handled = none) (ok : OK s.heap) (fit : n ≤ sizeLine) (are : ∀ vs : List Value, vs.length = n → (∀ j v, vs[j]? = some v → P j v) → IntsAre vs ns)
    (k : ∀ (h1 h2 : Heap) (tk : Nat) (out : List Value) (ep : Nat), (∀ b o, s.heap.get? b = some o → h1.get? b = some o) → (∀ b o, h1.get? b = some o → h2.get? b = some o) → h2.get? h1.objs.size = some (seqObj "list" out.toArray ep) → IntsAre out (out.map SrtO.iv) → (out.map SrtO.iv).Perm ns → (out.map SrtO.iv).Pairwise (· ≤ ·) → Q (.ref h1.objs.size) { s with heap := h2, toks := tk }) :
    wpAny (model prog w) A (call (.builtin "sorted") [.ref r]) Q E s := by
  apply Calls.call_function_entry kind_sorted plain_sorted entry_sorted (args_sorted1 _)
  unfold Builtin.«sorted»
  apply wpAny_bind (m := checkCount "sorted" 1 1 _)
  apply wpAny_pure
  apply wpAny_bind
  refine kdu_collect (A := A.in1) K hh ok fit fun h1 tk acc old its => ?_
  have num : acc.toList.length = n := by rw [Array.length_toList]; exact its.1
  have iv := are acc.toList num fun j v e => its.2 j v (by rw [← Array.getElem?_toList]; exact e)
  refine wpAny_bind (wpAny_newList (wpAny_bind (wpAny_holding ?_)) (num ▸ fit))
  exact sort_fresh (s := s) (tk := tk) iv (num ▸ fit) fun out ep h2 old2 g a b c => wpAny_pure ⟨_, rfl, k h1 h2 tk out ep old old2 g a b c⟩
end
end FwS
end
set_option Elab.async false
set_option linter.all false
set_option autoImplicit false
set_option maxRecDepth 100000
set_option maxHeartbeats 4000000
/-! Fw30: sorted(d), max(d.values()). -/
noncomputable section
namespace Fw
open PySem PySem.Spec PyProof.Rows L2
section
variable {X : Cx} {Γ : Gm} {E : XK} {x : Str} {a b c o e : Expr} {es : List Expr} {pos p p2 pos' apos cpos : Pos} {f fa fb fc : Env → Res D} {fs : Env → Res (List D)} {k : Nat}
/-! ### sorted(d) -/
theorem keyInt {n : Int} {v : Value} (h : keyIs (.inl n) v = true) : ∃ t, v = .int n t := by
  obtain ⟨t, e⟩ := keyIs_rel h
  exact ⟨t, e⟩
theorem cr_sortD (hc : X.calm = true) : CallR X (.builtin "sorted") (fun xs H Q => ∃ (q : Addr) (kvs : List (Key × V)) (ns : List Int), xs = [.ref q] ∧ H q = some (.dK kvs) ∧ kvs.map (·.1) = ns.map Sum.inl ∧
    ∀ (ns' : List Int) (p : Addr), ns'.Perm ns → ns'.Pairwise (· ≤ ·) → H p = none → Q (.ref p) (upd H p (.lst (ns'.map V.int)))) := by
  intro pins s σ H xs us Q I r h
  obtain ⟨q, kvs, ns, rfl, hk, hks, hq⟩ := h
  rw [Vals.ref1 r]
  obtain ⟨z, lo, vs, rk, hd⟩ := (show ObjOk X.prog X.w H s.heap q (.dK kvs) from I.hok q _ hk)
  obtain ⟨ep, hat⟩ := hd.dictAt
  have hl : kvs.length = vs.length := Paired.length rk
  have hn : kvs.length = ns.length := by
    have := congrArg List.length hks
    simpa using this
  have hvk : vs.map (·.1) = ns.map Sum.inl := by rw [← KV.keys rk]; exact hks
  refine FwS.sorted_src (ns := ns) (PySem.W.kdl_dict (knd := mixKind X.prog X.w) (kvs := vs) (ep := ep) lo) (I.ok.hd hc) hat (by rw [← hl]; exact z) (fun us hus hP => ints_each (by rw [hus, ← hl, hn]) fun j v hv => ?_) fun h1 h2 tk out ep' old old2 hg hI hp hs => ?_
  · obtain ⟨k, y, e1, e2⟩ := hP j v hv
    have e3 : (vs.map (·.1))[j]? = some k := by rw [List.getElem?_map, e1]; rfl
    rw [hvk, List.getElem?_map] at e3
    cases e4 : ns[j]? with
    | none => rw [e4] at e3; cases e3
    | some n =>
      rw [e4] at e3
      cases e3
      obtain ⟨t, e5⟩ := keyInt e2
      exact ⟨n, t, rfl, e5⟩
  · have hlen : ((out.map SrtO.iv).map V.int).length ≤ sizeLine := by
      rw [List.length_map, hp.length_eq, ← hn]
      exact z
    have I1 : Inv X pins σ H { s with heap := h1, toks := tk } := I.kept old
    exact ⟨.ref h1.objs.size, upd H h1.objs.size (.lst ((out.map SrtO.iv).map V.int)), I1.laid (t' := tk) old2 (Nat.le_refl _) ⟨hlen, out, ep', vals_of_ints hI, hg⟩, rfl, hq _ _ hp hs (I1.hok.fresh (Nat.le_refl _))⟩
def intKeys : List (D × D) → Option (List Int)
  | [] => some []
  | (.int i, _) :: r => (intKeys r).map (i :: ·)
  | _ :: _ => none
theorem RpK.intKeys {K : Kr} {av : Addr → Prop} {H : Hp} : ∀ {ds : List (D × D)} {kvs : List (Key × V)} {ns : List Int}, RpK K av H ds kvs → Fw.intKeys ds = some ns → kvs.map (·.1) = ns.map Sum.inl
  | _, _, _, .nil, e => by cases e; rfl
  | _, _, ns, .cons (k := k) (ds := ds) _ r, e => by
    cases k with
    | inl i =>
      have e : (Fw.intKeys ds).map (i :: ·) = some ns := e
      cases q : Fw.intKeys ds with
      | none => rw [q] at e; cases e
      | some l => rw [q] at e; cases e; rw [List.map_cons, r.intKeys q]; rfl
    | inr x => cases e
def D.sortD : D → Res D
  | .dct false ds => match intKeys ds with | some ns => .ok (.lst ((sortI ns).map .int)) | none => .no
  | _ => .no
theorem tn_sortD (hm : X.mg "sorted" = none) (hc : X.calm = true) (ha : PE X a (eT Γ E fa)) (hg : Gl X "sorted" := by rfl) (he : starEach [a] X.env = (false, eval a X.env) :: starEach [] X.env := by rfl) (hv : bootBuiltins "sorted" = some (.builtin "sorted") := by decide +kernel) :
    PE X (.Call (.Name "sorted" p) [a] [] pos) (nT Γ E (app (on1 D.sortD) (consA fa nilA))) :=
  PE.imp (pe_callB (cr_sortD hc) hg hm hv (ta_cons ha ta_nil he) (he := he)) fun σ H Q ⟨av, ρ, env, h⟩ => aT_bind env h fun ds vs H1 x1 env1 r1 h1 => by
    cases r1 with
    | nil => exact (show False from h1).elim
    | cons r1 r2 =>
      cases r2 with
      | cons _ _ => exact (show False from h1).elim
      | nil =>
        cases r1 with
        | @dK q kvs ds g n rk =>
          replace h1 : ROk Γ av H1 _ (match intKeys ds with | some ns => Res.ok (D.lst ((sortI ns).map .int)) | none => .no) Q E := h1
          cases e : intKeys ds with
          | none => rw [e] at h1; exact h1.elim
          | some ns =>
            rw [e] at h1
            exact ⟨q, kvs, ns, rfl, g, rk.intKeys e, fun ns' p' hp hs hn => by
              rw [perm_sort_eq hp hs]
              exact new_bind (β := Unit) (δ := Unit) (ρ := ρ) x1 h1 hn (RpL.ofInts _)⟩
        | _ => exact (show False from h1).elim

/-! ### max(d.values()) -/
theorem paired_at {α β : Type} {F : α → β → Prop} : ∀ {l : List α} {m : List β}, Paired F l m → ∀ {i : Nat} {x : α} {y : β}, l[i]? = some x → m[i]? = some y → F x y
  | _, _, .nil, _, _, _, h, _ => by simp at h
  | _, _, .cons h _, 0, _, _, e1, e2 => by cases e1; cases e2; exact h
  | _, _, .cons _ t, i + 1, _, _, e1, e2 => paired_at t (i := i) (by simpa using e1) (by simpa using e2)
/-- the dict at q, its values one by one -/
def DV (H : Hp) (q : Addr) (vs : List V) : Prop := (∃ kvs : List (Key × V), H q = some (.dK kvs) ∧ kvs.map (·.2) = vs) ∨ ∃ kvs : List (List Key × V), H q = some (.dT kvs) ∧ kvs.map (·.2) = vs
structure DAtV (s : Shared) (q : Addr) (vs : List V) (ob : Obj) (es : Array DictEntry) (ep : Nat) : Prop where
  obj : s.heap.get? q = some ob
  ex : ob.ExactDict
  dat : ob.data = .dict es ep
  sm : (q == sysModules) = false
  size : es.size = vs.length
  at_ : ∀ (i : Nat) (v : V), vs[i]? = some v → ∃ en : DictEntry, es[i]? = some en ∧ RelV v en.val
theorem DV.at {pins : List (Addr × Obj)} {σ : L2.St} {H : Hp} {s : Shared} {q : Addr} {vs : List V} (I : Inv X pins σ H s) (h : DV H q vs) : ∃ ob es ep, DAtV s q vs ob es ep := by
  rcases h with ⟨kvs, hk, rfl⟩ | ⟨kvs, hk, rfl⟩
  · obtain ⟨z, lo, ws, rk, ob, es, ep, ho, hx, hd, hks, hpr, hnd⟩ := (show ObjOk X.prog X.w H s.heap q (.dK kvs) from I.hok q _ hk)
    have hl : kvs.length = ws.length := Paired.length rk
    have e1 : es.toList.length = ws.length := hpr.length
    rw [Array.length_toList] at e1
    refine ⟨ob, es, ep, ho, hx, hd, lo, by rw [List.length_map, hl, e1], fun i v hv => ?_⟩
    rw [List.getElem?_map] at hv
    cases e : kvs[i]? with
    | none => rw [e] at hv; cases hv
    | some kv =>
      rw [e] at hv
      cases hv
      obtain ⟨u, hu, ru⟩ := kv_get rk (show kvs[i]? = some (kv.1, kv.2) from e)
      have hi : i < es.size := by
        rw [e1]
        exact (List.getElem?_eq_some_iff.mp hu).1
      obtain ⟨_, h2⟩ := hpr.get? (e := es[i]) (by simp [hi]) hu
      exact ⟨es[i], Array.getElem?_eq_getElem hi, by rw [h2]; exact ru⟩
  · obtain ⟨z, lo, ks, pr, ob, es, ep, ho, hx, hd, he, hnd⟩ := (show ObjOk X.prog X.w H s.heap q (.dT kvs) from I.hok q _ hk)
    have hl : kvs.length = ks.length := Paired.length pr
    refine ⟨ob, es, ep, ho, hx, hd, lo, by rw [List.length_map, hl, size_of_entries he], fun i v hv => ?_⟩
    rw [List.getElem?_map] at hv
    cases e : kvs[i]? with
    | none => rw [e] at hv; cases hv
    | some kv =>
      rw [e] at hv
      cases hv
      have hi : i < ks.length := by rw [← hl]; exact (List.getElem?_eq_some_iff.mp e).1
      have e2 := entry_at he i
      rw [List.getElem?_eq_getElem hi] at e2
      have r := paired_at pr e (List.getElem?_eq_getElem hi)
      exact ⟨_, e2, r.2.2⟩
end
end Fw
end
set_option Elab.async false
set_option linter.all false
set_option autoImplicit false
set_option maxRecDepth 100000
set_option maxHeartbeats 4000000
/-! Fw31: max(d.values()). -/
noncomputable section
namespace Fw
open PySem PySem.Spec PyProof.Rows L2
section
variable {X : Cx} {Γ : Gm} {E : XK} {x : Str} {a b c o e : Expr} {es : List Expr} {pos p p2 pos' apos cpos : Pos} {f fa fb fc : Env → Res D} {fs : Env → Res (List D)} {k : Nat}
/-- d.values(), of a dict -/
theorem pe_vals {te : TE} (he : PE X e te) (hbase : attributeBase e "values" X.env (eval e X.env) = eval e X.env := by rfl) (hline : (apos.endLine == cpos.line) = true := by rfl) :
    PE X (.Call (.Attribute e "values" apos) [] [] cpos) (fun σ H Q => te σ H fun x H1 => ∃ q vs, x = .ref q ∧ DV H1 q vs ∧ ∀ p, H1 p = none → Q (.ref p) (upd H1 p (viewO "dict_values" p q))) := by
  constructor
  intro pins s σ H Q I h
  apply wpAny_Call_method (T := "dict") (id := "dict.values") hbase rfl hline F.plainAttrs_dict F.slot_dict_values F.type_dict_values
  apply thn (he.run pins s σ H _ I h)
  rintro u t ⟨_, H1, J, rx, q, vs, rfl, dv, k⟩
  cases (show u = .ref q from rx)
  have ⟨ob, es, ep, D⟩ := dv.at J
  have ty : t.TypeIs (.ref q) "dict" := ⟨ob, D.obj, D.ex.1⟩
  have run : wpAny (model X.prog X.w) X.A.in1 (Builtin.«dict.values» ⟨[.ref q], []⟩) (fun fin t' => ∃ v, fin = .done (.ret v) ∧ EP X pins σ Q v t') X.xe t := by
    show wpAny _ _ (Builtin.Dict.noArgs "values" ⟨[.ref q], []⟩ >>= _) _ _ t
    unfold Builtin.Dict.noArgs
    apply wpAny_bind
    refine wpAny_bind (wpAny_notOrdered_dict ty ?_)
    apply (wpAny_pure : _ → wpAny (model X.prog X.w) X.A.in1 (pure q) _ X.xe t)
    apply wpAny_bind
    rw [show Builtin.Dict.showsAll q = pure () by unfold Builtin.Dict.showsAll; rw [D.sm]; rfl]
    apply wpAny_pure
    refine wpAny_bind (wpAny_newObj_type (wpAny_pure ?_))
    have new : ∀ b o, t.heap.get? b = some o → (t.heap.push (DSub.viewOb "dict_values" q)).get? b = some o := fun _ _ g => Heap.get?_push_of_some _ g
    exact ⟨_, rfl, .ref t.heap.objs.size, _, J.laid (t' := t.toks) new (Nat.le_refl _) (viewO_ok (Heap.get?_push_size _ rfl)), rfl, k _ (J.hok.fresh (Nat.le_refl _))⟩
  exact ⟨ty, fun b z => by cases z; exact ⟨ob, D.obj, D.ex.2.1⟩, Calls.callWith_builtin rfl (PySem.evalArgs_none (wpAny_call_entry F.slot_dict_values ty F.entry_dict_values run (F.args_dict_values_1 _)))⟩
/-- the place of a greatest number -/
theorem top_at {ns : List Int} (some_ : 0 < ns.length) : ∀ b, b = argBest (fun i j => decide (ns.getD i 0 > ns.getD j 0)) (ns.length - 1) → ns.getD b 0 ∈ ns ∧ ∀ y ∈ ns, y ≤ ns.getD b 0 := by
  rintro b rfl
  have z := argBest_gt (fun i => ns.getD i 0) (ns.length - 1)
  constructor
  · exact PySem.getD_mem (Nat.lt_of_le_of_lt z.1 (by omega))
  · intro y hy
    rcases List.getElem_of_mem hy with ⟨j, lt, rfl⟩
    have := z.2 j (by omega)
    simpa [List.getD, lt] using this
theorem cr_maxV (hc : X.calm = true) : CallR X (.builtin "max") (fun xs H Q => ∃ (p q : Addr) (ns : List Int), xs = [.ref p] ∧ H p = some (viewO "dict_values" p q) ∧ DV H q (ns.map V.int) ∧ 0 < ns.length ∧ ∀ m, m ∈ ns → (∀ y, y ∈ ns → y ≤ m) → Q (.int m) H) := by
  rintro pins s σ H _ us Q I rx ⟨p, a, ns, rfl, view, dv, some_, k⟩
  cases Vals.ref1 rx
  have ⟨ob, es, ep, D⟩ := dv.at I
  have at_ := (show ObjOk X.prog X.w H s.heap p (viewO "dict_values" p a) from I.hok p _ view).1
  have num : es.size = ns.length := by simpa using D.size
  have la : a < s.heap.objs.size := Heap.lt_size D.obj
  have val : ∀ (i : Nat) (e : DictEntry), es[i]? = some e → ∃ t, e.val = .int (ns.getD i 0) t := by
    intro i e g
    have lt : i < ns.length := num ▸ (Array.getElem?_eq_some_iff.mp g).1
    rcases D.at_ i (V.int (ns.getD i 0)) (by simp [List.getD, lt]) with ⟨e2, g2, r⟩
    cases g.symm.trans g2
    exact r
  apply call_max_walk
  apply DSub.iter_vals at_ D.obj D.dat
  refine ⟨s.heap.objs.size, [s.heap.objs.size, a], [s.heap.objs.size], es.size, _, _, _, rfl, DSub.walksVal (a := a) (I.ok.hd hc : X.A.in1.handled = none) (Nat.ne_of_lt la) D.dat val, ⟨Heap.get?_push_size _ rfl, Heap.get?_push_of_some _ D.obj⟩, ?_, num ▸ some_, CmpOf.ints_gt (fun i => ns.getD i 0) (fun _ _ z => z), ?_⟩
  · intro b hb
    have two : b = s.heap.objs.size ∨ b = a := by simpa using hb
    show b < (s.heap.push _).objs.size
    rw [size_push']
    exact two.elim (fun z => z ▸ Nat.lt_succ_self _) fun z => z ▸ Nat.lt_succ_of_lt la
  · rintro v h' tk ⟨t, rfl⟩ keep
    have top := top_at some_ _ rfl
    rw [← num] at top
    refine ⟨.int _, H, I.kept (t' := tk) (fun b o g => keep b o (fun z => ?_) (Heap.get?_push_of_some _ g)), ⟨t, rfl⟩, k _ top.1 top.2⟩
    have z2 : b = s.heap.objs.size := by simpa using z
    exact absurd (z2 ▸ Heap.lt_size g) (Nat.lt_irrefl _)
theorem RpK.vals {K : Kr} {av : Addr → Prop} {H : Hp} : ∀ {ds : List (D × D)} {kvs : List (Key × V)}, RpK K av H ds kvs → RpL K av H (ds.map (·.2)) (kvs.map (·.2))
  | _, _, .nil => .nil
  | _, _, .cons h r => .cons h r.vals
theorem RpT.vals {K : Kr} {av : Addr → Prop} {H : Hp} : ∀ {ds : List (D × D)} {kvs : List (List Key × V)}, RpT K av H ds kvs → RpL K av H (ds.map (·.2)) (kvs.map (·.2))
  | _, _, .nil => .nil
  | _, _, .cons h r => .cons h r.vals
/-- max(d.values()) -/
def D.maxVals : D → Res D
  | .dct _ ds => match intsOf (ds.map (·.2)) with | some ns => (match maxL ns with | some m => .ok (.int m) | none => .no) | none => .no
  | _ => .no
theorem DV.keep {H : Hp} {q p : Addr} {u : HO} {vs : List V} (h : DV H q vs) (hp : H p = none) : DV (upd H p u) q vs := by
  rcases h with ⟨kvs, h, e⟩ | ⟨kvs, h, e⟩
  · exact .inl ⟨kvs, by rw [upd_ne (fun z => by rw [z, hp] at h; cases h)]; exact h, e⟩
  · exact .inr ⟨kvs, by rw [upd_ne (fun z => by rw [z, hp] at h; cases h)]; exact h, e⟩
theorem te_maxVals (hm : X.mg "max" = none) (hc : X.calm = true) (he : PE X e (eT Γ E fa)) (hg : Gl X "max" := by rfl) (hbase : attributeBase e "values" X.env (eval e X.env) = eval e X.env := by rfl) (hline : (apos.endLine == cpos.line) = true := by rfl)
    (hs : starEach [.Call (.Attribute e "values" apos) [] [] cpos] X.env = (false, eval (.Call (.Attribute e "values" apos) [] [] cpos) X.env) :: starEach [] X.env := by rfl) (hv : bootBuiltins "max" = some (.builtin "max") := by decide +kernel) :
    PE X (.Call (.Name "max" p) [.Call (.Attribute e "values" apos) [] [] cpos] [] pos) (eT Γ E (un1 D.maxVals fa)) :=
  PE.imp (pe_callB (cr_maxV hc) hg hm hv (pa_cons (pe_vals he hbase hline) pa_nil hs) (he := hs)) fun σ H Q ⟨av, ρ, env, h⟩ => eT_bind env h fun d v H1 x1 env1 r1 h1 => by
    have key : ∀ (t : Bool) (ds : List (D × D)) (q : Addr) (vs : List V), d = .dct t ds → v = .ref q → DV H1 q vs → RpL Γ.kr av H1 (ds.map (·.2)) vs → ∃ q vs, v = .ref q ∧ DV H1 q vs ∧ ∀ p, H1 p = none → ∃ (p' q' : Addr) (ns : List Int), ([.ref p] : List V) = [.ref p'] ∧ upd H1 p (viewO "dict_values" p q) p' = some (viewO "dict_values" p' q') ∧ DV (upd H1 p (viewO "dict_values" p q)) q' (ns.map V.int) ∧ 0 < ns.length ∧ ∀ m, m ∈ ns → (∀ y, y ∈ ns → y ≤ m) → Q (.int m) (upd H1 p (viewO "dict_values" p q)) := by
      rintro t ds q vs rfl rfl hd rl
      replace h1 : ROk Γ av H1 _ (match intsOf (ds.map (·.2)) with | some ns => (match maxL ns with | some m => Res.ok (D.int m) | none => .no) | none => .no) Q E := h1
      cases e1 : intsOf (ds.map (·.2)) with
      | none => rw [e1] at h1; exact h1.elim
      | some ns =>
        rw [e1] at h1
        have e2 := intsOf_eq e1
        rw [e2] at rl
        have e3 := rl.ints
        subst e3
        cases e4 : maxL ns with
        | none => simp only [e4] at h1; exact h1.elim
        | some m0 =>
          simp only [e4] at h1
          refine ⟨q, _, rfl, hd, fun p hp => ⟨p, q, ns, rfl, upd_same, hd.keep hp, ?_, fun m hm hle => ?_⟩⟩
          · cases ns with
            | nil => cases e4
            | cons _ _ => simp
          · rw [maxL_spec e4 hm hle]
            exact h1 _ _ (Ext.new _ hp) (.int _)
    cases r1 with
    | dK g n q => exact key false _ _ _ rfl rfl (.inl ⟨_, g, rfl⟩) q.vals
    | dT g n q => exact key true _ _ _ rfl rfl (.inr ⟨_, g, rfl⟩) q.vals
    | _ => exact (show False from h1).elim
end
end Fw
end
set_option Elab.async false
set_option linter.all false
set_option autoImplicit false
set_option maxRecDepth 100000
set_option maxHeartbeats 4000000
/-! Fw32: == of dicts by tuples, their values whole numbers. -/
noncomputable section
namespace FwQ
open PySem PySem.Spec PyProof.Rows L2
open PySem.Sem (wp)
section
variable {prog : Program} {w : World} {K : Type} [DecidableEq K] {knd : HeapKind prog w K} {A : Around} {E : Value → Shared → Prop} {s : Shared}
def vEq : Value → Value → Bool
  | .int i _, .int j _ => i == j
  | _, _ => false
def sameAt (kb : List (K × Addr × Value)) (x : K × Addr × Value) : Bool := match atKey kb x.1 with
  | some p => vEq x.2.2 p.2
  | none => false
def isI (v : Value) : Prop := ∃ i t, v = .int i t
/-- what a dict by tuples is, opened -/
structure Open (knd : HeapKind prog w K) (h : Heap) (a : Addr) (xs : List (K × Addr × Value)) (o : Obj) (es : Array DictEntry) (ep : Nat) : Prop where
  obj : h.get? a = some o
  dat : o.data = .dict es ep
  rows : es.toList = xs.map (entryOfKey knd)
  keys : ∀ x ∈ xs, knd.is h x.1 x.2.1
  once : (xs.map (·.1)).Nodup
theorem Open.of {h : Heap} {a : Addr} {xs : List (K × Addr × Value)} (d : h.DictOfH knd a xs) : ∃ o es ep, Open knd h a xs o es ep := by
  rcases d with ⟨o, es, ep, h1, _, h2, h3, h4, h5⟩
  exact ⟨o, es, ep, h1, h2, h3, h4, h5⟩
theorem Open.num {h : Heap} {a : Addr} {xs : List (K × Addr × Value)} {o : Obj} {es : Array DictEntry} {ep : Nat} (d : Open knd h a xs o es ep) : es.size = xs.length := size_of_entries d.rows
theorem Open.row {h : Heap} {a : Addr} {xs : List (K × Addr × Value)} {o : Obj} {es : Array DictEntry} {ep : Nat} (d : Open knd h a xs o es ep) {i : Nat} {k : K} {p : Addr × Value} (e : xs[i]? = some (k, p)) : es[i]? = some ⟨knd.hash k, .ref p.1, p.2⟩ := by
  rw [entry_at d.rows i, e]
  rfl
/-- one entry of the one is looked for in the other -/
theorem one_same {b c : Addr} {k : K} {iv : Int} {t : Tok} {kb : List (K × Addr × Value)} {o : Obj} {es : Array DictEntry} {ep : Nat} {Q : Bool → Shared → Prop} (room : knd.room A) (key : knd.is s.heap k c) (d : Open knd s.heap b kb o es ep) (nums : ∀ x ∈ kb, isI x.2.2)
    (q : Q (sameAt kb (k, c, Value.int iv t)) s) : wpAny (model prog w) A (do
      let some j ← dictFind b (.ref c) (knd.hash k) | pure false
      let some f := (← dictEntries b)[j]? | unsupported "internal:dict-equal"
      holding [f.val] (eqBool (.int iv t) f.val)) Q E s := by
  apply wpAny_bind
  apply wpAny_dictFind_heap room key d.obj d.dat d.rows d.keys d.once
  · intro no
    have e : sameAt kb (k, c, Value.int iv t) = false := by simp only [sameAt, atKey_none_of_get no]
    rw [e] at q
    exact wpAny_pure q
  · intro j p e
    rcases nums _ (List.mem_of_getElem? e) with ⟨jv, u, ev⟩
    have ev2 : p.2 = .int jv u := ev
    have e1 : sameAt kb (k, c, Value.int iv t) = (iv == jv) := by simp only [sameAt, atKey_of_get d.once e, ev2, vEq]
    rw [e1] at q
    apply wpAny_bind
    apply wpAny_dictEntries d.obj d.dat
    rw [d.row e, ev2]
    exact wpAny_holding (SeqAt.EqAt.int_int iv t jv u prog w _ _ q)
theorem pairs_same {nm : String} {a b : Addr} {ka kb : List (K × Addr × Value)} {Q : Bool → Shared → Prop} (ha : (a == sysModules) = false) (hb : (b == sysModules) = false) (room : knd.room A) (na : ∀ x ∈ ka, isI x.2.2) (nb : ∀ x ∈ kb, isI x.2.2)
    (da : s.heap.DictOfH knd a ka) (db : s.heap.DictOfH knd b kb) (q : Q (ka.length == kb.length && ka.all (sameAt kb)) s) : wpAny (model prog w) A (Builtin.Dict.samePairs nm a b) Q E s := by
  rcases Open.of da with ⟨o1, es, ep1, D1⟩
  rcases Open.of db with ⟨o2, fs, ep2, D2⟩
  have shows : ∀ x : Addr, (x == sysModules) = false → Builtin.Dict.showsAll x = pure () := fun x hx => by unfold Builtin.Dict.showsAll; rw [hx]; rfl
  rw [← D1.num, ← D2.num] at q
  unfold Builtin.Dict.samePairs
  rw [shows a ha, shows b hb]
  apply wpAny_bind; apply wpAny_pure
  apply wpAny_bind; apply wpAny_pure
  apply wpAny_bind; apply wpAny_dictEntries D1.obj D1.dat
  apply wpAny_bind; apply wpAny_dictEntries D2.obj D2.dat
  cases same : (es.size == fs.size)
  · rw [same] at q
    rw [if_pos (by simpa using same)]
    exact wpAny_bind (wpAny_rule (wpAny_pure q))
  · rw [same] at q
    rw [if_neg (by simpa using same)]
    apply wpAny_bind; apply wpAny_dictEpoch D1.obj D1.dat
    apply wpAny_bind
    rw [Std.Legacy.Range.forIn_eq_forIn_range', show ([:es.size] : Std.Legacy.Range).size = es.size by simp [Std.Legacy.Range.size]]
    -- what is still to come is the tail of ka from there on
    refine wpAny_forIn_list _ (fun rest z t => t = s ∧ z = (none, ()) ∧ ∃ n, rest = List.range' (es.size - n) n ∧ n ≤ es.size ∧ Q (true && (ka.drop (es.size - n)).all (sameAt kb)) s) _ ?_ ?_ _ _ ⟨rfl, rfl, es.size, by rw [Nat.sub_self], Nat.le_refl _, by rw [Nat.sub_self]; exact q⟩
    · rintro x rest z t ⟨rfl, rfl, n, er, le, q⟩
      cases n with
      | zero => cases er
      | succ n =>
        rw [List.range'_succ] at er
        injection er with e1 e2
        have lt : x < ka.length := by rw [← D1.num]; omega
        have en : es.size - n = x + 1 := by omega
        rw [← e1, List.drop_eq_getElem_cons lt, List.all_cons] at q
        have g : ka[x]? = some ka[x] := List.getElem?_eq_getElem lt
        generalize ka[x] = y at g q
        rcases y with ⟨k, c, v⟩
        have mem := List.mem_of_getElem? g
        rcases na _ mem with ⟨iv, tv, ev⟩
        cases (show v = .int iv tv from ev)
        apply wpAny_bind; apply wpAny_dictEntries D1.obj D1.dat
        rw [D1.row g]
        apply wpAny_bind
        apply wpAny_holding
        apply one_same room (D1.keys _ mem) D2 nb
        cases hit : sameAt kb (k, c, Value.int iv tv)
        · rw [hit] at q
          exact wpAny_pure (wpAny_pure q)
        · rw [hit] at q
          apply wpAny_bind; apply wpAny_dictEpoch D1.obj D1.dat
          rw [if_neg (by simp)]
          exact wpAny_pure ⟨rfl, rfl, n, by rw [e2, en, ← e1], by omega, by rw [en]; simpa using q⟩
    · rintro z t ⟨rfl, rfl, n, er, le, q⟩
      cases n with
      | zero =>
        rw [Nat.sub_zero, D1.num, List.drop_length] at q
        exact wpAny_pure q
      | succ n => rw [List.range'_succ] at er; cases er
theorem eq_H {a b : Addr} {ka kb : List (K × Addr × Value)} {Q : Value → Shared → Prop} (ha : (a == sysModules) = false) (hb : (b == sysModules) = false) (room : knd.room A.in1) (line : A.units < cLine) (na : ∀ x ∈ ka, isI x.2.2) (nb : ∀ x ∈ kb, isI x.2.2)
    (da : s.heap.DictOfH knd a ka) (db : s.heap.DictOfH knd b kb) (q : Q (.bool (ka.length == kb.length && ka.all (sameAt kb))) s) : wpAny (model prog w) A (compareOp .Eq (.ref a) (.ref b)) Q E s := by
  have t1 := da.typeIs
  have t2 := db.typeIs
  have slot := PySem.F.slot_dict_eq
  apply wpAny_richCompare_same_room (op := .Eq) t1 t2 slot _ line
  apply wpAny_call_entry slot t1 PySem.F.entry_dict_eq _ (PySem.F.args_dict_eq_2 _ _)
  show wpAny _ _ (Builtin.Dict.dictSlotArgs "__eq__" ⟨[.ref a, .ref b], []⟩ >>= _) _ _ s
  apply wpAny_bind
  unfold Builtin.Dict.dictSlotArgs
  refine wpAny_bind (wpAny_notOrdered_dict t1 ?_)
  apply (wpAny_pure : _ → wpAny (model prog w) _ (pure (Value.ref a, Value.ref b)) _ _ s)
  refine wpAny_bind (wpAny_isInstance (T := "dict") t2 PySem.F.sub_dict_dict ?_)
  simp only [Bool.not_true, Bool.false_eq_true, if_false]
  apply wpAny_bind; apply wpAny_pure
  apply wpAny_bind; apply wpAny_pure
  apply wpAny_bind
  apply pairs_same ha hb room na nb da db
  exact wpAny_pure ⟨_, rfl, (fun z => nomatch z), by simpa using q⟩
end
end FwQ
end
set_option Elab.async false
set_option linter.all false
set_option autoImplicit false
set_option maxRecDepth 100000
set_option maxHeartbeats 4000000
/-! Fw33: {k: v}; d == e; a container given over; x += list. -/
noncomputable section
namespace Fw
open PySem PySem.Spec PyProof.Rows L2

/-! ### a container of one's own is given over to another name -/
def movS (ρ : SEnv) (i j : Nat) : Out := match ρ[j]? with
  | some (.own d) => if i ≠ j ∧ isRow ρ i = false then .nx ((ρ.set j .dead).set i (.own d)) else .no
  | _ => .no
section
variable {Γ : Gm} {amb : Addr → Prop} {mr : Mr} {H0 H : Hp} {tmp : List (V × D)} {ad : Nat → Addr} {σ : L2.St} {ρ : SEnv}
theorem SAd.move {i j : Nat} {d : D} (S : SAd Γ amb H0 mr tmp ad σ H ρ) (h : ρ[j]? = some (.own d)) (hij : i ≠ j) (hr : isRow ρ i = false) : SA Γ amb H0 mr tmp (σ.set i (some (.ref (ad j)))) H ((ρ.set j .dead).set i (.own d)) := by
  obtain ⟨g1, g2⟩ := S.own j d (.inl h)
  by_cases hl : i < ρ.length
  · have lt' : i < σ.length := by rw [← S.len]; exact hl
    have jl : j < ρ.length := (List.getElem?_eq_some_iff.mp h).1
    let ad' : Nat → Addr := fun k => if k = i then ad j else ad k
    have ai : ad' i = ad j := if_pos rfl
    have aj : ∀ {k}, k ≠ i → ad' k = ad k := fun hk => if_neg hk
    have self : ((ρ.set j .dead).set i (.own d))[i]? = some (.own d) := List.getElem?_set_self (by rw [List.length_set]; exact hl)
    have old : ∀ {k : Nat} {s : Sl}, k ≠ i → ((ρ.set j .dead).set i (.own d))[k]? = some s → s = .dead ∨ (k ≠ j ∧ ρ[k]? = some s) := fun {k s} hk e => by
      rw [List.getElem?_set_ne (Ne.symm hk)] at e
      by_cases hkj : k = j
      · subst hkj
        rw [List.getElem?_set_self jl] at e
        cases e
        exact .inl rfl
      · rw [List.getElem?_set_ne (Ne.symm hkj)] at e
        exact .inr ⟨hkj, e⟩
    have at_ : ∀ {k : Nat} {e : D}, Cont ((ρ.set j .dead).set i (.own d)) k e → (k = i ∧ e = d) ∨ (k ≠ i ∧ k ≠ j ∧ Cont ρ k e) := fun {k e} c => by
      by_cases hk : k = i
      · subst hk
        rcases c with c | c <;> (rw [self] at c; cases c)
        exact .inl ⟨rfl, rfl⟩
      · rcases c with c | c
        · rcases old hk c with z | ⟨z1, z2⟩
          · cases z
          · exact .inr ⟨hk, z1, .inl z2⟩
        · rcases old hk c with z | ⟨z1, z2⟩
          · cases z
          · exact .inr ⟨hk, z1, .inr z2⟩
    have w : ∀ b, avO amb ad' ((ρ.set j .dead).set i (.own d)) b → avO amb ad ρ b := fun b z => by
      rcases z with z | ⟨k, e, z, rfl⟩
      · exact .inl z
      · rcases at_ z with ⟨hk, _⟩ | ⟨hk, _, c⟩
        · rw [hk, ai]; exact .inr ⟨j, d, .inl h, rfl⟩
        · rw [aj hk]; exact .inr ⟨k, e, c, rfl⟩
    refine ⟨ad', S.ext, S.tb, S.rw, by simpa using S.len, S.ambT, fun a z => ?_, fun k m e f c1 c2 he => ?_, fun k e c => ?_, fun k e c => ?_, fun k e c => ?_, fun k e c => ?_, fun q hq => (S.tmp q hq).stay (Stay.weak w)⟩
    · obtain ⟨k, e, h1, h2⟩ := S.mrIn a z
      have hki : k ≠ i := isRow_no hr h1
      have hkj : k ≠ j := fun z => by rw [z, h] at h1; cases h1
      exact ⟨k, e, by rw [List.getElem?_set_ne (Ne.symm hki), List.getElem?_set_ne (Ne.symm hkj)]; exact h1, by rw [aj hki]; exact h2⟩
    · rcases at_ c1 with ⟨hk, _⟩ | ⟨hk, hkj, c1⟩
      · rcases at_ c2 with ⟨hm, _⟩ | ⟨hm, hmj, c2⟩
        · rw [hk, hm]
        · rw [hk, ai, aj hm] at he
          exact absurd (S.inj j m d f (.inl h) c2 he).symm hmj
      · rcases at_ c2 with ⟨hm, _⟩ | ⟨hm, hmj, c2⟩
        · rw [hm, ai, aj hk] at he
          exact absurd (S.inj k j e d c1 (.inl h) he) hkj
        · rw [aj hk, aj hm] at he
          exact S.inj k m e f c1 c2 he
    · by_cases hk : k = i
      · rw [hk, ai]
        exact S.new j d h
      · rw [aj hk]
        rcases old hk c with z | ⟨_, z⟩
        · cases z
        · exact S.new k e z
    · by_cases hk : k = i
      · rw [hk, self] at c; cases c
      · rw [aj hk]
        rcases old hk c with z | ⟨_, z⟩
        · cases z
        · exact S.rows k e z
    · by_cases hk : k = i
      · rw [hk, self] at c; cases c
      · rcases old hk c with z | ⟨_, z⟩
        · cases z
        · obtain ⟨u, h1, h2⟩ := S.val k e z
          exact ⟨u, by rw [List.getElem?_set_ne (Ne.symm hk)]; exact h1, h2.stay (Stay.weak w)⟩
    · rcases at_ c with ⟨hk, he⟩ | ⟨hk, _, c⟩
      · subst hk he
        rw [ai]
        exact ⟨List.getElem?_set_self lt', g2.weak w⟩
      · obtain ⟨h1, h2⟩ := S.own k e c
        rw [aj hk]
        exact ⟨by rw [List.getElem?_set_ne (Ne.symm hk)]; exact h1, h2.weak w⟩
  · -- no such slot: the container is let go
    have jl : j < ρ.length := (List.getElem?_eq_some_iff.mp h).1
    rw [List.set_eq_of_length_le (by rw [← S.len]; omega), List.set_eq_of_length_le (by rw [List.length_set]; omega)]
    have hs : ∀ e, Sl.dead ≠ .own e ∧ Sl.dead ≠ .row e := fun e => ⟨fun z => (by cases z), fun z => (by cases z)⟩
    have hrj : isRow ρ j = false := by unfold isRow; rw [h]
    have w : ∀ b, avO amb ad (ρ.set j .dead) b → avO amb ad ρ b := fun b z => by
      rcases z with z | ⟨k, e, z, rfl⟩
      · exact .inl z
      · exact .inr ⟨k, e, (cont_set hs z).1, rfl⟩
    have other : ∀ {k : Nat} {s : Sl}, k ≠ j → (ρ.set j .dead)[k]? = some s → ρ[k]? = some s := fun {k s} hk e => by rwa [List.getElem?_set_ne (Ne.symm hk)] at e
    refine ⟨ad, S.ext, S.tb, S.rw, by simpa using S.len, S.ambT, fun a z => let ⟨k, e, h1, h2⟩ := S.mrIn a z; ⟨k, e, by rw [List.getElem?_set_ne (Ne.symm (isRow_no hrj h1))]; exact h1, h2⟩, fun k m e f c1 c2 => S.inj k m e f (cont_set hs c1).1 (cont_set hs c2).1, fun k e c => ?_, fun k e c => ?_, fun k e c => ?_, fun k e c => ?_, fun q hq => (S.tmp q hq).stay (Stay.weak w)⟩
    · obtain ⟨_, hk⟩ := cont_set hs (.inl c)
      exact S.new k e (other hk c)
    · obtain ⟨_, hk⟩ := cont_set hs (.inr c)
      exact S.rows k e (other hk c)
    · by_cases hk : k = j
      · subst hk
        rw [List.getElem?_set_self jl] at c
        cases c
      · obtain ⟨u, h1, h2⟩ := S.val k e (other hk c)
        exact ⟨u, h1, h2.stay (Stay.weak w)⟩
    · obtain ⟨c', hk⟩ := cont_set hs c
      obtain ⟨h1, h2⟩ := S.own k e c'
      exact ⟨h1, h2.weak w⟩
end
section
variable {X : Cx} {Γ : Gm} {E : XK} {x y : Str} {a b c o e : Expr} {es : List Expr} {pos p p2 pos' apos cpos : Pos} {f fa fb fc fk fv : Env → Res D} {fs : Env → Res (List D)} {k : Nat}
theorem ts_mov (i j : Nat) (hN : X.N.Nodup) (hi : X.N[i]? = some x := by rfl) (hj : X.N[j]? = some y := by rfl) (hx : Loc X.env.scope x := by first | exact Or.inl rfl | exact Or.inr rfl) (hv : Vis X.env.scope y := by first | exact Or.inl rfl | exact Or.inr (Or.inl rfl) | exact Or.inr (Or.inr rfl)) (hd : (y == ("__debug__" : Str)) = false := by decide)
    (hcd : (y == ("__classdict__" : Str)) = false := by decide) (hs : swapsWith (.Name y p) (some (.Name x pos')) pos.line X.env = pure false := by rfl) (hf : X.fn x = true ∨ X.env.scope.names.lookup x = some .local := by first | exact .inl rfl | exact .inr rfl) :
    PS X (.Assign [.Name x pos'] (.Name y p) pos) (sT Γ E fun ρ => movS ρ i j) :=
  PS.imp (ps_set hN hi hx (pv j hj hv hd hcd) hs hf) fun Z σ H ⟨amb, H0, mr, tmp, ρ, ⟨ad, S⟩, h⟩ => by
    have h : SOk Γ amb H0 mr tmp (movS ρ i j) Z E := h
    unfold movS at h
    cases e : ρ[j]? with
    | none => rw [e] at h; exact h.elim
    | some s =>
      rw [e] at h
      cases s with
      | own d =>
        obtain ⟨⟨hij, hr⟩, h⟩ := SOk.ifp h
        obtain ⟨g1, _⟩ := S.own j d (.inl e)
        exact ⟨_, g1, h _ H (S.move e hij hr)⟩
      | _ => exact h.elim
/-! ### {k: v} -/
def dispF (fk fv : Env → Res D) : Env → Res D := fun ρ => (fk ρ).bind fun d => match d.asKey with
  | some j => (fv ρ).bind fun y => .ok (.dct false [(keyD j, y)])
  | none => .no
theorem tn_disp (hk : PE X a (eT Γ E fk)) (hv : PE X b (eT Γ E fv)) : PE X (.Dict [some a] [b] pos) (nT Γ E (dispF fk fv)) :=
  PE.imp (pe_disp (pps_cons hk hv pps_nil) rfl rfl (by intro z; cases z) (show 1 ≤ 15 by decide)) fun σ H Q ⟨av, ρ, env, h⟩ => fun p hp => by
    have env1 := env.new (Ext.new (.dK []) hp) hp upd_same
    refine ⟨fun a => av a ∨ a = p, ρ, env1, ROk.bindAt (Ext.new _ hp) h fun d v H1 x1 r1 h1 => ?_⟩
    cases e : d.asKey with
    | none => simp only [e] at h1; exact (show False from h1).elim
    | some j =>
      simp only [e] at h1
      have ek := asKey_eq e
      subst ek
      have ev := kV_rp r1
      subst ev
      have env2 := env1.ext x1
      refine ⟨fun a => av a ∨ a = p, ρ, env2, ROk.bindAt ((Ext.new (.dK []) hp).trans x1) h1 fun y u H2 x2 r2 h2 => ?_⟩
      have g2 : H2 p = some (.dK []) := x2.keepN (x1.keepN upd_same (by intro _ z; cases z) (by intro _ z; cases z)) (by intro _ z; cases z) (by intro _ z; cases z)
      refine ⟨g2, [(j, u)], rfl, (show 1 ≤ 15 by decide), h2 _ _ ((((Ext.new (.dK []) hp).trans x1).trans x2).rewrite hp g2 True.intro) ⟨p, rfl, hp, [(j, u)], upd_same, .cons (rp_write g2 True.intro (.inr rfl) r2) .nil⟩⟩
/-! ### d == e, by tuples, whole numbers -/
def valN (ds : List (D × D)) : Bool := ds.all fun p => match p.2 with | .int _ => true | _ => false
def iEq : D → D → Bool
  | .int i, .int j => i == j
  | _, _ => false
def sameD (ds es : List (D × D)) : Bool := ds.length == es.length && ds.all fun p => match lookD es p.1 with | some v => iEq p.2 v | none => false
def D.eqDT : D → D → Res D
  | .dct true ds, .dct true es => if valN ds = true ∧ valN es = true then .ok (.bl (sameD ds es)) else .no
  | _, _ => .no
abbrev HK (X : Cx) : HeapKind X.prog X.w (List Key) := tupleKind (mixKind X.prog X.w)
theorem dt_state {pins : List (Addr × Obj)} {σ : L2.St} {H : Hp} {s : Shared} {q : Addr} {kvs : List (List Key × V)} (I : Inv X pins σ H s) (h : H q = some (.dT kvs)) : ∃ xs : List (List Key × Addr × Value), s.heap.DictOfH (HK X) q xs ∧ (q == sysModules) = false ∧ Paired (fun (p : List Key × V) (z : List Key × Addr × Value) => p.1 = z.1 ∧ RelV p.2 z.2.2) kvs xs := by
  obtain ⟨z, lo, xs, pr, ob, es, ep, ho, hx, hd, he, hn⟩ := (show ObjOk X.prog X.w H s.heap q (.dT kvs) from I.hok q _ h)
  refine ⟨xs, ⟨ob, es, ep, ho, hx, hd, he, fun y hy => ?_, hn⟩, lo, Paired.mono (fun a b r => ⟨r.1, r.2.2⟩) pr⟩
  obtain ⟨i, hi⟩ := List.mem_iff_getElem?.mp hy
  have hl : i < kvs.length := by rw [Paired.length pr]; exact (List.getElem?_eq_some_iff.mp hi).1
  have r := paired_at pr (List.getElem?_eq_getElem hl) hi
  rw [← r.1]
  exact key_of I.hok r.2.1
theorem atKey_look {K : Kr} {av : Addr → Prop} {H : Hp} (k : List Key) : ∀ {es : List (D × D)} {kvs : List (List Key × V)} {xs : List (List Key × Addr × Value)}, RpT K av H es kvs → Paired (fun (p : List Key × V) (z : List Key × Addr × Value) => p.1 = z.1 ∧ RelV p.2 z.2.2) kvs xs →
    (lookD es (.tup (k.map keyD)) = none ∧ atKey xs k = none) ∨ ∃ d v q, lookD es (.tup (k.map keyD)) = some d ∧ atKey xs k = some q ∧ Rp K av H d v ∧ RelV v q.2
  | _, _, _, .nil, .nil => .inl ⟨rfl, rfl⟩
  | _, _, _, .cons (k := k') (d := d) (v := v) r rs, .cons (b := z) h t => by
    by_cases hk : k' = k
    · subst hk
      refine .inr ⟨d, v, z.2, ?_, ?_, r, h.2⟩
      · unfold lookD
        rw [List.find?_cons_of_pos (by simp)]
        rfl
      · unfold atKey
        rw [List.find?_cons_of_pos (by simpa using h.1.symm)]
        rfl
    · have n1 : ¬ (D.tup (k'.map keyD)).kk = (D.tup (k.map keyD)).kk := fun z => hk (by
        rw [kk_tupD, kk_tupD] at z
        exact Sum.inr.inj (Option.some.inj z))
      have e1 : ∀ l : List (D × D), lookD ((D.tup (k'.map keyD), d) :: l) (.tup (k.map keyD)) = lookD l (.tup (k.map keyD)) := fun l => by
        unfold lookD
        rw [List.find?_cons_of_neg (by simpa using n1)]
      have e2 : ∀ l : List (List Key × Addr × Value), atKey (z :: l) k = atKey l k := fun l => by
        unfold atKey
        rw [List.find?_cons_of_neg (by have := h.1; rw [← this]; simpa using hk)]
      rcases atKey_look k rs t with ⟨h1, h2⟩ | ⟨d', v', q, h1, h2, h3, h4⟩
      · exact .inl ⟨by rw [e1]; exact h1, by rw [e2]; exact h2⟩
      · exact .inr ⟨d', v', q, by rw [e1]; exact h1, by rw [e2]; exact h2, h3, h4⟩
theorem isI_of {K : Kr} {av : Addr → Prop} {H : Hp} : ∀ {es : List (D × D)} {kvs : List (List Key × V)} {xs : List (List Key × Addr × Value)}, RpT K av H es kvs → Paired (fun (p : List Key × V) (z : List Key × Addr × Value) => p.1 = z.1 ∧ RelV p.2 z.2.2) kvs xs → valN es = true → ∀ y ∈ xs, FwQ.isI y.2.2
  | _, _, _, .nil, .nil, _, y, hy => by cases hy
  | _, _, _, .cons (d := d) r rs, .cons h t, hv, y, hy => by
    unfold valN at hv
    rw [List.all_cons, Bool.and_eq_true] at hv
    rcases List.mem_cons.mp hy with rfl | hy
    · cases d with
      | int i =>
        cases r
        obtain ⟨tk, e⟩ := h.2
        exact ⟨i, tk, e⟩
      | _ => exact absurd hv.1 (by simp)
    · exact isI_of rs t hv.2 y hy
theorem all_same {K : Kr} {av : Addr → Prop} {H : Hp} {es2 : List (D × D)} {kvs2 : List (List Key × V)} {xs2 : List (List Key × Addr × Value)} (r2 : RpT K av H es2 kvs2) (p2 : Paired (fun (p : List Key × V) (z : List Key × Addr × Value) => p.1 = z.1 ∧ RelV p.2 z.2.2) kvs2 xs2) (v2 : valN es2 = true) :
    ∀ {es : List (D × D)} {kvs : List (List Key × V)} {xs : List (List Key × Addr × Value)}, RpT K av H es kvs → Paired (fun (p : List Key × V) (z : List Key × Addr × Value) => p.1 = z.1 ∧ RelV p.2 z.2.2) kvs xs → valN es = true →
    xs.all (FwQ.sameAt xs2) = es.all fun p => match lookD es2 p.1 with | some v => iEq p.2 v | none => false
  | _, _, _, .nil, .nil, _ => rfl
  | _, _, _, .cons (k := k) (d := d) r rs, .cons (b := z) h t, hv => by
    unfold valN at hv
    rw [List.all_cons, Bool.and_eq_true] at hv
    rw [List.all_cons, List.all_cons, all_same r2 p2 v2 rs t hv.2]
    congr 1
    obtain ⟨h1, h2⟩ := h
    replace h1 : k = z.1 := h1
    subst h1
    unfold FwQ.sameAt
    rcases atKey_look z.1 r2 p2 with ⟨e1, e2⟩ | ⟨d', v', q, e1, e2, e3, e4⟩
    · rw [e1, e2]
    · rw [e1, e2]
      have hd' : ∃ j, d' = .int j := by
        have hm : ∃ p ∈ es2, p.2 = d' := by
          unfold lookD at e1
          cases ef : es2.find? fun p => decide (p.1.kk = (D.tup (z.1.map keyD)).kk) with
          | none => rw [ef] at e1; cases e1
          | some p => rw [ef] at e1; exact ⟨p, List.mem_of_find?_eq_some ef, Option.some.inj e1⟩
        obtain ⟨p, hp, rfl⟩ := hm
        have := List.all_eq_true.mp v2 p hp
        cases e5 : p.2 with
        | int j => exact ⟨j, rfl⟩
        | _ => rw [e5] at this; cases this
      obtain ⟨j, rfl⟩ := hd'
      cases d with
      | int i =>
        cases r
        cases e3
        obtain ⟨t1, f1⟩ := h2
        obtain ⟨t2, f2⟩ := e4
        show FwQ.vEq z.2.2 q.2 = (i == j)
        rw [show z.2.2 = Value.int i t1 from f1, f2]
        rfl
      | _ => exact absurd hv.1 (by simp)
theorem op_eqDT (hu : X.A.units + 1 < cLine) : OpR X (compareOp .Eq) (fun x y H Q => ∃ (K : Kr) (av : Addr → Prop) (a b : Addr) (ds es : List (D × D)) (ks ls : List (List Key × V)), x = .ref a ∧ y = .ref b ∧ H a = some (.dT ks) ∧ H b = some (.dT ls) ∧ RpT K av H ds ks ∧ RpT K av H es ls ∧ valN ds = true ∧ valN es = true ∧ Q (.bl (sameD ds es)) H) := by
  intro pins s σ H x y v u Q I rx ry h
  obtain ⟨K, av, a, b, ds, es, ks, ls, rfl, rfl, ha, hb, r1, r2, v1, v2, q⟩ := h
  obtain rfl : v = Value.ref a := rx
  obtain rfl : u = Value.ref b := ry
  obtain ⟨xs, da, la, pa⟩ := dt_state I ha
  obtain ⟨ys, db, lb, pb⟩ := dt_state I hb
  refine FwQ.eq_H (knd := HK X) la lb (tupleKind_room_in1 hu) (by omega) (isI_of r1 pa v1) (isI_of r2 pb v2) da db ?_
  have e1 : xs.length = ds.length := by rw [← Paired.length pa, r1.length]
  have e2 : ys.length = es.length := by rw [← Paired.length pb, r2.length]
  refine ⟨.bl (sameD ds es), H, I, ?_, q⟩
  show Value.bool _ = Value.bool _
  unfold sameD
  rw [e1, e2, all_same r2 pb v2 r1 pa v1]
theorem fit_eqDT : Fit2 Γ E (fun x y H Q => ∃ (K : Kr) (av : Addr → Prop) (a b : Addr) (ds es : List (D × D)) (ks ls : List (List Key × V)), x = .ref a ∧ y = .ref b ∧ H a = some (.dT ks) ∧ H b = some (.dT ls) ∧ RpT K av H ds ks ∧ RpT K av H es ls ∧ valN ds = true ∧ valN es = true ∧ Q (.bl (sameD ds es)) H) D.eqDT := by
  intro av H da db va vb Q wf ra rb h
  cases ra <;> first | (cases rb <;> exact (show False from h).elim) | skip
  cases rb <;> first | exact (show False from h).elim | skip
  rename_i a ks ds g1 n1 r1 b ls es g2 n2 r2
  obtain ⟨⟨h1, h2⟩, h3⟩ := ROk.ifp h
  exact ⟨Γ.kr, av, _, _, _, _, _, _, rfl, rfl, g1, g2, r1, r2, h1, h2, h3.here (.bl _)⟩
theorem te_eqDT (hr : Room k X.A) (ha : PE X a (eT Γ E fa)) (hb : PE X b (eT Γ E fb)) : PE X (.Compare a [.Eq] [b] pos) (eT Γ E (bin D.eqDT fa fb)) := te_cmpR (op_eqDT (by have := hr.units; omega)) fit_eqDT ha hb (nomark _)
theorem tb_eqDT (hr : Room k X.A) (ha : PE X a (eT Γ E fa)) (hb : PE X b (eT Γ E fb)) : PT X (.Compare a [.Eq] [b] pos) (bT Γ E (asTest (bin D.eqDT fa fb))) := tb_cmpR (op_eqDT (by have := hr.units; omega)) fit_eqDT ha hb (nomark _)
end
end Fw
end
set_option Elab.async false
set_option linter.all false
set_option autoImplicit false
set_option maxRecDepth 100000
set_option maxHeartbeats 4000000
/-! Fw34: x += list. -/
noncomputable section
namespace Fw
open PySem PySem.Spec PyProof.Rows L2
def extVO (f : Env → Res D) (i : Nat) : SEnv → Out := fun ρ => bindO (contOf ρ i) fun l => match l with
  | .lst ds => bindO (f ρ.vis) fun d => match d with
    | .lst es => if ds.length + es.length ≤ lim then putO ρ i (.lst (ds ++ es)) else .no
    | _ => .no
  | _ => .no
section
variable {X : Cx} {Γ : Gm} {E : XK} {x : Str} {e : Expr} {pos pos' : Pos} {f : Env → Res D}
theorem set_self {α : Type} : ∀ {l : List (Option α)} {i : Nat} {v : α}, l[i]? = some (some v) → l.set i (some v) = l := fun {l i v} h => by
  obtain ⟨h1, h2⟩ := List.getElem?_eq_some_iff.mp h
  rw [← h2, List.set_getElem_self]
theorem ts_extV (i : Nat) (h : PE X e (eT Γ E f)) (hN : X.N.Nodup) (hi : X.N[i]? = some x := by rfl) (hx : Loc X.env.scope x := by first | exact Or.inl rfl | exact Or.inr rfl) (hf : X.fn x = true ∨ X.env.scope.names.lookup x = some .local := by first | exact .inl rfl | exact .inr rfl) :
    PS X (.AugAssign (.Name x pos') .Add e pos) (sT Γ E (extVO f i)) := by
  refine PS.imp (ps_aug (ti := rExt2) hN hi hx h (fun pins s σ H x y v u Q I rx ry q => iop_ext pins s σ H x y v u Q I rx ry q) hf) fun Z σ H ⟨amb, H0, mr, tmp, ρ, ⟨ad, S⟩, h⟩ => ?_
  obtain ⟨s, l, hs, hc, c, h⟩ := cont_out S h
  obtain ⟨g1, g2⟩ := S.own i l c
  have hav : avO amb ad ρ (ad i) := .inr ⟨i, l, c, rfl⟩
  cases l with
  | lst ds =>
    obtain ⟨vs, g3, g4⟩ := g2
    refine ⟨_, g1, ?_⟩
    refine eT_out S S.envVis h fun d v H1 x1 S1 r1 h1 => ?_
    cases r1 with
    | @lst b us es g n q =>
      replace h1 : SOk Γ amb H0 mr tmp (if ds.length + es.length ≤ lim then putO ρ i (.lst (ds ++ es)) else .no) Z E := h1
      obtain ⟨hz, h1⟩ := SOk.ifp h1
      have g3' := x1.keepL g3 (S.notRow c)
      refine ⟨ad i, b, vs, us, rfl, rfl, g3', g, by rw [lim_eq, ← g4.length, ← q.length]; exact hz, ?_⟩
      have e1 := set_self g1
      show Z.nx (List.set σ i (some (V.ref (ad i)))) _
      rw [e1]
      exact putO_out S1 hs hc h1 ⟨_, upd_same, (rpl_write g3' True.intro hav (g4.ext x1)).append (rpl_write g3' True.intro hav q)⟩
    | _ => exact (show False from h1).elim
  | _ => exact (show False from h).elim
end
end Fw
end
set_option Elab.async false
set_option linter.all false
set_option autoImplicit false
set_option maxRecDepth 100000
set_option maxHeartbeats 4000000
/-! Fw35: {k: v}, k a tuple of keys. -/
noncomputable section
namespace Fw
open PySem PySem.Spec PyProof.Rows L2
section
variable {X : Cx} {a b : Expr} {pos : Pos} {ta tb : TE}
theorem pe_disp1T (hu : X.A.units + 1 < cLine) (ha : PE X a ta) (hb : PE X b tb) : PE X (.Dict [some a] [b] pos) (fun σ H Q => ∀ p, H p = none → ta σ (upd H p (.dT [])) fun x H1 => tb σ H1 fun y H2 => H2 p = some (.dT []) ∧ ∃ (c : Addr) (ks : List Key), x = .ref c ∧ H2 c = some (.tup (ks.map kV)) ∧ Q (.ref p) (upd H2 p (.dT [(ks, y)]))) := by
  refine ⟨fun pins s σ H Q I q => ?_⟩
  have hn := I.hok.fresh (Nat.le_refl s.heap.objs.size)
  have I1 := I.laid (a := s.heap.objs.size) (o := .dT []) (h' := s.heap.push { cls := .type "dict", data := .dict #[] }) (t' := s.toks) (fun _ _ q => Heap.get?_push_of_some _ q) (Nat.le_refl _) (dt_empty s.heap I.big)
  rw [arm_eval_Dict, zip_pairTrees [some a] [b] X.env pos rfl rfl, dictDisplay_pairs (pairTrees [some a] [b] X.env pos) (by intro z; cases z) (show 1 < 17 by decide)]
  refine wpAny_bind (wpAny_standAt (wpAny_bind (wpAny_subDictH (knd := HK X) (Q := fun d s' => wpAny (model X.prog X.w) X.A (pure (Value.ref d)) _ _ s') (show (HK X).room X.A from (by omega : X.A.units < cLine)) (show 1 ≤ 15 by decide) ?_)))
  refine pairTrees_cons_walk (thn (ha.run pins _ σ _ _ I1 (q _ hn)) fun u s1 ⟨x, H1, I2, rx, q1⟩ => thn (hb.run pins s1 σ H1 _ I2 q1) fun r s2 ⟨y, H2, I3, ry, e, c, ks, ex, ec, q2⟩ => pairTrees_nil_walk ?_)
  subst ex
  obtain rfl : u = Value.ref c := rx
  obtain ⟨z, hd, xs, rel, dd⟩ := dt_of I3.hok e
  cases rel
  refine ⟨[(ks, c, r)], ⟨rfl, rfl, key_of I3.hok ec, True.intro⟩, dd, fun h' tk dd' hs => wpAny_pure ⟨.ref s.heap.objs.size, _, ?_, rfl, q2⟩⟩
  have kt : KT H2 [(ks, y)] [(ks, c, r)] := KT.put (kvs := []) (xs := []) .nil ks ec ry
  obtain ⟨o, es, ep, hq, h2, h3, h4, h5, h6⟩ := dd'
  refine d_write I3 (by rw [e]; exact True.intro) hs ⟨o, hq⟩ ⟨by rw [sizeLine_eq]; exact (by decide : 1 ≤ 16777216), hd, _, kt.keeps fun d ys ed => ?_, o, es, ep, hq, h2, h3, h4, h6⟩
  rw [upd_ne (ne_of ed e (fun z => nomatch z))]
  exact ed
end
def dispTF (fk fv : Env → Res D) : Env → Res D := fun ρ => (fk ρ).bind fun d => (fv ρ).bind fun y => if kOk true d = true then .ok (.dct true [(d, y)]) else .no
section
variable {X : Cx} {Γ : Gm} {E : XK} {a b : Expr} {pos : Pos} {fk fv : Env → Res D} {k : Nat}
theorem tn_dispT (hr : Room k X.A) (hk : PE X a (eT Γ E fk)) (hv : PE X b (eT Γ E fv)) : PE X (.Dict [some a] [b] pos) (nT Γ E (dispTF fk fv)) :=
  PE.imp (pe_disp1T (by have := hr.units; omega) hk hv) fun σ H Q ⟨av, ρ, env, h⟩ => fun p hp => by
    have env1 := env.new (Ext.new (.dT []) hp) hp upd_same
    refine ⟨fun a => av a ∨ a = p, ρ, env1, ROk.bindAt (Ext.new _ hp) h fun d v H1 x1 r1 h1 => ?_⟩
    have env2 := env1.ext x1
    refine ⟨fun a => av a ∨ a = p, ρ, env2, ROk.bindAt ((Ext.new (.dT []) hp).trans x1) h1 fun y u H2 x2 r2 h2 => ?_⟩
    obtain ⟨hk, h2⟩ := ROk.ifp h2
    have g2 : H2 p = some (.dT []) := x2.keepN (x1.keepN upd_same (by intro _ z; cases z) (by intro _ z; cases z)) (by intro _ z; cases z) (by intro _ z; cases z)
    rcases kOk_cases hk with ⟨z, j, e⟩ | ⟨_, j, e⟩
    · cases z
    · have ek := kk_inr e
      subst ek
      cases r1 with
      | tup gt qt =>
        have ev := kVs_rp qt
        subst ev
        have gt2 := x2.keepN gt (by intro _ z; cases z) (by intro _ z; cases z)
        exact ⟨g2, _, j, rfl, gt2, h2 _ _ ((((Ext.new (.dT []) hp).trans x1).trans x2).rewrite hp g2 True.intro) ⟨p, rfl, hp, [(j, u)], upd_same, .cons (rp_write g2 True.intro (.inr rfl) r2) .nil⟩⟩
end
end Fw
end
set_option Elab.async false
set_option linter.all false
set_option autoImplicit false
set_option maxRecDepth 100000
set_option maxHeartbeats 4000000
/-! Fw36: list(d) of a dict by tuples; sorted(list of pairs of ints); x is True. -/
noncomputable section
namespace Fw
open PySem PySem.Spec PyProof.Rows L2
theorem keys_rp {K : Kr} {av : Addr → Prop} {H : Hp} : ∀ ks : List Key, RpL K av H (ks.map keyD) (ks.map kV)
  | [] => .nil
  | .inl _ :: r => .cons (.int _) (keys_rp r)
  | .inr _ :: r => .cons (.str _) (keys_rp r)
/-- the keys' trees, of the tuples that stand for them -/
theorem RpT.keysAt {K : Kr} {av : Addr → Prop} {H : Hp} : ∀ {ds : List (D × D)} {kvs : List (List Key × V)} {qs : List Addr}, RpT K av H ds kvs → Paired (fun (p : List Key × V) b => H b = some (.tup (p.1.map kV))) kvs qs → RpL K av H (ds.map (·.1)) (qs.map V.ref)
  | _, _, _, .nil, .nil => .nil
  | _, _, _, .cons _ r, .cons a b => .cons (.tup a (keys_rp _)) (RpT.keysAt r b)
/-- list(d), of a dict by tuples -/
def D.toLstT : D → Res D
  | .dct true ds => .ok (.lst (ds.map (·.1)))
  | _ => .no
section
variable {X : Cx} {Γ : Gm} {E : XK} {a b : Expr} {p pos : Pos} {fa fb : Env → Res D}
theorem tn_listT (hm : X.mg "list" = none) (hc : X.calm = true) (ha : PE X a (eT Γ E fa)) (hg : Gl X "list" := by rfl) (he : starEach [a] X.env = (false, eval a X.env) :: starEach [] X.env := by rfl) :
    PE X (.Call (.Name "list" p) [a] [] pos) (nT Γ E (app (on1 D.toLstT) (consA fa nilA))) :=
  PE.imp (pe_callTy (call_list_dT hc) hg hm boot_list (ta_cons ha ta_nil he) (he := he)) fun σ H Q ⟨av, ρ, env, h⟩ => aT_bind env h fun ds vs H1 x1 env1 r1 h1 => by
    cases r1 with
    | nil => exact (show False from h1).elim
    | cons r1 r2 =>
      cases r2 with
      | cons _ _ => exact (show False from h1).elim
      | nil =>
        cases r1 with
        | @dT a vs ds g n q => exact ⟨_, _, rfl, .of g, fun p qs hp hq => new_bind (β := Unit) (δ := Unit) (ρ := ρ) x1 h1 hp (q.keysAt hq)⟩
        | _ => exact (show False from h1).elim
end
/-! ### sorted(list of pairs) -/
def pairI : D → Option (Int × Int)
  | .tup [.int a, .int b] => some (a, b)
  | _ => none
def pairsI : List D → Option (List (Int × Int))
  | [] => some []
  | d :: ds => match pairI d, pairsI ds with | some p, some l => some (p :: l) | _, _ => none
def pD (p : Int × Int) : D := .tup [.int p.1, .int p.2]
theorem pairI_eq {d : D} {p : Int × Int} (h : pairI d = some p) : d = pD p := by
  unfold pairI at h
  split at h
  · cases h; rfl
  · cases h
theorem pairsI_eq : ∀ {ds : List D} {l : List (Int × Int)}, pairsI ds = some l → ds = l.map pD
  | [], _, h => by cases h; rfl
  | d :: ds, l, h => by
    rw [pairsI] at h
    cases e1 : pairI d with
    | none => rw [e1] at h; cases h
    | some p =>
      cases e2 : pairsI ds with
      | none => rw [e1, e2] at h; cases h
      | some q =>
        rw [e1, e2] at h
        cases h
        rw [pairI_eq e1, pairsI_eq e2]
        rfl
theorem pairsI_map : ∀ l : List (Int × Int), pairsI (l.map pD) = some l
  | [] => rfl
  | p :: l => by rw [List.map_cons, pairsI, pairsI_map l]; rfl
/-- in the order of tuples -/
def sortP (l : List (Int × Int)) : List (Int × Int) := l.mergeSort fun x y => !SrtO.lexB y x
theorem lexB_total {x y : Int × Int} (h1 : SrtO.lexB x y = false) (h2 : SrtO.lexB y x = false) : x = y := by
  have a := SrtO.lexB_no.mp h1
  have b := SrtO.lexB_no.mp h2
  exact Prod.ext (by omega) (by omega)
theorem sortP_perm (l : List (Int × Int)) : (sortP l).Perm l := List.mergeSort_perm _ _
theorem sortP_up (l : List (Int × Int)) : (sortP l).Pairwise fun x y => SrtO.lexB y x = false := by
  have h := List.pairwise_mergeSort (le := fun x y : Int × Int => !SrtO.lexB y x) (fun a b c h1 h2 => by
    have h1 : SrtO.lexB b a = false := by simpa using h1
    have h2 : SrtO.lexB c b = false := by simpa using h2
    have a1 := SrtO.lexB_no.mp h1
    have a2 := SrtO.lexB_no.mp h2
    have : SrtO.lexB c a = false := SrtO.lexB_no.mpr (by omega)
    simp [this]) (fun a b => by
    cases e : SrtO.lexB b a with
    | false => simp
    | true =>
      have a1 := SrtO.lexB_iff.mp e
      have : SrtO.lexB a b = false := SrtO.lexB_no.mpr (by omega)
      simp [this]) l
  exact h.imp fun h => by simpa using h
theorem sortP_uniq : ∀ {l m : List (Int × Int)}, l.Perm m → (l.Pairwise fun x y => SrtO.lexB y x = false) → (m.Pairwise fun x y => SrtO.lexB y x = false) → l = m
  | [], m, p, _, _ => (List.nil_perm.mp p).symm
  | x :: l, [], p, _, _ => absurd (List.perm_nil.mp p) (by simp)
  | x :: l, y :: m, p, h1, h2 => by
    obtain ⟨a1, a2⟩ := List.pairwise_cons.mp h1
    obtain ⟨b1, b2⟩ := List.pairwise_cons.mp h2
    have e : x = y := by
      have hx : x ∈ y :: m := p.mem_iff.mp List.mem_cons_self
      have hy : y ∈ x :: l := p.mem_iff.mpr List.mem_cons_self
      rcases List.mem_cons.mp hx with e | hx
      · exact e
      · rcases List.mem_cons.mp hy with e | hy
        · exact e.symm
        · exact lexB_total (b1 x hx) (a1 y hy)
    subst e
    rw [sortP_uniq (p.cons_inv) a2 b2]
def D.sortT (d : D) : Res D := match d with
  | .lst ds => match pairsI ds with
    | some l => .ok (.lst ((sortP l).map pD))
    | none => .no
  | _ => .no
theorem rp_pD {K : Kr} {av : Addr → Prop} {H : Hp} {p : Int × Int} {v : V} (h : Rp K av H (pD p) v) : ∃ t, v = .ref t ∧ H t = some (.tup [.int p.1, .int p.2]) := by
  cases h with
  | tup g r =>
    cases r with
    | cons r1 r2 =>
      cases r2 with
      | cons r2 r3 =>
        cases r3
        cases r1
        cases r2
        exact ⟨_, rfl, g⟩
/-- what pair stands at a value -/
def kOfV (H : Hp) : V → Int × Int
  | .ref t => match H t with
    | some (.tup [.int a, .int b]) => (a, b)
    | _ => (0, 0)
  | _ => (0, 0)
theorem rpl_pD {K : Kr} {av : Addr → Prop} {H : Hp} : ∀ {l : List (Int × Int)} {vs : List V}, RpL K av H (l.map pD) vs → vs.map (kOfV H) = l ∧ ∀ v ∈ vs, ∃ t, v = .ref t ∧ H t = some (.tup [.int (kOfV H v).1, .int (kOfV H v).2])
  | [], _, h => by cases h; exact ⟨rfl, fun v hv => by cases hv⟩
  | p :: l, _, h => by
    cases h with
    | cons h1 h2 =>
      obtain ⟨e1, e2⟩ := rpl_pD h2
      obtain ⟨t, rfl, ht⟩ := rp_pD h1
      have ek : kOfV H (.ref t) = p := by unfold kOfV; simp only [ht]
      refine ⟨by rw [List.map_cons, e1, ek], fun v hv => ?_⟩
      rcases List.mem_cons.mp hv with rfl | hv
      · exact ⟨t, rfl, by rw [ek]; exact ht⟩
      · exact e2 v hv
theorem rpl_of_k {K : Kr} {av : Addr → Prop} {H : Hp} : ∀ {vs : List V}, (∀ v ∈ vs, ∃ t, v = .ref t ∧ H t = some (.tup [.int (kOfV H v).1, .int (kOfV H v).2])) → RpL K av H ((vs.map (kOfV H)).map pD) vs
  | [], _ => .nil
  | v :: vs, h => by
    obtain ⟨t, e, ht⟩ := h v List.mem_cons_self
    refine .cons ?_ (rpl_of_k fun u hu => h u (List.mem_cons_of_mem _ hu))
    subst e
    exact .tup ht (.cons (.int _) (.cons (.int _) .nil))
section
variable {X : Cx} {Γ : Gm} {E : XK} {a b : Expr} {p pos : Pos} {fa fb : Env → Res D}
theorem tn_sortT (hm : X.mg "sorted" = none) (ha : PE X a (eT Γ E fa)) (hg : Gl X "sorted" := by rfl) (he : starEach [a] X.env = (false, eval a X.env) :: starEach [] X.env := by rfl) (hK : X.K = Γ.K := by rfl) (hv : bootBuiltins "sorted" = some (.builtin "sorted") := by decide +kernel) :
    PE X (.Call (.Name "sorted" p) [a] [] pos) (nT Γ E (app (on1 D.sortT) (consA fa nilA))) :=
  PE.imp (pe_callB cr_sortedPO hg hm hv (ta_cons ha ta_nil he) (he := he)) fun σ H Q ⟨av, ρ, env, h⟩ => aT_bind env h fun ds vs H1 x1 env1 r1 h1 => by
    cases r1 with
    | nil => exact (show False from h1).elim
    | cons r1 r2 =>
      cases r2 with
      | cons _ _ => exact (show False from h1).elim
      | nil =>
        cases r1 with
        | @lst q us ds g n r =>
          replace h1 : ROk Γ av H1 (fun H' d v => ∃ p, v = .ref p ∧ H p = none ∧ OwnAt Γ.kr (fun a => av a ∨ a = p) H' d p) (match pairsI ds with | some l => .ok (.lst ((sortP l).map pD)) | none => .no) Q E := h1
          cases e : pairsI ds with
          | none => rw [e] at h1; exact (show False from h1).elim
          | some l =>
            rw [e] at h1
            have ed := pairsI_eq e
            subst ed
            obtain ⟨k1, k2⟩ := rpl_pD r
            refine ⟨q, us, kOfV H1, rfl, .inl (.inl g), k2, fun ys p hs hb hp => ?_⟩
            have hin : ∀ v ∈ ys, ∃ t, v = .ref t ∧ H1 t = some (.tup [.int (kOfV H1 v).1, .int (kOfV H1 v).2]) := fun v hv => k2 v (hb.perm.mem_iff.mp hv)
            have e2 : ys.map (kOfV H1) = sortP l := by
              refine sortP_uniq ((hb.perm.map _).trans (k1 ▸ (sortP_perm l).symm)) ?_ (sortP_up l)
              rw [List.pairwise_map]
              exact hs
            have r2 : RpL Γ.kr av H1 ((sortP l).map pD) ys := by
              rw [← e2]
              exact rpl_of_k hin
            exact new_bind (β := Unit) (δ := Unit) (ρ := ρ) x1 h1 hp r2
        | _ => exact (show False from h1).elim
/-! ### x is True -/
def D.isB : D → D → Res D
  | .bl a, .bl b => .ok (.bl (decide (a = b)))
  | _, _ => .no
def D.isnB : D → D → Res D
  | .bl a, .bl b => .ok (.bl (!decide (a = b)))
  | _, _ => .no
theorem fit_isB : Fit2 Γ E (fun x y H Q => ∃ a b, x = .bl a ∧ y = .bl b ∧ Q (.bl (decide (a = b))) H) D.isB := by
  intro av H da db va vb Q wf ra rb h
  cases ra <;> first | (cases rb <;> exact (show False from h).elim) | skip
  cases rb <;> first | exact (show False from h).elim | skip
  exact ⟨_, _, rfl, rfl, h.here (.bl _)⟩
theorem fit_isnB : Fit2 Γ E (fun x y H Q => ∃ a b, x = .bl a ∧ y = .bl b ∧ Q (.bl (!decide (a = b))) H) D.isnB := by
  intro av H da db va vb Q wf ra rb h
  cases ra <;> first | (cases rb <;> exact (show False from h).elim) | skip
  cases rb <;> first | exact (show False from h).elim | skip
  exact ⟨_, _, rfl, rfl, h.here (.bl _)⟩
theorem te_isB (ha : PE X a (eT Γ E fa)) (hb : PE X b (eT Γ E fb)) (hm : behindInMarks .Is b = false := by rfl) : PE X (.Compare a [.Is] [b] pos) (eT Γ E (bin D.isB fa fb)) := te_cmpR op_is_bl fit_isB ha hb hm
theorem te_isnB (ha : PE X a (eT Γ E fa)) (hb : PE X b (eT Γ E fb)) (hm : behindInMarks .IsNot b = false := by rfl) : PE X (.Compare a [.IsNot] [b] pos) (eT Γ E (bin D.isnB fa fb)) := te_cmpR op_isnot_bl fit_isnB ha hb hm
theorem tb_isB (ha : PE X a (eT Γ E fa)) (hb : PE X b (eT Γ E fb)) (hm : behindInMarks .Is b = false := by rfl) : PT X (.Compare a [.Is] [b] pos) (bT Γ E (asTest (bin D.isB fa fb))) := tb_cmpR op_is_bl fit_isB ha hb hm
theorem tb_isnB (ha : PE X a (eT Γ E fa)) (hb : PE X b (eT Γ E fb)) (hm : behindInMarks .IsNot b = false := by rfl) : PT X (.Compare a [.IsNot] [b] pos) (bT Γ E (asTest (bin D.isnB fa fb))) := tb_cmpR op_isnot_bl fit_isnB ha hb hm
end
end Fw
end
set_option Elab.async false
set_option linter.all false
set_option autoImplicit false
set_option maxRecDepth 100000
set_option maxHeartbeats 4000000
/-! Fw37: x = a new container, x not the frame's own. -/
noncomputable section
namespace Fw
open PySem PySem.Spec PyProof.Rows L2
section
variable {X : Cx} {Γ : Gm} {E : XK} {x : Str} {e : Expr} {pos pos' : Pos} {f : Env → Res D}
theorem ts_setN (i : Nat) (h : PE X e (nT Γ E f)) (hN : X.N.Nodup) (hi : X.N[i]? = some x := by rfl) (hx : Loc X.env.scope x := by first | exact Or.inl rfl | exact Or.inr rfl) (hs : swapsWith e (some (.Name x pos')) pos.line X.env = pure false := by rfl) (hf : X.fn x = true ∨ X.env.scope.names.lookup x = some .local := by first | exact .inl rfl | exact .inr rfl) :
    PS X (.Assign [.Name x pos'] e pos) (sT Γ E fun ρ => bindO (f ρ.all) fun d => if purC d = true then setO ρ i (.val d) else .no) :=
  PS.imp (ps_set hN hi hx h hs hf) fun Z σ H ⟨amb, H0, mr, tmp, ρ, ⟨ad, S⟩, h⟩ => nT_out S S.envAll h fun d q H1 x hq ho h1 => by
    obtain ⟨hp, h1⟩ := SOk.ifp h1
    obtain ⟨hr, h1⟩ := SOk.ifp h1
    exact h1 _ H1 (S.setNewV hr x hq (ho.pureUp hp))
end
end Fw
end
set_option Elab.async false
set_option linter.all false
set_option autoImplicit false
set_option maxRecDepth 100000
set_option maxHeartbeats 4000000
/-! Fw38: list(range(..)), tuple(range(..)). -/
noncomputable section
namespace Fw
open PySem PySem.Spec PyProof.Rows L2
def rgOk (i j : Int) : Prop := 0 ≤ i ∧ i ≤ 1000000 ∧ 0 ≤ j ∧ j ≤ 1000000
instance (i j : Int) : Decidable (rgOk i j) := inferInstanceAs (Decidable (_ ∧ _ ∧ _ ∧ _))
def D.rgL : D → D → Res D
  | .int i, .int j => if rgOk i j then .ok (.lst (rangeD i (j - i).toNat)) else .no
  | _, _ => .no
def D.rgT : D → D → Res D
  | .int i, .int j => if rgOk i j then .ok (.tup (rangeD i (j - i).toNat)) else .no
  | _, _ => .no
theorem rpl_rg {K : Kr} {av : Addr → Prop} {H : Hp} (i j : Int) : RpL K av H (rangeD i (j - i).toNat) (rgV i j) := by
  unfold rangeD rgV
  generalize (j - i).toNat = n
  have go : ∀ l : List Nat, RpL K av H (l.map fun (k : Nat) => D.int (i + (k : Int))) (l.map fun (k : Nat) => V.int (i + (k : Int))) := by
    intro l
    induction l with
    | nil => exact .nil
    | cons x l ih => exact .cons (.int _) ih
  exact go _
section
variable {X : Cx} {Γ : Gm} {E : XK} {a b : Expr} {p p2 pos q : Pos} {fa fb : Env → Res D}
theorem rgOk.ok {i j : Int} (h : rgOk i j) : RgOk i j := RgOk.of_le h.1 (by have := h.2.2.2; omega) (by have := h.2.1; omega) h.2.2.1
theorem tn_listRg1 (hm : X.mg "list" = none) (hm2 : X.mg "range" = none) (hc : X.calm = true) (ha : PE X a (eT Γ E fa)) (hg : Gl X "list" := by rfl) (hg2 : Gl X "range" := by rfl) (na : starEach [a] X.env = (false, eval a X.env) :: starEach [] X.env := by rfl)
    (na2 : starEach [Expr.Call (.Name "range" p2) [a] [] q] X.env = (false, eval (Expr.Call (.Name "range" p2) [a] [] q) X.env) :: starEach [] X.env := by rfl) :
    PE X (.Call (.Name "list" p) [.Call (.Name "range" p2) [a] [] q] [] pos) (nT Γ E (bin D.rgL (fun _ => .ok (.int 0)) fa)) :=
  PE.imp (pe_listRg hc hg hm (prg_1 hg2 hm2 ha na) na2) fun σ H Q ⟨av, ρ, env, h⟩ => eT_bind env (show ROk Γ av H _ ((fa ρ).bind fun e => D.rgL (.int 0) e) Q E from h) fun d v H1 x1 env1 r1 h1 => by
    cases r1 with
    | int n =>
      obtain ⟨hk, h1⟩ := ROk.ifp h1
      exact ⟨n, rfl, hk.ok, fun p hp => new_bind (β := Unit) (δ := Unit) (ρ := ρ) x1 h1 hp (rpl_rg _ _)⟩
    | _ => exact (show False from h1).elim
theorem tn_listRg2 (hm : X.mg "list" = none) (hm2 : X.mg "range" = none) (hc : X.calm = true) (ha : PE X a (eT Γ E fa)) (hb : PE X b (eT Γ E fb)) (hg : Gl X "list" := by rfl) (hg2 : Gl X "range" := by rfl) (na : starEach [a, b] X.env = (false, eval a X.env) :: starEach [b] X.env := by rfl)
    (nb : starEach [b] X.env = (false, eval b X.env) :: starEach [] X.env := by rfl) (hp : (backTo q (starEach [b] X.env)).any (·.1) = false := by rfl)
    (na2 : starEach [Expr.Call (.Name "range" p2) [a, b] [] q] X.env = (false, eval (Expr.Call (.Name "range" p2) [a, b] [] q) X.env) :: starEach [] X.env := by rfl) :
    PE X (.Call (.Name "list" p) [.Call (.Name "range" p2) [a, b] [] q] [] pos) (nT Γ E (bin D.rgL fa fb)) :=
  PE.imp (pe_listRg hc hg hm (prg_2 hg2 hm2 ha hb na nb hp) na2) fun σ H Q ⟨av, ρ, env, h⟩ => eT_bind env h fun d v H1 x1 env1 r1 h1 => eT_bind env1 h1 fun e u H2 x2 env2 r2 h2 => by
    clear h1
    cases r1 with
    | int i =>
      cases r2 with
      | int j =>
        obtain ⟨hk, h2⟩ := ROk.ifp h2
        exact ⟨i, j, rfl, rfl, hk.ok, fun p hp => new_bind (β := Unit) (δ := Unit) (ρ := ρ) (x1.trans x2) h2 hp (rpl_rg _ _)⟩
      | _ => exact (show False from h2).elim
    | _ => exact (show False from h2).elim
theorem te_tupRg1 (hm : X.mg "tuple" = none) (hm2 : X.mg "range" = none) (hc : X.calm = true) (ha : PE X a (eT Γ E fa)) (hg : Gl X "tuple" := by rfl) (hg2 : Gl X "range" := by rfl) (na : starEach [a] X.env = (false, eval a X.env) :: starEach [] X.env := by rfl)
    (na2 : starEach [Expr.Call (.Name "range" p2) [a] [] q] X.env = (false, eval (Expr.Call (.Name "range" p2) [a] [] q) X.env) :: starEach [] X.env := by rfl) :
    PE X (.Call (.Name "tuple" p) [.Call (.Name "range" p2) [a] [] q] [] pos) (eT Γ E (bin D.rgT (fun _ => .ok (.int 0)) fa)) :=
  PE.imp (pe_tupRg hc hg hm (prg_1 hg2 hm2 ha na) na2) fun σ H Q ⟨av, ρ, env, h⟩ => eT_bind env (show ROk Γ av H _ ((fa ρ).bind fun e => D.rgT (.int 0) e) Q E from h) fun d v H1 x1 env1 r1 h1 => by
    cases r1 with
    | int n =>
      obtain ⟨hk, h1⟩ := ROk.ifp h1
      exact ⟨n, rfl, hk.ok, fun p hp => h1.new hp (.tup upd_same (rpl_rg _ _))⟩
    | _ => exact (show False from h1).elim
end
end Fw
end
set_option Elab.async false
set_option linter.all false
set_option autoImplicit false
set_option maxRecDepth 100000
set_option maxHeartbeats 4000000
/-! Fw39: raise C(), C an own class of exceptions. -/
noncomputable section
namespace Fw
open PySem PySem.Spec PyProof.Rows L2
section
variable {X : Cx} {C : Addr} {bmB : List Value} {B newId initId : String} {x : Str} {p p2 pos : Pos}
/-- C() -/
theorem pmk_own0 (F : ExcBaseFacts B newId initId bmB) (q : PySem.W.excIn X.K C bmB newId = true) (g : X.mg x = some (.ref C)) (kept : PySem.W.keepIn X.K (.ref C) = true) (can : Raises X (.ref C)) (gl : Gl X x) (nd : (x == ("__debug__" : Str)) = false := by decide) :
    L2.PMk X (.Call (.Name x p) [] [] p2) (fun _ H Q => Q (.ref C) none H) := by
  rintro pins s σ H Q I h
  apply wpAny_Call_Name_kw
  apply ld_glob I gl g _ nd
  apply PySem.W.callWith_K0 I.kIn kept
  rcases exc_obj I.kIn q with ⟨bm, N, nm, qn, bs, hdct, sn, sub, ab, col, dd, k0, k1, k2, k3, k5, mN, hC, hN, no, tail⟩
  refine wpAny_call_exc_subT F tail hC hN no (fun h' e made => ?_) (Nat.zero_le _)
  exact L2.mk_of I made can h (I.hok.gone made.new)
variable {Γ : Gm} {E : XK} {c : Str}
/-- raise C() in a def -/
theorem ts_raise0 (hc : X.calm = true) (tk : L2.Takes X (fun cls d _ H => E cls d H)) (F : ExcBaseFacts B newId initId bmB) (q : PySem.W.excIn X.K C bmB newId = true) (g : X.mg x = some (.ref C)) (kept : PySem.W.keepIn X.K (.ref C) = true) (can : Raises X (.ref C)) (named : Γ.cls c = C)
    (gl : Gl X x := by rfl) (nd : (x == ("__debug__" : Str)) = false := by decide) : PS X (.Raise (some (.Call (.Name x p) [] [] p2)) none pos) (sT Γ E fun _ => .ex c none) :=
  PS.imp (L2.ps_raise hc tk (pmk_own0 F q g kept can gl nd)) fun Z σ H ⟨amb, H0, mr, tmp, ρ, ⟨ad, S⟩, h⟩ => named ▸ SOk_ex S h H (Ext.refl Γ H)
end
theorem takesD {P : Program} {w : World} {K : PySem.W.Frag} {mg : Str → Option Value} {base : Heap} {N : List Str} {qual : Str} {sc : Scope} {f : Addr} {cd : Value} {A : Around} {outer : List PySem.Env} {s : Shared} {H : Hp} {E : XK} : L2.Takes (cxOf (L2.CX P w) P w K mg base N qual sc f cd A outer s H E) (fun cls d _ H => E cls d H) :=
  takes_of rfl rfl rfl rfl
end Fw
end
set_option Elab.async false
set_option linter.all false
set_option autoImplicit false
set_option maxRecDepth 100000
set_option maxHeartbeats 4000000
/-! Fw40: isinstance of a caught error; index and count of a list of truth values. -/
noncomputable section
namespace Fw
open PySem PySem.Spec PyProof.Rows L2
/-! ### isinstance(e, C) in an except's suite -/
/-- e is the caught error at a, and the answer is b -/
def isEF (a : Addr) (b : Bool) (f : Env → Res D) : Env → Res D := fun ρ => (f ρ).bind fun d => match d with
  | .op (.ref a') => if a' = a then .ok (.bl b) else .no
  | _ => .no
section
variable {X : Cx} {Γ : Gm} {E : XK} {a : Addr} {oe : Obj} {pn : List (Addr × Obj)} {C CY : Addr} {b : Bool} {y : Str} {o : Expr} {p py pos : Pos} {f : Env → Res D}
theorem te_isE (cls : ExcC X.K C) (is_ : L2.Zc (.ref C) none oe) (held : ∃ vs, oe.data = .fields vs) (hm : X.mg "isinstance" = none) (my : X.mg y = some (.ref CY)) (ans : PySem.W.kitOne X.K (.ref C) (.ref CY) = some b) (ho : PE (L2.Cx.suite X a ((a, oe) :: pn)) o (eT Γ E f))
    (hg : Gl (L2.Cx.suite X a ((a, oe) :: pn)) "isinstance" := by rfl) (hgy : Gl (L2.Cx.suite X a ((a, oe) :: pn)) y := by rfl) (hd : (y == ("__debug__" : Str)) = false := by decide)
    (he : starEach [o, .Name y py] (L2.Cx.suite X a ((a, oe) :: pn)).env = (false, eval o (L2.Cx.suite X a ((a, oe) :: pn)).env) :: starEach [.Name y py] (L2.Cx.suite X a ((a, oe) :: pn)).env := by rfl)
    (he2 : starEach [.Name y py] (L2.Cx.suite X a ((a, oe) :: pn)).env = (false, eval (.Name y py) (L2.Cx.suite X a ((a, oe) :: pn)).env) :: starEach [] (L2.Cx.suite X a ((a, oe) :: pn)).env := by rfl)
    (hpl : (backTo pos (starEach [.Name y py] (L2.Cx.suite X a ((a, oe) :: pn)).env)).any (·.1) = false := by rfl) :
    PE (L2.Cx.suite X a ((a, oe) :: pn)) (.Call (.Name "isinstance" p) [o, .Name y py] [] pos) (eT Γ E (isEF a b f)) := by
  have name : PE (L2.Cx.suite X a ((a, oe) :: pn)) (.Name y py) (tC (.ref CY)) := pe_glob hgy my rfl hd
  refine PE.imp (pe_callB (call_isE cls is_ held) hg hm boot_isinstance (pa_cons ho (pa_cons name pa_nil he2) he) (by decide) (by decide) he hpl) fun σ H Q ⟨av, ρ, env, h⟩ => eT_bind env h fun d v H1 x1 env1 r1 h1 => ?_
  cases r1 with
  | op _ =>
    cases v with
    | ref a' =>
      obtain ⟨same, h2⟩ := ROk.ifp (show ROk Γ av H1 (fun H' d v => Rp Γ.kr av H' d v) (if a' = a then Res.ok (D.bl b) else Res.no) Q E from h1)
      cases same
      exact ⟨.ref CY, .ref CY, b, rfl, fun u z => z, ans, ROk.here h2 (.bl b)⟩
    | _ => exact (show False from h1).elim
  | _ => exact (show False from h1).elim
end

/-! ### truth values in a list -/
def boolsOf : List D → Option (List Bool)
  | [] => some []
  | .bl b :: r => (boolsOf r).map (b :: ·)
  | _ :: _ => none
theorem RpL.bools {K : Kr} {av : Addr → Prop} {H : Hp} : ∀ {ds : List D} {bs : List Bool} {vs : List V}, RpL K av H ds vs → boolsOf ds = some bs → vs = bs.map V.bl
  | [], _, _, .nil, e => by cases e; rfl
  | d :: ds, bs, _, .cons r1 r2, e => by
    cases r1 with
    | bl b =>
      unfold boolsOf at e
      rcases Option.map_eq_some_iff.mp e with ⟨l, e2, rfl⟩
      rw [RpL.bools r2 e2]
      rfl
    | _ => cases e
/-- the values of truth values -/
theorem bool_vals : ∀ {bs : List Bool} {us : List Value}, Vals (bs.map V.bl) us → us = bs.map Value.bool
  | [], _, .nil => rfl
  | b :: _, _, .cons e r => by
    rw [bool_vals r, (show _ = Value.bool b from e)]
    rfl
def isBool (k : Bool) : Value → Bool
  | .bool b => b == k
  | _ => false
section
variable {X : Cx}
def rBools (K : PySem.W.Frag) (out : List Bool → Bool → Option Int) : V → List V → Hp → VK → Prop := fun x xs H Q => ∃ (p : Addr) (bs : List Bool) (k : Bool) (i : Int), x = .ref p ∧ xs = [.bl k] ∧ SqL K H p (bs.map V.bl) ∧ out bs k = some i ∧ Q (.int i) H
def countB (bs : List Bool) (k : Bool) : Option Int := some (bs.countP (· == k) : Nat)
def indexB (bs : List Bool) (k : Bool) : Option Int := if k ∈ bs then some (bs.idxOf k : Nat) else none
theorem mt_countB : MtR X "list.count" (rBools X.K countB) := by
  rintro pins s σ H _ _ v us Q I rx rxs ⟨p, bs, k, i, rfl, rfl, sq, e, q⟩
  cases (show v = .ref p from rx)
  rcases rxs.one with ⟨u, rfl, ru⟩
  cases (show u = .bool k from ru)
  rcases I.list sq with ⟨its, vals, at_, _⟩
  cases bool_vals vals
  rcases at_.isList with ⟨⟨c, dd, dat, sl⟩, g, hc, n, hd⟩
  cases (show c = .type "list" from hc)
  cases (show dat = .seq (bs.map Value.bool).toArray n from hd)
  cases e
  have ty : s.TypeIs (.ref p) "list" := ⟨_, g, rfl⟩
  refine call_meets PySem.F.slot_list_count ty PySem.F.entry_list_count (PySem.F.args_list_count_2 _ _) (SeqAt.list_countAt p (bs.map Value.bool).toArray n dd sl (.bool k) (isBool k)) ⟨g, fun y hy => ?_, ?_⟩
  · obtain ⟨b, _, rfl⟩ := List.mem_map.mp (show y ∈ bs.map Value.bool by simpa using hy)
    exact SeqAt.EqAt.bool_bool b k
  · have num : ((bs.map Value.bool).toArray.toList.countP (isBool k)) = bs.countP (· == k) := by
      show List.countP (isBool k) (bs.map Value.bool) = _
      rw [List.countP_map]
      rfl
    rw [num]
    exact ⟨.int _, H, I.tok _, ⟨s.toks, rfl⟩, q⟩
theorem mt_indexB : MtR X "list.index" (rBools X.K indexB) := by
  rintro pins s σ H _ _ v us Q I rx rxs ⟨p, bs, k, i, rfl, rfl, sq, e, q⟩
  cases (show v = .ref p from rx)
  rcases rxs.one with ⟨u, rfl, ru⟩
  cases (show u = .bool k from ru)
  rcases I.list sq with ⟨its, vals, at_, small⟩
  cases bool_vals vals
  unfold indexB at e
  split at e
  · rename_i mem
    cases e
    refine SeqAt.call_list_index (ks := bs) (k := k) at_.isList ⟨by rw [List.length_map], fun j h1 h2 => ?_⟩ (by rw [List.length_map] at small; exact small) mem ⟨.int _, H, I.tok _, ⟨s.toks, rfl⟩, q⟩
    rw [List.getElem_map]
    exact (SeqAt.EqAt.bool_bool bs[j] k).cast (by cases bs[j] <;> cases k <;> rfl)
  · cases e
end
def boolsG (out : List Bool → Bool → Option Int) : D → List D → Res D
  | .lst ds, [.bl k] => match boolsOf ds with | some bs => (match out bs k with | some i => .ok (.int i) | none => .no) | none => .no
  | _, _ => .no
section
variable {X : Cx} {Γ : Gm} {E : XK} {o a : Expr} {apos cpos : Pos} {f fa : Env → Res D}
theorem fit_bools {out : List Bool → Bool → Option Int} (hK : X.K = Γ.K) : FitM Γ E .lst (rBools X.K out) (boolsG out) := by
  intro av H d v ds vs Q wf r rr h
  cases r with
  | lst g n r =>
    cases rr with
    | nil => exact (show False from h).elim
    | cons r1 rr =>
      cases r1 with
      | bl k =>
        cases rr with
        | cons _ _ => exact (show False from h).elim
        | nil =>
          rename_i l vs ds
          replace h : ROk Γ av H (fun H' d v => Rp Γ.kr av H' d v) (match boolsOf ds with | some bs => (match out bs k with | some i => Res.ok (D.int i) | none => .no) | none => .no) Q E := h
          cases e : boolsOf ds with
          | none => rw [e] at h; exact (show False from h).elim
          | some bs =>
            rw [e] at h
            cases r.bools e
            cases e2 : out bs k with
            | none => simp only [e2] at h; exact (show False from h).elim
            | some i =>
              simp only [e2] at h
              exact ⟨_, bs, k, i, rfl, rfl, hK ▸ SqL.of g, e2, ROk.here h (.int i)⟩
      | _ => cases rr <;> exact (show False from h).elim
  | _ => exact (show False from h).elim
theorem te_countB (ho : PE X o (eT Γ E f)) (ha : PE X a (eT Γ E fa)) (hK : X.K = Γ.K := by rfl) (hbase : attributeBase o "count" X.env (eval o X.env) = eval o X.env := by rfl)
    (hfew : ((backTo cpos (starEach [a] X.env)).all (fun x => !x.1) && (backToKw cpos (keywordEach [] X.env)).all (fun x => x.1.isSome) && decide ([a].length + ([] : List Keyword).length + (if ([] : List Keyword).isEmpty then 0 else 1) < 30)) = true := by rfl)
    (hline : (apos.endLine == cpos.line) = true := by rfl) (hs : starEach [a] X.env = (false, eval a X.env) :: starEach [] X.env := by rfl) : PE X (.Call (.Attribute o "count" apos) [a] [] cpos) (eT Γ E (bmF .lst f (consA fa nilA) (boolsG countB))) :=
  te_bm (T := .lst) PySem.F.plainAttrs_list PySem.F.slot_list_count PySem.F.type_list_count mt_countB (.inl rfl) (fit_bools hK) ho (ta_cons ha ta_nil hs) hbase hfew hline hs rfl
theorem te_indexB (ho : PE X o (eT Γ E f)) (ha : PE X a (eT Γ E fa)) (hK : X.K = Γ.K := by rfl) (hbase : attributeBase o "index" X.env (eval o X.env) = eval o X.env := by rfl)
    (hfew : ((backTo cpos (starEach [a] X.env)).all (fun x => !x.1) && (backToKw cpos (keywordEach [] X.env)).all (fun x => x.1.isSome) && decide ([a].length + ([] : List Keyword).length + (if ([] : List Keyword).isEmpty then 0 else 1) < 30)) = true := by rfl)
    (hline : (apos.endLine == cpos.line) = true := by rfl) (hs : starEach [a] X.env = (false, eval a X.env) :: starEach [] X.env := by rfl) : PE X (.Call (.Attribute o "index" apos) [a] [] cpos) (eT Γ E (bmF .lst f (consA fa nilA) (boolsG indexB))) :=
  te_bm (T := .lst) PySem.F.plainAttrs_list PySem.F.slot_list_index PySem.F.type_list_index mt_indexB (.inl rfl) (fit_bools hK) ho (ta_cons ha ta_nil hs) hbase hfew hline hs rfl
end
end Fw
end
set_option Elab.async false
set_option linter.all false
set_option autoImplicit false
set_option maxRecDepth 100000
set_option maxHeartbeats 4000000
/-! Fw41: x(lambda: e), x a def that calls what it got within try, and tells the error by a text. -/
noncomputable section
namespace Fw
open PySem PySem.Spec PyProof.Rows L2
/-- no error leaves -/
abbrev noE : XK := fun _ _ _ => False
def refR (ans : Str → Option Str) : Res D → Res D
  | .ok _ => .ok .non
  | .ex c none => match ans c with | some t => .ok (.str t) | none => .no
  | .ex _ (some _) => .no
  | .no => .no
  | .dr n k => .dr n fun i => refR ans (k i)
def refF (ans : Str → Option Str) (fb : Env → Res D) : Env → Res D := fun ρ => refR ans (fb ρ)
/-- the errors that the clause takes -/
def TakenE (Γ : Gm) (ans : Str → Option Str) (Q : VK) : XK := fun cls d H => d = none ∧ ∃ c t, ans c = some t ∧ cls = .ref (Γ.cls c) ∧ Wf Γ (fun _ => False) H ∧ ∀ H', Ext Γ H H' → Q (.str t) H'
theorem refR_ok {Γ : Gm} {av : Addr → Prop} {H : Hp} {ans : Str → Option Str} {Q : VK} {E : XK} (wf : Wf Γ av H) : ∀ {r : Res D}, ROk Γ av H (fun H' d v => Rp Γ.kr av H' d v) (refR ans r) Q E → ROk Γ av H (fun H' d v => Rp Γ.kr av H' d v) r (fun _ H' => Q .non H') (TakenE Γ ans Q)
  | .ok d, h => fun b H' x _ => h .non H' x .non
  | .ex c none, h => by
    intro H' x
    replace h : ROk Γ av H (fun H' d v => Rp Γ.kr av H' d v) (match ans c with | some t => Res.ok (D.str t) | none => .no) Q E := h
    cases e : ans c with
    | none => rw [e] at h; exact (show False from h).elim
    | some t =>
      rw [e] at h
      exact ⟨rfl, c, t, e, rfl, ⟨x.tb wf.tb, fun _ z => z.elim, x.row wf.row⟩, fun H2 x2 => h _ H2 (x.trans x2) (.str t)⟩
  | .ex c (some _), h => (show False from h).elim
  | .no, h => h
  | .dr n k, h => fun i h1 h2 => refR_ok wf (h i h1 h2)
/-- the slots of the clause's suite: the error in the second -/
def eSlots (m : Nat) (a : Addr) : SEnv := (List.replicate m Sl.dead).set 1 (.val (.op (.ref a)))
theorem eSlots_get {m i : Nat} {a : Addr} {s : Sl} (h : (eSlots m a)[i]? = some s) : s = .dead ∨ (i = 1 ∧ s = .val (.op (.ref a))) := by
  unfold eSlots at h
  by_cases e : i = 1
  · subst e
    by_cases l : 1 < m
    · rw [List.getElem?_set_self (by simpa using l)] at h
      exact .inr ⟨rfl, (Option.some.inj h).symm⟩
    · rw [List.getElem?_eq_none (by simp; omega)] at h
      cases h
  · rw [List.getElem?_set_ne (Ne.symm e)] at h
    exact .inl (List.eq_of_mem_replicate (List.mem_of_getElem? h))
theorem eSlots_cont {m i : Nat} {a : Addr} {d : D} (h : Cont (eSlots m a) i d) : False := by
  rcases h with h | h <;> rcases eSlots_get h with z | ⟨_, z⟩ <;> cases z
theorem eSlots_sad {Γ : Gm} {H : Hp} {σ : St} {m : Nat} {a : Addr} (wf : Wf Γ (fun _ => False) H) (len : σ.length = m) (at_ : σ[1]? = some (some (.ref a))) : SAd Γ (fun _ => False) H noMr [] (fun _ => 0) σ H (eSlots m a) where
  ext := ExtM.refl _ _ _
  tb := wf.tb
  rw := wf.row
  len := by unfold eSlots; simp [len]
  ambT := fun _ z => z.elim
  mrIn := fun _ ⟨_, z⟩ => by cases z
  inj := fun i j d e h _ _ => (eSlots_cont h).elim
  new := fun i d h => (eSlots_cont (.inl h)).elim
  rows := fun i d h => (eSlots_cont (.inr h)).elim
  val := fun i d h => by
    rcases eSlots_get h with z | ⟨rfl, z⟩
    · cases z
    · cases z
      exact ⟨_, at_, .op _⟩
  own := fun i d h => (eSlots_cont h).elim
  tmp := fun _ z => by cases z
/-- a text comes out: by a return -/
theorem fin_str {r : Out} {t : Str} (h : r.fin = .ok (.str t)) : ∃ ρ, r = .rt (.str t) ρ := by
  cases r <;> cases h
  exact ⟨_, rfl⟩

section
variable {X : Cx} {Γ : Gm} {E : XK} {ans : Str → Option Str} {x a n e : Str} {g CS c P : Addr} {k j : Nat} {st : Stmt} {fd : FuncData} {Ng : List Str} {b₀ : Stmt} {suite : List Stmt} {p1 p2 p3 np hp tp p5 p6 p lpos pos : Pos}
  {params : Arguments} {body : Expr} {scope : Scope} {fb : Env → Res D} {gs : Str → Addr → SEnv → Out}
theorem te_told (F : FnP X.K x x st g fd) (bnd : L2.Binds X.K fd [a] []) (S : FnScope Ng [a] (defScope st))
    (shape : defBody st = [.Try [.Expr (.Call (.Name a p1) [] [] p2) p3] [.ExceptHandler (some (.Name e np)) (some n) (b₀ :: suite) hp] [] [] tp, .Return (some (.Constant .none j p5)) p6])
    (me : X.mg e = some (.ref CS)) (takes : ∀ c t, ans c = some t → PySem.W.exmOne X.K (.ref (Γ.cls c)) (.ref CS) = some true)
    (runs : ∀ (c t : Str) (cdv : Value) (A : Around) (outer : List PySem.Env) (s : Shared) (H : Hp) (a' : Addr) (oe : Obj) (pn : List (Addr × Obj)), ans c = some t → fd.code = cdv → A.units + 200 < cLine → L2.Zc (.ref (Γ.cls c)) none oe → (∃ vs, oe.data = .fields vs) →
      PSs (L2.Cx.suite (cxOf (L2.CX X.prog X.w) X.prog X.w X.K X.mg X.base Ng x (defScope st) g cdv A outer s H noE) a' ((a', oe) :: pn)) (b₀ :: suite) (sT Γ noE (gs c a')))
    (told : ∀ c t, ans c = some t → ∀ a', (gs c a' (eSlots Ng.length a')).fin = .ok (.str t))
    (mx : X.mg x = some (.ref g)) (TB : LamX.TabB X.base X.mg c P) (hcode : X.env.code = .ref c) (hTL : (P, X.env.qual ++ "<lambda>") ∈ Γ.TL) (hu : ∀ p ∈ Γ.TL, p.1 = P → p.2 = X.env.qual ++ "<lambda>") (hr : Room (k + 2) X.A) (L : LamX.LamS X.env.scope scope)
    (hb : ∀ (A : Around) (outer : List PySem.Env) (s : Shared) (H : Hp) (E : XK) (f c' : Addr), Room k (A.deeper (LamX.lamEnv X scope s.heap.objs.size f c')) → PE (LamX.lamCx X A outer s H E scope f c') body (eT Γ E fb))
    (na : Ng[0]? = some a := by rfl) (nn : Ng[1]? = some n := by rfl) (va : Vis (defScope st) a := by first | exact Or.inl rfl | exact Or.inr (Or.inl rfl) | exact Or.inr (Or.inr rfl)) (ln : (defScope st).names.lookup n = some .local := by rfl) (ge : (defScope st).names.lookup e = some .globalImplicit := by rfl)
    (gx : Gl X x := by rfl) (hdef : defaultsOf params X.env = ([], []) := by rfl) (hbind : ∀ (q : Str) (cl : List (Str × Addr)) (pm cv ctv : Value), bindArgs (PySem.W.kla_fn "<lambda>" q params body scope cl pm cv ctv) ⟨[], []⟩ = pure [] := by intros; rfl)
    (dx : (x == ("__debug__" : Str)) = false := by decide) (da : (a == ("__debug__" : Str)) = false := by decide) (ca : (a == ("__classdict__" : Str)) = false := by decide) (de : (e == ("__debug__" : Str)) = false := by decide)
    (h1 : starEach [.Lambda params body scope lpos] X.env = (false, eval (.Lambda params body scope lpos) X.env) :: starEach [] X.env := by rfl) :
    PE X (.Call (.Name x p) [.Lambda params body scope lpos] [] pos) (eT Γ E (refF ans fb)) := by
  constructor
  rintro pins s σ H Q I ⟨av, ρ, env, h⟩
  obtain ⟨oc, od, dV, kV, doc, pm', an, cdv, ct', osl, efd, lk, hcd, _, _⟩ := F.ex
  apply wpAny_Call_Name_kw
  refine ld_glob I gx mx ?_ dx
  refine PySem.W.callWith_K (h₀ := X.base) I.ok.mod.kin F.kp ?_ h1 (by rfl)
  show wpAny _ _ (spliced ((false, eval (.Lambda params body scope lpos) X.env) :: backTo pos (starEach [] X.env))) _ _ s
  refine Calls.spliced_cons (lam_new I TB hcode hTL hu env.wf.tb hdef (L.has I.ok) fun fa c' pm ctv H1 s1 I1 x1 hf hsz hfn hco => ?_)
  refine Calls.spliced_nil ⟨I1.kIn, ?_⟩
  have off : fa ∉ frs X.stack := fun z => (List.mem_cons.mp (I.stkSub _ z)).elim (fun q => Nat.lt_irrefl _ (Nat.lt_of_lt_of_le (q ▸ I.lt) hsz)) (I.nofs hsz)
  have run : codeAny (model X.prog X.w) X.A (.call (.ref g) ⟨[.ref fa], []⟩) (CR (L2.CX X.prog X.w) X.stack X.prog X.w H1 s1 Q noE) s1 := by
    subst efd
    refine LamX.run_ofS (N := Ng) (ps := [a]) (us := [.ref fa]) (vs := [.ref fa]) lk hcd S hr I1.env0 (bnd s1 [.ref fa] I1.kIn rfl) (.cons rfl .nil) rfl fun hr' => ?_
    rw [shape]
    let Z := cxOf (L2.CX X.prog X.w) X.prog X.w X.K X.mg X.base Ng x (defScope st) g cdv X.A X.stack s1 H1 noE
    have hN : Z.N.Nodup := S.nd
    let ts : Addr → Value → Option Addr → TS := fun a' cls d D σZ HZ => (σZ.length = Ng.length → σZ[1]? = some (some (.ref a'))) ∧ TakenE Γ ans D.rt cls d HZ
    have clause := L2.ps_try_as (X := Z) (x := e) (n := n) (c := .ref CS) (i := 1) (body := [.Expr (.Call (.Name a p1) [] [] p2) p3]) (suite := suite) (b₀ := b₀) (np := np) (pos := tp) (pos' := hp) (Wout := fun _ _ _ _ => False)
      (tb := fun W D σZ HZ => ∃ Ech : XK, (∀ cls d σ' H', Ech cls d H' → W cls d σ' H') ∧ σZ[0]? = some (some (.ref fa)) ∧ HZ c' = some (LamX.CodeO c' (X.env.qual ++ "<lambda>")) ∧ eT Γ Ech fb σ HZ fun _ H' => D.nx σZ H') (ts := ts)
      rfl rfl hN nn ln ⟨ge, de, .inl me⟩ LamX.takes0 (fun W pn xe tk _ => ?_) (fun a' oe cls d pn is_ held => ?_)
    · refine ⟨_, pss_cons clause (pss_one (ps_ret pe_non)), ?_⟩
      have start_ : (L2.start Ng [V.ref fa])[0]? = some (some (V.ref fa)) := rfl
      refine ⟨TakenE Γ ans Q, fun cls d σ' H' tk => ?_, start_, hco, av, ρ, env.ext x1, refR_ok (env.ext x1).wf (ROk.ext x1 h)⟩
      have tk2 := tk
      obtain ⟨rfl, c0, t, e0, rfl, wf, q⟩ := tk2
      refine ⟨true, takes c0 t e0, fun _ a' _ => ⟨fun len => ?_, tk⟩, fun z => by cases z⟩
      have two : 1 < Ng.length := (List.getElem?_eq_some_iff.mp nn).1
      exact List.getElem?_set_self (by rw [List.length_set] at len; omega)
    · refine ⟨fun pins' s' σZ HZ D I' ⟨Ech, hW, k1, k2, k3⟩ => ?_⟩
      have act := LamX.pe_act (CXg := L2.CX X.prog X.w) (Eg := noE) (Ng := Ng) (qg := x) (sg := defScope st) (g := g) (cdg := cdv) (pn := pn) (xe := xe) (W := W) (E := Ech) (p1 := p1) (p2 := p2) (i := 0) I1 L hf hfn off (hbind _ _ _ _ _) tk hW hr' (fun A outer s H hr2 => hb A outer s H Ech fa c' hr2) na va da ca
      exact (pss_one (ps_expr (pos := p3) act)).run pins' s' σZ HZ D I' ⟨k1, k2, k3⟩
    · refine ⟨fun pins' s' σZ HZ D I' ⟨at_, tk⟩ => ?_⟩
      obtain ⟨rfl, c0, t, e0, rfl, wf, q⟩ := tk
      have len : σZ.length = Ng.length := I'.len
      obtain ⟨ρ', er⟩ := fin_str (told c0 t e0 a')
      refine (runs c0 t cdv X.A X.stack s1 H1 a' oe pn e0 rfl (by have := hr.un; omega) is_ held).run pins' s' σZ HZ D I' ⟨_, HZ, noMr, [], eSlots Ng.length a', ⟨_, eSlots_sad wf len (at_ len)⟩, ?_⟩
      rw [er]
      intro v σ' H' ad S' r'
      cases r'
      exact q H' S'.ext.none
  apply wpAny_call
  refine codeAny_mono run fun r s2 got => ?_
  match r, got with
  | .error _, got => obtain ⟨_, _, _, _, _, _, _, _, _, _, _, _, z⟩ := got; exact z.elim
  | .ok (.ret _), got => exact I1.after got
end
end Fw
end
set_option Elab.async false
set_option linter.all false
set_option autoImplicit false
set_option maxRecDepth 100000
set_option maxHeartbeats 4000000
/-! Fw42: what the head is asked about classes of errors; calls within a lambda. -/
noncomputable section
namespace Fw
open PySem PySem.Spec PyProof.Rows L2
/-- isinstance asks the instances of D rightly -/
def excB (K : PySem.W.Frag) (D : Addr) : Bool :=
  decide (PySem.W.findIn K (.ref D) "__getattribute__" = some (some (.builtin "BaseException.__getattribute__"))) && decide (PySem.W.findIn K (.ref D) "__getattr__" = some none) &&
  decide (PySem.W.subIn K (.ref D) (.type "BaseException") = some true) && decide (PySem.W.hasDictIn K D = true) && decide (PySem.W.findIn K (.ref D) "__class__" = some (some (.builtin "object.__class__"))) &&
  decide (PySem.W.specialIn K (.builtin "object.__class__") "__get__" = some (some (.builtin "getset_descriptor.__get__"))) && decide (PySem.W.takesIn K (.builtin "object.__class__") = some true) && decide (PySem.W.mroIn K D (.type "object") = some true)
theorem excB_ok {K : PySem.W.Frag} {D : Addr} (h : excB K D = true) : ExcC K D := by
  unfold excB at h
  simp only [Bool.and_eq_true, decide_eq_true_eq] at h
  obtain ⟨⟨⟨⟨⟨⟨⟨h1, h2⟩, h3⟩, h4⟩, h5⟩, h6⟩, h7⟩, h8⟩ := h
  exact ⟨h1, h2, h3, h4, h5, h6, h7, h8⟩
def kitB (K : PySem.W.Frag) (C Y : Addr) (b : Bool) : Bool := decide (PySem.W.kitOne K (.ref C) (.ref Y) = some b)
theorem kitB_ok {K : PySem.W.Frag} {C Y : Addr} {b : Bool} (h : kitB K C Y b = true) : PySem.W.kitOne K (.ref C) (.ref Y) = some b := of_decide_eq_true h
def exmB (K : PySem.W.Frag) (C Y : Addr) : Bool := decide (PySem.W.exmOne K (.ref C) (.ref Y) = some true)
theorem exmB_ok {K : PySem.W.Frag} {C Y : Addr} (h : exmB K C Y = true) : PySem.W.exmOne K (.ref C) (.ref Y) = some true := of_decide_eq_true h
/-- what a call lets out leaves the lambda -/
theorem passLam0 {X : Cx} {A : Around} {outer : List PySem.Env} {s : Shared} {H : Hp} {E : XK} {scope : Scope} {f c' : Addr} : Passes (L2.CX X.prog X.w) (LamX.lamCx X A outer s H E scope f c') E :=
  passes_call (X := LamX.lamCx X A outer s H E scope f c') (takes_of rfl rfl rfl rfl) fun _ _ _ _ h => h
/-- .. of a lambda in a def -/
theorem passLam {CX : CXT} {P : Program} {w : World} {K : PySem.W.Frag} {mg : Str → Option Value} {base : Heap} {N : List Str} {qual : Str} {sc : Scope} {f : Addr} {cd : Value} {A : Around} {outer : List PySem.Env} {s : Shared} {H : Hp} {E : XK} {A' : Around} {outer' : List PySem.Env} {s' : Shared} {H' : Hp} {E' : XK} {scope : Scope} {fa c' : Addr} :
    Passes (L2.CX P w) (LamX.lamCx (cxOf CX P w K mg base N qual sc f cd A outer s H E) A' outer' s' H' E' scope fa c') E' := passLam0
theorem suite_units {CX : CXT} {P : Program} {w : World} {K : PySem.W.Frag} {mg : Str → Option Value} {base : Heap} {N : List Str} {qual : Str} {sc : Scope} {f : Addr} {cd : Value} {A : Around} {outer : List PySem.Env} {s : Shared} {H : Hp} {E : XK} {a : Addr} {pn : List (Addr × Obj)} (hu : A.units + 200 < cLine) :
    (L2.Cx.suite (cxOf CX P w K mg base N qual sc f cd A outer s H E) a pn).A.units + 64 < cLine := by
  show A.units + 3 + 64 < cLine
  omega
section
variable {X : Cx} {Γ : Gm} {E : XK} {a b : Expr} {pos : Pos} {fa fb : Env → Res D}
theorem tb_eqU (hu : X.A.units + 64 < cLine) (ha : PE X a (eT Γ E fa)) (hb : PE X b (eT Γ E fb)) (hK : X.K = Γ.K := by rfl) : PT X (.Compare a [.Eq] [b] pos) (bT Γ E (asTest (bin D.eq fa fb))) := tb_cmpR (op_eqD hu) (hK ▸ fit_eq) ha hb (nomark _)
end
end Fw
end
set_option Elab.async false
set_option linter.all false
set_option autoImplicit false
set_option maxRecDepth 100000
set_option maxHeartbeats 4000000
/-! Fw43: sorted(d) of a dict by pairs of whole numbers. -/
noncomputable section
namespace Fw
open PySem PySem.Spec PyProof.Rows L2
/-- the pair z stands at b -/
abbrev PairTup (H : Hp) (z : Int × Int) (b : Addr) : Prop := H b = some (.tup [.int z.1, .int z.2])
def key2 (z : Int × Int) : List Key := [.inl z.1, .inl z.2]
def adOf : Value → Addr
  | .ref b => b
  | _ => 0
theorem keys_paired {H : Hp} : ∀ {l : List (Int × Int)} {kvs : List (List Key × V)} {bs : List Addr}, kvs.map (·.1) = l.map key2 → Paired (fun (p : List Key × V) b => H b = some (.tup (p.1.map kV))) kvs bs → Paired (PairTup H) l bs
  | [], [], _, _, .nil => .nil
  | z :: l, _ :: _, _, e, .cons a r => by
    rw [List.map_cons, List.map_cons, List.cons.injEq] at e
    refine .cons ?_ (keys_paired e.2 r)
    rw [e.1] at a
    exact a
theorem paired_back {H : Hp} {pr : Addr → Int × Int} : ∀ {bs : List Addr}, (∀ b ∈ bs, PairTup H (pr b) b) → Paired (PairTup H) (bs.map pr) bs
  | [], _ => .nil
  | b :: bs, h => .cons (h b List.mem_cons_self) (paired_back fun x hx => h x (List.mem_cons_of_mem _ hx))
theorem paired_map {H : Hp} : ∀ {l : List (Int × Int)} {bs : List Addr}, Paired (PairTup H) l bs → bs.map (fun b => kOfV H (.ref b)) = l ∧ ∀ b ∈ bs, PairTup H (kOfV H (.ref b)) b
  | _, _, .nil => ⟨rfl, fun _ z => by cases z⟩
  | z :: l, b :: bs, .cons a r => by
    have ⟨e, f⟩ := paired_map r
    have kb : kOfV H (.ref b) = z := by unfold kOfV; simp only [show H b = some (.tup [.int z.1, .int z.2]) from a]
    refine ⟨by rw [List.map_cons, e, kb], fun x hx => ?_⟩
    rcases List.mem_cons.mp hx with rfl | hx
    · rw [kb]; exact a
    · exact f x hx
theorem paired_rp {K : Kr} {av : Addr → Prop} {H : Hp} : ∀ {l : List (Int × Int)} {bs : List Addr}, Paired (PairTup H) l bs → RpL K av H (l.map pD) (bs.map V.ref)
  | _, _, .nil => .nil
  | _, _, .cons a r => .cons (.tup a (.cons (.int _) (.cons (.int _) .nil))) (paired_rp r)
section
variable {prog : Program} {w : World} {A : Around} {E : Value → Shared → Prop} {s : Shared}
/-- a fresh list of pairs, sorted -/
theorem sort_pairs {h : Heap} {tk : Nat} {vs : List Value} {k : Value → Int × Int} {R : Shared → Prop} (are : ∀ v ∈ vs, Srt.IsPair h v (k v).1 (k v).2) (fit : vs.length ≤ sizeLine)
    (go : ∀ (out : List Value) (ep : Nat) (h2 : Heap), (∀ b o, h.get? b = some o → h2.get? b = some o) → h2.get? h.objs.size = some (seqObj "list" out.toArray ep) → out.Perm vs → (out.Pairwise fun u v => SrtO.lexB (k v) (k u) = false) → R { s with heap := h2, toks := tk }) :
    wpAny (model prog w) A (call (.builtin "list.sort") [.ref h.objs.size]) (fun _ t => R t) E { s with heap := h.push (seqObj "list" vs.toArray 0), toks := tk } := by
  have at0 : (h.push (seqObj "list" vs.toArray 0)).get? h.objs.size = some (seqObj "list" vs.toArray 0) := Heap.get?_push_size _ rfl
  have ty : Shared.TypeIs { s with heap := h.push (seqObj "list" vs.toArray 0), toks := tk } (.ref h.objs.size) "list" := ⟨_, at0, rfl⟩
  apply wpAny_call_entry slot_list_sort ty entry_list_sort _ (args_list_sort _)
  have are2 : ∀ v ∈ vs, Srt.IsPair (h.push (seqObj "list" vs.toArray 0)) v (k v).1 (k v).2 := fun v hv => (are v hv).keeps fun b o e _ => Heap.get?_push_of_some _ e
  refine SrtO.list_sort_ord (SrtO.swo_lex k) at0 fit (fun two => SrtO.pairs_sortableO (Nat.lt_of_lt_of_le (by decide) two) are2 fun o e c => ?_) fun out up st => ?_
  · cases at0.symm.trans e
    exact absurd (Value.type.inj c) (by decide)
  · rcases sortedHeap_at (vs := vs) (out := out.toArray) at0 with ⟨ep, g⟩
    refine ⟨_, rfl, go out ep _ (fun x o e => ?_) g st.perm up⟩
    have lx : x < h.objs.size := Heap.lt_size e
    exact (sortedHeap_old (Nat.ne_of_lt lx) (size_push' .. ▸ Nat.lt_succ_of_lt lx)).trans (Heap.get?_push_of_some _ e)
end
theorem cr_sortDT {X : Cx} (hc : X.calm = true) : CallR X (.builtin "sorted") (fun xs H Q => ∃ (q : Addr) (kvs : List (List Key × V)) (l : List (Int × Int)), xs = [.ref q] ∧ H q = some (.dT kvs) ∧ kvs.map (·.1) = l.map key2 ∧
    ∀ (bs : List Addr) (p : Addr), H p = none → Paired (PairTup H) (sortP l) bs → Q (.ref p) (upd H p (.lst (bs.map V.ref)))) := by
  rintro pins s σ H _ us Q I rx ⟨q, kvs, l, rfl, at_, keys, go⟩
  cases Vals.ref1 rx
  obtain ⟨small, lo, xs, rk, o, es, ep, ho, hx, hdt, hes, _, _⟩ := dt_of I.hok at_
  have num : es.size = xs.length := size_of_entries hes
  have num2 : kvs.length = xs.length := Paired.length rk
  have fit : es.size ≤ sizeLine := by omega
  have prs : Paired (PairTup H) l (xs.map fun x => x.2.1) := keys_paired keys (isKeys_of rk)
  obtain ⟨map0, tup0⟩ := paired_map prs
  apply Calls.call_function_entry kind_sorted plain_sorted entry_sorted (args_sorted1 _)
  unfold Builtin.«sorted»
  apply wpAny_bind (m := checkCount "sorted" 1 1 _)
  apply wpAny_pure
  apply wpAny_bind
  refine PySem.W.kdu_collect (A := X.A.in1) (L2.kdl_raw lo hx hdt) (I.ok.hd hc) ho fit fun h1 tk acc old its => ?_
  have eacc : acc.toList = xs.map fun x => Value.ref x.2.1 := by
    refine List.ext_getElem? fun j => ?_
    rw [List.getElem?_map, Array.getElem?_toList]
    cases e : acc[j]? with
    | none =>
      have : xs.length ≤ j := by have := Array.getElem?_eq_none_iff.mp e; rw [its.1] at this; omega
      rw [List.getElem?_eq_none this]
      rfl
    | some v =>
      obtain ⟨en, g, rfl⟩ := its.2 j v e
      have r := entry_at hes j
      rw [g] at r
      cases g2 : xs[j]? with
      | none => rw [g2] at r; cases r
      | some x => rw [g2] at r; cases r; rfl
  rw [eacc]
  have lenv : (xs.map fun x => Value.ref x.2.1).length ≤ sizeLine := by rw [List.length_map]; omega
  have I1 : Inv X pins σ H { s with heap := h1, toks := tk } := I.kept old
  let k : Value → Int × Int := fun v => kOfV H (.ref (adOf v))
  have are : ∀ v ∈ xs.map (fun x => Value.ref x.2.1), Srt.IsPair h1 v (k v).1 (k v).2 := by
    intro v hv
    obtain ⟨x, hx', rfl⟩ := List.mem_map.mp hv
    have t := tup0 x.2.1 (List.mem_map.mpr ⟨x, hx', rfl⟩)
    obtain ⟨_, its2, r2, o2, g, hcl, n, hd⟩ := I1.hok _ _ t
    obtain ⟨u1, u2, rfl, ⟨t1, rfl⟩, ⟨t2, rfl⟩⟩ := vals2 r2
    exact ⟨_, o2, t1, t2, n, rfl, g, hcl, hd⟩
  refine wpAny_bind (wpAny_newList (wpAny_bind (wpAny_holding ?_)) lenv)
  refine sort_pairs (s := s) (tk := tk) (k := k) are lenv fun out ep2 h2 old2 g perm up => wpAny_pure ⟨_, rfl, ?_⟩
  have refs : ∀ v ∈ out, ∃ b, v = Value.ref b ∧ b ∈ xs.map (fun x => x.2.1) := fun v hv => by
    obtain ⟨x, hx', rfl⟩ := List.mem_map.mp (perm.mem_iff.mp hv)
    exact ⟨_, rfl, List.mem_map.mpr ⟨x, hx', rfl⟩⟩
  have eout : out = (out.map adOf).map Value.ref := by
    rw [List.map_map]
    conv => lhs; rw [← List.map_id out]
    refine List.map_congr_left fun v hv => ?_
    obtain ⟨b, rfl, _⟩ := refs v hv
    rfl
  have tups : ∀ b ∈ out.map adOf, PairTup H (kOfV H (.ref b)) b := fun b hb => by
    obtain ⟨v, hv, rfl⟩ := List.mem_map.mp hb
    obtain ⟨b, rfl, hb2⟩ := refs v hv
    exact tup0 b hb2
  have srt : (out.map adOf).map (fun b => kOfV H (.ref b)) = sortP l := by
    refine sortP_uniq ?_ ?_ (sortP_up l)
    · have p1 : ((out.map adOf).map fun b => kOfV H (.ref b)).Perm ((xs.map fun x => x.2.1).map fun b => kOfV H (.ref b)) := by
        refine List.Perm.map _ ?_
        have := perm.map adOf
        rw [List.map_map] at this
        exact this
      rw [map0] at p1
      exact p1.trans (sortP_perm l).symm
    · rw [List.map_map, List.pairwise_map]
      exact up
  have lenb : ((out.map adOf).map V.ref).length ≤ sizeLine := by
    rw [List.length_map, List.length_map, perm.length_eq]
    exact lenv
  have vals : Vals ((out.map adOf).map V.ref) out := by
    have := L2.vals_refs (out.map adOf)
    rw [← eout] at this
    exact this
  have fin := paired_back tups
  rw [srt] at fin
  exact ⟨.ref h1.objs.size, _, I1.laid (t' := tk) (o := .lst ((out.map adOf).map V.ref)) old2 (Nat.le_refl _) ⟨lenb, out, ep2, vals, g⟩, rfl, go _ _ (I1.hok.fresh (Nat.le_refl _)) fin⟩
/-- sorted(d) over trees -/
def D.sortDT : D → Res D
  | .dct true ds => match pairsI (ds.map (·.1)) with | some l => .ok (.lst ((sortP l).map pD)) | none => .no
  | _ => .no
theorem keys_two : ∀ {k : List Key} {i j : Int}, k.map keyD = [.int i, .int j] → k = [.inl i, .inl j]
  | [.inl a, .inl b], _, _, e => by
    simp only [List.map_cons, List.map_nil, keyD, List.cons.injEq, D.int.injEq] at e
    rw [e.1, e.2.1]
  | [.inl _, .inr _], _, _, e => by simp [keyD] at e
  | [.inr _, _], _, _, e => by simp [keyD] at e
  | [], _, _, e => by simp at e
  | [_], _, _, e => by simp at e
  | _ :: _ :: _ :: _, _, _, e => by simp at e
theorem RpT.keys2 {K : Kr} {av : Addr → Prop} {H : Hp} : ∀ {ds : List (D × D)} {kvs : List (List Key × V)} {l : List (Int × Int)}, RpT K av H ds kvs → pairsI (ds.map (·.1)) = some l → kvs.map (·.1) = l.map key2
  | _, _, _, .nil, e => by cases e; rfl
  | _, _, l, .cons (k := k) (ds := ds) _ r, e => by
    rw [List.map_cons, pairsI] at e
    split at e
    · rename_i z m e1 e2
      cases e
      rw [List.map_cons, List.map_cons, RpT.keys2 r e2]
      refine congrArg (· :: _) ?_
      have e3 := pairI_eq e1
      unfold pD at e3
      injection e3 with e3
      exact keys_two e3
    · cases e
section
variable {X : Cx} {Γ : Gm} {E : XK} {a : Expr} {p pos : Pos} {fa : Env → Res D}
theorem tn_sortDT (hm : X.mg "sorted" = none) (hc : X.calm = true) (ha : PE X a (eT Γ E fa)) (hg : Gl X "sorted" := by rfl) (he : starEach [a] X.env = (false, eval a X.env) :: starEach [] X.env := by rfl) (hv : bootBuiltins "sorted" = some (.builtin "sorted") := by decide +kernel) :
    PE X (.Call (.Name "sorted" p) [a] [] pos) (nT Γ E (app (on1 D.sortDT) (consA fa nilA))) :=
  PE.imp (pe_callB (cr_sortDT hc) hg hm hv (ta_cons ha ta_nil he) (he := he)) fun σ H Q ⟨av, ρ, env, h⟩ => aT_bind env h fun ds vs H1 x1 env1 r1 h1 => by
    cases r1 with
    | nil => exact (show False from h1).elim
    | cons r1 r2 =>
      cases r2 with
      | cons _ _ => exact (show False from h1).elim
      | nil =>
        cases r1 with
        | @dT q kvs ds g n r =>
          replace h1 : ROk Γ av H1 (fun H' d v => ∃ p, v = .ref p ∧ H p = none ∧ OwnAt Γ.kr (fun a => av a ∨ a = p) H' d p) (match pairsI (ds.map (·.1)) with | some l => .ok (.lst ((sortP l).map pD)) | none => .no) Q E := h1
          cases e : pairsI (ds.map (·.1)) with
          | none => rw [e] at h1; exact (show False from h1).elim
          | some l =>
            rw [e] at h1
            exact ⟨q, kvs, l, rfl, g, r.keys2 e, fun bs p hp prs => new_bind (β := Unit) (δ := Unit) (ρ := ρ) x1 h1 hp (paired_rp prs)⟩
        | _ => exact (show False from h1).elim
end
end Fw
end
set_option Elab.async false
set_option linter.all false
set_option autoImplicit false
set_option maxRecDepth 100000
set_option maxHeartbeats 4000000
/-! Fw44: plain reckoning with draws, the goals wrapped so that they are not reckoned out. -/
noncomputable section
namespace Fw
structure GR {α : Type} (P : α → Prop) (r : Res α) : Prop where
  run : AllOk P r
theorem GR.imp {α : Type} {P Q : α → Prop} {r : Res α} (h : GR P r) (h2 : ∀ d, P d → Q d) : GR Q r := ⟨AllOk.imp h2 h.run⟩
theorem GR.ok {α : Type} {P : α → Prop} {a : α} (h : P a) : GR P (.ok a) := ⟨h⟩
theorem GR.of {α : Type} {P : α → Prop} {r : Res α} {a : α} (e : r = .ok a) (h : P a) : GR P r := by rw [e]; exact ⟨h⟩
theorem GR.bind {α β : Type} {P : α → Prop} {Q : β → Prop} {k : α → Res β} {r : Res α} (h : GR P r) (h2 : ∀ d, P d → GR Q (k d)) : GR Q (r.bind k) := ⟨AllOk.bind (fun d hd => (h2 d hd).run) h.run⟩
theorem GR.eq {α : Type} {P : α → Prop} {r r' : Res α} (e : r = r') (h : GR P r') : GR P r := by rw [e]; exact h
theorem GR.dr {α : Type} {P : α → Prop} {n : Int} {k : Int → Res α} (h : ∀ i : Nat, (i : Int) < n → GR P (k i)) : GR P (.dr n k) := ⟨fun i h1 h2 => by
  obtain ⟨j, rfl⟩ : ∃ j : Nat, i = j := ⟨i.toNat, by omega⟩
  exact (h j h2).run⟩
structure GO (Q : SEnv → Prop) (o : Out) : Prop where
  run : AllO Q o
theorem GO.nx {Q : SEnv → Prop} {ρ : SEnv} (h : Q ρ) : GO Q (.nx ρ) := ⟨h⟩
theorem GO.of {Q : SEnv → Prop} {o : Out} {ρ : SEnv} (e : o = .nx ρ) (h : Q ρ) : GO Q o := by rw [e]; exact ⟨h⟩
theorem GO.eq {Q : SEnv → Prop} {o o' : Out} (e : o = o') (h : GO Q o') : GO Q o := by rw [e]; exact h
theorem GO.imp {P Q : SEnv → Prop} (h2 : ∀ d, P d → Q d) : ∀ {o : Out}, GO P o → GO Q o
  | .nx d, h => ⟨h2 d h.run⟩
  | .dr n j, h => ⟨fun i h1 h3 => (GO.imp h2 ⟨h.run i h1 h3⟩).run⟩
  | .ex _ _, h => h.run.elim
  | .no, h => h.run.elim
  | .rt _ _, h => h.run.elim
  | .bk _, h => h.run.elim
  | .ct _, h => h.run.elim
theorem GO.seq {P Q : SEnv → Prop} {g k : SEnv → Out} {ρ : SEnv} (h : GO P (g ρ)) (h2 : ∀ ρ, P ρ → GO Q (k ρ)) : GO Q (seqO g k ρ) := ⟨AllO.seq h.run fun ρ hp => (h2 ρ hp).run⟩
theorem GO.step {Q : SEnv → Prop} {g k : SEnv → Out} {ρ : SEnv} (ρ' : SEnv) (h : g ρ = .nx ρ') (h2 : GO Q (k ρ')) : GO Q (seqO g k ρ) := ⟨AllO.step ρ' h h2.run⟩
theorem GO.setV {Q : SEnv → Prop} {P : D → Prop} {f : Env → Res D} {i : Nat} {ρ : SEnv} (h : GR P (f ρ.vis)) (hr : isRow ρ i = false) (hq : ∀ d, P d → Q (ρ.set i (.val d))) : GO Q (bindO (f ρ.vis) fun d => setO ρ i (.val d)) := ⟨AllO.setV h.run hr hq⟩
theorem GO.bind {α : Type} {P : α → Prop} {Q : SEnv → Prop} {k : α → Out} {r : Res α} (h : GR P r) (h2 : ∀ d, P d → GO Q (k d)) : GO Q (bindO r k) := ⟨AllO.bindR (fun d hd => (h2 d hd).run) h.run⟩
theorem GO.dr {Q : SEnv → Prop} {n : Int} {k : Int → Out} (h : ∀ i, 0 ≤ i → i < n → GO Q (k i)) : GO Q (.dr n k) := ⟨fun i h1 h2 => (h i h1 h2).run⟩
theorem LawT.seqR {P : SEnv → Prop} {g k : SEnv → Out} {ρ : SEnv} (h : GO P (g ρ)) (h2 : ∀ ρ, P ρ → LawT (k ρ)) : LawT ((seqO g k) ρ) := LawT.seq h.run h2
theorem LawT.rtT {o : Out} {ρ' : SEnv} (h : o = .rt (.bl true) ρ') : LawT o := ⟨by rw [h]; exact rfl⟩
theorem LawT.seqRt {g k : SEnv → Out} {ρ ρ' : SEnv} (h : g ρ = .rt (.bl true) ρ') : LawT ((seqO g k) ρ) := ⟨by rw [seqO_eq, h]; exact rfl⟩
/-- a loop of draws over range -/
theorem GO.range {v n : Nat} {g : SEnv → Out} {Inv : Nat → SEnv → Prop} {ρ : SEnv} (hs : ∀ i ρ, i < n → Inv i ρ → isRow ρ v = false ∧ GO (Inv (i + 1)) (g (ρ.set v (.val (.int i))))) (h : Inv 0 ρ) : GO (Inv n) (loopO (.nm v) g (rangeD 0 n) ρ) :=
  ⟨loop_range (fun i ρ hi hI => ⟨(hs i ρ hi hI).1, (hs i ρ hi hI).2.run⟩) n 0 ρ (by omega) h⟩
theorem GO.forO {P : SEnv → Prop} {fi : Env → Res (List D)} {t : Tg} {g : SEnv → Out} {ρ : SEnv} {ds : List D} (h1 : fi ρ.vis = .ok ds) (h : GO P (loopO t g ds ρ)) : GO P (forO fi t g ρ) := by
  rw [forO_eq, h1, bindO_ok]
  exact h
section
variable {r : Env} {f fa ce : Env → Res D} {fs : Env → Res (List D)} {fi : Env → Res (List D)}
theorem GR.rng {Q : Nat → Prop} (hB : ∀ m, Q m → m < 1000000) (h : GR (fun d => ∃ k : Nat, d = D.int (k : Int) ∧ Q k) (f r)) : GR (fun ds => ∃ m, ds = rangeD 0 m ∧ Q m) (itL rng1L (consA f nilA) r) := by
  rw [itL_eq, consA_eq, Res.bind_assoc]
  refine h.bind fun d ⟨k, e, hq⟩ => ?_
  subst e
  rw [nilA_eq, bind_ok, bind_ok, rng1_nat (hB k hq), ofO_some]
  exact .ok ⟨k, rfl, hq⟩
theorem GR.word {i l : Nat} {Q : Nat → Prop} (hB : ∀ m, Q m → m ≤ 10000) (h1 : GR (fun ds => ∃ m, ds = rangeD 0 m ∧ Q m) (fi r)) (h2 : ∀ d, GR (fun x => ∃ v : Nat, x = D.int (v : Int) ∧ v < l) (ce ((wipeE r [i]).set i (some d)))) :
    GR (fun d => ∃ w : List Nat, d = .tup (wN w) ∧ Q w.length ∧ ∀ a ∈ w, a < l) ((app (on1 D.toTup) (consA (lcD fi (.nm i) yesB ce [i]) nilA)) r) := by
  have e : (app (on1 D.toTup) (consA (lcD fi (.nm i) yesB ce [i]) nilA)) r = (fi r).bind fun ds => if ds.length ≤ lim then (lcL (.nm i) yesB ce (wipeE r [i]) ds).bind fun x => .ok (.tup x) else .no := by
    rw [app_eq, consA_eq, lcD_eq, Res.bind_assoc, Res.bind_assoc]
    refine congrArg _ (funext fun ds => ?_)
    by_cases c : ds.length ≤ lim
    · rw [if_pos c, if_pos c, Res.bind_assoc]
      rfl
    · rw [if_neg c, if_neg c]
      rfl
  rw [e]
  refine h1.bind fun ds ⟨m, e, hq⟩ => ?_
  subst e
  rw [if_pos (by rw [rangeD_len]; exact lim_big (hB m hq))]
  have h := ints_all (P := fun v => 0 ≤ v ∧ v < (l : Int)) (lcL_all (fe := ce) (i := i) (r := wipeE r [i]) _ (rangeD 0 m) fun d _ => ((h2 d).imp fun x ⟨v, e, hv⟩ => ⟨(v : Int), e, by omega, by omega⟩).run)
  rw [rangeD_len] at h
  refine GR.bind ⟨h⟩ fun x ⟨q, e, hl, hv⟩ => .ok ?_
  refine ⟨q.map Int.toNat, ?_, by rw [List.length_map, hl]; exact hq, fun a ha => ?_⟩
  · rw [e]
    refine congrArg D.tup ?_
    unfold iL wN
    rw [List.map_map]
    refine List.map_congr_left fun v hm => ?_
    have := hv v hm
    show D.int v = D.int (v.toNat : Int)
    rw [Int.toNat_of_nonneg this.1]
  · obtain ⟨v, hm, rfl⟩ := List.mem_map.mp ha
    have := hv v hm
    omega
theorem GR.nilA : GR (fun ds => ds = []) (nilA r) := .ok rfl
theorem GR.cons {P : D → Prop} {Q : List D → Prop} (h : GR P (fa r)) (h2 : GR Q (fs r)) : GR (fun ds => ∃ d ds', ds = d :: ds' ∧ P d ∧ Q ds') (consA fa fs r) := by
  rw [consA_eq]
  exact h.bind fun d hd => h2.bind fun ds hds => .ok ⟨d, ds, rfl, hd, hds⟩
theorem GR.tup {P : List D → Prop} (hl : ∀ ds, P ds → ds.length ≤ 1000) (h : GR P (fs r)) : GR (fun d => ∃ ds, d = .tup ds ∧ P ds) (tupF fs r) := by
  rw [tupF_eq]
  refine h.bind fun ds hds => ?_
  rw [if_pos (lim_big (Nat.le_trans (hl ds hds) (by decide)))]
  exact .ok ⟨ds, rfl, hds⟩
theorem GR.app {P : List D → Prop} {Q : D → Prop} {g : List D → Res D} (h : GR P (fs r)) (h2 : ∀ ds, P ds → GR Q (g ds)) : GR Q (app g fs r) := by
  rw [app_eq]
  exact h.bind h2
theorem GR.bin {P P' Q : D → Prop} {g : D → D → Res D} {fb : Env → Res D} (h : GR P (fa r)) (h1 : GR P' (fb r)) (h2 : ∀ d e, P d → P' e → GR Q (g d e)) : GR Q (bin g fa fb r) := by
  rw [bin_eq]
  exact h.bind fun d hd => h1.bind fun e he => h2 d e hd he
end
end Fw
end
set_option Elab.async false
set_option linter.all false
set_option autoImplicit false
set_option maxRecDepth 100000
set_option maxHeartbeats 4000000
/-! Fw45: sets of nested tuples of whole numbers: what the machine asks of such a key. -/
noncomputable section
namespace Fw
open PySem PySem.Spec PyProof.Rows L2
/-! whole numbers alone at the leaves -/
mutual
def numO : NestedKey → Bool
  | .num _ => true
  | .tup ks => numOs ks
  | .none => false
  | .text _ => false
def numOs : List NestedKey → Bool
  | [] => true
  | k :: ks => numO k && numOs ks
end
/-- an answer that comes at once, and changes nothing -/
def SaysB (P : Program) (w : World) (s : Shared) (m : Sem Bool) (b : Bool) : Prop := ∀ (A : Around) (E : Value → Shared → Prop) (Q : Bool → Shared → Prop), Q b s → wpAny (model P w) A m Q E s
section
variable {P : Program} {w : World} {s : Shared}
theorem SaysB.pure {m : Sem Bool} {b : Bool} (h : m = Pure.pure b) : SaysB P w s m b := fun A E Q q => by rw [h]; exact wpAny_pure q
/-- a loop of questions that all are answered by no -/
theorem SaysB.loop {q : Value → Sem Bool} {r e : Bool} {vs : Array Value} (h : ∀ v ∈ vs.toList, SaysB P w s (q v) (!r)) :
    SaysB P w s (do for v in vs do { if (← q v) == r then return e }; return (!e)) (!e) := fun A E Q hq => by
  refine wpAny_bind ?_
  show wpAny _ _ (forIn vs _ _) _ _ s
  rw [← Array.forIn_toList]
  refine wpAny_forIn_list _ (fun rest z s' => z.1 = none ∧ s' = s ∧ ∀ v ∈ rest, SaysB P w s (q v) (!r)) _ ?_ ?_ _ _ ⟨rfl, rfl, h⟩
  · rintro v rest z s' ⟨hz, rfl, hall⟩
    refine wpAny_bind (hall v List.mem_cons_self _ _ _ ?_)
    have : ((!r) == r) = false := by cases r <;> rfl
    rw [this]
    exact wpAny_pure ⟨rfl, rfl, fun u hu => hall u (List.mem_cons_of_mem _ hu)⟩
  · rintro ⟨z1, z2⟩ s' ⟨hz, rfl, _⟩
    simp only at hz
    subst hz
    exact wpAny_pure hq
mutual
theorem hash_by : ∀ (k : NestedKey) (v : Value) (n : Nat), numO k = true → NestedIs s.heap k v → k.depth ≤ n → SaysB P w s (hashByValue n v) true
  | .num i, _, n, _, x, _ => by cases x <;> exact .pure (by cases n <;> rfl)
  | .none, _, _, z, _, _ => by cases z
  | .text _, _, _, z, _, _ => by cases z
  | .tup ks, _, 0, _, _, hn => by simp [NestedKey.depth] at hn
  | .tup ks, _, n + 1, hk, .tup (a := a) (vs := vs) ho hc hd x, hn => fun A E Q q => by
    have hT : s.TypeIs (.ref a) "tuple" := ⟨_, ho, hc⟩
    rw [numO] at hk
    simp only [NestedKey.depth] at hn
    have all := hash_bys ks vs.toList n hk x (by omega)
    unfold hashByValue
    refine wpAny_bind (wpAny_specialOf hT F.slot_tuple_hash.lookup ?_)
    refine wpAny_bind (wpAny_seqItems ho hd ?_)
    refine wpAny_bind ?_
    show wpAny _ _ (forIn vs _ _) _ _ s
    rw [← Array.forIn_toList]
    refine wpAny_forIn_list _ (fun rest z s' => z.1 = none ∧ s' = s ∧ ∀ v ∈ rest, SaysB P w s (hashByValue n v) true) _ ?_ ?_ _ _ ⟨rfl, rfl, all⟩
    · rintro v rest z s' ⟨hz, rfl, hall⟩
      refine wpAny_bind (hall v List.mem_cons_self _ _ _ ?_)
      exact wpAny_pure ⟨rfl, rfl, fun u hu => hall u (List.mem_cons_of_mem _ hu)⟩
    · rintro ⟨z1, z2⟩ s' ⟨hz, rfl, _⟩
      simp only at hz
      subst hz
      exact wpAny_pure q
theorem hash_bys : ∀ (ks : List NestedKey) (vs : List Value) (n : Nat), numOs ks = true → NestedAll s.heap ks vs → NestedKey.depthAll ks ≤ n → ∀ v ∈ vs, SaysB P w s (hashByValue n v) true
  | [], _, _, _, .nil, _, v, hv => by cases hv
  | k :: ks, _, n, hk, .cons x1 x2, hn, v, hv => by
    rw [numOs, Bool.and_eq_true] at hk
    simp only [NestedKey.depthAll] at hn
    rcases List.mem_cons.mp hv with e | hv
    · rw [e]; exact hash_by k _ n hk.1 x1 (by omega)
    · exact hash_bys ks _ n hk.2 x2 (by omega) v hv
end
mutual
theorem no_class : ∀ (k : NestedKey) (v : Value) (n : Nat), numO k = true → NestedIs s.heap k v → k.depth ≤ n → SaysB P w s (ofAClassStatement n v) false
  | .num i, _, n, _, x, _ => by cases x <;> exact .pure (by cases n <;> rfl)
  | .none, _, _, z, _, _ => by cases z
  | .text _, _, _, z, _, _ => by cases z
  | .tup ks, _, 0, _, _, hn => by simp [NestedKey.depth] at hn
  | .tup ks, _, n + 1, hk, .tup (a := a) (vs := vs) ho hc hd x, hn => fun A E Q q => by
    have hT : s.TypeIs (.ref a) "tuple" := ⟨_, ho, hc⟩
    rw [numO] at hk
    simp only [NestedKey.depth] at hn
    have all := no_classes ks vs.toList n hk x (by omega)
    unfold ofAClassStatement
    refine wpAny_bind (wpAny_typeOf hT ?_)
    refine wpAny_bind (wpAny_pure ?_)
    show wpAny _ _ (seqItems? (.ref a) >>= _) _ _ s
    refine wpAny_bind (wpAny_seqItems ho hd ?_)
    refine wpAny_bind ?_
    show wpAny _ _ (forIn vs _ _) _ _ s
    rw [← Array.forIn_toList]
    refine wpAny_forIn_list _ (fun rest z s' => z.1 = none ∧ s' = s ∧ ∀ v ∈ rest, SaysB P w s (ofAClassStatement n v) false) _ ?_ ?_ _ _ ⟨rfl, rfl, all⟩
    · rintro v rest z s' ⟨hz, rfl, hall⟩
      refine wpAny_bind (hall v List.mem_cons_self _ _ _ ?_)
      exact wpAny_pure ⟨rfl, rfl, fun u hu => hall u (List.mem_cons_of_mem _ hu)⟩
    · rintro ⟨z1, z2⟩ s' ⟨hz, rfl, _⟩
      simp only at hz
      subst hz
      exact wpAny_pure q
theorem no_classes : ∀ (ks : List NestedKey) (vs : List Value) (n : Nat), numOs ks = true → NestedAll s.heap ks vs → NestedKey.depthAll ks ≤ n → ∀ v ∈ vs, SaysB P w s (ofAClassStatement n v) false
  | [], _, _, _, .nil, _, v, hv => by cases hv
  | k :: ks, _, n, hk, .cons x1 x2, hn, v, hv => by
    rw [numOs, Bool.and_eq_true] at hk
    simp only [NestedKey.depthAll] at hn
    rcases List.mem_cons.mp hv with e | hv
    · rw [e]; exact no_class k _ n hk.1 x1 (by omega)
    · exact no_classes ks _ n hk.2 x2 (by omega) v hv
end
/-- a key of such a set -/
structure NKey (h : Heap) (k : NestedKey) (a : Addr) : Prop where
  is : NestedIs h k (.ref a)
  num : numO k = true
  dep : k.depth ≤ 8
theorem NKey.at {h h' : Heap} {k : NestedKey} {a : Addr} (x : NKey h k a) (e : ∀ b o vs n, h.get? b = some o → o.data = .seq vs n → h'.get? b = some o) : NKey h' k a := ⟨NestedIs.at e _ _ x.is, x.num, x.dep⟩
/-- nobody can see a search among such -/
theorem unseen {x : Addr} {k : NestedKey} (hx : NKey s.heap k x) : ∀ (ys : List Value), (∀ y ∈ ys, ∃ k' b, y = .ref b ∧ NKey s.heap k' b) → SaysB P w s (searchCouldBeSeen (.ref x) ys) false := fun ys hy A E Q q => by
  unfold searchCouldBeSeen
  refine wpAny_bind ?_
  refine wpAny_forIn_list _ (fun rest z s' => z.1 = none ∧ s' = s ∧ ∀ y ∈ rest, ∃ k' b, y = .ref b ∧ NKey s.heap k' b) _ ?_ ?_ _ _ ⟨rfl, rfl, hy⟩
  · rintro v rest z s' ⟨hz, rfl, hall⟩
    obtain ⟨k', b, rfl, hb⟩ := hall v List.mem_cons_self
    have next : z.1 = none ∧ s' = s' ∧ ∀ y ∈ rest, ∃ k' b, y = Value.ref b ∧ NKey s'.heap k' b := ⟨hz, rfl, fun u hu => hall u (List.mem_cons_of_mem _ hu)⟩
    by_cases c : (x == b) = true
    · simp only [c, Bool.true_or, if_true]
      exact wpAny_pure ⟨rfl, rfl, next.2.2⟩
    · simp only [c, carriedByValue, Bool.false_and, Bool.or_false, Bool.false_eq_true, if_false]
      refine wpAny_bind (quiet_key k _ 8 s' hx.is hx.dep _ _ _ ?_)
      refine wpAny_bind (quiet_key k' _ 8 s' hb.is hb.dep _ _ _ ?_)
      refine wpAny_bind (no_class k _ 8 hx.num hx.is hx.dep _ _ _ ?_)
      refine wpAny_bind (no_class k' _ 8 hb.num hb.is hb.dep _ _ _ ?_)
      exact wpAny_pure ⟨rfl, rfl, next.2.2⟩
  · rintro ⟨z1, z2⟩ s' ⟨hz, rfl, _⟩
    simp only at hz
    subst hz
    exact wpAny_pure q
end
end Fw
end
set_option Elab.async false
set_option linter.all false
set_option autoImplicit false
set_option maxRecDepth 100000
set_option maxHeartbeats 4000000
/-! Fw46: sets of nested tuples of whole numbers: the search. -/
noncomputable section
namespace Fw
open PySem PySem.Spec PyProof.Rows L2
/-- what stands in the set's object: keys and their objects in the table's sequence -/
structure SetN (P : Program) (w : World) (h : Heap) (a : Addr) (L : List (Addr × NestedKey)) (es : Array (Int × Value)) (ep : Nat) (t : SetTable) : Prop where
  ob : ∃ o, h.get? a = some o ∧ o.ExactSet ∧ o.data = .set es ep t
  rows : es.toList = L.map fun p => (p.2.hash w, Value.ref p.1)
  tab : TabOk t (L.map fun p => p.2.hash w)
  nd : (L.map (·.2)).Nodup
  key : ∀ p ∈ L, NKey h p.2 p.1
  led : w.params.followText "set-order" = true ∨ t.led = true
  room : L.length * 5 < t.mask * 3
  few : L.length < 64
section
variable {P : Program} {w : World} {A : Around} {E : Value → Shared → Prop} {s : Shared} {a x : Addr} {L : List (Addr × NestedKey)} {es : Array (Int × Value)} {ep : Nat} {t : SetTable} {k : NestedKey}
theorem SetN.size (R : SetN P w s.heap a L es ep t) : es.size = L.length := by
  have h := congrArg List.length R.rows
  rwa [Array.length_toList, List.length_map] at h
theorem SetN.fits (R : SetN P w s.heap a L es ep t) : t.fits es.size = true := by
  have h1 := R.tab.sz
  have h3 := R.room
  rw [List.length_map] at h1
  simp only [SetTable.fits, SetTable.fill, R.tab.dm, R.size, h1, Bool.and_eq_true, beq_self_eq_true, decide_eq_true_eq, true_and]
  show L.length + 0 ≤ t.mask
  omega
theorem SetN.at_ (R : SetN P w s.heap a L es ep t) {i : Nat} {p : Addr × NestedKey} (h : L[i]? = some p) : es[i]? = some (p.2.hash w, Value.ref p.1) := by
  rw [← Array.getElem?_toList, R.rows, List.getElem?_map, h]
  rfl
theorem SetN.there (R : SetN P w s.heap a L es ep t) {i j : Nat} (h : t.place.toList[i]? = some j) : ∃ p, L[i]? = some p := by
  have h1 := (List.getElem?_eq_some_iff.mp h).1
  have h2 := R.tab.sz
  rw [List.length_map] at h2
  rw [Array.length_toList] at h1
  exact ⟨L[i]'(by omega), List.getElem?_eq_getElem (by omega)⟩
theorem nth_dummy (m : Nat) : ∀ (c : Nat) (p : SetTable.Probe), p.dummy = none → (nth m p c).dummy = none
  | 0, p, h => h
  | c + 1, p, h => by
    rw [nth_succ]
    have ih := nth_dummy m c p h
    unfold adv
    split <;> exact ih
abbrev way0 (t : SetTable) (h : Int) : SetTable.Probe := runAt t.mask (SetTable.bits h % (t.mask + 1)) (SetTable.bits h)
theorem search_go (R : SetN P w s.heap a L es ep t) (hx : NKey s.heap k x) (hu : A.units + 8 < cLine) {K : Nat} (hKf : K < 10 * SetTable.turns t.mask) (hK : way t.mask (k.hash w) K ∉ t.place.toList) (hKb : ∀ c, c < K → way t.mask (k.hash w) c ∈ t.place.toList) {Q : SetFound → Shared → Prop}
    (hin : k ∈ L.map (·.2) → Q (.there none) s) (hout : k ∉ L.map (·.2) → Q (.free (way t.mask (k.hash w) K) false) s) :
    ∀ (f c : Nat) (stand : Option SetTable.Probe), K - c < f → c ≤ K → stand.getD (t.probeStart (k.hash w)) = nth t.mask (way0 t (k.hash w)) c →
      (∀ (c' i : Nat) (p : Addr × NestedKey), c' < c → t.place.toList[i]? = some (way t.mask (k.hash w) c') → L[i]? = some p → p.2 ≠ k) →
      wpAny (model P w) A (setSearchFrom a (.ref x) (k.hash w) true f stand) Q E s := by
  obtain ⟨o, ho, hex, hd⟩ := R.ob
  have gw : t.gaveWay = false := by
    unfold SetTable.gaveWay
    rw [mask_odd R.tab.mok]
    rfl
  have wy : ∀ c j, (nth t.mask (nth t.mask (way0 t (k.hash w)) c) j).j = way t.mask (k.hash w) (c + j) := fun c j => by
    rw [← nth_add]
  intro f
  induction f with
  | zero => exact fun c stand h => absurd h (Nat.not_lt_zero _)
  | succ f ih =>
    intro c stand hf hc hst inv
    have pr : ∀ m, SetTable.probe.go t (fun i => (es[i]?.map (·.1)).getD 0) (k.hash w) (10 * SetTable.turns t.mask) (nth t.mask (way0 t (k.hash w)) c) = m → t.probe (fun i => (es[i]?.map (·.1)).getD 0) (k.hash w) (stand.getD (t.probeStart (k.hash w))) = m := fun m e => by
      rw [hst]
      exact e
    have hashAt : ∀ (i : Nat) (p : Addr × NestedKey), L[i]? = some p → (es[i]?.map (·.1)).getD 0 = p.2.hash w := fun i p h => by
      rw [R.at_ h]
      rfl
    rw [setSearchFrom_succ]
    refine wpAny_bind (wpAny_setState_of ho hd R.fits ?_)
    rcases go_spec t R.tab.ris R.tab.dm (fun i => (es[i]?.map (·.1)).getD 0) (k.hash w) (10 * SetTable.turns t.mask) (K - c) (nth t.mask (way0 t (k.hash w)) c) (nth_dummy _ _ _ rfl) (by omega) (fun j hj => by
        rw [wy]
        exact hKb _ (by omega)) (by
        rw [wy]
        have : c + (K - c) = K := by omega
        rw [this]
        exact hK) with ⟨j, i, hj, hpl, hh, hbef, e⟩ | ⟨hbef, e⟩
    · have e := pr _ e
      rw [wy] at hpl e
      obtain ⟨p, hp⟩ := R.there hpl
      have hnext : nth t.mask (nth t.mask (way0 t (k.hash w)) c) (j + 1) = nth t.mask (way0 t (k.hash w)) (c + j + 1) := by
        rw [← nth_add]
        rfl
      rw [hnext] at e
      have hb := R.key p (List.mem_of_getElem? hp)
      simp only [gw, e, Bool.false_eq_true, if_false]
      have rest : wpAny (model P w) A (searchRest a (.ref x) (k.hash w) true f es t (way t.mask (k.hash w) (c + j)) i (nth t.mask (way0 t (k.hash w)) (c + j + 1))) Q E s := by
        unfold searchRest
        simp only [R.at_ hp]
        refine wpAny_bind (wpAny_holding ((nestedKind P w).eqBool hu ⟨hb.is, hb.dep⟩ ⟨hx.is, hx.dep⟩ ?_))
        refine wpAny_bind (wpAny_setState_of ho hd R.fits ?_)
        by_cases ck : p.2 = k
        · simp only [ck, decide_true, Bool.and_true, if_true]
          exact wpAny_pure (hin (List.mem_map.mpr ⟨p, List.mem_of_getElem? hp, ck⟩))
        · simp only [decide_eq_false ck, Bool.and_false, Bool.false_eq_true, if_false, sameMem, if_true, slot_live R.tab.ris hpl, R.at_ hp]
          refine wpAny_bind (wpAny_isSame_ref_self (wpAny_bind (wpAny_pure ?_)))
          simp only [if_true]
          refine ih (c + j + 1) (some _) (by omega) (by omega) rfl fun c' i' p' hc' h1 h2 => ?_
          by_cases e1 : c' < c
          · exact inv c' i' p' e1 h1 h2
          · by_cases e2 : c' < c + j
            · intro z
              refine hbef (c' - c) i' (by omega) ?_ ?_
              · rw [wy]
                have : c + (c' - c) = c' := by omega
                rw [this]
                exact h1
              · show (es[i']?.map (·.1)).getD 0 = _
                rw [hashAt i' p' h2, z]
            · have e3 : c' = c + j := by omega
              subst e3
              have e4 := slot_live R.tab.ris hpl
              rw [slot_live R.tab.ris h1] at e4
              injection e4 with e4
              subst e4
              rw [hp] at h2
              cases h2
              exact ck
      by_cases cl : t.led = true
      · simp only [cl, Bool.not_true, Bool.false_eq_true, if_false]
        exact rest
      · simp only [cl, Bool.not_false, if_true]
        refine wpAny_bind (unseen hx _ (fun y hy => ?_) _ _ _ ?_)
        · obtain ⟨e, he, rfl⟩ := List.mem_map.mp hy
          have he := (Array.mem_filter.mp (Array.mem_toList_iff.mp he)).1
          have he := Array.mem_toList_iff.mpr he
          rw [R.rows] at he
          obtain ⟨q, hq, rfl⟩ := List.mem_map.mp he
          exact ⟨_, _, rfl, R.key q hq⟩
        · simp only [Bool.false_eq_true, if_false]
          exact rest
    · have e := pr _ e
      have : c + (K - c) = K := by omega
      rw [wy, this] at e
      simp only [gw, e, Bool.false_eq_true, if_false]
      refine wpAny_pure (hout fun z => ?_)
      obtain ⟨p, hp, ek⟩ := List.mem_map.mp z
      obtain ⟨i, hi, ei⟩ := List.getElem_of_mem hp
      have hp' : L[i]? = some p := by rw [List.getElem?_eq_getElem hi, ei]
      have hs : t.place.toList[i]? = some (t.place.toList[i]'(by
          have h2 := R.tab.sz
          rw [List.length_map] at h2
          rw [Array.length_toList]
          omega)) := List.getElem?_eq_getElem _
      obtain ⟨k0, h1, h2⟩ := R.tab.before (h := k.hash w) hK (i := i) (by rw [List.getElem?_map, hp']; simp [ek]) hs
      rw [← h2] at hs
      by_cases e1 : k0 < c
      · exact inv k0 i p e1 hs hp' ek
      · refine hbef (k0 - c) i (by omega) ?_ ?_
        · rw [wy]
          have : c + (k0 - c) = k0 := by omega
          rw [this]
          exact hs
        · show (es[i]?.map (·.1)).getD 0 = _
          rw [hashAt i p hp', ek]
end
end Fw
end
set_option Elab.async false
set_option linter.all false
set_option autoImplicit false
set_option maxRecDepth 100000
set_option maxHeartbeats 4000000
/-! Fw47: sets of nested tuples of whole numbers: one more. -/
noncomputable section
namespace Fw
open PySem PySem.Spec PyProof.Rows L2
abbrev rowK (w : World) (p : Addr × NestedKey) : Int × Value := (p.2.hash w, Value.ref p.1)
/-- picked by places -/
theorem picks_all {α : Type} (L : List α) : (List.range L.length).filterMap (fun i => L[i]?) = L := by
  have e : (List.range L.length).map (fun i => L[i]?) = L.map some := by
    refine List.ext_getElem (by simp) fun i h1 h2 => ?_
    simp at h1
    simp [h1]
  have e2 : (List.range L.length).filterMap (fun i => L[i]?) = ((List.range L.length).map (fun i => L[i]?)).filterMap id := by rw [List.filterMap_map]; rfl
  rw [e2, e, List.filterMap_map]
  exact List.filterMap_some
theorem picks_map {α β : Type} (g : α → β) (b : β) (L : List α) (hs : List β) (e : hs = L.map g) : ∀ o : List Nat, (∀ i ∈ o, i < L.length) → o.map (fun i => hs.getD i b) = (o.filterMap (fun i => L[i]?)).map g
  | [], _ => rfl
  | i :: o, h => by
    have ih := picks_map g b L hs e o fun j hj => h j (List.mem_cons_of_mem _ hj)
    have hi := h i List.mem_cons_self
    have h1 : hs.getD i b = g L[i] := by
      rw [e]
      simp [List.getD, hi]
    rw [List.map_cons, ih, h1, List.filterMap_cons, List.getElem?_eq_getElem hi]
    rfl
section
variable {P : Program} {w : World} {A : Around} {E : Value → Shared → Prop} {s : Shared} {a x : Addr} {L : List (Addr × NestedKey)} {es : Array (Int × Value)} {ep : Nat} {t : SetTable} {k : NestedKey}
theorem seq_keep {h h' : Heap} {o : Obj} (ho : h.get? a = some o) (hd : o.data = .set es ep t) (hs : Heap.SameBut a h h') : ∀ b o' vs n, h.get? b = some o' → o'.data = .seq vs n → h'.get? b = some o' := fun b o' vs n g e => (hs.2 b fun z => by
  subst z
  rw [ho] at g
  cases g
  rw [hd] at e
  cases e).trans g
/-- the table laid anew -/
theorem relay_n {o : Obj} {wanted M : Nat} (ho : s.heap.get? a = some o) (hex : o.ExactSet) (hd : o.data = .set es ep t) (rows : es.toList = L.map (rowK w)) (tab : TabOk t (L.map fun p => p.2.hash w)) (hfit : L.length ≤ t.mask)
    (nd : (L.map (·.2)).Nodup) (key : ∀ p ∈ L, NKey s.heap p.2 p.1) (led : w.params.followText "set-order" = true ∨ t.led = true) (few : L.length < 64) (hw : SetTable.sizeAbove wanted - 1 = M) (hM : MaskOk M) (hroom : L.length * 5 < M * 3) {Q : Unit → Shared → Prop}
    (h : ∀ h' L' es' ep' t', Heap.SameBut a s.heap h' → SetN P w h' a L' es' ep' t' → L'.Perm L → Q () { s with heap := h' }) : wpAny (model P w) A (setRelay a wanted) Q E s := by
  have hsz : es.size = L.length := by
    have h := congrArg List.length rows
    rwa [Array.length_toList, List.length_map] at h
  have hfits : t.fits es.size = true := by
    have h1 := tab.sz
    rw [List.length_map] at h1
    simp only [SetTable.fits, SetTable.fill, tab.dm, hsz, h1, Bool.and_eq_true, beq_self_eq_true, decide_eq_true_eq, true_and]
    show L.length + 0 ≤ t.mask
    omega
  have hM2 : M ≤ 127 := by rcases hM with e | e | e <;> omega
  obtain ⟨t', order, e, pm, tb, m1, m2, _, m4⟩ := relaid_ok t (hs := es.map (·.1)) hw hM (by rw [Array.size_map, hsz]; omega)
  rw [Array.size_map, hsz] at pm
  have lt : ∀ i ∈ order.toList, i < L.length := fun i hi => List.mem_range.mp (pm.mem_iff.mp hi)
  have hhs : (es.map (·.1)).toList = L.map fun p => p.2.hash w := by rw [Array.toList_map, rows, List.map_map]; rfl
  have ees : (order.filterMap (fun i => es[i]?)).toList = (order.toList.filterMap fun i => L[i]?).map (rowK w) := by
    rw [Array.toList_filterMap, List.map_filterMap]
    refine congrArg (fun f => List.filterMap f order.toList) (funext fun i => ?_)
    rw [← Array.getElem?_toList, rows, List.getElem?_map]
  have pmL : (order.toList.filterMap fun i => L[i]?).Perm L := by
    have := pm.filterMap (fun i => L[i]?)
    rwa [picks_all] at this
  have esz : (order.filterMap (fun i => es[i]?)).size = es.size := by
    rw [← Array.length_toList, ees, List.length_map, pmL.length_eq, hsz]
  rw [setRelay_eq]
  refine wpAny_bind (wpAny_setState_of ho hd hfits ?_)
  have big : ¬ SetTable.sizeAbove wanted > sizeLine := by rw [sizeLine_eq]; omega
  simp only [big, if_false]
  rw [show t.relaid (Array.map (fun x => x.1) es) wanted = some (t', order) from e]
  have nsz : ((order.filterMap (fun i => es[i]?)).size != es.size) = false := by simp [esz]
  simp only [nsz, Bool.false_eq_true, if_false]
  refine wpAny_bind (wpAny_pure (wpAny_storeSet_of ho hd (h _ (order.toList.filterMap fun i => L[i]?) (order.filterMap (fun i => es[i]?)) (ep + 1) t' ?_ ?_ pmL) (by rw [esz, hsz, sizeLine_eq]; omega)))
  · exact Heap.SameBut.update ..
  · refine ⟨⟨_, store_at ho hd, hex, rfl⟩, ees, ?_, (pmL.map (·.2)).nodup_iff.mpr nd, fun p hp => ?_, by rw [m2]; exact led, by rw [pmL.length_eq, m1]; exact hroom, by rw [pmL.length_eq]; exact few⟩
    · have := picks_map (fun p : Addr × NestedKey => p.2.hash w) 0 L (es.map (·.1)).toList hhs order.toList lt
      rw [← this]
      have e2 : (fun i => (es.map (·.1)).toList.getD i 0) = fun i => (es.map (·.1)).getD i 0 := funext fun i => by
        rw [Array.getD_eq_getD_getElem?, List.getD_eq_getElem?_getD, Array.getElem?_toList]
      rw [e2]
      exact tb
    · exact (key p (pmL.mem_iff.mp hp)).at (seq_keep ho hd (Heap.SameBut.update ..))
theorem SameBut.both {a : Addr} {h h1 h2 : Heap} (x : Heap.SameBut a h h1) (y : Heap.SameBut a h1 h2) : Heap.SameBut a h h2 := ⟨y.1.trans x.1, fun b n => (y.2 b n).trans (x.2 b n)⟩
theorem add_n (R : SetN P w s.heap a L es ep t) (hx : NKey s.heap k x) (hu : A.units + 8 < cLine) (hfew : L.length + 1 < 64) {Q : Bool → Shared → Prop}
    (h : ∀ b h' L' es' ep' t', Heap.SameBut a s.heap h' → SetN P w h' a L' es' ep' t' → (k ∈ L.map (·.2) → L' = L) → (k ∉ L.map (·.2) → L'.Perm ((x, k) :: L)) → Q b { s with heap := h' }) :
    wpAny (model P w) A (setAddHashed a (.ref x) (k.hash w)) Q E s := by
  obtain ⟨o, ho, hex, hd⟩ := R.ob
  have hl : (L.map fun p => p.2.hash w).length ≤ t.mask := by
    rw [List.length_map]
    have := R.room
    omega
  obtain ⟨K, hKf, hK, hKb⟩ := R.tab.first hl (k.hash w)
  have hKs : K < 100000 := by
    rcases R.tab.mok with e | e | e <;> rw [e] at hKf <;> unfold SetTable.turns at hKf <;> omega
  unfold setAddHashed
  refine wpAny_holding ?_
  rw [show (100000 : Nat) = 99999 + 1 from rfl, setAddHashedIn_succ]
  refine wpAny_bind (wpAny_setState_of ho hd R.fits ?_)
  have nb : byScan (.ref x) es = false := rfl
  simp only [nb, Bool.false_eq_true, if_false]
  refine wpAny_bind (search_go R hx hu hKf hK hKb (fun hin => ?_) (fun hout => ?_) 100000 0 none (by omega) (Nat.zero_le _) rfl (fun c' i p hc' => absurd hc' (Nat.not_lt_zero _)))
  · exact wpAny_pure (h false s.heap L es ep t (Heap.SameBut.refl _ _) R (fun _ => rfl) fun z => absurd hin z)
  · obtain ⟨p1, p2, tb, m1, m2, m3, _, _, m6⟩ := R.tab.put hK hKb
    rw [List.length_map] at p2 m6
    refine wpAny_bind (wpAny_setState_of ho hd R.fits ?_)
    generalize hslot : SetTable.below t.place (way t.mask (k.hash w) K) = pl at *
    generalize hput : t.put (way t.mask (k.hash w) K) = pt at *
    obtain ⟨t1, pl'⟩ := pt
    simp only at p1 tb m1 m2 m3 m6
    subst p1
    have byv : ∀ kk : Bool → Sem Bool, wpAny (model P w) A (kk true) Q E s → wpAny (model P w) A (if t1.plain = true then hashByValue 8 (.ref x) >>= kk else pure true >>= kk) Q E s := fun kk q => by
      by_cases c : t1.plain = true
      · rw [if_pos c]
        exact wpAny_bind (hash_by k _ 8 hx.num hx.is hx.dep _ _ _ q)
      · rw [if_neg c]
        exact wpAny_bind (wpAny_pure q)
    dsimp only
    refine byv _ ?_
    simp only [if_true]
    have hsz := R.size
    have erow : (SetTable.insertAt es pl' (k.hash w, Value.ref x)).toList = (L.take pl' ++ (x, k) :: L.drop pl').map (rowK w) := by
      rw [SetTable.toList_insertAt, R.rows, List.map_append, List.map_cons, List.map_take, List.map_drop]
    have esz : (SetTable.insertAt es pl' (k.hash w, Value.ref x)).size = L.length + 1 := by
      rw [← Array.length_toList, erow, List.length_map, List.length_append, List.length_cons, List.length_take, List.length_drop]
      omega
    have pm : (L.take pl' ++ (x, k) :: L.drop pl').Perm ((x, k) :: L) := by
      refine List.perm_middle.trans (List.Perm.cons _ ?_)
      rw [List.take_append_drop]
    have plen : (L.take pl' ++ (x, k) :: L.drop pl').length = L.length + 1 := pm.length_eq
    have nd : ((L.take pl' ++ (x, k) :: L.drop pl').map (·.2)).Nodup := (pm.map (·.2)).nodup_iff.mpr (by
      rw [List.map_cons, List.nodup_cons]
      exact ⟨hout, R.nd⟩)
    have tb' : TabOk t1 ((L.take pl' ++ (x, k) :: L.drop pl').map fun p => p.2.hash w) := by
      rw [List.map_append, List.map_cons, List.map_take, List.map_drop]
      exact tb
    refine wpAny_bind (wpAny_storeSet_of ho hd ?_ (by rw [esz, sizeLine_eq]; omega))
    have hsb := Heap.SameBut.update s.heap a (Obj.putSet (SetTable.insertAt es pl' (k.hash w, Value.ref x)) t1)
    have hoN := store_at (es' := SetTable.insertAt es pl' (k.hash w, Value.ref x)) (t' := t1) ho hd
    have key' : ∀ p ∈ L.take pl' ++ (x, k) :: L.drop pl', NKey (s.heap.update a (Obj.putSet (SetTable.insertAt es pl' (k.hash w, Value.ref x)) t1)) p.2 p.1 := fun p hp => by
      refine NKey.at ?_ (seq_keep ho hd hsb)
      rcases List.mem_cons.mp (pm.mem_iff.mp hp) with e | hp
      · rw [e]; exact hx
      · exact R.key p hp
    by_cases full : t1.tooFull = true
    · simp only [full, Bool.not_false, Bool.and_true, if_true]
      have hf : (L.length + 1) * 5 ≥ t.mask * 3 := by
        have := of_decide_eq_true full
        rw [m6, m1] at this
        exact this
      have hr := R.room
      have fin : ∀ M, SetTable.sizeAbove (SetTable.grown (L.length + 1)) - 1 = M → MaskOk M → (L.length + 1) * 5 < M * 3 → wpAny (model P w) A (setRelay a (SetTable.grown (es.size + 1)) >>= fun _ => pure true) Q E { s with heap := s.heap.update a (Obj.putSet (SetTable.insertAt es pl' (k.hash w, Value.ref x)) t1) } := fun M hw hM hro => by
        rw [hsz]
        refine wpAny_bind (relay_n (s := { s with heap := s.heap.update a (Obj.putSet (SetTable.insertAt es pl' (k.hash w, Value.ref x)) t1) }) (L := L.take pl' ++ (x, k) :: L.drop pl') (t := t1) hoN hex rfl erow tb' (by rw [plen, m1]; omega) nd key' (by rw [m2]; exact R.led) (by rw [plen]; omega) hw hM (by rw [plen]; exact hro) fun h' L' es' ep' t' s1 R' pm' => ?_)
        exact wpAny_pure (h true h' L' es' ep' t' (SameBut.both hsb s1) R' (fun z => absurd z hout) fun _ => pm'.trans pm)
      rcases R.tab.mok with e | e | e
      · have e5 : L.length + 1 = 5 := by omega
        exact fin 31 (by rw [e5, size_20]) (.inr (.inl rfl)) (by omega)
      · have e19 : L.length + 1 = 19 := by omega
        exact fin 127 (by rw [e19, size_76]) (.inr (.inr rfl)) (by omega)
      · omega
    · have full' : t1.tooFull = false := by simpa using full
      simp only [full', Bool.and_false, Bool.false_eq_true, if_false]
      refine wpAny_pure (h true _ _ _ (ep + 1) t1 hsb ⟨⟨_, hoN, hex, rfl⟩, erow, tb', nd, key', by rw [m2]; exact R.led, ?_, by rw [plen]; omega⟩ (fun z => absurd z hout) fun _ => pm)
      have : ¬ t1.fill * 5 ≥ t1.mask * 3 := of_decide_eq_false full'
      rw [m6, m1] at this
      rw [plen, m1]
      omega
end
end Fw
end
set_option Elab.async false
set_option linter.all false
set_option autoImplicit false
set_option maxRecDepth 100000
set_option maxHeartbeats 4000000
/-! Fw48: set(l) of a list or a tuple of nested tuples of whole numbers. -/
noncomputable section
namespace Fw
open PySem PySem.Spec PyProof.Rows L2
/-- what has come in after so many -/
structure Had (ks : List (Addr × NestedKey)) (i : Nat) (L : List (Addr × NestedKey)) : Prop where
  sub : ∀ p ∈ L, p ∈ ks
  all : ∀ p ∈ ks.take i, p.2 ∈ L.map (·.2)
  only : ∀ q ∈ L.map (·.2), q ∈ (ks.take i).map (·.2)
  len : L.length ≤ i
theorem Had.next {ks L L' : List (Addr × NestedKey)} {i : Nat} {p : Addr × NestedKey} (g : Had ks i L) (h : ks[i]? = some p) (h1 : p.2 ∈ L.map (·.2) → L' = L) (h2 : p.2 ∉ L.map (·.2) → L'.Perm (p :: L)) : Had ks (i + 1) L' := by
  have hm := List.mem_of_getElem? h
  have tk : ks.take (i + 1) = ks.take i ++ [p] := by rw [List.take_succ, h]; rfl
  by_cases c : p.2 ∈ L.map (·.2)
  · rw [h1 c]
    refine ⟨g.sub, fun q hq => ?_, fun q hq => ?_, by have := g.len; omega⟩
    · rw [tk] at hq
      rcases List.mem_append.mp hq with hq | hq
      · exact g.all q hq
      · rw [List.mem_singleton.mp hq]; exact c
    · rw [tk, List.map_append]
      exact List.mem_append_left _ (g.only q hq)
  · have pm := h2 c
    have mm : ∀ q, q ∈ L'.map (·.2) ↔ q = p.2 ∨ q ∈ L.map (·.2) := fun q => by
      rw [(pm.map (·.2)).mem_iff, List.map_cons, List.mem_cons]
    refine ⟨fun q hq => ?_, fun q hq => ?_, fun q hq => ?_, by rw [pm.length_eq]; have := g.len; simp; omega⟩
    · rcases List.mem_cons.mp (pm.mem_iff.mp hq) with e | hq
      · rw [e]; exact hm
      · exact g.sub q hq
    · rw [mm]
      rw [tk] at hq
      rcases List.mem_append.mp hq with hq | hq
      · exact .inr (g.all q hq)
      · rw [List.mem_singleton.mp hq]; exact .inl rfl
    · rw [tk, List.map_append]
      rcases (mm q).mp hq with e | hq
      · rw [e]; exact List.mem_append_right _ (List.mem_singleton_self _)
      · exact List.mem_append_left _ (g.only q hq)
section
variable {P : Program} {w : World} {A : Around} {E : Value → Shared → Prop} {s : Shared} {S l : Addr} {ks : List (Addr × NestedKey)}
/-- all that stood stands; the set's object holds what has come -/
structure Mid (P : Program) (w : World) (h0 : Heap) (S : Addr) (ks : List (Addr × NestedKey)) (i : Nat) (h : Heap) : Prop where
  keep : ∀ b o, h0.get? b = some o → h.get? b = some o
  set : ∃ L es ep t, SetN P w h S L es ep t ∧ Had ks i L
theorem SetN.keep {h h' : Heap} {a : Addr} {L : List (Addr × NestedKey)} {es : Array (Int × Value)} {ep : Nat} {t : SetTable} (R : SetN P w h a L es ep t) (e : ∀ o, h.get? a = some o → h'.get? a = some o) (hk : ∀ p ∈ L, NKey h' p.2 p.1) : SetN P w h' a L es ep t := by
  obtain ⟨o, ho, hx⟩ := R.ob
  exact ⟨⟨o, e o ho, hx⟩, R.rows, R.tab, R.nd, hk, R.led, R.room, R.few⟩
theorem loop_n {I : Addr} {fp wr : List Addr} {n : Nat} {Pv : Nat → Value → Prop} {St : Nat → Heap → Prop} {h0 : Heap} {R : Value → Shared → Prop} (W : Walks P w A.in1 I fp wr n Pv St) (hSf : S ∉ fp) (hn : n = ks.length) (few : ks.length < 64) (val : ∀ i v, Pv i v → ∃ p, ks[i]? = some p ∧ v = .ref p.1)
    (key : ∀ p ∈ ks, NKey h0 p.2 p.1) (far : ∀ b, b = S ∨ b ∈ wr → h0.get? b = none) (hu : A.in1.units + 8 < cLine)
    (fin : ∀ h' tk, Mid P w h0 S ks n h' → R .none { s with heap := h', toks := tk }) :
    ∀ (m i : Nat) (h : Heap) (tk : Nat), i + m = n → St i h → Mid P w h0 S ks i h → codeAny (model P w) A (.builtin "set.update.loop" ⟨[.ref S, .ref I], []⟩) (wants R E) { s with heap := h, toks := tk } := by
  have stay : ∀ {h h' : Heap} {i : Nat}, (∀ b o, b ∉ wr → h.get? b = some o → h'.get? b = some o) → Mid P w h0 S ks i h → Mid P w h0 S ks i h' := fun {h h' i} e M => by
    have k' : ∀ b o, h0.get? b = some o → h'.get? b = some o := fun b o g => e b o (fun z => by rw [far b (.inr z)] at g; cases g) (M.keep b o g)
    obtain ⟨L, es, ep, t, R, g⟩ := M.set
    exact ⟨k', L, es, ep, t, R.keep (fun o => e S o fun z => hSf (W.sub S z)) fun p hp => (key p (g.sub p hp)).at fun b o vs j g _ => k' b o g, g⟩
  intro m
  induction m with
  | zero =>
    intro i h tk hi st M
    have : i = n := by omega
    subst this
    refine codeAny_builtin F.entry_set_update_loop ?_
    rw [Around.under_plainId F.plain_set_update_loop _]
    exact wpAny_bind (W.done _ _ _ st fun h' tk' e => wpAny_pure (fin h' tk' (stay e M)))
  | succ m ih =>
    intro i h tk hi st M
    refine codeAny_builtin F.entry_set_update_loop ?_
    rw [Around.under_plainId F.plain_set_update_loop _]
    refine wpAny_bind (W.item i _ _ _ (by omega) st fun v h1 tk1 hv st1 e1 => ?_)
    obtain ⟨p, hp, rfl⟩ := val i v hv
    have M1 := stay e1 M
    obtain ⟨L, es, ep, t, R1, g⟩ := M1.set
    have kp : NKey h1 p.2 p.1 := (key p (List.mem_of_getElem? hp)).at fun b o vs j g _ => M1.keep b o g
    refine wpAny_bind (wpAny_holding ?_)
    unfold setAdd
    refine wpAny_holding (wpAny_bind ((nestedKind P w).pyHash hu ⟨kp.is, kp.dep⟩ ?_))
    refine add_n (s := { s with heap := h1, toks := tk1 + (nestedKind P w).draws p.2 }) R1 kp hu (by have := g.len; omega) fun b h2 L2 es2 ep2 t2 sb R2 c1 c2 => ?_
    refine wpAny_pure ⟨plainId_quiet F.plain_set_update_loop _, ih (i + 1) h2 _ (by omega) (W.frame _ _ _ st1 fun b hb o e => (sb.2 b fun z => hSf (z ▸ hb)).trans e) ⟨fun b o e => (sb.2 b fun z => by rw [far b (.inl z)] at e; cases e).trans (M1.keep b o e), L2, es2, ep2, t2, R2, g.next hp c1 c2⟩⟩
/-- set.__init__ of an empty set, over a tuple; how deep the loop runs -/
theorem set_fill_tup {items : Array Value} {R : Value → Shared → Prop} (at0 : s.heap.get? S = some (noneS w)) (hl : s.heap.IsTuple l items)
    (loop : ∀ B : Around, B.handled = A.handled → B.units ≤ A.units + 2 → codeAny (model P w) B (.builtin "set.update.loop" ⟨[.ref S, .ref s.heap.objs.size], []⟩) (wants (fun _ t => R .none t) E) { s with heap := s.heap.push { cls := .type "tuple_iterator", data := .fields #[.ref l, .int 0 0] } }) :
    codeAny (model P w) A (.call (.builtin "set.__init__") ⟨[.ref S, .ref l], []⟩) (wants R E) s := by
  have ty : s.TypeIs (.ref S) "set" := ⟨_, at0, rfl⟩
  refine codeAny_call_builtin F.called_set.init.plain F.entry_set_init (check_set_init_1 ty ?_)
  have ⟨ob, hob, hcl, n, hdat⟩ := hl
  rcases ob with ⟨c, dc, da, sl⟩
  cases (show c = .type "tuple" from hcl)
  cases (show da = .seq items n from hdat)
  have s1 : isSubtype (.type "tuple") (.type "set") = pure false := by rw [isSubtype_type]; kernel_rfl
  have s2 : isSubtype (.type "tuple") (.type "frozenset") = pure false := by rw [isSubtype_type]; kernel_rfl
  have nd : (Value.type "tuple" == Value.type "dict") = false := by decide
  unfold Builtin.«set.__init__» noKeywords Builtin.Frozenset.updateFrom
  generalize it : pyIter = iter0
  wp_walk
  subst it
  apply wpAny_pyIter_tuple hl
  apply wpAny_bind
  apply wpAny_runValue
  refine codeAny_mono (loop _ rfl ?_) fun r t got => ?_
  · simp
  match r, got with
  | .error _, got => exact got
  | .ok (.ret _), got => exact wpAny_pure (show wpAny _ _ (ret Value.none) _ _ _ from wpAny_pure got)
/-- set.__init__ of an empty set, over a list; how deep the loop runs -/
theorem set_fill_lst {items : Array Value} {R : Value → Shared → Prop} (at0 : s.heap.get? S = some (noneS w)) (hl : s.heap.IsList l items)
    (loop : ∀ B : Around, B.handled = A.handled → B.units ≤ A.units + 2 → codeAny (model P w) B (.builtin "set.update.loop" ⟨[.ref S, .ref s.heap.objs.size], []⟩) (wants (fun _ t => R .none t) E) { s with heap := s.heap.push { cls := .type "list_iterator", data := .fields #[.ref l, .int 0 0] } }) :
    codeAny (model P w) A (.call (.builtin "set.__init__") ⟨[.ref S, .ref l], []⟩) (wants R E) s := by
  have ty : s.TypeIs (.ref S) "set" := ⟨_, at0, rfl⟩
  refine codeAny_call_builtin F.called_set.init.plain F.entry_set_init (check_set_init_1 ty ?_)
  have ⟨ob, hob, hcl, n, hdat⟩ := hl
  rcases ob with ⟨c, dc, da, sl⟩
  cases (show c = .type "list" from hcl)
  cases (show da = .seq items n from hdat)
  have s1 : isSubtype (.type "list") (.type "set") = pure false := by rw [isSubtype_type]; kernel_rfl
  have s2 : isSubtype (.type "list") (.type "frozenset") = pure false := by rw [isSubtype_type]; kernel_rfl
  have nd : (Value.type "list" == Value.type "dict") = false := by decide
  unfold Builtin.«set.__init__» noKeywords Builtin.Frozenset.updateFrom
  generalize it : pyIter = iter0
  wp_walk
  subst it
  apply wpAny_pyIter_list hl
  apply wpAny_bind
  apply wpAny_runValue
  refine codeAny_mono (loop _ rfl ?_) fun r t got => ?_
  · simp
  match r, got with
  | .error _, got => exact got
  | .ok (.ret _), got => exact wpAny_pure (show wpAny _ _ (ret Value.none) _ _ _ from wpAny_pure got)
theorem setN_fresh {h : Heap} {a : Addr} (ho : h.get? a = some (noneS w)) : SetN P w h a [] #[] 0 (.fresh 0 0 (!w.params.followText "set-order")) where
  ob := ⟨_, ho, ⟨rfl, rfl, rfl⟩, rfl⟩
  rows := rfl
  tab := ⟨List.Pairwise.nil, rfl, rfl, .inl rfl, (fun x hx => by cases hx), fun i h j e => by simp at e⟩
  nd := List.nodup_nil
  key := fun p hp => by cases hp
  led := by
    cases w.params.followText "set-order"
    · exact .inr rfl
    · exact .inl rfl
  room := by show 0 * 5 < 7 * 3; decide
  few := by decide
/-- set(l) -/
theorem call_set_n {items : Array Value} {Q : Value → Shared → Prop} (hh : A.handled = none) (hl : s.heap.IsList l items ∨ s.heap.IsTuple l items) (hit : items.toList = ks.map fun p => Value.ref p.1) (key : ∀ p ∈ ks, NKey s.heap p.2 p.1) (few : ks.length < 64) (hu : A.units + 16 < cLine)
    (h : ∀ h' tk L es ep t, SetN P w h' s.heap.objs.size L es ep t → Had ks ks.length L → (∀ b o, s.heap.get? b = some o → h'.get? b = some o) → Q (.ref s.heap.objs.size) { s with heap := h', toks := tk }) :
    wpAny (model P w) A (call (.type "set") [.ref l]) Q E s := by
  have sz : items.size = ks.length := by
    have := congrArg List.length hit
    rwa [Array.length_toList, List.length_map] at this
  have lt : l < s.heap.objs.size := by
    rcases hl with hl | hl <;> exact hl.elim fun _ z => Heap.lt_size z.1
  have z1 : (s.heap.push (noneS w)).objs.size = s.heap.objs.size + 1 := Heap.size_push ..
  refine type_call_by (B := fun v t => v = .ref s.heap.objs.size ∧ t = { s with heap := s.heap.push (noneS w) }) F.called_set (F.typeCall_set_1 _) (code_set_led1 (.ref l) ⟨rfl, rfl⟩) ?_
  rintro _ _ ⟨rfl, rfl⟩
  have at0 : (s.heap.push (noneS w)).get? s.heap.objs.size = some (noneS w) := Heap.get?_push_size _ rfl
  have far : l ≠ s.heap.objs.size + 1 := Nat.ne_of_lt (Nat.lt_succ_of_lt lt)
  have val : ∀ (i : Nat) (v : Value), items[i]? = some v → ∃ p, ks[i]? = some p ∧ v = .ref p.1 := fun i v e => by
    rw [← Array.getElem?_toList, hit, List.getElem?_map] at e
    cases q : ks[i]? with
    | none => rw [q] at e; cases e
    | some p => rw [q] at e; cases e; exact ⟨p, rfl, rfl⟩
  have none_ : ∀ b, b = s.heap.objs.size ∨ b ∈ [s.heap.objs.size + 1] → s.heap.get? b = none := fun b z => by
    cases q : s.heap.get? b with
    | none => rfl
    | some o =>
      have := Heap.lt_size q
      rcases z with z | z
      · rw [z] at this; exact absurd this (Nat.lt_irrefl _)
      · rw [List.mem_singleton.mp z] at this; exact absurd this (Nat.not_lt.mpr (Nat.le_succ _))
  have mid : ∀ it : Obj, Mid P w s.heap s.heap.objs.size ks 0 ((s.heap.push (noneS w)).push it) := fun it => by
    refine ⟨fun b o e => Heap.get?_push_of_some _ (Heap.get?_push_of_some _ e), [], #[], 0, _, setN_fresh (Heap.get?_push_of_some _ at0), ⟨(fun p hp => by cases hp), (fun p hp => by simp at hp), (fun p hp => by cases hp), Nat.le_refl _⟩⟩
  have hsf : s.heap.objs.size ∉ [s.heap.objs.size + 1, l] := by
    simp only [List.mem_cons, List.not_mem_nil, or_false, not_or]
    exact ⟨(Nat.succ_ne_self _).symm, Nat.ne_of_gt lt⟩
  rcases hl with hl | hl
  · have il := hl.at fun o g => Heap.get?_push_of_some (noneS w) g
    refine ⟨⟨_, at0, rfl⟩, set_fill_lst (s := { s with heap := s.heap.push (noneS w) }) at0 il fun B hB hBu => ?_⟩
    show codeAny _ B (.builtin "set.update.loop" ⟨[.ref s.heap.objs.size, .ref (s.heap.push (noneS w)).objs.size], []⟩) _ _
    rw [z1]
    refine loop_n (s := s) (Walks.list (A := B.in1) (hB.trans hh) (s.heap.objs.size + 1) l far items) hsf sz few val key none_ ?_ (fun h' tk M => ?_) items.size 0 _ s.toks (Nat.zero_add _) ⟨⟨_, z1 ▸ Heap.get?_push_size _ rfl, rfl, rfl⟩, il.at fun o g => Heap.get?_push_of_some _ g⟩ (mid _)
    · have e1 : B.in1.units = B.units + 1 := rfl
      have e2 : A.in1.units = A.units + 1 := rfl
      omega
    · rw [sz] at M
      obtain ⟨L, es, ep, t, R, g⟩ := M.set
      exact ⟨rfl, h h' tk L es ep t R g M.keep⟩
  · have il := hl.at fun o g => Heap.get?_push_of_some (noneS w) g
    refine ⟨⟨_, at0, rfl⟩, set_fill_tup (s := { s with heap := s.heap.push (noneS w) }) at0 il fun B hB hBu => ?_⟩
    show codeAny _ B (.builtin "set.update.loop" ⟨[.ref s.heap.objs.size, .ref (s.heap.push (noneS w)).objs.size], []⟩) _ _
    rw [z1]
    refine loop_n (s := s) (Walks.tuple (A := B.in1) (hB.trans hh) (s.heap.objs.size + 1) l far items) hsf sz few val key none_ ?_ (fun h' tk M => ?_) items.size 0 _ s.toks (Nat.zero_add _) ⟨⟨_, z1 ▸ Heap.get?_push_size _ rfl, rfl, rfl⟩, il.at fun o g => Heap.get?_push_of_some _ g⟩ (mid _)
    · have e1 : B.in1.units = B.units + 1 := rfl
      have e2 : A.in1.units = A.units + 1 := rfl
      omega
    · rw [sz] at M
      obtain ⟨L, es, ep, t, R, g⟩ := M.set
      exact ⟨rfl, h h' tk L es ep t R g M.keep⟩
end
end Fw
end
set_option Elab.async false
set_option linter.all false
set_option autoImplicit false
set_option maxRecDepth 100000
set_option maxHeartbeats 4000000
/-! Fw49: rows of whole numbers, flat or (number, row): their order, and how the machine compares them. -/
noncomputable section
namespace Fw
open PySem PySem.Spec PyProof.Rows L2
/-! ### the order -/
abbrev lx : List Int → List Int → Bool := HT.lexLt
theorem lx_cons (x y : Int) (a b : List Int) : lx (x :: a) (y :: b) = if x = y then lx a b else decide (x < y) := rfl
theorem lx_irr : ∀ a, lx a a = false
  | [] => rfl
  | x :: a => by rw [lx_cons, if_pos rfl]; exact lx_irr a
theorem lx_asym : ∀ a b, lx a b = true → lx b a = false
  | [], [], h => by cases h
  | [], _ :: _, _ => rfl
  | _ :: _, [], h => by cases h
  | x :: a, y :: b, h => by
    rw [lx_cons] at h ⊢
    by_cases e : x = y
    · rw [if_pos e] at h; rw [if_pos e.symm]; exact lx_asym a b h
    · rw [if_neg e] at h
      rw [if_neg (fun z => e z.symm)]
      have := of_decide_eq_true h
      exact decide_eq_false (by omega)
theorem lx_tr : ∀ x y z, lx y x = false → lx z y = false → lx z x = false
  | [], _, [], _, _ => rfl
  | [], _, _ :: _, _, _ => rfl
  | _ :: _, [], _, h, _ => by cases h
  | _ :: _, _ :: _, [], _, h => by cases h
  | a :: x, b :: y, c :: z, h1, h2 => by
    rw [lx_cons] at h1 h2 ⊢
    by_cases e1 : b = a
    · rw [if_pos e1] at h1
      subst e1
      by_cases e2 : c = b
      · rw [if_pos e2] at h2 ⊢; exact lx_tr x y z h1 h2
      · rw [if_neg e2] at h2 ⊢; exact h2
    · rw [if_neg e1] at h1
      have h1 := of_decide_eq_false h1
      by_cases e2 : c = b
      · subst e2
        rw [if_neg e1]
        exact decide_eq_false h1
      · rw [if_neg e2] at h2
        have h2 := of_decide_eq_false h2
        rw [if_neg (by omega)]
        exact decide_eq_false (by omega)
theorem lx_tot : ∀ a b, lx a b = false → lx b a = false → a = b
  | [], [], _, _ => rfl
  | [], _ :: _, h, _ => by cases h
  | _ :: _, [], _, h => by cases h
  | x :: a, y :: b, h1, h2 => by
    rw [lx_cons] at h1 h2
    by_cases e : x = y
    · subst e
      rw [if_pos rfl] at h1 h2
      rw [lx_tot a b h1 h2]
    · rw [if_neg e] at h1
      rw [if_neg (fun z => e z.symm)] at h2
      have := of_decide_eq_false h1
      have := of_decide_eq_false h2
      omega
theorem lx_trans {a b c : List Int} (h1 : lx a b = true) (h2 : lx b c = true) : lx a c = true := by
  cases h : lx a c with
  | true => rfl
  | false =>
    have := lx_tr c a b h (lx_asym a b h1)
    rw [h2] at this
    cases this
def insX (x : List Int) : List (List Int) → List (List Int)
  | [] => [x]
  | y :: r => if lx x y = true then x :: y :: r else if x = y then y :: r else y :: insX x r
def setX (l : List (List Int)) : List (List Int) := l.foldr insX []
theorem mem_insX (x z : List Int) : ∀ l, z ∈ insX x l ↔ z = x ∨ z ∈ l
  | [] => by simp [insX]
  | y :: r => by
    rw [insX]
    split
    · simp
    · split
      · rename_i h; subst h; simp
      · rw [List.mem_cons, mem_insX x z r, List.mem_cons]
        constructor
        · rintro (h | h | h)
          · exact .inr (.inl h)
          · exact .inl h
          · exact .inr (.inr h)
        · rintro (h | h | h)
          · exact .inr (.inl h)
          · exact .inl h
          · exact .inr (.inr h)
theorem mem_setX (z : List Int) : ∀ l, z ∈ setX l ↔ z ∈ l
  | [] => Iff.rfl
  | y :: r => by
    show z ∈ insX y (setX r) ↔ _
    rw [mem_insX, mem_setX z r, List.mem_cons]
abbrev Rise (l : List (List Int)) : Prop := l.Pairwise fun a b => lx a b = true
theorem insX_rise (x : List Int) : ∀ l, Rise l → Rise (insX x l)
  | [], _ => List.pairwise_singleton _ _
  | y :: r, h => by
    obtain ⟨h1, h2⟩ := List.pairwise_cons.mp h
    rw [insX]
    split
    · rename_i hx
      refine List.pairwise_cons.mpr ⟨fun z hz => ?_, h⟩
      rcases List.mem_cons.mp hz with rfl | hz
      · exact hx
      · exact lx_trans hx (h1 z hz)
    · split
      · exact h
      · rename_i n1 n2
        refine List.pairwise_cons.mpr ⟨fun z hz => ?_, insX_rise x r h2⟩
        rcases (mem_insX x z r).mp hz with rfl | hz
        · cases c : lx y z with
          | true => rfl
          | false => exact absurd (lx_tot z y (by simpa using n1) c) n2
        · exact h1 z hz
theorem setX_rise : ∀ l, Rise (setX l)
  | [] => List.Pairwise.nil
  | y :: r => insX_rise y _ (setX_rise r)
theorem riseX_ext : ∀ {a b : List (List Int)}, Rise a → Rise b → (∀ z, z ∈ a ↔ z ∈ b) → a = b
  | [], [], _, _, _ => rfl
  | [], y :: r, _, _, h => absurd ((h y).mpr List.mem_cons_self) List.not_mem_nil
  | x :: r, [], _, _, h => absurd ((h x).mp List.mem_cons_self) List.not_mem_nil
  | x :: r, y :: t, ha, hb, h => by
    obtain ⟨h1, h2⟩ := List.pairwise_cons.mp ha
    obtain ⟨g1, g2⟩ := List.pairwise_cons.mp hb
    have exy : x = y := by
      rcases List.mem_cons.mp ((h x).mp List.mem_cons_self) with e | e
      · exact e
      · rcases List.mem_cons.mp ((h y).mpr List.mem_cons_self) with f | f
        · exact f.symm
        · have e1 := g1 x e
          rw [lx_asym x y (h1 y f)] at e1
          cases e1
    subst exy
    have ir : ∀ {l : List (List Int)}, (∀ z ∈ l, lx x z = true) → x ∉ l := fun hl z => by
      have := hl x z
      rw [lx_irr] at this
      cases this
    rw [riseX_ext h2 g2 fun z => ?_]
    have := h z
    rw [List.mem_cons, List.mem_cons] at this
    constructor
    · intro hz
      rcases this.mp (.inr hz) with e | e
      · rw [e] at hz; exact absurd hz (ir h1)
      · exact e
    · intro hz
      rcases this.mpr (.inr hz) with e | e
      · rw [e] at hz; exact absurd hz (ir g1)
      · exact e
/-! ### rows in the heap -/
/-- flat, or (number, row) -/
def keyS : Bool → List Int → NestedKey
  | false, ns => .tup (ns.map .num)
  | true, [] => .none
  | true, m :: ts => .tup [.num m, .tup (ts.map .num)]
inductive RowAt (h : Heap) : Bool → List Int → Addr → Prop
  | flat {ns : List Int} {a : Addr} {items : Array Value} : IsTup h a items → IntsAre items.toList ns → RowAt h false ns a
  | nest {m : Int} {t : Tok} {ts : List Int} {a c : Addr} {items : Array Value} : IsTup h a #[.int m t, .ref c] → IsTup h c items → IntsAre items.toList ts → RowAt h true (m :: ts) a
theorem nums_inj : ∀ {a b : List Int}, a.map NestedKey.num = b.map NestedKey.num → a = b
  | [], [], _ => rfl
  | [], _ :: _, h => by cases h
  | _ :: _, [], h => by cases h
  | x :: a, y :: b, h => by
    rw [List.map_cons, List.map_cons] at h
    injection h with h1 h2
    injection h1 with h1
    rw [h1, nums_inj h2]
theorem keyS_inj : ∀ {b : Bool} {x y : List Int}, keyS b x = keyS b y → x = y
  | false, x, y, h => by
    injection h with h
    exact nums_inj h
  | true, [], [], _ => rfl
  | true, [], _ :: _, h => by cases h
  | true, _ :: _, [], h => by cases h
  | true, m :: x, n :: y, h => by
    unfold keyS at h
    injection h with h
    injection h with h1 h2
    injection h1 with h1
    injection h2 with h2 _
    injection h2 with h2
    rw [h1, nums_inj h2]
theorem numOs_map : ∀ ns : List Int, numOs (ns.map .num) = true
  | [] => rfl
  | n :: ns => by rw [List.map_cons, numOs, numOs_map ns]; rfl
theorem deps_map : ∀ ns : List Int, NestedKey.depthAll (ns.map .num) = 0
  | [] => rfl
  | n :: ns => by rw [List.map_cons, NestedKey.depthAll, deps_map ns]; rfl
theorem all_ints {h : Heap} : ∀ {ns : List Int} {vs : List Value}, IntsAre vs ns → NestedAll h (ns.map .num) vs
  | [], _, .nil => .nil
  | n :: ns, _, .cons _ t r => .cons (.int n t) (all_ints r)
theorem tup_is {h : Heap} {a : Addr} {items : Array Value} {ks : List NestedKey} (x : IsTup h a items) (k : NestedAll h ks items.toList) : NestedIs h (.tup ks) (.ref a) := by
  obtain ⟨o, ho, hc, n, hd⟩ := x
  exact .tup ho hc hd k
theorem RowAt.key {h : Heap} : ∀ {b : Bool} {ns : List Int} {a : Addr}, RowAt h b ns a → NKey h (keyS b ns) a
  | _, _, _, .flat x i => ⟨tup_is x (all_ints i), numOs_map _, by simp [keyS, NestedKey.depth, deps_map]⟩
  | _, _, _, .nest (m := m) (t := t) (ts := ts) x y i => ⟨tup_is x (.cons (.int m t) (.cons (tup_is y (all_ints i)) .nil)), by simp [keyS, numO, numOs, numOs_map], by simp [keyS, NestedKey.depth, NestedKey.depthAll, deps_map]⟩
theorem IsTup.move {h h' : Heap} {a : Addr} {items : Array Value} (x : IsTup h a items) (e : ∀ o, h.get? a = some o → o.cls = .type "tuple" → h'.get? a = some o) : IsTup h' a items := by
  obtain ⟨o, ho, hc, hd⟩ := x
  exact ⟨o, e o ho hc, hc, hd⟩
theorem RowAt.move {h h' : Heap} (e : ∀ b o, h.get? b = some o → o.cls = .type "tuple" → h'.get? b = some o) : ∀ {b : Bool} {ns : List Int} {a : Addr}, RowAt h b ns a → RowAt h' b ns a
  | _, _, _, .flat x i => .flat (IsTup.move x (e _)) i
  | _, _, _, .nest x y i => .nest (IsTup.move x (e _)) (IsTup.move y (e _)) i
section
variable {P : Program} {w : World} {A : Around} {E : Value → Shared → Prop} {s : Shared}
/-- rows of whole numbers, number by number -/
theorem kat_ints : ∀ {as bs : List Int} {vs us : List Value} (i : Nat), IntsAre vs as → IntsAre us bs → as.length = bs.length → PySem.W.KatLex P w A true false (fun r s' => s' = s ∧ r = lx as bs) (vs.zip us) i s
  | [], [], _, _, i, .nil, .nil, _ => PySem.W.kat_nil ⟨rfl, rfl⟩
  | [], _ :: _, _, _, _, _, _, h => by cases h
  | _ :: _, [], _, _, _, _, _, h => by cases h
  | x :: as, y :: bs, _, _, i, .cons _ t r, .cons _ u q, h => by
    rw [List.zip_cons_cons]
    refine PySem.W.kat_cons (SeqAt.EqAt.int_int x t y u P w _ _ ?_)
    refine PySem.W.kat_go (fun e => ?_) (fun e => ?_)
    · have ex : x = y := by simpa using e
      have : lx (x :: as) (y :: bs) = lx as bs := by rw [lx_cons, if_pos ex]
      rw [this]
      exact PySem.W.kat_yes (kat_ints (i + 1) r q (by simpa using h))
    · have ex : ¬ x = y := by simpa using e
      have : lx (x :: as) (y :: bs) = decide (x < y) := by rw [lx_cons, if_neg ex]
      rw [this]
      exact PySem.W.kat_no (oneLt_any_int ⟨rfl, rfl⟩)
theorem row_lt (hu : A.units + 8 < cLine) : ∀ {b : Bool} {x y : List Int} {a c : Addr}, RowAt s.heap b x a → RowAt s.heap b y c → x.length = y.length → wpAny (model P w) A (keyLt' (tuples' true) (.ref a) (.ref c)) (fun r s' => s' = s ∧ r = lx x y) (fun _ _ => False) s
  | _, x, y, _, _, .flat (items := vs) ⟨o, ho, hc, n, hd⟩ i, .flat (items := us) ⟨o', ho', hc', n', hd'⟩ j, hl => by
    have h1 := IntsAre.length i
    have h2 := IntsAre.length j
    rw [Array.length_toList] at h1 h2
    refine PySem.W.kat_lt ho hd ho' hd' ?_
    have : decide (vs.size < us.size) = false := decide_eq_false (by omega)
    rw [this]
    exact kat_ints 0 i j hl
  | _, _, _, _, _, .nest (m := m) (t := t) (ts := ts) ⟨o, ho, hc, n, hd⟩ p1 i, .nest (m := m') (t := t') (ts := ts') ⟨o', ho', hc', n', hd'⟩ p2 j, hl => by
    refine PySem.W.kat_lt ho hd ho' hd' ?_
    refine PySem.W.kat_cons (SeqAt.EqAt.int_int m t m' t' P w _ _ ?_)
    refine PySem.W.kat_go (fun e => ?_) (fun e => ?_)
    · have ex : m = m' := by simpa using e
      have e2 : lx (m :: ts) (m' :: ts') = lx ts ts' := by rw [lx_cons, if_pos ex]
      rw [e2]
      refine PySem.W.kat_yes (PySem.W.kat_cons (eqAt_key _ _ A s _ _ (tup_is p1 (all_ints i)) (tup_is p2 (all_ints j)) (by simp [NestedKey.depth, deps_map]; omega) P w _ _ ?_))
      refine PySem.W.kat_go (fun e3 => ?_) (fun e3 => ?_)
      · have : ts = ts' := by
          have := NestedKey.eq_of_beq _ _ e3
          injection this with this
          exact nums_inj this
        subst this
        refine PySem.W.kat_yes (PySem.W.kat_nil ⟨rfl, ?_⟩)
        rw [lx_irr]
        rfl
      · exact PySem.W.kat_no (PySem.W.kat_one _ _ (HT.lt_tupInts p1 p2 i j (by omega) ⟨rfl, rfl⟩))
    · have ex : ¬ m = m' := by simpa using e
      have e2 : lx (m :: ts) (m' :: ts') = decide (m < m') := by rw [lx_cons, if_neg ex]
      rw [e2]
      exact PySem.W.kat_no (oneLt_any_int ⟨rfl, rfl⟩)
end
end Fw
end
set_option Elab.async false
set_option linter.all false
set_option autoImplicit false
set_option maxRecDepth 100000
set_option maxHeartbeats 4000000
/-! Fw50: sorted(s), s a set of rows of whole numbers. -/
noncomputable section
namespace Fw
open PySem PySem.Spec PyProof.Rows L2
open Classical in
/-- the row that stands at a place -/
def rowOf (h : Heap) (b : Bool) (v : Value) : List Int := if c : ∃ ns a, v = .ref a ∧ RowAt h b ns a then c.choose else []
theorem RowAt.inj {h : Heap} {b : Bool} {x y : List Int} {a : Addr} (r : RowAt h b x a) (q : RowAt h b y a) : x = y := keyS_inj (NestedIs.inj _ _ _ r.key.is q.key.is)
theorem rowOf_eq {h : Heap} {b : Bool} {ns : List Int} {a : Addr} (r : RowAt h b ns a) : rowOf h b (.ref a) = ns := by
  have c : ∃ ns a', Value.ref a = .ref a' ∧ RowAt h b ns a' := ⟨ns, a, rfl, r⟩
  unfold rowOf
  rw [dif_pos c]
  obtain ⟨a', e, q⟩ := c.choose_spec
  injection e with e
  subst e
  exact q.inj r
theorem swo_row (k : Value → List Int) : SrtO.Swo fun v u => lx (k v) (k u) := ⟨fun x y h => lx_asym _ _ h, fun x y z h1 h2 => lx_tr _ _ _ h1 h2⟩
section
variable {P : Program} {w : World} {A : Around} {E : Value → Shared → Prop} {s : Shared} {b : Bool} {d : Nat}
theorem firsts_row {h : Heap} : ∀ {vs : List Value}, (∀ v ∈ vs, ∃ ns a, v = .ref a ∧ RowAt h b ns a ∧ 1 ≤ ns.length) → ∃ fs, PySem.W.KatTups h vs fs ∧ fs.length = vs.length ∧ ∀ f ∈ fs, ∃ i t, f = .int i t
  | [], _ => ⟨[], PySem.W.KatTups.nil, rfl, fun f hf => by cases hf⟩
  | v :: vs, hv => by
    obtain ⟨fs, h1, h2, h3⟩ := firsts_row (vs := vs) fun u hu => hv u (List.mem_cons_of_mem _ hu)
    obtain ⟨ns, a, rfl, r, hn⟩ := hv v List.mem_cons_self
    have one : ∃ (o : Obj) (xs : Array Value) (n : Nat) (i : Int) (t : Tok), h.get? a = some o ∧ o.cls = .type "tuple" ∧ o.data = .seq xs n ∧ xs[0]? = some (.int i t) := by
      cases r with
      | @flat ns a items x q =>
        obtain ⟨o, ho, hc, n, hd⟩ := x
        cases ns with
        | nil => exact absurd hn (by decide)
        | cons i ns =>
          generalize hl : items.toList = l at q
          cases q with
          | cons _ t q =>
            refine ⟨o, items, n, i, t, ho, hc, hd, ?_⟩
            rw [← Array.getElem?_toList, hl]
            rfl
      | @nest m t ts a c items x y q =>
        obtain ⟨o, ho, hc, n, hd⟩ := x
        exact ⟨o, _, n, m, t, ho, hc, hd, rfl⟩
    obtain ⟨o, xs, n, i, t, ho, hc, hd, h0⟩ := one
    refine ⟨.int i t :: fs, PySem.W.KatTups.cons ho hc hd h0 h1, by simp [h2], fun f hf => ?_⟩
    rcases List.mem_cons.mp hf with e | hf
    · exact ⟨i, t, e⟩
    · exact h3 f hf
theorem rows_sortable {a : Addr} {vs : List Value} (h0 : 0 < vs.length) (hu : A.units + 8 < cLine) (rows : ∀ v ∈ vs, ∃ ns c, v = .ref c ∧ RowAt s.heap b ns c ∧ ns.length = d) (hd : 1 ≤ d) (ha : ∀ o, s.heap.get? a = some o → o.cls ≠ .type "tuple") :
    SrtO.SortableO P w A s a vs fun v u => lx (rowOf s.heap b v) (rowOf s.heap b u) := by
  intro h' keep
  have mv : ∀ {ns : List Int} {c : Addr}, RowAt s.heap b ns c → RowAt h' b ns c := fun r => r.move fun c o e z => keep c o (fun q => by subst q; exact ha o e z) e
  obtain ⟨fs, h1, h2, h3⟩ := firsts_row (h := h') (vs := vs) (b := b) fun v hv => by
    obtain ⟨ns, c, e, r, hl⟩ := rows v hv
    exact ⟨ns, c, e, mv r, by omega⟩
  refine ⟨tuples' true, fun Q E hq => ?_, fun p q hp hq => ?_⟩
  · refine PySem.W.kat_kind (T := .type "int") h1 (by omega) (fun f hm => ?_) (by rfl) ?_
    · obtain ⟨x, t, rfl⟩ := h3 f hm
      exact PySem.W.Looks.now
    · exact hq
  · obtain ⟨x, c, e, r, hl⟩ := rows _ hp
    obtain ⟨y, c', e', r', hl'⟩ := rows _ hq
    show wpAny (model P w) A (keyLt' (tuples' true) p.1 q.1) (fun r s' => s' = { s with heap := h' } ∧ r = lx (rowOf s.heap b p.1) (rowOf s.heap b q.1)) (fun _ _ => False) { s with heap := h' }
    rw [e, e', rowOf_eq r, rowOf_eq r']
    exact row_lt (s := { s with heap := h' }) hu (mv r) (mv r') (hl.trans hl'.symm)
theorem sorted_n {a : Addr} {L : List (Addr × NestedKey)} {es : Array (Int × Value)} {ep : Nat} {t : SetTable} {Q : Value → Shared → Prop} (R : SetN P w s.heap a L es ep t) (hh : A.handled = none) (hu : A.units + 12 < cLine) (rows : ∀ p ∈ L, ∃ ns, p.2 = keyS b ns ∧ RowAt s.heap b ns p.1 ∧ ns.length = d) (hd : 1 ≤ d)
    (hQ : ∀ (s' : Shared) (q : Addr) (out : List Value) (c : Nat), (∀ b o, s.heap.get? b = some o → s'.heap.get? b = some o) → s'.gens = s.gens → s'.os = s.os → s.heap.objs.size ≤ q → s'.heap.get? q = some (seqObj "list" out.toArray c) → out.Perm (L.map fun p => Value.ref p.1) → Rise (out.map (rowOf s.heap b)) → Q (.ref q) s') :
    wpAny (model P w) A (call (.builtin "sorted") [.ref a]) Q E s := by
  obtain ⟨o, ho, hex, hdt⟩ := R.ob
  have hsz := R.size
  have few := R.few
  have evs : es.toList.map (·.2) = L.map fun p => Value.ref p.1 := by rw [R.rows, List.map_map]; rfl
  refine Calls.call_function_entry kind_sorted plain_sorted entry_sorted (args_sorted1 _) ?_
  unfold Builtin.«sorted»
  refine wpAny_bind (m := checkCount "sorted" 1 1 _) (wpAny_pure ?_)
  refine wpAny_bind (collect_set (A := A.in1) hh ⟨o, ho, hex.1, hdt⟩ R.fits (by unfold scanBound; omega) R.tab.ris R.led fun s1 vs k1 hz g1 o1 pm => ?_)
  rw [evs] at pm
  have vl : vs.length < 64 := by rw [pm.length_eq, List.length_map]; exact few
  refine wpAny_bind (wpAny_newList ?_ (by rw [sizeLine_eq]; omega))
  have at1 : (s1.heap.push (seqObj "list" vs.toArray 0)).get? s1.heap.objs.size = some (seqObj "list" vs.toArray 0) := Heap.get?_push_size _ rfl
  have up : ∀ b o, s.heap.get? b = some o → (s1.heap.push (seqObj "list" vs.toArray 0)).get? b = some o := fun b o e => Heap.get?_push_of_some _ (k1 b o e)
  have each : ∀ v ∈ vs, ∃ ns c, v = Value.ref c ∧ RowAt s.heap b ns c ∧ ns.length = d := fun v hv => by
    obtain ⟨p, hp, rfl⟩ := List.mem_map.mp (pm.mem_iff.mp hv)
    obtain ⟨ns, _, r, hl⟩ := rows p hp
    exact ⟨ns, p.1, rfl, r, hl⟩
  have each1 : ∀ v ∈ vs, ∃ ns c, v = Value.ref c ∧ RowAt (s1.heap.push (seqObj "list" vs.toArray 0)) b ns c ∧ ns.length = d := fun v hv => by
    obtain ⟨ns, c, e, r, hl⟩ := each v hv
    exact ⟨ns, c, e, r.move fun b o e _ => up b o e, hl⟩
  have same : ∀ v ∈ vs, rowOf (s1.heap.push (seqObj "list" vs.toArray 0)) b v = rowOf s.heap b v := fun v hv => by
    obtain ⟨ns, c, rfl, r, hl⟩ := each v hv
    rw [rowOf_eq r, rowOf_eq (r.move fun b o e _ => up b o e)]
  have keysL : (L.map fun p => Value.ref p.1).map (rowOf s.heap b) = L.map fun p => rowOf s.heap b (.ref p.1) := by rw [List.map_map]; rfl
  have nodup : (L.map fun p => rowOf s.heap b (.ref p.1)).Nodup := by
    refine nodup_of_map (f := keyS b) ?_
    rw [List.map_map]
    have : L.map (keyS b ∘ fun p => rowOf s.heap b (.ref p.1)) = L.map (·.2) := List.map_congr_left fun p hp => by
      obtain ⟨ns, e, r, _⟩ := rows p hp
      show keyS b (rowOf s.heap b (.ref p.1)) = p.2
      rw [rowOf_eq r, e]
    rw [this]
    exact R.nd
  refine wpAny_bind (wpAny_holding (wpAny_call_entry slot_list_sort ⟨_, at1, rfl⟩ entry_list_sort (SrtO.list_sort_ord (s := { s1 with heap := s1.heap.push (seqObj "list" vs.toArray 0) }) (swo_row (rowOf (s1.heap.push (seqObj "list" vs.toArray 0)) b)) at1 (by rw [sizeLine_eq]; omega)
    (fun h2 => rows_sortable (by omega) ?_ each1 hd fun o e => by rw [at1] at e; cases e; exact fun z => by injection z with z; exact absurd z (by decide)) fun out hs hb => ⟨_, rfl, ?_⟩) (args_list_sort _)))
  · show A.in1.in1.units + 8 < cLine
    have : A.in1.in1.units = A.units + 2 := rfl
    omega
  · have po := hb.perm.trans pm
    have mem : ∀ v ∈ out, v ∈ vs := fun v hv => hb.perm.mem_iff.mp hv
    have rise : Rise (out.map (rowOf s.heap b)) := by
      have nd : (out.map (rowOf s.heap b)).Nodup := by
        have := po.map (rowOf s.heap b)
        rw [keysL] at this
        exact this.nodup_iff.mpr nodup
      have s1 : (out.map (rowOf s.heap b)).Pairwise fun x y => lx y x = false := by
        rw [List.pairwise_map]
        refine List.Pairwise.imp_of_mem (fun {x y} hx hy h => ?_) hs
        rw [← same x (mem x hx), ← same y (mem y hy)]
        exact h
      refine List.Pairwise.imp (fun {x y} h => ?_) (s1.and nd)
      cases c : lx x y with
      | true => rfl
      | false => exact absurd (lx_tot x y c h.1) h.2
    obtain ⟨c, hc⟩ := sortedHeap_at (vs := vs) (out := out.toArray) at1
    refine wpAny_pure ⟨_, rfl, hQ _ s1.heap.objs.size out c (fun b u e => ?_) g1 o1 hz hc po rise⟩
    have lt := Heap.lt_size (k1 b u e)
    show (sortedHeap (s1.heap.push (seqObj "list" vs.toArray 0)) s1.heap.objs.size vs out.toArray).get? b = some u
    rw [sortedHeap_old (Nat.ne_of_lt lt) (by rw [size_push']; exact Nat.lt_succ_of_lt lt)]
    exact up b u e
end
end Fw
end
set_option Elab.async false
set_option linter.all false
set_option autoImplicit false
set_option maxRecDepth 100000
set_option maxHeartbeats 4000000
/-! Fw51: sorted(set(l)) of rows of whole numbers, over trees. -/
noncomputable section
namespace Fw
open PySem PySem.Spec PyProof.Rows L2
/-- a row among what is tracked -/
inductive RowV (H : Hp) : Bool → List Int → Addr → Prop
  | flat {ns : List Int} {a : Addr} : H a = some (.tup (ns.map V.int)) → RowV H false ns a
  | nest {m : Int} {ts : List Int} {a c : Addr} : H a = some (.tup [.int m, .ref c]) → H c = some (.tup (ts.map V.int)) → RowV H true (m :: ts) a
theorem RowV.keep {H H' : Hp} (e : ∀ a xs, H a = some (.tup xs) → H' a = some (.tup xs)) : ∀ {b : Bool} {ns : List Int} {a : Addr}, RowV H b ns a → RowV H' b ns a
  | _, _, _, .flat h => .flat (e _ _ h)
  | _, _, _, .nest h g => .nest (e _ _ h) (e _ _ g)
/-- the set's object, without the rows themselves -/
def SetB (P : Program) (w : World) (a : Addr) (L : List (Addr × NestedKey)) (h : Heap) : Prop := ∃ es ep t, (∃ o, h.get? a = some o ∧ o.ExactSet ∧ o.data = .set es ep t) ∧ es.toList = L.map (rowK w) ∧ TabOk t (L.map fun p => p.2.hash w) ∧ (L.map (·.2)).Nodup ∧
  (w.params.followText "set-order" = true ∨ t.led = true) ∧ L.length * 5 < t.mask * 3 ∧ L.length < 64
def SetNO (P : Program) (w : World) (a : Addr) (L : List (Addr × NestedKey)) : HO := .ext (SetB P w a L)
theorem setNO_new {P : Program} {w : World} {H : Hp} {h : Heap} {a : Addr} {L : List (Addr × NestedKey)} (R : SetB P w a L h) : ObjOk P w H h a (SetNO P w a L) := by
  have ⟨es, ep, t, ⟨o, ho, r⟩, q⟩ := R
  exact ⟨R, ⟨o, ho⟩, fun h1 h2 ⟨es', ep', t', ⟨o', ho', r'⟩, q'⟩ k => ⟨es', ep', t', ⟨o', k o' ho', r'⟩, q'⟩⟩
section
variable {X : Cx}
theorem Inv.tupAt {pins : List (Addr × Obj)} {σ : St} {H : Hp} {s : Shared} {a : Addr} {vs : List V} (I : Inv X pins σ H s) (h : H a = some (.tup vs)) : ∃ its : List Value, Vals vs its ∧ IsTup s.heap a its.toArray := by
  obtain ⟨its, r, p, _⟩ := I.tuple (SqT.of h)
  exact ⟨its, r, p⟩
theorem Inv.rowAt {pins : List (Addr × Obj)} {σ : St} {H : Hp} {s : Shared} (I : Inv X pins σ H s) : ∀ {b : Bool} {ns : List Int} {a : Addr}, RowV H b ns a → RowAt s.heap b ns a
  | _, _, _, .flat h => by
    obtain ⟨its, r, p⟩ := Inv.tupAt I h
    exact .flat p (by simpa using ints_from r)
  | _, _, _, .nest (m := m) (ts := ts) h g => by
    obtain ⟨its, r, p⟩ := Inv.tupAt I h
    obtain ⟨its2, r2, p2⟩ := Inv.tupAt I g
    cases r with
    | cons r0 r1 =>
      obtain ⟨t, rfl⟩ := r0
      cases r1 with
      | cons r1 rn =>
        cases r1
        cases rn
        exact .nest p p2 (by simpa using ints_from r2)
def refsV (ks : List (Addr × List Int)) : List V := ks.map fun p => V.ref p.1
theorem vals_refs' : ∀ {ks : List (Addr × List Int)} {us : List Value}, Vals (refsV ks) us → us = ks.map fun p => Value.ref p.1
  | [], _, .nil => rfl
  | p :: ks, _, .cons r t => by
    cases r
    rw [vals_refs' t]
    rfl
theorem vals_refs2 : ∀ ks : List (Addr × List Int), Vals (refsV ks) (ks.map fun p => Value.ref p.1)
  | [] => .nil
  | p :: ks => .cons rfl (vals_refs2 ks)
def rSetN (K : PySem.W.Frag) (P : Program) (w : World) : List V → Hp → VK → Prop := fun xs H Q => ∃ (l : Addr) (b : Bool) (ks : List (Addr × List Int)), xs = [.ref l] ∧ (SqL K H l (refsV ks) ∨ SqT K H l (refsV ks)) ∧ (∀ p ∈ ks, RowV H b p.2 p.1) ∧ ks.length < 64 ∧
  ∀ p L, H p = none → (∀ q ∈ L, ∃ r ∈ ks, q = (r.1, keyS b r.2)) → (∀ r ∈ ks, keyS b r.2 ∈ L.map (·.2)) → Q (.ref p) (upd H p (SetNO P w p L))
theorem cr_setN (hc : X.calm = true) (hu : X.A.units + 64 < cLine) : CallR X (.type "set") (rSetN X.K X.prog X.w) := by
  intro pins s σ H xs us Q I r h
  obtain ⟨l, b, ks, rfl, hl, rows, few, q⟩ := h
  rw [Vals.ref1 r]
  have hh := I.ok.hd hc
  have hn : H s.heap.objs.size = none := I.hok.fresh (Nat.le_refl _)
  have key : ∀ p ∈ ks.map (fun p => (p.1, keyS b p.2)), NKey s.heap p.2 p.1 := fun p hp => by
    obtain ⟨r, hr, rfl⟩ := List.mem_map.mp hp
    exact (Inv.rowAt I (rows r hr)).key
  have go : ∀ {items : List Value}, Vals (refsV ks) items → (s.heap.IsList l items.toArray ∨ s.heap.IsTuple l items.toArray) → wpAny (model X.prog X.w) X.A (call (.type "set") [.ref l]) (EP X pins σ Q) X.xe s := fun {items} rv il => by
    refine call_set_n (ks := ks.map fun p => (p.1, keyS b p.2)) hh il (by rw [vals_refs' rv, List.map_map]; simp) key (by rw [List.length_map]; exact few) (by omega) fun h' tk L es ep t R g kp => ?_
    rw [List.length_map] at g
    refine ⟨.ref _, _, I.laid (t' := tk) kp (Nat.le_refl _) (setNO_new ⟨es, ep, t, R.ob, R.rows, R.tab, R.nd, R.led, R.room, R.few⟩), rfl, q _ L hn (fun p hp => ?_) fun r hr => ?_⟩
    · obtain ⟨r, hr, e⟩ := List.mem_map.mp (g.sub p hp)
      exact ⟨r, hr, e.symm⟩
    · refine g.all (r.1, keyS b r.2) ?_
      rw [List.take_of_length_le (by rw [List.length_map]; exact Nat.le_refl _)]
      exact List.mem_map.mpr ⟨r, hr, rfl⟩
  rcases hl with hl | hl
  · obtain ⟨its, rv, pl, _⟩ := I.list hl
    exact go rv (.inl pl.isList)
  · obtain ⟨its, rv, pl, _⟩ := I.tuple hl
    exact go rv (.inr pl)
end
end Fw
end
set_option Elab.async false
set_option linter.all false
set_option autoImplicit false
set_option maxRecDepth 100000
set_option maxHeartbeats 4000000
/-! Fw52: sorted(set(l)) of rows of whole numbers, over trees. -/
noncomputable section
namespace Fw
open PySem PySem.Spec PyProof.Rows L2
def plainAd : Value → Addr
  | .ref a => a
  | _ => 0
section
variable {X : Cx}
def rSortedN (P : Program) (w : World) : List V → Hp → VK → Prop := fun vs H Q => ∃ (a : Addr) (b : Bool) (d : Nat) (L : List (Addr × NestedKey)), vs = [.ref a] ∧ H a = some (SetNO P w a L) ∧ (∀ p ∈ L, ∃ ns, p.2 = keyS b ns ∧ RowV H b ns p.1 ∧ ns.length = d) ∧ 1 ≤ d ∧
  ∀ (M : List (Addr × List Int)) (p : Addr), (∀ q ∈ M, RowV H b q.2 q.1 ∧ (q.1, keyS b q.2) ∈ L) → (∀ q ∈ L, ∃ r ∈ M, q = (r.1, keyS b r.2)) → Rise (M.map (·.2)) → H p = none → Q (.ref p) (upd H p (.lst (refsV M)))
theorem cr_sortedN (hc : X.calm = true) (hu : X.A.units + 64 < cLine) : CallR X (.builtin "sorted") (rSortedN X.prog X.w) := by
  intro pins s σ H vs us Q I r h
  obtain ⟨a, b, d, L, rfl, ha, rows, hd, q⟩ := h
  rw [Vals.ref1 r]
  have ⟨es, ep, t, ob, e1, e2, e3, e4, e5, e6⟩ := (I.hok a _ ha).1
  have R : SetN X.prog X.w s.heap a L es ep t := ⟨ob, e1, e2, e3, fun p hp => by
    obtain ⟨ns, e, r, _⟩ := rows p hp
    have := (Inv.rowAt I r).key
    rw [← e] at this
    exact this, e4, e5, e6⟩
  have rowsH : ∀ p ∈ L, ∃ ns, p.2 = keyS b ns ∧ RowAt s.heap b ns p.1 ∧ ns.length = d := fun p hp => by
    obtain ⟨ns, e, r, hl⟩ := rows p hp
    exact ⟨ns, e, Inv.rowAt I r, hl⟩
  refine sorted_n R (I.ok.hd hc) (by omega) rowsH hd fun s' p out c k g o hp hg pm rise => ?_
  have each : ∀ v ∈ out, ∃ q ∈ L, v = .ref q.1 := fun v hv => by
    obtain ⟨q, hq, e⟩ := List.mem_map.mp (pm.mem_iff.mp hv)
    exact ⟨q, hq, e.symm⟩
  have eo : out = (out.map fun v => (plainAd v, rowOf s.heap b v)).map fun p => Value.ref p.1 := by
    rw [List.map_map]
    conv => lhs; rw [← List.map_id out]
    refine List.map_congr_left fun v hv => ?_
    obtain ⟨q, _, rfl⟩ := each v hv
    rfl
  have hn : H p = none := I.hok.fresh hp
  have hlen : (refsV (out.map fun v => (plainAd v, rowOf s.heap b v))).length ≤ sizeLine := by
    unfold refsV
    rw [List.length_map, List.length_map, pm.length_eq, List.length_map, sizeLine_eq]
    omega
  have hv : Vals (refsV (out.map fun v => (plainAd v, rowOf s.heap b v))) out := by
    have := vals_refs2 (out.map fun v => (plainAd v, rowOf s.heap b v))
    rwa [← eo] at this
  have J : Inv X pins σ (upd H p (.lst (refsV (out.map fun v => (plainAd v, rowOf s.heap b v))))) { s with heap := s'.heap, gens := s'.gens, drawn := s'.drawn, toks := s'.toks } :=
    I.call (ch := []) (Un.laid k hp hn) (I.hok.laid k hp ⟨hlen, out, c, hv, hg⟩) (by rw [g]; exact I.bare) (fun _ z => nomatch z)
  have e : s' = { s with heap := s'.heap, gens := s'.gens, drawn := s'.drawn, toks := s'.toks } := by
    cases s'
    cases s
    cases o
    rfl
  rw [e]
  refine ⟨.ref p, _, J, rfl, q _ p (fun q hq => ?_) (fun q hq => ?_) ?_ hn⟩
  · obtain ⟨v, hv, rfl⟩ := List.mem_map.mp hq
    obtain ⟨p, hp, rfl⟩ := each v hv
    obtain ⟨ns, e, r, _⟩ := rows p hp
    show RowV H b (rowOf s.heap b (.ref p.1)) p.1 ∧ (p.1, keyS b (rowOf s.heap b (.ref p.1))) ∈ L
    rw [rowOf_eq (Inv.rowAt I r)]
    refine ⟨r, ?_⟩
    rw [← e]
    exact hp
  · obtain ⟨ns, e, r, _⟩ := rows q hq
    refine ⟨(q.1, rowOf s.heap b (.ref q.1)), List.mem_map.mpr ⟨.ref q.1, pm.mem_iff.mpr (List.mem_map.mpr ⟨q, hq, rfl⟩), rfl⟩, ?_⟩
    show q = (q.1, keyS b (rowOf s.heap b (.ref q.1)))
    rw [rowOf_eq (Inv.rowAt I r), ← e]
  · rw [List.map_map]
    exact rise
end
/-! ### over trees -/
def rowK2 : D → Option (Bool × List Int)
  | .tup ds => match intsOf ds with
    | some ns => some (false, ns)
    | none => match ds with
      | [.int m, .tup ts] => (intsOf ts).map fun t => (true, m :: t)
      | _ => none
  | _ => none
def unrow : Bool → List Int → D
  | false, ns => .tup (ns.map .int)
  | true, [] => .non
  | true, m :: ts => .tup [.int m, .tup (ts.map .int)]
theorem rowK2_eq {d : D} {b : Bool} {ns : List Int} (h : rowK2 d = some (b, ns)) : d = unrow b ns := by
  unfold rowK2 at h
  split at h
  · split at h
    · rename_i e
      cases h
      rw [intsOf_eq e]
      rfl
    · split at h
      · rename_i m ts _
        cases e : intsOf ts with
        | none => rw [e] at h; cases h
        | some t =>
          rw [e] at h
          cases h
          rw [intsOf_eq e]
          rfl
      · cases h
  · cases h
theorem rowK2_unrow : ∀ (b : Bool) (ns : List Int), 1 ≤ ns.length → rowK2 (unrow b ns) = some (b, ns)
  | false, ns, _ => by
    unfold unrow rowK2
    simp only [intsOf_map]
  | true, m :: ts, _ => by
    have : intsOf [.int m, .tup (ts.map .int)] = none := rfl
    unfold unrow rowK2
    simp only [this, intsOf_map]
    rfl
theorem unrow_pure : ∀ (b : Bool) (ns : List Int), (unrow b ns).pure = true
  | false, ns => by
    show D.pureL _ = true
    exact pureL_iff.mpr fun d hd => by obtain ⟨i, _, rfl⟩ := List.mem_map.mp hd; rfl
  | true, [] => rfl
  | true, m :: ts => by
    show D.pureL [.int m, .tup (ts.map .int)] = true
    refine pureL_iff.mpr fun d hd => ?_
    rcases List.mem_cons.mp hd with rfl | hd
    · rfl
    · rw [List.mem_singleton.mp hd]
      show D.pureL _ = true
      exact pureL_iff.mpr fun d hd => by obtain ⟨i, _, rfl⟩ := List.mem_map.mp hd; rfl
/-- rows of one form and one length -/
def rowsD (b : Bool) (n : Nat) : List D → Option (List (List Int))
  | [] => some []
  | d :: ds => match rowK2 d, rowsD b n ds with
    | some (b', ns), some r => if b' = b ∧ ns.length = n then some (ns :: r) else none
    | _, _ => none
theorem rowsD_eq {b : Bool} {n : Nat} : ∀ {ds : List D} {ks : List (List Int)}, rowsD b n ds = some ks → ds = ks.map (unrow b) ∧ ∀ k ∈ ks, k.length = n
  | [], ks, h => by cases h; exact ⟨rfl, fun k hk => by cases hk⟩
  | d :: ds, ks, h => by
    unfold rowsD at h
    split at h
    · rename_i b' ns r e1 e2
      split at h
      · rename_i c
        cases h
        obtain ⟨rfl, hn⟩ := c
        obtain ⟨h1, h2⟩ := rowsD_eq e2
        refine ⟨by rw [List.map_cons, ← h1, rowK2_eq e1], fun k hk => ?_⟩
        rcases List.mem_cons.mp hk with rfl | hk
        · exact hn
        · exact h2 k hk
      · cases h
    · cases h
theorem rowsD_map {b : Bool} {n : Nat} (hn : 1 ≤ n) : ∀ ks : List (List Int), (∀ k ∈ ks, k.length = n) → rowsD b n (ks.map (unrow b)) = some ks
  | [], _ => rfl
  | k :: ks, h => by
    have hk := h k List.mem_cons_self
    rw [List.map_cons, rowsD, rowK2_unrow b k (by omega), rowsD_map hn ks fun q hq => h q (List.mem_cons_of_mem _ hq)]
    simp only [hk, and_self, if_true]
/-- the first row's form -/
def shapeOf (d : D) : Option (Bool × Nat) := match seqOf d with
  | some (x :: _) => (rowK2 x).map fun p => (p.1, p.2.length)
  | _ => none
def D.sortSetR (d : D) : Res D := match shapeOf d with
  | some (b, n) => (match (seqOf d).bind (rowsD b n) with
    | some ks => if ks.length < 64 ∧ 1 ≤ n then .ok (.lst ((setX ks).map (unrow b))) else .no
    | none => .no)
  | none => .no
theorem sortSetR_map {b : Bool} {n : Nat} (hn : 1 ≤ n) {ks : List (List Int)} (hne : ks ≠ []) (h : ∀ k ∈ ks, k.length = n) (hl : ks.length < 64) {d : D} (hd : seqOf d = some (ks.map (unrow b))) : D.sortSetR d = .ok (.lst ((setX ks).map (unrow b))) := by
  obtain ⟨k, r, rfl⟩ : ∃ k r, ks = k :: r := by
    cases ks with
    | nil => exact absurd rfl hne
    | cons k r => exact ⟨k, r, rfl⟩
  have hk := h k List.mem_cons_self
  have e1 : shapeOf d = some (b, n) := by
    unfold shapeOf
    rw [hd, List.map_cons]
    simp only [rowK2_unrow b k (by omega), Option.map_some, hk]
  have e2 := rowsD_map (b := b) hn (k :: r) h
  unfold D.sortSetR
  simp only [e1, hd, Option.bind_some, e2, hl, hn, and_self, if_true]
theorem rp_row {K : Kr} {av : Addr → Prop} {H : Hp} : ∀ {b : Bool} {ns : List Int} {v : V}, 1 ≤ ns.length → Rp K av H (unrow b ns) v → ∃ a, v = .ref a ∧ RowV H b ns a
  | false, ns, _, _, .tup g r => ⟨_, rfl, .flat (by rw [r.ints] at g; exact g)⟩
  | true, [], _, h, _ => absurd h (by decide)
  | true, m :: ts, _, _, .tup g r => by
    cases r with
    | cons r1 r =>
      cases r with
      | cons r2 r =>
        cases r
        cases r1
        cases r2 with
        | tup g2 q =>
          rw [q.ints] at g2
          exact ⟨_, rfl, .nest g g2⟩
theorem rpl_rows {K : Kr} {av : Addr → Prop} {H : Hp} {b : Bool} : ∀ {ks : List (List Int)} {vs : List V}, (∀ k ∈ ks, 1 ≤ k.length) → RpL K av H (ks.map (unrow b)) vs → ∃ M : List (Addr × List Int), vs = refsV M ∧ M.map (·.2) = ks ∧ ∀ p ∈ M, RowV H b p.2 p.1
  | [], _, _, .nil => ⟨[], rfl, rfl, fun p hp => by cases hp⟩
  | k :: ks, _, h, .cons r q => by
    obtain ⟨a, rfl, ra⟩ := rp_row (h k List.mem_cons_self) r
    obtain ⟨M, e1, e2, h3⟩ := rpl_rows (fun z hz => h z (List.mem_cons_of_mem _ hz)) q
    refine ⟨(a, k) :: M, by rw [e1]; rfl, by rw [List.map_cons, e2], fun p hp => ?_⟩
    rcases List.mem_cons.mp hp with rfl | hp
    · exact ra
    · exact h3 p hp
theorem row_rp {K : Kr} {av : Addr → Prop} {H : Hp} : ∀ {b : Bool} {ns : List Int} {a : Addr}, RowV H b ns a → Rp K av H (unrow b ns) (.ref a)
  | _, _, _, .flat h => .tup h (RpL.ofInts _)
  | _, _, _, .nest h g => .tup h (.cons (.int _) (.cons (.tup g (RpL.ofInts _)) .nil))
theorem rows_rpl {K : Kr} {av : Addr → Prop} {H : Hp} {b : Bool} : ∀ M : List (Addr × List Int), (∀ p ∈ M, RowV H b p.2 p.1) → RpL K av H ((M.map (·.2)).map (unrow b)) (refsV M)
  | [], _ => .nil
  | p :: M, h => .cons (row_rp (h p List.mem_cons_self)) (rows_rpl M fun q hq => h q (List.mem_cons_of_mem _ hq))
section
variable {X : Cx} {Γ : Gm} {E : XK} {a : Expr} {fa : Env → Res D} {p p2 q pos : Pos}
theorem Rp.seqRows {K : Kr} {av : Addr → Prop} {H : Hp} {d : D} {v : V} {b : Bool} {n : Nat} {ks : List (List Int)} (hn : 1 ≤ n) (r : Rp K av H d v) (h : (seqOf d).bind (rowsD b n) = some ks) : ∃ (l : Addr) (M : List (Addr × List Int)), v = .ref l ∧ (SqL K.K H l (refsV M) ∨ SqT K.K H l (refsV M)) ∧ M.map (·.2) = ks ∧ (∀ p ∈ M, RowV H b p.2 p.1) ∧ ∀ k ∈ ks, k.length = n := by
  have go : ∀ {ds : List D} {vs : List V}, rowsD b n ds = some ks → RpL K av H ds vs → ∃ M : List (Addr × List Int), vs = refsV M ∧ M.map (·.2) = ks ∧ (∀ p ∈ M, RowV H b p.2 p.1) ∧ ∀ k ∈ ks, k.length = n := fun e q => by
    obtain ⟨e1, e2⟩ := rowsD_eq e
    subst e1
    obtain ⟨M, h1, h2, h3⟩ := rpl_rows (fun k hk => by rw [e2 k hk]; exact hn) q
    exact ⟨M, h1, h2, h3, e2⟩
  cases r with
  | tup g q =>
    obtain ⟨M, rfl, h2, h3, h4⟩ := go h q
    exact ⟨_, M, rfl, .inr (SqT.of g), h2, h3, h4⟩
  | lst g _ q =>
    obtain ⟨M, rfl, h2, h3, h4⟩ := go h q
    exact ⟨_, M, rfl, .inl (SqL.of g), h2, h3, h4⟩
  | @ftp a o vs ds g _ q =>
    obtain ⟨M, rfl, h2, h3, h4⟩ := go h q
    exact ⟨_, M, rfl, .inr (.inl (.inr ⟨o, g⟩)), h2, h3, h4⟩
  | _ => cases h
theorem te_sortSetR (hm : X.mg "sorted" = none) (hm2 : X.mg "set" = none) (hc : X.calm = true) {k : Nat} (hr : Room k X.A) (ha : PE X a (eT Γ E fa)) (hg : Gl X "sorted" := by rfl) (hg2 : Gl X "set" := by rfl) (hK : X.K = Γ.K := by rfl)
    (he : starEach [a] X.env = (false, eval a X.env) :: starEach [] X.env := by rfl) (he2 : starEach [.Call (.Name "set" p2) [a] [] q] X.env = (false, eval (.Call (.Name "set" p2) [a] [] q) X.env) :: starEach [] X.env := by rfl) (hv : bootBuiltins "sorted" = some (.builtin "sorted") := by decide +kernel) :
    PE X (.Call (.Name "sorted" p) [.Call (.Name "set" p2) [a] [] q] [] pos) (nT Γ E (app (on1 D.sortSetR) (consA fa nilA))) := by
  have hu : X.A.units + 64 < cLine := by have := hr.units; omega
  refine PE.imp (pe_callB (cr_sortedN hc hu) hg hm hv (pa_cons (pe_callTy (cr_setN hc hu) hg2 hm2 boot_set (ta_cons ha ta_nil he) (he := he)) pa_nil he2) (he := he2)) fun σ H Q ⟨av, ρ, env, h⟩ => ?_
  refine aT_bind (β := D) (δ := V) env h fun ds vs H1 x1 env1 r1 h1 => ?_
  cases r1 with
  | nil => exact (show False from h1).elim
  | cons r1 r2 =>
    cases r2 with
    | cons _ _ => exact (show False from h1).elim
    | nil =>
      rename_i d v
      replace h1 : ROk Γ av H1 _ (D.sortSetR d) Q E := h1
      unfold D.sortSetR at h1
      cases e0 : shapeOf d with
      | none => rw [e0] at h1; exact h1.elim
      | some bn =>
      obtain ⟨b, n⟩ := bn
      rw [e0] at h1
      simp only at h1
      cases e : (seqOf d).bind (rowsD b n) with
      | none => rw [e] at h1; exact h1.elim
      | some ks =>
        rw [e] at h1
        obtain ⟨⟨hz, hn⟩, h1⟩ := ROk.ifp h1
        obtain ⟨l, M, rfl, hl, ek, rows, len⟩ := Rp.seqRows hn r1 e
        rw [hK]
        have lenM : ∀ r ∈ M, r.2.length = n := fun r hr => len _ (by rw [← ek]; exact List.mem_map_of_mem hr)
        refine ⟨l, b, M, rfl, hl, rows, by rw [← List.length_map (f := (·.2)), ek]; exact hz, fun p1 L hp1 sub all => ?_⟩
        have x2 : Ext Γ H1 (upd H1 p1 (SetNO X.prog X.w p1 L)) := Ext.new _ hp1
        have up : ∀ a xs, H1 a = some (.tup xs) → upd H1 p1 (SetNO X.prog X.w p1 L) a = some (.tup xs) := fun a xs g => by rw [upd_ne (ne_of_none g hp1)]; exact g
        refine ⟨p1, b, n, L, rfl, upd_same, fun r hr => ?_, hn, fun M' q hM hall rise hq => ?_⟩
        · obtain ⟨r', hr', e⟩ := sub r hr
          exact ⟨r'.2, by rw [e], by rw [e]; exact (rows r' hr').keep up, lenM r' hr'⟩
        · have eks : M'.map (·.2) = setX ks := riseX_ext rise (setX_rise ks) fun z => by
            rw [mem_setX, ← ek]
            constructor
            · intro hz
              obtain ⟨r, hr, rfl⟩ := List.mem_map.mp hz
              obtain ⟨r', hr', e⟩ := sub _ (hM r hr).2
              have : keyS b r.2 = keyS b r'.2 := congrArg Prod.snd e
              rw [keyS_inj this]
              exact List.mem_map_of_mem hr'
            · intro hz
              obtain ⟨r, hr, rfl⟩ := List.mem_map.mp hz
              obtain ⟨y, hy, e⟩ := List.mem_map.mp (all r hr)
              obtain ⟨r', hr', e'⟩ := hall y hy
              rw [e'] at e
              rw [← keyS_inj (show keyS b r'.2 = keyS b r.2 from e)]
              exact List.mem_map_of_mem hr'
          have rl := rows_rpl (K := Γ.kr) (av := av) M' fun r hr => (hM r hr).1
          rw [eks] at rl
          exact new_bind (β := Unit) (δ := Unit) (ρ := ρ) (x1.trans x2) (h1.ext x2) hq rl
end
end Fw
end
set_option Elab.async false
set_option linter.all false
set_option autoImplicit false
set_option maxRecDepth 100000
set_option maxHeartbeats 4000000
/-! Fw53: x in l, l.index(x) of data; for over a plain value reckoned from containers of one's own. -/
noncomputable section
namespace Fw
open PySem PySem.Spec PyProof.Rows L2
theorem room65 {k : Nat} {A : Around} (r : Room k A) : A.units + 65 < cLine := by have := r.un; omega
def anyEq (neg : Bool) : D → D → Res D
  | a, .lst ds => match a.toPy, D.toPyL ds with
    | some p, some qs => if SeqAt.shaped p = true ∧ SeqAt.shaped (.list qs) = true then .ok (.bl (if neg then !qs.any fun z => PyData.eqv z p else qs.any fun z => PyData.eqv z p)) else .no
    | _, _ => .no
  | _, _ => .no
def D.inLst : D → D → Res D := anyEq false
def D.ninLst : D → D → Res D := anyEq true
/-- the first place of an equal one -/
def firstEq (p : PyData) : List PyData → Option Nat
  | [] => none
  | z :: r => if PyData.eqv z p = true then some 0 else (firstEq p r).map (· + 1)
theorem firstEq_some {p : PyData} : ∀ {qs : List PyData} {j : Nat}, firstEq p qs = some j → ∃ z, qs[j]? = some z ∧ PyData.eqv z p = true ∧ ∀ (m : Nat) (z' : PyData), m < j → qs[m]? = some z' → PyData.eqv z' p = false
  | [], j, h => by cases h
  | z :: r, j, h => by
    unfold firstEq at h
    by_cases c : PyData.eqv z p = true
    · rw [if_pos c] at h
      cases h
      exact ⟨z, rfl, c, fun m z' hm => absurd hm (Nat.not_lt_zero _)⟩
    · rw [if_neg c] at h
      cases e : firstEq p r with
      | none => rw [e] at h; cases h
      | some i =>
        rw [e] at h
        cases h
        obtain ⟨y, h1, h2, h3⟩ := firstEq_some e
        refine ⟨y, h1, h2, fun m z' hm hz => ?_⟩
        cases m with
        | zero => cases hz; simpa using c
        | succ m => exact h3 m z' (Nat.lt_of_succ_lt_succ hm) hz
def indexG : D → List D → Res D
  | .lst ds, [x] => match x.toPy, D.toPyL ds with
    | some p, some qs => if SeqAt.shaped p = true ∧ SeqAt.shaped (.list qs) = true then (match firstEq p qs with | some j => .ok (.int (j : Nat)) | none => .no) else .no
    | _, _ => .no
  | _, _ => .no
section
variable {X : Cx} {Γ : Gm} {E : XK} {o a b iter tg : Expr} {body : List Stmt} {pos apos cpos : Pos} {f fa fb : Env → Res D} {g : SEnv → Out} {t : Tg}
theorem dp_list {K : PySem.W.Frag} {r : Kr} (hr : r.K = K) {av : Addr → Prop} {H : Hp} {ds : List D} {l : Addr} {vs : List V} {qs : List PyData} (h : H l = some (.lst vs)) (q : RpL r av H ds vs) (e : D.toPyL ds = some qs) : Dp K H (.ref l) (.list qs) := .lst (SqL.of h) (RpL.dp q e)
theorem fit_anyEq (neg : Bool) (hK : X.K = Γ.K) : Fit2 Γ E (if neg then rNotInD X.K else rInD X.K) (anyEq neg) := by
  rw [hK]
  intro av H da db va vb Q wf ra rb h
  cases rb with
  | lst g n r =>
    rename_i l vs ds
    replace h : ROk Γ av H (fun H' d v => Rp Γ.kr av H' d v) (match da.toPy, D.toPyL ds with
      | some p, some qs => if SeqAt.shaped p = true ∧ SeqAt.shaped (.list qs) = true then .ok (.bl (if neg then !qs.any fun z => PyData.eqv z p else qs.any fun z => PyData.eqv z p)) else .no
      | _, _ => .no) Q E := h
    cases e1 : da.toPy with
    | none => rw [e1] at h; exact (show False from h).elim
    | some p =>
      cases e2 : D.toPyL ds with
      | none => rw [e1, e2] at h; exact (show False from h).elim
      | some qs =>
        rw [e1, e2] at h
        obtain ⟨⟨s1, s2⟩, h⟩ := ROk.ifp h
        cases neg with
        | true => exact ⟨p, qs, ra.dp e1, dp_list rfl g r e2, s1, s2, ROk.here h (.bl _)⟩
        | false => exact ⟨p, qs, ra.dp e1, dp_list rfl g r e2, s1, s2, ROk.here h (.bl _)⟩
  | _ => exact (show False from h).elim
theorem te_inL {k : Nat} (hr : Room k X.A) (ha : PE X a (eT Γ E fa)) (hb : PE X b (eT Γ E fb)) (hK : X.K = Γ.K := by rfl) (hm : behindInMarks .In b = false := by rfl) : PE X (.Compare a [.In] [b] pos) (eT Γ E (bin D.inLst fa fb)) := te_cmpR (op_inD (room65 hr)) (fit_anyEq false hK) ha hb hm
theorem te_ninL {k : Nat} (hr : Room k X.A) (ha : PE X a (eT Γ E fa)) (hb : PE X b (eT Γ E fb)) (hK : X.K = Γ.K := by rfl) (hm : behindInMarks .NotIn b = false := by rfl) : PE X (.Compare a [.NotIn] [b] pos) (eT Γ E (bin D.ninLst fa fb)) := te_cmpR (op_notInD (room65 hr)) (fit_anyEq true hK) ha hb hm
theorem tb_inL {k : Nat} (hr : Room k X.A) (ha : PE X a (eT Γ E fa)) (hb : PE X b (eT Γ E fb)) (hK : X.K = Γ.K := by rfl) (hm : behindInMarks .In b = false := by rfl) : PT X (.Compare a [.In] [b] pos) (bT Γ E (asTest (bin D.inLst fa fb))) := tb_cmpR (op_inD (room65 hr)) (fit_anyEq false hK) ha hb hm
theorem tb_ninL {k : Nat} (hr : Room k X.A) (ha : PE X a (eT Γ E fa)) (hb : PE X b (eT Γ E fb)) (hK : X.K = Γ.K := by rfl) (hm : behindInMarks .NotIn b = false := by rfl) : PT X (.Compare a [.NotIn] [b] pos) (bT Γ E (asTest (bin D.ninLst fa fb))) := tb_cmpR (op_notInD (room65 hr)) (fit_anyEq true hK) ha hb hm
theorem fit_index (hK : X.K = Γ.K) : FitM Γ E .lst (rIndexD X.K) indexG := by
  rw [hK]
  intro av H d v ds vs Q wf r rr h
  cases r with
  | lst g n r =>
    cases rr with
    | nil => exact (show False from h).elim
    | cons r1 rr =>
      cases rr with
      | cons _ _ => exact (show False from h).elim
      | nil =>
        rename_i l vs ds d' v'
        replace h : ROk Γ av H (fun H' d v => Rp Γ.kr av H' d v) (match d'.toPy, D.toPyL ds with
          | some p, some qs => if SeqAt.shaped p = true ∧ SeqAt.shaped (.list qs) = true then (match firstEq p qs with | some j => .ok (.int (j : Nat)) | none => .no) else .no
          | _, _ => .no) Q E := h
        cases e1 : d'.toPy with
        | none => rw [e1] at h; exact (show False from h).elim
        | some p =>
          cases e2 : D.toPyL ds with
          | none => rw [e1, e2] at h; exact (show False from h).elim
          | some qs =>
            rw [e1, e2] at h
            obtain ⟨⟨s1, s2⟩, h⟩ := ROk.ifp h
            cases e3 : firstEq p qs with
            | none => rw [e3] at h; exact (show False from h).elim
            | some j =>
              rw [e3] at h
              obtain ⟨z, h1, h2, h3⟩ := firstEq_some e3
              exact ⟨_, _, p, qs, j, z, rfl, rfl, dp_list rfl g r e2, r1.dp e1, s2, s1, h1, h2, h3, ROk.here h (.int _)⟩
  | _ => exact (show False from h).elim
theorem te_indexD {k : Nat} (hr : Room k X.A) (ho : PE X o (eT Γ E f)) (ha : PE X a (eT Γ E fa)) (hK : X.K = Γ.K := by rfl) (hbase : attributeBase o "index" X.env (eval o X.env) = eval o X.env := by rfl)
    (hfew : ((backTo cpos (starEach [a] X.env)).all (fun x => !x.1) && (backToKw cpos (keywordEach [] X.env)).all (fun x => x.1.isSome) && decide ([a].length + ([] : List Keyword).length + (if ([] : List Keyword).isEmpty then 0 else 1) < 30)) = true := by rfl)
    (hline : (apos.endLine == cpos.line) = true := by rfl) (hs : starEach [a] X.env = (false, eval a X.env) :: starEach [] X.env := by rfl) : PE X (.Call (.Attribute o "index" apos) [a] [] cpos) (eT Γ E (bmF .lst f (consA fa nilA) indexG)) :=
  te_bm (T := .lst) PySem.F.plainAttrs_list PySem.F.slot_list_index PySem.F.type_list_index (mt_indexD (room65 hr)) (.inl rfl) (fit_index hK) ho (ta_cons ha ta_nil hs) hbase hfew hline hs rfl
end
end Fw
end
set_option Elab.async false
set_option linter.all false
set_option autoImplicit false
set_option maxRecDepth 100000
set_option maxHeartbeats 4000000
/-! Fw54: a loop over a tuple without containers, reckoned from what may be a container of one's own. -/
noncomputable section
namespace Fw
open PySem PySem.Spec PyProof.Rows L2
def wP (Γ : Gm) (E : XK) (f : Env → Res (List D)) : TI := fun σ H R => ∃ av ρ, EnvV Γ av H σ ρ ∧ ROk Γ av H (fun H' ds (b : It × List (V × D)) => (∀ p ∈ b.2, p.2.pure = true) ∧ (∀ p ∈ b.2, Rp Γ.kr av H' p.2 p.1) ∧ Wlk Γ b.1 b.2 ds) (f ρ) (fun b H' => R b.1 H') E
def itemsP (f : Env → Res D) : Env → Res (List D) := fun ρ => (f ρ).bind fun d => match d with | .tup ds => if (D.tup ds).pure = true then .ok ds else .no | _ => .no
section
variable {X : Cx} {Γ : Gm} {E : XK} {a iter tg : Expr} {body : List Stmt} {pos : Pos} {fa : Env → Res D} {fi : Env → Res (List D)} {g : SEnv → Out} {t : Tg}
theorem wp_seq (h : PE X a (eT Γ E fa)) (hK : X.K = Γ.K := by rfl) : PI X tg a (wP Γ E (itemsP fa)) := by
  refine PI.imp (pi_seqA h) fun σ H R ⟨av, ρ, env, h⟩ => ?_
  rw [hK]
  refine eT_bind env h fun d v H1 x1 env1 r1 h1 => ?_
  cases r1 with
  | @tup a _ _ g r =>
    obtain ⟨hp, h1⟩ := ROk.ifp h1
    refine ⟨a, rfl, .inr (.inl ⟨⟨_, SqT.of g⟩, h1 (_, [(_, _)]) H1 (Ext.refl Γ H1) ⟨fun p hq => ?_, pin1 (.tup g r), wlk_tup⟩⟩)⟩
    rw [List.mem_singleton.mp hq]
    exact hp
  | _ => exact (show False from h1).elim
theorem ts_forP (hp : PassesOwn (model X.prog X.w) X.A X.env X.xe) (hc : X.calm = true) (hi : PI X tg iter (wP Γ E fi)) (hg : PG X tg (gT Γ t)) (hb : PSs X body (sT Γ E g)) (hnd : t.names.Nodup := by decide)
    (hs : ∀ x, foldedSetIterable iter X.env x = pure x := by intro _; rfl) : PS X (.For tg iter body [] pos) (sT Γ E (forRO fi t g)) :=
  PS.imp (ps_for hp hc hi hg hb hs) fun Z σ H ⟨amb, H0, mr, tmp, ρ, ⟨ad, S⟩, h⟩ =>
    ⟨_, _, S.envAll, SOk.bind S h fun ds b H1 x1 S1 r h1 => loop_run hnd S1 (fun p hq => (r.2.1 p hq).pureUp (r.1 p hq)) r.2.2 h1⟩
end
end Fw
end
set_option Elab.async false
set_option linter.all false
set_option autoImplicit false
set_option maxRecDepth 100000
set_option maxHeartbeats 4000000
/-! Fw55: places in lists of rows, plainly. -/
noncomputable section
namespace Fw
open PySem
/-- the first place of a row -/
def placeIn (x : List Int) : List (List Int) → Nat
  | [] => 0
  | y :: r => if y = x then 0 else placeIn x r + 1
theorem placeIn_inj {x y : List Int} : ∀ {L : List (List Int)}, x ∈ L → y ∈ L → placeIn x L = placeIn y L → x = y
  | [], h, _, _ => by cases h
  | z :: L, hx, hy, h => by
    unfold placeIn at h
    by_cases c1 : z = x
    · by_cases c2 : z = y
      · rw [← c1, c2]
      · rw [if_pos c1, if_neg c2] at h; omega
    · by_cases c2 : z = y
      · rw [if_neg c1, if_pos c2] at h; omega
      · rw [if_neg c1, if_neg c2] at h
        have hx : x ∈ L := by
          rcases List.mem_cons.mp hx with e | e
          · exact absurd e.symm c1
          · exact e
        have hy : y ∈ L := by
          rcases List.mem_cons.mp hy with e | e
          · exact absurd e.symm c2
          · exact e
        exact placeIn_inj hx hy (by omega)
theorem unrow_inj {b : Bool} {x y : List Int} (hx : 1 ≤ x.length) (hy : 1 ≤ y.length) (h : unrow b x = unrow b y) : x = y := by
  have h1 := rowK2_unrow b x hx
  rw [h, rowK2_unrow b y hy] at h1
  have := Option.some.inj h1
  exact ((Prod.mk.inj this).2).symm
theorem fl_ints (ns : List Int) (n : Nat) : ∀ d ∈ ns.map D.int, Fl n d := fun d hd => by
  obtain ⟨i, _, rfl⟩ := List.mem_map.mp hd
  exact .int _ _
theorem fl_unrow (b : Bool) (x : List Int) : Fl 2 (unrow b x) := by
  cases b with
  | false => exact .tup 1 _ (fl_ints x 1)
  | true =>
    cases x with
    | nil => exact .non _
    | cons m ts =>
      refine .tup 1 _ fun d hd => ?_
      rcases List.mem_cons.mp hd with rfl | hd
      · exact .int _ _
      · rw [List.mem_singleton.mp hd]
        exact .tup 0 _ (fl_ints ts 0)
theorem first_row {b : Bool} {x : List Int} {p : PyData} (hx : 1 ≤ x.length) (e : (unrow b x).toPy = some p) : ∀ (L : List (List Int)), x ∈ L → (∀ k ∈ L, 1 ≤ k.length) → ∃ qs, D.toPyL (L.map (unrow b)) = some qs ∧ firstEq p qs = some (placeIn x L)
  | [], h, _ => by cases h
  | y :: L, h, hl => by
    obtain ⟨q, q1, _, _⟩ := (fl_unrow b y).py
    have ev := (fl_unrow b y).eqv (fl_unrow b x) q1 e
    obtain ⟨qs', r1, _, _⟩ := pyL (n := 2) (ds := L.map (unrow b)) fun d hd => by
      obtain ⟨k, _, rfl⟩ := List.mem_map.mp hd
      exact (fl_unrow b k).py
    refine ⟨q :: qs', by rw [List.map_cons, D.toPyL, q1, r1], ?_⟩
    unfold firstEq placeIn
    by_cases c : y = x
    · rw [if_pos (ev.mpr (by rw [c])), if_pos c]
    · rw [if_neg (fun z => c (unrow_inj (hl y List.mem_cons_self) hx (ev.mp z))), if_neg c]
      have hm : x ∈ L := by
        rcases List.mem_cons.mp h with z | z
        · exact absurd z.symm c
        · exact z
      obtain ⟨qs, g1, g2⟩ := first_row hx e L hm fun k hk => hl k (List.mem_cons_of_mem _ hk)
      rw [r1] at g1
      cases g1
      rw [g2]
      rfl
theorem index_row {b : Bool} {x : List Int} {L : List (List Int)} (h : x ∈ L) (hl : ∀ k ∈ L, 1 ≤ k.length) : indexG (.lst (L.map (unrow b))) [unrow b x] = .ok (.int (placeIn x L : Nat)) := by
  obtain ⟨p, p1, p2, p3⟩ := (fl_unrow b x).py
  obtain ⟨qs, q1, q2⟩ := first_row (hl x h) p1 L h hl
  obtain ⟨pl, l1, l2, l3⟩ := (Fl.lst 2 (L.map (unrow b)) fun d hd => by
    obtain ⟨k, _, rfl⟩ := List.mem_map.mp hd
    exact fl_unrow b k : Fl 3 (.lst (L.map (unrow b)))).py
  rw [D.toPy, q1] at l1
  cases l1
  have s1 : SeqAt.shaped p = true := Bool.and_eq_true_iff.mpr ⟨p2, decide_eq_true (by omega)⟩
  have s2 : SeqAt.shaped (.list qs) = true := Bool.and_eq_true_iff.mpr ⟨l2, decide_eq_true (by omega)⟩
  show (match (unrow b x).toPy, D.toPyL (L.map (unrow b)) with
    | some p, some qs => if SeqAt.shaped p = true ∧ SeqAt.shaped (.list qs) = true then (match firstEq p qs with | some j => .ok (.int (j : Nat)) | none => .no) else .no
    | _, _ => .no : Res D) = _
  rw [p1, q1]
  simp only [s1, s2, and_self, if_true, q2]
open Classical in
/-- x in l, of plain things -/
theorem any_fl {x : D} {n m : Nat} {p : PyData} (hx : Fl n x) (e : x.toPy = some p) : ∀ (ds : List D) (qs : List PyData), (∀ d ∈ ds, Fl m d) → D.toPyL ds = some qs → (qs.any fun z => PyData.eqv z p) = decide (x ∈ ds)
  | [], qs, _, h => by cases h; simp
  | d :: ds, qs, hl, h => by
    obtain ⟨q, q1, _, _⟩ := (hl d List.mem_cons_self).py
    obtain ⟨qs', r1, _, _⟩ := pyL (n := m) (ds := ds) fun d hd => (hl d (List.mem_cons_of_mem _ hd)).py
    rw [D.toPyL, q1, r1] at h
    cases h
    have ev := (hl d List.mem_cons_self).eqv hx q1 e
    have ih := any_fl hx e ds qs' (fun d hd => hl d (List.mem_cons_of_mem _ hd)) r1
    rw [List.any_cons, ih, Bool.eq_iff_iff, Bool.or_eq_true, decide_eq_true_iff, decide_eq_true_iff, List.mem_cons, ev]
    constructor
    · rintro (h | h)
      · exact .inl h.symm
      · exact .inr h
    · rintro (h | h)
      · exact .inl h.symm
      · exact .inr h
open Classical in
theorem anyEq_fl (neg : Bool) {x : D} {n m : Nat} {ds : List D} (hx : Fl n x) (hd : ∀ d ∈ ds, Fl m d) (hn : n ≤ 64 := by decide) (hm : m ≤ 63 := by decide) : anyEq neg x (.lst ds) = .ok (.bl (if neg then !(decide (x ∈ ds)) else decide (x ∈ ds))) := by
  obtain ⟨p, p1, p2, p3⟩ := hx.py
  obtain ⟨pl, l1, l2, l3⟩ := (Fl.lst m ds hd).py
  rw [D.toPy] at l1
  cases q1 : D.toPyL ds with
  | none => rw [q1] at l1; cases l1
  | some qs =>
    rw [q1] at l1
    cases l1
    have s1 : SeqAt.shaped p = true := Bool.and_eq_true_iff.mpr ⟨p2, decide_eq_true (by omega)⟩
    have s2 : SeqAt.shaped (.list qs) = true := Bool.and_eq_true_iff.mpr ⟨l2, decide_eq_true (by omega)⟩
    have e := any_fl hx p1 ds qs hd q1
    show (match x.toPy, D.toPyL ds with
      | some p, some qs => if SeqAt.shaped p = true ∧ SeqAt.shaped (.list qs) = true then .ok (.bl (if neg then !qs.any fun z => PyData.eqv z p else qs.any fun z => PyData.eqv z p)) else .no
      | _, _ => .no : Res D) = _
    rw [p1, q1]
    simp only [s1, s2, and_self, if_true, e]
/-- a comprehension over a mapped list -/
theorem lcLs {α : Type} (f g : α → D) {fe : Env → Res D} {r : Env} {i : Nat} : ∀ L : List α, (∀ x ∈ L, fe (r.set i (some (f x))) = .ok (g x)) → lcL (.nm i) yesB fe r (L.map f) = .ok (L.map g)
  | [], _ => rfl
  | x :: L, h => by
    have ih := lcLs f g L fun y hy => h y (List.mem_cons_of_mem _ hy)
    have e := h x List.mem_cons_self
    simp [lcL, e, ih]
theorem rangeD_nat (n : Nat) : rangeD 0 n = (List.range n).map fun (s : Nat) => D.int (s : Int) := by
  unfold rangeD
  exact List.map_congr_left fun s _ => by simp
theorem lenSet_ints (ns : List Int) (h : ns.length < 64) : D.lenSet (.lst (iL ns)) = .ok (.int ((setI ns).length : Nat)) := by
  have e : intsIn (.lst (iL ns)) = some ns := intsOf_map ns
  unfold D.lenSet
  simp only [e, h, if_true]
/-! ### marks: classes and their number -/
def mks (n : Nat) (m : Nat → Nat) : List Int := (List.range n).map fun s => (m s : Int)
def cntM (n : Nat) (m : Nat → Nat) : Nat := (setI (mks n m)).length
theorem mks_len (n : Nat) (m : Nat → Nat) : (mks n m).length = n := by simp [mks]
theorem mks_get {n : Nat} {m : Nat → Nat} {s : Nat} (h : s < n) : (mks n m).getD s 0 = (m s : Int) := by
  unfold mks
  rw [List.getD_eq_getElem?_getD, List.getElem?_map, List.getElem?_range h]
  rfl
theorem mks_in {n : Nat} {m : Nat → Nat} {v : Int} : v ∈ setI (mks n m) ↔ ∃ s, s < n ∧ (m s : Int) = v := by
  rw [mem_setI]
  unfold mks
  constructor
  · intro h
    obtain ⟨s, hs, e⟩ := List.mem_map.mp h
    exact ⟨s, List.mem_range.mp hs, e⟩
  · rintro ⟨s, hs, e⟩
    exact List.mem_map.mpr ⟨s, List.mem_range.mpr hs, e⟩
theorem setI_nd (l : List Int) : (setI l).Nodup := (setI_rise l).imp fun {a b} h => Int.ne_of_lt h
theorem cntM_le (n : Nat) (m : Nat → Nat) : cntM n m ≤ n := by
  have := setI_le (mks n m)
  rwa [mks_len] at this
theorem cntM_pos {n : Nat} {m : Nat → Nat} (h : 1 ≤ n) : 1 ≤ cntM n m := by
  have : (m 0 : Int) ∈ setI (mks n m) := mks_in.mpr ⟨0, h, rfl⟩
  exact List.length_pos_of_mem this
/-- a refinement with no more classes makes the same classes -/
theorem cntM_merge {n : Nat} {f g : Nat → Nat} (hr : ∀ s t, s < n → t < n → g s = g t → f s = f t) (hc : cntM n g ≤ cntM n f) : ∀ s t, s < n → t < n → f s = f t → g s = g t := by
  intro s t hs ht e
  refine Classical.byContradiction fun hne => ?_
  have hex : ∃ h : Int → Int, ∀ u, u < n → h (g u) = (f u : Int) := by
    refine ⟨fun v => @dite Int (∃ u, u < n ∧ (g u : Int) = v) (Classical.propDecidable _) (fun z => (f (Classical.choose z) : Int)) (fun _ => 0), fun u hu => ?_⟩
    have z : ∃ w, w < n ∧ (g w : Int) = (g u : Int) := ⟨u, hu, rfl⟩
    have hs := Classical.choose_spec z
    simp only [z, dif_pos]
    have := hr _ _ hs.1 hu (by have := hs.2; omega)
    rw [this]
  obtain ⟨h, hh⟩ := hex
  have hm : (g t : Int) ∈ setI (mks n g) := mks_in.mpr ⟨t, ht, rfl⟩
  have sub : setI (mks n f) ⊆ (((setI (mks n g)).erase (g t : Int)).map h) := fun v hv => by
    obtain ⟨u, hu, rfl⟩ := mks_in.mp hv
    by_cases c : g u = g t
    · refine List.mem_map.mpr ⟨(g s : Int), (List.mem_erase_of_ne (by omega)).mpr (mks_in.mpr ⟨s, hs, rfl⟩), ?_⟩
      rw [hh s hs, e, hr u t hu ht c]
    · exact List.mem_map.mpr ⟨(g u : Int), (List.mem_erase_of_ne (by omega)).mpr (mks_in.mpr ⟨u, hu, rfl⟩), hh u hu⟩
  have h1 := (setI_nd (mks n f)).length_le_of_subset sub
  rw [List.length_map, List.length_erase_of_mem hm] at h1
  have h2 := List.length_pos_of_mem hm
  unfold cntM at hc
  omega
end Fw
end
set_option Elab.async false
set_option linter.all false
set_option autoImplicit false
set_option maxRecDepth 100000
set_option maxHeartbeats 4000000
/-! Fw56: x or y as a value, by truth. -/
noncomputable section
namespace Fw
open PySem PySem.Spec PyProof.Rows L2
def orV (f g : Env → Res D) : Env → Res D := fun ρ => (f ρ).bind fun d => d.truth.bind fun k => if k then .ok d else g ρ
section
variable {X : Cx} {Γ : Gm} {E : XK} {a b : Expr} {rest : List Expr} {pos : Pos} {fa fb : Env → Res D}
theorem truth_bind {β δ : Type} {av : Addr → Prop} {H : Hp} {d : D} {v : V} {k : Bool → Res β} {rel : Hp → β → δ → Prop} {Q : δ → Hp → Prop} (r : Rp Γ.kr av H d v) (h : ROk Γ av H rel (d.truth.bind k) Q E) : ∃ c, TruV Γ.K v H c ∧ ROk Γ av H rel (k c) Q E := by
  have sized : ∀ {ds : List D} {vs : List V}, RpL Γ.kr av H ds vs → ds.isEmpty = vs.isEmpty := fun r => by cases r <;> rfl
  cases r with
  | non => exact ⟨false, rfl, h⟩
  | bl c => exact ⟨c, rfl, h⟩
  | int i => exact ⟨_, rfl, h⟩
  | @tup a vs ds g r => exact ⟨!vs.isEmpty, .inr (.inl ⟨_, SqT.of g, rfl⟩), by rw [← sized r]; exact h⟩
  | @lst a vs ds g n r => exact ⟨!vs.isEmpty, .inl ⟨_, SqL.of g, rfl⟩, by rw [← sized r]; exact h⟩
  | str x =>
    by_cases hz : x.length ≤ lim
    · have e : (D.str x).truth = .ok ((x.length : Int) != 0) := if_pos hz
      rw [e] at h
      exact ⟨_, ⟨by rw [lim_eq]; exact hz, rfl⟩, h⟩
    · have e : (D.str x).truth = .no := if_neg hz
      rw [e] at h
      exact (show False from h).elim
  | @ftp a o vs ds g n r => exact ⟨!vs.isEmpty, .inr (.inl ⟨_, .inl (.inr ⟨o, g⟩), rfl⟩), by rw [← sized r]; exact h⟩
  | _ => exact (show False from h).elim
theorem te_orV (h : PE X a (eT Γ E fa)) (h' : PE X (.BoolOp .Or (b :: rest) pos) (eT Γ E fb)) (hK : X.K = Γ.K := by rfl) : PE X (.BoolOp .Or (a :: b :: rest) pos) (eT Γ E (orV fa fb)) :=
  PE.imp (pe_orT h h') fun σ H Q ⟨av, ρ, env, h⟩ => eT_bind env h fun d v H1 x1 env1 r1 h1 => by
    obtain ⟨c, e, h2⟩ := truth_bind r1 h1
    refine ⟨c, hK ▸ e, ?_⟩
    cases c with
    | true => exact iteT (ROk.here h2 r1)
    | false => exact iteF ⟨av, ρ, env1, h2⟩
end
end Fw
end
set_option Elab.async false
set_option linter.all false
set_option autoImplicit false
set_option maxRecDepth 100000
set_option maxHeartbeats 4000000
/-! printed by wip/gen.py -/
noncomputable section
namespace Lw
open PySem PySem.Spec PyProof.Rows L2 Fw
def N_n_is_number : List Str := ["value", "low", "high"]
theorem nd_n_is_number : N_n_is_number.Nodup := by decide +kernel
def g_n_is_number : SEnv → Out :=
  (fun ρ => bindO ((andD (isiF (fun ρ => vr ρ 0) .int) (andD (notD (isiF (fun ρ => vr ρ 0) .bl)) (chain D.le D.le (fun ρ => vr ρ 1) (fun ρ => vr ρ 0) (fun ρ => vr ρ 2)))) ρ.noRow) fun d => .rt d ρ)
def F_n_is_number : List D → Res D := defF 3 g_n_is_number
def N_n_are_rows : List Str := ["value", "states", "letters", "most", "row", "one"]
theorem nd_n_are_rows : N_n_are_rows.Nodup := by decide +kernel
def ge_n_are_rows_1 : Fw.Env → Res D :=
  (app (callF 3 F_n_is_number) (consA (fun ρ => vr ρ 5) (consA (fun _ => .ok (.int 0)) (consA (fun ρ => vr ρ 3) nilA))))
def lb_n_are_rows_1 : SEnv → Out :=
  (ifO (orB (notB (truthOf (isiF (fun ρ => vr ρ 4) .tup))) (orB (asTest (bin D.ne (app (on1 lenN) (consA (fun ρ => vr ρ 4) nilA)) (fun ρ => vr ρ 2))) (notB (truthOf (genD false (itemsF (fun ρ => vr ρ 4)) (.nm 5) ge_n_are_rows_1 [5])))))
  (fun ρ => bindO ((fun _ => .ok (.bl false)) ρ.noRow) fun d => .rt d ρ)
  .nx)
def g_n_are_rows : SEnv → Out :=
  (seqO (ifO (orB (notB (truthOf (isiF (fun ρ => vr ρ 0) .tup))) (asTest (bin D.ne (app (on1 lenN) (consA (fun ρ => vr ρ 0) nilA)) (fun ρ => vr ρ 1))))
  (fun ρ => bindO ((fun _ => .ok (.bl false)) ρ.noRow) fun d => .rt d ρ)
  .nx)
  (seqO (forO (itemsF (fun ρ => vr ρ 0)) (.nm 4) lb_n_are_rows_1)
  (fun ρ => bindO ((fun _ => .ok (.bl true)) ρ.noRow) fun d => .rt d ρ)))
def F_n_are_rows : List D → Res D := defF 6 g_n_are_rows
def N_n_need_machine : List Str := ["value", "steps", "answers", "letters"]
theorem nd_n_need_machine : N_n_need_machine.Nodup := by decide +kernel
def g_n_need_machine : SEnv → Out :=
  (seqO (ifO (orB (notB (truthOf (isiF (fun ρ => vr ρ 0) .tup))) (asTest (bin D.ne (app (on1 lenN) (consA (fun ρ => vr ρ 0) nilA)) (fun _ => .ok (.int 2)))))
  (fun _ => .no)
  .nx)
  (seqO (unpO (fun ρ => vr ρ 0) (.tp [(.nm 1), (.nm 2)]))
  (seqO (ifO (orB (notB (truthOf (isiF (fun ρ => vr ρ 1) .tup))) (orB (notB (asTest (chain D.le D.le (fun _ => .ok (.int 1)) (app (on1 lenN) (consA (fun ρ => vr ρ 1) nilA)) (fun _ => .ok (.int 6))))) (notB (truthOf (isiF (bin D.ix (fun ρ => vr ρ 1) (fun _ => .ok (.int 0))) .tup)))))
  (fun _ => .no)
  .nx)
  (seqO (fun ρ => bindO ((app (on1 lenN) (consA (bin D.ix (fun ρ => vr ρ 1) (fun _ => .ok (.int 0))) nilA)) ρ.vis) fun d => setO ρ 3 (.val d))
  (seqO (ifO (orB (notB (asTest (chain D.le D.le (fun _ => .ok (.int 1)) (fun ρ => vr ρ 3) (fun _ => .ok (.int 3))))) (notB (truthOf (app (callF 4 F_n_are_rows) (consA (fun ρ => vr ρ 1) (consA (app (on1 lenN) (consA (fun ρ => vr ρ 1) nilA)) (consA (fun ρ => vr ρ 3) (consA (bin D.sub (app (on1 lenN) (consA (fun ρ => vr ρ 1) nilA)) (fun _ => .ok (.int 1))) nilA))))))))
  (fun _ => .no)
  .nx)
  (ifO (notB (truthOf (app (callF 4 F_n_are_rows) (consA (fun ρ => vr ρ 2) (consA (app (on1 lenN) (consA (fun ρ => vr ρ 1) nilA)) (consA (fun ρ => vr ρ 3) (consA (fun _ => .ok (.int 9)) nilA)))))))
  (fun _ => .no)
  .nx))))))
def F_n_need_machine : List D → Res D := defF 4 g_n_need_machine
def N_n_letters_of : List Str := ["machine"]
theorem nd_n_letters_of : N_n_letters_of.Nodup := by decide +kernel
def g_n_letters_of : SEnv → Out :=
  (fun ρ => bindO ((app (on1 lenN) (consA (bin D.ix (bin D.ix (fun ρ => vr ρ 0) (fun _ => .ok (.int 0))) (fun _ => .ok (.int 0))) nilA)) ρ.noRow) fun d => .rt d ρ)
def F_n_letters_of : List D → Res D := defF 1 g_n_letters_of
def N_n_is_word : List Str := ["machine", "value", "letter"]
theorem nd_n_is_word : N_n_is_word.Nodup := by decide +kernel
def ge_n_is_word_1 : Fw.Env → Res D :=
  (app (callF 3 F_n_is_number) (consA (fun ρ => vr ρ 2) (consA (fun _ => .ok (.int 0)) (consA (bin D.sub (app (callF 1 F_n_letters_of) (consA (fun ρ => vr ρ 0) nilA)) (fun _ => .ok (.int 1))) nilA))))
def g_n_is_word : SEnv → Out :=
  (seqO (ifO (orB (notB (truthOf (isiF (fun ρ => vr ρ 1) .tup))) (asTest (bin D.gt (app (on1 lenN) (consA (fun ρ => vr ρ 1) nilA)) (fun _ => .ok (.int 4000)))))
  (fun ρ => bindO ((fun _ => .ok (.bl false)) ρ.noRow) fun d => .rt d ρ)
  .nx)
  (fun ρ => bindO ((genD false (itemsF (fun ρ => vr ρ 1)) (.nm 2) ge_n_is_word_1 [2]) ρ.noRow) fun d => .rt d ρ))
def F_n_is_word : List D → Res D := defF 3 g_n_is_word
def N_n_need_word : List Str := ["machine", "value"]
theorem nd_n_need_word : N_n_need_word.Nodup := by decide +kernel
def g_n_need_word : SEnv → Out :=
  (ifO (notB (truthOf (app (callF 2 F_n_is_word) (consA (fun ρ => vr ρ 0) (consA (fun ρ => vr ρ 1) nilA)))))
  (fun _ => .no)
  .nx)
def F_n_need_word : List D → Res D := defF 2 g_n_need_word
def N_n_need_state : List Str := ["machine", "value"]
theorem nd_n_need_state : N_n_need_state.Nodup := by decide +kernel
def g_n_need_state : SEnv → Out :=
  (ifO (notB (truthOf (app (callF 3 F_n_is_number) (consA (fun ρ => vr ρ 1) (consA (fun _ => .ok (.int 0)) (consA (bin D.sub (app (on1 lenN) (consA (bin D.ix (fun ρ => vr ρ 0) (fun _ => .ok (.int 0))) nilA)) (fun _ => .ok (.int 1))) nilA))))))
  (fun _ => .no)
  .nx)
def F_n_need_state : List D → Res D := defF 2 g_n_need_state
def N_n_told : List Str := ["machine", "state", "word", "found", "letter"]
theorem nd_n_told : N_n_told.Nodup := by decide +kernel
def lb_n_told_1 : SEnv → Out :=
  (seqO (appVO (bin D.ix (bin D.ix (bin D.ix (fun ρ => vr ρ 0) (fun _ => .ok (.int 1))) (fun ρ => vr ρ 1)) (fun ρ => vr ρ 4)) 3)
  (fun ρ => bindO ((bin D.ix (bin D.ix (bin D.ix (fun ρ => vr ρ 0) (fun _ => .ok (.int 0))) (fun ρ => vr ρ 1)) (fun ρ => vr ρ 4)) ρ.vis) fun d => setO ρ 1 (.val d)))
def g_n_told : SEnv → Out :=
  (seqO (fun ρ => bindO ((lstF nilA) ρ.vis) fun d => setO ρ 3 (.own d))
  (seqO (forO (itemsF (fun ρ => vr ρ 2)) (.nm 4) lb_n_told_1)
  (fun ρ => bindO ((fun ρ => vr ρ 3) ρ.noRow) fun d => .rt d ρ)))
def F_n_told : List D → Res D := defF 5 g_n_told
def N_n_answers : List Str := ["machine", "state", "word"]
theorem nd_n_answers : N_n_answers.Nodup := by decide +kernel
def g_n_answers : SEnv → Out :=
  (seqO (fun ρ => bindO ((app (callF 1 F_n_need_machine) (consA (fun ρ => vr ρ 0) nilA)) ρ.all) fun _ => .nx ρ)
  (seqO (fun ρ => bindO ((app (callF 2 F_n_need_state) (consA (fun ρ => vr ρ 0) (consA (fun ρ => vr ρ 1) nilA))) ρ.all) fun _ => .nx ρ)
  (seqO (fun ρ => bindO ((app (callF 2 F_n_need_word) (consA (fun ρ => vr ρ 0) (consA (fun ρ => vr ρ 2) nilA))) ρ.all) fun _ => .nx ρ)
  (fun ρ => bindO ((app (on1 D.toTup) (consA (app (callF 3 F_n_told) (consA (fun ρ => vr ρ 0) (consA (fun ρ => vr ρ 1) (consA (fun ρ => vr ρ 2) nilA)))) nilA)) ρ.noRow) fun d => .rt d ρ))))
def F_n_answers : List D → Res D := defF 3 g_n_answers
def N_n_marks_of : List Str := ["machine", "steps", "told_by", "rows", "marks", "many", "known", "row", "state", "there"]
theorem nd_n_marks_of : N_n_marks_of.Nodup := by decide +kernel
def ce_n_marks_of_1 : Fw.Env → Res D :=
  (bmF .lst (fun ρ => vr ρ 3) (consA (fun ρ => vr ρ 7) nilA) indexG)
def ce_n_marks_of_2 : Fw.Env → Res D :=
  (bin D.ix (fun ρ => vr ρ 4) (fun ρ => vr ρ 9))
def ce_n_marks_of_3 : Fw.Env → Res D :=
  (tupF (consA (bin D.ix (fun ρ => vr ρ 4) (fun ρ => vr ρ 8)) (consA (app (on1 D.toTup) (consA (lcD (itemsF (bin D.ix (fun ρ => vr ρ 1) (fun ρ => vr ρ 8))) (.nm 9) yesB ce_n_marks_of_2 [9]) nilA)) nilA)))
def ce_n_marks_of_4 : Fw.Env → Res D :=
  (bmF .lst (fun ρ => vr ρ 6) (consA (fun ρ => vr ρ 7) nilA) indexG)
def wb_n_marks_of_1 : SEnv → Out :=
  (seqO (fun ρ => bindO ((app (on1 D.lenSet) (consA (fun ρ => vr ρ 4) nilA)) ρ.vis) fun d => setO ρ 5 (.val d))
  (seqO (fun ρ => bindO ((lcD (itL rng1L (consA (app (on1 lenN) (consA (fun ρ => vr ρ 1) nilA)) nilA)) (.nm 8) yesB ce_n_marks_of_3 [8]) ρ.vis) fun d => setO ρ 3 (.val d))
  (seqO (fun ρ => bindO ((app (on1 D.sortSetR) (consA (fun ρ => vr ρ 3) nilA)) ρ.vis) fun d => setO ρ 6 (.val d))
  (fun ρ => bindO ((lcD (itemsF (fun ρ => vr ρ 3)) (.nm 7) yesB ce_n_marks_of_4 [7]) ρ.vis) fun d => setO ρ 4 (.val d)))))
def wt_n_marks_of_1 : Fw.Env → Res Bool :=
  (asTest (bin D.gt (app (on1 D.lenSet) (consA (fun ρ => vr ρ 4) nilA)) (fun ρ => vr ρ 5)))
def g_n_marks_of : SEnv → Out :=
  (seqO (unpO (fun ρ => vr ρ 0) (.tp [(.nm 1), (.nm 2)]))
  (seqO (fun ρ => bindO ((app (on1 D.sortSetR) (consA (fun ρ => vr ρ 2) nilA)) ρ.vis) fun d => setO ρ 3 (.val d))
  (seqO (parO [4, 5] (kCons (hV (lcD (itemsF (fun ρ => vr ρ 2)) (.nm 7) yesB ce_n_marks_of_1 [7])) (kCons (hV (fun _ => .ok (.int 0))) kNil)))
  (seqO (whileO wt_n_marks_of_1 wb_n_marks_of_1 lim)
  (fun ρ => bindO ((fun ρ => vr ρ 4) ρ.noRow) fun d => .rt d ρ)))))
def F_n_marks_of : List D → Res D := defF 10 g_n_marks_of
def N_n_least_of : List Str := ["machine", "marks", "firsts", "names", "rows", "row", "there", "state"]
theorem nd_n_least_of : N_n_least_of.Nodup := by decide +kernel
def lb_n_least_of_1 : SEnv → Out :=
  (seqO (ifO (asTest (bin D.ninD (bin D.ix (fun ρ => vr ρ 1) (fun ρ => vr ρ 6)) (fun ρ => vr ρ 3)))
  (seqO (dputO (app (on1 lenN) (consA (fun ρ => vr ρ 2) nilA)) 3 (bin D.ix (fun ρ => vr ρ 1) (fun ρ => vr ρ 6)))
  (appVO (fun ρ => vr ρ 6) 2))
  .nx)
  (appO (bin D.dget (fun ρ => vr ρ 3) (bin D.ix (fun ρ => vr ρ 1) (fun ρ => vr ρ 6))) 5))
def wb_n_least_of_1 : SEnv → Out :=
  (seqO (fun ρ => bindO ((lstF nilA) ρ.vis) fun d => setO ρ 5 (.own d))
  (seqO (forRO (itemsP (bin D.ix (bin D.ix (fun ρ => vr ρ 0) (fun _ => .ok (.int 0))) (bin D.ix (fun ρ => vr ρ 2) (app (on1 lenN) (consA (fun ρ => vr ρ 4) nilA))))) (.nm 6) lb_n_least_of_1)
  (appO (app (on1 D.toTup) (consA (fun ρ => vr ρ 5) nilA)) 4)))
def wt_n_least_of_1 : Fw.Env → Res Bool :=
  (asTest (bin D.lt (app (on1 lenN) (consA (fun ρ => vr ρ 4) nilA)) (app (on1 lenN) (consA (fun ρ => vr ρ 2) nilA))))
def ce_n_least_of_1 : Fw.Env → Res D :=
  (bin D.ix (bin D.ix (fun ρ => vr ρ 0) (fun _ => .ok (.int 1))) (fun ρ => vr ρ 7))
def g_n_least_of : SEnv → Out :=
  (seqO (fun ρ => bindO ((app (callF 1 F_n_marks_of) (consA (fun ρ => vr ρ 0) nilA)) ρ.vis) fun d => setO ρ 1 (.val d))
  (seqO (parO [2, 3] (kCons (hNV (lstF (consA (fun _ => .ok (.int 0)) nilA))) (kCons (hNV (dispF (bin D.ix (fun ρ => vr ρ 1) (fun _ => .ok (.int 0))) (fun _ => .ok (.int 0)))) kNil)))
  (seqO (fun ρ => bindO ((lstF nilA) ρ.vis) fun d => setO ρ 4 (.own d))
  (seqO (whileO wt_n_least_of_1 wb_n_least_of_1 lim)
  (fun ρ => bindO ((tupF (consA (app (on1 D.toTup) (consA (fun ρ => vr ρ 4) nilA)) (consA (app (on1 D.toTup) (consA (lcD (itemsF (fun ρ => vr ρ 2)) (.nm 7) yesB ce_n_least_of_1 [7]) nilA)) nilA))) ρ.noRow) fun d => .rt d ρ)))))
def F_n_least_of : List D → Res D := defF 8 g_n_least_of
def N_n_least_machine : List Str := ["machine"]
theorem nd_n_least_machine : N_n_least_machine.Nodup := by decide +kernel
def g_n_least_machine : SEnv → Out :=
  (seqO (fun ρ => bindO ((app (callF 1 F_n_need_machine) (consA (fun ρ => vr ρ 0) nilA)) ρ.all) fun _ => .nx ρ)
  (fun ρ => bindO ((app (callF 1 F_n_least_of) (consA (fun ρ => vr ρ 0) nilA)) ρ.noRow) fun d => .rt d ρ))
def F_n_least_machine : List D → Res D := defF 1 g_n_least_machine
def N_n__law_taken : List Str := ["_law_row", "_law_many", "_law_found", "_law_cell"]
theorem nd_n__law_taken : N_n__law_taken.Nodup := by decide +kernel
def g_n__law_taken : SEnv → Out :=
  (seqO (ifO (asTest (bin D.gt (bin D.ix (fun ρ => vr ρ 0) (fun _ => .ok (.int 3))) (fun _ => .ok (.int 0))))
  (seqO (fun ρ => bindO ((bin D.mod (app (on1 D.toInt) (consA (bin D.ix (fun ρ => vr ρ 0) (fun _ => .ok (.int 3))) nilA)) (fun ρ => vr ρ 1)) ρ.all) fun d => purO d (setO ρ 2 (.val d)))
  (seqO (setiO (bin D.fdiv (bin D.ix (fun ρ => vr ρ 0) (fun _ => .ok (.int 3))) (fun ρ => vr ρ 1)) 0 (fun _ => .ok (.int 3)))
  (fun ρ => bindO ((fun ρ => vr ρ 2) ρ.all) fun d => purO d (.rt d ρ))))
  .nx)
  (seqO (setiO (bin D.add (bin D.ix (fun ρ => vr ρ 0) (fun _ => .ok (.int 1))) (fun _ => .ok (.int 1))) 0 (fun _ => .ok (.int 1)))
  (seqO (ifO (asTest (bin D.gt (bin D.ix (fun ρ => vr ρ 0) (fun _ => .ok (.int 1))) (app (on1 lenN) (consA (bin D.ix (fun ρ => vr ρ 0) (fun _ => .ok (.int 0))) nilA))))
  (seqO (setiO (bin D.mod (app (on1 D.toInt) (consA (bin D.add (bin D.mul (bin D.ix (fun ρ => vr ρ 0) (fun _ => .ok (.int 2))) (fun _ => .ok (.int 48271))) (fun _ => .ok (.int 11))) nilA)) (fun _ => .ok (.int 2147483647))) 0 (fun _ => .ok (.int 2)))
  (fun ρ => bindO ((bin D.mod (app (on1 D.toInt) (consA (bin D.fdiv (bin D.ix (fun ρ => vr ρ 0) (fun _ => .ok (.int 2))) (fun _ => .ok (.int 7))) nilA)) (fun ρ => vr ρ 1)) ρ.all) fun d => purO d (.rt d ρ)))
  .nx)
  (seqO (fun ρ => bindO ((bin D.ix (bin D.ix (fun ρ => vr ρ 0) (fun _ => .ok (.int 0))) (bin D.sub (bin D.ix (fun ρ => vr ρ 0) (fun _ => .ok (.int 1))) (fun _ => .ok (.int 1)))) ρ.all) fun d => purO d (setO ρ 3 (.val d)))
  (seqO (setiO (bin D.mod (app (on1 D.toInt) (consA (bin D.add (bin D.add (bin D.mul (bin D.ix (fun ρ => vr ρ 0) (fun _ => .ok (.int 2))) (fun _ => .ok (.int 48271))) (fun ρ => vr ρ 3)) (fun _ => .ok (.int 11))) nilA)) (fun _ => .ok (.int 2147483647))) 0 (fun _ => .ok (.int 2)))
  (seqO (ifO (asTest (bin D.ge (fun ρ => vr ρ 3) (bin D.pow (fun _ => .ok (.int 10)) (fun _ => .ok (.int 18)))))
  (setiO (bin D.fdiv (fun ρ => vr ρ 3) (fun ρ => vr ρ 1)) 0 (fun _ => .ok (.int 3)))
  .nx)
  (fun ρ => bindO ((bin D.mod (app (on1 D.toInt) (consA (fun ρ => vr ρ 3) nilA)) (fun ρ => vr ρ 1)) ρ.all) fun d => purO d (.rt d ρ))))))))
def F_n__law_taken : List D → Res D := takenF
def N_n__law_machine : List Str := ["_law_row", "_law_states", "_law_letters", "_law_many", "_law_some", "_law_kind", "_law_steps", "_law_told_here", "_law_letter", "_law_table", "_law_state", "_law_line", "_law_there"]
theorem nd_n__law_machine : N_n__law_machine.Nodup := by decide +kernel
def ce_n__law_machine_1 : Fw.Env → Res D :=
  (app (callF 2 F_n__law_taken) (consA (fun ρ => vr ρ 0) (consA (fun ρ => vr ρ 3) nilA)))
def lb_n__law_machine_1 : SEnv → Out :=
  (seqO (fun ρ => bindO ((ifD (asTest (bin D.eq (fun ρ => vr ρ 5) (fun _ => .ok (.int 0)))) (app (callF 2 F_n__law_taken) (consA (fun ρ => vr ρ 0) (consA (fun ρ => vr ρ 3) nilA))) (app (on2 D.min2) (consA (bin D.sub (fun ρ => vr ρ 3) (fun _ => .ok (.int 1))) (consA (bin D.add (fun ρ => vr ρ 10) (app (callF 2 F_n__law_taken) (consA (fun ρ => vr ρ 0) (consA (fun _ => .ok (.int 2)) nilA)))) nilA)))) ρ.vis) fun d => setO ρ 12 (.val d))
  (appVO (ifD (andB (asTest (bin D.gt (fun ρ => vr ρ 5) (fun _ => .ok (.int 0)))) (asTest (bin D.gt (app (callF 2 F_n__law_taken) (consA (fun ρ => vr ρ 0) (consA (fun _ => .ok (.int 3)) nilA))) (fun _ => .ok (.int 0))))) (bin D.ix (fun ρ => vr ρ 9) (fun ρ => vr ρ 8)) (fun ρ => vr ρ 12)) 11))
def ce_n__law_machine_2 : Fw.Env → Res D :=
  (app (callF 2 F_n__law_taken) (consA (fun ρ => vr ρ 0) (consA (fun _ => .ok (.int 2)) nilA)))
def lb_n__law_machine_2 : SEnv → Out :=
  (seqO (fun ρ => bindO ((lstF nilA) ρ.vis) fun d => setO ρ 11 (.own d))
  (seqO (forO (itL rng1L (consA (fun ρ => vr ρ 4) nilA)) (.nm 8) lb_n__law_machine_1)
  (seqO (appO (app (on1 D.toTup) (consA (fun ρ => vr ρ 11) nilA)) 6)
  (appVO (app (on1 D.toTup) (consA (lcD (itL rng1L (consA (fun ρ => vr ρ 4) nilA)) (.nm 8) yesB ce_n__law_machine_2 [8]) nilA)) 7))))
def g_n__law_machine : SEnv → Out :=
  (seqO (parO [3, 4, 5] (kCons (hV (bin D.add (fun _ => .ok (.int 1)) (app (callF 2 F_n__law_taken) (consA (fun ρ => vr ρ 0) (consA (fun ρ => vr ρ 1) nilA))))) (kCons (hV (bin D.add (fun _ => .ok (.int 1)) (app (callF 2 F_n__law_taken) (consA (fun ρ => vr ρ 0) (consA (fun ρ => vr ρ 2) nilA))))) (kCons (hV (app (callF 2 F_n__law_taken) (consA (fun ρ => vr ρ 0) (consA (fun _ => .ok (.int 3)) nilA)))) kNil))))
  (seqO (parO [6, 7] (kCons (hNV (lstF nilA)) (kCons (hNV (lstF nilA)) kNil)))
  (seqO (fun ρ => bindO ((lcD (itL rng1L (consA (fun ρ => vr ρ 4) nilA)) (.nm 8) yesB ce_n__law_machine_1 [8]) ρ.vis) fun d => setO ρ 9 (.val d))
  (seqO (forO (itL rng1L (consA (fun ρ => vr ρ 3) nilA)) (.nm 10) lb_n__law_machine_2)
  (fun ρ => bindO ((tupF (consA (app (on1 D.toTup) (consA (fun ρ => vr ρ 6) nilA)) (consA (app (on1 D.toTup) (consA (fun ρ => vr ρ 7) nilA)) nilA))) ρ.noRow) fun d => .rt d ρ)))))
def F_n__law_machine : List D → Res D := defF 13 g_n__law_machine
def N_n__law_alike : List Str := ["_law_found", "_law_due", "_law_k"]
theorem nd_n__law_alike : N_n__law_alike.Nodup := by decide +kernel
def ce_n__law_alike_1 : Fw.Env → Res D :=
  (fun ρ => vr ρ 2)
def ct_n__law_alike_1 (F0 : List D → Res D) : Fw.Env → Res Bool :=
  (notB (truthOf (app (callF 2 F0) (consA (bin D.ix (fun ρ => vr ρ 0) (fun ρ => vr ρ 2)) (consA (bin D.ix (fun ρ => vr ρ 1) (fun ρ => vr ρ 2)) nilA)))))
def g_n__law_alike (F0 : List D → Res D) : SEnv → Out :=
  (seqO (ifO (truthOf (isi2F (fun ρ => vr ρ 1) .tup .lst))
  (seqO (ifO (orB (notB (truthOf (isi2F (fun ρ => vr ρ 0) .tup .lst))) (asTest (bin D.ne (isiF (fun ρ => vr ρ 0) .lst) (isiF (fun ρ => vr ρ 1) .lst))))
  (fun ρ => bindO ((fun _ => .ok (.bl false)) ρ.noRow) fun d => .rt d ρ)
  .nx)
  (seqO (ifO (asTest (bin D.ne (app (on1 lenN) (consA (fun ρ => vr ρ 0) nilA)) (app (on1 lenN) (consA (fun ρ => vr ρ 1) nilA))))
  (fun ρ => bindO ((fun _ => .ok (.bl false)) ρ.noRow) fun d => .rt d ρ)
  .nx)
  (fun ρ => bindO ((bin D.eq (lcD (itL rng1L (consA (app (on1 lenN) (consA (fun ρ => vr ρ 1) nilA)) nilA)) (.nm 2) (ct_n__law_alike_1 F0) ce_n__law_alike_1 [2]) (lstF nilA)) ρ.noRow) fun d => .rt d ρ)))
  .nx)
  (seqO (ifO (orB (asTest (isN (fun ρ => vr ρ 1))) (truthOf (isiF (fun ρ => vr ρ 1) .str)))
  (fun ρ => bindO ((andD (bin D.eq (fun ρ => vr ρ 0) (fun ρ => vr ρ 1)) (bin D.eq (isiF (fun ρ => vr ρ 0) .str) (isiF (fun ρ => vr ρ 1) .str))) ρ.noRow) fun d => .rt d ρ)
  .nx)
  (fun ρ => bindO ((andD (isiF (fun ρ => vr ρ 0) .int) (andD (bin D.eq (isiF (fun ρ => vr ρ 0) .bl) (isiF (fun ρ => vr ρ 1) .bl)) (bin D.eq (fun ρ => vr ρ 0) (fun ρ => vr ρ 1)))) ρ.noRow) fun d => .rt d ρ)))
def F_n__law_alike : Nat → List D → Res D
  | 0 => fun _ => .no
  | n + 1 => defF 3 (g_n__law_alike (F_n__law_alike n))
def N_n__law_led : List Str := ["_law_machine_here", "_law_state", "_law_word", "_law_letter"]
theorem nd_n__law_led : N_n__law_led.Nodup := by decide +kernel
def lb_n__law_led_1 : SEnv → Out :=
  (fun ρ => bindO ((bin D.ix (bin D.ix (bin D.ix (fun ρ => vr ρ 0) (fun _ => .ok (.int 0))) (fun ρ => vr ρ 1)) (fun ρ => vr ρ 3)) ρ.vis) fun d => setO ρ 1 (.val d))
def g_n__law_led : SEnv → Out :=
  (seqO (forO (itemsF (fun ρ => vr ρ 2)) (.nm 3) lb_n__law_led_1)
  (fun ρ => bindO ((fun ρ => vr ρ 1) ρ.noRow) fun d => .rt d ρ))
def F_n__law_led : List D → Res D := defF 4 g_n__law_led
def N_n__law_told : List Str := ["_law_machine_here", "_law_state", "_law_word", "_law_at"]
theorem nd_n__law_told : N_n__law_told.Nodup := by decide +kernel
def ce_n__law_told_1 : Fw.Env → Res D :=
  (bin D.ix (bin D.ix (bin D.ix (fun ρ => vr ρ 0) (fun _ => .ok (.int 1))) (app (callF 3 F_n__law_led) (consA (fun ρ => vr ρ 0) (consA (fun ρ => vr ρ 1) (consA (slF (fun ρ => vr ρ 2) noPart (part (fun ρ => vr ρ 3))) nilA))))) (bin D.ix (fun ρ => vr ρ 2) (fun ρ => vr ρ 3)))
def g_n__law_told : SEnv → Out :=
  (fun ρ => bindO ((app (on1 D.toTup) (consA (lcD (itL rng1L (consA (app (on1 lenN) (consA (fun ρ => vr ρ 2) nilA)) nilA)) (.nm 3) yesB ce_n__law_told_1 [3]) nilA)) ρ.noRow) fun d => .rt d ρ)
def F_n__law_told : List D → Res D := defF 4 g_n__law_told
def N_n__law_unlike : List Str := ["_law_machine_here", "_law_many", "_law_found", "_law_turn", "_law_one", "_law_other", "_law_some", "_law_letter"]
theorem nd_n__law_unlike : N_n__law_unlike.Nodup := by decide +kernel
def ce_n__law_unlike_1 : Fw.Env → Res D :=
  (fun ρ => vr ρ 7)
def ct_n__law_unlike_1 : Fw.Env → Res Bool :=
  (asTest (bin D.inD (tupF (consA (bin D.ix (bin D.ix (bin D.ix (fun ρ => vr ρ 0) (fun _ => .ok (.int 0))) (fun ρ => vr ρ 4)) (fun ρ => vr ρ 7)) (consA (bin D.ix (bin D.ix (bin D.ix (fun ρ => vr ρ 0) (fun _ => .ok (.int 0))) (fun ρ => vr ρ 5)) (fun ρ => vr ρ 7)) nilA))) (fun ρ => vr ρ 2)))
def lb_n__law_unlike_1 : SEnv → Out :=
  (seqO (fun ρ => bindO ((lcD (itL rng1L (consA (app (on1 lenN) (consA (bin D.ix (bin D.ix (fun ρ => vr ρ 0) (fun _ => .ok (.int 0))) (fun _ => .ok (.int 0))) nilA)) nilA)) (.nm 7) ct_n__law_unlike_1 ce_n__law_unlike_1 [7]) ρ.all) fun d => if purC d = true then setO ρ 6 (.val d) else .no)
  (ifO (orB (asTest (bin D.ne (bin D.ix (bin D.ix (fun ρ => vr ρ 0) (fun _ => .ok (.int 1))) (fun ρ => vr ρ 4)) (bin D.ix (bin D.ix (fun ρ => vr ρ 0) (fun _ => .ok (.int 1))) (fun ρ => vr ρ 5)))) (asTest (bin D.ne (fun ρ => vr ρ 6) (lstF nilA))))
  (dputO (fun _ => .ok (.bl true)) 2 (tupF (consA (fun ρ => vr ρ 4) (consA (fun ρ => vr ρ 5) nilA))))
  .nx))
def lb_n__law_unlike_2 : SEnv → Out :=
  (forO (itL rng1L (consA (fun ρ => vr ρ 1) nilA)) (.nm 5) lb_n__law_unlike_1)
def lb_n__law_unlike_3 : SEnv → Out :=
  (forO (itL rng1L (consA (fun ρ => vr ρ 1) nilA)) (.nm 4) lb_n__law_unlike_2)
def g_n__law_unlike : SEnv → Out :=
  (seqO (parO [1, 2] (kCons (hV (app (on1 lenN) (consA (bin D.ix (fun ρ => vr ρ 0) (fun _ => .ok (.int 0))) nilA))) (kCons (hNV (fun _ => .ok (.dct true []))) kNil)))
  (seqO (forO (itL rng1L (consA (bin D.add (bin D.mul (fun ρ => vr ρ 1) (fun ρ => vr ρ 1)) (fun _ => .ok (.int 1))) nilA)) (.nm 3) lb_n__law_unlike_3)
  (fun ρ => bindO ((fun ρ => vr ρ 2) ρ.noRow) fun d => .rt d ρ)))
def F_n__law_unlike : List D → Res D := defF 8 g_n__law_unlike
def N_n_law : List Str := ["_law_script", "_law_row", "_law_machine_here", "_law_letters", "_law_turn", "_law_at", "_law_state", "_law_word", "_law_apart", "_law_firsts", "_law_order", "_law_there", "_law_line", "_law_due", "_law_one", "_law_k"]
theorem nd_n_law : N_n_law.Nodup := by decide +kernel
def ce_n_law_1 : Fw.Env → Res D :=
  (app (callF 2 F_n__law_taken) (consA (fun ρ => vr ρ 1) (consA (fun ρ => vr ρ 3) nilA)))
def lb_n_law_1 : SEnv → Out :=
  (seqO (parO [6, 7] (kCons (hV (app (callF 2 F_n__law_taken) (consA (fun ρ => vr ρ 1) (consA (app (on1 lenN) (consA (bin D.ix (fun ρ => vr ρ 2) (fun _ => .ok (.int 0))) nilA)) nilA)))) (kCons (hV (app (on1 D.toTup) (consA (lcD (itL rng1L (consA (app (callF 2 F_n__law_taken) (consA (fun ρ => vr ρ 1) (consA (fun _ => .ok (.int 8)) nilA))) nilA)) (.nm 5) yesB ce_n_law_1 [5]) nilA))) kNil)))
  (ifO (notB (truthOf (app (callF 2 (F_n__law_alike 8)) (consA (app (callF 3 F_n_answers) (consA (fun ρ => vr ρ 2) (consA (fun ρ => vr ρ 6) (consA (fun ρ => vr ρ 7) nilA)))) (consA (app (callF 3 F_n__law_told) (consA (fun ρ => vr ρ 2) (consA (fun ρ => vr ρ 6) (consA (fun ρ => vr ρ 7) nilA)))) nilA)))))
  (fun ρ => bindO ((fun _ => .ok (.bl false)) ρ.noRow) fun d => .rt d ρ)
  .nx))
def ce_n_law_2 : Fw.Env → Res D :=
  (fun ρ => vr ρ 14)
def ct_n_law_1 : Fw.Env → Res Bool :=
  (asTest (bin D.ninD (tupF (consA (fun ρ => vr ρ 14) (consA (fun ρ => vr ρ 11) nilA))) (fun ρ => vr ρ 8)))
def lb_n_law_2 : SEnv → Out :=
  (ifO (asTest (bin D.eq (lcD (itemsF (fun ρ => vr ρ 10)) (.nm 14) ct_n_law_1 ce_n_law_2 [14]) (lstF nilA)))
  (appVO (fun ρ => vr ρ 11) 10)
  .nx)
def wb_n_law_1 : SEnv → Out :=
  (seqO (forRO (itemsP (bin D.ix (bin D.ix (fun ρ => vr ρ 2) (fun _ => .ok (.int 0))) (bin D.ix (fun ρ => vr ρ 10) (fun ρ => vr ρ 5)))) (.nm 11) lb_n_law_2)
  (fun ρ => bindO ((bin D.add (fun ρ => vr ρ 5) (fun _ => .ok (.int 1))) ρ.vis) fun d => setO ρ 5 (.val d)))
def wt_n_law_1 : Fw.Env → Res Bool :=
  (asTest (bin D.lt (fun ρ => vr ρ 5) (app (on1 lenN) (consA (fun ρ => vr ρ 10) nilA))))
def ce_n_law_3 : Fw.Env → Res D :=
  (fun ρ => vr ρ 15)
def ct_n_law_2 : Fw.Env → Res Bool :=
  (asTest (bin D.ninD (tupF (consA (bin D.ix (fun ρ => vr ρ 10) (fun ρ => vr ρ 15)) (consA (fun ρ => vr ρ 11) nilA))) (fun ρ => vr ρ 8)))
def lb_n_law_3 : SEnv → Out :=
  (appO (bin D.ix (lcD (itL rng1L (consA (app (on1 lenN) (consA (fun ρ => vr ρ 10) nilA)) nilA)) (.nm 15) ct_n_law_2 ce_n_law_3 [15]) (fun _ => .ok (.int 0))) 12)
def lb_n_law_4 : SEnv → Out :=
  (seqO (fun ρ => bindO ((lstF nilA) ρ.vis) fun d => setO ρ 12 (.own d))
  (seqO (forO (itemsF (bin D.ix (bin D.ix (fun ρ => vr ρ 2) (fun _ => .ok (.int 0))) (fun ρ => vr ρ 6))) (.nm 11) lb_n_law_3)
  (appO (app (on1 D.toTup) (consA (fun ρ => vr ρ 12) nilA)) 9)))
def ce_n_law_4 : Fw.Env → Res D :=
  (bin D.ix (bin D.ix (fun ρ => vr ρ 2) (fun _ => .ok (.int 1))) (fun ρ => vr ρ 6))
def g_n_law : SEnv → Out :=
  (seqO (fun ρ => bindO ((app (callF 3 F_n__law_machine) (consA (fun ρ => vr ρ 1) (consA (fun _ => .ok (.int 6)) (consA (fun _ => .ok (.int 3)) nilA)))) ρ.vis) fun d => setO ρ 2 (.val d))
  (seqO (fun ρ => bindO ((app (on1 lenN) (consA (bin D.ix (bin D.ix (fun ρ => vr ρ 2) (fun _ => .ok (.int 0))) (fun _ => .ok (.int 0))) nilA)) ρ.vis) fun d => setO ρ 3 (.val d))
  (seqO (forO (itL rng1L (consA (fun _ => .ok (.int 3)) nilA)) (.nm 4) lb_n_law_1)
  (seqO (parO [8, 9, 10, 5] (kCons (hV (app (callF 1 F_n__law_unlike) (consA (fun ρ => vr ρ 2) nilA))) (kCons (hNV (lstF nilA)) (kCons (hNV (lstF (consA (fun _ => .ok (.int 0)) nilA))) (kCons (hV (fun _ => .ok (.int 0))) kNil)))))
  (seqO (whileO wt_n_law_1 wb_n_law_1 lim)
  (seqO (fun ρ => forO (itemsF (fun ρ => vr ρ 10)) (.nm 6) lb_n_law_4 (frzS ρ 10))
  (seqO (fun ρ => bindO ((tupF (consA (app (on1 D.toTup) (consA (fun ρ => vr ρ 9) nilA)) (consA (app (on1 D.toTup) (consA (lcD (itemsF (fun ρ => vr ρ 10)) (.nm 6) yesB ce_n_law_4 [6]) nilA)) nilA))) ρ.all) fun d => purO d (setO ρ 13 (.val d)))
  (fun ρ => bindO ((app (callF 2 (F_n__law_alike 8)) (consA (app (callF 1 F_n_least_machine) (consA (fun ρ => vr ρ 2) nilA)) (consA (fun ρ => vr ρ 13) nilA))) ρ.noRow) fun d => .rt d ρ))))))))
theorem taken_g (a : PySem.Addr) (ns : List Int) (i j k n : Int) (hi : 0 ≤ i) (hj : 0 ≤ j) (hj2 : j < 2147483647) (hn : 0 < n) (hn2 : n.natAbs.log2 < 9000) :
    ∃ v i' j' k' ρ', g_n__law_taken [.row (rowD a ns i j k), .val (.int n), .dead, .dead] = .rt (.int v) ρ' ∧ ρ'[0]? = some (.row (rowD a ns i' j' k')) ∧ 0 ≤ v ∧ v < n ∧ 0 ≤ i' ∧ 0 ≤ j' ∧ j' < 2147483647 := by
  have hm := fun x => Int.emod_nonneg x (Int.ne_of_gt hn)
  have hl := fun x => Int.emod_lt_of_pos x hn
  have hm2 := fun x => Int.emod_nonneg x (show (2147483647 : Int) ≠ 0 by decide)
  have hl2 := fun x => Int.emod_lt_of_pos x (show (0 : Int) < 2147483647 by decide)
  have sl := small_log hj hj2
  have lg7 : Nat.log2 7 < 9000 := by decide +kernel
  have n1 : L2.ixN 4 1 = some 1 := rfl
  have n2 : L2.ixN 4 2 = some 2 := rfl
  have n3 : L2.ixN 4 3 = some 3 := rfl
  by_cases h0 : 0 < k
  · simp [g_n__law_taken, rowD, ix0, ix1, ix2, ix3, hn, hn2, h0, setiO, n1, n2, n3, hm, hl, hi, hj, hj2]
    exact ⟨_, i, j, _, _, ⟨rfl, rfl⟩, rfl, hm _, hl _, hi, hj, hj2⟩
  obtain ⟨m, rfl⟩ : ∃ m : Nat, i = m := ⟨i.toNat, by omega⟩
  by_cases h1 : (m : Int) + 1 > (ns.length : Int)
  · simp [g_n__law_taken, rowD, ix0, ix1, ix2, ix3, hn, hn2, h0, h1, setiO, n1, n2, n3, hm, hl, hm2, hl2, sl, lg7]
    exact ⟨_, _, _, _, _, ⟨rfl, rfl⟩, rfl, hm _, hl _, by omega, hm2 _, hl2 _⟩
  have hm' : m < ns.length := by omega
  have e : ixG ns (m : Int) = .ok ns[m] := by rw [ixG_at, List.getElem?_eq_getElem hm']
  have em : (m : Int) + 1 - 1 = m := by omega
  have h18 : (1000000000000000000 : Int) ≤ ns[m] ∨ ¬ (1000000000000000000 : Int) ≤ ns[m] := Classical.em _
  rcases h18 with h18 | h18
  · simp [g_n__law_taken, rowD, ix0, ix1, ix2, ix3, hn, hn2, h0, h1, setiO, n1, n2, n3, hm, hl, hm2, hl2, sl, lg7, e, em, h18]
    exact ⟨_, _, _, _, _, ⟨rfl, rfl⟩, rfl, hm _, hl _, by omega, hm2 _, hl2 _⟩
  · simp [g_n__law_taken, rowD, ix0, ix1, ix2, ix3, hn, hn2, h0, h1, setiO, n1, n2, n3, hm, hl, hm2, hl2, sl, lg7, e, em, h18]
    exact ⟨_, _, _, _, _, ⟨rfl, rfl⟩, rfl, hm _, hl _, by omega, hm2 _, hl2 _⟩
end Lw
end
set_option Elab.async false
set_option linter.all false
set_option autoImplicit false
set_option maxRecDepth 100000
set_option maxHeartbeats 4000000
/-! printed by wip/gen.py -/
noncomputable section
namespace Lw
open PySem PySem.Spec PyProof.Rows L2 Fw
def top (i : Nat) : Stmt := PySem.Challenge.pw_pushedclerks_k01_whole_machines.main.body.getD i (.Pass ⟨0, 0, 0, 0⟩)
abbrev s_n_is_number : Stmt := top 10
theorem sc_n_is_number : FnScope N_n_is_number ["value", "low", "high"] (defScope s_n_is_number) := ⟨rfl, rfl, rfl, nd_n_is_number, rfl, by decide +kernel, by decide +kernel⟩
abbrev s_n_are_rows : Stmt := top 11
theorem sc_n_are_rows : FnScope N_n_are_rows ["value", "states", "letters", "most"] (defScope s_n_are_rows) := ⟨rfl, rfl, rfl, nd_n_are_rows, rfl, by decide +kernel, by decide +kernel⟩
abbrev s_n_need_machine : Stmt := top 12
theorem sc_n_need_machine : FnScope N_n_need_machine ["value"] (defScope s_n_need_machine) := ⟨rfl, rfl, rfl, nd_n_need_machine, rfl, by decide +kernel, by decide +kernel⟩
abbrev s_n_letters_of : Stmt := top 13
theorem sc_n_letters_of : FnScope N_n_letters_of ["machine"] (defScope s_n_letters_of) := ⟨rfl, rfl, rfl, nd_n_letters_of, rfl, by decide +kernel, by decide +kernel⟩
abbrev s_n_is_word : Stmt := top 14
theorem sc_n_is_word : FnScope N_n_is_word ["machine", "value"] (defScope s_n_is_word) := ⟨rfl, rfl, rfl, nd_n_is_word, rfl, by decide +kernel, by decide +kernel⟩
abbrev s_n_need_word : Stmt := top 15
theorem sc_n_need_word : FnScope N_n_need_word ["machine", "value"] (defScope s_n_need_word) := ⟨rfl, rfl, rfl, nd_n_need_word, rfl, by decide +kernel, by decide +kernel⟩
abbrev s_n_need_state : Stmt := top 16
theorem sc_n_need_state : FnScope N_n_need_state ["machine", "value"] (defScope s_n_need_state) := ⟨rfl, rfl, rfl, nd_n_need_state, rfl, by decide +kernel, by decide +kernel⟩
abbrev s_n_told : Stmt := top 17
theorem sc_n_told : FnScope N_n_told ["machine", "state", "word"] (defScope s_n_told) := ⟨rfl, rfl, rfl, nd_n_told, rfl, by decide +kernel, by decide +kernel⟩
abbrev s_n_answers : Stmt := top 18
theorem sc_n_answers : FnScope N_n_answers ["machine", "state", "word"] (defScope s_n_answers) := ⟨rfl, rfl, rfl, nd_n_answers, rfl, by decide +kernel, by decide +kernel⟩
abbrev s_n_marks_of : Stmt := top 19
theorem sc_n_marks_of : FnScope N_n_marks_of ["machine"] (defScope s_n_marks_of) := ⟨rfl, rfl, rfl, nd_n_marks_of, rfl, by decide +kernel, by decide +kernel⟩
abbrev s_n_least_of : Stmt := top 20
theorem sc_n_least_of : FnScope N_n_least_of ["machine"] (defScope s_n_least_of) := ⟨rfl, rfl, rfl, nd_n_least_of, rfl, by decide +kernel, by decide +kernel⟩
abbrev s_n_least_machine : Stmt := top 21
theorem sc_n_least_machine : FnScope N_n_least_machine ["machine"] (defScope s_n_least_machine) := ⟨rfl, rfl, rfl, nd_n_least_machine, rfl, by decide +kernel, by decide +kernel⟩
abbrev s_n__law_taken : Stmt := top 23
theorem sc_n__law_taken : FnScope N_n__law_taken ["_law_row", "_law_many"] (defScope s_n__law_taken) := ⟨rfl, rfl, rfl, nd_n__law_taken, rfl, by decide +kernel, by decide +kernel⟩
abbrev s_n__law_machine : Stmt := top 24
theorem sc_n__law_machine : FnScope N_n__law_machine ["_law_row", "_law_states", "_law_letters"] (defScope s_n__law_machine) := ⟨rfl, rfl, rfl, nd_n__law_machine, rfl, by decide +kernel, by decide +kernel⟩
abbrev s_n__law_alike : Stmt := top 25
theorem sc_n__law_alike : FnScope N_n__law_alike ["_law_found", "_law_due"] (defScope s_n__law_alike) := ⟨rfl, rfl, rfl, nd_n__law_alike, rfl, by decide +kernel, by decide +kernel⟩
abbrev s_n__law_led : Stmt := top 26
theorem sc_n__law_led : FnScope N_n__law_led ["_law_machine_here", "_law_state", "_law_word"] (defScope s_n__law_led) := ⟨rfl, rfl, rfl, nd_n__law_led, rfl, by decide +kernel, by decide +kernel⟩
abbrev s_n__law_told : Stmt := top 27
theorem sc_n__law_told : FnScope N_n__law_told ["_law_machine_here", "_law_state", "_law_word"] (defScope s_n__law_told) := ⟨rfl, rfl, rfl, nd_n__law_told, rfl, by decide +kernel, by decide +kernel⟩
abbrev s_n__law_unlike : Stmt := top 28
theorem sc_n__law_unlike : FnScope N_n__law_unlike ["_law_machine_here"] (defScope s_n__law_unlike) := ⟨rfl, rfl, rfl, nd_n__law_unlike, rfl, by decide +kernel, by decide +kernel⟩
abbrev s_n_law : Stmt := top 29
theorem sc_n_law : FnScope N_n_law ["_law_script"] (defScope s_n_law) := ⟨rfl, rfl, rfl, nd_n_law, rfl, by decide +kernel, by decide +kernel⟩
structure Ad where
  n_is_number : Addr
  n_are_rows : Addr
  n_need_machine : Addr
  n_letters_of : Addr
  n_is_word : Addr
  n_need_word : Addr
  n_need_state : Addr
  n_told : Addr
  n_answers : Addr
  n_marks_of : Addr
  n_least_of : Addr
  n_least_machine : Addr
  n__law_taken : Addr
  n__law_machine : Addr
  n__law_alike : Addr
  n__law_led : Addr
  n__law_told : Addr
  n__law_unlike : Addr
  n_law : Addr
  c_n_are_rows : Addr
  P_n_are_rows : Addr
  c_n_is_word : Addr
  P_n_is_word : Addr
structure Fd where
  n_is_number : FuncData
  n_are_rows : FuncData
  n_need_machine : FuncData
  n_letters_of : FuncData
  n_is_word : FuncData
  n_need_word : FuncData
  n_need_state : FuncData
  n_told : FuncData
  n_answers : FuncData
  n_marks_of : FuncData
  n_least_of : FuncData
  n_least_machine : FuncData
  n__law_taken : FuncData
  n__law_machine : FuncData
  n__law_alike : FuncData
  n__law_led : FuncData
  n__law_told : FuncData
  n__law_unlike : FuncData
  n_law : FuncData
def TGof (a : Ad) : List Addr := [a.P_n_are_rows, a.P_n_is_word]
def TLof (a : Ad) : List (Addr × Str) := []
def G0 (K : PySem.W.Frag) (a : Ad) : Gm := ⟨K, TGof a, TLof a, fun _ => 0, none, 0⟩
structure Tx (K : PySem.W.Frag) (mg : Str → Option Value) (base : Heap) (a : Ad) (e : Fd) : Prop where
  f_n_is_number : FnP K "is_number" "is_number" s_n_is_number a.n_is_number e.n_is_number
  g_n_is_number : mg "is_number" = some (.ref a.n_is_number)
  bi_n_is_number : Binds K e.n_is_number ["value", "low", "high"] []
  f_n_are_rows : FnP K "are_rows" "are_rows" s_n_are_rows a.n_are_rows e.n_are_rows
  g_n_are_rows : mg "are_rows" = some (.ref a.n_are_rows)
  bi_n_are_rows : Binds K e.n_are_rows ["value", "states", "letters", "most"] []
  f_n_need_machine : FnP K "need_machine" "need_machine" s_n_need_machine a.n_need_machine e.n_need_machine
  g_n_need_machine : mg "need_machine" = some (.ref a.n_need_machine)
  bi_n_need_machine : Binds K e.n_need_machine ["value"] []
  f_n_letters_of : FnP K "letters_of" "letters_of" s_n_letters_of a.n_letters_of e.n_letters_of
  g_n_letters_of : mg "letters_of" = some (.ref a.n_letters_of)
  bi_n_letters_of : Binds K e.n_letters_of ["machine"] []
  f_n_is_word : FnP K "is_word" "is_word" s_n_is_word a.n_is_word e.n_is_word
  g_n_is_word : mg "is_word" = some (.ref a.n_is_word)
  bi_n_is_word : Binds K e.n_is_word ["machine", "value"] []
  f_n_need_word : FnP K "need_word" "need_word" s_n_need_word a.n_need_word e.n_need_word
  g_n_need_word : mg "need_word" = some (.ref a.n_need_word)
  bi_n_need_word : Binds K e.n_need_word ["machine", "value"] []
  f_n_need_state : FnP K "need_state" "need_state" s_n_need_state a.n_need_state e.n_need_state
  g_n_need_state : mg "need_state" = some (.ref a.n_need_state)
  bi_n_need_state : Binds K e.n_need_state ["machine", "value"] []
  f_n_told : FnP K "told" "told" s_n_told a.n_told e.n_told
  g_n_told : mg "told" = some (.ref a.n_told)
  bi_n_told : Binds K e.n_told ["machine", "state", "word"] []
  f_n_answers : FnP K "answers" "answers" s_n_answers a.n_answers e.n_answers
  g_n_answers : mg "answers" = some (.ref a.n_answers)
  bi_n_answers : Binds K e.n_answers ["machine", "state", "word"] []
  f_n_marks_of : FnP K "marks_of" "marks_of" s_n_marks_of a.n_marks_of e.n_marks_of
  g_n_marks_of : mg "marks_of" = some (.ref a.n_marks_of)
  bi_n_marks_of : Binds K e.n_marks_of ["machine"] []
  f_n_least_of : FnP K "least_of" "least_of" s_n_least_of a.n_least_of e.n_least_of
  g_n_least_of : mg "least_of" = some (.ref a.n_least_of)
  bi_n_least_of : Binds K e.n_least_of ["machine"] []
  f_n_least_machine : FnP K "least_machine" "least_machine" s_n_least_machine a.n_least_machine e.n_least_machine
  g_n_least_machine : mg "least_machine" = some (.ref a.n_least_machine)
  bi_n_least_machine : Binds K e.n_least_machine ["machine"] []
  f_n__law_taken : FnP K "_law_taken" "_law_taken" s_n__law_taken a.n__law_taken e.n__law_taken
  g_n__law_taken : mg "_law_taken" = some (.ref a.n__law_taken)
  bi_n__law_taken : Binds K e.n__law_taken ["_law_row", "_law_many"] []
  f_n__law_machine : FnP K "_law_machine" "_law_machine" s_n__law_machine a.n__law_machine e.n__law_machine
  g_n__law_machine : mg "_law_machine" = some (.ref a.n__law_machine)
  bi_n__law_machine : Binds K e.n__law_machine ["_law_row", "_law_states", "_law_letters"] []
  f_n__law_alike : FnP K "_law_alike" "_law_alike" s_n__law_alike a.n__law_alike e.n__law_alike
  g_n__law_alike : mg "_law_alike" = some (.ref a.n__law_alike)
  bi_n__law_alike : Binds K e.n__law_alike ["_law_found", "_law_due"] []
  f_n__law_led : FnP K "_law_led" "_law_led" s_n__law_led a.n__law_led e.n__law_led
  g_n__law_led : mg "_law_led" = some (.ref a.n__law_led)
  bi_n__law_led : Binds K e.n__law_led ["_law_machine_here", "_law_state", "_law_word"] []
  f_n__law_told : FnP K "_law_told" "_law_told" s_n__law_told a.n__law_told e.n__law_told
  g_n__law_told : mg "_law_told" = some (.ref a.n__law_told)
  bi_n__law_told : Binds K e.n__law_told ["_law_machine_here", "_law_state", "_law_word"] []
  f_n__law_unlike : FnP K "_law_unlike" "_law_unlike" s_n__law_unlike a.n__law_unlike e.n__law_unlike
  g_n__law_unlike : mg "_law_unlike" = some (.ref a.n__law_unlike)
  bi_n__law_unlike : Binds K e.n__law_unlike ["_law_machine_here"] []
  f_n_law : FnP K "law" "law" s_n_law a.n_law e.n_law
  g_n_law : mg "law" = some (.ref a.n_law)
  bi_n_law : Binds K e.n_law ["_law_script"] []
  ap : (TGof a ++ (TLof a).map (·.1)).Nodup
  cd_n_are_rows : e.n_are_rows.code = .ref a.c_n_are_rows
  tb_n_are_rows : GxR.TabB base mg a.c_n_are_rows a.P_n_are_rows
  cd_n_is_word : e.n_is_word.code = .ref a.c_n_is_word
  tb_n_is_word : GxR.TabB base mg a.c_n_is_word a.P_n_is_word
  b_all : mg "all" = none
  b_bool : mg "bool" = none
  b_int : mg "int" = none
  b_isinstance : mg "isinstance" = none
  b_len : mg "len" = none
  b_list : mg "list" = none
  b_min : mg "min" = none
  b_range : mg "range" = none
  b_set : mg "set" = none
  b_sorted : mg "sorted" = none
  b_str : mg "str" = none
  b_tuple : mg "tuple" = none
  c_MOST_ANSWER : ∃ t, mg "MOST_ANSWER" = some (.int 9 t)
  c_MOST_LETTERS : ∃ t, mg "MOST_LETTERS" = some (.int 3 t)
  c_MOST_ROW : ∃ t, mg "MOST_ROW" = some (.int 4000 t)
  c_MOST_STATES : ∃ t, mg "MOST_STATES" = some (.int 6 t)
section
variable {P : Program} {w : World} {K : PySem.W.Frag} {mg : Str → Option Value} {base : Heap} {a : Ad} {e : Fd}
theorem Tx.apart (T : Tx K mg base a e) {P : Addr} (h : P ∈ TGof a) : ∀ p ∈ TLof a, p.1 ≠ P := fun p hp z => (List.nodup_append.mp T.ap).2.2 P h p.1 (List.mem_map_of_mem hp) z.symm
theorem Tx.uniq (T : Tx K mg base a e) {q : Addr × Str} (h : q ∈ TLof a) : ∀ p ∈ TLof a, p.1 = q.1 → p.2 = q.2 := fun p hp z => by rw [nodup_fst (List.nodup_append.mp T.ap).2.1 hp h z]
theorem ok_n_is_number (T : Tx K mg base a e) : FnOk P w K mg base (L2.CX P w) 1 a.n_is_number e.n_is_number ["value", "low", "high"] (spF (G0 K a) 3 F_n_is_number) :=
  fn_F (k := 0) T.f_n_is_number sc_n_is_number fun r sc cdv A outer s H E hcd hr =>
  (ts_one (ts_ret (te_and (te_isi (T := .int) T.b_isinstance T.b_int (by decide +kernel) (by decide) (te_var 0)) (te_and (te_not (te_isi (T := .bl) T.b_isinstance T.b_bool (by decide +kernel) (by decide) (te_var 0))) (te_one (te_chain op_le op_le fit_le fit_le (te_var 1) (te_var 0) (te_var 2)))))))
theorem ok_n_are_rows (T : Tx K mg base a e) : FnOk P w K mg base (L2.CX P w) 3 a.n_are_rows e.n_are_rows ["value", "states", "letters", "most"] (spF (G0 K a) 4 F_n_are_rows) :=
  fn_F (k := 2) T.f_n_are_rows sc_n_are_rows fun r sc cdv A outer s H E hcd hr =>
  (ts_cons (ts_if (tb_w (wb_or (tb_not (tb_truth (te_isi (T := .tup) T.b_isinstance T.b_tuple (by decide +kernel) (by decide) (te_var 0)))) (wb_or1 (tb_ne hr (te_len T.b_len (te_var 0)) (te_var 1)))))
  (ts_one (ts_ret te_bl))
  ts_nil)
  (ts_cons (ts_for ownD rfl (wi_seq (te_var 0)) (tg_nm 4 nd_n_are_rows) (ts_one (ts_if (tb_w (wb_or (tb_not (tb_truth (te_isi (T := .tup) T.b_isinstance T.b_tuple (by decide +kernel) (by decide) (te_var 4)))) (wb_or (tb_ne hr (te_len T.b_len (te_var 4)) (te_var 2)) (wb_or1 (tb_not (tb_truth (te_all [("one", 5)] hr rfl nd_n_are_rows T.b_all T.tb_n_are_rows (List.mem_of_getElem? (i := 0) rfl) (T.apart (List.mem_of_getElem? (i := 0) rfl)) (wi_seq (te_var 4)) (genOk_by (by rfl)) (fun s0 H0 C code it fp a og => (tg_nm 5 nd_n_are_rows)) (fun s0 H0 C code it fp a og => (te_call (ok_n_is_number T) ((Room.gen (k := 1) (hr.mono (by omega))).mono (by omega)) T.g_n_is_number T.f_n_is_number.kp T.bi_n_is_number passL (ta_cons (te_var 5) (ta_cons te_int (ta_cons (te_var 3) ta_nil))))) (hcd.symm.trans T.cd_n_are_rows))))))))
  (ts_one (ts_ret te_bl))
  ts_nil)))
  (ts_one (ts_ret te_bl))))
theorem ok_n_need_machine (T : Tx K mg base a e) : FnOk P w K mg base (L2.CX P w) 4 a.n_need_machine e.n_need_machine ["value"] (spF (G0 K a) 1 F_n_need_machine) :=
  fn_F (k := 3) T.f_n_need_machine sc_n_need_machine fun r sc cdv A outer s H E hcd hr =>
  (ts_cons (ts_if (tb_w (wb_or (tb_not (tb_truth (te_isi (T := .tup) T.b_isinstance T.b_tuple (by decide +kernel) (by decide) (te_var 0)))) (wb_or1 (tb_ne hr (te_len T.b_len (te_var 0)) te_int))))
  (ts_one ts_never)
  ts_nil)
  (ts_cons (ts_unp (te_var 0) (tg_tp rfl (tgs_cons (tg_nm 1 nd_n_need_machine) (tgs_cons (tg_nm 2 nd_n_need_machine) tgs_nil))))
  (ts_cons (ts_if (tb_w (wb_or (tb_not (tb_truth (te_isi (T := .tup) T.b_isinstance T.b_tuple (by decide +kernel) (by decide) (te_var 1)))) (wb_or (tb_not (tb_chain op_le op_le fit_le fit_le te_int (te_len T.b_len (te_var 1)) (te_cint T.c_MOST_STATES))) (wb_or1 (tb_not (tb_truth (te_isi (T := .tup) T.b_isinstance T.b_tuple (by decide +kernel) (by decide) (te_ix (te_var 1) te_int))))))))
  (ts_one ts_never)
  ts_nil)
  (ts_cons (ts_setV 3 (te_len T.b_len (te_ix (te_var 1) te_int)) nd_n_need_machine)
  (ts_cons (ts_if (tb_w (wb_or (tb_not (tb_chain op_le op_le fit_le fit_le te_int (te_var 3) (te_cint T.c_MOST_LETTERS))) (wb_or1 (tb_not (tb_truth (te_call (ok_n_are_rows T) (hr.mono (by omega)) T.g_n_are_rows T.f_n_are_rows.kp T.bi_n_are_rows passD (ta_cons (te_var 1) (ta_cons (te_len T.b_len (te_var 1)) (ta_cons (te_var 3) (ta_cons (te_sub (te_len T.b_len (te_var 1)) te_int) ta_nil))))))))))
  (ts_one ts_never)
  ts_nil)
  (ts_one (ts_if (tb_not (tb_truth (te_call (ok_n_are_rows T) (hr.mono (by omega)) T.g_n_are_rows T.f_n_are_rows.kp T.bi_n_are_rows passD (ta_cons (te_var 2) (ta_cons (te_len T.b_len (te_var 1)) (ta_cons (te_var 3) (ta_cons (te_cint T.c_MOST_ANSWER) ta_nil)))))))
  (ts_one ts_never)
  ts_nil)))))))
theorem ok_n_letters_of (T : Tx K mg base a e) : FnOk P w K mg base (L2.CX P w) 1 a.n_letters_of e.n_letters_of ["machine"] (spF (G0 K a) 1 F_n_letters_of) :=
  fn_F (k := 0) T.f_n_letters_of sc_n_letters_of fun r sc cdv A outer s H E hcd hr =>
  (ts_one (ts_ret (te_len T.b_len (te_ix (te_ix (te_var 0) te_int) te_int))))
theorem ok_n_is_word (T : Tx K mg base a e) : FnOk P w K mg base (L2.CX P w) 3 a.n_is_word e.n_is_word ["machine", "value"] (spF (G0 K a) 2 F_n_is_word) :=
  fn_F (k := 2) T.f_n_is_word sc_n_is_word fun r sc cdv A outer s H E hcd hr =>
  (ts_cons (ts_if (tb_w (wb_or (tb_not (tb_truth (te_isi (T := .tup) T.b_isinstance T.b_tuple (by decide +kernel) (by decide) (te_var 1)))) (wb_or1 (tb_gt (te_len T.b_len (te_var 1)) (te_cint T.c_MOST_ROW)))))
  (ts_one (ts_ret te_bl))
  ts_nil)
  (ts_one (ts_ret (te_all [("letter", 2)] hr rfl nd_n_is_word T.b_all T.tb_n_is_word (List.mem_of_getElem? (i := 1) rfl) (T.apart (List.mem_of_getElem? (i := 1) rfl)) (wi_seq (te_var 1)) (genOk_by (by rfl)) (fun s0 H0 C code it fp a og => (tg_nm 2 nd_n_is_word)) (fun s0 H0 C code it fp a og => (te_call (ok_n_is_number T) ((Room.gen (k := 1) (hr.mono (by omega))).mono (by omega)) T.g_n_is_number T.f_n_is_number.kp T.bi_n_is_number passL (ta_cons (te_var 2) (ta_cons te_int (ta_cons (te_sub (te_call (ok_n_letters_of T) ((Room.gen (k := 1) (hr.mono (by omega))).mono (by omega)) T.g_n_letters_of T.f_n_letters_of.kp T.bi_n_letters_of passL (ta_cons (te_var 0) ta_nil)) te_int) ta_nil))))) (hcd.symm.trans T.cd_n_is_word)))))
theorem ok_n_need_word (T : Tx K mg base a e) : FnOk P w K mg base (L2.CX P w) 4 a.n_need_word e.n_need_word ["machine", "value"] (spF (G0 K a) 2 F_n_need_word) :=
  fn_F (k := 3) T.f_n_need_word sc_n_need_word fun r sc cdv A outer s H E hcd hr =>
  (ts_one (ts_if (tb_not (tb_truth (te_call (ok_n_is_word T) (hr.mono (by omega)) T.g_n_is_word T.f_n_is_word.kp T.bi_n_is_word passD (ta_cons (te_var 0) (ta_cons (te_var 1) ta_nil)))))
  (ts_one ts_never)
  ts_nil))
theorem ok_n_need_state (T : Tx K mg base a e) : FnOk P w K mg base (L2.CX P w) 2 a.n_need_state e.n_need_state ["machine", "value"] (spF (G0 K a) 2 F_n_need_state) :=
  fn_F (k := 1) T.f_n_need_state sc_n_need_state fun r sc cdv A outer s H E hcd hr =>
  (ts_one (ts_if (tb_not (tb_truth (te_call (ok_n_is_number T) (hr.mono (by omega)) T.g_n_is_number T.f_n_is_number.kp T.bi_n_is_number passD (ta_cons (te_var 1) (ta_cons te_int (ta_cons (te_sub (te_len T.b_len (te_ix (te_var 0) te_int)) te_int) ta_nil))))))
  (ts_one ts_never)
  ts_nil))
theorem ok_n_told (T : Tx K mg base a e) : FnOk P w K mg base (L2.CX P w) 1 a.n_told e.n_told ["machine", "state", "word"] (spF (G0 K a) 3 F_n_told) :=
  fn_F (k := 0) T.f_n_told sc_n_told fun r sc cdv A outer s H E hcd hr =>
  (ts_cons (ts_newV 3 (tn_lst ta_nil) nd_n_told)
  (ts_cons (ts_for ownD rfl (wi_seq (te_var 2)) (tg_nm 4 nd_n_told) (ts_cons (ts_appV 3 (te_ix (te_ix (te_ix (te_var 0) te_int) (te_var 1)) (te_var 4)))
  (ts_one (ts_setV 1 (te_ix (te_ix (te_ix (te_var 0) te_int) (te_var 1)) (te_var 4)) nd_n_told))))
  (ts_one (ts_ret (te_var 3)))))
theorem ok_n_answers (T : Tx K mg base a e) : FnOk P w K mg base (L2.CX P w) 5 a.n_answers e.n_answers ["machine", "state", "word"] (spF (G0 K a) 3 F_n_answers) :=
  fn_F (k := 4) T.f_n_answers sc_n_answers fun r sc cdv A outer s H E hcd hr =>
  (ts_cons (ts_expr (te_call (ok_n_need_machine T) (hr.mono (by omega)) T.g_n_need_machine T.f_n_need_machine.kp T.bi_n_need_machine passD (ta_cons (te_var 0) ta_nil)))
  (ts_cons (ts_expr (te_call (ok_n_need_state T) (hr.mono (by omega)) T.g_n_need_state T.f_n_need_state.kp T.bi_n_need_state passD (ta_cons (te_var 0) (ta_cons (te_var 1) ta_nil))))
  (ts_cons (ts_expr (te_call (ok_n_need_word T) (hr.mono (by omega)) T.g_n_need_word T.f_n_need_word.kp T.bi_n_need_word passD (ta_cons (te_var 0) (ta_cons (te_var 2) ta_nil))))
  (ts_one (ts_ret (te_tuple T.b_tuple (te_call (ok_n_told T) (hr.mono (by omega)) T.g_n_told T.f_n_told.kp T.bi_n_told passD (ta_cons (te_var 0) (ta_cons (te_var 1) (ta_cons (te_var 2) ta_nil))))))))))
theorem ok_n_marks_of (T : Tx K mg base a e) : FnOk P w K mg base (L2.CX P w) 1 a.n_marks_of e.n_marks_of ["machine"] (spF (G0 K a) 1 F_n_marks_of) :=
  fn_F (k := 0) T.f_n_marks_of sc_n_marks_of fun r sc cdv A outer s H E hcd hr =>
  (ts_cons (ts_unp (te_var 0) (tg_tp rfl (tgs_cons (tg_nm 1 nd_n_marks_of) (tgs_cons (tg_nm 2 nd_n_marks_of) tgs_nil))))
  (ts_cons (ts_setV 3 (te_of_new (te_sortSetR T.b_sorted T.b_set rfl hr (te_var 2))) nd_n_marks_of)
  (ts_cons (ts_parT rfl (tk_cons (th_v (te_of_new (tn_lc [("row", 7)] rfl nd_n_marks_of (wi_seq (te_var 2)) (blkOk_by (by rfl)) (fun s H C cl fp => (tg_nm 7 nd_n_marks_of)) (fun s H C cl fp => tts_nil) (fun s H C cl fp => (te_indexD hr (te_var 3) (te_var 7)))))) (tk_cons (th_v te_int) tk_nil)) (gns_cons 4 (gns_cons 5 gns_nil nd_n_marks_of) nd_n_marks_of))
  (ts_cons (ts_while lim ownD (tb_gt (te_lenSet T.b_len T.b_set rfl (te_var 4)) (te_var 5)) (ts_cons (ts_setV 5 (te_lenSet T.b_len T.b_set rfl (te_var 4)) nd_n_marks_of)
  (ts_cons (ts_setV 3 (te_of_new (tn_lc [("state", 8)] rfl nd_n_marks_of (wi_range1 (np := false) T.b_range (te_len T.b_len (te_var 1))) (blkOk_by (by rfl)) (fun s H C cl fp => (tg_nm 8 nd_n_marks_of)) (fun s H C cl fp => tts_nil) (fun s H C cl fp => (te_tup (ta_cons (te_ix (te_var 4) (te_var 8)) (ta_cons (te_tuple T.b_tuple (te_of_new (tn_lc [("there", 9)] rfl nd_n_marks_of (wi_seq (te_ix (te_var 1) (te_var 8))) (blkOk_by (by rfl)) (fun s H C cl fp => (tg_nm 9 nd_n_marks_of)) (fun s H C cl fp => tts_nil) (fun s H C cl fp => (te_ix (te_var 4) (te_var 9)))))) ta_nil)))))) nd_n_marks_of)
  (ts_cons (ts_setV 6 (te_of_new (te_sortSetR T.b_sorted T.b_set rfl hr (te_var 3))) nd_n_marks_of)
  (ts_one (ts_setV 4 (te_of_new (tn_lc [("row", 7)] rfl nd_n_marks_of (wi_seq (te_var 3)) (blkOk_by (by rfl)) (fun s H C cl fp => (tg_nm 7 nd_n_marks_of)) (fun s H C cl fp => tts_nil) (fun s H C cl fp => (te_indexD hr (te_var 6) (te_var 7))))) nd_n_marks_of))))))
  (ts_one (ts_ret (te_var 4)))))))
theorem ok_n_least_of (T : Tx K mg base a e) : FnOk P w K mg base (L2.CX P w) 2 a.n_least_of e.n_least_of ["machine"] (spF (G0 K a) 1 F_n_least_of) :=
  fn_F (k := 1) T.f_n_least_of sc_n_least_of fun r sc cdv A outer s H E hcd hr =>
  (ts_cons (ts_setV 1 (te_call (ok_n_marks_of T) (hr.mono (by omega)) T.g_n_marks_of T.f_n_marks_of.kp T.bi_n_marks_of passD (ta_cons (te_var 0) ta_nil)) nd_n_least_of)
  (ts_cons (ts_par2 rfl nd_n_least_of (tk_cons (th_nv (tn_lst (ta_cons te_int ta_nil))) (tk_cons (th_nv (tn_disp (te_ix (te_var 1) te_int) te_int)) tk_nil)))
  (ts_cons (ts_newV 4 (tn_lst ta_nil) nd_n_least_of)
  (ts_cons (ts_while lim ownD (tb_lt (te_len T.b_len (te_var 4)) (te_len T.b_len (te_var 2))) (ts_cons (ts_newV 5 (tn_lst ta_nil) nd_n_least_of)
  (ts_cons (ts_forP ownD rfl (wp_seq (te_ix (te_ix (te_var 0) te_int) (te_ix (te_var 2) (te_len T.b_len (te_var 4))))) (tg_nm 6 nd_n_least_of) (ts_cons (ts_if (tb_ninD hr (te_ix (te_var 1) (te_var 6)) (te_var 3))
  (ts_cons (ts_dput 3 hr (te_len T.b_len (te_var 2)) (te_ix (te_var 1) (te_var 6)))
  (ts_one (ts_appV 2 (te_var 6))))
  ts_nil)
  (ts_one (ts_app 5 (te_dget hr (te_var 3) (te_ix (te_var 1) (te_var 6)))))))
  (ts_one (ts_app 4 (te_tuple T.b_tuple (te_var 5)))))))
  (ts_one (ts_ret (te_tup (ta_cons (te_tuple T.b_tuple (te_var 4)) (ta_cons (te_tuple T.b_tuple (te_of_new (tn_lc [("state", 7)] rfl nd_n_least_of (wi_seq (te_var 2)) (blkOk_by (by rfl)) (fun s H C cl fp => (tg_nm 7 nd_n_least_of)) (fun s H C cl fp => tts_nil) (fun s H C cl fp => (te_ix (te_ix (te_var 0) te_int) (te_var 7)))))) ta_nil)))))))))
theorem ok_n_least_machine (T : Tx K mg base a e) : FnOk P w K mg base (L2.CX P w) 5 a.n_least_machine e.n_least_machine ["machine"] (spF (G0 K a) 1 F_n_least_machine) :=
  fn_F (k := 4) T.f_n_least_machine sc_n_least_machine fun r sc cdv A outer s H E hcd hr =>
  (ts_cons (ts_expr (te_call (ok_n_need_machine T) (hr.mono (by omega)) T.g_n_need_machine T.f_n_need_machine.kp T.bi_n_need_machine passD (ta_cons (te_var 0) ta_nil)))
  (ts_one (ts_ret (te_call (ok_n_least_of T) (hr.mono (by omega)) T.g_n_least_of T.f_n_least_of.kp T.bi_n_least_of passD (ta_cons (te_var 0) ta_nil)))))
theorem d_n__law_taken (T : Tx K mg base a e) : ∀ (cdv : Value) (A : Around) (outer : List PySem.Env) (s : Shared) (H : Hp) (E : XK), Room 0 (A.deeper (envOfC "_law_taken" (defScope s_n__law_taken) s.heap.objs.size a.n__law_taken cdv)) →
    PSs (cxOf (L2.CX P w) P w K mg base N_n__law_taken "_law_taken" (defScope s_n__law_taken) a.n__law_taken cdv A outer s H E) (defBody s_n__law_taken) (sT ((G0 K a).at none 0) E g_n__law_taken) := fun cdv A outer s H E hr =>
  (ts_cons (ts_if (tb_gt (te_ix (te_var 0) te_int) te_int)
  (ts_cons (ts_set 2 (te_mod (te_toInt T.b_int (te_ix (te_var 0) te_int)) (te_var 1)) nd_n__law_taken)
  (ts_cons (ts_seti 0 (te_fdiv (te_ix (te_var 0) te_int) (te_var 1)) te_int)
  (ts_one (ts_retP (te_var 2)))))
  ts_nil)
  (ts_cons (ts_seti 0 (te_add (te_ix (te_var 0) te_int) te_int) te_int)
  (ts_cons (ts_if (tb_gt (te_ix (te_var 0) te_int) (te_len T.b_len (te_ix (te_var 0) te_int)))
  (ts_cons (ts_seti 0 (te_mod (te_toInt T.b_int (te_add (te_mul (te_ix (te_var 0) te_int) te_int) te_int)) te_int) te_int)
  (ts_one (ts_retP (te_mod (te_toInt T.b_int (te_fdiv (te_ix (te_var 0) te_int) te_int)) (te_var 1)))))
  ts_nil)
  (ts_cons (ts_set 3 (te_ix (te_ix (te_var 0) te_int) (te_sub (te_ix (te_var 0) te_int) te_int)) nd_n__law_taken)
  (ts_cons (ts_seti 0 (te_mod (te_toInt T.b_int (te_add (te_add (te_mul (te_ix (te_var 0) te_int) te_int) (te_var 3)) te_int)) te_int) te_int)
  (ts_cons (ts_if (tb_ge (te_var 3) (te_pow te_int te_int))
  (ts_one (ts_seti 0 (te_fdiv (te_var 3) (te_var 1)) te_int))
  ts_nil)
  (ts_one (ts_retP (te_mod (te_toInt T.b_int (te_var 3)) (te_var 1))))))))))
theorem ok_n__law_taken (T : Tx K mg base a e) : FnOk P w K mg base (L2.CX P w) 1 a.n__law_taken e.n__law_taken ["_law_row", "_law_many"] (spF (G0 K a) 2 F_n__law_taken) :=
  fn_taken T.f_n__law_taken sc_n__law_taken rfl (d_n__law_taken T) rfl rfl taken_g
theorem ok_n__law_machine (T : Tx K mg base a e) : FnOk P w K mg base (L2.CX P w) 2 a.n__law_machine e.n__law_machine ["_law_row", "_law_states", "_law_letters"] (spF (G0 K a) 3 F_n__law_machine) :=
  fn_F (k := 1) T.f_n__law_machine sc_n__law_machine fun r sc cdv A outer s H E hcd hr =>
  (ts_cons (ts_parT rfl (tk_cons (th_v (te_add te_int (te_call (ok_n__law_taken T) (hr.mono (by omega)) T.g_n__law_taken T.f_n__law_taken.kp T.bi_n__law_taken passD (ta_cons (te_var 0) (ta_cons (te_var 1) ta_nil))))) (tk_cons (th_v (te_add te_int (te_call (ok_n__law_taken T) (hr.mono (by omega)) T.g_n__law_taken T.f_n__law_taken.kp T.bi_n__law_taken passD (ta_cons (te_var 0) (ta_cons (te_var 2) ta_nil))))) (tk_cons (th_v (te_call (ok_n__law_taken T) (hr.mono (by omega)) T.g_n__law_taken T.f_n__law_taken.kp T.bi_n__law_taken passD (ta_cons (te_var 0) (ta_cons te_int ta_nil)))) tk_nil))) (gns_cons 3 (gns_cons 4 (gns_cons 5 gns_nil nd_n__law_machine) nd_n__law_machine) nd_n__law_machine))
  (ts_cons (ts_par2 rfl nd_n__law_machine (tk_cons (th_nv (tn_lst ta_nil)) (tk_cons (th_nv (tn_lst ta_nil)) tk_nil)))
  (ts_cons (ts_setLc 9 [("_law_letter", 8)] rfl nd_n__law_machine (wi_range1 (np := false) T.b_range (te_var 4)) (blkOk_by (by rfl)) (fun s H C cl fp => (tg_nm 8 nd_n__law_machine)) (fun s H C cl fp => tts_nil) (fun s H C cl fp => (te_call (ok_n__law_taken T) (hr.mono (by omega)) T.g_n__law_taken T.f_n__law_taken.kp T.bi_n__law_taken passL (ta_cons (te_var 0) (ta_cons (te_var 3) ta_nil)))))
  (ts_cons (ts_for ownD rfl (wi_range1 (np := false) T.b_range (te_var 3)) (tg_nm 10 nd_n__law_machine) (ts_cons (ts_newV 11 (tn_lst ta_nil) nd_n__law_machine)
  (ts_cons (ts_for ownD rfl (wi_range1 (np := false) T.b_range (te_var 4)) (tg_nm 8 nd_n__law_machine) (ts_cons (ts_setV 12 (te_if (tb_eq hr (te_var 5) te_int) (te_call (ok_n__law_taken T) (hr.mono (by omega)) T.g_n__law_taken T.f_n__law_taken.kp T.bi_n__law_taken passD (ta_cons (te_var 0) (ta_cons (te_var 3) ta_nil))) (te_min2 T.b_min rfl (te_sub (te_var 3) te_int) (te_add (te_var 10) (te_call (ok_n__law_taken T) (hr.mono (by omega)) T.g_n__law_taken T.f_n__law_taken.kp T.bi_n__law_taken passD (ta_cons (te_var 0) (ta_cons te_int ta_nil)))))) nd_n__law_machine)
  (ts_one (ts_appV 11 (te_if (tb_w (wb_and (tb_gt (te_var 5) te_int) (wb_and1 (tb_gt (te_call (ok_n__law_taken T) (hr.mono (by omega)) T.g_n__law_taken T.f_n__law_taken.kp T.bi_n__law_taken passD (ta_cons (te_var 0) (ta_cons te_int ta_nil))) te_int)))) (te_ix (te_var 9) (te_var 8)) (te_var 12))))))
  (ts_cons (ts_app 6 (te_tuple T.b_tuple (te_var 11)))
  (ts_one (ts_appV 7 (te_tuple T.b_tuple (te_of_new (tn_lc [("_law_letter", 8)] rfl nd_n__law_machine (wi_range1 (np := false) T.b_range (te_var 4)) (blkOk_by (by rfl)) (fun s H C cl fp => (tg_nm 8 nd_n__law_machine)) (fun s H C cl fp => tts_nil) (fun s H C cl fp => (te_call (ok_n__law_taken T) (hr.mono (by omega)) T.g_n__law_taken T.f_n__law_taken.kp T.bi_n__law_taken passL (ta_cons (te_var 0) (ta_cons te_int ta_nil)))))))))))))
  (ts_one (ts_ret (te_tup (ta_cons (te_tuple T.b_tuple (te_var 6)) (ta_cons (te_tuple T.b_tuple (te_var 7)) ta_nil)))))))))
theorem ok_n__law_alike (T : Tx K mg base a e) : ∀ n : Nat, FnOk P w K mg base (L2.CX P w) (n + 1) a.n__law_alike e.n__law_alike ["_law_found", "_law_due"] (spF (G0 K a) 2 (F_n__law_alike n))
  | 0 => fn_none
  | n + 1 => by
    have G0 := ok_n__law_alike T n
    exact (fn_F (k := n + 1) T.f_n__law_alike sc_n__law_alike (fun r sc cdv A outer s H E hcd hr =>
  (ts_cons (ts_if (tb_truth (te_isi2 (T := .tup) (U := .lst) T.b_isinstance T.b_tuple T.b_list (by decide +kernel) (by decide +kernel) (by decide) (by decide) (te_var 1)))
  (ts_cons (ts_if (tb_w (wb_or (tb_not (tb_truth (te_isi2 (T := .tup) (U := .lst) T.b_isinstance T.b_tuple T.b_list (by decide +kernel) (by decide +kernel) (by decide) (by decide) (te_var 0)))) (wb_or1 (tb_ne hr (te_isi (T := .lst) T.b_isinstance T.b_list (by decide +kernel) (by decide) (te_var 0)) (te_isi (T := .lst) T.b_isinstance T.b_list (by decide +kernel) (by decide) (te_var 1))))))
  (ts_one (ts_ret te_bl))
  ts_nil)
  (ts_cons (ts_if (tb_ne hr (te_len T.b_len (te_var 0)) (te_len T.b_len (te_var 1)))
  (ts_one (ts_ret te_bl))
  ts_nil)
  (ts_one (ts_ret (te_eq hr (te_of_new (tn_lc [("_law_k", 2)] rfl nd_n__law_alike (wi_range1 (np := false) T.b_range (te_len T.b_len (te_var 1))) (blkOk_by (by rfl)) (fun s H C cl fp => (tg_nm 2 nd_n__law_alike)) (fun s H C cl fp => (tts_one (tb_not (tb_truth (te_call G0 (hr.mono (by omega)) T.g_n__law_alike T.f_n__law_alike.kp T.bi_n__law_alike passL (ta_cons (te_ix (te_var 0) (te_var 2)) (ta_cons (te_ix (te_var 1) (te_var 2)) ta_nil))))))) (fun s H C cl fp => (te_var 2)))) (te_lst ta_nil))))))
  ts_nil)
  (ts_cons (ts_if (tb_w (wb_or (tb_isN (te_var 1)) (wb_or1 (tb_truth (te_isi (T := .str) T.b_isinstance T.b_str (by decide +kernel) (by decide) (te_var 1))))))
  (ts_one (ts_ret (te_and (te_eq hr (te_var 0) (te_var 1)) (te_one (te_eq hr (te_isi (T := .str) T.b_isinstance T.b_str (by decide +kernel) (by decide) (te_var 0)) (te_isi (T := .str) T.b_isinstance T.b_str (by decide +kernel) (by decide) (te_var 1)))))))
  ts_nil)
  (ts_one (ts_ret (te_and (te_isi (T := .int) T.b_isinstance T.b_int (by decide +kernel) (by decide) (te_var 0)) (te_and (te_eq hr (te_isi (T := .bl) T.b_isinstance T.b_bool (by decide +kernel) (by decide) (te_var 0)) (te_isi (T := .bl) T.b_isinstance T.b_bool (by decide +kernel) (by decide) (te_var 1))) (te_one (te_eq hr (te_var 0) (te_var 1)))))))))))
theorem ok_n__law_led (T : Tx K mg base a e) : FnOk P w K mg base (L2.CX P w) 1 a.n__law_led e.n__law_led ["_law_machine_here", "_law_state", "_law_word"] (spF (G0 K a) 3 F_n__law_led) :=
  fn_F (k := 0) T.f_n__law_led sc_n__law_led fun r sc cdv A outer s H E hcd hr =>
  (ts_cons (ts_for ownD rfl (wi_seq (te_var 2)) (tg_nm 3 nd_n__law_led) (ts_one (ts_setV 1 (te_ix (te_ix (te_ix (te_var 0) te_int) (te_var 1)) (te_var 3)) nd_n__law_led)))
  (ts_one (ts_ret (te_var 1))))
theorem ok_n__law_told (T : Tx K mg base a e) : FnOk P w K mg base (L2.CX P w) 2 a.n__law_told e.n__law_told ["_law_machine_here", "_law_state", "_law_word"] (spF (G0 K a) 3 F_n__law_told) :=
  fn_F (k := 1) T.f_n__law_told sc_n__law_told fun r sc cdv A outer s H E hcd hr =>
  (ts_one (ts_ret (te_tuple T.b_tuple (te_of_new (tn_lc [("_law_at", 3)] rfl nd_n__law_told (wi_range1 (np := false) T.b_range (te_len T.b_len (te_var 2))) (blkOk_by (by rfl)) (fun s H C cl fp => (tg_nm 3 nd_n__law_told)) (fun s H C cl fp => tts_nil) (fun s H C cl fp => (te_ix (te_ix (te_ix (te_var 0) te_int) (te_call (ok_n__law_led T) (hr.mono (by omega)) T.g_n__law_led T.f_n__law_led.kp T.bi_n__law_led passL (ta_cons (te_var 0) (ta_cons (te_var 1) (ta_cons (te_slice (te_var 2) to_none (to_some (te_var 3))) ta_nil))))) (te_ix (te_var 2) (te_var 3)))))))))
theorem ok_n__law_unlike (T : Tx K mg base a e) : FnOk P w K mg base (L2.CX P w) 1 a.n__law_unlike e.n__law_unlike ["_law_machine_here"] (spF (G0 K a) 1 F_n__law_unlike) :=
  fn_F (k := 0) T.f_n__law_unlike sc_n__law_unlike fun r sc cdv A outer s H E hcd hr =>
  (ts_cons (ts_parT rfl (tk_cons (th_v (te_len T.b_len (te_ix (te_var 0) te_int))) (tk_cons (th_nv tn_dT) tk_nil)) (gns_cons 1 (gns_cons 2 gns_nil nd_n__law_unlike) nd_n__law_unlike))
  (ts_cons (ts_for ownD rfl (wi_range1 (np := false) T.b_range (te_add (te_mul (te_var 1) (te_var 1)) te_int)) (tg_nm 3 nd_n__law_unlike) (ts_one (ts_for ownD rfl (wi_range1 (np := false) T.b_range (te_var 1)) (tg_nm 4 nd_n__law_unlike) (ts_one (ts_for ownD rfl (wi_range1 (np := false) T.b_range (te_var 1)) (tg_nm 5 nd_n__law_unlike) (ts_cons (ts_setLcA 6 [("_law_letter", 7)] rfl nd_n__law_unlike (wi_range1 (np := false) T.b_range (te_len T.b_len (te_ix (te_ix (te_var 0) te_int) te_int))) (blkOk_by (by rfl)) (fun s H C cl fp => (tg_nm 7 nd_n__law_unlike)) (fun s H C cl fp => (tts_one (tb_inD hr (te_tup (ta_cons (te_ix (te_ix (te_ix (te_var 0) te_int) (te_var 4)) (te_var 7)) (ta_cons (te_ix (te_ix (te_ix (te_var 0) te_int) (te_var 5)) (te_var 7)) ta_nil))) (te_var 2)))) (fun s H C cl fp => (te_var 7)))
  (ts_one (ts_if (tb_w (wb_or (tb_ne hr (te_ix (te_ix (te_var 0) te_int) (te_var 4)) (te_ix (te_ix (te_var 0) te_int) (te_var 5))) (wb_or1 (tb_ne hr (te_var 6) (te_lst ta_nil)))))
  (ts_one (ts_dput 2 hr te_bl (te_tup (ta_cons (te_var 4) (ta_cons (te_var 5) ta_nil)))))
  ts_nil))))))))
  (ts_one (ts_ret (te_var 2)))))
theorem ok_n_law (T : Tx K mg base a e) (hg : ∀ (b : Addr) (ns : List Int), AllOk (fun d => d = .bl true) (g_n_law (.val (.arr b ns) :: .val .row :: List.replicate 14 .dead)).fin) : FnOk P w K mg base (L2.CX P w) 10 a.n_law e.n_law ["_law_script"] (spLaw (G0 K a)) :=
  fn_law (y := "_law_script") T.f_n_law sc_n_law rfl rfl (fun cdv A outer s H E => ps_set (i := 1) nd_n_law rfl (by first | exact .inl rfl | exact .inr rfl) (pe_lst (pa_cons (pv 0) (pa_cons pe_int (pa_cons pe_int (pa_cons pe_int pa_nil))))))
  (fun r sc cdv A outer s H E hcd hr =>
  (ts_cons (ts_setV 2 (te_call (ok_n__law_machine T) (hr.mono (by omega)) T.g_n__law_machine T.f_n__law_machine.kp T.bi_n__law_machine passD (ta_cons (te_var 1) (ta_cons te_int (ta_cons te_int ta_nil)))) nd_n_law)
  (ts_cons (ts_setV 3 (te_len T.b_len (te_ix (te_ix (te_var 2) te_int) te_int)) nd_n_law)
  (ts_cons (ts_for ownD rfl (wi_range1 (np := false) T.b_range te_int) (tg_nm 4 nd_n_law) (ts_cons (ts_par2 rfl nd_n_law (tk_cons (th_v (te_call (ok_n__law_taken T) (hr.mono (by omega)) T.g_n__law_taken T.f_n__law_taken.kp T.bi_n__law_taken passD (ta_cons (te_var 1) (ta_cons (te_len T.b_len (te_ix (te_var 2) te_int)) ta_nil)))) (tk_cons (th_v (te_tuple T.b_tuple (te_of_new (tn_lc [("_law_at", 5)] rfl nd_n_law (wi_range1 (np := false) T.b_range (te_call (ok_n__law_taken T) (hr.mono (by omega)) T.g_n__law_taken T.f_n__law_taken.kp T.bi_n__law_taken passD (ta_cons (te_var 1) (ta_cons te_int ta_nil)))) (blkOk_by (by rfl)) (fun s H C cl fp => (tg_nm 5 nd_n_law)) (fun s H C cl fp => tts_nil) (fun s H C cl fp => (te_call (ok_n__law_taken T) (hr.mono (by omega)) T.g_n__law_taken T.f_n__law_taken.kp T.bi_n__law_taken passL (ta_cons (te_var 1) (ta_cons (te_var 3) ta_nil)))))))) tk_nil)))
  (ts_one (ts_if (tb_not (tb_truth (te_call (ok_n__law_alike T 8) (hr.mono (by omega)) T.g_n__law_alike T.f_n__law_alike.kp T.bi_n__law_alike passD (ta_cons (te_call (ok_n_answers T) (hr.mono (by omega)) T.g_n_answers T.f_n_answers.kp T.bi_n_answers passD (ta_cons (te_var 2) (ta_cons (te_var 6) (ta_cons (te_var 7) ta_nil)))) (ta_cons (te_call (ok_n__law_told T) (hr.mono (by omega)) T.g_n__law_told T.f_n__law_told.kp T.bi_n__law_told passD (ta_cons (te_var 2) (ta_cons (te_var 6) (ta_cons (te_var 7) ta_nil)))) ta_nil)))))
  (ts_one (ts_ret te_bl))
  ts_nil))))
  (ts_cons (ts_parT rfl (tk_cons (th_v (te_call (ok_n__law_unlike T) (hr.mono (by omega)) T.g_n__law_unlike T.f_n__law_unlike.kp T.bi_n__law_unlike passD (ta_cons (te_var 2) ta_nil))) (tk_cons (th_nv (tn_lst ta_nil)) (tk_cons (th_nv (tn_lst (ta_cons te_int ta_nil))) (tk_cons (th_v te_int) tk_nil)))) (gns_cons 8 (gns_cons 9 (gns_cons 10 (gns_cons 5 gns_nil nd_n_law) nd_n_law) nd_n_law) nd_n_law))
  (ts_cons (ts_while lim ownD (tb_lt (te_var 5) (te_len T.b_len (te_var 10))) (ts_cons (ts_forP ownD rfl (wp_seq (te_ix (te_ix (te_var 2) te_int) (te_ix (te_var 10) (te_var 5)))) (tg_nm 11 nd_n_law) (ts_one (ts_if (tb_eq hr (te_of_new (tn_lc [("_law_one", 14)] rfl nd_n_law (wi_seq (te_var 10)) (blkOk_by (by rfl)) (fun s H C cl fp => (tg_nm 14 nd_n_law)) (fun s H C cl fp => (tts_one (tb_ninD hr (te_tup (ta_cons (te_var 14) (ta_cons (te_var 11) ta_nil))) (te_var 8)))) (fun s H C cl fp => (te_var 14)))) (te_lst ta_nil))
  (ts_one (ts_appV 10 (te_var 11)))
  ts_nil)))
  (ts_one (ts_setV 5 (te_add (te_var 5) te_int) nd_n_law))))
  (ts_cons (ts_frz 10 (ts_for ownD rfl (wi_seq (te_var 10)) (tg_nm 6 nd_n_law) (ts_cons (ts_newV 12 (tn_lst ta_nil) nd_n_law)
  (ts_cons (ts_for ownD rfl (wi_seq (te_ix (te_ix (te_var 2) te_int) (te_var 6))) (tg_nm 11 nd_n_law) (ts_one (ts_app 12 (te_ix (te_of_new (tn_lc [("_law_k", 15)] rfl nd_n_law (wi_range1 (np := false) T.b_range (te_len T.b_len (te_var 10))) (blkOk_by (by rfl)) (fun s H C cl fp => (tg_nm 15 nd_n_law)) (fun s H C cl fp => (tts_one (tb_ninD hr (te_tup (ta_cons (te_ix (te_var 10) (te_var 15)) (ta_cons (te_var 11) ta_nil))) (te_var 8)))) (fun s H C cl fp => (te_var 15)))) te_int))))
  (ts_one (ts_app 9 (te_tuple T.b_tuple (te_var 12))))))))
  (ts_cons (ts_set 13 (te_tup (ta_cons (te_tuple T.b_tuple (te_var 9)) (ta_cons (te_tuple T.b_tuple (te_of_new (tn_lc [("_law_state", 6)] rfl nd_n_law (wi_seq (te_var 10)) (blkOk_by (by rfl)) (fun s H C cl fp => (tg_nm 6 nd_n_law)) (fun s H C cl fp => tts_nil) (fun s H C cl fp => (te_ix (te_ix (te_var 2) te_int) (te_var 6)))))) ta_nil))) nd_n_law)
  (ts_one (ts_ret (te_call (ok_n__law_alike T 8) (hr.mono (by omega)) T.g_n__law_alike T.f_n__law_alike.kp T.bi_n__law_alike passD (ta_cons (te_call (ok_n_least_machine T) (hr.mono (by omega)) T.g_n_least_machine T.f_n_least_machine.kp T.bi_n_least_machine passD (ta_cons (te_var 2) ta_nil)) (ta_cons (te_var 13) ta_nil))))))))))))) (by decide) hg
end
end Lw
end
set_option Elab.async false
set_option linter.all false
set_option autoImplicit false
set_option maxRecDepth 100000
set_option maxHeartbeats 4000000
noncomputable section
namespace Lw
open Fw
/-! ### machines: the defs that every law holds -/
def rowsT (st : List (List Int)) : D := .tup (st.map fun r => .tup (iL r))
def machT (st an : List (List Int)) : D := .tup [rowsT st, rowsT an]
structure Good (st an : List (List Int)) (l : Nat) : Prop where
  n1 : 1 ≤ st.length
  n6 : st.length ≤ 6
  l1 : 1 ≤ l
  l3 : l ≤ 3
  sl : ∀ r ∈ st, r.length = l
  sv : ∀ r ∈ st, ∀ v ∈ r, 0 ≤ v ∧ v < (st.length : Int)
  al : ∀ r ∈ an, r.length = l
  av : ∀ r ∈ an, ∀ v ∈ r, 0 ≤ v ∧ v ≤ 9
  same : an.length = st.length
theorem F_is_number (v lo hi : Int) : F_n_is_number [.int v, .int lo, .int hi] = .ok (.bl (decide (lo ≤ v) && decide (v ≤ hi))) := by
  by_cases h1 : lo ≤ v <;> simp [F_n_is_number, g_n_is_number, start0, h1]
theorem are_rows_loop (l : Nat) (most : Int) : ∀ (rs : List (List Int)) (v n : D) (x : Sl), isRow [x] 0 = false → (∀ r ∈ rs, r.length = l ∧ ∀ v ∈ r, 0 ≤ v ∧ v ≤ most) →
    ∃ y, isRow [y] 0 = false ∧ loopO (.nm 4) lb_n_are_rows_1 (rs.map fun r => .tup (iL r)) [.val v, .val n, .val (.int l), .val (.int most), x, .dead] = .nx [.val v, .val n, .val (.int l), .val (.int most), y, .dead]
  | [], v, n, x, hx, _ => ⟨x, hx, rfl⟩
  | r :: rs, v, n, x, hx, h => by
    obtain ⟨h1, h2⟩ := h r List.mem_cons_self
    obtain ⟨y, hy, ih⟩ := are_rows_loop l most rs v n (.val (.tup (iL r))) rfl fun q hq => h q (List.mem_cons_of_mem _ hq)
    refine ⟨y, hy, ?_⟩
    rw [List.map_cons, loopO_cons]
    have hall : genL false (.nm 5) ge_n_are_rows_1 [some v, some n, some (.int l), some (.int most), some (.tup (iL r)), none] (iL r) = .ok (.bl true) := by
      rw [genL_all (fun d => match d with | .int i => decide (0 ≤ i) && decide (i ≤ most) | _ => false) (iL r) fun d hd => ?_]
      · congr 2
        rw [List.all_eq_true]
        intro d hd
        obtain ⟨i, hi, rfl⟩ := List.mem_map.mp hd
        simp [h2 i hi]
      · obtain ⟨i, hi, rfl⟩ := List.mem_map.mp hd
        simp [ge_n_are_rows_1, F_is_number]
    simp at hx
    simp [lb_n_are_rows_1, hall, hx, iL_len, h1]
    exact ih
theorem F_are_rows (rs : List (List Int)) (l : Nat) (most : Int) (h : ∀ r ∈ rs, r.length = l ∧ ∀ v ∈ r, 0 ≤ v ∧ v ≤ most) :
    F_n_are_rows [rowsT rs, .int rs.length, .int l, .int most] = .ok (.bl true) := by
  obtain ⟨y, hy, e⟩ := are_rows_loop l most rs (rowsT rs) (.int rs.length) .dead rfl h
  simp [F_n_are_rows, g_n_are_rows, start0, rowsT] at e ⊢
  rw [e]
  simp
theorem F_letters_of {st an : List (List Int)} {l : Nat} (G : Good st an l) : F_n_letters_of [machT st an] = .ok (.int l) := by
  obtain ⟨r, st', rfl⟩ : ∃ r st', st = r :: st' := by
    cases st with
    | nil => exact absurd G.n1 (by decide)
    | cons r t => exact ⟨r, t, rfl⟩
  have := G.sl r List.mem_cons_self
  simp [F_n_letters_of, g_n_letters_of, start0, machT, rowsT, ixG_zero, iL_len, this]
theorem F_need_machine {st an : List (List Int)} {l : Nat} (G : Good st an l) : F_n_need_machine [machT st an] = .ok .non := by
  have e1 := F_are_rows st l (st.length - 1) fun r hr => ⟨G.sl r hr, fun v hv => by have := G.sv r hr v hv; omega⟩
  have e2 := F_are_rows an l 9 fun r hr => ⟨G.al r hr, G.av r hr⟩
  rw [G.same] at e2
  obtain ⟨r, st', e⟩ : ∃ r st', st = r :: st' := by
    cases st with
    | nil => exact absurd G.n1 (by decide)
    | cons r t => exact ⟨r, t, rfl⟩
  have hr := G.sl r (by rw [e]; exact List.mem_cons_self)
  have h0 : ixG (st.map fun r => D.tup (iL r)) 0 = .ok (.tup (iL r)) := by rw [e, List.map_cons]; exact ixG_zero
  have n1 := G.n1
  have n6 := G.n6
  have l1 := G.l1
  have l3 := G.l3
  have a1 : (1 : Int) ≤ (st.length : Int) := by omega
  have a2 : (st.length : Int) ≤ 6 := by omega
  have a3 : (1 : Int) ≤ (l : Int) := by omega
  have a4 : (l : Int) ≤ 3 := by omega
  simp only [rowsT] at e1 e2
  simp [F_n_need_machine, g_n_need_machine, start0, machT, rowsT, h0, iL_len, hr, a1, a2, a3, a4, e1, e2]
theorem F_is_word {st an : List (List Int)} {l : Nat} (G : Good st an l) (w : List Int) (hl : w.length ≤ 4000) (h : ∀ v ∈ w, 0 ≤ v ∧ v < (l : Int)) : F_n_is_word [machT st an, .tup (iL w)] = .ok (.bl true) := by
  have hall : genL false (.nm 2) ge_n_is_word_1 [some (machT st an), some (.tup (iL w)), none] (iL w) = .ok (.bl true) := by
    rw [genL_all (fun d => match d with | .int i => decide (0 ≤ i) && decide (i ≤ l - 1) | _ => false) (iL w) fun d hd => ?_]
    · congr 2
      rw [List.all_eq_true]
      intro d hd
      obtain ⟨i, hi, rfl⟩ := List.mem_map.mp hd
      have := h i hi
      simp
      omega
    · obtain ⟨i, hi, rfl⟩ := List.mem_map.mp hd
      simp [ge_n_is_word_1, F_is_number, F_letters_of G]
  have a1 : ¬ (4000 : Int) < (w.length : Int) := by omega
  simp [F_n_is_word, g_n_is_word, start0, iL_len, a1, hall]
theorem F_need_word {st an : List (List Int)} {l : Nat} (G : Good st an l) (w : List Int) (hl : w.length ≤ 4000) (h : ∀ v ∈ w, 0 ≤ v ∧ v < (l : Int)) : F_n_need_word [machT st an, .tup (iL w)] = .ok .non := by
  simp [F_n_need_word, g_n_need_word, start0, F_is_word G w hl h]
/-! runs -/
def stepN (st : List (List Int)) (s a : Nat) : Nat := ((st.getD s []).getD a 0).toNat
def ansI (an : List (List Int)) (s a : Nat) : Int := (an.getD s []).getD a 0
def runN (st : List (List Int)) (s : Nat) : List Nat → Nat
  | [] => s
  | a :: w => runN st (stepN st s a) w
def saidN (st an : List (List Int)) (s : Nat) : List Nat → List Int
  | [] => []
  | a :: w => ansI an s a :: saidN st an (stepN st s a) w
theorem get_rows {rs : List (List Int)} {s : Nat} (h : s < rs.length) : (rs.map fun r => D.tup (iL r))[s]? = some (.tup (iL (rs.getD s []))) := by
  rw [List.getElem?_map, List.getElem?_eq_getElem h]
  simp [List.getD_eq_getElem?_getD, List.getElem?_eq_getElem h]
theorem Good.row {st an : List (List Int)} {l : Nat} (G : Good st an l) {s : Nat} (h : s < st.length) : (st.getD s []).length = l := G.sl _ (getD_mem h)
theorem Good.step {st an : List (List Int)} {l : Nat} (G : Good st an l) {s a : Nat} (h : s < st.length) (ha : a < l) : stepN st s a < st.length ∧ (st.getD s []).getD a 0 = (stepN st s a : Int) := by
  have hr := G.row h
  have := G.sv _ (getD_mem h) _ (getD_mem (d := 0) (show a < (st.getD s []).length by omega))
  unfold stepN
  omega
/-- machine[0][s][a], machine[1][s][a] -/
theorem mach0 (st an : List (List Int)) : (machT st an).ix (.int 0) = .ok (rowsT st) := by unfold machT; rw [ix_tup, ixG_zero]
theorem mach1 (st an : List (List Int)) : (machT st an).ix (.int 1) = .ok (rowsT an) := by unfold machT; rw [ix_tup, ixG_one]
theorem rows_at {rs : List (List Int)} {s : Nat} (h : s < rs.length) : (rowsT rs).ix (.int s) = .ok (.tup (iL (rs.getD s []))) := by unfold rowsT; rw [ix_tup, ixG_nat (get_rows h)]
theorem Good.at0 {st an : List (List Int)} {l : Nat} (G : Good st an l) {s a : Nat} (h : s < st.length) (ha : a < l) : (D.tup (iL (st.getD s []))).ix (.int a) = .ok (.int (stepN st s a : Nat)) := by
  rw [row_at (by rw [G.row h]; exact ha), (G.step h ha).2]
theorem Good.at1 {st an : List (List Int)} {l : Nat} (G : Good st an l) {s a : Nat} (h : s < st.length) (ha : a < l) : (rowsT an).ix (.int s) = .ok (.tup (iL (an.getD s []))) ∧ (D.tup (iL (an.getD s []))).ix (.int a) = .ok (.int (ansI an s a)) := by
  have h' : s < an.length := by rw [G.same]; exact h
  exact ⟨rows_at h', row_at (by rw [G.al _ (getD_mem h')]; exact ha)⟩
theorem Good.run {st an : List (List Int)} {l : Nat} (G : Good st an l) : ∀ (w : List Nat) (s : Nat), s < st.length → (∀ a ∈ w, a < l) → runN st s w < st.length
  | [], _, h, _ => h
  | a :: w, s, h, hw => G.run w _ (G.step h (hw a List.mem_cons_self)).1 fun b hb => hw b (List.mem_cons_of_mem _ hb)
theorem saidN_len (st an : List (List Int)) : ∀ (w : List Nat) (s : Nat), (saidN st an s w).length = w.length
  | [], _ => rfl
  | a :: w, s => by simp [saidN, saidN_len st an w]
end Lw
end
set_option Elab.async false
set_option linter.all false
set_option autoImplicit false
set_option maxRecDepth 100000
set_option maxHeartbeats 4000000
noncomputable section
namespace Lw
open Fw
/-! ### draws: machines and words -/
theorem taken_ok (n : Int) (h : 0 < n) (h2 : n ≤ 1000000) : F_n__law_taken [.row, .int n] = .dr n fun i => .ok (.int i) := by
  have : n.natAbs.log2 < 9000 := by
    have := log2_of_lt (i := n) (k := 20) (by omega)
    omega
  simp [F_n__law_taken, takenF, h, this]
def Row (w : Nat) (P : Int → Prop) (r : List Int) : Prop := r.length = w ∧ ∀ v ∈ r, P v
def mEnv (a b : Int) (many wide : Nat) (kind : Int) (st an : List (List Int)) (x8 : Sl) (tb : List Int) (x10 x11 x12 : Sl) : SEnv := [.val .row, .val (.int a), .val (.int b), .val (.int many), .val (.int wide), .val (.int kind), .own (.lst (st.map fun r => .tup (iL r))), .own (.lst (an.map fun r => .tup (iL r))), x8, .val (.lst (iL tb)), x10, x11, x12]
def lInv (a b : Int) (many wide : Nat) (kind : Int) (st an : List (List Int)) (tb : List Int) (i j : Nat) (ρ : SEnv) : Prop :=
  ∃ x8 u x12, ρ = mEnv a b many wide kind st an x8 tb (.val (.int i)) (.own (.lst (iL u))) x12 ∧ isRow [x8] 0 = false ∧ isRow [x12] 0 = false ∧ u.length = j ∧ ∀ v ∈ u, 0 ≤ v ∧ v < (many : Int)
theorem l_step (a b : Int) (many wide : Nat) (kind : Int) (st an : List (List Int)) (tb : List Int) (i j : Nat) (hm : 0 < many) (hm2 : many ≤ 6) (hw : wide ≤ 3) (hj : j < wide) (ht : tb.length = wide) (ht2 : ∀ v ∈ tb, 0 ≤ v ∧ v < (many : Int)) (ρ : SEnv) (h : lInv a b many wide kind st an tb i j ρ) :
    isRow ρ 8 = false ∧ AllO (lInv a b many wide kind st an tb i (j + 1)) (lb_n__law_machine_1 (ρ.set 8 (.val (.int j)))) := by
  obtain ⟨x8, u, x12, rfl, h8, h12, hu, hu2⟩ := h
  refine ⟨by simpa [mEnv] using h8, ?_⟩
  have t1 := taken_ok (many : Int) (by omega) (by omega)
  have t2 := taken_ok 2 (by decide) (by decide)
  have t3 := taken_ok 3 (by decide) (by decide)
  have hset : (mEnv a b many wide kind st an x8 tb (.val (.int i)) (.own (.lst (iL u))) x12).set 8 (.val (.int (j : Int))) = mEnv a b many wide kind st an (.val (.int (j : Int))) tb (.val (.int i)) (.own (.lst (iL u))) x12 := rfl
  rw [hset]
  unfold lb_n__law_machine_1
  refine AllO.seq (P := fun ρ => ∃ v : Int, ρ = mEnv a b many wide kind st an (.val (.int (j : Int))) tb (.val (.int i)) (.own (.lst (iL u))) (.val (.int v)) ∧ 0 ≤ v ∧ v < (many : Int)) ?_ ?_
  · refine AllO.setV (P := fun d => ∃ v : Int, d = .int v ∧ 0 ≤ v ∧ v < (many : Int)) ?_ (by simpa [mEnv] using h12) fun d ⟨v, e, hv⟩ => ⟨v, by rw [e]; rfl, hv⟩
    by_cases k0 : kind = 0
    · simp [mEnv, k0, t1]
      exact fun v h1 h2 => ok_int ⟨h1, h2⟩
    · simp [mEnv, k0, t2]
      intro v h1 h2
      refine ok_int ?_
      split <;> omega
  · rintro ρ ⟨v, rfl, hv⟩
    have hl : (iL u).length < lim := by rw [iL_len]; exact lim_big' (by omega)
    have he : (D.lst (iL tb)).ix (.int (j : Int)) = .ok (.int (tb.getD j 0)) := lst_at (by omega)
    have fin : ∀ x : Int, 0 ≤ x ∧ x < (many : Int) → lInv a b many wide kind st an tb i (j + 1) (mEnv a b many wide kind st an (.val (.int (j : Int))) tb (.val (.int i)) (.own (.lst (iL u ++ [.int x]))) (.val (.int v))) := by
      intro x hx
      refine ⟨.val (.int (j : Int)), u ++ [x], .val (.int v), by simp [iL], rfl, rfl, by simp [hu], fun y hy => ?_⟩
      rcases List.mem_append.mp hy with hy | hy
      · exact hu2 y hy
      · rw [List.mem_singleton.mp hy]; exact hx
    have f1 := fin v hv
    have f2 := fin (tb.getD j 0) (ht2 _ (getD_mem (by omega)))
    by_cases k0 : 0 < kind
    · simp [-ix_lst, mEnv, k0, t3, AllO]
      intro c hc1 hc2
      by_cases c0 : 0 < c
      · simp [-ix_lst, c0, he, hl, AllO]
        exact f2
      · simp [-ix_lst, c0, hl, AllO]
        exact f1
    · simp [-ix_lst, mEnv, k0, hl, AllO]
      exact f1
def mInv (a b : Int) (many wide : Nat) (kind : Int) (tb : List Int) (i : Nat) (ρ : SEnv) : Prop :=
  ∃ st an x8 x10 x11 x12, ρ = mEnv a b many wide kind st an x8 tb x10 x11 x12 ∧ isRow [x8] 0 = false ∧ isRow [x10] 0 = false ∧ isRow [x11] 0 = false ∧ isRow [x12] 0 = false ∧ st.length = i ∧ an.length = i ∧ (∀ r ∈ st, Row wide (fun v => 0 ≤ v ∧ v < many) r) ∧ (∀ r ∈ an, Row wide (fun v => 0 ≤ v ∧ v ≤ 9) r)
theorem el2 (e : Fw.Env) (he : e[0]? = some (some .row)) (n : Nat) :
    ∀ d ∈ rangeD 0 n, AllOk (fun x => ∃ v, x = D.int v ∧ 0 ≤ v ∧ v ≤ 9) (ce_n__law_machine_2 (e.set 8 (some d))) := by
  intro d hd
  simp [ce_n__law_machine_2, he, taken_ok 2 (by decide) (by decide)]
  exact fun v h1 h2 => ok_int ⟨h1, by omega⟩
theorem el1 (e : Fw.Env) (many : Nat) (hm : 0 < many) (hm2 : many ≤ 6) (n : Nat) (h0 : e[0]? = some (some .row)) (h3 : e[3]? = some (some (.int (many : Int)))) :
    ∀ d ∈ rangeD 0 n, AllOk (fun x => ∃ v, x = D.int v ∧ 0 ≤ v ∧ v < (many : Int)) (ce_n__law_machine_1 (e.set 8 (some d))) := by
  intro d hd
  simp [ce_n__law_machine_1, h0, h3, taken_ok (many : Int) (by omega) (by omega)]
  exact fun v h1 h2 => ok_int ⟨h1, h2⟩
theorem mach_step (a b : Int) (many wide : Nat) (kind : Int) (tb : List Int) (i : Nat) (hm : 0 < many) (hm2 : many ≤ 6) (hw : wide ≤ 3) (hi : i < many) (ht : tb.length = wide) (ht2 : ∀ v ∈ tb, 0 ≤ v ∧ v < (many : Int)) (ρ : SEnv) (h : mInv a b many wide kind tb i ρ) :
    isRow ρ 10 = false ∧ AllO (mInv a b many wide kind tb (i + 1)) (lb_n__law_machine_2 (ρ.set 10 (.val (.int i)))) := by
  obtain ⟨st, an, x8, x10, x11, x12, rfl, h8, h10, h11, h12, h1, h2, h3, h4⟩ := h
  refine ⟨by simpa [mEnv] using h10, ?_⟩
  have hr := rng1_nat (m := wide) (by omega)
  have hset : (mEnv a b many wide kind st an x8 tb x10 x11 x12).set 10 (.val (.int (i : Int))) = mEnv a b many wide kind st an x8 tb (.val (.int (i : Int))) x11 x12 := rfl
  rw [hset]
  unfold lb_n__law_machine_2
  have l0 : (0 : Nat) ≤ lim := Nat.zero_le _
  refine AllO.step (mEnv a b many wide kind st an x8 tb (.val (.int (i : Int))) (.own (.lst (iL []))) x12) ?_ ?_
  · simp at h11
    simp [mEnv, h11, l0, iL]
  have start : lInv a b many wide kind st an tb i 0 (mEnv a b many wide kind st an x8 tb (.val (.int (i : Int))) (.own (.lst (iL []))) x12) := ⟨x8, [], x12, rfl, h8, h12, rfl, fun v hv => by cases hv⟩
  refine AllO.seq (P := lInv a b many wide kind st an tb i wide) ?_ ?_
  · rw [forO_run (ds := rangeD 0 wide) (by simp [mEnv, hr]) rfl]
    exact loop_range (v := 8) (n := wide) (fun j ρ hj h => l_step a b many wide kind st an tb i j hm hm2 hw hj ht ht2 ρ h) wide 0 _ (by omega) start
  · rintro ρ ⟨y8, u, y12, rfl, g8, g12, hu, hu2⟩
    have hl : st.length < lim := lim_big' (by omega)
    have hp : D.pure (.tup (iL u)) = true := by
      show D.pureL (iL u) = true
      exact pureL_iff.mpr fun d hd => by
        obtain ⟨p, _, rfl⟩ := List.mem_map.mp hd
        rfl
    refine AllO.step (mEnv a b many wide kind (st ++ [u]) an y8 tb (.val (.int (i : Int))) (.own (.lst (iL u))) y12) ?_ ?_
    · have e1 : (app (on1 D.toTup) (consA (fun ρ => vr ρ 11) nilA)) (mEnv a b many wide kind st an y8 tb (.val (.int i)) (.own (.lst (iL u))) y12).all = .ok (.tup (iL u)) := by simp [mEnv]
      rw [appO_eq, e1]
      simp [mEnv, hl, hp]
    · refine app_row (P := fun v => 0 ≤ v ∧ v ≤ 9) (wide := wide) (ds := an.map fun r => .tup (iL r)) ?_ (by omega) (by rw [List.length_map]; omega) rfl (fun d hd => ?_) fun q hq1 hq2 => ?_
      · simp [mEnv, hr]
      · exact el2 _ rfl wide d hd
      · refine ⟨st ++ [u], an ++ [q], y8, .val (.int (i : Int)), .own (.lst (iL u)), y12, ?_, g8, rfl, rfl, g12, by simp [h1], by simp [h2], fun r hr => ?_, fun r hr => ?_⟩
        · have ea : ((an ++ [q]).map fun r => D.tup (iL r)) = (an.map fun r => D.tup (iL r)) ++ [D.tup (iL q)] := List.map_append
          unfold mEnv
          rw [ea]
          rfl
        · rcases List.mem_append.mp hr with hr | hr
          · exact h3 r hr
          · rw [List.mem_singleton.mp hr]
            exact ⟨hu, hu2⟩
        · rcases List.mem_append.mp hr with hr | hr
          · exact h4 r hr
          · rw [List.mem_singleton.mp hr]
            exact ⟨hq1, hq2⟩
theorem F_machine (a b : Nat) (ha : 0 < a) (ha2 : a ≤ 6) (hb : 0 < b) (hb2 : b ≤ 3) : AllOk (fun d => ∃ st an l, d = machT st an ∧ Good st an l ∧ st.length ≤ a ∧ l ≤ b) (F_n__law_machine [.row, .int a, .int b]) := by
  have t1 := taken_ok (a : Int) (by omega) (by omega)
  have t2 := taken_ok (b : Int) (by omega) (by omega)
  have t3 := taken_ok 3 (by decide) (by decide)
  unfold F_n__law_machine g_n__law_machine
  simp only [defF_eq, start0, seqO_eq]
  simp [t1, t2, t3]
  intro i hi1 hi2 j hj1 hj2 k hk1 hk2
  obtain ⟨i', rfl⟩ : ∃ i' : Nat, i = i' := ⟨i.toNat, by omega⟩
  obtain ⟨j', rfl⟩ : ∃ j' : Nat, j = j' := ⟨j.toNat, by omega⟩
  have e1 : (1 : Int) + (i' : Int) = ((i' + 1 : Nat) : Int) := by omega
  have e2 : (1 : Int) + (j' : Int) = ((j' + 1 : Nat) : Int) := by omega
  have hr := rng1_nat (m := i' + 1) (by omega)
  have hr2 := rng1_nat (m := j' + 1) (by omega)
  have hl2 : (rangeD 0 (j' + 1)).length ≤ lim := by rw [rangeD_len]; exact lim_big (by omega)
  have l2 : (2 : Nat) ≤ lim := lim_big (by decide)
  show AllOk _ (Out.fin _)
  rw [e1, e2, hr2, ofO_some]
  simp only [bind_ok, hl2, if_true]
  refine AllO.done (P := fun ρ => ∃ tb : List Int, ρ = mEnv a b (i' + 1 : Nat) (j' + 1 : Nat) k [] [] .dead tb .dead .dead .dead ∧ tb.length = j' + 1 ∧ ∀ v ∈ tb, 0 ≤ v ∧ v < ((i' + 1 : Nat) : Int)) (fun ρ hρ => ?_) ?_
  · obtain ⟨tb, rfl, ht, ht2⟩ := hρ
    have start : mInv a b (i' + 1) (j' + 1) k tb 0 (mEnv a b (i' + 1 : Nat) (j' + 1 : Nat) k [] [] .dead tb .dead .dead .dead) :=
      ⟨[], [], .dead, .dead, .dead, .dead, rfl, rfl, rfl, rfl, rfl, rfl, rfl, (fun r hr => absurd hr List.not_mem_nil), (fun r hr => absurd hr List.not_mem_nil)⟩
    have hl := loop_range (v := 10) (n := i' + 1) (g := lb_n__law_machine_2) (fun i ρ hi h => mach_step a b (i' + 1) (j' + 1) k tb i (by omega) (by omega) (by omega) (by omega) ht ht2 ρ h) (i' + 1) 0 _ (by omega) start
    rw [seqO_eq, forO_run (ds := rangeD 0 (i' + 1)) (by simp [mEnv, -Int.natCast_add, hr]) rfl]
    refine AllO.done (fun ρ h => ?_) hl
    obtain ⟨st, an, x8, x10, x11, x12, rfl, h8, h10, h11, h12, h1, h2, h3, h4⟩ := h
    simp [mEnv, l2]
    refine ⟨st, an, rfl, j' + 1, ⟨by omega, by omega, by omega, by omega, fun r hr => (h3 r hr).1, fun r hr v hv => ?_, fun r hr => (h4 r hr).1, fun r hr => (h4 r hr).2, by omega⟩, by omega, by omega⟩
    have := (h3 r hr).2 v hv
    omega
  · have el := ints_all (lcL_all (fe := ce_n__law_machine_1) (i := 8) (r := [some .row, some (.int a), some (.int b), some (.int ((i' + 1 : Nat) : Int)), some (.int ((j' + 1 : Nat) : Int)), some (.int k), none, none, none, none, none, none, none]) _ (rangeD 0 (j' + 1)) (el1 _ (i' + 1) (by omega) (by omega) (j' + 1) rfl rfl))
    rw [rangeD_len] at el
    refine AllO.bindR (P := fun d => ∃ q : List Int, d = .lst (iL q) ∧ q.length = j' + 1 ∧ ∀ v ∈ q, 0 ≤ v ∧ v < ((i' + 1 : Nat) : Int)) (fun d ⟨q, e, h1, h2⟩ => ?_) (AllOk.bind (fun l ⟨q, e, h1, h2⟩ => ⟨q, by rw [e], h1, h2⟩) el)
    rw [e]
    exact ⟨q, rfl, h1, h2⟩
end Lw
end
set_option Elab.async false
set_option linter.all false
set_option autoImplicit false
set_option maxRecDepth 100000
set_option maxHeartbeats 4000000
noncomputable section
namespace Lw
open PySem Fw
/-! ### strikes -/
def natD (s : Nat) : D := .int (s : Int)
def psD (ps : List (Nat × Nat)) : List D := ps.map fun p => .tup [.int (p.1 : Int), .int (p.2 : Int)]
def kD (K : List (Nat × List (Nat × Nat))) : List D := K.map fun k => .tup [.int (k.1 : Int), .tup (psD k.2)]
structure GoodP (N S : Nat) (ps : List (Nat × Nat)) : Prop where
  ne : ps ≠ []
  up : ps.Pairwise fun a b => a.1 < b.1
  lt : ∀ p ∈ ps, p.1 < N ∧ p.2 < S
structure GoodK (N S M : Nat) (K : List (Nat × List (Nat × Nat))) : Prop where
  up : K.Pairwise fun a b => a.1 < b.1
  le : ∀ k ∈ K, k.1 < M
  ps : ∀ k ∈ K, GoodP N S k.2
theorem psD_len (ps : List (Nat × Nat)) : (psD ps).length = ps.length := by simp [psD]
theorem kD_len (K : List (Nat × List (Nat × Nat))) : (kD K).length = K.length := by simp [kD]
theorem GoodP.len {N S : Nat} {ps : List (Nat × Nat)} (G : GoodP N S ps) : ps.length ≤ N := by
  have h : (ps.map (·.1)).Nodup := by
    rw [List.nodup_iff_pairwise_ne, List.pairwise_map]
    exact G.up.imp fun h e => by omega
  have h2 := h.length_le_of_subset (l₂ := List.range N) fun a ha => by
    obtain ⟨p, hp, rfl⟩ := List.mem_map.mp ha
    exact List.mem_range.mpr (G.lt p hp).1
  simpa using h2
structure GoodQ (N S i : Nat) (q : List (Nat × Nat)) : Prop where
  nd : (q.map (·.1)).Nodup
  lt : ∀ p ∈ q, p.1 < N ∧ p.2 < S
  len : q.length ≤ i
  ne : 0 < i → q ≠ []
theorem keys_dN {α : Type} (f : α → D) (q : List (Nat × α)) : (dN f q).map (·.1) = (q.map fun p => (p.1 : Int)).map D.int := by
  unfold dN
  rw [List.map_map, List.map_map]
  rfl
def ksOf (q : List (Nat × Nat)) : List Int := sortI (q.map fun p => (p.1 : Int))
def psOf (q : List (Nat × Nat)) : List (Nat × Nat) := (ksOf q).map fun k => (k.toNat, (lookN q k.toNat).getD 0)
theorem ksOf_mem {q : List (Nat × Nat)} {k : Int} (h : k ∈ ksOf q) : ∃ v, lookN q k.toNat = some v ∧ (k.toNat : Int) = k ∧ (k.toNat, v) ∈ q := by
  have h1 := (sortI_perm _).mem_iff.mp h
  obtain ⟨p, hp, rfl⟩ := List.mem_map.mp h1
  obtain ⟨v, hv⟩ := lookN_has (q := q) (k := p.1) (List.mem_map_of_mem hp)
  exact ⟨v, hv, by simp, lookN_some hv⟩
theorem psOf_good {N S i : Nat} {q : List (Nat × Nat)} (Q : GoodQ N S (i + 1) q) : GoodP N S (psOf q) where
  ne := fun h => by
    have h1 : ksOf q = [] := List.map_eq_nil_iff.mp h
    have h2 := (sortI_perm (q.map fun p => (p.1 : Int))).length_eq
    unfold ksOf at h1
    rw [h1] at h2
    have : q = [] := List.eq_nil_of_length_eq_zero (by simpa using h2.symm)
    exact Q.ne (by omega) this
  up := by
    unfold psOf
    rw [List.pairwise_map]
    have nd : (ksOf q).Nodup := by
      refine (sortI_perm _).nodup_iff.mpr ?_
      have := Q.nd
      rw [List.nodup_iff_pairwise_ne, List.pairwise_map] at this ⊢
      exact this.imp fun h e => h (by omega)
    have up := sortI_rise (q.map fun p => (p.1 : Int))
    have both := up.and nd
    refine both.imp_of_mem fun {a b} ha hb h => ?_
    obtain ⟨_, _, e1, _⟩ := ksOf_mem ha
    obtain ⟨_, _, e2, _⟩ := ksOf_mem hb
    have := h.1
    have := h.2
    show a.toNat < b.toNat
    omega
  lt := fun p hp => by
    obtain ⟨k, hk, rfl⟩ := List.mem_map.mp hp
    obtain ⟨v, hv, e1, hm⟩ := ksOf_mem hk
    rw [hv]
    exact Q.lt _ hm
theorem psD_psOf (q : List (Nat × Nat)) : psD (psOf q) = ((ksOf q).map D.int).map fun d => match d with | .int k => .tup [.int k, .int ((lookN q k.toNat).getD 0 : Nat)] | _ => .non := by
  unfold psD psOf
  rw [List.map_map, List.map_map]
  refine List.map_congr_left fun k hk => ?_
  obtain ⟨_, _, e1, _⟩ := ksOf_mem hk
  simp only [Function.comp]
  rw [e1]
theorem psD_pure (ps : List (Nat × Nat)) : D.pureL (psD ps) = true := pureL_iff.mpr fun d hd => by
  obtain ⟨p, _, rfl⟩ := List.mem_map.mp hd
  rfl
end Lw
end
set_option Elab.async false
set_option linter.all false
set_option autoImplicit false
set_option maxRecDepth 100000
set_option maxHeartbeats 4000000
noncomputable section
namespace Lw
open PySem Fw
/-! ### strikes drawn -/
structure GapK (room p : Nat) (K : List (Nat × List (Nat × Nat))) : Prop where
  gap : K.Pairwise fun a b => a.1 + room ≤ b.1
  few : ∀ k ∈ K, k.2.length ≤ p
theorem psOf_len (q : List (Nat × Nat)) : (psOf q).length = q.length := by
  unfold psOf ksOf
  rw [List.length_map, (sortI_perm _).length_eq, List.length_map]
def sEnv (M : D) (N p room L : Nat) (K : List (Nat × List (Nat × Nat))) (pl : Nat) (s8 s9 s10 : Sl) : SEnv := [.val .row, .val M, .val (.int (N : Int)), .val (.int (p : Int)), .val (.int (room : Int)), .val (.int (L : Int)), .own (.lst (kD K)), .val (.int (pl : Int)), s8, s9, s10]
def qInv (M : D) (N S p room L : Nat) (K : List (Nat × List (Nat × Nat))) (pl i : Nat) (ρ : SEnv) : Prop :=
  ∃ q x9, ρ = sEnv M N p room L K pl (.own (.dct false (dN natD q))) x9 .dead ∧ isRow [x9] 0 = false ∧ GoodQ N S i q
def kInv (M : D) (N S p room L pl : Nat) (ρ : SEnv) : Prop :=
  ∃ K s8 s9, ρ = sEnv M N p room L K pl s8 s9 .dead ∧ isRow [s8] 0 = false ∧ isRow [s9] 0 = false ∧ GoodK N S L K ∧ GapK room p K ∧ (∀ k ∈ K, k.1 + room ≤ pl) ∧ K.length ≤ pl
theorem GoodK.len {N S M : Nat} {K : List (Nat × List (Nat × Nat))} (G : GoodK N S M K) : K.length ≤ M := by
  have h : (K.map (·.1)).Nodup := by
    rw [List.nodup_iff_pairwise_ne, List.pairwise_map]
    exact G.up.imp fun h e => by omega
  have h2 := h.length_le_of_subset (l₂ := List.range M) fun a ha => by
    obtain ⟨p, hp, rfl⟩ := List.mem_map.mp ha
    exact List.mem_range.mpr (G.le p hp)
  simpa using h2
end Lw
end
set_option Elab.async false
set_option linter.all false
set_option autoImplicit false
set_option maxRecDepth 100000
set_option maxHeartbeats 4000000
noncomputable section
namespace Lw
open PySem Fw
/-! ### courses -/
def psT (ps : List (Nat × Nat)) : D := .tup (psD ps)
def tabOf (K : List (Nat × List (Nat × Nat))) : List (Nat × List (Nat × Nat)) := mergeN [] K
def pk (K : List (Nat × List (Nat × Nat))) (i : Nat) : List (Nat × Nat) := (lookN (tabOf K) i).getD []
theorem tab_good {N S M : Nat} {K : List (Nat × List (Nat × Nat))} (P : GoodK N S M K) {i : Nat} {ps : List (Nat × Nat)} (h : lookN (tabOf K) i = some ps) : GoodP N S ps := by
  rcases mergeN_mem (lookN_some h) with h | h
  · cases h
  · exact P.ps _ h
theorem pk_lt {N S M : Nat} {K : List (Nat × List (Nat × Nat))} (P : GoodK N S M K) (i : Nat) : ∀ p ∈ pk K i, p.1 < N ∧ p.2 < S := by
  intro p hp
  unfold pk at hp
  cases e : lookN (tabOf K) i with
  | none => rw [e] at hp; cases hp
  | some ps => rw [e] at hp; exact (tab_good P e).lt p hp
theorem tab_lst (K : List (Nat × List (Nat × Nat))) : D.toDct (.lst (kD K)) = .ok (.dct false (dN psT (tabOf K))) := toDct_dN psT K _ (.inl rfl)
theorem tab_ftp (K : List (Nat × List (Nat × Nat))) : D.toDct (.ftp (kD K)) = .ok (.dct false (dN psT (tabOf K))) := toDct_dN psT K _ (.inr rfl)
def pushL : List (Nat × Nat) → List Nat → List Nat
  | [], s => s
  | p :: r, s => pushL r (s.set p.1 p.2)
theorem pushL_len : ∀ (ps : List (Nat × Nat)) (s : List Nat), (pushL ps s).length = s.length
  | [], _ => rfl
  | p :: r, s => by rw [pushL, pushL_len r, List.length_set]
theorem pushL_lt {S : Nat} : ∀ (ps : List (Nat × Nat)) (s : List Nat), (∀ p ∈ ps, p.2 < S) → (∀ x ∈ s, x < S) → ∀ x ∈ pushL ps s, x < S
  | [], _, _, h, x, hx => h x hx
  | p :: r, s, hp, h, x, hx => pushL_lt r (s.set p.1 p.2) (fun q hq => hp q (List.mem_cons_of_mem _ hq)) (fun y hy => by
      rcases List.mem_or_eq_of_mem_set hy with hy | hy
      · exact h y hy
      · rw [hy]; exact hp p List.mem_cons_self) x hx
theorem wN_len (w : List Nat) : (wN w).length = w.length := by simp [wN]
theorem wN_set (s : List Nat) (i v : Nat) : (wN s).set i (.int (v : Int)) = wN (s.set i v) := by unfold wN; rw [List.map_set]
theorem ixN_nat {n i : Nat} (h : i < n) : L2.ixN n (i : Int) = some i := by
  unfold L2.ixN
  have h1 : ¬ ((i : Int) < 0) := by omega
  simp [h1, h]
def stR (st : List (List Int)) (w : List Nat) : Nat → Nat
  | 0 => 0
  | i + 1 => stepN st (stR st w i) (w.getD i 0)
def stS (st : List (List Int)) (P : Nat → List (Nat × Nat)) (w : List Nat) (N : Nat) : Nat → List Nat
  | 0 => List.replicate N 0
  | i + 1 => (pushL (P i) (stS st P w N i)).map fun s => stepN st s (w.getD i 0)
def anR (st an : List (List Int)) (w : List Nat) (i : Nat) : Int := ansI an (stR st w i) (w.getD i 0)
def anA (st an : List (List Int)) (P : Nat → List (Nat × Nat)) (w : List Nat) (N i : Nat) : List Int := (pushL (P i) (stS st P w N i)).map fun s => ansI an s (w.getD i 0)
def rowW (st an : List (List Int)) (P : Nat → List (Nat × Nat)) (w : List Nat) (N i : Nat) : D := .tup [.int (anR st an w i), .ftp (iL (anA st an P w N i))]
def rowC (st an : List (List Int)) (P : Nat → List (Nat × Nat)) (w : List Nat) (N i : Nat) : D := .tup [.int (anR st an w i), .lst (iL (anA st an P w N i)), .int (stR st w (i + 1) : Nat), .lst (wN (stS st P w N (i + 1)))]
section
variable {st an : List (List Int)} {l N : Nat} {P : Nat → List (Nat × Nat)} {w : List Nat}
theorem stR_lt (G : Good st an l) (hw : ∀ a ∈ w, a < l) : ∀ i, i ≤ w.length → stR st w i < st.length
  | 0, _ => by have := G.n1; show 0 < st.length; omega
  | i + 1, h => (G.step (stR_lt G hw i (by omega)) (hw _ (getD_mem (by omega)))).1
theorem stS_ok (G : Good st an l) (hw : ∀ a ∈ w, a < l) (hP : ∀ i, ∀ p ∈ P i, p.1 < N ∧ p.2 < st.length) : ∀ i, i ≤ w.length → (stS st P w N i).length = N ∧ ∀ s ∈ stS st P w N i, s < st.length
  | 0, _ => ⟨by simp [stS], fun s hs => by rw [List.eq_of_mem_replicate hs]; have := G.n1; omega⟩
  | i + 1, h => by
    obtain ⟨h1, h2⟩ := stS_ok G hw hP i (by omega)
    refine ⟨by rw [stS, List.length_map, pushL_len, h1], fun s hs => ?_⟩
    obtain ⟨x, hx, rfl⟩ := List.mem_map.mp hs
    exact (G.step (pushL_lt (P i) _ (fun p hp => (hP i p hp).2) h2 x hx) (hw _ (getD_mem (by omega)))).1
theorem anA_len (G : Good st an l) (hw : ∀ a ∈ w, a < l) (hP : ∀ i, ∀ p ∈ P i, p.1 < N ∧ p.2 < st.length) {i : Nat} (hi : i ≤ w.length) : (anA st an P w N i).length = N := by
  unfold anA
  rw [List.length_map, pushL_len, (stS_ok G hw hP i hi).1]
end
end Lw
end
set_option Elab.async false
set_option linter.all false
set_option autoImplicit false
set_option maxRecDepth 100000
set_option maxHeartbeats 4000000
noncomputable section
namespace Lw
open PySem Fw
/-! ### walked, the law's own course -/
def rowsN (f : Nat → D) (n : Nat) : List D := (List.range n).map f
theorem rowsN_succ (f : Nat → D) (n : Nat) : rowsN f (n + 1) = rowsN f n ++ [f n] := by unfold rowsN; rw [List.range_succ, List.map_append]; rfl
theorem rowsN_len (f : Nat → D) (n : Nat) : (rowsN f n).length = n := by simp [rowsN]
theorem rowsN_at (f : Nat → D) {n j : Nat} {d : D} (h : (rowsN f n)[j]? = some d) : j < n ∧ d = f j := by
  unfold rowsN at h
  rw [List.getElem?_map] at h
  cases q : (List.range n)[j]? with
  | none => rw [q] at h; cases h
  | some k =>
    rw [q] at h
    cases h
    obtain ⟨h1, h2⟩ := List.getElem?_eq_some_iff.mp q
    have h1' : j < n := by simpa using h1
    refine ⟨h1', ?_⟩
    rw [← h2, List.getElem_range]
theorem wN_at {w : List Nat} {j : Nat} {d : D} (h : (wN w)[j]? = some d) : j < w.length ∧ d = .int (w.getD j 0 : Nat) := by
  unfold wN at h
  rw [List.getElem?_map] at h
  cases q : w[j]? with
  | none => rw [q] at h; cases h
  | some k =>
    rw [q] at h
    cases h
    obtain ⟨h1, h2⟩ := List.getElem?_eq_some_iff.mp q
    refine ⟨h1, ?_⟩
    simp [List.getD_eq_getElem?_getD, q]
theorem iL_pure (l : List Int) : D.pureL (iL l) = true := pureL_iff.mpr fun d hd => by
  obtain ⟨i, _, rfl⟩ := List.mem_map.mp hd
  rfl
theorem wN_pure (l : List Nat) : D.pureL (wN l) = true := pureL_iff.mpr fun d hd => by
  obtain ⟨i, _, rfl⟩ := List.mem_map.mp hd
  rfl
section
variable {st an : List (List Int)} {l N : Nat} {K : List (Nat × List (Nat × Nat))} {w : List Nat} {M : Nat}
theorem push_items (K : List (Nat × List (Nat × Nat))) (i : Nat) {r : Fw.Env} (h4 : r[4]? = some (some (.dct false (dN psT (tabOf K))))) (h8 : r[8]? = some (some (.int (i : Int)))) :
    itemsF (getG (fun ρ => vr ρ 4) (fun ρ => vr ρ 8) (tupF nilA)) r = .ok (psD (pk K i)) := by
  have l0 : (0 : Nat) ≤ lim := Nat.zero_le _
  have e := getG_dN psT (tabOf K) i (r := r) (x := .tup []) (fd := fun ρ => vr ρ 4) (fk := fun ρ => vr ρ 8) (fx := tupF nilA) (by simp [h4]) (by simp [h8]) (by simp [l0])
  rw [itemsF_eq, e, bind_ok]
  unfold pk
  cases lookN (tabOf K) i <;> rfl
def wEnv (M wd ks t : D) (N : Nat) (r : Nat) (s : List Nat) (F : List D) (x8 x9 y z : Sl) : SEnv := [.val M, .val (.int (N : Int)), .val wd, .val ks, .val t, .val (.int (r : Nat)), .own (.lst (wN s)), .own (.lst F), x8, x9, y, z]
def wInv (st an : List (List Int)) (K : List (Nat × List (Nat × Nat))) (w : List Nat) (N : Nat) (wd ks : D) (i : Nat) (ρ : SEnv) : Prop :=
  ∃ x8 x9 y z, ρ = wEnv (machT st an) wd ks (.dct false (dN psT (tabOf K))) N (stR st w i) (stS st (pk K) w N i) (rowsN (rowW st an (pk K) w N) i) x8 x9 y z ∧ isRow [x8] 0 = false ∧ isRow [x9] 0 = false ∧ isRow [y] 0 = false ∧ isRow [z] 0 = false
theorem reps_zero : ∀ n : Nat, (List.replicate n [D.int 0]).flatten = wN (List.replicate n 0)
  | 0 => rfl
  | n + 1 => by rw [List.replicate_succ, List.replicate_succ, List.flatten_cons, reps_zero n]; rfl
theorem mul_zero {n : Nat} (h : n ≤ 100) : mulL (.lst [.int 0]) (.int (n : Int)) = .ok (.lst (wN (List.replicate n 0))) := by
  have hin : inM (n : Int) := by constructor <;> omega
  have hl : [D.int 0].length * (n : Int).toNat ≤ lim := by
    simp
    exact lim_big (by omega)
  show (if inM (n : Int) ∧ [D.int 0].length * (n : Int).toNat ≤ lim then Res.ok (D.lst (List.replicate (n : Int).toNat [D.int 0]).flatten) else .no) = _
  rw [if_pos ⟨hin, hl⟩, Int.toNat_natCast, reps_zero]
end
end Lw
end
set_option Elab.async false
set_option linter.all false
set_option autoImplicit false
set_option maxRecDepth 100000
set_option maxHeartbeats 4000000
noncomputable section
namespace Lw
open PySem Fw
/-! ### votes -/
theorem count_two {x y : Int} (h : x ≠ y) : ∀ A : List Int, A.count x + A.count y ≤ A.length
  | [] => by simp
  | z :: A => by
    have ih := count_two h A
    rw [List.count_cons, List.count_cons, List.length_cons]
    by_cases h1 : z = x
    · have h2 : ¬ z = y := fun e => h (h1.symm.trans e)
      simp [h1, h2]
      have : ¬ x = y := h
      simp [this]
      omega
    · simp [h1]
      split <;> omega
def big (A : List Int) (x : Int) : Bool := decide (A.length < 2 * A.count x)
theorem big_one {A : List Int} {x y : Int} (hx : big A x = true) (hy : big A y = true) : x = y := by
  by_cases h : x = y
  · exact h
  · have := count_two h A
    have h1 : A.length < 2 * A.count x := of_decide_eq_true hx
    have h2 : A.length < 2 * A.count y := of_decide_eq_true hy
    omega
/-- the answer of more than half -/
def maj (A : List Int) : Option Int := ((setI A).filter (big A)).head?
theorem maj_some {A : List Int} {x : Int} (h : maj A = some x) : x ∈ A ∧ big A x = true := by
  unfold maj at h
  have := List.mem_of_mem_head? (Option.mem_def.mpr h)
  obtain ⟨h1, h2⟩ := List.mem_filter.mp this
  exact ⟨(mem_setI x A).mp h1, h2⟩
theorem maj_none {A : List Int} (h : maj A = none) {x : Int} (hx : x ∈ A) : big A x = false := by
  unfold maj at h
  have h1 := List.head?_eq_none_iff.mp h
  cases e : big A x with
  | false => rfl
  | true =>
    have : x ∈ (setI A).filter (big A) := List.mem_filter.mpr ⟨(mem_setI x A).mpr hx, e⟩
    rw [h1] at this
    cases this
def voteD : Option Int → D
  | none => .non
  | some x => .int x
theorem fl_iL (l : List Int) : Fl 1 (.lst (iL l)) := .lst _ _ fun d hd => by
  obtain ⟨i, _, rfl⟩ := List.mem_map.mp hd
  exact .int _ _
theorem fin_step {g1 g2 : SEnv → Out} {ρ ρ' : SEnv} (h : g1 ρ = .nx ρ') : (seqO g1 g2 ρ).fin = (g2 ρ').fin := by rw [seqO_eq, h, then_nx]
end Lw
end
set_option Elab.async false
set_option linter.all false
set_option autoImplicit false
set_option maxRecDepth 100000
set_option maxHeartbeats 4000000
noncomputable section
namespace Lw
open PySem Fw
/-! ### the law's own vote -/
/-! ### strikes taken one by one -/
def strikeL (i : Nat) (K : List (Nat × List (Nat × Nat))) (s : List Nat) : List Nat := K.foldl (fun s k => if k.1 = i then pushL k.2 s else s) s
theorem strikeL_none {i : Nat} : ∀ {K : List (Nat × List (Nat × Nat))} {s : List Nat}, (∀ k ∈ K, k.1 ≠ i) → strikeL i K s = s
  | [], _, _ => rfl
  | k :: K, s, h => by
    have h1 := h k List.mem_cons_self
    have : strikeL i (k :: K) s = strikeL i K s := by
      unfold strikeL
      rw [List.foldl_cons, if_neg h1]
    rw [this]
    exact strikeL_none fun k hk => h k (List.mem_cons_of_mem _ hk)
theorem putN_new {α : Type} {q : List (Nat × α)} {k : Nat} {v : α} (h : ∀ p ∈ q, p.1 ≠ k) : putN q k v = q ++ [(k, v)] := by
  unfold putN
  rw [if_neg]
  intro e
  obtain ⟨p, hp, e⟩ := List.any_eq_true.mp e
  exact h p hp (by simpa using e)
theorem mergeN_up {α : Type} : ∀ (K acc : List (Nat × α)), (acc ++ K).Pairwise (fun a b => a.1 < b.1) → mergeN acc K = acc ++ K
  | [], acc, _ => by simp [mergeN]
  | k :: K, acc, h => by
    have h1 : ∀ p ∈ acc, p.1 ≠ k.1 := fun p hp => by
      have := (List.pairwise_append.mp h).2.2 p hp k List.mem_cons_self
      omega
    have e : mergeN acc (k :: K) = mergeN (putN acc k.1 k.2) K := rfl
    have h2 : (acc ++ [(k.1, k.2)] ++ K) = acc ++ k :: K := by simp
    rw [e, putN_new h1, mergeN_up K _ (by rw [h2]; exact h), h2]
theorem strikeL_eq {N S M : Nat} {K : List (Nat × List (Nat × Nat))} (Pg : GoodK N S M K) (i : Nat) (s : List Nat) : strikeL i K s = pushL (pk K i) s := by
  have e : tabOf K = K := by
    have := mergeN_up K [] (by simpa using Pg.up)
    simpa [tabOf] using this
  unfold pk
  rw [e]
  have up := Pg.up
  clear Pg e
  induction K generalizing s with
  | nil => rfl
  | cons k K ih =>
    obtain ⟨u1, u2⟩ := List.pairwise_cons.mp up
    have e1 : strikeL i (k :: K) s = strikeL i K (if k.1 = i then pushL k.2 s else s) := rfl
    rw [e1]
    by_cases c : k.1 = i
    · rw [if_pos c, strikeL_none fun z hz => by have := u1 z hz; omega]
      have : lookN (k :: K) i = some k.2 := by
        unfold lookN
        rw [List.find?_cons_of_pos (by simp [c])]
        rfl
      rw [this]
      rfl
    · rw [if_neg c, ih s u2]
      have : lookN (k :: K) i = lookN K i := by
        unfold lookN
        rw [List.find?_cons_of_neg (by simp [c])]
      rw [this]
def cEnv (M : D) (N : Nat) (wd ks : D) (r : Nat) (s : List Nat) (F : List D) (x7 x8 x9 x10 y z x13 : Sl) : SEnv := [.val M, .val (.int (N : Int)), .val wd, .val ks, .val (.int (r : Nat)), .own (.lst (wN s)), .own (.lst F), x7, x8, x9, x10, y, z, x13]
end Lw
end
set_option Elab.async false
set_option linter.all false
set_option autoImplicit false
set_option maxRecDepth 100000
set_option maxHeartbeats 4000000
noncomputable section
namespace Lw
open PySem Fw
/-! ### the states that can come -/
def fW (u : List Nat) : D := .tup (wN u)
theorem lookN_none {α : Type} {q : List (Nat × α)} {k : Nat} (h : lookN q k = none) : ∀ p ∈ q, p.1 ≠ k := by
  intro p hp e
  obtain ⟨v, hv⟩ := lookN_has (q := q) (k := k) (by rw [← e]; exact List.mem_map_of_mem hp)
  rw [h] at hv
  cases hv
theorem runN_app (st : List (List Int)) : ∀ (u v : List Nat) (s : Nat), runN st s (u ++ v) = runN st (runN st s u) v
  | [], v, s => rfl
  | a :: u, v, s => runN_app st u v _
def Rch (st : List (List Int)) (l r : Nat) : Prop := ∃ w : List Nat, (∀ a ∈ w, a < l) ∧ runN st 0 w = r
def yEnv (M : D) (q : List (Nat × List Nat)) (y lt : List Nat) (s4 s5 s6 : Sl) : SEnv := [.val M, .own (.dct false (dN fW q)), .val (.lst (wN y)), .own (.lst (wN lt)), s4, s5, s6]
def Cl (st : List (List Int)) (l : Nat) (q : List (Nat × List Nat)) (k : Nat) : Prop := ∀ a, a < l → stepN st k a ∈ q.map (·.1)
structure WI (st : List (List Int)) (l : Nat) (q : List (Nat × List Nat)) : Prop where
  nd : (q.map (·.1)).Nodup
  lt : ∀ p ∈ q, p.1 < st.length
  way : ∀ p ∈ q, (∀ a ∈ p.2, a < l) ∧ runN st 0 p.2 = p.1
  wl : ∀ p ∈ q, p.2.length ≤ q.length
  zero : 0 ∈ q.map (·.1)
theorem WI.len {st : List (List Int)} {l : Nat} {q : List (Nat × List Nat)} (W : WI st l q) : q.length ≤ st.length := by
  have h2 := W.nd.length_le_of_subset (l₂ := List.range st.length) fun a ha => by
    obtain ⟨p, hp, rfl⟩ := List.mem_map.mp ha
    exact List.mem_range.mpr (W.lt p hp)
  simpa using h2
/-- the state of the walk over one layer -/
structure WL (st : List (List Int)) (l : Nat) (n0 : Nat) (y : List Nat) (q : List (Nat × List Nat)) (lt : List Nat) (rest : List Nat) : Prop where
  w : WI st l q
  n : q.length = n0 + lt.length
  sub : ∀ x ∈ lt, x ∈ q.map (·.1)
  ysub : ∀ x ∈ y, x ∈ q.map (·.1)
  cl : ∀ k ∈ q.map (·.1), k ∈ lt ∨ k ∈ rest ∨ Cl st l q k
theorem WL.one {st an : List (List Int)} {l n0 : Nat} {y : List Nat} {q : List (Nat × List Nat)} {lt rest : List Nat} (G : Good st an l) (h : WL st l n0 y q lt rest) {s a : Nat} (hs : s < st.length) (ha : a < l) {ws : List Nat} (hw : lookN q s = some ws) :
    ∃ q' lt', q' = (if (lookN q (stepN st s a)).isSome then q else q ++ [(stepN st s a, ws ++ [a])]) ∧ lt' = (if (lookN q (stepN st s a)).isSome then lt else lt ++ [stepN st s a]) ∧ WL st l n0 y q' lt' rest ∧ stepN st s a ∈ q'.map (·.1) ∧ ∀ x ∈ q.map (·.1), x ∈ q'.map (·.1) := by
  refine ⟨_, _, rfl, rfl, ?_⟩
  cases e : lookN q (stepN st s a) with
  | some v =>
    simp only [Option.isSome_some, if_true]
    exact ⟨h, List.mem_map_of_mem (f := (·.1)) (lookN_some e), fun x hx => hx⟩
  | none =>
    simp only [Option.isSome_none, Bool.false_eq_true, if_false]
    have hn := lookN_none e
    have up : ∀ x ∈ q.map (·.1), x ∈ (q ++ [(stepN st s a, ws ++ [a])]).map (·.1) := fun x hx => by
      rw [List.map_append]
      exact List.mem_append_left _ hx
    have me : stepN st s a ∈ (q ++ [(stepN st s a, ws ++ [a])]).map (·.1) := by
      rw [List.map_append]
      exact List.mem_append_right _ (List.mem_singleton.mpr rfl)
    refine ⟨⟨⟨?_, fun p hp => ?_, fun p hp => ?_, fun p hp => ?_, up 0 h.w.zero⟩, ?_, fun x hx => ?_, fun x hx => up x (h.ysub x hx), fun k hk => ?_⟩, me, up⟩
    · rw [List.map_append, List.nodup_append]
      refine ⟨h.w.nd, by simp, fun u hu v hv e => ?_⟩
      obtain ⟨p, hp, rfl⟩ := List.mem_map.mp hu
      have hv' : v = stepN st s a := by simpa using hv
      exact hn p hp (e.trans hv')
    · rcases List.mem_append.mp hp with hp | hp
      · exact h.w.lt p hp
      · rw [List.mem_singleton.mp hp]
        exact (G.step hs ha).1
    · rcases List.mem_append.mp hp with hp | hp
      · exact h.w.way p hp
      · rw [List.mem_singleton.mp hp]
        obtain ⟨w1, w2⟩ := h.w.way _ (lookN_some hw)
        refine ⟨fun b hb => ?_, ?_⟩
        · rcases List.mem_append.mp hb with hb | hb
          · exact w1 b hb
          · rw [List.mem_singleton.mp hb]
            exact ha
        · show runN st 0 (ws ++ [a]) = _
          rw [runN_app, w2]
          rfl
    · rw [List.length_append]
      rcases List.mem_append.mp hp with hp | hp
      · have := h.w.wl p hp
        omega
      · rw [List.mem_singleton.mp hp]
        have := h.w.wl _ (lookN_some hw)
        simp
        exact this
    · have := h.n
      simp
      omega
    · rcases List.mem_append.mp hx with hx | hx
      · exact up x (h.sub x hx)
      · rw [List.mem_singleton.mp hx]
        exact me
    · rw [List.map_append] at hk
      rcases List.mem_append.mp hk with hk | hk
      · rcases h.cl k hk with c | c | c
        · exact .inl (List.mem_append_left _ c)
        · exact .inr (.inl c)
        · exact .inr (.inr fun b hb => up _ (c b hb))
      · refine .inl (List.mem_append_right _ ?_)
        simpa using hk
def inInv (st : List (List Int)) (l : Nat) (M : D) (n0 : Nat) (y rest : List Nat) (s j : Nat) (ρ : SEnv) : Prop :=
  ∃ q lt s5 s6, ρ = yEnv M q y lt (.val (.int (s : Int))) s5 s6 ∧ isRow [s5] 0 = false ∧ isRow [s6] 0 = false ∧ WL st l n0 y q lt rest ∧ s ∈ q.map (·.1) ∧ ∀ a, a < j → stepN st s a ∈ q.map (·.1)
def outInv (st : List (List Int)) (l : Nat) (M : D) (n0 : Nat) (y : List Nat) (i : Nat) (ρ : SEnv) : Prop :=
  ∃ q lt s4 s5 s6, ρ = yEnv M q y lt s4 s5 s6 ∧ isRow [s4] 0 = false ∧ isRow [s5] 0 = false ∧ isRow [s6] 0 = false ∧ WL st l n0 y q lt (y.drop i)
/-- behind a whole layer -/
structure WD (st : List (List Int)) (l : Nat) (q : List (Nat × List Nat)) (y : List Nat) : Prop where
  w : WI st l q
  ysub : ∀ x ∈ y, x ∈ q.map (·.1)
  cl : ∀ k ∈ q.map (·.1), k ∈ y ∨ Cl st l q k
def wayInv (st : List (List Int)) (l : Nat) (M : D) (q : List (Nat × List Nat)) (y : List Nat) (ρ : SEnv) : Prop :=
  ∃ s3 s4 s5 s6, ρ = [.val M, .own (.dct false (dN fW q)), .val (.lst (wN y)), s3, s4, s5, s6] ∧ isRow [s3] 0 = false ∧ isRow [s4] 0 = false ∧ isRow [s5] 0 = false ∧ isRow [s6] 0 = false ∧ WD st l q y
end Lw
end
set_option Elab.async false
set_option linter.all false
set_option autoImplicit false
set_option maxRecDepth 100000
set_option maxHeartbeats 4000000
noncomputable section
namespace Lw
open PySem Fw
/-! ### ways, pairs -/
def kp (p : Nat × Nat) : D := .tup [.int (p.1 : Int), .int (p.2 : Int)]
def prs (S : Nat) (R : List Nat) : List (Nat × Nat) := R.flatMap fun r => (List.range S).map fun o => (r, o)
structure WR (st : List (List Int)) (l : Nat) (R : List Nat) : Prop where
  nd : R.Nodup
  lt : ∀ r ∈ R, r < st.length
  zero : 0 ∈ R
  cl : ∀ r ∈ R, ∀ a, a < l → stepN st r a ∈ R
  rc : ∀ r ∈ R, Rch st l r
theorem intKeys_dN {α : Type} (f : α → D) : ∀ q : List (Nat × α), intKeys (dN f q) = some (q.map fun p => (p.1 : Int))
  | [] => rfl
  | p :: q => by
    have ih := intKeys_dN f q
    have e : dN f (p :: q) = (.int (p.1 : Int), f p.2) :: dN f q := rfl
    rw [e]
    show (intKeys (dN f q)).map _ = _
    rw [ih]
    rfl
def rsOf (q : List (Nat × List Nat)) : List Nat := (sortI (q.map fun p => (p.1 : Int))).map Int.toNat
theorem rsOf_mem {q : List (Nat × List Nat)} {x : Nat} : x ∈ rsOf q ↔ x ∈ q.map (·.1) := by
  unfold rsOf
  constructor
  · intro h
    obtain ⟨i, hi, rfl⟩ := List.mem_map.mp h
    obtain ⟨p, hp, rfl⟩ := List.mem_map.mp ((sortI_perm _).mem_iff.mp hi)
    simpa using List.mem_map_of_mem (f := (·.1)) hp
  · intro h
    obtain ⟨p, hp, rfl⟩ := List.mem_map.mp h
    exact List.mem_map.mpr ⟨(p.1 : Int), (sortI_perm _).mem_iff.mpr (List.mem_map.mpr ⟨p, hp, rfl⟩), by simp⟩
theorem rsOf_wN (q : List (Nat × List Nat)) : (sortI (q.map fun p => (p.1 : Int))).map D.int = wN (rsOf q) := by
  unfold wN rsOf
  rw [List.map_map]
  refine List.map_congr_left fun i hi => ?_
  obtain ⟨p, hp, rfl⟩ := List.mem_map.mp ((sortI_perm _).mem_iff.mp hi)
  simp
theorem WD.wr {st : List (List Int)} {l : Nat} {q : List (Nat × List Nat)} (W : WD st l q []) : WR st l (rsOf q) where
  nd := by
    have h1 : (sortI (q.map fun p => (p.1 : Int))).Nodup := by
      refine (sortI_perm _).nodup_iff.mpr ?_
      have := W.w.nd
      rw [List.nodup_iff_pairwise_ne, List.pairwise_map] at this ⊢
      exact this.imp fun h e => h (by omega)
    unfold rsOf
    rw [List.nodup_iff_pairwise_ne] at h1 ⊢
    rw [List.pairwise_map]
    refine h1.imp_of_mem fun {a b} ha hb h e => h ?_
    obtain ⟨p, hp, rfl⟩ := List.mem_map.mp ((sortI_perm _).mem_iff.mp ha)
    obtain ⟨p', hp', rfl⟩ := List.mem_map.mp ((sortI_perm _).mem_iff.mp hb)
    simp at e
    omega
  lt := fun r hr => by
    obtain ⟨p, hp, rfl⟩ := List.mem_map.mp (rsOf_mem.mp hr)
    exact W.w.lt p hp
  zero := rsOf_mem.mpr W.w.zero
  cl := fun r hr a ha => rsOf_mem.mpr (by
    rcases W.cl r (rsOf_mem.mp hr) with c | c
    · cases c
    · exact c a ha)
  rc := fun r hr => by
    obtain ⟨p, hp, rfl⟩ := List.mem_map.mp (rsOf_mem.mp hr)
    exact ⟨p.2, (W.w.way p hp).1, (W.w.way p hp).2⟩
theorem WR.all {st : List (List Int)} {l : Nat} {R : List Nat} (W : WR st l R) {r : Nat} (h : Rch st l r) : r ∈ R := by
  obtain ⟨w, h1, rfl⟩ := h
  have go : ∀ (w : List Nat) (s : Nat), s ∈ R → (∀ a ∈ w, a < l) → runN st s w ∈ R := by
    intro w
    induction w with
    | nil => exact fun s h _ => h
    | cons a w ih => exact fun s h hw => ih _ (W.cl s h a (hw a List.mem_cons_self)) fun b hb => hw b (List.mem_cons_of_mem _ hb)
  exact go w 0 W.zero h1
theorem WR.len {st : List (List Int)} {l : Nat} {R : List Nat} (W : WR st l R) : R.length ≤ st.length := by
  have h2 := W.nd.length_le_of_subset (l₂ := List.range st.length) fun a ha => List.mem_range.mpr (W.lt a ha)
  simpa using h2
theorem prs_cons (S r : Nat) (R : List Nat) : prs S (r :: R) = ((List.range S).map fun o => (r, o)) ++ prs S R := rfl
theorem prs_app (S : Nat) (R R' : List Nat) : prs S (R ++ R') = prs S R ++ prs S R' := by unfold prs; rw [List.flatMap_append]
theorem prs_len (S : Nat) : ∀ R : List Nat, (prs S R).length = R.length * S
  | [] => by simp [prs]
  | r :: R => by rw [prs_cons, List.length_append, prs_len S R, List.length_cons]; simp; rw [Nat.add_mul]; omega
theorem prs_mem {S : Nat} {R : List Nat} {p : Nat × Nat} : p ∈ prs S R ↔ p.1 ∈ R ∧ p.2 < S := by
  unfold prs
  rw [List.mem_flatMap]
  constructor
  · rintro ⟨r, hr, h⟩
    obtain ⟨o, ho, rfl⟩ := List.mem_map.mp h
    exact ⟨hr, List.mem_range.mp ho⟩
  · rintro ⟨h1, h2⟩
    exact ⟨p.1, h1, List.mem_map.mpr ⟨p.2, List.mem_range.mpr h2, rfl⟩⟩
theorem prs_nodup (S : Nat) : ∀ {R : List Nat}, R.Nodup → (prs S R).Nodup
  | [], _ => by simp [prs]
  | r :: R, h => by
    obtain ⟨h1, h2⟩ := List.nodup_cons.mp h
    rw [prs_cons, List.nodup_append]
    refine ⟨?_, prs_nodup S h2, fun a ha b hb e => ?_⟩
    · have := List.nodup_range (n := S)
      rw [List.nodup_iff_pairwise_ne] at this ⊢
      rw [List.pairwise_map]
      exact this.imp fun h e => h (by simpa using e)
    · obtain ⟨o, ho, rfl⟩ := List.mem_map.mp ha
      subst e
      exact h1 (prs_mem.mp hb).1
def prInv (M : D) (S : Nat) (R : List Nat) (i : Nat) (ρ : SEnv) : Prop := ∃ s2, ρ = [.val M, .own (.lst ((prs S (R.take i)).map kp)), s2, .dead] ∧ isRow [s2] 0 = false
end Lw
end
set_option Elab.async false
set_option linter.all false
set_option autoImplicit false
set_option maxRecDepth 100000
set_option maxHeartbeats 4000000
noncomputable section
namespace Lw
open PySem Fw
/-! ### dicts by pairs -/
def dP (f : Nat × Nat → Nat) (L : List (Nat × Nat)) : List (D × D) := L.map fun p => (kp p, .int (f p : Nat))
theorem kp_kk (p : Nat × Nat) : (kp p).kk = some (.inr [.inl (p.1 : Int), .inl (p.2 : Int)]) := rfl
theorem kp_eq (p q : Nat × Nat) : (kp p).kk = (kp q).kk ↔ p = q := by
  rw [kp_kk, kp_kk]
  constructor
  · intro h
    have h1 := Sum.inr.inj (Option.some.inj h)
    have h2 := List.cons.inj h1
    have h3 := List.cons.inj h2.2
    have a := Sum.inl.inj h2.1
    have b := Sum.inl.inj h3.1
    exact Prod.ext (Int.ofNat.inj a) (Int.ofNat.inj b)
  · intro h; rw [h]
theorem kp_ok (p : Nat × Nat) : kOk true (kp p) = true := rfl
theorem look_dP (f : Nat × Nat → Nat) {p : Nat × Nat} : ∀ {L : List (Nat × Nat)}, p ∈ L → lookD (dP f L) (kp p) = some (.int (f p : Nat))
  | [], h => by cases h
  | z :: L, h => by
    unfold lookD dP
    rw [List.map_cons, List.find?_cons]
    by_cases c : z = p
    · have h1 : decide ((kp z).kk = (kp p).kk) = true := decide_eq_true ((kp_eq _ _).mpr c)
      simp only [h1]
      rw [c]
      rfl
    · have h1 : decide ((kp z).kk = (kp p).kk) = false := decide_eq_false fun w => c ((kp_eq _ _).mp w)
      simp only [h1]
      have := look_dP f (L := L) (by
        rcases List.mem_cons.mp h with h | h
        · exact absurd h.symm c
        · exact h)
      exact this
theorem put_dP (f : Nat × Nat → Nat) {p : Nat × Nat} {L : List (Nat × Nat)} (h : p ∉ L) : putD (dP f L) (kp p) (.int (f p : Nat)) = dP f (L ++ [p]) := by
  have ha : ((dP f L).any fun z => decide (z.1.kk = (kp p).kk)) = false := by
    unfold dP
    rw [List.any_map, List.any_eq_false]
    intro z hz
    simp only [Function.comp]
    intro e
    have := (kp_eq _ _).mp (of_decide_eq_true e)
    exact h (this ▸ hz)
  unfold putD
  rw [ha]
  simp only [Bool.false_eq_true, if_false]
  unfold dP
  rw [List.map_append]
  rfl
theorem dP_len (f : Nat × Nat → Nat) (L : List (Nat × Nat)) : (dP f L).length = L.length := by simp [dP]
theorem dget_dP (f : Nat × Nat → Nat) {p : Nat × Nat} {L : List (Nat × Nat)} (h : p ∈ L) : D.dget (.dct true (dP f L)) (kp p) = .ok (.int (f p : Nat)) := by
  unfold D.dget
  simp only [kp_ok, if_true, look_dP f h]
theorem valN_dP (f : Nat × Nat → Nat) (L : List (Nat × Nat)) : valN (dP f L) = true := by
  unfold valN dP
  rw [List.all_map, List.all_eq_true]
  intro z _
  rfl
theorem same_dP {f g : Nat × Nat → Nat} {L : List (Nat × Nat)} (h : sameD (dP f L) (dP g L) = true) : ∀ p ∈ L, f p = g p := by
  intro p hp
  unfold sameD at h
  rw [Bool.and_eq_true] at h
  have h2 := List.all_eq_true.mp h.2 (kp p, .int (f p : Nat)) (List.mem_map.mpr ⟨p, hp, rfl⟩)
  simp only [look_dP g hp] at h2
  unfold iEq at h2
  have h3 : ((f p : Nat) : Int) = ((g p : Nat) : Int) := by simpa using h2
  omega
theorem eqDT_dP (f g : Nat × Nat → Nat) (L : List (Nat × Nat)) : D.eqDT (.dct true (dP f L)) (.dct true (dP g L)) = .ok (.bl (sameD (dP f L) (dP g L))) := by
  unfold D.eqDT
  simp only [valN_dP, and_self, if_true]
/-! ### the pure lengths -/
def rowNe (an : List (List Int)) (p : Nat × Nat) : Nat := if an.getD p.1 [] ≠ an.getD p.2 [] then 1 else 0
def beh (st : List (List Int)) (p : Nat × Nat) (a : Nat) : Nat × Nat := (stepN st p.1 a, stepN st p.2 a)
def mxN (l : List Nat) : Nat := l.foldl max 0
def stepF (st : List (List Int)) (l : Nat) (f : Nat × Nat → Nat) (p : Nat × Nat) : Nat := max (f p) (if 0 < mxN ((List.range l).map fun a => f (beh st p a)) then 1 + mxN ((List.range l).map fun a => f (beh st p a)) else 0)
def iterF (st an : List (List Int)) (l : Nat) : Nat → Nat × Nat → Nat
  | 0 => rowNe an
  | n + 1 => stepF st l (iterF st an l n)
theorem mxN_le_aux : ∀ (l : List Nat) (m : Nat), m ≤ l.foldl max m ∧ ∀ x ∈ l, x ≤ l.foldl max m
  | [], m => ⟨Nat.le_refl _, fun x hx => by cases hx⟩
  | y :: l, m => by
    obtain ⟨h1, h2⟩ := mxN_le_aux l (max m y)
    refine ⟨Nat.le_trans (Nat.le_max_left _ _) h1, fun x hx => ?_⟩
    rcases List.mem_cons.mp hx with rfl | hx
    · exact Nat.le_trans (Nat.le_max_right _ _) h1
    · exact h2 x hx
theorem mxN_le {l : List Nat} {x : Nat} (h : x ∈ l) : x ≤ mxN l := (mxN_le_aux l 0).2 x h
/-- what a fixed point tells -/
structure FixF (st an : List (List Int)) (l : Nat) (R : List Nat) (f : Nat × Nat → Nat) : Prop where
  base : ∀ p ∈ prs st.length R, an.getD p.1 [] ≠ an.getD p.2 [] → 1 ≤ f p
  grow : ∀ p ∈ prs st.length R, ∀ a, a < l → 1 ≤ f (beh st p a) → f (beh st p a) + 1 ≤ f p
  diag : ∀ r, f (r, r) = 0
theorem iterF_base {st an : List (List Int)} {l : Nat} {p : Nat × Nat} (h : an.getD p.1 [] ≠ an.getD p.2 []) : ∀ n, 1 ≤ iterF st an l n p
  | 0 => by unfold iterF rowNe; rw [if_pos h]; exact Nat.le_refl _
  | n + 1 => Nat.le_trans (iterF_base h n) (Nat.le_max_left _ _)
theorem mxN_zero : ∀ {l : List Nat}, (∀ x ∈ l, x = 0) → mxN l = 0
  | [], _ => rfl
  | x :: l, h => by
    have e : mxN (x :: l) = mxN l := by
      unfold mxN
      rw [List.foldl_cons, h x List.mem_cons_self]
      rfl
    rw [e]
    exact mxN_zero fun y hy => h y (List.mem_cons_of_mem _ hy)
theorem iterF_diag {st an : List (List Int)} {l : Nat} : ∀ (n r : Nat), iterF st an l n (r, r) = 0
  | 0, r => by unfold iterF rowNe; rw [if_neg (fun h => h rfl)]
  | n + 1, r => by
    have h : mxN ((List.range l).map fun a => iterF st an l n (beh st (r, r) a)) = 0 := mxN_zero fun x hx => by
      obtain ⟨a, _, rfl⟩ := List.mem_map.mp hx
      exact iterF_diag n _
    show stepF st l (iterF st an l n) (r, r) = 0
    unfold stepF
    rw [h, iterF_diag n r]
    rfl
theorem iterF_fix {st an : List (List Int)} {l : Nat} {R : List Nat} (n : Nat) (h : ∀ p ∈ prs st.length R, iterF st an l (n + 1) p = iterF st an l n p) : FixF st an l R (iterF st an l n) where
  base := fun p _ hne => iterF_base hne n
  grow := fun p hp a ha h1 => by
    have e := h p hp
    have hm : iterF st an l n (beh st p a) ≤ mxN ((List.range l).map fun a => iterF st an l n (beh st p a)) := mxN_le (List.mem_map.mpr ⟨a, List.mem_range.mpr ha, rfl⟩)
    have e2 : iterF st an l (n + 1) p = max (iterF st an l n p) (if 0 < mxN ((List.range l).map fun a => iterF st an l n (beh st p a)) then 1 + mxN ((List.range l).map fun a => iterF st an l n (beh st p a)) else 0) := rfl
    rw [e2, if_pos (by omega)] at e
    have := Nat.le_max_right (iterF st an l n p) (1 + mxN ((List.range l).map fun a => iterF st an l n (beh st p a)))
    omega
  diag := iterF_diag n
end Lw
end
set_option Elab.async false
set_option linter.all false
set_option autoImplicit false
set_option maxRecDepth 100000
set_option maxHeartbeats 4000000
noncomputable section
namespace Lw
open PySem Fw
/-! ### late words: lengths, none or all -/
section
variable {st an : List (List Int)} {l : Nat}
/-- from a pair there is a word of n + 1 letters to whose last one unlike answers are given -/
def lw (st an : List (List Int)) (l : Nat) : Nat → Nat × Nat → Prop
  | 0, p => an.getD p.1 [] ≠ an.getD p.2 []
  | n + 1, p => ∃ a, a < l ∧ lw st an l n (beh st p a)
theorem mxN_in : ∀ {L : List Nat}, 0 < mxN L → mxN L ∈ L := by
  have go : ∀ (L : List Nat) (m : Nat), L.foldl max m = m ∨ L.foldl max m ∈ L := by
    intro L
    induction L with
    | nil => exact fun m => .inl rfl
    | cons x L ih =>
      intro m
      rw [List.foldl_cons]
      rcases ih (max m x) with h | h
      · rw [h]
        by_cases c : m ≤ x
        · exact .inr (by rw [Nat.max_eq_right c]; exact List.mem_cons_self)
        · exact .inl (Nat.max_eq_left (by omega))
      · exact .inr (List.mem_cons_of_mem _ h)
  intro L h
  rcases go L 0 with e | e
  · unfold mxN at h
    omega
  · exact e
theorem iterF_mono (n : Nat) (p : Nat × Nat) : iterF st an l n p ≤ iterF st an l (n + 1) p := Nat.le_max_left _ _
theorem iterF_ge : ∀ (n j : Nat) (p : Nat × Nat), j ≤ n → lw st an l j p → j + 1 ≤ iterF st an l n p
  | 0, j, p, hj, h => by
    have : j = 0 := by omega
    subst this
    exact iterF_base h 0
  | n + 1, 0, p, hj, h => iterF_base h _
  | n + 1, j + 1, p, hj, h => by
    obtain ⟨a, ha, h⟩ := h
    have h1 := iterF_ge n j _ (by omega) h
    have h2 : iterF st an l n (beh st p a) ≤ mxN ((List.range l).map fun a => iterF st an l n (beh st p a)) := mxN_le (List.mem_map.mpr ⟨a, List.mem_range.mpr ha, rfl⟩)
    have h3 : iterF st an l (n + 1) p = max (iterF st an l n p) (if 0 < mxN ((List.range l).map fun a => iterF st an l n (beh st p a)) then 1 + mxN ((List.range l).map fun a => iterF st an l n (beh st p a)) else 0) := rfl
    rw [h3, if_pos (by omega)]
    have := Nat.le_max_right (iterF st an l n p) (1 + mxN ((List.range l).map fun a => iterF st an l n (beh st p a)))
    omega
theorem iterF_lw : ∀ (n k : Nat) (p : Nat × Nat), iterF st an l n p = k + 1 → k ≤ n ∧ lw st an l k p
  | 0, k, p, h => by
    unfold iterF rowNe at h
    split at h
    · have : k = 0 := by omega
      subst this
      exact ⟨Nat.le_refl _, by assumption⟩
    · omega
  | n + 1, k, p, h => by
    have h3 : iterF st an l (n + 1) p = max (iterF st an l n p) (if 0 < mxN ((List.range l).map fun a => iterF st an l n (beh st p a)) then 1 + mxN ((List.range l).map fun a => iterF st an l n (beh st p a)) else 0) := rfl
    rw [h3] at h
    by_cases c : iterF st an l n p = k + 1
    · obtain ⟨h1, h2⟩ := iterF_lw n k p c
      exact ⟨by omega, h2⟩
    · split at h
      · rename_i c2
        have e : mxN ((List.range l).map fun a => iterF st an l n (beh st p a)) = k := by omega
        have hm := mxN_in c2
        rw [e] at hm
        obtain ⟨a, ha, e2⟩ := List.mem_map.mp hm
        obtain ⟨k', rfl⟩ : ∃ k', k = k' + 1 := ⟨k - 1, by omega⟩
        obtain ⟨h1, h2⟩ := iterF_lw n k' _ e2
        exact ⟨by omega, a, List.mem_range.mp ha, h2⟩
      · omega
theorem Rch.zero : Rch st l 0 := ⟨[], (fun a h => by cases h), rfl⟩
theorem Rch.step {r a : Nat} (h : Rch st l r) (ha : a < l) : Rch st l (stepN st r a) := by
  obtain ⟨w, h1, h2⟩ := h
  refine ⟨w ++ [a], fun b hb => ?_, by rw [runN_app, h2]; rfl⟩
  rcases List.mem_append.mp hb with hb | hb
  · exact h1 b hb
  · rw [List.mem_singleton.mp hb]; exact ha
theorem Rch.lt (G : Good st an l) {r : Nat} (h : Rch st l r) : r < st.length := by
  obtain ⟨w, h1, rfl⟩ := h
  have : ∀ (w : List Nat) (s : Nat), s < st.length → (∀ a ∈ w, a < l) → runN st s w < st.length := by
    intro w
    induction w with
    | nil => exact fun s h _ => h
    | cons a w ih => exact fun s h hw => ih _ (G.step h (hw a List.mem_cons_self)).1 fun b hb => hw b (List.mem_cons_of_mem _ hb)
  exact this w 0 G.n1 h1
/-- there is a late word of m + 1 letters -/
def Ev (st an : List (List Int)) (l m : Nat) : Prop := ∃ p : Nat × Nat, Rch st l p.1 ∧ p.2 < st.length ∧ lw st an l m p
theorem Ev.down (G : Good st an l) {m : Nat} (h : Ev st an l (m + 1)) : Ev st an l m := by
  obtain ⟨p, h1, h2, a, ha, h3⟩ := h
  exact ⟨beh st p a, h1.step ha, (G.step h2 ha).1, h3⟩
theorem Ev.le (G : Good st an l) {m k : Nat} (h : Ev st an l m) (hk : k ≤ m) : Ev st an l k := by
  obtain ⟨d, rfl⟩ : ∃ d, m = k + d := ⟨m - k, by omega⟩
  induction d with
  | zero => exact h
  | succ d ih => exact ih (Ev.down G h) (by omega)
/-- the states that can come, as a list -/
structure RcL (st : List (List Int)) (l : Nat) (R : List Nat) : Prop where
  nd : R.Nodup
  iff : ∀ r, r ∈ R ↔ Rch st l r
theorem WR.rcl {R : List Nat} (W : WR st l R) : RcL st l R := ⟨W.nd, fun r => ⟨W.rc r, W.all⟩⟩
theorem RcL.beh (G : Good st an l) {R : List Nat} (W : RcL st l R) {p : Nat × Nat} (hp : p ∈ prs st.length R) {a : Nat} (ha : a < l) : beh st p a ∈ prs st.length R := by
  obtain ⟨h1, h2⟩ := prs_mem.mp hp
  exact prs_mem.mpr ⟨(W.iff _).mpr (((W.iff _).mp h1).step ha), (G.step h2 ha).1⟩
theorem RcL.ev {R : List Nat} (W : RcL st l R) {m : Nat} : Ev st an l m ↔ ∃ p ∈ prs st.length R, lw st an l m p := by
  constructor
  · rintro ⟨p, h1, h2, h3⟩
    exact ⟨p, prs_mem.mpr ⟨(W.iff _).mpr h1, h2⟩, h3⟩
  · rintro ⟨p, h1, h3⟩
    obtain ⟨h1, h2⟩ := prs_mem.mp h1
    exact ⟨p, (W.iff _).mp h1, h2, h3⟩
def fro (st an : List (List Int)) (l m : Nat) (p : Nat × Nat) : Prop := ∃ j, m ≤ j ∧ lw st an l j p
theorem fro_succ {m : Nat} {p : Nat × Nat} : fro st an l (m + 1) p ↔ ∃ a, a < l ∧ fro st an l m (beh st p a) := by
  constructor
  · rintro ⟨j, hj, h⟩
    obtain ⟨j, rfl⟩ : ∃ j', j = j' + 1 := ⟨j - 1, by omega⟩
    obtain ⟨a, ha, h⟩ := h
    exact ⟨a, ha, j, by omega, h⟩
  · rintro ⟨a, ha, j, hj, h⟩
    exact ⟨j + 1, by omega, a, ha, h⟩
open Classical in
theorem fro_stay {P : List (Nat × Nat)} (hc : ∀ p ∈ P, ∀ a, a < l → beh st p a ∈ P) {m : Nat} (h : ∀ p ∈ P, fro st an l m p → fro st an l (m + 1) p) : ∀ k, ∀ p ∈ P, fro st an l m p → fro st an l (m + k) p
  | 0, p, hp, q => q
  | k + 1, p, hp, q => by
    obtain ⟨a, ha, q1⟩ := fro_succ.mp (h p hp q)
    have := fro_stay hc h k _ (hc p hp a ha) q1
    exact fro_succ.mpr ⟨a, ha, this⟩
open Classical in
theorem fro_count {P : List (Nat × Nat)} : ∀ m, (∃ m', m' < m ∧ ∀ p ∈ P, fro st an l m' p → fro st an l (m' + 1) p) ∨ (P.filter fun p => decide (fro st an l m p)).length + m ≤ P.length
  | 0 => .inr (List.length_filter_le _ _)
  | m + 1 => by
    rcases fro_count m with ⟨m', h1, h2⟩ | h
    · exact .inl ⟨m', by omega, h2⟩
    · by_cases c : ∀ p ∈ P, fro st an l m p → fro st an l (m + 1) p
      · exact .inl ⟨m, by omega, c⟩
      · refine .inr ?_
        have hs : ∀ p, fro st an l (m + 1) p → fro st an l m p := fun p ⟨j, hj, h⟩ => ⟨j, by omega, h⟩
        have e : (P.filter fun p => decide (fro st an l (m + 1) p)) = (P.filter fun p => decide (fro st an l m p)).filter fun p => decide (fro st an l (m + 1) p) := by
          rw [List.filter_filter]
          refine List.filter_congr fun p hp => ?_
          by_cases c1 : fro st an l (m + 1) p
          · simp [c1, hs p c1]
          · simp [c1]
        have hlt : (P.filter fun p => decide (fro st an l (m + 1) p)).length < (P.filter fun p => decide (fro st an l m p)).length := by
          rw [e]
          refine Nat.lt_of_le_of_ne (List.length_filter_le _ _) fun z => c fun p hp q => ?_
          have := List.length_filter_eq_length_iff.mp z p (List.mem_filter.mpr ⟨hp, decide_eq_true q⟩)
          exact of_decide_eq_true this
        omega
open Classical in
/-- a late word longer than there are pairs: late words of all lengths -/
theorem Ev.all (G : Good st an l) {R : List Nat} (W : RcL st l R) (h : Ev st an l (prs st.length R).length) (k : Nat) : Ev st an l k := by
  obtain ⟨p, hp, hw⟩ := W.ev.mp h
  have hc := fun p (hp : p ∈ prs st.length R) a (ha : a < l) => W.beh G hp ha
  rcases fro_count (st := st) (an := an) (l := l) (P := prs st.length R) (prs st.length R).length with ⟨m, h1, h2⟩ | h2
  · have q : fro st an l m p := ⟨_, by omega, hw⟩
    obtain ⟨j, hj, q2⟩ := fro_stay hc h2 k p hp q
    exact Ev.le G (W.ev.mpr ⟨p, hp, q2⟩) (by omega)
  · exfalso
    have : p ∈ (prs st.length R).filter fun p => decide (fro st an l (prs st.length R).length p) := List.mem_filter.mpr ⟨hp, decide_eq_true ⟨_, Nat.le_refl _, hw⟩⟩
    have := List.length_pos_of_mem this
    omega
/-- the late length: so many, or none -/
inductive LateIs (st an : List (List Int)) (l : Nat) : Option Nat → Prop
  | some (L : Nat) : (∀ m, Ev st an l m ↔ m < L) → LateIs st an l (some L)
  | none : (∀ m, Ev st an l m) → LateIs st an l none
theorem LateIs.uniq {a b : Option Nat} (h : LateIs st an l a) (h' : LateIs st an l b) : a = b := by
  cases h with
  | none h =>
    cases h' with
    | none _ => rfl
    | some L h' => exact absurd ((h' L).mp (h L)) (Nat.lt_irrefl L)
  | some L h =>
    cases h' with
    | none h' => exact absurd ((h L).mp (h' L)) (Nat.lt_irrefl L)
    | some L' h' =>
      have h1 : ¬ L < L' := fun z => Nat.lt_irrefl L ((h L).mp ((h' L).mpr z))
      have h2 : ¬ L' < L := fun z => Nat.lt_irrefl L' ((h' L').mp ((h L').mpr z))
      congr 1
      omega
/-- the program's rounds: a fixed point -/
theorem late_fix (G : Good st an l) {R : List Nat} (W : RcL st l R) (n : Nat) (h : ∀ p ∈ prs st.length R, iterF st an l (n + 1) p = iterF st an l n p) : LateIs st an l (some (mxN ((prs st.length R).map (iterF st an l n)))) := by
  have hc := fun p (hp : p ∈ prs st.length R) a (ha : a < l) => W.beh G hp ha
  have stay : ∀ k, ∀ p ∈ prs st.length R, iterF st an l (n + k) p = iterF st an l n p := by
    intro k
    induction k with
    | zero => exact fun p _ => rfl
    | succ k ih =>
      intro p hp
      have e1 : iterF st an l (n + k + 1) p = stepF st l (iterF st an l (n + k)) p := rfl
      have e2 : iterF st an l (n + 1) p = stepF st l (iterF st an l n) p := rfl
      have e3 : ((List.range l).map fun a => iterF st an l (n + k) (beh st p a)) = (List.range l).map fun a => iterF st an l n (beh st p a) := List.map_congr_left fun a ha => ih _ (hc p hp a (List.mem_range.mp ha))
      rw [← Nat.add_assoc, e1, ← h p hp, e2]
      unfold stepF
      rw [e3, ih p hp]
  refine .some _ fun m => ?_
  rw [W.ev]
  constructor
  · rintro ⟨p, hp, hw⟩
    have h1 := iterF_ge (n + m) m p (by omega) hw
    rw [stay m p hp] at h1
    have h2 : iterF st an l n p ≤ mxN ((prs st.length R).map (iterF st an l n)) := mxN_le (List.mem_map_of_mem hp)
    omega
  · intro hm
    have h1 : 0 < mxN ((prs st.length R).map (iterF st an l n)) := by omega
    obtain ⟨p, hp, e⟩ := List.mem_map.mp (mxN_in h1)
    obtain ⟨k, hk⟩ : ∃ k, mxN ((prs st.length R).map (iterF st an l n)) = k + 1 := ⟨mxN ((prs st.length R).map (iterF st an l n)) - 1, by omega⟩
    rw [hk] at e
    obtain ⟨_, h3⟩ := iterF_lw n k p e
    have : Ev st an l k := W.ev.mpr ⟨p, hp, h3⟩
    exact W.ev.mp (Ev.le G this (by omega))
theorem late_nofix (G : Good st an l) {R : List Nat} (W : RcL st l R) (h : ¬ ∀ p ∈ prs st.length R, iterF st an l ((prs st.length R).length + 1) p = iterF st an l (prs st.length R).length p) : LateIs st an l none := by
  refine .none fun m => Ev.all G W ?_ m
  generalize (prs st.length R).length = N at *
  have h : ∃ p, p ∈ prs st.length R ∧ iterF st an l (N + 1) p ≠ iterF st an l N p := by
    refine Classical.byContradiction fun z => h fun p hp => Classical.byContradiction fun w => z ⟨p, hp, w⟩
  obtain ⟨p, hp, hne⟩ := h
  have hm := iterF_mono (st := st) (an := an) (l := l) N p
  obtain ⟨k, hk⟩ : ∃ k, iterF st an l (N + 1) p = k + 1 := ⟨iterF st an l (N + 1) p - 1, by omega⟩
  obtain ⟨h1, h2⟩ := iterF_lw (N + 1) k p hk
  refine Ev.le G (W.ev.mpr ⟨p, hp, h2⟩) ?_
  refine Classical.byContradiction fun z => hne ?_
  have := iterF_ge N k p (by omega) h2
  omega
/-- the law's lots of pairs: to which words of so many letters lead -/
theorem lots {S : Nat → Nat × Nat → Prop} (h0 : ∀ p, S 0 p ↔ Rch st l p.1 ∧ p.2 < st.length) (hs : ∀ n p, S (n + 1) p ↔ ∃ q a, S n q ∧ a < l ∧ p = beh st q a) : ∀ m n, (∃ p, S m p ∧ lw st an l n p) ↔ Ev st an l (n + m)
  | 0, n => by
    constructor
    · rintro ⟨p, h1, h2⟩
      obtain ⟨h1, h3⟩ := (h0 p).mp h1
      exact ⟨p, h1, h3, h2⟩
    · rintro ⟨p, h1, h2, h3⟩
      exact ⟨p, (h0 p).mpr ⟨h1, h2⟩, h3⟩
  | m + 1, n => by
    have ih := lots h0 hs m (n + 1)
    have e : n + 1 + m = n + (m + 1) := by omega
    rw [← e, ← ih]
    constructor
    · rintro ⟨p, h1, h2⟩
      obtain ⟨q, a, h3, h4, rfl⟩ := (hs _ _).mp h1
      exact ⟨q, h3, a, h4, h2⟩
    · rintro ⟨q, h3, a, h4, h2⟩
      exact ⟨_, (hs _ _).mpr ⟨q, a, h3, h4, rfl⟩, h2⟩
theorem late_lots (G : Good st an l) {R : List Nat} (W : RcL st l R) (hN : (prs st.length R).length ≤ 36) {E : Nat → Bool} (hE : ∀ m, E m = true ↔ Ev st an l m) :
    ∃ o, LateIs st an l o ∧ ((List.range 40).filter E = List.range (o.getD 40)) ∧ ∀ L, o = some L → L ≤ 36 := by
  by_cases c : Ev st an l 36
  · have ha := Ev.all G W (Ev.le G c hN)
    refine ⟨none, .none ha, ?_, fun L z => by cases z⟩
    exact List.filter_eq_self.mpr fun m _ => (hE m).mpr (ha m)
  · have key : ∀ n, ¬ Ev st an l n → ∃ L, L ≤ n ∧ ∀ m, Ev st an l m ↔ m < L := by
      intro n
      induction n with
      | zero => exact fun h => ⟨0, Nat.le_refl _, fun m => ⟨fun z => absurd (Ev.le G z (Nat.zero_le _)) h, fun z => absurd z (Nat.not_lt_zero _)⟩⟩
      | succ n ih =>
        intro h
        by_cases c : Ev st an l n
        · exact ⟨n + 1, Nat.le_refl _, fun m => ⟨fun z => Classical.byContradiction fun w => h (Ev.le G z (by omega)), fun z => Ev.le G c (by omega)⟩⟩
        · obtain ⟨L, h1, h2⟩ := ih c
          exact ⟨L, by omega, h2⟩
    obtain ⟨L, h1, h2⟩ := key 36 c
    refine ⟨some L, .some L h2, ?_, fun L' z => by cases z; exact h1⟩
    have e : (List.range 40).filter E = (List.range 40).filter fun m => decide (m < L) := List.filter_congr fun m _ => by
      by_cases q : m < L
      · rw [(hE m).mpr ((h2 m).mpr q), decide_eq_true q]
      · rw [decide_eq_false q]
        refine Bool.eq_false_iff.mpr fun z => q ((h2 m).mp ((hE m).mp z))
    have e2 : ∀ n, L ≤ n → ((List.range n).filter fun m => decide (m < L)) = List.range L := by
      intro n hn
      induction n with
      | zero =>
        have : L = 0 := by omega
        subst this
        rfl
      | succ n ih =>
        rw [List.range_succ, List.filter_append]
        by_cases q : L ≤ n
        · rw [ih q, List.filter_cons]
          simp
          omega
        · have : L = n + 1 := by omega
          subst this
          rw [List.filter_eq_self.mpr (fun m hm => decide_eq_true (by have := List.mem_range.mp hm; omega)), List.filter_eq_self.mpr (fun m hm => decide_eq_true (by have := List.mem_singleton.mp hm; omega)), ← List.range_succ]
    rw [e]
    exact e2 40 (by omega)
end
end Lw
end
set_option Elab.async false
set_option linter.all false
set_option autoImplicit false
set_option maxRecDepth 100000
set_option maxHeartbeats 4000000
noncomputable section
namespace Lw
open PySem Fw
/-! ### lengths_of -/
theorem foldl_cast : ∀ (L : List Nat) (m : Nat), (L.map fun (x : Nat) => (x : Int)).foldl max (m : Int) = ((L.foldl max m : Nat) : Int)
  | [], m => rfl
  | x :: L, m => by
    rw [List.map_cons, List.foldl_cons, List.foldl_cons, ← foldl_cast L (max m x)]
    congr 1
    omega
theorem max1_nat {L : List Nat} (h : L ≠ []) : D.max1 (.lst (wN L)) = .ok (.int (mxN L : Nat)) := by
  unfold D.max1 D.asInts
  rw [wN_iL]
  unfold iL
  simp only [intsOf_map, bind_ok]
  cases L with
  | nil => exact absurd rfl h
  | cons x L =>
    rw [List.map_cons]
    show Res.ok (D.int ((L.map fun (a : Nat) => (a : Int)).foldl max (x : Int))) = _
    rw [foldl_cast]
    have : mxN (x :: L) = L.foldl max x := by
      unfold mxN
      rw [List.foldl_cons, Nat.zero_max]
    rw [this]
section
variable {st an : List (List Int)} {l : Nat}
theorem F_letters (G : Good st an l) : F_n_letters_of [machT st an] = .ok (.int (l : Nat)) := by
  have n1 := G.n1
  have r0 := rows_at (rs := st) (s := 0) (by omega)
  have m0 := mach0 st an
  have e : (st.getD 0 []).length = l := G.row (by omega)
  have z : ((0 : Nat) : Int) = 0 := rfl
  rw [z] at r0
  generalize machT st an = mm at *
  generalize rowsT st = rr at *
  generalize st.getD 0 [] = r at *
  simp [-ix_tup, F_n_letters_of, g_n_letters_of, start0, m0, r0, iL_len, e]
theorem kp0 (p : Nat × Nat) : (kp p).ix (.int 0) = .ok (.int (p.1 : Int)) := by unfold kp; rw [ix_tup, ixG_zero]
theorem kp1 (p : Nat × Nat) : (kp p).ix (.int 1) = .ok (.int (p.2 : Int)) := by unfold kp; rw [ix_tup, ixG_one]
def gEnv (M : D) (P : List (Nat × Nat)) (f : Nat × Nat → Nat) (L : List (Nat × Nat)) (s3 s4 s5 s6 : Sl) : SEnv := [.val M, .val (.lst (P.map kp)), .own (.dct true (dP f L)), s3, s4, s5, s6, .dead]
def baseInv (st an : List (List Int)) (P : List (Nat × Nat)) (i : Nat) (ρ : SEnv) : Prop := ∃ s3, ρ = gEnv (machT st an) P (rowNe an) (P.take i) s3 .dead .dead .dead ∧ isRow [s3] 0 = false
theorem kpL_at {P : List (Nat × Nat)} {j : Nat} {d : D} (h : (P.map kp)[j]? = some d) : ∃ hj : j < P.length, d = kp P[j] := by
  rw [List.getElem?_map] at h
  cases q : P[j]? with
  | none => rw [q] at h; cases h
  | some k =>
    rw [q] at h
    cases h
    obtain ⟨h1, h2⟩ := List.getElem?_eq_some_iff.mp q
    exact ⟨h1, by rw [h2]⟩
theorem take_next {P : List (Nat × Nat)} {j : Nat} (hj : j < P.length) : P.take (j + 1) = P.take j ++ [P[j]] := by
  rw [List.take_succ, List.getElem?_eq_getElem hj]
  rfl
theorem take_new {P : List (Nat × Nat)} (hn : P.Nodup) {j : Nat} (hj : j < P.length) : P[j] ∉ P.take j := by
  intro h
  obtain ⟨i, hi, e⟩ := List.getElem_of_mem h
  rw [List.getElem_take] at e
  have hi' : i < j := by rw [List.length_take] at hi; omega
  exact List.pairwise_iff_getElem.mp (List.nodup_iff_pairwise_ne.mp hn) i j (by omega) hj hi' e
end
end Lw
end
set_option Elab.async false
set_option linter.all false
set_option autoImplicit false
set_option maxRecDepth 100000
set_option maxHeartbeats 4000000
noncomputable section
namespace Lw
open PySem Fw
/-! ### lengths_of: the rounds -/
section
variable {st an : List (List Int)} {l : Nat}
def hEnv (M : D) (P : List (Nat × Nat)) (f : Nat × Nat → Nat) (g : Nat × Nat → Nat) (L : List (Nat × Nat)) (s3 s4 s6 : Sl) : SEnv := [.val M, .val (.lst (P.map kp)), .own (.dct true (dP f P)), s3, s4, .own (.dct true (dP g L)), s6, .dead]
def rndInv (M : D) (P : List (Nat × Nat)) (f g : Nat × Nat → Nat) (s4 : Sl) (i : Nat) (ρ : SEnv) : Prop := ∃ s3 s6, ρ = hEnv M P f g (P.take i) s3 s4 s6 ∧ isRow [s3] 0 = false ∧ isRow [s6] 0 = false
theorem dP_same {f g : Nat × Nat → Nat} {L : List (Nat × Nat)} (h : ∀ p ∈ L, f p = g p) : sameD (dP f L) (dP g L) = true := by
  unfold sameD
  rw [Bool.and_eq_true]
  refine ⟨by simp [dP_len], List.all_eq_true.mpr fun z hz => ?_⟩
  obtain ⟨p, hp, rfl⟩ := List.mem_map.mp hz
  simp only [look_dP g hp, h p hp]
  unfold iEq
  simp
end
end Lw
end
set_option Elab.async false
set_option linter.all false
set_option autoImplicit false
set_option maxRecDepth 100000
set_option maxHeartbeats 4000000
noncomputable section
namespace Lw
open PySem Fw
/-! ### how many copies are needed -/
section
variable {st an : List (List Int)} {l : Nat}
theorem mxN_bound {m : Nat} : ∀ {L : List Nat}, (∀ x ∈ L, x ≤ m) → mxN L ≤ m := by
  intro L h
  have : ∀ (L : List Nat) (k : Nat), k ≤ m → (∀ x ∈ L, x ≤ m) → L.foldl max k ≤ m := by
    intro L
    induction L with
    | nil => exact fun k hk _ => hk
    | cons x L ih => exact fun k hk hx => ih _ (Nat.max_le.mpr ⟨hk, hx x List.mem_cons_self⟩) fun y hy => hx y (List.mem_cons_of_mem _ hy)
  exact this L 0 (Nat.zero_le _) h
theorem iterF_le : ∀ (n : Nat) (p : Nat × Nat), iterF st an l n p ≤ n + 1
  | 0, p => by unfold iterF rowNe; split <;> omega
  | n + 1, p => by
    have hm : mxN ((List.range l).map fun a => iterF st an l n (beh st p a)) ≤ n + 1 := mxN_bound fun x hx => by
      obtain ⟨a, _, rfl⟩ := List.mem_map.mp hx
      exact iterF_le n _
    have h1 := iterF_le n p
    show stepF st l (iterF st an l n) p ≤ _
    unfold stepF
    refine Nat.max_le.mpr ⟨by omega, ?_⟩
    split <;> omega
theorem maxVals_dP (f : Nat × Nat → Nat) {P : List (Nat × Nat)} (h : P ≠ []) : D.maxVals (.dct true (dP f P)) = .ok (.int (mxN (P.map f) : Nat)) := by
  have e : (dP f P).map (·.2) = wN (P.map f) := by
    unfold dP wN
    rw [List.map_map, List.map_map]
    rfl
  have hi : intsOf (wN (P.map f)) = some ((P.map f).map fun (x : Nat) => (x : Int)) := by
    rw [wN_iL]
    unfold iL
    exact intsOf_map _
  have := max1_nat (L := P.map f) (by simpa using h)
  have e1 : D.max1 (.lst (wN (P.map f))) = match maxL ((P.map f).map fun (x : Nat) => (x : Int)) with | some m => .ok (.int m) | none => .no := by
    unfold D.max1 D.asInts
    simp only [hi, bind_ok]
    all_goals (cases maxL ((P.map f).map fun (x : Nat) => (x : Int)) <;> rfl)
  have e2 : D.maxVals (.dct true (dP f P)) = match intsOf ((dP f P).map (·.2)) with | some ns => (match maxL ns with | some m => .ok (.int m) | none => .no) | none => .no := rfl
  rw [e2, e, hi, ← this, e1]
/-- how many are needed, by the late length -/
def needN (p room : Nat) : Option Nat → Option Nat
  | some L => some (if p = 0 then 1 else 2 * p * ((L + room - 1) / room) + 1)
  | none => if p = 0 then some 1 else none
def optD : Option Nat → D
  | some v => .int (v : Int)
  | none => .non
end
end Lw
end
set_option Elab.async false
set_option linter.all false
set_option autoImplicit false
set_option maxRecDepth 100000
set_option maxHeartbeats 4000000
noncomputable section
namespace Lw
open PySem Fw
/-! ### the law's own states that come -/
theorem getD_at {α : Type} {l : List α} {i : Nat} {d : α} (h : i < l.length) : l.getD i d = l[i] := by
  rw [List.getD_eq_getElem?_getD (l := l), List.getElem?_eq_getElem h]
  rfl
theorem addlst (a b : List D) (h : a.length + b.length ≤ 10000) : D.add (.lst a) (.lst b) = .ok (.lst (a ++ b)) := by
  show (if a.length + b.length ≤ lim then Res.ok (D.lst (a ++ b)) else .no) = _
  rw [if_pos (lim_big h)]
theorem iL_nat {ns : List Int} (h : ∀ v ∈ ns, 0 ≤ v) : iL ns = wN (ns.map Int.toNat) := by
  unfold iL wN
  rw [List.map_map]
  refine List.map_congr_left fun v hv => ?_
  have := h v hv
  simp
  omega
theorem iL_app (a b : List Int) : iL (a ++ b) = iL a ++ iL b := by unfold iL; rw [List.map_append]
theorem wN_app (a b : List Nat) : wN (a ++ b) = wN a ++ wN b := by unfold wN; rw [List.map_append]
section
variable {st an : List (List Int)} {l : Nat}
theorem row_vals (G : Good st an l) {s : Nat} (hs : s < st.length) {v : Int} : v ∈ st.getD s [] ↔ ∃ a, a < l ∧ v = (stepN st s a : Int) := by
  have hr := G.row hs
  constructor
  · intro h
    obtain ⟨a, ha, e⟩ := List.getElem_of_mem h
    refine ⟨a, by omega, ?_⟩
    rw [← (G.step hs (a := a) (by omega)).2, ← e]
    exact (getD_at ha).symm
  · rintro ⟨a, ha, rfl⟩
    rw [← (G.step hs ha).2]
    exact Fw.getD_mem (by omega)
def nextF (st : List (List Int)) (F : List Nat) : List Nat := (setI ((F.map fun (s : Nat) => (s : Int)) ++ F.flatMap fun s => st.getD s [])).map Int.toNat
theorem nextF_in (G : Good st an l) {F : List Nat} (hF : ∀ s ∈ F, s < st.length) {v : Int} : v ∈ setI ((F.map fun (s : Nat) => (s : Int)) ++ F.flatMap fun s => st.getD s []) ↔ ∃ x : Nat, v = x ∧ (x ∈ F ∨ ∃ s a, s ∈ F ∧ a < l ∧ x = stepN st s a) := by
  rw [mem_setI, List.mem_append, List.mem_map, List.mem_flatMap]
  constructor
  · rintro (⟨x, hx, rfl⟩ | ⟨s, hs, h⟩)
    · exact ⟨x, rfl, .inl hx⟩
    · obtain ⟨a, ha, rfl⟩ := (row_vals G (hF s hs)).mp h
      exact ⟨_, rfl, .inr ⟨s, a, hs, ha, rfl⟩⟩
  · rintro ⟨x, rfl, h | ⟨s, a, hs, ha, rfl⟩⟩
    · exact .inl ⟨x, h, rfl⟩
    · exact .inr ⟨s, hs, (row_vals G (hF s hs)).mpr ⟨a, ha, rfl⟩⟩
theorem nextF_mem (G : Good st an l) {F : List Nat} (hF : ∀ s ∈ F, s < st.length) {x : Nat} : x ∈ nextF st F ↔ x ∈ F ∨ ∃ s a, s ∈ F ∧ a < l ∧ x = stepN st s a := by
  unfold nextF
  rw [List.mem_map]
  constructor
  · rintro ⟨v, hv, rfl⟩
    obtain ⟨x, rfl, h⟩ := (nextF_in G hF).mp hv
    exact h
  · intro h
    exact ⟨x, (nextF_in G hF).mpr ⟨x, rfl, h⟩, rfl⟩
theorem nextF_nodup (G : Good st an l) {F : List Nat} (hF : ∀ s ∈ F, s < st.length) : (nextF st F).Nodup := by
  unfold nextF
  rw [List.nodup_iff_pairwise_ne, List.pairwise_map]
  refine (setI_rise _).imp_of_mem fun {a b} ha hb h e => ?_
  obtain ⟨x, rfl, _⟩ := (nextF_in G hF).mp ha
  obtain ⟨y, rfl, _⟩ := (nextF_in G hF).mp hb
  simp at e
  omega
structure CmI (st : List (List Int)) (l k : Nat) (F : List Nat) : Prop where
  nd : F.Nodup
  zero : 0 ∈ F
  rc : ∀ s ∈ F, Rch st l s
  grow : (∀ s a, s ∈ F → a < l → stepN st s a ∈ F) ∨ k + 1 ≤ F.length
theorem CmI.next (G : Good st an l) {k : Nat} {F : List Nat} (I : CmI st l k F) : CmI st l (k + 1) (nextF st F) := by
  have hF := fun s hs => (I.rc s hs).lt G
  refine ⟨nextF_nodup G hF, (nextF_mem G hF).mpr (.inl I.zero), fun s hs => ?_, ?_⟩
  · rcases (nextF_mem G hF).mp hs with h | ⟨q, a, hq, ha, rfl⟩
    · exact I.rc s h
    · exact (I.rc q hq).step ha
  · by_cases c : ∀ s a, s ∈ F → a < l → stepN st s a ∈ F
    · have same : ∀ x, x ∈ nextF st F → x ∈ F := fun x hx => by
        rcases (nextF_mem G hF).mp hx with h | ⟨q, a, hq, ha, rfl⟩
        · exact h
        · exact c q a hq ha
      exact .inl fun s a hs ha => (nextF_mem G hF).mpr (.inl (c s a (same s hs) ha))
    · refine .inr ?_
      have hg := I.grow.resolve_left c
      have : ∃ s a, s ∈ F ∧ a < l ∧ stepN st s a ∉ F := Classical.byContradiction fun z => c fun s a hs ha => Classical.byContradiction fun w => z ⟨s, a, hs, ha, w⟩
      obtain ⟨s, a, hs, ha, hn⟩ := this
      have nd : (stepN st s a :: F).Nodup := List.nodup_cons.mpr ⟨hn, I.nd⟩
      have := nd.length_le_of_subset (l₂ := nextF st F) fun x hx => by
        rcases List.mem_cons.mp hx with rfl | hx
        · exact (nextF_mem G hF).mpr (.inr ⟨s, a, hs, ha, rfl⟩)
        · exact (nextF_mem G hF).mpr (.inl hx)
      rw [List.length_cons] at this
      omega
theorem CmI.len (G : Good st an l) {k : Nat} {F : List Nat} (I : CmI st l k F) : F.length ≤ st.length := by
  have := I.nd.length_le_of_subset (l₂ := List.range st.length) fun s hs => List.mem_range.mpr ((I.rc s hs).lt G)
  simpa using this
def cmInv (st an : List (List Int)) (l k : Nat) (ρ : SEnv) : Prop := ∃ F x2 x3 x4, ρ = [.val (machT st an), .val (.lst (wN F)), x2, x3, x4] ∧ isRow [x2] 0 = false ∧ isRow [x3] 0 = false ∧ isRow [x4] 0 = false ∧ CmI st l k F
end
end Lw
end
set_option Elab.async false
set_option linter.all false
set_option autoImplicit false
set_option maxRecDepth 100000
set_option maxHeartbeats 4000000
noncomputable section
namespace Lw
open PySem Fw
/-! ### the law's own late length -/
section
variable {st an : List (List Int)} {l : Nat}
def dB (Q : List (Nat × Nat)) : List (D × D) := Q.map fun p => (kp p, .bl true)
theorem put_dB (Q : List (Nat × Nat)) (p : Nat × Nat) : putD (dB Q) (kp p) (.bl true) = dB (if p ∈ Q then Q else Q ++ [p]) := by
  have ha : ((dB Q).any fun z => decide (z.1.kk = (kp p).kk)) = decide (p ∈ Q) := by
    unfold dB
    rw [List.any_map]
    by_cases c : p ∈ Q
    · rw [decide_eq_true c]
      exact List.any_eq_true.mpr ⟨p, c, by simp [Function.comp]⟩
    · rw [decide_eq_false c, List.any_eq_false]
      intro z hz e
      have := (kp_eq _ _).mp (of_decide_eq_true e)
      exact c (this ▸ hz)
  unfold putD
  rw [ha]
  by_cases c : p ∈ Q
  · rw [decide_eq_true c, if_pos rfl, if_pos c]
    unfold dB
    rw [List.map_map]
    refine List.map_congr_left fun z hz => ?_
    simp only [Function.comp]
    split <;> rfl
  · rw [decide_eq_false c, if_neg (by simp), if_neg c]
    unfold dB
    rw [List.map_append]
    rfl
def Small (st : List (List Int)) (Q : List (Nat × Nat)) : Prop := ∀ p ∈ Q, p.1 < st.length ∧ p.2 < st.length
theorem small_len (G : Good st an l) {Q : List (Nat × Nat)} (hn : Q.Nodup) (hs : Small st Q) : Q.length ≤ 36 := by
  have h := hn.length_le_of_subset (l₂ := prs st.length (List.range st.length)) fun p hp => prs_mem.mpr ⟨List.mem_range.mpr (hs p hp).1, (hs p hp).2⟩
  rw [prs_len, List.length_range] at h
  have n6 := G.n6
  have : st.length * st.length ≤ 6 * 6 := Nat.mul_le_mul n6 n6
  omega
def cI (p : Nat × Nat) : Int × Int := ((p.1 : Int), (p.2 : Int))
def uI (p : Int × Int) : Nat × Nat := (p.1.toNat, p.2.toNat)
theorem cI_pD (p : Nat × Nat) : pD (cI p) = kp p := rfl
theorem uI_cI (p : Nat × Nat) : uI (cI p) = p := by
  unfold uI cI
  simp
/-- sorted(list(_law_later)) -/
theorem sort_later (Q : List (Nat × Nat)) (hn : Q.Nodup) : ∃ Q' : List (Nat × Nat), D.sortT (.lst (Q.map kp)) = .ok (.lst (Q'.map kp)) ∧ Q'.Perm Q := by
  refine ⟨(sortP (Q.map cI)).map uI, ?_, ?_⟩
  · have e : Q.map kp = (Q.map cI).map pD := by rw [List.map_map]; rfl
    show (match pairsI (Q.map kp) with | some l => Res.ok (D.lst ((sortP l).map pD)) | none => .no) = _
    rw [e, pairsI_map]
    simp only
    rw [List.map_map]
    congr 2
    refine List.map_congr_left fun x hx => ?_
    obtain ⟨p, hp, rfl⟩ := List.mem_map.mp ((sortP_perm _).mem_iff.mp hx)
    show pD (cI p) = kp (uI (cI p))
    rw [uI_cI]
    rfl
  · refine ((sortP_perm _).map uI).trans ?_
    rw [List.map_map]
    have : Q.map (uI ∘ cI) = Q := by
      show Q.map (fun p => uI (cI p)) = Q
      rw [List.map_congr_left (g := id) fun p _ => uI_cI p, List.map_id]
    rw [this]
/-- the pairs to which words of so many letters lead -/
def Lot (st : List (List Int)) (l : Nat) : Nat → Nat × Nat → Prop
  | 0, p => Rch st l p.1 ∧ p.2 < st.length
  | n + 1, p => ∃ q a, Lot st l n q ∧ a < l ∧ p = beh st q a
structure LotL (st : List (List Int)) (l n : Nat) (L : List (Nat × Nat)) : Prop where
  nd : L.Nodup
  sm : Small st L
  iff : ∀ p, p ∈ L ↔ Lot st l n p
def sEnv9 (M : D) (L : List (Nat × Nat)) (FF : List (List (Nat × Nat))) (x3 x4 x5 x6 x7 x8 : Sl) : SEnv := [.val M, .val (.lst (L.map kp)), .own (.lst (FF.map fun L => .lst (L.map kp))), x3, x4, x5, x6, x7, x8]
def rowsOk (x3 x4 x6 x7 x8 : Sl) : Prop := isRow [x3] 0 = false ∧ isRow [x4] 0 = false ∧ isRow [x6] 0 = false ∧ isRow [x7] 0 = false ∧ isRow [x8] 0 = false
def setsInv (st an : List (List Int)) (l m : Nat) (ρ : SEnv) : Prop := ∃ L FF x3 x4 x5 x6 x7 x8, ρ = sEnv9 (machT st an) L FF x3 x4 x5 x6 x7 x8 ∧ isRow [x5] 0 = false ∧ rowsOk x3 x4 x6 x7 x8 ∧ LotL st l m L ∧ FF.length = m ∧ ∀ i L, FF[i]? = some L → LotL st l i L
end
end Lw
end
set_option Elab.async false
set_option linter.all false
set_option autoImplicit false
set_option maxRecDepth 100000
set_option maxHeartbeats 800000
noncomputable section
namespace Lw
open PySem Fw
/-! ### the law's own late length, and what is needed -/
section
variable {st an : List (List Int)} {l : Nat}
/-- a comprehension over pairs -/
theorem lcL_prs {tt : Fw.Env → Res Bool} {fe : Fw.Env → Res D} {r : Fw.Env} {i j : Nat} (b : Nat × Nat → Bool) (h : Nat × Nat → D) : ∀ L : List (Nat × Nat), (∀ p ∈ L, tt (putE r [(i, .int (p.1 : Int)), (j, .int (p.2 : Int))]) = .ok (b p)) → (∀ p ∈ L, b p = true → fe (putE r [(i, .int (p.1 : Int)), (j, .int (p.2 : Int))]) = .ok (h p)) → lcL (.tp [.nm i, .nm j]) tt fe r (L.map kp) = .ok ((L.filter b).map h)
  | [], _, _ => rfl
  | p :: L, h1, h2 => by
    have ih := lcL_prs b h L (fun q hq => h1 q (List.mem_cons_of_mem _ hq)) fun q hq => h2 q (List.mem_cons_of_mem _ hq)
    have e1 := h1 p List.mem_cons_self
    have e2 := h2 p List.mem_cons_self
    have ek : kp p = .tup [.int (p.1 : Int), .int (p.2 : Int)] := rfl
    rw [List.map_cons, ek]
    simp only [putE_cons, putE_nil] at e1 e2
    cases hp : b p with
    | false => simp [lcL, e1, hp, ih]
    | true => simp [lcL, e1, hp, ih, e2 hp]
theorem ne_rows (x y : List Int) : D.ne (.tup (iL x)) (.tup (iL y)) = .ok (.bl !(decide (x = y))) := by
  have f : ∀ x : List Int, Fl 1 (.tup (iL x)) := fun x => .tup _ _ fun d hd => by
    obtain ⟨i, _, rfl⟩ := List.mem_map.mp hd
    exact .int _ _
  rw [ne_fl (f _) (f _)]
  have : ((D.tup (iL x)) = (D.tup (iL y))) ↔ x = y := by
    constructor
    · intro h
      have h1 := D.tup.inj h
      unfold iL at h1
      exact List.map_inj_right (fun a b e => D.int.inj e) |>.mp h1
    · intro h; rw [h]
  congr 2
  simp only [this]
theorem ne_nilI (x : List Int) : D.ne (.lst (iL x)) (.lst []) = .ok (.bl !x.isEmpty) := by
  rw [ne_fl (fl_iL x) (Fl.lst 0 [] (fun d hd => by cases hd))]
  cases x with
  | nil =>
    have : iL [] = [] := rfl
    rw [this]
    simp
  | cons y x =>
    have : iL (y :: x) = .int y :: iL x := rfl
    rw [this]
    simp
noncomputable def evB (st an : List (List Int)) (l m : Nat) : Bool := @decide (Ev st an l m) (Classical.propDecidable _)
theorem evB_iff {m : Nat} : evB st an l m = true ↔ Ev st an l m := by
  unfold evB
  exact @decide_eq_true_iff _ (Classical.propDecidable _)
theorem lot_ev {m : Nat} : (∃ p, Lot st l m p ∧ an.getD p.1 [] ≠ an.getD p.2 []) ↔ Ev st an l m := by
  have := lots (st := st) (an := an) (l := l) (S := Lot st l) (fun p => Iff.rfl) (fun n p => Iff.rfl) m 0
  rw [Nat.zero_add] at this
  exact this
def lateInv (st an : List (List Int)) (l j : Nat) (ρ : SEnv) : Prop := ∃ x2 x3, ρ = [.val (machT st an), .own (.lst (wN (((List.range j).filter (evB st an l)).map (· + 1)))), x2, x3, .dead, .dead] ∧ isRow [x2] 0 = false ∧ isRow [x3] 0 = false
theorem mxN_range : ∀ n : Nat, mxN ((List.range n).map (· + 1)) = n
  | 0 => rfl
  | n + 1 => by
    have ih := mxN_range n
    unfold mxN at *
    rw [List.range_succ, List.map_append, List.foldl_append, ih]
    simp
def nwInv (M : D) (p room L n : Nat) : SEnv := [.val M, .val (.int (p : Int)), .val (.int (room : Int)), .val (.int (L : Int)), .val (.int (n : Int))]
end
end Lw
end
set_option Elab.async false
set_option linter.all false
set_option autoImplicit false
set_option maxRecDepth 100000
set_option maxHeartbeats 4000000
noncomputable section
namespace Lw
open PySem Fw
/-! ### alike -/
@[simp] theorem isiAny_int (v : Int) : (D.int v).isiAny [.tup, .lst] = .ok (.bl false) := rfl
@[simp] theorem isi_int_lst (v : Int) : (D.int v).isi .lst = .ok (.bl false) := rfl
@[simp] theorem isi_int_str (v : Int) : (D.int v).isi .str = .ok (.bl false) := rfl
@[simp] theorem isi_int_bl (v : Int) : (D.int v).isi .bl = .ok (.bl false) := rfl
@[simp] theorem isi_int_int (v : Int) : (D.int v).isi .int = .ok (.bl true) := rfl
@[simp] theorem isiAny_tup (v : List D) : (D.tup v).isiAny [.tup, .lst] = .ok (.bl true) := rfl
@[simp] theorem isi_tup_lst (v : List D) : (D.tup v).isi .lst = .ok (.bl false) := rfl
@[simp] theorem isi_tup_str (v : List D) : (D.tup v).isi .str = .ok (.bl false) := rfl
@[simp] theorem isi_tup_bl (v : List D) : (D.tup v).isi .bl = .ok (.bl false) := rfl
@[simp] theorem isi_tup_int (v : List D) : (D.tup v).isi .int = .ok (.bl false) := rfl
@[simp] theorem isiAny_ftp (v : List D) : (D.ftp v).isiAny [.tup, .lst] = .ok (.bl true) := rfl
@[simp] theorem isi_ftp_lst (v : List D) : (D.ftp v).isi .lst = .ok (.bl false) := rfl
@[simp] theorem isi_ftp_str (v : List D) : (D.ftp v).isi .str = .ok (.bl false) := rfl
@[simp] theorem isi_ftp_bl (v : List D) : (D.ftp v).isi .bl = .ok (.bl false) := rfl
@[simp] theorem isi_ftp_int (v : List D) : (D.ftp v).isi .int = .ok (.bl false) := rfl
@[simp] theorem isiAny_non  : D.non.isiAny [.tup, .lst] = .ok (.bl false) := rfl
@[simp] theorem isi_non_lst  : D.non.isi .lst = .ok (.bl false) := rfl
@[simp] theorem isi_non_str  : D.non.isi .str = .ok (.bl false) := rfl
@[simp] theorem isi_non_bl  : D.non.isi .bl = .ok (.bl false) := rfl
@[simp] theorem isi_non_int  : D.non.isi .int = .ok (.bl false) := rfl
@[simp] theorem isNon_int (v : Int) : (D.int v).isNon = false := rfl
@[simp] theorem isNon_non : D.non.isNon = true := rfl
@[simp] theorem eq_bl (a b : Bool) : D.eq (.bl a) (.bl b) = .ok (.bl (a == b)) := by cases a <;> cases b <;> rfl
@[simp] theorem ne_bl (a b : Bool) : D.ne (.bl a) (.bl b) = .ok (.bl !(a == b)) := by cases a <;> cases b <;> rfl
@[simp] theorem eq_nil : D.eq (.lst []) (.lst []) = .ok (.bl true) := rfl
@[simp] theorem eq_non : D.eq .non .non = .ok (.bl true) := rfl
theorem alike_int (k : Nat) (v : Int) : F_n__law_alike (k + 1) [.int v, .int v] = .ok (.bl true) := by
  simp [F_n__law_alike, g_n__law_alike, start0]
theorem alike_non (k : Nat) : F_n__law_alike (k + 1) [.non, .non] = .ok (.bl true) := by
  simp [F_n__law_alike, g_n__law_alike, start0]
theorem alike_loop (k : Nat) (x : D) (ds es : List D) (hx : ∀ i (hi : i < ds.length), x.ix (.int (i : Int)) = .ok ds[i]) (hl : es.length = ds.length) (h : ∀ i (h1 : i < ds.length) (h2 : i < es.length), F_n__law_alike k [ds[i], es[i]] = .ok (.bl true)) :
    lcL (.nm 2) (ct_n__law_alike_1 (F_n__law_alike k)) ce_n__law_alike_1 [some x, some (.tup es), none] (rangeD 0 es.length) = .ok [] := by
  rw [lcL_eq (fun _ => false) (fun d => d) _ (fun d hd => ?_) (fun _ _ h => by cases h)]
  · rw [List.filter_eq_nil_iff.mpr (fun _ _ h => by cases h)]
    rfl
  · obtain ⟨i, hi, rfl⟩ := rangeD_mem hd
    have e : (0 : Int) + (i : Int) = ((i : Nat) : Int) := by omega
    rw [e]
    have h1 := hx i (by omega)
    have h2 : (D.tup es).ix (.int (i : Int)) = .ok es[i] := by
      rw [ix_tup]
      exact ixG_nat (List.getElem?_eq_getElem hi)
    have := h i (by omega) hi
    simp [-ix_tup, ct_n__law_alike_1, h1, h2, this]
theorem alike_seq (k : Nat) (ds es : List D) (x : D) (hx : x = .tup ds ∨ x = .ftp ds) (hl : es.length = ds.length) (hm : es.length ≤ 10000) (h : ∀ i (h1 : i < ds.length) (h2 : i < es.length), F_n__law_alike k [ds[i], es[i]] = .ok (.bl true)) : F_n__law_alike (k + 1) [x, .tup es] = .ok (.bl true) := by
  have hr := rng1_nat (m := es.length) (by omega)
  have l0 : (0 : Nat) ≤ lim := Nat.zero_le _
  have hl2 : (rangeD 0 es.length).length ≤ lim := by rw [rangeD_len]; exact lim_big hm
  have e := alike_loop k x ds es (fun i hi => by
    rcases hx with rfl | rfl
    · rw [ix_tup]
      exact ixG_nat (List.getElem?_eq_getElem hi)
    · show ixG ds _ = _
      exact ixG_nat (List.getElem?_eq_getElem hi)) hl h
  have hl' : (ds.length : Int) = (es.length : Int) := by omega
  rcases hx with rfl | rfl
  · simp [F_n__law_alike, g_n__law_alike, start0, hr, hl2, e, l0, hl']
  · simp [F_n__law_alike, g_n__law_alike, start0, hr, hl2, e, l0, hl']
theorem alike_iL (k : Nat) (A : List Int) (x : D) (hx : x = .tup (iL A) ∨ x = .ftp (iL A)) (hm : A.length ≤ 10000) : F_n__law_alike (k + 2) [x, .tup (iL A)] = .ok (.bl true) := by
  refine alike_seq (k + 1) (iL A) (iL A) x hx rfl (by rw [iL_len]; exact hm) fun i h1 h2 => ?_
  have : (iL A)[i] = .int (A[i]'(by rw [iL_len] at h1; exact h1)) := by simp [iL]
  rw [this]
  exact alike_int k _
theorem alike_vote (k : Nat) (m : Option Int) : F_n__law_alike (k + 1) [voteD m, voteD m] = .ok (.bl true) := by
  cases m with
  | none => exact alike_non k
  | some v => exact alike_int k v
theorem ne_vote (m : Option Int) (v : Int) : D.ne (voteD m) (.int v) = .ok (.bl (decide (m ≠ some v))) := by
  cases m with
  | none =>
    show (D.eqB .non (.int v)).bind _ = _
    rfl
  | some x =>
    unfold D.ne voteD
    rw [eqB_int]
    by_cases h : x = v <;> simp [h]
@[simp] theorem isi_bl_str (b : Bool) : (D.bl b).isi .str = .ok (.bl false) := rfl
@[simp] theorem isi_bl_bl (b : Bool) : (D.bl b).isi .bl = .ok (.bl true) := rfl
@[simp] theorem isi_bl_int (b : Bool) : (D.bl b).isi .int = .ok (.bl true) := rfl
@[simp] theorem isi_bl_lst (b : Bool) : (D.bl b).isi .lst = .ok (.bl false) := rfl
@[simp] theorem isiAny_bl (b : Bool) : (D.bl b).isiAny [.tup, .lst] = .ok (.bl false) := rfl
@[simp] theorem isNon_bl (b : Bool) : (D.bl b).isNon = false := rfl
theorem alike_bl (k : Nat) (a b : Bool) : F_n__law_alike (k + 1) [.bl a, .bl b] = .ok (.bl (a == b)) := by
  simp [F_n__law_alike, g_n__law_alike, start0]
theorem alike_opt (k : Nat) (o : Option Nat) : F_n__law_alike (k + 1) [optD o, optD o] = .ok (.bl true) := by
  cases o with
  | none => exact alike_non k
  | some v => exact alike_int k _
end Lw
end
set_option Elab.async false
set_option linter.all false
set_option autoImplicit false
set_option maxRecDepth 100000
set_option maxHeartbeats 1000000
/-! plain: led *-/
noncomputable section
namespace Lw
open PySem PySem.Spec PyProof.Rows L2 Fw
variable {st an : List (List Int)} {l : Nat}
theorem runN_snoc (st : List (List Int)) (a : Nat) : ∀ (w : List Nat) (s : Nat), runN st s (w ++ [a]) = stepN st (runN st s w) a
  | [], _ => rfl
  | b :: w, s => runN_snoc st a w (stepN st s b)
theorem run_take (st : List (List Int)) (s : Nat) {w : List Nat} {j : Nat} (h : j < w.length) : runN st s (w.take (j + 1)) = stepN st (runN st s (w.take j)) (w.getD j 0) := by
  rw [List.take_succ, List.getElem?_eq_getElem h]
  show runN st s (w.take j ++ [w[j]]) = _
  rw [runN_snoc]
  simp [List.getD, h]
def ledInv (st an : List (List Int)) (s : Nat) (w : List Nat) (W : D) (j : Nat) (ρ : SEnv) : Prop := ∃ x : Sl, ρ = [.val (machT st an), .val (.int (runN st s (w.take j) : Nat)), .val W, x] ∧ isRow [x] 0 = false
theorem law_led_loop (G : Good st an l) {s : Nat} (hs : s < st.length) {w : List Nat} (hw : ∀ a ∈ w, a < l) (W : D) : ∃ ρ', loopO (.nm 3) lb_n__law_led_1 (wN w) [.val (machT st an), .val (.int (s : Nat)), .val W, .dead] = .nx ρ' ∧ ledInv st an s w W (wN w).length ρ' := by
  refine loop_det (Inv := ledInv st an s w W) (fun j d ρ hj ⟨x, e, hx⟩ => ?_) ⟨.dead, rfl, rfl⟩
  obtain ⟨h1, rfl⟩ := wN_at hj
  subst e
  have ha : w.getD j 0 < l := by simp only [List.getD, List.getElem?_eq_getElem h1]; exact hw _ (List.getElem_mem h1)
  have hr := G.run (w.take j) s hs fun a m => hw a (List.mem_of_mem_take m)
  have e1 := mach0 st an
  have e2 := rows_at (rs := st) hr
  have e3 := G.at0 hr ha
  have e4 := run_take st s h1
  unfold ledInv
  generalize runN st s (w.take j) = r at *
  generalize w.getD j 0 = a at *
  generalize machT st an = M at *
  generalize rowsT st = R at *
  generalize D.tup (iL (st.getD r [])) = O at *
  simp at hx
  simp [bindT, Tg.unp, Tg.names, lb_n__law_led_1, e1, e2, e3, e4, hx]
theorem F_law_led (G : Good st an l) {s : Nat} (hs : s < st.length) {w : List Nat} (hw : ∀ a ∈ w, a < l) : F_n__law_led [machT st an, .int (s : Nat), .tup (wN w)] = .ok (.int (runN st s w : Nat)) := by
  obtain ⟨ρ', e, x, rfl, hx⟩ := law_led_loop G hs hw (.tup (wN w))
  rw [wN_len, List.take_length] at e
  simp at hx
  simp [F_n__law_led, g_n__law_led, start0, e, hx]
end Lw
end
set_option Elab.async false
set_option linter.all false
set_option autoImplicit false
set_option maxRecDepth 100000
set_option maxHeartbeats 1000000
/-! plain: told -/
noncomputable section
namespace Lw
open PySem PySem.Spec PyProof.Rows L2 Fw
variable {st an : List (List Int)} {l : Nat}
theorem saidN_snoc (st an : List (List Int)) (a : Nat) : ∀ (w : List Nat) (s : Nat), saidN st an s (w ++ [a]) = saidN st an s w ++ [ansI an (runN st s w) a]
  | [], _ => rfl
  | b :: w, s => by
    show ansI an s b :: saidN st an (stepN st s b) (w ++ [a]) = _
    rw [saidN_snoc st an a w]
    rfl
theorem said_take (st an : List (List Int)) (s : Nat) {w : List Nat} {j : Nat} (h : j < w.length) : saidN st an s (w.take (j + 1)) = saidN st an s (w.take j) ++ [ansI an (runN st s (w.take j)) (w.getD j 0)] := by
  rw [List.take_succ, List.getElem?_eq_getElem h]
  show saidN st an s (w.take j ++ [w[j]]) = _
  rw [saidN_snoc]
  simp [List.getD, h]
def toldInv (st an : List (List Int)) (s : Nat) (w : List Nat) (W : D) (j : Nat) (ρ : SEnv) : Prop := ∃ x : Sl, ρ = [.val (machT st an), .val (.int (runN st s (w.take j) : Nat)), .val W, .own (.lst (iL (saidN st an s (w.take j)))), x] ∧ isRow [x] 0 = false
theorem told_loop (G : Good st an l) {s : Nat} (hs : s < st.length) {w : List Nat} (hw : ∀ a ∈ w, a < l) (hl : w.length ≤ 4000) (W : D) : ∃ ρ', loopO (.nm 4) lb_n_told_1 (wN w) [.val (machT st an), .val (.int (s : Nat)), .val W, .own (.lst []), .dead] = .nx ρ' ∧ toldInv st an s w W (wN w).length ρ' := by
  refine loop_det (Inv := toldInv st an s w W) (fun j d ρ hj ⟨x, e, hx⟩ => ?_) ⟨.dead, rfl, rfl⟩
  obtain ⟨h1, rfl⟩ := wN_at hj
  subst e
  have ha : w.getD j 0 < l := by simp only [List.getD, List.getElem?_eq_getElem h1]; exact hw _ (List.getElem_mem h1)
  have hr := G.run (w.take j) s hs fun a m => hw a (List.mem_of_mem_take m)
  have e1 := mach0 st an
  have f1 := mach1 st an
  have e2 := rows_at (rs := st) hr
  have e3 := G.at0 hr ha
  obtain ⟨f2, f3⟩ := G.at1 hr ha
  have e4 := run_take st s h1
  have f4 := said_take st an s h1
  have ln : (saidN st an s (w.take j)).length = j := by rw [saidN_len, List.length_take]; omega
  have big : (4000 : Nat) < lim := by decide +kernel
  have fit : (saidN st an s (w.take j)).length < lim := by omega
  unfold toldInv
  generalize saidN st an s (w.take j) = S at *
  generalize runN st s (w.take j) = r at *
  generalize w.getD j 0 = a at *
  generalize machT st an = M at *
  generalize rowsT st = R at *
  generalize rowsT an = R1 at *
  generalize D.tup (iL (st.getD r [])) = O at *
  generalize D.tup (iL (an.getD r [])) = O1 at *
  generalize ansI an r a = b at *
  simp at hx
  simp [bindT, Tg.unp, Tg.names, lb_n_told_1, appVO, e1, e2, e3, e4, f1, f2, f3, f4, hx, iL, fit]
theorem F_told (G : Good st an l) {s : Nat} (hs : s < st.length) {w : List Nat} (hw : ∀ a ∈ w, a < l) (hl : w.length ≤ 4000) : F_n_told [machT st an, .int (s : Nat), .tup (wN w)] = .ok (.lst (iL (saidN st an s w))) := by
  obtain ⟨ρ', e, x, rfl, hx⟩ := told_loop G hs hw hl (.tup (wN w))
  rw [wN_len, List.take_length] at e
  simp at hx
  simp [F_n_told, g_n_told, start0, e, hx]
end Lw
end
set_option Elab.async false
set_option linter.all false
set_option autoImplicit false
set_option maxRecDepth 100000
set_option maxHeartbeats 1000000
/-! plain: the law's told -/
noncomputable section
namespace Lw
open PySem PySem.Spec PyProof.Rows L2 Fw
variable {st an : List (List Int)} {l : Nat}
theorem said_get (st an : List (List Int)) (s : Nat) : ∀ (w : List Nat), saidN st an s w = (List.range w.length).map fun j => ansI an (runN st s (w.take j)) (w.getD j 0) := by
  intro w
  induction w generalizing s with
  | nil => rfl
  | cons a w ih =>
    rw [List.length_cons, List.range_succ_eq_map, List.map_cons, List.map_map]
    show ansI an s a :: saidN st an (stepN st s a) w = _
    rw [ih]
    rfl
theorem wN_take (w : List Nat) (j : Nat) : (wN w).take j = wN (w.take j) := by unfold wN; rw [List.map_take]
theorem law_told_at (G : Good st an l) {s : Nat} (hs : s < st.length) {w : List Nat} (hw : ∀ a ∈ w, a < l) {j : Nat} (hj : j < w.length) :
    ce_n__law_told_1 [some (machT st an), some (.int (s : Nat)), some (.tup (wN w)), some (.int (j : Nat))] = .ok (.int (ansI an (runN st s (w.take j)) (w.getD j 0))) := by
  have ha : w.getD j 0 < l := by simp only [List.getD, List.getElem?_eq_getElem hj]; exact hw _ (List.getElem_mem hj)
  have hw2 : ∀ a ∈ w.take j, a < l := fun a m => hw a (List.mem_of_mem_take m)
  have hr := G.run (w.take j) s hs hw2
  have e0 := F_law_led G hs hw2
  have f1 := mach1 st an
  obtain ⟨f2, f3⟩ := G.at1 hr ha
  have g : (wN w)[j]? = some (.int (w.getD j 0 : Nat)) := by unfold wN; rw [List.getElem?_map, List.getElem?_eq_getElem hj]; simp [List.getD, hj]
  have g2 : (D.tup (wN w)).ix (.int (j : Nat)) = .ok (.int (w.getD j 0 : Nat)) := by rw [Fw.ix_tup, ixG_nat g]
  have sl : D.slice (.tup (wN w)) none (some (j : Int)) = .ok (.tup (wN (w.take j))) := by
    have c : cutG (wN w) none (some (j : Int)) = wN (w.take j) := by
      unfold cutG
      rw [HT.sIx_none, HT.sIx_nat, List.drop_zero, Nat.sub_zero, wN_len, Nat.min_eq_left (Nat.le_of_lt hj), wN_take]
    show Res.ok (D.tup (cutG (wN w) none (some (j : Int)))) = _
    rw [c]
  simp [ce_n__law_told_1, e0, f1, f2, f3, g2, sl, -Fw.ix_tup, -List.getD_eq_getElem?_getD]
theorem F_law_told (G : Good st an l) {s : Nat} (hs : s < st.length) {w : List Nat} (hw : ∀ a ∈ w, a < l) (hl : w.length ≤ 4000) : F_n__law_told [machT st an, .int (s : Nat), .tup (wN w)] = .ok (.tup (iL (saidN st an s w))) := by
  have big : (4000 : Nat) < lim := by decide +kernel
  have e1 : lcL (.nm 3) yesB ce_n__law_told_1 [some (machT st an), some (.int (s : Nat)), some (.tup (wN w)), none] (rangeD 0 w.length) = .ok (iL (saidN st an s w)) := by
    have e : iL (saidN st an s w) = (rangeD 0 w.length).map fun d => match d with | .int i => .int (ansI an (runN st s (w.take i.toNat)) (w.getD i.toNat 0)) | _ => .non := by
      rw [said_get]
      unfold iL rangeD
      rw [List.map_map, List.map_map]
      exact List.map_congr_left fun j _ => by simp
    rw [e, lcL_map]
    intro d hd
    unfold rangeD at hd
    obtain ⟨j, hj, rfl⟩ := List.mem_map.mp hd
    have := law_told_at G hs hw (List.mem_range.mp hj)
    simpa using this
  have len : (rangeD 0 w.length).length ≤ lim := by unfold rangeD; rw [List.length_map, List.length_range]; omega
  have r1 := rng1_nat (m := w.length) (by omega)
  simp [F_n__law_told, g_n__law_told, start0, wN_len, r1, len, e1]
end Lw
end
set_option Elab.async false
set_option linter.all false
set_option autoImplicit false
set_option maxRecDepth 100000
set_option maxHeartbeats 4000000
noncomputable section
namespace Lw
open PySem Fw
/-! ### marks: states that answer all words alike -/
section
variable {st an : List (List Int)} {l : Nat}
def rowM (st : List (List Int)) (l : Nat) (m : Nat → Nat) (s : Nat) : List Int := (m s : Int) :: (List.range l).map fun a => (m (stepN st s a) : Int)
def rowsM (st : List (List Int)) (l : Nat) (m : Nat → Nat) : List (List Int) := (List.range st.length).map (rowM st l m)
def nextM (st : List (List Int)) (l : Nat) (m : Nat → Nat) (s : Nat) : Nat := placeIn (rowM st l m s) (setX (rowsM st l m))
def firstM (an : List (List Int)) (s : Nat) : Nat := placeIn (an.getD s []) (setX an)
theorem rowM_in {m : Nat → Nat} {s : Nat} (h : s < st.length) : rowM st l m s ∈ setX (rowsM st l m) := (mem_setX _ _).mpr (List.mem_map.mpr ⟨s, List.mem_range.mpr h, rfl⟩)
theorem rowM_iff {m : Nat → Nat} {s t : Nat} : rowM st l m s = rowM st l m t ↔ m s = m t ∧ ∀ a, a < l → m (stepN st s a) = m (stepN st t a) := by
  unfold rowM
  rw [List.cons.injEq]
  constructor
  · rintro ⟨h1, h2⟩
    refine ⟨by omega, fun a ha => ?_⟩
    have := List.map_inj_left.mp h2 a (List.mem_range.mpr ha)
    omega
  · rintro ⟨h1, h2⟩
    exact ⟨by rw [h1], List.map_congr_left fun a ha => by rw [h2 a (List.mem_range.mp ha)]⟩
theorem nextM_iff {m : Nat → Nat} {s t : Nat} (hs : s < st.length) (ht : t < st.length) : nextM st l m s = nextM st l m t ↔ m s = m t ∧ ∀ a, a < l → m (stepN st s a) = m (stepN st t a) := by
  rw [← rowM_iff]
  exact ⟨fun h => placeIn_inj (rowM_in hs) (rowM_in ht) h, fun h => by unfold nextM; rw [h]⟩
theorem firstM_iff (G : Good st an l) {s t : Nat} (hs : s < st.length) (ht : t < st.length) : firstM an s = firstM an t ↔ an.getD s [] = an.getD t [] := by
  have hin : ∀ {s : Nat}, s < st.length → an.getD s [] ∈ setX an := fun {s} h => (mem_setX _ _).mpr (getD_mem (by rw [G.same]; exact h))
  exact ⟨fun h => placeIn_inj (hin hs) (hin ht) h, fun h => by unfold firstM; rw [h]⟩
def mkEnv (M S T R : D) (ms : List Int) (many : Int) (x6 x7 x8 x9 : Sl) : SEnv := [.val M, .val S, .val T, .val R, .val (.lst (iL ms)), .val (.int many), x6, x7, x8, x9]
theorem mk_count (M S T R : D) (ms : List Int) (many : Int) (x6 x7 x8 x9 : Sl) (h : ms.length < 64) :
    (fun ρ : SEnv => bindO ((app (on1 D.lenSet) (consA (fun ρ => vr ρ 4) nilA)) ρ.vis) fun d => setO ρ 5 (.val d)) (mkEnv M S T R ms many x6 x7 x8 x9) = .nx (mkEnv M S T R ms ((setI ms).length : Nat) x6 x7 x8 x9) := by
  have e := lenSet_ints ms h
  unfold mkEnv
  generalize iL ms = L at *
  simp [mkEnv, e]
theorem mk_test (M S T R : D) (ms : List Int) (many : Int) (x6 x7 x8 x9 : Sl) (h : ms.length < 64) : wt_n_marks_of_1 (SEnv.all (mkEnv M S T R ms many x6 x7 x8 x9)) = .ok (decide (many < ((setI ms).length : Nat))) := by
  have e := lenSet_ints ms h
  unfold mkEnv
  generalize iL ms = L at *
  simp [wt_n_marks_of_1, mkEnv, e]
theorem mark_at {n : Nat} {m : Nat → Nat} {s : Nat} (h : s < n) : (D.lst (iL (mks n m))).ix (.int (s : Int)) = .ok (.int (m s : Int)) := by
  rw [lst_at (by rw [mks_len]; exact h), mks_get h]
theorem row_vals2 (G : Good st an l) {s : Nat} (hs : s < st.length) : st.getD s [] = (List.range l).map fun a => (stepN st s a : Int) := by
  refine List.ext_getElem (by rw [G.row hs, List.length_map, List.length_range]) fun i h1 h2 => ?_
  have hi : i < l := by rw [List.length_map, List.length_range] at h2; exact h2
  have := (G.step hs hi).2
  rw [getD_at h1] at this
  rw [this, List.getElem_map, List.getElem_range]
theorem mk_row (G : Good st an l) (m : Nat → Nat) {s : Nat} (hs : s < st.length) (x0 x2 x3 x5 x6 x7 x9 : Option D) :
    ce_n_marks_of_3 [x0, some (rowsT st), x2, x3, some (.lst (iL (mks st.length m))), x5, x6, x7, some (.int (s : Int)), x9] = .ok (unrow true (rowM st l m s)) := by
  have e1 := mark_at (m := m) hs
  have e2 := rows_at hs
  have e3 : ∀ x0 x2 x3 x5 x6 x7 x8 : Option D, lcL (.nm 9) yesB ce_n_marks_of_2 [x0, some (rowsT st), x2, x3, some (.lst (iL (mks st.length m))), x5, x6, x7, x8, none] (iL (st.getD s [])) = .ok (((List.range l).map fun a => (m (stepN st s a) : Int)).map D.int) := by
    intro x0 x2 x3 x5 x6 x7 x8
    have h := lcLs (fun (a : Nat) => D.int (stepN st s a : Int)) (fun a => D.int (m (stepN st s a) : Int)) (fe := ce_n_marks_of_2) (r := [x0, some (rowsT st), x2, x3, some (.lst (iL (mks st.length m))), x5, x6, x7, x8, none]) (i := 9) (List.range l) fun a ha => by
      have e := mark_at (m := m) (G.step hs (List.mem_range.mp ha)).1
      generalize iL (mks st.length m) = L at *
      generalize rowsT st = S at *
      simp [-ix_lst, ce_n_marks_of_2, e]
    rw [row_vals2 G hs]
    unfold iL
    unfold iL at h
    rw [List.map_map]
    rw [List.map_map]
    exact h
  have hl : (iL (st.getD s [])).length ≤ lim := by
    rw [iL_len, G.row hs]
    have := G.l3
    exact lim_big (by omega)
  have e4 : unrow true (rowM st l m s) = .tup [.int (m s : Int), .tup (((List.range l).map fun a => (m (stepN st s a) : Int)).map D.int)] := rfl
  rw [e4]
  have l2 : (2 : Nat) ≤ lim := lim_big (by decide)
  generalize ((List.range l).map fun a => (m (stepN st s a) : Int)).map D.int = V at *
  generalize iL (mks st.length m) = L at *
  generalize iL (st.getD s []) = W at *
  generalize rowsT st = S at *
  simp [-ix_lst, -ix_tup, ce_n_marks_of_3, e1, e2, e3, hl, l2]
theorem mk_rows (G : Good st an l) (M T R : D) (m : Nat → Nat) (many : Int) (x6 x7 x8 x9 : Sl) :
    (fun ρ : SEnv => bindO ((lcD (itL rng1L (consA (app (on1 lenN) (consA (fun ρ => vr ρ 1) nilA)) nilA)) (.nm 8) yesB ce_n_marks_of_3 [8]) ρ.vis) fun d => setO ρ 3 (.val d)) (mkEnv M (rowsT st) T R (mks st.length m) many x6 x7 x8 x9) = .nx (mkEnv M (rowsT st) T (.lst ((rowsM st l m).map (unrow true))) (mks st.length m) many x6 x7 x8 x9) := by
  have hn := G.n6
  have hr := rng1_nat (m := st.length) (by omega)
  have hlen : lenN (rowsT st) = .ok (.int (st.length : Int)) := by
    unfold rowsT
    simp
  have hl : (rangeD 0 st.length).length ≤ lim := by
    rw [rangeD_nat, List.length_map, List.length_range]
    exact lim_big (by omega)
  have e : ∀ x0 x2 x3 x5 x6 x7 x9 : Option D, lcL (.nm 8) yesB ce_n_marks_of_3 [x0, some (rowsT st), x2, x3, some (.lst (iL (mks st.length m))), x5, x6, x7, none, x9] (rangeD 0 st.length) = .ok ((rowsM st l m).map (unrow true)) := by
    intro x0 x2 x3 x5 x6 x7 x9
    rw [rangeD_nat]
    unfold rowsM
    rw [List.map_map]
    exact lcLs (fun (s : Nat) => D.int (s : Int)) (fun s => unrow true (rowM st l m s)) (List.range st.length) fun s hs => mk_row G m (List.mem_range.mp hs) x0 x2 x3 x5 x6 x7 x9
  unfold mkEnv
  generalize (rowsM st l m).map (unrow true) = V at *
  generalize iL (mks st.length m) = L at *
  generalize rowsT st = S at *
  generalize rangeD 0 st.length = RR at *
  simp [mkEnv, hlen, hr, hl, e]
theorem mk_known (G : Good st an l) (M S T : D) (ms : List Int) (m : Nat → Nat) (many : Int) (x6 x7 x8 x9 : Sl) (h6 : isRow [x6] 0 = false) :
    (fun ρ : SEnv => bindO ((app (on1 D.sortSetR) (consA (fun ρ => vr ρ 3) nilA)) ρ.vis) fun d => setO ρ 6 (.val d)) (mkEnv M S T (.lst ((rowsM st l m).map (unrow true))) ms many x6 x7 x8 x9) = .nx (mkEnv M S T (.lst ((rowsM st l m).map (unrow true))) ms many (.val (.lst ((setX (rowsM st l m)).map (unrow true)))) x7 x8 x9) := by
  have n1 := G.n1
  have n6 := G.n6
  have e := sortSetR_map (b := true) (n := l + 1) (by omega) (ks := rowsM st l m) (fun z => by
    have h0 : rowM st l m 0 ∈ rowsM st l m := List.mem_map.mpr ⟨0, List.mem_range.mpr n1, rfl⟩
    rw [z] at h0
    cases h0) (fun k hk => by
    obtain ⟨s, _, rfl⟩ := List.mem_map.mp hk
    simp [rowM]) (by unfold rowsM; rw [List.length_map, List.length_range]; omega) (d := .lst ((rowsM st l m).map (unrow true))) rfl
  unfold mkEnv
  generalize (rowsM st l m).map (unrow true) = V at *
  generalize (setX (rowsM st l m)).map (unrow true) = W at *
  generalize iL ms = L at *
  simp at h6
  simp [mkEnv, e, h6]
theorem mk_index (G : Good st an l) (M S T : D) (ms : List Int) (m : Nat → Nat) (many : Int) (x7 x8 x9 : Sl) :
    (fun ρ : SEnv => bindO ((lcD (itemsF (fun ρ => vr ρ 3)) (.nm 7) yesB ce_n_marks_of_4 [7]) ρ.vis) fun d => setO ρ 4 (.val d)) (mkEnv M S T (.lst ((rowsM st l m).map (unrow true))) ms many (.val (.lst ((setX (rowsM st l m)).map (unrow true)))) x7 x8 x9) = .nx (mkEnv M S T (.lst ((rowsM st l m).map (unrow true))) (mks st.length (nextM st l m)) many (.val (.lst ((setX (rowsM st l m)).map (unrow true)))) x7 x8 x9) := by
  have n6 := G.n6
  have hl : ((rowsM st l m).map (unrow true)).length ≤ lim := by
    unfold rowsM
    rw [List.length_map, List.length_map, List.length_range]
    exact lim_big (by omega)
  have e : ∀ x0 x1 x2 x3 x4 x5 x8 x9 : Option D, lcL (.nm 7) yesB ce_n_marks_of_4 [x0, x1, x2, x3, x4, x5, some (.lst ((setX (rowsM st l m)).map (unrow true))), none, x8, x9] ((rowsM st l m).map (unrow true)) = .ok (iL (mks st.length (nextM st l m))) := by
    intro x0 x1 x2 x3 x4 x5 x8 x9
    have h := lcLs (fun s => unrow true (rowM st l m s)) (fun s => D.int (nextM st l m s : Int)) (fe := ce_n_marks_of_4) (r := [x0, x1, x2, x3, x4, x5, some (.lst ((setX (rowsM st l m)).map (unrow true))), none, x8, x9]) (i := 7) (List.range st.length) fun s hs => by
      have e := index_row (b := true) (rowM_in (l := l) (m := m) (List.mem_range.mp hs)) (fun k hk => by
        obtain ⟨t, _, rfl⟩ := List.mem_map.mp ((mem_setX _ _).mp hk)
        simp [rowM])
      have e2 : placeIn (rowM st l m s) (setX (rowsM st l m)) = nextM st l m s := rfl
      rw [e2] at e
      generalize (setX (rowsM st l m)).map (unrow true) = W at *
      have ty : ∀ W : List D, (D.lst W).ty = some Ty.lst := fun _ => rfl
      generalize unrow true (rowM st l m s) = U at *
      simp [ce_n_marks_of_4, bmF, e, ty]
    unfold mks iL
    rw [List.map_map]
    have h2 : (rowsM st l m).map (unrow true) = (List.range st.length).map fun s => unrow true (rowM st l m s) := by unfold rowsM; rw [List.map_map]; rfl
    rw [h2]
    exact h
  unfold mkEnv
  generalize (rowsM st l m).map (unrow true) = V at *
  generalize (setX (rowsM st l m)).map (unrow true) = W at *
  generalize iL (mks st.length (nextM st l m)) = L2 at *
  generalize iL ms = L at *
  simp [mkEnv, e, hl]
theorem mk_body (G : Good st an l) (M T R : D) (m : Nat → Nat) (many : Int) (x6 x7 x8 x9 : Sl) (h6 : isRow [x6] 0 = false) : ∃ R' x6', isRow [x6'] 0 = false ∧
    wb_n_marks_of_1 (mkEnv M (rowsT st) T R (mks st.length m) many x6 x7 x8 x9) = .nx (mkEnv M (rowsT st) T R' (mks st.length (nextM st l m)) (cntM st.length m : Nat) x6' x7 x8 x9) := by
  have n6 := G.n6
  have h : wb_n_marks_of_1 (mkEnv M (rowsT st) T R (mks st.length m) many x6 x7 x8 x9) = .nx (mkEnv M (rowsT st) T (.lst ((rowsM st l m).map (unrow true))) (mks st.length (nextM st l m)) (cntM st.length m : Nat) (.val (.lst ((setX (rowsM st l m)).map (unrow true)))) x7 x8 x9) := by
    unfold wb_n_marks_of_1
    rw [seqO_eq]
    refine Eq.trans (congrArg (fun o => Out.then o _) (mk_count M (rowsT st) T R (mks st.length m) many x6 x7 x8 x9 (by rw [mks_len]; omega))) ?_
    rw [then_nx, seqO_eq]
    refine Eq.trans (congrArg (fun o => Out.then o _) (mk_rows G M T R m _ x6 x7 x8 x9)) ?_
    rw [then_nx, seqO_eq]
    refine Eq.trans (congrArg (fun o => Out.then o _) (mk_known G M (rowsT st) T _ m _ x6 x7 x8 x9 h6)) ?_
    rw [then_nx]
    exact mk_index G M (rowsT st) T _ m _ x7 x8 x9
  exact ⟨_, _, rfl, h⟩
/-- what holds of marks on the way -/
structure MI (st an : List (List Int)) (l : Nat) (m : Nat → Nat) (many : Nat) : Prop where
  ans : ∀ s t, s < st.length → t < st.length → m s = m t → an.getD s [] = an.getD t []
  far : ∀ s t, s < st.length → t < st.length → m s ≠ m t → ∃ k, lw st an l k (s, t)
  old : many = 0 ∨ ∃ m0, many = cntM st.length m0 ∧ m = nextM st l m0
theorem MI.next (G : Good st an l) {m : Nat → Nat} {many : Nat} (I : MI st an l m many) : MI st an l (nextM st l m) (cntM st.length m) where
  ans := fun s t hs ht h => I.ans s t hs ht ((nextM_iff hs ht).mp h).1
  far := fun s t hs ht h => by
    by_cases c : m s = m t
    · have : ∃ a, a < l ∧ m (stepN st s a) ≠ m (stepN st t a) := Classical.byContradiction fun z => h ((nextM_iff hs ht).mpr ⟨c, fun a ha => Classical.byContradiction fun y => z ⟨a, ha, y⟩⟩)
      obtain ⟨a, ha, hne⟩ := this
      obtain ⟨k, hk⟩ := I.far _ _ (G.step hs ha).1 (G.step ht ha).1 hne
      exact ⟨k + 1, a, ha, hk⟩
    · exact I.far s t hs ht c
  old := .inr ⟨m, rfl, rfl⟩
/-- like marks: all words answered alike -/
def Mk (st an : List (List Int)) (l : Nat) (m : Nat → Nat) : Prop := ∀ s t, s < st.length → t < st.length → (m s = m t ↔ ∀ k, ¬ lw st an l k (s, t))
theorem lw_alike (G : Good st an l) {E : Nat → Nat → Prop} (h1 : ∀ s t, s < st.length → t < st.length → E s t → an.getD s [] = an.getD t []) (h2 : ∀ s t a, s < st.length → t < st.length → a < l → E s t → E (stepN st s a) (stepN st t a)) : ∀ k s t, s < st.length → t < st.length → E s t → ¬ lw st an l k (s, t)
  | 0, s, t, hs, ht, e => fun z => z (h1 s t hs ht e)
  | k + 1, s, t, hs, ht, e => fun ⟨a, ha, z⟩ => lw_alike G h1 h2 k _ _ (G.step hs ha).1 (G.step ht ha).1 (h2 s t a hs ht ha e) z
theorem MI.done (G : Good st an l) {m : Nat → Nat} {many : Nat} (I : MI st an l m many) (h : cntM st.length m ≤ many) : Mk st an l m := by
  have hp := cntM_pos (m := m) G.n1
  rcases I.old with z | ⟨m0, rfl, e⟩
  · omega
  intro s t hs ht
  constructor
  · intro e0
    refine fun k => lw_alike G (E := fun s t => m s = m t) I.ans (fun s t a hs ht ha e1 => ?_) k s t hs ht e0
    have e2 : nextM st l m0 s = nextM st l m0 t := by rw [← e]; exact e1
    have e3 := ((nextM_iff hs ht).mp e2).2 a ha
    rw [e] at h ⊢
    exact cntM_merge (fun s t hs ht z => ((nextM_iff hs ht).mp z).1) h _ _ (G.step hs ha).1 (G.step ht ha).1 e3
  · intro hk
    refine Classical.byContradiction fun c => ?_
    obtain ⟨k, z⟩ := I.far s t hs ht c
    exact hk k z
theorem mk_while (G : Good st an l) (M T : D) (x7 x8 x9 : Sl) : ∀ (fuel : Nat) (m : Nat → Nat) (many : Nat) (R : D) (x6 : Sl), 8 < fuel + many → isRow [x6] 0 = false → MI st an l m many →
    ∃ m' many' R' x6', whileO wt_n_marks_of_1 wb_n_marks_of_1 fuel (mkEnv M (rowsT st) T R (mks st.length m) (many : Nat) x6 x7 x8 x9) = .nx (mkEnv M (rowsT st) T R' (mks st.length m') (many' : Int) x6' x7 x8 x9) ∧ Mk st an l m'
  | 0, m, many, R, x6, hf, h6, I => by
    have n6 := G.n6
    rcases I.old with z | ⟨m0, rfl, e⟩
    · omega
    · have := cntM_le st.length m0
      omega
  | fuel + 1, m, many, R, x6, hf, h6, I => by
    have n6 := G.n6
    have ht := mk_test M (rowsT st) T R (mks st.length m) (many : Nat) x6 x7 x8 x9 (by rw [mks_len]; omega)
    have ec : (setI (mks st.length m)).length = cntM st.length m := rfl
    rw [ec] at ht
    rw [whileO_succ, ht, bindO_ok]
    by_cases c : cntM st.length m ≤ many
    · have e : decide ((many : Int) < (cntM st.length m : Nat)) = false := decide_eq_false (by omega)
      rw [e]
      exact ⟨m, many, R, x6, rfl, I.done G c⟩
    · have e : decide ((many : Int) < (cntM st.length m : Nat)) = true := decide_eq_true (by omega)
      obtain ⟨R', x6', h6', eb⟩ := mk_body G M T R m (many : Nat) x6 x7 x8 x9 h6
      rw [e]
      simp only [if_true, eb]
      exact mk_while G M T x7 x8 x9 fuel _ _ R' x6' (by omega) h6' (I.next G)
theorem F_marks_of (G : Good st an l) : ∃ m, F_n_marks_of [machT st an] = .ok (.lst (iL (mks st.length m))) ∧ Mk st an l m := by
  have n1 := G.n1
  have n6 := G.n6
  have l1 := G.l1
  have sm := G.same
  have hin : ∀ r ∈ an, r ∈ setX an := fun r hr => (mem_setX _ _).mpr hr
  have e1 := sortSetR_map (b := false) (n := l) l1 (ks := an) (fun z => by rw [z] at sm; simp at sm; omega) G.al (by omega) (d := rowsT an) rfl
  have e2 : ∀ x0 x1 x2 x4 x5 x6 x8 x9 : Option D, lcL (.nm 7) yesB ce_n_marks_of_1 [x0, x1, x2, some (.lst ((setX an).map (unrow false))), x4, x5, x6, none, x8, x9] (an.map fun r => .tup (iL r)) = .ok (iL (mks st.length (firstM an))) := by
    intro x0 x1 x2 x4 x5 x6 x8 x9
    have h := lcLs (fun r => D.tup (iL r)) (fun r => D.int (placeIn r (setX an) : Int)) (fe := ce_n_marks_of_1) (r := [x0, x1, x2, some (.lst ((setX an).map (unrow false))), x4, x5, x6, none, x8, x9]) (i := 7) an fun r hr => by
      have e := index_row (b := false) (hin r hr) (fun k hk => by rw [G.al k ((mem_setX _ _).mp hk)]; exact l1)
      have e3 : unrow false r = .tup (iL r) := rfl
      rw [e3] at e
      generalize (setX an).map (unrow false) = W at *
      have ty : ∀ W : List D, (D.lst W).ty = some Ty.lst := fun _ => rfl
      generalize D.tup (iL r) = U at *
      simp [ce_n_marks_of_1, bmF, e, ty]
    rw [h]
    congr 1
    unfold mks iL
    rw [List.map_map]
    refine List.ext_getElem (by simp [sm]) fun i h1 h2 => ?_
    have hi : i < an.length := by simpa using h1
    simp only [List.getElem_map, List.getElem_range, Function.comp]
    unfold firstM
    rw [show an.getD i [] = an[i] from by simp [List.getD_eq_getElem?_getD, List.getElem?_eq_getElem hi]]
  have hl : (an.map fun r => D.tup (iL r)).length ≤ lim := by
    rw [List.length_map, sm]
    exact lim_big (by omega)
  have I0 : MI st an l (firstM an) 0 := ⟨fun s t hs ht h => (firstM_iff G hs ht).mp h, fun s t hs ht h => ⟨0, fun z => h ((firstM_iff G hs ht).mpr z)⟩, .inl rfl⟩
  obtain ⟨m', many', R', x6', ew, hk⟩ := mk_while G (machT st an) (rowsT an) .dead .dead .dead lim (firstM an) 0 (.lst ((setX an).map (unrow false))) .dead (by
    have : (1000 : Nat) ≤ lim := lim_big (by decide)
    omega) rfl I0
  refine ⟨m', ?_, hk⟩
  have ef : F_n_marks_of [machT st an] = (g_n_marks_of [.val (machT st an), .dead, .dead, .dead, .dead, .dead, .dead, .dead, .dead, .dead]).fin := rfl
  rw [ef]
  unfold g_n_marks_of
  have t1 : (unpO (fun ρ => vr ρ 0) (.tp [(.nm 1), (.nm 2)])) ([.val (machT st an), .dead, .dead, .dead, .dead, .dead, .dead, .dead, .dead, .dead] : SEnv) = .nx [.val (machT st an), .val (rowsT st), .val (rowsT an), .dead, .dead, .dead, .dead, .dead, .dead, .dead] := by
    unfold machT
    generalize rowsT st = S at *
    generalize rowsT an = T at *
    simp
  have t2 : (fun ρ : SEnv => bindO ((app (on1 D.sortSetR) (consA (fun ρ => vr ρ 2) nilA)) ρ.vis) fun d => setO ρ 3 (.val d)) ([.val (machT st an), .val (rowsT st), .val (rowsT an), .dead, .dead, .dead, .dead, .dead, .dead, .dead] : SEnv) = .nx [.val (machT st an), .val (rowsT st), .val (rowsT an), .val (.lst ((setX an).map (unrow false))), .dead, .dead, .dead, .dead, .dead, .dead] := by
    generalize machT st an = M at *
    generalize rowsT st = S at *
    generalize rowsT an = T at *
    generalize (setX an).map (unrow false) = W at *
    simp [e1]
  have t3 : (parO [4, 5] (kCons (hV (lcD (itemsF (fun ρ => vr ρ 2)) (.nm 7) yesB ce_n_marks_of_1 [7])) (kCons (hV (fun _ => .ok (.int 0))) kNil))) ([.val (machT st an), .val (rowsT st), .val (rowsT an), .val (.lst ((setX an).map (unrow false))), .dead, .dead, .dead, .dead, .dead, .dead] : SEnv) = .nx (mkEnv (machT st an) (rowsT st) (rowsT an) (.lst ((setX an).map (unrow false))) (mks st.length (firstM an)) ((0 : Nat) : Int) .dead .dead .dead .dead) := by
    have er : rowsT an = .tup (an.map fun r => .tup (iL r)) := rfl
    rw [er]
    unfold mkEnv
    clear er t1 t2 e1 ew
    generalize machT st an = M at *
    generalize rowsT st = S at *
    generalize (an.map fun r => D.tup (iL r)) = T at *
    generalize (setX an).map (unrow false) = W at *
    generalize iL (mks st.length (firstM an)) = L at *
    simp [e2, hl, mkEnv]
  rw [fin_step t1, fin_step t2, fin_step t3, fin_step ew]
  unfold mkEnv
  generalize iL (mks st.length m') = L at *
  simp
end
end Lw
end
set_option Elab.async false
set_option linter.all false
set_option autoImplicit false
set_option maxRecDepth 100000
set_option maxHeartbeats 4000000
noncomputable section
namespace Lw
open PySem Fw
/-! ### the least machine -/
section
variable {A : Nat → Nat → Prop}
open Classical in
/-- the first one that is alike -/
def idA (A : Nat → Nat → Prop) : List Nat → Nat → Nat
  | [], _ => 0
  | s :: F, t => if A s t then 0 else idA A F t + 1
def hasA (A : Nat → Nat → Prop) (F : List Nat) (t : Nat) : Prop := ∃ s ∈ F, A s t
open Classical in
def addA (A : Nat → Nat → Prop) (F : List Nat) (t : Nat) : List Nat := if hasA A F t then F else F ++ [t]
theorem hasA_cons {s t : Nat} {F : List Nat} : hasA A (s :: F) t ↔ A s t ∨ hasA A F t := by
  constructor
  · rintro ⟨u, hu, h⟩
    rcases List.mem_cons.mp hu with rfl | hu
    · exact .inl h
    · exact .inr ⟨u, hu, h⟩
  · rintro (h | ⟨u, hu, h⟩)
    · exact ⟨s, List.mem_cons_self, h⟩
    · exact ⟨u, List.mem_cons_of_mem _ hu, h⟩
theorem hasA_app {t : Nat} {F G : List Nat} (h : hasA A F t) : hasA A (F ++ G) t := let ⟨s, hs, e⟩ := h; ⟨s, List.mem_append_left _ hs, e⟩
theorem idA_lt {t : Nat} : ∀ {F : List Nat}, hasA A F t → idA A F t < F.length
  | [], h => by obtain ⟨s, hs, _⟩ := h; cases hs
  | s :: F, h => by
    unfold idA
    by_cases c : A s t
    · rw [if_pos c]; simp
    · rw [if_neg c]
      have := idA_lt ((hasA_cons.mp h).resolve_left c)
      simp only [List.length_cons]
      omega
theorem idA_at {t : Nat} : ∀ {F : List Nat}, hasA A F t → A (F.getD (idA A F t) 0) t
  | [], h => by obtain ⟨s, hs, _⟩ := h; cases hs
  | s :: F, h => by
    unfold idA
    by_cases c : A s t
    · rw [if_pos c]; exact c
    · rw [if_neg c]
      exact idA_at (F := F) ((hasA_cons.mp h).resolve_left c)
theorem idA_app {t : Nat} {G : List Nat} : ∀ {F : List Nat}, hasA A F t → idA A (F ++ G) t = idA A F t
  | [], h => by obtain ⟨s, hs, _⟩ := h; cases hs
  | s :: F, h => by
    rw [List.cons_append]
    unfold idA
    by_cases c : A s t
    · rw [if_pos c, if_pos c]
    · rw [if_neg c, if_neg c, idA_app ((hasA_cons.mp h).resolve_left c)]
theorem addA_ext (F : List Nat) (t : Nat) : ∃ G, addA A F t = F ++ G := by
  unfold addA
  split
  · exact ⟨[], by simp⟩
  · exact ⟨[t], rfl⟩
theorem foldA_ext : ∀ (L F : List Nat), ∃ G, L.foldl (addA A) F = F ++ G
  | [], F => ⟨[], by simp⟩
  | t :: L, F => by
    obtain ⟨G, e⟩ := addA_ext (A := A) F t
    obtain ⟨G', e'⟩ := foldA_ext L (addA A F t)
    exact ⟨G ++ G', by rw [List.foldl_cons, e', e, List.append_assoc]⟩
theorem hasA_add {F : List Nat} {t : Nat} (h : A t t) : hasA A (addA A F t) t := by
  unfold addA
  split
  · assumption
  · exact ⟨t, List.mem_append_right _ List.mem_cons_self, h⟩
theorem hasA_fold {t : Nat} : ∀ (L F : List Nat), (∀ t ∈ L, A t t) → t ∈ L → hasA A (L.foldl (addA A) F) t
  | [], F, _, h => by cases h
  | u :: L, F, hA, h => by
    rw [List.foldl_cons]
    rcases List.mem_cons.mp h with rfl | h
    · obtain ⟨G, e⟩ := foldA_ext (A := A) L (addA A F t)
      rw [e]
      exact hasA_app (hasA_add (hA t List.mem_cons_self))
    · exact hasA_fold L _ (fun v hv => hA v (List.mem_cons_of_mem _ hv)) h
/-- the names that a row's states get on the way -/
def idsA (A : Nat → Nat → Prop) : List Nat → List Nat → List Nat
  | [], _ => []
  | t :: L, F => idA A (addA A F t) t :: idsA A L (addA A F t)
theorem idsA_eq : ∀ (L F : List Nat), (∀ t ∈ L, A t t) → idsA A L F = L.map (idA A (L.foldl (addA A) F))
  | [], F, _ => rfl
  | t :: L, F, h => by
    rw [idsA, idsA_eq L _ fun u hu => h u (List.mem_cons_of_mem _ hu), List.map_cons, List.foldl_cons]
    obtain ⟨G, e⟩ := foldA_ext (A := A) L (addA A F t)
    congr 1
    rw [e, idA_app (hasA_add (h t List.mem_cons_self))]
/-! names as a dict -/
def nmq (m : Nat → Nat) : Nat → List Nat → List (Nat × Nat)
  | _, [] => []
  | i, s :: F => (m s, i) :: nmq m (i + 1) F
theorem nmq_app (m : Nat → Nat) (t : Nat) : ∀ (F : List Nat) (i : Nat), nmq m i (F ++ [t]) = nmq m i F ++ [(m t, i + F.length)]
  | [], i => by simp [nmq]
  | s :: F, i => by
    rw [List.cons_append, nmq, nmq, nmq_app m t F (i + 1), List.cons_append, List.length_cons]
    congr 3
    simp only [Prod.mk.injEq, true_and]
    omega
theorem nmq_len (m : Nat → Nat) : ∀ (F : List Nat) (i : Nat), (nmq m i F).length = F.length
  | [], i => rfl
  | s :: F, i => by rw [nmq, List.length_cons, nmq_len m F, List.length_cons]
theorem look_nmq {m : Nat → Nat} {t : Nat} : ∀ (F : List Nat) (i : Nat), (∀ s ∈ F, m s = m t ↔ A s t) → (hasA A F t → lookN (nmq m i F) (m t) = some (i + idA A F t)) ∧ (¬ hasA A F t → lookN (nmq m i F) (m t) = none)
  | [], i, _ => ⟨(fun h => by obtain ⟨s, hs, _⟩ := h; cases hs), fun _ => rfl⟩
  | s :: F, i, hm => by
    have ih := look_nmq F (i + 1) fun u hu => hm u (List.mem_cons_of_mem _ hu)
    have hs := hm s List.mem_cons_self
    have e : lookN (nmq m i (s :: F)) (m t) = if m s = m t then some i else lookN (nmq m (i + 1) F) (m t) := by
      have en : nmq m i (s :: F) = (m s, i) :: nmq m (i + 1) F := rfl
      rw [en]
      unfold lookN
      rw [List.find?_cons]
      by_cases c : m s = m t
      · simp [c]
      · have : (m s == m t) = false := by simpa using c
        simp [this, c]
    rw [e]
    by_cases c : A s t
    · rw [if_pos (hs.mpr c)]
      refine ⟨fun _ => ?_, fun h => absurd (hasA_cons.mpr (.inl c)) h⟩
      unfold idA
      rw [if_pos c]
      rfl
    · rw [if_neg fun z => c (hs.mp z)]
      refine ⟨fun h => ?_, fun h => ih.2 fun z => h (hasA_cons.mpr (.inr z))⟩
      have ei : idA A (s :: F) t = idA A F t + 1 := by rw [idA, if_neg c]
      rw [ih.1 ((hasA_cons.mp h).resolve_left c), ei]
      congr 1
      omega
/-! the states that come, one of each kind -/
def succs (st : List (List Int)) (l s : Nat) : List Nat := (List.range l).map (stepN st s)
inductive Grow (A : Nat → Nat → Prop) (st : List (List Int)) (l : Nat) : List Nat → Nat → List Nat → Prop
  | stop {F : List Nat} {k : Nat} : F.length ≤ k → Grow A st l F k F
  | go {F F' : List Nat} {k : Nat} : k < F.length → Grow A st l ((succs st l (F.getD k 0)).foldl (addA A) F) (k + 1) F' → Grow A st l F k F'
theorem Grow.one {st : List (List Int)} {l : Nat} {F F1 F2 : List Nat} {k : Nat} (h1 : Grow A st l F k F1) (h2 : Grow A st l F k F2) : F1 = F2 := by
  induction h1 with
  | stop h =>
    cases h2 with
    | stop _ => rfl
    | go h' _ => omega
  | go h _ ih =>
    cases h2 with
    | stop h' => omega
    | go _ g => exact ih g
structure LI (A : Nat → Nat → Prop) (st : List (List Int)) (l : Nat) (F : List Nat) (k : Nat) : Prop where
  zero : F[0]? = some 0
  lt : ∀ s ∈ F, s < st.length
  apart : F.Pairwise fun s t => ¬ A s t
  cl : ∀ i, i < k → i < F.length → ∀ a, a < l → hasA A F (stepN st (F.getD i 0) a)
theorem LI.len {st : List (List Int)} {l k : Nat} {F : List Nat} (I : LI A st l F k) (hA : ∀ s, s < st.length → A s s) : F.length ≤ st.length := by
  have nd : F.Nodup := by
    refine I.apart.imp_of_mem fun {a b} ha hb h e => ?_
    subst e
    exact h (hA _ (I.lt _ ha))
  have := nd.length_le_of_subset (l₂ := List.range st.length) fun s hs => List.mem_range.mpr (I.lt s hs)
  simpa using this
theorem fold_inv {st : List (List Int)} {l : Nat} : ∀ (L F : List Nat), (∀ t ∈ L, t < st.length) → (∀ s ∈ F, s < st.length) → F.Pairwise (fun s t => ¬ A s t) → (∀ s ∈ L.foldl (addA A) F, s < st.length) ∧ (L.foldl (addA A) F).Pairwise (fun s t => ¬ A s t)
  | [], F, _, h1, h2 => ⟨h1, h2⟩
  | t :: L, F, hL, h1, h2 => by
    rw [List.foldl_cons]
    refine fold_inv (st := st) (l := l) L _ (fun u hu => hL u (List.mem_cons_of_mem _ hu)) ?_ ?_
    · unfold addA
      split
      · exact h1
      · intro s hs
        rcases List.mem_append.mp hs with hs | hs
        · exact h1 s hs
        · rw [List.mem_singleton.mp hs]; exact hL t List.mem_cons_self
    · unfold addA
      split
      · exact h2
      · rename_i c
        refine List.pairwise_append.mpr ⟨h2, List.pairwise_singleton _ _, fun s hs u hu => ?_⟩
        rw [List.mem_singleton.mp hu]
        exact fun z => c ⟨s, hs, z⟩
theorem succs_in {st an : List (List Int)} {l : Nat} (G : Good st an l) {s : Nat} (hs : s < st.length) : ∀ t ∈ succs st l s, t < st.length := fun t ht => by
  obtain ⟨a, ha, rfl⟩ := List.mem_map.mp ht
  exact (G.step hs (List.mem_range.mp ha)).1
theorem LI.next {st an : List (List Int)} {l k : Nat} {F : List Nat} (G : Good st an l) (hA : ∀ s, s < st.length → A s s) (I : LI A st l F k) (hk : k < F.length) : LI A st l ((succs st l (F.getD k 0)).foldl (addA A) F) (k + 1) := by
  have hs : F.getD k 0 < st.length := I.lt _ (getD_mem hk)
  have hin := succs_in G hs
  obtain ⟨h1, h2⟩ := fold_inv (A := A) (st := st) (l := l) _ F hin I.lt I.apart
  obtain ⟨E, e⟩ := foldA_ext (A := A) (succs st l (F.getD k 0)) F
  have keep : ∀ i, i < F.length → (F ++ E).getD i 0 = F.getD i 0 := fun i hi => by
    rw [List.getD_eq_getElem?_getD, List.getElem?_append_left hi, List.getD_eq_getElem?_getD]
  have hf := fun t ht => hasA_fold (A := A) (t := t) (succs st l (F.getD k 0)) F (fun u hu => hA u (hin u hu)) ht
  rw [e] at h1 h2 hf ⊢
  refine ⟨?_, h1, h2, fun i hi hl a ha => ?_⟩
  · rw [List.getElem?_append_left (by omega)]
    exact I.zero
  · rw [keep i (by omega)]
    by_cases c : i = k
    · subst c
      exact hf _ (List.mem_map.mpr ⟨a, List.mem_range.mpr ha, rfl⟩)
    · exact hasA_app (I.cl i (by omega) (by omega) a ha)
/-- the least machine's rows -/
def lsRow (A : Nat → Nat → Prop) (st : List (List Int)) (l : Nat) (F : List Nat) (s : Nat) : List Int := (succs st l s).map fun t => (idA A F t : Int)
def lsS (A : Nat → Nat → Prop) (st : List (List Int)) (l : Nat) (F : List Nat) : List (List Int) := F.map (lsRow A st l F)
def lsA (an : List (List Int)) (F : List Nat) : List (List Int) := F.map fun s => an.getD s []
theorem lsRow_ext {st : List (List Int)} {l : Nat} {F G : List Nat} {s : Nat} (h : ∀ a, a < l → hasA A F (stepN st s a)) : lsRow A st l (F ++ G) s = lsRow A st l F s := by
  unfold lsRow succs
  rw [List.map_map, List.map_map]
  exact List.map_congr_left fun a ha => by
    have := idA_app (G := G) (h a (List.mem_range.mp ha))
    simp only [Function.comp, this]
end
section
variable {st an : List (List Int)} {l : Nat}
def Al (st an : List (List Int)) (l : Nat) (s t : Nat) : Prop := ∀ k, ¬ lw st an l k (s, t)
theorem lw_self : ∀ (k : Nat) (s : Nat), ¬ lw st an l k (s, s)
  | 0, s => fun z => z rfl
  | k + 1, s => fun ⟨a, _, z⟩ => lw_self k _ z
theorem Al.refl (s : Nat) : Al st an l s s := fun k => lw_self k s
def fI : Nat → D := fun i => .int (i : Int)
def rwD (R : List (List Int)) : List D := R.map fun r => .tup (iL r)
def lsEnv (M K : D) (F : List Nat) (q : List (Nat × Nat)) (R : List (List Int)) (x5 x6 x7 : Sl) : SEnv := [.val M, .val K, .own (.lst (wN F)), .own (.dct false (dN fI q)), .own (.lst (rwD R)), x5, x6, x7]
theorem ls_in {m : Nat → Nat} (hm : Mk st an l m) (M : D) (F : List Nat) (R : List (List Int)) (row : List Int) (t : Nat) (x7 : Sl) (ht : t < st.length) (hF : ∀ s ∈ F, s < st.length) (hl : F.length ≤ 100) (hr : row.length ≤ 100) :
    lb_n_least_of_1 (lsEnv M (.lst (iL (mks st.length m))) F (nmq m 0 F) R (.own (.lst (iL row))) (.val (.int (t : Int))) x7) = .nx (lsEnv M (.lst (iL (mks st.length m))) (addA (Al st an l) F t) (nmq m 0 (addA (Al st an l) F t)) R (.own (.lst (iL (row ++ [(idA (Al st an l) (addA (Al st an l) F t) t : Int)])))) (.val (.int (t : Int))) x7) := by
  have hma := mark_at (m := m) ht
  have k1 : kOk false (.int (m t : Int)) = true := kOk_nat (m t)
  have hlk := look_nmq (A := Al st an l) (m := m) (t := t) F 0 fun s hs => hm s t (hF s hs) ht
  have hrow : (iL row).length < lim := by rw [iL_len]; exact lim_big' (by omega)
  have hwl : (wN F).length < lim := by rw [wN_len]; exact lim_big' (by omega)
  have hql : (dN fI (nmq m 0 F)).length < lim := by
    have : (dN fI (nmq m 0 F)).length = F.length := by simp [dN, nmq_len]
    rw [this]
    exact lim_big' (by omega)
  have hn : D.ninD (.int (m t : Int)) (.dct false (dN fI (nmq m 0 F))) = .ok (.bl (!(lookN (nmq m 0 F) (m t)).isSome)) := by
    unfold D.ninD
    simp only [k1, if_true, look_dN]
    cases lookN (nmq m 0 F) (m t) <;> rfl
  have eR : ∀ v : Int, iL (row ++ [v]) = iL row ++ [.int v] := fun v => by simp [iL]
  rw [eR]
  by_cases c : hasA (Al st an l) F t
  · have e1 : addA (Al st an l) F t = F := by unfold addA; rw [if_pos c]
    have e2 := hlk.1 c
    rw [Nat.zero_add] at e2
    have hg : D.dget (.dct false (dN fI (nmq m 0 F))) (.int (m t : Int)) = .ok (.int (idA (Al st an l) F t : Int)) := by
      rw [dget_dN, e2]
      rfl
    rw [e2] at hn
    rw [e1]
    unfold lsEnv
    generalize dN fI (nmq m 0 F) = QQ at *
    generalize iL (mks st.length m) = L at *
    generalize wN F = WF at *
    generalize iL row = RR at *
    simp [-ix_lst, lb_n_least_of_1, hma, hn, hg, hrow]
  · have e1 : addA (Al st an l) F t = F ++ [t] := by unfold addA; rw [if_neg c]
    have e2 := hlk.2 c
    have hnew : ∀ p ∈ nmq m 0 F, p.1 ≠ m t := lookN_none e2
    have e3 : nmq m 0 (F ++ [t]) = nmq m 0 F ++ [(m t, F.length)] := by rw [nmq_app, Nat.zero_add]
    have hput : putD (dN fI (nmq m 0 F)) (.int (m t : Int)) (.int (F.length : Int)) = dN fI (nmq m 0 F ++ [(m t, F.length)]) := by
      have := put_dN fI (nmq m 0 F) (m t) F.length
      rw [putN_new hnew] at this
      exact this
    have hid := (look_nmq (A := Al st an l) (m := m) (t := t) (F ++ [t]) 0 fun s hs => by
      rcases List.mem_append.mp hs with hs | hs
      · exact hm s t (hF s hs) ht
      · rw [List.mem_singleton.mp hs]; exact ⟨fun _ => Al.refl t, fun _ => rfl⟩).1 ⟨t, List.mem_append_right _ List.mem_cons_self, Al.refl t⟩
    rw [Nat.zero_add, e3] at hid
    have hg : D.dget (.dct false (dN fI (nmq m 0 F ++ [(m t, F.length)]))) (.int (m t : Int)) = .ok (.int (idA (Al st an l) (F ++ [t]) t : Int)) := by
      rw [dget_dN, hid]
      rfl
    rw [e2] at hn
    rw [e1, e3]
    have ew : wN (F ++ [t]) = wN F ++ [.int (t : Int)] := by simp [wN]
    have hlenF : lenN (.lst (wN F)) = .ok (.int (F.length : Int)) := by simp [wN_len]
    unfold lsEnv
    rw [ew, ← hput]
    rw [← hput] at hg
    generalize dN fI (nmq m 0 F) = QQ at *
    generalize iL (mks st.length m) = L at *
    generalize wN F = WF at *
    generalize iL row = RR at *
    simp [-ix_lst, -len_lst, lb_n_least_of_1, dputO, hma, hn, hlenF, hg, k1, hql, hwl, hrow]
end
end Lw
end
set_option Elab.async false
set_option linter.all false
set_option autoImplicit false
set_option maxRecDepth 100000
set_option maxHeartbeats 4000000
noncomputable section
namespace Lw
open PySem Fw
section
variable {st an : List (List Int)} {l : Nat}
def cZ (L : List Nat) : List Int := L.map fun (x : Nat) => (x : Int)
theorem fold_lt {A : Nat → Nat → Prop} : ∀ (L F : List Nat), (∀ t ∈ L, t < st.length) → (∀ s ∈ F, s < st.length) → ∀ s ∈ addA A F (L.getD 0 0), L ≠ [] → s < st.length
  | [], F, _, _, s, _, h => absurd rfl h
  | t :: L, F, hL, hF, s, hs, _ => by
    unfold addA at hs
    split at hs
    · exact hF s hs
    · rcases List.mem_append.mp hs with hs | hs
      · exact hF s hs
      · rw [List.mem_singleton.mp hs]; exact hL t List.mem_cons_self
theorem addA_len {A : Nat → Nat → Prop} (F : List Nat) (t : Nat) : (addA A F t).length ≤ F.length + 1 := by
  unfold addA
  split <;> simp
theorem ls_loop {m : Nat → Nat} (hm : Mk st an l m) (M : D) (R : List (List Int)) (x7 : Sl) : ∀ (L F : List Nat) (row : List Int) (x6 : Sl), isRow [x6] 0 = false → (∀ t ∈ L, t < st.length) → (∀ s ∈ F, s < st.length) → F.length + L.length ≤ 100 → row.length + L.length ≤ 100 →
    ∃ x6', isRow [x6'] 0 = false ∧ loopO (.nm 6) lb_n_least_of_1 (wN L) (lsEnv M (.lst (iL (mks st.length m))) F (nmq m 0 F) R (.own (.lst (iL row))) x6 x7) = .nx (lsEnv M (.lst (iL (mks st.length m))) (L.foldl (addA (Al st an l)) F) (nmq m 0 (L.foldl (addA (Al st an l)) F)) R (.own (.lst (iL (row ++ cZ (idsA (Al st an l) L F))))) x6' x7)
  | [], F, row, x6, h6, _, _, _, _ => ⟨x6, h6, by simp [idsA, cZ, wN, loopO]⟩
  | t :: L, F, row, x6, h6, hL, hF, hl, hr => by
    have hl' : F.length + (L.length + 1) ≤ 100 := hl
    have hr' : row.length + (L.length + 1) ≤ 100 := hr
    have ht := hL t List.mem_cons_self
    have e := ls_in hm M F R row t x7 ht hF (by omega) (by omega)
    have al := addA_len (A := Al st an l) F t
    obtain ⟨x6', h6', ih⟩ := ls_loop hm M R x7 L (addA (Al st an l) F t) (row ++ [(idA (Al st an l) (addA (Al st an l) F t) t : Int)]) (.val (.int (t : Int))) rfl (fun u hu => hL u (List.mem_cons_of_mem _ hu)) (fun s hs => fold_lt (t :: L) F hL hF s hs (by simp)) (by omega) (by rw [List.length_append]; simp only [List.length_cons, List.length_nil]; omega)
    refine ⟨x6', h6', ?_⟩
    have eb : bindT (lsEnv M (.lst (iL (mks st.length m))) F (nmq m 0 F) R (.own (.lst (iL row))) x6 x7) (.nm 6) (.int (t : Int)) = some (lsEnv M (.lst (iL (mks st.length m))) F (nmq m 0 F) R (.own (.lst (iL row))) (.val (.int (t : Int))) x7) := by
      unfold lsEnv
      generalize dN fI (nmq m 0 F) = QQ at *
      generalize iL (mks st.length m) = L at *
      generalize wN F = WF at *
      generalize iL row = RR at *
      simp at h6
      simp [h6]
    have ew : wN (t :: L) = .int (t : Int) :: wN L := rfl
    have ei : row ++ cZ (idsA (Al st an l) (t :: L) F) = (row ++ [(idA (Al st an l) (addA (Al st an l) F t) t : Int)]) ++ cZ (idsA (Al st an l) L (addA (Al st an l) F t)) := by simp [idsA, cZ]
    rw [ew, loopO_cons, eb, ei, List.foldl_cons]
    show (lb_n_least_of_1 _).turn _ = _
    rw [e]
    exact ih
def wInvL (st an : List (List Int)) (l : Nat) (m : Nat → Nat) (k : Nat) (F : List Nat) (ρ : SEnv) : Prop :=
  ∃ x5 x6 x7, ρ = lsEnv (machT st an) (.lst (iL (mks st.length m))) F (nmq m 0 F) ((F.take k).map (lsRow (Al st an l) st l F)) x5 x6 x7 ∧ isRow [x5] 0 = false ∧ isRow [x6] 0 = false
theorem succs_row (G : Good st an l) {s : Nat} (hs : s < st.length) : iL (st.getD s []) = wN (succs st l s) := by
  rw [row_vals2 G hs]
  unfold iL wN succs
  rw [List.map_map, List.map_map]
  rfl
theorem succs_len (s : Nat) : (succs st l s).length = l := by simp [succs]
theorem Al.all (s : Nat) (_ : s < st.length) : Al st an l s s := Al.refl s
theorem ls_test (M K : D) (F : List Nat) (q : List (Nat × Nat)) (R : List (List Int)) (x5 x6 x7 : Sl) : wt_n_least_of_1 (SEnv.all (lsEnv M K F q R x5 x6 x7)) = .ok (decide ((R.length : Int) < (F.length : Int))) := by
  have h1 : lenN (.lst (wN F)) = .ok (.int (F.length : Int)) := by simp [wN_len]
  have h2 : lenN (.lst (rwD R)) = .ok (.int (R.length : Int)) := by simp [rwD]
  unfold lsEnv
  generalize wN F = WF at *
  generalize rwD R = WR at *
  simp [-len_lst, wt_n_least_of_1, h1, h2]
theorem ls_body (G : Good st an l) {m : Nat → Nat} (hm : Mk st an l m) (k : Nat) (F : List Nat) (hk : k < F.length) (I : LI (Al st an l) st l F k) (ρ : SEnv) (h : wInvL st an l m k F ρ) :
    ∃ ρ', wb_n_least_of_1 ρ = .nx ρ' ∧ wInvL st an l m (k + 1) ((succs st l (F.getD k 0)).foldl (addA (Al st an l)) F) ρ' := by
  obtain ⟨x5, x6, x7, rfl, h5, h6⟩ := h
  have n6 := G.n6
  have l3 := G.l3
  have hl := I.len Al.all
  have hs : F.getD k 0 < st.length := I.lt _ (getD_mem hk)
  have hin := succs_in G hs
  have hR : ((F.take k).map (lsRow (Al st an l) st l F)).length = k := by rw [List.length_map, List.length_take]; omega
  obtain ⟨x6', h6', e⟩ := ls_loop hm (machT st an) ((F.take k).map (lsRow (Al st an l) st l F)) x7 (succs st l (F.getD k 0)) F [] x6 h6 hin I.lt (by rw [succs_len]; omega) (by rw [succs_len]; simp; omega)
  have ids := idsA_eq (A := Al st an l) (succs st l (F.getD k 0)) F fun t ht => Al.refl t
  rw [ids] at e
  have t1 : (fun ρ : SEnv => bindO ((lstF nilA) ρ.vis) fun d => setO ρ 5 (.own d)) (lsEnv (machT st an) (.lst (iL (mks st.length m))) F (nmq m 0 F) ((F.take k).map (lsRow (Al st an l) st l F)) x5 x6 x7) = .nx (lsEnv (machT st an) (.lst (iL (mks st.length m))) F (nmq m 0 F) ((F.take k).map (lsRow (Al st an l) st l F)) (.own (.lst (iL []))) x6 x7) := by
    have l0 : (0 : Nat) ≤ lim := Nat.zero_le _
    have : iL [] = [] := rfl
    rw [this]
    unfold lsEnv
    generalize dN fI (nmq m 0 F) = QQ at *
    generalize iL (mks st.length m) = L at *
    generalize wN F = WF at *
    generalize machT st an = MM at *
    simp at h5
    simp [l0, h5]
  have t2 : itemsP (bin D.ix (bin D.ix (fun ρ => vr ρ 0) (fun _ => .ok (.int 0))) (bin D.ix (fun ρ => vr ρ 2) (app (on1 lenN) (consA (fun ρ => vr ρ 4) nilA)))) (SEnv.all (lsEnv (machT st an) (.lst (iL (mks st.length m))) F (nmq m 0 F) ((F.take k).map (lsRow (Al st an l) st l F)) (.own (.lst (iL []))) x6 x7)) = .ok (wN (succs st l (F.getD k 0))) := by
    have m0 := mach0 st an
    have r1 := rows_at (rs := st) hs
    have hp : (D.tup (iL (st.getD (F.getD k 0) []))).pure = true := pureL_iff.mpr fun d hd => by
      obtain ⟨i, _, rfl⟩ := List.mem_map.mp hd
      rfl
    have hl2 : lenN (.lst (rwD ((F.take k).map (lsRow (Al st an l) st l F)))) = .ok (.int (k : Int)) := by
      rw [← hR]
      simp [rwD]
    have hix : (D.lst (wN F)).ix (.int (k : Int)) = .ok (.int (F.getD k 0 : Nat)) := by
      rw [ix_lst]
      refine ixG_nat ?_
      unfold wN
      rw [List.getElem?_map, List.getElem?_eq_getElem hk]
      simp [List.getD_eq_getElem?_getD, List.getElem?_eq_getElem hk]
    rw [← succs_row G hs]
    unfold lsEnv
    generalize dN fI (nmq m 0 F) = QQ at *
    generalize iL (mks st.length m) = L at *
    generalize wN F = WF at *
    generalize rwD ((F.take k).map (lsRow (Al st an l) st l F)) = WR at *
    generalize machT st an = MM at *
    generalize rowsT st = SS at *
    generalize iL (st.getD (F.getD k 0) []) = W1 at *
    have hp' : D.pureL W1 = true := hp
    generalize F.getD k 0 = fk at *
    simp [-ix_lst, -ix_tup, -len_lst, itemsP, m0, r1, hl2, hix, hp, hp']
  obtain ⟨E, eE⟩ := foldA_ext (A := Al st an l) (succs st l (F.getD k 0)) F
  have cl' := (I.next G Al.all hk).cl
  rw [eE] at cl' e ids ⊢
  have keep : ∀ i, i < F.length → (F ++ E).getD i 0 = F.getD i 0 := fun i hi => by
    rw [List.getD_eq_getElem?_getD, List.getElem?_append_left hi, List.getD_eq_getElem?_getD]
  have hrow : cZ ((succs st l (F.getD k 0)).map (idA (Al st an l) (F ++ E))) = lsRow (Al st an l) st l (F ++ E) (F.getD k 0) := by
    unfold cZ lsRow
    rw [List.map_map]
    rfl
  rw [hrow, List.nil_append] at e
  have hold : (F.take k).map (lsRow (Al st an l) st l F) ++ [lsRow (Al st an l) st l (F ++ E) (F.getD k 0)] = ((F ++ E).take (k + 1)).map (lsRow (Al st an l) st l (F ++ E)) := by
    have e1 : (F ++ E).take (k + 1) = F.take k ++ [F.getD k 0] := by
      rw [List.take_append_of_le_length (by omega), List.take_succ, List.getElem?_eq_getElem hk]
      simp [List.getD_eq_getElem?_getD, List.getElem?_eq_getElem hk]
    rw [e1, List.map_append]
    congr 1
    refine List.map_congr_left fun s hs => ?_
    obtain ⟨i, hi, rfl⟩ := List.mem_iff_getElem.mp hs
    rw [List.length_take] at hi
    have hi2 : i < k := by omega
    have : (F.take k)[i] = F.getD i 0 := by simp [List.getD_eq_getElem?_getD, List.getElem?_eq_getElem (show i < F.length by omega)]
    rw [this]
    exact (lsRow_ext fun a ha => I.cl i hi2 (by omega) a ha).symm
  refine ⟨lsEnv (machT st an) (.lst (iL (mks st.length m))) (F ++ E) (nmq m 0 (F ++ E)) (((F ++ E).take (k + 1)).map (lsRow (Al st an l) st l (F ++ E))) (.own (.lst (iL (lsRow (Al st an l) st l (F ++ E) (F.getD k 0))))) x6' x7, ?_, _, _, _, rfl, rfl, h6'⟩
  unfold wb_n_least_of_1
  rw [seqO_eq]
  refine Eq.trans (congrArg (fun o => Out.then o _) t1) ?_
  rw [then_nx, seqO_eq]
  have t3 : forRO (itemsP (bin D.ix (bin D.ix (fun ρ => vr ρ 0) (fun _ => .ok (.int 0))) (bin D.ix (fun ρ => vr ρ 2) (app (on1 lenN) (consA (fun ρ => vr ρ 4) nilA))))) (.nm 6) lb_n_least_of_1 (lsEnv (machT st an) (.lst (iL (mks st.length m))) F (nmq m 0 F) ((F.take k).map (lsRow (Al st an l) st l F)) (.own (.lst (iL []))) x6 x7) = .nx (lsEnv (machT st an) (.lst (iL (mks st.length m))) (F ++ E) (nmq m 0 (F ++ E)) ((F.take k).map (lsRow (Al st an l) st l F)) (.own (.lst (iL (lsRow (Al st an l) st l (F ++ E) (F.getD k 0))))) x6' x7) := by
    unfold forRO
    rw [t2, bindO_ok]
    exact e
  rw [t3, then_nx, ← hold]
  have hwl : (rwD ((F.take k).map (lsRow (Al st an l) st l F))).length < lim := by
    unfold rwD
    rw [List.length_map, hR]
    exact lim_big' (by omega)
  have er : rwD ((F.take k).map (lsRow (Al st an l) st l F) ++ [lsRow (Al st an l) st l (F ++ E) (F.getD k 0)]) = rwD ((F.take k).map (lsRow (Al st an l) st l F)) ++ [.tup (iL (lsRow (Al st an l) st l (F ++ E) (F.getD k 0)))] := by simp [rwD]
  have hpu : D.pureL (iL (lsRow (Al st an l) st l (F ++ E) (F.getD k 0))) = true := pureL_iff.mpr fun d hd => by
    obtain ⟨i, _, rfl⟩ := List.mem_map.mp hd
    rfl
  have hpu2 : (D.tup (iL (lsRow (Al st an l) st l (F ++ E) (F.getD k 0)))).pure = true := hpu
  unfold lsEnv
  rw [er]
  generalize dN fI (nmq m 0 (F ++ E)) = QQ at *
  generalize iL (mks st.length m) = L at *
  generalize wN (F ++ E) = WF at *
  generalize rwD ((F.take k).map (lsRow (Al st an l) st l F)) = WR at *
  generalize machT st an = MM at *
  generalize iL (lsRow (Al st an l) st l (F ++ E) (F.getD k 0)) = W1 at *
  simp [hwl, hpu, hpu2]
theorem ls_while (G : Good st an l) {m : Nat → Nat} (hm : Mk st an l m) : ∀ (fuel k : Nat) (F : List Nat) (ρ : SEnv), 8 < fuel + k → k ≤ F.length → LI (Al st an l) st l F k → wInvL st an l m k F ρ →
    ∃ F' ρ', whileO wt_n_least_of_1 wb_n_least_of_1 fuel ρ = .nx ρ' ∧ Grow (Al st an l) st l F k F' ∧ LI (Al st an l) st l F' F'.length ∧ wInvL st an l m F'.length F' ρ'
  | 0, k, F, ρ, hf, hk, I, h => by
    have n6 := G.n6
    have hl := I.len Al.all
    omega
  | fuel + 1, k, F, ρ, hf, hk, I, h => by
    have n6 := G.n6
    have hl := I.len Al.all
    have ht : wt_n_least_of_1 ρ.all = .ok (decide ((k : Int) < (F.length : Int))) := by
      obtain ⟨x5, x6, x7, rfl, _, _⟩ := h
      rw [ls_test]
      have : ((F.take k).map (lsRow (Al st an l) st l F)).length = k := by rw [List.length_map, List.length_take]; omega
      rw [this]
    rw [whileO_succ, ht, bindO_ok]
    by_cases c : k < F.length
    · have e : decide ((k : Int) < (F.length : Int)) = true := decide_eq_true (by omega)
      obtain ⟨ρ1, e1, i1⟩ := ls_body G hm k F c I ρ h
      have I' := I.next G Al.all c
      obtain ⟨E, eE⟩ := foldA_ext (A := Al st an l) (succs st l (F.getD k 0)) F
      obtain ⟨F', ρ', e2, g2, I2, i2⟩ := ls_while G hm fuel (k + 1) _ ρ1 (by omega) (by rw [eE, List.length_append]; omega) I' i1
      refine ⟨F', ρ', ?_, .go c g2, I2, i2⟩
      rw [e]
      simp only [if_true, e1]
      exact e2
    · have e : decide ((k : Int) < (F.length : Int)) = false := decide_eq_false (by omega)
      rw [e]
      have ek : k = F.length := by omega
      subst ek
      exact ⟨F, ρ, rfl, .stop (Nat.le_refl _), I, h⟩
/-- the least machine, exactly -/
theorem F_least_of (G : Good st an l) : ∃ F, Grow (Al st an l) st l [0] 0 F ∧ LI (Al st an l) st l F F.length ∧ F_n_least_of [machT st an] = .ok (machT (lsS (Al st an l) st l F) (lsA an F)) := by
  have n1 := G.n1
  have n6 := G.n6
  obtain ⟨m, em, hm⟩ := F_marks_of G
  have I0 : LI (Al st an l) st l [0] 0 := ⟨rfl, fun s hs => by rw [List.mem_singleton.mp hs]; exact n1, List.pairwise_singleton _ _, fun i hi => absurd hi (Nat.not_lt_zero _)⟩
  obtain ⟨F, ρ', ew, g, I, x5, x6, x7, rfl, h5, h6⟩ := ls_while G hm lim 0 [0] (lsEnv (machT st an) (.lst (iL (mks st.length m))) [0] (nmq m 0 [0]) [] .dead .dead .dead) (by
    have : (1000 : Nat) ≤ lim := lim_big (by decide)
    omega) (by simp) I0 ⟨_, _, _, rfl, rfl, rfl⟩
  refine ⟨F, g, I, ?_⟩
  have hl := I.len Al.all
  have l1 : (1 : Nat) ≤ lim := lim_big (by decide)
  have l2 : (2 : Nat) ≤ lim := lim_big (by decide)
  have l0 : (0 : Nat) ≤ lim := Nat.zero_le _
  have ef : F_n_least_of [machT st an] = (g_n_least_of [.val (machT st an), .dead, .dead, .dead, .dead, .dead, .dead, .dead]).fin := rfl
  rw [ef]
  unfold g_n_least_of
  have t1 : (fun ρ : SEnv => bindO ((app (callF 1 F_n_marks_of) (consA (fun ρ => vr ρ 0) nilA)) ρ.vis) fun d => setO ρ 1 (.val d)) ([.val (machT st an), .dead, .dead, .dead, .dead, .dead, .dead, .dead] : SEnv) = .nx [.val (machT st an), .val (.lst (iL (mks st.length m))), .dead, .dead, .dead, .dead, .dead, .dead] := by
    generalize machT st an = M at *
    generalize iL (mks st.length m) = L at *
    simp [em]
  have t2 : (parO [2, 3] (kCons (hNV (lstF (consA (fun _ => .ok (.int 0)) nilA))) (kCons (hNV (dispF (bin D.ix (fun ρ => vr ρ 1) (fun _ => .ok (.int 0))) (fun _ => .ok (.int 0)))) kNil))) ([.val (machT st an), .val (.lst (iL (mks st.length m))), .dead, .dead, .dead, .dead, .dead, .dead] : SEnv) = .nx [.val (machT st an), .val (.lst (iL (mks st.length m))), .own (.lst (wN [0])), .own (.dct false (dN fI (nmq m 0 [0]))), .dead, .dead, .dead, .dead] := by
    have e0 := mark_at (m := m) (show 0 < st.length from n1)
    have k1 : kOk false (.int (m 0 : Int)) = true := kOk_nat (m 0)
    have e1 : wN [0] = [.int 0] := rfl
    have e2 : dN fI (nmq m 0 [0]) = [(.int (m 0 : Int), .int 0)] := rfl
    rw [e1, e2]
    have ek : (D.int (m 0 : Int)).asKey = some (.inl (m 0 : Int)) := rfl
    have ek2 : keyD (.inl (m 0 : Int)) = .int (m 0 : Int) := rfl
    have e0' : (D.lst (iL (mks st.length m))).ix (.int 0) = .ok (.int (m 0 : Int)) := e0
    generalize machT st an = M at *
    generalize iL (mks st.length m) = L at *
    simp [-ix_lst, dispF, e0', k1, l1, ek, ek2]
  have t3 : (fun ρ : SEnv => bindO ((lstF nilA) ρ.vis) fun d => setO ρ 4 (.own d)) ([.val (machT st an), .val (.lst (iL (mks st.length m))), .own (.lst (wN [0])), .own (.dct false (dN fI (nmq m 0 [0]))), .dead, .dead, .dead, .dead] : SEnv) = .nx (lsEnv (machT st an) (.lst (iL (mks st.length m))) [0] (nmq m 0 [0]) [] .dead .dead .dead) := by
    have : rwD [] = [] := rfl
    unfold lsEnv
    rw [this]
    generalize dN fI (nmq m 0 [0]) = QQ at *
    generalize iL (mks st.length m) = L at *
    generalize wN [0] = WF at *
    generalize machT st an = MM at *
    simp [l0]
  rw [fin_step t1, fin_step t2, fin_step (g1 := fun ρ : SEnv => bindO ((lstF nilA) ρ.vis) fun d => setO ρ 4 (.own d)) t3, fin_step ew]
  have hlc : ∀ x1 x3 x4 x5 x6 : Option D, lcL (.nm 7) yesB ce_n_least_of_1 [some (machT st an), x1, none, x3, x4, x5, x6, none] (wN F) = .ok ((lsA an F).map fun r => .tup (iL r)) := by
    intro x1 x3 x4 x5 x6
    unfold wN lsA
    rw [List.map_map]
    refine lcLs (fun (s : Nat) => D.int (s : Int)) (fun s => .tup (iL (an.getD s []))) F fun s hs => ?_
    have m1 := mach1 st an
    have r1 := rows_at (rs := an) (s := s) (by rw [G.same]; exact I.lt s hs)
    generalize machT st an = MM at *
    generalize rowsT an = SS at *
    generalize iL (an.getD s []) = W1 at *
    simp [-ix_lst, -ix_tup, ce_n_least_of_1, m1, r1]
  have hlc2 : ∀ x1 x2 x3 x4 x5 x6 : Option D, lcL (.nm 7) yesB ce_n_least_of_1 [some (machT st an), x1, x2, x3, x4, x5, x6, none] (wN F) = .ok ((lsA an F).map fun r => .tup (iL r)) := by
    intro x1 x2 x3 x4 x5 x6
    unfold wN lsA
    rw [List.map_map]
    refine lcLs (fun (s : Nat) => D.int (s : Int)) (fun s => .tup (iL (an.getD s []))) F fun s hs => ?_
    have m1 := mach1 st an
    have r1 := rows_at (rs := an) (s := s) (by rw [G.same]; exact I.lt s hs)
    generalize machT st an = MM at *
    generalize rowsT an = SS at *
    generalize iL (an.getD s []) = W1 at *
    simp [-ix_lst, -ix_tup, ce_n_least_of_1, m1, r1]
  have hwl : (wN F).length ≤ lim := by rw [wN_len]; exact lim_big (by omega)
  have eR : rwD ((F.take F.length).map (lsRow (Al st an l) st l F)) = (lsS (Al st an l) st l F).map fun r => .tup (iL r) := by
    rw [List.take_length]
    rfl
  have eM : machT (lsS (Al st an l) st l F) (lsA an F) = .tup [.tup ((lsS (Al st an l) st l F).map fun r => .tup (iL r)), .tup ((lsA an F).map fun r => .tup (iL r))] := rfl
  rw [eM]
  unfold lsEnv
  rw [eR]
  generalize ((lsS (Al st an l) st l F).map fun r => D.tup (iL r)) = W1 at *
  generalize ((lsA an F).map fun r => D.tup (iL r)) = W2 at *
  generalize dN fI (nmq m 0 F) = QQ at *
  generalize iL (mks st.length m) = L at *
  generalize wN F = WF at *
  generalize machT st an = MM at *
  simp at h5 h6
  simp [hlc2, hwl, l2]
end
end Lw
end
set_option Elab.async false
set_option linter.all false
set_option autoImplicit false
set_option maxRecDepth 100000
set_option maxHeartbeats 4000000
noncomputable section
namespace Lw
open PySem Fw
/-! ### the least machine is a machine; its late words are late words -/
section
variable {st an : List (List Int)} {l : Nat}
theorem lw_swap : ∀ (k : Nat) (s t : Nat), lw st an l k (s, t) → lw st an l k (t, s)
  | 0, s, t, h => fun z => h z.symm
  | k + 1, s, t, ⟨a, ha, h⟩ => ⟨a, ha, lw_swap k _ _ h⟩
theorem Al.symm {s t : Nat} (h : Al st an l s t) : Al st an l t s := fun k z => h k (lw_swap k _ _ z)
theorem Al.ans {s t : Nat} (h : Al st an l s t) : an.getD s [] = an.getD t [] := Classical.byContradiction fun z => h 0 z
theorem Al.step {s t a : Nat} (h : Al st an l s t) (ha : a < l) : Al st an l (stepN st s a) (stepN st t a) := fun k z => h (k + 1) ⟨a, ha, z⟩
theorem lw_al : ∀ (k : Nat) (s t s' t' : Nat), Al st an l s s' → Al st an l t t' → lw st an l k (s, t) → lw st an l k (s', t')
  | 0, s, t, s', t', h1, h2, h => fun z => h (h1.ans.trans (Eq.trans z h2.ans.symm))
  | k + 1, s, t, s', t', h1, h2, ⟨a, ha, h⟩ => ⟨a, ha, lw_al k _ _ _ _ (h1.step ha) (h2.step ha) h⟩
theorem Al.trans {s t u : Nat} (h : Al st an l s t) (g : Al st an l t u) : Al st an l s u := fun k z => h k (lw_al k _ _ _ _ (Al.refl s) g.symm z)
variable {F : List Nat}
theorem ls_len : (lsS (Al st an l) st l F).length = F.length := by simp [lsS]
theorem ls_at {i : Nat} (h : i < F.length) : (lsS (Al st an l) st l F).getD i [] = lsRow (Al st an l) st l F (F.getD i 0) := by
  unfold lsS
  rw [List.getD_eq_getElem?_getD, List.getElem?_map, List.getElem?_eq_getElem h]
  simp [List.getD_eq_getElem?_getD, List.getElem?_eq_getElem h]
theorem lsA_at {i : Nat} (h : i < F.length) : (lsA an F).getD i [] = an.getD (F.getD i 0) [] := by
  unfold lsA
  rw [List.getD_eq_getElem?_getD, List.getElem?_map, List.getElem?_eq_getElem h]
  simp [List.getD_eq_getElem?_getD, List.getElem?_eq_getElem h]
theorem ls_step {i a : Nat} (h : i < F.length) (ha : a < l) : stepN (lsS (Al st an l) st l F) i a = idA (Al st an l) F (stepN st (F.getD i 0) a) := by
  unfold stepN
  rw [ls_at h]
  unfold lsRow succs
  rw [List.getD_eq_getElem?_getD, List.getElem?_map, List.getElem?_map, List.getElem?_range ha]
  simp [stepN]
theorem LI.good (G : Good st an l) (I : LI (Al st an l) st l F F.length) : Good (lsS (Al st an l) st l F) (lsA an F) l := by
  have hl := I.len Al.all
  have h0 : 0 < F.length := (List.getElem?_eq_some_iff.mp I.zero).1
  refine ⟨by rw [ls_len]; exact h0, by rw [ls_len]; have := G.n6; omega, G.l1, G.l3, fun r hr => ?_, fun r hr v hv => ?_, fun r hr => ?_, fun r hr v hv => ?_, by rw [ls_len]; simp [lsA]⟩
  · obtain ⟨s, _, rfl⟩ := List.mem_map.mp hr
    simp [lsRow, succs]
  · obtain ⟨s, hs, rfl⟩ := List.mem_map.mp hr
    obtain ⟨t, ht, rfl⟩ := List.mem_map.mp hv
    obtain ⟨a, ha, rfl⟩ := List.mem_map.mp ht
    obtain ⟨i, hi, e⟩ := List.mem_iff_getElem.mp hs
    have e2 : F.getD i 0 = s := by rw [← e]; simp [List.getD_eq_getElem?_getD, List.getElem?_eq_getElem hi]
    have := idA_lt (I.cl i hi hi a (List.mem_range.mp ha))
    rw [e2] at this
    rw [ls_len]
    omega
  · obtain ⟨s, hs, rfl⟩ := List.mem_map.mp hr
    exact G.al _ (getD_mem (by rw [G.same]; exact I.lt s hs))
  · obtain ⟨s, hs, rfl⟩ := List.mem_map.mp hr
    exact G.av _ (getD_mem (by rw [G.same]; exact I.lt s hs)) v hv
/-- a state of the least machine goes like the one it stands for -/
theorem ls_go (I : LI (Al st an l) st l F F.length) {i a : Nat} (h : i < F.length) (ha : a < l) : stepN (lsS (Al st an l) st l F) i a < F.length ∧ Al st an l (F.getD (stepN (lsS (Al st an l) st l F) i a) 0) (stepN st (F.getD i 0) a) := by
  rw [ls_step h ha]
  exact ⟨idA_lt (I.cl i h h a ha), idA_at (I.cl i h h a ha)⟩
theorem ls_lw (I : LI (Al st an l) st l F F.length) : ∀ (k i j : Nat), i < F.length → j < F.length → (lw (lsS (Al st an l) st l F) (lsA an F) l k (i, j) ↔ lw st an l k (F.getD i 0, F.getD j 0))
  | 0, i, j, hi, hj => by
    show (lsA an F).getD i [] ≠ (lsA an F).getD j [] ↔ an.getD (F.getD i 0) [] ≠ an.getD (F.getD j 0) []
    rw [lsA_at hi, lsA_at hj]
  | k + 1, i, j, hi, hj => by
    constructor
    · rintro ⟨a, ha, h⟩
      obtain ⟨a1, a2⟩ := ls_go I hi ha
      obtain ⟨b1, b2⟩ := ls_go I hj ha
      exact ⟨a, ha, lw_al k _ _ _ _ a2 b2 ((ls_lw I k _ _ a1 b1).mp h)⟩
    · rintro ⟨a, ha, h⟩
      obtain ⟨a1, a2⟩ := ls_go I hi ha
      obtain ⟨b1, b2⟩ := ls_go I hj ha
      exact ⟨a, ha, (ls_lw I k _ _ a1 b1).mpr (lw_al k _ _ _ _ a2.symm b2.symm h)⟩
theorem ls_run (I : LI (Al st an l) st l F F.length) : ∀ (w : List Nat) (i s : Nat), i < F.length → (∀ a ∈ w, a < l) → Al st an l (F.getD i 0) s → runN (lsS (Al st an l) st l F) i w < F.length ∧ Al st an l (F.getD (runN (lsS (Al st an l) st l F) i w) 0) (runN st s w)
  | [], i, s, hi, _, h => ⟨hi, h⟩
  | a :: w, i, s, hi, hw, h => by
    have ha := hw a List.mem_cons_self
    obtain ⟨a1, a2⟩ := ls_go I hi ha
    exact ls_run I w _ _ a1 (fun b hb => hw b (List.mem_cons_of_mem _ hb)) (a2.trans (h.step ha))
theorem ls_ev (I : LI (Al st an l) st l F F.length) {m : Nat} (h : Ev (lsS (Al st an l) st l F) (lsA an F) l m) : Ev st an l m := by
  obtain ⟨p, ⟨w, hw, e⟩, h2, h3⟩ := h
  rw [ls_len] at h2
  have h0 : 0 < F.length := (List.getElem?_eq_some_iff.mp I.zero).1
  have z : F.getD 0 0 = 0 := by rw [List.getD_eq_getElem?_getD, I.zero]; rfl
  obtain ⟨r1, r2⟩ := ls_run I w 0 0 h0 hw (by rw [z]; exact Al.refl 0)
  rw [e] at r1 r2
  have h4 := (ls_lw I m p.1 p.2 r1 h2).mp h3
  exact ⟨(runN st 0 w, F.getD p.2 0), ⟨w, hw, rfl⟩, I.lt _ (getD_mem h2), lw_al m _ _ _ _ r2 (Al.refl _) h4⟩
/-- the least machine's late length is no greater -/
def leO : Option Nat → Option Nat → Prop
  | _, none => True
  | none, some _ => False
  | some a, some b => a ≤ b
theorem ls_late (I : LI (Al st an l) st l F F.length) {o o' : Option Nat} (h : LateIs st an l o) (h' : LateIs (lsS (Al st an l) st l F) (lsA an F) l o') : leO o' o := by
  cases h with
  | none _ => cases o' <;> trivial
  | some L h =>
    cases h' with
    | none h' => exact absurd ((h L).mp (ls_ev I (h' L))) (Nat.lt_irrefl L)
    | some L' h' =>
      show L' ≤ L
      refine Nat.le_of_not_lt fun z => ?_
      exact absurd ((h L).mp (ls_ev I ((h' L).mpr z))) (Nat.lt_irrefl L)
end
end Lw
end
set_option Elab.async false
set_option linter.all false
set_option autoImplicit false
set_option maxRecDepth 100000
set_option maxHeartbeats 4000000
noncomputable section
namespace Lw
open PySem Fw
/-! ### the law's unlike pairs -/
section
variable {st an : List (List Int)} {l : Nat}
theorem look_dB1 (k : Nat × Nat) : ∀ Q : List (Nat × Nat), (lookD (dB Q) (kp k)).isSome = decide (k ∈ Q)
  | [] => by simp [dB, lookD]
  | p :: Q => by
    have ih := look_dB1 k Q
    unfold lookD dB at *
    rw [List.map_cons, List.find?_cons]
    by_cases c : p = k
    · have h1 : decide ((kp p).kk = (kp k).kk) = true := decide_eq_true ((kp_eq _ _).mpr c)
      simp only [h1]
      simp [c]
    · have h1 : decide ((kp p).kk = (kp k).kk) = false := decide_eq_false fun z => c ((kp_eq _ _).mp z)
      simp only [h1]
      rw [ih, Bool.eq_iff_iff, decide_eq_true_iff, decide_eq_true_iff, List.mem_cons]
      exact ⟨.inr, fun h => h.resolve_left fun z => c z.symm⟩
theorem inD_dB1 (Q : List (Nat × Nat)) (k : Nat × Nat) : D.inD (kp k) (.dct true (dB Q)) = .ok (.bl (decide (k ∈ Q))) := by
  unfold D.inD
  simp only [kp_ok, if_true, look_dB1]
theorem ninD_dB1 (Q : List (Nat × Nat)) (k : Nat × Nat) : D.ninD (kp k) (.dct true (dB Q)) = .ok (.bl (!decide (k ∈ Q))) := by
  unfold D.ninD
  simp only [kp_ok, if_true, look_dB1]
theorem lcL_fil1 {tt : Fw.Env → Res Bool} {fe : Fw.Env → Res D} {r : Fw.Env} {i : Nat} (b : Nat → Bool) : ∀ L : List Nat, (∀ x ∈ L, tt (r.set i (some (.int (x : Int)))) = .ok (b x)) → (∀ x ∈ L, fe (r.set i (some (.int (x : Int)))) = .ok (.int (x : Int))) → lcL (.nm i) tt fe r (wN L) = .ok (wN (L.filter b))
  | [], _, _ => rfl
  | x :: L, h1, h2 => by
    have ih := lcL_fil1 b L (fun y hy => h1 y (List.mem_cons_of_mem _ hy)) fun y hy => h2 y (List.mem_cons_of_mem _ hy)
    have e1 := h1 x List.mem_cons_self
    have e2 := h2 x List.mem_cons_self
    have ew : wN (x :: L) = .int (x : Int) :: wN L := rfl
    rw [ew]
    cases hb : b x with
    | false => simp [lcL, e1, hb, ih]
    | true =>
      simp [lcL, e1, hb, ih, e2]
      rfl
theorem loop_up {v : Nat} {g : SEnv → Out} {Inv : Nat → SEnv → Prop} (hs : ∀ i ρ, Inv i ρ → isRow ρ v = false ∧ ∃ ρ', g (ρ.set v (.val (.int (i : Int)))) = .nx ρ' ∧ Inv (i + 1) ρ') : ∀ (m i : Nat) (ρ : SEnv), Inv i ρ → ∃ ρ', loopO (.nm v) g (rangeD i m) ρ = .nx ρ' ∧ Inv (i + m) ρ'
  | 0, i, ρ, h => ⟨ρ, rfl, h⟩
  | m + 1, i, ρ, h => by
    obtain ⟨e1, ρ1, e2, h1⟩ := hs i ρ h
    obtain ⟨ρ', e3, h3⟩ := loop_up hs m (i + 1) ρ1 h1
    refine ⟨ρ', ?_, by rw [show i + (m + 1) = i + 1 + m by omega]; exact h3⟩
    rw [rangeD_succ, loopO_cons, bindT_eq, unp_nm]
    simp only [setMany_cons, e1, if_true, setMany_nil]
    have ec : ((i : Int) + 1) = ((i + 1 : Nat) : Int) := by omega
    rw [ec, e2]
    exact e3
theorem len_rows1 (st : List (List Int)) : lenN (rowsT st) = .ok (.int (st.length : Int)) := by
  show (D.tup _).len = _
  rw [len_tup, List.length_map]
/-- what adds a pair -/
def cdU (st an : List (List Int)) (l : Nat) (Q : List (Nat × Nat)) (p : Nat × Nat) : Prop := an.getD p.1 [] ≠ an.getD p.2 [] ∨ ∃ a, a < l ∧ beh st p a ∈ Q
open Classical in
def addU (st an : List (List Int)) (l : Nat) (Q : List (Nat × Nat)) (p : Nat × Nat) : List (Nat × Nat) := if cdU st an l Q p then (if p ∈ Q then Q else Q ++ [p]) else Q
theorem addU_ext (Q : List (Nat × Nat)) (p : Nat × Nat) : ∃ E, addU st an l Q p = Q ++ E := by
  unfold addU
  split
  · split
    · exact ⟨[], by simp⟩
    · exact ⟨[p], rfl⟩
  · exact ⟨[], by simp⟩
theorem foldU_ext : ∀ (L Q : List (Nat × Nat)), ∃ E, L.foldl (addU st an l) Q = Q ++ E
  | [], Q => ⟨[], by simp⟩
  | p :: L, Q => by
    obtain ⟨E, e⟩ := addU_ext (st := st) (an := an) (l := l) Q p
    obtain ⟨E', e'⟩ := foldU_ext L (addU st an l Q p)
    exact ⟨E ++ E', by rw [List.foldl_cons, e', e, List.append_assoc]⟩
theorem foldU_same : ∀ (L Q : List (Nat × Nat)), L.foldl (addU st an l) Q = Q → ∀ p ∈ L, cdU st an l Q p → p ∈ Q
  | [], Q, _, p, hp, _ => by cases hp
  | q :: L, Q, h, p, hp, hc => by
    rw [List.foldl_cons] at h
    obtain ⟨E, e⟩ := addU_ext (st := st) (an := an) (l := l) Q q
    obtain ⟨E', e'⟩ := foldU_ext (st := st) (an := an) (l := l) L (addU st an l Q q)
    have hE : E = [] := by
      have h1 := congrArg List.length h
      rw [e', e, List.length_append, List.length_append] at h1
      exact List.length_eq_zero_iff.mp (by omega)
    have h0 : addU st an l Q q = Q := by rw [e, hE, List.append_nil]
    rcases List.mem_cons.mp hp with rfl | hp
    · unfold addU at h0
      rw [if_pos hc] at h0
      refine Classical.byContradiction fun c => ?_
      rw [if_neg c] at h0
      have := congrArg List.length h0
      simp at this
    · rw [h0] at h
      exact foldU_same L Q h p hp hc
structure UI (st an : List (List Int)) (l : Nat) (Q : List (Nat × Nat)) : Prop where
  nd : Q.Nodup
  sm : Small st Q
  ok : ∀ p ∈ Q, ∃ k, lw st an l k p
theorem UI.add {Q : List (Nat × Nat)} (U : UI st an l Q) {p : Nat × Nat} (hp : p.1 < st.length ∧ p.2 < st.length) : UI st an l (addU st an l Q p) := by
  unfold addU
  split
  · rename_i c
    split
    · exact U
    · rename_i c2
      have hw : ∃ k, lw st an l k p := by
        rcases c with c | ⟨a, ha, c⟩
        · exact ⟨0, c⟩
        · obtain ⟨k, h⟩ := U.ok _ c
          exact ⟨k + 1, a, ha, h⟩
      refine ⟨?_, fun q hq => ?_, fun q hq => ?_⟩
      · rw [List.nodup_append]
        refine ⟨U.nd, by simp, fun a ha b hb e => c2 ?_⟩
        rw [List.mem_singleton.mp hb] at e
        exact e ▸ ha
      · rcases List.mem_append.mp hq with hq | hq
        · exact U.sm q hq
        · rw [List.mem_singleton.mp hq]; exact hp
      · rcases List.mem_append.mp hq with hq | hq
        · exact U.ok q hq
        · rw [List.mem_singleton.mp hq]; exact hw
  · exact U
theorem UI.foldA : ∀ (L Q : List (Nat × Nat)), UI st an l Q → Small st L → UI st an l (L.foldl (addU st an l) Q)
  | [], Q, U, _ => U
  | p :: L, Q, U, h => UI.foldA L (addU st an l Q p) (U.add (h p List.mem_cons_self)) fun q hq => h q (List.mem_cons_of_mem _ hq)
theorem UI.fold {L Q : List (Nat × Nat)} (U : UI st an l Q) (h : Small st L) : UI st an l (L.foldl (addU st an l) Q) := UI.foldA L Q U h
/-- nothing is lacking -/
def ClU (st an : List (List Int)) (l : Nat) (Q : List (Nat × Nat)) : Prop := ∀ p : Nat × Nat, p.1 < st.length → p.2 < st.length → cdU st an l Q p → p ∈ Q
theorem ClU.all (G : Good st an l) {Q : List (Nat × Nat)} (h : ClU st an l Q) : ∀ (k : Nat) (p : Nat × Nat), p.1 < st.length → p.2 < st.length → lw st an l k p → p ∈ Q
  | 0, p, h1, h2, w => h p h1 h2 (.inl w)
  | k + 1, p, h1, h2, ⟨a, ha, w⟩ => h p h1 h2 (.inr ⟨a, ha, ClU.all G h k _ (G.step h1 ha).1 (G.step h2 ha).1 w⟩)
theorem UI.iff (G : Good st an l) {Q : List (Nat × Nat)} (U : UI st an l Q) (h : ClU st an l Q) {s t : Nat} (hs : s < st.length) (ht : t < st.length) : (s, t) ∈ Q ↔ ¬ Al st an l s t := by
  constructor
  · intro hq z
    obtain ⟨k, w⟩ := U.ok _ hq
    exact z k w
  · intro z
    refine Classical.byContradiction fun c => z fun k w => c (h.all G k (s, t) hs ht w)
def ulEnv (M : D) (N : Nat) (Q : List (Nat × Nat)) (x3 x4 x5 x6 x7 : Sl) : SEnv := [.val M, .val (.int (N : Int)), .own (.dct true (dB Q)), x3, x4, x5, x6, x7]
theorem ul_one (G : Good st an l) {Q : List (Nat × Nat)} (U : UI st an l Q) (p : Nat × Nat) (h1 : p.1 < st.length) (h2 : p.2 < st.length) (N : Nat) (x3 x6 x7 : Sl) (h6 : isRow [x6] 0 = false) : ∃ x6', isRow [x6'] 0 = false ∧
    lb_n__law_unlike_1 (ulEnv (machT st an) N Q x3 (.val (.int (p.1 : Int))) (.val (.int (p.2 : Int))) x6 x7) = .nx (ulEnv (machT st an) N (addU st an l Q p) x3 (.val (.int (p.1 : Int))) (.val (.int (p.2 : Int))) x6' x7) := by
  have m0 := mach0 st an
  have m1 := mach1 st an
  have n1 := G.n1
  have l3 := G.l3
  have r0 := rows_at (rs := st) (s := 0) n1
  have z : ((0 : Nat) : Int) = 0 := rfl
  rw [z] at r0
  have el : lenN (.tup (iL (st.getD 0 []))) = .ok (.int (l : Int)) := by
    show (D.tup _).len = _
    rw [len_tup, iL_len, G.row n1]
  have r1 := rows_at (rs := st) h1
  have r2 := rows_at (rs := st) h2
  have s1 := rows_at (rs := an) (s := p.1) (by rw [G.same]; exact h1)
  have s2 := rows_at (rs := an) (s := p.2) (by rw [G.same]; exact h2)
  have hr := rng1_nat (m := l) (by omega)
  have l2 : (2 : Nat) ≤ lim := lim_big (by decide)
  have l0 : (0 : Nat) ≤ lim := Nat.zero_le _
  have hl : (rangeD 0 l).length ≤ lim := by rw [rangeD_len]; exact lim_big (by omega)
  have hne := ne_rows (an.getD p.1 []) (an.getD p.2 [])
  have lc : ∀ x1 x3 x6 : Option D, lcL (.nm 7) ct_n__law_unlike_1 ce_n__law_unlike_1 [some (machT st an), x1, some (.dct true (dB Q)), x3, some (.int (p.1 : Int)), some (.int (p.2 : Int)), x6, none] (rangeD 0 l) = .ok (wN ((List.range l).filter fun a => decide (beh st p a ∈ Q))) := by
    intro x1 x3 x6
    rw [rangeD_nat]
    refine lcL_fil1 (fun a => decide (beh st p a ∈ Q)) (List.range l) (fun a ha => ?_) fun a _ => rfl
    have ha := List.mem_range.mp ha
    have a1 := G.at0 h1 ha
    have a2 := G.at0 h2 ha
    have hin := inD_dB1 Q (beh st p a)
    have ek : (D.tup [.int (stepN st p.1 a : Nat), .int (stepN st p.2 a : Nat)]) = kp (beh st p a) := rfl
    generalize decide (beh st p a ∈ Q) = bb at *
    generalize machT st an = mm at *
    generalize rowsT st = rr at *
    generalize dB Q = DD at *
    simp [-ix_tup, -List.getD_eq_getElem?_getD, ct_n__law_unlike_1, m0, r1, r2, a1, a2, l2, ek, hin]
  have hpu : D.pureL (wN ((List.range l).filter fun a => decide (beh st p a ∈ Q))) = true := pureL_iff.mpr fun d hd => by
    obtain ⟨i, _, rfl⟩ := List.mem_map.mp hd
    rfl
  have hsome : D.ne (.lst (wN ((List.range l).filter fun a => decide (beh st p a ∈ Q)))) (.lst []) = .ok (.bl (decide (∃ a, a < l ∧ beh st p a ∈ Q))) := by
    rw [wN_iL, ne_nilI]
    congr 2
    rw [Bool.eq_iff_iff, decide_eq_true_iff]
    constructor
    · intro h
      have h1 : ((List.range l).filter fun a => decide (beh st p a ∈ Q)) ≠ [] := fun z => by rw [z] at h; simp at h
      obtain ⟨a, ha⟩ := List.exists_mem_of_ne_nil _ h1
      obtain ⟨g1, g2⟩ := List.mem_filter.mp ha
      exact ⟨a, List.mem_range.mp g1, of_decide_eq_true g2⟩
    · rintro ⟨a, ha, h⟩
      have : a ∈ (List.range l).filter fun a => decide (beh st p a ∈ Q) := List.mem_filter.mpr ⟨List.mem_range.mpr ha, decide_eq_true h⟩
      cases e : (List.range l).filter fun a => decide (beh st p a ∈ Q) with
      | nil => rw [e] at this; cases this
      | cons x y => rfl
  refine ⟨.val (.lst (wN ((List.range l).filter fun a => decide (beh st p a ∈ Q)))), rfl, ?_⟩
  have hput := put_dB Q p
  have hk := kp_ok p
  have hdl : (dB Q).length < lim := by
    have := small_len G U.nd U.sm
    unfold dB
    rw [List.length_map]
    exact lim_big' (by omega)
  have ekp : (D.tup [.int (p.1 : Int), .int (p.2 : Int)]) = kp p := rfl
  have hpu2 : purC (.lst (wN ((List.range l).filter fun a => decide (beh st p a ∈ Q)))) = true := hpu
  generalize wN ((List.range l).filter fun a => decide (beh st p a ∈ Q)) = W at *
  unfold ulEnv
  by_cases c : cdU st an l Q p
  · have ea : addU st an l Q p = if p ∈ Q then Q else Q ++ [p] := by unfold addU; rw [if_pos c]
    rw [ea, ← hput]
    clear ea hput
    generalize dB Q = DD at *
    generalize machT st an = mm at *
    generalize rowsT st = rr at *
    generalize rowsT an = ra at *
    generalize D.tup (iL (st.getD 0 [])) = t0 at *
    generalize D.tup (iL (an.getD p.1 [])) = t1 at *
    generalize D.tup (iL (an.getD p.2 [])) = t2 at *
    simp at h6
    unfold cdU at c
    by_cases c1 : an.getD p.1 [] = an.getD p.2 []
    · have c2 : ∃ a, a < l ∧ beh st p a ∈ Q := c.resolve_left fun z => z c1
      rw [decide_eq_true c1] at hne
      rw [decide_eq_true c2] at hsome
      simp [-ix_tup, -len_tup, -List.getD_eq_getElem?_getD, lb_n__law_unlike_1, dputO, m0, m1, r0, el, hr, hl, lc, hpu, hpu2, s1, s2, hne, hsome, l0, l2, ekp, hk, hdl, h6]
    · rw [decide_eq_false c1] at hne
      simp [-ix_tup, -len_tup, -List.getD_eq_getElem?_getD, lb_n__law_unlike_1, dputO, m0, m1, r0, el, hr, hl, lc, hpu, hpu2, s1, s2, hne, l0, l2, ekp, hk, hdl, h6]
  · have ea : addU st an l Q p = Q := by unfold addU; rw [if_neg c]
    rw [ea]
    clear ea hput
    have c1 : an.getD p.1 [] = an.getD p.2 [] := Classical.byContradiction fun z => c (.inl z)
    have c2 : ¬ ∃ a, a < l ∧ beh st p a ∈ Q := fun z => c (.inr z)
    rw [decide_eq_true c1] at hne
    rw [decide_eq_false c2] at hsome
    generalize dB Q = DD at *
    generalize machT st an = mm at *
    generalize rowsT st = rr at *
    generalize rowsT an = ra at *
    generalize D.tup (iL (st.getD 0 [])) = t0 at *
    generalize D.tup (iL (an.getD p.1 [])) = t1 at *
    generalize D.tup (iL (an.getD p.2 [])) = t2 at *
    simp at h6
    simp [-ix_tup, -len_tup, -List.getD_eq_getElem?_getD, lb_n__law_unlike_1, m0, m1, r0, el, hr, hl, lc, hpu, hpu2, s1, s2, hne, hsome, l0, l2, h6]
/-- a state's row of pairs -/
theorem ul_row (G : Good st an l) (s : Nat) (hs : s < st.length) (N : Nat) (x3 x7 : Sl) : ∀ (L : List Nat) (Q : List (Nat × Nat)) (x5 x6 : Sl), (∀ t ∈ L, t < st.length) → UI st an l Q → isRow [x5] 0 = false → isRow [x6] 0 = false → ∃ x5' x6', isRow [x5'] 0 = false ∧ isRow [x6'] 0 = false ∧
    loopO (.nm 5) lb_n__law_unlike_1 (wN L) (ulEnv (machT st an) N Q x3 (.val (.int (s : Int))) x5 x6 x7) = .nx (ulEnv (machT st an) N ((L.map fun t => (s, t)).foldl (addU st an l) Q) x3 (.val (.int (s : Int))) x5' x6' x7)
  | [], Q, x5, x6, _, _, h5, h6 => ⟨x5, x6, h5, h6, rfl⟩
  | t :: L, Q, x5, x6, hL, U, h5, h6 => by
    have ht := hL t List.mem_cons_self
    obtain ⟨y6, g6, e⟩ := ul_one G U (s, t) hs ht N x3 x6 x7 h6
    obtain ⟨x5', x6', g5, g6', ih⟩ := ul_row G s hs N x3 x7 L (addU st an l Q (s, t)) (.val (.int (t : Int))) y6 (fun u hu => hL u (List.mem_cons_of_mem _ hu)) (U.add ⟨hs, ht⟩) rfl g6
    refine ⟨x5', x6', g5, g6', ?_⟩
    have eb : bindT (ulEnv (machT st an) N Q x3 (.val (.int (s : Int))) x5 x6 x7) (.nm 5) (.int (t : Int)) = some (ulEnv (machT st an) N Q x3 (.val (.int (s : Int))) (.val (.int (t : Int))) x6 x7) := by
      unfold ulEnv
      generalize dB Q = DD at *
      generalize machT st an = mm at *
      simp at h5
      simp [h5]
    have ew : wN (t :: L) = .int (t : Int) :: wN L := rfl
    rw [ew, loopO_cons, eb]
    show (lb_n__law_unlike_1 _).turn _ = _
    rw [e]
    exact ih
/-- a round -/
theorem ul_rows (G : Good st an l) (x3 x7 : Sl) : ∀ (R : List Nat) (Q : List (Nat × Nat)) (x4 x5 x6 : Sl), (∀ t ∈ R, t < st.length) → UI st an l Q → isRow [x4] 0 = false → isRow [x5] 0 = false → isRow [x6] 0 = false → ∃ x4' x5' x6', isRow [x4'] 0 = false ∧ isRow [x5'] 0 = false ∧ isRow [x6'] 0 = false ∧
    loopO (.nm 4) lb_n__law_unlike_2 (wN R) (ulEnv (machT st an) st.length Q x3 x4 x5 x6 x7) = .nx (ulEnv (machT st an) st.length ((prs st.length R).foldl (addU st an l) Q) x3 x4' x5' x6' x7)
  | [], Q, x4, x5, x6, _, _, h4, h5, h6 => ⟨x4, x5, x6, h4, h5, h6, rfl⟩
  | s :: R, Q, x4, x5, x6, hR, U, h4, h5, h6 => by
    have hs := hR s List.mem_cons_self
    have n6 := G.n6
    obtain ⟨y5, y6, g5, g6, e⟩ := ul_row G s hs st.length x3 x7 (List.range st.length) Q x5 x6 (fun t ht => List.mem_range.mp ht) U h5 h6
    have hsm : Small st ((List.range st.length).map fun t => (s, t)) := fun p hp => by
      obtain ⟨t, ht, rfl⟩ := List.mem_map.mp hp
      exact ⟨hs, List.mem_range.mp ht⟩
    obtain ⟨x4', x5', x6', g4, g5', g6', ih⟩ := ul_rows G x3 x7 R _ (.val (.int (s : Int))) y5 y6 (fun u hu => hR u (List.mem_cons_of_mem _ hu)) (U.fold hsm) rfl g5 g6
    refine ⟨x4', x5', x6', g4, g5', g6', ?_⟩
    have eb : bindT (ulEnv (machT st an) st.length Q x3 x4 x5 x6 x7) (.nm 4) (.int (s : Int)) = some (ulEnv (machT st an) st.length Q x3 (.val (.int (s : Int))) x5 x6 x7) := by
      unfold ulEnv
      generalize dB Q = DD at *
      generalize machT st an = mm at *
      simp at h4
      simp [h4]
    have ew : wN (s :: R) = .int (s : Int) :: wN R := rfl
    have hr := rng1_nat (m := st.length) (by omega)
    have e2 : lb_n__law_unlike_2 (ulEnv (machT st an) st.length Q x3 (.val (.int (s : Int))) x5 x6 x7) = .nx (ulEnv (machT st an) st.length (((List.range st.length).map fun t => (s, t)).foldl (addU st an l) Q) x3 (.val (.int (s : Int))) y5 y6 x7) := by
      unfold lb_n__law_unlike_2
      refine forO_run (ds := wN (List.range st.length)) ?_ e
      have er : rangeD 0 st.length = wN (List.range st.length) := rangeD_nat _
      rw [← er]
      simp [ulEnv, hr]
    rw [ew, loopO_cons, eb, prs_cons, List.foldl_append]
    show (lb_n__law_unlike_2 _).turn _ = _
    rw [e2]
    exact ih
def ulInv (st an : List (List Int)) (l : Nat) (i : Nat) (ρ : SEnv) : Prop := ∃ Q x3 x4 x5 x6, ρ = ulEnv (machT st an) st.length Q x3 x4 x5 x6 .dead ∧ isRow [x3] 0 = false ∧ isRow [x4] 0 = false ∧ isRow [x5] 0 = false ∧ isRow [x6] 0 = false ∧ UI st an l Q ∧ (ClU st an l Q ∨ i ≤ Q.length)
theorem small_prs (st : List (List Int)) : Small st (prs st.length (List.range st.length)) := fun p hp => ⟨List.mem_range.mp (prs_mem.mp hp).1, (prs_mem.mp hp).2⟩
theorem ul_turn (G : Good st an l) (i : Nat) (ρ : SEnv) (h : ulInv st an l i ρ) : ∃ ρ', lb_n__law_unlike_3 (ρ.set 3 (.val (.int (i : Int)))) = .nx ρ' ∧ ulInv st an l (i + 1) ρ' := by
  obtain ⟨Q, x3, x4, x5, x6, rfl, h3, h4, h5, h6, U, hc⟩ := h
  have n6 := G.n6
  obtain ⟨x4', x5', x6', g4, g5, g6, e⟩ := ul_rows G (.val (.int (i : Int))) .dead (List.range st.length) Q x4 x5 x6 (fun t ht => List.mem_range.mp ht) U h4 h5 h6
  have hr := rng1_nat (m := st.length) (by omega)
  have e0 : lb_n__law_unlike_3 ((ulEnv (machT st an) st.length Q x3 x4 x5 x6 .dead).set 3 (.val (.int (i : Int)))) = .nx (ulEnv (machT st an) st.length ((prs st.length (List.range st.length)).foldl (addU st an l) Q) (.val (.int (i : Int))) x4' x5' x6' .dead) := by
    have es : (ulEnv (machT st an) st.length Q x3 x4 x5 x6 .dead).set 3 (.val (.int (i : Int))) = ulEnv (machT st an) st.length Q (.val (.int (i : Int))) x4 x5 x6 .dead := rfl
    rw [es]
    unfold lb_n__law_unlike_3
    refine forO_run (ds := wN (List.range st.length)) ?_ e
    have er : rangeD 0 st.length = wN (List.range st.length) := rangeD_nat _
    rw [← er]
    simp [ulEnv, hr]
  refine ⟨_, e0, _, _, _, _, _, rfl, rfl, g4, g5, g6, U.fold (small_prs st), ?_⟩
  · by_cases c : (prs st.length (List.range st.length)).foldl (addU st an l) Q = Q
    · refine .inl ?_
      rw [c]
      exact fun p p1 p2 z => foldU_same _ Q c p (prs_mem.mpr ⟨List.mem_range.mpr p1, p2⟩) z
    · obtain ⟨E, eE⟩ := foldU_ext (st := st) (an := an) (l := l) (prs st.length (List.range st.length)) Q
      rcases hc with hc | hc
      · refine .inl fun p p1 p2 z => ?_
        have key : ∀ (L : List (Nat × Nat)), Small st L → L.foldl (addU st an l) Q = Q := by
          intro L
          induction L with
          | nil => exact fun _ => rfl
          | cons q L ih =>
            intro hL
            have hq := hL q List.mem_cons_self
            have : addU st an l Q q = Q := by
              unfold addU
              split
              · rename_i z
                rw [if_pos (hc q hq.1 hq.2 z)]
              · rfl
            rw [List.foldl_cons, this]
            exact ih fun r hr => hL r (List.mem_cons_of_mem _ hr)
        exact absurd (key _ (small_prs st)) c
      · refine .inr ?_
        rw [eE, List.length_append]
        have : E ≠ [] := fun z => c (by rw [eE, z, List.append_nil])
        have := List.length_pos_iff.mpr this
        omega
theorem F_law_unlike (G : Good st an l) : ∃ Q, F_n__law_unlike [machT st an] = .ok (.dct true (dB Q)) ∧ ∀ s t, s < st.length → t < st.length → ((s, t) ∈ Q ↔ ¬ Al st an l s t) := by
  have n6 := G.n6
  have m0 := mach0 st an
  have el := len_rows1 st
  have hmul : D.mul (.int (st.length : Int)) (.int (st.length : Int)) = .ok (.int ((st.length * st.length : Nat) : Int)) := mul_nat (Nat.lt_of_le_of_lt n6 (by decide +kernel)) (Nat.lt_of_le_of_lt n6 (by decide +kernel))
  have hnn : st.length * st.length ≤ 36 := Nat.mul_le_mul n6 n6
  have hr := rng1_nat (m := st.length * st.length + 1) (by omega)
  obtain ⟨ρ', e, Q, x3, x4, x5, x6, rfl, _, _, _, _, U, hc⟩ := loop_up (Inv := ulInv st an l) (v := 3) (g := lb_n__law_unlike_3) (fun i ρ hI => by
    obtain ⟨Q, x3, x4, x5, x6, e, h3, h4, h5, h6, U, hc⟩ := hI
    refine ⟨?_, ul_turn G i ρ ⟨Q, x3, x4, x5, x6, e, h3, h4, h5, h6, U, hc⟩⟩
    rw [e]
    exact h3) (st.length * st.length + 1) 0 (ulEnv (machT st an) st.length [] .dead .dead .dead .dead .dead) ⟨[], .dead, .dead, .dead, .dead, rfl, rfl, rfl, rfl, rfl, ⟨List.nodup_nil, (fun p hp => by cases hp), (fun p hp => by cases hp)⟩, .inr (Nat.le_refl _)⟩
  rw [Nat.zero_add] at hc
  have hcl : ClU st an l Q := by
    rcases hc with hc | hc
    · exact hc
    · have h := U.nd.length_le_of_subset (l₂ := prs st.length (List.range st.length)) fun p hp => prs_mem.mpr ⟨List.mem_range.mpr (U.sm p hp).1, (U.sm p hp).2⟩
      rw [prs_len, List.length_range] at h
      omega
  refine ⟨Q, ?_, fun s t hs ht => U.iff G hcl hs ht⟩
  have ef : F_n__law_unlike [machT st an] = (g_n__law_unlike [.val (machT st an), .dead, .dead, .dead, .dead, .dead, .dead, .dead]).fin := rfl
  rw [ef]
  unfold g_n__law_unlike
  have t1 : (parO [1, 2] (kCons (hV (app (on1 lenN) (consA (bin D.ix (fun ρ => vr ρ 0) (fun _ => .ok (.int 0))) nilA))) (kCons (hNV (fun _ => .ok (.dct true []))) kNil))) ([.val (machT st an), .dead, .dead, .dead, .dead, .dead, .dead, .dead] : SEnv) = .nx (ulEnv (machT st an) st.length [] .dead .dead .dead .dead .dead) := by
    have : dB [] = [] := rfl
    unfold ulEnv
    rw [this]
    generalize machT st an = mm at *
    generalize rowsT st = rr at *
    simp [-ix_tup, -len_tup, m0, el]
  have t2 : (forO (itL rng1L (consA (bin D.add (bin D.mul (fun ρ => vr ρ 1) (fun ρ => vr ρ 1)) (fun _ => .ok (.int 1))) nilA)) (.nm 3) lb_n__law_unlike_3) (ulEnv (machT st an) st.length [] .dead .dead .dead .dead .dead) = .nx (ulEnv (machT st an) st.length Q x3 x4 x5 x6 .dead) := by
    refine forO_run (ds := rangeD 0 (st.length * st.length + 1)) ?_ e
    have ec : ((st.length * st.length + 1 : Nat) : Int) = ((st.length * st.length : Nat) : Int) + 1 := by omega
    rw [ec] at hr
    unfold ulEnv
    generalize dB [] = DD at *
    generalize ((st.length * st.length : Nat) : Int) = qq at *
    generalize st.length * st.length + 1 = qm at *
    simp [hmul, hr]
  rw [fin_step t1, fin_step t2]
  unfold ulEnv
  generalize dB Q = DD at *
  simp
end
end Lw
end
set_option Elab.async false
set_option linter.all false
set_option autoImplicit false
set_option maxRecDepth 100000
set_option maxHeartbeats 1000000
/-! plain: k01, the whole -/
noncomputable section
namespace Lw
open PySem Fw
variable {st an : List (List Int)} {l : Nat}
theorem tkd1 {r : Fw.Env} {fn : Fw.Env → Res D} {n : Nat} (hr : r[1]? = some (some .row)) (hn : fn r = .ok (.int (n : Int))) (h : 0 < n) (h2 : n ≤ 1000000) : GR (fun d => ∃ k : Nat, d = .int (k : Int) ∧ k < n) (app (callF 2 F_n__law_taken) (consA (fun ρ => vr ρ 1) (consA fn nilA)) r) := by
  have e : app (callF 2 F_n__law_taken) (consA (fun ρ => vr ρ 1) (consA fn nilA)) r = .dr (n : Int) fun i => .ok (.int i) := by
    simp [hr, hn, taken_ok (n : Int) (by omega) (by omega)]
  exact GR.eq e (GR.dr fun i hi => .ok ⟨i, rfl, by omega⟩)
def A1 (sc M L tn at_ sa wd ap fi od th ln du : Sl) : SEnv := [sc, .val .row, M, L, tn, at_, sa, wd, ap, fi, od, th, ln, du, .dead, .dead]
def nr1 (s : Sl) : Prop := isRow [s] 0 = false
def vI1 (n : Nat) : Sl := .val (.int (n : Int))
theorem F_answers (G : Good st an l) {s : Nat} (hs : s < st.length) {w : List Nat} (hw : ∀ a ∈ w, a < l) (hl : w.length ≤ 4000) : F_n_answers [machT st an, .int (s : Nat), .tup (wN w)] = .ok (.tup (iL (saidN st an s w))) := by
  have c1 := F_need_machine G
  have m0 := mach0 st an
  have el := len_rows1 st
  have en : iL (w.map fun (x : Nat) => (x : Int)) = wN w := by
    unfold iL wN
    rw [List.map_map]
    rfl
  have c3 := F_need_word G (w.map fun (x : Nat) => (x : Int)) (by rw [List.length_map]; exact hl) fun v hv => by
    obtain ⟨a, ha, rfl⟩ := List.mem_map.mp hv
    have := hw a ha
    omega
  rw [en] at c3
  have c2 : F_n_need_state [machT st an, .int (s : Nat)] = .ok .non := by
    have hh := F_is_number (s : Int) 0 ((st.length : Int) - 1)
    have h1 : (s : Int) ≤ (st.length : Int) - 1 := by omega
    generalize machT st an = mm at *
    generalize rowsT st = rr at *
    simp [-ix_tup, -len_tup, F_n_need_state, g_n_need_state, start0, m0, el, hh, h1]
  have e := F_told G hs hw hl
  generalize machT st an = mm at *
  generalize D.tup (wN w) = W at *
  simp [F_n_answers, g_n_answers, start0, c1, c2, c3, e]
def tInv (sc M L : Sl) (ρ : SEnv) : Prop := ∃ tn sa wd, ρ = A1 sc M L tn .dead sa wd .dead .dead .dead .dead .dead .dead ∧ nr1 tn ∧ nr1 sa ∧ nr1 wd
theorem turn1 (G : Good st an l) (sc : Sl) (i : Nat) (ρ : SEnv) (h : tInv sc (.val (machT st an)) (vI1 l) ρ) : isRow ρ 4 = false ∧ GO (tInv sc (.val (machT st an)) (vI1 l)) (lb_n_law_1 (ρ.set 4 (.val (.int (i : Int))))) := by
  obtain ⟨tn, sa, wd, rfl, h4, h6, h7⟩ := h
  refine ⟨h4, ?_⟩
  have n1 := G.n1
  have n6 := G.n6
  have l1 := G.l1
  have l3 := G.l3
  have m0 := mach0 st an
  have el := len_rows1 st
  have es : (A1 sc (.val (machT st an)) (vI1 l) tn .dead sa wd .dead .dead .dead .dead .dead .dead).set 4 (.val (.int (i : Int))) = A1 sc (.val (machT st an)) (vI1 l) (vI1 i) .dead sa wd .dead .dead .dead .dead .dead .dead := rfl
  rw [es]
  unfold lb_n_law_1
  refine GO.seq (P := fun ρ => ∃ (s : Nat) (w : List Nat), ρ = A1 sc (.val (machT st an)) (vI1 l) (vI1 i) .dead (vI1 s) (.val (.tup (wN w))) .dead .dead .dead .dead .dead .dead ∧ s < st.length ∧ w.length < 8 ∧ ∀ a ∈ w, a < l) ⟨AllO.par (AllOk.kcons (tkd1 (n := st.length) rfl ?_ (by omega) (by omega)).run fun d1 ⟨s, e1, hs⟩ => AllOk.kcons (GR.word (Q := fun m => m < 8) (fun m h => by omega) (GR.rng (fun m h => by omega) (tkd1 (n := 8) rfl rfl (by decide) (by decide))) fun d => tkd1 (n := l) rfl rfl (by omega) (by omega)).run fun d2 ⟨w, e2, hq, hw⟩ => AllOk.knil ?_)⟩ ?_
  · generalize machT st an = mm at *
    generalize rowsT st = rr at *
    simp [-ix_tup, -len_tup, A1, m0, el]
  · subst e1 e2
    refine ⟨_, ?_, s, w, rfl, hs, hq, hw⟩
    unfold nr1 at h6 h7
    simp at h6 h7
    simp [A1, vI1, h6, h7]
  · rintro ρ ⟨s, w, rfl, hs, hq, hw⟩
    have e1 := F_answers G hs hw (by omega)
    have e2 := F_law_told G hs hw (by omega)
    have al := alike_iL 6 (saidN st an s w) (.tup (iL (saidN st an s w))) (.inl rfl) (by rw [saidN_len]; omega)
    refine GO.of (ρ := A1 sc (.val (machT st an)) (vI1 l) (vI1 i) .dead (vI1 s) (.val (.tup (wN w))) .dead .dead .dead .dead .dead .dead) ?_ ⟨_, _, _, rfl, rfl, rfl, rfl⟩
    generalize D.tup (iL (saidN st an s w)) = Y at *
    generalize D.tup (wN w) = W at *
    generalize machT st an = mm at *
    simp [A1, vI1, e1, e2, al]
/-! the states, one of each kind -/
def qOk (st an : List (List Int)) (l : Nat) (Q : List (Nat × Nat)) : Prop := ∀ s t, s < st.length → t < st.length → ((s, t) ∈ Q ↔ ¬ Al st an l s t)
theorem o_in {Q : List (Nat × Nat)} (hQ : qOk st an l Q) (F : List Nat) (hF : ∀ s ∈ F, s < st.length) (hl : F.length ≤ 100) (t : Nat) (ht : t < st.length) (sc M L tn at_ sa wd fi ln du : Sl) :
    lb_n_law_2 (A1 sc M L tn at_ sa wd (.val (.dct true (dB Q))) fi (.own (.lst (wN F))) (vI1 t) ln du) = .nx (A1 sc M L tn at_ sa wd (.val (.dct true (dB Q))) fi (.own (.lst (wN (addA (Al st an l) F t)))) (vI1 t) ln du) := by
  have l2 : (2 : Nat) ≤ lim := lim_big (by decide)
  have l0 : (0 : Nat) ≤ lim := Nat.zero_le _
  have hFl : (wN F).length ≤ lim := by rw [wN_len]; exact lim_big (by omega)
  have hFl2 : (wN F).length < lim := by rw [wN_len]; exact lim_big' (by omega)
  have lc : ∀ x0 x1 x2 x3 x4 x5 x6 x7 x9 x10 x12 x13 x15 : Option D, lcL (.nm 14) ct_n_law_1 ce_n_law_2 [x0, x1, x2, x3, x4, x5, x6, x7, some (.dct true (dB Q)), x9, x10, some (.int (t : Int)), x12, x13, none, x15] (wN F) = .ok (wN (F.filter fun s => !decide ((s, t) ∈ Q))) := by
    intro x0 x1 x2 x3 x4 x5 x6 x7 x9 x10 x12 x13 x15
    refine lcL_fil1 (fun s => !decide ((s, t) ∈ Q)) F (fun s hs => ?_) fun s _ => rfl
    have hin := ninD_dB1 Q (s, t)
    have ek : (D.tup [.int (s : Int), .int (t : Int)]) = kp (s, t) := rfl
    generalize decide ((s, t) ∈ Q) = bb at *
    generalize dB Q = DD at *
    simp [ct_n_law_1, l2, ek, hin]
  have hne : D.eq (.lst (wN (F.filter fun s => !decide ((s, t) ∈ Q)))) (.lst []) = .ok (.bl ((F.filter fun s => !decide ((s, t) ∈ Q)).isEmpty)) := by
    rw [wN_iL]
    rw [eq_fl (fl_iL _) (Fl.lst 0 [] (fun d hd => by cases hd))]
    cases F.filter fun s => !decide ((s, t) ∈ Q) with
    | nil => simp [iL]
    | cons x y => simp [iL]
  have hb : (F.filter fun s => !decide ((s, t) ∈ Q)).isEmpty = true ↔ ¬ hasA (Al st an l) F t := by
    rw [List.isEmpty_iff, List.filter_eq_nil_iff]
    constructor
    · rintro h ⟨s, hs, ha⟩
      refine h s hs ?_
      have : (s, t) ∉ Q := fun z => (hQ s t (hF s hs) ht).mp z ha
      simp [this]
    · intro h s hs z
      have hq : (s, t) ∉ Q := by simpa using z
      exact h ⟨s, hs, Classical.byContradiction fun y => hq ((hQ s t (hF s hs) ht).mpr y)⟩
  by_cases c : hasA (Al st an l) F t
  · have ea : addA (Al st an l) F t = F := by unfold addA; rw [if_pos c]
    have hf : (F.filter fun s => !decide ((s, t) ∈ Q)).isEmpty = false := by
      cases q : (F.filter fun s => !decide ((s, t) ∈ Q)).isEmpty with
      | false => rfl
      | true => exact absurd c (hb.mp q)
    rw [hf] at hne
    rw [ea]
    generalize wN (F.filter fun s => !decide ((s, t) ∈ Q)) = W at *
    generalize wN F = WF at *
    generalize dB Q = DD at *
    simp [A1, vI1, lb_n_law_2, hFl, lc, hne, l0]
  · have ea : addA (Al st an l) F t = F ++ [t] := by unfold addA; rw [if_neg c]
    have hf := hb.mpr c
    rw [hf] at hne
    rw [ea]
    have ew : wN (F ++ [t]) = wN F ++ [.int (t : Int)] := by simp [wN]
    rw [ew]
    generalize wN (F.filter fun s => !decide ((s, t) ∈ Q)) = W at *
    generalize wN F = WF at *
    generalize dB Q = DD at *
    simp [A1, vI1, lb_n_law_2, hFl, hFl2, lc, hne, l0]
theorem o_row {Q : List (Nat × Nat)} (hQ : qOk st an l Q) (sc M L tn at_ sa wd fi ln du : Sl) : ∀ (T F : List Nat) (th : Sl), nr1 th → (∀ t ∈ T, t < st.length) → (∀ s ∈ F, s < st.length) → F.length + T.length ≤ 100 → ∃ th', nr1 th' ∧
    loopO (.nm 11) lb_n_law_2 (wN T) (A1 sc M L tn at_ sa wd (.val (.dct true (dB Q))) fi (.own (.lst (wN F))) th ln du) = .nx (A1 sc M L tn at_ sa wd (.val (.dct true (dB Q))) fi (.own (.lst (wN (T.foldl (addA (Al st an l)) F)))) th' ln du)
  | [], F, th, h, _, _, _ => ⟨th, h, rfl⟩
  | t :: T, F, th, h, hT, hF, hl => by
    have hl' : F.length + (T.length + 1) ≤ 100 := hl
    have ht := hT t List.mem_cons_self
    have e := o_in hQ F hF (by omega) t ht sc M L tn at_ sa wd fi ln du
    have al := addA_len (A := Al st an l) F t
    obtain ⟨th', h', ih⟩ := o_row hQ sc M L tn at_ sa wd fi ln du T (addA (Al st an l) F t) (vI1 t) rfl (fun u hu => hT u (List.mem_cons_of_mem _ hu)) (fun s hs => fold_lt (t :: T) F hT hF s hs (by simp)) (by omega)
    refine ⟨th', h', ?_⟩
    have eb : bindT (A1 sc M L tn at_ sa wd (.val (.dct true (dB Q))) fi (.own (.lst (wN F))) th ln du) (.nm 11) (.int (t : Int)) = some (A1 sc M L tn at_ sa wd (.val (.dct true (dB Q))) fi (.own (.lst (wN F))) (vI1 t) ln du) := by
      generalize wN F = WF at *
      generalize dB Q = DD at *
      unfold nr1 at h
      simp at h
      simp [A1, vI1, h]
    have ew : wN (t :: T) = .int (t : Int) :: wN T := rfl
    rw [ew, loopO_cons, eb, List.foldl_cons]
    show (lb_n_law_2 _).turn _ = _
    rw [e]
    exact ih
theorem o_while (G : Good st an l) {Q : List (Nat × Nat)} (hQ : qOk st an l Q) (sc L tn sa wd fi ln du : Sl) : ∀ (fuel k : Nat) (F : List Nat) (th : Sl), 8 < fuel + k → k ≤ F.length → nr1 th → LI (Al st an l) st l F k → ∃ (F' : List Nat) (k' : Nat) (th' : Sl), nr1 th' ∧
    whileO wt_n_law_1 wb_n_law_1 fuel (A1 sc (.val (machT st an)) L tn (vI1 k) sa wd (.val (.dct true (dB Q))) fi (.own (.lst (wN F))) th ln du) = .nx (A1 sc (.val (machT st an)) L tn (vI1 k') sa wd (.val (.dct true (dB Q))) fi (.own (.lst (wN F'))) th' ln du) ∧ Grow (Al st an l) st l F k F'
  | 0, k, F, th, hf, hk, h, I => by
    have n6 := G.n6
    have hl := I.len Al.all
    omega
  | fuel + 1, k, F, th, hf, hk, h, I => by
    have n6 := G.n6
    have l3 := G.l3
    have hl := I.len Al.all
    have ht : wt_n_law_1 (SEnv.all (A1 sc (.val (machT st an)) L tn (vI1 k) sa wd (.val (.dct true (dB Q))) fi (.own (.lst (wN F))) th ln du)) = .ok (decide ((k : Int) < (F.length : Int))) := by
      have h1 : lenN (.lst (wN F)) = .ok (.int (F.length : Int)) := by simp [wN_len]
      generalize wN F = WF at *
      generalize dB Q = DD at *
      simp [-len_lst, A1, vI1, wt_n_law_1, h1]
    rw [whileO_succ, ht, bindO_ok]
    by_cases c : k < F.length
    · have e : decide ((k : Int) < (F.length : Int)) = true := decide_eq_true (by omega)
      have hs : F.getD k 0 < st.length := I.lt _ (getD_mem c)
      obtain ⟨th', h', el⟩ := o_row hQ sc (.val (machT st an)) L tn (vI1 k) sa wd fi ln du (succs st l (F.getD k 0)) F th h (succs_in G hs) I.lt (by rw [succs_len]; omega)
      have t2 : itemsP (bin D.ix (bin D.ix (fun ρ => vr ρ 2) (fun _ => .ok (.int 0))) (bin D.ix (fun ρ => vr ρ 10) (fun ρ => vr ρ 5))) (SEnv.all (A1 sc (.val (machT st an)) L tn (vI1 k) sa wd (.val (.dct true (dB Q))) fi (.own (.lst (wN F))) th ln du)) = .ok (wN (succs st l (F.getD k 0))) := by
        have m0 := mach0 st an
        have r1 := rows_at (rs := st) hs
        have hp' : D.pureL (iL (st.getD (F.getD k 0) [])) = true := pureL_iff.mpr fun d hd => by
          obtain ⟨i, _, rfl⟩ := List.mem_map.mp hd
          rfl
        have hp : (D.tup (iL (st.getD (F.getD k 0) []))).pure = true := hp'
        have hix : (D.lst (wN F)).ix (.int (k : Int)) = .ok (.int (F.getD k 0 : Nat)) := by
          rw [ix_lst]
          refine ixG_nat ?_
          unfold wN
          rw [List.getElem?_map, List.getElem?_eq_getElem c]
          simp [List.getD_eq_getElem?_getD, List.getElem?_eq_getElem c]
        rw [← succs_row G hs]
        clear el
        generalize wN F = WF at *
        generalize dB Q = DD at *
        generalize machT st an = mm at *
        generalize rowsT st = rr at *
        generalize iL (st.getD (F.getD k 0) []) = W1 at *
        generalize F.getD k 0 = fk at *
        simp [-ix_lst, -ix_tup, -len_lst, A1, vI1, itemsP, m0, r1, hix, hp, hp']
      have I' := I.next G Al.all c
      obtain ⟨E, eE⟩ := foldA_ext (A := Al st an l) (succs st l (F.getD k 0)) F
      obtain ⟨F', k', th'', h'', e2, g2⟩ := o_while G hQ sc L tn sa wd fi ln du fuel (k + 1) _ th' (by omega) (by rw [eE, List.length_append]; omega) h' I'
      refine ⟨F', k', th'', h'', ?_, .go c g2⟩
      rw [e]
      have eb : wb_n_law_1 (A1 sc (.val (machT st an)) L tn (vI1 k) sa wd (.val (.dct true (dB Q))) fi (.own (.lst (wN F))) th ln du) = .nx (A1 sc (.val (machT st an)) L tn (vI1 (k + 1)) sa wd (.val (.dct true (dB Q))) fi (.own (.lst (wN ((succs st l (F.getD k 0)).foldl (addA (Al st an l)) F)))) th' ln du) := by
        unfold wb_n_law_1
        rw [seqO_eq]
        have t3 : forRO (itemsP (bin D.ix (bin D.ix (fun ρ => vr ρ 2) (fun _ => .ok (.int 0))) (bin D.ix (fun ρ => vr ρ 10) (fun ρ => vr ρ 5)))) (.nm 11) lb_n_law_2 (A1 sc (.val (machT st an)) L tn (vI1 k) sa wd (.val (.dct true (dB Q))) fi (.own (.lst (wN F))) th ln du) = .nx (A1 sc (.val (machT st an)) L tn (vI1 k) sa wd (.val (.dct true (dB Q))) fi (.own (.lst (wN ((succs st l (F.getD k 0)).foldl (addA (Al st an l)) F)))) th' ln du) := by
          unfold forRO
          rw [t2, bindO_ok]
          exact el
        rw [t3, then_nx]
        generalize wN ((succs st l (F.getD k 0)).foldl (addA (Al st an l)) F) = WF at *
        generalize dB Q = DD at *
        simp [A1, vI1]
      simp only [if_true, eb]
      exact e2
    · have e : decide ((k : Int) < (F.length : Int)) = false := decide_eq_false (by omega)
      rw [e]
      exact ⟨F, k, th, h, rfl, .stop (by omega)⟩
/-! the due machine -/
theorem first_ix {A : Nat → Nat → Prop} {F : List Nat} {t : Nat} (p : Nat → Bool) (h : hasA A F t) (hp : ∀ i, i < F.length → (p i = true ↔ A (F.getD i 0) t)) : (D.lst (wN ((List.range F.length).filter p))).ix (.int 0) = .ok (.int (idA A F t : Nat)) := by
  have low : ∀ (F : List Nat) (j : Nat), j < idA A F t → ¬ A (F.getD j 0) t := by
    intro F
    induction F with
    | nil => exact fun j hj => absurd hj (Nat.not_lt_zero _)
    | cons s F ih =>
      intro j hj
      have ei : idA A (s :: F) t = @ite Nat (A s t) (Classical.propDecidable _) 0 (idA A F t + 1) := rfl
      by_cases c : A s t
      · rw [ei, if_pos c] at hj
        exact absurd hj (Nat.not_lt_zero _)
      · rw [ei, if_neg c] at hj
        cases j with
        | zero => exact c
        | succ j => exact ih j (by omega)
  have hlt := idA_lt h
  have hh : ((List.range F.length).filter p).head? = some (idA A F t) := by
    rw [List.head?_filter, List.find?_range_eq_some]
    refine ⟨(hp _ hlt).mpr (idA_at h), List.mem_range.mpr hlt, fun j hj => ?_⟩
    cases q : p j with
    | false => rfl
    | true => exact absurd ((hp j (by omega)).mp q) (low F j hj)
  cases e : (List.range F.length).filter p with
  | nil => rw [e] at hh; cases hh
  | cons x y =>
    rw [e] at hh
    cases hh
    rw [ix_lst]
    exact ixG_zero
theorem l_in {Q : List (Nat × Nat)} (hQ : qOk st an l Q) (F : List Nat) (hF : ∀ s ∈ F, s < st.length) (hl : F.length ≤ 100) (t : Nat) (ht : t < st.length) (hA : hasA (Al st an l) F t) (X : List Int) (hX : X.length ≤ 100) (sc M L tn at_ sa wd fi du : Sl) :
    lb_n_law_3 (A1 sc M L tn at_ sa wd (.val (.dct true (dB Q))) fi (.val (.lst (wN F))) (vI1 t) (.own (.lst (iL X))) du) = .nx (A1 sc M L tn at_ sa wd (.val (.dct true (dB Q))) fi (.val (.lst (wN F))) (vI1 t) (.own (.lst (iL (X ++ [(idA (Al st an l) F t : Int)])))) du) := by
  have l2 : (2 : Nat) ≤ lim := lim_big (by decide)
  have hr := rng1_nat (m := F.length) (by omega)
  have hrl : (rangeD 0 F.length).length ≤ lim := by rw [rangeD_len]; exact lim_big (by omega)
  have h1 : lenN (.lst (wN F)) = .ok (.int (F.length : Int)) := by simp [wN_len]
  have hxl : (iL X).length < lim := by rw [iL_len]; exact lim_big' (by omega)
  have lc : ∀ x0 x1 x2 x3 x4 x5 x6 x7 x9 x12 x13 x14 : Option D, lcL (.nm 15) ct_n_law_2 ce_n_law_3 [x0, x1, x2, x3, x4, x5, x6, x7, some (.dct true (dB Q)), x9, some (.lst (wN F)), some (.int (t : Int)), x12, x13, x14, none] (rangeD 0 F.length) = .ok (wN ((List.range F.length).filter fun i => !decide ((F.getD i 0, t) ∈ Q))) := by
    intro x0 x1 x2 x3 x4 x5 x6 x7 x9 x12 x13 x14
    rw [rangeD_nat]
    refine lcL_fil1 (fun i => !decide ((F.getD i 0, t) ∈ Q)) (List.range F.length) (fun i hi => ?_) fun s _ => rfl
    have hi := List.mem_range.mp hi
    have hin := ninD_dB1 Q (F.getD i 0, t)
    have ek : (D.tup [.int (F.getD i 0 : Nat), .int (t : Int)]) = kp (F.getD i 0, t) := rfl
    have hix : (D.lst (wN F)).ix (.int (i : Int)) = .ok (.int (F.getD i 0 : Nat)) := by
      rw [ix_lst]
      refine ixG_nat ?_
      unfold wN
      rw [List.getElem?_map, List.getElem?_eq_getElem hi]
      simp [List.getD_eq_getElem?_getD, List.getElem?_eq_getElem hi]
    generalize decide ((F.getD i 0, t) ∈ Q) = bb at *
    generalize dB Q = DD at *
    generalize wN F = WF at *
    generalize F.getD i 0 = fi at *
    simp [-ix_lst, ct_n_law_2, l2, ek, hin, hix]
  have hix := first_ix (A := Al st an l) (F := F) (t := t) (fun i => !decide ((F.getD i 0, t) ∈ Q)) hA fun i hi => by
    have := hQ (F.getD i 0) t (hF _ (getD_mem hi)) ht
    constructor
    · intro z
      have hq : (F.getD i 0, t) ∉ Q := by simpa using z
      exact Classical.byContradiction fun y => hq (this.mpr y)
    · intro z
      have hq : (F.getD i 0, t) ∉ Q := fun y => this.mp y z
      rw [decide_eq_false hq]
      rfl
  have ei : iL (X ++ [(idA (Al st an l) F t : Int)]) = iL X ++ [.int (idA (Al st an l) F t : Int)] := by simp [iL]
  rw [ei]
  generalize wN ((List.range F.length).filter fun i => !decide ((F.getD i 0, t) ∈ Q)) = W at *
  generalize dB Q = DD at *
  generalize wN F = WF at *
  generalize iL X = XX at *
  generalize idA (Al st an l) F t = kk at *
  simp [-ix_lst, -len_lst, A1, vI1, lb_n_law_3, h1, hr, hrl, lc, hix, hxl]
theorem l_row {Q : List (Nat × Nat)} (hQ : qOk st an l Q) (F : List Nat) (hF : ∀ s ∈ F, s < st.length) (hl : F.length ≤ 100) (sc M L tn at_ sa wd fi du : Sl) : ∀ (T : List Nat) (X : List Int) (th : Sl), nr1 th → (∀ t ∈ T, t < st.length ∧ hasA (Al st an l) F t) → X.length + T.length ≤ 100 → ∃ th', nr1 th' ∧
    loopO (.nm 11) lb_n_law_3 (wN T) (A1 sc M L tn at_ sa wd (.val (.dct true (dB Q))) fi (.val (.lst (wN F))) th (.own (.lst (iL X))) du) = .nx (A1 sc M L tn at_ sa wd (.val (.dct true (dB Q))) fi (.val (.lst (wN F))) th' (.own (.lst (iL (X ++ T.map fun t => (idA (Al st an l) F t : Int))))) du)
  | [], X, th, h, _, _ => ⟨th, h, by simp [wN, loopO]⟩
  | t :: T, X, th, h, hT, hx => by
    have hx' : X.length + (T.length + 1) ≤ 100 := hx
    obtain ⟨ht, hA⟩ := hT t List.mem_cons_self
    have e := l_in hQ F hF hl t ht hA X (by omega) sc M L tn at_ sa wd fi du
    obtain ⟨th', h', ih⟩ := l_row hQ F hF hl sc M L tn at_ sa wd fi du T (X ++ [(idA (Al st an l) F t : Int)]) (vI1 t) rfl (fun u hu => hT u (List.mem_cons_of_mem _ hu)) (by rw [List.length_append]; simp only [List.length_cons, List.length_nil]; omega)
    refine ⟨th', h', ?_⟩
    have eb : bindT (A1 sc M L tn at_ sa wd (.val (.dct true (dB Q))) fi (.val (.lst (wN F))) th (.own (.lst (iL X))) du) (.nm 11) (.int (t : Int)) = some (A1 sc M L tn at_ sa wd (.val (.dct true (dB Q))) fi (.val (.lst (wN F))) (vI1 t) (.own (.lst (iL X))) du) := by
      generalize wN F = WF at *
      generalize dB Q = DD at *
      generalize iL X = XX at *
      unfold nr1 at h
      simp at h
      simp [A1, vI1, h]
    have ew : wN (t :: T) = .int (t : Int) :: wN T := rfl
    have ex : X ++ (t :: T).map (fun t => (idA (Al st an l) F t : Int)) = (X ++ [(idA (Al st an l) F t : Int)]) ++ T.map fun t => (idA (Al st an l) F t : Int) := by simp
    rw [ew, loopO_cons, eb, ex]
    show (lb_n_law_3 _).turn _ = _
    rw [e]
    exact ih
def fInv (sc M L tn at_ wd ap du : Sl) (A : Nat → Nat → Prop) (st : List (List Int)) (l : Nat) (F : List Nat) (i : Nat) (ρ : SEnv) : Prop := ∃ sa th ln, ρ = A1 sc M L tn at_ sa wd ap (.own (.lst (rwD ((F.take i).map (lsRow A st l F))))) (.val (.lst (wN F))) th ln du ∧ nr1 sa ∧ nr1 th ∧ nr1 ln
theorem f_loop (G : Good st an l) {Q : List (Nat × Nat)} (hQ : qOk st an l Q) (F : List Nat) (I : LI (Al st an l) st l F F.length) (sc L tn at_ wd du sa th : Sl) (h6 : nr1 sa) (h11 : nr1 th) : ∃ ρ', loopO (.nm 6) lb_n_law_4 (wN F) (A1 sc (.val (machT st an)) L tn at_ sa wd (.val (.dct true (dB Q))) (.own (.lst [])) (.val (.lst (wN F))) th .dead du) = .nx ρ' ∧ fInv sc (.val (machT st an)) L tn at_ wd (.val (.dct true (dB Q))) du (Al st an l) st l F (wN F).length ρ' := by
  have n6 := G.n6
  have l3 := G.l3
  have hl := I.len Al.all
  have l0 : (0 : Nat) ≤ lim := Nat.zero_le _
  refine loop_det (Inv := fInv sc (.val (machT st an)) L tn at_ wd (.val (.dct true (dB Q))) du (Al st an l) st l F) (fun j d ρ hj hI => ?_) ⟨sa, th, .dead, rfl, h6, h11, rfl⟩
  obtain ⟨sa, th, ln, rfl, g6, g11, g12⟩ := hI
  obtain ⟨h1, rfl⟩ := wN_at hj
  have hs : F.getD j 0 < st.length := I.lt _ (getD_mem h1)
  obtain ⟨th', h', e⟩ := l_row hQ F I.lt (by omega) sc (.val (machT st an)) L tn at_ (vI1 (F.getD j 0)) wd (.own (.lst (rwD ((F.take j).map (lsRow (Al st an l) st l F))))) du (succs st l (F.getD j 0)) [] th g11 (fun t ht => ⟨succs_in G hs t ht, by
    obtain ⟨a, ha, rfl⟩ := List.mem_map.mp ht
    exact I.cl j h1 h1 a (List.mem_range.mp ha)⟩) (by rw [succs_len]; simp; omega)
  rw [List.nil_append] at e
  have er : ((succs st l (F.getD j 0)).map fun t => (idA (Al st an l) F t : Int)) = lsRow (Al st an l) st l F (F.getD j 0) := rfl
  rw [er] at e
  have t1 : itemsF (bin D.ix (bin D.ix (fun ρ => vr ρ 2) (fun _ => .ok (.int 0))) (fun ρ => vr ρ 6)) (SEnv.vis (A1 sc (.val (machT st an)) L tn at_ (vI1 (F.getD j 0)) wd (.val (.dct true (dB Q))) (.own (.lst (rwD ((F.take j).map (lsRow (Al st an l) st l F))))) (.val (.lst (wN F))) th (.own (.lst [])) du)) = .ok (wN (succs st l (F.getD j 0))) := by
    have m0 := mach0 st an
    have r1 := rows_at (rs := st) hs
    rw [← succs_row G hs]
    clear e
    generalize wN F = WF at *
    generalize dB Q = DD at *
    generalize machT st an = mm at *
    generalize rowsT st = rr at *
    generalize rwD ((F.take j).map (lsRow (Al st an l) st l F)) = WR at *
    generalize iL (st.getD (F.getD j 0) []) = W1 at *
    generalize F.getD j 0 = fk at *
    simp [-ix_lst, -ix_tup, A1, vI1, m0, r1]
  have ew : iL [] = [] := rfl
  rw [ew] at e
  have tk : F.take (j + 1) = F.take j ++ [F.getD j 0] := by
    rw [List.take_succ, List.getElem?_eq_getElem h1]
    simp [List.getD_eq_getElem?_getD, List.getElem?_eq_getElem h1]
  have hwl : (rwD ((F.take j).map (lsRow (Al st an l) st l F))).length < lim := by
    unfold rwD
    rw [List.length_map, List.length_map, List.length_take]
    exact lim_big' (by omega)
  have erw : rwD ((F.take (j + 1)).map (lsRow (Al st an l) st l F)) = rwD ((F.take j).map (lsRow (Al st an l) st l F)) ++ [.tup (iL (lsRow (Al st an l) st l F (F.getD j 0)))] := by
    rw [tk]
    simp [rwD]
  have hpu : D.pureL (iL (lsRow (Al st an l) st l F (F.getD j 0))) = true := pureL_iff.mpr fun d hd => by
    obtain ⟨i, _, rfl⟩ := List.mem_map.mp hd
    rfl
  have hpu2 : (D.tup (iL (lsRow (Al st an l) st l F (F.getD j 0)))).pure = true := hpu
  refine ⟨A1 sc (.val (machT st an)) L tn at_ (vI1 (F.getD j 0)) wd (.val (.dct true (dB Q))) (.own (.lst (rwD ((F.take j).map (lsRow (Al st an l) st l F))))) (.val (.lst (wN F))) th ln du, A1 sc (.val (machT st an)) L tn at_ (vI1 (F.getD j 0)) wd (.val (.dct true (dB Q))) (.own (.lst (rwD ((F.take (j + 1)).map (lsRow (Al st an l) st l F))))) (.val (.lst (wN F))) th' (.own (.lst (iL (lsRow (Al st an l) st l F (F.getD j 0))))) du, ?_, ?_, ⟨_, _, _, rfl, rfl, h', rfl⟩⟩
  · clear e t1
    generalize wN F = WF at *
    generalize dB Q = DD at *
    generalize machT st an = mm at *
    generalize rwD ((F.take j).map (lsRow (Al st an l) st l F)) = WR at *
    generalize F.getD j 0 = fk at *
    unfold nr1 at g6
    simp at g6
    simp [A1, vI1, g6]
  · unfold lb_n_law_4
    rw [seqO_eq]
    have t0 : (fun ρ : SEnv => bindO ((lstF nilA) ρ.vis) fun d => setO ρ 12 (.own d)) (A1 sc (.val (machT st an)) L tn at_ (vI1 (F.getD j 0)) wd (.val (.dct true (dB Q))) (.own (.lst (rwD ((F.take j).map (lsRow (Al st an l) st l F))))) (.val (.lst (wN F))) th ln du) = .nx (A1 sc (.val (machT st an)) L tn at_ (vI1 (F.getD j 0)) wd (.val (.dct true (dB Q))) (.own (.lst (rwD ((F.take j).map (lsRow (Al st an l) st l F))))) (.val (.lst (wN F))) th (.own (.lst [])) du) := by
      clear e t1
      generalize wN F = WF at *
      generalize dB Q = DD at *
      generalize machT st an = mm at *
      generalize rwD ((F.take j).map (lsRow (Al st an l) st l F)) = WR at *
      generalize F.getD j 0 = fk at *
      unfold nr1 at g12
      simp at g12
      simp [A1, vI1, l0, g12]
    refine Eq.trans (congrArg (fun o => Out.then o _) t0) ?_
    rw [then_nx, seqO_eq, forO_run t1 e, then_nx, erw]
    clear e t1 t0
    generalize wN F = WF at *
    generalize dB Q = DD at *
    generalize machT st an = mm at *
    generalize rwD ((F.take j).map (lsRow (Al st an l) st l F)) = WR at *
    generalize iL (lsRow (Al st an l) st l F (F.getD j 0)) = W1 at *
    generalize F.getD j 0 = fk at *
    simp [A1, vI1, hwl, hpu, hpu2]
theorem alike_rows (k : Nat) (R : List (List Int)) (hR : R.length ≤ 100) (hr : ∀ r ∈ R, r.length ≤ 100) : F_n__law_alike (k + 3) [rowsT R, rowsT R] = .ok (.bl true) := by
  refine alike_seq (k + 2) _ _ _ (.inl rfl) rfl (by rw [List.length_map]; omega) fun i h1 h2 => ?_
  have hi : i < R.length := by rw [List.length_map] at h1; exact h1
  have e : (R.map fun r => D.tup (iL r))[i] = .tup (iL R[i]) := by rw [List.getElem_map]
  rw [e]
  exact alike_iL k R[i] _ (.inl rfl) (Nat.le_trans (hr _ (List.getElem_mem hi)) (by decide))
theorem alike_mach (G : Good st an l) (k : Nat) : F_n__law_alike (k + 4) [machT st an, machT st an] = .ok (.bl true) := by
  have n6 := G.n6
  have l3 := G.l3
  have sm := G.same
  have h1 := alike_rows k st (by omega) fun r hr => by rw [G.sl r hr]; omega
  have h2 := alike_rows k an (by omega) fun r hr => by rw [G.al r hr]; omega
  refine alike_seq (k + 3) [rowsT st, rowsT an] [rowsT st, rowsT an] _ (.inl rfl) rfl (by simp) fun i i1 i2 => ?_
  have hi : i < 2 := i1
  have : i = 0 ∨ i = 1 := by omega
  rcases this with rfl | rfl
  · exact h1
  · exact h2
theorem law_true (b : PySem.Addr) (ns : List Int) : AllOk (fun d => d = .bl true) (g_n_law (.val (.arr b ns) :: .val .row :: List.replicate 14 .dead)).fin := by
  have h0 : (Sl.val (.arr b ns) :: Sl.val .row :: List.replicate 14 Sl.dead) = A1 (.val (.arr b ns)) .dead .dead .dead .dead .dead .dead .dead .dead .dead .dead .dead .dead := rfl
  rw [h0]
  suffices h : LawT (g_n_law (A1 (.val (.arr b ns)) .dead .dead .dead .dead .dead .dead .dead .dead .dead .dead .dead .dead)) by
    obtain ⟨h⟩ := h
    assumption
  generalize Sl.val (D.arr b ns) = sc
  unfold g_n_law
  refine LawT.seqR (P := fun ρ => ∃ st an l, ρ = A1 sc (.val (machT st an)) .dead .dead .dead .dead .dead .dead .dead .dead .dead .dead .dead ∧ Good st an l) (GO.setV (P := fun d => ∃ st an l, d = machT st an ∧ Good st an l) ⟨?_⟩ rfl ?_) ?_
  · exact AllOk.call (ds := [.row, .int 6, .int 3]) rfl rfl ((F_machine 6 3 (by decide) (by decide) (by decide) (by decide)).imp fun d ⟨st, an, l, e, G, _⟩ => ⟨st, an, l, e, G⟩)
  · rintro d ⟨st, an, l, rfl, G⟩
    exact ⟨st, an, l, rfl, G⟩
  rintro ρ ⟨st, an, l, rfl, G⟩
  have n1 := G.n1
  have n6 := G.n6
  have l3 := G.l3
  obtain ⟨F, gr, I, eLs⟩ := F_least_of G
  obtain ⟨Q, eQ, hQ⟩ := F_law_unlike G
  have hQ : qOk st an l Q := hQ
  have GL := I.good G
  have hFl := I.len Al.all
  refine step_nx (A1 sc (.val (machT st an)) (vI1 l) .dead .dead .dead .dead .dead .dead .dead .dead .dead .dead) (by
    have m0 := mach0 st an
    have r0 := rows_at (rs := st) (s := 0) n1
    have z : ((0 : Nat) : Int) = 0 := rfl
    rw [z] at r0
    have el : lenN (.tup (iL (st.getD 0 []))) = .ok (.int (l : Int)) := by
      show (D.tup _).len = _
      rw [len_tup, iL_len, G.row n1]
    generalize D.tup (iL (st.getD 0 [])) = O at *
    generalize rowsT st = R at *
    generalize machT st an = M at *
    simp [-ix_tup, -len_tup, A1, vI1, m0, r0, el]) ?_
  refine LawT.seqR (P := tInv sc (.val (machT st an)) (vI1 l)) (GO.forO (ds := rangeD 0 3) ?_ (GO.range (Inv := fun _ => tInv sc (.val (machT st an)) (vI1 l)) (fun i ρ _ h => turn1 G sc i ρ h) ⟨_, _, _, rfl, rfl, rfl, rfl⟩)) ?_
  · have hr3 := rng1_nat (m := 3) (by decide)
    have z : ((3 : Nat) : Int) = 3 := rfl
    rw [z] at hr3
    simp [hr3]
  rintro ρ ⟨tn, sa, wd, rfl, h4, h6, h7⟩
  refine step_nx (A1 sc (.val (machT st an)) (vI1 l) tn (vI1 0) sa wd (.val (.dct true (dB Q))) (.own (.lst [])) (.own (.lst (wN [0]))) .dead .dead .dead) (by
    have l0 : (0 : Nat) ≤ lim := Nat.zero_le _
    have l1 : (1 : Nat) ≤ lim := lim_big (by decide)
    have ew : wN [0] = [.int 0] := rfl
    rw [ew]
    generalize dB Q = DD at *
    generalize machT st an = M at *
    simp [A1, vI1, eQ, l0, l1]) ?_
  have I0 : LI (Al st an l) st l [0] 0 := ⟨rfl, fun s hs => by rw [List.mem_singleton.mp hs]; exact n1, List.pairwise_singleton _ _, fun i hi => absurd hi (Nat.not_lt_zero _)⟩
  obtain ⟨F', k', th', h', ew, gr'⟩ := o_while G hQ sc (vI1 l) tn sa wd (.own (.lst [])) .dead .dead lim 0 [0] .dead (by
    have : (1000 : Nat) ≤ lim := lim_big (by decide)
    omega) (by simp) rfl I0
  obtain rfl := gr.one gr'
  refine step_nx _ ew ?_
  clear ew
  obtain ⟨ρ', ef, sa', th2, ln', rfl, g6, g11, g12⟩ := f_loop G hQ F I sc (vI1 l) tn (vI1 k') wd .dead sa th' h6 h'
  rw [wN_len, List.take_length] at ef
  refine step_nx _ (forO_run (ρ := frzS (A1 sc (.val (machT st an)) (vI1 l) tn (vI1 k') sa wd (.val (.dct true (dB Q))) (.own (.lst [])) (.own (.lst (wN F))) th' .dead .dead) 10) (ds := wN F) (by
    generalize dB Q = DD at *
    generalize machT st an = M at *
    generalize wN F = WF at *
    simp [A1, vI1, frzS]) (by
    have e0 : frzS (A1 sc (.val (machT st an)) (vI1 l) tn (vI1 k') sa wd (.val (.dct true (dB Q))) (.own (.lst [])) (.own (.lst (wN F))) th' .dead .dead) 10 = A1 sc (.val (machT st an)) (vI1 l) tn (vI1 k') sa wd (.val (.dct true (dB Q))) (.own (.lst [])) (.val (.lst (wN F))) th' .dead .dead := rfl
    rw [e0]
    exact ef)) ?_
  clear ef
  have eM : machT (lsS (Al st an l) st l F) (lsA an F) = .tup [.tup (rwD (F.map (lsRow (Al st an l) st l F))), .tup ((lsA an F).map fun r => .tup (iL r))] := rfl
  have hlc : ∀ x0 x1 x3 x4 x5 x7 x8 x9 x10 x11 x12 x13 x14 x15 : Option D, lcL (.nm 6) yesB ce_n_law_4 [x0, x1, some (machT st an), x3, x4, x5, none, x7, x8, x9, x10, x11, x12, x13, x14, x15] (wN F) = .ok ((lsA an F).map fun r => .tup (iL r)) := by
    intro x0 x1 x3 x4 x5 x7 x8 x9 x10 x11 x12 x13 x14 x15
    unfold wN lsA
    rw [List.map_map]
    refine lcLs (fun (s : Nat) => D.int (s : Int)) (fun s => .tup (iL (an.getD s []))) F fun s hs => ?_
    have m1 := mach1 st an
    have r1 := rows_at (rs := an) (s := s) (by rw [G.same]; exact I.lt s hs)
    generalize machT st an = MM at *
    generalize rowsT an = SS at *
    generalize iL (an.getD s []) = W1 at *
    simp [-ix_lst, -ix_tup, ce_n_law_4, m1, r1]
  have p1 : D.pureL (rwD (F.map (lsRow (Al st an l) st l F))) = true := pureL_iff.mpr fun d hd => by
    obtain ⟨r, _, rfl⟩ := List.mem_map.mp hd
    exact pureL_iff.mpr fun d hd => by obtain ⟨i, _, rfl⟩ := List.mem_map.mp hd; rfl
  have p2 : D.pureL ((lsA an F).map fun r => .tup (iL r)) = true := pureL_iff.mpr fun d hd => by
    obtain ⟨r, _, rfl⟩ := List.mem_map.mp hd
    exact pureL_iff.mpr fun d hd => by obtain ⟨i, _, rfl⟩ := List.mem_map.mp hd; rfl
  have pM : (machT (lsS (Al st an l) st l F) (lsA an F)).pure = true := by
    rw [eM]
    show D.pureL [_, _] = true
    exact pureL_iff.mpr fun d hd => by
      rcases List.mem_cons.mp hd with rfl | hd
      · exact p1
      · rw [List.mem_singleton.mp hd]; exact p2
  refine step_nx (A1 sc (.val (machT st an)) (vI1 l) tn (vI1 k') sa' wd (.val (.dct true (dB Q))) (.own (.lst (rwD (F.map (lsRow (Al st an l) st l F))))) (.val (.lst (wN F))) th2 ln' (.val (machT (lsS (Al st an l) st l F) (lsA an F)))) (by
    have hwl : (wN F).length ≤ lim := by rw [wN_len]; exact lim_big (by omega)
    have l2 : (2 : Nat) ≤ lim := lim_big (by decide)
    rw [eM] at pM ⊢
    generalize rwD (F.map (lsRow (Al st an l) st l F)) = W1 at *
    generalize ((lsA an F).map fun r => D.tup (iL r)) = W2 at *
    generalize wN F = WF at *
    generalize dB Q = DD at *
    generalize machT st an = mm at *
    simp [A1, vI1, hlc, hwl, l2, pM, p1, p2]) ?_
  refine LawT.rtT (ρ' := A1 sc (.val (machT st an)) (vI1 l) tn (vI1 k') sa' wd (.val (.dct true (dB Q))) (.own (.lst (rwD (F.map (lsRow (Al st an l) st l F))))) (.val (.lst (wN F))) th2 ln' (.val (machT (lsS (Al st an l) st l F) (lsA an F)))) ?_
  have c1 := F_need_machine G
  have e : F_n_least_machine [machT st an] = .ok (machT (lsS (Al st an l) st l F) (lsA an F)) := by
    simp [F_n_least_machine, g_n_least_machine, start0, c1, eLs]
  have al := alike_mach GL 4
  generalize machT (lsS (Al st an l) st l F) (lsA an F) = LM at *
  generalize rwD (F.map (lsRow (Al st an l) st l F)) = W1 at *
  generalize wN F = WF at *
  generalize dB Q = DD at *
  generalize machT st an = mm at *
  simp [A1, vI1, e, al]
end Lw
end
set_option Elab.async false
set_option linter.all false
set_option autoImplicit false
set_option maxRecDepth 100000
set_option maxHeartbeats 0
/-! printed by wip/gen.py: the head, the end -/
noncomputable section
namespace Lw
open PySem PySem.Spec PyProof.Rows L2 Fw
def dd_n_is_number : He.DefD := ⟨("is_number", none), "is_number", "is_number", defArgs s_n_is_number, defBody s_n_is_number, defScope s_n_is_number, [], []⟩
def dd_n_are_rows : He.DefD := ⟨("are_rows", none), "are_rows", "are_rows", defArgs s_n_are_rows, defBody s_n_are_rows, defScope s_n_are_rows, [], []⟩
def dd_n_need_machine : He.DefD := ⟨("need_machine", none), "need_machine", "need_machine", defArgs s_n_need_machine, defBody s_n_need_machine, defScope s_n_need_machine, [], []⟩
def dd_n_letters_of : He.DefD := ⟨("letters_of", none), "letters_of", "letters_of", defArgs s_n_letters_of, defBody s_n_letters_of, defScope s_n_letters_of, [], []⟩
def dd_n_is_word : He.DefD := ⟨("is_word", none), "is_word", "is_word", defArgs s_n_is_word, defBody s_n_is_word, defScope s_n_is_word, [], []⟩
def dd_n_need_word : He.DefD := ⟨("need_word", none), "need_word", "need_word", defArgs s_n_need_word, defBody s_n_need_word, defScope s_n_need_word, [], []⟩
def dd_n_need_state : He.DefD := ⟨("need_state", none), "need_state", "need_state", defArgs s_n_need_state, defBody s_n_need_state, defScope s_n_need_state, [], []⟩
def dd_n_told : He.DefD := ⟨("told", none), "told", "told", defArgs s_n_told, defBody s_n_told, defScope s_n_told, [], []⟩
def dd_n_answers : He.DefD := ⟨("answers", none), "answers", "answers", defArgs s_n_answers, defBody s_n_answers, defScope s_n_answers, [], []⟩
def dd_n_marks_of : He.DefD := ⟨("marks_of", none), "marks_of", "marks_of", defArgs s_n_marks_of, defBody s_n_marks_of, defScope s_n_marks_of, [], []⟩
def dd_n_least_of : He.DefD := ⟨("least_of", none), "least_of", "least_of", defArgs s_n_least_of, defBody s_n_least_of, defScope s_n_least_of, [], []⟩
def dd_n_least_machine : He.DefD := ⟨("least_machine", none), "least_machine", "least_machine", defArgs s_n_least_machine, defBody s_n_least_machine, defScope s_n_least_machine, [], []⟩
def dd_n__law_taken : He.DefD := ⟨("_law_taken", none), "_law_taken", "_law_taken", defArgs s_n__law_taken, defBody s_n__law_taken, defScope s_n__law_taken, [], []⟩
def dd_n__law_machine : He.DefD := ⟨("_law_machine", none), "_law_machine", "_law_machine", defArgs s_n__law_machine, defBody s_n__law_machine, defScope s_n__law_machine, [], []⟩
def dd_n__law_alike : He.DefD := ⟨("_law_alike", none), "_law_alike", "_law_alike", defArgs s_n__law_alike, defBody s_n__law_alike, defScope s_n__law_alike, [], []⟩
def dd_n__law_led : He.DefD := ⟨("_law_led", none), "_law_led", "_law_led", defArgs s_n__law_led, defBody s_n__law_led, defScope s_n__law_led, [], []⟩
def dd_n__law_told : He.DefD := ⟨("_law_told", none), "_law_told", "_law_told", defArgs s_n__law_told, defBody s_n__law_told, defScope s_n__law_told, [], []⟩
def dd_n__law_unlike : He.DefD := ⟨("_law_unlike", none), "_law_unlike", "_law_unlike", defArgs s_n__law_unlike, defBody s_n__law_unlike, defScope s_n__law_unlike, [], []⟩
def dd_n_law : He.DefD := ⟨("law", none), "law", "law", defArgs s_n_law, defBody s_n_law, defScope s_n_law, [], []⟩
def fnL : List He.DefD := [dd_n_is_number, dd_n_are_rows, dd_n_need_machine, dd_n_letters_of, dd_n_is_word, dd_n_need_word, dd_n_need_state, dd_n_told, dd_n_answers, dd_n_marks_of, dd_n_least_of, dd_n_least_machine, dd_n__law_taken, dd_n__law_machine, dd_n__law_alike, dd_n__law_led, dd_n__law_told, dd_n__law_unlike, dd_n_law]
def faL : List He.Fa := [.glo "is_number", .glo "are_rows", .glo "need_machine", .glo "letters_of", .glo "is_word", .glo "need_word", .glo "need_state", .glo "told", .glo "answers", .glo "marks_of", .glo "least_of", .glo "least_machine", .glo "_law_taken", .glo "_law_machine", .glo "_law_alike", .glo "_law_led", .glo "_law_told", .glo "_law_unlike", .glo "law", .free "all", .free "bool", .free "int", .free "isinstance", .free "len", .free "list", .free "min", .free "range", .free "set", .free "sorted", .free "str", .free "tuple", .int "MOST_ANSWER" 9, .int "MOST_LETTERS" 3, .int "MOST_ROW" 4000, .int "MOST_STATES" 6]
def tfL : List He.Defn := [("are_rows", none), ("is_word", none)]
def xaL (K : PySem.W.Frag) : List Bool := []
def exB (K : PySem.W.Frag) : Bool := decide (((tfL.map (He.cT K)).map (·.2)).Nodup) && (xaL K).all id
theorem exB_nodup {K : PySem.W.Frag} (h : exB K = true) : ((tfL.map (He.cT K)).map (·.2)).Nodup := of_decide_eq_true (Bool.and_eq_true_iff.mp h).1
theorem exB_at {K : PySem.W.Frag} (h : exB K = true) {i : Nat} {b : Bool} (e : (xaL K)[i]? = some b) : b = true := List.all_eq_true.mp (Bool.and_eq_true_iff.mp h).2 b (List.mem_of_getElem? e)
abbrev Rw : PySem.W.OpenRow := PySem.W.OpenLaw.row PySem.Challenge.rw_pushedclerks_k01_whole_machines
abbrev hk : PySem.W.Hook := He.hookX 4 faL fnL [] tfL exB
def ob (s : PySem.W.SharedT) : He.AlX := He.obsX 4 faL fnL [] tfL exB (HandSHeadRun.getT s)
theorem ob_eq (s : PySem.W.SharedT) : ob s = hk.obs s.abs := He.obsX_eq (HandSHeadRun.getT_eq s)
def looseL : List Str := (["ClerkError", "BadMachine", "BadLetters", "BadState", "MOST_STATES", "MOST_LETTERS", "MOST_ANSWER", "MOST_ROW", "is_number", "are_rows", "need_machine", "letters_of", "is_word", "need_word", "need_state", "told", "answers", "marks_of", "least_of", "least_machine", "_law_taken", "_law_machine", "_law_alike", "_law_led", "_law_told", "_law_unlike"] : List Str)
theorem run (w : World) : HandSHeadRun.RunEq Rw (PySem.W.view Rw.prog [29]) hk ob 4000 looseL w := by
  intro os
  kernel_rfl
theorem facts {P : Program} {w : World} {K : PySem.W.Frag} {h : Heap} {mg : Str → Option Value} {fl : Addr} (X : K.In h) (G : h.Ns mainGlobals mg) (hfa : mg ("law" : Str) = some (.ref fl)) (c : He.SaysX faL fnL [] tfL exB w h K) :
    ∃ (a : Ad) (e : Fd), fl = a.n_law ∧ (∀ (s : Shared) (v : Value), BindsTo s e.n_law ⟨[v], []⟩ [("_law_script", v)]) ∧ [(a.c_n_are_rows, a.P_n_are_rows), (a.c_n_is_word, a.P_n_is_word)] = tfL.map (He.cT K) ∧
      ∀ base : Heap, K.In base → base.Ns mainGlobals mg → (∀ p ∈ tfL.map (He.cT K), GxR.TabB base mg p.1 p.2) → Tx K mg base a e := by
  have cD : He.SaysD faL fnL K := congrArg (fun z : He.AlT => z.1) c.t
  obtain ⟨e0, F0⟩ := cD.def_ 0 (d := dd_n_is_number) rfl
  obtain ⟨e1, F1⟩ := cD.def_ 1 (d := dd_n_are_rows) rfl
  obtain ⟨e2, F2⟩ := cD.def_ 2 (d := dd_n_need_machine) rfl
  obtain ⟨e3, F3⟩ := cD.def_ 3 (d := dd_n_letters_of) rfl
  obtain ⟨e4, F4⟩ := cD.def_ 4 (d := dd_n_is_word) rfl
  obtain ⟨e5, F5⟩ := cD.def_ 5 (d := dd_n_need_word) rfl
  obtain ⟨e6, F6⟩ := cD.def_ 6 (d := dd_n_need_state) rfl
  obtain ⟨e7, F7⟩ := cD.def_ 7 (d := dd_n_told) rfl
  obtain ⟨e8, F8⟩ := cD.def_ 8 (d := dd_n_answers) rfl
  obtain ⟨e9, F9⟩ := cD.def_ 9 (d := dd_n_marks_of) rfl
  obtain ⟨e10, F10⟩ := cD.def_ 10 (d := dd_n_least_of) rfl
  obtain ⟨e11, F11⟩ := cD.def_ 11 (d := dd_n_least_machine) rfl
  obtain ⟨e12, F12⟩ := cD.def_ 12 (d := dd_n__law_taken) rfl
  obtain ⟨e13, F13⟩ := cD.def_ 13 (d := dd_n__law_machine) rfl
  obtain ⟨e14, F14⟩ := cD.def_ 14 (d := dd_n__law_alike) rfl
  obtain ⟨e15, F15⟩ := cD.def_ 15 (d := dd_n__law_led) rfl
  obtain ⟨e16, F16⟩ := cD.def_ 16 (d := dd_n__law_told) rfl
  obtain ⟨e17, F17⟩ := cD.def_ 17 (d := dd_n__law_unlike) rfl
  obtain ⟨e18, F18⟩ := cD.def_ 18 (d := dd_n_law) rfl
  have eL := hfa.symm.trans (He.glo_ok X G (cD.fact 18 (f := .glo "law") rfl))
  cases eL
  have hc1 : e1.code = .ref (He.codeOf K ("are_rows", none)) := by
    obtain ⟨oc, od, dV, kV, doc, pm, an, cdv, ct, osl, rfl, lk, hcd, _⟩ := F1.ex
    obtain ⟨cc, hcc⟩ := He.codeIn_ref hcd
    rw [show He.codeOf K ("are_rows", none) = cc from He.codeOf_eq lk hcc]
    exact hcc
  have hc4 : e4.code = .ref (He.codeOf K ("is_word", none)) := by
    obtain ⟨oc, od, dV, kV, doc, pm, an, cdv, ct, osl, rfl, lk, hcd, _⟩ := F4.ex
    obtain ⟨cc, hcc⟩ := He.codeIn_ref hcd
    rw [show He.codeOf K ("is_word", none) = cc from He.codeOf_eq lk hcc]
    exact hcc
  refine ⟨⟨He.fAd K ("is_number", none), He.fAd K ("are_rows", none), He.fAd K ("need_machine", none), He.fAd K ("letters_of", none), He.fAd K ("is_word", none), He.fAd K ("need_word", none), He.fAd K ("need_state", none), He.fAd K ("told", none), He.fAd K ("answers", none), He.fAd K ("marks_of", none), He.fAd K ("least_of", none), He.fAd K ("least_machine", none), He.fAd K ("_law_taken", none), He.fAd K ("_law_machine", none), He.fAd K ("_law_alike", none), He.fAd K ("_law_led", none), He.fAd K ("_law_told", none), He.fAd K ("_law_unlike", none), He.fAd K ("law", none), (He.cT K ("are_rows", none)).1, (He.cT K ("are_rows", none)).2, (He.cT K ("is_word", none)).1, (He.cT K ("is_word", none)).2⟩, ⟨e0, e1, e2, e3, e4, e5, e6, e7, e8, e9, e10, e11, e12, e13, e14, e15, e16, e17, e18⟩, rfl, fun s v => FunD.bindsA (ps := ["_law_script"]) F18 (fun _ _ _ _ _ _ us hl => match us, hl with | [_], _ => rfl) s [v] rfl, rfl, fun base _ _ tb => ?_⟩
  exact ⟨F0,
    (He.glo_ok X G (cD.fact 0 (f := .glo "is_number") rfl)),
    (FunD.bindsN (ps := ["value", "low", "high"]) F0 fun _ _ _ _ _ _ us hl => match us, hl with | [_, _, _], _ => rfl),
    F1,
    (He.glo_ok X G (cD.fact 1 (f := .glo "are_rows") rfl)),
    (FunD.bindsN (ps := ["value", "states", "letters", "most"]) F1 fun _ _ _ _ _ _ us hl => match us, hl with | [_, _, _, _], _ => rfl),
    F2,
    (He.glo_ok X G (cD.fact 2 (f := .glo "need_machine") rfl)),
    (FunD.bindsN (ps := ["value"]) F2 fun _ _ _ _ _ _ us hl => match us, hl with | [_], _ => rfl),
    F3,
    (He.glo_ok X G (cD.fact 3 (f := .glo "letters_of") rfl)),
    (FunD.bindsN (ps := ["machine"]) F3 fun _ _ _ _ _ _ us hl => match us, hl with | [_], _ => rfl),
    F4,
    (He.glo_ok X G (cD.fact 4 (f := .glo "is_word") rfl)),
    (FunD.bindsN (ps := ["machine", "value"]) F4 fun _ _ _ _ _ _ us hl => match us, hl with | [_, _], _ => rfl),
    F5,
    (He.glo_ok X G (cD.fact 5 (f := .glo "need_word") rfl)),
    (FunD.bindsN (ps := ["machine", "value"]) F5 fun _ _ _ _ _ _ us hl => match us, hl with | [_, _], _ => rfl),
    F6,
    (He.glo_ok X G (cD.fact 6 (f := .glo "need_state") rfl)),
    (FunD.bindsN (ps := ["machine", "value"]) F6 fun _ _ _ _ _ _ us hl => match us, hl with | [_, _], _ => rfl),
    F7,
    (He.glo_ok X G (cD.fact 7 (f := .glo "told") rfl)),
    (FunD.bindsN (ps := ["machine", "state", "word"]) F7 fun _ _ _ _ _ _ us hl => match us, hl with | [_, _, _], _ => rfl),
    F8,
    (He.glo_ok X G (cD.fact 8 (f := .glo "answers") rfl)),
    (FunD.bindsN (ps := ["machine", "state", "word"]) F8 fun _ _ _ _ _ _ us hl => match us, hl with | [_, _, _], _ => rfl),
    F9,
    (He.glo_ok X G (cD.fact 9 (f := .glo "marks_of") rfl)),
    (FunD.bindsN (ps := ["machine"]) F9 fun _ _ _ _ _ _ us hl => match us, hl with | [_], _ => rfl),
    F10,
    (He.glo_ok X G (cD.fact 10 (f := .glo "least_of") rfl)),
    (FunD.bindsN (ps := ["machine"]) F10 fun _ _ _ _ _ _ us hl => match us, hl with | [_], _ => rfl),
    F11,
    (He.glo_ok X G (cD.fact 11 (f := .glo "least_machine") rfl)),
    (FunD.bindsN (ps := ["machine"]) F11 fun _ _ _ _ _ _ us hl => match us, hl with | [_], _ => rfl),
    F12,
    (He.glo_ok X G (cD.fact 12 (f := .glo "_law_taken") rfl)),
    (FunD.bindsN (ps := ["_law_row", "_law_many"]) F12 fun _ _ _ _ _ _ us hl => match us, hl with | [_, _], _ => rfl),
    F13,
    (He.glo_ok X G (cD.fact 13 (f := .glo "_law_machine") rfl)),
    (FunD.bindsN (ps := ["_law_row", "_law_states", "_law_letters"]) F13 fun _ _ _ _ _ _ us hl => match us, hl with | [_, _, _], _ => rfl),
    F14,
    (He.glo_ok X G (cD.fact 14 (f := .glo "_law_alike") rfl)),
    (FunD.bindsN (ps := ["_law_found", "_law_due"]) F14 fun _ _ _ _ _ _ us hl => match us, hl with | [_, _], _ => rfl),
    F15,
    (He.glo_ok X G (cD.fact 15 (f := .glo "_law_led") rfl)),
    (FunD.bindsN (ps := ["_law_machine_here", "_law_state", "_law_word"]) F15 fun _ _ _ _ _ _ us hl => match us, hl with | [_, _, _], _ => rfl),
    F16,
    (He.glo_ok X G (cD.fact 16 (f := .glo "_law_told") rfl)),
    (FunD.bindsN (ps := ["_law_machine_here", "_law_state", "_law_word"]) F16 fun _ _ _ _ _ _ us hl => match us, hl with | [_, _, _], _ => rfl),
    F17,
    (He.glo_ok X G (cD.fact 17 (f := .glo "_law_unlike") rfl)),
    (FunD.bindsN (ps := ["_law_machine_here"]) F17 fun _ _ _ _ _ _ us hl => match us, hl with | [_], _ => rfl),
    F18,
    (He.glo_ok X G (cD.fact 18 (f := .glo "law") rfl)),
    (FunD.bindsN (ps := ["_law_script"]) F18 fun _ _ _ _ _ _ us hl => match us, hl with | [_], _ => rfl),
    (exB_nodup c.more),
    hc1,
    (tb _ (List.mem_of_getElem? (i := 0) rfl)),
    hc4,
    (tb _ (List.mem_of_getElem? (i := 1) rfl)),
    (He.free_ok X G (cD.fact 19 (f := .free "all") rfl)),
    (He.free_ok X G (cD.fact 20 (f := .free "bool") rfl)),
    (He.free_ok X G (cD.fact 21 (f := .free "int") rfl)),
    (He.free_ok X G (cD.fact 22 (f := .free "isinstance") rfl)),
    (He.free_ok X G (cD.fact 23 (f := .free "len") rfl)),
    (He.free_ok X G (cD.fact 24 (f := .free "list") rfl)),
    (He.free_ok X G (cD.fact 25 (f := .free "min") rfl)),
    (He.free_ok X G (cD.fact 26 (f := .free "range") rfl)),
    (He.free_ok X G (cD.fact 27 (f := .free "set") rfl)),
    (He.free_ok X G (cD.fact 28 (f := .free "sorted") rfl)),
    (He.free_ok X G (cD.fact 29 (f := .free "str") rfl)),
    (He.free_ok X G (cD.fact 30 (f := .free "tuple") rfl)),
    (He.int_ok X G (cD.fact 31 (f := .int "MOST_ANSWER" 9) rfl)),
    (He.int_ok X G (cD.fact 32 (f := .int "MOST_LETTERS" 3) rfl)),
    (He.int_ok X G (cD.fact 33 (f := .int "MOST_ROW" 4000) rfl)),
    (He.int_ok X G (cD.fact 34 (f := .int "MOST_STATES" 6) rfl))⟩
end Lw
open PySem PySem.W PySem.Calls PyProof.Rows
theorem PySem.Challenge.cw_pushedclerks_k01_whole_machines_holds : PySem.Challenge.rw_pushedclerks_k01_whole_machines.Holds := by
  w_on; o_law
  refine HandSHeadRun.head_any (r := OpenLaw.row PySem.Challenge.rw_pushedclerks_k01_whole_machines) (q := view (OpenLaw.row PySem.Challenge.rw_pushedclerks_k01_whole_machines).prog [29]) (H := Lw.hk) (ob := Lw.ob) (M := 4000) (loose := Lw.looseL) (d := HandSHeadRun.topDef (OpenLaw.row PySem.Challenge.rw_pushedclerks_k01_whole_machines).prog 29) (kwd := []) Lw.ob_eq
    (by kernel_rfl) (fun s => by kernel_rfl) Lw.run (by kernel_rfl) (by kernel_rfl) (by kernel_rfl) (by rfl) (by first | assumption | decide +kernel) (by decide +kernel) ⟨rfl, rfl, rfl, rfl, rfl, by decide +kernel⟩ ?hw ?hc
  case hw => w_witness2
  case hc =>
    refine LamX.walk_ofTsE (l := PySem.Challenge.rw_pushedclerks_k01_whole_machines) (n := 63) (k := 10) (x := "_law_script") (CX := fun w => L2.CX (PySem.Challenge.rw_pushedclerks_k01_whole_machines).prog w) rfl (by decide) (by kernel_rfl) ⟨rfl, by decide, by decide⟩ ?F (fun _ _ _ _ _ z => by obtain ⟨_, _, _, _, _, _, _, _, _, _, _, _, z⟩ := z; exact z.elim)
    intro w mg fl h Y G hmg0
    obtain ⟨K, KX, c⟩ := Y
    have hmg : mg ("law" : PySem.Str) = some (.ref fl) := by
      have e : (HandSHeadRun.topDef (OpenLaw.row PySem.Challenge.rw_pushedclerks_k01_whole_machines).prog 29).name = ("law" : PySem.Str) := by kernel_rfl
      rw [← e]
      exact hmg0
    obtain ⟨a, e, rfl, hb, hcs, hT⟩ := Lw.facts (P := (PySem.Challenge.rw_pushedclerks_k01_whole_machines).prog) (w := w) KX G hmg c
    refine ⟨K, KX, e.n_law, Lw.tfL.map (He.cT K), Fw.spLaw (Lw.G0 K a), fun p hp => ?_, fun p hp => ?_, fun p hp => ?_, hb, fun H b ns hl _ htab hS => ⟨b, ns, rfl, hS, ⟨fun P hP => ?_, fun p hp => ?_⟩, fun v H' e => e⟩, fun base Kb Gb tb => Lw.ok_n_law (hT base Kb Gb fun p hp => ⟨(tb p hp).code, (tb p hp).bm, (tb p hp).gP⟩) Lw.law_true⟩
    · obtain ⟨q, hq, rfl⟩ := List.mem_map.mp hp
      exact c.empty q hq
    · obtain ⟨q, hq, rfl⟩ := List.mem_map.mp hp
      exact c.out q hq
    · obtain ⟨q, hq, rfl⟩ := List.mem_map.mp hp
      exact PySem.W.codeHd_of_K KX (c.hd q hq)
    · have hP : P ∈ Lw.TGof a := hP
      have e2 : Lw.TGof a ++ (Lw.TLof a).map (·.1) = (Lw.tfL.map (He.cT K)).map (·.2) := by rw [← hcs]; rfl
      have hP2 := List.mem_append_left ((Lw.TLof a).map (·.1)) hP
      rw [e2] at hP2
      obtain ⟨p, hp, rfl⟩ := List.mem_map.mp hP2
      exact ⟨#[], htab p hp, by first | trivial | simp [TriplesOk]⟩
    · have hp0 : p ∈ Lw.TLof a := hp
      have e2 : Lw.TGof a ++ (Lw.TLof a).map (·.1) = (Lw.tfL.map (He.cT K)).map (·.2) := by rw [← hcs]; rfl
      have hP2 := List.mem_append_right (Lw.TGof a) (List.mem_map_of_mem (f := (·.1)) hp0)
      rw [e2] at hP2
      obtain ⟨q, hq, eq⟩ := List.mem_map.mp hP2
      exact ⟨#[], by rw [← eq]; exact htab q hq, by first | trivial | simp [TriplesOk], fun _ _ z => by cases z⟩
