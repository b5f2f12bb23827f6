import PyProof.Rows.All
import Wide.All
import OpenK.AllK
import Wide.FinOn
import HandS.ForMost
import HandS.ForExc
import HandS.CallSlots
import HandS.IsInst
import HandS.Deep
import HandS.Wide
import HandS.Flow
import HandS.Evl
import HandS.Lambda
import HandS.TupAny
import HandS.Style
import HandS.SortInts
import HandS.DictComp
import HandS.ExcIs
import KE.KExcIs
import HandS.ExcInit
import HandS.WordsExc
import HandS.ExcField
import HandS.ExcValue
import HandS.SetFor
import HandS.Head0
import HandS.Head1
import HandS.Head2
import HandS.HeadHook1
import HandS.ClsMeth
import KE.KRevSl
import HandS.SlotsOwn
import KE.DataCmp
import KE.KOpsOwn
import HandS.Zip
import PyProof.EnumMake
import KE.SortData
import HandS.Conv
import PyProof.EqAt
import PyProof.NeKinds
import HandS.OwnEq
import HandS.HeadHook3
import HandS.Set
import HandS.Strs
import HandS.HeadNt
import PyProof.StrBlock2
import PySem.Challenge.RW_risingread_k09_schemes_made
set_option Elab.async false
set_option linter.all false
set_option maxRecDepth 100000
set_option maxHeartbeats 1000000
namespace DL
open PySem L2

/-! ### data -/
inductive D where
  | non
  | bl (b : Bool)
  | int (i : Int)
  | str (x : Str)
  | lst (xs : List D)
  | tup (xs : List D)
  | dct (kvs : List (Key × D))
  | obj (c : Nat) (fs : List (Str × D))
  | exc (c : Nat) (fs : List (Str × D))
  | loc (i : Nat)
  | pen
  | scr (ns : List Int)
instance : Inhabited D := ⟨.non⟩

/-- an exception: the number of its class, its fields -/
structure Exn where
  c : Nat
  fs : List (Str × D)
/-- what changes: a bound on the pen's draws, the mutable instances -/
structure Gh where
  pd : Bool
  n : Nat
  mem : List (Nat × List (Str × D))
  cl : Nat

/-- where things stand: the frozen heap, the pen, the mutable instances -/
structure Cn where
  F : Hp
  pen : Option Addr
  ma : List Addr
  cel : Addr

/-- an object that no table of code objects tells of -/
def Pl (o : HO) : Prop := (∀ ps, o ≠ .tbl ps) ∧ ∀ c q, o ≠ LamX.CodeO c q
/-- what is fixed: the classes' addresses, what a pen's object is -/
structure Tb where
  ct : Nat → Addr
  pn : Addr → HO → Nat → Prop
  cok : List Int → Prop
  T : List (Addr × Str)
  pl : ∀ a o n, pn a o n → Pl o

abbrev Ex := Evl.Ex

/-- an exception that is held as a value -/
def excHO (C : Addr) (a : Addr) (d : Option Addr) : HO := .ext fun h => ∃ o vs, h.get? a = some o ∧ o.cls = .ref C ∧ o.dict = d ∧ o.data = .fields vs

mutual
inductive Rep (B : Tb) (K : PySem.W.Frag) (c : Cn) : V → D → Prop
  | non : Rep B K c .non .non
  | bl (b : Bool) : Rep B K c (.bl b) (.bl b)
  | int (i : Int) : Rep B K c (.int i) (.int i)
  | str (x : Str) : Rep B K c (.str x) (.str x)
  | lst {a : Addr} {vs : List V} {ds : List D} : c.F a = some (.lst vs) → Reps B K c vs ds → Rep B K c (.ref a) (.lst ds)
  | tup {a : Addr} {vs : List V} {ds : List D} : SqT K c.F a vs → Reps B K c vs ds → Rep B K c (.ref a) (.tup ds)
  | dct {a : Addr} {kvs : List (Key × V)} {ds : List (Key × D)} : c.F a = some (.dK kvs) → RepK B K c kvs ds → Rep B K c (.ref a) (.dct ds)
  | obj {a dx : Addr} {i : Nat} {fs : List (Str × V)} {ds : List (Str × D)} : c.F a = some (.ins (B.ct i) dx fs) → RepF B K c fs ds → Rep B K c (.ref a) (.obj i ds)
  | exc {a d : Addr} {i : Nat} {fs : List (Str × V)} {ds : List (Str × D)} : c.F a = some (excHO (B.ct i) a (some d)) → c.F d = some (.xd fs) → RepF B K c fs ds → Rep B K c (.ref a) (.exc i ds)
  | exc0 {a : Addr} {i : Nat} : c.F a = some (excHO (B.ct i) a none) → Rep B K c (.ref a) (.exc i [])
  | loc {a : Addr} {i : Nat} : c.ma[i]? = some a → Rep B K c (.ref a) (.loc i)
  | pen {a : Addr} : c.pen = some a → Rep B K c (.ref a) .pen
  | scr {a : Addr} {ns : List Int} : SqL K c.F a (ns.map V.int) → Rep B K c (.ref a) (.scr ns)
inductive Reps (B : Tb) (K : PySem.W.Frag) (c : Cn) : List V → List D → Prop
  | nil : Reps B K c [] []
  | cons {v : V} {d : D} {vs : List V} {ds : List D} : Rep B K c v d → Reps B K c vs ds → Reps B K c (v :: vs) (d :: ds)
inductive RepK (B : Tb) (K : PySem.W.Frag) (c : Cn) : List (Key × V) → List (Key × D) → Prop
  | nil : RepK B K c [] []
  | cons {k : Key} {v : V} {d : D} {vs : List (Key × V)} {ds : List (Key × D)} : Rep B K c v d → RepK B K c vs ds → RepK B K c ((k, v) :: vs) ((k, d) :: ds)
inductive RepF (B : Tb) (K : PySem.W.Frag) (c : Cn) : List (Str × V) → List (Str × D) → Prop
  | nil : RepF B K c [] []
  | cons {k : Str} {v : V} {d : D} {vs : List (Str × V)} {ds : List (Str × D)} : Rep B K c v d → RepF B K c vs ds → RepF B K c ((k, v) :: vs) ((k, d) :: ds)
end

/-- what stands goes on standing -/
structure Le (c c' : Cn) : Prop where
  F : Ex c.F c'.F
  pen : ∀ p, c.pen = some p → c'.pen = some p
  ma : ∀ (i : Nat) (a : Addr), c.ma[i]? = some a → c'.ma[i]? = some a
  cel : ∀ p, c.pen = some p → c'.cel = c.cel
theorem Le.refl (c : Cn) : Le c c := ⟨Evl.Ex.refl _, fun _ h => h, fun _ _ h => h, fun _ _ => rfl⟩
theorem Le.trans {c c1 c2 : Cn} (a : Le c c1) (b : Le c1 c2) : Le c c2 := ⟨a.F.trans b.F, fun p h => b.pen p (a.pen p h), fun i x h => b.ma i x (a.ma i x h), fun p h => (b.cel p (a.pen p h)).trans (a.cel p h)⟩
section
variable {B : Tb} {K : PySem.W.Frag} {c c' : Cn}
mutual
theorem Rep.mono (e : Le c c') : ∀ {v : V} {d : D}, Rep B K c v d → Rep B K c' v d
  | _, _, .non => .non
  | _, _, .bl b => .bl b
  | _, _, .int i => .int i
  | _, _, .str x => .str x
  | _, _, .lst h r => .lst (e.F _ _ h) (Reps.mono e r)
  | _, _, .tup h r => .tup (Evl.ex_t e.F h) (Reps.mono e r)
  | _, _, .dct h r => .dct (e.F _ _ h) (RepK.mono e r)
  | _, _, .obj h r => .obj (e.F _ _ h) (RepF.mono e r)
  | _, _, .exc h h2 r => .exc (e.F _ _ h) (e.F _ _ h2) (RepF.mono e r)
  | _, _, .exc0 h => .exc0 (e.F _ _ h)
  | _, _, .loc h => .loc (e.ma _ _ h)
  | _, _, .pen h => .pen (e.pen _ h)
  | _, _, .scr h => .scr (Evl.ex_l e.F h)
theorem Reps.mono (e : Le c c') : ∀ {vs : List V} {ds : List D}, Reps B K c vs ds → Reps B K c' vs ds
  | _, _, .nil => .nil
  | _, _, .cons h r => .cons (Rep.mono e h) (Reps.mono e r)
theorem RepK.mono (e : Le c c') : ∀ {vs : List (Key × V)} {ds : List (Key × D)}, RepK B K c vs ds → RepK B K c' vs ds
  | _, _, .nil => .nil
  | _, _, .cons h r => .cons (Rep.mono e h) (RepK.mono e r)
theorem RepF.mono (e : Le c c') : ∀ {vs : List (Str × V)} {ds : List (Str × D)}, RepF B K c vs ds → RepF B K c' vs ds
  | _, _, .nil => .nil
  | _, _, .cons h r => .cons (Rep.mono e h) (RepF.mono e r)
end
theorem Reps.length : ∀ {vs : List V} {ds : List D}, Reps B K c vs ds → vs.length = ds.length
  | _, _, .nil => rfl
  | _, _, .cons _ r => congrArg (· + 1) (Reps.length r)
theorem Reps.get : ∀ {vs : List V} {ds : List D} {i : Nat} {v : V}, Reps B K c vs ds → vs[i]? = some v → ∃ d, ds[i]? = some d ∧ Rep B K c v d
  | _, _, _, _, .nil, e => by simp at e
  | _, _, 0, _, .cons r _, e => by simp at e; subst e; exact ⟨_, rfl, r⟩
  | _, _, i + 1, v, .cons _ t, e => by
    obtain ⟨d, h1, h2⟩ := Reps.get (i := i) (v := v) t (by simpa using e)
    exact ⟨d, by simpa using h1, h2⟩
theorem Reps.getD : ∀ {vs : List V} {ds : List D} {i : Nat} {d : D}, Reps B K c vs ds → ds[i]? = some d → ∃ v, vs[i]? = some v ∧ Rep B K c v d
  | _, _, _, _, .nil, e => by simp at e
  | _, _, 0, _, .cons r _, e => by simp at e; subst e; exact ⟨_, rfl, r⟩
  | _, _, i + 1, v, .cons _ t, e => by
    obtain ⟨d, h1, h2⟩ := Reps.getD (i := i) (d := v) t (by simpa using e)
    exact ⟨d, by simpa using h1, h2⟩
theorem Reps.append : ∀ {vs ws : List V} {ds es : List D}, Reps B K c vs ds → Reps B K c ws es → Reps B K c (vs ++ ws) (ds ++ es)
  | _, _, _, _, .nil, s => s
  | _, _, _, _, .cons r t, s => .cons r (Reps.append t s)
end

/-- from (c, H) to (c', H'): the frozen stays, all that was tracked but the mutable stays, what is newly mutable was not there -/
structure Grow (c : Cn) (H : Hp) (c' : Cn) (H' : Hp) : Prop where
  le : Le c c'
  kp : ∀ a o, H a = some o → c.pen ≠ some a → a ∉ c.ma → H' a = some o ∨ ∃ ps qs, o = .tbl ps ∧ H' a = some (.tbl qs)
  fresh : ∀ a, c'.pen = some a ∨ a ∈ c'.ma → (c.pen = some a ∨ a ∈ c.ma) ∨ H a = none
  froz : ∀ a o, c'.F a = some o → (c.F a = some o ∨ H a = none) ∨ (c.pen = some a ∨ a ∈ c.ma)
theorem Grow.refl (c : Cn) (H : Hp) : Grow c H c H := ⟨Le.refl c, fun _ _ h _ _ => .inl h, fun _ h => .inl h, fun _ _ h => .inl (.inl h)⟩
theorem Grow.keep {c c' : Cn} {H H' : Hp} (s : Grow c H c' H') (a : Addr) (o : HO) (h : H a = some o) (h1 : c.pen ≠ some a) (h2 : a ∉ c.ma) (nt : ∀ ps, o ≠ HO.tbl ps := by nofun) : H' a = some o :=
  (s.kp a o h h1 h2).elim id fun ⟨ps, _, e, _⟩ => absurd e (nt ps)
theorem Grow.trans {c c1 c2 : Cn} {H H1 H2 : Hp} (a : Grow c H c1 H1) (b : Grow c1 H1 c2 H2) : Grow c H c2 H2 := by
  have back : ∀ x, H1 x = none → H x = none ∨ (c.pen = some x ∨ x ∈ c.ma) := fun x q => by
    cases e : H x with
    | none => exact .inl rfl
    | some o =>
      by_cases hp : c.pen = some x
      · exact .inr (.inl hp)
      · by_cases hm : x ∈ c.ma
        · exact .inr (.inr hm)
        · rcases a.kp x o e hp hm with z | ⟨_, _, _, z⟩ <;> rw [q] at z <;> cases z
  have np : ∀ {x o}, H x = some o → c.pen ≠ some x → x ∉ c.ma → c1.pen ≠ some x ∧ x ∉ c1.ma := fun {x o} h hp hm => by
    refine ⟨fun z => ?_, fun z => ?_⟩
    · rcases a.fresh x (.inl z) with (q | q) | q
      · exact hp q
      · exact hm q
      · rw [h] at q; cases q
    · rcases a.fresh x (.inr z) with (q | q) | q
      · exact hp q
      · exact hm q
      · rw [h] at q; cases q
  refine ⟨a.le.trans b.le, fun x o h hp hm => ?_, fun x h => ?_, fun x o h => ?_⟩
  · obtain ⟨n1, n2⟩ := np h hp hm
    rcases a.kp x o h hp hm with h1 | ⟨ps, qs, e, h1⟩
    · exact b.kp x o h1 n1 n2
    · rcases b.kp x _ h1 n1 n2 with h2 | ⟨_, rs, _, h2⟩
      · exact .inr ⟨ps, qs, e, h2⟩
      · exact .inr ⟨ps, rs, e, h2⟩
  · rcases b.fresh x h with q | q
    · exact a.fresh x q
    · rcases back x q with q | q
      · exact .inr q
      · exact .inl q
  · rcases b.froz x o h with (q | q) | q
    · exact a.froz x o q
    · rcases back x q with q | q
      · exact .inl (.inr q)
      · exact .inr q
    · rcases a.fresh x q with q | q
      · exact .inr q
      · exact .inl (.inr q)

/-- what is ours stays ours while others work -/
theorem Grow.mine {c c' : Cn} {H H' : Hp} {p : Addr} {o : HO} (s : Grow c H c' H') (h : H p = some o) (hF : c.F p = none) (hp : c.pen ≠ some p) (hm : p ∉ c.ma) (nt : ∀ ps, o ≠ HO.tbl ps := by nofun) : H' p = some o ∧ c'.F p = none ∧ c'.pen ≠ some p ∧ p ∉ c'.ma := by
  refine ⟨s.keep p o h hp hm nt, ?_, fun z => ?_, fun z => ?_⟩
  · cases e : c'.F p with
    | none => rfl
    | some u =>
      rcases s.froz p u e with (q | q) | (q | q)
      · rw [hF] at q; cases q
      · rw [h] at q; cases q
      · exact absurd q hp
      · exact absurd q hm
  · rcases s.fresh p (.inl z) with (q | q) | q
    · exact hp q
    · exact hm q
    · rw [h] at q; cases q
  · rcases s.fresh p (.inr z) with (q | q) | q
    · exact hp q
    · exact hm q
    · rw [h] at q; cases q
theorem codeO_inj {c : Addr} {q : Str} {o : HO} (h : Pl o) : o ≠ LamX.CodeO c q := h.2 c q
/-- the tables, and no others -/
def Tbs (T : List (Addr × Str)) (H : Hp) : Prop := LamX.Tabs T H ∧ ∀ a ps, H a = some (.tbl ps) → a ∈ T.map (·.1)
theorem tabs_put {T : List (Addr × Str)} {H : Hp} {p : Addr} {o : HO} (t : Tbs T H) (h : H p = none ∨ ∃ u, H p = some u ∧ Pl u) (no : ∀ ps, o ≠ HO.tbl ps) : Tbs T (upd H p o) := by
  refine ⟨?_, fun a ps e => ?_⟩
  rotate_right
  · by_cases z : a = p
    · subst z; rw [upd_same] at e; exact absurd (Option.some.inj e) (no ps)
    · rw [upd_ne z] at e; exact t.2 a ps e
  intro x hx
  obtain ⟨ps, h1, h2, h3⟩ := t.1 x hx
  have ne : ∀ {b u}, H b = some u → ¬ Pl u → b ≠ p := fun {b u} e n z => by
    subst z
    rcases h with q | ⟨u', q, pl⟩
    · rw [e] at q; cases q
    · rw [e] at q; cases q; exact n pl
  refine ⟨ps, by rw [upd_ne (ne h1 fun z => z.1 _ rfl)]; exact h1, h2, fun pos cv hc => ?_⟩
  obtain ⟨c, e1, e2⟩ := h3 pos cv hc
  exact ⟨c, e1, by rw [upd_ne (ne e2 fun z => z.2 _ _ rfl)]; exact e2⟩
/-- the state is right -/
structure Fine (B : Tb) (K : PySem.W.Frag) (c : Cn) (g : Gh) (H : Hp) : Prop where
  sub : Ex c.F H
  pd : c.pen.isSome = g.pd
  pen : ∀ p, c.pen = some p → c.F p = none ∧ p ∉ c.ma ∧ ∃ o, H p = some o ∧ B.pn c.cel o g.n
  cells : ∀ p, c.pen = some p → ∃ ns : List Int, c.F c.cel = some (.lst (ns.map V.int)) ∧ B.cok ns ∧ ns.length = g.cl
  mlen : c.ma.length = g.mem.length
  mnd : c.ma.Nodup
  mem : ∀ (i : Nat) (m : Nat × List (Str × D)) (a : Addr), g.mem[i]? = some m → c.ma[i]? = some a → c.F a = none ∧ ∃ dx fs, H a = some (.ins (B.ct m.1) dx fs) ∧ RepF B K c fs m.2
  tabs : Tbs B.T H
  nt : ∀ a ps, c.F a ≠ some (.tbl ps)

/-- slots that hold frozen data -/
abbrev DEnv := List (Option D)
structure RelP (B : Tb) (K : PySem.W.Frag) (c : Cn) (ρ : DEnv) (σ : L2.St) : Prop where
  len : ρ.length ≤ σ.length
  sl : ∀ (i : Nat) (d : D), ρ[i]? = some (some d) → ∃ v, σ[i]? = some (some v) ∧ Rep B K c v d
theorem RelP.mono {B : Tb} {K : PySem.W.Frag} {c c' : Cn} {ρ : DEnv} {σ : L2.St} (e : Le c c') (h : RelP B K c ρ σ) : RelP B K c' ρ σ := ⟨h.len, fun i d q =>
  let ⟨v, h1, h2⟩ := h.sl i d q
  ⟨v, h1, h2.mono e⟩⟩
theorem Le.ice {c : Cn} {p : Addr} {o : HO} (h : c.F p = none) : Le c { c with F := upd c.F p o } := ⟨Evl.Ex.new h, fun _ z => z, fun _ _ z => z, fun _ _ => rfl⟩

theorem nt_put {F : Hp} {p : Addr} {o : HO} (h : ∀ a ps, F a ≠ some (.tbl ps)) (no : ∀ ps, o ≠ HO.tbl ps) : ∀ a ps, upd F p o a ≠ some (.tbl ps) := fun a ps e => by
  by_cases z : a = p
  · subst z; rw [upd_same] at e; exact no ps (Option.some.inj e)
  · rw [upd_ne z] at e; exact h a ps e
/-- a new frozen object -/
theorem Fine.lay {B : Tb} {K : PySem.W.Frag} {c : Cn} {g : Gh} {H : Hp} {p : Addr} {o : HO} (k : Fine B K c g H) (hp : H p = none) (no : ∀ ps, o ≠ HO.tbl ps := by nofun) : Grow c H { c with F := upd c.F p o } (upd H p o) ∧ Fine B K { c with F := upd c.F p o } g (upd H p o) := by
  have fp : c.F p = none := Evl.fresh_back k.sub hp
  have eF : Ex c.F (upd c.F p o) := Evl.Ex.new fp
  have le : Le c { c with F := upd c.F p o } := ⟨eF, fun _ h => h, fun _ _ h => h, fun _ _ => rfl⟩
  refine ⟨⟨le, fun a u h _ _ => .inl (Evl.Ex.new hp a u h), fun a h => .inl h, fun a u h => .inl ?_⟩, ⟨fun a u h => ?_, k.pd, fun q hq => ?_, fun q hq => (let ⟨ns, h1, h2⟩ := k.cells q hq; ⟨ns, eF _ _ h1, h2⟩), k.mlen, k.mnd, fun i m a h1 h2 => ?_, tabs_put k.tabs (.inl hp) no, nt_put k.nt no⟩⟩
  · have h : upd c.F p o a = some u := h
    by_cases e : a = p
    · subst e; exact .inr hp
    · rw [upd_ne e] at h; exact .inl h
  · show upd H p o a = some u
    have h : upd c.F p o a = some u := h
    by_cases e : a = p
    · subst e; rw [upd_same] at h; rw [upd_same]; exact h
    · rw [upd_ne e] at h; rw [upd_ne e]; exact k.sub a u h
  · obtain ⟨h1, hm, u, h2, h3⟩ := k.pen q hq
    have ne : q ≠ p := ne_of_none h2 hp
    refine ⟨?_, hm, u, ?_, h3⟩
    · show upd c.F p o q = none
      rw [upd_ne ne]; exact h1
    · rw [upd_ne ne]; exact h2
  · obtain ⟨h3, dx, fs, h4, h5⟩ := k.mem i m a h1 h2
    have ne : a ≠ p := ne_of_none h4 hp
    refine ⟨?_, dx, fs, ?_, RepF.mono le h5⟩
    · show upd c.F p o a = none
      rw [upd_ne ne]; exact h3
    · rw [upd_ne ne]; exact h4
end DL

namespace DL
open PySem L2

abbrev DQ := D → Gh → Prop
abbrev DZ := Exn → Gh → Prop
abbrev DE := DEnv → Gh → DQ → DZ → Prop
abbrev DA := DEnv → Gh → (List D → Gh → Prop) → DZ → Prop
abbrev DT := DEnv → Gh → (Bool → Gh → Prop) → DZ → Prop
abbrev DSp := List D → Gh → DQ → DZ → Prop

/-- how an exception lies -/
def ExR (B : Tb) (K : PySem.W.Frag) (c : Cn) (cls : Value) (d : Option Addr) (ex : Exn) : Prop :=
  cls = .ref (B.ct ex.c) ∧ ((d = none ∧ ex.fs = []) ∨ ∃ dd fs, d = some dd ∧ c.F dd = some (.xd fs) ∧ RepF B K c fs ex.fs)
/-- what is let out is wanted -/
def ZOk (B : Tb) (K : PySem.W.Frag) (c : Cn) (H : Hp) (σ : L2.St) (W : WX) (Z : DZ) : Prop :=
  ∀ c' H' g' ex cls d, Grow c H c' H' → Fine B K c' g' H' → ExR B K c' cls d ex → Z ex g' → W cls d σ H'
theorem ZOk.next {B : Tb} {K : PySem.W.Frag} {c c1 : Cn} {H H1 : Hp} {σ : L2.St} {W : WX} {Z : DZ} (z : ZOk B K c H σ W Z) (s : Grow c H c1 H1) : ZOk B K c1 H1 σ W Z :=
  fun c' H' g' ex cls d s' k r h => z c' H' g' ex cls d (s.trans s') k r h

/-! ### the readings of L2 at their strongest -/
def semE (X : Cx) (e : Expr) : TE := fun σ H Q => ∀ pins s, Inv X pins σ H s → wpAny (model X.prog X.w) X.A (eval e X.env) (EP X pins σ Q) X.xe s
theorem pe_sem {X : Cx} {e : Expr} : PE X e (semE X e) := ⟨fun pins s _ _ _ I h => h pins s I⟩
theorem sem_of {X : Cx} {e : Expr} {t : TE} (h : PE X e t) {σ : L2.St} {H : Hp} {Q : VK} (q : t σ H Q) : semE X e σ H Q := fun pins s I => h.run pins s σ H Q I q
theorem semE.mono {X : Cx} {e : Expr} {σ : L2.St} {H : Hp} {Q Q' : VK} (h : semE X e σ H Q) (k : ∀ v H', Q v H' → Q' v H') : semE X e σ H Q' := fun pins s I =>
  thn (h pins s I) fun _ _ ⟨v, H', I', r, q⟩ => ⟨v, H', I', r, k v H' q⟩
def semT (X : Cx) (e : Expr) : TT := fun σ H Q => ∀ pins s, Inv X pins σ H s → wpAny (model X.prog X.w) X.A (isTrue e X.env (eval e X.env)) (TP X pins σ Q) X.xe s
theorem pt_sem {X : Cx} {e : Expr} : PT X e (semT X e) := ⟨fun pins s _ _ _ I h => h pins s I⟩
theorem semT_of {X : Cx} {e : Expr} {t : TT} (h : PT X e t) {σ : L2.St} {H : Hp} {Q : Bool → Hp → Prop} (q : t σ H Q) : semT X e σ H Q := fun pins s I => h.run pins s σ H Q I q
theorem semT.mono {X : Cx} {e : Expr} {σ : L2.St} {H : Hp} {Q Q' : Bool → Hp → Prop} (h : semT X e σ H Q) (k : ∀ v H', Q v H' → Q' v H') : semT X e σ H Q' := fun pins s I =>
  thn (h pins s I) fun _ _ ⟨H', I', q⟩ => ⟨H', I', k _ H' q⟩
def semA (X : Cx) (es : List Expr) : TA := fun σ H Q => ∀ pos pins s, Inv X pins σ H s → wpAny (model X.prog X.w) X.A (spliced (backTo pos (starEach es X.env))) (AP X pins σ Q) X.xe s
theorem pa_sem {X : Cx} {es : List Expr} : PA X es (semA X es) := ⟨fun pos pins s _ _ _ I h => h pos pins s I⟩
theorem semA_of {X : Cx} {es : List Expr} {t : TA} (h : PA X es t) {σ : L2.St} {H : Hp} {Q : List V → Hp → Prop} (q : t σ H Q) : semA X es σ H Q := fun pos pins s I => h.run pos pins s σ H Q I q
theorem semA.mono {X : Cx} {es : List Expr} {σ : L2.St} {H : Hp} {Q Q' : List V → Hp → Prop} (h : semA X es σ H Q) (k : ∀ v H', Q v H' → Q' v H') : semA X es σ H Q' := fun pos pins s I =>
  thn (h pos pins s I) fun _ _ ⟨v, H', I', r, q⟩ => ⟨v, H', I', r, k v H' q⟩

/-- the ends of an expression, of arguments, of a test -/
def PQ (B : Tb) (K : PySem.W.Frag) (c : Cn) (H : Hp) (Q : DQ) : VK := fun v H' => ∃ c' g' d, Grow c H c' H' ∧ Fine B K c' g' H' ∧ Rep B K c' v d ∧ Q d g'
def PQs (B : Tb) (K : PySem.W.Frag) (c : Cn) (H : Hp) (n : Nat) (Q : List D → Gh → Prop) : List V → Hp → Prop := fun vs H' => ∃ c' g' ds, Grow c H c' H' ∧ Fine B K c' g' H' ∧ Reps B K c' vs ds ∧ ds.length = n ∧ Q ds g'
def PQb (B : Tb) (K : PySem.W.Frag) (c : Cn) (H : Hp) (Q : Bool → Gh → Prop) : Bool → Hp → Prop := fun b H' => ∃ c' g', Grow c H c' H' ∧ Fine B K c' g' H' ∧ Q b g'
theorem PQ.back {B : Tb} {K : PySem.W.Frag} {c c1 : Cn} {H H1 : Hp} {Q : DQ} (s : Grow c H c1 H1) {v : V} {H' : Hp} (q : PQ B K c1 H1 Q v H') : PQ B K c H Q v H' := by
  obtain ⟨c', g', d, s', k, r, h⟩ := q
  exact ⟨c', g', d, s.trans s', k, r, h⟩

section
variable (B : Tb) (X : Cx) (W : WX)
structure WE (e : Expr) (t : DE) : Prop where
  run : ∀ (c : Cn) (g : Gh) (ρ : DEnv) (σ : L2.St) (H : Hp) (Q : DQ) (Z : DZ), Fine B X.K c g H → RelP B X.K c ρ σ → t ρ g Q Z → ZOk B X.K c H σ W Z → semE X e σ H (PQ B X.K c H Q)
structure WA (es : List Expr) (t : DA) : Prop where
  run : ∀ (c : Cn) (g : Gh) (ρ : DEnv) (σ : L2.St) (H : Hp) (Q : List D → Gh → Prop) (Z : DZ), Fine B X.K c g H → RelP B X.K c ρ σ → t ρ g Q Z → ZOk B X.K c H σ W Z → semA X es σ H (PQs B X.K c H es.length Q)
structure WT (e : Expr) (t : DT) : Prop where
  run : ∀ (c : Cn) (g : Gh) (ρ : DEnv) (σ : L2.St) (H : Hp) (Q : Bool → Gh → Prop) (Z : DZ), Fine B X.K c g H → RelP B X.K c ρ σ → t ρ g Q Z → ZOk B X.K c H σ W Z → semT X e σ H (PQb B X.K c H Q)
end

section
variable {B : Tb} {X : Cx} {W : WX} {a b e : Expr} {es : List Expr} {ta tb te : DE} {pos : Pos}
/-! ### names and constants -/
def dVar (i : Nat) : DE := fun ρ g Q _ => ∃ d, ρ[i]? = some (some d) ∧ Q d g
def dC (d : D) : DE := fun _ g Q _ => Q d g
theorem we_var {i : Nat} {x : Str} (hN : X.N[i]? = some x) (hv : Vis X.env.scope x) (hd : (x == ("__debug__" : Str)) = false) (hcd : (x == ("__classdict__" : Str)) = false) : WE B X W (.Name x pos) (dVar i) := by
  refine ⟨fun c g ρ σ H Q Z k r h _ => sem_of (pe_var hN hv hd hcd) ?_⟩
  obtain ⟨d, e, q⟩ := h
  obtain ⟨v, h1, h2⟩ := r.sl i d e
  exact ⟨v, h1, c, g, d, Grow.refl c H, k, h2, q⟩
theorem we_c {v : V} {d : D} (h : PE X e (tC v)) (hr : ∀ c, Rep B X.K c v d) : WE B X W e (dC d) :=
  ⟨fun c g ρ σ H Q Z k r q _ => sem_of h ⟨c, g, d, Grow.refl c H, k, hr c, q⟩⟩
theorem we_int {i j} : WE B X W (.Constant (.int i) j pos) (dC (.int i)) := we_c pe_int fun _ => .int i
theorem we_bl {i j} : WE B X W (.Constant (.bool i) j pos) (dC (.bl i)) := we_c pe_bl fun _ => .bl i
theorem we_non {j} : WE B X W (.Constant .none j pos) (dC .non) := we_c pe_non fun _ => .non
theorem we_str {x j} : WE B X W (.Constant (.str x) j pos) (dC (.str x)) := we_c pe_str fun _ => .str x

/-! ### two parts in a row -/
theorem two {R : D → D → Gh → Prop} {k2 : V → V → Hp → Prop} (ha : WE B X W a ta) (hb : WE B X W b tb) {c : Cn} {g : Gh} {ρ : DEnv} {σ : L2.St} {H : Hp} {Z : DZ} (k : Fine B X.K c g H) (r : RelP B X.K c ρ σ)
    (h : ta ρ g (fun x g1 => tb ρ g1 (fun y g2 => R x y g2) Z) Z) (z : ZOk B X.K c H σ W Z)
    (hk : ∀ x y v u c2 g2 H2, Grow c H c2 H2 → Fine B X.K c2 g2 H2 → Rep B X.K c2 v x → Rep B X.K c2 u y → R x y g2 → k2 v u H2) :
    semE X a σ H fun v H1 => semE X b σ H1 fun u H2 => k2 v u H2 := by
  refine (ha.run c g ρ σ H _ Z k r h z).mono fun v H1 ⟨c1, g1, x, s1, k1, r1, q1⟩ => ?_
  refine (hb.run c1 g1 ρ σ H1 _ Z k1 (r.mono s1.le) q1 (z.next s1)).mono fun u H2 ⟨c2, g2, y, s2, k2', r2, q2⟩ => ?_
  exact hk x y v u c2 g2 H2 (s1.trans s2) k2' (r1.mono s2.le) r2 q2
/-- a value that the operation hands back, and what it lays -/
def Gives (B : Tb) (K : PySem.W.Frag) (f : D → D → Option D) (r : R2) : Prop :=
  ∀ (c : Cn) (g : Gh) (H : Hp) (x y z : D) (v u : V) (Q : VK), Fine B K c g H → Rep B K c v x → Rep B K c u y → f x y = some z →
    (∀ w c' H', Grow c H c' H' → Fine B K c' g H' → Rep B K c' w z → Q w H') → r v u H Q
def dOp (f : D → D → Option D) (ta tb : DE) : DE := fun ρ g Q Z => ta ρ g (fun x g1 => tb ρ g1 (fun y g2 => ∃ z, f x y = some z ∧ Q z g2) Z) Z
theorem we_op {op : Operator} {f : D → D → Option D} {r : R2} (ho : OpR X (binaryOp op) r) (hg : Gives B X.K f r) (ha : WE B X W a ta) (hb : WE B X W b tb) : WE B X W (.BinOp a op b pos) (dOp f ta tb) := by
  refine ⟨fun c g ρ σ H Q Z k rl h z => sem_of (pe_op ho pe_sem pe_sem) ?_⟩
  refine two ha hb k rl h z fun x y v u c2 g2 H2 s2 k2 r1 r2 ⟨w, e, q⟩ => ?_
  exact hg c2 g2 H2 x y w v u _ k2 r1 r2 e fun w' c' H' s3 k3 r3 => ⟨c', g2, w, s2.trans s3, k3, r3, q⟩
theorem we_cmp {op : CmpOp} {f : D → D → Option D} {r : R2} (ho : OpR X (compareOp op) r) (hg : Gives B X.K f r) (ha : WE B X W a ta) (hb : WE B X W b tb) (hm : behindInMarks op b = false) : WE B X W (.Compare a [op] [b] pos) (dOp f ta tb) := by
  refine ⟨fun c g ρ σ H Q Z k rl h z => sem_of (pe_cmpR ho pe_sem pe_sem hm) ?_⟩
  refine two ha hb k rl h z fun x y v u c2 g2 H2 s2 k2 r1 r2 ⟨w, e, q⟩ => ?_
  exact hg c2 g2 H2 x y w v u _ k2 r1 r2 e fun w' c' H' s3 k3 r3 => ⟨c', g2, w, s2.trans s3, k3, r3, q⟩
theorem Rep.blv {K : PySem.W.Frag} {c : Cn} {v : V} {k : Bool} (h : Rep B K c v (.bl k)) : v = .bl k := by cases h; rfl
theorem Rep.intv {K : PySem.W.Frag} {c : Cn} {v : V} {k : Int} (h : Rep B K c v (.int k)) : v = .int k := by cases h; rfl
theorem Rep.strv {K : PySem.W.Frag} {c : Cn} {v : V} {k : Str} (h : Rep B K c v (.str k)) : v = .str k := by cases h; rfl
def dTest (t : DE) : DT := fun ρ g Q Z => t ρ g (fun x g1 => ∃ k, x = .bl k ∧ Q k g1) Z
theorem wt_cmp {op : CmpOp} {f : D → D → Option D} {r : R2} (ho : OpR X (compareOp op) r) (hg : Gives B X.K f r) (ha : WE B X W a ta) (hb : WE B X W b tb) (hm : behindInMarks op b = false) : WT B X W (.Compare a [op] [b] pos) (dTest (dOp f ta tb)) := by
  refine ⟨fun c g ρ σ H Q Z k rl h z => semT_of (pt_cmpR ho pe_sem pe_sem hm) ?_⟩
  refine two ha hb k rl h z fun x y v u c2 g2 H2 s2 k2 r1 r2 ⟨w, e, b', eb, q⟩ => ?_
  subst eb
  exact hg c2 g2 H2 x y _ v u _ k2 r1 r2 e fun w' c' H' s3 k3 r3 => ⟨b', r3.blv, c', g2, s2.trans s3, k3, q⟩
/-- a op1 b op2 c -/
def dChain (f f' : D → D → Option D) (ta tb tc : DE) : DE := fun ρ g Q Z => ta ρ g (fun x g1 => tb ρ g1 (fun y g2 => ∃ k, f x y = some (.bl k) ∧
  if k = true then tc ρ g2 (fun w g3 => ∃ z, f' y w = some z ∧ Q z g3) Z else Q (.bl false) g2) Z) Z
theorem chain_core {e3 : Expr} {f f' : D → D → Option D} {r r' : R2} {tc : DE} {Q' : VK} (hg : Gives B X.K f r) (hg' : Gives B X.K f' r') (ha : WE B X W a ta) (hb : WE B X W b tb) (hc : WE B X W e3 tc)
    {c : Cn} {g : Gh} {ρ : DEnv} {σ : L2.St} {H : Hp} {Q : DQ} {Z : DZ} (k : Fine B X.K c g H) (rl : RelP B X.K c ρ σ) (h : dChain f f' ta tb tc ρ g Q Z) (z : ZOk B X.K c H σ W Z)
    (fin : ∀ v H', PQ B X.K c H Q v H' → Q' v H') : tChain r r' (semE X a) (semE X b) (semE X e3) σ H Q' := by
  refine two ha hb k rl h z fun x y v u c2 g2 H2 s2 k2 r1 r2 ⟨b', e, q⟩ => ?_
  refine hg c2 g2 H2 x y _ v u _ k2 r1 r2 e fun w' c' H' s3 k3 r3 => ⟨b', r3.blv, ?_⟩
  cases b' with
  | false => exact fin _ _ ⟨c', g2, _, s2.trans s3, k3, .bl false, q⟩
  | true =>
    refine (hc.run c' g2 ρ σ H' _ Z k3 (rl.mono (s2.trans s3).le) q (z.next (s2.trans s3))).mono fun v3 H4 ⟨c4, g4, d4, s4, k4, r4, z4, e4, q4⟩ => ?_
    exact hg' c4 g4 H4 y d4 z4 u v3 _ k4 (r2.mono (s3.trans s4).le) r4 e4 fun w5 c5 H5 s5 k5 r5 => fin _ _ ⟨c5, g4, z4, ((s2.trans s3).trans s4).trans s5, k5, r5, q4⟩
theorem we_chain {e3 : Expr} {op op' : CmpOp} {f f' : D → D → Option D} {r r' : R2} {tc : DE} (ho : OpR X (compareOp op) r) (ho' : OpR X (compareOp op') r') (hg : Gives B X.K f r) (hg' : Gives B X.K f' r') (ha : WE B X W a ta) (hb : WE B X W b tb) (hc : WE B X W e3 tc)
    (hm : lastMarks [op, op'] [b, e3] = false) : WE B X W (.Compare a [op, op'] [b, e3] pos) (dChain f f' ta tb tc) :=
  ⟨fun c g ρ σ H Q Z k rl h z => sem_of (pe_chain ho ho' pe_sem pe_sem pe_sem hm) (chain_core hg hg' ha hb hc k rl h z fun _ _ q => q)⟩
theorem wt_chain {e3 : Expr} {op op' : CmpOp} {f f' : D → D → Option D} {r r' : R2} {tc : DE} (ho : OpR X (compareOp op) r) (ho' : OpR X (compareOp op') r') (hg : Gives B X.K f r) (hg' : Gives B X.K f' r') (ha : WE B X W a ta) (hb : WE B X W b tb) (hc : WE B X W e3 tc)
    (hm : lastMarks [op, op'] [b, e3] = false) : WT B X W (.Compare a [op, op'] [b, e3] pos) (dTest (dChain f f' ta tb tc)) :=
  ⟨fun c g ρ σ H Q Z k rl h z => semT_of (pt_chain ho ho' pe_sem pe_sem pe_sem hm) (chain_core hg hg' ha hb hc k rl h z fun v H' ⟨c', g', d, s, kk, rr, b', e, q⟩ => by
    subst e
    exact ⟨b', rr.blv, c', g', s, kk, q⟩)⟩
/-! ### and, or, not -/
def dAndT (t u : DT) : DT := fun ρ g Q Z => t ρ g (fun k g1 => if k = true then u ρ g1 Q Z else Q false g1) Z
def dOrT (t u : DT) : DT := fun ρ g Q Z => t ρ g (fun k g1 => if k = true then Q true g1 else u ρ g1 Q Z) Z
def dNotT (t : DT) : DT := fun ρ g Q Z => t ρ g (fun k g1 => Q (!k) g1) Z
end
end DL

namespace DL
open PySem L2

/-! ### tests whatever their whole is -/
def semW (X : Cx) (e : Expr) : TT := fun σ H Q => ∀ wh pins s, Inv X pins σ H s → wpAny (model X.prog X.w) X.A (isTrue e X.env wh) (TP X pins σ Q) X.xe s
theorem pw_sem {X : Cx} {e : Expr} : PW X e (semW X e) := ⟨fun wh pins s _ _ _ I h => h wh pins s I⟩
theorem semW_of {X : Cx} {e : Expr} {t : TT} (h : PW X e t) {σ : L2.St} {H : Hp} {Q : Bool → Hp → Prop} (q : t σ H Q) : semW X e σ H Q := fun wh pins s I => h.run wh pins s σ H Q I q
structure WW (B : Tb) (X : Cx) (W : WX) (e : Expr) (t : DT) : Prop where
  run : ∀ (c : Cn) (g : Gh) (ρ : DEnv) (σ : L2.St) (H : Hp) (Q : Bool → Gh → Prop) (Z : DZ), Fine B X.K c g H → RelP B X.K c ρ σ → t ρ g Q Z → ZOk B X.K c H σ W Z → semW X e σ H (PQb B X.K c H Q)
theorem semW.mono {X : Cx} {e : Expr} {σ : L2.St} {H : Hp} {Q Q' : Bool → Hp → Prop} (h : semW X e σ H Q) (k : ∀ v H', Q v H' → Q' v H') : semW X e σ H Q' := fun wh pins s I =>
  thn (h wh pins s I) fun _ _ ⟨H', I', q⟩ => ⟨H', I', k _ H' q⟩
section
variable {B : Tb} {X : Cx} {W : WX} {a b e : Expr} {es rest : List Expr} {ta tb te : DE} {tA tB : DT} {tr : DA} {pos : Pos}
theorem WW.wt (h : WW B X W e tA) : WT B X W e tA := ⟨fun c g ρ σ H Q Z k r q z pins s I => h.run c g ρ σ H Q Z k r q z _ pins s I⟩
theorem ww_and1 (h : WT B X W a tA) : WW B X W (.BoolOp .And [a] pos) tA := ⟨fun c g ρ σ H Q Z k r q z => semW_of (pw_and1 pt_sem) (h.run c g ρ σ H Q Z k r q z)⟩
theorem ww_or1 (h : WT B X W a tA) : WW B X W (.BoolOp .Or [a] pos) tA := ⟨fun c g ρ σ H Q Z k r q z => semW_of (pw_or1 pt_sem) (h.run c g ρ σ H Q Z k r q z)⟩
theorem ww_and (h : WT B X W a tA) (hb : WW B X W (.BoolOp .And (b :: rest) pos) tB) : WW B X W (.BoolOp .And (a :: b :: rest) pos) (dAndT tA tB) := by
  refine ⟨fun c g ρ σ H Q Z k r q z => semW_of (pw_and pt_sem pw_sem) ?_⟩
  refine (h.run c g ρ σ H _ Z k r q z).mono fun v H1 ⟨c1, g1, s1, k1, q1⟩ => ?_
  cases v with
  | true => exact (hb.run c1 g1 ρ σ H1 Q Z k1 (r.mono s1.le) q1 (z.next s1)).mono fun v2 H2 ⟨c2, g2, s2, k2, q2⟩ => ⟨c2, g2, s1.trans s2, k2, q2⟩
  | false => exact ⟨c1, g1, s1, k1, q1⟩
theorem ww_or (h : WT B X W a tA) (hb : WW B X W (.BoolOp .Or (b :: rest) pos) tB) : WW B X W (.BoolOp .Or (a :: b :: rest) pos) (dOrT tA tB) := by
  refine ⟨fun c g ρ σ H Q Z k r q z => semW_of (pw_or pt_sem pw_sem) ?_⟩
  refine (h.run c g ρ σ H _ Z k r q z).mono fun v H1 ⟨c1, g1, s1, k1, q1⟩ => ?_
  cases v with
  | true => exact ⟨c1, g1, s1, k1, q1⟩
  | false => exact (hb.run c1 g1 ρ σ H1 Q Z k1 (r.mono s1.le) q1 (z.next s1)).mono fun v2 H2 ⟨c2, g2, s2, k2, q2⟩ => ⟨c2, g2, s1.trans s2, k2, q2⟩
theorem wt_not (h : WT B X W a tA) : WT B X W (.UnaryOp .Not a pos) (dNotT tA) :=
  ⟨fun c g ρ σ H Q Z k r q z => semT_of (pt_not pt_sem) ((h.run c g ρ σ H _ Z k r q z).mono fun _ _ q => q)⟩
/-- a value that is a bool, as a test -/
theorem wt_val (h : WE B X W e te) (he : ∀ whole, isTrue e X.env whole = (do let v ← whole; standAt e.pos; holding [v] (truthy v)) := by intro _; rfl) : WT B X W e (dTest te) :=
  ⟨fun c g ρ σ H Q Z k r q z => semT_of (pt_val pe_sem he) ((h.run c g ρ σ H _ Z k r q z).mono fun v H' ⟨c', g', d, s, k', rr, b', e', q'⟩ => by
    subst e'
    exact ⟨b', rr.blv, c', g', s, k', q'⟩)⟩
/-- .. as values -/
def dAnd (ta tb : DE) : DE := fun ρ g Q Z => ta ρ g (fun x g1 => ∃ k, x = .bl k ∧ if k = true then tb ρ g1 Q Z else Q (.bl false) g1) Z
def dOr (ta tb : DE) : DE := fun ρ g Q Z => ta ρ g (fun x g1 => ∃ k, x = .bl k ∧ if k = true then Q (.bl true) g1 else tb ρ g1 Q Z) Z
def dNot (ta : DE) : DE := fun ρ g Q Z => ta ρ g (fun x g1 => ∃ k, x = .bl k ∧ Q (.bl (!k)) g1) Z
def dIf (t : DT) (ta tb : DE) : DE := fun ρ g Q Z => t ρ g (fun k g1 => if k = true then ta ρ g1 Q Z else tb ρ g1 Q Z) Z
theorem we_one {op} (h : WE B X W a ta) : WE B X W (.BoolOp op [a] pos) ta := ⟨fun c g ρ σ H Q Z k r q z => sem_of (pe_one pe_sem) (h.run c g ρ σ H Q Z k r q z)⟩
theorem we_and (h : WE B X W a ta) (hb : WE B X W (.BoolOp .And (b :: rest) pos) tb) : WE B X W (.BoolOp .And (a :: b :: rest) pos) (dAnd ta tb) := by
  refine ⟨fun c g ρ σ H Q Z k r q z => sem_of (pe_and pe_sem pe_sem) ?_⟩
  refine (h.run c g ρ σ H _ Z k r q z).mono fun v H1 ⟨c1, g1, d, s1, k1, rr, b', e', q1⟩ => ?_
  subst e'
  refine ⟨b', rr.blv, ?_⟩
  cases b' with
  | true => exact (hb.run c1 g1 ρ σ H1 Q Z k1 (r.mono s1.le) q1 (z.next s1)).mono fun _ _ q => q.back s1
  | false => exact ⟨c1, g1, _, s1, k1, .bl false, q1⟩
theorem we_or (h : WE B X W a ta) (hb : WE B X W (.BoolOp .Or (b :: rest) pos) tb) : WE B X W (.BoolOp .Or (a :: b :: rest) pos) (dOr ta tb) := by
  refine ⟨fun c g ρ σ H Q Z k r q z => sem_of (pe_or pe_sem pe_sem) ?_⟩
  refine (h.run c g ρ σ H _ Z k r q z).mono fun v H1 ⟨c1, g1, d, s1, k1, rr, b', e', q1⟩ => ?_
  subst e'
  refine ⟨b', rr.blv, ?_⟩
  cases b' with
  | false => exact (hb.run c1 g1 ρ σ H1 Q Z k1 (r.mono s1.le) q1 (z.next s1)).mono fun _ _ q => q.back s1
  | true => exact ⟨c1, g1, _, s1, k1, .bl true, q1⟩
theorem we_not (h : WE B X W a ta) : WE B X W (.UnaryOp .Not a pos) (dNot ta) := by
  refine ⟨fun c g ρ σ H Q Z k r q z => sem_of (pe_not pe_sem) ?_⟩
  refine (h.run c g ρ σ H _ Z k r q z).mono fun v H1 ⟨c1, g1, d, s1, k1, rr, b', e', q1⟩ => ?_
  subst e'
  exact ⟨b', rr.blv, c1, g1, _, s1, k1, .bl _, q1⟩
theorem we_if {t : Expr} (ht : WT B X W t tA) (ha : WE B X W a ta) (hb : WE B X W b tb) : WE B X W (.IfExp t a b pos) (dIf tA ta tb) := by
  refine ⟨fun c g ρ σ H Q Z k r q z => sem_of (pe_ifExp pt_sem pe_sem pe_sem) ?_⟩
  refine (ht.run c g ρ σ H _ Z k r q z).mono fun v H1 ⟨c1, g1, s1, k1, q1⟩ => ?_
  cases v with
  | true => exact (ha.run c1 g1 ρ σ H1 Q Z k1 (r.mono s1.le) q1 (z.next s1)).mono fun _ _ q => q.back s1
  | false => exact (hb.run c1 g1 ρ σ H1 Q Z k1 (r.mono s1.le) q1 (z.next s1)).mono fun _ _ q => q.back s1
/-! ### arguments and displays -/
def dNil : DA := fun _ g Q _ => Q [] g
def dCons (ta : DE) (tr : DA) : DA := fun ρ g Q Z => ta ρ g (fun x g1 => tr ρ g1 (fun xs g2 => Q (x :: xs) g2) Z) Z
theorem wa_nil : WA B X W [] dNil := ⟨fun c g ρ σ H Q Z k r q z => semA_of pa_nil ⟨c, g, [], Grow.refl c H, k, .nil, rfl, q⟩⟩
theorem wa_cons (h : WE B X W e te) (hr : WA B X W es tr) (hs : starEach (e :: es) X.env = (false, eval e X.env) :: starEach es X.env := by rfl) : WA B X W (e :: es) (dCons te tr) := by
  refine ⟨fun c g ρ σ H Q Z k r q z => semA_of (pa_cons pe_sem pa_sem hs) ?_⟩
  refine (h.run c g ρ σ H _ Z k r q z).mono fun v H1 ⟨c1, g1, d, s1, k1, rr, q1⟩ => ?_
  refine (hr.run c1 g1 ρ σ H1 _ Z k1 (r.mono s1.le) q1 (z.next s1)).mono fun vs H2 ⟨c2, g2, ds, s2, k2, rs, hn, q2⟩ => ?_
  exact ⟨c2, g2, d :: ds, s1.trans s2, k2, .cons (rr.mono s2.le) rs, congrArg (· + 1) hn, q2⟩
def dTup (tr : DA) : DE := fun ρ g Q Z => tr ρ g (fun xs g1 => xs.length ≤ sizeLine ∧ Q (.tup xs) g1) Z
def dLst (tr : DA) : DE := fun ρ g Q Z => tr ρ g (fun xs g1 => xs.length ≤ sizeLine ∧ Q (.lst xs) g1) Z
theorem we_tup {x1} (h : WA B X W es tr) : WE B X W (.Tuple es x1 pos) (dTup tr) := by
  refine ⟨fun c g ρ σ H Q Z k r q z => sem_of (pe_tup pa_sem) ?_⟩
  refine (h.run c g ρ σ H _ Z k r q z).mono fun vs H1 ⟨c1, g1, ds, s1, k1, rs, _, hl, q1⟩ => ⟨by rw [rs.length]; exact hl, fun p hp => ?_⟩
  obtain ⟨s2, k2⟩ := k1.lay (o := .tup vs) hp
  exact ⟨_, g1, .tup ds, s1.trans s2, k2, .tup (SqT.of upd_same) (rs.mono s2.le), q1⟩
theorem we_lst (h : WA B X W es tr) : WE B X W (.List es pos) (dLst tr) := by
  refine ⟨fun c g ρ σ H Q Z k r q z => sem_of (pe_lst pa_sem) ?_⟩
  refine (h.run c g ρ σ H _ Z k r q z).mono fun vs H1 ⟨c1, g1, ds, s1, k1, rs, _, hl, q1⟩ => ⟨by rw [rs.length]; exact hl, fun p hp => ?_⟩
  obtain ⟨s2, k2⟩ := k1.lay (o := .lst vs) hp
  exact ⟨_, g1, .lst ds, s1.trans s2, k2, .lst upd_same (rs.mono s2.le), q1⟩
/-! ### built-ins -/
def GivesC (B : Tb) (K : PySem.W.Frag) (f : List D → Option D) (r : List V → Hp → VK → Prop) : Prop :=
  ∀ (c : Cn) (g : Gh) (H : Hp) (xs : List D) (z : D) (vs : List V) (Q : VK), Fine B K c g H → Reps B K c vs xs → f xs = some z →
    (∀ w c' H', Grow c H c' H' → Fine B K c' g H' → Rep B K c' w z → Q w H') → r vs H Q
def dFn (f : List D → Option D) (tr : DA) : DE := fun ρ g Q Z => tr ρ g (fun xs g1 => ∃ z, f xs = some z ∧ Q z g1) Z
section
variable {x : Str} {p : Pos} {id T : String} {r : List V → Hp → VK → Prop} {f : List D → Option D}
theorem we_callB (hc : CallR X (.builtin id) r) (hgv : GivesC B X.K f r) (hg : Gl X x) (hm : X.mg x = none) (hv : bootBuiltins x = some (.builtin id)) (ha : WA B X W (e :: es) tr) (hn : x ≠ "__name__" := by decide) (hdb : (x == ("__debug__" : Str)) = false := by decide)
    (he : starEach (e :: es) X.env = (false, eval e X.env) :: starEach es X.env := by rfl) (hpl : (backTo pos (starEach es X.env)).any (·.1) = false := by rfl) : WE B X W (.Call (.Name x p) (e :: es) [] pos) (dFn f tr) := by
  refine ⟨fun c g ρ σ H Q Z k rl q z => sem_of (pe_callB hc hg hm hv pa_sem hn hdb he hpl) ?_⟩
  refine (ha.run c g ρ σ H _ Z k rl q z).mono fun vs H1 ⟨c1, g1, ds, s1, k1, rs, _, w, ew, q1⟩ => ?_
  exact hgv c1 g1 H1 ds w vs _ k1 rs ew fun w' c' H' s2 k2 r2 => ⟨c', g1, w, s1.trans s2, k2, r2, q1⟩
theorem we_callTy (hc : CallR X (.type T) r) (hgv : GivesC B X.K f r) (hg : Gl X x) (hm : X.mg x = none) (hv : bootBuiltins x = some (.type T)) (ha : WA B X W (e :: es) tr) (hn : x ≠ "__name__" := by decide) (hdb : (x == ("__debug__" : Str)) = false := by decide)
    (he : starEach (e :: es) X.env = (false, eval e X.env) :: starEach es X.env := by rfl) (hpl : (backTo pos (starEach es X.env)).any (·.1) = false := by rfl) : WE B X W (.Call (.Name x p) (e :: es) [] pos) (dFn f tr) := by
  refine ⟨fun c g ρ σ H Q Z k rl q z => sem_of (pe_callTy hc hg hm hv pa_sem hn hdb he hpl) ?_⟩
  refine (ha.run c g ρ σ H _ Z k rl q z).mono fun vs H1 ⟨c1, g1, ds, s1, k1, rs, _, w, ew, q1⟩ => ?_
  exact hgv c1 g1 H1 ds w vs _ k1 rs ew fun w' c' H' s2 k2 r2 => ⟨c', g1, w, s1.trans s2, k2, r2, q1⟩
end
end
end DL

namespace DL
open PySem L2
/-! ### what the operations do on data -/
def small (i : Int) : Bool := decide (-(2 ^ 64) < i) && decide (i < 2 ^ 64)
def addD : D → D → Option D
  | .int i, .int j => some (.int (i + j))
  | .str x, .str y => if x.length + y.length ≤ sizeLine then some (.str (x ++ y)) else none
  | .lst xs, .lst ys => if xs.length + ys.length ≤ sizeLine then some (.lst (xs ++ ys)) else none
  | .tup xs, .tup ys => if xs.length + ys.length ≤ sizeLine then some (.tup (xs ++ ys)) else none
  | _, _ => none
def subD : D → D → Option D
  | .int i, .int j => some (.int (i - j))
  | _, _ => none
def mulD : D → D → Option D
  | .int i, .int j => if (small i || small j) = true then some (.int (i * j)) else none
  | .lst xs, .int k => if -(2 ^ 63) ≤ k ∧ k < 2 ^ 63 ∧ xs.length * k.toNat ≤ sizeLine then some (.lst (List.replicate k.toNat xs).flatten) else none
  | _, _ => none
def fdivD : D → D → Option D
  | .int i, .int j => if 0 < j ∧ j < 1073741824 then some (.int (i / j)) else none
  | _, _ => none
def modD : D → D → Option D
  | .int i, .int j => if 0 < j then some (.int (i % j)) else none
  | _, _ => none
def powD : D → D → Option D
  | .int i, .int j => if 0 ≤ j ∧ j ≤ 1000000 ∧ i.natAbs < 2 ^ 64 then some (.int (i ^ j.toNat)) else none
  | _, _ => none
def cmpD (p : Int → Int → Bool) : D → D → Option D
  | .int i, .int j => some (.bl (p i j))
  | _, _ => none
abbrev ltD := cmpD fun i j => decide (i < j)
abbrev leD := cmpD fun i j => decide (i ≤ j)
abbrev gtD := cmpD fun i j => decide (j < i)
abbrev geD := cmpD fun i j => decide (j ≤ i)

/-! ### data as the library has it -/
mutual
def D.py : D → Option PyData
  | .non => some .none
  | .bl b => some (.bool b)
  | .int i => some (.int i)
  | .str x => some (.str x)
  | .lst xs => match pys xs with | some l => some (.list l) | none => none
  | .tup xs => match pys xs with | some l => some (.tuple l) | none => none
  | _ => none
def pys : List D → Option (List PyData)
  | [] => some []
  | x :: xs => match x.py, pys xs with | some a, some l => some (a :: l) | _, _ => none
end
section
variable {B : Tb} {K : PySem.W.Frag} {c : Cn} {g : Gh} {H : Hp}
mutual
theorem Rep.dp (k : Ex c.F H) : ∀ {v : V} {d : D} {p : PyData}, Rep B K c v d → d.py = some p → Dp K H v p
  | _, _, _, .non, e => by simp only [D.py, Option.some.injEq] at e; subst e; exact .non
  | _, _, _, .bl b, e => by simp only [D.py, Option.some.injEq] at e; subst e; exact .bl b
  | _, _, _, .int b, e => by simp only [D.py, Option.some.injEq] at e; subst e; exact .int b
  | _, _, _, .str b, e => by simp only [D.py, Option.some.injEq] at e; subst e; exact .str b
  | _, .lst ds, _, .lst h r, e => by
    unfold D.py at e
    split at e
    · rename_i l hl
      simp only [Option.some.injEq] at e; subst e
      exact .lst (SqL.of (k _ _ h)) (Reps.dp k r hl)
    · cases e
  | _, .tup ds, _, .tup h r, e => by
    unfold D.py at e
    split at e
    · rename_i l hl
      simp only [Option.some.injEq] at e; subst e
      exact .tup (Evl.ex_t k h) (Reps.dp k r hl)
    · cases e
  | _, _, _, .dct _ _, e => by simp [D.py] at e
  | _, _, _, .obj _ _, e => by simp [D.py] at e
  | _, _, _, .exc _ _ _, e => by simp [D.py] at e
  | _, _, _, .exc0 _, e => by simp [D.py] at e
  | _, _, _, .loc _, e => by simp [D.py] at e
  | _, _, _, .pen _, e => by simp [D.py] at e
  | _, _, _, .scr _, e => by simp [D.py] at e
theorem Reps.dp (k : Ex c.F H) : ∀ {vs : List V} {ds : List D} {ps : List PyData}, Reps B K c vs ds → pys ds = some ps → DpAll K H vs ps
  | _, _, _, .nil, e => by simp only [pys, Option.some.injEq] at e; subst e; exact .nil
  | _, .cons d ds, _, .cons h r, e => by
    unfold pys at e
    split at e
    · rename_i a l ha hl
      simp only [Option.some.injEq] at e; subst e
      exact .cons (Rep.dp k h ha) (Reps.dp k r hl)
    · cases e
end
end
def eqD (neg : Bool) (x y : D) : Option D := match x.py, y.py with
  | some p, some q => if (SeqAt.shaped p && SeqAt.shaped q) = true then some (.bl (if neg then !PyData.eqv p q else PyData.eqv p q)) else none
  | _, _ => none
/-- x in ys -/
def inD (neg : Bool) (x y : D) : Option D := match x.py, y.py with
  | some p, some (.list qs) => if (SeqAt.shaped p && SeqAt.shaped (.list qs)) = true then some (.bl (if neg then !(qs.any fun z => PyData.eqv z p) else (qs.any fun z => PyData.eqv z p))) else none
  | _, _ => none
/-- is None -/
def isND (neg : Bool) (x y : D) : Option D := match y with
  | .non => some (.bl (match x with | .non => !neg | _ => neg))
  | _ => none
section
variable {B : Tb} {X : Cx}
theorem done {c : Cn} {g : Gh} {H : Hp} {v : V} {z : D} {Q : VK} (k : Fine B X.K c g H) (r : Rep B X.K c v z) (q : ∀ w c' H', Grow c H c' H' → Fine B X.K c' g H' → Rep B X.K c' w z → Q w H') : Q v H := q v c H (Grow.refl c H) k r
theorem gv_int {f : D → D → Option D} {g0 : Int → Int → V} {gd : Int → Int → D} (hf : ∀ x y z, f x y = some z → ∃ i j, x = .int i ∧ y = .int j ∧ z = gd i j) (hr : ∀ c i j, Rep B X.K c (g0 i j) (gd i j)) : Gives B X.K f (rI0 g0) := by
  intro c g H x y z v u Q k r1 r2 e q
  obtain ⟨i, j, rfl, rfl, rfl⟩ := hf x y z e
  cases r1; cases r2
  exact ⟨i, j, rfl, rfl, done k (hr c i j) q⟩
theorem gv_intC {f : D → D → Option D} {C : Int → Int → Prop} {g0 : Int → Int → V} {gd : Int → Int → D} (hf : ∀ x y z, f x y = some z → ∃ i j, x = .int i ∧ y = .int j ∧ C i j ∧ z = gd i j) (hr : ∀ c i j, Rep B X.K c (g0 i j) (gd i j)) : Gives B X.K f (rI C g0) := by
  intro c g H x y z v u Q k r1 r2 e q
  obtain ⟨i, j, rfl, rfl, hc, rfl⟩ := hf x y z e
  cases r1; cases r2
  exact ⟨i, j, rfl, rfl, hc, done k (hr c i j) q⟩
theorem gv_sub : Gives B X.K subD (rI0 fun i j => .int (i - j)) := gv_int (gd := fun i j => .int (i - j)) (fun x y z e => by
  unfold subD at e
  split at e
  · simp only [Option.some.injEq] at e; exact ⟨_, _, rfl, rfl, e.symm⟩
  · cases e) fun _ _ _ => .int _
theorem gv_cmp {p : Int → Int → Bool} : Gives B X.K (cmpD p) (rI0 fun i j => .bl (p i j)) := gv_int (gd := fun i j => .bl (p i j)) (fun x y z e => by
  unfold cmpD at e
  split at e
  · simp only [Option.some.injEq] at e; exact ⟨_, _, rfl, rfl, e.symm⟩
  · cases e) fun _ _ _ => .bl _
theorem gv_fdiv : Gives B X.K fdivD (rI CDiv fun i j => .int (i / j)) := gv_intC (gd := fun i j => .int (i / j)) (fun x y z e => by
  unfold fdivD at e
  split at e
  · split at e
    · rename_i h
      simp only [Option.some.injEq] at e; exact ⟨_, _, rfl, rfl, h, e.symm⟩
    · cases e
  · cases e) fun _ _ _ => .int _
theorem gv_mod : Gives B X.K modD (rI (fun _ j => 0 < j) fun i j => .int (i % j)) := gv_intC (gd := fun i j => .int (i % j)) (fun x y z e => by
  unfold modD at e
  split at e
  · split at e
    · rename_i h
      simp only [Option.some.injEq] at e; exact ⟨_, _, rfl, rfl, h, e.symm⟩
    · cases e
  · cases e) fun _ _ _ => .int _
theorem gv_pow : Gives B X.K powD (rI CPow fun i j => .int (i ^ j.toNat)) := gv_intC (gd := fun i j => .int (i ^ j.toNat)) (fun x y z e => by
  unfold powD at e
  split at e
  · split at e
    · rename_i h
      simp only [Option.some.injEq] at e; exact ⟨_, _, rfl, rfl, h, e.symm⟩
    · cases e
  · cases e) fun _ _ _ => .int _
theorem small_ok {i : Int} (h : small i = true) : -(2 ^ 64) < i ∧ i < 2 ^ 64 := by
  unfold small at h
  rw [Bool.and_eq_true, decide_eq_true_eq, decide_eq_true_eq] at h
  exact h
/-- the sum of what can be added -/
def rAddAll (K : PySem.W.Frag) : R2 := fun x y H Q => (rI0 (fun i j => .int (i + j)) x y H Q ∨ (∃ i j, x = .str i ∧ y = .str j ∧ i.length + j.length ≤ sizeLine ∧ Q (.str (i ++ j)) H)) ∨ (rCat x y H Q ∨ rCatA K x y H Q)
theorem op_addAll : OpR X (binaryOp .Add) (rAddAll X.K) := (op_add.or op_add_str).or (op_cat.or op_catA)
theorem gv_add : Gives B X.K addD (rAddAll X.K) := by
  intro c g H x y z v u Q k r1 r2 e q
  unfold addD at e
  split at e
  · simp only [Option.some.injEq] at e; subst e
    cases r1; cases r2
    exact .inl (.inl ⟨_, _, rfl, rfl, done k (.int _) q⟩)
  · split at e
    · rename_i h
      simp only [Option.some.injEq] at e; subst e
      cases r1; cases r2
      exact .inl (.inr ⟨_, _, rfl, rfl, h, done k (.str _) q⟩)
    · cases e
  · split at e
    · rename_i h
      simp only [Option.some.injEq] at e; subst e
      cases r1 with
      | lst h1 s1 =>
        cases r2 with
        | lst h2 s2 =>
          refine .inr (.inl ⟨_, _, _, _, rfl, rfl, k.sub _ _ h1, k.sub _ _ h2, by rw [s1.length, s2.length]; exact h, fun p hp => ?_⟩)
          obtain ⟨s3, k3⟩ := k.lay (o := .lst _) hp
          exact q _ _ _ s3 k3 (.lst upd_same ((s1.append s2).mono s3.le))
    · cases e
  · split at e
    · rename_i h
      simp only [Option.some.injEq] at e; subst e
      cases r1 with
      | tup h1 s1 =>
        cases r2 with
        | tup h2 s2 =>
          refine .inr (.inr ⟨_, _, _, _, rfl, rfl, Evl.ex_t k.sub h1, Evl.ex_t k.sub h2, by rw [s1.length, s2.length]; exact h, ?_⟩)
          have nil1 : ∀ {vs ds}, Reps B X.K c vs ds → vs = [] → ds = [] := fun r e => by subst e; cases r; rfl
          refine ⟨fun e1 => ?_, fun _ e1 => ?_, fun _ _ p hp => ?_⟩
          · have e0 := nil1 s1 e1
            subst e0
            exact done k (.tup h2 s2) q
          · have e0 := nil1 s2 e1
            subst e0
            rw [List.append_nil] at q
            exact done k (.tup h1 s1) q
          · obtain ⟨s3, k3⟩ := k.lay (o := .tup _) hp
            exact q _ _ _ s3 k3 (.tup (SqT.of upd_same) ((s1.append s2).mono s3.le))
    · cases e
  · cases e
theorem Reps.flat {K : PySem.W.Frag} {c : Cn} {vs : List V} {ds : List D} (r : Reps B K c vs ds) : ∀ n : Nat, Reps B K c (List.replicate n vs).flatten (List.replicate n ds).flatten
  | 0 => .nil
  | n + 1 => by
    rw [List.replicate_succ, List.replicate_succ, List.flatten_cons, List.flatten_cons]
    exact r.append (Reps.flat r n)
def rMulAll : R2 := fun x y H Q => rI CMul (fun i j => .int (i * j)) x y H Q ∨ rRep x y H Q
theorem op_mulAll : OpR X (binaryOp .Mult) rMulAll := op_mul.or op_rep
theorem gv_mul : Gives B X.K mulD rMulAll := by
  intro c g H x y z v u Q k r1 r2 e q
  unfold mulD at e
  split at e
  · split at e
    · rename_i h
      simp only [Option.some.injEq] at e; subst e
      cases r1; cases r2
      refine .inl ⟨_, _, rfl, rfl, ?_, done k (.int _) q⟩
      rcases Bool.or_eq_true_iff.mp h with h | h
      · exact .inl (small_ok h)
      · exact .inr (small_ok h)
    · cases e
  · split at e
    · rename_i h
      simp only [Option.some.injEq] at e; subst e
      cases r1 with
      | lst h1 s1 =>
        cases r2
        refine .inr ⟨_, _, _, rfl, rfl, k.sub _ _ h1, h.1, h.2.1, by rw [s1.length]; exact h.2.2, fun p hp => ?_⟩
        obtain ⟨s3, k3⟩ := k.lay (o := .lst _) hp
        exact q _ _ _ s3 k3 (.lst upd_same ((s1.flat _).mono s3.le))
    · cases e
  · cases e
theorem gv_eq : Gives B X.K (eqD false) (rEqD X.K) := by
  intro c g H x y z v u Q k r1 r2 e q
  unfold eqD at e
  split at e
  · rename_i p p' h1 h2
    split at e
    · rename_i h
      simp only [Option.some.injEq] at e; subst e
      obtain ⟨ha, hb⟩ := Bool.and_eq_true_iff.mp h
      exact ⟨p, p', r1.dp k.sub h1, r2.dp k.sub h2, ha, hb, done k (.bl _) q⟩
    · cases e
  · cases e
theorem gv_ne : Gives B X.K (eqD true) (rNeD X.K) := by
  intro c g H x y z v u Q k r1 r2 e q
  unfold eqD at e
  split at e
  · rename_i p p' h1 h2
    split at e
    · rename_i h
      simp only [Option.some.injEq] at e; subst e
      obtain ⟨ha, hb⟩ := Bool.and_eq_true_iff.mp h
      exact ⟨p, p', r1.dp k.sub h1, r2.dp k.sub h2, ha, hb, done k (.bl _) q⟩
    · cases e
  · cases e
theorem gv_in : Gives B X.K (inD false) (rInD X.K) := by
  intro c g H x y z v u Q k r1 r2 e q
  unfold inD at e
  split at e
  · rename_i p p' h1 h2
    split at e
    · rename_i h
      simp only [Option.some.injEq] at e; subst e
      obtain ⟨ha, hb⟩ := Bool.and_eq_true_iff.mp h
      exact ⟨p, p', r1.dp k.sub h1, r2.dp k.sub h2, ha, hb, done k (.bl _) q⟩
    · cases e
  · cases e
theorem gv_notin : Gives B X.K (inD true) (rNotInD X.K) := by
  intro c g H x y z v u Q k r1 r2 e q
  unfold inD at e
  split at e
  · rename_i p p' h1 h2
    split at e
    · rename_i h
      simp only [Option.some.injEq] at e; subst e
      obtain ⟨ha, hb⟩ := Bool.and_eq_true_iff.mp h
      exact ⟨p, p', r1.dp k.sub h1, r2.dp k.sub h2, ha, hb, done k (.bl _) q⟩
    · cases e
  · cases e
theorem rep_non {K : PySem.W.Frag} {c : Cn} {v : V} {x : D} (r : Rep B K c v x) : decide (v = V.non) = (match x with | .non => true | _ => false) := by
  cases r <;> simp
theorem gv_is : Gives B X.K (isND false) (fun x y H Q => y = .non ∧ Q (.bl (decide (x = .non))) H) := by
  intro c g H x y z v u Q k r1 r2 e q
  unfold isND at e
  split at e
  · simp only [Option.some.injEq] at e; subst e
    cases r2
    refine ⟨rfl, done k ?_ q⟩
    rw [rep_non r1]
    cases x <;> exact .bl _
  · cases e
theorem gv_isnot : Gives B X.K (isND true) (fun x y H Q => y = .non ∧ Q (.bl (!decide (x = .non))) H) := by
  intro c g H x y z v u Q k r1 r2 e q
  unfold isND at e
  split at e
  · simp only [Option.some.injEq] at e; subst e
    cases r2
    refine ⟨rfl, done k ?_ q⟩
    rw [rep_non r1]
    cases x <;> exact .bl _
  · cases e
/-! ### built-ins -/
def lenD : List D → Option D
  | [.str x] => if x.length ≤ sizeLine then some (.int x.length) else none
  | [.lst xs] => some (.int xs.length)
  | [.tup xs] => some (.int xs.length)
  | _ => none
theorem gv_len : GivesC B X.K lenD (fun xs H Q => ∃ x n, xs = [x] ∧ LenV X.K x H n ∧ Q (.int n) H) := by
  intro c g H xs z vs Q k r e q
  unfold lenD at e
  split at e
  · split at e
    · rename_i h
      simp only [Option.some.injEq] at e; subst e
      cases r with
      | cons r1 r2 => cases r1; cases r2; exact ⟨_, _, rfl, ⟨h, rfl⟩, done k (.int _) q⟩
    · cases e
  · simp only [Option.some.injEq] at e; subst e
    cases r with
    | cons r1 r2 =>
      cases r2
      cases r1 with
      | lst h1 s1 => exact ⟨_, _, rfl, .inl ⟨_, SqL.of (k.sub _ _ h1), rfl⟩, by rw [s1.length]; exact done k (.int _) q⟩
  · simp only [Option.some.injEq] at e; subst e
    cases r with
    | cons r1 r2 =>
      cases r2
      cases r1 with
      | tup h1 s1 => exact ⟨_, _, rfl, .inr ⟨_, Evl.ex_t k.sub h1, rfl⟩, by rw [s1.length]; exact done k (.int _) q⟩
  · cases e
def intD : List D → Option D
  | [.int i] => some (.int i)
  | [.bl b] => some (.int (if b then 1 else 0))
  | _ => none
theorem gv_int1 : GivesC B X.K intD (fun xs H Q => (∃ i, xs = [.int i] ∧ Q (.int i) H) ∨ ∃ k, xs = [.bl k] ∧ Q (.int (if k then 1 else 0)) H) := by
  intro c g H xs z vs Q k r e q
  unfold intD at e
  split at e
  · simp only [Option.some.injEq] at e; subst e
    cases r with
    | cons r1 r2 => cases r1; cases r2; exact .inl ⟨_, rfl, done k (.int _) q⟩
  · simp only [Option.some.injEq] at e; subst e
    cases r with
    | cons r1 r2 => cases r1; cases r2; exact .inr ⟨_, rfl, done k (.int _) q⟩
  · cases e
def absD : List D → Option D
  | [.int i] => some (.int (if i < 0 then -i else i))
  | _ => none
theorem gv_abs : GivesC B X.K absD (fun xs H Q => ∃ i, xs = [.int i] ∧ Q (.int (if i < 0 then -i else i)) H) := by
  intro c g H xs z vs Q k r e q
  unfold absD at e
  split at e
  · simp only [Option.some.injEq] at e; subst e
    cases r with
    | cons r1 r2 => cases r1; cases r2; exact ⟨_, rfl, done k (.int _) q⟩
  · cases e
def min2D : List D → Option D
  | [.int i, .int j] => some (.int (if j < i then j else i))
  | _ => none
theorem gv_min2 : GivesC B X.K min2D (fun xs H Q => ∃ i j, xs = [.int i, .int j] ∧ Q (.int (if j < i then j else i)) H) := by
  intro c g H xs z vs Q k r e q
  unfold min2D at e
  split at e
  · simp only [Option.some.injEq] at e; subst e
    cases r with
    | cons r1 r2 => cases r2 with
      | cons r2 r3 => cases r1; cases r2; cases r3; exact ⟨_, _, rfl, done k (.int _) q⟩
  · cases e
def max2D : List D → Option D
  | [.int i, .int j] => some (.int (if j > i then j else i))
  | _ => none
theorem gv_max2 : GivesC B X.K max2D (fun xs H Q => ∃ i j, xs = [.int i, .int j] ∧ Q (.int (if j > i then j else i)) H) := by
  intro c g H xs z vs Q k r e q
  unfold max2D at e
  split at e
  · simp only [Option.some.injEq] at e; subst e
    cases r with
    | cons r1 r2 => cases r2 with
      | cons r2 r3 => cases r1; cases r2; cases r3; exact ⟨_, _, rfl, done k (.int _) q⟩
  · cases e
def listD : List D → Option D
  | [.lst xs] => some (.lst xs)
  | [.tup xs] => some (.lst xs)
  | _ => none
theorem gv_list : GivesC B X.K listD (fun xs H Q => ∃ p ys, xs = [.ref p] ∧ (SqL X.K H p ys ∨ SqT X.K H p ys) ∧ ∀ l, H l = none → Q (.ref l) (upd H l (.lst ys))) := by
  intro c g H xs z vs Q k r e q
  unfold listD at e
  split at e
  · simp only [Option.some.injEq] at e; subst e
    cases r with
    | cons r1 r2 =>
      cases r2
      cases r1 with
      | lst h1 s1 =>
        refine ⟨_, _, rfl, .inl (SqL.of (k.sub _ _ h1)), fun p hp => ?_⟩
        obtain ⟨s3, k3⟩ := k.lay (o := .lst _) hp
        exact q _ _ _ s3 k3 (.lst upd_same (s1.mono s3.le))
  · simp only [Option.some.injEq] at e; subst e
    cases r with
    | cons r1 r2 =>
      cases r2
      cases r1 with
      | tup h1 s1 =>
        refine ⟨_, _, rfl, .inr (Evl.ex_t k.sub h1), fun p hp => ?_⟩
        obtain ⟨s3, k3⟩ := k.lay (o := .lst _) hp
        exact q _ _ _ s3 k3 (.lst upd_same (s1.mono s3.le))
  · cases e
def tupleD : List D → Option D
  | [.lst xs] => some (.tup xs)
  | [.tup xs] => some (.tup xs)
  | _ => none
theorem gv_tuple : GivesC B X.K tupleD (fun xs H Q => ∃ p ys, xs = [.ref p] ∧ ((SqL X.K H p ys ∧ ∀ l, H l = none → Q (.ref l) (upd H l (.tup ys))) ∨ (SqT X.K H p ys ∧ Q (.ref p) H))) := by
  intro c g H xs z vs Q k r e q
  unfold tupleD at e
  split at e
  · simp only [Option.some.injEq] at e; subst e
    cases r with
    | cons r1 r2 =>
      cases r2
      cases r1 with
      | lst h1 s1 =>
        refine ⟨_, _, rfl, .inl ⟨SqL.of (k.sub _ _ h1), fun p hp => ?_⟩⟩
        obtain ⟨s3, k3⟩ := k.lay (o := .tup _) hp
        exact q _ _ _ s3 k3 (.tup (SqT.of upd_same) (s1.mono s3.le))
  · simp only [Option.some.injEq] at e; subst e
    cases r with
    | cons r1 r2 =>
      cases r2
      cases r1 with
      | tup h1 s1 => exact ⟨_, _, rfl, .inr ⟨Evl.ex_t k.sub h1, done k (.tup h1 s1) q⟩⟩
  · cases e
/-- bools -/
def bools : List D → Option (List Bool)
  | [] => some []
  | .bl b :: r => match bools r with | some l => some (b :: l) | none => none
  | _ => none
theorem Reps.bools {K : PySem.W.Frag} {c : Cn} : ∀ {vs : List V} {ds : List D} {bs : List Bool}, Reps B K c vs ds → bools ds = some bs → vs = bs.map V.bl
  | _, _, _, .nil, e => by simp only [DL.bools, Option.some.injEq] at e; subst e; rfl
  | _, .cons d ds, _, .cons h r, e => by
    cases d with
    | bl b =>
      simp only [DL.bools] at e
      split at e
      · rename_i l hl
        simp only [Option.some.injEq] at e; subst e
        cases h
        rw [Reps.bools r hl]; rfl
      · cases e
    | _ => simp [DL.bools] at e
def allD : List D → Option D
  | [.lst xs] => (bools xs).map fun bs => .bl (bs.all id)
  | _ => none
def anyD : List D → Option D
  | [.lst xs] => (bools xs).map fun bs => .bl (bs.any id)
  | _ => none
theorem gv_all : GivesC B X.K allD (rAll X.K) := by
  intro c g H xs z vs Q k r e q
  unfold allD at e
  split at e
  · rw [Option.map_eq_some_iff] at e
    obtain ⟨bs, hb, e⟩ := e
    subst e
    cases r with
    | cons r1 r2 =>
      cases r2
      cases r1 with
      | lst h1 s1 => exact ⟨_, bs, rfl, by rw [← s1.bools hb]; exact SqL.of (k.sub _ _ h1), done k (.bl _) q⟩
  · cases e
theorem gv_any : GivesC B X.K anyD (rAny X.K) := by
  intro c g H xs z vs Q k r e q
  unfold anyD at e
  split at e
  · rw [Option.map_eq_some_iff] at e
    obtain ⟨bs, hb, e⟩ := e
    subst e
    cases r with
    | cons r1 r2 =>
      cases r2
      cases r1 with
      | lst h1 s1 => exact ⟨_, bs, rfl, by rw [← s1.bools hb]; exact SqL.of (k.sub _ _ h1), done k (.bl _) q⟩
  · cases e
end
end DL

namespace DL
open PySem L2
/-! ### subscripts -/
def cutL {α : Type} (xs : List α) (lo hi : Option Int) : List α := (xs.drop (HT.sIx xs.length 0 lo)).take (HT.sIx xs.length xs.length hi - HT.sIx xs.length 0 lo)
def ixD : D → D → Option D
  | .lst xs, .int i => atI xs i
  | .tup xs, .int i => atI xs i
  | .str z, .int i => if z.length ≤ sizeLine then (atI z.cps.toList i).map fun c => .str ⟨#[c]⟩ else none
  | _, _ => none
section
variable {B : Tb} {X : Cx} {W : WX} {a b e : Expr} {ta tb te : DE} {pos : Pos}
theorem Reps.at {K : PySem.W.Frag} {c : Cn} {vs : List V} {ds : List D} {i : Int} {d : D} (r : Reps B K c vs ds) (h : atI ds i = some d) : ∃ v, atI vs i = some v ∧ Rep B K c v d := by
  unfold atI at h ⊢
  rw [r.length]
  cases e : ixN ds.length i with
  | none => rw [e] at h; cases h
  | some j =>
    rw [e] at h
    exact r.getD h
theorem gv_ix : Gives B X.K ixD (rIx X.K) := by
  intro c g H x y z v u Q k r1 r2 e q
  unfold ixD at e
  split at e
  · cases r2
    cases r1 with
    | lst h1 s1 =>
      obtain ⟨w, e1, rw1⟩ := s1.at e
      exact .inl ⟨_, _, _, w, rfl, rfl, SqL.of (k.sub _ _ h1), e1, done k rw1 q⟩
  · cases r2
    cases r1 with
    | tup h1 s1 =>
      obtain ⟨w, e1, rw1⟩ := s1.at e
      exact .inr (.inl ⟨_, _, _, w, rfl, rfl, Evl.ex_t k.sub h1, e1, done k rw1 q⟩)
  · cases r2; cases r1
    split at e
    · rename_i hl
      rw [Option.map_eq_some_iff] at e
      obtain ⟨cp, e1, e2⟩ := e
      subst e2
      exact .inr (.inr ⟨_, _, cp, rfl, rfl, hl, e1, done k (.str _) q⟩)
    · cases e
  · cases e
theorem we_ix (ha : WE B X W a ta) (hb : WE B X W b tb) (hs : PlainIx b) : WE B X W (.Subscript a b pos) (dOp ixD ta tb) := by
  refine ⟨fun c g ρ σ H Q Z k rl h z => sem_of (pe_ix ix_seq pe_sem pe_sem hs) ?_⟩
  refine two ha hb k rl h z fun x y v u c2 g2 H2 s2 k2 r1 r2 ⟨w, e, q⟩ => ?_
  exact gv_ix c2 g2 H2 x y w v u _ k2 r1 r2 e fun w' c' H' s3 k3 r3 => ⟨c', g2, w, s2.trans s3, k3, r3, q⟩
/-- a dict's item -/
def keyD : D → Option Key
  | .int i => some (.inl i)
  | .str x => some (.inr x)
  | _ => none
def valD (kvs : List (Key × D)) (k : Key) : Option D := (kvs.find? fun kv => decide (kv.1 = k)).map (·.2)
theorem RepK.val {K : PySem.W.Frag} {c : Cn} {k : Key} : ∀ {kvs : List (Key × V)} {ds : List (Key × D)}, RepK B K c kvs ds → (∀ d, valD ds k = some d → ∃ v, valV kvs k = some v ∧ Rep B K c v d) ∧ (valD ds k = none → valV kvs k = none)
  | _, _, .nil => ⟨fun d h => (by cases h), fun _ => rfl⟩
  | _, _, .cons (k := k') (v := v) (d := d) (vs := vs) (ds := ds) r t => by
    obtain ⟨ih1, ih2⟩ := RepK.val (k := k) t
    by_cases e : k' = k
    · subst e
      have e1 : valD ((k', d) :: ds) k' = some d := by simp [valD]
      have e2 : valV ((k', v) :: vs) k' = some v := by simp [valV]
      rw [e1, e2]
      exact ⟨fun d' h => by cases h; exact ⟨v, rfl, r⟩, fun h => by cases h⟩
    · have e1 : valD ((k', d) :: ds) k = valD ds k := by simp [valD, e]
      have e2 : valV ((k', v) :: vs) k = valV vs k := by simp [valV, e]
      rw [e1, e2]
      exact ⟨ih1, ih2⟩
theorem rep_key {K : PySem.W.Frag} {c : Cn} {v : V} {d : D} {k : Key} (r : Rep B K c v d) (h : keyD d = some k) : v = kV k := by
  cases d <;> simp only [keyD, Option.some.injEq] at h <;> first
    | (subst h; cases r; rfl)
    | cases h
def dgetD : D → D → Option D
  | .dct kvs, y => (keyD y).bind fun k => valD kvs k
  | _, _ => none
theorem we_dget (hu : X.A.units + 1 < cLine) (ha : WE B X W a ta) (hb : WE B X W b tb) (hs : NoSl b) : WE B X W (.Subscript a b pos) (dOp dgetD ta tb) := by
  refine ⟨fun c g ρ σ H Q Z k rl h z => sem_of (pe_dget hu pe_sem pe_sem hs) ?_⟩
  refine two ha hb k rl h z fun x y v u c2 g2 H2 s2 k2 r1 r2 ⟨w, e, q⟩ => ?_
  unfold dgetD at e
  split at e
  · rename_i kvs
    cases r1 with
    | dct h1 s1 =>
      rw [Option.bind_eq_some_iff] at e
      obtain ⟨kk, e1, e2⟩ := e
      obtain ⟨w', e3, r3⟩ := s1.val.1 w e2
      refine ⟨_, w', rfl, ?_, ⟨c2, g2, w, s2, k2, r3, q⟩⟩
      rw [rep_key r2 e1, ← e3]
      exact DGet.k (k2.sub _ _ h1)
  · cases e
/-- k in d -/
def dinD (neg : Bool) : D → D → Option D
  | x, .dct kvs => (keyD x).map fun k => .bl (if neg then !(valD kvs k).isSome else (valD kvs k).isSome)
  | _, _ => none
theorem din_core {neg : Bool} {c2 : Cn} {g2 : Gh} {H2 : Hp} {x y w : D} {v u : V} (k2 : Fine B X.K c2 g2 H2) (r1 : Rep B X.K c2 v x) (r2 : Rep B X.K c2 u y) (e : dinD neg x y = some w) :
    ∃ aa o, u = .ref aa ∧ DGet H2 aa v o ∧ w = .bl (if neg then !o.isSome else o.isSome) := by
  unfold dinD at e
  split at e
  · rename_i kvs
    cases r2 with
    | dct h1 s1 =>
      rw [Option.map_eq_some_iff] at e
      obtain ⟨kk, e1, e2⟩ := e
      have q := s1.val (k := kk)
      refine ⟨_, _, rfl, by rw [rep_key r1 e1]; exact DGet.k (k2.sub _ _ h1), ?_⟩
      subst e2
      cases hv : valD kvs kk with
      | none => rw [q.2 hv]; rfl
      | some d => obtain ⟨v', e3, _⟩ := q.1 d hv; rw [e3]; rfl
  · cases e
theorem wt_din (hu : X.A.units + 1 < cLine) (ha : WE B X W a ta) (hb : WE B X W b tb) (hm : behindInMarks .In b = false) : WT B X W (.Compare a [.In] [b] pos) (dTest (dOp (dinD false) ta tb)) := by
  refine ⟨fun c g ρ σ H Q Z k rl h z => semT_of (pt_cmp (pc_din hu pe_sem pe_sem) hm) ?_⟩
  refine two ha hb k rl h z fun x y v u c2 g2 H2 s2 k2 r1 r2 ⟨w, e, b', eb, q⟩ => ?_
  obtain ⟨aa, o, e1, e2, e3⟩ := din_core k2 r1 r2 e
  subst eb
  cases e3
  exact ⟨aa, o, e1, e2, _, rfl, c2, g2, s2, k2, q⟩
theorem wt_dnotin (hu : X.A.units + 1 < cLine) (ha : WE B X W a ta) (hb : WE B X W b tb) (hm : behindInMarks .NotIn b = false) : WT B X W (.Compare a [.NotIn] [b] pos) (dTest (dOp (dinD true) ta tb)) := by
  refine ⟨fun c g ρ σ H Q Z k rl h z => semT_of (pt_cmp (pc_dnotin hu pe_sem pe_sem) hm) ?_⟩
  refine two ha hb k rl h z fun x y v u c2 g2 H2 s2 k2 r1 r2 ⟨w, e, b', eb, q⟩ => ?_
  obtain ⟨aa, o, e1, e2, e3⟩ := din_core k2 r1 r2 e
  subst eb
  cases e3
  exact ⟨aa, o, e1, e2, _, rfl, c2, g2, s2, k2, q⟩
/-! ### slices -/
abbrev DO := DEnv → Gh → (Option Int → Gh → Prop) → DZ → Prop
def semO (X : Cx) (o : Option Expr) : TO := fun σ H Q => ∀ pins s, Inv X pins σ H s → wpAny (model X.prog X.w) X.A (evalPart o X.env) (fun u s' => ∃ o H', Inv X pins σ H' s' ∧ IsPart u o ∧ Q o H') X.xe s
theorem po_sem {o : Option Expr} : PO X o (semO X o) := ⟨fun pins s _ _ _ I h => h pins s I⟩
theorem semO_of {o : Option Expr} {t : TO} (h : PO X o t) {σ : L2.St} {H : Hp} {Q : Option Int → Hp → Prop} (q : t σ H Q) : semO X o σ H Q := fun pins s I => h.run pins s σ H Q I q
theorem semO.mono {o : Option Expr} {σ : L2.St} {H : Hp} {Q Q' : Option Int → Hp → Prop} (h : semO X o σ H Q) (k : ∀ v H', Q v H' → Q' v H') : semO X o σ H Q' := fun pins s I =>
  thn (h pins s I) fun _ _ ⟨v, H', I', r, q⟩ => ⟨v, H', I', r, k v H' q⟩
structure WO (B : Tb) (X : Cx) (W : WX) (o : Option Expr) (t : DO) : Prop where
  run : ∀ (c : Cn) (g : Gh) (ρ : DEnv) (σ : L2.St) (H : Hp) (Q : Option Int → Gh → Prop) (Z : DZ), Fine B X.K c g H → RelP B X.K c ρ σ → t ρ g Q Z → ZOk B X.K c H σ W Z →
    semO X o σ H fun i H' => ∃ c' g', Grow c H c' H' ∧ Fine B X.K c' g' H' ∧ Q i g'
def dNoPart : DO := fun _ g Q _ => Q none g
def dPart (t : DE) : DO := fun ρ g Q Z => t ρ g (fun x g1 => ∃ i, x = .int i ∧ Q (some i) g1) Z
theorem wo_none : WO B X W none dNoPart := ⟨fun c g ρ σ H Q Z k r q z => semO_of po_none ⟨c, g, Grow.refl c H, k, q⟩⟩
theorem wo_some (h : WE B X W e te) : WO B X W (some e) (dPart te) := by
  refine ⟨fun c g ρ σ H Q Z k r q z => semO_of (po_some pe_sem) ?_⟩
  refine (h.run c g ρ σ H _ Z k r q z).mono fun v H' ⟨c', g', d, s, k', rr, i, e', q'⟩ => ?_
  subst e'
  exact ⟨i, rr.intv, c', g', s, k', q'⟩
def slD (x : D) (lo hi : Option Int) : Option D := match x with
  | .lst xs => some (.lst (cutL xs lo hi))
  | .tup xs => some (.tup (cutL xs lo hi))
  | .str z => if z.length ≤ sizeLine then some (.str (cutS z lo hi)) else none
  | .scr ns => some (.lst (cutL (ns.map D.int) lo hi))
  | _ => none
theorem reps_ints {K : PySem.W.Frag} {c : Cn} : ∀ ns : List Int, Reps B K c (ns.map V.int) (ns.map D.int)
  | [] => .nil
  | n :: ns => .cons (.int n) (reps_ints ns)
def dSl (te : DE) (tl th : DO) : DE := fun ρ g Q Z => te ρ g (fun x g1 => tl ρ g1 (fun lo g2 => th ρ g2 (fun hi g3 => ∃ z, slD x lo hi = some z ∧ Q z g3) Z) Z) Z
theorem Reps.drop {K : PySem.W.Frag} {c : Cn} : ∀ {vs : List V} {ds : List D} (n : Nat), Reps B K c vs ds → Reps B K c (vs.drop n) (ds.drop n)
  | _, _, 0, r => r
  | _, _, _ + 1, .nil => .nil
  | _, _, n + 1, .cons _ t => Reps.drop n t
theorem Reps.take {K : PySem.W.Frag} {c : Cn} : ∀ {vs : List V} {ds : List D} (n : Nat), Reps B K c vs ds → Reps B K c (vs.take n) (ds.take n)
  | _, _, 0, _ => .nil
  | _, _, _ + 1, .nil => .nil
  | _, _, n + 1, .cons r t => .cons r (Reps.take n t)
theorem Reps.cut {K : PySem.W.Frag} {c : Cn} {vs : List V} {ds : List D} {lo hi : Option Int} (r : Reps B K c vs ds) : Reps B K c (cutV vs lo hi) (cutL ds lo hi) := by
  unfold cutV cutL
  rw [r.length]
  exact (r.drop _).take _
def rSlAll (K : PySem.W.Frag) : V → Option Int → Option Int → Hp → VK → Prop := fun x lo hi H Q => rSlL K x lo hi H Q ∨ (rSlA K x lo hi H Q ∨ rSlS x lo hi H Q)
theorem cut_whole {xs : List D} {lo hi : Option Int} (h : HT.sIx xs.length 0 lo = 0 ∧ HT.sIx xs.length xs.length hi = xs.length) : cutL xs lo hi = xs := by
  unfold cutL
  rw [h.1, h.2, List.drop_zero, Nat.sub_zero, List.take_length]
theorem we_sl {lo hi : Option Expr} {tl th : DO} {p2 : Pos} (he : WE B X W e te) (hl : WO B X W lo tl) (hh : WO B X W hi th) : WE B X W (.Subscript e (.Slice lo hi none p2) pos) (dSl te tl th) := by
  refine ⟨fun c g ρ σ H Q Z k rl h z => sem_of (pe_slice (L2.SlR.or sl_list (L2.SlR.or sl_tupA sl_str)) pe_sem po_sem po_sem) ?_⟩
  refine (he.run c g ρ σ H _ Z k rl h z).mono fun v H1 ⟨c1, g1, x, s1, k1, r1, q1⟩ => ?_
  refine (hl.run c1 g1 ρ σ H1 _ Z k1 (rl.mono s1.le) q1 (z.next s1)).mono fun l H2 ⟨c2, g2, s2, k2, q2⟩ => ?_
  refine (hh.run c2 g2 ρ σ H2 _ Z k2 (rl.mono (s1.trans s2).le) q2 (z.next (s1.trans s2))).mono fun u H3 ⟨c3, g3, s3, k3, w, e3, q3⟩ => ?_
  have r3 := r1.mono (s2.trans s3).le
  have s03 := (s1.trans s2).trans s3
  unfold slD at e3
  split at e3
  · simp only [Option.some.injEq] at e3; subst e3
    cases r3 with
    | lst h1 rs =>
      refine .inl ⟨_, _, rfl, SqL.of (k3.sub _ _ h1), fun p hp => ?_⟩
      obtain ⟨s4, k4⟩ := k3.lay (o := .lst (cutV _ l u)) hp
      exact ⟨_, g3, _, s03.trans s4, k4, .lst upd_same (rs.cut.mono s4.le), q3⟩
  · simp only [Option.some.injEq] at e3; subst e3
    cases r3 with
    | tup h1 rs =>
      refine .inr (.inl ⟨_, _, rfl, Evl.ex_t k3.sub h1, fun hw => ?_, fun hw p hp => ?_⟩)
      · rw [rs.length] at hw
        rw [cut_whole hw] at q3
        exact ⟨c3, g3, _, s03, k3, .tup h1 rs, q3⟩
      · obtain ⟨s4, k4⟩ := k3.lay (o := .tup (cutV _ l u)) hp
        exact ⟨_, g3, _, s03.trans s4, k4, .tup (SqT.of upd_same) (rs.cut.mono s4.le), q3⟩
  · split at e3
    · rename_i hz
      simp only [Option.some.injEq] at e3; subst e3
      cases r3
      exact .inr (.inr ⟨_, rfl, hz, c3, g3, _, s03, k3, .str _, q3⟩)
    · cases e3
  · simp only [Option.some.injEq] at e3; subst e3
    cases r3 with
    | @scr _ ns h1 =>
      refine .inl ⟨_, _, rfl, Evl.ex_l k3.sub h1, fun p hp => ?_⟩
      obtain ⟨s4, k4⟩ := k3.lay (o := .lst (cutV _ l u)) hp
      exact ⟨_, g3, _, s03.trans s4, k4, .lst upd_same (((reps_ints _).cut).mono s4.le), q3⟩
  · cases e3
theorem Reps.rev {K : PySem.W.Frag} {c : Cn} : ∀ {vs : List V} {ds : List D}, Reps B K c vs ds → Reps B K c vs.reverse ds.reverse
  | _, _, .nil => .nil
  | _, _, .cons r t => by
    rw [List.reverse_cons, List.reverse_cons]
    exact (Reps.rev t).append (.cons r .nil)
def revD : D → Option D
  | .lst xs => some (.lst xs.reverse)
  | _ => none
def dU (f : D → Option D) (te : DE) : DE := fun ρ g Q Z => te ρ g (fun x g1 => ∃ z, f x = some z ∧ Q z g1) Z
theorem we_rev {k : Nat} {p1 p2 p3 : Pos} (he : WE B X W e te) : WE B X W (.Subscript e (.Slice none none (some (.UnaryOp .USub (.Constant (.int 1) k p1) p2)) p3) pos) (dU revD te) := by
  refine ⟨fun c g ρ σ H Q Z k rl h z => sem_of (pe_revL pe_sem) ?_⟩
  refine (he.run c g ρ σ H _ Z k rl h z).mono fun v H1 ⟨c1, g1, x, s1, k1, r1, w, e1, q1⟩ => ?_
  unfold revD at e1
  split at e1
  · simp only [Option.some.injEq] at e1; subst e1
    cases r1 with
    | lst h1 rs =>
      refine ⟨_, _, rfl, SqL.of (k1.sub _ _ h1), fun p hp => ?_⟩
      obtain ⟨s4, k4⟩ := k1.lay (o := .lst _) hp
      exact ⟨_, g1, _, s1.trans s4, k4, .lst upd_same (rs.rev.mono s4.le), q1⟩
  · cases e1
/-! ### isinstance -/
inductive Kd where
  | non | bl | int | str | lst | tup | dct | obj (i : Nat) | exc (i : Nat)
  deriving DecidableEq
def kd : D → Option Kd
  | .non => some .non
  | .bl _ => some .bl
  | .int _ => some .int
  | .str _ => some .str
  | .lst _ => some .lst
  | .tup _ => some .tup
  | .dct _ => some .dct
  | .obj i _ => some (.obj i)
  | .exc i _ => some (.exc i)
  | _ => none
def tyK (B : Tb) : Kd → Value
  | .non => .type "NoneType"
  | .bl => .type "bool"
  | .int => .type "int"
  | .str => .type "str"
  | .lst => .type "list"
  | .tup => .type "tuple"
  | .dct => .type "dict"
  | .obj i => .ref (B.ct i)
  | .exc i => .ref (B.ct i)
/-- what isinstance asks of an own class -/
structure ClsI (K : PySem.W.Frag) (C : Addr) : Prop where
  ha : PySem.W.findIn K (.ref C) "__class__" = some (some (.builtin "object.__class__"))
  hn : PySem.W.specialIn K (.builtin "object.__class__") "__get__" = some (some (.builtin "getset_descriptor.__get__"))
  htk : PySem.W.takesIn K (.builtin "object.__class__") = some true
  hm : PySem.W.mroIn K C (.type "object") = some true
structure ExcA (K : PySem.W.Frag) (C : Addr) : Prop where
  isc : (PySem.W.clsIn K C).isSome = true
  ga : PySem.W.findIn K (.ref C) "__getattribute__" = some (some (.builtin "BaseException.__getattribute__"))
  gg : PySem.W.findIn K (.ref C) "__getattr__" = some none
  sub : PySem.W.subIn K (.ref C) (.type "BaseException") = some true
def KdOk (B : Tb) (K : PySem.W.Frag) : Kd → Prop
  | .obj i => Cls K (B.ct i) ∧ ClsI K (B.ct i)
  | .exc i => ExcA K (B.ct i) ∧ ClsI K (B.ct i)
  | _ => True
theorem kit_rep {pins : List (Addr × Obj)} {σ : L2.St} {H : Hp} {s : Shared} {c : Cn} {v : V} {d : D} {k : Kd} {u : Value} (I : Inv X pins σ H s) (sub : Ex c.F H) (r : Rep B X.K c v d) (hk : kd d = some k) (ok : KdOk B X.K k) (ru : RelV v u) :
    ∃ P : Heap → Prop, PySem.W.KitX X.K u (tyK B k) P ∧ P s.heap ∧ u ≠ .builtin "__main__.__loader__#opaque" := by
  cases r with
  | non => cases hk; exact kit_of I ru (.base .non)
  | bl b => cases hk; exact kit_of I ru (.base (.bl b))
  | int b => cases hk; exact kit_of I ru (.base (.int b))
  | str b => cases hk; exact kit_of I ru (.base (.str b))
  | lst h _ => cases hk; exact kit_of I ru (.base (.lst (sub _ _ h)))
  | tup h _ =>
    cases hk
    rcases h with (h | ⟨o, h⟩) | ⟨o, its, n, hK, hc, _⟩
    · exact kit_of I ru (.base (.tup (sub _ _ h)))
    · exact kit_of I ru (.fTuple (sub _ _ h))
    · exact kit_of I ru (.kTuple hK hc)
  | dct h _ => cases hk; exact kit_of I ru (.base (.dK (sub _ _ h)))
  | obj h _ =>
    cases hk
    exact kit_of I ru (.base (.ins (sub _ _ h) ok.1 ok.2.ha ok.2.hn ok.2.htk ok.2.hm))
  | @exc a dd i fs ds h h2 _ =>
    cases hk
    cases (show u = Value.ref a from ru)
    obtain ⟨⟨o, vs, e1, e2, e3, e4⟩, _⟩ := I.hok a _ (sub _ _ h)
    obtain ⟨mA, hns, _⟩ := I.hok dd _ (sub _ _ h2)
    obtain ⟨od, ho, _⟩ := lookIn_ns hns
    refine ⟨_, PySem.W.kitx_exc (ox := o) (od := some od) ok.1.isc ok.1.ga ok.1.gg ok.1.sub ok.2.ha ok.2.hn ok.2.htk ok.2.hm, ⟨e1, e2, by unfold PySem.W.notCls; rw [e4], by rw [e3]; exact ho⟩, fun z => nomatch z⟩
  | @exc0 a i h =>
    cases hk
    cases (show u = Value.ref a from ru)
    obtain ⟨⟨o, vs, e1, e2, e3, e4⟩, _⟩ := I.hok a _ (sub _ _ h)
    refine ⟨_, PySem.W.kitx_exc (ox := o) (od := none) ok.1.isc ok.1.ga ok.1.gg ok.1.sub ok.2.ha ok.2.hn ok.2.htk ok.2.hm, ⟨e1, e2, by unfold PySem.W.notCls; rw [e4], by rw [e3]; trivial⟩, fun z => nomatch z⟩
  | loc h => cases hk
  | pen h => cases hk
  | scr h => cases hk
/-- what «isinstance(.., T)» tells of each kind -/
def IsOk (B : Tb) (K : PySem.W.Frag) (f : Kd → Option Bool) (u : Value) : Prop := ∀ k b, f k = some b → KdOk B K k ∧ PySem.W.kitOne K (tyK B k) u = some b
def isiD (f : Kd → Option Bool) (x : D) : Option D := (kd x).bind fun k => (f k).map D.bl
theorem we_isi {T : Expr} {cv : V} {u : Value} {p : Pos} {f : Kd → Option Bool} (hT : PE X T (tC cv)) (hc : ClsV cv u) (hf : IsOk B X.K f u) (hg : Gl X "isinstance") (hm : X.mg "isinstance" = none) (he : WE B X W e te)
    (hs : starEach [e, T] X.env = (false, eval e X.env) :: starEach [T] X.env := by rfl) (hs2 : starEach [T] X.env = (false, eval T X.env) :: starEach [] X.env := by rfl) (hpl : (backTo pos (starEach [T] X.env)).any (·.1) = false := by rfl) :
    WE B X W (.Call (.Name "isinstance" p) [e, T] [] pos) (dU (isiD f) te) := by
  refine ⟨fun c g ρ σ H Q Z k rl h z pins s I => ?_⟩
  have run : CallR X (.builtin "isinstance") (fun xs H1 Q1 => ∃ v c1 g1 d kk b, xs = [v, cv] ∧ Fine B X.K c1 g1 H1 ∧ Rep B X.K c1 v d ∧ kd d = some kk ∧ f kk = some b ∧ Q1 (.bl b) H1) := by
    intro pins s σ H1 xs us Q1 I1 rr hh
    obtain ⟨v, c1, g1, d, kk, b, rfl, k1, r1, hkd, hfk, q1⟩ := hh
    obtain ⟨u1, u2, rfl, ru1, ru2⟩ := vals2 rr
    have e2 := hc.eq ru2
    subst e2
    obtain ⟨ok, hko⟩ := hf kk b hfk
    obtain ⟨P, Zz, p, hx⟩ := kit_rep I1 k1.sub r1 hkd ok ru1
    exact PySem.W.kia_one Zz I1.kIn p hko hx fun tk => ⟨.bl b, H1, I1.tok tk, rfl, q1⟩
  refine (pe_callB run hg hm (by decide +kernel) (pa_cons (pe_sem (e := e)) (pa_cons hT pa_nil hs2) hs) (by decide) (by decide) hs hpl).run pins s σ H _ I ?_
  refine (he.run c g ρ σ H _ Z k rl h z).mono fun v H1 ⟨c1, g1, x, s1, k1, r1, w, e1, q1⟩ => ?_
  unfold isiD at e1
  rw [Option.bind_eq_some_iff] at e1
  obtain ⟨kk, h1, h2⟩ := e1
  rw [Option.map_eq_some_iff] at h2
  obtain ⟨b, h3, h4⟩ := h2
  subst h4
  exact ⟨v, c1, g1, x, kk, b, rfl, k1, r1, h1, h3, c1, g1, _, s1, k1, .bl b, q1⟩
end
end DL

namespace DL
open PySem L2 PyProof.Rows
/-! ### a def's promise, called where nothing is being shown -/
structure FnG (P : Program) (w : World) (K : PySem.W.Frag) (mg : Str → Option Value) (base : Heap) (k : Nat) (f : Addr) (fd : FuncData) (ps : List Str) (sp : Sp) : Prop where
  size : ∀ vs H Q E, sp vs H Q E → vs.length = ps.length
  go : ∀ (A : Around) (outer : List Env) (s : Shared) (H : Hp) (args : Args) (us : List Value) (vs : List V) (Q : VK) (E : XK), Room k A → A.guards = some [] → Env0 P w K mg base A outer s H →
    BindsTo s fd args (ps.zip us) → Vals vs us → sp vs H Q E → codeAny (model P w) A (.call (.ref f) args) (CR (L2.CX P w) outer P w H s Q E) s
theorem FnG.mono {P : Program} {w : World} {K : PySem.W.Frag} {mg : Str → Option Value} {base : Heap} {j k : Nat} {f : Addr} {fd : FuncData} {ps : List Str} {sp : Sp} (F : FnG P w K mg base j f fd ps sp) (h : j ≤ k) : FnG P w K mg base k f fd ps sp :=
  ⟨F.size, fun A o s H ar us vs Q E hr => F.go A o s H ar us vs Q E (hr.mono h)⟩
section
variable {P : Program} {w : World} {K : PySem.W.Frag} {mg : Str → Option Value} {base : Heap}
/-- the code object of a def -/
def CodeIs (K : PySem.W.Frag) (f : Addr) (cdv : Value) : Prop := ∃ oc od fd osl, K.lookup f = some ⟨oc, od, .func fd, osl⟩ ∧ fd.code = cdv
theorem fng_of {x qual : Str} {st : Stmt} {f : Addr} {fd : FuncData} {N ps : List Str} {k : Nat} {sp : Sp} (F : Fun K x qual st f fd) (S : FnScope N ps (defScope st)) (size : ∀ vs H Q E, sp vs H Q E → vs.length = ps.length)
    (body : ∀ (cdv : Value), CodeIs K f cdv → ∀ (A : Around) (outer : List Env) (s : Shared) (H : Hp) (vs : List V) (Q : VK) (E : XK), Room k (A.deeper (envOfC qual (defScope st) s.heap.objs.size f cdv)) → (A.deeper (envOfC qual (defScope st) s.heap.objs.size f cdv)).guards = some [] → sp vs H Q E →
      ∃ t, PSs (cxOf (L2.CX P w) P w K mg base N qual (defScope st) f cdv A outer s H E) (defBody st) t ∧ t { nx := fun _ H' => Q .non H', rt := Q } (start N vs) H) : FnG P w K mg base (k + 1) f fd ps sp := by
  obtain ⟨oc, od, kV, doc, pm, an, cdv, ct, osl, rfl, lk, hcd⟩ := F.ex
  refine ⟨size, fun A outer s H args us vs Q E room gd e0 bnd rv hsp => ?_⟩
  have hlen := size _ _ _ _ hsp
  have inH : K.In s.heap := e0.mod.kin.keeps fun b o q => (e0.bs b o q).1
  have noL : s.heap.NoLimit := e0.mod.nolimit.keeps fun b o q => (e0.bs b o q).1
  have kinds : ∀ y ∈ ps.zip us, (defScope st).names.lookup y.1 = some .local ∨ ((defScope st).names.lookup y.1 = some .cell ∧ ((cellsFrom (s.heap.objs.size + 1) (defScope st).names []).lookup y.1).isSome = true) := by
    rintro ⟨n, v⟩ hy
    rcases S.par n (List.of_mem_zip hy).1 with z | z
    · exact Or.inl z
    · exact Or.inr ⟨z, PySem.W.cellsFrom_some _ _ _ (Or.inl z)⟩
  refine codeAny_call_function room.depth (inH _ _ lk) rfl S.co S.gen rfl (PySem.W.codeRec_of inH hcd) (bnd _ _ _ _ ?_)
  refine wpAny_newFunctionEnv_cells S.kind kinds fun env he s1 x1 => ?_
  subst he
  refine ⟨noL.keeps x1.toInCall.keep, codeAny_func ?_⟩
  obtain ⟨t, ht, hq⟩ := body cdv ⟨_, _, _, _, lk, rfl⟩ A outer s H vs Q E (room.deeper _) gd hsp
  have J0 := inv_start (CX := L2.CX P w) (E := E) S room.hd e0 hlen rv x1
  refine wpAny_mono (ht.run [] s1 (start N vs) H _ J0 hq) (fun fl s' hs => ?_) fun e s' hs => hs
  cases fl with
  | ret u =>
    obtain ⟨v, σ', H', J, rv', q⟩ := hs
    exact ⟨v, H', J.os, J.bare, J.base, J.hok, rv', q⟩
  | next =>
    obtain ⟨σ', H', J, q⟩ := hs
    exact ⟨V.non, H', J.os, J.bare, J.base, J.hok, rfl, q⟩
  | brk => obtain ⟨_, _, _, q⟩ := hs; exact q.elim
  | cont => obtain ⟨_, _, _, q⟩ := hs; exact q.elim
end
section
variable {X : Cx} {k : Nat} {f : Addr} {fd : FuncData} {ps : List Str} {sp : Sp} {dvs : List V} {ds : List Value} {E : L2.St → XK} {x : Str} {p pos : Pos} {e : Expr} {es : List Expr} {t : TA}
theorem run_fng {pins : List (Addr × Obj)} {σ : L2.St} {H : Hp} {s : Shared} {Q : VK} {us : List Value} {vs : List V} (F : FnG X.prog X.w X.K X.mg X.base k f fd ps sp) (hr : Room k X.A) (gd : X.A.guards = some []) (hb : Binds X.K fd ps ds) (hd : Vals dvs ds)
    (hx : PassesAt (L2.CX X.prog X.w) X σ (E σ)) (I : Inv X pins σ H s) (r : Vals vs us) (h : sp (vs ++ dvs) H Q (E σ)) : wpAny (model X.prog X.w) X.A (call (.ref f) us) (EP X pins σ Q) X.xe s := by
  have rr : Vals (vs ++ dvs) (us ++ ds) := r.append hd
  have hl : (us ++ ds).length = ps.length := by rw [← rr.length]; exact F.size _ _ _ _ h
  refine wpAny_call (codeAny_mono (F.go X.A X.stack s H ⟨us, []⟩ (us ++ ds) (vs ++ dvs) Q (E σ) hr gd I.env0 (hb s us I.kIn hl) rr h) fun res s' hq => ?_)
  cases res with
  | error e => exact hx pins H s e s' I hq
  | ok fl =>
    cases fl with
    | ret u => exact I.after hq
    | next => exact hq.elim
    | brk => exact hq.elim
    | cont => exact hq.elim
theorem pe_callG (F : FnG X.prog X.w X.K X.mg X.base k f fd ps sp) (hr : Room k X.A) (gd : X.A.guards = some []) (hg : Gl X x) (hm : X.mg x = some (.ref f)) (hk : PySem.W.keepIn X.K (.ref f) = true) (hb : Binds X.K fd ps ds) (hd : Vals dvs ds) (hx : ∀ σ, PassesAt (L2.CX X.prog X.w) X σ (E σ))
    (ha : PA X (e :: es) t) (hdb : (x == ("__debug__" : Str)) = false := by decide) (he : starEach (e :: es) X.env = (false, eval e X.env) :: starEach es X.env := by rfl) (hpl : (backTo pos (starEach es X.env)).any (·.1) = false := by rfl) :
    PE X (.Call (.Name x p) (e :: es) [] pos) (tCallSD sp dvs E t) := by
  refine ⟨fun pins s σ H Q I h => wpAny_Call_Name_kw (ld_glob I hg hm ?_ hdb)⟩
  refine PySem.W.callWith_K (h₀ := X.base) I.ok.mod.kin hk (thn (ha.run pos pins s σ H _ I h) fun us s1 ⟨vs, H1, I1, r, q⟩ => ⟨I1.kIn, ?_⟩) he hpl
  exact run_fng F hr gd hb hd (hx σ) I1 r q
theorem pe_callG0 (F : FnG X.prog X.w X.K X.mg X.base k f fd ps sp) (hr : Room k X.A) (gd : X.A.guards = some []) (hg : Gl X x) (hm : X.mg x = some (.ref f)) (hk : PySem.W.keepIn X.K (.ref f) = true) (hb : Binds X.K fd ps ds) (hd : Vals dvs ds) (hx : ∀ σ, PassesAt (L2.CX X.prog X.w) X σ (E σ))
    (hdb : (x == ("__debug__" : Str)) = false := by decide) : PE X (.Call (.Name x p) [] [] pos) (tCallSD sp dvs E tNil) := by
  refine ⟨fun pins s σ H Q I h => wpAny_Call_Name_kw (ld_glob I hg hm ?_ hdb)⟩
  exact PySem.W.callWith_K0 I.kIn hk (run_fng (us := []) F hr gd hb hd (hx σ) I .nil h)
end
/-! ### promises over data -/
def spOf (B : Tb) (K : PySem.W.Frag) (ar : Nat) (S : DSp) : Sp := fun vs H Q E => ∃ c g ds Φ Ψ, vs.length = ar ∧ Fine B K c g H ∧ Reps B K c vs ds ∧ S ds g Φ Ψ ∧
  (∀ c' H' g' v d, Grow c H c' H' → Fine B K c' g' H' → Rep B K c' v d → Φ d g' → Q v H') ∧
  (∀ c' H' g' cls dd ex, Grow c H c' H' → Fine B K c' g' H' → ExR B K c' cls dd ex → Ψ ex g' → E cls dd H')
/-- a def by its promise -/
structure Fn (B : Tb) (P : Program) (w : World) (K : PySem.W.Frag) (mg : Str → Option Value) (base : Heap) (L : Nat) (x : Str) (ar : Nat) (S : DSp) : Prop where
  ex : ∃ f fd ps, FnG P w K mg base L f fd ps (spOf B K ar S) ∧ mg x = some (.ref f) ∧ PySem.W.keepIn K (.ref f) = true ∧ Binds K fd ps []
theorem Fn.mono {B : Tb} {P : Program} {w : World} {K : PySem.W.Frag} {mg : Str → Option Value} {base : Heap} {L L' : Nat} {x : Str} {ar : Nat} {S : DSp} (F : Fn B P w K mg base L x ar S) (h : L ≤ L') : Fn B P w K mg base L' x ar S :=
  let ⟨f, fd, ps, a, b, c, d⟩ := F.ex
  ⟨f, fd, ps, a.mono h, b, c, d⟩
/-- where a def's body runs -/
structure Ctx (L : Nat) (X : Cx) (W : WX) : Prop where
  calm : X.calm = true
  room : Room L X.A
  gd : X.A.guards = some []
  tk : Takes X W
def dCall (S : DSp) (tr : DA) : DE := fun ρ g Q Z => tr ρ g (fun xs g1 => S xs g1 Q Z) Z
section
variable {B : Tb} {X : Cx} {W : WX} {L ar : Nat} {S : DSp} {x : Str} {p pos : Pos} {e : Expr} {es : List Expr} {tr : DA}
theorem we_call (F : Fn B X.prog X.w X.K X.mg X.base L x ar S) (C : Ctx L X W) (hg : Gl X x) (ha : WA B X W (e :: es) tr) (hn : (e :: es).length = ar := by rfl) (hdb : (x == ("__debug__" : Str)) = false := by decide) (he : starEach (e :: es) X.env = (false, eval e X.env) :: starEach es X.env := by rfl)
    (hpl : (backTo pos (starEach es X.env)).any (·.1) = false := by rfl) : WE B X W (.Call (.Name x p) (e :: es) [] pos) (dCall S tr) := by
  obtain ⟨f, fd, ps, G, hm, hk, hb⟩ := F.ex
  refine ⟨fun c g ρ σ H Q Z k rl h z => sem_of (pe_callG (dvs := []) (ds := []) (E := fun σ => L2.WE W σ) G C.room C.gd hg hm hk hb .nil (fun σ => passAt C.tk σ) pa_sem hdb he hpl) ?_⟩
  refine (ha.run c g ρ σ H _ Z k rl h z).mono fun vs H1 ⟨c1, g1, ds, s1, k1, rs, hl, q1⟩ => ?_
  show spOf B X.K ar S (vs ++ []) H1 _ _
  rw [List.append_nil]
  exact ⟨c1, g1, ds, Q, Z, by rw [rs.length, hl]; exact hn, k1, rs, q1, fun c' H' g' v d s2 k2 r2 q2 => ⟨c', g', d, s1.trans s2, k2, r2, q2⟩, fun c' H' g' cls dd ex s2 k2 r2 q2 => z c' H' g' ex cls dd (s1.trans s2) k2 r2 q2⟩
theorem we_call0 (F : Fn B X.prog X.w X.K X.mg X.base L x 0 S) (C : Ctx L X W) (hg : Gl X x) (hdb : (x == ("__debug__" : Str)) = false := by decide) : WE B X W (.Call (.Name x p) [] [] pos) (dCall S dNil) := by
  obtain ⟨f, fd, ps, G, hm, hk, hb⟩ := F.ex
  refine ⟨fun c g ρ σ H Q Z k rl h z => sem_of (pe_callG0 (dvs := []) (ds := []) (E := fun σ => L2.WE W σ) G C.room C.gd hg hm hk hb .nil (fun σ => passAt C.tk σ) hdb) ?_⟩
  exact ⟨c, g, [], Q, Z, rfl, k, .nil, h, fun c' H' g' v d s2 k2 r2 q2 => ⟨c', g', d, s2, k2, r2, q2⟩, fun c' H' g' cls dd ex s2 k2 r2 q2 => z c' H' g' ex cls dd s2 k2 r2 q2⟩
end
end DL

namespace DL
open PySem L2 PyProof.Rows
/-- a slot: not assigned, frozen data, a list or an instance that nothing else refers to -/
inductive SV where
  | un
  | fz (d : D)
  | ow (ds : List D)
  | ob (k : Nat) (fs : List (Str × D))
  | th
abbrev SEnv := List SV
def SV.mask : SV → Option D
  | .fz d => some d
  | _ => none
def SV.snap : SV → Option D
  | .fz d => some d
  | .ow ds => some (.lst ds)
  | _ => none
def mask (ρ : SEnv) : DEnv := ρ.map SV.mask
def snap (ρ : SEnv) : DEnv := ρ.map SV.snap

/-- where a def was entered; what it was handed to call -/
structure En where
  H : Hp
  th : Addr
  c : Cn
  co : Option (Addr × Str)
instance : Coe En Hp := ⟨En.H⟩
instance : CoeFun En (fun _ => Addr → Option HO) := ⟨En.H⟩
structure RelS (B : Tb) (K : PySem.W.Frag) (c₀ : Cn) (H₀ : En) (c : Cn) (g : Gh) (ρ : SEnv) (σ : L2.St) (H : Hp) : Prop where
  gr : Grow c₀ H₀ c H
  fine : Fine B K c g H
  len : ρ.length = σ.length
  fz : ∀ (i : Nat) (d : D), ρ[i]? = some (.fz d) → ∃ v, σ[i]? = some (some v) ∧ Rep B K c v d
  ow : ∀ (i : Nat) (ds : List D), ρ[i]? = some (.ow ds) → ∃ p vs, σ[i]? = some (some (.ref p)) ∧ H p = some (.lst vs) ∧ Reps B K c vs ds ∧ c.F p = none ∧ c.pen ≠ some p ∧ p ∉ c.ma ∧ H₀ p = none
  inj : ∀ (i j : Nat) (ds es : List D) (p : Addr), i ≠ j → ρ[i]? = some (.ow ds) → ρ[j]? = some (.ow es) → σ[i]? = some (some (.ref p)) → σ[j]? ≠ some (some (.ref p))
  ob : ∀ (i : Nat) (p : Addr) (k : Nat) (fs : List (Str × D)), p = H₀.th → ρ[i]? = some (.ob k fs) → ∃ dx vs, σ[i]? = some (some (.ref p)) ∧ H p = some (.ins (B.ct k) dx vs) ∧ RepF B K c vs fs ∧ c.F p = none ∧ c.pen ≠ some p ∧ p ∉ c.ma ∧ H₀ p = none
  ob1 : ∀ (i j : Nat) (k l : Nat) (fs gs : List (Str × D)), ρ[i]? = some (.ob k fs) → ρ[j]? = some (.ob l gs) → i = j
  th : Le H₀.c c ∧ (∀ x, H₀.co = some x → H x.1 = some (LamX.CodeO x.1 x.2)) ∧ ∀ (i : Nat), ρ[i]? = some .th → σ[i]? = some (some (.ref H₀.th))
structure DEnds where
  nx : SEnv → Gh → Prop
  rt : D → Gh → Prop
  bk : SEnv → Gh → Prop := fun _ _ => False
  ct : SEnv → Gh → Prop := fun _ _ => False
  xz : Exn → SEnv → Gh → Prop
abbrev DS := DEnds → SEnv → Gh → Prop
section
variable (B : Tb) (K : PySem.W.Frag) (c₀ : Cn) (H₀ : En)
def toE (P : SEnv → Gh → Prop) : L2.St → Hp → Prop := fun σ' H' => ∃ c' g' ρ', RelS B K c₀ H₀ c' g' ρ' σ' H' ∧ P ρ' g'
def endsOf (D : DEnds) : L2.Ends where
  nx := toE B K c₀ H₀ D.nx
  rt := fun v H' => ∃ c' g' d, Grow c₀ H₀ c' H' ∧ Fine B K c' g' H' ∧ Rep B K c' v d ∧ D.rt d g'
  bk := toE B K c₀ H₀ D.bk
  ct := toE B K c₀ H₀ D.ct
def ZS (W : WX) (D : DEnds) : Prop := ∀ c' g' ρ' σ' H' ex cls d, RelS B K c₀ H₀ c' g' ρ' σ' H' → ExR B K c' cls d ex → D.xz ex ρ' g' → W cls d σ' H'
end
def semS (X : Cx) (st : Stmt) : TS := fun D σ H => ∀ pins s, Inv X pins σ H s → wpAny (model X.prog X.w) X.A (exec st X.env) (SP X pins D) X.xe s
theorem ps_sem {X : Cx} {st : Stmt} : PS X st (semS X st) := ⟨fun pins s _ _ _ I h => h pins s I⟩
theorem semS_of {X : Cx} {st : Stmt} {t : TS} (h : PS X st t) {D : L2.Ends} {σ : L2.St} {H : Hp} (q : t D σ H) : semS X st D σ H := fun pins s I => h.run pins s σ H D I q
def semSs (X : Cx) (st : List Stmt) : TS := fun D σ H => ∀ pins s, Inv X pins σ H s → wpAny (model X.prog X.w) X.A (execs st X.env) (SP X pins D) X.xe s
theorem pss_sem {X : Cx} {st : List Stmt} : PSs X st (semSs X st) := ⟨fun pins s _ _ _ I h => h pins s I⟩
theorem semSs_of {X : Cx} {st : List Stmt} {t : TS} (h : PSs X st t) {D : L2.Ends} {σ : L2.St} {H : Hp} (q : t D σ H) : semSs X st D σ H := fun pins s I => h.run pins s σ H D I q
theorem SP.imp {X : Cx} {pins : List (Addr × Obj)} {D D' : L2.Ends} {f : Flow} {s : Shared} (h : SP X pins D f s) (h1 : ∀ σ H, D.nx σ H → D'.nx σ H) (h2 : ∀ v H, D.rt v H → D'.rt v H) (h3 : ∀ σ H, D.bk σ H → D'.bk σ H) (h4 : ∀ σ H, D.ct σ H → D'.ct σ H) : SP X pins D' f s := by
  cases f with
  | next => obtain ⟨σ, H, I, q⟩ := h; exact ⟨σ, H, I, h1 _ _ q⟩
  | brk => obtain ⟨σ, H, I, q⟩ := h; exact ⟨σ, H, I, h3 _ _ q⟩
  | cont => obtain ⟨σ, H, I, q⟩ := h; exact ⟨σ, H, I, h4 _ _ q⟩
  | ret u => obtain ⟨v, σ, H, I, r, q⟩ := h; exact ⟨v, σ, H, I, r, h2 _ _ q⟩
section
variable (B : Tb) (X : Cx) (W : WX) (H₀ : En)
structure WS (st : Stmt) (t : DS) : Prop where
  run : ∀ (c₀ c : Cn) (g : Gh) (ρ : SEnv) (σ : L2.St) (H : Hp) (D : DEnds), RelS B X.K c₀ H₀ c g ρ σ H → t D ρ g → ZS B X.K c₀ H₀ W D → semS X st (endsOf B X.K c₀ H₀ D) σ H
structure WB (st : List Stmt) (t : DS) : Prop where
  run : ∀ (c₀ c : Cn) (g : Gh) (ρ : SEnv) (σ : L2.St) (H : Hp) (D : DEnds), RelS B X.K c₀ H₀ c g ρ σ H → t D ρ g → ZS B X.K c₀ H₀ W D → semSs X st (endsOf B X.K c₀ H₀ D) σ H
end
section
variable {B : Tb} {K : PySem.W.Frag} {c₀ c c' : Cn} {H₀ : En} {H H' : Hp} {g g' : Gh} {ρ : SEnv} {σ : L2.St}
theorem RelS.next (r : RelS B K c₀ H₀ c g ρ σ H) (s : Grow c H c' H') (k : Fine B K c' g' H') : RelS B K c₀ H₀ c' g' ρ σ H' := by
  refine ⟨r.gr.trans s, k, r.len, fun i d h => ?_, fun i ds h => ?_, r.inj, fun i p k fs ep h => ?_, r.ob1, ⟨r.th.1.trans s.le, fun x hx => ?_, r.th.2.2⟩⟩
  rotate_right
  · have h := r.th.2.1 x hx
    refine s.keep _ _ h (fun z => ?_) (fun z => ?_) LamX.codeO_ne
    · obtain ⟨_, _, o, h3, h4⟩ := r.fine.pen _ z
      rw [h] at h3
      exact (B.pl _ _ _ h4).2 _ _ (Option.some.inj h3).symm
    · obtain ⟨i, hi⟩ := List.getElem?_of_mem z
      have hlt : i < g.mem.length := by rw [← r.fine.mlen]; exact (List.getElem?_eq_some_iff.mp hi).1
      obtain ⟨_, dx, fs, h3, _⟩ := r.fine.mem i _ _ (List.getElem?_eq_getElem hlt) hi
      rw [h] at h3
      unfold LamX.CodeO at h3
      cases h3
  · obtain ⟨v, h1, h2⟩ := r.fz i d h
    exact ⟨v, h1, h2.mono s.le⟩
  · obtain ⟨p, vs, h1, h2, h3, h4, h5, h6, h7⟩ := r.ow i ds h
    refine ⟨p, vs, h1, s.keep p _ h2 h5 h6, h3.mono s.le, ?_, fun z => ?_, fun z => ?_, h7⟩
    · cases e : c'.F p with
      | none => rfl
      | some o =>
        rcases s.froz p o e with (q | q) | (q | q)
        · rw [h4] at q; cases q
        · rw [h2] at q; cases q
        · exact absurd q h5
        · exact absurd q h6
    · rcases s.fresh p (.inl z) with (q | q) | q
      · exact h5 q
      · exact h6 q
      · rw [h2] at q; cases q
    · rcases s.fresh p (.inr z) with (q | q) | q
      · exact h5 q
      · exact h6 q
      · rw [h2] at q; cases q
  · obtain ⟨dx, vs, h1, h2, h3, h4, h5, h6, h7⟩ := r.ob i p k fs ep h
    obtain ⟨m1, m2, m3, m4⟩ := s.mine h2 h4 h5 h6
    exact ⟨dx, vs, h1, m1, h3.mono s.le, m2, m3, m4, h7⟩
theorem mask_get {i : Nat} {d : D} (h : (mask ρ)[i]? = some (some d)) : ρ[i]? = some (.fz d) := by
  unfold mask at h
  rw [List.getElem?_map] at h
  cases e : ρ[i]? with
  | none => rw [e] at h; cases h
  | some v =>
    rw [e] at h
    cases v with
    | fz d' => simp only [Option.map_some, SV.mask, Option.some.injEq] at h; rw [h]
    | un => simp [SV.mask] at h
    | ow ds => simp [SV.mask] at h
    | ob k fs => simp [SV.mask] at h
    | th => simp [SV.mask] at h
theorem RelS.mask (r : RelS B K c₀ H₀ c g ρ σ H) : RelP B K c (DL.mask ρ) σ := ⟨by unfold DL.mask; rw [List.length_map]; exact Nat.le_of_eq r.len, fun i d h => r.fz i d (mask_get h)⟩
theorem RelS.set (r : RelS B K c₀ H₀ c g ρ σ H) {i : Nat} {v : V} {d : D} (rv : Rep B K c v d) : RelS B K c₀ H₀ c g (ρ.set i (.fz d)) (σ.set i (some v)) H := by
  have get : ∀ (j : Nat) (x : SV), (ρ.set i (.fz d))[j]? = some x → (j = i ∧ x = .fz d ∧ j < ρ.length) ∨ (j ≠ i ∧ ρ[j]? = some x) := fun j x h => by
    by_cases e : i = j
    · subst e
      by_cases hl : i < ρ.length
      · rw [List.getElem?_set_self hl] at h
        exact .inl ⟨rfl, (Option.some.inj h).symm, hl⟩
      · rw [List.getElem?_eq_none (by simpa using hl)] at h; cases h
    · rw [List.getElem?_set_ne e] at h
      exact .inr ⟨fun z => e z.symm, h⟩
  have same : ∀ {j : Nat}, j ≠ i → (σ.set i (some v))[j]? = σ[j]? := fun h => List.getElem?_set_ne (Ne.symm h)
  refine ⟨r.gr, r.fine, by rw [List.length_set, List.length_set]; exact r.len, fun j d' h => ?_, fun j ds h => ?_, fun j k ds es p hjk h1 h2 h3 => ?_, fun j p k fs ep h => ?_, fun j l k k' fs gs h1 h2 => ?_, ⟨r.th.1, r.th.2.1, fun j h => ?_⟩⟩
  rotate_right
  · rcases get j _ h with ⟨rfl, e, _⟩ | ⟨hj, h⟩
    · cases e
    · rw [same hj]; exact r.th.2.2 j h
  · rcases get j _ h with ⟨rfl, e, hl⟩ | ⟨hj, h⟩
    · cases e
      exact ⟨v, List.getElem?_set_self (by rw [← r.len]; exact hl), rv⟩
    · rw [same hj]; exact r.fz j d' h
  · rcases get j _ h with ⟨rfl, e, _⟩ | ⟨hj, h⟩
    · cases e
    · rw [same hj]; exact r.ow j ds h
  · rcases get j _ h1 with ⟨rfl, e, _⟩ | ⟨hj, h1⟩
    · cases e
    · rcases get k _ h2 with ⟨rfl, e, _⟩ | ⟨hk, h2⟩
      · cases e
      · rw [same hj] at h3
        rw [same hk]; exact r.inj j k ds es p hjk h1 h2 h3
  · rcases get j _ h with ⟨rfl, e, _⟩ | ⟨hj, h⟩
    · cases e
    · rw [same hj]; exact r.ob j p k fs ep h
  · rcases get j _ h1 with ⟨rfl, e, _⟩ | ⟨hj, h1⟩
    · cases e
    · rcases get l _ h2 with ⟨rfl, e, _⟩ | ⟨hk, h2⟩
      · cases e
      · exact r.ob1 j l k k' fs gs h1 h2
/-- what an expression wants of the rest of a statement -/
theorem RelS.zok {W : WX} {D : DEnds} (r : RelS B K c₀ H₀ c g ρ σ H) (z : ZS B K c₀ H₀ W D) : ZOk B K c H σ W fun ex g' => D.xz ex ρ g' := fun c' H' g' ex cls d s k e q =>
  z c' g' ρ σ H' ex cls d (r.next s k) e q
end
section
variable {B : Tb} {X : Cx} {W : WX} {H₀ : En} {st : Stmt} {rest : List Stmt} {t u : DS} {e : Expr} {te : DE} {pos : Pos}
def dNext : DS := fun D ρ g => D.nx ρ g
def dSeq (t u : DS) : DS := fun D ρ g => t { D with nx := u D } ρ g
theorem wb_nil : WB B X W H₀ [] dNext := ⟨fun c₀ c g ρ σ H D r q z => semSs_of pss_nil ⟨c, g, ρ, r, q⟩⟩
theorem wb_cons (h1 : WS B X W H₀ st t) (h2 : WB B X W H₀ rest u) : WB B X W H₀ (st :: rest) (dSeq t u) := by
  refine ⟨fun c₀ c g ρ σ H D r q z => semSs_of (pss_cons ps_sem pss_sem) ?_⟩
  intro pins s I
  refine thn (h1.run c₀ c g ρ σ H { D with nx := u D } r q (fun c' g' ρ' σ' H' ex cls d a b c => z c' g' ρ' σ' H' ex cls d a b c) pins s I) fun f s' hq => ?_
  exact SP.imp hq (fun σ' H' ⟨c', g', ρ', r', q'⟩ => h2.run c₀ c' g' ρ' σ' H' D r' q' z) (fun _ _ h => h) (fun _ _ h => h) (fun _ _ h => h)
theorem wb_one (h1 : WS B X W H₀ st t) : WB B X W H₀ [st] t := ⟨fun c₀ c g ρ σ H D r q z => semSs_of (pss_one ps_sem) (h1.run c₀ c g ρ σ H D r q z)⟩
def dBreak : DS := fun D ρ g => D.bk ρ g
def dCont : DS := fun D ρ g => D.ct ρ g
theorem ws_pass : WS B X W H₀ (.Pass pos) dNext := ⟨fun c₀ c g ρ σ H D r q z => semS_of ps_pass ⟨c, g, ρ, r, q⟩⟩
theorem ws_break : WS B X W H₀ (.Break pos) dBreak := ⟨fun c₀ c g ρ σ H D r q z => semS_of ps_break ⟨c, g, ρ, r, q⟩⟩
theorem ws_continue : WS B X W H₀ (.Continue pos) dCont := ⟨fun c₀ c g ρ σ H D r q z => semS_of ps_continue ⟨c, g, ρ, r, q⟩⟩
/-- an expression whose value is dropped -/
def dDrop (te : DE) : DS := fun D ρ g => te (mask ρ) g (fun _ g' => D.nx ρ g') fun ex g' => D.xz ex ρ g'
theorem ws_expr (he : WE B X W e te) (hs : swapsWith e none pos.line X.env = pure false := by rfl) : WS B X W H₀ (.Expr e pos) (dDrop te) := by
  refine ⟨fun c₀ c g ρ σ H D r q z => semS_of (ps_expr pe_sem hs) ?_⟩
  refine (he.run c g _ σ H _ _ r.fine r.mask q (r.zok z)).mono fun v H' ⟨c', g', d, s, k, _, q'⟩ => ⟨c', g', ρ, r.next s k, q'⟩
def dRet (te : DE) : DS := fun D ρ g => te (mask ρ) g D.rt fun ex g' => D.xz ex ρ g'
theorem ws_ret (he : WE B X W e te) : WS B X W H₀ (.Return (some e) pos) (dRet te) := by
  refine ⟨fun c₀ c g ρ σ H D r q z => semS_of (ps_ret pe_sem) ?_⟩
  refine (he.run c g _ σ H _ _ r.fine r.mask q (r.zok z)).mono fun v H' ⟨c', g', d, s, k, rr, q'⟩ => ⟨c', g', d, r.gr.trans s, k, rr, q'⟩
def dRetN : DS := fun D _ g => D.rt .non g
theorem ws_retN : WS B X W H₀ (.Return none pos) dRetN := ⟨fun c₀ c g ρ σ H D r q z => semS_of ps_retN ⟨c, g, .non, r.gr, r.fine, .non, q⟩⟩
/-- return x, x an owned list -/
def dRetO (i : Nat) : DS := fun D ρ g => ∃ ds, ρ[i]? = some (.ow ds) ∧ D.rt (.lst ds) g
theorem RelS.freeze {K : PySem.W.Frag} {c₀ c : Cn} {g : Gh} {ρ : SEnv} {σ : L2.St} {H : Hp} (r : RelS B K c₀ H₀ c g ρ σ H) {i : Nat} {ds : List D} (h : ρ[i]? = some (.ow ds)) :
    ∃ p c', σ[i]? = some (some (.ref p)) ∧ Rep B K c' (.ref p) (.lst ds) ∧ RelS B K c₀ H₀ c' g (ρ.set i (.fz (.lst ds))) σ H := by
  obtain ⟨p, vs, h1, h2, h3, h4, h5, h6, h7⟩ := r.ow i ds h
  have fr : Ex c.F (upd c.F p (.lst vs)) := Evl.Ex.new h4
  have le : Le c { c with F := upd c.F p (.lst vs) } := ⟨fr, fun _ z => z, fun _ _ z => z, fun _ _ => rfl⟩
  have gr : Grow c₀ H₀ { c with F := upd c.F p (.lst vs) } H := by
    refine ⟨r.gr.le.trans le, r.gr.kp, r.gr.fresh, fun a o q => ?_⟩
    have q : upd c.F p (.lst vs) a = some o := q
    by_cases e : a = p
    · subst e; exact .inl (.inr h7)
    · rw [upd_ne e] at q; exact r.gr.froz a o q
  have fine : Fine B K { c with F := upd c.F p (.lst vs) } g H := by
    refine ⟨fun a o q => ?_, r.fine.pd, fun q hq => ?_, fun q hq => (let ⟨ns, h1, h2⟩ := r.fine.cells q hq; ⟨ns, fr _ _ h1, h2⟩), r.fine.mlen, r.fine.mnd, fun j m a e1 e2 => ?_, r.fine.tabs, nt_put r.fine.nt nofun⟩
    · have q : upd c.F p (.lst vs) a = some o := q
      by_cases e : a = p
      · subst e; rw [upd_same] at q; rw [← q]; exact h2
      · rw [upd_ne e] at q; exact r.fine.sub a o q
    · obtain ⟨q1, q2, o, q3, q4⟩ := r.fine.pen q hq
      refine ⟨?_, q2, o, q3, q4⟩
      show upd c.F p (.lst vs) q = none
      rw [upd_ne (fun z => h5 (by rw [← z]; exact hq))]; exact q1
    · obtain ⟨q1, dx, fs, q2, q3⟩ := r.fine.mem j m a e1 e2
      refine ⟨?_, dx, fs, q2, RepF.mono le q3⟩
      show upd c.F p (.lst vs) a = none
      rw [upd_ne (fun z => h6 (by rw [← z]; exact List.mem_of_getElem? e2))]; exact q1
  have rp : Rep B K { c with F := upd c.F p (.lst vs) } (.ref p) (.lst ds) := .lst upd_same (h3.mono le)
  refine ⟨p, _, h1, rp, ⟨gr, fine, by rw [List.length_set]; exact r.len, fun j d' hh => ?_, fun j es hh => ?_, fun j k es fs q hjk e1 e2 e3 => ?_, fun j q k fs ep hh => ?_, fun j l k k' fs gs e1 e2 => ?_, ⟨r.th.1.trans le, r.th.2.1, fun j hh => ?_⟩⟩⟩
  rotate_right
  · have nj : i ≠ j := fun z => by
      subst z
      rw [List.getElem?_set_self (List.getElem?_eq_some_iff.mp h).1] at hh; cases hh
    rw [List.getElem?_set_ne nj] at hh
    exact r.th.2.2 j hh
  · by_cases e : i = j
    · subst e
      have hl : i < ρ.length := (List.getElem?_eq_some_iff.mp h).1
      rw [List.getElem?_set_self hl] at hh
      cases hh
      exact ⟨_, h1, rp⟩
    · rw [List.getElem?_set_ne e] at hh
      obtain ⟨v, q1, q2⟩ := r.fz j d' hh
      exact ⟨v, q1, q2.mono le⟩
  · by_cases e : i = j
    · subst e
      have hl : i < ρ.length := (List.getElem?_eq_some_iff.mp h).1
      rw [List.getElem?_set_self hl] at hh
      cases hh
    · rw [List.getElem?_set_ne e] at hh
      obtain ⟨q, ws, q1, q2, q3, q4, q5, q6, q7⟩ := r.ow j es hh
      refine ⟨q, ws, q1, q2, q3.mono le, ?_, q5, q6, q7⟩
      show upd c.F p (.lst vs) q = none
      rw [upd_ne]
      · exact q4
      · intro z
        subst z
        exact r.inj i j ds es q e h hh h1 q1
  · have nj : i ≠ j := fun z => by
      subst z
      rw [List.getElem?_set_self (List.getElem?_eq_some_iff.mp h).1] at e1; cases e1
    have nk : i ≠ k := fun z => by
      subst z
      rw [List.getElem?_set_self (List.getElem?_eq_some_iff.mp h).1] at e2; cases e2
    rw [List.getElem?_set_ne nj] at e1
    rw [List.getElem?_set_ne nk] at e2
    exact r.inj j k es fs q hjk e1 e2 e3
  · have nj : i ≠ j := fun z => by
      subst z
      rw [List.getElem?_set_self (List.getElem?_eq_some_iff.mp h).1] at hh; cases hh
    rw [List.getElem?_set_ne nj] at hh
    obtain ⟨dx, ws, q1, q2, q3, q4, q5, q6, q7⟩ := r.ob j q k fs ep hh
    refine ⟨dx, ws, q1, q2, q3.mono le, ?_, q5, q6, q7⟩
    show upd c.F p (.lst vs) q = none
    rw [upd_ne]
    · exact q4
    · intro z
      subst z
      rw [h2] at q2; cases q2
  · have nj : i ≠ j := fun z => by
      subst z
      rw [List.getElem?_set_self (List.getElem?_eq_some_iff.mp h).1] at e1; cases e1
    have nl : i ≠ l := fun z => by
      subst z
      rw [List.getElem?_set_self (List.getElem?_eq_some_iff.mp h).1] at e2; cases e2
    rw [List.getElem?_set_ne nj] at e1
    rw [List.getElem?_set_ne nl] at e2
    exact r.ob1 j l k k' fs gs e1 e2
theorem ws_retO {i : Nat} {x : Str} {p0 : Pos} (hv : PE X (.Name x p0) (tVar i)) : WS B X W H₀ (.Return (some (.Name x p0)) pos) (dRetO i) := by
  refine ⟨fun c₀ c g ρ σ H D r q z => semS_of (ps_ret hv) ?_⟩
  obtain ⟨ds, h1, q⟩ := q
  obtain ⟨p, c', e1, rp, r'⟩ := r.freeze h1
  exact ⟨_, e1, c', g, _, r'.gr, r'.fine, rp, q⟩
/-- x goes over into frozen data -/
def dFreeze (i : Nat) (t : DS) : DS := fun D ρ g => ∃ ds, ρ[i]? = some (.ow ds) ∧ t D (ρ.set i (.fz (.lst ds))) g
theorem ws_freeze {i : Nat} (h : WS B X W H₀ st t) : WS B X W H₀ st (dFreeze i t) := by
  refine ⟨fun c₀ c g ρ σ H D r q z => ?_⟩
  obtain ⟨ds, h1, q⟩ := q
  obtain ⟨p, c', e1, rp, r'⟩ := r.freeze h1
  exact h.run c₀ c' g _ σ H D r' q z
def dIfS (c : DT) (t u : DS) : DS := fun D ρ g => c (mask ρ) g (fun b g' => if b = true then t D ρ g' else u D ρ g') fun ex g' => D.xz ex ρ g'
theorem ws_if {c : Expr} {a b : List Stmt} {tc : DT} (hc : WT B X W c tc) (ha : WB B X W H₀ a t) (hb : WB B X W H₀ b u) : WS B X W H₀ (.If c a b pos) (dIfS tc t u) := by
  refine ⟨fun c₀ c g ρ σ H D r q z => semS_of (ps_if pt_sem pss_sem pss_sem) ?_⟩
  refine (hc.run c g _ σ H _ _ r.fine r.mask q (r.zok z)).mono fun v H' ⟨c', g', s, k, q'⟩ => ?_
  cases v with
  | true => exact ha.run c₀ c' g' ρ σ H' D (r.next s k) q' z
  | false => exact hb.run c₀ c' g' ρ σ H' D (r.next s k) q' z
/-- x = e -/
def dSet (i : Nat) (te : DE) : DS := fun D ρ g => te (mask ρ) g (fun d g' => D.nx (ρ.set i (.fz d)) g') fun ex g' => D.xz ex ρ g'
theorem ws_set {i : Nat} {x : Str} {pos' : Pos} (hN : X.N.Nodup) (hi : X.N[i]? = some x) (hx : Loc X.env.scope x) (he : WE B X W e te) (hs : swapsWith e (some (.Name x pos')) pos.line X.env = pure false := by rfl)
    (hf : X.fn x = true ∨ X.env.scope.names.lookup x = some .local := by first | exact .inl rfl | exact .inr rfl) : WS B X W H₀ (.Assign [.Name x pos'] e pos) (dSet i te) := by
  refine ⟨fun c₀ c g ρ σ H D r q z => semS_of (ps_set hN hi hx pe_sem hs hf) ?_⟩
  refine (he.run c g _ σ H _ _ r.fine r.mask q (r.zok z)).mono fun v H' ⟨c', g', d, s, k, rr, q'⟩ => ?_
  exact ⟨c', g', _, (r.next s k).set rr, q'⟩
end
/-! ### a def by its body -/
def dStart (N : List Str) (ds : List D) : SEnv := ds.map SV.fz ++ List.replicate (N.length - ds.length) .un
/-- the promise S is kept by the reading t -/
def Keeps (N : List Str) (ar : Nat) (S : DSp) (t : DS) : Prop := ∀ ds g Φ Ψ, ds.length = ar → S ds g Φ Ψ → t { nx := fun _ g' => Φ .non g', rt := Φ, xz := fun ex _ g' => Ψ ex g' } (dStart N ds) g
section
variable {B : Tb} {P : Program} {w : World} {K : PySem.W.Frag} {mg : Str → Option Value} {base : Heap}
theorem start_rel {c : Cn} {g : Gh} {H : Hp} {N : List Str} {vs : List V} {ds : List D} (k : Fine B K c g H) (r : Reps B K c vs ds) (a : Addr) : RelS B K c ⟨H, a, c, none⟩ c g (dStart N ds) (L2.start N vs) H := by
  have lens := r.length
  refine ⟨Grow.refl c H, k, ?_, fun i d h => ?_, fun i es h => ?_, fun i j es fs p _ h => ?_, fun i p k fs ep h => ?_, fun i j k l fs gs h => ?_, ⟨Le.refl c, (fun x hx => nomatch hx), fun i h => ?_⟩⟩
  · unfold dStart L2.start
    simp only [List.length_append, List.length_map, List.length_replicate, lens]
  · unfold dStart at h
    by_cases hi : i < ds.length
    · rw [List.getElem?_append_left (by simpa using hi), List.getElem?_map] at h
      cases e : ds[i]? with
      | none => rw [e] at h; cases h
      | some d' =>
        rw [e] at h
        cases h
        obtain ⟨v, h1, h2⟩ := r.getD e
        refine ⟨v, ?_, h2⟩
        unfold L2.start
        rw [List.getElem?_append_left (by simpa [lens] using hi), List.getElem?_map, h1]; rfl
    · rw [List.getElem?_append_right (by simpa using hi), List.getElem?_replicate] at h
      split at h <;> cases h
  all_goals
    unfold dStart at h
    by_cases hi : i < ds.length
    · rw [List.getElem?_append_left (by simpa using hi), List.getElem?_map] at h
      cases e : ds[i]? with
      | none => rw [e] at h; cases h
      | some d' => rw [e] at h; cases h
    · rw [List.getElem?_append_right (by simpa using hi), List.getElem?_replicate] at h
      split at h <;> cases h
theorem def_okC {x qual : Str} {st : Stmt} {f : Addr} {fd : FuncData} {N ps : List Str} {L : Nat} {S : DSp} {t : DS} (F : Fun K x qual st f fd) (Sc : FnScope N ps (defScope st))
    (body : ∀ (cdv : Value), CodeIs K f cdv → ∀ (A : Around) (outer : List Env) (s : Shared) (H : Hp) (E : XK), let X := cxOf (L2.CX P w) P w K mg base N qual (defScope st) f cdv A outer s H E
      Ctx L X (fun cls d _ H => E cls d H) → ∀ {H₀ : En}, WB B X (fun cls d _ H => E cls d H) H₀ (defBody st) t) (hk : Keeps N ps.length S t) : FnG P w K mg base (L + 1) f fd ps (spOf B K ps.length S) := by
  refine fng_of F Sc (fun vs H Q E h => ?_) fun cdv hcd A outer s H vs Q E hr gd h => ?_
  · obtain ⟨c, g, ds, Φ, Ψ, hl, _⟩ := h
    exact hl
  · obtain ⟨c, g, ds, Φ, Ψ, hl, k, rs, hS, hq, he⟩ := h
    refine ⟨_, pss_sem, ?_⟩
    have C : Ctx L (cxOf (L2.CX P w) P w K mg base N qual (defScope st) f cdv A outer s H E) (fun cls d _ H => E cls d H) := ⟨rfl, hr, gd, takes_of rfl rfl rfl rfl⟩
    have b := (body cdv hcd A outer s H E C (H₀ := ⟨H, 0, c, none⟩)).run c c g (dStart N ds) (L2.start N vs) H _ (start_rel k rs 0) (hk ds g Φ Ψ (by rw [← rs.length]; exact hl) hS) (fun c' g' ρ' σ' H' ex cls d r' e' q' => he c' H' g' cls d ex r'.gr r'.fine e' q')
    intro pins s' I
    refine thn (b pins s' I) fun fl s1 hs => SP.imp hs (fun σ' H' ⟨c', g', ρ', r', q'⟩ => ?_) (fun v H' ⟨c', g', d, s2, k2, r2, q'⟩ => ?_) (fun _ _ ⟨_, _, _, _, q⟩ => q.elim) (fun _ _ ⟨_, _, _, _, q⟩ => q.elim)
    · exact hq c' H' g' .non .non r'.gr r'.fine .non q'
    · exact hq c' H' g' v d s2 k2 r2 q'
theorem def_ok {x qual : Str} {st : Stmt} {f : Addr} {fd : FuncData} {N ps : List Str} {L : Nat} {S : DSp} {t : DS} (F : Fun K x qual st f fd) (Sc : FnScope N ps (defScope st))
    (body : ∀ (cdv : Value) (A : Around) (outer : List Env) (s : Shared) (H : Hp) (E : XK), let X := cxOf (L2.CX P w) P w K mg base N qual (defScope st) f cdv A outer s H E
      Ctx L X (fun cls d _ H => E cls d H) → ∀ {H₀ : En}, WB B X (fun cls d _ H => E cls d H) H₀ (defBody st) t) (hk : Keeps N ps.length S t) : FnG P w K mg base (L + 1) f fd ps (spOf B K ps.length S) :=
  def_okC F Sc (fun cdv _ A outer s H E C _ => body cdv A outer s H E C) hk
end
end DL

namespace DL
open PySem L2 PyProof.Rows
/-! ### the built-in classes -/
def isInt : Kd → Option Bool
  | .int => some true
  | .bl => some true
  | .obj _ => none
  | .exc _ => none
  | _ => some false
def isBool : Kd → Option Bool
  | .bl => some true
  | .obj _ => none
  | .exc _ => none
  | _ => some false
def isStr : Kd → Option Bool
  | .str => some true
  | .obj _ => none
  | .exc _ => none
  | _ => some false
def isList : Kd → Option Bool
  | .lst => some true
  | .obj _ => none
  | .exc _ => none
  | _ => some false
def isTuple : Kd → Option Bool
  | .tup => some true
  | .obj _ => none
  | .exc _ => none
  | _ => some false
def isDict : Kd → Option Bool
  | .dct => some true
  | .obj _ => none
  | .exc _ => none
  | _ => some false
section
variable {B : Tb} {K : PySem.W.Frag}
theorem ok_int : IsOk B K isInt (.type "int") := by
  intro k b h
  cases k <;> simp only [isInt, Option.some.injEq] at h <;> first
    | (subst h; exact ⟨trivial, kit_ty (by decide +kernel)⟩)
    | cases h
theorem ok_bool : IsOk B K isBool (.type "bool") := by
  intro k b h
  cases k <;> simp only [isBool, Option.some.injEq] at h <;> first
    | (subst h; exact ⟨trivial, kit_ty (by decide +kernel)⟩)
    | cases h
theorem ok_str : IsOk B K isStr (.type "str") := by
  intro k b h
  cases k <;> simp only [isStr, Option.some.injEq] at h <;> first
    | (subst h; exact ⟨trivial, kit_ty (by decide +kernel)⟩)
    | cases h
theorem ok_list : IsOk B K isList (.type "list") := by
  intro k b h
  cases k <;> simp only [isList, Option.some.injEq] at h <;> first
    | (subst h; exact ⟨trivial, kit_ty (by decide +kernel)⟩)
    | cases h
theorem ok_tuple : IsOk B K isTuple (.type "tuple") := by
  intro k b h
  cases k <;> simp only [isTuple, Option.some.injEq] at h <;> first
    | (subst h; exact ⟨trivial, kit_ty (by decide +kernel)⟩)
    | cases h
theorem ok_dict : IsOk B K isDict (.type "dict") := by
  intro k b h
  cases k <;> simp only [isDict, Option.some.injEq] at h <;> first
    | (subst h; exact ⟨trivial, kit_ty (by decide +kernel)⟩)
    | cases h
end
section
variable {B : Tb} {X : Cx} {W : WX} {e : Expr} {te : DE} {p p1 pos : Pos}
/-- isinstance(e, T), T a built-in class -/
theorem we_isT {x : Str} {n : String} {f : Kd → Option Bool} (hf : IsOk B X.K f (.type n)) (hx : Gl X x) (hmx : X.mg x = none) (hv : bootBuiltins x = some (.type n)) (hg : Gl X "isinstance") (hm : X.mg "isinstance" = none) (he : WE B X W e te) (hn : x ≠ "__name__" := by decide) (hdb : (x == ("__debug__" : Str)) = false := by decide)
    (hs : starEach [e, .Name x p1] X.env = (false, eval e X.env) :: starEach [.Name x p1] X.env := by rfl) (hpl : (backTo pos (starEach [.Name x p1] X.env)).any (·.1) = false := by rfl) : WE B X W (.Call (.Name "isinstance" p) [e, .Name x p1] [] pos) (dU (isiD f) te) :=
  we_isi (cv := .ty n) (pe_bltn hx hmx hv (show RelV (.ty n) (.type n) from rfl) hn hdb) (.ty n) hf hg hm he hs rfl hpl
/-- the name in slot i -/
theorem wv (i : Nat) {x : Str} {pos : Pos} (hN : X.N[i]? = some x := by rfl) (hv : Vis X.env.scope x := by first | exact Or.inl rfl | exact Or.inr (Or.inl rfl) | exact Or.inr (Or.inr rfl)) (hd : (x == ("__debug__" : Str)) = false := by decide)
    (hcd : (x == ("__classdict__" : Str)) = false := by decide) : WE B X W (.Name x pos) (dVar i) := we_var hN hv hd hcd
end
end DL

namespace DL
open PySem L2 PyProof.Rows
/-! ### what is walked -/
def Walks (B : Tb) (K : PySem.W.Frag) (c : Cn) (J : It) (ds : List D) : Prop := ∀ c' g' H', Le c c' → Fine B K c' g' H' →
  (∀ (i : Nat) (d : D), ds[i]? = some d → J.go i H' ∧ ∀ x H2, J.yld i H' x H2 → ∃ c2, Grow c' H' c2 H2 ∧ Fine B K c2 g' H2 ∧ Rep B K c2 x d) ∧ J.stop ds.length H'
theorem Walks.mono {B : Tb} {K : PySem.W.Frag} {c c1 : Cn} {J : It} {ds : List D} (h : Walks B K c J ds) (e : Le c c1) : Walks B K c1 J ds := fun c' g' H' e' k => h c' g' H' (e.trans e') k
abbrev DI := DEnv → Gh → (List D → Gh → Prop) → DZ → Prop
def semI (X : Cx) (tg iter : Expr) : TI := fun σ H R => ∀ pins s, Inv X pins σ H s → wpAny (model X.prog X.w) X.A (eval iter X.env) (fun v s1 => wpAny (model X.prog X.w) X.A (pyIter v) (PIE X pins σ tg R) X.xe s1) X.xe s
theorem pi_sem {X : Cx} {tg iter : Expr} : PI X tg iter (semI X tg iter) := ⟨fun pins s _ _ _ I h => h pins s I⟩
theorem semI_of {X : Cx} {tg iter : Expr} {t : TI} (h : PI X tg iter t) {σ : L2.St} {H : Hp} {R : It → Hp → Prop} (q : t σ H R) : semI X tg iter σ H R := fun pins s I => h.run pins s σ H R I q
structure WI (B : Tb) (X : Cx) (W : WX) (tg iter : Expr) (t : DI) : Prop where
  run : ∀ (c : Cn) (g : Gh) (ρ : DEnv) (σ : L2.St) (H : Hp) (Q : List D → Gh → Prop) (Z : DZ), Fine B X.K c g H → RelP B X.K c ρ σ → t ρ g Q Z → ZOk B X.K c H σ W Z →
    semI X tg iter σ H fun J H1 => ∃ c1 g1 ds, Grow c H c1 H1 ∧ Fine B X.K c1 g1 H1 ∧ Walks B X.K c1 J ds ∧ Q ds g1
theorem semI.mono {X : Cx} {tg iter : Expr} {σ : L2.St} {H : Hp} {R R' : It → Hp → Prop} (h : semI X tg iter σ H R) (k : ∀ J H', R J H' → R' J H') : semI X tg iter σ H R' := fun pins s I =>
  thn (h pins s I) fun _ _ h1 => thn h1 fun _ _ ⟨it, fp, tn, J, H', a, b, c, d, e, f⟩ => ⟨it, fp, tn, J, H', a, b, c, d, e, k J H' f⟩
section
variable {B : Tb} {X : Cx} {W : WX} {tg e a b : Expr} {te : DE} {tr : DA} {p pos : Pos}
/-- the items of a list, of a tuple, the signs of a text -/
def itemsD : D → Option (List D)
  | .lst ds => some ds
  | .tup ds => some ds
  | .str x => some (x.cps.toList.map fun c => .str ⟨#[c]⟩)
  | _ => none
def dItems (te : DE) : DI := fun ρ g Q Z => te ρ g (fun x g1 => ∃ ds, itemsD x = some ds ∧ Q ds g1) Z
def dList (te : DE) : DI := fun ρ g Q Z => te ρ g (fun x g1 => ∃ ds, x = .lst ds ∧ Q ds g1) Z
def dTuple (te : DE) : DI := fun ρ g Q Z => te ρ g (fun x g1 => ∃ ds, x = .tup ds ∧ Q ds g1) Z
def dSigns (te : DE) : DI := fun ρ g Q Z => te ρ g (fun x g1 => ∃ z, x = .str z ∧ Q (z.cps.toList.map fun c => .str ⟨#[c]⟩) g1) Z
theorem walks_list {K : PySem.W.Frag} {c : Cn} {a : Addr} {vs : List V} {ds : List D} (h : c.F a = some (.lst vs)) (r : Reps B K c vs ds) : Walks B K c (Itl K a) ds := by
  intro c' g' H' e k
  have hl : SqL K H' a vs := SqL.of (k.sub _ _ (e.F _ _ h))
  refine ⟨fun i d hi => ?_, ⟨vs, hl, Nat.le_of_eq r.length⟩⟩
  obtain ⟨v, h1, h2⟩ := r.getD hi
  refine ⟨⟨vs, v, hl, h1⟩, fun x H2 ⟨e2, hx⟩ => ?_⟩
  subst e2
  have h3 := hx vs hl
  rw [h1] at h3
  cases h3
  exact ⟨c', Grow.refl _ _, k, h2.mono e⟩
theorem walks_tup {K : PySem.W.Frag} {c : Cn} {a : Addr} {vs : List V} {ds : List D} (h : SqT K c.F a vs) (r : Reps B K c vs ds) : Walks B K c (Itt K a) ds := by
  intro c' g' H' e k
  have hl : SqT K H' a vs := Evl.ex_t k.sub (Evl.ex_t e.F h)
  refine ⟨fun i d hi => ?_, ⟨vs, hl, Nat.le_of_eq r.length⟩⟩
  obtain ⟨v, h1, h2⟩ := r.getD hi
  refine ⟨⟨vs, v, hl, h1⟩, fun x H2 ⟨e2, hx⟩ => ?_⟩
  subst e2
  have h3 := hx vs hl
  rw [h1] at h3
  cases h3
  exact ⟨c', Grow.refl _ _, k, h2.mono e⟩
theorem wi_list (he : WE B X W e te) : WI B X W tg e (dList te) := by
  refine ⟨fun c g ρ σ H Q Z k r q z => semI_of (pi_list pe_sem) ?_⟩
  refine (he.run c g ρ σ H _ Z k r q z).mono fun v H1 ⟨c1, g1, d, s1, k1, rr, ds, e1, q1⟩ => ?_
  subst e1
  cases rr with
  | lst h rs => exact ⟨_, rfl, ⟨_, SqL.of (k1.sub _ _ h)⟩, c1, g1, ds, s1, k1, walks_list h rs, q1⟩
theorem wi_tuple (he : WE B X W e te) : WI B X W tg e (dTuple te) := by
  refine ⟨fun c g ρ σ H Q Z k r q z => semI_of (pi_tup pe_sem) ?_⟩
  refine (he.run c g ρ σ H _ Z k r q z).mono fun v H1 ⟨c1, g1, d, s1, k1, rr, ds, e1, q1⟩ => ?_
  subst e1
  cases rr with
  | tup h rs => exact ⟨_, rfl, ⟨_, Evl.ex_t k1.sub h⟩, c1, g1, ds, s1, k1, walks_tup h rs, q1⟩
theorem wi_signs (he : WE B X W e te) : WI B X W tg e (dSigns te) := by
  refine ⟨fun c g ρ σ H Q Z k r q z => semI_of (pi_str pe_sem) ?_⟩
  refine (he.run c g ρ σ H _ Z k r q z).mono fun v H1 ⟨c1, g1, d, s1, k1, rr, x, e1, q1⟩ => ?_
  subst e1
  cases rr
  refine ⟨x, rfl, c1, g1, _, s1, k1, fun c' g' H' e k => ⟨fun i d hi => ?_, ?_⟩, q1⟩
  · rw [List.getElem?_map, Option.map_eq_some_iff] at hi
    obtain ⟨cp, h1, h2⟩ := hi
    subst h2
    have h3 : x.cps[i]? = some cp := by simpa using h1
    refine ⟨(Array.getElem?_eq_some_iff.mp h3).1, fun y H2 ⟨e2, cp', e3, e4⟩ => ?_⟩
    subst e2 e4
    rw [h3] at e3
    cases e3
    exact ⟨c', Grow.refl _ _, k, .str _⟩
  · show x.cps.size ≤ _
    simp
/-- lo, lo + 1, .. (n of them) -/
def rangeL (lo : Int) (n : Nat) : List D := (List.range n).map fun i : Nat => D.int (lo + (i : Int))
def fits62 (i : Int) : Bool := decide (-(2 ^ 62) ≤ i) && decide (i < 2 ^ 62)
def dRange1 (te : DE) : DI := fun ρ g Q Z => te ρ g (fun x g1 => ∃ j, x = .int j ∧ fits62 j = true ∧ Q (rangeL 0 j.toNat) g1) Z
def dRange2 (ta tb : DE) : DI := fun ρ g Q Z => ta ρ g (fun x g1 => tb ρ g1 (fun y g2 => ∃ i j, x = .int i ∧ y = .int j ∧ (fits62 i && fits62 j) = true ∧ Q (rangeL i (j - i).toNat) g2) Z) Z
theorem walks_range {K : PySem.W.Frag} {c : Cn} {lo : Int} {n : Nat} : Walks B K c (Itr lo n) (rangeL lo n) := by
  intro c' g' H' e k
  refine ⟨fun i d hi => ?_, ?_⟩
  · unfold rangeL at hi
    rw [List.getElem?_map, Option.map_eq_some_iff] at hi
    obtain ⟨j, h1, h2⟩ := hi
    obtain ⟨h3, h4⟩ := List.getElem?_eq_some_iff.mp h1
    rw [List.getElem_range] at h4
    subst h4 h2
    rw [List.length_range] at h3
    refine ⟨h3, fun x H2 ⟨e2, hx⟩ => ?_⟩
    subst e2 hx
    exact ⟨c', Grow.refl _ _, k, .int _⟩
  · show n ≤ _
    simp [rangeL]
theorem fits_ok {i : Int} (h : fits62 i = true) : -(2 ^ 62) ≤ i ∧ i < 2 ^ 62 := by
  unfold fits62 at h
  rw [Bool.and_eq_true, decide_eq_true_eq, decide_eq_true_eq] at h
  exact h
theorem wi_range1 (hg : Gl X "range") (hm : X.mg "range" = none) (ha : WE B X W a te) (hs : starEach [a] X.env = [(false, eval a X.env)] := by rfl) : WI B X W tg (.Call (.Name "range" p) [a] [] pos) (dRange1 te) := by
  refine ⟨fun c g ρ σ H Q Z k r q z => semI_of (pi_range1 hg hm (pa_cons pe_sem pa_nil hs) hs) ?_⟩
  refine (ha.run c g ρ σ H _ Z k r q z).mono fun v H1 ⟨c1, g1, d, s1, k1, rr, j, e1, hj, q1⟩ => ?_
  subst e1
  cases rr
  exact ⟨j, rfl, (fits_ok hj).1, (fits_ok hj).2, c1, g1, _, s1, k1, walks_range, q1⟩
theorem wi_range2 {ta tb : DE} (hg : Gl X "range") (hm : X.mg "range" = none) (ha : WE B X W a ta) (hb : WE B X W b tb) (hs : starEach [a, b] X.env = [(false, eval a X.env), (false, eval b X.env)] := by rfl) (hs2 : starEach [b] X.env = [(false, eval b X.env)] := by rfl) :
    WI B X W tg (.Call (.Name "range" p) [a, b] [] pos) (dRange2 ta tb) := by
  refine ⟨fun c g ρ σ H Q Z k r q z => semI_of (pi_range2 hg hm (pa_cons pe_sem (pa_cons pe_sem pa_nil hs2) (by rw [hs, hs2])) hs hs2) ?_⟩
  refine two ha hb k r q z fun x y v u c2 g2 H2 s2 k2 r1 r2 ⟨i, j, e1, e2, hij, q2⟩ => ?_
  subst e1 e2
  cases r1; cases r2
  obtain ⟨hi, hj⟩ := Bool.and_eq_true_iff.mp hij
  exact ⟨i, j, rfl, ⟨(fits_ok hi).1, (fits_ok hi).2, (fits_ok hj).1, (fits_ok hj).2⟩, c2, g2, _, s2, k2, walks_range, q2⟩
/-- pairs of a number and an item -/
def numbered (ds : List D) : List D := (List.range ds.length).zipWith (fun (i : Nat) d => D.tup [.int (i : Int), d]) ds
def dEnum (te : DE) : DI := fun ρ g Q Z => te ρ g (fun x g1 => ∃ ds, x = .lst ds ∧ Q (numbered ds) g1) Z
theorem numbered_get {ds : List D} {i : Nat} {d : D} (h : (numbered ds)[i]? = some d) : ∃ x, ds[i]? = some x ∧ d = .tup [.int (i : Int), x] := by
  unfold numbered at h
  rw [List.getElem?_zipWith] at h
  cases e : ds[i]? with
  | none => rw [e] at h; cases e2 : (List.range ds.length)[i]? <;> rw [e2] at h <;> cases h
  | some x =>
    rw [e] at h
    have hl : i < ds.length := (List.getElem?_eq_some_iff.mp e).1
    rw [List.getElem?_range hl] at h
    cases h
    exact ⟨x, rfl, rfl⟩
theorem numbered_length (ds : List D) : (numbered ds).length = ds.length := by simp [numbered]
theorem wi_enum {elts : List Expr} {kk : Nat} {tpos : Pos} (hg : Gl X "enumerate") (hm : X.mg "enumerate" = none) (he : WE B X W e te) (hs : starEach [e] X.env = [(false, eval e X.env)] := by rfl) : WI B X W (.Tuple elts kk tpos) (.Call (.Name "enumerate" p) [e] [] pos) (dEnum te) := by
  refine ⟨fun c g ρ σ H Q Z k r q z => semI_of (pi_enum hg hm (pa_cons pe_sem pa_nil hs) hs) ?_⟩
  refine (he.run c g ρ σ H _ Z k r q z).mono fun v H1 ⟨c1, g1, d, s1, k1, rr, ds, e1, q1⟩ => ?_
  subst e1
  cases rr with
  | @lst a vs _ h rs =>
    refine ⟨_, _, rfl, SqL.of (k1.sub _ _ h), c1, g1, _, s1, k1, fun c' g' H' e k => ?_, q1⟩
    have hl : SqL X.K H' a vs := SqL.of (k.sub _ _ (e.F _ _ h))
    refine ⟨fun i d hi => ?_, ⟨vs, hl, by rw [numbered_length]; exact Nat.le_of_eq rs.length⟩⟩
    obtain ⟨x, h1, h2⟩ := numbered_get hi
    subst h2
    obtain ⟨v, h3, h4⟩ := rs.getD h1
    refine ⟨⟨vs, v, hl, h3⟩, fun y H2 ⟨T, x', e1, hT, e2, e3⟩ => ?_⟩
    have h5 := e3 vs hl
    rw [h3] at h5
    cases h5
    subst e1 e2
    obtain ⟨s4, k4⟩ := k.lay (o := .tup [.int (i : Nat), v]) hT
    exact ⟨_, s4, k4, .tup (SqT.of upd_same) (.cons (.int _) (.cons ((h4.mono e).mono s4.le) .nil))⟩
/-- two lists abreast -/
def zipped (xs ys : List D) : List D := xs.zipWith (fun x y => D.tup [x, y]) ys
def dZip (ta tb : DE) : DI := fun ρ g Q Z => ta ρ g (fun x g1 => tb ρ g1 (fun y g2 => ∃ xs ys, x = .lst xs ∧ y = .lst ys ∧ Q (zipped xs ys) g2) Z) Z
theorem wi_zip {elts : List Expr} {kk : Nat} {tpos : Pos} {ta tb : DE} (hg : Gl X "zip") (hm : X.mg "zip" = none) (ha : WE B X W a ta) (hb : WE B X W b tb) (hs : starEach [a, b] X.env = (false, eval a X.env) :: starEach [b] X.env := by rfl) (hs2 : starEach [b] X.env = (false, eval b X.env) :: starEach [] X.env := by rfl)
    (hpl : (backTo pos (starEach [b] X.env)).any (·.1) = false := by rfl) : WI B X W (.Tuple elts kk tpos) (.Call (.Name "zip" p) [a, b] [] pos) (dZip ta tb) := by
  refine ⟨fun c g ρ σ H Q Z k r q z => semI_of (pi_zip hg hm (pa_cons pe_sem (pa_cons pe_sem pa_nil hs2) hs) hs hpl) ?_⟩
  refine two ha hb k r q z fun x y v u c2 g2 H2 s2 k2 r1 r2 ⟨xs, ys, e1, e2, q2⟩ => ?_
  subst e1 e2
  cases r1 with
  | @lst a1 vs1 _ h1 rs1 =>
    cases r2 with
    | @lst a2 vs2 _ h2 rs2 =>
      refine ⟨_, _, _, _, rfl, SqL.of (k2.sub _ _ h1), SqL.of (k2.sub _ _ h2), c2, g2, _, s2, k2, fun c' g' H' e k => ?_, q2⟩
      have hl1 : SqL X.K H' a1 vs1 := SqL.of (k.sub _ _ (e.F _ _ h1))
      have hl2 : SqL X.K H' a2 vs2 := SqL.of (k.sub _ _ (e.F _ _ h2))
      refine ⟨fun i d hi => ?_, ⟨vs1, vs2, hl1, hl2, ?_⟩⟩
      · unfold zipped at hi
        rw [List.getElem?_zipWith] at hi
        cases ex : xs[i]? with
        | none => rw [ex] at hi; cases ey : ys[i]? <;> rw [ey] at hi <;> cases hi
        | some x =>
          cases ey : ys[i]? with
          | none => rw [ex, ey] at hi; cases hi
          | some y =>
            rw [ex, ey] at hi
            cases hi
            obtain ⟨v1, f1, f2⟩ := rs1.getD ex
            obtain ⟨v2, f3, f4⟩ := rs2.getD ey
            refine ⟨⟨vs1, vs2, v1, v2, hl1, hl2, f1, f3⟩, fun w H3 ⟨T, x', y', e1, hT, e2, e3, e4⟩ => ?_⟩
            have h5 := e3 vs1 hl1
            rw [f1] at h5
            cases h5
            have h6 := e4 vs2 hl2
            rw [f3] at h6
            cases h6
            subst e1 e2
            obtain ⟨s4, k4⟩ := k.lay (o := .tup [v1, v2]) hT
            exact ⟨_, s4, k4, .tup (SqT.of upd_same) (.cons ((f2.mono e).mono s4.le) (.cons ((f4.mono e).mono s4.le) .nil))⟩
      · have l1 := rs1.length
        have l2 := rs2.length
        unfold zipped
        rw [List.length_zipWith]
        omega
end
/-! ### targets -/
/-- what a target makes of the slots -/
abbrev DG := D → SEnv → Option SEnv
def gN (i : Nat) : DG := fun d ρ => some (ρ.set i (.fz d))
def gsN : List Nat → List D → SEnv → Option SEnv
  | [], [], ρ => some ρ
  | i :: is, d :: ds, ρ => gsN is ds (ρ.set i (.fz d))
  | _, _, _ => none
def gT (is : List Nat) : DG := fun d ρ => match d with
  | .tup ds => gsN is ds ρ
  | _ => none
structure WG (B : Tb) (X : Cx) (H₀ : En) (tg : Expr) (t : DG) : Prop where
  ex : ∃ g : TG, PG X tg g ∧ ∀ c₀ c gh ρ ρ' σ H v d (Q : L2.St → Hp → Prop), RelS B X.K c₀ H₀ c gh ρ σ H → Rep B X.K c v d → t d ρ = some ρ' → (∀ σ', RelS B X.K c₀ H₀ c gh ρ' σ' H → Q σ' H) → g v σ H Q
structure WGs (B : Tb) (X : Cx) (H₀ : En) (tgs : List Expr) (is : List Nat) : Prop where
  ex : ∃ g : TGs, PGs X tgs g ∧ ∀ c₀ c gh ρ ρ' σ H vs ds (Q : L2.St → Hp → Prop), RelS B X.K c₀ H₀ c gh ρ σ H → Reps B X.K c vs ds → gsN is ds ρ = some ρ' → (∀ σ', RelS B X.K c₀ H₀ c gh ρ' σ' H → Q σ' H) → g vs σ H Q
section
variable {B : Tb} {X : Cx} {H₀ : En} {pos : Pos}
theorem wg_name {i : Nat} {x : Str} (hN : X.N.Nodup) (hi : X.N[i]? = some x) (hx : Loc X.env.scope x) (hf : X.fn x = true ∨ X.env.scope.names.lookup x = some .local := by first | exact .inl rfl | exact .inr rfl) : WG B X H₀ (.Name x pos) (gN i) := by
  refine ⟨gName i, pg_name hN hi hx hf, fun c₀ c gh ρ ρ' σ H v d Q r rv e q => ?_⟩
  cases e
  exact q _ (r.set rv)
theorem wgs_nil : WGs B X H₀ [] [] := by
  refine ⟨gNil, pgs_nil, fun c₀ c gh ρ ρ' σ H vs ds Q r rs e q => ?_⟩
  cases rs with
  | nil => cases e; exact ⟨rfl, q _ r⟩
  | cons _ _ => cases e
theorem wgs_cons {i : Nat} {x : Str} {es : List Expr} {is : List Nat} (hN : X.N.Nodup) (hi : X.N[i]? = some x) (hx : Loc X.env.scope x) (h2 : WGs B X H₀ es is) (hf : X.fn x = true ∨ X.env.scope.names.lookup x = some .local := by first | exact .inl rfl | exact .inr rfl)
    (hs : (assignEach (.Name x pos :: es) X.env).map (·.2) = assign (.Name x pos) X.env :: (assignEach es X.env).map (·.2) := by rfl) : WGs B X H₀ (.Name x pos :: es) (i :: is) := by
  obtain ⟨g2, p2, h2⟩ := h2.ex
  refine ⟨gCons (gName i) g2, pgs_cons (pg_name hN hi hx hf) p2 hs, fun c₀ c gh ρ ρ' σ H vs ds Q r rs e q => ?_⟩
  cases rs with
  | nil => cases e
  | cons rv rs => exact ⟨_, _, rfl, h2 c₀ c gh _ ρ' _ H _ _ Q (r.set rv) rs e q⟩
theorem wg_tup {es : List Expr} {is : List Nat} {k n : Nat} (hc : X.calm = true) (h : WGs B X H₀ es is) (hn : (assignEach es X.env).length = n := by rfl) (hl : is.length = n := by rfl) (hst : (assignEach es X.env).findIdx? (·.1) = none := by rfl) : WG B X H₀ (.Tuple es k pos) (gT is) := by
  obtain ⟨g2, p2, h2⟩ := h.ex
  refine ⟨gTup X.K n g2, pg_tup hc p2 hn hst, fun c₀ c gh ρ ρ' σ H v d Q r rv e q => ?_⟩
  unfold gT at e
  split at e
  · rename_i ds
    cases rv with
    | tup ht rs =>
      have lens : ∀ (is : List Nat) (ds : List D) (ρ ρ' : SEnv), gsN is ds ρ = some ρ' → is.length = ds.length := by
        intro is
        induction is with
        | nil => intro ds ρ ρ' e; cases ds with | nil => rfl | cons _ _ => cases e
        | cons i is ih => intro ds ρ ρ' e; cases ds with | nil => cases e | cons d ds => exact congrArg (· + 1) (ih ds _ _ e)
      exact ⟨_, _, rfl, Evl.ex_t r.fine.sub ht, by rw [rs.length, ← lens _ _ _ _ e]; exact hl, h2 c₀ c gh ρ ρ' σ H _ _ Q r rs e q⟩
  · cases e
end
/-! ### for -/
def forD (tg : DG) (tb : DS) (En : DEnds) : List D → SEnv → Gh → Prop
  | [], ρ, g => En.nx ρ g
  | d :: ds, ρ, g => ∃ ρ', tg d ρ = some ρ' ∧ tb { En with nx := forD tg tb En ds, ct := forD tg tb En ds, bk := En.nx } ρ' g
def dFor (ti : DI) (tg : DG) (tb : DS) : DS := fun D ρ g => ti (mask ρ) g (fun ds g' => forD tg tb D ds ρ g') fun ex g' => D.xz ex ρ g'
section
variable {B : Tb} {X : Cx} {W : WX} {H₀ : En} {pos : Pos}
/-- the entry may be told anew -/
theorem Grow.over {c₀ c1 c : Cn} {H0 H1 H : Hp} (r1 : Grow c₀ H0 c1 H1) (r : Grow c1 H0 c H) : Grow c₀ H0 c H := by
  refine ⟨r1.le.trans r.le, fun a o h hp hm => r.kp a o h (fun z => ?_) (fun z => ?_), fun a h => ?_, fun a o h => ?_⟩
  · rcases r1.fresh a (.inl z) with (q | q) | q
    · exact hp q
    · exact hm q
    · rw [h] at q; cases q
  · rcases r1.fresh a (.inr z) with (q | q) | q
    · exact hp q
    · exact hm q
    · rw [h] at q; cases q
  · rcases r.fresh a h with q | q
    · exact r1.fresh a q
    · exact .inr q
  · rcases r.froz a o h with (q | q) | q
    · exact r1.froz a o q
    · exact .inl (.inr q)
    · rcases r1.fresh a q with q | q
      · exact .inr q
      · exact .inl (.inr q)
theorem RelS.rebase {K : PySem.W.Frag} {c₀ c1 c : Cn} {H1 H : Hp} {g g1 : Gh} {ρ ρ1 : SEnv} {σ σ1 : L2.St} (r1 : RelS B K c₀ H₀ c1 g1 ρ1 σ1 H1) (r : RelS B K c1 H₀ c g ρ σ H) : RelS B K c₀ H₀ c g ρ σ H :=
  ⟨r1.gr.over r.gr, r.fine, r.len, r.fz, r.ow, r.inj, r.ob, r.ob1, r.th⟩
theorem RelS.here {K : PySem.W.Frag} {c₀ c : Cn} {H : Hp} {g : Gh} {ρ : SEnv} {σ : L2.St} (r : RelS B K c₀ H₀ c g ρ σ H) : RelS B K c H₀ c g ρ σ H := by
  refine ⟨⟨Le.refl c, fun a o h hp hm => r.gr.kp a o h (fun z => hp (r.gr.le.pen _ z)) (fun z => ?_), fun a h => .inl h, fun a o h => .inl (.inl h)⟩, r.fine, r.len, r.fz, r.ow, r.inj, r.ob, r.ob1, r.th⟩
  obtain ⟨i, hi⟩ := List.getElem?_of_mem z
  exact hm (List.mem_of_getElem? (r.gr.le.ma i a hi))
theorem ws_for {tg iter : Expr} {body : List Stmt} {ti : DI} {dg : DG} {tb : DS} (hp : PassesOwn (model X.prog X.w) X.A X.env X.xe) (hc : X.calm = true) (hi : WI B X W tg iter ti) (hg : WG B X H₀ tg dg) (hb : WB B X W H₀ body tb)
    (hs : ∀ x, foldedSetIterable iter X.env x = pure x := by intro _; rfl) : WS B X W H₀ (.For tg iter body [] pos) (dFor ti dg tb) := by
  obtain ⟨gg, pg, hgg⟩ := hg.ex
  refine ⟨fun c₀ c g ρ σ H D r q z => semS_of (ps_for hp hc pi_sem pg pss_sem hs) ?_⟩
  refine (hi.run c g _ σ H _ _ r.fine r.mask q (r.zok z)).mono fun J H1 ⟨c1, g1, ds, s1, k1, wk, q1⟩ => ?_
  have r1 := r.next s1 k1
  refine ⟨fun i m σ' H' => m = ds.length - i ∧ i ≤ ds.length ∧ ∃ c' g' ρ', RelS B X.K c1 H₀ c' g' ρ' σ' H' ∧ forD dg tb D (ds.drop i) ρ' g', ⟨ds.length, by simp, Nat.zero_le _, c1, g1, ρ, r1.here, by simpa using q1⟩, ?_⟩
  rintro i m σ' H' ⟨rfl, hi, c', g', ρ', r', q'⟩
  obtain ⟨go, stop⟩ := wk c' g' H' r'.gr.le r'.fine
  by_cases hlt : i < ds.length
  · have hd : ds[i]? = some ds[i] := List.getElem?_eq_getElem hlt
    obtain ⟨g1', g2'⟩ := go i _ hd
    have hdr : ds.drop i = ds[i] :: ds.drop (i + 1) := List.drop_eq_getElem_cons hlt
    rw [hdr] at q'
    obtain ⟨ρ2, e2, q2⟩ := q'
    refine .inr ⟨g1', fun σ3 H3 => ∃ c3 g3 ρ3, RelS B X.K c1 H₀ c3 g3 ρ3 σ3 H3 ∧ forD dg tb D (ds.drop (i + 1)) ρ3 g3, fun σ3 H3 n3 => ⟨ds.length - (i + 1), by omega, rfl, hlt, n3⟩, fun x H2 y => ?_⟩
    obtain ⟨c2, s2, k2, rx⟩ := g2' x H2 y
    refine hgg c1 c2 g' ρ' ρ2 σ' H2 x _ _ (r'.next s2 k2) rx e2 fun σ3 r3 => ?_
    intro pins s I
    refine thn (hb.run c1 c2 g' ρ2 σ3 H2 _ r3 q2 (fun c' g' ρ' σ' H' ex cls d a b c => z c' g' ρ' σ' H' ex cls d (r1.rebase a) b c) pins s I) fun f s' hq => ?_
    exact SP.imp hq (fun _ _ h => h) (fun v H' ⟨c', g', d, s2, k2, rr, q'⟩ => ⟨c', g', d, r1.gr.over s2, k2, rr, q'⟩) (fun σ4 H4 ⟨c4, g4, ρ4, r4, q4⟩ => ⟨c4, g4, ρ4, r1.rebase r4, q4⟩) (fun _ _ h => h)
  · have e : i = ds.length := by omega
    subst e
    rw [List.drop_length] at q'
    exact .inl ⟨stop, c', g', ρ', r1.rebase r', q'⟩
/-- while: so often at most -/
def whileD (c : DT) (tb : DS) (D : DEnds) : Nat → SEnv → Gh → Prop
  | 0, _, _ => False
  | n + 1, ρ, g => c (mask ρ) g (fun b g' => if b = true then tb { D with nx := whileD c tb D n, ct := whileD c tb D n, bk := D.nx } ρ g' else D.nx ρ g') fun ex g' => D.xz ex ρ g'
def dWhile (c : DT) (tb : DS) : DS := fun D ρ g => ∃ n, whileD c tb D n ρ g
theorem ws_while {c : Expr} {body : List Stmt} {tc : DT} {tb : DS} (hp : PassesOwn (model X.prog X.w) X.A X.env X.xe) (hc : WT B X W c tc) (hb : WB B X W H₀ body tb) : WS B X W H₀ (.While c body [] pos) (dWhile tc tb) := by
  refine ⟨fun c₀ c g ρ σ H D r ⟨n, q⟩ z => semS_of (ps_while hp pt_sem pss_sem) ?_⟩
  refine ⟨fun m σ' H' => ∃ c' g' ρ', RelS B X.K c₀ H₀ c' g' ρ' σ' H' ∧ whileD tc tb D m ρ' g', ⟨n, c, g, ρ, r, q⟩, ?_⟩
  rintro m σ' H' ⟨c', g', ρ', r', q'⟩
  cases m with
  | zero => exact q'.elim
  | succ m =>
    refine (hc.run c' g' _ σ' H' _ _ r'.fine r'.mask q' (r'.zok z)).mono fun b H2 ⟨c2, g2, s2, k2, q2⟩ => ?_
    cases b with
    | true =>
      refine ⟨fun σ3 H3 => ∃ c3 g3 ρ3, RelS B X.K c₀ H₀ c3 g3 ρ3 σ3 H3 ∧ whileD tc tb D m ρ3 g3, fun σ3 H3 n3 => ⟨m, Nat.lt_succ_self m, n3⟩, ?_⟩
      intro pins s I
      refine thn (hb.run c₀ c2 g2 ρ' σ' H2 _ (r'.next s2 k2) q2 (fun c' g' ρ' σ' H' ex cls d a b c => z c' g' ρ' σ' H' ex cls d a b c) pins s I) fun f s' hq => ?_
      exact SP.imp hq (fun _ _ h => h) (fun _ _ h => h) (fun _ _ h => h) (fun _ _ h => h)
    | false => exact ⟨c2, g2, ρ', r'.next s2 k2, q2⟩
end
end DL

namespace DL
open PySem L2 PyProof.Rows
/-! ### an object that is ours alone may change -/
theorem pl_lst {xs : List V} : Pl (.lst xs) := ⟨fun _ z => (by cases z), fun _ _ z => (by unfold LamX.CodeO at z; cases z)⟩
theorem pl_dK {xs : List (Key × V)} : Pl (.dK xs) := ⟨fun _ z => (by cases z), fun _ _ z => (by unfold LamX.CodeO at z; cases z)⟩
theorem pl_ins {a b : Addr} {xs : List (Str × V)} : Pl (.ins a b xs) := ⟨fun _ z => (by cases z), fun _ _ z => (by unfold LamX.CodeO at z; cases z)⟩
theorem pl_own {a : Addr} : Pl (.own a) := ⟨fun _ z => (by cases z), fun _ _ z => (by unfold LamX.CodeO at z; cases z)⟩
theorem Fine.own {B : Tb} {K : PySem.W.Frag} {c : Cn} {g : Gh} {H : Hp} {p : Addr} {o : HO} (k : Fine B K c g H) (hF : c.F p = none) (hp : c.pen ≠ some p) (hm : p ∉ c.ma)
    (ht : H p = none ∨ ∃ u, H p = some u ∧ Pl u := by first | exact .inl ‹_› | exact .inr ⟨_, ‹_›, by first | exact pl_lst | exact pl_dK | exact pl_ins | exact pl_own⟩) (no : ∀ ps, o ≠ HO.tbl ps := by nofun) : Fine B K c g (upd H p o) := by
  refine ⟨fun a u h => ?_, k.pd, fun q hq => ?_, k.cells, k.mlen, k.mnd, fun i m a h1 h2 => ?_, tabs_put k.tabs ht no, k.nt⟩
  · rw [upd_ne (ne_of_none h hF)]; exact k.sub a u h
  · obtain ⟨h1, h2, u, h3, h4⟩ := k.pen q hq
    refine ⟨h1, h2, u, ?_, h4⟩
    rw [upd_ne (fun z => hp (by rw [← z]; exact hq))]; exact h3
  · obtain ⟨h3, dx, fs, h4, h5⟩ := k.mem i m a h1 h2
    refine ⟨h3, dx, fs, ?_, h5⟩
    rw [upd_ne (fun z => hm (by rw [← z]; exact List.mem_of_getElem? h2))]; exact h4
theorem Grow.own {c c' : Cn} {H H' : Hp} {p : Addr} {o : HO} (s : Grow c H c' H') (hp : H p = none) : Grow c H c' (upd H' p o) :=
  ⟨s.le, fun a u h h1 h2 => by rw [upd_ne (ne_of_none h hp)]; exact s.kp a u h h1 h2, s.fresh, s.froz⟩
theorem Grow.ice {c c' : Cn} {H H' : Hp} {p : Addr} {o : HO} (s : Grow c H c' H') (hp : H p = none) (hF : c'.F p = none) : Grow c H { c' with F := upd c'.F p o } H' := by
  refine ⟨⟨s.le.F.trans (Evl.Ex.new hF), s.le.pen, s.le.ma, s.le.cel⟩, s.kp, s.fresh, fun a u h => ?_⟩
  have h : upd c'.F p o a = some u := h
  by_cases e : a = p
  · subst e; exact .inl (.inr hp)
  · rw [upd_ne e] at h; exact s.froz a u h
theorem Fine.ice {B : Tb} {K : PySem.W.Frag} {c : Cn} {g : Gh} {H : Hp} {p : Addr} {o : HO} (k : Fine B K c g H) (hF : c.F p = none) (ho : H p = some o) (hp : c.pen ≠ some p) (hm : p ∉ c.ma) (no : ∀ ps, o ≠ HO.tbl ps := by nofun) : Fine B K { c with F := upd c.F p o } g H := by
  have fr : Ex c.F (upd c.F p o) := Evl.Ex.new hF
  refine ⟨fun a u h => ?_, k.pd, fun q hq => ?_, fun q hq => (let ⟨ns, h1, h2⟩ := k.cells q hq; ⟨ns, fr _ _ h1, h2⟩), k.mlen, k.mnd, fun i m a h1 h2 => ?_, k.tabs, nt_put k.nt no⟩
  · have h : upd c.F p o a = some u := h
    by_cases e : a = p
    · subst e; rw [upd_same] at h; rw [← h]; exact ho
    · rw [upd_ne e] at h; exact k.sub a u h
  · obtain ⟨h1, h2, u, h3, h4⟩ := k.pen q hq
    refine ⟨?_, h2, u, h3, h4⟩
    show upd c.F p o q = none
    rw [upd_ne (fun z => hp (by rw [← z]; exact hq))]; exact h1
  · obtain ⟨h3, dx, fs, h4, h5⟩ := k.mem i m a h1 h2
    refine ⟨?_, dx, fs, h4, RepF.mono (Le.ice hF) h5⟩
    show upd c.F p o a = none
    rw [upd_ne (fun z => hm (by rw [← z]; exact List.mem_of_getElem? h2))]; exact h3
/-! ### the block of a comprehension -/
theorem wipe_get (σ : L2.St) (j : Nat) : ∀ vs : List Nat, (wipe σ vs)[j]? = if j ∈ vs then (σ[j]?).map (fun _ => none) else σ[j]?
  | [] => by simp [wipe]
  | v :: vs => by
    unfold wipe
    have ih := wipe_get σ j vs
    by_cases e : v = j
    · subst e
      rw [if_pos List.mem_cons_self]
      by_cases hl : v < σ.length
      · rw [List.getElem?_set_self (by rw [wipe_length]; exact hl), List.getElem?_eq_getElem hl]; rfl
      · rw [List.getElem?_eq_none (by rw [List.length_set, wipe_length]; omega), List.getElem?_eq_none (by omega)]; rfl
    · rw [List.getElem?_set_ne e, ih]
      by_cases h : j ∈ vs
      · rw [if_pos h, if_pos (List.mem_cons_of_mem _ h)]
      · rw [if_neg h, if_neg]
        intro z
        rcases List.mem_cons.mp z with z | z
        · exact e z.symm
        · exact h z
theorem wipe_set {σ : L2.St} {i : Nat} {x : Option V} {vs : List Nat} (h : i ∈ vs) : wipe (σ.set i x) vs = wipe σ vs := by
  apply List.ext_getElem?
  intro j
  rw [wipe_get, wipe_get]
  by_cases e : i = j
  · subst e
    rw [if_pos h, if_pos h]
    by_cases hl : i < σ.length
    · rw [List.getElem?_set_self hl, List.getElem?_eq_getElem hl]; rfl
    · rw [List.getElem?_eq_none (by rw [List.length_set]; omega), List.getElem?_eq_none (by omega)]
  · rw [List.getElem?_set_ne e]
def wipeD (ρ : DEnv) : List Nat → DEnv
  | [] => ρ
  | v :: vs => (wipeD ρ vs).set v none
theorem wipeD_get {ρ : DEnv} {j : Nat} {d : D} : ∀ {vs : List Nat}, (wipeD ρ vs)[j]? = some (some d) → ρ[j]? = some (some d) ∧ j ∉ vs
  | [], h => ⟨h, by simp⟩
  | v :: vs, h => by
    unfold wipeD at h
    by_cases e : v = j
    · subst e
      by_cases hl : v < (wipeD ρ vs).length
      · rw [List.getElem?_set_self hl] at h; cases h
      · rw [List.getElem?_eq_none (by rw [List.length_set]; omega)] at h; cases h
    · rw [List.getElem?_set_ne e] at h
      obtain ⟨h1, h2⟩ := wipeD_get h
      exact ⟨h1, fun z => (List.mem_cons.mp z).elim (fun q => e q.symm) h2⟩
theorem wipeD_length (ρ : DEnv) : ∀ vs : List Nat, (wipeD ρ vs).length = ρ.length
  | [] => rfl
  | v :: vs => by unfold wipeD; rw [List.length_set, wipeD_length ρ vs]
theorem RelP.wipe {B : Tb} {K : PySem.W.Frag} {c : Cn} {ρ : DEnv} {σ : L2.St} (r : RelP B K c ρ σ) (vs : List Nat) : RelP B K c (wipeD ρ vs) (wipe σ vs) := ⟨by rw [wipeD_length, wipe_length]; exact r.len, fun i d h => by
  obtain ⟨h1, h2⟩ := wipeD_get h
  obtain ⟨v, h3, h4⟩ := r.sl i d h1
  exact ⟨v, by rw [wipe_get, if_neg h2]; exact h3, h4⟩⟩
theorem RelP.set {B : Tb} {K : PySem.W.Frag} {c : Cn} {ρ : DEnv} {σ : L2.St} (r : RelP B K c ρ σ) {i : Nat} {v : V} {d : D} (rv : Rep B K c v d) : RelP B K c (ρ.set i (some d)) (σ.set i (some v)) := ⟨by rw [List.length_set, List.length_set]; exact r.len, fun j d' h => by
  have hl := r.len
  by_cases e : i = j
  · subst e
    by_cases hi : i < ρ.length
    · rw [List.getElem?_set_self hi] at h
      cases h
      exact ⟨v, List.getElem?_set_self (by omega), rv⟩
    · rw [List.getElem?_eq_none (by rw [List.length_set]; omega)] at h; cases h
  · rw [List.getElem?_set_ne e] at h
    rw [List.getElem?_set_ne e]; exact r.sl j d' h⟩
/-- targets within a block -/
abbrev DGp := D → DEnv → Option DEnv
def pN (i : Nat) : DGp := fun d ρ => some (ρ.set i (some d))
def psN : List Nat → List D → DEnv → Option DEnv
  | [], [], ρ => some ρ
  | i :: is, d :: ds, ρ => psN is ds (ρ.set i (some d))
  | _, _, _ => none
def pT (is : List Nat) : DGp := fun d ρ => match d with
  | .tup ds => psN is ds ρ
  | _ => none
abbrev blkOf (X : Cx) (scope : Scope) (s : Shared) (H : Hp) (C : Addr) (cl : List (Str × Addr)) (fp : List Addr) : Cx := X.blk s H scope (compEnvC scope cl C X.env) fp
structure WP (B : Tb) (X : Cx) (scope : Scope) (vs : List Nat) (tg : Expr) (t : DGp) : Prop where
  ex : ∃ g : TG, (∀ s H C cl fp, PG (blkOf X scope s H C cl fp) tg g) ∧ ∀ c gh ρ ρ' σ H v d (Q : L2.St → Hp → Prop), Fine B X.K c gh H → RelP B X.K c ρ σ → Rep B X.K c v d → t d ρ = some ρ' →
    (∀ σ', RelP B X.K c ρ' σ' → wipe σ' vs = wipe σ vs → Q σ' H) → g v σ H Q
structure WPs (B : Tb) (X : Cx) (scope : Scope) (vs : List Nat) (tgs : List Expr) (is : List Nat) : Prop where
  ex : ∃ g : TGs, (∀ s H C cl fp, PGs (blkOf X scope s H C cl fp) tgs g) ∧ ∀ c gh ρ ρ' σ H xs ds (Q : L2.St → Hp → Prop), Fine B X.K c gh H → RelP B X.K c ρ σ → Reps B X.K c xs ds → psN is ds ρ = some ρ' →
    (∀ σ', RelP B X.K c ρ' σ' → wipe σ' vs = wipe σ vs → Q σ' H) → g xs σ H Q
section
variable {B : Tb} {X : Cx} {scope : Scope} {vs : List Nat} {pos : Pos}
theorem wp_name {i : Nat} {x : Str} (hp : ∀ s H C cl fp, PG (blkOf X scope s H C cl fp) (.Name x pos) (gName i)) (hm : i ∈ vs) : WP B X scope vs (.Name x pos) (pN i) := by
  refine ⟨gName i, hp, fun c gh ρ ρ' σ H v d Q k r rv e q => ?_⟩
  cases e
  exact q _ (r.set rv) (wipe_set hm)
theorem wps_nil : WPs B X scope vs [] [] := by
  refine ⟨gNil, fun _ _ _ _ _ => pgs_nil, fun c gh ρ ρ' σ H xs ds Q k r rs e q => ?_⟩
  cases rs with
  | nil => cases e; exact ⟨rfl, q _ r rfl⟩
  | cons _ _ => cases e
theorem wps_cons {i : Nat} {x : Str} {es : List Expr} {is : List Nat} (hp : ∀ s H C cl fp, PG (blkOf X scope s H C cl fp) (.Name x pos) (gName i)) (hm : i ∈ vs) (h2 : WPs B X scope vs es is)
    (hs : ∀ s H C cl fp, (assignEach (.Name x pos :: es) (blkOf X scope s H C cl fp).env).map (·.2) = assign (.Name x pos) (blkOf X scope s H C cl fp).env :: (assignEach es (blkOf X scope s H C cl fp).env).map (·.2) := by intros; rfl) : WPs B X scope vs (.Name x pos :: es) (i :: is) := by
  obtain ⟨g2, p2, h2⟩ := h2.ex
  refine ⟨gCons (gName i) g2, fun s H C cl fp => pgs_cons (hp s H C cl fp) (p2 s H C cl fp) (hs s H C cl fp), fun c gh ρ ρ' σ H xs ds Q k r rs e q => ?_⟩
  cases rs with
  | nil => cases e
  | cons rv rs => exact ⟨_, _, rfl, h2 c gh _ ρ' _ H _ _ Q k (r.set rv) rs e fun σ' r' hw => q σ' r' (by rw [hw, wipe_set hm])⟩
theorem wp_tup {es : List Expr} {is : List Nat} {k n : Nat} (hc : X.calm = true) (h : WPs B X scope vs es is) (hn : ∀ s H C cl fp, (assignEach es (blkOf X scope s H C cl fp).env).length = n := by intros; rfl) (hl : is.length = n := by rfl)
    (hst : ∀ s H C cl fp, (assignEach es (blkOf X scope s H C cl fp).env).findIdx? (·.1) = none := by intros; rfl) : WP B X scope vs (.Tuple es k pos) (pT is) := by
  obtain ⟨g2, p2, h2⟩ := h.ex
  refine ⟨gTup X.K n g2, fun s H C cl fp => pg_tup (X := blkOf X scope s H C cl fp) hc (p2 s H C cl fp) (hn s H C cl fp) (hst s H C cl fp), fun c gh ρ ρ' σ H v d Q kk r rv e q => ?_⟩
  unfold pT at e
  split at e
  · rename_i ds
    cases rv with
    | tup ht rs =>
      have lens : ∀ (is : List Nat) (ds : List D) (ρ ρ' : DEnv), psN is ds ρ = some ρ' → is.length = ds.length := by
        intro is
        induction is with
        | nil => intro ds ρ ρ' e; cases ds with | nil => rfl | cons _ _ => cases e
        | cons i is ih => intro ds ρ ρ' e; cases ds with | nil => cases e | cons d ds => exact congrArg (· + 1) (ih ds _ _ e)
      exact ⟨_, _, rfl, Evl.ex_t kk.sub ht, by rw [rs.length, ← lens _ _ _ _ e]; exact hl, h2 c gh ρ ρ' σ H _ _ Q kk r rs e q⟩
  · cases e
end
/-! ### list comprehensions -/
abbrev ZF : DZ := fun _ _ => False
def lcD (tg : DGp) (tt : DT) (te : DE) (ρ : DEnv) (Q : List D → Gh → Prop) : List D → List D → Gh → Prop
  | [], acc, g => Q acc g
  | d :: ds, acc, g => ∃ ρ', tg d ρ = some ρ' ∧ tt ρ' g (fun b g1 => if b = true then te ρ' g1 (fun y g2 => acc.length < sizeLine ∧ lcD tg tt te ρ Q ds (acc ++ [y]) g2) ZF else lcD tg tt te ρ Q ds acc g1) ZF
abbrev W0 : WX := fun _ _ _ _ => False
def dYes : DT := fun _ g Q _ => Q true g
structure WTs (B : Tb) (X : Cx) (W : WX) (ifs : List Expr) (t : DT) : Prop where
  ex : ∃ tt : TT, PTs X ifs tt ∧ ∀ (c : Cn) (g : Gh) (ρ : DEnv) (σ : L2.St) (H : Hp) (Q : Bool → Gh → Prop) (Z : DZ), Fine B X.K c g H → RelP B X.K c ρ σ → t ρ g Q Z → ZOk B X.K c H σ W Z → tt σ H (PQb B X.K c H Q)
theorem wts_nil {B : Tb} {X : Cx} {W : WX} : WTs B X W [] dYes := ⟨tYes, pts_nil, fun c g ρ σ H Q Z k r q z => ⟨c, g, Grow.refl c H, k, q⟩⟩
theorem wts_one {B : Tb} {X : Cx} {W : WX} {c : Expr} {t : DT} (h : WT B X W c t) : WTs B X W [c] t := ⟨semT X c, pts_one pt_sem, fun c g ρ σ H Q Z k r q z => h.run c g ρ σ H Q Z k r q z⟩
theorem zf_ok {B : Tb} {K : PySem.W.Frag} {c : Cn} {H : Hp} {σ : L2.St} : ZOk B K c H σ W0 ZF := fun _ _ _ _ _ _ _ _ _ z => z
def semPTs (X : Cx) (ifs : List Expr) : TT := fun σ H Q => ∀ pins s, Inv X pins σ H s →
    wpAny (model X.prog X.w) X.A (forIn ifs true fun c r => if r = true then do let ok ← isTrue c X.env (eval c X.env); pure (ForInStep.yield ok) else pure (ForInStep.yield r)) (TP X pins σ Q) X.xe s
/-- a new list that is ours alone -/
def Mine (B : Tb) (K : PySem.W.Frag) (c : Cn) (H : Hp) (Q : List D → Gh → Prop) : VK := fun v H' => ∃ c' g' p vs ds, v = .ref p ∧ Grow c H c' H' ∧ Fine B K c' g' H' ∧ H' p = some (.lst vs) ∧ Reps B K c' vs ds ∧ c'.F p = none ∧ c'.pen ≠ some p ∧ p ∉ c'.ma ∧ H p = none ∧ Q ds g'
theorem Mine.ice {B : Tb} {K : PySem.W.Frag} {c : Cn} {H : Hp} {Q : DQ} {v : V} {H' : Hp} (h : Mine B K c H (fun ds g => Q (.lst ds) g) v H') : PQ B K c H Q v H' := by
  obtain ⟨c', g', p, vs, ds, rfl, s, k, h1, h2, h3, h4, h5, h6, q⟩ := h
  refine ⟨_, g', .lst ds, s.ice h6 h3, k.ice h3 h1 h4 h5, .lst upd_same (h2.mono (Le.ice h3)), q⟩
def dLcO (ti : DI) (tg : DGp) (tt : DT) (te : DE) (vs : List Nat) : DEnv → Gh → (List D → Gh → Prop) → DZ → Prop := fun ρ g Q Z => ti ρ g (fun ds g1 => lcD tg tt te (wipeD ρ vs) Q ds [] g1) Z
def dLc (ti : DI) (tg : DGp) (tt : DT) (te : DE) (vs : List Nat) : DE := fun ρ g Q Z => dLcO ti tg tt te vs ρ g (fun ds g1 => Q (.lst ds) g1) Z
section
variable {B : Tb} {X : Cx} {W : WX} {elt tg iter : Expr} {ifs : List Expr} {scope : Scope} {own : List (Str × Nat)} {pos : Pos} {ti : DI} {dg : DGp} {dt : DT} {te : DE}
theorem lc_sem (hi : WI B X W tg iter ti) (hg : WP B X scope (own.map (·.2)) tg dg) (ht : ∀ s H C cl fp, WTs B (blkOf X scope s H C cl fp) W0 ifs dt) (he : ∀ s H C cl fp, WE B (blkOf X scope s H C cl fp) W0 elt te) :
    ∃ (g : TG) (tt : TT) (tE : TE), (∀ s H C cl fp, PG (blkOf X scope s H C cl fp) tg g) ∧ (∀ s H C cl fp, PTs (blkOf X scope s H C cl fp) ifs tt) ∧ (∀ s H C cl fp, PE (blkOf X scope s H C cl fp) elt tE) ∧
      ∀ (c : Cn) (gh : Gh) (ρ : DEnv) (σ : L2.St) (H : Hp) (Q : List D → Gh → Prop) (Z : DZ), Fine B X.K c gh H → RelP B X.K c ρ σ → dLcO ti dg dt te (own.map (·.2)) ρ gh Q Z → ZOk B X.K c H σ W Z →
        tLc (semI X tg iter) g tt tE (own.map (·.2)) σ H (Mine B X.K c H Q) := by
  obtain ⟨g, pg, hgg⟩ := hg.ex
  refine ⟨g, fun σ H Q => ∀ s H' C cl fp, semPTs (blkOf X scope s H' C cl fp) ifs σ H Q, fun σ H Q => ∀ s H' C cl fp, semE (blkOf X scope s H' C cl fp) elt σ H Q, pg, fun s H C cl fp => ⟨fun pins s1 σ H1 Q I h => h s H C cl fp pins s1 I⟩, fun s H C cl fp => ⟨fun pins s1 σ H1 Q I h => h s H C cl fp pins s1 I⟩, ?_⟩
  intro c gh ρ σ H Q Z k r q z
  refine (hi.run c gh ρ σ H _ Z k r q z).mono fun J H1 ⟨c1, g1, ds, s1, k1, wk, q1⟩ => fun Dd hD => ?_
  have H0D : H Dd = none := by
    cases e : H Dd with
    | none => rfl
    | some o =>
      by_cases hp : c.pen = some Dd
      · obtain ⟨_, _, o', h1, _⟩ := k1.pen Dd (s1.le.pen _ hp)
        rw [hD] at h1; cases h1
      · by_cases hm : Dd ∈ c.ma
        · obtain ⟨i, hi⟩ := List.getElem?_of_mem hm
          have hi' := s1.le.ma i Dd hi
          have hlt : i < g1.mem.length := by rw [← k1.mlen]; exact (List.getElem?_eq_some_iff.mp hi').1
          obtain ⟨_, dx, fs, h1, _⟩ := k1.mem i _ Dd (List.getElem?_eq_getElem hlt) hi'
          rw [hD] at h1; cases h1
        · rcases s1.kp Dd o e hp hm with z | ⟨_, _, _, z⟩ <;> rw [hD] at z <;> cases z
  have pen1 : c1.pen ≠ some Dd := fun hp => by
    obtain ⟨_, _, o', h1, _⟩ := k1.pen Dd hp
    rw [hD] at h1; cases h1
  have ma1 : Dd ∉ c1.ma := fun hm => by
    obtain ⟨i, hi⟩ := List.getElem?_of_mem hm
    have hlt : i < g1.mem.length := by rw [← k1.mlen]; exact (List.getElem?_eq_some_iff.mp hi).1
    obtain ⟨_, dx, fs, h1, _⟩ := k1.mem i _ Dd (List.getElem?_eq_getElem hlt) hi
    rw [hD] at h1; cases h1
  have F1 : c1.F Dd = none := Evl.fresh_back k1.sub hD
  refine ⟨fun i m H' => m = ds.length - i ∧ i ≤ ds.length ∧ ∃ c' g' xs es, Grow c1 H1 c' H' ∧ Fine B X.K c' g' H' ∧ H' Dd = some (.lst xs) ∧ Reps B X.K c' xs es ∧ c'.F Dd = none ∧ c'.pen ≠ some Dd ∧ Dd ∉ c'.ma ∧ lcD dg dt te (wipeD ρ (own.map (·.2))) Q (ds.drop i) es g',
    ⟨ds.length, by simp, Nat.zero_le _, c1, g1, [], [], (Grow.refl c1 H1).own hD, k1.own F1 pen1 ma1, upd_same, .nil, F1, pen1, ma1, by simpa using q1⟩, ?_⟩
  rintro i m H' ⟨rfl, hi, c', g', xs, es, s', k', hx, rx, hF, hp, hm, q'⟩
  obtain ⟨go, stop⟩ := wk c' g' H' s'.le k'
  by_cases hlt : i < ds.length
  · have hd : ds[i]? = some ds[i] := List.getElem?_eq_getElem hlt
    obtain ⟨g1', g2'⟩ := go i _ hd
    have hdr : ds.drop i = ds[i] :: ds.drop (i + 1) := List.drop_eq_getElem_cons hlt
    rw [hdr] at q'
    obtain ⟨ρ2, e2, q2⟩ := q'
    refine .inr ⟨g1', fun H3 => ∃ c3 g3 xs3 es3, Grow c1 H1 c3 H3 ∧ Fine B X.K c3 g3 H3 ∧ H3 Dd = some (.lst xs3) ∧ Reps B X.K c3 xs3 es3 ∧ c3.F Dd = none ∧ c3.pen ≠ some Dd ∧ Dd ∉ c3.ma ∧ lcD dg dt te (wipeD ρ (own.map (·.2))) Q (ds.drop (i + 1)) es3 g3, fun H3 n3 => ⟨ds.length - (i + 1), by omega, rfl, hlt, n3⟩, fun x H2 y => ?_⟩
    obtain ⟨c2, s2, k2, rv⟩ := g2' x H2 y
    have rw2 : RelP B X.K c2 (wipeD ρ (own.map (·.2))) (wipe σ (own.map (·.2))) := (r.mono ((s1.trans s').trans s2).le).wipe _
    refine hgg c2 g' _ ρ2 _ H2 x _ _ k2 rw2 rv e2 fun σ3 r3 hw => ⟨by
      rw [hw]
      apply List.ext_getElem?
      intro j
      rw [wipe_get, wipe_get]
      split
      · cases σ[j]? <;> rfl
      · rfl, ?_⟩
    intro s0 H0 C cl fp pins0 s00 I0
    obtain ⟨tt0, pt0, ht0⟩ := (ht s0 H0 C cl fp).ex
    refine thn (pt0.run pins0 s00 σ3 H2 _ I0 (ht0 c2 g' ρ2 σ3 H2 _ ZF k2 r3 q2 zf_ok)) fun b s6 ⟨H3, I3, c3, g3, s3, k3, q3⟩ => ⟨H3, I3, ?_⟩
    obtain ⟨m1, m2, m3, m4⟩ := (s2.trans s3).mine hx hF hp hm
    cases b with
    | false =>
      exact ⟨c3, g3, xs, es, (s'.trans s2).trans s3, k3, m1, rx.mono (s2.trans s3).le, m2, m3, m4, q3⟩
    | true =>
      intro s0' H0' C' cl' fp'
      refine ((he s0' H0' C' cl' fp').run c3 g3 ρ2 σ3 H3 _ ZF k3 (r3.mono s3.le) q3 zf_ok).mono fun v H4 ⟨c4, g4, d4, s4, k4, r4, hlen, q4⟩ => ?_
      obtain ⟨n1, n2, n3, n4⟩ := s4.mine m1 m2 m3 m4
      have rx4 : Reps B X.K c4 xs es := rx.mono ((s2.trans s3).trans s4).le
      exact ⟨xs, n1, by rw [rx4.length]; exact hlen, c4, g4, xs ++ [v], es ++ [d4], (((s'.trans s2).trans s3).trans s4).own hD, k4.own n2 n3 n4, upd_same, rx4.append (.cons r4 .nil), n2, n3, n4, q4⟩
  · have e : i = ds.length := by omega
    subst e
    rw [List.drop_length] at q'
    exact .inl ⟨stop, c', g', Dd, xs, es, rfl, s1.trans s', k', hx, rx, hF, hp, hm, H0D, q'⟩
end
end DL

namespace DL
open PySem L2 PyProof.Rows
section
variable {B : Tb} {X : Cx} {W : WX} {H₀ : En} {elt tg iter e : Expr} {ifs : List Expr} {scope : Scope} {own : List (Str × Nat)} {pos : Pos} {ti : DI} {dg : DGp} {dt : DT} {te : DE}
theorem we_lc (hc : X.calm = true) (hN : X.N.Nodup) (hi : WI B X W tg iter ti) (ok : BlkOk X.N X.env.scope scope own) (hg : WP B X scope (own.map (·.2)) tg dg) (ht : ∀ s H C cl fp, WTs B (blkOf X scope s H C cl fp) W0 ifs dt) (he : ∀ s H C cl fp, WE B (blkOf X scope s H C cl fp) W0 elt te)
    (hs : ∀ x, foldedSetIterable iter X.env x = pure x := by intro _; rfl) : WE B X W (.ListComp elt [⟨tg, iter, ifs, 0⟩] scope pos) (dLc ti dg dt te (own.map (·.2))) := by
  obtain ⟨g, tt, tE, p1, p2, p3, h⟩ := lc_sem hi hg ht he
  refine ⟨fun c gh ρ σ H Q Z k r q z => ?_⟩
  exact (sem_of (pe_lc hc hN pi_sem ok p1 p2 p3 hs) (h c gh ρ σ H (fun ds g1 => Q (.lst ds) g1) Z k r q z)).mono fun _ _ m => m.ice
/-! ### lists that are ours alone -/
structure WL (B : Tb) (X : Cx) (W : WX) (e : Expr) (t : DEnv → Gh → (List D → Gh → Prop) → DZ → Prop) : Prop where
  run : ∀ (c : Cn) (g : Gh) (ρ : DEnv) (σ : L2.St) (H : Hp) (Q : List D → Gh → Prop) (Z : DZ), Fine B X.K c g H → RelP B X.K c ρ σ → t ρ g Q Z → ZOk B X.K c H σ W Z → semE X e σ H (Mine B X.K c H Q)
theorem Fine.notMut {K : PySem.W.Frag} {c : Cn} {g : Gh} {H : Hp} {p : Addr} (k : Fine B K c g H) (h : H p = none) : c.F p = none ∧ c.pen ≠ some p ∧ p ∉ c.ma := by
  refine ⟨Evl.fresh_back k.sub h, fun hp => ?_, fun hm => ?_⟩
  · obtain ⟨_, _, o', h1, _⟩ := k.pen p hp
    rw [h] at h1; cases h1
  · obtain ⟨i, hi⟩ := List.getElem?_of_mem hm
    have hlt : i < g.mem.length := by rw [← k.mlen]; exact (List.getElem?_eq_some_iff.mp hi).1
    obtain ⟨_, dx, fs, h1, _⟩ := k.mem i _ p (List.getElem?_eq_getElem hlt) hi
    rw [h] at h1; cases h1
theorem Grow.back {K : PySem.W.Frag} {c c1 : Cn} {g1 : Gh} {H H1 : Hp} {p : Addr} (s : Grow c H c1 H1) (k : Fine B K c1 g1 H1) (h : H1 p = none) : H p = none := by
  obtain ⟨_, h2, h3⟩ := k.notMut h
  cases e : H p with
  | none => rfl
  | some o =>
    rcases s.kp p o e (fun z => h2 (s.le.pen _ z)) (fun z => by
      obtain ⟨i, hi⟩ := List.getElem?_of_mem z
      exact h3 (List.mem_of_getElem? (s.le.ma i p hi))) with z | ⟨_, _, _, z⟩ <;> rw [h] at z <;> cases z
theorem mine_new {K : PySem.W.Frag} {c c1 : Cn} {g1 : Gh} {H H1 : Hp} {vs : List V} {ds : List D} {p : Addr} {Q : List D → Gh → Prop} (s : Grow c H c1 H1) (k : Fine B K c1 g1 H1) (r : Reps B K c1 vs ds) (hp : H1 p = none) (q : Q ds g1) : Mine B K c H Q (.ref p) (upd H1 p (.lst vs)) := by
  obtain ⟨h1, h2, h3⟩ := k.notMut hp
  have h0 := s.back k hp
  exact ⟨c1, g1, p, vs, ds, rfl, s.own h0, k.own h1 h2 h3, upd_same, r, h1, h2, h3, h0, q⟩
def dLstO (tr : DA) : DEnv → Gh → (List D → Gh → Prop) → DZ → Prop := fun ρ g Q Z => tr ρ g (fun xs g1 => xs.length ≤ sizeLine ∧ Q xs g1) Z
theorem wl_lst {es : List Expr} {tr : DA} (h : WA B X W es tr) : WL B X W (.List es pos) (dLstO tr) := by
  refine ⟨fun c g ρ σ H Q Z k r q z => sem_of (pe_lst pa_sem) ?_⟩
  exact (h.run c g ρ σ H _ Z k r q z).mono fun vs H1 ⟨c1, g1, ds, s1, k1, rs, _, hl, q1⟩ => ⟨by rw [rs.length]; exact hl, fun p hp => mine_new s1 k1 rs hp q1⟩
def dListO (te : DE) : DEnv → Gh → (List D → Gh → Prop) → DZ → Prop := fun ρ g Q Z => te ρ g (fun x g1 => ∃ ds, (x = .lst ds ∨ x = .tup ds) ∧ Q ds g1) Z
theorem wl_list {p : Pos} (hg : Gl X "list") (hm : X.mg "list" = none) (hv : bootBuiltins "list" = some (.type "list")) (h : WE B X W e te) (hs : starEach [e] X.env = (false, eval e X.env) :: starEach [] X.env := by rfl) : WL B X W (.Call (.Name "list" p) [e] [] pos) (dListO te) := by
  refine ⟨fun c g ρ σ H Q Z k r q z => sem_of (pe_callTy call_list_of hg hm hv (pa_cons pe_sem pa_nil hs) (by decide) (by decide) hs rfl) ?_⟩
  refine (h.run c g ρ σ H _ Z k r q z).mono fun v H1 ⟨c1, g1, d, s1, k1, rr, ds, e1, q1⟩ => ?_
  rcases e1 with rfl | rfl
  · cases rr with
    | lst h1 rs => exact ⟨_, _, rfl, .inl (SqL.of (k1.sub _ _ h1)), fun p hp => mine_new s1 k1 rs hp q1⟩
  · cases rr with
    | tup h1 rs => exact ⟨_, _, rfl, .inr (Evl.ex_t k1.sub h1), fun p hp => mine_new s1 k1 rs hp q1⟩
def dCatO (ta tb : DE) : DEnv → Gh → (List D → Gh → Prop) → DZ → Prop := fun ρ g Q Z => ta ρ g (fun x g1 => tb ρ g1 (fun y g2 => ∃ xs ys, x = .lst xs ∧ y = .lst ys ∧ xs.length + ys.length ≤ sizeLine ∧ Q (xs ++ ys) g2) Z) Z
theorem wl_cat {a b : Expr} {ta tb : DE} (ha : WE B X W a ta) (hb : WE B X W b tb) : WL B X W (.BinOp a .Add b pos) (dCatO ta tb) := by
  refine ⟨fun c g ρ σ H Q Z k r q z => sem_of (pe_op op_cat pe_sem pe_sem) ?_⟩
  refine two ha hb k r q z fun x y v u c2 g2 H2 s2 k2 r1 r2 ⟨xs, ys, e1, e2, hl, q2⟩ => ?_
  subst e1 e2
  cases r1 with
  | lst h1 s1 =>
    cases r2 with
    | lst h2 s2' => exact ⟨_, _, _, _, rfl, rfl, k2.sub _ _ h1, k2.sub _ _ h2, by rw [s1.length, s2'.length]; exact hl, fun p hp => mine_new s2 k2 (s1.append s2') hp q2⟩
theorem wl_lc (hc : X.calm = true) (hN : X.N.Nodup) (hi : WI B X W tg iter ti) (ok : BlkOk X.N X.env.scope scope own) (hg : WP B X scope (own.map (·.2)) tg dg) (ht : ∀ s H C cl fp, WTs B (blkOf X scope s H C cl fp) W0 ifs dt) (he : ∀ s H C cl fp, WE B (blkOf X scope s H C cl fp) W0 elt te)
    (hs : ∀ x, foldedSetIterable iter X.env x = pure x := by intro _; rfl) : WL B X W (.ListComp elt [⟨tg, iter, ifs, 0⟩] scope pos) (dLcO ti dg dt te (own.map (·.2))) := by
  obtain ⟨g, tt, tE, p1, p2, p3, h⟩ := lc_sem hi hg ht he
  exact ⟨fun c gh ρ σ H Q Z k r q z => sem_of (pe_lc hc hN pi_sem ok p1 p2 p3 hs) (h c gh ρ σ H Q Z k r q z)⟩
/-- a slot takes a list that is ours alone -/
theorem RelS.take {K : PySem.W.Frag} {c₀ c c' : Cn} {H H' : Hp} {g g' : Gh} {ρ : SEnv} {σ : L2.St} {i : Nat} {p : Addr} {vs : List V} {ds : List D} (r : RelS B K c₀ H₀ c g ρ σ H) (s : Grow c H c' H') (k : Fine B K c' g' H') (hv : H' p = some (.lst vs)) (rs : Reps B K c' vs ds)
    (hF : c'.F p = none) (hp : c'.pen ≠ some p) (hm : p ∉ c'.ma) (h0 : H p = none) : RelS B K c₀ H₀ c' g' (ρ.set i (.ow ds)) (σ.set i (some (.ref p))) H' := by
  have r' := r.next s k
  have H00 : H₀ p = none := r.gr.back r.fine h0
  have get : ∀ (j : Nat) (x : SV), (ρ.set i (.ow ds))[j]? = some x → (j = i ∧ x = .ow ds ∧ j < ρ.length) ∨ (j ≠ i ∧ ρ[j]? = some x) := fun j x h => by
    by_cases e : i = j
    · subst e
      by_cases hl : i < ρ.length
      · rw [List.getElem?_set_self hl] at h
        exact .inl ⟨rfl, (Option.some.inj h).symm, hl⟩
      · rw [List.getElem?_eq_none (by simpa using hl)] at h; cases h
    · rw [List.getElem?_set_ne e] at h
      exact .inr ⟨fun z => e z.symm, h⟩
  have same : ∀ {j : Nat}, j ≠ i → (σ.set i (some (V.ref p)))[j]? = σ[j]? := fun h => List.getElem?_set_ne (Ne.symm h)
  have self : i < ρ.length → (σ.set i (some (V.ref p)))[i]? = some (some (V.ref p)) := fun h => List.getElem?_set_self (by rw [← r.len]; exact h)
  have other : ∀ (j : Nat) (es : List D), ρ[j]? = some (.ow es) → σ[j]? ≠ some (some (.ref p)) := fun j es h z => by
    obtain ⟨q, ws, q1, q2, _⟩ := r.ow j es h
    rw [z] at q1
    cases q1
    rw [h0] at q2; cases q2
  refine ⟨r'.gr, k, by rw [List.length_set, List.length_set]; exact r.len, fun j d' h => ?_, fun j es h => ?_, fun j l es fs q hjk h1 h2 h3 => ?_, fun j pp k fs ep h => ?_, fun j l k k' fs gs h1 h2 => ?_, ⟨r'.th.1, r'.th.2.1, fun j h => ?_⟩⟩
  rotate_right
  · rcases get j _ h with ⟨rfl, e, hl⟩ | ⟨hj, h⟩
    · cases e
    · rw [same hj]; exact r'.th.2.2 j h
  · rcases get j _ h with ⟨rfl, e, hl⟩ | ⟨hj, h⟩
    · cases e
    · rw [same hj]; exact r'.fz j d' h
  · rcases get j _ h with ⟨rfl, e, hl⟩ | ⟨hj, h⟩
    · cases e
      exact ⟨p, vs, self hl, hv, rs, hF, hp, hm, H00⟩
    · rw [same hj]; exact r'.ow j es h
  · rcases get j _ h1 with ⟨ej, e, hl⟩ | ⟨hj, h1'⟩
    · rcases get l _ h2 with ⟨el, e', _⟩ | ⟨hk, h2'⟩
      · exact absurd (ej.trans el.symm) hjk
      · rw [ej] at h3 hl
        rw [self hl] at h3
        cases h3
        rw [same hk]
        exact other l fs h2'
    · rw [same hj] at h3
      rcases get l _ h2 with ⟨el, e', hl⟩ | ⟨hk, h2'⟩
      · rw [el] at hl ⊢
        rw [self hl]
        intro z
        cases z
        exact other j es h1' h3
      · rw [same hk]; exact r.inj j l es fs q hjk h1' h2' h3
  · rcases get j _ h with ⟨rfl, e, hl⟩ | ⟨hj, h⟩
    · cases e
    · rw [same hj]; exact r'.ob j pp k fs ep h
  · rcases get j _ h1 with ⟨rfl, e, hl⟩ | ⟨hj, h1⟩
    · cases e
    · rcases get l _ h2 with ⟨rfl, e, hl⟩ | ⟨hk, h2⟩
      · cases e
      · exact r.ob1 j l k k' fs gs h1 h2
/-- x = a new list, which x alone refers to -/
def dSetO (i : Nat) (tl : DEnv → Gh → (List D → Gh → Prop) → DZ → Prop) : DS := fun En ρ g => tl (mask ρ) g (fun ds g' => En.nx (ρ.set i (.ow ds)) g') fun ex g' => En.xz ex ρ g'
theorem ws_setO {i : Nat} {x : Str} {pos' : Pos} {tl : DEnv → Gh → (List D → Gh → Prop) → DZ → Prop} (hN : X.N.Nodup) (hi : X.N[i]? = some x) (hx : Loc X.env.scope x) (he : WL B X W e tl) (hs : swapsWith e (some (.Name x pos')) pos.line X.env = pure false := by rfl)
    (hf : X.fn x = true ∨ X.env.scope.names.lookup x = some .local := by first | exact .inl rfl | exact .inr rfl) : WS B X W H₀ (.Assign [.Name x pos'] e pos) (dSetO i tl) := by
  refine ⟨fun c₀ c g ρ σ H D r q z => semS_of (ps_set hN hi hx pe_sem hs hf) ?_⟩
  refine (he.run c g _ σ H _ _ r.fine r.mask q (r.zok z)).mono fun v H' ⟨c', g', p, vs, ds, e1, s, k, h1, h2, h3, h4, h5, h6, q'⟩ => ?_
  subst e1
  exact ⟨c', g', _, r.take s k h1 h2 h3 h4 h5 h6, q'⟩
theorem tLc_mono {g : TG} {tt : TT} {tE : TE} {vs : List Nat} {σ : L2.St} {H : Hp} {Q Q' : VK} (h : tLc (semI X tg iter) g tt tE vs σ H Q) (k : ∀ v H', Q v H' → Q' v H') : tLc (semI X tg iter) g tt tE vs σ H Q' := by
  refine semI.mono h fun J H1 h1 D hD => ?_
  obtain ⟨Wi, w0, turn⟩ := h1 D hD
  refine ⟨Wi, w0, fun i m H2 w2 => ?_⟩
  rcases turn i m H2 w2 with ⟨a, b⟩ | b
  · exact .inl ⟨a, k _ _ b⟩
  · exact .inr b
/-- x = [.. for ..] -/
theorem ws_setLc {i : Nat} {y : Str} {py spos : Pos} (hc : X.calm = true) (hN : X.N.Nodup) (hy : X.N[i]? = some y) (hyl : X.env.scope.names.lookup y = some .local)
    (hsw : swapsWith (.ListComp elt [⟨tg, iter, ifs, 0⟩] scope pos) (some (.Name y py)) spos.line X.env = pure true) (hi : WI B X W tg iter ti) (ok : BlkOk X.N X.env.scope scope own) (hg : WP B X scope (own.map (·.2)) tg dg)
    (ht : ∀ s H C cl fp, WTs B (blkOf X scope s H C cl fp) W0 ifs dt) (he : ∀ s H C cl fp, WE B (blkOf X scope s H C cl fp) W0 elt te)
    (hs : ∀ x, foldedSetIterable iter X.env x = pure x := by intro _; rfl) : WS B X W H₀ (.Assign [.Name y py] (.ListComp elt [⟨tg, iter, ifs, 0⟩] scope pos) spos) (dSet i (dLc ti dg dt te (own.map (·.2)))) := by
  obtain ⟨g, tt, tE, p1, p2, p3, h⟩ := lc_sem hi hg ht he
  refine ⟨fun c₀ c gh ρ σ H D r q z => semS_of (ps_setLc hc hN hy hyl hsw pi_sem ok p1 p2 p3 hs) ?_⟩
  exact tLc_mono (h c gh _ σ H _ _ r.fine r.mask q (r.zok z)) fun v H' m => by
    obtain ⟨c', g', d, s, k, rr, q'⟩ := Mine.ice (Q := fun d g' => D.nx (ρ.set i (.fz d)) g') m
    exact ⟨c', g', _, (r.next s k).set rr, q'⟩
theorem ws_setLcO {i : Nat} {y : Str} {py spos : Pos} (hc : X.calm = true) (hN : X.N.Nodup) (hy : X.N[i]? = some y) (hyl : X.env.scope.names.lookup y = some .local)
    (hsw : swapsWith (.ListComp elt [⟨tg, iter, ifs, 0⟩] scope pos) (some (.Name y py)) spos.line X.env = pure true) (hi : WI B X W tg iter ti) (ok : BlkOk X.N X.env.scope scope own) (hg : WP B X scope (own.map (·.2)) tg dg)
    (ht : ∀ s H C cl fp, WTs B (blkOf X scope s H C cl fp) W0 ifs dt) (he : ∀ s H C cl fp, WE B (blkOf X scope s H C cl fp) W0 elt te)
    (hs : ∀ x, foldedSetIterable iter X.env x = pure x := by intro _; rfl) : WS B X W H₀ (.Assign [.Name y py] (.ListComp elt [⟨tg, iter, ifs, 0⟩] scope pos) spos) (dSetO i (dLcO ti dg dt te (own.map (·.2)))) := by
  obtain ⟨g, tt, tE, p1, p2, p3, h⟩ := lc_sem hi hg ht he
  refine ⟨fun c₀ c gh ρ σ H D r q z => semS_of (ps_setLc hc hN hy hyl hsw pi_sem ok p1 p2 p3 hs) ?_⟩
  exact tLc_mono (h c gh _ σ H _ _ r.fine r.mask q (r.zok z)) fun v H' m => by
    obtain ⟨c', g', p, vs, ds, e1, s, k, h1, h2, h3, h4, h5, h6, q'⟩ := m
    subst e1
    exact ⟨c', g', _, r.take s k h1 h2 h3 h4 h5 h6, q'⟩
/-! ### what is done to a list that is ours alone -/
theorem RelS.put {K : PySem.W.Frag} {c₀ c : Cn} {H : Hp} {g : Gh} {ρ : SEnv} {σ : L2.St} {i : Nat} {p : Addr} {ds es : List D} {vs : List V} (r : RelS B K c₀ H₀ c g ρ σ H) (hi : ρ[i]? = some (.ow ds)) (hp : σ[i]? = some (some (.ref p))) (rs : Reps B K c vs es) :
    RelS B K c₀ H₀ c g (ρ.set i (.ow es)) σ (upd H p (.lst vs)) := by
  obtain ⟨p', ws, h1, h2, h3, h4, h5, h6, h7⟩ := r.ow i ds hi
  rw [hp] at h1
  cases h1
  have hl : i < ρ.length := (List.getElem?_eq_some_iff.mp hi).1
  have get : ∀ (j : Nat) (x : SV), (ρ.set i (.ow es))[j]? = some x → (j = i ∧ x = .ow es) ∨ (j ≠ i ∧ ρ[j]? = some x) := fun j x h => by
    by_cases e : i = j
    · subst e
      rw [List.getElem?_set_self hl] at h
      exact .inl ⟨rfl, (Option.some.inj h).symm⟩
    · rw [List.getElem?_set_ne e] at h
      exact .inr ⟨fun z => e z.symm, h⟩
  refine ⟨r.gr.own h7, r.fine.own h4 h5 h6, by rw [List.length_set]; exact r.len, fun j d h => ?_, fun j fs h => ?_, fun j l fs fs' q hjl e1 e2 e3 => ?_, fun j q k fs ep h => ?_, fun j l k k' fs gs e1 e2 => ?_, ⟨r.th.1, fun x hx => (upd_ne (fun z => by
      have q := r.th.2.1 x hx
      rw [z, h2] at q
      exact pl_lst.2 _ _ (Option.some.inj q))).trans (r.th.2.1 x hx), fun j h => ?_⟩⟩
  rotate_right
  · rcases get j _ h with ⟨_, e⟩ | ⟨_, h⟩
    · cases e
    · exact r.th.2.2 j h
  · rcases get j _ h with ⟨_, e⟩ | ⟨_, h⟩
    · cases e
    · exact r.fz j d h
  · rcases get j _ h with ⟨ej, e⟩ | ⟨hj, h⟩
    · cases e
      rw [ej]
      exact ⟨p, vs, hp, upd_same, rs, h4, h5, h6, h7⟩
    · obtain ⟨q, us, q1, q2, q3, q4, q5, q6, q7⟩ := r.ow j fs h
      refine ⟨q, us, q1, ?_, q3, q4, q5, q6, q7⟩
      rw [upd_ne]
      · exact q2
      · intro z
        subst z
        exact r.inj j i fs ds q hj h hi q1 hp
  · have f1 : ∃ fs, ρ[j]? = some (.ow fs) := by
      rcases get j _ e1 with ⟨ej, _⟩ | ⟨_, h⟩
      · exact ⟨ds, by rw [ej]; exact hi⟩
      · exact ⟨fs, h⟩
    have f2 : ∃ fs, ρ[l]? = some (.ow fs) := by
      rcases get l _ e2 with ⟨ej, _⟩ | ⟨_, h⟩
      · exact ⟨ds, by rw [ej]; exact hi⟩
      · exact ⟨fs', h⟩
    obtain ⟨_, f1⟩ := f1
    obtain ⟨_, f2⟩ := f2
    exact r.inj j l _ _ q hjl f1 f2 e3
  · rcases get j _ h with ⟨_, e⟩ | ⟨_, h⟩
    · cases e
    · obtain ⟨dx, us, q1, q2, q3, q4, q5, q6, q7⟩ := r.ob j q k fs ep h
      refine ⟨dx, us, q1, ?_, q3, q4, q5, q6, q7⟩
      rw [upd_ne]
      · exact q2
      · intro z
        subst z
        rw [h2] at q2; cases q2
  · rcases get j _ e1 with ⟨_, e⟩ | ⟨_, e1⟩
    · cases e
    · rcases get l _ e2 with ⟨_, e⟩ | ⟨_, e2⟩
      · cases e
      · exact r.ob1 j l k k' fs gs e1 e2
/-- x.append(e) -/
def dAppend (i : Nat) (te : DE) : DS := fun En ρ g => ∃ ds, ρ[i]? = some (.ow ds) ∧ te (mask ρ) g (fun d g' => ds.length < sizeLine ∧ En.nx (ρ.set i (.ow (ds ++ [d]))) g') fun ex g' => En.xz ex ρ g'
theorem ws_append {i : Nat} {x : Str} {px apos cpos : Pos} (hv : PE X (.Name x px) (tVar i)) (he : WE B X W e te)
    (hbase : attributeBase (.Name x px) "append" X.env (eval (.Name x px) X.env) = eval (.Name x px) X.env := by rfl)
    (hfew : ((backTo cpos (starEach [e] X.env)).all (fun x => !x.1) && (backToKw cpos (keywordEach [] X.env)).all (fun x => x.1.isSome) && decide ([e].length + ([] : List Keyword).length + (if ([] : List Keyword).isEmpty then 0 else 1) < 30)) = true := by rfl)
    (hline : (apos.endLine == cpos.line) = true := by rfl) (hs : starEach [e] X.env = (false, eval e X.env) :: starEach [] X.env := by rfl) (hsw : swapsWith (.Call (.Attribute (.Name x px) "append" apos) [e] [] cpos) none pos.line X.env = pure false := by rfl) :
    WS B X W H₀ (.Expr (.Call (.Attribute (.Name x px) "append" apos) [e] [] cpos) pos) (dAppend i te) := by
  refine ⟨fun c₀ c g ρ σ H D r q z => semS_of (ps_expr (pe_bm PySem.F.plainAttrs_list PySem.F.slot_list_append PySem.F.type_list_append mt_append hv (pa_cons pe_sem pa_nil hs) hbase hfew hline hs rfl) hsw) ?_⟩
  obtain ⟨ds0, h0, q⟩ := q
  obtain ⟨p, vs, h1, h2, h3, h4, h5, h6, h7⟩ := r.ow i ds0 h0
  refine ⟨_, h1, .inl ⟨rfl, vs, SqL.of h2⟩, ?_⟩
  refine (he.run c g _ σ H _ _ r.fine r.mask q (r.zok z)).mono fun v H' ⟨c', g', d, s, k, rr, hl, q'⟩ => ?_
  obtain ⟨m1, _⟩ := s.mine h2 h4 h5 h6
  have r' := r.next s k
  have h3' : Reps B X.K c' vs ds0 := h3.mono s.le
  exact ⟨p, vs, v, rfl, rfl, m1, by rw [h3'.length]; exact hl, c', g', _, r'.put h0 h1 (h3'.append (.cons rr .nil)), q'⟩
end
end DL

namespace DL
open PySem L2 PyProof.Rows
/-! ### data without a list in it -/
mutual
def nl : D → Bool
  | .lst _ => false
  | .tup xs => nls xs
  | .dct kvs => nlk kvs
  | .obj _ fs => nlf fs
  | .exc _ fs => nlf fs
  | .non => true
  | .bl _ => true
  | .int _ => true
  | .str _ => true
  | .loc _ => true
  | .pen => true
  | .scr _ => false
def nls : List D → Bool
  | [] => true
  | x :: xs => nl x && nls xs
def nlk : List (Key × D) → Bool
  | [] => true
  | (_, x) :: xs => nl x && nlk xs
def nlf : List (Str × D) → Bool
  | [] => true
  | (_, x) :: xs => nl x && nlf xs
end
section
variable {B : Tb} {K : PySem.W.Frag} {c1 c2 : Cn}
structure NL (c1 c2 : Cn) : Prop where
  F : ∀ a o, c1.F a = some o → (∀ xs, o ≠ .lst xs) → c2.F a = some o
  pen : c2.pen = c1.pen
  ma : c2.ma = c1.ma
mutual
theorem Rep.nl (e : NL c1 c2) : ∀ {v : V} {d : D}, Rep B K c1 v d → nl d = true → Rep B K c2 v d
  | _, _, .non, _ => .non
  | _, _, .bl b, _ => .bl b
  | _, _, .int i, _ => .int i
  | _, _, .str x, _ => .str x
  | _, _, .lst h r, q => by simp [DL.nl] at q
  | _, _, .tup h r, q => by
    simp only [DL.nl] at q
    refine .tup ?_ (Reps.nl e r q)
    rcases h with (h | ⟨o, h⟩) | h
    · exact .inl (.inl (e.F _ _ h fun xs z => by cases z))
    · exact .inl (.inr ⟨o, e.F _ _ h fun xs z => by cases z⟩)
    · exact .inr h
  | _, _, .dct h r, q => by
    simp only [DL.nl] at q
    exact .dct (e.F _ _ h fun xs z => by cases z) (RepK.nl e r q)
  | _, _, .obj h r, q => by
    simp only [DL.nl] at q
    exact .obj (e.F _ _ h fun xs z => by cases z) (RepF.nl e r q)
  | _, _, .exc h h2 r, q => by
    simp only [DL.nl] at q
    exact .exc (e.F _ _ h fun xs z => by cases z) (e.F _ _ h2 fun xs z => by cases z) (RepF.nl e r q)
  | _, _, .exc0 h, _ => .exc0 (e.F _ _ h fun xs z => by cases z)
  | _, _, .loc h, _ => .loc (by rw [e.ma]; exact h)
  | _, _, .pen h, _ => .pen (by rw [e.pen]; exact h)
  | _, _, .scr h, q => by simp [DL.nl] at q
theorem Reps.nl (e : NL c1 c2) : ∀ {vs : List V} {ds : List D}, Reps B K c1 vs ds → nls ds = true → Reps B K c2 vs ds
  | _, _, .nil, _ => .nil
  | _, _, .cons h r, q => by
    simp only [nls, Bool.and_eq_true] at q
    exact .cons (Rep.nl e h q.1) (Reps.nl e r q.2)
theorem RepK.nl (e : NL c1 c2) : ∀ {vs : List (Key × V)} {ds : List (Key × D)}, RepK B K c1 vs ds → nlk ds = true → RepK B K c2 vs ds
  | _, _, .nil, _ => .nil
  | _, _, .cons h r, q => by
    simp only [nlk, Bool.and_eq_true] at q
    exact .cons (Rep.nl e h q.1) (RepK.nl e r q.2)
theorem RepF.nl (e : NL c1 c2) : ∀ {vs : List (Str × V)} {ds : List (Str × D)}, RepF B K c1 vs ds → nlf ds = true → RepF B K c2 vs ds
  | _, _, .nil, _ => .nil
  | _, _, .cons h r, q => by
    simp only [nlf, Bool.and_eq_true] at q
    exact .cons (Rep.nl e h q.1) (RepF.nl e r q.2)
end
end
/-! ### all slots looked at as they stand -/
def Owned (ρ : SEnv) (σ : L2.St) (a : Addr) : Prop := ∃ (i : Nat) (ds : List D), ρ[i]? = some (.ow ds) ∧ σ[i]? = some (some (.ref a))
noncomputable instance (ρ : SEnv) (σ : L2.St) (a : Addr) : Decidable (Owned ρ σ a) := Classical.propDecidable _
noncomputable def snapC (c : Cn) (ρ : SEnv) (σ : L2.St) (H : Hp) : Cn := { c with F := fun a => if Owned ρ σ a then H a else c.F a }
noncomputable def cutC (c : Cn) (ρ : SEnv) (σ : L2.St) : Cn := { c with F := fun a => if Owned ρ σ a then none else c.F a }
def memNl (g : Gh) : Bool := g.mem.all fun m => nlf m.2
section
variable {B : Tb} {K : PySem.W.Frag} {c₀ c : Cn} {H₀ : En} {H : Hp} {g : Gh} {ρ : SEnv} {σ : L2.St}
theorem RelS.owned (r : RelS B K c₀ H₀ c g ρ σ H) {a : Addr} (h : Owned ρ σ a) : ∃ vs, H a = some (.lst vs) ∧ c.F a = none ∧ c.pen ≠ some a ∧ a ∉ c.ma ∧ H₀ a = none := by
  obtain ⟨i, ds, h1, h2⟩ := h
  obtain ⟨p, vs, e1, e2, e3, e4, e5, e6, e7⟩ := r.ow i ds h1
  rw [h2] at e1
  cases e1
  exact ⟨vs, e2, e4, e5, e6, e7⟩
theorem RelS.snapLe (r : RelS B K c₀ H₀ c g ρ σ H) : Le c (snapC c ρ σ H) := by
  refine ⟨fun a o h => ?_, fun _ h => h, fun _ _ h => h, fun _ _ => rfl⟩
  show (if Owned ρ σ a then H a else c.F a) = some o
  rw [if_neg]
  · exact h
  · intro z
    obtain ⟨_, _, e, _⟩ := r.owned z
    rw [h] at e; cases e
theorem RelS.snapFine (r : RelS B K c₀ H₀ c g ρ σ H) : Fine B K (snapC c ρ σ H) g H := by
  have le := r.snapLe
  refine ⟨fun a o h => ?_, r.fine.pd, fun p hp => ?_, fun p hp => (let ⟨ns, h1, h2⟩ := r.fine.cells p hp; ⟨ns, le.F _ _ h1, h2⟩), r.fine.mlen, r.fine.mnd, fun i m a h1 h2 => ?_, r.fine.tabs, fun a ps e => ?_⟩
  rotate_right
  · have e : (if Owned ρ σ a then H a else c.F a) = some (.tbl ps) := e
    split at e
    · rename_i ho
      obtain ⟨vs, e2, _⟩ := r.owned ho
      rw [e2] at e; cases e
    · exact r.fine.nt a ps e
  · have h : (if Owned ρ σ a then H a else c.F a) = some o := h
    split at h
    · exact h
    · exact r.fine.sub a o h
  · obtain ⟨h1, h2, o, h3, h4⟩ := r.fine.pen p hp
    refine ⟨?_, h2, o, h3, h4⟩
    show (if Owned ρ σ p then H p else c.F p) = none
    rw [if_neg]
    · exact h1
    · intro z
      obtain ⟨_, _, _, e, _⟩ := r.owned z
      exact e hp
  · obtain ⟨h3, dx, fs, h4, h5⟩ := r.fine.mem i m a h1 h2
    refine ⟨?_, dx, fs, h4, h5.mono le⟩
    show (if Owned ρ σ a then H a else c.F a) = none
    rw [if_neg]
    · exact h3
    · intro z
      obtain ⟨_, _, _, _, e, _⟩ := r.owned z
      exact e (List.mem_of_getElem? h2)
theorem RelS.snapRel (r : RelS B K c₀ H₀ c g ρ σ H) : RelP B K (snapC c ρ σ H) (snap ρ) σ := by
  refine ⟨by unfold snap; rw [List.length_map]; exact Nat.le_of_eq r.len, fun i d h => ?_⟩
  unfold snap at h
  rw [List.getElem?_map] at h
  cases e : ρ[i]? with
  | none => rw [e] at h; cases h
  | some v =>
    rw [e] at h
    cases v with
    | fz d' =>
      simp only [Option.map_some, SV.snap, Option.some.injEq] at h
      subst h
      obtain ⟨v, h1, h2⟩ := r.fz i _ e
      exact ⟨v, h1, h2.mono r.snapLe⟩
    | un => simp [SV.snap] at h
    | ob k fs => simp [SV.snap] at h
    | th => simp [SV.snap] at h
    | ow ds =>
      simp only [Option.map_some, SV.snap, Option.some.injEq] at h
      subst h
      obtain ⟨p, vs, e1, e2, e3, _⟩ := r.ow i ds e
      refine ⟨_, e1, .lst ?_ (e3.mono r.snapLe)⟩
      show (if Owned ρ σ p then H p else c.F p) = _
      rw [if_pos ⟨i, ds, e, e1⟩]; exact e2
/-- back again -/
theorem RelS.unsnap (r : RelS B K c₀ H₀ c g ρ σ H) {c1 : Cn} {g1 : Gh} {H1 : Hp} (s : Grow (snapC c ρ σ H) H c1 H1) (k : Fine B K c1 g1 H1) (hm : (memNl g1 && (g1.pd == g.pd)) = true) : RelS B K c₀ H₀ (cutC c1 ρ σ) g1 ρ σ H1 ∧ NL c1 (cutC c1 ρ σ) ∧ Grow c H (cutC c1 ρ σ) H1 := by
  obtain ⟨hm, hpd⟩ := Bool.and_eq_true_iff.mp hm
  have hpd : g1.pd = g.pd := eq_of_beq hpd
  have nl0 : NL c1 (cutC c1 ρ σ) := by
    refine ⟨fun a o h hn => ?_, rfl, rfl⟩
    show (if Owned ρ σ a then none else c1.F a) = some o
    rw [if_neg]
    · exact h
    · intro z
      obtain ⟨vs, e1, _⟩ := r.owned z
      have h2 : (snapC c ρ σ H).F a = some (.lst vs) := by
        show (if Owned ρ σ a then H a else c.F a) = _
        rw [if_pos z]; exact e1
      have h3 := s.le.F _ _ h2
      rw [h] at h3
      cases h3
      exact hn vs rfl
  have gr : Grow c H (cutC c1 ρ σ) H1 := by
    refine ⟨⟨fun a o h => ?_, s.le.pen, s.le.ma, s.le.cel⟩, s.kp, s.fresh, fun a o h => ?_⟩
    · show (if Owned ρ σ a then none else c1.F a) = some o
      rw [if_neg]
      · exact s.le.F _ _ (r.snapLe.F _ _ h)
      · intro z
        obtain ⟨_, _, e, _⟩ := r.owned z
        rw [h] at e; cases e
    · have h : (if Owned ρ σ a then none else c1.F a) = some o := h
      split at h
      · cases h
      · rename_i hn
        rcases s.froz a o h with (q | q) | q
        · have q : (if Owned ρ σ a then H a else c.F a) = some o := q
          rw [if_neg hn] at q
          exact .inl (.inl q)
        · exact .inl (.inr q)
        · exact .inr q
  have fine : Fine B K (cutC c1 ρ σ) g1 H1 := by
    refine ⟨fun a o h => ?_, k.pd, fun p hp => ?_, fun p hp => ?_, k.mlen, k.mnd, fun i m a h1 h2 => ?_, k.tabs, fun a ps e => ?_⟩
    rotate_right
    · have e : (if Owned ρ σ a then none else c1.F a) = some (.tbl ps) := e
      split at e
      · cases e
      · exact k.nt a ps e
    · have h : (if Owned ρ σ a then none else c1.F a) = some o := h
      split at h
      · cases h
      · exact k.sub a o h
    · obtain ⟨h1, h2, o, h3, h4⟩ := k.pen p hp
      refine ⟨?_, h2, o, h3, h4⟩
      show (if Owned ρ σ p then none else c1.F p) = none
      split
      · rfl
      · exact h1
    · obtain ⟨ns, h1, h2⟩ := k.cells p hp
      refine ⟨ns, ?_, h2⟩
      show (if Owned ρ σ c1.cel then none else c1.F c1.cel) = _
      rw [if_neg]
      · exact h1
      · -- the cells are no list of ours
        intro z
        rcases s.fresh p (.inl hp) with (q | q) | q
        · have q : c.pen = some p := q
          obtain ⟨ns', h3, _⟩ := r.fine.cells p q
          have e : c1.cel = c.cel := s.le.cel p q
          obtain ⟨_, _, e2, _⟩ := r.owned z
          rw [e, h3] at e2; cases e2
        · have q : p ∈ c.ma := q
          obtain ⟨i, hi⟩ := List.getElem?_of_mem q
          exact (k.pen p hp).2.1 (List.mem_of_getElem? (s.le.ma i p hi))
        · have hp : c1.pen = some p := hp
          have e1 : c1.pen.isSome = true := by rw [hp]; rfl
          rw [k.pd, hpd, ← r.fine.pd] at e1
          obtain ⟨p', hp'⟩ := Option.isSome_iff_exists.mp e1
          have hp2 := s.le.pen p' hp'
          rw [hp] at hp2
          cases hp2
          obtain ⟨_, _, o, h5, _⟩ := r.fine.pen p hp'
          rw [q] at h5; cases h5
    · obtain ⟨h3, dx, fs, h4, h5⟩ := k.mem i m a h1 h2
      refine ⟨?_, dx, fs, h4, h5.nl nl0 ?_⟩
      · show (if Owned ρ σ a then none else c1.F a) = none
        split
        · rfl
        · exact h3
      · unfold memNl at hm
        rw [List.all_eq_true] at hm
        exact hm m (List.mem_of_getElem? h1)
  exact ⟨r.next gr fine, nl0, gr⟩
end
section
variable {B : Tb} {X : Cx} {W : WX} {H₀ : En} {e : Expr} {te : DE} {tc : DT} {t u : DS} {pos : Pos}
def okG (g g' : Gh) : Bool := memNl g' && (g'.pd == g.pd)
/-- an exception at a look at all slots: nothing of a list in it -/
theorem RelS.zsnap {K : PySem.W.Frag} {c₀ c : Cn} {H : Hp} {g : Gh} {ρ : SEnv} {σ : L2.St} {W : WX} {D : DEnds} (r : RelS B K c₀ H₀ c g ρ σ H) (z : ZS B K c₀ H₀ W D) : ZOk B K (snapC c ρ σ H) H σ W fun ex g' => okG g g' = true ∧ nlf ex.fs = true ∧ D.xz ex ρ g' := fun c' H' g' ex cls d s k e q => by
  obtain ⟨q1, q2, q3⟩ := q
  obtain ⟨r', n', _⟩ := r.unsnap s k q1
  refine z _ g' ρ σ H' ex cls d r' ?_ q3
  obtain ⟨e1, e2⟩ := e
  refine ⟨e1, ?_⟩
  rcases e2 with e2 | ⟨dd, fs, h1, h2, h3⟩
  · exact .inl e2
  · exact .inr ⟨dd, fs, h1, n'.F _ _ h2 (fun xs z => by cases z), h3.nl n' q2⟩
/-- y = e, e looks at lists of ours; nothing of them is in what comes -/
def dSetS (i : Nat) (te : DE) : DS := fun En ρ g => te (snap ρ) g (fun d g' => okG g g' = true ∧ nl d = true ∧ En.nx (ρ.set i (.fz d)) g') fun ex g' => okG g g' = true ∧ nlf ex.fs = true ∧ En.xz ex ρ g'
theorem ws_setS {i : Nat} {x : Str} {pos' : Pos} (hN : X.N.Nodup) (hi : X.N[i]? = some x) (hx : Loc X.env.scope x) (he : WE B X W e te) (hs : swapsWith e (some (.Name x pos')) pos.line X.env = pure false := by rfl)
    (hf : X.fn x = true ∨ X.env.scope.names.lookup x = some .local := by first | exact .inl rfl | exact .inr rfl) : WS B X W H₀ (.Assign [.Name x pos'] e pos) (dSetS i te) := by
  refine ⟨fun c₀ c g ρ σ H D r q z => semS_of (ps_set hN hi hx pe_sem hs hf) ?_⟩
  refine (he.run _ g _ σ H _ _ r.snapFine r.snapRel q (r.zsnap z)).mono fun v H' ⟨c', g', d, s, k, rr, q1, q2, q'⟩ => ?_
  obtain ⟨r', n', _⟩ := r.unsnap s k q1
  exact ⟨_, g', _, r'.set (rr.nl n' q2), q'⟩
def dIfSS (c : DT) (t u : DS) : DS := fun En ρ g => c (snap ρ) g (fun b g' => okG g g' = true ∧ if b = true then t En ρ g' else u En ρ g') fun ex g' => okG g g' = true ∧ nlf ex.fs = true ∧ En.xz ex ρ g'
theorem ws_ifS {c : Expr} {a b : List Stmt} (hc : WT B X W c tc) (ha : WB B X W H₀ a t) (hb : WB B X W H₀ b u) : WS B X W H₀ (.If c a b pos) (dIfSS tc t u) := by
  refine ⟨fun c₀ c g ρ σ H D r q z => semS_of (ps_if pt_sem pss_sem pss_sem) ?_⟩
  refine (hc.run _ g _ σ H _ _ r.snapFine r.snapRel q (r.zsnap z)).mono fun v H' ⟨c', g', s, k, q1, q'⟩ => ?_
  obtain ⟨r', n', _⟩ := r.unsnap s k q1
  cases v with
  | true => exact ha.run c₀ _ g' ρ σ H' D r' q' z
  | false => exact hb.run c₀ _ g' ρ σ H' D r' q' z
def whileDS (c : DT) (tb : DS) (En : DEnds) : Nat → SEnv → Gh → Prop
  | 0, _, _ => False
  | n + 1, ρ, g => c (snap ρ) g (fun b g' => okG g g' = true ∧ if b = true then tb { En with nx := whileDS c tb En n, ct := whileDS c tb En n, bk := En.nx } ρ g' else En.nx ρ g') fun ex g' => okG g g' = true ∧ nlf ex.fs = true ∧ En.xz ex ρ g'
def dWhileS (c : DT) (tb : DS) : DS := fun En ρ g => ∃ n, whileDS c tb En n ρ g
theorem ws_whileS {c : Expr} {body : List Stmt} {tb : DS} (hp : PassesOwn (model X.prog X.w) X.A X.env X.xe) (hc : WT B X W c tc) (hb : WB B X W H₀ body tb) : WS B X W H₀ (.While c body [] pos) (dWhileS tc tb) := by
  refine ⟨fun c₀ c g ρ σ H D r ⟨n, q⟩ z => semS_of (ps_while hp pt_sem pss_sem) ?_⟩
  refine ⟨fun m σ' H' => ∃ c' g' ρ', RelS B X.K c₀ H₀ c' g' ρ' σ' H' ∧ whileDS tc tb D m ρ' g', ⟨n, c, g, ρ, r, q⟩, ?_⟩
  rintro m σ' H' ⟨c', g', ρ', r', q'⟩
  cases m with
  | zero => exact q'.elim
  | succ m =>
    refine (hc.run _ g' _ σ' H' _ _ r'.snapFine r'.snapRel q' (r'.zsnap z)).mono fun b H2 ⟨c2, g2, s2, k2, q1, q2⟩ => ?_
    obtain ⟨r2, _, _⟩ := r'.unsnap s2 k2 q1
    cases b with
    | true =>
      refine ⟨fun σ3 H3 => ∃ c3 g3 ρ3, RelS B X.K c₀ H₀ c3 g3 ρ3 σ3 H3 ∧ whileDS tc tb D m ρ3 g3, fun σ3 H3 n3 => ⟨m, Nat.lt_succ_self m, n3⟩, ?_⟩
      intro pins s I
      refine thn (hb.run c₀ _ g2 ρ' σ' H2 _ r2 q2 (fun c' g' ρ' σ' H' ex cls d a b c => z c' g' ρ' σ' H' ex cls d a b c) pins s I) fun f s' hq => ?_
      exact SP.imp hq (fun _ _ h => h) (fun _ _ h => h) (fun _ _ h => h) (fun _ _ h => h)
    | false => exact ⟨_, g2, ρ', r2, q2⟩
/-- x.append(e), e looks at lists of ours -/
def dAppendS (i : Nat) (te : DE) : DS := fun En ρ g => ∃ ds, ρ[i]? = some (.ow ds) ∧ te (snap ρ) g (fun d g' => okG g g' = true ∧ nl d = true ∧ ds.length < sizeLine ∧ En.nx (ρ.set i (.ow (ds ++ [d]))) g') fun ex g' => okG g g' = true ∧ nlf ex.fs = true ∧ En.xz ex ρ g'
theorem ws_appendS {i : Nat} {x : Str} {px apos cpos : Pos} (hv : PE X (.Name x px) (tVar i)) (he : WE B X W e te)
    (hbase : attributeBase (.Name x px) "append" X.env (eval (.Name x px) X.env) = eval (.Name x px) X.env := by rfl)
    (hfew : ((backTo cpos (starEach [e] X.env)).all (fun x => !x.1) && (backToKw cpos (keywordEach [] X.env)).all (fun x => x.1.isSome) && decide ([e].length + ([] : List Keyword).length + (if ([] : List Keyword).isEmpty then 0 else 1) < 30)) = true := by rfl)
    (hline : (apos.endLine == cpos.line) = true := by rfl) (hs : starEach [e] X.env = (false, eval e X.env) :: starEach [] X.env := by rfl) (hsw : swapsWith (.Call (.Attribute (.Name x px) "append" apos) [e] [] cpos) none pos.line X.env = pure false := by rfl) :
    WS B X W H₀ (.Expr (.Call (.Attribute (.Name x px) "append" apos) [e] [] cpos) pos) (dAppendS i te) := by
  refine ⟨fun c₀ c g ρ σ H D r q z => semS_of (ps_expr (pe_bm PySem.F.plainAttrs_list PySem.F.slot_list_append PySem.F.type_list_append mt_append hv (pa_cons pe_sem pa_nil hs) hbase hfew hline hs rfl) hsw) ?_⟩
  obtain ⟨ds0, h0, q⟩ := q
  obtain ⟨p, vs, h1, h2, h3, h4, h5, h6, h7⟩ := r.ow i ds0 h0
  refine ⟨_, h1, .inl ⟨rfl, vs, SqL.of h2⟩, ?_⟩
  refine (he.run _ g _ σ H _ _ r.snapFine r.snapRel q (r.zsnap z)).mono fun v H' ⟨c', g', d, s, k, rr, q1, q2, hl, q'⟩ => ?_
  obtain ⟨r', n', s'⟩ := r.unsnap s k q1
  obtain ⟨m1, _⟩ := s'.mine h2 h4 h5 h6
  have h3' : Reps B X.K (cutC c' ρ σ) vs ds0 := h3.mono s'.le
  exact ⟨p, vs, v, rfl, rfl, m1, by rw [h3'.length]; exact hl, _, g', _, r'.put h0 h1 (h3'.append (.cons (rr.nl n' q2) .nil)), q'⟩
/-- x.append(y.pop(e)) -/
def popAt (ds : List D) (i : Int) : Option (D × List D) := if -(2 ^ 63) ≤ i ∧ i < 2 ^ 63 then (seqIndex? i ds.length).bind fun k => (ds[k]?).map fun d => (d, ds.eraseIdx k) else none
def dMove (i j : Nat) (te : DE) : DS := fun En ρ g => i ≠ j ∧ ∃ xs ys, ρ[i]? = some (.ow xs) ∧ ρ[j]? = some (.ow ys) ∧ te (snap ρ) g (fun d g' => okG g g' = true ∧ ∃ n y r, d = .int n ∧ popAt ys n = some (y, r) ∧ xs.length < sizeLine ∧ En.nx ((ρ.set j (.ow r)).set i (.ow (xs ++ [y]))) g') fun ex g' => okG g g' = true ∧ nlf ex.fs = true ∧ En.xz ex ρ g'
theorem Reps.erase {K : PySem.W.Frag} {c : Cn} : ∀ {vs : List V} {ds : List D} (k : Nat), Reps B K c vs ds → Reps B K c (vs.eraseIdx k) (ds.eraseIdx k)
  | _, _, _, .nil => by simp; exact .nil
  | _, _, 0, .cons r t => by simpa using t
  | _, _, k + 1, .cons r t => by simpa using .cons r (Reps.erase k t)
theorem ws_move {i j : Nat} {x y : Str} {px py apos cpos apos2 cpos2 : Pos} (hv : PE X (.Name x px) (tVar i)) (hy : PE X (.Name y py) (tVar j)) (he : WE B X W e te)
    (hbase : attributeBase (.Name x px) "append" X.env (eval (.Name x px) X.env) = eval (.Name x px) X.env := by rfl) (hbase2 : attributeBase (.Name y py) "pop" X.env (eval (.Name y py) X.env) = eval (.Name y py) X.env := by rfl)
    (hfew : ((backTo cpos (starEach [.Call (.Attribute (.Name y py) "pop" apos2) [e] [] cpos2] X.env)).all (fun x => !x.1) && (backToKw cpos (keywordEach [] X.env)).all (fun x => x.1.isSome) && decide ([Expr.Call (.Attribute (.Name y py) "pop" apos2) [e] [] cpos2].length + ([] : List Keyword).length + (if ([] : List Keyword).isEmpty then 0 else 1) < 30)) = true := by rfl)
    (hfew2 : ((backTo cpos2 (starEach [e] X.env)).all (fun x => !x.1) && (backToKw cpos2 (keywordEach [] X.env)).all (fun x => x.1.isSome) && decide ([e].length + ([] : List Keyword).length + (if ([] : List Keyword).isEmpty then 0 else 1) < 30)) = true := by rfl)
    (hline : (apos.endLine == cpos.line) = true := by rfl) (hline2 : (apos2.endLine == cpos2.line) = true := by rfl) (hs : starEach [e] X.env = (false, eval e X.env) :: starEach [] X.env := by rfl)
    (hsw : swapsWith (.Call (.Attribute (.Name x px) "append" apos) [.Call (.Attribute (.Name y py) "pop" apos2) [e] [] cpos2] [] cpos) none pos.line X.env = pure false := by rfl) :
    WS B X W H₀ (.Expr (.Call (.Attribute (.Name x px) "append" apos) [.Call (.Attribute (.Name y py) "pop" apos2) [e] [] cpos2] [] cpos) pos) (dMove i j te) := by
  refine ⟨fun c₀ c g ρ σ H D r q z => semS_of (ps_expr (pe_bm PySem.F.plainAttrs_list PySem.F.slot_list_append PySem.F.type_list_append mt_append hv
    (pa_cons (pe_bm PySem.F.plainAttrs_list PySem.F.slot_list_pop PySem.F.type_list_pop mt_popAt hy (pa_cons pe_sem pa_nil hs) hbase2 hfew2 hline2 hs rfl) pa_nil rfl) hbase hfew hline rfl rfl) hsw) ?_⟩
  obtain ⟨hij, xs, ys, hx0, hy0, q⟩ := q
  obtain ⟨p, vs, h1, h2, h3, h4, h5, h6, h7⟩ := r.ow i xs hx0
  obtain ⟨p', ws, f1, f2, f3, f4, f5, f6, f7⟩ := r.ow j ys hy0
  have npp : p ≠ p' := fun e => by subst e; exact r.inj i j xs ys p hij hx0 hy0 h1 f1
  refine ⟨_, h1, .inl ⟨rfl, vs, SqL.of h2⟩, _, f1, .inl ⟨rfl, ws, SqL.of f2⟩, ?_⟩
  refine (he.run _ g _ σ H _ _ r.snapFine r.snapRel q (r.zsnap z)).mono fun v H' ⟨c', g', d, s, k, rr, q1, n, yy, rr', ed, ep, hl, q'⟩ => ?_
  subst ed
  cases rr
  obtain ⟨r', n', s'⟩ := r.unsnap s k q1
  obtain ⟨m1, m2, m3, m4⟩ := s'.mine h2 h4 h5 h6
  obtain ⟨l1, l2, l3, l4⟩ := s'.mine f2 f4 f5 f6
  have h3' : Reps B X.K (cutC c' ρ σ) vs xs := h3.mono s'.le
  have f3' : Reps B X.K (cutC c' ρ σ) ws ys := f3.mono s'.le
  unfold popAt at ep
  split at ep
  · rename_i hn
    rw [Option.bind_eq_some_iff] at ep
    obtain ⟨kk, e1, e2⟩ := ep
    rw [Option.map_eq_some_iff] at e2
    obtain ⟨d, e3, e4⟩ := e2
    cases e4
    obtain ⟨w, e5, e6⟩ := f3'.getD e3
    refine ⟨p', ws, n, kk, w, rfl, rfl, l1, hn.1, hn.2, by rw [f3'.length]; exact e1, e5, p, vs, w, rfl, rfl, by rw [upd_ne npp]; exact m1, by rw [h3'.length]; exact hl, cutC c' ρ σ, g', _, ?_, q'⟩
    have r2 := r'.put hy0 f1 (f3'.erase kk)
    have hx1 : (ρ.set j (.ow (ys.eraseIdx kk)))[i]? = some (.ow xs) := by rw [List.getElem?_set_ne (Ne.symm hij)]; exact hx0
    exact r2.put hx1 h1 (h3'.append (.cons e6 .nil))
  · cases ep
end
end DL

namespace DL
open PySem L2 PyProof.Rows
/-! ### an exception that was caught is held as a value -/
def xcHO (cls : Value) (a : Addr) (d : Option Addr) : HO := .ext fun h => ∃ o vs, h.get? a = some o ∧ o.cls = cls ∧ o.dict = d ∧ o.data = .fields vs
theorem Inv.hold {X : Cx} {pins : List (Addr × Obj)} {σ : L2.St} {H : Hp} {s : Shared} {a : Addr} {oe : Obj} {vs : Array Value} {cls : Value} {d : Option Addr} (J : L2.Inv X pins σ H s) (ha : s.heap.get? a = some oe) (hz : Zc cls d oe) (hd : oe.data = .fields vs) (hH : H a = none) (hL : a ≠ X.env.locals)
    (hp : ∀ p ∈ X.pn ++ pins, p.1 ≠ a) (h0 : ∀ o, X.s_0.heap.get? a ≠ some o) : L2.Inv X pins σ (upd H a (xcHO cls a d)) s := by
  have nn : ∀ b u, H b = some u → b ≠ a := fun b u e z => by rw [z, hH] at e; cases e
  refine ⟨J.ok, J.os, J.bare, ⟨J.base.keep, J.base.slot, fun b o e n hx => ?_, J.base.there, fun b xs e => ?_, fun b o u e => ?_, fun b ps e => ?_⟩, J.loc, J.cell, ?_, fun x c e => ?_, fun p q => ?_, fun b u e => ?_, J.len⟩
  · rw [upd_ne (fun z => h0 o (by rw [← z]; exact e))]; exact J.base.free b o e n hx
  · have q := J.base.tups b xs e
    rw [upd_ne (nn _ _ q)]; exact q
  · have q := J.base.frzs b o u e
    rw [upd_ne (nn _ _ q)]; exact q
  · obtain ⟨m, q⟩ := J.base.tbls b ps e
    exact ⟨m, by rw [upd_ne (nn _ _ q)]; exact q⟩
  · rw [upd_ne (Ne.symm hL)]; exact J.free
  · rw [upd_ne]
    · exact J.freeC x c e
    · intro z
      obtain ⟨v, o, ho, hdd⟩ := J.cell x c e
      rw [z, ha] at ho
      cases ho
      rw [hd] at hdd; cases hdd
  · obtain ⟨e1, e2, e3, e4, e5⟩ := J.pin p q
    exact ⟨e1, by rw [upd_ne (hp p q)]; exact e2, e3, e4, e5⟩
  · by_cases hb : b = a
    · subst hb
      rw [upd_same] at e
      cases e
      refine ⟨⟨oe, vs, ha, hz.1, hz.2, hd⟩, ⟨oe, ha⟩, fun h1 h2 ⟨o, ws, q1, q2, q3, q4⟩ k => ⟨o, ws, k o q1, q2, q3, q4⟩⟩
    · rw [upd_ne hb] at e
      exact (J.hok b u e).stay (fun _ _ _ q => q) (fun c q => by rw [upd_ne (nn _ _ q)]; exact q) fun c xs q => by rw [upd_ne (nn _ _ q)]; exact q
/-- what the clause wants of an exception of the body -/
def wKeep (K : PySem.W.Frag) (c : Value) (i j : Nat) (Wout : WX) (nx : L2.St → Hp → Prop) : WX := fun cls d σ H =>
  ∃ b, PySem.W.exmOne K cls c = some b ∧ (b = true → ∀ a, H a = none → nx (((σ.set i (some (.ref a))).set j (some (.ref a))).set i none) (upd H a (xcHO cls a d))) ∧ (b = false → Wout cls d σ H)
section
variable {X : Cx} {x n y : Str} {c : Value} {i j : Nat} {body : List Stmt} {np py pn3 pos3 pos pos' : Pos} {tb : WX → TS} {Wout : WX}
/-- try: body / except x as n: y = n -/
theorem ps_try_keep (hs : X.stack = X.env :: X.outer) (hf : X.env.frame = some X.env.locals) (hex : X.ex = []) (hN : X.N.Nodup) (hi : X.N[i]? = some n) (hj : X.N[j]? = some y) (hln : X.env.kindOf n = some .local) (hly : X.env.kindOf y = some .local) (hc : Names X x c) (tk : Takes X Wout)
    (hb : ∀ (W : WX) (pn : List (Addr × Obj)) (xe : Value → Shared → Prop), Takes (X.tr pn xe) W → PassesOwn (model X.prog X.w) X.A X.env xe → PSs (X.tr pn xe) body (tb W))
    (hsw : swapsWith (.Name n pn3) (some (.Name y py)) pos3.line X.env = pure false := by rfl) (hdn : (n == ("__debug__" : Str)) = false := by decide) (hcd : (n == ("__classdict__" : Str)) = false := by decide) :
    PS X (.Try body [.ExceptHandler (some (.Name x np)) (some n) [.Assign [.Name y py] (.Name n pn3) pos3] pos'] [] [] pos) (fun D σ H => tb (wKeep X.K c i j Wout D.nx) D σ H) := by
  refine ⟨fun pins s σ H D I h => ?_⟩
  have okX := I.ok
  have frm : X.A.frames = some (X.env :: X.outer) := by rw [okX.frames, hs]
  refine wpAny_Try_except ?_
  refine wpAny_mono ((hb (wKeep X.K c i j Wout D.nx) (X.pn ++ pins) (fun e s₁ => wpAny (model X.prog X.w) X.A (noteFrame e X.env) (fun _ s₂ => wpAny (model X.prog X.w) X.A (setFlight e none) (fun _ s₃ =>
    wpAny (model X.prog X.w) X.A (handleBy e X.env [.ExceptHandler (some (.Name x np)) (some n) [.Assign [.Name y py] (.Name n pn3) pos3] pos']) (SP X pins D) X.xe s₃) X.xe s₂) X.xe s₁) (fun u s' air => ?_) PassesOwn.looking).run [] s σ H D (I.toTry _) h) (fun f s1 fin => ?_) (fun e s1 he => he)
  · obtain ⟨a, G, sI, pins', σ', H', cls, d, rfl, J0, nb, up, sky, na, os, ag, b, hb1, yes, no⟩ := air
    have J : L2.Inv X pins σ' H' sI := J0.ofTry okX
    have sk : Sky G (X.env :: X.outer) a (Zc cls d) X.env.locals s'.heap := by rw [← hs]; exact sky
    show wpAny (model X.prog X.w) X.A (noteFrame (.ref a) X.env) _ _ _
    refine Sky.land Zc.steady frm hf sk fun h3 fl3 up3 => ?_
    have J3 : L2.Inv X pins σ' H' { s' with heap := h3 } := J.landed nb fl3.1 (up.trans up3) os ag
    obtain ⟨oe3, vs3, at3, z3, d3⟩ := fl3.there
    have out : a ∉ frs (X.env :: X.outer) := fun hm => by
      obtain ⟨_, o', e', hnf⟩ := fl3.2.2.1.mem hm
      rw [at3] at e'; cases e'
      exact hnf _ d3
    have nL : a ≠ X.env.locals := fun z => out (List.mem_filterMap.mpr ⟨X.env, List.mem_cons_self, by rw [hf, z]⟩)
    have nF : a ∉ X.fs := fun hm => by
      obtain ⟨ev, hev, q⟩ := List.mem_filterMap.mp hm
      exact out (List.mem_filterMap.mpr ⟨ev, List.mem_cons_of_mem _ hev, q⟩)
    have notI : ∀ o, sI.heap.get? a ≠ some o := fun o z => by
      have q := nb a o z (by rw [hs]; exact out)
      rw [fl3.2.1] at q; cases q
    have not0 : ∀ o, X.s_0.heap.get? a ≠ some o := fun o z => by
      obtain ⟨o', q⟩ := J.base.there a o z (by rw [hex]; simp)
      exact notI o' q
    have notP : ∀ p ∈ X.pn ++ pins, p.1 ≠ a := fun p hp z => notI p.2 (by rw [← z]; exact (J.pin p hp).1)
    have S3 := J3.suite at3 d3 na nL nF
    refine wpAny_handleBy_cons (codeAny_handlers_test ?_) (by intro q; cases q)
    have ty : PySem.W.Looks (model X.prog X.w) h3 (typeOf (.ref a)) cls := fun A Q E s k q => wpAny_typeOf_ref (k _ _ at3) (by rw [z3.1]; exact q)
    have mt := PySem.W.exm_one (M := model X.prog X.w) (J3.kIn) ty hb1
    have look : ∀ {Q : Value → Shared → Prop} {E : Value → Shared → Prop}, Q c { s' with heap := h3 } → wpAny (model X.prog X.w) (X.A.mark (some (.ref a))) (eval (.Name x np) X.env) Q E { s' with heap := h3 } := fun {Q E} q => by
      obtain ⟨hg, hdbg, hm | ⟨hm, hv, hnn⟩⟩ := hc
      · exact ld_glob (X := X.suite a ((a, oe3) :: (X.pn ++ pins))) S3 hg hm q hdbg
      · exact ld_blt (X := X.suite a ((a, oe3) :: (X.pn ++ pins))) S3 hg hm hv q hnn hdbg
    refine look (mt.here ?_)
    cases b with
    | true =>
      refine codeAny_handlers_suite_as ?_
      refine HandSPX.lands_againZ fl3 fun h4 fl4 up4 => ?_
      have J4 : L2.Inv X pins σ' H' { s' with heap := h4 } := J.landed nb fl4.1 ((up.trans up3).trans up4) os ag
      obtain ⟨oe4, vs4, at4, z4, d4⟩ := fl4.there
      have S4 := J4.suite at4 d4 na nL nF
      refine store_ok (X := X.suite a ((a, oe4) :: (X.pn ++ pins))) (v := .ref a) S4 hN hi (.inl hln) rfl (fun s5 S5 => ?_) (.inr hln)
      have asg : PSs (X.suite a ((a, oe4) :: (X.pn ++ pins))) [.Assign [.Name y py] (.Name n pn3) pos3] (tAsg (tVar i) (gName j)) :=
        pss_one (ps_set (X := X.suite a ((a, oe4) :: (X.pn ++ pins))) hN hj (.inl hly) (pe_var (X := X.suite a ((a, oe4) :: (X.pn ++ pins))) hi (.inl hln) hdn hcd) hsw (.inr hly))
      have hil : i < σ'.length := by rw [J.len]; exact (List.getElem?_eq_some_iff.mp hi).1
      refine wpAny_mono (asg.run [] s5 _ H' { nx := fun σ6 H6 => σ6 = (σ'.set i (some (.ref a))).set j (some (.ref a)) ∧ H6 = H', rt := fun _ _ => False } S5 ⟨_, List.getElem?_set_self hil, rfl, rfl⟩) (fun f s6 fin => ?_) (fun _ _ z => False.elim z)
      cases f with
      | next =>
        obtain ⟨σ6, H6, S6, e6, e7⟩ := fin
        subst e6 e7
        have P6 := (S6.pin (a, oe4) (by simp)).1
        refine gone_ok (Inv.hold (S6.unsuite okX) P6 z4 d4 na nL notP not0) hN hi hln fun s7 J7 => ?_
        exact ⟨_, _, J7, yes rfl a na⟩
      | brk => obtain ⟨_, _, _, q⟩ := fin; exact q.elim
      | cont => obtain ⟨_, _, _, q⟩ := fin; exact q.elim
      | ret u => obtain ⟨_, _, _, _, _, q⟩ := fin; exact q.elim
    | false =>
      show wpAny _ X.A (handleBy (.ref a) X.env []) _ _ _
      refine wpAny_handleBy_nil ?_
      obtain ⟨k1, k2, k3, oe, vs, T, oT, tsx, he, hz, hd, h1, hr⟩ := id fl3
      unfold PySem.passOn
      refine wpAny_bind (wpAny_field he hd h1 ?_)
      rw [if_neg (show ¬ ((Value.ref T == Value.none) = true) from by simp)]
      have onward : wpAny (model X.prog X.w) X.A (setFlight (.ref a) X.env.frame) (fun _ s4 => wpAny (model X.prog X.w) X.A (throw (.ref a) : Sem Flow) (SP X pins D) X.xe s4) X.xe { s' with heap := h3 } := by
        rw [hf]
        refine HandSPX.setFlight_upZ fl3 fun h4 hh4 up4 => wpAny_throw (tk _ _ ?_)
        exact ⟨a, G, sI, pins, σ', H', cls, d, rfl, J, nb, (up.trans up3).trans up4, .inr (.inr (by rw [hs]; exact hh4)), na, os, ag, no rfl⟩
      first
        | exact wpAny_bind (wpAny_pure (wpAny_bind onward))
        | exact wpAny_bind onward
  · cases f with
    | next => obtain ⟨σ', H', J', q⟩ := fin; exact wpAny_execs_nil ⟨σ', H', J'.ofTry okX, q⟩
    | brk => obtain ⟨σ', H', J', q⟩ := fin; exact ⟨σ', H', J'.ofTry okX, q⟩
    | cont => obtain ⟨σ', H', J', q⟩ := fin; exact ⟨σ', H', J'.ofTry okX, q⟩
    | ret u => obtain ⟨v, σ', H', J', r, q⟩ := fin; exact ⟨v, σ', H', J'.ofTry okX, r, q⟩
end
end DL

namespace DL
open PySem L2 PyProof.Rows
/-! ### an exception class whose __init__ stores its arguments -/
/-- self.f = f for each of the names -/
def isInit : List Str → List Stmt → Bool
  | [], [] => true
  | f :: fs, .Assign [.Attribute (.Name s _) h _] (.Name e _) _ :: r => s == "self" && h == f && e == f && !(f == "__debug__") && !(f == "__classdict__") && isInit fs r
  | _, _ => false
def spX (K : PySem.W.Frag) (fns : List Str) : Sp := fun vs H Q _ => ∃ (a C : Addr) (ws : List V), vs = .ref a :: ws ∧ ws.length = fns.length ∧ OexC K C ∧ (∀ f ∈ fns, PySem.W.findIn K (.ref C) f = some none) ∧ H a = some (exo a C none) ∧
  ∀ dx, H dx = none → dx ≠ a → Q .non (upd (upd H dx (exd dx (fns.zip ws).reverse)) a (exo a C (some dx)))
theorem upd_upd {H : Hp} {a : Addr} {o u : HO} : upd (upd H a o) a u = upd H a u := by
  funext b
  by_cases e : b = a
  · subst e; rw [upd_same, upd_same]
  · rw [upd_ne e, upd_ne e, upd_ne e]
theorem upd_swap {H : Hp} {a b : Addr} {o u : HO} (h : a ≠ b) : upd (upd H a o) b u = upd (upd H b u) a o := by
  funext c
  by_cases e : c = a
  · subst e; rw [upd_same, upd_ne h, upd_same]
  · by_cases e2 : c = b
    · subst e2; rw [upd_same, upd_ne e, upd_same]
    · rw [upd_ne e2, upd_ne e, upd_ne e, upd_ne e2]
theorem upd_id {H : Hp} {a : Addr} {o : HO} (h : H a = some o) : upd H a o = H := by
  funext b
  by_cases e : b = a
  · subst e; rw [upd_same, h]
  · rw [upd_ne e]
theorem init_cons {f : Str} {fns : List Str} {body : List Stmt} (h : isInit (f :: fns) body = true) : ∃ p1 p2 p3 p4 r, body = .Assign [.Attribute (.Name "self" p1) f p2] (.Name f p3) p4 :: r ∧ (f == ("__debug__" : Str)) = false ∧ (f == ("__classdict__" : Str)) = false ∧ isInit fns r = true := by
  unfold isInit at h
  split at h
  · rename_i _ e; cases e
  · rename_i f' fs s p1 hh p2 e p3 p4 r e1
    cases e1
    simp only [Bool.and_eq_true, Bool.not_eq_true', beq_iff_eq] at h
    obtain ⟨⟨⟨⟨⟨rfl, rfl⟩, rfl⟩, h1⟩, h2⟩, h3⟩ := h
    exact ⟨p1, p2, p3, p4, r, rfl, h1, h2, h3⟩
  · cases h
theorem init_rest {X : Cx} {a C dx : Addr} {σ : L2.St} {En : L2.Ends} (T : OexC X.K C) (h0 : X.N[0]? = some ("self" : Str)) (hs0 : σ[0]? = some (some (.ref a))) (hv : ∀ (i : Nat) (x : Str), X.N[i]? = some x → Vis X.env.scope x) (hda : dx ≠ a) :
    ∀ (fns : List Str) (body : List Stmt) (i : Nat) (ws : List V) (fs : List (Str × V)) (H : Hp), isInit fns body = true → (∀ f ∈ fns, PySem.W.findIn X.K (.ref C) f = some none) → ws.length = fns.length → (∀ (k : Nat) (f : Str), fns[k]? = some f → X.N[i + k]? = some f) →
      (∀ (k : Nat) (w : V), ws[k]? = some w → σ[i + k]? = some (some w)) → fs.length + fns.length ≤ 900 → H a = some (exo a C (some dx)) → H dx = some (exd dx fs) → En.nx σ (upd H dx (exd dx ((fns.zip ws).reverse ++ fs))) → semSs X body En σ H := by
  intro fns
  induction fns with
  | nil =>
    intro body i ws fs H hb _ hl _ _ _ ha hd q
    cases body with
    | cons _ _ => cases hb
    | nil =>
      cases ws with
      | cons _ _ => cases hl
      | nil =>
        refine semSs_of pss_nil ?_
        simp only [List.zip_nil_left, List.reverse_nil, List.nil_append] at q
        rw [upd_id hd] at q
        exact q
  | cons f fns ih =>
    intro body i ws fs H hb hno hl hN hσ hlen ha hd q
    obtain ⟨p1, p2, p3, p4, r, rfl, d1, d2, hb⟩ := init_cons hb
    cases ws with
    | nil => cases hl
    | cons w ws =>
      have hf : X.N[i]? = some f := hN 0 f rfl
      refine semSs_of (pss_cons (ps_ost (pe_var h0 (hv 0 _ h0) (by decide) (by decide)) (pe_var hf (hv i f hf) d1 d2)) pss_sem) ?_
      refine ⟨w, hσ 0 w rfl, .ref a, hs0, a, C, rfl, T, hno f List.mem_cons_self, .inr ⟨dx, fs, ha, hd, by simp at hlen; omega, ?_⟩⟩
      refine ih r (i + 1) ws ((f, w) :: fs) _ hb (fun g hg => hno g (List.mem_cons_of_mem _ hg)) (by simpa using hl) (fun k g hg => by rw [Nat.add_right_comm]; exact hN (k + 1) g (by simpa using hg)) (fun k g hg => by rw [Nat.add_right_comm]; exact hσ (k + 1) g (by simpa using hg)) (by simp at hlen ⊢; omega) ?_ upd_same ?_
      · rw [upd_ne (Ne.symm hda)]; exact ha
      · rw [upd_upd]
        simpa using q
theorem init_first {X : Cx} {a C : Addr} {σ : L2.St} {En : L2.Ends} (T : OexC X.K C) (h0 : X.N[0]? = some ("self" : Str)) (hs0 : σ[0]? = some (some (.ref a))) (hv : ∀ (i : Nat) (x : Str), X.N[i]? = some x → Vis X.env.scope x) {f : Str} {fns : List Str} {body : List Stmt} {w : V} {ws : List V} {H : Hp}
    (hb : isInit (f :: fns) body = true) (hno : ∀ g ∈ f :: fns, PySem.W.findIn X.K (.ref C) g = some none) (hl : ws.length = fns.length) (hN : ∀ (k : Nat) (g : Str), (f :: fns)[k]? = some g → X.N[1 + k]? = some g) (hσ : ∀ (k : Nat) (g : V), (w :: ws)[k]? = some g → σ[1 + k]? = some (some g)) (hlen : fns.length ≤ 800)
    (ha : H a = some (exo a C none)) (q : ∀ dx, H dx = none → dx ≠ a → En.nx σ (upd (upd H dx (exd dx ((f :: fns).zip (w :: ws)).reverse)) a (exo a C (some dx)))) : semSs X body En σ H := by
  obtain ⟨p1, p2, p3, p4, r, rfl, d1, d2, hb⟩ := init_cons hb
  have hf : X.N[1]? = some f := hN 0 f rfl
  refine semSs_of (pss_cons (ps_ost (pe_var h0 (hv 0 _ h0) (by decide) (by decide)) (pe_var hf (hv 1 f hf) d1 d2)) pss_sem) ?_
  refine ⟨w, hσ 0 w rfl, .ref a, hs0, a, C, rfl, T, hno f List.mem_cons_self, .inl ⟨ha, fun dx n1 n2 => ?_⟩⟩
  refine init_rest T h0 hs0 hv n2 fns r 2 ws [(f, w)] _ hb (fun g hg => hno g (List.mem_cons_of_mem _ hg)) hl (fun k g hg => by rw [show 2 + k = 1 + (k + 1) by omega]; exact hN (k + 1) g (by simpa using hg)) (fun k g hg => by rw [show 2 + k = 1 + (k + 1) by omega]; exact hσ (k + 1) g (by simpa using hg)) (by simp; omega) upd_same (by rw [upd_ne n2, upd_same]) ?_
  rw [upd_swap (Ne.symm n2), upd_upd]
  have := q dx n1 n2
  simpa using this
/-- such an __init__ keeps its promise -/
theorem xinit_ok {P : Program} {w : World} {K : PySem.W.Frag} {mg : Str → Option Value} {base : Heap} {qual f : Str} {st : Stmt} {fa : Addr} {fd : FuncData} {fns : List Str} (F : Fun K "__init__" qual st fa fd) (Sc : FnScope ("self" :: f :: fns) ("self" :: f :: fns) (defScope st)) (hb : isInit (f :: fns) (defBody st) = true) (hlen : fns.length ≤ 800) :
    FnOk P w K mg base (L2.CX P w) 1 fa fd ("self" :: f :: fns) (spX K (f :: fns)) := by
  refine F.okX Sc (fun vs H Q E ⟨a, C, ws, h1, h2, _⟩ => by subst h1; simp [h2]) fun cdv A outer s H vs Q E hr ⟨a, C, ws, h1, h2, T, hno, ha, q⟩ => ⟨_, pss_sem, ?_⟩
  subst h1
  cases ws with
  | nil => cases h2
  | cons y ws =>
    refine init_first (fns := fns) (f := f) (w := y) (ws := ws) (C := C) (a := a) T rfl (by rfl) (fun i x h => ?_) hb hno (by simpa using h2) (fun k g hg => by rw [Nat.add_comm]; exact hg) (fun k g hg => ?_) hlen ha fun dx n1 n2 => q dx n1 n2
    · rcases Sc.par x (List.mem_of_getElem? h) with z | z
      · exact .inl z
      · exact .inr (.inl z)
    · unfold L2.start
      rw [Nat.add_comm, List.getElem?_append_left (by simp; have := (List.getElem?_eq_some_iff.mp hg).1; simp at this; omega), List.getElem?_map]
      simp at hg ⊢
      exact hg
end DL

namespace DL
open PySem L2 PyProof.Rows
/-! ### raise -/
/-- an exception class by its name: its number, what its __init__ stores -/
structure XC (B : Tb) (P : Program) (w : World) (K : PySem.W.Frag) (mg : Str → Option Value) (base : Heap) (x : Str) (i : Nat) (fns : List Str) : Prop where
  ex : ∃ fI fd, OexC K (B.ct i) ∧ PySem.W.findIn K (.ref (B.ct i)) "__init__" = some (some (.ref fI)) ∧ PySem.W.typeIn K (.ref fI) = some (.type "function") ∧
    FnOk P w K mg base (L2.CX P w) 1 fI fd ("self" :: fns) (spX K fns) ∧ Binds K fd ("self" :: fns) [] ∧ mg x = some (.ref (B.ct i)) ∧ ∀ f ∈ fns, PySem.W.findIn K (.ref (B.ct i)) f = some none
/-- .. without __init__ -/
structure XC0 (B : Tb) (K : PySem.W.Frag) (mg : Str → Option Value) (x : Str) (i : Nat) : Prop where
  ex : ∃ bmB Bn newId initId, ExcBaseFacts Bn newId initId bmB ∧ PySem.W.excIn K (B.ct i) bmB newId = true
  mg : mg x = some (.ref (B.ct i))
  kp : PySem.W.keepIn K (.ref (B.ct i)) = true
  sub : PySem.W.subIn K (.ref (B.ct i)) (.type "BaseException") = some true
  ty : PySem.W.typeIn K (.ref (B.ct i)) = some (.type "type")
def fieldsOf (fns : List Str) (xs : List D) : List (Str × D) := (fns.zip xs).reverse
def dRaise (i : Nat) (fns : List Str) (tr : DA) : DS := fun En ρ g => tr (mask ρ) g (fun xs g' => En.xz ⟨i, fieldsOf fns xs⟩ ρ g') fun ex g' => En.xz ex ρ g'
theorem Reps.zipF {B : Tb} {K : PySem.W.Frag} {c : Cn} : ∀ {vs : List V} {ds : List D} (fns : List Str), Reps B K c vs ds → RepF B K c (fns.zip vs) (fns.zip ds)
  | _, _, [], _ => by simp; exact .nil
  | _, _, _ :: _, .nil => by simp; exact .nil
  | _, _, f :: fns, .cons r t => by
    rw [List.zip_cons_cons, List.zip_cons_cons]
    exact .cons r (Reps.zipF fns t)
theorem RepF.append {B : Tb} {K : PySem.W.Frag} {c : Cn} : ∀ {vs ws : List (Str × V)} {ds es : List (Str × D)}, RepF B K c vs ds → RepF B K c ws es → RepF B K c (vs ++ ws) (ds ++ es)
  | _, _, _, _, .nil, s => s
  | _, _, _, _, .cons r t, s => .cons r (RepF.append t s)
theorem RepF.rev {B : Tb} {K : PySem.W.Frag} {c : Cn} : ∀ {vs : List (Str × V)} {ds : List (Str × D)}, RepF B K c vs ds → RepF B K c vs.reverse ds.reverse
  | _, _, .nil => .nil
  | _, _, .cons r t => by
    rw [List.reverse_cons, List.reverse_cons]
    exact (RepF.rev t).append (.cons r .nil)
theorem RepF.look {B : Tb} {K : PySem.W.Frag} {c : Cn} {f : Str} : ∀ {vs : List (Str × V)} {ds : List (Str × D)} {d : D}, RepF B K c vs ds → ds.lookup f = some d → ∃ v, vs.lookup f = some v ∧ Rep B K c v d
  | _, _, _, .nil, h => by cases h
  | _, _, d, .cons (k := k) (v := v) (d := d') r t, h => by
    rw [List.lookup_cons] at h ⊢
    cases e : f == k with
    | true => rw [e] at h; cases h; exact ⟨v, rfl, r⟩
    | false => rw [e] at h; exact RepF.look t h
theorem RepF.lookN {B : Tb} {K : PySem.W.Frag} {c : Cn} {f : Str} : ∀ {vs : List (Str × V)} {ds : List (Str × D)}, RepF B K c vs ds → ds.lookup f = none → vs.lookup f = none
  | _, _, .nil, h => rfl
  | _, _, .cons (k := k) (v := v) (d := d') r t, h => by
    rw [List.lookup_cons] at h ⊢
    cases e : f == k with
    | true => rw [e] at h; cases h
    | false => rw [e] at h; exact RepF.lookN t h
theorem del_upd {H : Hp} {a d : Addr} {o u o' : HO} {F : HO} (hda : d ≠ a) (ha : H a = none) : upd (L2.del (upd (upd (upd H a o) d u) a o') a) d F = upd H d F := by
  funext b
  by_cases e : b = d
  · subst e; rw [upd_same, upd_same]
  · rw [upd_ne e, upd_ne e]
    by_cases e2 : b = a
    · subst e2; rw [L2.del_same, ha]
    · rw [L2.del_ne e2, upd_ne e2, upd_ne e, upd_ne e2]
section
variable {B : Tb} {X : Cx} {W : WX} {H₀ : En} {L : Nat} {x : Str} {p pos pos' : Pos} {e : Expr} {es : List Expr} {tr : DA} {i : Nat} {fns : List Str}
theorem mk_sem (F : XC B X.prog X.w X.K X.mg X.base x i fns) (C : Ctx L X W) (hL : 2 ≤ L) (hg : Gl X x) (ha : WA B X W (e :: es) tr) (hn : (e :: es).length = fns.length) (hsmall : fns.length ≤ 1000) (hdb : (x == ("__debug__" : Str)) = false) (he : starEach (e :: es) X.env = (false, eval e X.env) :: starEach es X.env)
    (hpl : (backTo pos (starEach es X.env)).any (·.1) = false) : ∃ t, PMk X (.Call (.Name x p) (e :: es) [] pos) t ∧ ∀ (c : Cn) (g : Gh) (ρ : DEnv) (σ : L2.St) (H : Hp) (R Z : DZ) (Q : XK), Fine B X.K c g H → RelP B X.K c ρ σ → tr ρ g (fun xs g' => R ⟨i, fieldsOf fns xs⟩ g') Z → ZOk B X.K c H σ W Z →
      (∀ c' H' g' ex cls d, Grow c H c' H' → Fine B X.K c' g' H' → ExR B X.K c' cls d ex → R ex g' → Q cls d H') → t σ H Q := by
  obtain ⟨fI, fd, T, iC, tI, F1, hb, hm, hno⟩ := F.ex
  refine ⟨_, pmk_oex (dvs := []) (ds := []) T iC tI F1 (C.room.mono hL) hb .nil (fun _ _ _ _ _ _ _ h => passL _ _ _ _ _ _ ‹_› h) hg hm pa_sem hdb he hpl, fun c g ρ σ H R Z Q k rl h z hq => ?_⟩
  refine (ha.run c g ρ σ H _ Z k rl h z).mono fun vs H1 ⟨c1, g1, ds, s1, k1, rs, hl, q1⟩ => ?_
  have hvl : vs.length = fns.length := by rw [rs.length, hl]; exact hn
  refine ⟨by omega, fun a hna => ?_⟩
  rw [List.append_nil]
  refine ⟨a, B.ct i, vs, rfl, hvl, T, hno, upd_same, fun dx hdx hda => ⟨rfl, dx, _, upd_same, by rw [upd_ne hda, upd_same], by rw [upd_ne hda] at hdx; exact hdx, ?_⟩⟩
  rw [upd_ne hda] at hdx
  rw [del_upd hda hna]
  obtain ⟨s2, k2⟩ := k1.lay (o := .xd ((fns.zip vs).reverse)) hdx
  exact hq _ _ g1 _ _ _ (s1.trans s2) k2 ⟨rfl, .inr ⟨dx, _, rfl, upd_same, ((rs.mono s2.le).zipF fns).rev⟩⟩ q1
theorem ws_raise (F : XC B X.prog X.w X.K X.mg X.base x i fns) (C : Ctx L X W) (hL : 2 ≤ L) (hg : Gl X x) (ha : WA B X W (e :: es) tr) (hn : (e :: es).length = fns.length := by rfl) (hsmall : fns.length ≤ 1000 := by decide) (hdb : (x == ("__debug__" : Str)) = false := by decide)
    (he : starEach (e :: es) X.env = (false, eval e X.env) :: starEach es X.env := by rfl) (hpl : (backTo pos (starEach es X.env)).any (·.1) = false := by rfl) : WS B X W H₀ (.Raise (some (.Call (.Name x p) (e :: es) [] pos)) none pos') (dRaise i fns tr) := by
  obtain ⟨t, ht, hq⟩ := mk_sem (p := p) F C hL hg ha hn hsmall hdb he hpl
  refine ⟨fun c₀ c g ρ σ H D r q z => semS_of (ps_raise C.calm C.tk ht) ?_⟩
  exact hq c g _ σ H (fun ex g' => D.xz ex ρ g') (fun ex g' => D.xz ex ρ g') _ r.fine r.mask q (r.zok z) fun c' H' g' ex cls d s k e' q' => z c' g' ρ σ H' ex cls d (r.next s k) e' q'
/-- .. looking at lists of ours -/
def dRaiseS (i : Nat) (fns : List Str) (tr : DA) : DS := fun En ρ g => tr (snap ρ) g (fun xs g' => okG g g' = true ∧ nlf (fieldsOf fns xs) = true ∧ En.xz ⟨i, fieldsOf fns xs⟩ ρ g') fun ex g' => okG g g' = true ∧ nlf ex.fs = true ∧ En.xz ex ρ g'
theorem ws_raiseS (F : XC B X.prog X.w X.K X.mg X.base x i fns) (C : Ctx L X W) (hL : 2 ≤ L) (hg : Gl X x) (ha : WA B X W (e :: es) tr) (hn : (e :: es).length = fns.length := by rfl) (hsmall : fns.length ≤ 1000 := by decide) (hdb : (x == ("__debug__" : Str)) = false := by decide)
    (he : starEach (e :: es) X.env = (false, eval e X.env) :: starEach es X.env := by rfl) (hpl : (backTo pos (starEach es X.env)).any (·.1) = false := by rfl) : WS B X W H₀ (.Raise (some (.Call (.Name x p) (e :: es) [] pos)) none pos') (dRaiseS i fns tr) := by
  obtain ⟨t, ht, hq⟩ := mk_sem (p := p) F C hL hg ha hn hsmall hdb he hpl
  refine ⟨fun c₀ c g ρ σ H D r q z => semS_of (ps_raise C.calm C.tk ht) ?_⟩
  exact hq _ g _ σ H (fun ex g' => okG g g' = true ∧ nlf ex.fs = true ∧ D.xz ex ρ g') (fun ex g' => okG g g' = true ∧ nlf ex.fs = true ∧ D.xz ex ρ g') _ r.snapFine r.snapRel q (r.zsnap z) (r.zsnap z)
/-- raise X('m'), X without __init__ -/
def dRaise0 (i : Nat) : DS := fun En ρ g => En.xz ⟨i, []⟩ ρ g
theorem ws_raise0 {m : Str} {j : Nat} {p2 : Pos} (F : XC0 B X.K X.mg x i) (C : Ctx L X W) (hg : Gl X x) (hdb : (x == ("__debug__" : Str)) = false := by decide) : WS B X W H₀ (.Raise (some (.Call (.Name x p) [.Constant (.str m) j p2] [] pos)) none pos') (dRaise0 i) := by
  obtain ⟨bmB, Bn, newId, initId, F1, q1⟩ := F.ex
  refine ⟨fun c₀ c g ρ σ H D r q z => semS_of (ps_raise C.calm C.tk (pmk_own F1 q1 F.mg F.kp (raises_own F.sub F.ty) hg hdb)) ?_⟩
  exact z c g ρ σ H ⟨i, []⟩ _ _ r ⟨rfl, .inl ⟨rfl, rfl⟩⟩ q
end
/-! ### try: .. except X as n: y = n -/
theorem RelS.unset {B : Tb} {K : PySem.W.Frag} {c₀ c : Cn} {H₀ : En} {H : Hp} {g : Gh} {ρ : SEnv} {σ : L2.St} (r : RelS B K c₀ H₀ c g ρ σ H) {i : Nat} : RelS B K c₀ H₀ c g (ρ.set i .un) (σ.set i none) H := by
  have get : ∀ (j : Nat) (x : SV), x ≠ .un → (ρ.set i .un)[j]? = some x → j ≠ i ∧ ρ[j]? = some x := fun j x hx h => by
    by_cases e : i = j
    · subst e
      by_cases hl : i < ρ.length
      · rw [List.getElem?_set_self hl] at h
        exact absurd (Option.some.inj h).symm hx
      · rw [List.getElem?_eq_none (by simpa using hl)] at h; cases h
    · rw [List.getElem?_set_ne e] at h
      exact ⟨fun z => e z.symm, h⟩
  have same : ∀ {j : Nat}, j ≠ i → (σ.set i none)[j]? = σ[j]? := fun h => List.getElem?_set_ne (Ne.symm h)
  refine ⟨r.gr, r.fine, by rw [List.length_set, List.length_set]; exact r.len, fun j d' h => ?_, fun j ds h => ?_, fun j k ds es p hjk h1 h2 h3 => ?_, fun j q k fs ep h => ?_, fun j l k k' fs gs h1 h2 => ?_, ⟨r.th.1, r.th.2.1, fun j h => ?_⟩⟩
  rotate_right
  · obtain ⟨hj, h⟩ := get j _ (by simp) h
    rw [same hj]; exact r.th.2.2 j h
  · obtain ⟨hj, h⟩ := get j _ (by simp) h
    rw [same hj]; exact r.fz j d' h
  · obtain ⟨hj, h⟩ := get j _ (by simp) h
    rw [same hj]; exact r.ow j ds h
  · obtain ⟨hj, h1⟩ := get j _ (by simp) h1
    obtain ⟨hk, h2⟩ := get k _ (by simp) h2
    rw [same hj] at h3
    rw [same hk]; exact r.inj j k ds es p hjk h1 h2 h3
  · obtain ⟨hj, h⟩ := get j _ (by simp) h
    rw [same hj]; exact r.ob j q k fs ep h
  · obtain ⟨hj, h1⟩ := get j _ (by simp) h1
    obtain ⟨hk, h2⟩ := get l _ (by simp) h2
    exact r.ob1 j l k k' fs gs h1 h2
theorem xc_exc {C a : Addr} {d : Option Addr} : xcHO (.ref C) a d = excHO C a d := rfl
def dTry (f : Nat → Option Bool) (i j : Nat) (tb : DS) : DS := fun En ρ g => tb { En with xz := fun ex ρ' g' => ∃ b, f ex.c = some b ∧ if b = true then En.nx (((ρ'.set i (.fz (.exc ex.c ex.fs))).set j (.fz (.exc ex.c ex.fs))).set i .un) g' else En.xz ex ρ' g' } ρ g
section
variable {B : Tb} {X : Cx} {W : WX} {H₀ : En} {L : Nat} {x n y : Str} {i j : Nat} {body : List Stmt} {np py pn3 pos3 pos pos' : Pos} {tb : DS} {Rc : Value} {f : Nat → Option Bool}
theorem Ctx.tr (C : Ctx L X W) {pn : List (Addr × Obj)} {xe : Value → Shared → Prop} {W' : WX} (t : Takes (X.tr pn xe) W') : Ctx L (X.tr pn xe) W' := ⟨C.calm, C.room, C.gd, t⟩
theorem ws_try (C : Ctx L X W) (hs : X.stack = X.env :: X.outer) (hf : X.env.frame = some X.env.locals) (hex : X.ex = []) (hN : X.N.Nodup) (hi : X.N[i]? = some n) (hj : X.N[j]? = some y) (hln : X.env.kindOf n = some .local) (hly : X.env.kindOf y = some .local) (hc : Names X x Rc)
    (hx : ∀ k b, f k = some b → PySem.W.exmOne X.K (.ref (B.ct k)) Rc = some b)
    (hb : ∀ (pn : List (Addr × Obj)) (xe : Value → Shared → Prop) (W' : WX), Ctx L (X.tr pn xe) W' → PassesOwn (model X.prog X.w) X.A X.env xe → WB B (X.tr pn xe) W' H₀ body tb)
    (hsw : swapsWith (.Name n pn3) (some (.Name y py)) pos3.line X.env = pure false := by rfl) (hdn : (n == ("__debug__" : Str)) = false := by decide) (hcd : (n == ("__classdict__" : Str)) = false := by decide) :
    WS B X W H₀ (.Try body [.ExceptHandler (some (.Name x np)) (some n) [.Assign [.Name y py] (.Name n pn3) pos3] pos'] [] [] pos) (dTry f i j tb) := by
  refine ⟨fun c₀ c g ρ σ H D r q z => semS_of (ps_try_keep (tb := fun W' D' σ' H' => ∀ pn xe, Takes (X.tr pn xe) W' → PassesOwn (model X.prog X.w) X.A X.env xe → semSs (X.tr pn xe) body D' σ' H') hs hf hex hN hi hj hln hly hc C.tk (fun W' pn xe t p => ⟨fun pins s σ H D I h => h pn xe t p pins s I⟩) hsw hdn hcd) ?_⟩
  intro pn xe t p
  refine (hb pn xe _ (C.tr t) p).run c₀ c g ρ σ H { D with xz := fun ex ρ' g' => ∃ b, f ex.c = some b ∧ if b = true then D.nx (((ρ'.set i (.fz (.exc ex.c ex.fs))).set j (.fz (.exc ex.c ex.fs))).set i .un) g' else D.xz ex ρ' g' } r q fun c' g' ρ' σ' H' ex cls d r' er hq => ?_
  obtain ⟨b, e1, e2⟩ := hq
  obtain ⟨e3, e4⟩ := id er
  refine ⟨b, by rw [e3]; exact hx _ _ e1, fun hbt a ha => ?_, fun hbf => ?_⟩
  · subst hbt
    rw [e3, xc_exc]
    obtain ⟨s2, k2⟩ := r'.fine.lay (o := excHO (B.ct ex.c) a d) ha
    have r2 := r'.next s2 k2
    have rp : Rep B X.K { c' with F := upd c'.F a (excHO (B.ct ex.c) a d) } (.ref a) (.exc ex.c ex.fs) := by
      rcases e4 with ⟨e5, e6⟩ | ⟨dd, fs, e5, e6, e7⟩
      · rw [e6]
        subst e5
        exact .exc0 upd_same
      · subst e5
        refine .exc upd_same (?_ : upd c'.F a (excHO (B.ct ex.c) a (some dd)) dd = some (.xd fs)) (e7.mono s2.le)
        rw [upd_ne]
        · exact e6
        · intro h
          have h2 := r'.fine.sub _ _ e6
          rw [h, ha] at h2; cases h2
    exact ⟨_, g', _, ((r2.set (i := i) rp).set (i := j) rp).unset, e2⟩
  · subst hbf
    exact z c' g' ρ' σ' H' ex cls d r' er e2
end
/-! ### attributes -/
def attrD (f : Str) (is js : List Nat) : D → Option D
  | .obj i fs => if is.contains i = true then fs.lookup f else none
  | .exc i fs => if js.contains i = true then fs.lookup f else none
  | _ => none
structure AtOk (B : Tb) (K : PySem.W.Frag) (f : Str) (is js : List Nat) : Prop where
  o : ∀ i ∈ is, Cls K (B.ct i) ∧ NoAttr K (B.ct i) f
  x : ∀ i ∈ js, XfC K (B.ct i) ∧ PySem.W.findIn K (.ref (B.ct i)) f = some none
section
variable {B : Tb} {X : Cx} {W : WX} {e : Expr} {te : DE} {pos : Pos} {f : Str} {is js : List Nat}
theorem we_attr (A : AtOk B X.K f is js) (he : WE B X W e te) (hb : attributeBase e f X.env (eval e X.env) = eval e X.env := by rfl) : WE B X W (.Attribute e f pos) (dU (attrD f is js) te) := by
  refine ⟨fun c g ρ σ H Q Z k rl h z pins s I => ?_⟩
  refine attr_of hb (thn (he.run c g ρ σ H _ Z k rl h z pins s I) fun u s1 ⟨v, H1, I1, rx, c1, g1, d, gr, k1, r1, w, e1, q1⟩ => ?_)
  unfold attrD at e1
  split at e1
  · split at e1
    · rename_i i fs hi
      obtain ⟨a1, a2⟩ := A.o i (List.contains_iff_mem.mp hi)
      cases r1 with
      | obj h1 rf =>
        obtain ⟨v, l, rv⟩ := rf.look e1
        obtain rfl := (show u = Value.ref _ from rx)
        exact getattr_ok I1 (k1.sub _ _ h1) a1 a2 l fun u' s2 I2 ru => ⟨v, H1, I2, ru, c1, g1, w, gr, k1, rv, q1⟩
    · cases e1
  · split at e1
    · rename_i i fs hi
      obtain ⟨a1, a2⟩ := A.x i (List.contains_iff_mem.mp hi)
      cases r1 with
      | @exc a dd _ fv _ h1 h2 rf =>
        obtain ⟨v, l, rv⟩ := rf.look e1
        obtain rfl := (show u = Value.ref _ from rx)
        obtain ⟨⟨o, vs, o1, o2, o3, o4⟩, _⟩ := I1.hok a _ (k1.sub _ _ h1)
        have hx : ObjOk X.prog X.w H1 s1.heap dd (.xd fv) := I1.hok dd _ (k1.sub _ _ h2)
        obtain ⟨mA, hns, hr⟩ := hx
        obtain ⟨od, ho, hl⟩ := lookIn_ns hns
        obtain ⟨u, hu, ru⟩ := RelO.some_of (v := v) (o := mA f) (by rw [← l]; exact hr f)
        have J : PySem.W.InstAt s1.heap a o (B.ct i) (some od) := ⟨o1, o2, by unfold PySem.W.notCls; rw [o4], by rw [o3]; exact ho⟩
        exact HandSPX.exc_get I1.kIn J a1.ga a1.gg a1.exC (PySem.W.findObj_own a1.hdC a2 rfl (by rw [hl, hu])) (handed_of ru) ⟨v, H1, I1.tok _, ru, c1, g1, w, gr, k1, rv, q1⟩
      | exc0 h1 => cases e1
    · cases e1
  · cases e1
end
end DL

namespace DL
open PySem L2 PyProof.Rows
/-! ### a new exception as a value -/
theorem pe_ofMk {X : Cx} {e : Expr} {t : L2.St → Hp → XK → Prop} (he : PMk X e t) : PE X e (fun σ H Q => t σ H fun cls d H' => ∀ a, H' a = none → Q (.ref a) (upd H' a (xcHO cls a d))) := by
  refine ⟨fun pins s σ H Q I h => ?_⟩
  refine wpAny_mono (he pins s σ H _ I h) (fun u s1 hu => ?_) fun _ _ x => x
  obtain ⟨a, oe, vs, sI, H', cls, d, rfl, J, k, hne, ha, hz, hd, h1, na, os, ag, r, q⟩ := hu
  have J2 : L2.Inv X pins σ (upd H' a (xcHO cls a d)) { sI with heap := s1.heap, toks := s1.toks } := J.laidN (o := xcHO cls a d) k hne na ⟨⟨oe, vs, ha, hz.1, hz.2, hd⟩, ⟨oe, ha⟩, fun h1 h2 ⟨o, ws, q1, q2, q3, q4⟩ kk => ⟨o, ws, kk o q1, q2, q3, q4⟩⟩
  have J3 : L2.Inv X pins σ (upd H' a (xcHO cls a d)) s1 := ⟨J2.ok, os.trans J2.os, ag, J2.base, J2.loc, J2.cell, J2.free, J2.freeC, J2.pin, J2.hok, J2.len⟩
  exact ⟨.ref a, _, J3, rfl, q a na⟩
def dExc (i : Nat) (fns : List Str) (tr : DA) : DE := fun ρ g Q Z => tr ρ g (fun xs g' => Q (.exc i (fieldsOf fns xs)) g') Z
theorem exc_rep {B : Tb} {K : PySem.W.Frag} {c : Cn} {g : Gh} {H : Hp} {a : Addr} {cls : Value} {d : Option Addr} {ex : Exn} (k : Fine B K c g H) (ha : H a = none) (er : ExR B K c cls d ex) :
    ∃ c', Grow c H c' (upd H a (xcHO cls a d)) ∧ Fine B K c' g (upd H a (xcHO cls a d)) ∧ Rep B K c' (.ref a) (.exc ex.c ex.fs) := by
  obtain ⟨e3, e4⟩ := er
  rw [e3, xc_exc]
  obtain ⟨s2, k2⟩ := k.lay (o := excHO (B.ct ex.c) a d) ha
  refine ⟨_, s2, k2, ?_⟩
  rcases e4 with ⟨e5, e6⟩ | ⟨dd, fs, e5, e6, e7⟩
  · rw [e6]
    subst e5
    exact .exc0 upd_same
  · subst e5
    refine .exc upd_same (?_ : upd c.F a (excHO (B.ct ex.c) a (some dd)) dd = some (.xd fs)) (e7.mono s2.le)
    rw [upd_ne]
    · exact e6
    · intro h
      have h2 := k.sub _ _ e6
      rw [h, ha] at h2; cases h2
section
variable {B : Tb} {X : Cx} {W : WX} {L : Nat} {x : Str} {p pos pos' : Pos} {e : Expr} {es : List Expr} {tr : DA} {i : Nat} {fns : List Str}
theorem we_exc (F : XC B X.prog X.w X.K X.mg X.base x i fns) (C : Ctx L X W) (hL : 2 ≤ L) (hg : Gl X x) (ha : WA B X W (e :: es) tr) (hn : (e :: es).length = fns.length := by rfl) (hsmall : fns.length ≤ 1000 := by decide) (hdb : (x == ("__debug__" : Str)) = false := by decide)
    (he : starEach (e :: es) X.env = (false, eval e X.env) :: starEach es X.env := by rfl) (hpl : (backTo pos (starEach es X.env)).any (·.1) = false := by rfl) : WE B X W (.Call (.Name x p) (e :: es) [] pos) (dExc i fns tr) := by
  obtain ⟨t, ht, hq⟩ := mk_sem (p := p) F C hL hg ha hn hsmall hdb he hpl
  refine ⟨fun c g ρ σ H Q Z k rl h z => sem_of (pe_ofMk ht) ?_⟩
  refine hq c g ρ σ H (fun ex g' => Q (.exc ex.c ex.fs) g') Z _ k rl h z fun c' H' g' ex cls d s1 k1 er q1 a ha => ?_
  obtain ⟨c2, s2, k2, r2⟩ := exc_rep k1 ha er
  exact ⟨c2, g', _, s1.trans s2, k2, r2, q1⟩
theorem we_exc0 {m : Str} {j : Nat} {p2 : Pos} (F : XC0 B X.K X.mg x i) (hg : Gl X x) (hdb : (x == ("__debug__" : Str)) = false := by decide) : WE B X W (.Call (.Name x p) [.Constant (.str m) j p2] [] pos) (dC (.exc i [])) := by
  obtain ⟨bmB, Bn, newId, initId, F1, q1⟩ := F.ex
  refine ⟨fun c g ρ σ H Q Z k rl h z => sem_of (pe_ofMk (pmk_own F1 q1 F.mg F.kp (raises_own F.sub F.ty) hg hdb)) fun a ha => ?_⟩
  obtain ⟨c2, s2, k2, r2⟩ := exc_rep (ex := ⟨i, []⟩) (d := none) k ha ⟨rfl, .inl ⟨rfl, rfl⟩⟩
  exact ⟨c2, g, _, s2, k2, r2, h⟩
end
/-! ### facts of classes, as one Bool -/
def clsB (K : PySem.W.Frag) (C : Addr) : Bool := PySem.W.plainGet K C Str.empty && PySem.W.hasDictIn K C && PySem.W.plainOver K C && decide (PySem.W.findIn K (.ref C) "__setattr__" = some (some (.builtin "object.__setattr__")))
theorem clsB_ok {K : PySem.W.Frag} {C : Addr} (h : clsB K C = true) : Cls K C := by
  simp only [clsB, Bool.and_eq_true, decide_eq_true_eq] at h
  exact ⟨h.1.1.1, h.1.1.2, h.1.2, h.2⟩
def clsIB (K : PySem.W.Frag) (C : Addr) : Bool := decide (PySem.W.findIn K (.ref C) "__class__" = some (some (.builtin "object.__class__"))) && decide (PySem.W.specialIn K (.builtin "object.__class__") "__get__" = some (some (.builtin "getset_descriptor.__get__"))) &&
  decide (PySem.W.takesIn K (.builtin "object.__class__") = some true) && decide (PySem.W.mroIn K C (.type "object") = some true)
theorem clsIB_ok {K : PySem.W.Frag} {C : Addr} (h : clsIB K C = true) : ClsI K C := by
  simp only [clsIB, Bool.and_eq_true, decide_eq_true_eq] at h
  exact ⟨h.1.1.1, h.1.1.2, h.1.2, h.2⟩
def excAB (K : PySem.W.Frag) (C : Addr) : Bool := (PySem.W.clsIn K C).isSome && decide (PySem.W.findIn K (.ref C) "__getattribute__" = some (some (.builtin "BaseException.__getattribute__"))) && decide (PySem.W.findIn K (.ref C) "__getattr__" = some none) && decide (PySem.W.subIn K (.ref C) (.type "BaseException") = some true)
theorem excAB_ok {K : PySem.W.Frag} {C : Addr} (h : excAB K C = true) : ExcA K C := by
  simp only [excAB, Bool.and_eq_true, decide_eq_true_eq] at h
  exact ⟨h.1.1.1, h.1.1.2, h.1.2, h.2⟩
def kdB (B : Tb) (K : PySem.W.Frag) : Kd → Bool
  | .obj i => clsB K (B.ct i) && clsIB K (B.ct i)
  | .exc i => excAB K (B.ct i) && clsIB K (B.ct i)
  | _ => true
theorem kdB_ok {B : Tb} {K : PySem.W.Frag} {k : Kd} (h : kdB B K k = true) : KdOk B K k := by
  cases k <;> simp only [kdB, Bool.and_eq_true] at h <;> first
    | trivial
    | exact ⟨clsB_ok h.1, clsIB_ok h.2⟩
    | exact ⟨excAB_ok h.1, clsIB_ok h.2⟩
/-- isinstance by a table -/
abbrev KT := List (Kd × Bool)
def isTab (tb : KT) (k : Kd) : Option Bool := tb.lookup k
def isTabB (B : Tb) (K : PySem.W.Frag) (tb : KT) (u : Value) : Bool := tb.all fun kb => kdB B K kb.1 && decide (PySem.W.kitOne K (tyK B kb.1) u = some kb.2)
theorem lookup_mem' {α β : Type} [BEq α] [LawfulBEq α] {k : α} {b : β} : ∀ {l : List (α × β)}, l.lookup k = some b → (k, b) ∈ l
  | [], h => by cases h
  | (k', b') :: l, h => by
    rw [List.lookup_cons] at h
    cases e : k == k' with
    | true =>
      rw [e] at h
      cases h
      have := eq_of_beq e
      subst this
      exact List.mem_cons_self
    | false =>
      rw [e] at h
      exact List.mem_cons_of_mem _ (lookup_mem' h)
theorem isTab_ok {B : Tb} {K : PySem.W.Frag} {tb : KT} {u : Value} (h : isTabB B K tb u = true) : IsOk B K (isTab tb) u := fun k b e => by
  unfold isTabB at h
  rw [List.all_eq_true] at h
  have q := h (k, b) (lookup_mem' e)
  simp only [Bool.and_eq_true, decide_eq_true_eq] at q
  exact ⟨kdB_ok q.1, q.2⟩
def atB (B : Tb) (K : PySem.W.Frag) (f : Str) (is js : List Nat) : Bool := (is.all fun i => clsB K (B.ct i) && decide (PySem.W.findIn K (.ref (B.ct i)) f = some none)) && js.all fun i => xfB K (B.ct i) && decide (PySem.W.findIn K (.ref (B.ct i)) f = some none)
theorem atB_ok {B : Tb} {K : PySem.W.Frag} {f : Str} {is js : List Nat} (h : atB B K f is js = true) : AtOk B K f is js := by
  simp only [atB, Bool.and_eq_true, List.all_eq_true, decide_eq_true_eq] at h
  exact ⟨fun i hi => ⟨clsB_ok (h.1 i hi).1, (h.1 i hi).2⟩, fun i hi => ⟨xfB_ok (h.2 i hi).1, (h.2 i hi).2⟩⟩
section
variable {B : Tb} {X : Cx} {W : WX} {e : Expr} {te : DE} {p p1 pos : Pos}
/-- isinstance(e, C), C an own class -/
theorem we_isC {x : Str} {C : Addr} {f : Kd → Option Bool} (hf : IsOk B X.K f (.ref C)) (hx : Gl X x) (hmx : X.mg x = some (.ref C)) (hg : Gl X "isinstance") (hm : X.mg "isinstance" = none) (he : WE B X W e te) (hdb : (x == ("__debug__" : Str)) = false := by decide)
    (hs : starEach [e, .Name x p1] X.env = (false, eval e X.env) :: starEach [.Name x p1] X.env := by rfl) (hpl : (backTo pos (starEach [.Name x p1] X.env)).any (·.1) = false := by rfl) : WE B X W (.Call (.Name "isinstance" p) [e, .Name x p1] [] pos) (dU (isiD f) te) :=
  we_isi (cv := .ref C) (pe_glob hx hmx (show RelV (.ref C) (.ref C) from rfl) hdb) (.own C) hf hg hm he hs rfl hpl
end
end DL

namespace DL
open PySem L2 PyProof.Rows
/-! ### dict displays -/
def putD (kvs : List (Key × D)) (k : Key) (d : D) : List (Key × D) :=
  if (kvs.any fun kv => decide (kv.1 = k)) = true then kvs.map (fun kv => if kv.1 = k then (kv.1, d) else kv) else kvs ++ [(k, d)]
def mergeD (kvs more : List (Key × D)) : List (Key × D) := more.foldl (fun acc kv => putD acc kv.1 kv.2) kvs
section
variable {B : Tb} {K : PySem.W.Frag} {c : Cn}
theorem RepK.any {k : Key} : ∀ {vs : List (Key × V)} {ds : List (Key × D)}, RepK B K c vs ds → (vs.any fun kv => decide (kv.1 = k)) = ds.any fun kv => decide (kv.1 = k)
  | _, _, .nil => rfl
  | _, _, .cons r t => by simp only [List.any_cons, RepK.any t]
theorem RepK.mapPut {k : Key} {v : V} {d : D} (rv : Rep B K c v d) : ∀ {vs : List (Key × V)} {ds : List (Key × D)}, RepK B K c vs ds → RepK B K c (vs.map (fun kv => if kv.1 = k then (kv.1, v) else kv)) (ds.map (fun kv => if kv.1 = k then (kv.1, d) else kv))
  | _, _, .nil => .nil
  | _, _, .cons (k := k') r t => by
    rw [List.map_cons, List.map_cons]
    by_cases e : k' = k
    · rw [if_pos e, if_pos e]; exact .cons rv (RepK.mapPut rv t)
    · rw [if_neg e, if_neg e]; exact .cons r (RepK.mapPut rv t)
theorem RepK.append : ∀ {vs ws : List (Key × V)} {ds es : List (Key × D)}, RepK B K c vs ds → RepK B K c ws es → RepK B K c (vs ++ ws) (ds ++ es)
  | _, _, _, _, .nil, s => s
  | _, _, _, _, .cons r t, s => .cons r (RepK.append t s)
theorem RepK.length : ∀ {vs : List (Key × V)} {ds : List (Key × D)}, RepK B K c vs ds → vs.length = ds.length
  | _, _, .nil => rfl
  | _, _, .cons _ t => congrArg (· + 1) (RepK.length t)
theorem RepK.put {k : Key} {v : V} {d : D} {vs : List (Key × V)} {ds : List (Key × D)} (r : RepK B K c vs ds) (rv : Rep B K c v d) : RepK B K c (putK vs k v) (putD ds k d) := by
  unfold putK putD
  rw [r.any]
  split
  · exact RepK.mapPut rv r
  · exact r.append (.cons rv .nil)
theorem RepK.merge : ∀ {more : List (Key × V)} {dm : List (Key × D)} {vs : List (Key × V)} {ds : List (Key × D)}, RepK B K c more dm → RepK B K c vs ds → RepK B K c (mergeK vs more) (mergeD ds dm)
  | _, _, _, _, .nil, s => s
  | _, _, vs, ds, .cons (k := k) (v := v) (d := d) (vs := m) (ds := dm) r t, s => by
    show RepK B K c (mergeK (putK vs k v) m) (mergeD (putD ds k d) dm)
    exact RepK.merge t (s.put r)
end
abbrev DP := DEnv → Gh → (List (Key × D) → Gh → Prop) → DZ → Prop
def prs (X : Cx) : List (Option Expr) → List Expr → List (TE × TE)
  | some k :: ks, v :: vs => (semE X k, semE X v) :: prs X ks vs
  | _, _ => []
structure WPr (B : Tb) (X : Cx) (W : WX) (keys : List (Option Expr)) (values : List Expr) (t : DP) : Prop where
  pp : ∀ pos, PPs X pos keys values (prs X keys values)
  run : ∀ (c : Cn) (g : Gh) (ρ : DEnv) (σ : L2.St) (H : Hp) (Q : List (Key × D) → Gh → Prop) (Z : DZ), Fine B X.K c g H → RelP B X.K c ρ σ → t ρ g Q Z → ZOk B X.K c H σ W Z →
    tPairs (prs X keys values) σ H fun ps H' => ∃ c' g' kvs kds, Grow c H c' H' ∧ Fine B X.K c' g' H' ∧ ps = kvs.map (fun kv => (kV kv.1, kv.2)) ∧ RepK B X.K c' kvs kds ∧ Q kds g'
theorem tPairs_mono : ∀ {trs : List (TE × TE)} {X : Cx} {ks : List (Option Expr)} {vs : List Expr} {σ : L2.St} {H : Hp} {Q Q' : List (V × V) → Hp → Prop}, tPairs (prs X ks vs) σ H Q → (∀ ps H', Q ps H' → Q' ps H') → tPairs (prs X ks vs) σ H Q'
  | trs, X, some k :: ks, v :: vs, σ, H, Q, Q', h, hq => by
    show semE X k σ H _
    have h : semE X k σ H _ := h
    refine h.mono fun x H1 h1 => ?_
    have h1 : semE X v σ H1 _ := h1
    show semE X v σ H1 _
    exact h1.mono fun y H2 h2 => tPairs_mono (trs := trs) h2 fun ps H' q => hq _ _ q
  | trs, X, [], _, σ, H, Q, Q', h, hq => hq _ _ h
  | trs, X, none :: _, _, σ, H, Q, Q', h, hq => hq _ _ (by simpa [prs, tPairs] using h)
  | trs, X, some _ :: _, [], σ, H, Q, Q', h, hq => hq _ _ h
section
variable {B : Tb} {X : Cx} {W : WX} {k v e : Expr} {ks : List (Option Expr)} {vs : List Expr} {tk tv te : DE} {t : DP} {pos : Pos}
def dPNil : DP := fun _ g Q _ => Q [] g
def dPCons (tk tv : DE) (tr : DP) : DP := fun ρ g Q Z => tk ρ g (fun x g1 => ∃ k, keyD x = some k ∧ tv ρ g1 (fun y g2 => tr ρ g2 (fun r g3 => Q ((k, y) :: r) g3) Z) Z) Z
theorem wp_nil : WPr B X W [] [] dPNil := ⟨fun _ => pps_nil, fun c g ρ σ H Q Z k r h z => ⟨c, g, [], [], Grow.refl c H, k, rfl, .nil, h⟩⟩
theorem wp_cons (hk : WE B X W k tk) (hv : WE B X W v tv) (hr : WPr B X W ks vs t) : WPr B X W (some k :: ks) (v :: vs) (dPCons tk tv t) := by
  refine ⟨fun pos => pps_cons pe_sem pe_sem (hr.pp pos), fun c g ρ σ H Q Z k r h z => ?_⟩
  refine (hk.run c g ρ σ H _ Z k r h z).mono fun x H1 ⟨c1, g1, d, s1, k1, r1, kk, ek, q1⟩ => ?_
  refine (hv.run c1 g1 ρ σ H1 _ Z k1 (r.mono s1.le) q1 (z.next s1)).mono fun y H2 ⟨c2, g2, d2, s2, k2, r2, q2⟩ => ?_
  refine tPairs_mono (trs := []) (hr.run c2 g2 ρ σ H2 _ Z k2 (r.mono (s1.trans s2).le) q2 (z.next (s1.trans s2))) fun ps H3 ⟨c3, g3, kvs, kds, s3, k3, e3, r3, q3⟩ => ?_
  subst e3
  refine ⟨c3, g3, (kk, y) :: kvs, (kk, d2) :: kds, (s1.trans s2).trans s3, k3, ?_, .cons (r2.mono s3.le) r3, q3⟩
  rw [rep_key r1 ek]; rfl
/-- the pairs, while the new dict stands empty -/
theorem disp_core (hp : WPr B X W ks vs t) {c : Cn} {g : Gh} {ρ : DEnv} {σ : L2.St} {H : Hp} {Q : List (Key × D) → Gh → Prop} {Z : DZ} {R : VK} (k : Fine B X.K c g H) (r : RelP B X.K c ρ σ) (h : t ρ g Q Z) (z : ZOk B X.K c H σ W Z)
    (fin : ∀ p c' g' H2 kvs kds, Grow c H c' H2 → Fine B X.K c' g' H2 → RepK B X.K c' kvs kds → Q kds g' → H p = none → H2 p = some (.dK []) → c'.F p = none → c'.pen ≠ some p → p ∉ c'.ma → kvs.length ≤ 15 ∧ R (.ref p) (upd H2 p (.dK (mergeK [] kvs)))) : tDisp (prs X ks vs) σ H R := by
  intro p hp0
  have fF : c.F p = none := Evl.fresh_back k.sub hp0
  have fP : c.pen ≠ some p := fun e => by
    obtain ⟨_, _, o, h1, _⟩ := k.pen p e
    rw [hp0] at h1; cases h1
  have fM : p ∉ c.ma := fun e => by
    obtain ⟨i, hi⟩ := List.getElem?_of_mem e
    have hlt : i < g.mem.length := by rw [← k.mlen]; exact (List.getElem?_eq_some_iff.mp hi).1
    obtain ⟨_, dx, fs, h1, _⟩ := k.mem i _ p (List.getElem?_eq_getElem hlt) hi
    rw [hp0] at h1; cases h1
  have s0 : Grow c H c (upd H p (.dK [])) := (Grow.refl c H).own hp0
  have k0 : Fine B X.K c g (upd H p (.dK [])) := k.own fF fP fM
  refine tPairs_mono (trs := []) (hp.run c g ρ σ _ Q Z k0 r h (z.next s0)) fun ps H2 ⟨c', g', kvs, kds, s1, k1, e1, r1, q1⟩ => ?_
  obtain ⟨m1, m2, m3, m4⟩ := s1.mine upd_same fF fP fM
  obtain ⟨l1, l2⟩ := fin p c' g' H2 kvs kds (s0.trans s1) k1 r1 q1 hp0 m1 m2 m3 m4
  exact ⟨m1, kvs, e1, l1, l2⟩
def dDisp (t : DP) : DE := fun ρ g Q Z => t ρ g (fun kds g1 => kds.length ≤ 15 ∧ Q (.dct (mergeD [] kds)) g1) Z
theorem we_disp (hp : WPr B X W (some k :: ks) (v :: vs) t) (hall : (some k :: ks).all (·.isSome) = true := by rfl) (hl : (some k :: ks).length = (v :: vs).length := by rfl) (h15 : (some k :: ks).length ≤ 15 := by decide) : WE B X W (.Dict (some k :: ks) (v :: vs) pos) (dDisp t) := by
  refine ⟨fun c g ρ σ H Q Z k r h z => sem_of (pe_disp (hp.pp pos) hall hl (by simp) h15) ?_⟩
  refine disp_core hp k r h z fun p c' g' H2 kvs kds s1 k1 r1 ⟨q0, q1⟩ hp0 m1 m2 m3 m4 => ⟨by rw [r1.length]; exact q0, ?_⟩
  have k2 : Fine B X.K c' g' (upd H2 p (.dK (mergeK [] kvs))) := k1.own m2 m3 m4
  have s2 : Grow c H c' (upd H2 p (.dK (mergeK [] kvs))) := s1.own hp0
  exact ⟨_, g', _, s2.ice hp0 m2, k2.ice m2 upd_same m3 m4, .dct upd_same ((r1.merge .nil).mono (Le.ice m2)), q1⟩
/-- {} -/
theorem we_disp0 : WE B X W (.Dict [] [] pos) (dC (.dct [])) := by
  refine ⟨fun c g ρ σ H Q Z k r h z => sem_of pe_dnewK fun p hp => ?_⟩
  obtain ⟨s2, k2⟩ := k.lay (o := .dK []) hp
  exact ⟨_, g, _, s2, k2, .dct upd_same .nil, h⟩
end
/-! ### the pen: a dict of cells, at, rest, fold -/
def penO (cel : Addr) (a r f : Int) : HO := .dK [(.inr "cells", .ref cel), (.inr "at", .int a), (.inr "rest", .int r), (.inr "fold", .int f)]
def pnD (cel : Addr) (o : HO) (n : Nat) : Prop := ∃ a r f : Int, o = penO cel a r f ∧ 0 ≤ a ∧ a ≤ n ∧ 0 ≤ f ∧ f < 2147483629
def cokP (ns : List Int) : Prop := ns.length ≤ 63
structure TbD (B : Tb) : Prop where
  pn : B.pn = pnD
  cok : B.cok = cokP
/-- what is read of the pen -/
inductive PenV (n cl : Nat) : Str → D → Prop
  | cells (ns : List Int) : cokP ns → ns.length = cl → PenV n cl "cells" (.lst (ns.map D.int))
  | at_ (a : Int) : 0 ≤ a → a ≤ n → PenV n cl "at" (.int a)
  | rest (r : Int) : PenV n cl "rest" (.int r)
  | fold (f : Int) : 0 ≤ f → f < 2147483629 → PenV n cl "fold" (.int f)
theorem Fine.penPut {B : Tb} {K : PySem.W.Frag} {c : Cn} {g : Gh} {H : Hp} {p : Addr} {o : HO} {n : Nat} (k : Fine B K c g H) (hp : c.pen = some p) (ho : B.pn c.cel o n) (hpl : ∀ o m, B.pn c.cel o m → Pl o) : Grow c H c (upd H p o) ∧ Fine B K c { g with n := n } (upd H p o) := by
  obtain ⟨hF, hm, o0, h0, hpn0⟩ := k.pen p hp
  refine ⟨⟨Le.refl c, fun a u h h1 _ => .inl ?_, fun a h => .inl h, fun a u h => .inl (.inl h)⟩, ⟨fun a u h => ?_, k.pd, fun q hq => ?_, k.cells, k.mlen, k.mnd, fun i m a h1 h2 => ?_, tabs_put k.tabs (.inr ⟨_, h0, hpl _ _ hpn0⟩) (hpl _ _ ho).1, k.nt⟩⟩
  · rw [upd_ne (fun z => h1 (by rw [z]; exact hp))]; exact h
  · rw [upd_ne (ne_of_none h hF)]; exact k.sub a u h
  · rw [hp] at hq
    cases hq
    exact ⟨hF, hm, o, upd_same, ho⟩
  · obtain ⟨h3, dx, fs, h4, h5⟩ := k.mem i m a h1 h2
    refine ⟨h3, dx, fs, ?_, h5⟩
    rw [upd_ne (fun z => hm (by rw [← z]; exact List.mem_of_getElem? h2))]; exact h4
section
variable {B : Tb} {X : Cx} {W : WX} {H₀ : En} {o e : Expr} {to te : DE} {pos pos' pk : Pos} {key : Str} {j : Nat}
/-- pen[key] -/
def dPenK (key : Str) (to : DE) : DE := fun ρ g Q Z => to ρ g (fun x g1 => x = .pen ∧ ∀ d, PenV g1.n g1.cl key d → Q d g1) Z
theorem we_penK (T : TbD B) (hu : X.A.units + 1 < cLine) (hk : key = "cells" ∨ key = "at" ∨ key = "rest" ∨ key = "fold") (ho : WE B X W o to) : WE B X W (.Subscript o (.Constant (.str key) j pk) pos) (dPenK key to) := by
  refine ⟨fun c g ρ σ H Q Z k rl h z => sem_of (pe_dget hu pe_sem pe_str (fun _ _ => rfl)) ?_⟩
  refine (ho.run c g ρ σ H _ Z k rl h z).mono fun v H1 ⟨c1, g1, x, s1, k1, r1, ex, q1⟩ => ?_
  subst ex
  cases r1 with
  | @pen p hp =>
    obtain ⟨hF, hm, oo, h1, h2⟩ := k1.pen p hp
    rw [T.pn] at h2
    obtain ⟨a, r, f, rfl, a1, a2, f1, f2⟩ := h2
    obtain ⟨ns, c1', c2', c3'⟩ := k1.cells p hp
    rcases hk with rfl | rfl | rfl | rfl
    · exact ⟨p, .ref c1.cel, rfl, DGet.k (k := .inr "cells") h1, c1, g1, _, s1, k1, .lst c1' (reps_ints ns), q1 _ (.cells ns (by rw [T.cok] at c2'; exact c2') c3')⟩
    · exact ⟨p, .int a, rfl, DGet.k (k := .inr "at") h1, c1, g1, _, s1, k1, .int a, q1 _ (.at_ a a1 a2)⟩
    · exact ⟨p, .int r, rfl, DGet.k (k := .inr "rest") h1, c1, g1, _, s1, k1, .int r, q1 _ (.rest r)⟩
    · exact ⟨p, .int f, rfl, DGet.k (k := .inr "fold") h1, c1, g1, _, s1, k1, .int f, q1 _ (.fold f f1 f2)⟩
/-- pen["rest"] = e -/
def dPutRest (i : Nat) (te : DE) : DS := fun En ρ g => te (mask ρ) g (fun d g' => ρ[i]? = some (.fz .pen) ∧ ∃ r n, d = .int r ∧ g'.n ≤ n ∧ En.nx ρ { g' with n := n }) fun ex g' => En.xz ex ρ g'
def dPutAt (i : Nat) (te : DE) : DS := fun En ρ g => te (mask ρ) g (fun d g' => ρ[i]? = some (.fz .pen) ∧ ∃ a n, d = .int a ∧ 0 ≤ a ∧ a ≤ (n : Nat) ∧ En.nx ρ { g' with n := n }) fun ex g' => En.xz ex ρ g'
theorem ws_penRest {i : Nat} {x : Str} {px : Pos} (T : TbD B) (hu : X.A.units + 1 < cLine) (hv : PE X (.Name x px) (tVar i)) (he : WE B X W e te) (hs : swapsWith e (some (.Subscript (.Name x px) (.Constant (.str "rest") j pk) pos')) pos.line X.env = pure false := by rfl) :
    WS B X W H₀ (.Assign [.Subscript (.Name x px) (.Constant (.str "rest") j pk) pos'] e pos) (dPutRest i te) := by
  refine ⟨fun c₀ c g ρ σ H D r q z => semS_of (ps_dput hu hv pe_str pe_sem hs) ?_⟩
  refine (he.run c g _ σ H _ _ r.fine r.mask q (r.zok z)).mono fun v H1 ⟨c1, g1, d, s1, k1, r1, hi, rr, n, ed, hle, q1⟩ => ?_
  subst ed
  cases r1
  have r' := r.next s1 k1
  obtain ⟨u, e1, e2⟩ := r'.fz i _ hi
  cases e2 with
  | @pen p hp =>
    obtain ⟨hF, hm, oo, h1, h2⟩ := k1.pen p hp
    rw [T.pn] at h2
    obtain ⟨a, r0, f, rfl, a1, a2, f1, f2⟩ := h2
    obtain ⟨s2, k2⟩ := k1.penPut (o := penO c1.cel a rr f) (n := n) hp (by rw [T.pn]; exact ⟨a, rr, f, rfl, a1, by omega, f1, f2⟩) (fun o _ h => by rw [T.pn] at h; obtain ⟨_, _, _, rfl, _⟩ := h; exact pl_dK)
    exact ⟨_, e1, p, _, rfl, DPut.k (k := .inr "rest") h1 (by show 4 < sizeLine; decide), c1, { g1 with n := n }, ρ, r'.next s2 k2, q1⟩
theorem ws_penAt {i : Nat} {x : Str} {px : Pos} (T : TbD B) (hu : X.A.units + 1 < cLine) (hv : PE X (.Name x px) (tVar i)) (he : WE B X W e te) (hs : swapsWith e (some (.Subscript (.Name x px) (.Constant (.str "at") j pk) pos')) pos.line X.env = pure false := by rfl) :
    WS B X W H₀ (.Assign [.Subscript (.Name x px) (.Constant (.str "at") j pk) pos'] e pos) (dPutAt i te) := by
  refine ⟨fun c₀ c g ρ σ H D r q z => semS_of (ps_dput hu hv pe_str pe_sem hs) ?_⟩
  refine (he.run c g _ σ H _ _ r.fine r.mask q (r.zok z)).mono fun v H1 ⟨c1, g1, d, s1, k1, r1, hi, aa, n, ed, b1, b2, q1⟩ => ?_
  subst ed
  cases r1
  have r' := r.next s1 k1
  obtain ⟨u, e1, e2⟩ := r'.fz i _ hi
  cases e2 with
  | @pen p hp =>
    obtain ⟨hF, hm, oo, h1, h2⟩ := k1.pen p hp
    rw [T.pn] at h2
    obtain ⟨a, r0, f, rfl, a1, a2, f1, f2⟩ := h2
    obtain ⟨s2, k2⟩ := k1.penPut (o := penO c1.cel aa r0 f) (n := n) hp (by rw [T.pn]; exact ⟨aa, r0, f, rfl, b1, b2, f1, f2⟩) (fun o _ h => by rw [T.pn] at h; obtain ⟨_, _, _, rfl, _⟩ := h; exact pl_dK)
    exact ⟨_, e1, p, _, rfl, DPut.k (k := .inr "at") h1 (by show 4 < sizeLine; decide), c1, { g1 with n := n }, ρ, r'.next s2 k2, q1⟩
/-- {'cells': .., 'at': .., 'rest': .., 'fold': ..}: the pen is made -/
def dPenNew (t : DP) : DE := fun ρ g Q Z => t ρ g (fun kds g1 => ∃ ns a r f, kds = [(.inr "cells", .lst (ns.map D.int)), (.inr "at", .int a), (.inr "rest", .int r), (.inr "fold", .int f)] ∧ cokP ns ∧ 0 ≤ f ∧ f < 2147483629 ∧ 0 ≤ a ∧ a ≤ (g1.n : Int) ∧ g1.pd = false ∧ Q .pen { g1 with pd := true, cl := ns.length }) Z
theorem Reps.ints {K : PySem.W.Frag} {c : Cn} : ∀ {vs : List V} {ns : List Int}, Reps B K c vs (ns.map D.int) → vs = ns.map V.int
  | [], [], _ => rfl
  | _ :: _, [], h => by cases h
  | [], _ :: _, h => by cases h
  | v :: vs, n :: ns, .cons r t => by rw [r.intv, Reps.ints t]; rfl
theorem we_penNew {k v : Expr} {ks : List (Option Expr)} {vs : List Expr} {t : DP} (T : TbD B) (hp : WPr B X W (some k :: ks) (v :: vs) t) (hall : (some k :: ks).all (·.isSome) = true := by rfl) (hl : (some k :: ks).length = (v :: vs).length := by rfl) (h15 : (some k :: ks).length ≤ 15 := by decide) :
    WE B X W (.Dict (some k :: ks) (v :: vs) pos) (dPenNew t) := by
  refine ⟨fun c g ρ σ H Q Z k r h z => sem_of (pe_disp (hp.pp pos) hall hl (by simp) h15) ?_⟩
  refine disp_core hp k r h z fun p c' g' H2 kvs kds s1 k1 r1 ⟨ns, a, r0, f, ek, hc, f1, f2, a1, a2, hpd, q1⟩ hp0 m1 m2 m3 m4 => ⟨by rw [r1.length, ek]; simp, ?_⟩
  subst ek
  have hpn : c'.pen = none := by
    have := k1.pd
    rw [hpd] at this
    simpa using this
  cases r1 with
  | cons ra r1 =>
    cases r1 with
    | cons rb r1 =>
      cases r1 with
      | cons rc r1 =>
        cases r1 with
        | cons rd r1 =>
          cases r1
          cases rb; cases rc; cases rd
          cases ra with
          | @lst ca vs _ hca rs =>
            have ev := rs.ints
            subst ev
            have k2 : Fine B X.K c' g' (upd H2 p (penO ca a r0 f)) := k1.own m2 m3 m4
            have s2 : Grow c H c' (upd H2 p (penO ca a r0 f)) := s1.own hp0
            have le : Le c' { c' with pen := some p, cel := ca } := ⟨Evl.Ex.refl _, fun q hq => (by rw [hpn] at hq; cases hq), fun _ _ h => h, fun q hq => (by rw [hpn] at hq; cases hq)⟩
            refine ⟨{ c' with pen := some p, cel := ca }, { g' with pd := true, cl := ns.length }, .pen, ⟨s2.le.trans le, s2.kp, fun x hx => ?_, s2.froz⟩, ⟨k2.sub, rfl, fun q hq => ?_, fun q hq => ⟨ns, hca, by rw [T.cok]; exact hc, rfl⟩, k2.mlen, k2.mnd, fun i m x h1 h2 => ?_, k2.tabs, k2.nt⟩, .pen rfl, q1⟩
            · rcases hx with hx | hx
              · cases hx; exact .inr hp0
              · exact s2.fresh x (.inr hx)
            · cases hq
              exact ⟨m2, m4, _, upd_same, by rw [T.pn]; exact ⟨a, r0, f, rfl, a1, a2, f1, f2⟩⟩
            · obtain ⟨e1, dx, fs, e2, e3⟩ := k2.mem i m x h1 h2
              exact ⟨e1, dx, fs, e2, e3.mono le⟩
end
end DL

namespace DL
open PySem L2 PyProof.Rows
/-! ### the law's own call -/
/-- the promise of a law -/
def S_law : DSp := fun ds g Φ _ => ∃ ns : List Int, ds = [.scr ns] ∧ ns.length ≤ 63 ∧ g = ⟨false, 0, [], 0⟩ ∧ ∀ g', Φ (.bl true) g'
def F0 (H : Hp) : Hp := fun b => match H b with
  | some (.tbl _) => none
  | o => o
theorem F0_sub (H : Hp) : Ex (F0 H) H := fun a o h => by
  unfold F0 at h
  split at h
  · cases h
  · exact h
theorem F0_nt (H : Hp) (a : Addr) (ps : Array Value) : F0 H a ≠ some (.tbl ps) := fun h => by
  unfold F0 at h
  split at h
  · cases h
  · rename_i hn
    exact hn ps h
theorem F0_of {H : Hp} {a : Addr} {o : HO} (h : H a = some o) (no : ∀ ps, o ≠ .tbl ps := by nofun) : F0 H a = some o := by
  unfold F0
  rw [h]
  cases o <;> first
    | rfl
    | exact absurd rfl (no _)
theorem F0_sq {K : PySem.W.Frag} {H : Hp} {a : Addr} {vs : List V} (h : SqL K H a vs) : SqL K (F0 H) a vs := by
  rcases h with (h | ⟨o, h⟩) | h
  · exact .inl (.inl (F0_of h))
  · exact .inl (.inr ⟨o, F0_of h⟩)
  · exact .inr h
theorem law_start {B : Tb} {K : PySem.W.Frag} {H : Hp} {a : Addr} {ns : List Int} (hl : ns.length ≤ 63) (hS : SqL K H a (ns.map V.int)) (hT : Tbs B.T H) : spOf B K 1 S_law [.ref a] H (fun v _ => v = .bl true) fun _ _ _ => False := by
  refine ⟨⟨F0 H, none, [], 0⟩, ⟨false, 0, [], 0⟩, [.scr ns], fun d _ => d = .bl true, fun _ _ => False, rfl, ⟨F0_sub H, rfl, fun p hp => (by cases hp), fun p hp => (by cases hp), rfl, List.nodup_nil, fun i m x h => (by simp at h), hT, F0_nt H⟩, .cons (.scr (F0_sq hS)) .nil, ⟨ns, rfl, hl, rfl, fun _ => rfl⟩, fun c' H' g' v d _ _ r e => ?_, fun _ _ _ _ _ _ _ _ _ z => z⟩
  subst e
  exact r.blv
/-- the code objects that make lambdas, with their tables, as the head leaves them -/
structure Codes (K : PySem.W.Frag) (h : Heap) (cs : List (Addr × Addr)) : Prop where
  tab : ∀ x ∈ cs, h.get? x.2 = some { cls := .none, data := .fields #[] }
  out : ∀ x ∈ cs, K.lookup x.2 = none
  hd : ∀ x ∈ cs, PySem.W.CodeHd h x.1 x.2
def BMod (mg : Str → Option Value) (h : Heap) : Prop := ∃ (m : Addr) (o : Obj), mg "__builtins__" = some (.ref m) ∧ m ≠ builtinsNs ∧ h.get? m = some o ∧ o.cls = .type "module" ∧ o.dict = some builtinsNs ∧ o.data = .plain
section
variable {P : Program} {w : World} {K : PySem.W.Frag} {mg mb : Str → Option Value} {L : Nat} {fa a : Addr} {fd : FuncData} {x : Str} {sp : Sp} {s : Shared} {us : List Value} {ns : List Int} {cs : List (Addr × Addr)}
/-- from an abstract heap that tracks the script and the tables at most -/
theorem law_at {H : Hp} (inK : K.In s.heap) (glob : s.heap.Ns mainGlobals mg) (blt : s.heap.Ns builtinsNs mb) (bltIs : ∀ y : Str, y ≠ "__name__" → mb y = bootBuiltins y) (noL : s.heap.NoLimit) (noG : s.gens = #[]) (at_ : s.heap.get? a = some { cls := .type "list", data := .seq us.toArray })
    (room : Room L callerA) (cod : Codes K s.heap cs) (bmod : BMod mg s.heap) (G : ∀ base : Heap, (∀ x ∈ cs, LamX.TabB base mg x.1 x.2) → FnG P w K mg base L fa fd [x] sp) (bind : ∀ (s : Shared) (u : Value), BindsTo s fd ⟨[u], []⟩ [(x, u)]) (want : sp [.ref a] H (fun v _ => v = .bl true) fun _ _ _ => False)
    (only : ∀ b, H b = none ∨ (b ∈ cs.map (·.2) ∧ H b = some (.tbl #[])) ∨ ∃ o xs, H b = some (.frz o (.lst xs))) (hok : HOk P w H s.heap) (alone : ∀ b, H b ≠ none → b = a ∨ b ∈ cs.map (·.2)) (notK : H a ≠ none → K.lookup a = none) (isT : ∀ b ∈ cs.map (·.2), H b = some (.tbl #[])) :
    codeAny (model P w) callerA (.call (.ref fa) ⟨[.ref a], []⟩) (fun r s' => r = .ok (.ret (.bool true)) ∧ OldK s.heap s'.heap ∧ s'.os = s.os ∧ AllBare s'.gens) s := by
  have seen : ∀ {b : Addr} {o : Obj}, s.heap.get? b = some o → H b = none → (hidT s.heap H).get? b = some o := fun p q => hidT_get p q
  have raw : ∀ b ∈ cs.map (·.2), s.heap.get? b = some { cls := .none, data := .fields #[] } := fun b hb => by
    obtain ⟨q, hq, e⟩ := List.mem_map.mp hb
    rw [← e]; exact cod.tab q hq
  have other : ∀ {b : Addr} {o : Obj}, s.heap.get? b = some o → (∀ vs n, o.data ≠ .seq vs n) → o.data ≠ .fields #[] → H b = none := fun {b o} p d1 d2 => by
    by_cases q : H b = none
    · exact q
    · rcases alone b q with e | e
      · subst e
        rw [at_] at p
        cases p
        exact (d1 _ _ rfl).elim
      · rw [raw b e] at p
        cases p
        exact (d2 rfl).elim
  have plain : ∀ {b : Addr} {o : Obj} {es : Array DictEntry} {ep : Nat}, s.heap.get? b = some o → o.data = .dict es ep → H b = none := fun {b o es ep} p d =>
    other p (fun vs n z => by rw [d] at z; cases z) (fun z => by rw [d] at z; cases z)
  have nsUp : ∀ {b : Addr} {m : Str → Option Value}, s.heap.Ns b m → (hidT s.heap H).Ns b m := by
    rintro b m ⟨o, es, ep, p, d, r⟩
    exact ⟨o, es, ep, seen p (plain p d), d, r⟩
  have inB : K.In (hidT s.heap H) := fun b o p => by
    refine seen (inK b o p) ?_
    by_cases q : H b = none
    · exact q
    · rcases alone b q with e | e
      · subst e
        rw [notK q] at p; cases p
      · obtain ⟨y, hy, ey⟩ := List.mem_map.mp e
        rw [← ey, cod.out y hy] at p; cases p
  have mod : Mod K mg (hidT s.heap H) := by
    obtain ⟨mc, h1, h2⟩ := noL
    exact ⟨inB, nsUp glob, ⟨mb, nsUp blt, bltIs⟩, ⟨mc, nsUp h1, h2⟩⟩
  have env : Env0 P w K mg (hidT s.heap H) callerA [] s H := by
    refine ⟨rfl, mod, fun b o p => of_hidT p, Nat.le_of_eq (hidT_size _ _), trivial, fun b hb => ?_, hok, .of_eq noG⟩
    exact nomatch (show b ∈ ([] : List Addr) from hb)
  have tabs : ∀ y ∈ cs, LamX.TabB (hidT s.heap H) mg y.1 y.2 := fun y hy => by
    have ty := cod.tab y hy
    refine ⟨?_, ?_, fun z => ?_⟩
    · obtain ⟨o, vs, file, tf, flags, tg, inF, text, tt, e1, r1, r2, r3, rr⟩ := cod.hd y hy
      refine ⟨o, vs, file, tf, flags, tg, inF, text, tt, seen e1 (other e1 (fun ws n z => ?_) fun z => ?_), r1, r2, r3, rr⟩
      · rw [r2] at z; cases z
      · rw [r2] at z
        cases z
        simp at r3
    · obtain ⟨m, o, b1, b2, b3, b4, b5, b6⟩ := bmod
      have n1 : m ≠ mainGlobals := fun q => by
        obtain ⟨og, es, ep, p, d, _⟩ := glob
        rw [q, p] at b3
        cases b3
        rw [d] at b6; cases b6
      have n2 : m ≠ y.2 := fun q => by
        rw [q, ty] at b3
        cases b3
        cases b6
      refine ⟨m, o, b1, b2, n1, n2, seen b3 (other b3 (fun ws n z => ?_) fun z => ?_), b4, b5, b6⟩ <;> · rw [b6] at z; cases z
    · obtain ⟨og, es, ep, p, d, _⟩ := glob
      rw [z, ty] at p
      cases p
      cases d
  refine codeAny_mono ((G _ tabs).go callerA [] s H ⟨[.ref a], []⟩ [.ref a] [.ref a] _ _ room rfl env (bind s (.ref a)) (.cons rfl .nil) want) fun r s' h => ?_
  match r, h with
  | .error e, h =>
    obtain ⟨_, _, _, _, _, _, _, _, _, _, _, _, z⟩ := h
    exact z.elim
  | .ok .next, h => exact h.elim
  | .ok .brk, h => exact h.elim
  | .ok .cont, h => exact h.elim
  | .ok (.ret u), ⟨v, H', os, bare, un, hok', rv, ev⟩ =>
    have ev : v = .bl true := ev
    subst ev
    have eu : u = Value.bool true := rv
    subst eu
    have same : ∀ b o, b ∉ cs.map (·.2) → s.heap.get? b = some o → s'.heap.get? b = some o := fun b o nb p => by
      rcases only b with q | ⟨q, _⟩ | ⟨ob, xs, q⟩
      · exact un.keep b o p q (fun z => nomatch (show b ∈ ([] : List Addr) from z)) (by simp)
      · exact absurd q nb
      · obtain ⟨e1, _⟩ := hok b _ q
        obtain ⟨e2, _⟩ := hok' b _ (un.frzs b ob _ q)
        rw [p] at e1
        cases e1
        exact e2
    have more : ∀ y ∈ cs, ∃ ws : Array Value, s'.heap.get? y.2 = some { cls := .none, data := .fields ws } := fun y hy => by
      obtain ⟨ws, z⟩ := un.tbls y.2 #[] (isT _ (List.mem_map.mpr ⟨y, hy, rfl⟩))
      exact ⟨_, hok' y.2 _ z⟩
    refine ⟨rfl, ⟨fun b o p => ?_, fun b o p => ?_⟩, os, bare⟩
    · by_cases hb : b ∈ cs.map (·.2)
      · obtain ⟨y, hy, ey⟩ := List.mem_map.mp hb
        obtain ⟨ws, hw⟩ := more y hy
        rw [← ey] at p ⊢
        rw [cod.tab y hy] at p
        cases p
        exact .inr (.inl ⟨((cod.hd y hy).tab (cod.tab y hy)).isCodeTable, rfl, #[], ws, rfl, by rw [Array.empty_append]; exact hw⟩)
      · exact .inl (same b o hb p)
    · by_cases hb : b ∈ cs.map (·.2)
      · obtain ⟨y, hy, ey⟩ := List.mem_map.mp hb
        obtain ⟨ws, hw⟩ := more y hy
        rw [← ey]; exact ⟨_, hw⟩
      · exact ⟨o, same b o hb p⟩
theorem law_go (inK : K.In s.heap) (glob : s.heap.Ns mainGlobals mg) (blt : s.heap.Ns builtinsNs mb) (bltIs : ∀ y : Str, y ≠ "__name__" → mb y = bootBuiltins y) (noL : s.heap.NoLimit) (noG : s.gens = #[]) (at_ : s.heap.get? a = some { cls := .type "list", data := .seq us.toArray }) (hints : IntsAre us ns) (hl : ns.length ≤ sizeLine)
    (room : Room L callerA) (cod : Codes K s.heap cs) (bmod : BMod mg s.heap) (G : ∀ base : Heap, (∀ x ∈ cs, LamX.TabB base mg x.1 x.2) → FnG P w K mg base L fa fd [x] sp) (bind : ∀ (s : Shared) (u : Value), BindsTo s fd ⟨[u], []⟩ [(x, u)])
    (want : ∀ H : Hp, SqL K H a (ns.map V.int) → (∀ b ∈ cs.map (·.2), H b = some (.tbl #[])) → (∀ b ps, H b = some (.tbl ps) → b ∈ cs.map (·.2)) → sp [.ref a] H (fun v _ => v = .bl true) fun _ _ _ => False) :
    codeAny (model P w) callerA (.call (.ref fa) ⟨[.ref a], []⟩) (fun r s' => r = .ok (.ret (.bool true)) ∧ OldK s.heap s'.heap ∧ s'.os = s.os ∧ AllBare s'.gens) s := by
  have vals := vals_ints hints
  let T : Hp := fun b => if b ∈ cs.map (·.2) then some (.tbl #[]) else none
  have T1 : ∀ b ∈ cs.map (·.2), T b = some (.tbl #[]) := fun b hb => if_pos hb
  have T0 : ∀ b, b ∉ cs.map (·.2) → T b = none := fun b hb => if_neg hb
  have raw : ∀ b ∈ cs.map (·.2), s.heap.get? b = some { cls := .none, data := .fields #[] } := fun b hb => by
    obtain ⟨q, hq, e⟩ := List.mem_map.mp hb
    rw [← e]; exact cod.tab q hq
  have na : a ∉ cs.map (·.2) := fun z => by
    have q := raw a z
    rw [at_] at q
    exact nomatch (show Data.seq us.toArray _ = Data.fields #[] from congrArg Obj.data (Option.some.inj q))
  cases hk : K.lookup a with
  | some o =>
    have p := inK a o hk
    rw [at_] at p
    cases p
    have hS : SqL K T a (ns.map V.int) := .inr ⟨_, us.toArray, _, hk, rfl, rfl, rfl, by rw [List.size_toArray, hints.length]; exact hl, by simpa using vals⟩
    refine law_at (H := T) inK glob blt bltIs noL noG at_ room cod bmod G bind (want _ hS T1 fun b ps e => (by
      by_cases hb : b ∈ cs.map (·.2)
      · exact hb
      · rw [T0 b hb] at e; cases e)) (fun b => ?_) (fun b u z => ?_) (fun b z => ?_) (fun z => absurd (T0 a na) z) T1
    · by_cases hb : b ∈ cs.map (·.2)
      · exact .inr (.inl ⟨hb, T1 b hb⟩)
      · exact .inl (T0 b hb)
    · by_cases hb : b ∈ cs.map (·.2)
      · rw [T1 b hb] at z
        cases z
        exact raw b hb
      · rw [T0 b hb] at z; cases z
    · by_cases hb : b ∈ cs.map (·.2)
      · exact .inr hb
      · exact absurd (T0 b hb) z
  | none =>
    let o : Obj := { cls := .type "list", data := .seq us.toArray }
    let H1 : Hp := upd T a (.frz o (.lst (ns.map V.int)))
    have hS : SqL K H1 a (ns.map V.int) := .inl (.inr ⟨o, upd_same⟩)
    have nb : ∀ b ∈ cs.map (·.2), b ≠ a := fun b hb z => na (by rw [← z]; exact hb)
    refine law_at (H := H1) inK glob blt bltIs noL noG at_ room cod bmod G bind (want _ hS (fun b hb => ?_) fun b ps e => ?_) (fun b => ?_) (fun b u z => ?_) (fun b z => ?_) (fun _ => hk) fun b hb => ?_
    · exact (upd_ne (nb b hb)).trans (T1 b hb)
    · have e : upd T a (.frz o (.lst (ns.map V.int))) b = some (.tbl ps) := e
      by_cases hb : b = a
      · subst hb; rw [upd_same] at e; cases e
      · rw [upd_ne hb] at e
        by_cases hb2 : b ∈ cs.map (·.2)
        · exact hb2
        · rw [T0 b hb2] at e; cases e
    · by_cases hb : b = a
      · subst hb; exact .inr (.inr ⟨_, _, upd_same⟩)
      · by_cases hb2 : b ∈ cs.map (·.2)
        · exact .inr (.inl ⟨hb2, (upd_ne hb).trans (T1 b hb2)⟩)
        · exact .inl ((upd_ne hb).trans (T0 b hb2))
    · by_cases hb : b = a
      · subst hb
        rw [show H1 b = some (.frz o (.lst (ns.map V.int))) from upd_same] at z
        cases z
        exact ⟨at_, by rw [List.length_map]; exact hl, us, _, vals, at_⟩
      · by_cases hb2 : b ∈ cs.map (·.2)
        · rw [show H1 b = some (.tbl #[]) from (upd_ne hb).trans (T1 b hb2)] at z
          cases z
          exact raw b hb2
        · rw [show H1 b = none from (upd_ne hb).trans (T0 b hb2)] at z
          cases z
    · by_cases hb : b = a
      · exact .inl hb
      · by_cases hb2 : b ∈ cs.map (·.2)
        · exact .inr hb2
        · exact absurd ((upd_ne hb).trans (T0 b hb2)) z
    · exact (upd_ne (nb b hb)).trans (T1 b hb)
end
end DL

namespace DL
open PySem L2 PyProof.Rows
/-! ### l.count(x) -/
section
variable {X : Cx}
def rCountD (K : PySem.W.Frag) : V → List V → Hp → VK → Prop := fun x xs H Q => ∃ (a : Addr) (y : V) (d : PyData) (ds : List PyData), x = V.ref a ∧ xs = [y] ∧ Dp K H (V.ref a) (.list ds) ∧ Dp K H y d ∧ SeqAt.shaped (.list ds) = true ∧ SeqAt.shaped d = true ∧ Q (.int (ds.countP (fun z => PyData.eqv z d) : Nat)) H
theorem mt_countD (hu : X.A.units + 65 < cLine) : MtR X "list.count" (rCountD X.K) := by
  intro pins s σ H x xs v us Q I rx rxs h
  obtain ⟨a, y, d, ds, rfl, rfl, hl, hy, sl, sd, q⟩ := h
  cases rx
  cases rxs with
  | cons ry rt =>
    rename_i uy ut
    cases rt
    obtain ⟨bs, r1⟩ := Dp.reads I d y uy hy ry
    cases hl with
    | lst hs ha =>
      obtain ⟨its, rv, ⟨⟨cls, dd, data, sls⟩, n, ho, hc, hdn, hdt⟩, hlen⟩ := I.list hs
      simp only at hc hdt
      subst hc hdt
      obtain ⟨as, h4⟩ := Dp.readsAll I ds _ its ha rv
      have lay : PyData.canLayAll0 ds = true := SeqAt.canLay_of_shaped sl
      have same : its.map (SeqAt.readOf s.heap) = ds := SeqAt.readsAll_map ds its as lay h4
      refine call_meets PySem.F.slot_list_count ⟨_, ho, rfl⟩ PySem.F.entry_list_count (PySem.F.args_list_count_2 _ _) (SeqAt.list_countAt a its.toArray n dd sls uy (fun u => PyData.eqv (SeqAt.readOf s.heap u) d))
        ⟨ho, SeqAt.items_eqAt (vs := its.toArray) (show ReadsAll s.heap its.toArray.toList ds as from h4) r1 lay (SeqAt.canLay_of_shaped sd) (room_in_shaped sd hu), ?_⟩
      refine ⟨.int (ds.countP (fun z => PyData.eqv z d) : Nat), H, I.tok _, ⟨s.toks, ?_⟩, q⟩
      show Value.int ((its.toArray.toList.countP (fun u => PyData.eqv (SeqAt.readOf s.heap u) d) : Nat) : Int) s.toks = Value.int ((ds.countP (fun z => PyData.eqv z d) : Nat) : Int) s.toks
      rw [← same, List.countP_map]
      rfl
end
def countD : D → D → Option D := fun x y => match x.py, y.py with
  | some (.list qs), some p => if (SeqAt.shaped (.list qs) && SeqAt.shaped p) = true then some (.int ((qs.countP fun z => PyData.eqv z p : Nat) : Int)) else none
  | _, _ => none
/-- data whose python form is a list is a list -/
theorem py_list {x : D} {qs : List PyData} (h : x.py = some (.list qs)) : ∃ ds, x = .lst ds := by
  cases x <;> simp only [D.py, Option.some.injEq] at h <;> first
    | exact ⟨_, rfl⟩
    | cases h
    | (split at h <;> cases h)
def GivesM (B : Tb) (K : PySem.W.Frag) (f : D → D → Option D) (r : V → List V → Hp → VK → Prop) : Prop :=
  ∀ (c : Cn) (g : Gh) (H : Hp) (x y z : D) (v u : V) (Q : VK), Fine B K c g H → Rep B K c v x → Rep B K c u y → f x y = some z → (∀ w c' H', Grow c H c' H' → Fine B K c' g H' → Rep B K c' w z → Q w H') → r v [u] H Q
def isLst : D → Bool
  | .lst _ => true
  | _ => false
def isSt : D → Bool
  | .str _ => true
  | _ => false
/-- o.m(e) of a built-in kind -/
def dM (is : D → Bool) (f : D → D → Option D) (ta tb : DE) : DE := fun ρ g Q Z => ta ρ g (fun x g1 => is x = true ∧ tb ρ g1 (fun y g2 => ∃ z, f x y = some z ∧ Q z g2) Z) Z
section
variable {B : Tb} {X : Cx} {W : WX} {a b e : Expr} {ta tb te : DE} {p pos apos cpos : Pos}
theorem we_lm {m : Str} {id : String} {f : D → D → Option D} {r : V → List V → Hp → VK → Prop} (slot : Slot "list" m id) (hty : typeOf (.builtin id) = pure (.type "method_descriptor")) (hm : MtR X id r) (hgv : GivesM B X.K f r) (ha : WE B X W a ta) (hb : WE B X W b tb) (hbase : attributeBase a m X.env (eval a X.env) = eval a X.env := by rfl)
    (hfew : ((backTo cpos (starEach [b] X.env)).all (fun x => !x.1) && (backToKw cpos (keywordEach [] X.env)).all (fun x => x.1.isSome) && decide ([b].length + ([] : List Keyword).length + (if ([] : List Keyword).isEmpty then 0 else 1) < 30)) = true := by rfl)
    (hline : (apos.endLine == cpos.line) = true := by rfl) (hs : starEach [b] X.env = (false, eval b X.env) :: starEach [] X.env := by rfl) : WE B X W (.Call (.Attribute a m apos) [b] [] cpos) (dM isLst f ta tb) := by
  refine ⟨fun c g ρ σ H Q Z k rl h z => sem_of (pe_bm PySem.F.plainAttrs_list slot hty hm pe_sem (pa_cons pe_sem pa_nil hs) hbase hfew hline hs rfl) ?_⟩
  refine (ha.run c g ρ σ H _ Z k rl h z).mono fun v H1 ⟨c1, g1, x, s1, k1, r1, hx, q1⟩ => ?_
  cases x with
  | lst ds =>
    have tv : tyV X.K "list" v H1 := by
      cases r1 with
      | lst h1 rs => exact .inl ⟨rfl, _, SqL.of (k1.sub _ _ h1)⟩
    refine ⟨tv, ?_⟩
    refine (hb.run c1 g1 ρ σ H1 _ Z k1 (rl.mono s1.le) q1 (z.next s1)).mono fun u H2 ⟨c2, g2, y, s2, k2, r2, w, ew, q2⟩ => ?_
    exact hgv c2 g2 H2 _ y w v u _ k2 (r1.mono s2.le) r2 ew fun w' c' H' s3 k3 r3 => ⟨c', g2, w, (s1.trans s2).trans s3, k3, r3, q2⟩
  | _ => cases hx
theorem gv_count : GivesM B X.K countD (rCountD X.K) := by
  intro c g H x y z v u Q k r1 r2 e q
  unfold countD at e
  split at e
  · rename_i qs p' hx hy
    split at e
    · rename_i hsh
      obtain ⟨h1, h2⟩ := Bool.and_eq_true_iff.mp hsh
      simp only [Option.some.injEq] at e; subst e
      obtain ⟨ds, rfl⟩ := py_list hx
      have d1 := r1.dp k.sub hx
      cases r1 with
      | lst hh rs => exact ⟨_, u, p', qs, rfl, rfl, d1, r2.dp k.sub hy, h1, h2, done k (.int _) q⟩
    · cases e
  · cases e
/-- the place of the first equal item -/
def indexD : D → D → Option D := fun x y => match x.py, y.py with
  | some (.list qs), some p => if (SeqAt.shaped (.list qs) && SeqAt.shaped p) = true then (qs.findIdx? fun z => PyData.eqv z p).map fun i : Nat => .int (i : Int) else none
  | _, _ => none
theorem gv_index : GivesM B X.K indexD (rIndexD X.K) := by
  intro c g H x y z v u Q k r1 r2 e q
  unfold indexD at e
  split at e
  · rename_i qs p' hx hy
    split at e
    · rename_i hsh
      obtain ⟨h1, h2⟩ := Bool.and_eq_true_iff.mp hsh
      rw [Option.map_eq_some_iff] at e
      obtain ⟨j, ej, e⟩ := e
      subst e
      obtain ⟨ds, rfl⟩ := py_list hx
      have d1 := r1.dp k.sub hx
      obtain ⟨hj, hp, hn⟩ := List.findIdx?_eq_some_iff_getElem.mp ej
      cases r1 with
      | lst hh rs =>
        refine ⟨_, u, p', qs, j, qs[j], rfl, rfl, d1, r2.dp k.sub hy, h1, h2, List.getElem?_eq_getElem hj, hp, fun m z' hm hz => ?_, done k (.int _) q⟩
        obtain ⟨hl, rfl⟩ := List.getElem?_eq_some_iff.mp hz
        exact Bool.eq_false_iff.mpr (hn m hm)
    · cases e
  · cases e
/-- sep.join(texts) -/
def texts : List D → Option (List Str)
  | [] => some []
  | .str x :: r => (texts r).map (x :: ·)
  | _ => none
def joinD : D → D → Option D
  | .str a, .lst ds => (texts ds).bind fun ys => if (ys.map (·.length)).sum + ys.length * a.length ≤ 16777216 then some (.str (Txt.join a ys)) else none
  | _, _ => none
theorem texts_rep {K : PySem.W.Frag} {c : Cn} : ∀ {vs : List V} {ds : List D} {ys : List Str}, Reps B K c vs ds → texts ds = some ys → vs = ys.map V.str
  | _, _, _, .nil, h => by simp only [texts, Option.some.injEq] at h; subst h; rfl
  | _, _, _, .cons (d := d) r t, h => by
    cases d <;> simp only [texts] at h <;> first
      | cases h
      | skip
    rw [Option.map_eq_some_iff] at h
    obtain ⟨l, h1, h2⟩ := h
    subst h2
    cases r
    rw [texts_rep t h1]; rfl
theorem we_join (ha : WE B X W a ta) (hb : WE B X W b tb) (hs : starEach [b] X.env = [(false, eval b X.env)] := by rfl) (hbase : attributeBase a "join" X.env (eval a X.env) = eval a X.env := by rfl) (hline : (apos.endLine == pos.line) = true := by rfl) :
    WE B X W (.Call (.Attribute a "join" apos) [b] [] pos) (dM isSt joinD ta tb) := by
  refine ⟨fun c g ρ σ H Q Z k rl h z => sem_of (pe_join pe_sem pe_sem hs hbase hline) ?_⟩
  refine (ha.run c g ρ σ H _ Z k rl h z).mono fun v H1 ⟨c1, g1, x, s1, k1, r1, hx, q1⟩ => ?_
  cases x with
  | str sp =>
    cases r1
    refine ⟨⟨sp, rfl⟩, ?_⟩
    refine (hb.run c1 g1 ρ σ H1 _ Z k1 (rl.mono s1.le) q1 (z.next s1)).mono fun u H2 ⟨c2, g2, y, s2, k2, r2, w, ew, q2⟩ => ?_
    unfold joinD at ew
    split at ew
    · rename_i e1
      cases e1
      rw [Option.bind_eq_some_iff] at ew
      obtain ⟨ys, h1, h2⟩ := ew
      split at h2
      · rename_i hz
        cases h2
        cases r2 with
        | lst hl rs =>
          have := texts_rep rs h1
          subst this
          exact ⟨sp, _, ys, rfl, rfl, .inl (SqL.of (k2.sub _ _ hl)), hz, c2, g2, _, s1.trans s2, k2, .str _, q2⟩
      · cases h2
    · cases ew
  | _ => cases hx
/-- -e -/
def negD : D → Option D
  | .int i => some (.int (-i))
  | _ => none
theorem we_neg (ha : WE B X W a ta) : WE B X W (.UnaryOp .USub a pos) (dU negD ta) := by
  refine ⟨fun c g ρ σ H Q Z k rl h z => sem_of (pe_un un_neg pe_sem) ?_⟩
  refine (ha.run c g ρ σ H _ Z k rl h z).mono fun v H1 ⟨c1, g1, x, s1, k1, r1, w, ew, q1⟩ => ?_
  unfold negD at ew
  split at ew
  · cases ew
    cases r1
    exact ⟨_, rfl, c1, g1, _, s1, k1, .int _, q1⟩
  · cases ew
/-- repr(e) -/
def reprD : List D → Option D
  | [x] => match x.py with
    | some d => if d.showable = true ∧ d.hasDict = false ∧ d.depth ≤ 50 ∧ d.shown.length ≤ sizeLine then some (.str d.shown) else none
    | none => none
  | _ => none
def rReprD (K : PySem.W.Frag) : List V → Hp → VK → Prop := fun xs H Q => ∃ v d, xs = [v] ∧ Dp K H v d ∧ d.showable = true ∧ d.hasDict = false ∧ d.depth ≤ 50 ∧ d.shown.length ≤ sizeLine ∧ Q (.str d.shown) H
theorem call_reprD (hu : X.A.units + 60 < cLine) (gd : X.A.guards = some []) : CallR X (.builtin "repr") (rReprD X.K) := by
  intro pins s σ H xs us Q I rr hh
  obtain ⟨v, d, rfl, hd, h1, h2, h3, h4, q⟩ := hh
  obtain ⟨u, rfl, ru⟩ := rr.one
  obtain ⟨as, r⟩ := Dp.reads I d v u hd ru
  cases r with
  | none => exact PySem.P.repr_of_none ⟨.str "None", H, I.tok _, ⟨_, rfl⟩, q⟩
  | bool b => exact PySem.P.repr_of_bool ⟨.str (if b then "True" else "False"), H, I.tok _, ⟨_, rfl⟩, q⟩
  | int i tk => exact PySem.P.repr_of_int (of_decide_eq_true h1) ⟨.str (toString i), H, I.tok _, ⟨_, rfl⟩, q⟩
  | str x tk => exact PySem.P.repr_of_str ⟨.str (reprText x), H, I.tok _, ⟨_, rfl⟩, q⟩ h4
  | list a1 a2 a3 a4 => exact repr_of_reads' (Reads.list a1 a2 a3 a4) h1 (PyData.noDict_hsm h2) gd (by omega) (fun _ _ e => e) (fun h' u tk hk => ⟨.str _, H, I.kept hk, ⟨_, rfl⟩, q⟩) h4
  | tuple a1 a2 a3 a4 => exact repr_of_reads' (Reads.tuple a1 a2 a3 a4) h1 (PyData.noDict_hsm h2) gd (by omega) (fun _ _ e => e) (fun h' u tk hk => ⟨.str _, H, I.kept hk, ⟨_, rfl⟩, q⟩) h4
  | dict a1 a2 a3 a4 a5 => simp [PyData.hasDict] at h2
theorem gv_repr : GivesC B X.K reprD (rReprD X.K) := by
  intro c g H xs z vs Q k rs e q
  unfold reprD at e
  split at e
  · rename_i x
    split at e
    · rename_i d hd
      split at e
      · rename_i hc
        cases e
        cases rs with
        | cons r t =>
          cases t
          exact ⟨_, d, rfl, r.dp k.sub hd, hc.1, hc.2.1, hc.2.2.1, hc.2.2.2, done k (.str _) q⟩
      · cases e
    · cases e
  · cases e
end
/-- a name of the module that holds plain data -/
structure GC (B : Tb) (K : PySem.W.Frag) (mg : Str → Option Value) (x : Str) (d : D) : Prop where
  ex : ∃ u v, mg x = some u ∧ RelV v u ∧ ∀ c, Rep B K c v d
theorem we_gc {B : Tb} {X : Cx} {W : WX} {x : Str} {d : D} {pos : Pos} (h : GC B X.K X.mg x d) (hg : Gl X x) (hd : (x == ("__debug__" : Str)) = false := by decide) : WE B X W (.Name x pos) (dC d) := by
  obtain ⟨u, v, h1, h2, h3⟩ := h.ex
  exact we_c (pe_glob hg h1 h2 hd) h3
/-- within a comprehension -/
theorem Ctx.blk {L : Nat} {X : Cx} {W : WX} (C : Ctx L X W) {s : Shared} {H : Hp} {scope : Scope} {cenv : Env} {fp : List Addr} : Ctx L (X.blk s H scope cenv fp) W0 := ⟨C.calm, C.room, C.gd, fun _ _ x => by
  obtain ⟨_, _, _, _, _, _, _, _, _, _, _, _, _, _, _, _, z⟩ := x
  exact z.elim⟩
end DL

namespace DL
open PySem L2 PyProof.Rows
/-! ### x in y, whatever y is -/
def inTD (neg : Bool) (x y : D) : Option D := match x.py, y.py with
  | some p, some (.tuple qs) => if (SeqAt.shaped p && SeqAt.shaped (.tuple qs)) = true then some (.bl (if neg then !(qs.any fun z => PyData.eqv z p) else (qs.any fun z => PyData.eqv z p))) else none
  | _, _ => none
def inSD (neg : Bool) : D → D → Option D
  | .str x, .str z => match x.cps.toList with
    | [c] => some (.bl (if neg then !decide (c ∈ z.cps.toList) else decide (c ∈ z.cps.toList)))
    | _ => none
  | _, _ => none
def inA (neg : Bool) (x y : D) : Option D := match y with
  | .lst _ => inD neg x y
  | .tup _ => inTD neg x y
  | .dct _ => dinD neg x y
  | .str _ => inSD neg x y
  | _ => none
section
variable {B : Tb} {X : Cx}
def rInT (K : PySem.W.Frag) (neg : Bool) : R2 := fun x y H Q => ∃ d ds, Dp K H x d ∧ Dp K H y (.tuple ds) ∧ SeqAt.shaped d = true ∧ SeqAt.shaped (.tuple ds) = true ∧ Q (.bl (if neg then !(ds.any fun z => PyData.eqv z d) else (ds.any fun z => PyData.eqv z d))) H
theorem op_inT (hu : X.A.units + 65 < cLine) : OpR X (compareOp .In) (rInT X.K false) := by
  intro pins s σ H x y v u Q I rx ry h
  obtain ⟨d, ds, hd, he, sd, se, q⟩ := h
  obtain ⟨as, r1⟩ := Dp.reads I d x v hd rx
  obtain ⟨bs, r2⟩ := Dp.reads I (.tuple ds) y u he ry
  exact SeqAt.in_tuple_reads r2 r1 (SeqAt.canLay_of_shaped se) (SeqAt.canLay_of_shaped sd) (room_in_shaped sd hu) ⟨.bl _, H, I, rfl, q⟩
theorem op_notInT (hu : X.A.units + 65 < cLine) : OpR X (compareOp .NotIn) (rInT X.K true) := by
  intro pins s σ H x y v u Q I rx ry h
  obtain ⟨d, ds, hd, he, sd, se, q⟩ := h
  obtain ⟨as, r1⟩ := Dp.reads I d x v hd rx
  obtain ⟨bs, r2⟩ := Dp.reads I (.tuple ds) y u he ry
  exact SeqAt.notIn_tuple_reads r2 r1 (SeqAt.canLay_of_shaped se) (SeqAt.canLay_of_shaped sd) (room_in_shaped sd hu) ⟨.bl _, H, I, rfl, q⟩
def rInK (neg : Bool) : R2 := fun y x H Q => ∃ a ov, x = .ref a ∧ DGet H a y ov ∧ Q (.bl (if neg then !ov.isSome else ov.isSome)) H
theorem op_inK (hu : X.A.units + 1 < cLine) : OpR X (compareOp .In) (rInK false) := by
  intro pins s σ H y x u v Q I ry rx h
  obtain ⟨a, ov, rfl, g, q⟩ := h
  cases rx
  exact d_in hu I g ry fun s3 I3 => ⟨.bl ov.isSome, H, I3, rfl, q⟩
theorem op_notInK (hu : X.A.units + 1 < cLine) : OpR X (compareOp .NotIn) (rInK true) := by
  intro pins s σ H y x u v Q I ry rx h
  obtain ⟨a, ov, rfl, g, q⟩ := h
  cases rx
  exact d_notIn hu I g ry fun s3 I3 => ⟨.bl (!ov.isSome), H, I3, rfl, q⟩
def rInA (K : PySem.W.Frag) (neg : Bool) : R2 := fun x y H Q => (if neg then rNotInD K x y H Q else rInD K x y H Q) ∨ rInT K neg x y H Q ∨ rInK neg x y H Q ∨ ∃ (c : Nat) (z : Str), x = .str ⟨#[c]⟩ ∧ y = .str z ∧ Q (.bl (if neg then !decide (c ∈ z.cps.toList) else decide (c ∈ z.cps.toList))) H
theorem op_inA (hu : X.A.units + 65 < cLine) : OpR X (compareOp .In) (rInA X.K false) := by
  intro pins s σ H x y v u Q I rx ry h
  rcases h with h | h | h | h
  · exact op_inD hu pins s σ H x y v u Q I rx ry h
  · exact op_inT hu pins s σ H x y v u Q I rx ry h
  · exact op_inK (by omega) pins s σ H x y v u Q I rx ry h
  · exact op_in_sign pins s σ H x y v u Q I rx ry h
theorem op_notInA (hu : X.A.units + 65 < cLine) : OpR X (compareOp .NotIn) (rInA X.K true) := by
  intro pins s σ H x y v u Q I rx ry h
  rcases h with h | h | h | h
  · exact op_notInD hu pins s σ H x y v u Q I rx ry h
  · exact op_notInT hu pins s σ H x y v u Q I rx ry h
  · exact op_notInK (by omega) pins s σ H x y v u Q I rx ry h
  · exact op_notIn_sign pins s σ H x y v u Q I rx ry h
theorem gv_inA {neg : Bool} : Gives B X.K (inA neg) (rInA X.K neg) := by
  intro c g H x y z v u Q k r1 r2 e q
  cases y with
  | lst ys =>
    left
    cases neg with
    | false => exact gv_in c g H x _ z v u Q k r1 r2 e q
    | true => exact gv_notin c g H x _ z v u Q k r1 r2 e q
  | tup ys =>
    right; left
    simp only [inA, inTD] at e
    split at e
    · rename_i p qs hx hy
      split at e
      · rename_i hsh
        obtain ⟨h1, h2⟩ := Bool.and_eq_true_iff.mp hsh
        simp only [Option.some.injEq] at e; subst e
        exact ⟨p, qs, r1.dp k.sub hx, r2.dp k.sub hy, h1, h2, done k (.bl _) q⟩
      · cases e
    · cases e
  | dct kvs =>
    right; right; left
    obtain ⟨aa, o, e1, e2, e3⟩ := din_core k r1 r2 e
    subst e3
    exact ⟨aa, o, e1, e2, done k (.bl _) q⟩
  | str zz =>
    right; right; right
    simp only [inA] at e
    unfold inSD at e
    split at e
    · rename_i x' z' e2
      cases e2
      split at e
      · rename_i cc hc
        simp only [Option.some.injEq] at e; subst e
        cases r1; cases r2
        have ex : x' = ⟨#[cc]⟩ := by
          obtain ⟨arr⟩ := x'
          have : arr = #[cc] := by
            apply Array.ext'
            simpa using hc
          rw [this]
        subst ex
        exact ⟨cc, zz, rfl, rfl, done k (.bl _) q⟩
      · cases e
    · cases e
  | _ => cases e
/-- x[y], whatever x is -/
def ixA (x y : D) : Option D := match x with
  | .dct _ => dgetD x y
  | _ => ixD x y
def rIxK : R2 := fun x y H Q => ∃ a v, x = .ref a ∧ DGet H a y (some v) ∧ Q v H
theorem ix_dict (hu : X.A.units + 1 < cLine) : IxR X rIxK := by
  intro value slice pins s σ H x y v u Q I rx ry h hs
  obtain ⟨a, z, rfl, g, q⟩ := h
  cases rx
  have ty := dict_typeIs I g
  unfold subscriptTail
  refine wpAny_bind ?_
  rw [getitemInPython_of_ne ty.not_modules]
  refine wpAny_bind (wpAny_specialOf ty PySem.F.slot_dict_getitem.lookup ?_)
  have last : wpAny (model X.prog X.w) X.A (subscripted slice false (.ref a) u) (fun r s3 => wpAny (model X.prog X.w) X.A (letTemporaryGo value (.ref a) r >>= fun _ => pure r) (EP X pins σ Q) X.xe s3) X.xe s := by
    rw [hs]
    exact wpAny_operating (d_getItem hu I g ry fun w' s3 I3 rw' => wpAny_bind (wpAny_letTemporaryGo (wpAny_pure ⟨z, H, I3, rw', q⟩)))
  first
    | exact wpAny_pure (wpAny_bind last)
    | exact wpAny_bind (wpAny_pure (wpAny_bind last))
    | exact wpAny_bind last
theorem gv_ixA : Gives B X.K ixA (fun x y H Q => rIx X.K x y H Q ∨ rIxK x y H Q) := by
  intro c g H x y z v u Q k r1 r2 e q
  unfold ixA at e
  split at e
  · right
    unfold dgetD at e
    rw [Option.bind_eq_some_iff] at e
    obtain ⟨kk, e1, e2⟩ := e
    cases r1 with
    | dct h1 s1 =>
      obtain ⟨w', e3, r3⟩ := s1.val.1 z e2
      refine ⟨_, w', rfl, ?_, done k r3 q⟩
      rw [rep_key r2 e1, ← e3]
      exact DGet.k (k.sub _ _ h1)
  · exact .inl (gv_ix c g H x y z v u Q k r1 r2 e q)
end
/-! ### x == y: texts by themselves -/
def eqA (neg : Bool) (x y : D) : Option D := match x, y with
  | .str a, .str b => some (.bl (if neg then !decide (a = b) else decide (a = b)))
  | x, y => eqD neg x y
theorem gv_eqA {B : Tb} {X : Cx} : Gives B X.K (eqA false) (fun x y H Q => rEq x y H Q ∨ rEqD X.K x y H Q) := by
  intro c g H x y z v u Q k r1 r2 e q
  unfold eqA at e
  split at e
  · cases e
    cases r1; cases r2
    rename_i a b
    refine .inl ⟨rfl, ?_⟩
    rw [show decide (V.str a = V.str b) = decide (a = b) by simp]
    exact done k (.bl _) q
  · exact .inr (gv_eq c g H _ _ z v u Q k r1 r2 e q)
theorem gv_neA {B : Tb} {X : Cx} : Gives B X.K (eqA true) (fun x y H Q => rNe x y H Q ∨ rNeD X.K x y H Q) := by
  intro c g H x y z v u Q k r1 r2 e q
  unfold eqA at e
  split at e
  · cases e
    cases r1; cases r2
    rename_i a b
    refine .inl ⟨rfl, ?_⟩
    rw [show decide (V.str a = V.str b) = decide (a = b) by simp]
    exact done k (.bl _) q
  · exact .inr (gv_ne c g H _ _ z v u Q k r1 r2 e q)
/-! ### short names -/
theorem Ctx.u65 {L : Nat} {X : Cx} {W : WX} (C : Ctx L X W) : X.A.units + 65 < cLine := by have := C.room.un; omega
theorem Ctx.u1 {L : Nat} {X : Cx} {W : WX} (C : Ctx L X W) : X.A.units + 1 < cLine := by have := C.room.un; omega
/-- a comparison -/
structure CO (B : Tb) (X : Cx) (op : CmpOp) (f : D → D → Option D) : Prop where
  ex : ∃ r, OpR X (compareOp op) r ∧ Gives B X.K f r
section
variable {B : Tb} {X : Cx} {W : WX} {L : Nat} {a b e e3 : Expr} {es : List Expr} {ta tb tc te : DE} {tr : DA} {p pos : Pos} {op op' : CmpOp} {f f' : D → D → Option D}
theorem o_eq (C : Ctx L X W) : CO B X .Eq (eqA false) := ⟨_, op_eq.or (op_eqD (by have := C.u65; omega)), gv_eqA⟩
theorem o_ne (C : Ctx L X W) : CO B X .NotEq (eqA true) := ⟨_, op_ne.or (op_neD (by have := C.u65; omega)), gv_neA⟩
theorem o_lt : CO B X .Lt ltD := ⟨_, op_lt, gv_cmp⟩
theorem o_le : CO B X .LtE leD := ⟨_, op_le, gv_cmp⟩
theorem o_gt : CO B X .Gt gtD := ⟨_, op_gt, gv_cmp⟩
theorem o_ge : CO B X .GtE geD := ⟨_, op_ge, gv_cmp⟩
theorem o_is : CO B X .Is (isND false) := ⟨_, op_isN, gv_is⟩
theorem o_isnot : CO B X .IsNot (isND true) := ⟨_, op_notN, gv_isnot⟩
theorem o_in (C : Ctx L X W) : CO B X .In (inA false) := ⟨_, op_inA C.u65, gv_inA⟩
theorem o_notin (C : Ctx L X W) : CO B X .NotIn (inA true) := ⟨_, op_notInA C.u65, gv_inA⟩
theorem e_cmp (o : CO B X op f) (ha : WE B X W a ta) (hb : WE B X W b tb) (hm : behindInMarks op b = false := by rfl) : WE B X W (.Compare a [op] [b] pos) (dOp f ta tb) := let ⟨_, h1, h2⟩ := o.ex; we_cmp h1 h2 ha hb hm
theorem t_cmp (o : CO B X op f) (ha : WE B X W a ta) (hb : WE B X W b tb) (hm : behindInMarks op b = false := by rfl) : WT B X W (.Compare a [op] [b] pos) (dTest (dOp f ta tb)) := let ⟨_, h1, h2⟩ := o.ex; wt_cmp h1 h2 ha hb hm
theorem e_chain (o : CO B X op f) (o' : CO B X op' f') (ha : WE B X W a ta) (hb : WE B X W b tb) (hc : WE B X W e3 tc) (hm : lastMarks [op, op'] [b, e3] = false := by rfl) : WE B X W (.Compare a [op, op'] [b, e3] pos) (dChain f f' ta tb tc) :=
  let ⟨_, h1, h2⟩ := o.ex; let ⟨_, h3, h4⟩ := o'.ex; we_chain h1 h3 h2 h4 ha hb hc hm
theorem t_chain (o : CO B X op f) (o' : CO B X op' f') (ha : WE B X W a ta) (hb : WE B X W b tb) (hc : WE B X W e3 tc) (hm : lastMarks [op, op'] [b, e3] = false := by rfl) : WT B X W (.Compare a [op, op'] [b, e3] pos) (dTest (dChain f f' ta tb tc)) :=
  let ⟨_, h1, h2⟩ := o.ex; let ⟨_, h3, h4⟩ := o'.ex; wt_chain h1 h3 h2 h4 ha hb hc hm
theorem e_add (ha : WE B X W a ta) (hb : WE B X W b tb) : WE B X W (.BinOp a .Add b pos) (dOp addD ta tb) := we_op op_addAll gv_add ha hb
theorem e_sub (ha : WE B X W a ta) (hb : WE B X W b tb) : WE B X W (.BinOp a .Sub b pos) (dOp subD ta tb) := we_op op_sub gv_sub ha hb
theorem e_mul (ha : WE B X W a ta) (hb : WE B X W b tb) : WE B X W (.BinOp a .Mult b pos) (dOp mulD ta tb) := we_op op_mulAll gv_mul ha hb
theorem e_fdiv (ha : WE B X W a ta) (hb : WE B X W b tb) : WE B X W (.BinOp a .FloorDiv b pos) (dOp fdivD ta tb) := we_op op_fdiv gv_fdiv ha hb
theorem e_mod (ha : WE B X W a ta) (hb : WE B X W b tb) : WE B X W (.BinOp a .Mod b pos) (dOp modD ta tb) := we_op op_mod gv_mod ha hb
theorem e_pow (ha : WE B X W a ta) (hb : WE B X W b tb) : WE B X W (.BinOp a .Pow b pos) (dOp powD ta tb) := we_op op_pow gv_pow ha hb
theorem e_ix (C : Ctx L X W) (ha : WE B X W a ta) (hb : WE B X W b tb) (hs : PlainIx b := by exact fun _ _ => rfl) : WE B X W (.Subscript a b pos) (dOp ixA ta tb) := by
  refine ⟨fun c g ρ σ H Q Z k rl h z => sem_of (pe_ix (ix_seq.or (ix_dict C.u1)) pe_sem pe_sem hs) ?_⟩
  refine two ha hb k rl h z fun x y v u c2 g2 H2 s2 k2 r1 r2 ⟨w, e, q⟩ => ?_
  exact gv_ixA c2 g2 H2 x y w v u _ k2 r1 r2 e fun w' c' H' s3 k3 r3 => ⟨c', g2, w, s2.trans s3, k3, r3, q⟩
theorem e_len (hg : Gl X "len") (hm : X.mg "len" = none) (ha : WE B X W a ta) (he : starEach [a] X.env = (false, eval a X.env) :: starEach [] X.env := by rfl) : WE B X W (.Call (.Name "len" p) [a] [] pos) (dFn lenD (dCons ta dNil)) := we_callB call_len gv_len hg hm Boot.«len» (wa_cons ha wa_nil he) (by decide) (by decide) he rfl
theorem e_abs (hg : Gl X "abs") (hm : X.mg "abs" = none) (ha : WE B X W a ta) (he : starEach [a] X.env = (false, eval a X.env) :: starEach [] X.env := by rfl) : WE B X W (.Call (.Name "abs" p) [a] [] pos) (dFn absD (dCons ta dNil)) := we_callB call_abs gv_abs hg hm Boot.«abs» (wa_cons ha wa_nil he) (by decide) (by decide) he rfl
theorem e_int (hg : Gl X "int") (hm : X.mg "int" = none) (ha : WE B X W a ta) (he : starEach [a] X.env = (false, eval a X.env) :: starEach [] X.env := by rfl) : WE B X W (.Call (.Name "int" p) [a] [] pos) (dFn intD (dCons ta dNil)) := we_callTy call_int1 gv_int1 hg hm Boot.«int» (wa_cons ha wa_nil he) (by decide) (by decide) he rfl
theorem e_list (hg : Gl X "list") (hm : X.mg "list" = none) (ha : WE B X W a ta) (he : starEach [a] X.env = (false, eval a X.env) :: starEach [] X.env := by rfl) : WE B X W (.Call (.Name "list" p) [a] [] pos) (dFn listD (dCons ta dNil)) := we_callTy call_list_of gv_list hg hm Boot.«list» (wa_cons ha wa_nil he) (by decide) (by decide) he rfl
theorem e_tuple (hg : Gl X "tuple") (hm : X.mg "tuple" = none) (ha : WE B X W a ta) (he : starEach [a] X.env = (false, eval a X.env) :: starEach [] X.env := by rfl) : WE B X W (.Call (.Name "tuple" p) [a] [] pos) (dFn tupleD (dCons ta dNil)) := we_callTy call_tuple_of gv_tuple hg hm Boot.«tuple» (wa_cons ha wa_nil he) (by decide) (by decide) he rfl
theorem e_all (C : Ctx L X W) (hg : Gl X "all") (hm : X.mg "all" = none) (ha : WE B X W a ta) (he : starEach [a] X.env = (false, eval a X.env) :: starEach [] X.env := by rfl) : WE B X W (.Call (.Name "all" p) [a] [] pos) (dFn allD (dCons ta dNil)) := we_callB (cr_all C.calm) gv_all hg hm Boot.«all» (wa_cons ha wa_nil he) (by decide) (by decide) he rfl
theorem e_any (C : Ctx L X W) (hg : Gl X "any") (hm : X.mg "any" = none) (ha : WE B X W a ta) (he : starEach [a] X.env = (false, eval a X.env) :: starEach [] X.env := by rfl) : WE B X W (.Call (.Name "any" p) [a] [] pos) (dFn anyD (dCons ta dNil)) := we_callB (cr_any C.calm) gv_any hg hm Boot.«any» (wa_cons ha wa_nil he) (by decide) (by decide) he rfl
theorem e_repr (C : Ctx L X W) (hg : Gl X "repr") (hm : X.mg "repr" = none) (ha : WE B X W a ta) (he : starEach [a] X.env = (false, eval a X.env) :: starEach [] X.env := by rfl) : WE B X W (.Call (.Name "repr" p) [a] [] pos) (dFn reprD (dCons ta dNil)) := we_callB (call_reprD (by have := C.u65; omega) C.gd) gv_repr hg hm bootS_repr (wa_cons ha wa_nil he) (by decide) (by decide) he rfl
theorem e_min (C : Ctx L X W) (hg : Gl X "min") (hm : X.mg "min" = none) (ha : WE B X W a ta) (hb : WE B X W b tb) (he : starEach [a, b] X.env = (false, eval a X.env) :: starEach [b] X.env := by rfl) (he2 : starEach [b] X.env = (false, eval b X.env) :: starEach [] X.env := by rfl) (hpl : (backTo pos (starEach [b] X.env)).any (·.1) = false := by rfl) :
    WE B X W (.Call (.Name "min" p) [a, b] [] pos) (dFn min2D (dCons ta (dCons tb dNil))) := we_callB (call_min2 C.calm) gv_min2 hg hm Boot.«min» (wa_cons ha (wa_cons hb wa_nil he2) he) (by decide) (by decide) he hpl
theorem e_max (C : Ctx L X W) (hg : Gl X "max") (hm : X.mg "max" = none) (ha : WE B X W a ta) (hb : WE B X W b tb) (he : starEach [a, b] X.env = (false, eval a X.env) :: starEach [b] X.env := by rfl) (he2 : starEach [b] X.env = (false, eval b X.env) :: starEach [] X.env := by rfl) (hpl : (backTo pos (starEach [b] X.env)).any (·.1) = false := by rfl) :
    WE B X W (.Call (.Name "max" p) [a, b] [] pos) (dFn max2D (dCons ta (dCons tb dNil))) := we_callB (call_max2 C.calm) gv_max2 hg hm Boot.«max» (wa_cons ha (wa_cons hb wa_nil he2) he) (by decide) (by decide) he hpl
theorem e_count {apos cpos : Pos} (C : Ctx L X W) (ha : WE B X W a ta) (hb : WE B X W b tb) (hbase : attributeBase a "count" X.env (eval a X.env) = eval a X.env := by rfl)
    (hfew : ((backTo cpos (starEach [b] X.env)).all (fun x => !x.1) && (backToKw cpos (keywordEach [] X.env)).all (fun x => x.1.isSome) && decide ([b].length + ([] : List Keyword).length + (if ([] : List Keyword).isEmpty then 0 else 1) < 30)) = true := by rfl)
    (hline : (apos.endLine == cpos.line) = true := by rfl) (hs : starEach [b] X.env = (false, eval b X.env) :: starEach [] X.env := by rfl) : WE B X W (.Call (.Attribute a "count" apos) [b] [] cpos) (dM isLst countD ta tb) := we_lm PySem.F.slot_list_count PySem.F.type_list_count (mt_countD C.u65) gv_count ha hb hbase hfew hline hs
theorem e_index {apos cpos : Pos} (C : Ctx L X W) (ha : WE B X W a ta) (hb : WE B X W b tb) (hbase : attributeBase a "index" X.env (eval a X.env) = eval a X.env := by rfl)
    (hfew : ((backTo cpos (starEach [b] X.env)).all (fun x => !x.1) && (backToKw cpos (keywordEach [] X.env)).all (fun x => x.1.isSome) && decide ([b].length + ([] : List Keyword).length + (if ([] : List Keyword).isEmpty then 0 else 1) < 30)) = true := by rfl)
    (hline : (apos.endLine == cpos.line) = true := by rfl) (hs : starEach [b] X.env = (false, eval b X.env) :: starEach [] X.env := by rfl) : WE B X W (.Call (.Attribute a "index" apos) [b] [] cpos) (dM isLst indexD ta tb) := we_lm PySem.F.slot_list_index PySem.F.type_list_index (mt_indexD C.u65) gv_index ha hb hbase hfew hline hs
end
/-- the block of a comprehension, checked -/
def blkB (N : List Str) (sc scope : Scope) (own : List (Str × Nat)) : Bool :=
  decide (scope.kind = .function) && (scope.names.all fun y => decide (scope.names.lookup y.1 = some y.2)) && (own.all fun p => decide (N[p.2]? = some p.1)) &&
    (scope.names.all fun y => !decide (y.2 = .free) || decide (sc.names.lookup y.1 = some .cell) || decide (sc.names.lookup y.1 = some .free)) && scope.names.all fun y => !(decide (y.2 = .local) || decide (y.2 = .cell)) || (own.map (·.1)).contains y.1 || !N.contains y.1
theorem blk_ok {N : List Str} {sc scope : Scope} {own : List (Str × Nat)} (h : blkB N sc scope own = true) : BlkOk N sc scope own := by
  simp only [blkB, Bool.and_eq_true, decide_eq_true_eq, List.all_eq_true, Bool.or_eq_true, Bool.not_eq_true', decide_eq_false_iff_not, Bool.or_eq_false_iff] at h
  obtain ⟨⟨⟨⟨h1, h2⟩, h3⟩, h4⟩, h5⟩ := h
  refine ⟨h1, h2, h3, fun y hy hf => ?_, fun y hy hk => ?_⟩
  · rcases h4 y hy with (q | q) | q
    · exact absurd hf q
    · exact .inl q
    · exact .inr q
  · rcases h5 y hy with (q | q) | q
    · rcases hk with hk | hk
      · exact absurd hk q.1
      · exact absurd hk q.2
    · exact .inl (List.contains_iff_mem.mp q)
    · exact .inr fun z => by rw [List.contains_iff_mem.mpr z] at q; cases q
theorem names_own {X : Cx} {x : Str} {c : Value} (hm : X.mg x = some c) (hg : Gl X x) (hdb : (x == ("__debug__" : Str)) = false := by decide) : Names X x c := ⟨hg, hdb, .inl hm⟩
/-- a def's reading as its promise -/
def specOf (N : List Str) (t : DS) : DSp := fun ds g Φ Ψ => t { nx := fun _ g' => Φ .non g', rt := Φ, xz := fun ex _ g' => Ψ ex g' } (dStart N ds) g
theorem keeps_self {N : List Str} {ar : Nat} {t : DS} : Keeps N ar (specOf N t) t := fun _ _ _ _ _ h => h
end DL

namespace DL
open PySem L2 PyProof.Rows
/-! ### the classes of the module, by Bools -/
def excShape (C : Addr) (o : Option Obj) : Bool := match o with
  | some ⟨.type "type", _, .cls k, sl⟩ => (match k.mro with
    | .ref D :: bm => D == C && !k.hasDel && k.hasDict && HandSPX.refsVE bm
    | _ => false) && (match sl.toList with
    | [_, _, _, _, some (.builtin n), _] => n == "ValueError.__new__"
    | _ => false)
  | _ => false
theorem excShape_ok {C : Addr} {o : Option Obj} (h : excShape C o = true) : ∃ nm q N bs bm sn sub ab col dd k0 k1 k2 k3 k5, o = some (excClassObj nm q C N bs bm true sn sub ab col dd k0 k1 k2 k3 k5 "ValueError.__new__") ∧ HandSPX.refsVE bm = true := by
  unfold excShape at h
  split at h
  · rename_i dd k sl
    obtain ⟨h1, h2⟩ := Bool.and_eq_true_iff.mp h
    split at h1
    · rename_i D bm hm
      split at h2
      · rename_i k0 k1 k2 k3 n k5 hs
        simp only [Bool.and_eq_true, beq_iff_eq, Bool.not_eq_true'] at h1 h2
        obtain ⟨⟨⟨rfl, hdel⟩, hdct⟩, hve⟩ := h1
        subst h2
        obtain ⟨nm, bs, mro, ns, qn, hd, sn, sub, ab, col, del⟩ := k
        dsimp only at hm hdel hdct
        subst hm hdel hdct
        obtain ⟨l⟩ := sl
        simp only at hs
        subst hs
        exact ⟨nm, qn, ns, bs, bm, sn, sub, ab, col, dd, k0, k1, k2, k3, k5, rfl, hve⟩
      · cases h2
    · cases h1
  · cases h
def oexB (K : PySem.W.Frag) (C : Addr) : Bool := excShape C (K.lookup C) && decide (PySem.W.findIn K (.ref C) "__setattr__" = some (some (.builtin "object.__setattr__"))) && decide (PySem.W.subIn K (.ref C) (.type "BaseException") = some true) && decide (PySem.W.typeIn K (.ref C) = some (.type "type")) && PySem.W.keepIn K (.ref C)
theorem oexB_ok {K : PySem.W.Frag} {C : Addr} (h : oexB K C = true) : OexC K C := by
  simp only [oexB, Bool.and_eq_true, decide_eq_true_eq] at h
  exact ⟨excShape_ok h.1.1.1.1, h.1.1.1.2, h.1.1.2, h.1.2, h.2⟩
/-- the j-th statement of a class's body -/
def meth (st : Stmt) (j : Nat) : Stmt := match st with
  | .ClassDef (body := b) .. => b.getD j (.Pass ⟨0, 0, 0, 0⟩)
  | _ => .Pass ⟨0, 0, 0, 0⟩
def xcB (K : PySem.W.Frag) (C fI : Addr) (fns : List Str) : Bool := oexB K C && decide (PySem.W.findIn K (.ref C) "__init__" = some (some (.ref fI))) && decide (PySem.W.typeIn K (.ref fI) = some (.type "function")) && fns.all fun f => decide (PySem.W.findIn K (.ref C) f = some none)
theorem xc_mk {B : Tb} {P : Program} {w : World} {K : PySem.W.Frag} {mg : Str → Option Value} {base : Heap} {x qual f : Str} {i : Nat} {fns : List Str} {fI : Addr} {fd : FuncData} {st : Stmt} (hm : mg x = some (.ref (B.ct i))) (hb : xcB K (B.ct i) fI (f :: fns) = true) (F : Fun K "__init__" qual st fI fd)
    (Sc : FnScope ("self" :: f :: fns) ("self" :: f :: fns) (defScope st)) (hi : isInit (f :: fns) (defBody st) = true) (bd : Binds K fd ("self" :: f :: fns) []) (hl : fns.length ≤ 800 := by decide) : XC B P w K mg base x i (f :: fns) := by
  simp only [xcB, Bool.and_eq_true, decide_eq_true_eq, List.all_eq_true] at hb
  exact ⟨fI, fd, oexB_ok hb.1.1.1, hb.1.1.2, hb.1.2, xinit_ok F Sc hi hl, bd, hm, hb.2⟩
def xc0B (K : PySem.W.Frag) (C : Addr) : Bool := PySem.W.excIn K C [.type "ValueError", .type "Exception", .type "BaseException", .type "object"] "ValueError.__new__" && PySem.W.keepIn K (.ref C) && decide (PySem.W.subIn K (.ref C) (.type "BaseException") = some true) && decide (PySem.W.typeIn K (.ref C) = some (.type "type"))
theorem xc0_mk {B : Tb} {K : PySem.W.Frag} {mg : Str → Option Value} {x : Str} {i : Nat} (hm : mg x = some (.ref (B.ct i))) (hb : xc0B K (B.ct i) = true) : XC0 B K mg x i := by
  simp only [xc0B, Bool.and_eq_true, decide_eq_true_eq] at hb
  exact ⟨⟨_, _, _, _, PySem.F.excBase_ValueError, hb.1.1.1⟩, hm, hb.1.1.2, hb.1.2, hb.2⟩
/-- what «except X» says of each class -/
def ctB (B : Tb) (K : PySem.W.Frag) (l : List (Nat × Bool)) (u : Value) : Bool := l.all fun kb => decide (PySem.W.exmOne K (.ref (B.ct kb.1)) u = some kb.2)
theorem ctB_ok {B : Tb} {K : PySem.W.Frag} {l : List (Nat × Bool)} {u : Value} (h : ctB B K l u = true) : ∀ k b, l.lookup k = some b → PySem.W.exmOne K (.ref (B.ct k)) u = some b := fun k b e => by
  unfold ctB at h
  rw [List.all_eq_true] at h
  exact of_decide_eq_true (h (k, b) (lookup_mem' e))
/-- a def of the module -/
theorem fn_mk {B : Tb} {P : Program} {w : World} {K : PySem.W.Frag} {mg : Str → Option Value} {base : Heap} {L ar : Nat} {x : Str} {f : Addr} {fd : FuncData} {ps : List Str} {S : DSp} (G : FnG P w K mg base L f fd ps (spOf B K ar S)) (hm : mg x = some (.ref f)) (hk : PySem.W.keepIn K (.ref f) = true) (hb : Binds K fd ps []) : Fn B P w K mg base L x ar S :=
  ⟨f, fd, ps, G, hm, hk, hb⟩
end DL

namespace DL
open PySem L2
/-! ### readings without the pen, as functions -/
inductive R (α : Type) where
  | ok (a : α)
  | ex (e : Exn)
  | no
def R.bind {α β : Type} (r : R α) (k : α → R β) : R β := match r with
  | .ok a => k a
  | .ex e => .ex e
  | .no => .no
def ofO {α : Type} : Option α → R α
  | some a => .ok a
  | none => .no
def R.sat {α : Type} (r : R α) (g : Gh) (Q : α → Gh → Prop) (Z : DZ) : Prop := match r with
  | .ok a => Q a g
  | .ex e => Z e g
  | .no => False
theorem R.sat_bind {α β : Type} {r : R α} {k : α → R β} {g : Gh} {Q : β → Gh → Prop} {Z : DZ} (h : (r.bind k).sat g Q Z) : r.sat g (fun a g' => (k a).sat g' Q Z) Z := by
  cases r <;> exact h
theorem R.sat_mono {α : Type} {r : R α} {g : Gh} {Q Q' : α → Gh → Prop} {Z : DZ} (h : r.sat g Q Z) (k : ∀ a, r = .ok a → Q a g → Q' a g) : r.sat g Q' Z := by
  cases r with
  | ok a => exact k a rfl h
  | ex e => exact h
  | no => exact h
theorem R.thn {α β : Type} {r : R α} {k : α → R β} {g : Gh} {Q : β → Gh → Prop} {Q' : α → Gh → Prop} {Z : DZ} (h : (r.bind k).sat g Q Z) (q : ∀ a, r = .ok a → (k a).sat g Q Z → Q' a g) : r.sat g Q' Z := by
  cases r with
  | ok a => exact q a rfl h
  | ex e => exact h
  | no => exact h
def PuE (t : DE) (f : DEnv → R D) : Prop := ∀ ρ g Q Z, memNl g = true → (f ρ).sat g Q Z → t ρ g Q Z
def PuA (t : DA) (f : DEnv → R (List D)) : Prop := ∀ ρ g Q Z, memNl g = true → (f ρ).sat g Q Z → t ρ g Q Z
def PuT (t : DT) (f : DEnv → R Bool) : Prop := ∀ ρ g Q Z, memNl g = true → (f ρ).sat g Q Z → t ρ g Q Z
def PuO (t : DO) (f : DEnv → R (Option Int)) : Prop := ∀ ρ g Q Z, memNl g = true → (f ρ).sat g Q Z → t ρ g Q Z
def PuP (t : DP) (f : DEnv → R (List (Key × D))) : Prop := ∀ ρ g Q Z, memNl g = true → (f ρ).sat g Q Z → t ρ g Q Z
def PuF (S : DSp) (F : List D → R D) : Prop := ∀ ds g Φ Ψ, memNl g = true → (F ds).sat g Φ Ψ → S ds g Φ Ψ
section
variable {ta tb tc te : DE} {fa fb fc fe : DEnv → R D} {tr : DA} {fr : DEnv → R (List D)} {tA tB : DT} {fA fB : DEnv → R Bool}
def fVar (i : Nat) (ρ : DEnv) : R D := match ρ[i]? with
  | some (some d) => .ok d
  | _ => .no
theorem pu_var {i : Nat} : PuE (dVar i) (fVar i) := fun ρ g Q Z hg h => by
  unfold fVar at h
  split at h
  · rename_i d e; exact ⟨d, e, h⟩
  · exact h.elim
def fC (d : D) (_ : DEnv) : R D := .ok d
theorem pu_c {d : D} : PuE (dC d) (fC d) := fun ρ g Q Z hg h => h
def fOp (f : D → D → Option D) (fa fb : DEnv → R D) (ρ : DEnv) : R D := (fa ρ).bind fun x => (fb ρ).bind fun y => ofO (f x y)
theorem sat_ofO {α : Type} {o : Option α} {g : Gh} {Q : α → Gh → Prop} {Z : DZ} (h : (ofO o).sat g Q Z) : ∃ z, o = some z ∧ Q z g := by
  cases o with
  | none => exact h.elim
  | some a => exact ⟨a, rfl, h⟩
theorem pu_op {f : D → D → Option D} (ha : PuE ta fa) (hb : PuE tb fb) : PuE (dOp f ta tb) (fOp f fa fb) := fun ρ g Q Z hg h =>
  ha ρ g _ Z hg (R.thn h fun x _ h => hb ρ g _ Z hg (R.thn h fun y _ h => sat_ofO h))
def fChain (f f' : D → D → Option D) (fa fb fc : DEnv → R D) (ρ : DEnv) : R D := (fa ρ).bind fun x => (fb ρ).bind fun y => match f x y with
  | some (.bl k) => if k = true then (fc ρ).bind fun w => ofO (f' y w) else .ok (.bl false)
  | _ => .no
theorem pu_chain {f f' : D → D → Option D} (ha : PuE ta fa) (hb : PuE tb fb) (hc : PuE tc fc) : PuE (dChain f f' ta tb tc) (fChain f f' fa fb fc) := fun ρ g Q Z hg h =>
  ha ρ g _ Z hg (R.thn h fun x _ h => hb ρ g _ Z hg (R.thn h fun y _ h => by
    split at h
    · rename_i k e
      refine ⟨k, e, ?_⟩
      split at h
      · rename_i hk
        rw [if_pos hk]
        exact hc ρ g _ Z hg (R.thn h fun w _ h => sat_ofO h)
      · rename_i hk
        rw [if_neg hk]; exact h
    · exact h.elim))
def bl? : D → Option Bool
  | .bl b => some b
  | _ => none
theorem bl?_eq {d : D} {b : Bool} (h : bl? d = some b) : d = .bl b := by cases d <;> simp [bl?] at h; rw [h]
def fAnd (fa fb : DEnv → R D) (ρ : DEnv) : R D := (fa ρ).bind fun x => (ofO (bl? x)).bind fun k => if k = true then fb ρ else .ok (.bl false)
def fOr (fa fb : DEnv → R D) (ρ : DEnv) : R D := (fa ρ).bind fun x => (ofO (bl? x)).bind fun k => if k = true then .ok (.bl true) else fb ρ
def fNot (fa : DEnv → R D) (ρ : DEnv) : R D := (fa ρ).bind fun x => (ofO (bl? x)).bind fun k => .ok (.bl (!k))
theorem pu_and (ha : PuE ta fa) (hb : PuE tb fb) : PuE (dAnd ta tb) (fAnd fa fb) := fun ρ g Q Z hg h => ha ρ g _ Z hg (R.thn h fun x _ h => by
  obtain ⟨k, e, h⟩ := sat_ofO (R.sat_bind h)
  refine ⟨k, bl?_eq e, ?_⟩
  cases k with
  | true => exact hb ρ g Q Z hg h
  | false => exact h)
theorem pu_or (ha : PuE ta fa) (hb : PuE tb fb) : PuE (dOr ta tb) (fOr fa fb) := fun ρ g Q Z hg h => ha ρ g _ Z hg (R.thn h fun x _ h => by
  obtain ⟨k, e, h⟩ := sat_ofO (R.sat_bind h)
  refine ⟨k, bl?_eq e, ?_⟩
  cases k with
  | true => exact h
  | false => exact hb ρ g Q Z hg h)
theorem pu_not (ha : PuE ta fa) : PuE (dNot ta) (fNot fa) := fun ρ g Q Z hg h => ha ρ g _ Z hg (R.thn h fun x _ h => by
  obtain ⟨k, e, h⟩ := sat_ofO (R.sat_bind h)
  exact ⟨k, bl?_eq e, h⟩)
def fIf (fA : DEnv → R Bool) (fa fb : DEnv → R D) (ρ : DEnv) : R D := (fA ρ).bind fun k => if k = true then fa ρ else fb ρ
theorem pu_if (hA : PuT tA fA) (ha : PuE ta fa) (hb : PuE tb fb) : PuE (dIf tA ta tb) (fIf fA fa fb) := fun ρ g Q Z hg h => hA ρ g _ Z hg (R.thn h fun k _ h => by
  cases k with
  | true => exact ha ρ g Q Z hg h
  | false => exact hb ρ g Q Z hg h)
def fTest (fe : DEnv → R D) (ρ : DEnv) : R Bool := (fe ρ).bind fun x => ofO (bl? x)
theorem pu_test (he : PuE te fe) : PuT (dTest te) (fTest fe) := fun ρ g Q Z hg h => he ρ g _ Z hg (R.thn h fun x _ h => by
  obtain ⟨k, e, h⟩ := sat_ofO h
  exact ⟨k, bl?_eq e, h⟩)
def fAndT (fA fB : DEnv → R Bool) (ρ : DEnv) : R Bool := (fA ρ).bind fun k => if k = true then fB ρ else .ok false
def fOrT (fA fB : DEnv → R Bool) (ρ : DEnv) : R Bool := (fA ρ).bind fun k => if k = true then .ok true else fB ρ
def fNotT (fA : DEnv → R Bool) (ρ : DEnv) : R Bool := (fA ρ).bind fun k => .ok (!k)
theorem pu_andT (hA : PuT tA fA) (hB : PuT tB fB) : PuT (dAndT tA tB) (fAndT fA fB) := fun ρ g Q Z hg h => hA ρ g _ Z hg (R.thn h fun k _ h => by
  cases k with
  | true => exact hB ρ g Q Z hg h
  | false => exact h)
theorem pu_orT (hA : PuT tA fA) (hB : PuT tB fB) : PuT (dOrT tA tB) (fOrT fA fB) := fun ρ g Q Z hg h => hA ρ g _ Z hg (R.thn h fun k _ h => by
  cases k with
  | true => exact h
  | false => exact hB ρ g Q Z hg h)
theorem pu_notT (hA : PuT tA fA) : PuT (dNotT tA) (fNotT fA) := fun ρ g Q Z hg h => hA ρ g _ Z hg (R.thn h fun k _ h => h)
theorem pu_yes : PuT dYes (fun _ => .ok true) := fun ρ g Q Z hg h => h
/-! arguments, displays, built-ins -/
theorem pu_nil : PuA dNil (fun _ => .ok []) := fun ρ g Q Z hg h => h
def fCons (fe : DEnv → R D) (fr : DEnv → R (List D)) (ρ : DEnv) : R (List D) := (fe ρ).bind fun x => (fr ρ).bind fun xs => .ok (x :: xs)
theorem pu_cons (he : PuE te fe) (hr : PuA tr fr) : PuA (dCons te tr) (fCons fe fr) := fun ρ g Q Z hg h => he ρ g _ Z hg (R.thn h fun x _ h => hr ρ g _ Z hg (R.thn h fun xs _ h => h))
def fTup (fr : DEnv → R (List D)) (ρ : DEnv) : R D := (fr ρ).bind fun xs => if xs.length ≤ sizeLine then .ok (.tup xs) else .no
def fLst (fr : DEnv → R (List D)) (ρ : DEnv) : R D := (fr ρ).bind fun xs => if xs.length ≤ sizeLine then .ok (.lst xs) else .no
theorem pu_tup (hr : PuA tr fr) : PuE (dTup tr) (fTup fr) := fun ρ g Q Z hg h => hr ρ g _ Z hg (R.thn h fun xs _ h => by
  split at h
  · rename_i hl; exact ⟨hl, h⟩
  · exact h.elim)
theorem pu_lst (hr : PuA tr fr) : PuE (dLst tr) (fLst fr) := fun ρ g Q Z hg h => hr ρ g _ Z hg (R.thn h fun xs _ h => by
  split at h
  · rename_i hl; exact ⟨hl, h⟩
  · exact h.elim)
def fFn (f : List D → Option D) (fr : DEnv → R (List D)) (ρ : DEnv) : R D := (fr ρ).bind fun xs => ofO (f xs)
theorem pu_fn {f : List D → Option D} (hr : PuA tr fr) : PuE (dFn f tr) (fFn f fr) := fun ρ g Q Z hg h => hr ρ g _ Z hg (R.thn h fun xs _ h => sat_ofO h)
def fU (f : D → Option D) (fe : DEnv → R D) (ρ : DEnv) : R D := (fe ρ).bind fun x => ofO (f x)
theorem pu_u {f : D → Option D} (he : PuE te fe) : PuE (dU f te) (fU f fe) := fun ρ g Q Z hg h => he ρ g _ Z hg (R.thn h fun xs _ h => sat_ofO h)
def fM (is : D → Bool) (f : D → D → Option D) (fa fb : DEnv → R D) (ρ : DEnv) : R D := (fa ρ).bind fun x => if is x = true then (fb ρ).bind fun y => ofO (f x y) else .no
theorem pu_m {is : D → Bool} {f : D → D → Option D} (ha : PuE ta fa) (hb : PuE tb fb) : PuE (dM is f ta tb) (fM is f fa fb) := fun ρ g Q Z hg h => ha ρ g _ Z hg (R.thn h fun x _ h => by
  split at h
  · rename_i hi; exact ⟨hi, hb ρ g _ Z hg (R.thn h fun y _ h => sat_ofO h)⟩
  · exact h.elim)
def int? : D → Option Int
  | .int i => some i
  | _ => none
theorem int?_eq {d : D} {i : Int} (h : int? d = some i) : d = .int i := by cases d <;> simp [int?] at h; rw [h]
theorem pu_noPart : PuO dNoPart (fun _ => .ok none) := fun ρ g Q Z hg h => h
def fPart (fe : DEnv → R D) (ρ : DEnv) : R (Option Int) := (fe ρ).bind fun x => (ofO (int? x)).bind fun i => .ok (some i)
theorem pu_part (he : PuE te fe) : PuO (dPart te) (fPart fe) := fun ρ g Q Z hg h => he ρ g _ Z hg (R.thn h fun x _ h => by
  obtain ⟨i, e, h⟩ := sat_ofO (R.sat_bind h)
  exact ⟨i, int?_eq e, h⟩)
def fSl (fe : DEnv → R D) (fl fh : DEnv → R (Option Int)) (ρ : DEnv) : R D := (fe ρ).bind fun x => (fl ρ).bind fun lo => (fh ρ).bind fun hi => ofO (slD x lo hi)
theorem pu_sl {tl th : DO} {fl fh : DEnv → R (Option Int)} (he : PuE te fe) (hl : PuO tl fl) (hh : PuO th fh) : PuE (dSl te tl th) (fSl fe fl fh) := fun ρ g Q Z hg h =>
  he ρ g _ Z hg (R.thn h fun x _ h => hl ρ g _ Z hg (R.thn h fun lo _ h => hh ρ g _ Z hg (R.thn h fun hi _ h => sat_ofO h)))
def fExc (i : Nat) (fns : List Str) (fr : DEnv → R (List D)) (ρ : DEnv) : R D := (fr ρ).bind fun xs => .ok (.exc i (fieldsOf fns xs))
theorem pu_exc {i : Nat} {fns : List Str} (hr : PuA tr fr) : PuE (dExc i fns tr) (fExc i fns fr) := fun ρ g Q Z hg h => hr ρ g _ Z hg (R.thn h fun xs _ h => h)
theorem pu_pnil : PuP dPNil (fun _ => .ok []) := fun ρ g Q Z hg h => h
def fPCons (fa fb : DEnv → R D) (fp : DEnv → R (List (Key × D))) (ρ : DEnv) : R (List (Key × D)) := (fa ρ).bind fun x => (ofO (keyD x)).bind fun k => (fb ρ).bind fun y => (fp ρ).bind fun r => .ok ((k, y) :: r)
theorem pu_pcons {tp : DP} {fp : DEnv → R (List (Key × D))} (ha : PuE ta fa) (hb : PuE tb fb) (hp : PuP tp fp) : PuP (dPCons ta tb tp) (fPCons fa fb fp) := fun ρ g Q Z hg h => ha ρ g _ Z hg (R.thn h fun x _ h => by
  obtain ⟨k, e, h⟩ := sat_ofO (R.sat_bind h)
  exact ⟨k, e, hb ρ g _ Z hg (R.thn h fun y _ h => hp ρ g _ Z hg (R.thn h fun r _ h => h))⟩)
def fDisp (fp : DEnv → R (List (Key × D))) (ρ : DEnv) : R D := (fp ρ).bind fun kds => if kds.length ≤ 15 then .ok (.dct (mergeD [] kds)) else .no
theorem pu_disp {tp : DP} {fp : DEnv → R (List (Key × D))} (hp : PuP tp fp) : PuE (dDisp tp) (fDisp fp) := fun ρ g Q Z hg h => hp ρ g _ Z hg (R.thn h fun r _ h => by
  split at h
  · rename_i hl; exact ⟨hl, h⟩
  · exact h.elim)
/-! what is walked -/
def lst? : D → Option (List D)
  | .lst ds => some ds
  | _ => none
theorem lst?_eq {d : D} {l : List D} (h : lst? d = some l) : d = .lst l := by cases d <;> simp [lst?] at h; rw [h]
def tup? : D → Option (List D)
  | .tup ds => some ds
  | _ => none
theorem tup?_eq {d : D} {l : List D} (h : tup? d = some l) : d = .tup l := by cases d <;> simp [tup?] at h; rw [h]
def str? : D → Option Str
  | .str x => some x
  | _ => none
theorem str?_eq {d : D} {l : Str} (h : str? d = some l) : d = .str l := by cases d <;> simp [str?] at h; rw [h]
abbrev PuI (t : DI) (f : DEnv → R (List D)) : Prop := ∀ ρ g Q Z, memNl g = true → (f ρ).sat g Q Z → t ρ g Q Z
def fList (fe : DEnv → R D) (ρ : DEnv) : R (List D) := (fe ρ).bind fun x => ofO (lst? x)
theorem pu_list (he : PuE te fe) : PuI (dList te) (fList fe) := fun ρ g Q Z hg h => he ρ g _ Z hg (R.thn h fun x _ h => by
  obtain ⟨k, e, h⟩ := sat_ofO h
  exact ⟨k, lst?_eq e, h⟩)
def fTuple (fe : DEnv → R D) (ρ : DEnv) : R (List D) := (fe ρ).bind fun x => ofO (tup? x)
theorem pu_tuple (he : PuE te fe) : PuI (dTuple te) (fTuple fe) := fun ρ g Q Z hg h => he ρ g _ Z hg (R.thn h fun x _ h => by
  obtain ⟨k, e, h⟩ := sat_ofO h
  exact ⟨k, tup?_eq e, h⟩)
def fSigns (fe : DEnv → R D) (ρ : DEnv) : R (List D) := (fe ρ).bind fun x => (ofO (str? x)).bind fun z => .ok (z.cps.toList.map fun c => .str ⟨#[c]⟩)
theorem pu_signs (he : PuE te fe) : PuI (dSigns te) (fSigns fe) := fun ρ g Q Z hg h => he ρ g _ Z hg (R.thn h fun x _ h => by
  obtain ⟨k, e, h⟩ := sat_ofO (R.sat_bind h)
  exact ⟨k, str?_eq e, h⟩)
def fRange1 (fe : DEnv → R D) (ρ : DEnv) : R (List D) := (fe ρ).bind fun x => (ofO (int? x)).bind fun j => if fits62 j = true then .ok (rangeL 0 j.toNat) else .no
theorem pu_range1 (he : PuE te fe) : PuI (dRange1 te) (fRange1 fe) := fun ρ g Q Z hg h => he ρ g _ Z hg (R.thn h fun x _ h => by
  obtain ⟨j, e, h⟩ := sat_ofO (R.sat_bind h)
  split at h
  · rename_i hj; exact ⟨j, int?_eq e, hj, h⟩
  · exact h.elim)
def fRange2 (fa fb : DEnv → R D) (ρ : DEnv) : R (List D) := (fa ρ).bind fun x => (fb ρ).bind fun y => (ofO (int? x)).bind fun i => (ofO (int? y)).bind fun j => if (fits62 i && fits62 j) = true then .ok (rangeL i (j - i).toNat) else .no
theorem pu_range2 (ha : PuE ta fa) (hb : PuE tb fb) : PuI (dRange2 ta tb) (fRange2 fa fb) := fun ρ g Q Z hg h => ha ρ g _ Z hg (R.thn h fun x _ h => hb ρ g _ Z hg (R.thn h fun y _ h => by
  obtain ⟨i, e1, h⟩ := sat_ofO (R.sat_bind h)
  obtain ⟨j, e2, h⟩ := sat_ofO (R.sat_bind h)
  split at h
  · rename_i hj; exact ⟨i, j, int?_eq e1, int?_eq e2, hj, h⟩
  · exact h.elim))
def fEnum (fe : DEnv → R D) (ρ : DEnv) : R (List D) := (fe ρ).bind fun x => (ofO (lst? x)).bind fun ds => .ok (numbered ds)
theorem pu_enum (he : PuE te fe) : PuI (dEnum te) (fEnum fe) := fun ρ g Q Z hg h => he ρ g _ Z hg (R.thn h fun x _ h => by
  obtain ⟨k, e, h⟩ := sat_ofO (R.sat_bind h)
  exact ⟨k, lst?_eq e, h⟩)
def fZip (fa fb : DEnv → R D) (ρ : DEnv) : R (List D) := (fa ρ).bind fun x => (fb ρ).bind fun y => (ofO (lst? x)).bind fun xs => (ofO (lst? y)).bind fun ys => .ok (zipped xs ys)
theorem pu_zip (ha : PuE ta fa) (hb : PuE tb fb) : PuI (dZip ta tb) (fZip fa fb) := fun ρ g Q Z hg h => ha ρ g _ Z hg (R.thn h fun x _ h => hb ρ g _ Z hg (R.thn h fun y _ h => by
  obtain ⟨i, e1, h⟩ := sat_ofO (R.sat_bind h)
  obtain ⟨j, e2, h⟩ := sat_ofO (R.sat_bind h)
  exact ⟨i, j, lst?_eq e1, lst?_eq e2, h⟩))
def fCall (F : List D → R D) (fr : DEnv → R (List D)) (ρ : DEnv) : R D := (fr ρ).bind F
theorem pu_call {S : DSp} {F : List D → R D} (hS : PuF S F) (hr : PuA tr fr) : PuE (dCall S tr) (fCall F fr) := fun ρ g Q Z hg h => hr ρ g _ Z hg (R.thn h fun xs _ h => hS xs g Q Z hg h)
/-! comprehensions -/
def lcF (tg : DGp) (fA : DEnv → R Bool) (fe : DEnv → R D) (ρ : DEnv) : List D → List D → R (List D)
  | [], acc => .ok acc
  | d :: ds, acc => (ofO (tg d ρ)).bind fun ρ' => (fA ρ').bind fun b => if b = true then (fe ρ').bind fun y => if acc.length < sizeLine then lcF tg fA fe ρ ds (acc ++ [y]) else .no else lcF tg fA fe ρ ds acc
/-- nothing is raised -/
def R.quiet {α : Type} : R α → R α
  | .ex _ => .no
  | r => r
def fLcO (fi : DEnv → R (List D)) (tg : DGp) (fA : DEnv → R Bool) (fe : DEnv → R D) (vs : List Nat) (ρ : DEnv) : R (List D) := (fi ρ).bind fun ds => (lcF tg fA fe (wipeD ρ vs) ds []).quiet
theorem sat_quiet {α : Type} {r : R α} {g : Gh} {Q : α → Gh → Prop} {Z : DZ} (h : r.quiet.sat g Q Z) : r.sat g Q ZF := by
  cases r with
  | ok a => exact h
  | ex e => exact h.elim
  | no => exact h
theorem pu_lcO {ti : DI} {fi : DEnv → R (List D)} {tg : DGp} {vs : List Nat} (hi : PuI ti fi) (hA : PuT tA fA) (he : PuE te fe) : ∀ ρ g Q Z, memNl g = true → (fLcO fi tg fA fe vs ρ).sat g Q Z → dLcO ti tg tA te vs ρ g Q Z := fun ρ g Q Z hg h => hi ρ g _ Z hg (R.thn h fun ds _ h => by
  have h := sat_quiet h
  have key : ∀ (ds acc : List D), (lcF tg fA fe (wipeD ρ vs) ds acc).sat g Q ZF → lcD tg tA te (wipeD ρ vs) Q ds acc g := by
    intro ds
    induction ds with
    | nil => intro acc h; exact h
    | cons d ds ih =>
      intro acc h
      unfold lcF at h
      obtain ⟨ρ', e, h⟩ := sat_ofO (R.sat_bind h)
      refine ⟨ρ', e, hA ρ' g _ ZF hg (R.thn h fun b _ h => ?_)⟩
      cases b with
      | false => exact ih acc h
      | true =>
        refine he ρ' g _ ZF hg (R.thn h fun y _ h => ?_)
        split at h
        · rename_i hl; exact ⟨hl, ih _ h⟩
        · exact h.elim
  exact key ds [] h)
def fLc (fi : DEnv → R (List D)) (tg : DGp) (fA : DEnv → R Bool) (fe : DEnv → R D) (vs : List Nat) (ρ : DEnv) : R D := (fLcO fi tg fA fe vs ρ).bind fun ds => .ok (.lst ds)
theorem pu_lc {ti : DI} {fi : DEnv → R (List D)} {tg : DGp} {vs : List Nat} (hi : PuI ti fi) (hA : PuT tA fA) (he : PuE te fe) : PuE (dLc ti tg tA te vs) (fLc fi tg fA fe vs) := fun ρ g Q Z hg h => pu_lcO hi hA he ρ g _ Z hg (R.thn h fun ds _ h => h)
end
end DL

namespace DL
open PySem L2
/-! ### statements without the pen, as functions -/
inductive Fl where
  | nx (ρ : SEnv)
  | rt (d : D)
  | bk (ρ : SEnv)
  | ct (ρ : SEnv)
  | ex (e : Exn) (ρ : SEnv)
  | no
def Fl.sat (r : Fl) (g : Gh) (En : DEnds) : Prop := match r with
  | .nx ρ => En.nx ρ g
  | .rt d => En.rt d g
  | .bk ρ => En.bk ρ g
  | .ct ρ => En.ct ρ g
  | .ex e ρ => En.xz e ρ g
  | .no => False
def PuS (t : DS) (f : SEnv → Fl) : Prop := ∀ En ρ g, memNl g = true → (f ρ).sat g En → t En ρ g
def R.fl {α : Type} (r : R α) (ρ : SEnv) (k : α → Fl) : Fl := match r with
  | .ok a => k a
  | .ex e => .ex e ρ
  | .no => .no
theorem R.fl_thn {α : Type} {r : R α} {ρ : SEnv} {k : α → Fl} {g : Gh} {En : DEnds} {Q' : α → Gh → Prop} (h : (r.fl ρ k).sat g En) (q : ∀ a, r = .ok a → (k a).sat g En → Q' a g) : r.sat g Q' (fun ex g' => En.xz ex ρ g') := by
  cases r with
  | ok a => exact q a rfl h
  | ex e => exact h
  | no => exact h
def Fl.seq (r : Fl) (k : SEnv → Fl) : Fl := match r with
  | .nx ρ => k ρ
  | r => r
section
variable {t u tb : DS} {f fu fb : SEnv → Fl} {te : DE} {fe : DEnv → R D} {tA : DT} {fA : DEnv → R Bool} {tr : DA} {fr : DEnv → R (List D)} {i j : Nat}
theorem pu_next : PuS dNext .nx := fun En ρ g _ h => h
theorem pu_break : PuS dBreak .bk := fun En ρ g _ h => h
theorem pu_cont : PuS dCont .ct := fun En ρ g _ h => h
def fSeq (f fu : SEnv → Fl) (ρ : SEnv) : Fl := (f ρ).seq fu
theorem pu_seq (h1 : PuS t f) (h2 : PuS u fu) : PuS (dSeq t u) (fSeq f fu) := fun En ρ g hg h => h1 { En with nx := u En } ρ g hg (by
  unfold fSeq at h
  cases e : f ρ with
  | nx ρ' => rw [e] at h; exact h2 En ρ' g hg h
  | _ => rw [e] at h; exact h)
def fSet (i : Nat) (fe : DEnv → R D) (ρ : SEnv) : Fl := (fe (mask ρ)).fl ρ fun d => .nx (ρ.set i (.fz d))
theorem pu_set (he : PuE te fe) : PuS (dSet i te) (fSet i fe) := fun En ρ g hg h => he _ g _ _ hg (R.fl_thn h fun d _ h => h)
def fRet (fe : DEnv → R D) (ρ : SEnv) : Fl := (fe (mask ρ)).fl ρ .rt
theorem pu_ret (he : PuE te fe) : PuS (dRet te) (fRet fe) := fun En ρ g hg h => he _ g _ _ hg (R.fl_thn h fun d _ h => h)
theorem pu_retN : PuS dRetN (fun _ => .rt .non) := fun En ρ g hg h => h
def fRetO (i : Nat) (ρ : SEnv) : Fl := match ρ[i]? with
  | some (.ow ds) => .rt (.lst ds)
  | _ => .no
theorem pu_retO : PuS (dRetO i) (fRetO i) := fun En ρ g hg h => by
  unfold fRetO at h
  split at h
  · rename_i ds e; exact ⟨ds, e, h⟩
  · exact h.elim
def fDrop (fe : DEnv → R D) (ρ : SEnv) : Fl := (fe (mask ρ)).fl ρ fun _ => .nx ρ
theorem pu_drop (he : PuE te fe) : PuS (dDrop te) (fDrop fe) := fun En ρ g hg h => he _ g _ _ hg (R.fl_thn h fun d _ h => h)
def fIfF (fA : DEnv → R Bool) (f fu : SEnv → Fl) (ρ : SEnv) : Fl := (fA (mask ρ)).fl ρ fun b => if b = true then f ρ else fu ρ
theorem pu_ifS (hA : PuT tA fA) (h1 : PuS t f) (h2 : PuS u fu) : PuS (dIfS tA t u) (fIfF fA f fu) := fun En ρ g hg h => hA _ g _ _ hg (R.fl_thn h fun b _ h => by
  cases b with
  | true => exact h1 En ρ g hg h
  | false => exact h2 En ρ g hg h)
def fFreeze (i : Nat) (f : SEnv → Fl) (ρ : SEnv) : Fl := match ρ[i]? with
  | some (.ow ds) => f (ρ.set i (.fz (.lst ds)))
  | _ => .no
theorem pu_freeze (h1 : PuS t f) : PuS (dFreeze i t) (fFreeze i f) := fun En ρ g hg h => by
  unfold fFreeze at h
  split at h
  · rename_i ds e; exact ⟨ds, e, h1 En _ g hg h⟩
  · exact h.elim
/-- the passes of a loop -/
def forF (tg : DG) (fb : SEnv → Fl) : List D → SEnv → Fl
  | [], ρ => .nx ρ
  | d :: ds, ρ => match tg d ρ with
    | some ρ' => match fb ρ' with
      | .nx ρ'' => forF tg fb ds ρ''
      | .ct ρ'' => forF tg fb ds ρ''
      | .bk ρ'' => .nx ρ''
      | r => r
    | none => .no
theorem pu_forD {tg : DG} (hb : PuS tb fb) {En : DEnds} {g : Gh} (hg : memNl g = true) : ∀ (ds : List D) (ρ : SEnv), (forF tg fb ds ρ).sat g En → forD tg tb En ds ρ g
  | [], ρ, h => h
  | d :: ds, ρ, h => by
    unfold forF at h
    split at h
    · rename_i ρ' e
      refine ⟨ρ', e, hb _ ρ' g hg ?_⟩
      split at h
      · rename_i ρ'' e2; rw [e2]; exact pu_forD hb hg ds ρ'' h
      · rename_i ρ'' e2; rw [e2]; exact pu_forD hb hg ds ρ'' h
      · rename_i ρ'' e2; rw [e2]; exact h
      · rename_i r n1 n2 n3
        cases e2 : fb ρ' with
        | nx ρ'' => exact absurd e2 (n1 ρ'')
        | ct ρ'' => exact absurd e2 (n2 ρ'')
        | bk ρ'' => exact absurd e2 (n3 ρ'')
        | rt d => rw [e2] at h; exact h
        | ex e ρ'' => rw [e2] at h; exact h
        | no => rw [e2] at h; exact h
    · exact h.elim
def fFor (fi : DEnv → R (List D)) (tg : DG) (fb : SEnv → Fl) (ρ : SEnv) : Fl := (fi (mask ρ)).fl ρ fun ds => forF tg fb ds ρ
theorem pu_for {ti : DI} {fi : DEnv → R (List D)} {tg : DG} (hi : PuI ti fi) (hb : PuS tb fb) : PuS (dFor ti tg tb) (fFor fi tg fb) := fun En ρ g hg h => hi _ g _ _ hg (R.fl_thn h fun ds _ h => pu_forD hb hg ds ρ h)
def fRaise (i : Nat) (fns : List Str) (fr : DEnv → R (List D)) (ρ : SEnv) : Fl := (fr (mask ρ)).fl ρ fun xs => .ex ⟨i, fieldsOf fns xs⟩ ρ
theorem pu_raise {fns : List Str} (hr : PuA tr fr) : PuS (dRaise i fns tr) (fRaise i fns fr) := fun En ρ g hg h => hr _ g _ _ hg (R.fl_thn h fun xs _ h => h)
theorem pu_raise0 : PuS (dRaise0 i) (fun ρ => .ex ⟨i, []⟩ ρ) := fun En ρ g hg h => h
def fTry (c : Nat → Option Bool) (i j : Nat) (fb : SEnv → Fl) (ρ : SEnv) : Fl := match fb ρ with
  | .ex e ρ' => match c e.c with
    | some b => if b = true then .nx (((ρ'.set i (.fz (.exc e.c e.fs))).set j (.fz (.exc e.c e.fs))).set i .un) else .ex e ρ'
    | none => .no
  | r => r
theorem pu_try {c : Nat → Option Bool} (hb : PuS tb fb) : PuS (dTry c i j tb) (fTry c i j fb) := fun En ρ g hg h => hb _ ρ g hg (by
  unfold fTry at h
  cases e : fb ρ with
  | ex e' ρ' =>
    rw [e] at h
    dsimp only at h
    split at h
    · rename_i b e2
      refine ⟨b, e2, ?_⟩
      split at h
      · rename_i hbt; rw [if_pos hbt]; exact h
      · rename_i hbt; rw [if_neg hbt]; exact h
    · exact h.elim
  | _ => rw [e] at h; exact h)
/-! lists of our own -/
abbrev TL := DEnv → Gh → (List D → Gh → Prop) → DZ → Prop
def PuL (t : TL) (f : DEnv → R (List D)) : Prop := ∀ ρ g Q Z, memNl g = true → (f ρ).sat g Q Z → t ρ g Q Z
def fLstO (fr : DEnv → R (List D)) (ρ : DEnv) : R (List D) := (fr ρ).bind fun xs => if xs.length ≤ sizeLine then .ok xs else .no
theorem pu_lstO (hr : PuA tr fr) : PuL (dLstO tr) (fLstO fr) := fun ρ g Q Z hg h => hr ρ g _ Z hg (R.thn h fun xs _ h => by
  split at h
  · rename_i hl; exact ⟨hl, h⟩
  · exact h.elim)
def seq? : D → Option (List D)
  | .lst ds => some ds
  | .tup ds => some ds
  | _ => none
theorem seq?_eq {d : D} {l : List D} (h : seq? d = some l) : d = .lst l ∨ d = .tup l := by cases d <;> simp [seq?] at h <;> rw [h] <;> simp
def fListO (fe : DEnv → R D) (ρ : DEnv) : R (List D) := (fe ρ).bind fun x => ofO (seq? x)
theorem pu_listO (he : PuE te fe) : PuL (dListO te) (fListO fe) := fun ρ g Q Z hg h => he ρ g _ Z hg (R.thn h fun x _ h => by
  obtain ⟨ds, e, h⟩ := sat_ofO h
  exact ⟨ds, seq?_eq e, h⟩)
def fCatO (fa fb : DEnv → R D) (ρ : DEnv) : R (List D) := (fa ρ).bind fun x => (fb ρ).bind fun y => (ofO (lst? x)).bind fun xs => (ofO (lst? y)).bind fun ys => if xs.length + ys.length ≤ sizeLine then .ok (xs ++ ys) else .no
theorem pu_catO {ta tb : DE} {fa fb : DEnv → R D} (ha : PuE ta fa) (hb : PuE tb fb) : PuL (dCatO ta tb) (fCatO fa fb) := fun ρ g Q Z hg h => ha ρ g _ Z hg (R.thn h fun x _ h => hb ρ g _ Z hg (R.thn h fun y _ h => by
  obtain ⟨xs, e1, h⟩ := sat_ofO (R.sat_bind h)
  obtain ⟨ys, e2, h⟩ := sat_ofO (R.sat_bind h)
  split at h
  · rename_i hl; exact ⟨xs, ys, lst?_eq e1, lst?_eq e2, hl, h⟩
  · exact h.elim))
def fSetO (i : Nat) (fl : DEnv → R (List D)) (ρ : SEnv) : Fl := (fl (mask ρ)).fl ρ fun ds => .nx (ρ.set i (.ow ds))
theorem pu_setO {tl : TL} {fl : DEnv → R (List D)} (hl : PuL tl fl) : PuS (dSetO i tl) (fSetO i fl) := fun En ρ g hg h => hl _ g _ _ hg (R.fl_thn h fun ds _ h => h)
def fAppend (i : Nat) (fe : DEnv → R D) (ρ : SEnv) : Fl := match ρ[i]? with
  | some (.ow ds) => (fe (mask ρ)).fl ρ fun d => if ds.length < sizeLine then .nx (ρ.set i (.ow (ds ++ [d]))) else .no
  | _ => .no
theorem pu_append (he : PuE te fe) : PuS (dAppend i te) (fAppend i fe) := fun En ρ g hg h => by
  unfold fAppend at h
  split at h
  · rename_i ds e
    refine ⟨ds, e, he _ g _ _ hg (R.fl_thn h fun d _ h => ?_)⟩
    split at h
    · rename_i hl; exact ⟨hl, h⟩
    · exact h.elim
  · exact h.elim
/-! looking at lists of our own -/
theorem okG_self {g : Gh} (hg : memNl g = true) : okG g g = true := by unfold okG; rw [hg]; simp
def R.flS {α : Type} (r : R α) (ρ : SEnv) (k : α → Fl) : Fl := match r with
  | .ok a => k a
  | .ex e => if nlf e.fs = true then .ex e ρ else .no
  | .no => .no
theorem R.flS_thn {α : Type} {r : R α} {ρ : SEnv} {k : α → Fl} {g : Gh} {En : DEnds} {Q' : α → Gh → Prop} (hg : memNl g = true) (h : (r.flS ρ k).sat g En) (q : ∀ a, r = .ok a → (k a).sat g En → Q' a g) : r.sat g Q' (fun ex g' => okG g g' = true ∧ nlf ex.fs = true ∧ En.xz ex ρ g') := by
  cases r with
  | ok a => exact q a rfl h
  | ex e =>
    have h : (if nlf e.fs = true then Fl.ex e ρ else Fl.no).sat g En := h
    split at h
    · rename_i hn; exact ⟨okG_self hg, hn, h⟩
    · exact h.elim
  | no => exact h
def fSetS (i : Nat) (fe : DEnv → R D) (ρ : SEnv) : Fl := (fe (snap ρ)).flS ρ fun d => if nl d = true then .nx (ρ.set i (.fz d)) else .no
theorem pu_setS (he : PuE te fe) : PuS (dSetS i te) (fSetS i fe) := fun En ρ g hg h => he _ g _ _ hg (R.flS_thn hg h fun d _ h => by
  split at h
  · rename_i hn; exact ⟨okG_self hg, hn, h⟩
  · exact h.elim)
def fIfSF (fA : DEnv → R Bool) (f fu : SEnv → Fl) (ρ : SEnv) : Fl := (fA (snap ρ)).flS ρ fun b => if b = true then f ρ else fu ρ
theorem pu_ifSS (hA : PuT tA fA) (h1 : PuS t f) (h2 : PuS u fu) : PuS (dIfSS tA t u) (fIfSF fA f fu) := fun En ρ g hg h => hA _ g _ _ hg (R.flS_thn hg h fun b _ h => ⟨okG_self hg, by
  cases b with
  | true => exact h1 En ρ g hg h
  | false => exact h2 En ρ g hg h⟩)
def fAppendS (i : Nat) (fe : DEnv → R D) (ρ : SEnv) : Fl := match ρ[i]? with
  | some (.ow ds) => (fe (snap ρ)).flS ρ fun d => if nl d = true ∧ ds.length < sizeLine then .nx (ρ.set i (.ow (ds ++ [d]))) else .no
  | _ => .no
theorem pu_appendS (he : PuE te fe) : PuS (dAppendS i te) (fAppendS i fe) := fun En ρ g hg h => by
  unfold fAppendS at h
  split at h
  · rename_i ds e
    refine ⟨ds, e, he _ g _ _ hg (R.flS_thn hg h fun d _ h => ?_)⟩
    split at h
    · rename_i hl; exact ⟨okG_self hg, hl.1, hl.2, h⟩
    · exact h.elim
  · exact h.elim
def fRaiseS (i : Nat) (fns : List Str) (fr : DEnv → R (List D)) (ρ : SEnv) : Fl := (fr (snap ρ)).flS ρ fun xs => if nlf (fieldsOf fns xs) = true then .ex ⟨i, fieldsOf fns xs⟩ ρ else .no
theorem pu_raiseS {fns : List Str} (hr : PuA tr fr) : PuS (dRaiseS i fns tr) (fRaiseS i fns fr) := fun En ρ g hg h => hr _ g _ _ hg (R.flS_thn hg h fun xs _ h => by
  split at h
  · rename_i hn; exact ⟨okG_self hg, hn, h⟩
  · exact h.elim)
end
/-! ### defs -/
def Fl.out : Fl → R D
  | .nx _ => .ok .non
  | .rt d => .ok d
  | .ex e _ => .ex e
  | _ => .no
def runF (N : List Str) (f : SEnv → Fl) (ds : List D) : R D := (f (dStart N ds)).out
theorem pu_def {N : List Str} {t : DS} {f : SEnv → Fl} (h : PuS t f) : PuF (specOf N t) (runF N f) := fun ds g Φ Ψ hg q => h _ _ g hg (by
  unfold runF at q
  cases e : f (dStart N ds) with
  | nx ρ => rw [e] at q; exact q
  | rt d => rw [e] at q; exact q
  | ex e' ρ => rw [e] at q; exact q
  | bk ρ => rw [e] at q; exact q.elim
  | ct ρ => rw [e] at q; exact q.elim
  | no => rw [e] at q; exact q.elim)
end DL

namespace DL
open PySem L2
theorem penV_rest {n cl : Nat} {d : D} (h : PenV n cl "rest" d) : ∃ r, d = .int r := by
  generalize hk : ("rest" : Str) = k at h
  cases h with
  | cells ns _ _ => exact absurd hk (by decide)
  | at_ a _ _ => exact ⟨a, rfl⟩
  | rest r => exact ⟨r, rfl⟩
  | fold f _ _ => exact ⟨f, rfl⟩
theorem penV_at {n cl : Nat} {d : D} (h : PenV n cl "at" d) : ∃ a, d = .int a ∧ 0 ≤ a ∧ a ≤ n := by
  generalize hk : ("at" : Str) = k at h
  cases h with
  | cells ns _ _ => exact absurd hk (by decide)
  | at_ a h1 h2 => exact ⟨a, rfl, h1, h2⟩
  | rest r => exact absurd hk (by decide)
  | fold f _ _ => exact absurd hk (by decide)
theorem penV_fold {n cl : Nat} {d : D} (h : PenV n cl "fold" d) : ∃ a, d = .int a ∧ 0 ≤ a ∧ a < 2147483629 := by
  generalize hk : ("fold" : Str) = k at h
  cases h with
  | cells ns _ _ => exact absurd hk (by decide)
  | at_ a h1 h2 => exact absurd hk (by decide)
  | rest r => exact absurd hk (by decide)
  | fold f h1 h2 => exact ⟨f, rfl, h1, h2⟩
theorem penV_cells {n cl : Nat} {d : D} (h : PenV n cl "cells" d) : ∃ ns : List Int, d = .lst (ns.map D.int) ∧ ns.length ≤ 63 ∧ ns.length = cl := by
  generalize hk : ("cells" : Str) = k at h
  cases h with
  | cells ns h h' => exact ⟨ns, rfl, h, h'⟩
  | at_ a h1 h2 => exact absurd hk (by decide)
  | rest r => exact absurd hk (by decide)
  | fold f h1 h2 => exact absurd hk (by decide)
theorem mod_i {i j : Int} (h : 0 < j) : modD (.int i) (.int j) = some (.int (i % j)) := by simp [modD, h]
theorem fdiv_i {i j : Int} (h : 0 < j) (h2 : j < 1073741824) : fdivD (.int i) (.int j) = some (.int (i / j)) := by simp only [fdivD]; rw [if_pos ⟨h, h2⟩]
theorem pow_i {i j : Int} (h : 0 ≤ j ∧ j ≤ 1000000 ∧ i.natAbs < 2 ^ 64) : powD (.int i) (.int j) = some (.int (i ^ j.toNat)) := by simp only [powD]; rw [if_pos h]
theorem mul_i {i j : Int} (h : (small i || small j) = true) : mulD (.int i) (.int j) = some (.int (i * j)) := by simp only [mulD]; rw [if_pos h]
theorem at_get {α : Type} {xs : List α} {a : Int} (h0 : 0 ≤ a) (h1 : a < xs.length) : ∃ d, xs[a.toNat]? = some d ∧ atI xs a = some d := by
  have hl : a.toNat < xs.length := by omega
  refine ⟨_, List.getElem?_eq_getElem hl, ?_⟩
  unfold atI ixN
  rw [if_pos h0, if_pos h1, Option.bind_some, List.getElem?_eq_getElem hl]
theorem ix_ints {ns : List Int} {a : Int} (h0 : 0 ≤ a) (h1 : a < ns.length) : ∃ k : Int, ixA (.lst (ns.map D.int)) (.int a) = some (.int k) := by
  obtain ⟨d, e1, e2⟩ := at_get (xs := ns.map D.int) h0 (by rw [List.length_map]; exact h1)
  rw [List.getElem?_map, Option.map_eq_some_iff] at e1
  obtain ⟨k, _, rfl⟩ := e1
  exact ⟨k, e2⟩
/-! ### what can be shown -/
structure Shw (m : Nat) (v : D) (p : PyData) : Prop where
  py : v.py = some p
  sh : p.showable = true
  nd : p.hasDict = false
  dp : p.depth ≤ 40
  ln : p.shown.length ≤ m
theorem pys_shw {m : Nat} : ∀ {L : List D}, (∀ v ∈ L, ∃ p, Shw m v p) → ∃ ps, pys L = some ps ∧ PyData.showableAll ps = true ∧ PyData.hasDictAll ps = false ∧ PyData.depthAll ps ≤ 40 ∧ ((PyData.shownAll ps).map (·.length)).sum ≤ m * L.length ∧ (PyData.shownAll ps).length = L.length
  | [], _ => ⟨[], rfl, by simp [PyData.showableAll], by simp [PyData.hasDictAll], by simp [PyData.depthAll], by simp [PyData.shownAll], by simp [PyData.shownAll]⟩
  | v :: L, h => by
    obtain ⟨p, hp⟩ := h v List.mem_cons_self
    obtain ⟨ps, h1, h2, h3, h4, h5, h6⟩ := pys_shw (L := L) fun w hw => h w (List.mem_cons_of_mem _ hw)
    refine ⟨p :: ps, ?_, ?_, ?_, ?_, ?_, ?_⟩
    · simp only [pys, hp.py, h1]
    · simp only [PyData.showableAll, hp.sh, h2, Bool.and_self]
    · simp only [PyData.hasDictAll, hp.nd, h3, Bool.or_self]
    · simp only [PyData.depthAll]
      exact Nat.max_le.mpr ⟨hp.dp, h4⟩
    · simp only [PyData.shownAll, List.map_cons, List.sum_cons, List.length_cons, Nat.mul_add, Nat.mul_one]
      have := hp.ln
      omega
    · simp only [PyData.shownAll, List.length_cons, h6]
theorem repr_lst {m : Nat} {L : List D} (h : ∀ v ∈ L, ∃ p, Shw m v p) (hz : m * L.length + 2 * L.length + 3 ≤ sizeLine) : ∃ s, reprD [.lst L] = some (.str s) := by
  obtain ⟨ps, h1, h2, h3, h4, h5, h6⟩ := pys_shw h
  have hp : (D.lst L).py = some (.list ps) := by simp only [D.py, h1]
  have hl := listText_len_le (PyData.shownAll ps)
  refine ⟨(PyData.list ps).shown, ?_⟩
  show (match (D.lst L).py with
    | some d => if d.showable = true ∧ d.hasDict = false ∧ d.depth ≤ 50 ∧ d.shown.length ≤ sizeLine then some (D.str d.shown) else none
    | none => none) = _
  rw [hp]
  dsimp only
  rw [if_pos]
  refine ⟨by simp only [PyData.showable, h2], by simp only [PyData.hasDict, h3], by simp only [PyData.depth]; omega, ?_⟩
  simp only [PyData.shown]
  rw [h6] at hl
  omega
theorem eq_str (neg : Bool) (s : Str) : eqA neg (.str s) (.str s) = some (.bl (!neg)) := by
  cases neg <;> simp [eqA]
end DL

namespace DL
open PySem L2 PyProof.Rows
/-! ### self.f = e, self ours alone -/
def putFD (f : Str) (d : D) : List (Str × D) → List (Str × D)
  | [] => [(f, d)]
  | (g, x) :: r => if g = f then (g, d) :: r else (g, x) :: putFD f d r
theorem RepF.put {B : Tb} {K : PySem.W.Frag} {c : Cn} {f : Str} {v : V} {d : D} (rv : Rep B K c v d) : ∀ {vs : List (Str × V)} {ds : List (Str × D)}, RepF B K c vs ds → RepF B K c (L2.putF f v vs) (putFD f d ds)
  | _, _, .nil => .cons rv .nil
  | _, _, .cons (k := k) r t => by
    unfold L2.putF putFD
    split
    · exact .cons rv t
    · exact .cons r (RepF.put rv t)
theorem RepF.length {B : Tb} {K : PySem.W.Frag} {c : Cn} : ∀ {vs : List (Str × V)} {ds : List (Str × D)}, RepF B K c vs ds → vs.length = ds.length
  | _, _, .nil => rfl
  | _, _, .cons _ t => congrArg (· + 1) (RepF.length t)
theorem RelS.putO {B : Tb} {K : PySem.W.Frag} {c₀ c : Cn} {H₀ : En} {H : Hp} {g : Gh} {ρ : SEnv} {σ : L2.St} {i k : Nat} {p dx : Addr} {fs gs : List (Str × D)} {vs : List (Str × V)} (r : RelS B K c₀ H₀ c g ρ σ H) (ep : p = H₀.th) (hi : ρ[i]? = some (.ob k fs)) (rs : RepF B K c vs gs) :
    RelS B K c₀ H₀ c g (ρ.set i (.ob k gs)) σ (upd H p (.ins (B.ct k) dx vs)) := by
  obtain ⟨dx', ws, hp, h2, h3, h4, h5, h6, h7⟩ := r.ob i p k fs ep hi
  have hl : i < ρ.length := (List.getElem?_eq_some_iff.mp hi).1
  have get : ∀ (j : Nat) (x : SV), (ρ.set i (.ob k gs))[j]? = some x → (j = i ∧ x = .ob k gs) ∨ (j ≠ i ∧ ρ[j]? = some x) := fun j x h => by
    by_cases e : i = j
    · subst e
      rw [List.getElem?_set_self hl] at h
      exact .inl ⟨rfl, (Option.some.inj h).symm⟩
    · rw [List.getElem?_set_ne e] at h
      exact .inr ⟨fun z => e z.symm, h⟩
  refine ⟨r.gr.own h7, r.fine.own h4 h5 h6, by rw [List.length_set]; exact r.len, fun j d h => ?_, fun j es h => ?_, fun j l es fs' q hjl e1 e2 e3 => ?_, fun j pp l es epp h => ?_, fun j l k1 k2 f1 f2 e1 e2 => ?_, ⟨r.th.1, fun x hx => (upd_ne (fun z => by
      have q := r.th.2.1 x hx
      rw [z, h2] at q
      exact pl_ins.2 _ _ (Option.some.inj q))).trans (r.th.2.1 x hx), fun j h => ?_⟩⟩
  rotate_right
  · rcases get j _ h with ⟨_, e⟩ | ⟨_, h⟩
    · cases e
    · exact r.th.2.2 j h
  · rcases get j _ h with ⟨_, e⟩ | ⟨_, h⟩
    · cases e
    · exact r.fz j d h
  · rcases get j _ h with ⟨_, e⟩ | ⟨_, h⟩
    · cases e
    · obtain ⟨q, us, q1, q2, q3⟩ := r.ow j es h
      refine ⟨q, us, q1, ?_, q3⟩
      rw [upd_ne]
      · exact q2
      · intro z
        subst z
        rw [h2] at q2; cases q2
  · rcases get j _ e1 with ⟨_, e⟩ | ⟨_, e1⟩
    · cases e
    · rcases get l _ e2 with ⟨_, e⟩ | ⟨_, e2⟩
      · cases e
      · exact r.inj j l es fs' q hjl e1 e2 e3
  · rcases get j _ h with ⟨ej, e⟩ | ⟨hj, h⟩
    · cases e
      rw [ej, epp, ← ep]
      exact ⟨dx, vs, hp, upd_same, rs, h4, h5, h6, h7⟩
    · exact absurd (r.ob1 j i l k es fs h hi) hj
  · have b1 : ∃ k f, ρ[j]? = some (.ob k f) := by
      rcases get j _ e1 with ⟨ej, e⟩ | ⟨_, e1⟩
      · exact ⟨k, fs, by rw [ej]; exact hi⟩
      · exact ⟨_, _, e1⟩
    have b2 : ∃ k f, ρ[l]? = some (.ob k f) := by
      rcases get l _ e2 with ⟨ej, e⟩ | ⟨_, e2⟩
      · exact ⟨k, fs, by rw [ej]; exact hi⟩
      · exact ⟨_, _, e2⟩
    obtain ⟨_, _, b1⟩ := b1
    obtain ⟨_, _, b2⟩ := b2
    exact r.ob1 j l _ _ _ _ b1 b2
def dSelf (i : Nat) (f : Str) (is : List Nat) (te : DE) : DS := fun En ρ g => te (mask ρ) g (fun d g' => ∃ k fs, ρ[i]? = some (.ob k fs) ∧ is.contains k = true ∧ fs.length < 1000 ∧ En.nx (ρ.set i (.ob k (putFD f d fs))) g') fun ex g' => En.xz ex ρ g'
section
variable {B : Tb} {X : Cx} {W : WX} {H₀ : En} {e : Expr} {te : DE} {pos pos' px : Pos} {i : Nat} {x f : Str} {is js : List Nat}
theorem ws_self (A : AtOk B X.K f is js) (hv : PE X (.Name x px) (tVar i)) (he : WE B X W e te) (hs : swapsWith e (some (.Attribute (.Name x px) f pos')) pos.line X.env = pure false := by rfl) : WS B X W H₀ (.Assign [.Attribute (.Name x px) f pos'] e pos) (dSelf i f is te) := by
  refine ⟨fun c₀ c g ρ σ H D r q z => semS_of (ps_fld hv pe_sem hs) ?_⟩
  refine (he.run c g _ σ H _ _ r.fine r.mask q (r.zok z)).mono fun v H' ⟨c', g', d, s, k, rr, kk, fs, hi, hk, hl, q'⟩ => ?_
  have r' := r.next s k
  obtain ⟨dx, vs, h1, h2, h3, h4, h5, h6, h7⟩ := r'.ob i _ kk fs rfl hi
  obtain ⟨a1, a2⟩ := A.o kk (List.contains_iff_mem.mp hk)
  exact ⟨_, h1, _, _, dx, vs, rfl, h2, a1, a2, by rw [h3.length]; exact hl, c', g', _, r'.putO rfl hi (h3.put rr), q'⟩
end
/-! ### __init__ of a class whose instances are not changed later -/
abbrev DIn := Nat → List (Str × D) → List D → Gh → (List (Str × D) → Gh → Prop) → DZ → Prop
def spInit (B : Tb) (K : PySem.W.Frag) (ar : Nat) (S : DIn) : Sp := fun vs H Q E => ∃ c g k fs0 H₀ x dx v0 ws ds Φ Ψ, vs = .ref x :: ws ∧ ws.length = ar ∧ Grow c H₀ c H ∧ Fine B K c g H ∧ H x = some (.ins (B.ct k) dx v0) ∧ RepF B K c v0 fs0 ∧ c.F x = none ∧ c.pen ≠ some x ∧ x ∉ c.ma ∧ H₀ x = none ∧ Reps B K c ws ds ∧ S k fs0 ds g Φ Ψ ∧
  (∀ c' H' g' dx' v' fs, Grow c H₀ c' H' → Fine B K c' g' H' → H' x = some (.ins (B.ct k) dx' v') → RepF B K c' v' fs → c'.F x = none → c'.pen ≠ some x → x ∉ c'.ma → Φ fs g' → Q .non H') ∧
  (∀ c' H' g' cls dd ex, Grow c H₀ c' H' → Fine B K c' g' H' → ExR B K c' cls dd ex → Ψ ex g' → E cls dd H')
def specIn (N : List Str) (t : DS) : DIn := fun k fs0 ds g Φ Ψ => t { nx := fun ρ g' => ∃ fs, ρ[0]? = some (.ob k fs) ∧ Φ fs g', rt := fun _ _ => False, xz := fun ex _ g' => Ψ ex g' } (.ob k fs0 :: dStart N ds) g
theorem start_in {B : Tb} {K : PySem.W.Frag} {c : Cn} {g : Gh} {H₀ : En} {H : Hp} {N : List Str} {n : Str} {k : Nat} {fs0 : List (Str × D)} {x dx : Addr} {v0 : List (Str × V)} {ws : List V} {ds : List D} (s : Grow c H₀ c H) (kf : Fine B K c g H) (hx : H x = some (.ins (B.ct k) dx v0)) (rf : RepF B K c v0 fs0) (hF : c.F x = none) (hp : c.pen ≠ some x) (hm : x ∉ c.ma) (h0 : H₀ x = none) (rs : Reps B K c ws ds) (hc0 : Le H₀.c c) (hco : H₀.co = none) (hth : H₀.th = x) :
    RelS B K c H₀ c g (.ob k fs0 :: dStart N ds) (L2.start (n :: N) (.ref x :: ws)) H := by
  have r1 := start_rel (N := N) kf rs H₀.th
  have e : L2.start (n :: N) (.ref x :: ws) = some (.ref x) :: L2.start N ws := by
    unfold L2.start
    simp
  rw [e]
  refine ⟨s, kf, by rw [List.length_cons, List.length_cons, r1.len], fun i d h => ?_, fun i es h => ?_, fun i j es fs p hij h1 h2 h3 => ?_, fun i pp k' fs epp h => ?_, fun i j k1 k2 f1 f2 h1 h2 => ?_, ⟨hc0, (fun x hx => by rw [hco] at hx; cases hx), fun i h => ?_⟩⟩
  rotate_right
  · cases i with
    | zero => simp at h
    | succ i => simpa using r1.th.2.2 i (by simpa using h)
  · cases i with
    | zero => simp at h
    | succ i => exact r1.fz i d (by simpa using h)
  · cases i with
    | zero => simp at h
    | succ i =>
      have h : (dStart N ds)[i]? = some (.ow es) := by simpa using h
      obtain ⟨p, vs, q⟩ := r1.ow i es h
      exact absurd q.1 (by
        intro _
        unfold dStart at h
        by_cases hi : i < ds.length
        · rw [List.getElem?_append_left (by simpa using hi), List.getElem?_map] at h
          cases e : ds[i]? with
          | none => rw [e] at h; cases h
          | some d' => rw [e] at h; cases h
        · rw [List.getElem?_append_right (by simpa using hi), List.getElem?_replicate] at h
          split at h <;> cases h)
  · cases i with
    | zero => simp at h1
    | succ i =>
      cases j with
      | zero => simp at h2
      | succ j => exact r1.inj i j es fs p (fun z => hij (by rw [z])) (by simpa using h1) (by simpa using h2) (by simpa using h3)
  · cases i with
    | zero =>
      simp at h
      obtain ⟨rfl, rfl⟩ := h
      rw [hth] at epp
      subst epp
      exact ⟨dx, v0, rfl, hx, rf, hF, hp, hm, h0⟩
    | succ i =>
      obtain ⟨dx', vs, q1, q2, q3, q4, q5, q6, q7⟩ := r1.ob i pp k' fs epp (by simpa using h)
      have q7 : H _ = none := q7
      rw [q7] at q2; cases q2
  · have nb : ∀ (i : Nat) (k : Nat) (f : List (Str × D)), (dStart N ds)[i]? ≠ some (.ob k f) := fun i k f h => by
      obtain ⟨dx', vs, q1, q2, q3, q4, q5, q6, q7⟩ := r1.ob i _ k f rfl h
      have q7 : H _ = none := q7
      rw [q7] at q2; cases q2
    cases i with
    | zero =>
      cases j with
      | zero => rfl
      | succ j => exact absurd (by simpa using h2) (nb j k2 f2)
    | succ i => exact absurd (by simpa using h1) (nb i k1 f1)
section
variable {B : Tb} {P : Program} {w : World} {K : PySem.W.Frag} {mg : Str → Option Value} {base : Heap}
theorem init_ok {qual n : Str} {st : Stmt} {f : Addr} {fd : FuncData} {N ps : List Str} {L : Nat} {t : DS} (F : Fun K "__init__" qual st f fd) (Sc : FnScope (n :: N) (n :: ps) (defScope st))
    (body : ∀ (cdv : Value) (A : Around) (outer : List Env) (s : Shared) (H : Hp) (H₀ : En) (E : XK), let X := cxOf (L2.CX P w) P w K mg base (n :: N) qual (defScope st) f cdv A outer s H E
      Ctx L X (fun cls d _ H => E cls d H) → WB B X (fun cls d _ H => E cls d H) H₀ (defBody st) t) : FnG P w K mg base (L + 1) f fd (n :: ps) (spInit B K ps.length (specIn N t)) := by
  refine fng_of F Sc (fun vs H Q E h => ?_) fun cdv hcd A outer s H vs Q E hr gd h => ?_
  · obtain ⟨c, g, k, fs0, H₀, x, dx, v0, ws, ds, Φ, Ψ, rfl, hl, _⟩ := h
    simp [hl]
  · obtain ⟨c, g, k, fs0, H₀, x, dx, v0, ws, ds, Φ, Ψ, rfl, hl, s0, kf, hx, rf, hF, hp, hm, h0, rs, hS, hq, he⟩ := h
    refine ⟨_, pss_sem, ?_⟩
    have C : Ctx L (cxOf (L2.CX P w) P w K mg base (n :: N) qual (defScope st) f cdv A outer s H E) (fun cls d _ H => E cls d H) := ⟨rfl, hr, gd, takes_of rfl rfl rfl rfl⟩
    have b := (body cdv A outer s H ⟨H₀, x, c, none⟩ E C).run c c g _ _ H _ (start_in (H₀ := ⟨H₀, x, c, none⟩) (n := n) (N := N) s0 kf hx rf hF hp hm h0 rs (Le.refl c) rfl rfl) hS (fun c' g' ρ' σ' H' ex cls d r' e' q' => he c' H' g' cls d ex r'.gr r'.fine e' q')
    intro pins s' I
    refine thn (b pins s' I) fun fl s1 hs => SP.imp hs (fun σ' H' ⟨c', g', ρ', r', fs, hi, q'⟩ => ?_) (fun v H' ⟨c', g', d, s2, k2, r2, q'⟩ => q'.elim) (fun _ _ ⟨_, _, _, _, q⟩ => q.elim) (fun _ _ ⟨_, _, _, _, q⟩ => q.elim)
    obtain ⟨dx', vs', h1, h2, h3, h4, h5, h6, h7⟩ := r'.ob 0 x k fs rfl hi
    exact hq c' H' g' dx' vs' fs r'.gr r'.fine h2 h3 h4 h5 h6 q'
end
end DL

namespace DL
open PySem L2 PyProof.Rows
/-! ### the head: one Bool of the written part, and the defs -/
abbrev AlM : Type := Bool × List He.FnV
def fnS (at_ : Str × Option Str) (name qual : Str) (st : Stmt) : He.FnD := ⟨at_, name, qual, defArgs st, defBody st, defScope st⟩
/-! code objects that make lambdas, and their tables -/
def codeA (K : PySem.W.Frag) (p : Str × Option Str) : Addr := match K.lookup (He.fAd K p) with
  | some ⟨_, _, .func fd, _⟩ => (match fd.code with
    | .ref c => c
    | _ => 0)
  | _ => 0
def tabA (K : PySem.W.Frag) (p : Str × Option Str) : Addr := match K.lookup (codeA K p) with
  | some ⟨_, _, .fields vs, _⟩ => (match vs.getD 11 .none with
    | .ref t => t
    | _ => 0)
  | _ => 0
def hdB (K : PySem.W.Frag) (c t : Addr) : Bool := match K.lookup c with
  | some ⟨.type ty, _, .fields vs, _⟩ => decide (ty = "code") && (match (vs[11]? : Option Value), vs.getD 11 .none, vs.getD 18 .none, vs.getD 7 .none, vs.getD 9 .none, vs.getD 10 .none with
    | some (Value.ref t1), .ref t2, .str _ _, .int _ _, .bool _, .int _ _ => decide (t1 = t) && decide (t2 = t) && decide (c ≠ t)
    | _, _, _, _, _, _ => false)
  | _ => false
theorem hdB_ok {K : PySem.W.Frag} {h : Heap} {c t : Addr} (X : K.In h) (q : hdB K c t = true) : PySem.W.CodeHd h c t := by
  unfold hdB at q
  split at q
  · rename_i ty _ vs _ e
    obtain ⟨q0, q⟩ := Bool.and_eq_true_iff.mp q
    split at q
    · rename_i t1 t2 x18 y18 x7 y7 x9 x10 y10 e1 e2 e3 e4 e5 e6
      simp only [Bool.and_eq_true, decide_eq_true_eq] at q q0
      obtain ⟨⟨q1, q2⟩, q3⟩ := q
      subst q0 q1 q2
      exact ⟨_, vs, _, _, _, _, _, _, _, X _ _ e, rfl, rfl, e1, e2, e3, e4, e5, e6, q3⟩
    · cases q
  · cases q
def emptyTab (o : Option Obj) : Bool := match o with
  | some ⟨.none, none, .fields ⟨[]⟩, ⟨[]⟩⟩ => true
  | _ => false
theorem emptyTab_ok {o : Option Obj} (h : emptyTab o = true) : o = some { cls := .none, data := .fields #[] } := by
  unfold emptyTab at h
  split at h
  · rfl
  · cases h
def cutK (K : PySem.W.Frag) (ts : List Addr) : PySem.W.Frag := K.filter fun x => !ts.contains x.1
theorem cutK_at {K : PySem.W.Frag} {ts : List Addr} {a : Addr} {o : Obj} (h : (cutK K ts).lookup a = some o) : K.lookup a = some o := by
  unfold cutK at h
  induction K with
  | nil => cases h
  | cons x r ih =>
    rw [List.filter_cons] at h
    split at h
    · rw [List.lookup_cons] at h ⊢
      split at h
      · exact h
      · exact ih h
    · rename_i hx
      rw [List.lookup_cons]
      have e := ih h
      have ne : (a == x.1) = false := by
        cases q : (a == x.1) with
        | false => rfl
        | true =>
          exfalso
          have q : a = x.1 := by simpa using q
          have hx : ts.contains x.1 = true := by simpa using hx
          have nn : ∀ r : PySem.W.Frag, (r.filter fun x => !ts.contains x.1).lookup a ≠ some o := fun r => by
            induction r with
            | nil => simp
            | cons y r ih2 =>
              rw [List.filter_cons]
              split
              · rename_i hy
                rw [List.lookup_cons]
                split
                · rename_i e2
                  have e2 : a = y.1 := by simpa using e2
                  rw [← e2, q, hx] at hy; cases hy
                · exact ih2
              · exact ih2
          exact nn r h
      rw [ne]; exact e
theorem cutK_in {K : PySem.W.Frag} {ts : List Addr} {h : Heap} (X : K.In h) : (cutK K ts).In h := fun a o e => X a o (cutK_at e)
def lamB (K : PySem.W.Frag) (look : Addr → Option Obj) (p : Str × Option Str) : Bool := hdB K (codeA K p) (tabA K p) && emptyTab (look (tabA K p)) && (K.lookup (tabA K p)).isNone
def obsM (fb : PySem.W.Frag → Bool) (fn : List He.FnD) (K : PySem.W.Frag) : AlM := (fb K && fn.all fun d => (He.Fa.code d.at_ d.qual).ok K && PySem.W.keepIn K (.ref (He.fAd K d.at_)), fn.map fun d => He.fnObs K d.at_)
def valM (fn : List He.FnD) : AlM := (true, fn.map He.FnD.val)
def SaysM (fb : PySem.W.Frag → Bool) (fn : List He.FnD) (K : PySem.W.Frag) : Prop := obsM fb fn K = valM fn
def csOf (K : PySem.W.Frag) (lm : List (Str × Option Str)) : List (Addr × Addr) := lm.map fun p => (codeA K p, tabA K p)
def obsMK (fb : PySem.W.Frag → Bool) (fn : List He.FnD) (lm : List (Str × Option Str)) (look : Addr → Option Obj) (K : PySem.W.Frag) : Bool × AlM := (lm.all (lamB K look), obsM fb fn K)
def obsMG (n : Nat) (fb : PySem.W.Frag → Bool) (fn : List He.FnD) (lm : List (Str × Option Str)) (look : Addr → Option Obj) : Bool × AlM :=
  let K := He.frG look (sysModules :: cStatics :: He.asG look n)
  obsMK fb fn lm look (cutK K (lm.map (tabA K)))
def hookM (n : Nat) (fb : PySem.W.Frag → Bool) (fn : List He.FnD) (lm : List (Str × Option Str)) : PySem.W.Hook where
  α := Bool × AlM
  obs := fun st => obsMG n fb fn lm st.heap.get?
  val := fun _ => (true, valM fn)
  says := fun _ hp => ∃ K : PySem.W.Frag, K.In hp ∧ SaysM fb fn K ∧ Codes K hp (csOf K lm)
  of := fun _ s q => by
    have q1 := congrArg Prod.fst q
    have q2 := congrArg Prod.snd q
    refine ⟨_, cutK_in He.frG_in, q2, ?_⟩
    have al := List.all_eq_true.mp (show lm.all _ = true from q1)
    refine ⟨fun x hx => ?_, fun x hx => ?_, fun x hx => ?_⟩ <;>
    · obtain ⟨p, hp, rfl⟩ := List.mem_map.mp hx
      obtain ⟨h1, h3⟩ := Bool.and_eq_true_iff.mp (al p hp)
      obtain ⟨h1, h2⟩ := Bool.and_eq_true_iff.mp h1
      first
        | exact emptyTab_ok h2
        | exact hdB_ok (cutK_in He.frG_in) h1
        | exact Option.isNone_iff_eq_none.mp h3
  keeps := fun _ _ _ ⟨K, inK, c, d⟩ up => ⟨K, PySem.W.Frag.In.keeps inK up, c, ⟨fun x hx => up _ _ (d.tab x hx), d.out, fun x hx => (d.hd x hx).keeps up⟩⟩
theorem obsMG_eq {n : Nat} {fb : PySem.W.Frag → Bool} {fn : List He.FnD} {lm : List (Str × Option Str)} (s : PySem.W.SharedT) : obsMG n fb fn lm (HandSHeadRun.getT s) = (hookM n fb fn lm).obs s.abs := by
  have q : HandSHeadRun.getT s = s.abs.heap.get? := funext (HandSHeadRun.getT_eq s)
  rw [q]
  rfl
section
variable {fb : PySem.W.Frag → Bool} {fn : List He.FnD} {K : PySem.W.Frag}
theorem SaysM.all (c : SaysM fb fn K) : fb K = true := (Bool.and_eq_true_iff.mp (show (fb K && fn.all fun d => (He.Fa.code d.at_ d.qual).ok K && PySem.W.keepIn K (.ref (He.fAd K d.at_))) = true from congrArg Prod.fst c)).1
theorem SaysM.fun_ (c : SaysM fb fn K) (i : Nat) {a : Str × Option Str} {x q : Str} {st : Stmt} (h : fn[i]? = some (fnS a x q st)) : ∃ fd, Fun K x q st (He.fAd K a) fd := by
  have c2 := (Bool.and_eq_true_iff.mp (show (fb K && fn.all fun d => (He.Fa.code d.at_ d.qual).ok K && PySem.W.keepIn K (.ref (He.fAd K d.at_))) = true from congrArg Prod.fst c)).2
  have all := List.all_eq_true.mp c2 _ (List.mem_of_getElem? h)
  obtain ⟨k1, k2⟩ := Bool.and_eq_true_iff.mp all
  have e : fn.map (fun d => He.fnObs K d.at_) = fn.map He.FnD.val := congrArg Prod.snd c
  have e2 : (fn.map fun d => He.fnObs K d.at_)[i]? = (fn.map He.FnD.val)[i]? := by rw [e]
  rw [List.getElem?_map, List.getElem?_map, h] at e2
  obtain ⟨oc, od, osl, kV, doc, pm, an, cdv, ct, l, cd⟩ := He.fn_ok (Option.some.inj e2) k1
  exact ⟨_, fun_mk (st := st) l cd k2⟩
end
/-- the end of a law's proof by such a head -/
theorem law_walkE {l : PySem.W.OpenLaw} {L : Nat} {q : Program} {loose : List Str} {XP : (Str → Option Value) → Heap → Prop} {YP : World → Heap → Prop} {d : DefRec} {x : Str} (hn : l.most = some 63) (hdf : d.params.defaults = []) (hr : Room L callerA)
    (F : ∀ (w : World) (mg : Str → Option Value) (fa : Addr) (h : Heap), YP w h → h.Ns mainGlobals mg → mg d.name = some (.ref fa) →
      ∃ (K : PySem.W.Frag) (B : Tb) (fd : FuncData) (cs : List (Addr × Addr)), K.In h ∧ Codes K h cs ∧ (∀ (s : Shared) (u : Value), BindsTo s fd ⟨[u], []⟩ [(x, u)]) ∧ (∀ b, b ∈ B.T.map (·.1) ↔ b ∈ cs.map (·.2)) ∧
        ∀ base : Heap, (∀ y ∈ cs, LamX.TabB base mg y.1 y.2) → FnG l.prog w K mg base L fa fd [x] (spOf B K 1 S_law)) :
    PySem.W.WalkO q loose XP YP l.row.toRowW d [] (fun f vs => PySem.call f vs) := by
  refine Att.attach_call hn hdf fun w s₀ s₁ mg mb fa o pm cd doc a vs ns G Y ho hd hcd hmg hobj hints hlen hg => ?_
  obtain ⟨K, B, fd, cs, inK, cod, hb, hT, hF⟩ := F w mg fa _ Y G.T.g hmg
  refine law_go inK G.T.g G.T.b G.T.builtins G.T.nolimit hg hobj hints (Nat.le_trans hlen (by decide)) hr cod G.T.bmain hF hb fun H hS hI hO => law_start hlen hS ⟨fun t ht => ?_, fun b ps e => (hT b).mpr (hO b ps e)⟩
  exact LamX.TabS.nil (hI _ ((hT _).mp (List.mem_map.mpr ⟨t, ht, rfl⟩)))
end DL

namespace DL
open PySem L2 PyProof.Rows
/-! ### a new instance -/
theorem under_gd {A : Around} {C : Addr} {us : List Value} {kw : List (Str × Value)} : (A.under (.builtin "type.__call__" ⟨.ref C :: us, kw⟩)).guards = A.guards := by
  first
    | rfl
    | simp [Around.under, Code.isGuard, guardIds]
section
variable {X : Cx} {k : Nat} {f C : Addr} {fd : FuncData} {ps : List Str} {sp : Sp} {E : L2.St → XK} {x : Str} {p pos : Pos} {e : Expr} {es : List Expr} {t : TA}
theorem new_run {pins : List (Addr × Obj)} {σ : L2.St} {H : Hp} {s : Shared} {Q : VK} {us : List Value} {vs : List V} (M : Mk X.K C f) (F : FnG X.prog X.w X.K X.mg X.base k f fd ps sp) (hr : Room (k + 1) X.A) (gd : X.A.guards = some []) (hb : Binds X.K fd ps []) (hx : PassesAt (L2.CX X.prog X.w) X σ (E σ))
    (I : L2.Inv X pins σ H s) (r : Vals vs us) (want : ∀ y dx, H y = none → H dx = none → dx ≠ y → sp (.ref y :: vs) (upd (upd H dx (.own y)) y (.ins C dx [])) (fun v H2 => v = .non ∧ Q (.ref y) H2) (E σ)) :
    wpAny (model X.prog X.w) X.A (call (.ref C) us) (EP X pins σ Q) X.xe s := by
  have w1 := want (s.heap.objs.size + 1) s.heap.objs.size (I.hok.fresh (Nat.le_succ _)) (I.hok.fresh (Nat.le_refl _)) (Nat.ne_of_lt (Nat.lt_succ_self _))
  have J := L2.Inv.made (C := C) I
  have rr : Vals (V.ref (s.heap.objs.size + 1) :: vs) (Value.ref (s.heap.objs.size + 1) :: us) := .cons rfl r
  have size : (Value.ref (s.heap.objs.size + 1) :: us).length = ps.length := by
    rw [← rr.length]
    exact F.size _ _ _ _ w1
  have bind := hb _ (Value.ref (s.heap.objs.size + 1) :: us) J.kIn (by rw [List.append_nil]; exact size)
  rw [List.append_nil] at bind
  refine wpAny_call (make_map (f := f) I.kIn M.makes M.init (beq_iff_eq.mp M.fn) (codeAny_mono (F.go _ X.stack _ _ ⟨_, []⟩ _ _ _ (E σ) (hr.make C us []) (by rw [under_gd]; exact gd) (J.env0.make C us []) bind rr w1) fun res s' hq => ?_))
  match res, hq with
  | .error er, hq => exact hx pins _ _ er s' J hq
  | .ok .next, hq => exact hq.elim
  | .ok .brk, hq => exact hq.elim
  | .ok .cont, hq => exact hq.elim
  | .ok (.ret u), hq =>
    obtain ⟨v, H', I3, rv, ev, q3⟩ := J.after hq
    subst ev
    exact ⟨rv, ⟨V.ref (s.heap.objs.size + 1), H', I3, rfl, q3⟩⟩
theorem pe_newG (M : Mk X.K C f) (F : FnG X.prog X.w X.K X.mg X.base k f fd ps sp) (hr : Room (k + 1) X.A) (gd : X.A.guards = some []) (hg : Gl X x) (hm : X.mg x = some (.ref C)) (hb : Binds X.K fd ps []) (hx : ∀ σ, PassesAt (L2.CX X.prog X.w) X σ (E σ)) (ha : PA X (e :: es) t)
    (hdb : (x == ("__debug__" : Str)) = false := by decide) (he : starEach (e :: es) X.env = (false, eval e X.env) :: starEach es X.env := by rfl) (hpl : (backTo pos (starEach es X.env)).any (·.1) = false := by rfl) :
    PE X (.Call (.Name x p) (e :: es) [] pos) (fun σ H Q => t σ H fun vs H1 => ∀ y dx, H1 y = none → H1 dx = none → dx ≠ y → sp (.ref y :: vs) (upd (upd H1 dx (.own y)) y (.ins C dx [])) (fun v H2 => v = .non ∧ Q (.ref y) H2) (E σ)) := by
  refine ⟨fun pins s σ H Q I h => wpAny_Call_Name_kw (ld_glob I hg hm ?_ hdb)⟩
  refine PySem.W.callWith_K (h₀ := X.base) I.ok.mod.kin M.kp (thn (ha.run pos pins s σ H _ I h) fun us s1 ⟨vs, H1, I1, r, q⟩ => ⟨I1.kIn, ?_⟩) he hpl
  exact new_run M F hr gd hb (hx σ) I1 r q
end
/-- a class by its name, made by an __init__ that keeps S; the instance is not changed later -/
structure NC (B : Tb) (P : Program) (w : World) (K : PySem.W.Frag) (mg : Str → Option Value) (base : Heap) (L : Nat) (x : Str) (i ar : Nat) (S : DIn) : Prop where
  ex : ∃ f fd ps, Mk K (B.ct i) f ∧ FnG P w K mg base L f fd ps (spInit B K ar S) ∧ mg x = some (.ref (B.ct i)) ∧ Binds K fd ps []
theorem NC.mono {B : Tb} {P : Program} {w : World} {K : PySem.W.Frag} {mg : Str → Option Value} {base : Heap} {L L' : Nat} {x : Str} {i ar : Nat} {S : DIn} (F : NC B P w K mg base L x i ar S) (h : L ≤ L') : NC B P w K mg base L' x i ar S :=
  let ⟨f, fd, ps, a, b, c, d⟩ := F.ex
  ⟨f, fd, ps, a, b.mono h, c, d⟩
def dNew (i : Nat) (S : DIn) (tr : DA) : DE := fun ρ g Q Z => tr ρ g (fun xs g1 => S i [] xs g1 (fun fs g2 => Q (.obj i fs) g2) Z) Z
section
variable {B : Tb} {X : Cx} {W : WX} {L i ar : Nat} {S : DIn} {x : Str} {p pos : Pos} {e : Expr} {es : List Expr} {tr : DA}
theorem we_new (F : NC B X.prog X.w X.K X.mg X.base L x i ar S) (C : Ctx (L + 1) X W) (hg : Gl X x) (ha : WA B X W (e :: es) tr) (hn : (e :: es).length = ar := by rfl) (hdb : (x == ("__debug__" : Str)) = false := by decide) (he : starEach (e :: es) X.env = (false, eval e X.env) :: starEach es X.env := by rfl)
    (hpl : (backTo pos (starEach es X.env)).any (·.1) = false := by rfl) : WE B X W (.Call (.Name x p) (e :: es) [] pos) (dNew i S tr) := by
  obtain ⟨f, fd, ps, M, G, hm, hb⟩ := F.ex
  refine ⟨fun c g ρ σ H Q Z k rl h z => sem_of (pe_newG (E := fun σ => L2.WE W σ) M G C.room C.gd hg hm hb (fun σ => passAt C.tk σ) pa_sem hdb he hpl) ?_⟩
  refine (ha.run c g ρ σ H _ Z k rl h z).mono fun vs H1 ⟨c1, g1, ds, s1, k1, rs, hl, q1⟩ => fun y dx hy hdx hne => ?_
  obtain ⟨a1, a2, a3⟩ := k1.notMut hy
  obtain ⟨b1, b2, b3⟩ := k1.notMut hdx
  have sD : Grow c1 H1 c1 (upd H1 dx (.own y)) := (Grow.refl c1 H1).own hdx
  have kD : Fine B X.K c1 g1 (upd H1 dx (.own y)) := k1.own b1 b2 b3
  have sY : Grow c1 H1 c1 (upd (upd H1 dx (.own y)) y (.ins (B.ct i) dx [])) := sD.own hy
  have kY : Fine B X.K c1 g1 (upd (upd H1 dx (.own y)) y (.ins (B.ct i) dx [])) := kD.own a1 a2 a3 (.inl (by rw [upd_ne (by first | exact hne | exact Ne.symm hne)]; exact hy))
  refine ⟨c1, g1, i, [], H1, y, dx, [], vs, ds, _, Z, rfl, by rw [rs.length, hl]; exact hn, sY, kY, upd_same, .nil, a1, a2, a3, hy, rs, q1, fun c' H' g' dx' v' fs s2 k2 hx rf hF hp hm' q2 => ⟨rfl, ?_⟩, fun c' H' g' cls dd ex s2 k2 r2 q2 => z c' H' g' ex cls dd (s1.trans s2) k2 r2 q2⟩
  exact ⟨_, g', .obj i fs, s1.trans (s2.ice hy hF), k2.ice hF hx hp hm', .obj upd_same (rf.mono (Le.ice hF)), q2⟩
end
end DL

namespace DL
open PySem L2 PyProof.Rows
/-! ### o.m(..) of an instance that is not changed -/
structure MC (B : Tb) (P : Program) (w : World) (K : PySem.W.Frag) (mg : Str → Option Value) (base : Heap) (L : Nat) (m : Str) (i ar : Nat) (S : DSp) : Prop where
  ex : ∃ f fd ps, Cls K (B.ct i) ∧ Meth K (B.ct i) m f ∧ FnG P w K mg base L f fd ps (spOf B K (ar + 1) S) ∧ Binds K fd ps []
theorem MC.mono {B : Tb} {P : Program} {w : World} {K : PySem.W.Frag} {mg : Str → Option Value} {base : Heap} {L L' : Nat} {m : Str} {i ar : Nat} {S : DSp} (F : MC B P w K mg base L m i ar S) (h : L ≤ L') : MC B P w K mg base L' m i ar S :=
  let ⟨f, fd, ps, a, b, c, d⟩ := F.ex
  ⟨f, fd, ps, a, b, c.mono h, d⟩
def dMeth (i : Nat) (m : Str) (S : DSp) (to : DE) (tr : DA) : DE := fun ρ g Q Z => to ρ g (fun x g1 => ∃ fs, x = .obj i fs ∧ fs.lookup m = none ∧ tr ρ g1 (fun xs g2 => S (x :: xs) g2 Q Z) Z) Z
section
variable {B : Tb} {X : Cx} {W : WX} {L i ar : Nat} {S : DSp} {m : Str} {apos pos : Pos} {o e : Expr} {es : List Expr} {to : DE} {tr : DA}
theorem we_meth {pl : Sem Bool} (F : MC B X.prog X.w X.K X.mg X.base L m i ar S) (C : Ctx L X W) (ho : WE B X W o to) (ha : WA B X W (e :: es) tr) (hn : (e :: es).length = ar := by rfl) (he : starEach (e :: es) X.env = (false, eval e X.env) :: starEach es X.env := by rfl) (hpl : (backTo pos (starEach es X.env)).any (·.1) = false := by rfl)
    (ht : eval (.Call (.Attribute o m apos) (e :: es) [] pos) X.env = (do
      let v ← eval o X.env
      standAt apos.atName
      let (g, first) ← holding [v] (getMethod v m pl)
      callWith pos g first (backTo pos (starEach (e :: es) X.env)) (backToKw pos (keywordEach [] X.env))) := by rfl) : WE B X W (.Call (.Attribute o m apos) (e :: es) [] pos) (dMeth i m S to tr) := by
  obtain ⟨f, fd, ps, cl, hm, G, hb⟩ := F.ex
  refine ⟨fun c g ρ σ H Q Z k rl h z pins s I => ?_⟩
  refine PySem.W.methodCall_KW (pl := pl) (thn (ho.run c g ρ σ H _ Z k rl h z pins s I) fun u s1 ⟨v, H1, I1, rx, c1, g1, d, gr1, k1, r1, fs, ed, l, q1⟩ => ?_) ht
  subst ed
  cases r1 with
  | @obj a dx _ fv _ h1 rf =>
    obtain rfl := (show u = Value.ref _ from rx)
    refine getmeth_ok I1 (k1.sub _ _ h1) cl hm (rf.lookN l) ?_
    refine PySem.W.callWith_K (first := [.ref a]) (h₀ := X.base) I.ok.mod.kin hm.kp (thn (ha.run c1 g1 ρ σ H1 _ Z k1 (rl.mono gr1.le) q1 (z.next gr1) pos pins s1 I1) fun us s2 ⟨vs, H2, I2, r, c2, g2, ds, gr2, k2, rs, hl, q2⟩ => ⟨I2.kIn, ?_⟩) he hpl
    refine run_fng (us := .ref a :: us) (vs := .ref a :: vs) (dvs := []) (ds := []) (E := fun σ => L2.WE W σ) G C.room C.gd hb .nil (passAt C.tk σ) I2 (.cons rfl r) ?_
    rw [List.append_nil]
    exact ⟨c2, g2, .obj i fs :: ds, Q, Z, by rw [List.length_cons, rs.length, hl, hn], k2, .cons (.obj (gr2.le.F _ _ h1) (rf.mono gr2.le)) rs, q2, fun c' H' g' v d s3 k3 r3 q3 => ⟨c', g', d, (gr1.trans gr2).trans s3, k3, r3, q3⟩, fun c' H' g' cls dd ex s3 k3 r3 q3 => z c' H' g' ex cls dd ((gr1.trans gr2).trans s3) k3 r3 q3⟩
theorem we_meth0 {pl : Sem Bool} (F : MC B X.prog X.w X.K X.mg X.base L m i 0 S) (C : Ctx L X W) (ho : WE B X W o to)
    (ht : eval (.Call (.Attribute o m apos) [] [] pos) X.env = (do
      let v ← eval o X.env
      standAt apos.atName
      let (g, first) ← holding [v] (getMethod v m pl)
      callWith pos g first (backTo pos (starEach [] X.env)) (backToKw pos (keywordEach [] X.env))) := by rfl) : WE B X W (.Call (.Attribute o m apos) [] [] pos) (dMeth i m S to dNil) := by
  obtain ⟨f, fd, ps, cl, hm, G, hb⟩ := F.ex
  refine ⟨fun c g ρ σ H Q Z k rl h z pins s I => ?_⟩
  refine PySem.W.methodCall_KW (pl := pl) (thn (ho.run c g ρ σ H _ Z k rl h z pins s I) fun u s1 ⟨v, H1, I1, rx, c1, g1, d, gr1, k1, r1, fs, ed, l, q1⟩ => ?_) ht
  subst ed
  cases r1 with
  | @obj a dx _ fv _ h1 rf =>
    obtain rfl := (show u = Value.ref _ from rx)
    refine getmeth_ok I1 (k1.sub _ _ h1) cl hm (rf.lookN l) ?_
    refine PySem.W.callWith_K0 (first := [.ref a]) I1.kIn hm.kp (run_fng (us := [.ref a]) (vs := [.ref a]) (dvs := []) (ds := []) (E := fun σ => L2.WE W σ) G C.room C.gd hb .nil (passAt C.tk σ) I1 (.cons rfl .nil) ?_)
    exact ⟨c1, g1, [.obj i fs], Q, Z, rfl, k1, .cons (.obj h1 rf) .nil, q1, fun c' H' g' v d s3 k3 r3 q3 => ⟨c', g', d, gr1.trans s3, k3, r3, q3⟩, fun c' H' g' cls dd ex s3 k3 r3 q3 => z c' H' g' ex cls dd (gr1.trans s3) k3 r3 q3⟩
end
end DL

namespace DL
open PySem L2 PyProof.Rows
/-! ### a constant of a class -/
structure CC (B : Tb) (K : PySem.W.Frag) (mg : Str → Option Value) (x f : Str) (d : D) : Prop where
  ex : ∃ C mc v u, mg x = some (.ref C) ∧ ClX.CRead K C mc ∧ ClX.CVal K C mc f v u ∧ ∀ c, Rep B K c v d
theorem we_cc {B : Tb} {X : Cx} {W : WX} {x f : Str} {d : D} {p pos : Pos} (h : CC B X.K X.mg x f d) (hg : Gl X x) (hd : (x == ("__debug__" : Str)) = false := by decide)
    (hb : attributeBase (.Name x p) f X.env (eval (.Name x p) X.env) = eval (.Name x p) X.env := by rfl) : WE B X W (.Attribute (.Name x p) f pos) (dC d) := by
  obtain ⟨C, mc, v, u, h1, h2, h3, h4⟩ := h.ex
  refine ⟨fun c g ρ σ H Q Z k rl q z => sem_of (ClX.pe_cval (pe_glob hg h1 (show RelV (.ref C) (.ref C) from rfl) hd) hb) ?_⟩
  exact ⟨C, mc, v, u, rfl, h2, h3, c, g, d, Grow.refl c H, k, h4 c, q⟩
/-- as a Bool: a whole number -/
def ccI (K : PySem.W.Frag) (C : Addr) (f : Str) (i : Int) : Bool := match PySem.W.clsIn K C with
  | _ => PySem.W.readsIn K C (.type "type") && decide (PySem.W.specialIn K (.ref C) "__getattribute__" = some (some (.builtin "type.__getattribute__"))) && (match PySem.W.findCls K (.ref C) (.type "type") f with
    | some (.val (.int j _)) => decide (j = i)
    | _ => false)
theorem ccI_ok {B : Tb} {K : PySem.W.Frag} {mg : Str → Option Value} {x f : Str} {C : Addr} {i : Int} (hm : mg x = some (.ref C)) (h : ccI K C f i = true) : CC B K mg x f (.int i) := by
  unfold ccI at h
  obtain ⟨h1, h3⟩ := Bool.and_eq_true_iff.mp h
  obtain ⟨h1, h2⟩ := Bool.and_eq_true_iff.mp h1
  split at h3
  · rename_i j t e
    have ej : j = i := of_decide_eq_true h3
    subst ej
    exact ⟨C, .type "type", .int j, .int j t, hm, ⟨h1, of_decide_eq_true h2⟩, ⟨e, ⟨t, rfl⟩⟩, fun c => .int j⟩
  · cases h3
/-! ### isinstance(e, (A, B, ..)) -/
structure PCs (X : Cx) (es : List Expr) (cs : List V) (us : List Value) : Prop where
  pa : PA X es (fun _ H Q => Q cs H)
  pr : Paired ClsV cs us
section
variable {B : Tb} {X : Cx} {W : WX} {e : Expr} {es : List Expr} {te : DE} {p p1 pos : Pos} {cs : List V} {us : List Value}
theorem pc_nil : PCs X [] [] [] := ⟨pa_nil, .nil⟩
theorem pc_own {x : Str} {C : Addr} (hx : Gl X x) (hmx : X.mg x = some (.ref C)) (h : PCs X es cs us) (hdb : (x == ("__debug__" : Str)) = false := by decide)
    (hs : starEach (.Name x p1 :: es) X.env = (false, eval (.Name x p1) X.env) :: starEach es X.env := by rfl) : PCs X (.Name x p1 :: es) (.ref C :: cs) (.ref C :: us) :=
  ⟨pa_cons (pe_glob hx hmx (show RelV (.ref C) (.ref C) from rfl) hdb) h.pa hs, .cons (.own C) h.pr⟩
theorem pc_ty {x : Str} {n : String} (hx : Gl X x) (hmx : X.mg x = none) (hv : bootBuiltins x = some (.type n)) (h : PCs X es cs us) (hn : x ≠ "__name__" := by decide) (hdb : (x == ("__debug__" : Str)) = false := by decide)
    (hs : starEach (.Name x p1 :: es) X.env = (false, eval (.Name x p1) X.env) :: starEach es X.env := by rfl) : PCs X (.Name x p1 :: es) (.ty n :: cs) (.type n :: us) :=
  ⟨pa_cons (pe_bltn hx hmx hv (show RelV (.ty n) (.type n) from rfl) hn hdb) h.pa hs, .cons (.ty n) h.pr⟩
def IsOkL (B : Tb) (K : PySem.W.Frag) (f : Kd → Option Bool) (us : List Value) : Prop := ∀ k b, f k = some b → KdOk B K k ∧ PySem.W.kitAny K (tyK B k) us = some b
def isTabBL (B : Tb) (K : PySem.W.Frag) (tb : KT) (us : List Value) : Bool := tb.all fun kb => kdB B K kb.1 && decide (PySem.W.kitAny K (tyK B kb.1) us = some kb.2)
theorem isTabL_ok {B : Tb} {K : PySem.W.Frag} {tb : KT} {us : List Value} (h : isTabBL B K tb us = true) : IsOkL B K (isTab tb) us := fun k b e => by
  unfold isTabBL at h
  rw [List.all_eq_true] at h
  have q := h (k, b) (lookup_mem' e)
  simp only [Bool.and_eq_true, decide_eq_true_eq] at q
  exact ⟨kdB_ok q.1, q.2⟩
theorem we_isL {x1} {f : Kd → Option Bool} (hf : IsOkL B X.K f us) (hT : PCs X es cs us) (hl : cs.length ≤ sizeLine) (hg : Gl X "isinstance") (hm : X.mg "isinstance" = none) (he : WE B X W e te)
    (hs : starEach [e, .Tuple es x1 p1] X.env = (false, eval e X.env) :: starEach [.Tuple es x1 p1] X.env := by rfl) (hs2 : starEach [.Tuple es x1 p1] X.env = (false, eval (.Tuple es x1 p1) X.env) :: starEach [] X.env := by rfl)
    (hpl : (backTo pos (starEach [.Tuple es x1 p1] X.env)).any (·.1) = false := by rfl) : WE B X W (.Call (.Name "isinstance" p) [e, .Tuple es x1 p1] [] pos) (dU (isiD f) te) := by
  refine ⟨fun c g ρ σ H Q Z k rl h z pins s I => ?_⟩
  have run : CallR X (.builtin "isinstance") (fun xs H1 Q1 => ∃ v tp c1 g1 d kk b, xs = [v, .ref tp] ∧ H1 tp = some (.tup cs) ∧ Fine B X.K c1 g1 H1 ∧ Rep B X.K c1 v d ∧ kd d = some kk ∧ f kk = some b ∧ Q1 (.bl b) H1) := by
    intro pins s σ H1 xs ws Q1 I1 rr hh
    obtain ⟨v, tp, c1, g1, d, kk, b, rfl, ht, k1, r1, hkd, hfk, q1⟩ := hh
    obtain ⟨u1, u2, rfl, ru1, ru2⟩ := vals2 rr
    cases (show u2 = Value.ref tp from ru2)
    obtain ⟨ok, hko⟩ := hf kk b hfk
    obtain ⟨P, Zz, p, hx⟩ := kit_rep I1 k1.sub r1 hkd ok ru1
    obtain ⟨_, its, rv, o, h1, h2, n, h3⟩ := (show ObjOk X.prog X.w H1 s.heap tp (.tup cs) from I1.hok tp _ ht)
    have e3 := ClsV.all hT.pr rv
    subst e3
    obtain ⟨oc, od, dt, sl⟩ := o
    simp only at h2 h3
    subst h2 h3
    exact PySem.W.kia_tup Zz I1.kIn p h1 hko hx fun tk => ⟨.bl b, H1, I1.tok tk, rfl, q1⟩
  refine (pe_callB run hg hm (by decide +kernel) (pa_cons (pe_sem (e := e)) (pa_cons (pe_tup hT.pa) pa_nil hs2) hs) (by decide) (by decide) hs hpl).run pins s σ H _ I ?_
  refine (he.run c g ρ σ H _ Z k rl h z).mono fun v H1 ⟨c1, g1, x, s1, k1, r1, w, e1, q1⟩ => ?_
  refine ⟨hl, fun tp htp => ?_⟩
  obtain ⟨s2, k2⟩ := k1.lay (o := .tup cs) htp
  unfold isiD at e1
  rw [Option.bind_eq_some_iff] at e1
  obtain ⟨kk, h1, h2⟩ := e1
  rw [Option.map_eq_some_iff] at h2
  obtain ⟨b, h3, h4⟩ := h2
  subst h4
  exact ⟨v, tp, _, g1, x, kk, b, rfl, upd_same, k2, r1.mono s2.le, h1, h3, _, g1, _, s1.trans s2, k2, .bl b, q1⟩
end
end DL

namespace DL
open PySem L2 PyProof.Rows
/-! ### over a list or a tuple, as it comes -/
def iSeq (K : PySem.W.Frag) (tl : TE) : TI := fun σ H R => tl σ H fun x H1 => (∃ a, x = .ref a ∧ (∃ xs, SqL K H1 a xs) ∧ R (Itl K a) H1) ∨ (∃ a, x = .ref a ∧ (∃ xs, SqT K H1 a xs) ∧ R (Itt K a) H1)
theorem pi_seq {X : Cx} {tg l : Expr} {tl : TE} (hl : PE X l tl) : PI X tg l (iSeq X.K tl) := by
  refine ⟨fun pins s σ H R I h => thn (hl.run pins s σ H _ I h) fun v s1 ⟨x, H1, I1, r1, q1⟩ => ?_⟩
  have fp : ∀ b ∈ [s1.heap.objs.size], FpOk X pins H1 b := fun b hb => by
    rw [List.mem_singleton.mp hb]
    exact I1.fpOk (Nat.le_refl _) (I1.hok.fresh (Nat.le_refl _))
  rcases q1 with ⟨a, rfl, ⟨xs, hq⟩, q⟩ | ⟨a, rfl, ⟨xs, hq⟩, q⟩
  · cases r1
    obtain ⟨_, _, p, _⟩ := I1.list hq
    exact wpAny_pyIter_list p.isList ⟨_, _, _, _, H1, rfl, I1.kept (t' := s1.toks) fun b o e => Heap.get?_push_of_some _ e, turn_list a _, ⟨_, Heap.get?_push_size _ rfl, rfl, rfl⟩, fp, q⟩
  · cases r1
    obtain ⟨its, _, p, _⟩ := I1.tuple hq
    exact wpAny_pyIter_tuple (show s1.heap.IsTuple a its.toArray from p) ⟨_, _, _, _, H1, rfl, I1.kept (t' := s1.toks) fun b o e => Heap.get?_push_of_some _ e, turn_tuple a _, ⟨_, Heap.get?_push_size _ rfl, rfl, rfl⟩, fp, q⟩
def seqD : D → Option (List D)
  | .lst ds => some ds
  | .tup ds => some ds
  | _ => none
def dSeqI (te : DE) : DI := fun ρ g Q Z => te ρ g (fun x g1 => ∃ ds, seqD x = some ds ∧ Q ds g1) Z
theorem wi_seq {B : Tb} {X : Cx} {W : WX} {tg e : Expr} {te : DE} (he : WE B X W e te) : WI B X W tg e (dSeqI te) := by
  refine ⟨fun c g ρ σ H Q Z k r q z => semI_of (pi_seq pe_sem) ?_⟩
  refine (he.run c g ρ σ H _ Z k r q z).mono fun v H1 ⟨c1, g1, d, s1, k1, rr, ds, e1, q1⟩ => ?_
  cases d <;> simp only [seqD, Option.some.injEq, reduceCtorEq] at e1 <;> subst e1
  · cases rr with
    | lst h rs => exact .inl ⟨_, rfl, ⟨_, SqL.of (k1.sub _ _ h)⟩, c1, g1, _, s1, k1, walks_list h rs, q1⟩
  · cases rr with
    | tup h rs => exact .inr ⟨_, rfl, ⟨_, Evl.ex_t k1.sub h⟩, c1, g1, _, s1, k1, walks_tup h rs, q1⟩
/-! ### is True, is False -/
def isBD (neg : Bool) (x y : D) : Option D := match x, y with
  | .bl a, .bl b => some (.bl (if neg = true then !decide (a = b) else decide (a = b)))
  | _, _ => none
section
variable {B : Tb} {X : Cx} {W : WX}
theorem gv_isB : Gives B X.K (isBD false) (fun x y H Q => ∃ a b : Bool, x = .bl a ∧ y = .bl b ∧ Q (.bl (decide (a = b))) H) := by
  intro c g H x y z v u Q k r1 r2 e q
  cases x <;> cases y <;> simp only [isBD, reduceCtorEq, Option.some.injEq] at e
  subst e
  cases r1; cases r2
  exact ⟨_, _, rfl, rfl, done k (.bl _) q⟩
theorem gv_isnotB : Gives B X.K (isBD true) (fun x y H Q => ∃ a b : Bool, x = .bl a ∧ y = .bl b ∧ Q (.bl (!decide (a = b))) H) := by
  intro c g H x y z v u Q k r1 r2 e q
  cases x <;> cases y <;> simp only [isBD, reduceCtorEq, Option.some.injEq] at e
  subst e
  cases r1; cases r2
  exact ⟨_, _, rfl, rfl, done k (.bl _) q⟩
theorem o_isB : CO B X .Is (isBD false) := ⟨_, op_isBl, gv_isB⟩
theorem o_isnotB : CO B X .IsNot (isBD true) := ⟨_, op_notBl, gv_isnotB⟩
end
/-! ### the pen: a list of cells, at, rest -/
def penLO (cel : Addr) (a r : Int) : HO := .lst [.ref cel, .int a, .int r]
def pnL (cel : Addr) (o : HO) (n : Nat) : Prop := ∃ a r : Int, o = penLO cel a r ∧ 0 ≤ a ∧ a ≤ n
structure TbL (B : Tb) : Prop where
  pn : B.pn = pnL
  cok : B.cok = cokP
inductive PenI (n cl : Nat) : Int → D → Prop
  | cells (ns : List Int) : cokP ns → ns.length = cl → PenI n cl 0 (.lst (ns.map D.int))
  | at_ (a : Int) : 0 ≤ a → a ≤ n → PenI n cl 1 (.int a)
  | rest (r : Int) : PenI n cl 2 (.int r)
theorem penI_cells {n cl : Nat} {d : D} (h : PenI n cl 0 d) : ∃ ns : List Int, d = .lst (ns.map D.int) ∧ ns.length ≤ 63 ∧ ns.length = cl := by
  generalize hk : (0 : Int) = k at h
  cases h with
  | cells ns h h' => exact ⟨ns, rfl, h, h'⟩
  | at_ a h1 h2 => exact absurd hk (by decide)
  | rest r => exact absurd hk (by decide)
theorem penI_at {n cl : Nat} {d : D} (h : PenI n cl 1 d) : ∃ a, d = .int a ∧ 0 ≤ a ∧ a ≤ n := by
  generalize hk : (1 : Int) = k at h
  cases h with
  | cells ns h h' => exact absurd hk (by decide)
  | at_ a h1 h2 => exact ⟨a, rfl, h1, h2⟩
  | rest r => exact absurd hk (by decide)
theorem penI_rest {n cl : Nat} {d : D} (h : PenI n cl 2 d) : ∃ r, d = .int r := by
  generalize hk : (2 : Int) = k at h
  cases h with
  | cells ns h h' => exact absurd hk (by decide)
  | at_ a h1 h2 => exact absurd hk (by decide)
  | rest r => exact ⟨r, rfl⟩
section
variable {B : Tb} {X : Cx} {W : WX} {H₀ : En} {o e : Expr} {to te : DE} {pos pos' pk : Pos} {j : Nat}
/-- pen[i] -/
def dPenI (i : Int) (to : DE) : DE := fun ρ g Q Z => to ρ g (fun x g1 => x = .pen ∧ ∀ d, PenI g1.n g1.cl i d → Q d g1) Z
theorem we_penI {i : Int} (T : TbL B) (hk : i = 0 ∨ i = 1 ∨ i = 2) (ho : WE B X W o to) : WE B X W (.Subscript o (.Constant (.int i) j pk) pos) (dPenI i to) := by
  refine ⟨fun c g ρ σ H Q Z k rl h z => sem_of (pe_ix ix_list pe_sem pe_int (fun _ _ => rfl)) ?_⟩
  refine (ho.run c g ρ σ H _ Z k rl h z).mono fun v H1 ⟨c1, g1, x, s1, k1, r1, ex, q1⟩ => ?_
  subst ex
  cases r1 with
  | @pen p hp =>
    obtain ⟨hF, hm, oo, h1, h2⟩ := k1.pen p hp
    rw [T.pn] at h2
    obtain ⟨a, r, rfl, a1, a2⟩ := h2
    obtain ⟨ns, c1', c2', c3'⟩ := k1.cells p hp
    rcases hk with rfl | rfl | rfl
    · exact ⟨p, _, 0, .ref c1.cel, rfl, rfl, SqL.of h1, rfl, c1, g1, _, s1, k1, .lst c1' (reps_ints ns), q1 _ (.cells ns (by rw [T.cok] at c2'; exact c2') c3')⟩
    · exact ⟨p, _, 1, .int a, rfl, rfl, SqL.of h1, rfl, c1, g1, _, s1, k1, .int a, q1 _ (.at_ a a1 a2)⟩
    · exact ⟨p, _, 2, .int r, rfl, rfl, SqL.of h1, rfl, c1, g1, _, s1, k1, .int r, q1 _ (.rest r)⟩
/-- pen[1] = e, pen[2] = e -/
theorem ws_penI2 {i : Nat} {x : Str} {px : Pos} (T : TbL B) (hv : PE X (.Name x px) (tVar i)) (he : WE B X W e te) (hs : swapsWithSole [.Subscript (.Name x px) (.Constant (.int 2) j pk) pos'] e pos.line X.env = pure false := by rfl)
    (hw : swappedStores [.Subscript (.Name x px) (.Constant (.int 2) j pk) pos'] e X.env = pure none := by rfl) :
    WS B X W H₀ (.Assign [.Subscript (.Name x px) (.Constant (.int 2) j pk) pos'] e pos) (dPutRest i te) := by
  refine ⟨fun c₀ c g ρ σ H D r q z => semS_of (ps_asg pe_sem (pg_sub hv pe_int set_list) hs hw) ?_⟩
  refine (he.run c g _ σ H _ _ r.fine r.mask q (r.zok z)).mono fun v H1 ⟨c1, g1, d, s1, k1, r1, hi, rr, n, ed, hle, q1⟩ => ?_
  subst ed
  cases r1
  have r' := r.next s1 k1
  obtain ⟨u, e1, e2⟩ := r'.fz i _ hi
  cases e2 with
  | @pen p hp =>
    obtain ⟨hF, hm, oo, h1, h2⟩ := k1.pen p hp
    rw [T.pn] at h2
    obtain ⟨a, r0, rfl, a1, a2⟩ := h2
    obtain ⟨s2, k2⟩ := k1.penPut (o := penLO c1.cel a rr) (n := n) hp (by rw [T.pn]; exact ⟨a, rr, rfl, a1, by omega⟩) (fun o _ h => by rw [T.pn] at h; obtain ⟨_, _, rfl, _⟩ := h; exact pl_lst)
    exact ⟨_, e1, p, _, 2, 2, rfl, rfl, h1, rfl, c1, { g1 with n := n }, ρ, r'.next s2 k2, q1⟩
theorem ws_penI1 {i : Nat} {x : Str} {px : Pos} (T : TbL B) (hv : PE X (.Name x px) (tVar i)) (he : WE B X W e te) (hs : swapsWithSole [.Subscript (.Name x px) (.Constant (.int 1) j pk) pos'] e pos.line X.env = pure false := by rfl)
    (hw : swappedStores [.Subscript (.Name x px) (.Constant (.int 1) j pk) pos'] e X.env = pure none := by rfl) :
    WS B X W H₀ (.Assign [.Subscript (.Name x px) (.Constant (.int 1) j pk) pos'] e pos) (dPutAt i te) := by
  refine ⟨fun c₀ c g ρ σ H D r q z => semS_of (ps_asg pe_sem (pg_sub hv pe_int set_list) hs hw) ?_⟩
  refine (he.run c g _ σ H _ _ r.fine r.mask q (r.zok z)).mono fun v H1 ⟨c1, g1, d, s1, k1, r1, hi, aa, n, ed, b1, b2, q1⟩ => ?_
  subst ed
  cases r1
  have r' := r.next s1 k1
  obtain ⟨u, e1, e2⟩ := r'.fz i _ hi
  cases e2 with
  | @pen p hp =>
    obtain ⟨hF, hm, oo, h1, h2⟩ := k1.pen p hp
    rw [T.pn] at h2
    obtain ⟨a, r0, rfl, a1, a2⟩ := h2
    obtain ⟨s2, k2⟩ := k1.penPut (o := penLO c1.cel aa r0) (n := n) hp (by rw [T.pn]; exact ⟨aa, r0, rfl, b1, b2⟩) (fun o _ h => by rw [T.pn] at h; obtain ⟨_, _, rfl, _⟩ := h; exact pl_lst)
    exact ⟨_, e1, p, _, 1, 1, rfl, rfl, h1, rfl, c1, { g1 with n := n }, ρ, r'.next s2 k2, q1⟩
/-- [cells, a, r]: the pen is made -/
def dPenL (t : DA) : DE := fun ρ g Q Z => t ρ g (fun xs g1 => ∃ ns a r, xs = [.lst (ns.map D.int), .int a, .int r] ∧ cokP ns ∧ 0 ≤ a ∧ a ≤ (g1.n : Int) ∧ g1.pd = false ∧ Q .pen { g1 with pd := true, cl := ns.length }) Z
theorem we_penL {es : List Expr} {t : DA} (T : TbL B) (h : WA B X W es t) : WE B X W (.List es pos) (dPenL t) := by
  refine ⟨fun c g ρ σ H Q Z k r q z => sem_of (pe_lst pa_sem) ?_⟩
  refine (h.run c g ρ σ H _ Z k r q z).mono fun vs H1 ⟨c1, g1, ds, s1, k1, rs, _, ns, a, r0, ek, hc, a1, a2, hpd, q1⟩ => ⟨by rw [rs.length, ek]; show 3 ≤ sizeLine; decide, fun p hp0 => ?_⟩
  subst ek
  have hpn : c1.pen = none := by
    have := k1.pd
    rw [hpd] at this
    simpa using this
  obtain ⟨m2, m3, m4⟩ := k1.notMut hp0
  cases rs with
  | cons ra rs =>
    cases rs with
    | cons rb rs =>
      cases rs with
      | cons rc rs =>
        cases rs
        cases rb; cases rc
        cases ra with
        | @lst ca vs _ hca rs =>
          have ev := rs.ints
          subst ev
          have h00 : H p = none := s1.back k1 hp0
          have k2 : Fine B X.K c1 g1 (upd H1 p (penLO ca a r0)) := k1.own m2 m3 m4
          have s2 : Grow c H c1 (upd H1 p (penLO ca a r0)) := s1.own h00
          have le : Le c1 { c1 with pen := some p, cel := ca } := ⟨Evl.Ex.refl _, fun q hq => (by rw [hpn] at hq; cases hq), fun _ _ h => h, fun q hq => (by rw [hpn] at hq; cases hq)⟩
          refine ⟨{ c1 with pen := some p, cel := ca }, { g1 with pd := true, cl := ns.length }, .pen, ⟨s2.le.trans le, s2.kp, fun x hx => ?_, s2.froz⟩, ⟨k2.sub, rfl, fun q hq => ?_, fun q hq => ⟨ns, hca, by rw [T.cok]; exact hc, rfl⟩, k2.mlen, k2.mnd, fun i m x h1 h2 => ?_, k2.tabs, k2.nt⟩, .pen rfl, q1⟩
          · rcases hx with hx | hx
            · cases hx; exact .inr h00
            · exact s2.fresh x (.inr hx)
          · cases hq
            exact ⟨m2, m4, _, upd_same, by rw [T.pn]; exact ⟨a, r0, rfl, a1, a2⟩⟩
          · obtain ⟨e1, dx, fs, e2, e3⟩ := k2.mem i m x h1 h2
            exact ⟨e1, dx, fs, e2, e3.mono le⟩
end
end DL

namespace DL
open PySem L2 PyProof.Rows
/-! ### lambdas without parameters, handed to a def that calls them -/
abbrev TH := Gh → (D → Gh → Prop) → DZ → Prop
abbrev DSpL := TH → Gh → (D → Gh → Prop) → DZ → Prop
/-- what was handed over is called -/
structure Ask (B : Tb) (X : Cx) (W : WX) (H₀ : En) (a : Str) (tl : TH) : Prop where
  run : ∀ (p1 p2 : Pos) (c₀ c : Cn) (g : Gh) (ρ : SEnv) (σ : L2.St) (H : Hp) (Q : D → Gh → Prop) (Z : DZ), RelS B X.K c₀ H₀ c g ρ σ H → ρ[0]? = some .th → tl g Q Z → ZOk B X.K c H σ W Z → semE X (.Call (.Name a p1) [] [] p2) σ H (PQ B X.K c H Q)
def dAsk (tl : TH) : DS := fun D ρ g => ρ[0]? = some .th ∧ tl g (fun _ g' => D.nx ρ g') fun ex g' => D.xz ex ρ g'
def dAskSet (tl : TH) (j : Nat) : DS := fun D ρ g => ρ[0]? = some .th ∧ tl g (fun d g' => D.nx (ρ.set j (.fz d)) g') fun ex g' => D.xz ex ρ g'
section
variable {B : Tb} {X : Cx} {W : WX} {H₀ : En} {a : Str} {tl : TH} {p1 p2 pos : Pos}
theorem ws_ask (h : Ask B X W H₀ a tl) (hs : swapsWith (.Call (.Name a p1) [] [] p2) none pos.line X.env = pure false := by rfl) : WS B X W H₀ (.Expr (.Call (.Name a p1) [] [] p2) pos) (dAsk tl) := by
  refine ⟨fun c₀ c g ρ σ H D r q z => semS_of (ps_expr pe_sem hs) ?_⟩
  exact (h.run p1 p2 c₀ c g ρ σ H _ _ r q.1 q.2 (r.zok z)).mono fun v H' ⟨c', g', d, s, k, _, q'⟩ => ⟨c', g', ρ, r.next s k, q'⟩
theorem ws_askSet {j : Nat} {y : Str} {pos' : Pos} (h : Ask B X W H₀ a tl) (hN : X.N.Nodup) (hi : X.N[j]? = some y) (hx : Loc X.env.scope y) (hs : swapsWith (.Call (.Name a p1) [] [] p2) (some (.Name y pos')) pos.line X.env = pure false := by rfl)
    (hf : X.fn y = true ∨ X.env.scope.names.lookup y = some .local := by first | exact .inl rfl | exact .inr rfl) : WS B X W H₀ (.Assign [.Name y pos'] (.Call (.Name a p1) [] [] p2) pos) (dAskSet tl j) := by
  refine ⟨fun c₀ c g ρ σ H D r q z => semS_of (ps_set hN hi hx pe_sem hs hf) ?_⟩
  exact (h.run p1 p2 c₀ c g ρ σ H _ _ r q.1 q.2 (r.zok z)).mono fun v H' ⟨c', g', d, s, k, rr, q'⟩ => ⟨c', g', _, (r.next s k).set rr, q'⟩
end
/-- the state behind the making of a lambda -/
theorem Fine.tabled {B : Tb} {K : PySem.W.Frag} {c : Cn} {g : Gh} {H H1 : Hp} (k : Fine B K c g H) (e : LamX.ExtN H H1) (t : LamX.Tabs B.T H1) (a0 : ∀ a ps, H1 a = some (.tbl ps) → a ∈ B.T.map (·.1)) :
    Grow c H c H1 ∧ Fine B K c g H1 := by
  refine ⟨⟨Le.refl c, fun a o h _ _ => ?_, fun a h => .inl h, fun a o h => .inl (.inl h)⟩, ⟨fun a o h => e a o (k.sub a o h) fun ps z => k.nt a ps (by rw [h, z]), k.pd, fun p hp => ?_, k.cells, k.mlen, k.mnd, fun i m a h1 h2 => ?_, ⟨t, a0⟩, k.nt⟩⟩
  · by_cases hz : ∃ ps, o = .tbl ps
    · obtain ⟨ps, rfl⟩ := hz
      obtain ⟨y, hy, ey⟩ := List.mem_map.mp (k.tabs.2 a ps h)
      obtain ⟨qs, q1, _⟩ := t y hy
      exact .inr ⟨ps, qs, rfl, by rw [← ey]; exact q1⟩
    · exact .inl (e a o h fun ps z => hz ⟨ps, z⟩)
  · obtain ⟨h1, h2, o, h3, h4⟩ := k.pen p hp
    exact ⟨h1, h2, o, e p o h3 (B.pl _ _ _ h4).1, h4⟩
  · obtain ⟨h3, dx, fs, h4, h5⟩ := k.mem i m a h1 h2
    exact ⟨h3, dx, fs, e a _ h4 nofun, h5⟩
/-- a def that calls what it is handed: its body -/
def LamBody (B : Tb) (P : Program) (w : World) (K : PySem.W.Frag) (mg : Str → Option Value) (base : Heap) (L : Nat) (N : List Str) (qual : Str) (st : Stmt) (f : Addr) (a : Str) (t : TH → DS) : Prop :=
  ∀ (cdv : Value) (A : Around) (outer : List Env) (s : Shared) (H : Hp) (E : XK) (H₀ : En) (tl : TH), let X := cxOf (L2.CX P w) P w K mg base N qual (defScope st) f cdv A outer s H E
    Ctx L X (fun cls d _ H => E cls d H) → (∀ (pn : List (Addr × Obj)) (xe : Value → Shared → Prop) (W' : WX), Takes (X.tr pn xe) W' → Ask B (X.tr pn xe) W' H₀ a tl) → WB B X (fun cls d _ H => E cls d H) H₀ (defBody st) (t tl)
def specL (N : List Str) (t : TH → DS) : DSpL := fun tl g Φ Ψ => t tl { nx := fun _ g' => Φ .non g', rt := Φ, xz := fun ex _ g' => Ψ ex g' } (.th :: List.replicate (N.length - 1) .un) g
structure FnL (B : Tb) (P : Program) (w : World) (K : PySem.W.Frag) (mg : Str → Option Value) (base : Heap) (L : Nat) (x : Str) (SL : DSpL) : Prop where
  ex : ∃ (f : Addr) (fd : FuncData) (qual a : Str) (st : Stmt) (N : List Str) (t : TH → DS), Fun K x qual st f fd ∧ FnScope N [a] (defScope st) ∧ N[0]? = some a ∧ Vis (defScope st) a ∧ LamBody B P w K mg base L N qual st f a t ∧
    mg x = some (.ref f) ∧ PySem.W.keepIn K (.ref f) = true ∧ Binds K fd [a] [] ∧ (a == ("__debug__" : Str)) = false ∧ (a == ("__classdict__" : Str)) = false ∧ SL = specL N t
theorem Ctx.mono {L L' : Nat} {X : Cx} {W : WX} (C : Ctx L' X W) (h : L ≤ L') : Ctx L X W := ⟨C.calm, C.room.mono h, C.gd, C.tk⟩
theorem FnL.mono {B : Tb} {P : Program} {w : World} {K : PySem.W.Frag} {mg : Str → Option Value} {base : Heap} {L L' : Nat} {x : Str} {SL : DSpL} (F : FnL B P w K mg base L x SL) (h : L ≤ L') : FnL B P w K mg base L' x SL :=
  let ⟨f, fd, q, a, st, N, t, h1, h2, h3, h4, h5, h6⟩ := F.ex
  ⟨f, fd, q, a, st, N, t, h1, h2, h3, h4, fun cdv A outer s H E H₀ tl C as => h5 cdv A outer s H E H₀ tl (C.mono h) as, h6⟩
/-- the maker's table -/
structure LamT (B : Tb) (mg : Str → Option Value) (base : Heap) (cdv : Value) (q : Str) : Prop where
  ex : ∃ c P, cdv = .ref c ∧ LamX.TabB base mg c P ∧ (P, q) ∈ B.T ∧ ∀ t ∈ B.T, t.1 = P → t.2 = q
def dLam (SL : DSpL) (te : DE) : DE := fun ρ g Q Z => SL (fun g' Q' Z' => te ρ g' Q' Z') g Q Z
/-- the lambda is made; what is tracked behind it -/
def Made (H : Hp) (P : Addr) (q : Str) (H1 : Hp) : Prop := H1 = H ∨ ∃ ps more c', H P = some (.tbl ps) ∧ H c' = none ∧ H1 = upd (upd H P (.tbl (ps ++ more))) c' (LamX.CodeO c' q)
theorem Made.ext {H H1 : Hp} {P : Addr} {q : Str} (m : Made H P q H1) : LamX.ExtN H H1 := by
  rcases m with rfl | ⟨ps, more, c', h1, h2, rfl⟩
  · exact LamX.ExtN.refl _
  · intro b o h n
    rw [upd_ne (ne_of_none h h2), upd_ne]
    · exact h
    · intro z
      subst z
      rw [h1] at h
      exact n ps (Option.some.inj h).symm
theorem Made.old {H H1 : Hp} {P : Addr} {q : Str} (m : Made H P q H1) (a : Addr) (ps : Array Value) (h : H1 a = some (.tbl ps)) : ∃ qs, H a = some (.tbl qs) := by
  rcases m with rfl | ⟨qs, more, c', h1, h2, rfl⟩
  · exact ⟨ps, h⟩
  · by_cases e : a = c'
    · subst e
      rw [upd_same] at h
      exact absurd (Option.some.inj h) (LamX.codeO_ne ps)
    · rw [upd_ne e] at h
      by_cases e2 : a = P
      · subst e2; exact ⟨qs, h1⟩
      · rw [upd_ne e2] at h; exact ⟨ps, h⟩
section
variable {X : Cx} {pins : List (Addr × Obj)} {σ : L2.St} {H : Hp} {s : Shared}
theorem lam_mk {T : List (Addr × Str)} {cd P : Addr} {params : Arguments} {body : Expr} {scope : Scope} {pos : Pos} {q : Str} {E : Value → Shared → Prop} {Q : Value → Shared → Prop} (hq : q = X.env.qual ++ "<lambda>") (I : Inv X pins σ H s) (TB : LamX.TabB X.base X.mg cd P) (hcode : X.env.code = .ref cd)
    (hin : (P, q) ∈ T) (one : ∀ t ∈ T, t.1 = P → t.2 = q) (hT : LamX.Tabs T H) (hdef : defaultsOf params X.env = ([], [])) (hfree : ∀ y ∈ scope.names, y.2 = .free → ∃ c, X.env.cells.lookup y.1 = some c)
    (h : ∀ (f c' : Addr) (pm ctv : Value) (H1 : Hp) (s' : Shared), Inv X pins σ H1 s' → Made H P q H1 → LamX.Tabs T H1 → s'.heap.get? f = some (PySem.W.kla_obj "<lambda>" q params body scope (cloFrom X.env.cells scope.names []) pm c' ctv) →
      H1 f = none → f ∉ frs X.stack → H1 c' = some (LamX.CodeO c' q) → Q (.ref f) s') : wpAny (model X.prog X.w) X.A (eval (.Lambda params body scope pos) X.env) Q E s := by
  subst hq
  obtain ⟨ps, hP, tri, among⟩ := hT _ hin
  have tabAt : s.heap.get? P = some { cls := .none, data := .fields ps } := I.hok P _ hP
  have bltP := TB.bm.keeps I.bk
  have out : ∀ f, s.heap.objs.size ≤ f → f ∉ frs X.stack := fun f hf z => by
    rcases List.mem_cons.mp (I.stkSub _ z) with e | e
    · have := I.lt
      rw [← e] at this
      exact absurd this (Nat.not_lt.mpr hf)
    · exact I.nofs hf e
  refine PySem.W.kla_eval hdef ?_
  cases look : codeAmong pos ps.toList with
  | some cv =>
    obtain ⟨c', e, hco⟩ := among pos cv look
    subst e
    refine PySem.W.kla_makeFunctionHit (mg := X.mg) (c := cd) (P := P) (ps := ps) (closure_ok hfree) I.ok.glob (I.mod.glob.keeps I.bk) hcode (TB.code.keeps I.bk) tabAt tri look bltP fun ctv h' tk keep size => ?_
    exact h _ c' _ ctv H _ (I.kept fun b o e => Heap.get?_push_of_some _ (keep b o e)) (.inl rfl) hT (Heap.get?_push_size _ rfl) (I.hok.fresh size) (out _ size) hco
  | none =>
    refine PySem.W.kla_makeFunction (mg := X.mg) (c := cd) (P := P) (ps := ps) (closure_ok hfree) I.ok.glob (I.mod.glob.keeps I.bk) hcode (TB.code.keeps I.bk) tabAt tri look TB.gP bltP fun c' ctv h' tk keep ge lt rec tab => ?_
    obtain ⟨_, oc, vs, t, e2, hoc, hd, hv⟩ := rec
    cases e2
    have size : s.heap.objs.size ≤ h'.objs.size := Nat.le_trans ge (Nat.le_of_lt lt)
    have fresh : H c' = none := I.hok.fresh ge
    have m : Made H P (X.env.qual ++ "<lambda>") (upd (upd H P (.tbl (ps ++ #[rawInt pos.line, rawInt pos.col, .ref c']))) c' (LamX.CodeO c' (X.env.qual ++ "<lambda>"))) := .inr ⟨ps, _, c', hP, fresh, rfl⟩
    have list : (ps ++ #[rawInt pos.line, rawInt pos.col, .ref c']).toList = ps.toList ++ [rawInt pos.line, rawInt pos.col, .ref c'] := by simp
    refine h h'.objs.size c' ((X.mg "__name__").getD .none) ctv _ _ (LamX.inv_table (t' := tk) (more := #[rawInt pos.line, rawInt pos.col, .ref c']) I hP (fun b o hb e => Heap.get?_push_of_some _ (keep b o hb e)) (Heap.get?_push_of_some _ tab) ge ⟨oc, vs, t, Heap.get?_push_of_some _ hoc, hd, hv⟩)
      m (fun y hy => ?_) (Heap.get?_push_size _ rfl) ?_ (out _ size) upd_same
    · by_cases hb : y.1 = P
      · rw [one y hy hb, hb]
        refine ⟨_, (upd_ne (ne_of_none hP fresh)).trans upd_same, by rw [list]; exact PySem.TriplesOk_snoc _ _ _ _ tri, fun p' cv hcv => ?_⟩
        rw [list] at hcv
        rcases LamX.among_app _ tri hcv with z | z
        · obtain ⟨c0, e1, e2⟩ := among p' cv z
          exact ⟨c0, e1, m.ext _ _ e2 LamX.codeO_ne⟩
        · exact ⟨c', z, upd_same⟩
      · obtain ⟨qs, a1, a2, a3⟩ := hT y hy
        refine ⟨qs, ((upd_ne (ne_of_none a1 fresh)).trans (upd_ne hb)).trans a1, a2, fun p' cv hcv => ?_⟩
        obtain ⟨c0, e1, e2⟩ := a3 p' cv hcv
        exact ⟨c0, e1, m.ext _ _ e2 LamX.codeO_ne⟩
    · rw [upd_ne (Nat.ne_of_gt lt), upd_ne (Nat.ne_of_gt (Nat.lt_of_lt_of_le (Heap.lt_size tabAt) size))]
      exact I.hok.fresh size
end
end DL

namespace DL
open PySem L2 PyProof.Rows
section
variable {B : Tb} {X : Cx} {W : WX} {L : Nat}
/-- the body of a lambda, read in the maker's slots -/
def LamOk (B : Tb) (X : Cx) (L : Nat) (scope : Scope) (body : Expr) (te : DE) : Prop :=
  ∀ (A : Around) (outer : List Env) (s : Shared) (H : Hp) (E : XK) (f c' : Addr), Ctx L (LamX.lamCx X A outer s H E scope f c') (fun cls d _ H => E cls d H) → WE B (LamX.lamCx X A outer s H E scope f c') (fun cls d _ H => E cls d H) body te
theorem ask_of {pins : List (Addr × Obj)} {σ : L2.St} {H1 : Hp} {s1 : Shared} {c : Cn} {ρ : DEnv} {f c' g : Addr} {params : Arguments} {body : Expr} {scope : Scope} {pm ctv cdg : Value} {q qg a : Str} {sg : Scope} {Ng : List Str} {Eg : XK} {pn : List (Addr × Obj)} {xe : Value → Shared → Prop} {W' : WX} {te : DE}
    (hq : q = X.env.qual ++ "<lambda>") (I : Inv X pins σ H1 s1) (sc : LamX.LamS X.env.scope scope) (hf : s1.heap.get? f = some (PySem.W.kla_obj "<lambda>" q params body scope (cloFrom X.env.cells scope.names []) pm c' ctv)) (hfn : H1 f = none) (hfr : f ∉ frs X.stack)
    (hbind : ∀ (cl : List (Str × Addr)) (pm cv ctv : Value), bindArgs (PySem.W.kla_fn "<lambda>" q params body scope cl pm cv ctv) ⟨[], []⟩ = pure [])
    (rl : RelP B X.K c ρ σ) (room : Room (L + 1) (X.A.deeper (envOfC qg sg s1.heap.objs.size g cdg))) (gd : X.A.guards = some []) (hb : LamOk B X L scope body te)
    (tk : Takes ((cxOf (L2.CX X.prog X.w) X.prog X.w X.K X.mg X.base Ng qg sg g cdg X.A X.stack s1 H1 Eg).tr pn xe) W') (hN : Ng[0]? = some a) (hv : Vis sg a) (hd : (a == ("__debug__" : Str)) = false) (hcd : (a == ("__classdict__" : Str)) = false) :
    Ask B ((cxOf (L2.CX X.prog X.w) X.prog X.w X.K X.mg X.base Ng qg sg g cdg X.A X.stack s1 H1 Eg).tr pn xe) W' ⟨H1, f, c, some (c', q)⟩ a (fun g' Q' Z' => te ρ g' Q' Z') := by
  subst hq
  refine ⟨fun p1 p2 c₀ c2 g2 ρ2 σZ HZ Q ZZ r2 hth ht zok pinsZ sZ IZ => ?_⟩
  have slot : σZ[0]? = some (some (.ref f)) := r2.th.2.2 0 hth
  have code : HZ c' = some (LamX.CodeO c' (X.env.qual ++ "<lambda>")) := r2.th.2.1 _ rfl
  have le : Le c c2 := r2.th.1
  refine wpAny_Call_Name_kw (thn ((pe_var (pos := p1) (i := 0) hN hv hd hcd).run pinsZ sZ σZ HZ (fun v H' => v = .ref f ∧ H' = HZ) IZ ⟨_, slot, rfl, rfl⟩) fun u s2 ⟨v, H2, I2, rv, ev, eH⟩ => ?_)
  subst ev eH
  have eu : u = Value.ref f := rv
  subst eu
  have still : s2.heap.get? f = some (PySem.W.kla_obj "<lambda>" (X.env.qual ++ "<lambda>") params body scope (cloFrom X.env.cells scope.names []) pm c' ctv) := I2.base.keep f _ hf hfn hfr (fun z => nomatch (show f ∈ ([] : List Addr) from z))
  refine PySem.W.callWith_F0 ⟨_, _, _, _, still⟩ ?_
  obtain ⟨⟨oc, vs, t, hoc, hdc, hvc⟩, _, _⟩ := I2.hok c' _ code
  have run : codeAny (model X.prog X.w) (X.A.deeper (envOfC qg sg s1.heap.objs.size g cdg)) (.call (.ref f) ⟨[], []⟩) (CR (L2.CX X.prog X.w) (envOfC qg sg s1.heap.objs.size g cdg :: X.stack) X.prog X.w H2 s2 (PQ B X.K c2 H2 Q) (L2.WE W' σZ)) s2 := by
    refine PySem.W.kla_callFunE room.depth still rfl sc.co sc.gen rfl ⟨c', oc, vs, t, rfl, hoc, hdc, hvc⟩ ?_
    rw [hbind]
    refine wpAny_pure (wpAny_newFunctionEnv (fun y hy => (sc.own y hy).2) (fun y hy => nomatch (show y ∈ ([] : List (Str × Value)) from hy)) (fun h₁ hns hsb => ⟨I2.nolimit.fresh _ hsb, ?_⟩) sc.kind)
    show codeAny _ _ (.expr body (LamX.lamEnv X scope s2.heap.objs.size f c')) _ _
    have up : ∀ b o, s2.heap.get? b = some o → h₁.get? b = some o := fun b o e => hsb.extBut b o (Nat.ne_of_lt (Heap.lt_size e)) (Heap.get?_push_of_some _ e)
    have J := LamX.lam_start2 (E := L2.WE W' σZ) (f := f) (c' := c') (tk := s2.toks + ([] : List (Str × Value)).length) I sc I2.env0 room.hd I2.base hns up
    have C : Ctx L (LamX.lamCx X (X.A.deeper (envOfC qg sg s1.heap.objs.size g cdg)) (envOfC qg sg s1.heap.objs.size g cdg :: X.stack) s2 H2 (L2.WE W' σZ) scope f c') (fun cls d _ H => L2.WE W' σZ cls d H) := ⟨rfl, room.deeper _, gd, takes_of rfl rfl rfl rfl⟩
    have b := (hb _ _ s2 H2 _ f c' C).run c2 g2 ρ σ H2 Q ZZ r2.fine (rl.mono le) ht (fun c3 H3 g3 ex cls d s3 k3 r3 z3 => zok c3 H3 g3 ex cls d s3 k3 r3 z3)
    refine PySem.W.kla_codeExpr (wpAny_mono (b [] _ J) (fun v s' hq => ?_) fun e s' hq => hq)
    obtain ⟨w', H', J', rv', q'⟩ := hq
    exact ⟨w', H', J'.os, J'.bare, J'.base, J'.hok, rv', q'⟩
  refine wpAny_call (codeAny_mono run fun r s' hq => ?_)
  match r, hq with
  | .error e, hq => exact passAt tk σZ pinsZ H2 s2 e s' I2 hq
  | .ok (.ret u), hq => exact I2.after hq
  | .ok .next, hq => exact hq.elim
  | .ok .brk, hq => exact hq.elim
  | .ok .cont, hq => exact hq.elim
theorem start_relL {K : PySem.W.Frag} {c : Cn} {g : Gh} {H : Hp} {N : List Str} {f c' : Addr} {q : Str} (k : Fine B K c g H) (hco : H c' = some (LamX.CodeO c' q)) (hN : N.length ≠ 0) : RelS B K c ⟨H, f, c, some (c', q)⟩ c g (.th :: List.replicate (N.length - 1) .un) (L2.start N [.ref f]) H := by
  have e : L2.start N [.ref f] = some (.ref f) :: List.replicate (N.length - 1) none := by
    unfold L2.start
    simp
  rw [e]
  have no : ∀ {i : Nat} {v : SV}, v ≠ .un → v ≠ .th → (SV.th :: List.replicate (N.length - 1) SV.un)[i]? ≠ some v := fun {i v} h1 h2 h => by
    cases i with
    | zero => exact h2 (Option.some.inj h).symm
    | succ i =>
      rw [List.getElem?_cons_succ, List.getElem?_replicate] at h
      split at h
      · exact h1 (Option.some.inj h).symm
      · cases h
  refine ⟨Grow.refl c H, k, by simp, fun i d h => absurd h (no nofun nofun), fun i ds h => absurd h (no nofun nofun), fun i j ds es p _ h => absurd h (no nofun nofun), fun i p k fs _ h => absurd h (no nofun nofun), fun i j k l fs gs h => absurd h (no nofun nofun), ⟨Le.refl c, fun x hx => ?_, fun i h => ?_⟩⟩
  · cases hx; exact hco
  · cases i with
    | zero => rfl
    | succ i =>
      rw [List.getElem?_cons_succ, List.getElem?_replicate] at h
      split at h <;> cases h
/-- x(lambda: body) -/
theorem we_lam {SL : DSpL} {x q : Str} {p lpos pos : Pos} {params : Arguments} {body : Expr} {scope : Scope} {te : DE} (F : FnL B X.prog X.w X.K X.mg X.base (L + 1) x SL) (C : Ctx (L + 2) X W) (T : LamT B X.mg X.base X.env.code q) (hq : q = X.env.qual ++ "<lambda>") (hg : Gl X x) (sc : LamX.lamSB X.env.scope scope = true)
    (hdef : defaultsOf params X.env = ([], [])) (hbind : ∀ (q : Str) (cl : List (Str × Addr)) (pm cv ctv : Value), bindArgs (PySem.W.kla_fn "<lambda>" q params body scope cl pm cv ctv) ⟨[], []⟩ = pure []) (hb : LamOk B X L scope body te) (hdb : (x == ("__debug__" : Str)) = false := by decide) :
    WE B X W (.Call (.Name x p) [.Lambda params body scope lpos] [] pos) (dLam SL te) := by
  have sc := LamX.lamS_by sc
  obtain ⟨gf, fd, qual, a, st, N, t, Fg, Sg, hN, hv, LB, hm, hk, hbd, hd1, hd2, rfl⟩ := F.ex
  obtain ⟨cd, P, ecode, TB, hin, one⟩ := T.ex
  refine ⟨fun c g ρ σ H Q Z k rl h z pins s I => ?_⟩
  refine wpAny_Call_Name_kw (ld_glob I hg hm ?_ hdb)
  refine PySem.W.callWith_K (h₀ := X.base) I.ok.mod.kin hk ?_ (by rfl) (by rfl)
  show wpAny _ _ (spliced ((false, eval (.Lambda params body scope lpos) X.env) :: backTo pos (starEach [] X.env))) _ _ s
  refine Calls.spliced_cons (lam_mk hq I TB ecode hin one k.tabs.1 hdef (sc.has I.ok) fun f c' pm' ctv H1 s1 I1 made T1 hf hfn hfr hco => Calls.spliced_nil ⟨I1.kIn, ?_⟩)
  obtain ⟨gr, k1⟩ := k.tabled made.ext T1 fun b ps e => (let ⟨qs, e2⟩ := made.old b ps e; k.tabs.2 b qs e2)
  obtain ⟨oc, od, kV, doc, pm, an, cdv, ct, osl, rfl, lk, hcd⟩ := Fg.ex
  have run : codeAny (model X.prog X.w) X.A (.call (.ref gf) ⟨[.ref f], []⟩) (CR (L2.CX X.prog X.w) X.stack X.prog X.w H1 s1 (PQ B X.K c H Q) (L2.WE W σ)) s1 := by
    refine LamX.run_ofS (N := N) (ps := [a]) (us := [.ref f]) (vs := [.ref f]) lk hcd Sg (C.room.mono (Nat.le_refl _)) I1.env0 (hbd s1 [.ref f] I1.kIn rfl) (.cons rfl .nil) rfl fun room => ?_
    refine ⟨_, pss_sem, ?_⟩
    have C1 : Ctx (L + 1) (cxOf (L2.CX X.prog X.w) X.prog X.w X.K X.mg X.base N qual (defScope st) gf cdv X.A X.stack s1 H1 (L2.WE W σ)) (fun cls d _ H => L2.WE W σ cls d H) := ⟨rfl, room, C.gd, takes_of rfl rfl rfl rfl⟩
    have hl : N.length ≠ 0 := fun e => by
      rw [List.eq_nil_of_length_eq_zero e] at hN; cases hN
    have b := (LB cdv X.A X.stack s1 H1 (L2.WE W σ) ⟨H1, f, c, some (c', q)⟩ (fun g' Q' Z' => te ρ g' Q' Z') C1 fun pn xe W' tk => ask_of hq I1 sc hf hfn hfr (fun cl pm cv ctv => hbind _ cl pm cv ctv) rl room C.gd hb tk hN hv hd1 hd2).run c c g _ _ H1 _ (start_relL k1 hco hl) h
      (fun c' g' ρ' σ' H' ex cls d r' e' q' => z c' H' g' ex cls d (gr.trans r'.gr) r'.fine e' q')
    intro pins s' I
    refine thn (b pins s' I) fun fl s1 hs => SP.imp hs (fun σ' H' ⟨c', g', ρ', r', q'⟩ => ?_) (fun v H' ⟨c', g', d, s2, k2, r2, q'⟩ => ?_) (fun _ _ ⟨_, _, _, _, q⟩ => q.elim) (fun _ _ ⟨_, _, _, _, q⟩ => q.elim)
    · exact ⟨c', g', .non, gr.trans r'.gr, r'.fine, .non, q'⟩
    · exact ⟨c', g', d, gr.trans s2, k2, r2, q'⟩
  refine wpAny_call (codeAny_mono run fun r s' hq => ?_)
  match r, hq with
  | .error e, hq => exact passAt C.tk σ pins H1 s1 e s' I1 hq
  | .ok (.ret u), hq => exact I1.after hq
  | .ok .next, hq => exact hq.elim
  | .ok .brk, hq => exact hq.elim
  | .ok .cont, hq => exact hq.elim
end
end DL

namespace DL
open PySem L2 PyProof.Rows
/-! ### the head's facts of makers of lambdas -/
theorem code_is {K : PySem.W.Frag} {p : Str × Option Str} {x qual : Str} {st : Stmt} {fd : FuncData} {cdv : Value} (F : Fun K x qual st (He.fAd K p) fd) (hc : CodeIs K (He.fAd K p) cdv) : cdv = .ref (codeA K p) := by
  obtain ⟨oc, od, kV, doc, pm, an, cdv', ct, osl, rfl, lk, hcd⟩ := F.ex
  obtain ⟨oc2, od2, fd2, osl2, lk2, e2⟩ := hc
  rw [lk] at lk2
  cases lk2
  have e : cdv' = cdv := e2
  subst e
  cases cdv' with
  | ref c =>
    unfold codeA
    rw [lk]
  | _ => simp [PySem.W.codeIn] at hcd
def oneB (T : List (Addr × Str)) (P : Addr) (q : Str) : Bool := T.contains (P, q) && T.all fun t => !decide (t.1 = P) || decide (t.2 = q)
theorem lamT_mk {B : Tb} {K : PySem.W.Frag} {mg : Str → Option Value} {base : Heap} {lm : List (Str × Option Str)} {p : Str × Option Str} {q x qual : Str} {st : Stmt} {fd : FuncData} {cdv : Value} (F : Fun K x qual st (He.fAd K p) fd)
    (TB : ∀ y ∈ csOf K lm, LamX.TabB base mg y.1 y.2) (hp : p ∈ lm) (ho : oneB B.T (tabA K p) q = true) (hc : CodeIs K (He.fAd K p) cdv) : LamT B mg base cdv q := by
  obtain ⟨h1, h2⟩ := Bool.and_eq_true_iff.mp ho
  refine ⟨codeA K p, tabA K p, code_is F hc, TB _ (List.mem_map.mpr ⟨p, hp, rfl⟩), by simpa using h1, fun t ht e => ?_⟩
  have q := List.all_eq_true.mp h2 t ht
  simp only [Bool.or_eq_true, Bool.not_eq_true', decide_eq_false_iff_not, decide_eq_true_eq] at q
  exact q.resolve_left (fun z => z e)
theorem fnL_mk {B : Tb} {P : Program} {w : World} {K : PySem.W.Frag} {mg : Str → Option Value} {base : Heap} {L : Nat} {x qual a : Str} {st : Stmt} {f : Addr} {fd : FuncData} {N : List Str} {t : TH → DS} (F : Fun K x qual st f fd) (Sc : FnScope N [a] (defScope st)) (LB : LamBody B P w K mg base L N qual st f a t)
    (hm : mg x = some (.ref f)) (hb : Binds K fd [a] []) (hN : N[0]? = some a := by rfl) (hv : Vis (defScope st) a := by first | exact Or.inl rfl | exact Or.inr (Or.inl rfl) | exact Or.inr (Or.inr rfl)) (hd : (a == ("__debug__" : Str)) = false := by decide) (hcd : (a == ("__classdict__" : Str)) = false := by decide) :
    FnL B P w K mg base L x (specL N t) := ⟨f, fd, qual, a, st, N, t, F, Sc, hN, hv, LB, hm, F.kp, hb, hd, hcd, rfl⟩
/-! ### as functions -/
def PuTH (tl : TH) (r : R D) : Prop := ∀ g Q Z, memNl g = true → r.sat g Q Z → tl g Q Z
def fAsk (r : R D) (ρ : SEnv) : Fl := match ρ[0]? with
  | some SV.th => r.fl ρ fun _ => .nx ρ
  | _ => .no
theorem pu_ask {tl : TH} {r : R D} (h : PuTH tl r) : PuS (dAsk tl) (fAsk r) := fun En ρ g hg q => by
  unfold fAsk at q
  split at q
  · rename_i e
    exact ⟨e, h g _ _ hg (R.fl_thn q fun d _ h => h)⟩
  · exact q.elim
def fAskSet (r : R D) (j : Nat) (ρ : SEnv) : Fl := match ρ[0]? with
  | some SV.th => r.fl ρ fun d => .nx (ρ.set j (.fz d))
  | _ => .no
theorem pu_askSet {tl : TH} {r : R D} {j : Nat} (h : PuTH tl r) : PuS (dAskSet tl j) (fAskSet r j) := fun En ρ g hg q => by
  unfold fAskSet at q
  split at q
  · rename_i e
    exact ⟨e, h g _ _ hg (R.fl_thn q fun d _ h => h)⟩
  · exact q.elim
def PuFL (SL : DSpL) (F : R D → R D) : Prop := ∀ tl r g Φ Ψ, memNl g = true → PuTH tl r → (F r).sat g Φ Ψ → SL tl g Φ Ψ
def runL (N : List Str) (f : R D → SEnv → Fl) (r : R D) : R D := (f r (.th :: List.replicate (N.length - 1) .un)).out
theorem pu_defL {N : List Str} {t : TH → DS} {f : R D → SEnv → Fl} (h : ∀ tl r, PuTH tl r → PuS (t tl) (f r)) : PuFL (specL N t) (runL N f) := fun tl r g Φ Ψ hg ht q => h tl r ht _ _ g hg (by
  unfold runL at q
  cases e : f r (.th :: List.replicate (N.length - 1) .un) with
  | nx ρ => rw [e] at q; exact q
  | rt d => rw [e] at q; exact q
  | ex e' ρ => rw [e] at q; exact q
  | bk ρ => rw [e] at q; exact q.elim
  | ct ρ => rw [e] at q; exact q.elim
  | no => rw [e] at q; exact q.elim)
def fLam (F : R D → R D) (fe : DEnv → R D) (ρ : DEnv) : R D := F (fe ρ)
theorem pu_lam {SL : DSpL} {F : R D → R D} {te : DE} {fe : DEnv → R D} (hF : PuFL SL F) (he : PuE te fe) : PuE (dLam SL te) (fLam F fe) := fun ρ g Q Z hg h => hF _ (fe ρ) g Q Z hg (fun g' Q' Z' hg' h' => he ρ g' Q' Z' hg' h') h
def fSeqI (fe : DEnv → R D) (ρ : DEnv) : R (List D) := (fe ρ).bind fun x => ofO (seqD x)
theorem pu_seqI {te : DE} {fe : DEnv → R D} (he : PuE te fe) : PuI (dSeqI te) (fSeqI fe) := fun ρ g Q Z hg h => he ρ g _ Z hg (R.thn h fun x _ h => sat_ofO h)
/-! ### constants of the module -/
theorem gc_int {B : Tb} {K : PySem.W.Frag} {mg : Str → Option Value} {x : Str} {i : Int} (h : ∃ t, mg x = some (.int i t)) : GC B K mg x (.int i) := let ⟨t, h⟩ := h; ⟨_, .int i, h, ⟨t, rfl⟩, fun _ => .int i⟩
theorem gc_str {B : Tb} {K : PySem.W.Frag} {mg : Str → Option Value} {x z : Str} (h : ∃ t, mg x = some (.str z t)) : GC B K mg x (.str z) := let ⟨t, h⟩ := h; ⟨_, .str z, h, ⟨t, rfl⟩, fun _ => .str z⟩
theorem pnD_pl (a : Addr) (o : HO) (n : Nat) (h : pnD a o n) : Pl o := by
  obtain ⟨_, _, _, rfl, _⟩ := h
  exact pl_dK
theorem pnL_pl (a : Addr) (o : HO) (n : Nat) (h : pnL a o n) : Pl o := by
  obtain ⟨_, _, rfl, _⟩ := h
  exact pl_lst
theorem lb_mk {B : Tb} {P : Program} {w : World} {K : PySem.W.Frag} {mg : Str → Option Value} {base : Heap} {L : Nat} {N : List Str} {qual : Str} {st : Stmt} {f : Addr} {a : Str} {t t' : TH → DS}
    (h : ∀ (cdv : Value) (A : Around) (outer : List Env) (s : Shared) (H : Hp) (E : XK) (H₀ : En) (tl : TH), let X := cxOf (L2.CX P w) P w K mg base N qual (defScope st) f cdv A outer s H E
      Ctx L X (fun cls d _ H => E cls d H) → (∀ (pn : List (Addr × Obj)) (xe : Value → Shared → Prop) (W' : WX), Takes (X.tr pn xe) W' → Ask B (X.tr pn xe) W' H₀ a tl) → WB B X (fun cls d _ H => E cls d H) H₀ (defBody st) (t' tl)) (e : t' = t) : LamBody B P w K mg base L N qual st f a t := by
  subst e; exact h
end DL

namespace DL
open PySem L2 PyProof.Rows
/-! ### repr, dicts among the data too -/
def keyP : Key → PyData
  | .inl i => .int i
  | .inr x => .str x
mutual
def D.pyX : D → Option PyData
  | .non => some .none
  | .bl b => some (.bool b)
  | .int i => some (.int i)
  | .str x => some (.str x)
  | .lst xs => match pysX xs with | some l => some (.list l) | none => none
  | .tup xs => match pysX xs with | some l => some (.tuple l) | none => none
  | .dct kvs => match pysK kvs with | some l => some (.dict l) | none => none
  | _ => none
def pysX : List D → Option (List PyData)
  | [] => some []
  | x :: xs => match x.pyX, pysX xs with | some a, some l => some (a :: l) | _, _ => none
def pysK : List (Key × D) → Option (List (PyData × PyData))
  | [] => some []
  | (k, x) :: xs => match x.pyX, pysK xs with | some a, some l => some ((keyP k, a) :: l) | _, _ => none
end
/-- where sys.modules stands there is no list -/
def SysK (K : PySem.W.Frag) : Prop := ∃ o, K.lookup sysModules = some o ∧ o.cls ≠ .type "list"
def sysB (K : PySem.W.Frag) : Bool := match K.lookup sysModules with
  | some ⟨.type t, _, _, _⟩ => decide (t ≠ "list")
  | _ => false
theorem sysB_ok {K : PySem.W.Frag} (h : sysB K = true) : SysK K := by
  unfold sysB at h
  split at h
  · rename_i t _ _ _ e
    refine ⟨_, e, fun z => ?_⟩
    have z : Value.type t = .type "list" := z
    cases z
    exact absurd rfl (of_decide_eq_true h)
  · cases h
section
variable {B : Tb} {X : Cx} {pins : List (Addr × Obj)} {σ : L2.St} {H : Hp} {s : Shared} {c : Cn}
mutual
theorem Rep.readsX (I : Inv X pins σ H s) (sy : SysK X.K) (k : Ex c.F H) : ∀ {v : V} {d : D} {p : PyData} {u : Value}, Rep B X.K c v d → d.pyX = some p → RelV v u → ∃ as, Reads s.heap u p as ∧ sysModules ∉ as
  | _, _, _, _, .non, e, r => by
    simp only [D.pyX, Option.some.injEq] at e; subst e
    cases r
    exact ⟨_, Reads.none, by simp⟩
  | _, _, _, _, .bl b, e, r => by
    simp only [D.pyX, Option.some.injEq] at e; subst e
    cases r
    exact ⟨_, Reads.bool b, by simp⟩
  | _, _, _, _, .int i, e, r => by
    simp only [D.pyX, Option.some.injEq] at e; subst e
    obtain ⟨t, rfl⟩ := r
    exact ⟨_, Reads.int i t, by simp⟩
  | _, _, _, _, .str x, e, r => by
    simp only [D.pyX, Option.some.injEq] at e; subst e
    obtain ⟨t, rfl⟩ := r
    exact ⟨_, Reads.str x t, by simp⟩
  | _, _, _, _, .lst h rs, e, r => by
    unfold D.pyX at e
    split at e
    · rename_i l hl
      simp only [Option.some.injEq] at e; subst e
      cases r
      obtain ⟨its, rv, ⟨o, n, ho, hc, _, hd⟩, _⟩ := I.list (SqL.of (k _ _ h))
      obtain ⟨as, hr, hn⟩ := Reps.readsX I sy k rs hl rv
      refine ⟨_, Reads.list ho hc hd hr, fun z => ?_⟩
      rcases List.mem_cons.mp z with e | e
      · obtain ⟨os, h1, h2⟩ := sy
        have h3 := I.kIn _ _ h1
        rw [e, ho] at h3
        cases h3
        exact h2 hc
      · exact hn e
    · cases e
  | _, _, _, _, .tup h rs, e, r => by
    unfold D.pyX at e
    split at e
    · rename_i l hl
      simp only [Option.some.injEq] at e; subst e
      cases r
      obtain ⟨its, rv, ⟨o, ho, hc, n, hd⟩, _⟩ := I.tuple (Evl.ex_t k h)
      obtain ⟨as, hr, hn⟩ := Reps.readsX I sy k rs hl rv
      exact ⟨_, Reads.tuple ho hc hd hr, hn⟩
    · cases e
  | _, _, _, _, .dct h rs, e, r => by
    unfold D.pyX at e
    split at e
    · rename_i l hl
      simp only [Option.some.injEq] at e; subst e
      cases r
      obtain ⟨_, hsm, vs, hkv, o, es, ep, ho, ⟨hc, _, _⟩, hd, _, hp, _⟩ := dk_of I.hok (k _ _ h)
      obtain ⟨as, bs, h1, h2, n1, n2⟩ := RepK.readsX I sy k rs hl hkv hp
      refine ⟨_, Reads.dict ho hc hd h1 h2, fun z => ?_⟩
      rcases List.mem_append.mp z with e | e
      · rcases List.mem_cons.mp e with e | e
        · rw [← e] at hsm; simp at hsm
        · exact n1 e
      · exact n2 e
    · cases e
  | _, _, _, _, .obj _ _, e, _ => by simp [D.pyX] at e
  | _, _, _, _, .exc _ _ _, e, _ => by simp [D.pyX] at e
  | _, _, _, _, .exc0 _, e, _ => by simp [D.pyX] at e
  | _, _, _, _, .loc _, e, _ => by simp [D.pyX] at e
  | _, _, _, _, .pen _, e, _ => by simp [D.pyX] at e
  | _, _, _, _, .scr _, e, _ => by simp [D.pyX] at e
theorem Reps.readsX (I : Inv X pins σ H s) (sy : SysK X.K) (k : Ex c.F H) : ∀ {vs : List V} {ds : List D} {ps : List PyData} {us : List Value}, Reps B X.K c vs ds → pysX ds = some ps → Vals vs us → ∃ as, ReadsAll s.heap us ps as ∧ sysModules ∉ as
  | _, _, _, _, .nil, e, r => by
    simp only [pysX, Option.some.injEq] at e; subst e
    cases r
    exact ⟨_, ReadsAll.nil, by simp⟩
  | _, _, _, _, .cons h t, e, r => by
    unfold pysX at e
    split at e
    · rename_i a l h1 h2
      simp only [Option.some.injEq] at e; subst e
      cases r with
      | cons r1 r2 =>
        obtain ⟨as, q1, n1⟩ := Rep.readsX I sy k h h1 r1
        obtain ⟨bs, q2, n2⟩ := Reps.readsX I sy k t h2 r2
        exact ⟨_, ReadsAll.cons q1 q2, fun z => (List.mem_append.mp z).elim n1 n2⟩
    · cases e
theorem RepK.readsX (I : Inv X pins σ H s) (sy : SysK X.K) (k : Ex c.F H) : ∀ {kvs : List (Key × V)} {ds : List (Key × D)} {ps : List (PyData × PyData)} {vs : List (Key × Value)} {es : List DictEntry}, RepK B X.K c kvs ds → pysK ds = some ps → KV kvs vs → Pairs (mixKind X.prog X.w) es vs →
    ∃ as bs, ReadsAll s.heap (es.map (·.key)) (ps.map (·.1)) as ∧ ReadsAll s.heap (es.map (·.val)) (ps.map (·.2)) bs ∧ sysModules ∉ as ∧ sysModules ∉ bs
  | _, _, _, _, _, .nil, e, r, hp => by
    simp only [pysK, Option.some.injEq] at e; subst e
    cases r
    cases hp
    exact ⟨_, _, ReadsAll.nil, ReadsAll.nil, by simp, by simp⟩
  | _, _, _, _, _, .cons h t, e, r, hp => by
    unfold pysK at e
    split at e
    · rename_i a l h1 h2
      simp only [Option.some.injEq] at e; subst e
      cases r with
      | cons r1 r2 =>
        cases hp with
        | cons p1 p2 p3 =>
          obtain ⟨e1, e2⟩ := r1
          obtain ⟨as, q1, n1⟩ := Rep.readsX I sy k h h1 e2
          obtain ⟨as', bs', q2, q3, n2, n3⟩ := RepK.readsX I sy k t h2 r2 p3
          rw [← e1] at p1
          rw [← p2] at q1
          rcases keyIs_shape p1 with ⟨i, tk, ek, ev⟩ | ⟨x, tk, ek, ev⟩
          · refine ⟨_, _, ReadsAll.cons (by dsimp only at ek ⊢; rw [ev, ek]; exact Reads.int i tk) q2, ReadsAll.cons q1 q3, by simpa using n2, fun z => (List.mem_append.mp z).elim n1 n3⟩
          · refine ⟨_, _, ReadsAll.cons (by dsimp only at ek ⊢; rw [ev, ek]; exact Reads.str x tk) q2, ReadsAll.cons q1 q3, by simpa using n2, fun z => (List.mem_append.mp z).elim n1 n3⟩
    · cases e
end
end
def reprX : List D → Option D
  | [x] => match x.pyX with
    | some d => if d.showable = true ∧ d.depth ≤ 50 ∧ d.shown.length ≤ sizeLine then some (.str d.shown) else none
    | none => none
  | _ => none
section
variable {B : Tb} {X : Cx} {W : WX} {L : Nat} {a : Expr} {ta : DE} {p pos : Pos}
theorem e_reprX (C : Ctx L X W) (sy : SysK X.K) (hg : Gl X "repr") (hm : X.mg "repr" = none) (ha : WE B X W a ta) (he : starEach [a] X.env = (false, eval a X.env) :: starEach [] X.env := by rfl) : WE B X W (.Call (.Name "repr" p) [a] [] pos) (dFn reprX (dCons ta dNil)) := by
  refine ⟨fun c g ρ σ H Q Z k rl h z pins s I => ?_⟩
  have run : CallR X (.builtin "repr") (fun xs H1 Q1 => ∃ v c1 g1 d pd, xs = [v] ∧ Fine B X.K c1 g1 H1 ∧ Rep B X.K c1 v d ∧ d.pyX = some pd ∧ pd.showable = true ∧ pd.depth ≤ 50 ∧ pd.shown.length ≤ sizeLine ∧ Q1 (.str pd.shown) H1) := by
    intro pins s σ H1 xs ws Q1 I1 rr hh
    obtain ⟨v, c1, g1, d, pd, rfl, k1, r1, hpd, h1, h3, h4, q1⟩ := hh
    obtain ⟨u, rfl, ru⟩ := rr.one
    obtain ⟨as, r, hn⟩ := Rep.readsX I1 sy k1.sub r1 hpd ru
    have hu : X.A.units + 60 < cLine := by have := C.u65; omega
    cases r with
    | none => exact PySem.P.repr_of_none ⟨.str "None", H1, I1.tok _, ⟨_, rfl⟩, q1⟩
    | bool b => exact PySem.P.repr_of_bool ⟨.str (if b then "True" else "False"), H1, I1.tok _, ⟨_, rfl⟩, q1⟩
    | int i tk => exact PySem.P.repr_of_int (of_decide_eq_true h1) ⟨.str (toString i), H1, I1.tok _, ⟨_, rfl⟩, q1⟩
    | str x tk => exact PySem.P.repr_of_str ⟨.str (reprText x), H1, I1.tok _, ⟨_, rfl⟩, q1⟩ h4
    | list a1 a2 a3 a4 => exact repr_of_reads' (Reads.list a1 a2 a3 a4) h1 (fun _ => hn) C.gd (by omega) (fun _ _ e => e) (fun h' u tk hk => ⟨.str _, H1, I1.kept hk, ⟨_, rfl⟩, q1⟩) h4
    | tuple a1 a2 a3 a4 => exact repr_of_reads' (Reads.tuple a1 a2 a3 a4) h1 (fun _ => hn) C.gd (by omega) (fun _ _ e => e) (fun h' u tk hk => ⟨.str _, H1, I1.kept hk, ⟨_, rfl⟩, q1⟩) h4
    | dict a1 a2 a3 a4 a5 => exact repr_of_reads' (Reads.dict a1 a2 a3 a4 a5) h1 (fun _ => hn) C.gd (by omega) (fun _ _ e => e) (fun h' u tk hk => ⟨.str _, H1, I1.kept hk, ⟨_, rfl⟩, q1⟩) h4
  refine (pe_callB run hg hm bootS_repr (pa_cons (pe_sem (e := a)) pa_nil he) (by decide) (by decide) he rfl).run pins s σ H _ I ?_
  refine (ha.run c g ρ σ H _ Z k rl h z).mono fun v H1 ⟨c1, g1, x, s1, k1, r1, hx⟩ => ?_
  obtain ⟨w, e1, q1⟩ := hx
  unfold reprX at e1
  dsimp only at e1
  split at e1
  · rename_i pd hpd
    split at e1
    · rename_i hc
      cases e1
      exact ⟨v, c1, g1, x, pd, rfl, k1, r1, hpd, hc.1, hc.2.1, hc.2.2, c1, g1, _, s1, k1, .str _, q1⟩
    · cases e1
  · cases e1
end
end DL

namespace DL
open PySem L2
/-! ### what can be shown: bounds -/
def Sh (m dp : Nat) (d : D) : Prop := ∃ p, d.pyX = some p ∧ p.showable = true ∧ p.depth ≤ dp ∧ p.shown.length ≤ m
theorem Sh.mono {m m' dp dp' : Nat} {d : D} (h : Sh m dp d) (h1 : m ≤ m') (h2 : dp ≤ dp') : Sh m' dp' d := let ⟨p, a, b, c, e⟩ := h; ⟨p, a, b, Nat.le_trans c h2, Nat.le_trans e h1⟩
theorem sh_int {i : Int} {k : Nat} (hk : 0 < k) (hk2 : k ≤ 500) (h : i.natAbs < 10 ^ k) : Sh (k + 1) 0 (.int i) := by
  refine ⟨.int i, rfl, ?_, by simp [PyData.depth], ?_⟩
  · simp only [PyData.showable, decide_eq_true_eq]
    by_cases h0 : i.natAbs = 0
    · rw [h0]; decide
    · rw [Nat.log2_lt h0]
      refine Nat.lt_of_lt_of_le h (Nat.le_trans (Nat.pow_le_pow_right (by decide) hk2) ?_)
      decide +kernel
  · simp only [PyData.shown]
    rw [PySem.ofString_length]
    exact PySem.int_text_length_le10 hk h
theorem pysX_sh {m dp : Nat} : ∀ {L : List D}, (∀ v ∈ L, Sh m dp v) → ∃ ps, pysX L = some ps ∧ PyData.showableAll ps = true ∧ PyData.depthAll ps ≤ dp ∧ ((PyData.shownAll ps).map (·.length)).sum ≤ m * L.length ∧ (PyData.shownAll ps).length = L.length
  | [], _ => ⟨[], rfl, by simp [PyData.showableAll], by simp [PyData.depthAll], by simp [PyData.shownAll], by simp [PyData.shownAll]⟩
  | v :: L, h => by
    obtain ⟨p, hp1, hp2, hp3, hp4⟩ := h v List.mem_cons_self
    obtain ⟨ps, h1, h2, h4, h5, h6⟩ := pysX_sh (L := L) fun w hw => h w (List.mem_cons_of_mem _ hw)
    refine ⟨p :: ps, ?_, ?_, ?_, ?_, ?_⟩
    · simp only [pysX, hp1, h1]
    · simp only [PyData.showableAll, hp2, h2, Bool.and_self]
    · simp only [PyData.depthAll]
      exact Nat.max_le.mpr ⟨hp3, h4⟩
    · simp only [PyData.shownAll, List.map_cons, List.sum_cons, List.length_cons, Nat.mul_add, Nat.mul_one]
      omega
    · simp only [PyData.shownAll, List.length_cons, h6]
theorem sh_lst {m dp : Nat} {L : List D} (h : ∀ v ∈ L, Sh m dp v) : Sh (m * L.length + 2 * L.length + 3) (dp + 1) (.lst L) := by
  obtain ⟨ps, h1, h2, h4, h5, h6⟩ := pysX_sh h
  have hl := listText_len_le (PyData.shownAll ps)
  refine ⟨.list ps, by simp only [D.pyX, h1], by simp only [PyData.showable, h2], by simp only [PyData.depth]; omega, ?_⟩
  simp only [PyData.shown]
  rw [h6] at hl
  omega
theorem join2_len : ∀ ts : List Str, (Str.join ", " ts).length ≤ (ts.map (·.length)).sum + 2 * ts.length
  | [] => by decide
  | [x] => by show x.length ≤ _; simp
  | x :: y :: ts => by
    have ih := join2_len (y :: ts)
    have e : Str.join ", " (x :: y :: ts) = x ++ ", " ++ Str.join ", " (y :: ts) := rfl
    rw [e, strLen_append, strLen_append]
    have e1 : (((", " : String) : Str)).length = 2 := rfl
    simp only [List.map_cons, List.sum_cons, List.length_cons] at ih ⊢
    omega
theorem sh_tup {m dp : Nat} {L : List D} (h : ∀ v ∈ L, Sh m dp v) : Sh (m * L.length + 2 * L.length + 3) (dp + 1) (.tup L) := by
  obtain ⟨ps, h1, h2, h4, h5, h6⟩ := pysX_sh h
  refine ⟨.tuple ps, by simp only [D.pyX, h1], by simp only [PyData.showable, h2], by simp only [PyData.depth]; omega, ?_⟩
  have j := join2_len (PyData.shownAll ps)
  simp only [PyData.shown]
  unfold tupleText
  rw [strLen_append, strLen_append]
  have e1 : ((("(" : String) : Str)).length = 1 := rfl
  have e3 : (((if (PyData.shownAll ps).length == 1 then ",)" else ")" : String) : Str)).length ≤ 2 := by split <;> decide
  rw [h6] at j
  omega
theorem repr_sh {m dp : Nat} {d : D} (h : Sh m dp d) (hm : m ≤ 1000000) (hd : dp ≤ 50) : ∃ s, reprX [d] = some (.str s) := by
  obtain ⟨p, h1, h2, h3, h4⟩ := h
  refine ⟨p.shown, ?_⟩
  show (match d.pyX with
    | some d => if d.showable = true ∧ d.depth ≤ 50 ∧ d.shown.length ≤ sizeLine then some (D.str d.shown) else none
    | none => none) = _
  rw [h1]
  have : 1000000 ≤ sizeLine := by decide
  exact if_pos ⟨h2, by omega, by omega⟩
/-! ### comprehensions, element by element -/
theorem lcF_map {tg : DGp} {fA : DEnv → R Bool} {fe : DEnv → R D} {ρ : DEnv} {h : D → D} : ∀ (xs acc : List D), acc.length + xs.length < 1000000 → (∀ x ∈ xs, ∃ ρ', tg x ρ = some ρ' ∧ fA ρ' = .ok true ∧ fe ρ' = .ok (h x)) → lcF tg fA fe ρ xs acc = .ok (acc ++ xs.map h)
  | [], acc, _, _ => by simp [lcF]
  | x :: xs, acc, hl, hx => by
    obtain ⟨ρ', h1, h2, h3⟩ := hx x List.mem_cons_self
    rw [List.length_cons] at hl
    have : 1000000 ≤ sizeLine := by decide
    unfold lcF
    rw [h1]
    show (fA ρ').bind _ = _
    rw [h2]
    show (if true = true then (fe ρ').bind fun y => if acc.length < sizeLine then lcF tg fA fe ρ xs (acc ++ [y]) else .no else lcF tg fA fe ρ xs acc) = _
    rw [if_pos rfl, h3]
    show (if acc.length < sizeLine then lcF tg fA fe ρ xs (acc ++ [h x]) else .no) = _
    rw [if_pos (by omega)]
    refine (lcF_map xs (acc ++ [h x]) (by rw [List.length_append, List.length_singleton]; omega) fun y hy => hx y (List.mem_cons_of_mem _ hy)).trans ?_
    simp
end DL

namespace DL
open PySem L2 PyProof.Rows HT
/-! ### t[::-1] of a tuple -/
section
variable {prog : Program} {w : World} {A : Around} {E : Value → Shared → Prop} {s : Shared}
theorem adjust_rev (n : Nat) : Builtin.Slice.sliceAdjust none none (-1) (n : Int) = ((n : Int) - 1, -1) := by
  unfold Builtin.Slice.sliceAdjust
  simp
theorem places_rev (n : Nat) : Builtin.Slice.slicePlaces ((n : Int) - 1) (-1) (-1) = n := by
  unfold Builtin.Slice.slicePlaces
  have h1 : ¬ ((-1 : Int) > 0) := by omega
  simp only [h1, if_false]
  rw [show (- -1 : Int) = 1 by decide, Int.ediv_one]
  split <;> omega
theorem pick_rev (xs : Array Value) : ((List.range xs.size).filterMap fun (m : Nat) => xs[(((xs.size : Int) - 1) + (m : Int) * (-1)).toNat]?).toArray = xs.toList.reverse.toArray := by
  have e : ((List.range xs.size).filterMap fun (m : Nat) => xs[(((xs.size : Int) - 1) + (m : Int) * (-1)).toNat]?) = ((List.range xs.size).map fun k => xs.size - 1 - k).filterMap (xs[·]?) := by
    rw [List.filterMap_map]
    have key : ∀ L : List Nat, (∀ m ∈ L, m < xs.size) → (L.filterMap fun (m : Nat) => xs[(((xs.size : Int) - 1) + (m : Int) * (-1)).toNat]?) = L.filterMap ((xs[·]?) ∘ fun k => xs.size - 1 - k) := by
      intro L hL
      induction L with
      | nil => rfl
      | cons m L ih =>
        have hm := hL m List.mem_cons_self
        have e : (((xs.size : Int) - 1) + (m : Int) * (-1)).toNat = xs.size - 1 - m := by omega
        have ih := ih fun y hy => hL y (List.mem_cons_of_mem _ hy)
        rw [List.filterMap_cons, List.filterMap_cons, ih, e]
        rfl
    exact key _ fun m hm => List.mem_range.mp hm
  rw [e, PySem.W.krv_range, List.filterMap_reverse, PySem.W.krv_all]
theorem applied_rev {sl : Addr} {vl vu vs : Value} {n : Nat} {Q : Int × Int × Nat → Shared → Prop} (hs : s.heap.IsSliceOf sl vl vu vs) (pl : IsPart vl none) (pu : IsPart vu none) (ps : IsPart vs (some (-1)))
    (h : Q ((n : Int) - 1, -1, n) s) : wpAny (model prog w) A (Builtin.Slice.sliceApplied (.ref sl) (pure (n : Int))) Q E s := by
  obtain ⟨os, at_, _, fs⟩ := id hs
  unfold Builtin.Slice.sliceApplied Builtin.Slice.sliceFields
  refine wpAny_bind (wpAny_bind (wpAny_field at_ fs (x := vl) rfl (wpAny_bind (wpAny_field at_ fs (x := vu) rfl (wpAny_bind (wpAny_field at_ fs (x := vs) rfl (wpAny_pure ?_)))))))
  refine wpAny_bind (HT.slicePart_ ps ?_)
  show wpAny _ _ (if ((-1 : Int) == 0) = true then _ else _) _ _ s
  rw [if_neg (by decide)]
  refine wpAny_bind (HT.slicePart_ pl (wpAny_bind (HT.slicePart_ pu (wpAny_bind (wpAny_pure ?_)))))
  show wpAny _ _ (match Builtin.Slice.sliceAdjust none none (-1) (n : Int) with | (lo, hi) => pure (lo, (-1 : Int), Builtin.Slice.slicePlaces lo hi (-1))) _ _ s
  rw [adjust_rev n]
  show wpAny _ _ (pure ((n : Int) - 1, (-1 : Int), Builtin.Slice.slicePlaces ((n : Int) - 1) (-1) (-1))) _ _ s
  rw [places_rev]
  exact wpAny_pure h
theorem getItem_rev {t sl : Addr} {items : Array Value} {vl vu vs : Value} {Q : Value → Shared → Prop} (ht : IsTup s.heap t items) (hs : s.heap.IsSliceOf sl vl vu vs) (pl : IsPart vl none) (pu : IsPart vu none) (ps : IsPart vs (some (-1)))
    (h : Q (.ref s.heap.objs.size) { s with heap := s.heap.push { cls := .type "tuple", data := .seq items.toList.reverse.toArray } }) (hsz : items.size ≤ sizeLine) : wpAny (model prog w) A (getItem (.ref t) (.ref sl)) Q E s := by
  have room : sizeOk (.seq items.toList.reverse.toArray) := by
    show items.toList.reverse.toArray.size ≤ sizeLine
    rw [List.size_toArray, List.length_reverse, Array.length_toList]; exact hsz
  obtain ⟨os, at_, oc, fs⟩ := id hs
  have ty : s.TypeIs (.ref sl) "slice" := ⟨os, at_, oc⟩
  unfold getItem
  try with_reducible refine wpAny_holding ?_
  first | refine wpAny_bind (wpAny_pure ?_) | skip
  refine wpAny_bind (wpAny_sequenceKey ht.typeIs (by decide) ?_)
  refine wpAny_bind (wpAny_callSpecial?_slot (name := Str.ofString "__getitem__") ht.typeIs PyProof.Rows.slot_tuple_getitem (wpAny_call_entry PyProof.Rows.slot_tuple_getitem ht.typeIs entry_tuple_getitem ?_ (args_tuple_getitem _ _)))
  show wpAny _ _ (Builtin.Tuple.tupleItemsOf (.ref t) >>= _) _ _ s
  refine wpAny_bind (tupleItemsOf_ ht ?_)
  refine wpAny_bind (wpAny_typeOf ty ?_)
  rw [if_pos (by decide)]
  refine wpAny_bind (applied_rev hs pl pu ps ?_)
  have no : ¬ ((((items.size : Int) - 1) == 0 && (-1 : Int) == 1 && items.size == items.size) = true) := by
    rw [show ((-1 : Int) == 1) = false by decide, Bool.and_false, Bool.false_and]
    exact Bool.false_ne_true
  show wpAny _ _ (if (((items.size : Int) - 1) == 0 && (-1 : Int) == 1 && items.size == items.size) = true then _ else _) _ _ s
  rw [if_neg no, pick_rev]
  first
    | exact wpAny_bind (m := Builtin.Tuple.tupleExact _) (wpAny_newObj_type (wpAny_pure ⟨_, rfl, wpAny_pure h⟩) room)
    | exact wpAny_bind (m := Builtin.Tuple.tupleExact _) (wpAny_newObj_type (wpAny_bind (wpAny_pure (wpAny_pure ⟨_, rfl, wpAny_pure h⟩))) room)
    | exact wpAny_bind (wpAny_bind (m := Builtin.Tuple.tupleExact _) (wpAny_newObj_type (wpAny_pure (wpAny_pure ⟨_, rfl, wpAny_pure h⟩)) room))
    | exact wpAny_bind (wpAny_bind (m := Builtin.Tuple.tupleExact _) (wpAny_newObj_type (wpAny_pure ⟨_, rfl, wpAny_pure h⟩) room))
end
def tRevS (K : PySem.W.Frag) (te : TE) : TE := fun σ H Q => te σ H fun x H1 => (∃ a xs, x = .ref a ∧ SqL K H1 a xs ∧ ∀ p, H1 p = none → Q (.ref p) (upd H1 p (.lst xs.reverse))) ∨ (∃ a xs, x = .ref a ∧ SqT K H1 a xs ∧ ∀ p, H1 p = none → Q (.ref p) (upd H1 p (.tup xs.reverse)))
theorem pe_revS {X : Cx} {e : Expr} {te : TE} {k : Nat} {p1 p2 p3 pos : Pos} (he : PE X e te) : PE X (.Subscript e (.Slice none none (some (.UnaryOp .USub (.Constant (.int 1) k p1) p2)) p3) pos) (tRevS X.K te) := by
  refine ⟨fun pins s σ H Q I h => Subscript_ (thn (he.run pins s σ H _ I h) fun v s1 ⟨x, H1, I1, r1, q1⟩ => ?_)⟩
  have isr : ∃ a, x = .ref a := by rcases q1 with ⟨a, _, rfl, _⟩ | ⟨a, _, rfl, _⟩ <;> exact ⟨a, rfl⟩
  obtain ⟨a, rfl⟩ := isr
  cases r1
  have step : PO X (some (.UnaryOp .USub (.Constant (.int 1) k p1) p2)) (tPart (tUn (rU fun i => .int (-i)) (tC (.int 1)))) := po_some (pe_un un_neg pe_int)
  refine wpAny_Slice (thn (po_none.run pins s1 σ H1 (fun o H2 => o = none ∧ H2 = H1) I1 ⟨rfl, rfl⟩) fun vl s2 ⟨_, _, I2, pl, rfl, rfl⟩ => ?_)
  refine thn (po_none.run pins s2 σ _ (fun o H3 => o = none ∧ H3 = _) I2 ⟨rfl, rfl⟩) fun vu s3 ⟨_, _, I3, pu, rfl, rfl⟩ => ?_
  refine thn (step.run pins s3 σ _ (fun o H4 => o = some (-1) ∧ H4 = _) I3 ⟨1, rfl, -1, rfl, rfl, rfl⟩) fun vs s4 ⟨_, H4, I4, ps, rfl, e4⟩ => ?_
  subst e4
  have I5 : Inv X pins σ H4 { s4 with heap := s4.heap.push { cls := .type "slice", data := .fields #[vl, vu, vs] } } := I4.kept (t' := s4.toks) fun b ob q => Heap.get?_push_of_some _ q
  show wpAny (model X.prog X.w) X.A (subscriptTail e (.Slice none none (some (.UnaryOp .USub (.Constant (.int 1) k p1) p2)) p3) (.ref a) (.ref s4.heap.objs.size)) (EP X pins σ Q) X.xe { s4 with heap := s4.heap.push { cls := .type "slice", data := .fields #[vl, vu, vs] } }
  rcases q1 with ⟨_, xs, ea, hx, q⟩ | ⟨_, xs, ea, hx, q⟩
  · cases ea
    obtain ⟨its, r, ht, hz⟩ := I5.list hx
    have len := r.length
    refine tail_any (ops := [.ref a, .ref s4.heap.objs.size]) ht.isList.typeIs (PySem.slot_list_getitem.lookup) ?_ (by with_unfolding_all rfl)
    refine wpAny_getItem_list_slice ht.isList (Heap.IsSliceOf.new _ vl vu vs) pl pu ps (by decide) ?_ (by rw [List.size_toArray]; omega)
    rw [PySem.W.krv_pick]
    exact ⟨.ref _, _, I5.laid (t' := s4.toks) (o := .lst xs.reverse) (fun b ob q => Heap.get?_push_of_some _ q) (Nat.le_refl _) ⟨by rw [List.length_reverse]; exact hz, _, 0, r.reverse, Heap.get?_push_size _ rfl⟩, rfl, q _ (I5.hok.fresh (Nat.le_refl _))⟩
  · cases ea
    obtain ⟨its, r, ht, hz⟩ := I5.tuple hx
    have len := r.length
    refine tail_any (ops := [.ref a, .ref s4.heap.objs.size]) ht.typeIs (PyProof.Rows.slot_tuple_getitem.lookup) ?_ (by with_unfolding_all rfl)
    refine getItem_rev ht (Heap.IsSliceOf.new _ vl vu vs) pl pu ps ?_ (by rw [List.size_toArray]; omega)
    exact ⟨.ref _, _, I5.laid (t' := s4.toks) (o := .tup xs.reverse) (fun b ob q => Heap.get?_push_of_some _ q) (Nat.le_refl _) ⟨by rw [List.length_reverse]; exact hz, _, r.reverse, IsTup.new _ _⟩, rfl, q _ (I5.hok.fresh (Nat.le_refl _))⟩
def revX : D → Option D
  | .lst xs => some (.lst xs.reverse)
  | .tup xs => some (.tup xs.reverse)
  | _ => none
theorem we_revX {B : Tb} {X : Cx} {W : WX} {e : Expr} {te : DE} {pos : Pos} {k : Nat} {p1 p2 p3 : Pos} (he : WE B X W e te) : WE B X W (.Subscript e (.Slice none none (some (.UnaryOp .USub (.Constant (.int 1) k p1) p2)) p3) pos) (dU revX te) := by
  refine ⟨fun c g ρ σ H Q Z k rl h z => sem_of (pe_revS pe_sem) ?_⟩
  refine (he.run c g ρ σ H _ Z k rl h z).mono fun v H1 ⟨c1, g1, x, s1, k1, r1, w, e1, q1⟩ => ?_
  cases x <;> simp only [revX, Option.some.injEq, reduceCtorEq] at e1 <;> subst e1
  · cases r1 with
    | lst h1 rs =>
      refine .inl ⟨_, _, rfl, SqL.of (k1.sub _ _ h1), fun p hp => ?_⟩
      obtain ⟨s4, k4⟩ := k1.lay (o := .lst _) hp
      exact ⟨_, g1, _, s1.trans s4, k4, .lst upd_same (rs.rev.mono s4.le), q1⟩
  · cases r1 with
    | tup h1 rs =>
      refine .inr ⟨_, _, rfl, Evl.ex_t k1.sub h1, fun p hp => ?_⟩
      obtain ⟨s4, k4⟩ := k1.lay (o := .tup _) hp
      exact ⟨_, g1, _, s1.trans s4, k4, .tup (SqT.of upd_same) (rs.rev.mono s4.le), q1⟩
end DL

namespace DL
open PySem L2 PyProof.Rows
/-! ### what is never reached -/
def dNo : DE := fun _ _ _ _ => False
theorem we_no {B : Tb} {X : Cx} {W : WX} {e : Expr} : WE B X W e dNo := ⟨fun _ _ _ _ _ _ _ _ _ h _ => h.elim⟩
/-! ### a, b = e -/
def dAsgT (te : DE) (tg : DG) : DS := fun D ρ g => te (mask ρ) g (fun d g' => ∃ ρ', tg d ρ = some ρ' ∧ D.nx ρ' g') fun ex g' => D.xz ex ρ g'
theorem ws_asgT {B : Tb} {X : Cx} {W : WX} {H₀ : En} {tg e : Expr} {te : DE} {dg : DG} {pos : Pos} (hg : WG B X H₀ tg dg) (he : WE B X W e te) (hs : swapsWithSole [tg] e pos.line X.env = pure false := by rfl) (hw : swappedStores [tg] e X.env = pure none := by rfl)
    (h1 : (assignEach [tg] X.env).map (·.2) = [assign tg X.env] := by rfl) : WS B X W H₀ (.Assign [tg] e pos) (dAsgT te dg) := by
  obtain ⟨gg, pg, hgg⟩ := hg.ex
  refine ⟨fun c₀ c g ρ σ H D r q z => semS_of (ps_asg pe_sem pg hs hw h1) ?_⟩
  refine (he.run c g _ σ H _ _ r.fine r.mask q (r.zok z)).mono fun v H1 ⟨c1, g1, d, s1, k1, r1, ρ', e1, q1⟩ => ?_
  exact hgg c₀ c1 g1 ρ ρ' σ H1 v d _ (r.next s1 k1) r1 e1 fun σ' r' => ⟨c1, g1, ρ', r', q1⟩
/-! ### <, <=, >, >= of data -/
def isNo : PyData → Bool
  | .none => true
  | _ => false
def cmpX (f : PyData → PyData → Bool) (x y : D) : Option D := match x.py, y.py with
  | some p, some q => if (PySem.W.alike p q && !isNo p && decide (p.depth ≤ 60)) = true then some (.bl (f p q)) else none
  | _, _ => none
def ltA (x y : D) : Option D := match x, y with
  | .int i, .int j => some (.bl (decide (i < j)))
  | x, y => cmpX (fun p q => PySem.W.dataLt p q) x y
def gtA (x y : D) : Option D := match x, y with
  | .int i, .int j => some (.bl (decide (j < i)))
  | x, y => cmpX (fun p q => PySem.W.dataLt q p) x y
def leA (x y : D) : Option D := match x, y with
  | .int i, .int j => some (.bl (decide (i ≤ j)))
  | x, y => cmpX (fun p q => !PySem.W.dataLt q p) x y
def geA (x y : D) : Option D := match x, y with
  | .int i, .int j => some (.bl (decide (j ≤ i)))
  | x, y => cmpX (fun p q => !PySem.W.dataLt p q) x y
def rDt (K : PySem.W.Frag) (f : PyData → PyData → Bool) : R2 := fun x y H Q => ∃ p q, Dp K H x p ∧ Dp K H y q ∧ PySem.W.alike p q = true ∧ p ≠ .none ∧ p.depth ≤ 60 ∧ Q (.bl (f p q)) H
section
variable {B : Tb} {X : Cx} {W : WX} {L : Nat}
theorem op_dt {op : CmpOp} {f : PyData → PyData → Bool} (hu : X.A.units + 64 < cLine)
    (rule : ∀ {A : Around} {s : Shared} {a b : Value} {p q : PyData} {as bs : List Addr} {Q : Value → Shared → Prop}, Reads s.heap a p as → Reads s.heap b q bs → PySem.W.alike p q = true → p ≠ .none → A.units + min p.depth q.depth < cLine → Q (.bool (f p q)) s → wpAny (model X.prog X.w) A (compareOp op a b) Q X.xe s) : OpR X (compareOp op) (rDt X.K f) := by
  intro pins s σ H x y v u Q I rx ry h
  obtain ⟨p, q, hp, hq, h1, h2, h3, hQ⟩ := h
  obtain ⟨as, r1⟩ := Dp.reads I p x v hp rx
  obtain ⟨bs, r2⟩ := Dp.reads I q y u hq ry
  exact rule r1 r2 h1 h2 (by have := Nat.min_le_left p.depth q.depth; omega) ⟨.bl _, H, I, rfl, hQ⟩
theorem gv_cmpX {f : PyData → PyData → Bool} : Gives B X.K (cmpX f) (rDt X.K f) := by
  intro c g H x y z v u Q k r1 r2 e q
  unfold cmpX at e
  split at e
  · rename_i p p' h1 h2
    split at e
    · rename_i h
      simp only [Bool.and_eq_true, decide_eq_true_eq] at h
      cases e
      refine ⟨p, p', r1.dp k.sub h1, r2.dp k.sub h2, h.1.1, ?_, h.2, done k (.bl _) q⟩
      intro z
      rw [z] at h
      simp [isNo] at h
    · cases e
  · cases e
theorem gives_or {f g : D → D → Option D} {r r' : R2} (h : D → D → Option D) (hh : ∀ x y z, h x y = some z → f x y = some z ∨ g x y = some z) (h1 : Gives B X.K f r) (h2 : Gives B X.K g r') : Gives B X.K h (fun x y H Q => r x y H Q ∨ r' x y H Q) := by
  intro c gh H x y z v u Q k r1 r2 e q
  rcases hh x y z e with e | e
  · exact .inl (h1 c gh H x y z v u Q k r1 r2 e q)
  · exact .inr (h2 c gh H x y z v u Q k r1 r2 e q)
theorem o_ltA (C : Ctx L X W) : CO B X .Lt ltA := ⟨_, op_lt.or (op_dt (by have := C.u65; omega) fun r1 r2 h1 h2 h3 h4 => PySem.W.lt_data r1 r2 h1 h2 h3 h4), gives_or (f := cmpD fun i j => decide (i < j)) (g := cmpX fun p q => PySem.W.dataLt p q) ltA (fun x y z e => by
  unfold ltA at e
  split at e
  · exact .inl e
  · exact .inr e) gv_cmp gv_cmpX⟩
theorem o_leA (C : Ctx L X W) : CO B X .LtE leA := ⟨_, op_le.or (op_dt (by have := C.u65; omega) fun r1 r2 h1 h2 h3 h4 => PySem.W.le_data r1 r2 h1 h2 h3 h4), gives_or (f := cmpD fun i j => decide (i ≤ j)) (g := cmpX fun p q => !PySem.W.dataLt q p) leA (fun x y z e => by
  unfold leA at e
  split at e
  · exact .inl e
  · exact .inr e) gv_cmp gv_cmpX⟩
theorem o_gtA (C : Ctx L X W) : CO B X .Gt gtA := ⟨_, op_gt.or (op_dt (by have := C.u65; omega) fun r1 r2 h1 h2 h3 h4 => PySem.W.gt_data r1 r2 h1 h2 h3 h4), gives_or (f := cmpD fun i j => decide (j < i)) (g := cmpX fun p q => PySem.W.dataLt q p) gtA (fun x y z e => by
  unfold gtA at e
  split at e
  · exact .inl e
  · exact .inr e) gv_cmp gv_cmpX⟩
theorem o_geA (C : Ctx L X W) : CO B X .GtE geA := ⟨_, op_ge.or (op_dt (by have := C.u65; omega) fun r1 r2 h1 h2 h3 h4 => PySem.W.ge_data r1 r2 h1 h2 h3 h4), gives_or (f := cmpD fun i j => decide (j ≤ i)) (g := cmpX fun p q => !PySem.W.dataLt p q) geA (fun x y z e => by
  unfold geA at e
  split at e
  · exact .inl e
  · exact .inr e) gv_cmp gv_cmpX⟩
end
end DL

namespace DL
open PySem L2 PyProof.Rows
/-! ### operators by own defs of a class; they raise nothing -/
def EF : XK := fun _ _ _ => False
theorem passF {X : Cx} {σ : L2.St} : PassesAt (L2.CX X.prog X.w) X σ EF := fun pins H s e s' I c => by
  obtain ⟨_, _, _, _, _, _, _, _, _, _, _, _, z⟩ := c
  exact z.elim
section
variable {B : Tb} {X : Cx} {W : WX} {L i : Nat} {m : Str} {S : DSp}
/-- what the call of a method without exceptions wants -/
def rMeth (B : Tb) (K : PySem.W.Frag) (S : DSp) (ds : List D) (vs : List V) (H : Hp) (Q : VK) : Prop := ∃ c g Φ, Fine B K c g H ∧ Reps B K c vs ds ∧ S ds g Φ ZF ∧ ∀ c' H' g' v d, Grow c H c' H' → Fine B K c' g' H' → Rep B K c' v d → Φ d g' → Q v H'
theorem run_meth {pins : List (Addr × Obj)} {σ : L2.St} {H : Hp} {s : Shared} {A : Around} {Q : VK} {us : List Value} {vs : List V} {ds : List D} {f : Addr} {fd : FuncData} {ps : List Str} {ar : Nat} (G : FnG X.prog X.w X.K X.mg X.base L f fd ps (spOf B X.K ar S)) (hb : Binds X.K fd ps []) (hr : Room L A) (gd : A.guards = some [])
    (e0 : Env0 X.prog X.w X.K X.mg X.base A X.stack s H) (I : Inv X pins σ H s) (r : Vals vs us) (hl : ds.length = ar) (h : rMeth B X.K S ds vs H Q) : wpAny (model X.prog X.w) A (call (.ref f) us) (EP X pins σ Q) X.xe s := by
  obtain ⟨c, g, Φ, k, rs, hS, hq⟩ := h
  have hsp : spOf B X.K ar S vs H Q EF := ⟨c, g, ds, Φ, ZF, by rw [rs.length]; exact hl, k, rs, hS, hq, fun _ _ _ _ _ _ _ _ _ z => z⟩
  have size : us.length = ps.length := by rw [← r.length]; exact G.size _ _ _ _ hsp
  have bind := hb s us I.kIn (by rw [List.append_nil]; exact size)
  rw [List.append_nil] at bind
  refine wpAny_call (codeAny_mono (G.go A X.stack s H ⟨us, []⟩ us vs Q EF hr gd e0 bind r hsp) fun res s' hq => ?_)
  match res, hq with
  | .error e, hq => exact passF pins H s e s' I hq
  | .ok .next, hq => exact hq.elim
  | .ok .brk, hq => exact hq.elim
  | .ok .cont, hq => exact hq.elim
  | .ok (.ret u), hq => exact I.after hq
theorem inst_of {pins : List (Addr × Obj)} {σ : L2.St} {H : Hp} {s : Shared} {c : Cn} {v : V} {fs : List (Str × D)} (I : Inv X pins σ H s) (k : Ex c.F H) (r : Rep B X.K c v (.obj i fs)) : ∃ a ox od, v = .ref a ∧ PySem.W.InstAt s.heap a ox (B.ct i) (some od) := by
  cases r with
  | @obj a dx _ fv _ h1 rf =>
    obtain ⟨mA, O, _⟩ := ins_get I.hok (k _ _ h1)
    obtain ⟨od, J, _⟩ := O.look
    exact ⟨a, _, od, rfl, J⟩
/-- x op y of two instances of the class -/
def rOwnD (B : Tb) (K : PySem.W.Frag) (i : Nat) (S : DSp) : R2 := fun x y H Q => ∃ fs gs, rMeth B K S [.obj i fs, .obj i gs] [x, y] H Q
theorem op_ownD {op : CmpOp} (F : MC B X.prog X.w X.K X.mg X.base L m i 1 S) (C : Ctx L X W) (hm : m = (cmpInfo op).2.1) (hop : ∀ a b, compareOp op a b = richCompare op a b) : OpR X (compareOp op) (rOwnD B X.K i S) := by
  obtain ⟨f, fd, ps, cl, mt, G, hb⟩ := F.ex
  intro pins s σ H x y v u Q I rx ry h
  obtain ⟨fs, gs, c, g, Φ, k, rs, hS, hq⟩ := h
  have rs' := rs
  cases rs with
  | cons r1 rs =>
    cases rs with
    | cons r2 rs =>
      obtain ⟨a, ox, od, rfl, J⟩ := inst_of I k.sub r1
      obtain ⟨b, oy, oe, rfl, J'⟩ := inst_of I k.sub r2
      cases (show v = Value.ref a from rx)
      cases (show u = Value.ref b from ry)
      obtain ⟨ml, hF⟩ := I.fr
      rw [hop]
      refine PySem.W.cmp_K (op := op) (tb := .ref (B.ct i)) C.room.units0 hF I.ok.mod.kin J J'.type (by unfold PySem.W.notFirst; simp) (hm ▸ mt.at_) mt.fn ?_
      refine wpAny_mono (run_meth (us := [.ref a, .ref b]) (vs := [.ref a, .ref b]) G hb C.room C.gd I.env0 I (.cons rfl (.cons rfl .nil)) rfl ⟨c, g, Φ, k, rs', hS, hq⟩) (fun w s' z => ?_) fun _ _ x => x
      obtain ⟨z', H', I', rz, qz⟩ := z
      exact SlX.cmpback rz ⟨z', H', I', rz, qz⟩
def dCmpO (i : Nat) (S : DSp) (ta tb : DE) : DE := fun ρ g Q Z => ta ρ g (fun x g1 => tb ρ g1 (fun y g2 => ∃ fs gs, x = .obj i fs ∧ y = .obj i gs ∧ S [x, y] g2 Q ZF) Z) Z
section
variable {a b : Expr} {ta tb : DE} {pos : Pos} {op : CmpOp}
theorem we_cmpO (F : MC B X.prog X.w X.K X.mg X.base L m i 1 S) (C : Ctx L X W) (hm : m = (cmpInfo op).2.1) (hop : ∀ a b, compareOp op a b = richCompare op a b) (ha : WE B X W a ta) (hb : WE B X W b tb) (hmk : behindInMarks op b = false := by rfl) : WE B X W (.Compare a [op] [b] pos) (dCmpO i S ta tb) := by
  refine ⟨fun c g ρ σ H Q Z k rl h z => sem_of (pe_cmpR (op_ownD F C hm hop) pe_sem pe_sem hmk) ?_⟩
  refine two ha hb k rl h z fun x y v u c2 g2 H2 s2 k2 r1 r2 ⟨fs, gs, ex, ey, hS⟩ => ?_
  subst ex ey
  exact ⟨fs, gs, c2, g2, Q, k2, .cons r1 (.cons r2 .nil), hS, fun c' H' g' v d s3 k3 r3 q3 => ⟨c', g', d, s2.trans s3, k3, r3, q3⟩⟩
/-- ~x, -x -/
def rUnD (B : Tb) (K : PySem.W.Frag) (i : Nat) (S : DSp) : V → Hp → VK → Prop := fun x H Q => ∃ fs, rMeth B K S [.obj i fs] [x] H Q
theorem un_ownD {op : UnaryOp} (F : MC B X.prog X.w X.K X.mg X.base L m i 0 S) (C : Ctx L X W)
    (rule : ∀ {A : Around} {s : Shared} {x C f : Addr} {ox : Obj} {od : Option Obj} {ml : Str → Option Value} {Q : Value → Shared → Prop}, Fr X.base X.env.locals s.heap ml → X.K.In X.base → PySem.W.InstAt s.heap x ox C od → PySem.W.findIn X.K (.ref C) m = some (some (.ref f)) → PySem.W.isFn X.K (.ref f) = true → wpAny (model X.prog X.w) A (call (.ref f) [.ref x]) Q X.xe s → wpAny (model X.prog X.w) A (unaryOp op (.ref x)) Q X.xe s) :
    UnR X (unaryOp op) (rUnD B X.K i S) := by
  obtain ⟨f, fd, ps, cl, mt, G, hb⟩ := F.ex
  intro pins s σ H x v Q I rx h
  obtain ⟨fs, c, g, Φ, k, rs, hS, hq⟩ := h
  have rs' := rs
  cases rs with
  | cons r1 rs =>
    obtain ⟨a, ox, od, rfl, J⟩ := inst_of I k.sub r1
    cases (show v = Value.ref a from rx)
    obtain ⟨ml, hF⟩ := I.fr
    exact rule hF I.ok.mod.kin J mt.at_ mt.fn (run_meth (us := [.ref a]) (vs := [.ref a]) G hb C.room C.gd I.env0 I (.cons rfl .nil) rfl ⟨c, g, Φ, k, rs', hS, hq⟩)
def dUnO (i : Nat) (S : DSp) (ta : DE) : DE := fun ρ g Q Z => ta ρ g (fun x g1 => ∃ fs, x = .obj i fs ∧ S [x] g1 Q ZF) Z
theorem we_unO {uop : UnaryOp} (hu : UnR X (unaryOp uop) (rUnD B X.K i S)) (ha : WE B X W a ta) : WE B X W (.UnaryOp uop a pos) (dUnO i S ta) := by
  refine ⟨fun c g ρ σ H Q Z k rl h z => sem_of (pe_un hu pe_sem) ?_⟩
  refine (ha.run c g ρ σ H _ Z k rl h z).mono fun v H1 ⟨c1, g1, x, s1, k1, r1, fs, ex, hS⟩ => ?_
  subst ex
  exact ⟨fs, c1, g1, Q, k1, .cons r1 .nil, hS, fun c' H' g' v d s3 k3 r3 q3 => ⟨c', g', d, s1.trans s3, k3, r3, q3⟩⟩
theorem we_invO (F : MC B X.prog X.w X.K X.mg X.base L "__invert__" i 0 S) (C : Ctx L X W) (ha : WE B X W a ta) : WE B X W (.UnaryOp .Invert a pos) (dUnO i S ta) := we_unO (un_ownD F C fun h1 h2 h3 h4 h5 h6 => PySem.W.ksp_inv h1 h2 h3 h4 h5 h6) ha
theorem we_negO (F : MC B X.prog X.w X.K X.mg X.base L "__neg__" i 0 S) (C : Ctx L X W) (ha : WE B X W a ta) : WE B X W (.UnaryOp .USub a pos) (dUnO i S ta) := we_unO (un_ownD F C fun h1 h2 h3 h4 h5 h6 => PySem.W.ksp_neg h1 h2 h3 h4 h5 h6) ha
end
end
end DL

namespace DL
open PySem L2 PyProof.Rows
/-! ### x != y, the class has its own __eq__ alone -/
section
variable {prog : Program} {w : World} {M : Model} {A : Around} {E : Value → Shared → Prop} {s : Shared} {K : PySem.W.Frag} {x C f : Addr} {ox : Obj} {od : Option Obj} {b tb : Value}
theorem bound_ne {args : List Value} {Q : Option Value → Shared → Prop} (X : K.In s.heap) (I : PySem.W.InstAt s.heap x ox C od) (h1 : PySem.W.findIn K (.ref C) "__ne__" = some (some (.builtin "object.__ne__")))
    (h : wpAny M A (call (.builtin "object.__ne__") (.ref x :: args)) (fun v => Q (some v)) E s) : wpAny M A (callSpecialIfBound? (.ref x) "__ne__" args) Q E s := by
  simp only [callSpecialIfBound?, bindSpecialIfBound?]
  refine wpAny_holding (wpAny_bind (wpAny_bind (wpAny_bind (I.type.here ((PySem.W.looks_findIn X h1).here ?_)))))
  refine wpAny_bind (wpAny_askSetting (wpAny_ite ?_))
  have fin : wpAny M A (call (.builtin "object.__ne__") ([.ref x] ++ args) >>= fun v => pure (some v)) Q E s := wpAny_bind (wpAny_mono h (fun v s' z => wpAny_pure z) fun _ _ z => z)
  have bnd := F.cmp_object.ne.bind (.ref x)
  split
  · rw [bnd]
    exact wpAny_bind (wpAny_pure (wpAny_pure fin))
  · rw [bnd]
    exact wpAny_tryCatch (wpAny_bind (wpAny_pure (wpAny_pure fin)))
theorem check_ne {rest : List Value} {Q : Unit → Shared → Prop} (X : K.In s.heap) (I : PySem.W.InstAt s.heap x ox C od) (hsub : PySem.W.subIn K (.ref C) (.type "object") = some true) (ha : argsOk "object.__ne__" ⟨.ref x :: rest, []⟩) (q : Q () s) :
    wpAny M A (checkBuiltinCall "object.__ne__" ⟨.ref x :: rest, []⟩) Q E s := by
  simp only [checkBuiltinCall, F.cmpKind_ne, F.cmpSplit_ne]
  refine wpAny_bind ?_
  unfold isInstance
  refine wpAny_bind (I.type.here ((PySem.W.looks_subIn X hsub).here ?_))
  simp only [Bool.not_true, Bool.false_eq_true, if_false]
  cases hsig : Manifest.signature? "object.__ne__" with
  | none => exact wpAny_pure q
  | some sig =>
    simp only [argsOk, hsig] at ha
    have h2 : Bind.checkArgs "object.__ne__" sig ⟨.ref x :: rest, []⟩ = pure () := ha
    show wpAny M A (Bind.checkArgs "object.__ne__" sig ⟨.ref x :: rest, []⟩) Q E _
    rw [h2]; exact wpAny_pure q
theorem ne_K {Q : Value → Shared → Prop} (hu : A.units + 1 < cLine) (X : K.In s.heap) (I : PySem.W.InstAt s.heap x ox C od) (hb : PySem.W.Looks (model prog w) s.heap (typeOf b) tb) (hn : PySem.W.notFirst K C tb = true) (h1 : PySem.W.findIn K (.ref C) "__ne__" = some (some (.builtin "object.__ne__")))
    (hsub : PySem.W.subIn K (.ref C) (.type "object") = some true) (hs : PySem.W.findIn K (.ref C) "__eq__" = some (some (.ref f))) (hf : PySem.W.isFn K (.ref f) = true)
    (h : wpAny (model prog w) A.in1 (call (.ref f) [.ref x, b]) (fun v s' => ∃ r, v = .bool r ∧ Q (.bool (!r)) s') E s) : wpAny (model prog w) A (richCompare .NotEq (.ref x) b) Q E s := by
  have one : wpAny (model prog w) A (tryCompare (.ref x) "__ne__" b) (fun r s' => ∃ v, r = some v ∧ Q v s') E s := by
    unfold tryCompare
    refine wpAny_bind (bound_ne X I h1 (wpAny_call (codeAny_call_builtin F.cmp_object.ne.plain F.cmpEntry_ne (check_ne X I hsub (F.cmpArgs_ne _ _) ?_))))
    unfold Builtin.«object.__ne__»
    repeat (first | with_reducible refine wpAny_cRoomFor hu ?_ | with_reducible refine PySem.W.ifBound_K X I hs hf (wpAny_mono h (fun v s' hv => ?_) fun _ _ z => z) | wp_step)
    obtain ⟨r, rfl, q⟩ := hv
    repeat (first | with_reducible refine wpAny_truthy_bool ?_ | wp_step)
    exact ⟨_, rfl, q⟩
  unfold richCompare
  simp only [oneThing_ref]
  refine wpAny_holding (wpAny_bind (wpAny_cRoomFor (by omega) ?_))
  refine wpAny_bind (I.type.here (wpAny_bind (hb.here ?_)))
  split
  · rename_i q
    have e : PySem.W.subIn K tb (.ref C) = some false := by
      rcases Bool.or_eq_true_iff.mp hn with e | e
      · rw [beq_iff_eq.mp e] at q; simp at q
      · exact beq_iff_eq.mp e
    refine wpAny_bind ((PySem.W.looks_subIn X e).here ?_)
    simp only [Bool.false_eq_true, if_false]
    refine wpAny_bind (wpAny_mono one (fun r s' z => ?_) fun _ _ z => z)
    obtain ⟨v, rfl, q⟩ := z
    exact wpAny_pure q
  · refine wpAny_bind (wpAny_pure ?_)
    simp only [Bool.false_eq_true, if_false]
    refine wpAny_bind (wpAny_mono one (fun r s' z => ?_) fun _ _ z => z)
    obtain ⟨v, rfl, q⟩ := z
    exact wpAny_pure q
end
section
variable {B : Tb} {X : Cx} {W : WX} {L i : Nat} {S : DSp} {a b : Expr} {ta tb : DE} {pos : Pos}
/-- what != asks of the class besides -/
structure NeC (B : Tb) (K : PySem.W.Frag) (i : Nat) : Prop where
  ne : PySem.W.findIn K (.ref (B.ct i)) "__ne__" = some (some (.builtin "object.__ne__"))
  sub : PySem.W.subIn K (.ref (B.ct i)) (.type "object") = some true
def neB (B : Tb) (K : PySem.W.Frag) (i : Nat) : Bool := decide (PySem.W.findIn K (.ref (B.ct i)) "__ne__" = some (some (.builtin "object.__ne__"))) && decide (PySem.W.subIn K (.ref (B.ct i)) (.type "object") = some true)
theorem neB_ok {K : PySem.W.Frag} (h : neB B K i = true) : NeC B K i := by
  obtain ⟨h1, h2⟩ := Bool.and_eq_true_iff.mp h
  exact ⟨of_decide_eq_true h1, of_decide_eq_true h2⟩
def rNeO (B : Tb) (K : PySem.W.Frag) (i : Nat) (S : DSp) : R2 := fun x y H Q => ∃ fs gs, rMeth B K S [.obj i fs, .obj i gs] [x, y] H (fun v H' => ∃ r, v = .bl r ∧ Q (.bl (!r)) H')
theorem op_neO (F : MC B X.prog X.w X.K X.mg X.base L "__eq__" i 1 S) (N : NeC B X.K i) (C : Ctx (L + 1) X W) : OpR X (compareOp .NotEq) (rNeO B X.K i S) := by
  obtain ⟨f, fd, ps, cl, mt, G, hb⟩ := F.ex
  intro pins s σ H x y v u Q I rx ry h
  obtain ⟨fs, gs, c, g, Φ, k, rs, hS, hq⟩ := h
  have rs' := rs
  cases rs with
  | cons r1 rs =>
    cases rs with
    | cons r2 rs =>
      obtain ⟨a, ox, od, rfl, J⟩ := inst_of I k.sub r1
      obtain ⟨b, oy, oe, rfl, J'⟩ := inst_of I k.sub r2
      cases (show v = Value.ref a from rx)
      cases (show u = Value.ref b from ry)
      show wpAny _ _ (richCompare .NotEq (.ref a) (.ref b)) _ _ _
      refine ne_K (tb := .ref (B.ct i)) (by have := C.u65; omega) I.kIn J J'.type (by unfold PySem.W.notFirst; simp) N.ne N.sub mt.at_ mt.fn ?_
      refine wpAny_mono (run_meth (us := [.ref a, .ref b]) (vs := [.ref a, .ref b]) G hb C.room.in1 C.gd I.env0.in1 I (.cons rfl (.cons rfl .nil)) rfl ⟨c, g, Φ, k, rs', hS, hq⟩) (fun w s' z => ?_) fun _ _ x => x
      obtain ⟨z', H', I', rz, r, ez, qz⟩ := z
      subst ez
      cases (show w = Value.bool r from rz)
      exact ⟨r, rfl, .bl _, H', I', rfl, qz⟩
def dNeO (i : Nat) (S : DSp) (ta tb : DE) : DE := fun ρ g Q Z => ta ρ g (fun x g1 => tb ρ g1 (fun y g2 => ∃ fs gs, x = .obj i fs ∧ y = .obj i gs ∧ S [x, y] g2 (fun d g3 => ∃ r, d = .bl r ∧ Q (.bl (!r)) g3) ZF) Z) Z
theorem we_neO (F : MC B X.prog X.w X.K X.mg X.base L "__eq__" i 1 S) (N : NeC B X.K i) (C : Ctx (L + 1) X W) (ha : WE B X W a ta) (hb : WE B X W b tb) (hmk : behindInMarks .NotEq b = false := by rfl) : WE B X W (.Compare a [.NotEq] [b] pos) (dNeO i S ta tb) := by
  refine ⟨fun c g ρ σ H Q Z k rl h z => sem_of (pe_cmpR (op_neO F N C) pe_sem pe_sem hmk) ?_⟩
  refine two ha hb k rl h z fun x y v u c2 g2 H2 s2 k2 r1 r2 ⟨fs, gs, ex, ey, hS⟩ => ?_
  subst ex ey
  exact ⟨fs, gs, c2, g2, _, k2, .cons r1 (.cons r2 .nil), hS, fun c' H' g' v d s3 k3 r3 ⟨r, ed, q3⟩ => by
    subst ed
    cases r3
    exact ⟨r, rfl, c', g', .bl _, s2.trans s3, k3, .bl _, q3⟩⟩
end
end DL

namespace DL
open PySem L2 PyProof.Rows
/-! ### the same as functions -/
section
variable {ta tb te to : DE} {fa fb fe fo : DEnv → R D} {tr : DA} {fr : DEnv → R (List D)} {S : DSp} {F : List D → R D} {i j : Nat} {m : Str}
def fNo (_ : DEnv) : R D := .no
theorem pu_no : PuE dNo fNo := fun ρ g Q Z hg h => h
def fAsgT (fe : DEnv → R D) (tg : DG) (ρ : SEnv) : Fl := (fe (mask ρ)).fl ρ fun d => match tg d ρ with
  | some ρ' => .nx ρ'
  | none => .no
theorem pu_asgT {tg : DG} (he : PuE te fe) : PuS (dAsgT te tg) (fAsgT fe tg) := fun En ρ g hg h => he _ g _ _ hg (R.fl_thn h fun d _ h => by
  cases e : tg d ρ with
  | none => rw [e] at h; exact h.elim
  | some ρ' => rw [e] at h; exact ⟨ρ', rfl, h⟩)
def isOb (i : Nat) : D → Bool
  | .obj k _ => decide (k = i)
  | _ => false
theorem isOb_eq {d : D} (h : isOb i d = true) : ∃ fs, d = .obj i fs := by
  cases d <;> simp only [isOb, Bool.false_eq_true, decide_eq_true_eq] at h
  subst h
  exact ⟨_, rfl⟩
def fCmpO (i : Nat) (F : List D → R D) (fa fb : DEnv → R D) (ρ : DEnv) : R D := (fa ρ).bind fun x => (fb ρ).bind fun y => if (isOb i x && isOb i y) = true then (F [x, y]).quiet else .no
theorem pu_cmpO (hF : PuF S F) (ha : PuE ta fa) (hb : PuE tb fb) : PuE (dCmpO i S ta tb) (fCmpO i F fa fb) := fun ρ g Q Z hg h =>
  ha ρ g _ Z hg (R.thn h fun x _ h => hb ρ g _ Z hg (R.thn h fun y _ h => by
    split at h
    · rename_i hh
      obtain ⟨h1, h2⟩ := Bool.and_eq_true_iff.mp hh
      obtain ⟨fs, rfl⟩ := isOb_eq h1
      obtain ⟨gs, rfl⟩ := isOb_eq h2
      exact ⟨fs, gs, rfl, rfl, hF _ g Q ZF hg (sat_quiet h)⟩
    · exact h.elim))
def fNeO (i : Nat) (F : List D → R D) (fa fb : DEnv → R D) (ρ : DEnv) : R D := (fa ρ).bind fun x => (fb ρ).bind fun y => if (isOb i x && isOb i y) = true then (F [x, y]).quiet.bind fun d => (ofO (bl? d)).bind fun r => .ok (.bl (!r)) else .no
theorem pu_neO (hF : PuF S F) (ha : PuE ta fa) (hb : PuE tb fb) : PuE (dNeO i S ta tb) (fNeO i F fa fb) := fun ρ g Q Z hg h =>
  ha ρ g _ Z hg (R.thn h fun x _ h => hb ρ g _ Z hg (R.thn h fun y _ h => by
    split at h
    · rename_i hh
      obtain ⟨h1, h2⟩ := Bool.and_eq_true_iff.mp hh
      obtain ⟨fs, rfl⟩ := isOb_eq h1
      obtain ⟨gs, rfl⟩ := isOb_eq h2
      refine ⟨fs, gs, rfl, rfl, hF _ g _ ZF hg (sat_quiet (Z := Z) (R.thn h fun d _ h => ?_))⟩
      obtain ⟨r, e, h⟩ := sat_ofO (R.sat_bind h)
      exact ⟨r, bl?_eq e, h⟩
    · exact h.elim))
def fUnO (i : Nat) (F : List D → R D) (fa : DEnv → R D) (ρ : DEnv) : R D := (fa ρ).bind fun x => if isOb i x = true then (F [x]).quiet else .no
theorem pu_unO (hF : PuF S F) (ha : PuE ta fa) : PuE (dUnO i S ta) (fUnO i F fa) := fun ρ g Q Z hg h =>
  ha ρ g _ Z hg (R.thn h fun x _ h => by
    split at h
    · rename_i h1
      obtain ⟨fs, rfl⟩ := isOb_eq h1
      exact ⟨fs, rfl, hF _ g Q ZF hg (sat_quiet h)⟩
    · exact h.elim)
def noF (i : Nat) (m : Str) : D → Bool
  | .obj k fs => decide (k = i) && (fs.lookup m).isNone
  | _ => false
theorem noF_eq {d : D} (h : noF i m d = true) : ∃ fs, d = .obj i fs ∧ fs.lookup m = none := by
  cases d <;> simp only [noF, Bool.false_eq_true, Bool.and_eq_true, decide_eq_true_eq] at h
  obtain ⟨rfl, h⟩ := h
  exact ⟨_, rfl, Option.isNone_iff_eq_none.mp h⟩
def fMeth (i : Nat) (m : Str) (F : List D → R D) (fo : DEnv → R D) (fr : DEnv → R (List D)) (ρ : DEnv) : R D := (fo ρ).bind fun x => if noF i m x = true then (fr ρ).bind fun xs => F (x :: xs) else .no
theorem pu_meth (hF : PuF S F) (ho : PuE to fo) (hr : PuA tr fr) : PuE (dMeth i m S to tr) (fMeth i m F fo fr) := fun ρ g Q Z hg h =>
  ho ρ g _ Z hg (R.thn h fun x _ h => by
    split at h
    · rename_i h1
      obtain ⟨fs, rfl, hn⟩ := noF_eq h1
      exact ⟨fs, rfl, hn, hr ρ g _ Z hg (R.thn h fun xs _ h => hF _ g Q Z hg h)⟩
    · exact h.elim)
/-! instances -/
def PuIn (S : DIn) (F : Nat → List (Str × D) → List D → R (List (Str × D))) : Prop := ∀ k fs0 ds g Φ Ψ, memNl g = true → (F k fs0 ds).sat g Φ Ψ → S k fs0 ds g Φ Ψ
def fSelf (i : Nat) (f : Str) (is : List Nat) (fe : DEnv → R D) (ρ : SEnv) : Fl := (fe (mask ρ)).fl ρ fun d => match ρ[i]? with
  | some (SV.ob k fs) => if (is.contains k && decide (fs.length < 1000)) = true then .nx (ρ.set i (.ob k (putFD f d fs))) else .no
  | _ => .no
theorem pu_self {f : Str} {is : List Nat} (he : PuE te fe) : PuS (dSelf i f is te) (fSelf i f is fe) := fun En ρ g hg h => he _ g _ _ hg (R.fl_thn h fun d _ h => by
  split at h
  · rename_i k fs e
    split at h
    · rename_i hh
      obtain ⟨h1, h2⟩ := Bool.and_eq_true_iff.mp hh
      exact ⟨k, fs, e, h1, of_decide_eq_true h2, h⟩
    · exact h.elim
  · exact h.elim)
def outIn (k : Nat) : Fl → R (List (Str × D))
  | .nx ρ => match ρ[0]? with
    | some (SV.ob k' fs) => if k' = k then .ok fs else .no
    | _ => .no
  | .ex e _ => .ex e
  | _ => .no
def runIn (N : List Str) (f : SEnv → Fl) (k : Nat) (fs0 : List (Str × D)) (ds : List D) : R (List (Str × D)) := outIn k (f (.ob k fs0 :: dStart N ds))
theorem pu_init {N : List Str} {t : DS} {f : SEnv → Fl} (h : PuS t f) : PuIn (specIn N t) (runIn N f) := fun k fs0 ds g Φ Ψ hg q => h _ _ g hg (by
  unfold runIn at q
  cases e : f (.ob k fs0 :: dStart N ds) with
  | nx ρ =>
    rw [e] at q
    unfold outIn at q
    dsimp only at q
    split at q
    · rename_i k' fs e2
      split at q
      · rename_i hk; subst hk; exact ⟨fs, e2, q⟩
      · exact q.elim
    · exact q.elim
  | rt d => rw [e] at q; exact q.elim
  | ex e' ρ => rw [e] at q; exact q
  | bk ρ => rw [e] at q; exact q.elim
  | ct ρ => rw [e] at q; exact q.elim
  | no => rw [e] at q; exact q.elim)
def fNew (i : Nat) (F : Nat → List (Str × D) → List D → R (List (Str × D))) (fr : DEnv → R (List D)) (ρ : DEnv) : R D := (fr ρ).bind fun xs => (F i [] xs).bind fun fs => .ok (.obj i fs)
theorem pu_new {S : DIn} {F : Nat → List (Str × D) → List D → R (List (Str × D))} (hF : PuIn S F) (hr : PuA tr fr) : PuE (dNew i S tr) (fNew i F fr) := fun ρ g Q Z hg h =>
  hr ρ g _ Z hg (R.thn h fun xs _ h => hF i [] xs g _ Z hg (R.thn h fun fs _ h => h))
end
/-! ### facts of classes -/
theorem mc_mk {B : Tb} {P : Program} {w : World} {K : PySem.W.Frag} {mg : Str → Option Value} {base : Heap} {L i ar : Nat} {m : Str} {S : DSp} {f : Addr} {fd : FuncData} {ps : List Str} (hc : clsB K (B.ct i) = true) (h1 : PySem.W.findIn K (.ref (B.ct i)) m = some (some (.ref f))) (h2 : PySem.W.isFn K (.ref f) = true) (h3 : PySem.W.keepIn K (.ref f) = true)
    (G : FnG P w K mg base L f fd ps (spOf B K (ar + 1) S)) (hb : Binds K fd ps []) : MC B P w K mg base L m i ar S := ⟨f, fd, ps, clsB_ok hc, ⟨h1, h2, h3⟩, G, hb⟩
theorem mc_of {B : Tb} {P : Program} {w : World} {K : PySem.W.Frag} {mg : Str → Option Value} {base : Heap} {L i ar : Nat} {x m : Str} {S : DSp} {fd : FuncData} {ps : List Str} (hc : clsB K (B.ct i) = true) (h : (He.Fa.meth x m).ok K = true) (hx : He.ga K x = B.ct i)
    (G : FnG P w K mg base L (He.fAd K (x, some m)) fd ps (spOf B K (ar + 1) S)) (hb : Binds K fd ps []) : MC B P w K mg base L m i ar S := by
  obtain ⟨h1, h2⟩ := He.ba h
  obtain ⟨h2, h3⟩ := He.ba h2
  refine mc_mk hc ?_ h2 h3 G hb
  rw [← hx]
  exact He.eqO_ok h1
theorem nc_of {B : Tb} {P : Program} {w : World} {K : PySem.W.Frag} {mg : Str → Option Value} {base : Heap} {L i ar : Nat} {x : Str} {S : DIn} {fd : FuncData} {ps : List Str} (hm : mg x = some (.ref (He.ga K x))) (h : (He.Fa.mkr x).ok K = true) (hx : He.ga K x = B.ct i)
    (G : FnG P w K mg base L (He.fAd K (x, some "__init__")) fd ps (spInit B K ar S)) (hb : Binds K fd ps []) : NC B P w K mg base L x i ar S := by
  obtain ⟨h1, h2⟩ := He.ba h
  obtain ⟨h2, h3⟩ := He.ba h2
  obtain ⟨h3, h4⟩ := He.ba h3
  refine ⟨He.ma K (He.ga K x) "__init__", fd, ps, ?_, G, by rw [← hx]; exact hm, hb⟩
  rw [← hx]
  exact ⟨h1, He.eqO_ok h2, h3, h4⟩
theorem init_mk {B : Tb} {P : Program} {w : World} {K : PySem.W.Frag} {mg : Str → Option Value} {base : Heap} {qual n : Str} {st : Stmt} {f : Addr} {fd : FuncData} {N ps : List Str} {L ar : Nat} {t t' : DS} (F : Fun K "__init__" qual st f fd) (Sc : FnScope (n :: N) (n :: ps) (defScope st)) (har : ps.length = ar)
    (body : ∀ (cdv : Value) (A : Around) (outer : List Env) (s : Shared) (H : Hp) (H₀ : En) (E : XK), let X := cxOf (L2.CX P w) P w K mg base (n :: N) qual (defScope st) f cdv A outer s H E
      Ctx L X (fun cls d _ H => E cls d H) → WB B X (fun cls d _ H => E cls d H) H₀ (defBody st) t') (e : t' = t) : FnG P w K mg base (L + 1) f fd (n :: ps) (spInit B K ar (specIn N t)) := by
  subst e har
  exact init_ok F Sc body
end DL

namespace DL
open PySem L2 PyProof.Rows
/-! ### lists and tuples walked alike: k tells a tuple -/
def SI (k : Bool) (h : Heap) (it l : Addr) (i : Nat) : Prop := match k with
  | true => h.IsTupleIter it l i
  | false => h.IsListIter it l i
def SS (k : Bool) (h : Heap) (l : Addr) (xs : Array Value) : Prop := match k with
  | true => h.IsTuple l xs
  | false => h.IsList l xs
def kindN (k : Bool) : String := match k with
  | true => "tuple_iterator"
  | false => "list_iterator"
theorem SI.ob {k : Bool} {h : Heap} {it l : Addr} {i : Nat} (x : SI k h it l i) : ∃ o, h.get? it = some o ∧ ∀ v, o.data ≠ .cell v := by
  cases k with
  | true => obtain ⟨o, e, _, d⟩ := x; exact ⟨o, e, fun v q => by rw [d] at q; cases q⟩
  | false => obtain ⟨o, e, _, d⟩ := x; exact ⟨o, e, fun v q => by rw [d] at q; cases q⟩
theorem SI.at {k : Bool} {h h' : Heap} {it l : Addr} {i : Nat} (x : SI k h it l i) (e : ∀ o, h.get? it = some o → h'.get? it = some o) : SI k h' it l i := by
  cases k with
  | true => exact Heap.IsTupleIter.at x e
  | false => exact Heap.IsListIter.at x e
theorem SI.but {k : Bool} {h h' : Heap} {it l b : Addr} {i : Nat} (x : SI k h it l i) (hs : Heap.ExtBut b h h') (hn : it ≠ b) : SI k h' it l i := x.at fun o e => hs _ _ hn e
theorem SS.at {k : Bool} {h h' : Heap} {l : Addr} {xs : Array Value} (x : SS k h l xs) (e : ∀ o, h.get? l = some o → h'.get? l = some o) : SS k h' l xs := by
  cases k with
  | true => exact Heap.IsTuple.at x e
  | false => exact Heap.IsList.at x e
theorem SS.but {k : Bool} {h h' : Heap} {l b : Addr} {xs : Array Value} (x : SS k h l xs) (hs : Heap.ExtBut b h h') (hn : l ≠ b) : SS k h' l xs := x.at fun o e => hs _ _ hn e
theorem SS.lt {k : Bool} {h : Heap} {l : Addr} {xs : Array Value} (x : SS k h l xs) : l < h.objs.size := by
  cases k with
  | true => obtain ⟨o, e, _⟩ := x; exact Heap.lt_size e
  | false => obtain ⟨o, e, _⟩ := x; exact Heap.lt_size e
theorem SI.new {k : Bool} {h : Heap} {it l : Addr} (e : h.get? it = some { cls := .type (kindN k), data := .fields #[.ref l, .int 0 0] }) : SI k h it l 0 := by
  cases k with
  | true => exact ⟨_, e, rfl, rfl⟩
  | false => exact ⟨_, e, rfl, rfl⟩
section
variable {prog : Program} {w : World} {A : Around} {E : Value → Shared → Prop} {s : Shared} {k kb : Bool}
theorem iter_s {l : Addr} {xs : Array Value} {Q : Value → Shared → Prop} (hl : SS k s.heap l xs) (h : Q (.ref s.heap.objs.size) { s with heap := s.heap.push { cls := .type (kindN k), data := .fields #[.ref l, .int 0 0] } }) : wpAny (model prog w) A (pyIter (.ref l)) Q E s := by
  cases k with
  | true => exact wpAny_pyIter_tuple hl h
  | false => exact wpAny_pyIter_list hl h
theorem next_item {it l : Addr} {i : Nat} {xs : Array Value} {x : Value} {Q : Value → Shared → Prop} (hit : SI k s.heap it l i) (hl : SS k s.heap l xs) (hx : xs[i]? = some x) (hQ : ∀ h', SI k h' it l (i + 1) → Heap.SameBut it s.heap h' → Q x { s with heap := h' }) :
    wpAny (model prog w) A (Builtin.SmallTypes.nextOf (.ref it)) Q E s := by
  cases k with
  | true => exact RZ.nextOf_tuple_item hit hl hx hQ
  | false => exact wpAny_nextOf_list_item hit hl hx hQ
theorem next_end {it l : Addr} {i : Nat} {xs : Array Value} {Q : Value → Shared → Prop} (hh : A.handled = none) (hit : SI k s.heap it l i) (hl : SS k s.heap l xs) (hx : xs[i]? = none)
    (hE : ∀ h' e, Heap.ExtBut it s.heap h' → (∃ o, h'.get? e = some o ∧ o.cls = .type "StopIteration") → E (.ref e) { s with heap := h' }) : wpAny (model prog w) A (Builtin.SmallTypes.nextOf (.ref it)) Q E s := by
  cases k with
  | true => exact RZ.nextOf_tuple_end hh hit hl hx hE
  | false => exact wpAny_nextOf_list_end hh hit hl hx hE
/-! ### zip of both kinds -/
theorem zx_item {z ti to i1 i2 l1 l2 : Addr} {k1 k2 : Nat} {xs ys : Array Value} {x y a b : Value} {Q : Value → Shared → Prop} (AP : ZipApart z ti to i1 i2 l1 l2)
    (jz : IsZip s.heap z ti to .none) (jti : IsPair s.heap ti (.ref i1) (.ref i2)) (jto : IsPair s.heap to a b) (h1 : SI k s.heap i1 l1 k1) (h2 : SI kb s.heap i2 l2 k2) (hl1 : SS k s.heap l1 xs) (hl2 : SS kb s.heap l2 ys) (hx : xs[k1]? = some x) (hy : ys[k2]? = some y)
    (hQ : ∀ h', IsZip h' z ti to (rawInt s.heap.objs.size) → IsPair h' to x y → SI k h' i1 l1 (k1 + 1) → SI kb h' i2 l2 (k2 + 1) → IsPair h' s.heap.objs.size x y → h'.objs.size = s.heap.objs.size + 1 →
      (∀ c o, c ≠ z → c ≠ to → c ≠ i1 → c ≠ i2 → s.heap.get? c = some o → h'.get? c = some o) → Q (.ref s.heap.objs.size) { s with heap := h' }) :
    wpAny (model prog w) A (Builtin.«zip.__next__» ⟨[.ref z], []⟩) (fun fin s' => ∃ v, fin = .done (.ret v) ∧ Q v s') E s := by
  show wpAny _ _ ((field (.ref z) 2) >>= _) _ _ _
  refine wpAny_bind (wpAny_field jz rfl (x := .bool false) rfl ?_)
  show wpAny _ _ ((field (.ref z) 3) >>= _) _ _ _
  refine wpAny_bind (wpAny_field jz rfl (x := .ref ti) rfl ?_)
  refine wpAny_bind (wpAny_seqItems jti rfl ?_)
  show wpAny _ _ ((Builtin.SmallTypes.ownedTupleIsFree (.ref z)) >>= _) _ _ _
  refine wpAny_bind ?_
  unfold Builtin.SmallTypes.ownedTupleIsFree
  refine wpAny_bind (wpAny_field jz rfl (x := .none) rfl (wpAny_pure ?_))
  simp only [if_true]
  refine wpAny_bind (wpAny_rule (?_))
  refine wpAny_bind (wpAny_field jz rfl (x := .ref to) rfl ?_)
  refine wpAny_bind (wpAny_setField_rec jz (by simp) fun g1 jz1 s1 => ?_)
  replace jz1 : IsZip g1 z ti to .ellipsis := jz1
  refine wpAny_bind ?_
  simp only [List.zipIdx_cons, List.zipIdx_nil, List.forIn_nil, List.forIn_cons]
  refine wpAny_bind (wpAny_bind (wpAny_onRaise (?_)))
  show wpAny _ _ ((Builtin.SmallTypes.nextOf (.ref i1)) >>= _) _ _ _
  refine wpAny_bind (next_item (h1.but s1.extBut AP.i1z) (hl1.but s1.extBut AP.l1z) hx fun g2 h12 s2 => wpAny_pure ?_)
  have jto2 : IsPair g2 to a b := s2.extBut _ _ AP.TOi1 (s1.extBut _ _ AP.TOz jto)
  refine wpAny_bind (wpAny_seqItems jto2 rfl ?_)
  refine wpAny_bind (wpAny_updateSeq_pair jto2 fun g3 jto3 s3 => ?_)
  replace jto3 : IsPair g3 to x b := jto3
  refine wpAny_bind (wpAny_letGo (wpAny_pure (?_)))
  refine wpAny_bind (wpAny_bind (wpAny_onRaise (?_)))
  show wpAny _ _ ((Builtin.SmallTypes.nextOf (.ref i2)) >>= _) _ _ _
  refine wpAny_bind (next_item (((h2.but s1.extBut AP.i2z).but s2.extBut AP.i12.symm).but s3.extBut AP.TOi2.symm) (((hl2.but s1.extBut AP.l2z).but s2.extBut AP.l2i1).but s3.extBut AP.l2TO) hy fun g4 h24 s4 => wpAny_pure ?_)
  have jto4 : IsPair g4 to x b := s4.extBut _ _ AP.TOi2 jto3
  refine wpAny_bind (wpAny_seqItems jto4 rfl ?_)
  refine wpAny_bind (wpAny_updateSeq_pair jto4 fun g5 jto5 s5 => ?_)
  replace jto5 : IsPair g5 to x y := jto5
  refine wpAny_bind (wpAny_letGo (wpAny_pure (wpAny_pure (?_))))
  refine wpAny_bind (wpAny_seqItems jto5 rfl ?_)
  refine wpAny_bind (wpAny_newTuple (?_))
  have sz : g5.objs.size = s.heap.objs.size := by rw [s5.1, s4.1, s3.1, s2.1, s1.1]
  have jz5 : IsZip g5 z ti to .ellipsis := s5.extBut _ _ AP.TOz.symm (s4.extBut _ _ AP.i2z.symm (s3.extBut _ _ AP.TOz.symm (s2.extBut _ _ AP.i1z.symm jz1)))
  have kk5 : ∀ c o, c ≠ z → c ≠ to → c ≠ i1 → c ≠ i2 → s.heap.get? c = some o → g5.get? c = some o := fun c o c1 c2 c3 c4 e =>
    s5.extBut _ _ c2 (s4.extBut _ _ c4 (s3.extBut _ _ c2 (s2.extBut _ _ c3 (s1.extBut _ _ c1 e))))
  have h15 : SI k g5 i1 l1 (k1 + 1) := ((h12.but s3.extBut AP.TOi1.symm).but s4.extBut AP.i12).but s5.extBut AP.TOi1.symm
  have h25 : SI kb g5 i2 l2 (k2 + 1) := h24.but s5.extBut AP.TOi2.symm
  have zlt : z < g5.objs.size := Heap.lt_size jz5
  show wpAny _ _ ((Builtin.SmallTypes.ownedTupleHandOut (.ref z) (.ref g5.objs.size)) >>= _) _ _ _
  refine wpAny_bind ?_
  unfold Builtin.SmallTypes.ownedTupleHandOut
  have jz6 : IsZip (g5.push { cls := .type "tuple", data := .seq #[x, y] }) z ti to .ellipsis := Heap.get?_push_of_some _ jz5
  refine wpAny_bind (wpAny_setField_rec jz6 (by simp) fun g7 jz7 s7 => ?_)
  replace jz7 : IsZip g7 z ti to (rawInt g5.objs.size) := jz7
  refine wpAny_setField_rec jz7 (by simp) fun g8 jz8 s8 => ?_
  replace jz8 : IsZip g8 z ti to (rawInt g5.objs.size) := jz8
  have up : ∀ c o, c ≠ z → g5.get? c = some o → g8.get? c = some o := fun c o c1 e => s8.extBut _ _ c1 (s7.extBut _ _ c1 (Heap.get?_push_of_some _ e))
  have jT8 : IsPair g8 g5.objs.size x y := s8.extBut _ _ (Nat.ne_of_gt zlt) (s7.extBut _ _ (Nat.ne_of_gt zlt) (Heap.get?_push_size _ rfl))
  have z8 : g8.objs.size = g5.objs.size + 1 := by rw [s8.1, s7.1, Heap.size_push]
  rw [sz] at jz8 jT8 z8
  refine wpAny_pure ⟨_, rfl, ?_⟩
  show Q (.ref g5.objs.size) _
  rw [sz]
  exact hQ g8 jz8 (up _ _ AP.TOz jto5) (h15.at fun o e => up _ o AP.i1z e) (h25.at fun o e => up _ o AP.i2z e) jT8 z8 fun c o c1 c2 c3 c4 e => up c o c1 (kk5 c o c1 c2 c3 c4 e)
theorem zx_end {z ti to i1 i2 l1 l2 : Addr} {k1 k2 : Nat} {xs ys : Array Value} {a b : Value} {Q : Fin → Shared → Prop} (hh : A.handled = none) (AP : ZipApart z ti to i1 i2 l1 l2)
    (jz : IsZip s.heap z ti to .none) (jti : IsPair s.heap ti (.ref i1) (.ref i2)) (jto : IsPair s.heap to a b) (h1 : SI k s.heap i1 l1 k1) (h2 : SI kb s.heap i2 l2 k2) (hl1 : SS k s.heap l1 xs) (hl2 : SS kb s.heap l2 ys) (hend : xs[k1]? = none ∨ ys[k2]? = none)
    (hE : ∀ h' e, (∀ c o, c ≠ z → c ≠ to → c ≠ i1 → c ≠ i2 → s.heap.get? c = some o → h'.get? c = some o) → (∃ o, h'.get? e = some o ∧ o.cls = .type "StopIteration") → E (.ref e) { s with heap := h' }) :
    wpAny (model prog w) A (Builtin.«zip.__next__» ⟨[.ref z], []⟩) Q E s := by
  show wpAny _ _ ((field (.ref z) 2) >>= _) _ _ _
  refine wpAny_bind (wpAny_field jz rfl (x := .bool false) rfl ?_)
  show wpAny _ _ ((field (.ref z) 3) >>= _) _ _ _
  refine wpAny_bind (wpAny_field jz rfl (x := .ref ti) rfl ?_)
  refine wpAny_bind (wpAny_seqItems jti rfl ?_)
  show wpAny _ _ ((Builtin.SmallTypes.ownedTupleIsFree (.ref z)) >>= _) _ _ _
  refine wpAny_bind ?_
  unfold Builtin.SmallTypes.ownedTupleIsFree
  refine wpAny_bind (wpAny_field jz rfl (x := .none) rfl (wpAny_pure ?_))
  simp only [if_true]
  refine wpAny_bind (wpAny_rule (?_))
  refine wpAny_bind (wpAny_field jz rfl (x := .ref to) rfl ?_)
  refine wpAny_bind (wpAny_setField_rec jz (by simp) fun g1 jz1 s1 => ?_)
  replace jz1 : IsZip g1 z ti to .ellipsis := jz1
  refine wpAny_bind ?_
  simp only [List.zipIdx_cons, List.zipIdx_nil, List.forIn_nil, List.forIn_cons]
  refine wpAny_bind (wpAny_bind (wpAny_onRaise (?_)))
  show wpAny _ _ ((Builtin.SmallTypes.nextOf (.ref i1)) >>= _) _ _ _
  cases hx : xs[k1]? with
  | none =>
    refine wpAny_bind (next_end hh (h1.but s1.extBut AP.i1z) (hl1.but s1.extBut AP.l1z) hx fun g2 e s2 he => ?_)
    obtain ⟨oe, hoe, hce⟩ := he
    have jz2 : IsZip g2 z ti to .ellipsis := s2 _ _ AP.i1z.symm jz1
    have ez : e ≠ z := fun x => by subst x; rw [jz2] at hoe; cases hoe; simp at hce
    exact wpAny_setField_rec jz2 (by simp) fun g3 _ s3 => hE g3 e (fun c o c1 _ c3 _ x => s3.extBut _ _ c1 (s2 _ _ c3 (s1.extBut _ _ c1 x))) ⟨oe, s3.extBut _ _ ez hoe, hce⟩
  | some x =>
    have hy : ys[k2]? = none := by
      rcases hend with h | h
      · rw [hx] at h; cases h
      · exact h
    refine wpAny_bind (next_item (h1.but s1.extBut AP.i1z) (hl1.but s1.extBut AP.l1z) hx fun g2 h12 s2 => wpAny_pure ?_)
    have jto2 : IsPair g2 to a b := s2.extBut _ _ AP.TOi1 (s1.extBut _ _ AP.TOz jto)
    refine wpAny_bind (wpAny_seqItems jto2 rfl ?_)
    refine wpAny_bind (wpAny_updateSeq_pair jto2 fun g3 jto3 s3 => ?_)
    refine wpAny_bind (wpAny_letGo (wpAny_pure (?_)))
    refine wpAny_bind (wpAny_bind (wpAny_onRaise (?_)))
    show wpAny _ _ ((Builtin.SmallTypes.nextOf (.ref i2)) >>= _) _ _ _
    refine wpAny_bind (next_end hh (((h2.but s1.extBut AP.i2z).but s2.extBut AP.i12.symm).but s3.extBut AP.TOi2.symm) (((hl2.but s1.extBut AP.l2z).but s2.extBut AP.l2i1).but s3.extBut AP.l2TO) hy fun g4 e s4 he => ?_)
    obtain ⟨oe, hoe, hce⟩ := he
    have jz4 : IsZip g4 z ti to .ellipsis := s4 _ _ AP.i2z.symm (s3.extBut _ _ AP.TOz.symm (s2.extBut _ _ AP.i1z.symm jz1))
    have ez : e ≠ z := fun x => by subst x; rw [jz4] at hoe; cases hoe; simp at hce
    exact wpAny_setField_rec jz4 (by simp) fun g5 _ s5 => hE g5 e (fun c o c1 c2 c3 c4 x => s5.extBut _ _ c1 (s4 _ _ c4 (s3.extBut _ _ c2 (s2.extBut _ _ c3 (s1.extBut _ _ c1 x))))) ⟨oe, s5.extBut _ _ ez hoe, hce⟩
theorem zn_item {z ti to i1 i2 l1 l2 : Addr} {k1 k2 : Nat} {xs ys : Array Value} {x y a b : Value} {Q : Option Value → Shared → Prop} (AP : ZipApart z ti to i1 i2 l1 l2)
    (jz : IsZip s.heap z ti to .none) (jti : IsPair s.heap ti (.ref i1) (.ref i2)) (jto : IsPair s.heap to a b) (h1 : SI k s.heap i1 l1 k1) (h2 : SI kb s.heap i2 l2 k2) (hl1 : SS k s.heap l1 xs) (hl2 : SS kb s.heap l2 ys) (hx : xs[k1]? = some x) (hy : ys[k2]? = some y)
    (hQ : ∀ h', IsZip h' z ti to (rawInt s.heap.objs.size) → IsPair h' to x y → SI k h' i1 l1 (k1 + 1) → SI kb h' i2 l2 (k2 + 1) → IsPair h' s.heap.objs.size x y → h'.objs.size = s.heap.objs.size + 1 →
      (∀ c o, c ≠ z → c ≠ to → c ≠ i1 → c ≠ i2 → s.heap.get? c = some o → h'.get? c = some o) → Q (some (.ref s.heap.objs.size)) { s with heap := h' }) :
    wpAny (model prog w) A (pyNext (.ref z)) Q E s := by
  have hT : (s).TypeIs (.ref z) "zip" := ⟨_, jz, rfl⟩
  unfold pyNext
  exact wpAny_bind (wpAny_attempt (wpAny_callSpecial?_slot (name := Str.ofString "__next__") hT F.slot_zip_next (wpAny_call_entry F.slot_zip_next hT F.entry_zip_next
      (zx_item AP jz jti jto h1 h2 hl1 hl2 hx hy fun h' a1 a2 a3 a4 a5 a6 a7 => wpAny_pure (hQ h' a1 a2 a3 a4 a5 a6 a7)) (F.args_zip_next_1 _))))
theorem zn_end {z ti to i1 i2 l1 l2 : Addr} {k1 k2 : Nat} {xs ys : Array Value} {a b : Value} {Q : Option Value → Shared → Prop} (hh : A.handled = none) (AP : ZipApart z ti to i1 i2 l1 l2)
    (jz : IsZip s.heap z ti to .none) (jti : IsPair s.heap ti (.ref i1) (.ref i2)) (jto : IsPair s.heap to a b) (h1 : SI k s.heap i1 l1 k1) (h2 : SI kb s.heap i2 l2 k2) (hl1 : SS k s.heap l1 xs) (hl2 : SS kb s.heap l2 ys) (hend : xs[k1]? = none ∨ ys[k2]? = none)
    (hQ : ∀ h', (∀ c o, c ≠ z → c ≠ to → c ≠ i1 → c ≠ i2 → s.heap.get? c = some o → h'.get? c = some o) → Q none { s with heap := h' }) : wpAny (model prog w) A (pyNext (.ref z)) Q E s := by
  have hT : (s).TypeIs (.ref z) "zip" := ⟨_, jz, rfl⟩
  unfold pyNext
  refine wpAny_bind (wpAny_attempt (wpAny_callSpecial?_slot (name := Str.ofString "__next__") hT F.slot_zip_next (wpAny_call_entry F.slot_zip_next hT F.entry_zip_next (zx_end hh AP jz jti jto h1 h2 hl1 hl2 hend fun h' e hk he => ?_) (F.args_zip_next_1 _))))
  obtain ⟨o, ho, hc⟩ := he
  refine wpAny_bind (wpAny_isInstance (T := "StopIteration") (b := true) ⟨o, ho, hc⟩ isSubtype_stop (?_))
  exact wpAny_pure (hQ _ hk)
end
/-! ### making them -/
abbrev zH1 (k : Bool) (h : Heap) (l1 : Addr) : Heap := h.push { cls := .type (kindN k), data := .fields #[.ref l1, .int 0 0] }
abbrev zH2 (k kb : Bool) (h : Heap) (l1 l2 : Addr) : Heap := (zH1 k h l1).push { cls := .type (kindN kb), data := .fields #[.ref l2, .int 0 0] }
abbrev zH3 (k kb : Bool) (h : Heap) (l1 l2 : Addr) : Heap := (zH2 k kb h l1 l2).push { cls := .type "tuple", data := .seq #[.ref h.objs.size, .ref (zH1 k h l1).objs.size] }
abbrev zH4 (k kb : Bool) (h : Heap) (l1 l2 : Addr) : Heap := (zH3 k kb h l1 l2).push { cls := .type "tuple", data := .seq #[.none, .none] }
abbrev zH5 (k kb : Bool) (h : Heap) (l1 l2 : Addr) : Heap := (zH4 k kb h l1 l2).push { cls := .type "zip", data := .fields #[.none, .bool false, .bool false, .ref (zH2 k kb h l1 l2).objs.size, .ref (zH3 k kb h l1 l2).objs.size] }
theorem mz_new (k kb : Bool) (l1 l2 : Addr) (xs ys : Array Value) : Meets (Builtin.«zip.__new__» ⟨[.type "zip", .ref l1, .ref l2], []⟩) (fun _ R s => SS k s.heap l1 xs ∧ SS kb s.heap l2 ys ∧ R (.ok (.ret (.ref (zH4 k kb s.heap l1 l2).objs.size))) { s with heap := zH5 k kb s.heap l1 l2 }) :=
  .of_wp fun prog w A R s h => by
    obtain ⟨hp, g, d, tk, os⟩ := s
    obtain ⟨hl1, hl2, h⟩ := h
    have hsub := sub_zip
    have L1 : SS k (Shared.heap ⟨hp, g, d, tk, os⟩) l1 xs := hl1
    have L2 : SS kb (Shared.heap ⟨hp.push { cls := .type (kindN k), data := .fields #[.ref l1, .int 0 0] }, g, d, tk, os⟩) l2 ys := SS.at hl2 fun o e => Heap.get?_push_of_some _ e
    wp_walk using iter_s L1, iter_s L2
    exact ⟨_, rfl, h⟩
section
variable {prog : Program} {w : World} {A : Around} {E : Value → Shared → Prop} {s : Shared} {k kb : Bool}
theorem call_zx {l1 l2 : Addr} {xs ys : Array Value} {Q : Value → Shared → Prop} (hl1 : SS k s.heap l1 xs) (hl2 : SS kb s.heap l2 ys)
    (h : ∀ h', IsZip h' (s.heap.objs.size + 4) (s.heap.objs.size + 2) (s.heap.objs.size + 3) .none → IsPair h' (s.heap.objs.size + 2) (.ref s.heap.objs.size) (.ref (s.heap.objs.size + 1)) → IsPair h' (s.heap.objs.size + 3) .none .none → SI k h' s.heap.objs.size l1 0 → SI kb h' (s.heap.objs.size + 1) l2 0 → h'.objs.size = s.heap.objs.size + 5 →
      (∀ c o, s.heap.get? c = some o → h'.get? c = some o) → Q (.ref (s.heap.objs.size + 4)) { s with heap := h' }) : wpAny (model prog w) A (call (.type "zip") [.ref l1, .ref l2]) Q E s := by
  refine callType_new F.called_zip (by decide) (F.typeCall_zip_2 _ _) (F.newCall_zip_2 _ _) (fun obj => F.args_object_init_3 obj _ _) F.entry_zip_new (mz_new k kb l1 l2 xs ys) ⟨hl1, hl2, ?_⟩
  have z1 : (zH1 k s.heap l1).objs.size = s.heap.objs.size + 1 := Heap.size_push ..
  have z2 : (zH2 k kb s.heap l1 l2).objs.size = s.heap.objs.size + 2 := by rw [Heap.size_push, z1]
  have z3 : (zH3 k kb s.heap l1 l2).objs.size = s.heap.objs.size + 3 := by rw [Heap.size_push, z2]
  have z4 : (zH4 k kb s.heap l1 l2).objs.size = s.heap.objs.size + 4 := by rw [Heap.size_push, z3]
  have z5 : (zH5 k kb s.heap l1 l2).objs.size = s.heap.objs.size + 5 := by rw [Heap.size_push, z4]
  have g5 : (zH5 k kb s.heap l1 l2).get? (zH4 k kb s.heap l1 l2).objs.size = some _ := Heap.get?_push_size _ rfl
  have g4 : (zH5 k kb s.heap l1 l2).get? (zH3 k kb s.heap l1 l2).objs.size = some _ := Heap.get?_push_of_some _ (Heap.get?_push_size _ rfl)
  have g3 : (zH5 k kb s.heap l1 l2).get? (zH2 k kb s.heap l1 l2).objs.size = some _ := Heap.get?_push_of_some _ (Heap.get?_push_of_some _ (Heap.get?_push_size _ rfl))
  have g2 : (zH5 k kb s.heap l1 l2).get? (zH1 k s.heap l1).objs.size = some _ := Heap.get?_push_of_some _ (Heap.get?_push_of_some _ (Heap.get?_push_of_some _ (Heap.get?_push_size _ rfl)))
  have g1 : (zH5 k kb s.heap l1 l2).get? s.heap.objs.size = some _ := Heap.get?_push_of_some _ (Heap.get?_push_of_some _ (Heap.get?_push_of_some _ (Heap.get?_push_of_some _ (Heap.get?_push_size _ rfl))))
  show _ ∧ _
  rw [z2, z3, z4] at g5
  rw [z1, z2] at g3
  rw [z3] at g4
  rw [z1] at g2
  rw [z4]
  exact ⟨⟨_, g5, rfl⟩, h _ g5 g3 g4 (SI.new g1) (SI.new g2) z5 fun c o x => Heap.get?_push_of_some _ (Heap.get?_push_of_some _ (Heap.get?_push_of_some _ (Heap.get?_push_of_some _ (Heap.get?_push_of_some _ x))))⟩
end
end DL

namespace DL
open PySem L2 PyProof.Rows
/-! ### enumerate, zip of lists and tuples -/
def SQ (k : Bool) (K : PySem.W.Frag) (H : Hp) (a : Addr) (xs : List V) : Prop := match k with
  | true => SqT K H a xs
  | false => SqL K H a xs
theorem sq_is {k : Bool} {X : Cx} {pins : List (Addr × Obj)} {σ : L2.St} {H : Hp} {s : Shared} {a : Addr} {xs : List V} (I : Inv X pins σ H s) (h : SQ k X.K H a xs) : ∃ its : List Value, Vals xs its ∧ SS k s.heap a its.toArray := by
  cases k with
  | true => obtain ⟨its, rv, p, _⟩ := I.tuple h; exact ⟨its, rv, p⟩
  | false => obtain ⟨its, rv, p, _⟩ := I.list h; exact ⟨its, rv, p.isList⟩
theorem sq_inj {k : Bool} {X : Cx} {pins : List (Addr × Obj)} {σ : L2.St} {H : Hp} {s : Shared} {a : Addr} {xs ys : List V} (I : Inv X pins σ H s) (h : SQ k X.K H a xs) (h2 : SQ k X.K H a ys) : xs = ys := by
  cases k with
  | true => exact I.tuple_inj h h2
  | false => exact I.list_inj h h2
def IzX (k kb : Bool) (K : PySem.W.Frag) (a b : Addr) : It :=
  ⟨fun i H => ∃ (xs ys : List V) (x y : V), SQ k K H a xs ∧ SQ kb K H b ys ∧ xs[i]? = some x ∧ ys[i]? = some y,
    fun i H v H' => ∃ T x y, v = .ref T ∧ H T = none ∧ H' = upd H T (.tup [x, y]) ∧ (∀ xs, SQ k K H a xs → xs[i]? = some x) ∧ ∀ ys, SQ kb K H b ys → ys[i]? = some y,
    fun i H => ∃ xs ys : List V, SQ k K H a xs ∧ SQ kb K H b ys ∧ (xs.length ≤ i ∨ ys.length ≤ i)⟩
def IeX (k : Bool) (K : PySem.W.Frag) (a : Addr) : It :=
  ⟨fun i H => ∃ (xs : List V) (x : V), SQ k K H a xs ∧ xs[i]? = some x, fun i H v H' => ∃ T x, v = .ref T ∧ H T = none ∧ H' = upd H T (.tup [.int (i : Nat), x]) ∧ ∀ xs, SQ k K H a xs → xs[i]? = some x, fun i H => ∃ xs : List V, SQ k K H a xs ∧ xs.length ≤ i⟩
theorem turn_zX {P : Program} {w : World} {K : PySem.W.Frag} {elts : List Expr} {kk : Nat} {tpos : Pos} {a b z ti to i1 i2 : Addr} {k kb : Bool} (AP : ZipApart z ti to i1 i2 a b) :
    Turn P w K (.Tuple elts kk tpos) (IzX k kb K a b) [z, ti, to, i1, i2] z (fun i h => IsZip h z ti to .none ∧ IsPair h ti (.ref i1) (.ref i2) ∧ (∃ x y, IsPair h to x y) ∧ SI k h i1 a i ∧ SI kb h i2 b i) where
  mem := by simp
  obj := fun i h st c hc => by
    obtain ⟨jz, jti, ⟨x, y, jto⟩, h1, h2⟩ := st
    simp only [List.mem_cons, List.not_mem_nil, or_false] at hc
    rcases hc with q | q | q | q | q <;> rw [q]
    · exact ⟨_, jz, fun v q => nomatch q⟩
    · exact ⟨_, jti, fun v q => nomatch q⟩
    · exact ⟨_, jto, fun v q => nomatch q⟩
    · exact h1.ob
    · exact h2.ob
  keep := fun i h h' st kp => by
    obtain ⟨jz, jti, ⟨x, y, jto⟩, h1, h2⟩ := st
    exact ⟨kp z (by simp) _ jz, kp ti (by simp) _ jti, ⟨x, y, kp to (by simp) _ jto⟩, h1.at fun o q => kp i1 (by simp) o q, h2.at fun o q => kp i2 (by simp) o q⟩
  item := by
    intro X hP hw hK hc i pins s σ H E I hf st hg
    subst hP hw hK
    obtain ⟨jz, jti, ⟨x0, y0, jto⟩, h1, h2⟩ := st
    obtain ⟨xs, ys, x, y, qx, qy, hx, hy⟩ := hg
    obtain ⟨its, rv, p1⟩ := sq_is I qx
    obtain ⟨its2, rv2, p2⟩ := sq_is I qy
    obtain ⟨u, hu, ru⟩ := rv.get hx
    obtain ⟨u2, hu2, ru2⟩ := rv2.get hy
    have zl : z < s.heap.objs.size := Heap.lt_size jz
    refine zn_item AP jz jti jto h1 h2 p1 p2 (x := u) (y := u2) (by simpa using hu) (by simpa using hu2) fun h' z' to' h1' h2' hT hsz hk => ?_
    refine ⟨_, rfl, wpAny_letOwnedTupleGo_zip (s := { s with heap := h' }) z' (fun h'' z'' sb => ?_)⟩
    have hT2 : h''.get? s.heap.objs.size = some ({ cls := .type "tuple", data := .seq #[u, u2] }) := (sb.2 _ (Nat.ne_of_gt zl)).trans hT
    have I1 : Inv X pins σ (upd H s.heap.objs.size (.tup [x, y])) { s with heap := h'' } :=
      I.turnedNew (t' := s.toks) (ch := [z, ti, to, i1, i2]) (fun c o hb q => (sb.2 c (fun q' => hb (by simp [q']))).trans (hk c o (fun q' => hb (by simp [q'])) (fun q' => hb (by simp [q'])) (fun q' => hb (by simp [q'])) (fun q' => hb (by simp [q'])) q)) hf (Nat.le_refl _)
        ⟨by show 2 ≤ sizeLine; decide, [u, u2], .cons ru (.cons ru2 .nil), ⟨_, hT2, rfl, _, rfl⟩⟩
    refine ⟨.ref s.heap.objs.size, _, I1, rfl, ⟨_, x, y, rfl, I.hok.fresh (Nat.le_refl _), rfl, fun l hl => by rw [sq_inj I hl qx]; exact hx, fun l hl => by rw [sq_inj I hl qy]; exact hy⟩, ⟨z'', (sb.2 _ AP.TIz).trans (hk _ _ AP.TIz AP.TITO AP.TIi1 AP.TIi2 jti), ⟨u, u2, (sb.2 _ AP.TOz).trans to'⟩, h1'.at fun o q => (sb.2 _ AP.i1z).trans q, h2'.at fun o q => (sb.2 _ AP.i2z).trans q⟩, fun c hcm => ?_⟩
    have hlt : c < s.heap.objs.size := by
      obtain ⟨o1, e1, _⟩ := h1.ob
      obtain ⟨o2, e2, _⟩ := h2.ob
      simp only [List.mem_cons, List.not_mem_nil, or_false] at hcm
      rcases hcm with q | q | q | q | q <;> rw [q]
      · exact zl
      · exact Heap.lt_size jti
      · exact Heap.lt_size jto
      · exact Heap.lt_size e1
      · exact Heap.lt_size e2
    rw [upd_ne (Nat.ne_of_lt hlt)]
    exact (hf c hcm).1
  done := by
    intro X hP hw hK hc i pins s σ H E I hf st hg
    subst hP hw hK
    obtain ⟨jz, jti, ⟨x0, y0, jto⟩, h1, h2⟩ := st
    obtain ⟨xs, ys, qx, qy, hend⟩ := hg
    obtain ⟨its, rv, p1⟩ := sq_is I qx
    obtain ⟨its2, rv2, p2⟩ := sq_is I qy
    have l1 := rv.length
    have l2 := rv2.length
    have he : its.toArray[i]? = none ∨ its2.toArray[i]? = none := by
      rcases hend with q | q
      · exact .inl (by simp; omega)
      · exact .inr (by simp; omega)
    exact zn_end (I.ok.hd hc) AP jz jti jto h1 h2 p1 p2 he fun h' hk => ⟨rfl, I.turnedL (t' := s.toks) (ch := [z, ti, to, i1, i2]) (fun c o hb q => hk c o (fun q' => hb (by simp [q'])) (fun q' => hb (by simp [q'])) (fun q' => hb (by simp [q'])) (fun q' => hb (by simp [q'])) q) hf⟩
  self := fun A i s Q E st h => wpAny_pyIter_zip (st.1) h
def iZX (K : PySem.W.Frag) (ta : TA) : TI := fun σ H R => ta σ H fun vs H1 => ∃ k kb a b xs ys, vs = [.ref a, .ref b] ∧ SQ k K H1 a xs ∧ SQ kb K H1 b ys ∧ R (IzX k kb K a b) H1
theorem pi_zX {X : Cx} {e e2 : Expr} {ta : TA} {p pos tpos : Pos} {elts : List Expr} {kk : Nat} (hg : Gl X "zip") (hm : X.mg "zip" = none) (ha : PA X [e, e2] ta)
    (hs : starEach [e, e2] X.env = (false, eval e X.env) :: starEach [e2] X.env := by rfl) (hpl : (backTo pos (starEach [e2] X.env)).any (·.1) = false := by rfl) : PI X (.Tuple elts kk tpos) (.Call (.Name "zip" p) [e, e2] [] pos) (iZX X.K ta) := by
  refine ⟨fun pins s σ H R I h => ?_⟩
  refine Call_ (ld_blt I hg hm PyProof.Rows.boot_zip (PyProof.Rows.callWith_type1 (thn (ha.run pos pins s σ H _ I h) (fun us s1 ⟨vs, H1, I1, r1, q1⟩ => ?_)) hs hpl))
  obtain ⟨k, kb, a, b, xs, ys, ex, qx, qy, q⟩ := q1
  subst ex
  cases r1 with
  | cons r rr =>
    cases rr with
    | cons r' rr =>
      cases rr; cases r; cases r'
      obtain ⟨its, rv, p1⟩ := sq_is I1 qx
      obtain ⟨its2, rv2, p2⟩ := sq_is I1 qy
      refine call_zx p1 p2 fun h' jz jti jto h1 h2 hsz hk => wpAny_pyIter_zip jz ?_
      have I2 : Inv X pins σ H1 { s1 with heap := h' } := I1.kept (t' := s1.toks) (hk)
      refine ⟨s1.heap.objs.size + 4, [s1.heap.objs.size + 4, s1.heap.objs.size + 2, s1.heap.objs.size + 3, s1.heap.objs.size, s1.heap.objs.size + 1], _, _, H1, rfl, I2, turn_zX (PySem.W.ktu_apart s1.heap.objs.size a b p1.lt p2.lt), ⟨jz, jti, ⟨_, _, jto⟩, h1, h2⟩, fun c hcm => ?_, q⟩
      have hle : s1.heap.objs.size ≤ c := by
        simp only [List.mem_cons, List.not_mem_nil, or_false] at hcm
        rcases hcm with q | q | q | q | q <;> rw [q]
        all_goals first
          | exact Nat.le_add_right _ _
          | exact Nat.le_refl _
      exact I1.fpOk hle (I1.hok.fresh hle)
theorem draws_s {prog : Program} {w : World} {A : Around} {k : Bool} (hh : A.handled = none) (it l : Addr) (hne : l ≠ it) (xs : Array Value) :
    Draws prog w A it [it, l] xs.size (fun i v => xs[i]? = some v) (fun i h => SI k h it l i ∧ SS k h l xs) where
  live := fun _ _ st => let ⟨o, ho, _⟩ := st.1.ob; ⟨o, ho⟩
  frame := fun _ _ _ st hk => ⟨st.1.at fun o e => hk it (by simp) o e, SS.at st.2 fun o e => hk l (by simp) o e⟩
  item := fun i s Q E hi st hQ => next_item st.1 st.2 (x := xs[i]) (by simp [hi]) fun h' hit' hs' => hQ _ h' s.toks (by simp [hi]) ⟨hit', SS.but st.2 hs'.extBut hne⟩ hs'
  done := fun s Q E st hE => next_end hh st.1 st.2 (by simp) hE
theorem turn_eX {P : Program} {w : World} {K : PySem.W.Frag} {elts : List Expr} {kk : Nat} {tpos : Pos} {k : Bool} (a e it : Addr) :
    Turn P w K (.Tuple elts kk tpos) (IeX k K a) [e, it] e (fun i h => (∃ old, IsEnum h e it ((i : Nat) : Int) old) ∧ SI k h it a i ∧ e ≠ it ∧ a ≠ it ∧ e ≠ a) where
  mem := by simp
  obj := fun i h st b hb => by
    obtain ⟨⟨old, he⟩, h1, _⟩ := st
    simp only [List.mem_cons, List.not_mem_nil, or_false] at hb
    rcases hb with z | z <;> rw [z]
    · exact ⟨_, he, fun v q => nomatch q⟩
    · exact h1.ob
  keep := fun i h h' st kp => let ⟨⟨old, he⟩, hi, hne⟩ := st; ⟨⟨old, kp e (by simp) _ he⟩, hi.at fun o q => kp it (by simp) o q, hne⟩
  item := by
    intro X hP hw hK hc i pins s σ H E I hf st hg
    subst hP hw hK
    obtain ⟨⟨old, he⟩, hit, hne, hai, hea⟩ := st
    obtain ⟨xs, x, hq, hx⟩ := hg
    obtain ⟨its, rv, p1⟩ := sq_is I hq
    obtain ⟨u, hu, ru⟩ := rv.get hx
    have el : e < s.heap.objs.size := Heap.lt_size he
    have il : it < s.heap.objs.size := by obtain ⟨_, q, _⟩ := hit.ob; exact Heap.lt_size q
    have li : i < its.toArray.size := by
      have := (List.getElem?_eq_some_iff.mp hu).1
      simpa using this
    refine wpAny_pyNext_enum_itemD (draws_s (k := k) (show X.A.in1.handled = none from I.ok.hd hc) it a hai its.toArray) he ⟨hit, p1⟩ li hne (by simp; exact ⟨hne, hea⟩) fun x' h' tk hPx ho st' hT hsz hk => ?_
    have ex : x' = u := by
      have h5 : its[i]? = some x' := by simpa using hPx
      rw [hu] at h5; cases h5; rfl
    subst ex
    refine ⟨_, rfl, wpAny_letOwnedTupleGo_enum (s := { s with heap := h', toks := tk + 1 }) ho (fun h'' he' sb => ?_)⟩
    have hT2 : h''.get? s.heap.objs.size = some ({ cls := .type "tuple", data := .seq #[.int i tk, x'] }) := (sb.2 _ (Nat.ne_of_gt el)).trans hT
    have I1 : Inv X pins σ (upd H s.heap.objs.size (.tup [.int (i : Nat), x])) { s with heap := h'', toks := tk + 1 } :=
      I.turnedNew (ch := [e, it]) (fun b ob hb q => (sb.2 b (fun z => hb (by simp [z]))).trans (hk b ob (fun z => hb (by simp [z])) (fun z => hb (by simp [z])) q)) hf (Nat.le_refl _)
        ⟨by show 2 ≤ sizeLine; decide, [.int i tk, x'], .cons ⟨_, rfl⟩ (.cons ru .nil), ⟨_, hT2, rfl, _, rfl⟩⟩
    refine ⟨.ref s.heap.objs.size, _, I1, rfl, ⟨_, x, rfl, I.hok.fresh (Nat.le_refl _), rfl, fun ys hy => by rw [sq_inj I hy hq]; exact hx⟩, ⟨⟨x', ?_⟩, st'.1.at fun o q => (sb.2 it (Ne.symm hne)).trans q, hne, hai, hea⟩, fun b hb => ?_⟩
    · have e1 : ((i + 1 : Nat) : Int) = (i : Int) + 1 := by omega
      rw [e1]; exact he'
    · have hb' : b < s.heap.objs.size := by
        have hb2 := hb
        simp only [List.mem_cons, List.not_mem_nil, or_false] at hb2
        rcases hb2 with z | z <;> rw [z]
        · exact el
        · exact il
      rw [upd_ne (Nat.ne_of_lt hb')]
      exact (hf b hb).1
  done := by
    intro X hP hw hK hc i pins s σ H E I hf st hg
    subst hP hw hK
    obtain ⟨⟨old, he⟩, hit, hne, hai, hea⟩ := st
    obtain ⟨xs, hq, hx⟩ := hg
    obtain ⟨its, rv, p1⟩ := sq_is I hq
    obtain ⟨f0, f1, f2, f3, f4, f5⟩ := hf it (by simp)
    have hl := rv.length
    have hT : (s).TypeIs (.ref e) "enumerate" := ⟨_, he, rfl⟩
    unfold pyNext
    refine wpAny_bind (wpAny_attempt (wpAny_callSpecial?_slot (name := Str.ofString "__next__") hT F.slot_enumerate_next (wpAny_call_entry F.slot_enumerate_next hT F.entry_enumerate_next ?_ (F.args_enumerate_next_1 _))))
    show wpAny _ _ ((field (.ref e) 2) >>= _) _ _ _
    refine wpAny_bind (wpAny_field he rfl (x := .ref it) rfl (?_))
    refine wpAny_bind (next_end (show X.A.in1.handled = none from I.ok.hd hc) hit p1 (by simp; omega) fun h' x he' hx' => ?_)
    obtain ⟨o, ho, hcl⟩ := hx'
    refine wpAny_bind (wpAny_isInstance (T := "StopIteration") (b := true) ⟨o, ho, hcl⟩ isSubtype_stop (?_))
    exact wpAny_pure ⟨rfl, I.turned (t' := s.toks) (fun b o hb q => he' b o hb q) f0 f1 f3 f4 f5⟩
  self := fun A i s Q E st h => let ⟨⟨_, he⟩, _⟩ := st; wpAny_pyIter_enum (he) h
theorem me_new (k : Bool) (l : Addr) (o : Obj) (xs : Array Value) :
    Meets (Builtin.«enumerate.__new__» ⟨[.type "enumerate", .ref l], []⟩) (fun _ R s => SS k s.heap l xs ∧
      R (.ok (.ret (.ref (zH1 k s.heap l).objs.size))) { s with heap := (zH1 k s.heap l).push { cls := .type "enumerate", data := .fields #[.none, .bool false, .ref s.heap.objs.size, rawInt 0, .none, .none] } }) :=
  .of_wp fun prog w A R s h => by
    obtain ⟨hp, g, d, tk, os⟩ := s
    obtain ⟨hl, h⟩ := h
    have hsub := sub_enumerate
    have L1 : SS k (Shared.heap ⟨hp, g, d, tk, os⟩) l xs := hl
    have LL : ∃ o, (Shared.heap ⟨hp, g, d, tk, os⟩).get? l = some o := by
      cases k with
      | true => obtain ⟨o, e, _⟩ := L1; exact ⟨o, e⟩
      | false => obtain ⟨o, e, _⟩ := L1; exact ⟨o, e⟩
    obtain ⟨o1, LO⟩ := LL
    wp_walk using AutoSeq1.wpAny_loadPart' LO
    refine wpAny_stack_any fun st => (wpAny_pure ?_)
    split
    · rename_i c _ _ _ _ _
      cases (c == Value.type "enumerate")
      · wp_walk using AutoSeq1.wpAny_loadPart' LO, iter_s L1
        exact ⟨_, rfl, h⟩
      · wp_walk using AutoSeq1.wpAny_loadPart' LO, iter_s L1
        exact ⟨_, rfl, h⟩
    · wp_walk using AutoSeq1.wpAny_loadPart' LO, iter_s L1
      exact ⟨_, rfl, h⟩
theorem call_eX {prog : Program} {w : World} {A : Around} {E : Value → Shared → Prop} {s : Shared} {k : Bool} {l : Addr} {xs : Array Value} {Q : Value → Shared → Prop} (hL : SS k s.heap l xs)
    (h : ∀ h', IsEnum h' (s.heap.objs.size + 1) s.heap.objs.size 0 .none → SI k h' s.heap.objs.size l 0 → (∀ b o, s.heap.get? b = some o → h'.get? b = some o) → Q (.ref (s.heap.objs.size + 1)) { s with heap := h' }) :
    wpAny (model prog w) A (call (.type "enumerate") [.ref l]) Q E s := by
  refine callType_new F.called_enumerate (by decide) (F.typeCall_enumerate_1 _) (F.newCall_enumerate_1 _) (fun obj => F.args_object_init_2 obj _) F.entry_enumerate_new (me_new k l { cls := .none } xs) ⟨hL, ?_⟩
  have hz : (zH1 k s.heap l).objs.size = s.heap.objs.size + 1 := Heap.size_push ..
  show _ ∧ _
  rw [hz]
  have he : IsEnum ((zH1 k s.heap l).push { cls := .type "enumerate", data := .fields #[.none, .bool false, .ref s.heap.objs.size, rawInt 0, .none, .none] }) (s.heap.objs.size + 1) s.heap.objs.size 0 .none := by
    have := Heap.get?_push_size (zH1 k s.heap l) (o := { cls := .type "enumerate", data := .fields #[.none, .bool false, .ref s.heap.objs.size, rawInt 0, .none, .none] }) rfl
    rw [hz] at this
    exact this
  exact ⟨⟨_, he, rfl⟩, h _ he (SI.new (Heap.get?_push_of_some _ (Heap.get?_push_size _ rfl))) fun b o x => Heap.get?_push_of_some _ (Heap.get?_push_of_some _ x)⟩
def iEX (K : PySem.W.Frag) (ta : TA) : TI := fun σ H R => ta σ H fun vs H1 => ∃ k a xs, vs = [.ref a] ∧ SQ k K H1 a xs ∧ R (IeX k K a) H1
theorem pi_eX {X : Cx} {e : Expr} {ta : TA} {p pos tpos : Pos} {elts : List Expr} {kk : Nat} (hg : Gl X "enumerate") (hm : X.mg "enumerate" = none) (ha : PA X [e] ta) (hs : starEach [e] X.env = [(false, eval e X.env)] := by rfl) : PI X (.Tuple elts kk tpos) (.Call (.Name "enumerate" p) [e] [] pos) (iEX X.K ta) := by
  refine ⟨fun pins s σ H R I h => ?_⟩
  refine Call_ (ld_blt I hg hm boot_enumerate (PyProof.Rows.callWith_type1 (thn (ha.run pos pins s σ H _ I h) (fun us s1 ⟨vs, H1, I1, r1, q1⟩ => ?_)) hs rfl))
  obtain ⟨k, a, xs, ex, hq, q⟩ := q1
  subst ex
  cases r1 with
  | cons r rr =>
    cases rr
    cases r
    obtain ⟨its, rv, p1⟩ := sq_is I1 hq
    refine call_eX p1 fun h' he hit hk => wpAny_pyIter_enum he ?_
    have I2 : Inv X pins σ H1 { s1 with heap := h' } := I1.kept (t' := s1.toks) (hk)
    refine ⟨s1.heap.objs.size + 1, [s1.heap.objs.size + 1, s1.heap.objs.size], _, _, H1, rfl, I2, turn_eX a (s1.heap.objs.size + 1) s1.heap.objs.size, ⟨⟨.none, he⟩, hit, Nat.succ_ne_self _, Nat.ne_of_lt p1.lt, Nat.ne_of_gt (Nat.lt_succ_of_lt p1.lt)⟩, fun b hb => ?_, q⟩
    have hle : s1.heap.objs.size ≤ b := by
      simp only [List.mem_cons, List.not_mem_nil, or_false] at hb
      rcases hb with z | z <;> rw [z]
      · exact Nat.le_add_right _ _
      · exact Nat.le_refl _
    exact I1.fpOk hle (I1.hok.fresh hle)
/-! ### the rules -/
section
variable {B : Tb} {X : Cx} {W : WX} {e a b : Expr} {p pos : Pos} {te ta tb : DE}
/-- a list or a tuple of data stands there -/
theorem rep_sq {K : PySem.W.Frag} {c : Cn} {v : V} {d : D} {ds : List D} (r : Rep B K c v d) (e : seqD d = some ds) : ∃ k a vs, v = .ref a ∧ Reps B K c vs ds ∧ ∀ c' g' H', Le c c' → Fine B K c' g' H' → SQ k K H' a vs := by
  cases d <;> simp only [seqD, Option.some.injEq, reduceCtorEq] at e <;> subst e
  · cases r with
    | lst h rs => exact ⟨false, _, _, rfl, rs, fun c' g' H' e k => SqL.of (k.sub _ _ (e.F _ _ h))⟩
  · cases r with
    | tup h rs => exact ⟨true, _, _, rfl, rs, fun c' g' H' e k => Evl.ex_t k.sub (Evl.ex_t e.F h)⟩
def dEnumX (te : DE) : DI := fun ρ g Q Z => te ρ g (fun x g1 => ∃ ds, seqD x = some ds ∧ Q (numbered ds) g1) Z
theorem wi_enumX {elts : List Expr} {kk : Nat} {tpos : Pos} (hg : Gl X "enumerate") (hm : X.mg "enumerate" = none) (he : WE B X W e te) (hs : starEach [e] X.env = [(false, eval e X.env)] := by rfl) : WI B X W (.Tuple elts kk tpos) (.Call (.Name "enumerate" p) [e] [] pos) (dEnumX te) := by
  refine ⟨fun c g ρ σ H Q Z k r q z => semI_of (pi_eX hg hm (pa_cons pe_sem pa_nil hs) hs) ?_⟩
  refine (he.run c g ρ σ H _ Z k r q z).mono fun v H1 ⟨c1, g1, d, s1, k1, rr, ds, e1, q1⟩ => ?_
  obtain ⟨kd, a, vs, rfl, rs, hsq⟩ := rep_sq rr e1
  refine ⟨kd, a, vs, rfl, hsq _ _ _ (Le.refl _) k1, c1, g1, _, s1, k1, fun c' g' H' e k => ?_, q1⟩
  have hl := hsq c' g' H' e k
  refine ⟨fun i d hi => ?_, ⟨vs, hl, by rw [numbered_length]; exact Nat.le_of_eq rs.length⟩⟩
  obtain ⟨x, h1, h2⟩ := numbered_get hi
  subst h2
  obtain ⟨v, h3, h4⟩ := rs.getD h1
  refine ⟨⟨vs, v, hl, h3⟩, fun y H2 ⟨T, x', e1, hT, e2, e3⟩ => ?_⟩
  have h5 := e3 vs hl
  rw [h3] at h5
  cases h5
  subst e1 e2
  obtain ⟨s4, k4⟩ := k.lay (o := .tup [.int (i : Nat), v]) hT
  exact ⟨_, s4, k4, .tup (SqT.of upd_same) (.cons (.int _) (.cons ((h4.mono e).mono s4.le) .nil))⟩
def dZipX (ta tb : DE) : DI := fun ρ g Q Z => ta ρ g (fun x g1 => tb ρ g1 (fun y g2 => ∃ xs ys, seqD x = some xs ∧ seqD y = some ys ∧ Q (zipped xs ys) g2) Z) Z
theorem wi_zipX {elts : List Expr} {kk : Nat} {tpos : Pos} (hg : Gl X "zip") (hm : X.mg "zip" = none) (ha : WE B X W a ta) (hb : WE B X W b tb) (hs : starEach [a, b] X.env = (false, eval a X.env) :: starEach [b] X.env := by rfl) (hs2 : starEach [b] X.env = (false, eval b X.env) :: starEach [] X.env := by rfl)
    (hpl : (backTo pos (starEach [b] X.env)).any (·.1) = false := by rfl) : WI B X W (.Tuple elts kk tpos) (.Call (.Name "zip" p) [a, b] [] pos) (dZipX ta tb) := by
  refine ⟨fun c g ρ σ H Q Z k r q z => semI_of (pi_zX hg hm (pa_cons pe_sem (pa_cons pe_sem pa_nil hs2) hs) hs hpl) ?_⟩
  refine two ha hb k r q z fun x y v u c2 g2 H2 s2 k2 r1 r2 ⟨xs, ys, e1, e2, q2⟩ => ?_
  obtain ⟨ka, a1, vs1, rfl, rs1, hsq1⟩ := rep_sq r1 e1
  obtain ⟨kb, a2, vs2, rfl, rs2, hsq2⟩ := rep_sq r2 e2
  refine ⟨ka, kb, a1, a2, vs1, vs2, rfl, hsq1 _ _ _ (Le.refl _) k2, hsq2 _ _ _ (Le.refl _) k2, c2, g2, _, s2, k2, fun c' g' H' e k => ?_, q2⟩
  have hl1 := hsq1 c' g' H' e k
  have hl2 := hsq2 c' g' H' e k
  refine ⟨fun i d hi => ?_, ⟨vs1, vs2, hl1, hl2, ?_⟩⟩
  · unfold zipped at hi
    rw [List.getElem?_zipWith] at hi
    cases ex : xs[i]? with
    | none => rw [ex] at hi; cases ey : ys[i]? <;> rw [ey] at hi <;> cases hi
    | some x =>
      cases ey : ys[i]? with
      | none => rw [ex, ey] at hi; cases hi
      | some y =>
        rw [ex, ey] at hi
        cases hi
        obtain ⟨v1, f1, f2⟩ := rs1.getD ex
        obtain ⟨v2, f3, f4⟩ := rs2.getD ey
        refine ⟨⟨vs1, vs2, v1, v2, hl1, hl2, f1, f3⟩, fun w H3 ⟨T, x', y', e1, hT, e2, e3, e4⟩ => ?_⟩
        have h5 := e3 vs1 hl1
        rw [f1] at h5
        cases h5
        have h6 := e4 vs2 hl2
        rw [f3] at h6
        cases h6
        subst e1 e2
        obtain ⟨s4, k4⟩ := k.lay (o := .tup [v1, v2]) hT
        exact ⟨_, s4, k4, .tup (SqT.of upd_same) (.cons ((f2.mono e).mono s4.le) (.cons ((f4.mono e).mono s4.le) .nil))⟩
  · have l1 := rs1.length
    have l2 := rs2.length
    unfold zipped
    rw [List.length_zipWith]
    omega
variable {fe fa fb : DEnv → R D}
def fEnumX (fe : DEnv → R D) (ρ : DEnv) : R (List D) := (fe ρ).bind fun x => (ofO (seqD x)).bind fun ds => .ok (numbered ds)
theorem pu_enumX (he : PuE te fe) : PuI (dEnumX te) (fEnumX fe) := fun ρ g Q Z hg h => he ρ g _ Z hg (R.thn h fun x _ h => by
  obtain ⟨k, e, h⟩ := sat_ofO (R.sat_bind h)
  exact ⟨k, e, h⟩)
def fZipX (fa fb : DEnv → R D) (ρ : DEnv) : R (List D) := (fa ρ).bind fun x => (fb ρ).bind fun y => (ofO (seqD x)).bind fun xs => (ofO (seqD y)).bind fun ys => .ok (zipped xs ys)
theorem pu_zipX (ha : PuE ta fa) (hb : PuE tb fb) : PuI (dZipX ta tb) (fZipX fa fb) := fun ρ g Q Z hg h => ha ρ g _ Z hg (R.thn h fun x _ h => hb ρ g _ Z hg (R.thn h fun y _ h => by
  obtain ⟨i, e1, h⟩ := sat_ofO (R.sat_bind h)
  obtain ⟨j, e2, h⟩ := sat_ofO (R.sat_bind h)
  exact ⟨i, j, e1, e2, h⟩))
end
end DL

namespace DL
open PySem L2
/-! ### how functions are worked out -/
theorem bind_c {α β : Type} {r r' : R α} {k : α → R β} (h : r = r') : R.bind r k = R.bind r' k := by rw [h]
theorem fl_c {α : Type} {r r' : R α} {ρ : SEnv} {k : α → Fl} (h : r = r') : R.fl r ρ k = R.fl r' ρ k := by rw [h]
theorem seq_c {r r' : Fl} {k : SEnv → Fl} (h : r = r') : Fl.seq r k = Fl.seq r' k := by rw [h]
theorem bind_ok {α β : Type} {a : α} {k : α → R β} : R.bind (.ok a) k = k a := id rfl
theorem bind_ex {α β : Type} {e : Exn} {k : α → R β} : R.bind (.ex e) k = .ex e := id rfl
theorem fl_ok {α : Type} {a : α} {ρ : SEnv} {k : α → Fl} : R.fl (.ok a) ρ k = k a := id rfl
theorem fl_ex {α : Type} {e : Exn} {ρ : SEnv} {k : α → Fl} : R.fl (.ex e : R α) ρ k = .ex e ρ := id rfl
theorem seq_nx {ρ : SEnv} {k : SEnv → Fl} : Fl.seq (.nx ρ) k = k ρ := id rfl
theorem seq_rt {d : D} {k : SEnv → Fl} : Fl.seq (.rt d) k = .rt d := id rfl
theorem seq_ex {e : Exn} {ρ : SEnv} {k : SEnv → Fl} : Fl.seq (.ex e ρ) k = .ex e ρ := id rfl
theorem ofO_some {α : Type} {a : α} : ofO (some a) = .ok a := id rfl
theorem quiet_ok {α : Type} {a : α} : R.quiet (.ok a) = .ok a := id rfl
theorem bl?_bl {b : Bool} : bl? (.bl b) = some b := rfl
theorem int?_int {i : Int} : int? (.int i) = some i := rfl
theorem seqD_lst {ds : List D} : seqD (.lst ds) = some ds := rfl
theorem seqD_tup {ds : List D} : seqD (.tup ds) = some ds := rfl
theorem out_nx {ρ : SEnv} : Fl.out (.nx ρ) = .ok .non := id rfl
theorem out_rt {d : D} : Fl.out (.rt d) = .ok d := id rfl
theorem out_ex {e : Exn} {ρ : SEnv} : Fl.out (.ex e ρ) = .ex e := id rfl
theorem var_0 {x : D} {ρ : DEnv} : fVar 0 (some x :: ρ) = .ok x := id rfl
theorem var_s {i : Nat} {o : Option D} {ρ : DEnv} : fVar (i + 1) (o :: ρ) = fVar i ρ := id rfl
theorem mask_nil : mask [] = [] := id rfl
theorem mask_fz {d : D} {ρ : SEnv} : mask (.fz d :: ρ) = some d :: mask ρ := id rfl
theorem mask_ow {d : List D} {ρ : SEnv} : mask (.ow d :: ρ) = (SV.ow d).mask :: mask ρ := id rfl
theorem mask_cons {x : SV} {ρ : SEnv} : mask (x :: ρ) = x.mask :: mask ρ := id rfl
theorem msk_fz {d : D} : (SV.fz d).mask = some d := id rfl
theorem nxt_if {fA : DEnv → R Bool} {f fu : SEnv → Fl} {ρ : SEnv} : fIfF fA f fu ρ = (fA (mask ρ)).fl ρ fun b => if b = true then f ρ else fu ρ := rfl
theorem chain_t {f f' : D → D → Option D} {fa fb fc : DEnv → R D} {ρ : DEnv} {x y : D} (h1 : fa ρ = .ok x) (h2 : fb ρ = .ok y) (h3 : f x y = some (.bl true)) : fChain f f' fa fb fc ρ = (fc ρ).bind fun w => ofO (f' y w) := by
  unfold fChain
  rw [h1, bind_ok, h2, bind_ok, h3]
  rfl
def chain2 (o : Option D) (k : R D) : R D := match o with
  | some (.bl b) => if b = true then k else .ok (.bl false)
  | _ => .no
theorem chain_e {f f' : D → D → Option D} {fa fb fc : DEnv → R D} {ρ : DEnv} : fChain f f' fa fb fc ρ = (fa ρ).bind fun x => (fb ρ).bind fun y => chain2 (f x y) ((fc ρ).bind fun w => ofO (f' y w)) := id rfl
theorem chain2_c {o o' : Option D} {k : R D} (h : o = o') : chain2 o k = chain2 o' k := by rw [h]
theorem chain2_bl {b : Bool} {k : R D} : chain2 (some (.bl b)) k = if b = true then k else .ok (.bl false) := id rfl
theorem lt_i {i j : Int} : ltA (.int i) (.int j) = some (.bl (decide (i < j))) := rfl
theorem le_i {i j : Int} : leA (.int i) (.int j) = some (.bl (decide (i ≤ j))) := rfl
theorem gt_i {i j : Int} : gtA (.int i) (.int j) = some (.bl (decide (j < i))) := rfl
theorem ge_i {i j : Int} : geA (.int i) (.int j) = some (.bl (decide (j ≤ i))) := rfl
theorem add_ii {i j : Int} : addD (.int i) (.int j) = some (.int (i + j)) := rfl
theorem sub_ii {i j : Int} : subD (.int i) (.int j) = some (.int (i - j)) := rfl
theorem len_l {ds : List D} : lenD [.lst ds] = some (.int ds.length) := rfl
theorem len_t {ds : List D} : lenD [.tup ds] = some (.int ds.length) := rfl
theorem tup_l {ds : List D} : tupleD [.lst ds] = some (.tup ds) := rfl
theorem tup_t {ds : List D} : tupleD [.tup ds] = some (.tup ds) := rfl
/-- the passes of a loop, one by one -/
def forK (tg : DG) (fb : SEnv → Fl) (ds : List D) : Fl → Fl
  | .nx ρ => forF tg fb ds ρ
  | .ct ρ => forF tg fb ds ρ
  | .bk ρ => .nx ρ
  | r => r
theorem for_nil {tg : DG} {fb : SEnv → Fl} {ρ : SEnv} : forF tg fb [] ρ = .nx ρ := id rfl
theorem for_cons {tg : DG} {fb : SEnv → Fl} {d : D} {ds : List D} {ρ ρ' : SEnv} (h : tg d ρ = some ρ') : forF tg fb (d :: ds) ρ = forK tg fb ds (fb ρ') := by
  conv => lhs; unfold forF
  rw [h]
  show (match fb ρ' with
    | .nx ρ'' => forF tg fb ds ρ''
    | .ct ρ'' => forF tg fb ds ρ''
    | .bk ρ'' => .nx ρ''
    | r => r) = _
  cases fb ρ' <;> rfl
theorem forK_nx {tg : DG} {fb : SEnv → Fl} {ds : List D} {ρ : SEnv} : forK tg fb ds (.nx ρ) = forF tg fb ds ρ := id rfl
theorem forK_rt {tg : DG} {fb : SEnv → Fl} {ds : List D} {d : D} : forK tg fb ds (.rt d) = .rt d := id rfl
/-- a loop that keeps something -/
theorem for_inv {tg : DG} {fb : SEnv → Fl} (P : SEnv → Prop) : ∀ (ds : List D) (ρ : SEnv), P ρ → (∀ d ∈ ds, ∀ ρ, P ρ → ∃ ρ' ρ'', tg d ρ = some ρ' ∧ fb ρ' = .nx ρ'' ∧ P ρ'') → ∃ ρ', forF tg fb ds ρ = .nx ρ' ∧ P ρ'
  | [], ρ, h, _ => ⟨ρ, rfl, h⟩
  | d :: ds, ρ, h, k => by
    obtain ⟨ρ', ρ'', e1, e2, h2⟩ := k d List.mem_cons_self ρ h
    obtain ⟨ρ3, e3, h3⟩ := for_inv P ds ρ'' h2 fun d' hd => k d' (List.mem_cons_of_mem _ hd)
    exact ⟨ρ3, by rw [for_cons e1, e2]; exact e3, h3⟩
/-- a comprehension, item by item -/
theorem lc_map {tg : DGp} {fA : DEnv → R Bool} {fe : DEnv → R D} {ρ : DEnv} {f : D → D} : ∀ (ds acc : List D), acc.length + ds.length < 1000 → (∀ d ∈ ds, ∃ ρ', tg d ρ = some ρ' ∧ fA ρ' = .ok true ∧ fe ρ' = .ok (f d)) → lcF tg fA fe ρ ds acc = .ok (acc ++ ds.map f)
  | [], acc, _, _ => by simp [lcF]
  | d :: ds, acc, hl, k => by
    rw [List.length_cons] at hl
    obtain ⟨ρ', e1, e2, e3⟩ := k d List.mem_cons_self
    have hz : 1000 < sizeLine := by decide
    have ih := lc_map (tg := tg) (fA := fA) (fe := fe) (ρ := ρ) (f := f) ds (acc ++ [f d]) (by rw [List.length_append, List.length_singleton]; omega) fun d' hd => k d' (List.mem_cons_of_mem _ hd)
    show ((ofO (tg d ρ)).bind fun ρ' => (fA ρ').bind fun b => if b = true then (fe ρ').bind fun y => if acc.length < sizeLine then lcF tg fA fe ρ ds (acc ++ [y]) else .no else lcF tg fA fe ρ ds acc) = _
    rw [e1, ofO_some, bind_ok, e2, bind_ok, if_pos rfl, e3, bind_ok, if_pos (by omega), ih]
    simp
/-- .. with a test -/
theorem lc_filter {tg : DGp} {fA : DEnv → R Bool} {fe : DEnv → R D} {ρ : DEnv} {f : D → D} {p : D → Bool} : ∀ (ds acc : List D), acc.length + ds.length < 1000 → (∀ d ∈ ds, ∃ ρ', tg d ρ = some ρ' ∧ fA ρ' = .ok (p d) ∧ (p d = true → fe ρ' = .ok (f d))) → lcF tg fA fe ρ ds acc = .ok (acc ++ (ds.filter p).map f)
  | [], acc, _, _ => by simp [lcF]
  | d :: ds, acc, hl, k => by
    rw [List.length_cons] at hl
    obtain ⟨ρ', e1, e2, e3⟩ := k d List.mem_cons_self
    have hz : 1000 < sizeLine := by decide
    show ((ofO (tg d ρ)).bind fun ρ' => (fA ρ').bind fun b => if b = true then (fe ρ').bind fun y => if acc.length < sizeLine then lcF tg fA fe ρ ds (acc ++ [y]) else .no else lcF tg fA fe ρ ds acc) = _
    rw [e1, ofO_some, bind_ok, e2, bind_ok]
    cases hp : p d with
    | true =>
      have ih := lc_filter (tg := tg) (fA := fA) (fe := fe) (ρ := ρ) (f := f) (p := p) ds (acc ++ [f d]) (by rw [List.length_append, List.length_singleton]; omega) fun d' hd => k d' (List.mem_cons_of_mem _ hd)
      rw [if_pos rfl, e3 hp, bind_ok, if_pos (by omega), ih, List.filter_cons, if_pos hp]
      simp
    | false =>
      have ih := lc_filter (tg := tg) (fA := fA) (fe := fe) (ρ := ρ) (f := f) (p := p) ds acc (by omega) fun d' hd => k d' (List.mem_cons_of_mem _ hd)
      rw [if_neg (by simp), ih, List.filter_cons, if_neg (by simp [hp])]
theorem fLc_ok {fi : DEnv → R (List D)} {tg : DGp} {fA : DEnv → R Bool} {fe : DEnv → R D} {vs : List Nat} {ρ : DEnv} {ds out : List D} (h1 : fi ρ = .ok ds) (h2 : lcF tg fA fe (wipeD ρ vs) ds [] = .ok out) : fLc fi tg fA fe vs ρ = .ok (.lst out) := by
  unfold fLc fLcO
  rw [h1, bind_ok, h2]
  rfl
theorem range1_ok {fe : DEnv → R D} {ρ : DEnv} {j : Int} (h : fe ρ = .ok (.int j)) (hf : fits62 j = true) : fRange1 fe ρ = .ok (rangeL 0 j.toNat) := by
  unfold fRange1
  rw [h, bind_ok, int?_int, ofO_some, bind_ok, if_pos hf]
theorem range2_ok {fa fb : DEnv → R D} {ρ : DEnv} {i j : Int} (h1 : fa ρ = .ok (.int i)) (h2 : fb ρ = .ok (.int j)) (hf : (fits62 i && fits62 j) = true) : fRange2 fa fb ρ = .ok (rangeL i (j - i).toNat) := by
  unfold fRange2
  rw [h1, bind_ok, h2, bind_ok, int?_int, ofO_some, bind_ok, int?_int, ofO_some, bind_ok, if_pos hf]
theorem fits_n {j : Int} (h0 : 0 ≤ j) (h1 : j < 1000000000) : fits62 j = true := by
  unfold fits62
  rw [Bool.and_eq_true, decide_eq_true_eq, decide_eq_true_eq]
  omega
theorem numbered_mem {xs : List D} {d : D} (h : d ∈ numbered xs) : ∃ i x, xs[i]? = some x ∧ d = .tup [.int (i : Nat), x] := by
  obtain ⟨i, hi⟩ := List.mem_iff_getElem?.mp h
  obtain ⟨x, h1, h2⟩ := numbered_get hi
  exact ⟨i, x, h1, h2⟩
end DL

namespace DL
open PySem L2
/-! ### whole numbers in lists and tuples, compared -/
abbrev dI (ns : List Int) : List D := ns.map D.int
abbrev pI (ns : List Int) : List PyData := ns.map PyData.int
theorem pys_i : ∀ ns : List Int, pys (dI ns) = some (pI ns)
  | [] => rfl
  | n :: ns => by simp only [List.map_cons, pys, D.py, pys_i ns]
theorem lay_i : ∀ ns : List Int, PyData.canLayAll0 (pI ns) = true
  | [] => by simp [PyData.canLayAll0]
  | n :: ns => by simp [PyData.canLayAll0, PyData.canLay0, lay_i ns]
theorem dep_i : ∀ ns : List Int, PyData.depthAll (pI ns) = 0
  | [] => by simp [PyData.depthAll]
  | n :: ns => by simp [PyData.depthAll, PyData.depth, dep_i ns]
theorem eqv_i : ∀ xs ys : List Int, PyData.eqvAll (pI xs) (pI ys) = decide (xs = ys)
  | [], [] => by simp [PyData.eqvAll]
  | [], y :: ys => by simp [PyData.eqvAll]
  | x :: xs, [] => by simp [PyData.eqvAll]
  | x :: xs, y :: ys => by
    simp only [List.map_cons, PyData.eqvAll, PyData.eqv, eqv_i xs ys]
    by_cases h : x = y <;> by_cases h2 : xs = ys <;> simp [h, h2]
theorem alike_i : ∀ xs ys : List Int, PySem.W.alikeAll (pI xs) (pI ys) = true
  | [], _ => by simp [PySem.W.alikeAll]
  | x :: xs, [] => by simp [PySem.W.alikeAll]
  | x :: xs, y :: ys => by simp [PySem.W.alikeAll, PySem.W.alike, alike_i xs ys]
/-- the data of a value, of no great depth -/
structure Pd (d : D) (p : PyData) : Prop where
  py : d.py = some p
  lay : p.canLay0 = true
  dep : p.depth ≤ 60
theorem Pd.sp {d : D} {p : PyData} (h : Pd d p) : SeqAt.shaped p = true := by
  unfold SeqAt.shaped
  rw [h.lay, Bool.true_and, decide_eq_true_eq]
  have := h.dep
  omega
theorem pd_int (i : Int) : Pd (.int i) (.int i) := ⟨rfl, by simp [PyData.canLay0], by simp [PyData.depth]⟩
theorem pd_bl (b : Bool) : Pd (.bl b) (.bool b) := ⟨rfl, by simp [PyData.canLay0], by simp [PyData.depth]⟩
theorem pd_tup (ns : List Int) : Pd (.tup (dI ns)) (.tuple (pI ns)) := ⟨by simp only [D.py, pys_i], by simp only [PyData.canLay0, lay_i], by simp only [PyData.depth, dep_i]; decide⟩
theorem pd_lst (ns : List Int) : Pd (.lst (dI ns)) (.list (pI ns)) := ⟨by simp only [D.py, pys_i], by simp only [PyData.canLay0, lay_i], by simp only [PyData.depth, dep_i]; decide⟩
theorem pd_pair {x y : D} {p q : PyData} (hx : Pd x p) (hy : Pd y q) (h1 : p.depth ≤ 30) (h2 : q.depth ≤ 30) : Pd (.tup [x, y]) (.tuple [p, q]) :=
  ⟨by simp only [D.py, pys, hx.py, hy.py], by simp only [PyData.canLay0, PyData.canLayAll0, hx.lay, hy.lay]; rfl, by simp only [PyData.depth, PyData.depthAll]; omega⟩
def noStr : D → Bool
  | .str _ => false
  | _ => true
theorem eqA_pd {x y : D} {p q : PyData} {neg : Bool} (hx : Pd x p) (hy : Pd y q) (h : noStr x = true) : eqA neg x y = some (.bl (if neg = true then !PyData.eqv p q else PyData.eqv p q)) := by
  have e : eqA neg x y = eqD neg x y := by
    cases x <;> cases y <;> first | rfl | cases h
  rw [e]
  unfold eqD
  rw [hx.py, hy.py]
  show (if (SeqAt.shaped p && SeqAt.shaped q) = true then _ else none) = _
  rw [hx.sp, hy.sp, Bool.and_self, if_pos rfl]
theorem eqA_i {i j : Int} {neg : Bool} : eqA neg (.int i) (.int j) = some (.bl (if neg = true then !decide (i = j) else decide (i = j))) := by
  rw [eqA_pd (pd_int i) (pd_int j) rfl]
  simp only [PyData.eqv]
  rw [show (i == j) = decide (i = j) from by by_cases h : i = j <;> simp [h]]
theorem eqA_b {i j : Bool} {neg : Bool} : eqA neg (.bl i) (.bl j) = some (.bl (if neg = true then !(i == j) else (i == j))) := by
  rw [eqA_pd (pd_bl i) (pd_bl j) rfl]
  simp only [PyData.eqv]
theorem eqA_t {xs ys : List Int} {neg : Bool} : eqA neg (.tup (dI xs)) (.tup (dI ys)) = some (.bl (if neg = true then !decide (xs = ys) else decide (xs = ys))) := by
  rw [eqA_pd (pd_tup xs) (pd_tup ys) rfl]
  simp only [PyData.eqv, eqv_i]
theorem eqA_l {xs ys : List Int} {neg : Bool} : eqA neg (.lst (dI xs)) (.lst (dI ys)) = some (.bl (if neg = true then !decide (xs = ys) else decide (xs = ys))) := by
  rw [eqA_pd (pd_lst xs) (pd_lst ys) rfl]
  simp only [PyData.eqv, eqv_i]
theorem lt_row (xs ys : List Int) : PySem.W.dataLt (.tuple (pI xs)) (.tuple (pI ys)) = decide (xs < ys) := by
  rw [PySem.W.dataLt_tuple]
  exact PySem.W.dataLt_ints xs ys
theorem alike_t (xs ys : List Int) : PySem.W.alike (.tuple (pI xs)) (.tuple (pI ys)) = true := by simp only [PySem.W.alike, alike_i]
/-- (xs, v) < (ys, u) -/
theorem lt_tv (xs ys : List Int) (v u : Int) : PySem.W.dataLt (.tuple [.tuple (pI xs), .int v]) (.tuple [.tuple (pI ys), .int u]) = decide (xs < ys ∨ (xs = ys ∧ v < u)) := by
  rw [PySem.W.dataLt_pair (alike_t xs ys) (by simp only [PySem.W.alike]), PySem.W.dataLt_int, lt_row]
  simp only [PyData.eqv, eqv_i, decide_eq_true_eq, beq_iff_eq]
  by_cases h : xs = ys
  · subst h
    have := List.lt_irrefl xs
    by_cases h2 : v = u
    · subst h2; simp [this]
    · simp [this, h2]
  · simp [h]
/-- (xs, as) < (ys, bs) -/
theorem lt_tt (xs ys as bs : List Int) : PySem.W.dataLt (.tuple [.tuple (pI xs), .tuple (pI as)]) (.tuple [.tuple (pI ys), .tuple (pI bs)]) = decide (xs < ys ∨ (xs = ys ∧ as < bs)) := by
  rw [PySem.W.dataLt_pair (alike_t xs ys) (alike_t as bs), lt_row, lt_row]
  simp only [PyData.eqv, eqv_i, decide_eq_true_eq]
  by_cases h : xs = ys
  · subst h
    have := List.lt_irrefl xs
    by_cases h2 : as = bs
    · subst h2
      have := List.lt_irrefl as
      simp [*]
    · simp [this, h2]
  · simp [h]
theorem cmpX_pd {f : PyData → PyData → Bool} {x y : D} {p q : PyData} (hx : Pd x p) (hy : Pd y q) (ha : PySem.W.alike p q = true) (hn : isNo p = false) : cmpX f x y = some (.bl (f p q)) := by
  unfold cmpX
  rw [hx.py, hy.py]
  show (if (PySem.W.alike p q && !isNo p && decide (p.depth ≤ 60)) = true then _ else none) = _
  rw [ha, hn, decide_eq_true hx.dep]
  rfl
theorem ltA_t {xs ys : List D} : ltA (.tup xs) (.tup ys) = cmpX (fun p q => PySem.W.dataLt p q) (.tup xs) (.tup ys) := rfl
theorem gtA_t {xs ys : List D} : gtA (.tup xs) (.tup ys) = cmpX (fun p q => PySem.W.dataLt q p) (.tup xs) (.tup ys) := rfl
theorem leA_t {xs ys : List D} : leA (.tup xs) (.tup ys) = cmpX (fun p q => !PySem.W.dataLt q p) (.tup xs) (.tup ys) := rfl
theorem geA_t {xs ys : List D} : geA (.tup xs) (.tup ys) = cmpX (fun p q => !PySem.W.dataLt p q) (.tup xs) (.tup ys) := rfl
/-- an item of a list, of a tuple -/
theorem at_n {xs : List D} {i : Nat} {d : D} (h : xs[i]? = some d) : atI xs (i : Nat) = some d := by
  have hl := (List.getElem?_eq_some_iff.mp h).1
  unfold atI ixN
  rw [if_pos (by omega), if_pos (by omega), Option.bind_some, Int.toNat_natCast, h]
theorem ix_l {xs : List D} {i : Nat} {d : D} (h : xs[i]? = some d) : ixA (.lst xs) (.int (i : Nat)) = some d := at_n h
theorem ix_t {xs : List D} {i : Nat} {d : D} (h : xs[i]? = some d) : ixA (.tup xs) (.int (i : Nat)) = some d := at_n h
theorem ix_s {x : D} {xs : List D} {i : Nat} {d : D} (hs : seqD x = some xs) (h : xs[i]? = some d) : ixA x (.int (i : Nat)) = some d := by
  cases x <;> simp only [seqD, Option.some.injEq, reduceCtorEq] at hs <;> subst hs
  · exact ix_l h
  · exact ix_t h
theorem len_s {x : D} {xs : List D} (hs : seqD x = some xs) : lenD [x] = some (.int xs.length) := by
  cases x <;> simp only [seqD, Option.some.injEq, reduceCtorEq] at hs <;> subst hs <;> rfl
theorem tup_s {x : D} {xs : List D} (hs : seqD x = some xs) : tupleD [x] = some (.tup xs) := by
  cases x <;> simp only [seqD, Option.some.injEq, reduceCtorEq] at hs <;> subst hs <;> rfl
theorem get_i {ns : List Int} {i : Nat} {d : D} (h : (dI ns)[i]? = some d) : ∃ n, ns[i]? = some n ∧ d = .int n := by
  rw [List.getElem?_map, Option.map_eq_some_iff] at h
  obtain ⟨n, h1, h2⟩ := h
  exact ⟨n, h1, h2.symm⟩
theorem iget {ns : List Int} {i : Nat} {n : Int} (h : ns[i]? = some n) : (dI ns)[i]? = some (.int n) := by
  rw [List.getElem?_map, h]; rfl
end DL

namespace DL
open PySem L2
/-! ### comprehensions and loops that draw -/
abbrev gh (n cl : Nat) : Gh := ⟨true, n, [], cl⟩
/-- each item's value is one of P -/
inductive Each (P : D → D → Prop) : List D → List D → Prop
  | nil : Each P [] []
  | cons {d y : D} {ds ys : List D} : P d y → Each P ds ys → Each P (d :: ds) (y :: ys)
theorem Each.len {P : D → D → Prop} : ∀ {ds ys : List D}, Each P ds ys → ys.length = ds.length
  | _, _, .nil => rfl
  | _, _, .cons _ h => by rw [List.length_cons, List.length_cons, h.len]
theorem Each.all {P : D → D → Prop} {Q : D → Prop} (hq : ∀ d y, P d y → Q y) : ∀ {ds ys : List D}, Each P ds ys → ∀ y ∈ ys, Q y
  | _, _, .cons h t, y, hy => by
    rcases List.mem_cons.mp hy with rfl | hy
    · exact hq _ _ h
    · exact t.all hq y hy
theorem lcD_each {tg : DGp} {te : DE} {ρ : DEnv} {Q : List D → Gh → Prop} {P : D → D → Prop} {c lim cl : Nat} : ∀ (ds acc : List D) (n : Nat), n + c * ds.length ≤ lim → acc.length + ds.length < 1000 →
    (∀ d ∈ ds, ∃ ρ', tg d ρ = some ρ' ∧ ∀ n Φ, n + c ≤ lim → (∀ y m, P d y → m ≤ n + c → Φ y (gh m cl)) → te ρ' (gh n cl) Φ ZF) → (∀ ys m, Each P ds ys → m ≤ n + c * ds.length → Q (acc ++ ys) (gh m cl)) → lcD tg dYes te ρ Q ds acc (gh n cl)
  | [], acc, n, _, _, _, q => by
    have := q [] n .nil (by simp)
    rw [List.append_nil] at this
    exact this
  | d :: ds, acc, n, hn, hl, k, q => by
    rw [List.length_cons] at hn hl
    rw [Nat.mul_add, Nat.mul_one] at hn
    obtain ⟨ρ', e, h⟩ := k d List.mem_cons_self
    have hz : 1000 < sizeLine := by decide
    refine ⟨ρ', e, h n _ (by omega) fun y m hy hm => ⟨by omega, ?_⟩⟩
    refine lcD_each (c := c) (lim := lim) ds (acc ++ [y]) m (by omega) (by rw [List.length_append, List.length_singleton]; omega) (fun d' hd => k d' (List.mem_cons_of_mem _ hd)) fun ys m' hys hm' => ?_
    have := q (y :: ys) m' (.cons hy hys) (by rw [List.length_cons, Nat.mul_add, Nat.mul_one]; omega)
    rw [List.append_assoc]
    exact this
theorem forD_inv {tg : DG} {tb : DS} {En : DEnds} {c lim cl : Nat} (I : SEnv → Prop) : ∀ (ds : List D) (ρ : SEnv) (n : Nat), n + c * ds.length ≤ lim → I ρ →
    (∀ d ∈ ds, ∀ ρ n, I ρ → n + c ≤ lim → ∃ ρ', tg d ρ = some ρ' ∧ ∀ K : SEnv → Gh → Prop, (∀ ρ'' m, I ρ'' → m ≤ n + c → K ρ'' (gh m cl)) → tb { En with nx := K, ct := K, bk := En.nx } ρ' (gh n cl)) → (∀ ρ' m, I ρ' → m ≤ n + c * ds.length → En.nx ρ' (gh m cl)) → forD tg tb En ds ρ (gh n cl)
  | [], ρ, n, _, hi, _, q => q ρ n hi (by simp)
  | d :: ds, ρ, n, hn, hi, k, q => by
    rw [List.length_cons] at hn q
    rw [Nat.mul_add, Nat.mul_one] at hn q
    obtain ⟨ρ', e, h⟩ := k d List.mem_cons_self ρ n hi (by omega)
    refine ⟨ρ', e, h _ fun ρ'' m hi' hm => ?_⟩
    exact forD_inv (c := c) (lim := lim) I ds ρ'' m (by omega) hi' (fun d' hd => k d' (List.mem_cons_of_mem _ hd)) fun ρ3 m' hi3 hm' => q ρ3 m' hi3 (by omega)
/-- with the number of the pass -/
theorem forD_at {tg : DG} {tb : DS} {En : DEnds} {c lim cl : Nat} (I : Nat → SEnv → Prop) : ∀ (ds : List D) (k0 : Nat) (ρ : SEnv) (n : Nat), n + c * ds.length ≤ lim → I k0 ρ →
    (∀ k d, ds[k]? = some d → ∀ ρ n, I (k0 + k) ρ → n + c ≤ lim → ∃ ρ', tg d ρ = some ρ' ∧ ∀ K : SEnv → Gh → Prop, (∀ ρ'' m, I (k0 + k + 1) ρ'' → m ≤ n + c → K ρ'' (gh m cl)) → tb { En with nx := K, ct := K, bk := En.nx } ρ' (gh n cl)) → (∀ ρ' m, I (k0 + ds.length) ρ' → m ≤ n + c * ds.length → En.nx ρ' (gh m cl)) → forD tg tb En ds ρ (gh n cl)
  | [], k0, ρ, n, _, hi, _, q => q ρ n hi (by simp)
  | d :: ds, k0, ρ, n, hn, hi, k, q => by
    rw [List.length_cons] at hn q
    rw [Nat.mul_add, Nat.mul_one] at hn q
    obtain ⟨ρ', e, h⟩ := k 0 d rfl ρ n hi (by omega)
    refine ⟨ρ', e, h _ fun ρ'' m hi' hm => ?_⟩
    refine forD_at (c := c) (lim := lim) I ds (k0 + 1) ρ'' m (by omega) hi' (fun j d' hd ρ n hi hn => ?_) fun ρ3 m' hi3 hm' => q ρ3 m' (by rw [show k0 + (ds.length + 1) = k0 + 1 + ds.length by omega]; exact hi3) (by omega)
    have := k (j + 1) d' (by simpa using hd) ρ n (by rw [show k0 + (j + 1) = k0 + 1 + j by omega]; exact hi) hn
    rw [show k0 + (j + 1) + 1 = k0 + 1 + j + 1 by omega] at this
    exact this
theorem range_mem {lo : Int} {n : Nat} {d : D} (h : d ∈ rangeL lo n) : ∃ i : Nat, i < n ∧ d = .int (lo + i) := by
  unfold rangeL at h
  obtain ⟨i, hi, rfl⟩ := List.mem_map.mp h
  exact ⟨i, List.mem_range.mp hi, rfl⟩
theorem range_len {lo : Int} {n : Nat} : (rangeL lo n).length = n := by simp [rangeL]
theorem add_l {xs ys : List D} (h : xs.length + ys.length < 1000) : addD (.lst xs) (.lst ys) = some (.lst (xs ++ ys)) := by
  have : 1000 < sizeLine := by decide
  show (if xs.length + ys.length ≤ sizeLine then _ else _) = _
  rw [if_pos (by omega)]
theorem cut_take {xs : List D} {k : Int} (h0 : 0 ≤ k) (h1 : k ≤ xs.length) : cutL xs none (some k) = xs.take k.toNat := by
  have e : HT.sIx xs.length xs.length (some k) = k.toNat := by
    show (if k < 0 then _ else min k.toNat xs.length) = _
    rw [if_neg (by omega)]
    omega
  unfold cutL
  rw [e]
  simp [HT.sIx]
theorem cut_drop {xs : List D} {k : Int} (h0 : 0 ≤ k) (h1 : k ≤ xs.length) : cutL xs (some k) none = xs.drop k.toNat := by
  have e : HT.sIx xs.length 0 (some k) = k.toNat := by
    show (if k < 0 then _ else min k.toNat xs.length) = _
    rw [if_neg (by omega)]
    omega
  unfold cutL
  rw [e]
  show List.take (xs.length - k.toNat) (List.drop k.toNat xs) = _
  rw [List.take_of_length_le (by rw [List.length_drop]; exact Nat.le_refl _)]
theorem sl_take {xs : List D} {k : Int} (h0 : 0 ≤ k) (h1 : k ≤ xs.length) : slD (.lst xs) none (some k) = some (.lst (xs.take k.toNat)) := by
  show some (D.lst (cutL xs none (some k))) = _
  rw [cut_take h0 h1]
theorem sl_drop {xs : List D} {k : Int} (h0 : 0 ≤ k) (h1 : k ≤ xs.length) : slD (.lst xs) (some k) none = some (.lst (xs.drop k.toNat)) := by
  show some (D.lst (cutL xs (some k) none)) = _
  rw [cut_drop h0 h1]
end DL

namespace DL
open PySem L2 PyProof.Rows
/-! ### y = xs[e], xs a list of ours -/
section
variable {B : Tb} {X : Cx} {W : WX} {H₀ : En} {e : Expr} {te : DE} {pos : Pos}
def dSetIxS (i j : Nat) (te : DE) : DS := fun En ρ g => ∃ ds, ρ[j]? = some (.ow ds) ∧ te (snap ρ) g (fun x g' => okG g g' = true ∧ ∃ k d, x = .int k ∧ atI ds k = some d ∧ En.nx (ρ.set i (.fz d)) g') fun ex g' => okG g g' = true ∧ nlf ex.fs = true ∧ En.xz ex ρ g'
theorem ws_setIxS {i j : Nat} {x y : Str} {pos' py spos : Pos} (hN : X.N.Nodup) (hi : X.N[i]? = some x) (hx : Loc X.env.scope x) (hv : PE X (.Name y py) (tVar j)) (he : WE B X W e te) (hp : PlainIx e := by exact fun _ _ => rfl)
    (hs : swapsWith (.Subscript (.Name y py) e spos) (some (.Name x pos')) pos.line X.env = pure false := by rfl) (hf : X.fn x = true ∨ X.env.scope.names.lookup x = some .local := by first | exact .inl rfl | exact .inr rfl) :
    WS B X W H₀ (.Assign [.Name x pos'] (.Subscript (.Name y py) e spos) pos) (dSetIxS i j te) := by
  refine ⟨fun c₀ c g ρ σ H D r q z => semS_of (ps_set hN hi hx (pe_ix ix_seq hv pe_sem hp) hs hf) ?_⟩
  obtain ⟨ds, h0, q⟩ := q
  obtain ⟨p, vs, h1, h2, h3, _⟩ := r.ow j ds h0
  refine ⟨_, h1, ?_⟩
  refine (he.run _ g _ σ H _ _ r.snapFine r.snapRel q (r.zsnap z)).mono fun v H' ⟨c', g', d, s, k, rr, q1, kk, d', e1, e2, q'⟩ => ?_
  subst e1
  cases rr
  obtain ⟨r', n', gr⟩ := r.unsnap s k q1
  obtain ⟨w, e3, e4⟩ := h3.at e2
  have h5 : (snapC c ρ σ H).F p = some (.lst vs) := by
    show (if Owned ρ σ p then H p else c.F p) = _
    rw [if_pos ⟨j, ds, h0, h1⟩]; exact h2
  exact .inl ⟨p, vs, kk, w, rfl, rfl, SqL.of (k.sub _ _ (s.le.F _ _ h5)), e3, _, g', _, r'.set (e4.mono gr.le), q'⟩
def fSetIxS (i j : Nat) (fe : DEnv → R D) (ρ : SEnv) : Fl := match ρ[j]? with
  | some (.ow ds) => (fe (snap ρ)).fl ρ fun x => match x with
    | .int k => match atI ds k with
      | some d => .nx (ρ.set i (.fz d))
      | none => .no
    | _ => .no
  | _ => .no
end
end DL

namespace DL
open PySem L2 PyProof.Rows
/-! ### expressions beside lists of ours -/
abbrev DW := SEnv → Gh → DQ → DZ → Prop
abbrev DWs := SEnv → Gh → (List D → Gh → Prop) → DZ → Prop
section
variable (B : Tb) (X : Cx) (W : WX) (H₀ : En)
structure WEO (e : Expr) (t : DW) : Prop where
  run : ∀ (c₀ c : Cn) (g : Gh) (ρ : SEnv) (σ : L2.St) (H : Hp) (Q : DQ) (En : DEnds), RelS B X.K c₀ H₀ c g ρ σ H → t ρ g Q (fun ex g' => En.xz ex ρ g') → ZS B X.K c₀ H₀ W En → semE X e σ H fun v H' => ∃ c' g' d, RelS B X.K c₀ H₀ c' g' ρ σ H' ∧ Grow c H c' H' ∧ Rep B X.K c' v d ∧ Q d g'
structure WAO (es : List Expr) (t : DWs) : Prop where
  run : ∀ (c₀ c : Cn) (g : Gh) (ρ : SEnv) (σ : L2.St) (H : Hp) (Q : List D → Gh → Prop) (En : DEnds), RelS B X.K c₀ H₀ c g ρ σ H → t ρ g Q (fun ex g' => En.xz ex ρ g') → ZS B X.K c₀ H₀ W En → semA X es σ H fun vs H' => ∃ c' g' ds, RelS B X.K c₀ H₀ c' g' ρ σ H' ∧ Grow c H c' H' ∧ Reps B X.K c' vs ds ∧ ds.length = es.length ∧ Q ds g'
end
section
variable {B : Tb} {X : Cx} {W : WX} {H₀ : En} {e : Expr} {es : List Expr} {te : DE} {tw : DW} {tr : DWs} {p pos : Pos}
/-- nothing of ours is looked at -/
def dwI (te : DE) : DW := fun ρ g Q Z => te (mask ρ) g Q Z
theorem weo_in (h : WE B X W e te) : WEO B X W H₀ e (dwI te) := by
  refine ⟨fun c₀ c g ρ σ H Q En r q z => ?_⟩
  refine (h.run c g _ σ H Q _ r.fine r.mask q (r.zok z)).mono fun v H' ⟨c', g', d, s, k, rr, q'⟩ => ?_
  exact ⟨c', g', d, r.next s k, s, rr, q'⟩
/-- lists of ours are looked at, no list comes of it -/
def dwS (te : DE) : DW := fun ρ g Q Z => te (snap ρ) g (fun d g' => okG g g' = true ∧ nl d = true ∧ Q d g') fun ex g' => okG g g' = true ∧ nlf ex.fs = true ∧ Z ex g'
theorem weo_snap (h : WE B X W e te) : WEO B X W H₀ e (dwS te) := by
  refine ⟨fun c₀ c g ρ σ H Q En r q z => ?_⟩
  refine (h.run _ g _ σ H _ _ r.snapFine r.snapRel q (r.zsnap z)).mono fun v H' ⟨c', g', d, s, k, rr, q1, q2, q'⟩ => ?_
  obtain ⟨r', n', gr⟩ := r.unsnap s k q1
  exact ⟨_, g', d, r', gr, rr.nl n' q2, q'⟩
/-- an item of a list of ours -/
def dwIx (j : Nat) (tw : DW) : DW := fun ρ g Q Z => ∃ ds, ρ[j]? = some (.ow ds) ∧ tw ρ g (fun x g' => ∃ k d, x = .int k ∧ atI ds k = some d ∧ Q d g') Z
theorem weo_ix {j : Nat} {y : Str} (hv : PE X (.Name y p) (tVar j)) (he : WEO B X W H₀ e tw) (hp : PlainIx e := by exact fun _ _ => rfl) : WEO B X W H₀ (.Subscript (.Name y p) e pos) (dwIx j tw) := by
  refine ⟨fun c₀ c g ρ σ H Q En r q z => sem_of (pe_ix ix_seq hv pe_sem hp) ?_⟩
  obtain ⟨ds, h0, q⟩ := q
  obtain ⟨p, vs, h1, h2, h3, _⟩ := r.ow j ds h0
  refine ⟨_, h1, ?_⟩
  refine (he.run c₀ c g ρ σ H _ En r q z).mono fun v H' ⟨c', g', d, r', s, rr, kk, d', e1, e2, q'⟩ => ?_
  subst e1
  cases rr
  obtain ⟨p', vs', h1', h2', h3', _⟩ := r'.ow j ds h0
  rw [h1] at h1'
  cases h1'
  obtain ⟨w, e3, e4⟩ := h3'.at e2
  exact .inl ⟨_, vs', kk, w, rfl, rfl, SqL.of h2', e3, c', g', d', r', s, e4, q'⟩
def dwNil : DWs := fun ρ g Q Z => Q [] g
def dwCons (tw : DW) (tr : DWs) : DWs := fun ρ g Q Z => tw ρ g (fun x g1 => tr ρ g1 (fun xs g2 => Q (x :: xs) g2) Z) Z
theorem wao_nil : WAO B X W H₀ [] dwNil := ⟨fun c₀ c g ρ σ H Q En r q z => semA_of pa_nil ⟨c, g, [], r, Grow.refl _ _, .nil, rfl, q⟩⟩
theorem wao_cons (h : WEO B X W H₀ e tw) (hr : WAO B X W H₀ es tr) (hs : starEach (e :: es) X.env = (false, eval e X.env) :: starEach es X.env := by rfl) : WAO B X W H₀ (e :: es) (dwCons tw tr) := by
  refine ⟨fun c₀ c g ρ σ H Q En r q z => semA_of (pa_cons pe_sem pa_sem hs) ?_⟩
  refine (h.run c₀ c g ρ σ H _ En r q z).mono fun v H1 ⟨c1, g1, d, r1, s1, rr, q1⟩ => ?_
  refine (hr.run c₀ c1 g1 ρ σ H1 _ En r1 q1 z).mono fun vs H2 ⟨c2, g2, ds, r2, s2, rs, hn, q2⟩ => ?_
  exact ⟨c2, g2, d :: ds, r2, s1.trans s2, .cons (rr.mono s2.le) rs, congrArg (· + 1) hn, q2⟩
def dwCall (S : DSp) (tr : DWs) : DW := fun ρ g Q Z => tr ρ g (fun xs g1 => S xs g1 Q Z) Z
theorem weo_call {x : Str} {L ar : Nat} {S : DSp} (F : Fn B X.prog X.w X.K X.mg X.base L x ar S) (C : Ctx L X W) (hg : Gl X x) (ha : WAO B X W H₀ (e :: es) tr) (hn : (e :: es).length = ar := by rfl) (hdb : (x == ("__debug__" : Str)) = false := by decide) (he : starEach (e :: es) X.env = (false, eval e X.env) :: starEach es X.env := by rfl)
    (hpl : (backTo pos (starEach es X.env)).any (·.1) = false := by rfl) : WEO B X W H₀ (.Call (.Name x p) (e :: es) [] pos) (dwCall S tr) := by
  obtain ⟨f, fd, ps, G, hm, hk, hb⟩ := F.ex
  refine ⟨fun c₀ c g ρ σ H Q En r q z => sem_of (pe_callG (dvs := []) (ds := []) (E := fun σ => L2.WE W σ) G C.room C.gd hg hm hk hb .nil (fun σ => passAt C.tk σ) pa_sem hdb he hpl) ?_⟩
  refine (ha.run c₀ c g ρ σ H _ En r q z).mono fun vs H1 ⟨c1, g1, ds, r1, s1, rs, hl, q1⟩ => ?_
  show spOf B X.K ar S (vs ++ []) H1 _ _
  rw [List.append_nil]
  exact ⟨c1, g1, ds, Q, _, by rw [rs.length, hl]; exact hn, r1.fine, rs, q1, fun c' H' g' v d s2 k2 r2 q2 => ⟨c', g', d, r1.next s2 k2, s1.trans s2, r2, q2⟩, fun c' H' g' cls dd ex s2 k2 r2 q2 => z c' g' ρ σ H' ex cls dd (r1.next s2 k2) r2 q2⟩
/-! ### statements with them -/
def dSetW (i : Nat) (tw : DW) : DS := fun En ρ g => tw ρ g (fun d g' => En.nx (ρ.set i (.fz d)) g') fun ex g' => En.xz ex ρ g'
theorem ws_setW {i : Nat} {x : Str} {pos' : Pos} (hN : X.N.Nodup) (hi : X.N[i]? = some x) (hx : Loc X.env.scope x) (he : WEO B X W H₀ e tw) (hs : swapsWith e (some (.Name x pos')) pos.line X.env = pure false := by rfl)
    (hf : X.fn x = true ∨ X.env.scope.names.lookup x = some .local := by first | exact .inl rfl | exact .inr rfl) : WS B X W H₀ (.Assign [.Name x pos'] e pos) (dSetW i tw) := by
  refine ⟨fun c₀ c g ρ σ H En r q z => semS_of (ps_set hN hi hx pe_sem hs hf) ?_⟩
  refine (he.run c₀ c g ρ σ H _ En r q z).mono fun v H' ⟨c', g', d, r', s, rr, q'⟩ => ?_
  exact ⟨c', g', _, r'.set rr, q'⟩
def dAppendW (i : Nat) (tw : DW) : DS := fun En ρ g => ∃ ds, ρ[i]? = some (.ow ds) ∧ tw ρ g (fun d g' => ds.length < sizeLine ∧ En.nx (ρ.set i (.ow (ds ++ [d]))) g') fun ex g' => En.xz ex ρ g'
theorem ws_appendW {i : Nat} {x : Str} {px apos cpos : Pos} (hv : PE X (.Name x px) (tVar i)) (he : WEO B X W H₀ e tw)
    (hbase : attributeBase (.Name x px) "append" X.env (eval (.Name x px) X.env) = eval (.Name x px) X.env := by rfl)
    (hfew : ((backTo cpos (starEach [e] X.env)).all (fun x => !x.1) && (backToKw cpos (keywordEach [] X.env)).all (fun x => x.1.isSome) && decide ([e].length + ([] : List Keyword).length + (if ([] : List Keyword).isEmpty then 0 else 1) < 30)) = true := by rfl)
    (hline : (apos.endLine == cpos.line) = true := by rfl) (hs : starEach [e] X.env = (false, eval e X.env) :: starEach [] X.env := by rfl) (hsw : swapsWith (.Call (.Attribute (.Name x px) "append" apos) [e] [] cpos) none pos.line X.env = pure false := by rfl) :
    WS B X W H₀ (.Expr (.Call (.Attribute (.Name x px) "append" apos) [e] [] cpos) pos) (dAppendW i tw) := by
  refine ⟨fun c₀ c g ρ σ H En r q z => semS_of (ps_expr (pe_bm PySem.F.plainAttrs_list PySem.F.slot_list_append PySem.F.type_list_append mt_append hv (pa_cons pe_sem pa_nil hs) hbase hfew hline hs rfl) hsw) ?_⟩
  obtain ⟨ds0, h0, q⟩ := q
  obtain ⟨p, vs, h1, h2, h3, _⟩ := r.ow i ds0 h0
  refine ⟨_, h1, .inl ⟨rfl, vs, SqL.of h2⟩, ?_⟩
  refine (he.run c₀ c g ρ σ H _ En r q z).mono fun v H' ⟨c', g', d, r', s, rr, hl, q'⟩ => ?_
  obtain ⟨p', vs', h1', h2', h3', _⟩ := r'.ow i ds0 h0
  rw [h1] at h1'
  cases h1'
  exact ⟨_, vs', v, rfl, rfl, h2', by rw [h3'.length]; exact hl, c', g', _, r'.put h0 h1 (h3'.append (.cons rr .nil)), q'⟩
/-- xs[e2] = e, xs a list of ours -/
def dPutIx (i : Nat) (tw ti : DW) : DS := fun En ρ g => ∃ ds, ρ[i]? = some (.ow ds) ∧ tw ρ g (fun d g1 => ti ρ g1 (fun x g2 => ∃ k n, x = .int k ∧ ixN ds.length k = some n ∧ En.nx (ρ.set i (.ow (ds.set n d))) g2) fun ex g' => En.xz ex ρ g') fun ex g' => En.xz ex ρ g'
theorem Reps.put {K : PySem.W.Frag} {c : Cn} {v : V} {d : D} (rv : Rep B K c v d) : ∀ {vs : List V} {ds : List D} (n : Nat), Reps B K c vs ds → Reps B K c (vs.set n v) (ds.set n d)
  | _, _, _, .nil => .nil
  | _, _, 0, .cons _ t => .cons rv t
  | _, _, n + 1, .cons r t => .cons r (Reps.put rv n t)
theorem ws_putIx {i : Nat} {x : Str} {px spos : Pos} {e2 : Expr} {ti : DW} (hv : PE X (.Name x px) (tVar i)) (he : WEO B X W H₀ e tw) (hi : WEO B X W H₀ e2 ti)
    (ha : ∀ v, assign (.Subscript (.Name x px) e2 spos) X.env v = (do
      let ov ← holding [v] (eval (.Name x px) X.env)
      let iv ← holding [v, ov] (eval e2 X.env)
      standAt spos
      holding [v, ov, iv] (setItem ov iv v)
      release [v, ov, iv] []) := by intro _; rfl)
    (hs : swapsWithSole [.Subscript (.Name x px) e2 spos] e pos.line X.env = pure false := by rfl) (hw : swappedStores [.Subscript (.Name x px) e2 spos] e X.env = pure none := by rfl)
    (h1 : (assignEach [.Subscript (.Name x px) e2 spos] X.env).map (·.2) = [assign (.Subscript (.Name x px) e2 spos) X.env] := by rfl) : WS B X W H₀ (.Assign [.Subscript (.Name x px) e2 spos] e pos) (dPutIx i tw ti) := by
  refine ⟨fun c₀ c g ρ σ H En r q z => semS_of (ps_asg pe_sem (pg_sub hv pe_sem set_list ha) hs hw h1) ?_⟩
  obtain ⟨ds, h0, q⟩ := q
  obtain ⟨p, vs0, hp, _⟩ := r.ow i ds h0
  refine (he.run c₀ c g ρ σ H _ En r q z).mono fun v H1 ⟨c1, g1, d, r1, s1, rr, q1⟩ => ?_
  refine ⟨_, hp, ?_⟩
  refine (hi.run c₀ c1 g1 ρ σ H1 _ En r1 q1 z).mono fun y H2 ⟨c2, g2, x2, r2, s2, rr2, k, n, e1, e2, q2⟩ => ?_
  subst e1
  cases rr2
  obtain ⟨p', vs, h1', h2', h3', _⟩ := r2.ow i ds h0
  rw [hp] at h1'
  cases h1'
  exact ⟨_, vs, k, n, rfl, rfl, h2', by rw [h3'.length]; exact e2, c2, g2, _, r2.put h0 hp (Reps.put (rr.mono s2.le) n h3'), q2⟩
end
/-! ### max of a list -/
def intsD : List D → Option (List Int)
  | [] => some []
  | .int i :: ds => (intsD ds).map (i :: ·)
  | _ => none
theorem intsD_eq : ∀ {ds : List D} {ns : List Int}, intsD ds = some ns → ds = dI ns
  | [], ns, h => by cases h; rfl
  | d :: ds, ns, h => by
    cases d <;> simp only [intsD, reduceCtorEq] at h
    rw [Option.map_eq_some_iff] at h
    obtain ⟨ms, h1, rfl⟩ := h
    rw [intsD_eq h1]
    rfl
theorem intsD_i : ∀ ns : List Int, intsD (dI ns) = some ns
  | [] => rfl
  | n :: ns => by
    show (intsD (dI ns)).map (n :: ·) = _
    rw [intsD_i ns]; rfl
def maxI (m : Int) : List Int → Int
  | [] => m
  | n :: ns => maxI (if n > m then n else m) ns
theorem maxI_ge : ∀ (ns : List Int) (m : Int), m ≤ maxI m ns ∧ ∀ n ∈ ns, n ≤ maxI m ns
  | [], m => ⟨Int.le_refl _, fun n h => nomatch h⟩
  | k :: ns, m => by
    show m ≤ maxI (if k > m then k else m) ns ∧ ∀ n ∈ k :: ns, n ≤ maxI (if k > m then k else m) ns
    by_cases q : k > m
    · rw [if_pos q]
      obtain ⟨h1, h2⟩ := maxI_ge ns k
      refine ⟨by omega, fun n hn => ?_⟩
      rcases List.mem_cons.mp hn with e | hn
      · rw [e]; exact h1
      · exact h2 n hn
    · rw [if_neg q]
      obtain ⟨h1, h2⟩ := maxI_ge ns m
      refine ⟨h1, fun n hn => ?_⟩
      rcases List.mem_cons.mp hn with e | hn
      · rw [e]; omega
      · exact h2 n hn
theorem maxI_mem : ∀ (ns : List Int) (m : Int), maxI m ns = m ∨ maxI m ns ∈ ns
  | [], m => .inl rfl
  | k :: ns, m => by
    show maxI (if k > m then k else m) ns = m ∨ maxI (if k > m then k else m) ns ∈ k :: ns
    by_cases q : k > m
    · rw [if_pos q]
      rcases maxI_mem ns k with h | h
      · exact .inr (by rw [h]; exact List.mem_cons_self)
      · exact .inr (List.mem_cons_of_mem _ h)
    · rw [if_neg q]
      rcases maxI_mem ns m with h | h
      · exact .inl h
      · exact .inr (List.mem_cons_of_mem _ h)
def maxLD : List D → Option D
  | [.lst ds] => match intsD ds with
    | some (n :: ns) => some (.int (maxI n ns))
    | _ => none
  | _ => none
theorem reps_dI {B : Tb} {K : PySem.W.Frag} {c : Cn} : ∀ {ns : List Int} {vs : List V}, Reps B K c vs (dI ns) → vs = ns.map V.int
  | [], _, .nil => rfl
  | n :: ns, _, .cons r t => by
    cases r
    rw [reps_dI t]
    rfl
theorem gv_maxL {B : Tb} {X : Cx} : GivesC B X.K maxLD (rMax X.K) := by
  intro c g H xs z vs Q k r e q
  unfold maxLD at e
  split at e
  · rename_i ds
    split at e
    · rename_i n ns e2
      cases e
      have := intsD_eq e2
      subst this
      cases r with
      | cons r1 r2 =>
        cases r2
        cases r1 with
        | lst h rs =>
          have := reps_dI rs
          subst this
          refine ⟨_, n :: ns, rfl, SqL.of (k.sub _ _ h), by simp, fun m hm hy => ?_⟩
          have e3 : m = maxI n ns := by
            obtain ⟨g1, g2⟩ := maxI_ge ns n
            have a1 : maxI n ns ∈ n :: ns := by
              rcases maxI_mem ns n with h | h
              · rw [h]; exact List.mem_cons_self
              · exact List.mem_cons_of_mem _ h
            have a2 := hy _ a1
            have a3 : m ≤ maxI n ns := by
              rcases List.mem_cons.mp hm with rfl | hm
              · exact g1
              · exact g2 m hm
            omega
          rw [e3]
          exact done k (.int _) q
    · cases e
  · cases e
theorem e_maxL {B : Tb} {X : Cx} {W : WX} {L : Nat} {a : Expr} {ta : DE} {p pos : Pos} (C : Ctx L X W) (hg : Gl X "max") (hm : X.mg "max" = none) (ha : WE B X W a ta) (he : starEach [a] X.env = (false, eval a X.env) :: starEach [] X.env := by rfl) : WE B X W (.Call (.Name "max" p) [a] [] pos) (dFn maxLD (dCons ta dNil)) := we_callB (cr_max C.calm) gv_maxL hg hm Boot.«max» (wa_cons ha wa_nil he) (by decide) (by decide) he rfl
end DL

namespace DL
open PySem L2 PyProof.Rows
/-! ### own comparisons as tests -/
section
variable {B : Tb} {X : Cx} {W : WX} {L i : Nat} {m : Str} {S : DSp} {a b : Expr} {ta tb : DE} {pos : Pos} {op : CmpOp}
theorem wt_cmpO (F : MC B X.prog X.w X.K X.mg X.base L m i 1 S) (C : Ctx L X W) (hm : m = (cmpInfo op).2.1) (hop : ∀ a b, compareOp op a b = richCompare op a b) (ha : WE B X W a ta) (hb : WE B X W b tb) (hmk : behindInMarks op b = false := by rfl) : WT B X W (.Compare a [op] [b] pos) (dTest (dCmpO i S ta tb)) := by
  refine ⟨fun c g ρ σ H Q Z k rl h z => semT_of (pt_cmpR (op_ownD F C hm hop) pe_sem pe_sem hmk) ?_⟩
  refine two ha hb k rl h z fun x y v u c2 g2 H2 s2 k2 r1 r2 ⟨fs, gs, ex, ey, hS⟩ => ?_
  subst ex ey
  refine ⟨fs, gs, c2, g2, _, k2, .cons r1 (.cons r2 .nil), hS, fun c' H' g' v d s3 k3 r3 q3 => ?_⟩
  obtain ⟨b', eb, q⟩ := q3
  subst eb
  exact ⟨b', r3.blv, c', g', s2.trans s3, k3, q⟩
theorem wt_neO (F : MC B X.prog X.w X.K X.mg X.base L "__eq__" i 1 S) (N : NeC B X.K i) (C : Ctx (L + 1) X W) (ha : WE B X W a ta) (hb : WE B X W b tb) (hmk : behindInMarks .NotEq b = false := by rfl) : WT B X W (.Compare a [.NotEq] [b] pos) (dTest (dNeO i S ta tb)) := by
  refine ⟨fun c g ρ σ H Q Z k rl h z => semT_of (pt_cmpR (op_neO F N C) pe_sem pe_sem hmk) ?_⟩
  refine two ha hb k rl h z fun x y v u c2 g2 H2 s2 k2 r1 r2 ⟨fs, gs, ex, ey, hS⟩ => ?_
  subst ex ey
  refine ⟨fs, gs, c2, g2, _, k2, .cons r1 (.cons r2 .nil), hS, fun c' H' g' v d s3 k3 r3 ⟨r, ed, q3⟩ => ?_⟩
  subst ed
  cases r3
  obtain ⟨b', eb, q⟩ := q3
  cases eb
  exact ⟨r, rfl, !r, rfl, c', g', s2.trans s3, k3, q⟩
end
end DL

namespace DL
open PySem L2
/-! ### loops over what comes of other items -/
section
variable {α : Type} {g h : α → D} {p : α → Bool}
theorem lc_mapG {tg : DGp} {fA : DEnv → R Bool} {fe : DEnv → R D} {ρ : DEnv} : ∀ (xs : List α) (acc : List D), acc.length + xs.length < 1000 → (∀ x ∈ xs, ∃ ρ', tg (g x) ρ = some ρ' ∧ fA ρ' = .ok true ∧ fe ρ' = .ok (h x)) → lcF tg fA fe ρ (xs.map g) acc = .ok (acc ++ xs.map h)
  | [], acc, _, _ => by simp [lcF]
  | x :: xs, acc, hl, k => by
    rw [List.length_cons] at hl
    obtain ⟨ρ', e1, e2, e3⟩ := k x List.mem_cons_self
    have hz : 1000 < sizeLine := by decide
    have ih := lc_mapG (tg := tg) (fA := fA) (fe := fe) (ρ := ρ) xs (acc ++ [h x]) (by rw [List.length_append, List.length_singleton]; omega) fun d' hd => k d' (List.mem_cons_of_mem _ hd)
    show ((ofO (tg (g x) ρ)).bind fun ρ' => (fA ρ').bind fun b => if b = true then (fe ρ').bind fun y => if acc.length < sizeLine then lcF tg fA fe ρ (xs.map g) (acc ++ [y]) else .no else lcF tg fA fe ρ (xs.map g) acc) = _
    rw [e1, ofO_some, bind_ok, e2, bind_ok, if_pos rfl, e3, bind_ok, if_pos (by omega), ih]
    simp
theorem lc_filterG {tg : DGp} {fA : DEnv → R Bool} {fe : DEnv → R D} {ρ : DEnv} : ∀ (xs : List α) (acc : List D), acc.length + xs.length < 1000 → (∀ x ∈ xs, ∃ ρ', tg (g x) ρ = some ρ' ∧ fA ρ' = .ok (p x) ∧ (p x = true → fe ρ' = .ok (h x))) → lcF tg fA fe ρ (xs.map g) acc = .ok (acc ++ (xs.filter p).map h)
  | [], acc, _, _ => by simp [lcF]
  | d :: ds, acc, hl, k => by
    rw [List.length_cons] at hl
    obtain ⟨ρ', e1, e2, e3⟩ := k d List.mem_cons_self
    have hz : 1000 < sizeLine := by decide
    show ((ofO (tg (g d) ρ)).bind fun ρ' => (fA ρ').bind fun b => if b = true then (fe ρ').bind fun y => if acc.length < sizeLine then lcF tg fA fe ρ (ds.map g) (acc ++ [y]) else .no else lcF tg fA fe ρ (ds.map g) acc) = _
    rw [e1, ofO_some, bind_ok, e2, bind_ok]
    cases hp : p d with
    | true =>
      have ih := lc_filterG (tg := tg) (fA := fA) (fe := fe) (ρ := ρ) ds (acc ++ [h d]) (by rw [List.length_append, List.length_singleton]; omega) fun d' hd => k d' (List.mem_cons_of_mem _ hd)
      rw [if_pos rfl, e3 hp, bind_ok, if_pos (by omega), ih, List.filter_cons, if_pos hp]
      simp
    | false =>
      have ih := lc_filterG (tg := tg) (fA := fA) (fe := fe) (ρ := ρ) ds acc (by omega) fun d' hd => k d' (List.mem_cons_of_mem _ hd)
      rw [if_neg (by simp), ih, List.filter_cons, if_neg (by simp [hp])]
/-- a loop that ends at the first item of a kind -/
theorem for_find {tg : DG} {fb : SEnv → Fl} (I : SEnv → Prop) : ∀ (xs : List α) (ρ : SEnv), I ρ → (∀ x ∈ xs, ∀ ρ, I ρ → ∃ ρ', tg (g x) ρ = some ρ' ∧ ((p x = true ∧ fb ρ' = .rt (h x)) ∨ (p x = false ∧ ∃ ρ'', fb ρ' = .nx ρ'' ∧ I ρ''))) →
    (∃ x, xs.find? p = some x ∧ forF tg fb (xs.map g) ρ = .rt (h x)) ∨ (xs.find? p = none ∧ ∃ ρ', forF tg fb (xs.map g) ρ = .nx ρ' ∧ I ρ')
  | [], ρ, hi, _ => .inr ⟨rfl, ρ, rfl, hi⟩
  | x :: xs, ρ, hi, k => by
    obtain ⟨ρ', e1, k1⟩ := k x List.mem_cons_self ρ hi
    rw [List.map_cons, for_cons e1, List.find?_cons]
    rcases k1 with ⟨hp, e2⟩ | ⟨hp, ρ'', e2, hi2⟩
    · rw [hp, e2]
      exact .inl ⟨x, rfl, rfl⟩
    · rw [hp, e2]
      exact for_find I xs ρ'' hi2 fun d' hd => k d' (List.mem_cons_of_mem _ hd)
/-- a loop, what is behind it told -/
theorem for_fold {tg : DG} {fb : SEnv → Fl} (I : List α → SEnv → Prop) : ∀ (xs done : List α) (ρ : SEnv), I done ρ → (∀ done' x ρ, x ∈ xs → done'.length < done.length + xs.length → I done' ρ → ∃ ρ' ρ'', tg (g x) ρ = some ρ' ∧ fb ρ' = .nx ρ'' ∧ I (done' ++ [x]) ρ'') → ∃ ρ', forF tg fb (xs.map g) ρ = .nx ρ' ∧ I (done ++ xs) ρ'
  | [], done, ρ, hi, _ => ⟨ρ, rfl, by rw [List.append_nil]; exact hi⟩
  | x :: xs, done, ρ, hi, k => by
    obtain ⟨ρ', ρ'', e1, e2, hi2⟩ := k done x ρ List.mem_cons_self (by simp) hi
    obtain ⟨ρ3, e3, hi3⟩ := for_fold I xs (done ++ [x]) ρ'' hi2 fun done' d' ρ hd hl hi => k done' d' ρ (List.mem_cons_of_mem _ hd) (by simp at hl ⊢; omega) hi
    refine ⟨ρ3, ?_, ?_⟩
    · rw [List.map_cons, for_cons e1, e2]
      exact e3
    · rw [List.append_assoc] at hi3
      exact hi3
end
theorem eqA_s {a b : Str} {neg : Bool} : eqA neg (.str a) (.str b) = some (.bl (if neg = true then !decide (a = b) else decide (a = b))) := rfl
theorem fAppend_ok {j : Nat} {fe : DEnv → R D} {ρ : SEnv} {ds : List D} {d : D} (h1 : ρ[j]? = some (.ow ds)) (h2 : fe (mask ρ) = .ok d) (hl : ds.length < 1000) : fAppend j fe ρ = .nx (ρ.set j (.ow (ds ++ [d]))) := by
  have hz : 1000 < sizeLine := by decide
  unfold fAppend
  rw [h1]
  show (fe (mask ρ)).fl ρ _ = _
  rw [h2, fl_ok, if_pos (by omega)]
/-- rows of whole numbers -/
abbrev tI (v : List Int) : D := .tup (dI v)
abbrev vT (vs : List (List Int)) : D := .lst (vs.map tI)
theorem ix_v {vs : List (List Int)} {i : Nat} {v : List Int} (h : vs[i]? = some v) : ixA (vT vs) (.int (i : Nat)) = some (tI v) := ix_l (by rw [List.getElem?_map, h]; rfl)
theorem pys_v : ∀ vs : List (List Int), pys (vs.map tI) = some (vs.map fun v => PyData.tuple (pI v))
  | [] => rfl
  | v :: vs => by simp only [List.map_cons, pys, D.py, pys_i, pys_v vs]
theorem lay_v : ∀ vs : List (List Int), PyData.canLayAll0 (vs.map fun v => PyData.tuple (pI v)) = true
  | [] => by simp [PyData.canLayAll0]
  | v :: vs => by simp [PyData.canLayAll0, PyData.canLay0, lay_i, lay_v vs]
theorem dep_v : ∀ vs : List (List Int), PyData.depthAll (vs.map fun v => PyData.tuple (pI v)) ≤ 1
  | [] => by simp [PyData.depthAll]
  | v :: vs => by
    have := dep_v vs
    simp only [List.map_cons, PyData.depthAll, PyData.depth, dep_i]
    omega
theorem eqv_v : ∀ xs ys : List (List Int), PyData.eqvAll (xs.map fun v => PyData.tuple (pI v)) (ys.map fun v => PyData.tuple (pI v)) = decide (xs = ys)
  | [], [] => by simp [PyData.eqvAll]
  | [], y :: ys => by simp [PyData.eqvAll]
  | x :: xs, [] => by simp [PyData.eqvAll]
  | x :: xs, y :: ys => by
    simp only [List.map_cons, PyData.eqvAll, PyData.eqv, eqv_i, eqv_v xs ys]
    by_cases h : x = y <;> by_cases h2 : xs = ys <;> simp [h, h2]
theorem pd_v (vs : List (List Int)) : Pd (vT vs) (.list (vs.map fun v => PyData.tuple (pI v))) := ⟨by simp only [D.py, pys_v], by simp only [PyData.canLay0, lay_v], by simp only [PyData.depth]; have := dep_v vs; omega⟩
theorem eqA_v {xs ys : List (List Int)} {neg : Bool} : eqA neg (vT xs) (vT ys) = some (.bl (if neg = true then !decide (xs = ys) else decide (xs = ys))) := by
  rw [eqA_pd (pd_v xs) (pd_v ys) rfl]
  simp only [PyData.eqv, eqv_v]
theorem lt_rowA {xs ys : List Int} : ltA (tI xs) (tI ys) = some (.bl (decide (xs < ys))) := by
  rw [ltA_t, cmpX_pd (pd_tup xs) (pd_tup ys) (alike_t xs ys) rfl, lt_row]
theorem le_rowA {xs ys : List Int} : leA (tI xs) (tI ys) = some (.bl (!decide (ys < xs))) := by
  rw [leA_t, cmpX_pd (pd_tup xs) (pd_tup ys) (alike_t xs ys) rfl, lt_row]
end DL

namespace DL
open PySem L2
/-! ### functions worked out from behind -/
section
variable {f fu fb : SEnv → Fl} {fe fa fc : DEnv → R D} {fA fB : DEnv → R Bool} {fr : DEnv → R (List D)} {fi : DEnv → R (List D)} {ρ ρ' : SEnv} {η : DEnv} {d x y z : D} {r : Fl} {i : Nat} {xs ds : List D} {tg : DG} {tp : DGp} {vs : List Nat}
theorem seq_of (h1 : f ρ = .nx ρ') (h2 : fu ρ' = r) : fSeq f fu ρ = r := by unfold fSeq; rw [h1]; exact h2
theorem seq_rtn (h1 : f ρ = .rt d) : fSeq f fu ρ = .rt d := by unfold fSeq; rw [h1]; rfl
theorem seq_raise {e : Exn} (h1 : f ρ = .ex e ρ') : fSeq f fu ρ = .ex e ρ' := by unfold fSeq; rw [h1]; rfl
theorem set_of (h : fe (mask ρ) = .ok d) : fSet i fe ρ = .nx (ρ.set i (.fz d)) := by unfold fSet; rw [h]; rfl
theorem ret_of (h : fe (mask ρ) = .ok d) : fRet fe ρ = .rt d := by unfold fRet; rw [h]; rfl
theorem if_t (h : fA (mask ρ) = .ok true) (h2 : f ρ = r) : fIfF fA f fu ρ = r := by unfold fIfF; rw [h]; exact h2
theorem if_f (h : fA (mask ρ) = .ok false) (h2 : fu ρ = r) : fIfF fA f fu ρ = r := by unfold fIfF; rw [h]; exact h2
theorem for_of (h : fi (mask ρ) = .ok ds) (h2 : forF tg fb ds ρ = r) : fFor fi tg fb ρ = r := by unfold fFor; rw [h]; exact h2
theorem frz_of (h : ρ[i]? = some (.ow ds)) (h2 : f (ρ.set i (.fz (.lst ds))) = r) : fFreeze i f ρ = r := by unfold fFreeze; rw [h]; exact h2
theorem call_of {F : List D → R D} {z : R D} (h1 : fr η = .ok xs) (h2 : F xs = z) : fCall F fr η = z := by unfold fCall; rw [h1]; exact h2
theorem fn_of {g : List D → Option D} (h1 : fr η = .ok xs) (h2 : g xs = some z) : fFn g fr η = .ok z := by unfold fFn; rw [h1, bind_ok, h2]; rfl
theorem op_of {g : D → D → Option D} (h1 : fa η = .ok x) (h2 : fc η = .ok y) (h3 : g x y = some z) : fOp g fa fc η = .ok z := by unfold fOp; rw [h1, bind_ok, h2, bind_ok, h3]; rfl
theorem u_of {g : D → Option D} (h1 : fa η = .ok x) (h2 : g x = some z) : fU g fa η = .ok z := by unfold fU; rw [h1, bind_ok, h2]; rfl
theorem cons_of (h1 : fa η = .ok x) (h2 : fr η = .ok xs) : fCons fa fr η = .ok (x :: xs) := by unfold fCons; rw [h1, bind_ok, h2]; rfl
theorem test_of {b : Bool} (h1 : fa η = .ok (.bl b)) : fTest fa η = .ok b := by unfold fTest; rw [h1]; rfl
theorem tup_of (h : fr η = .ok xs) (hl : xs.length < 1000) : fTup fr η = .ok (.tup xs) := by
  have hz : 1000 < sizeLine := by decide
  unfold fTup; rw [h, bind_ok, if_pos (by omega)]
theorem lst_of (h : fr η = .ok xs) (hl : xs.length < 1000) : fLst fr η = .ok (.lst xs) := by
  have hz : 1000 < sizeLine := by decide
  unfold fLst; rw [h, bind_ok, if_pos (by omega)]
theorem orT_t (h : fA η = .ok true) : fOrT fA fB η = .ok true := by unfold fOrT; rw [h]; rfl
theorem orT_f {b : R Bool} (h : fA η = .ok false) (h2 : fB η = b) : fOrT fA fB η = b := by unfold fOrT; rw [h]; exact h2
theorem andT_f (h : fA η = .ok false) : fAndT fA fB η = .ok false := by unfold fAndT; rw [h]; rfl
theorem andT_t {b : R Bool} (h : fA η = .ok true) (h2 : fB η = b) : fAndT fA fB η = b := by unfold fAndT; rw [h]; exact h2
theorem notT_of {b : Bool} (h : fA η = .ok b) : fNotT fA η = .ok (!b) := by unfold fNotT; rw [h]; rfl
theorem seqI_of (h : fa η = .ok x) (h2 : seqD x = some xs) : fSeqI fa η = .ok xs := by unfold fSeqI; rw [h, bind_ok, h2]; rfl
theorem range1_of {n : Nat} (h : fa η = .ok (.int (n : Nat))) (hn : n < 1000000) : fRange1 fa η = .ok ((List.range n).map fun i : Nat => D.int (i : Nat)) := by
  rw [range1_ok h (fits_n (by omega) (by omega)), Int.toNat_natCast]
  unfold rangeL
  congr 1
  exact List.map_congr_left fun i _ => by simp
theorem numbered_map {α : Type} {g : α → D} (xs : List α) : numbered (xs.map g) = xs.zipIdx.map fun p => D.tup [.int (p.2 : Nat), g p.1] := by
  apply List.ext_getElem?
  intro i
  unfold numbered
  rw [List.length_map]
  simp only [List.getElem?_zipWith, List.getElem?_map, List.getElem?_zipIdx]
  cases h : xs[i]? with
  | none => simp
  | some x =>
    have := (List.getElem?_eq_some_iff.mp h).1
    simp [this]
theorem enum_of {α : Type} {g : α → D} {as : List α} (h : fa η = .ok x) (h2 : seqD x = some (as.map g)) : fEnumX fa η = .ok (as.zipIdx.map fun p => D.tup [.int (p.2 : Nat), g p.1]) := by
  unfold fEnumX; rw [h, bind_ok, h2]
  show R.ok (numbered (as.map g)) = _
  rw [numbered_map]
theorem zipped_map {α β : Type} {g : α → D} {h : β → D} : ∀ (xs : List α) (ys : List β), zipped (xs.map g) (ys.map h) = (xs.zip ys).map fun p => D.tup [g p.1, h p.2]
  | [], _ => rfl
  | _ :: _, [] => rfl
  | x :: xs, y :: ys => congrArg (D.tup [g x, h y] :: ·) (zipped_map xs ys)
theorem zip_of {α β : Type} {g : α → D} {h : β → D} {as : List α} {bs : List β} (h1 : fa η = .ok x) (h2 : fc η = .ok y) (h3 : seqD x = some (as.map g)) (h4 : seqD y = some (bs.map h)) : fZipX fa fc η = .ok ((as.zip bs).map fun p => D.tup [g p.1, h p.2]) := by
  unfold fZipX; rw [h1, bind_ok, h2, bind_ok, h3, h4]
  show R.ok (zipped (as.map g) (bs.map h)) = _
  rw [zipped_map]
theorem lc_of {α : Type} {g h : α → D} {as : List α} (h1 : fi η = .ok (as.map g)) (hl : as.length < 1000) (k : ∀ a ∈ as, ∃ ρ', tp (g a) (wipeD η vs) = some ρ' ∧ fA ρ' = .ok true ∧ fe ρ' = .ok (h a)) : fLc fi tp fA fe vs η = .ok (.lst (as.map h)) :=
  fLc_ok h1 ((lc_mapG as [] (by simpa using hl) k).trans (by simp))
theorem lc_ofF {α : Type} {g h : α → D} {p : α → Bool} {as : List α} (h1 : fi η = .ok (as.map g)) (hl : as.length < 1000) (k : ∀ a ∈ as, ∃ ρ', tp (g a) (wipeD η vs) = some ρ' ∧ fA ρ' = .ok (p a) ∧ (p a = true → fe ρ' = .ok (h a))) : fLc fi tp fA fe vs η = .ok (.lst ((as.filter p).map h)) :=
  fLc_ok h1 ((lc_filterG as [] (by simpa using hl) k).trans (by simp))
theorem lcO_of {α : Type} {g h : α → D} {as : List α} (h1 : fi η = .ok (as.map g)) (hl : as.length < 1000) (k : ∀ a ∈ as, ∃ ρ', tp (g a) (wipeD η vs) = some ρ' ∧ fA ρ' = .ok true ∧ fe ρ' = .ok (h a)) : fLcO fi tp fA fe vs η = .ok (as.map h) := by
  unfold fLcO
  rw [h1, bind_ok, lc_mapG as [] (by simpa using hl) k]
  simp [R.quiet]
theorem setO_of (h : fr (mask ρ) = .ok xs) : fSetO i fr ρ = .nx (ρ.set i (.ow xs)) := by unfold fSetO; rw [h]; rfl
theorem retO_of (h : ρ[i]? = some (.ow xs)) : fRetO i ρ = .rt (.lst xs) := by unfold fRetO; rw [h]
end
section
variable {f fu : SEnv → Fl} {fa fc : DEnv → R D} {fA : DEnv → R Bool} {ρ : SEnv} {η : DEnv} {r : Fl} {xs ys : List D}
theorem cat_of (h1 : fa η = .ok (.lst xs)) (h2 : fc η = .ok (.lst ys)) (h : xs.length + ys.length < 1000) : fCatO fa fc η = .ok (xs ++ ys) := by
  have hz : 1000 < sizeLine := by decide
  unfold fCatO
  rw [h1, bind_ok, h2, bind_ok]
  show (if xs.length + ys.length ≤ sizeLine then R.ok (xs ++ ys) else .no) = _
  rw [if_pos (by omega)]
theorem ifS_f (h : fA (snap ρ) = .ok false) (h2 : fu ρ = r) : fIfSF fA f fu ρ = r := by unfold fIfSF; rw [h]; exact h2
theorem ifS_t (h : fA (snap ρ) = .ok true) (h2 : f ρ = r) : fIfSF fA f fu ρ = r := by unfold fIfSF; rw [h]; exact h2
theorem sl_of {x z : D} {fl fh : DEnv → R (Option Int)} {lo hi : Option Int} (h1 : fa η = .ok x) (h2 : fl η = .ok lo) (h3 : fh η = .ok hi) (h4 : slD x lo hi = some z) : fSl fa fl fh η = .ok z := by
  unfold fSl; rw [h1, bind_ok, h2, bind_ok, h3, bind_ok, h4]; rfl
theorem part_of {i : Int} (h : fa η = .ok (.int i)) : fPart fa η = .ok (some i) := by unfold fPart; rw [h]; rfl
theorem add_t (h : xs.length + ys.length < 1000) : addD (.tup xs) (.tup ys) = some (.tup (xs ++ ys)) := by
  have : 1000 < sizeLine := by decide
  show (if xs.length + ys.length ≤ sizeLine then _ else _) = _
  rw [if_pos (by omega)]
theorem sl_takeI {ns : List Int} {k : Nat} (h : k ≤ ns.length) : slD (.lst (dI ns)) none (some (k : Nat)) = some (.lst (dI (ns.take k))) := by
  rw [sl_take (by omega) (by rw [List.length_map]; omega), Int.toNat_natCast, ← List.map_take]
theorem sl_dropI {ns : List Int} {k : Nat} (h : k ≤ ns.length) : slD (.lst (dI ns)) (some (k : Nat)) none = some (.lst (dI (ns.drop k))) := by
  rw [sl_drop (by omega) (by rw [List.length_map]; omega), Int.toNat_natCast, ← List.map_drop]
theorem sl_takeT {ns : List Int} {k : Nat} (h : k ≤ ns.length) : slD (.tup (dI ns)) none (some (k : Nat)) = some (.tup (dI (ns.take k))) := by
  show some (D.tup (cutL (dI ns) none (some (k : Nat)))) = _
  rw [cut_take (by omega) (by rw [List.length_map]; omega), Int.toNat_natCast, ← List.map_take]
theorem sl_dropT {ns : List Int} {k : Nat} (h : k ≤ ns.length) : slD (.tup (dI ns)) (some (k : Nat)) none = some (.tup (dI (ns.drop k))) := by
  show some (D.tup (cutL (dI ns) (some (k : Nat)) none)) = _
  rw [cut_drop (by omega) (by rw [List.length_map]; omega), Int.toNat_natCast, ← List.map_drop]
end
theorem lcD_map {α : Type} {g h : α → D} {tg : DGp} {te : DE} {ρ : DEnv} {Q : List D → Gh → Prop} {G : Gh} : ∀ (as : List α) (acc : List D), acc.length + as.length < 1000 → (∀ a ∈ as, ∃ ρ', tg (g a) ρ = some ρ' ∧ ∀ Q', Q' (h a) G → te ρ' G Q' ZF) → Q (acc ++ as.map h) G → lcD tg dYes te ρ Q (as.map g) acc G
  | [], acc, _, _, q => by rw [List.map_nil, List.append_nil] at q; exact q
  | a :: as, acc, hl, k, q => by
    rw [List.length_cons] at hl
    obtain ⟨ρ', e, hh⟩ := k a List.mem_cons_self
    have hz : 1000 < sizeLine := by decide
    refine ⟨ρ', e, hh _ ⟨by omega, ?_⟩⟩
    refine lcD_map as (acc ++ [h a]) (by rw [List.length_append, List.length_singleton]; omega) (fun b hb => k b (List.mem_cons_of_mem _ hb)) ?_
    rw [List.append_assoc]
    exact q
/-! ### a pure part within what draws -/
section
variable {t u : DS} {f : SEnv → Fl} {ρ ρ' : SEnv} {g : Gh} {En : DEnds} {d : D}
theorem seq_pu (h : PuS t f) (hg : memNl g = true) (e : f ρ = .nx ρ') (k : u En ρ' g) : dSeq t u En ρ g := h _ ρ g hg (by rw [e]; exact k)
theorem seq_puR (h : PuS t f) (hg : memNl g = true) (e : f ρ = .rt d) (k : En.rt d g) : dSeq t u En ρ g := h _ ρ g hg (by rw [e]; exact k)
theorem one_pu (h : PuS t f) (hg : memNl g = true) (e : f ρ = .nx ρ') (k : En.nx ρ' g) : t En ρ g := h _ ρ g hg (by rw [e]; exact k)
end
/-! ### expressions beside lists of ours, as functions -/
def PuW (t : DW) (f : SEnv → R D) : Prop := ∀ ρ g Q Z, memNl g = true → (f ρ).sat g Q Z → t ρ g Q Z
def PuWs (t : DWs) (f : SEnv → R (List D)) : Prop := ∀ ρ g Q Z, memNl g = true → (f ρ).sat g Q Z → t ρ g Q Z
section
variable {te : DE} {fe : DEnv → R D} {tw ti : DW} {fw fi : SEnv → R D} {tr : DWs} {fr : SEnv → R (List D)} {i j : Nat}
def fwI (fe : DEnv → R D) (ρ : SEnv) : R D := fe (mask ρ)
theorem pu_wI (h : PuE te fe) : PuW (dwI te) (fwI fe) := fun ρ g Q Z hg q => h _ g Q Z hg q
def fwS (fe : DEnv → R D) (ρ : SEnv) : R D := match fe (snap ρ) with
  | .ok d => if nl d = true then .ok d else .no
  | .ex e => if nlf e.fs = true then .ex e else .no
  | .no => .no
theorem pu_wS (h : PuE te fe) : PuW (dwS te) (fwS fe) := fun ρ g Q Z hg q => h _ g _ _ hg (by
  unfold fwS at q
  cases e : fe (snap ρ) with
  | ok d =>
    rw [e] at q
    dsimp only at q
    split at q
    · rename_i hn; exact ⟨okG_self hg, hn, q⟩
    · exact q.elim
  | ex x =>
    rw [e] at q
    dsimp only at q
    split at q
    · rename_i hn; exact ⟨okG_self hg, hn, q⟩
    · exact q.elim
  | no => rw [e] at q; exact q.elim)
def fwIx (j : Nat) (fw : SEnv → R D) (ρ : SEnv) : R D := match ρ[j]? with
  | some (.ow ds) => (fw ρ).bind fun x => (ofO (int? x)).bind fun k => ofO (atI ds k)
  | _ => .no
theorem pu_wIx (h : PuW tw fw) : PuW (dwIx j tw) (fwIx j fw) := fun ρ g Q Z hg q => by
  unfold fwIx at q
  split at q
  · rename_i ds e
    refine ⟨ds, e, h ρ g _ Z hg (R.thn q fun x _ q => ?_)⟩
    obtain ⟨k, e1, q⟩ := sat_ofO (R.sat_bind q)
    obtain ⟨d, e2, q⟩ := sat_ofO q
    exact ⟨k, d, int?_eq e1, e2, q⟩
  · exact q.elim
theorem pu_wNil : PuWs dwNil (fun _ => .ok []) := fun ρ g Q Z hg q => q
def fwCons (fw : SEnv → R D) (fr : SEnv → R (List D)) (ρ : SEnv) : R (List D) := (fw ρ).bind fun x => (fr ρ).bind fun xs => .ok (x :: xs)
theorem pu_wCons (h : PuW tw fw) (hr : PuWs tr fr) : PuWs (dwCons tw tr) (fwCons fw fr) := fun ρ g Q Z hg q => h ρ g _ Z hg (R.thn q fun x _ q => hr ρ g _ Z hg (R.thn q fun xs _ q => q))
def fwCall (F : List D → R D) (fr : SEnv → R (List D)) (ρ : SEnv) : R D := (fr ρ).bind F
theorem pu_wCall {S : DSp} {F : List D → R D} (hS : PuF S F) (hr : PuWs tr fr) : PuW (dwCall S tr) (fwCall F fr) := fun ρ g Q Z hg q => hr ρ g _ Z hg (R.thn q fun xs _ q => hS xs g Q Z hg q)
def fSetW (i : Nat) (fw : SEnv → R D) (ρ : SEnv) : Fl := (fw ρ).fl ρ fun d => .nx (ρ.set i (.fz d))
theorem pu_setW (h : PuW tw fw) : PuS (dSetW i tw) (fSetW i fw) := fun En ρ g hg q => h ρ g _ _ hg (R.fl_thn q fun d _ q => q)
def fAppendW (i : Nat) (fw : SEnv → R D) (ρ : SEnv) : Fl := match ρ[i]? with
  | some (.ow ds) => (fw ρ).fl ρ fun d => if ds.length < sizeLine then .nx (ρ.set i (.ow (ds ++ [d]))) else .no
  | _ => .no
theorem pu_appendW (h : PuW tw fw) : PuS (dAppendW i tw) (fAppendW i fw) := fun En ρ g hg q => by
  unfold fAppendW at q
  split at q
  · rename_i ds e
    refine ⟨ds, e, h ρ g _ _ hg (R.fl_thn q fun d _ q => ?_)⟩
    split at q
    · rename_i hl; exact ⟨hl, q⟩
    · exact q.elim
  · exact q.elim
def fPutIx (i : Nat) (fw fi : SEnv → R D) (ρ : SEnv) : Fl := match ρ[i]? with
  | some (.ow ds) => (fw ρ).fl ρ fun d => (fi ρ).fl ρ fun x => match x with
    | .int k => match ixN ds.length k with
      | some n => .nx (ρ.set i (.ow (ds.set n d)))
      | none => .no
    | _ => .no
  | _ => .no
theorem pu_putIx (h : PuW tw fw) (hi : PuW ti fi) : PuS (dPutIx i tw ti) (fPutIx i fw fi) := fun En ρ g hg q => by
  unfold fPutIx at q
  split at q
  · rename_i ds e
    refine ⟨ds, e, h ρ g _ _ hg (R.fl_thn q fun d _ q => hi ρ g _ _ hg (R.fl_thn q fun x _ q => ?_))⟩
    cases x with
    | int k =>
      dsimp only at q
      split at q
      · rename_i n e2; exact ⟨k, n, rfl, e2, q⟩
      · exact q.elim
    | _ => exact q.elim
  · exact q.elim
theorem pu_setIxS (h : PuE te fe) : PuS (dSetIxS i j te) (fun ρ => match ρ[j]? with
  | some (.ow ds) => (fe (snap ρ)).flS ρ fun x => match x with
    | .int k => match atI ds k with
      | some d => .nx (ρ.set i (.fz d))
      | none => .no
    | _ => .no
  | _ => .no) := fun En ρ g hg q => by
  dsimp only at q
  split at q
  · rename_i ds e
    refine ⟨ds, e, h _ g _ _ hg (R.flS_thn hg q fun x _ q => ?_)⟩
    cases x with
    | int k =>
      dsimp only at q
      split at q
      · rename_i d e2; exact ⟨okG_self hg, k, d, rfl, e2, q⟩
      · exact q.elim
    | _ => exact q.elim
  · exact q.elim
theorem ixN_nat {n i : Nat} (h : i < n) : ixN n (i : Nat) = some i := by
  unfold ixN
  rw [if_pos (by omega), if_pos (by omega), Int.toNat_natCast]
theorem putIx_of {ρ : SEnv} {ds : List D} {d : D} {n : Nat} (h : ρ[i]? = some (.ow ds)) (h1 : fw ρ = .ok d) (h2 : fi ρ = .ok (.int (n : Nat))) (hn : n < ds.length) : fPutIx i fw fi ρ = .nx (ρ.set i (.ow (ds.set n d))) := by
  unfold fPutIx
  rw [h]
  dsimp only
  rw [h1, fl_ok, h2, fl_ok]
  dsimp only
  rw [ixN_nat hn]
end
theorem memNl_gh {n cl : Nat} : memNl (gh n cl) = true := rfl
end DL

namespace DL
open PySem L2
/-! ### plain data, compared -/
mutual
def D.sm : D → Bool
  | .non => true
  | .int _ => true
  | .str x => PyData.strOk x
  | .tup xs => smAll xs
  | .lst xs => smAll xs
  | _ => false
def smAll : List D → Bool
  | [] => true
  | x :: xs => x.sm && smAll xs
end
mutual
def D.dp : D → Nat
  | .tup xs => dpAll xs + 1
  | .lst xs => dpAll xs + 1
  | _ => 0
def dpAll : List D → Nat
  | [] => 0
  | x :: xs => max x.dp (dpAll xs)
end
mutual
theorem sm_py : ∀ (d : D), d.sm = true → ∃ p, d.py = some p ∧ p.canLay0 = true ∧ p.depth = d.dp
  | .non, _ => ⟨.none, by simp [D.py], by simp [PyData.canLay0], by simp [PyData.depth, D.dp]⟩
  | .int i, _ => ⟨.int i, by simp [D.py], by simp [PyData.canLay0], by simp [PyData.depth, D.dp]⟩
  | .str i, h => ⟨.str i, by simp [D.py], by simpa [PyData.canLay0, D.sm] using h, by simp [PyData.depth, D.dp]⟩
  | .tup xs, h => by
    obtain ⟨ps, h1, h2, h3⟩ := sm_pys xs (by simpa [D.sm] using h)
    exact ⟨.tuple ps, by simp [D.py, h1], by simp [PyData.canLay0, h2], by simp [PyData.depth, D.dp, h3]⟩
  | .lst xs, h => by
    obtain ⟨ps, h1, h2, h3⟩ := sm_pys xs (by simpa [D.sm] using h)
    exact ⟨.list ps, by simp [D.py, h1], by simp [PyData.canLay0, h2], by simp [PyData.depth, D.dp, h3]⟩
  | .bl _, h | .dct _, h | .obj _ _, h | .exc _ _, h | .loc _, h | .pen, h | .scr _, h => by simp [D.sm] at h
theorem sm_pys : ∀ (ds : List D), smAll ds = true → ∃ ps, pys ds = some ps ∧ PyData.canLayAll0 ps = true ∧ PyData.depthAll ps = dpAll ds
  | [], _ => ⟨[], by simp [pys], by simp [PyData.canLayAll0], by simp [PyData.depthAll, dpAll]⟩
  | d :: ds, h => by
    have h : d.sm = true ∧ smAll ds = true := by simpa [smAll] using h
    obtain ⟨p, h1, h2, h3⟩ := sm_py d h.1
    obtain ⟨ps, h4, h5, h6⟩ := sm_pys ds h.2
    exact ⟨p :: ps, by simp [pys, h1, h4], by simp [PyData.canLayAll0, h2, h5], by simp [PyData.depthAll, dpAll, h3, h6]⟩
end
mutual
theorem sm_eqv : ∀ (x y : D), x.sm = true → y.sm = true → ∀ {p q : PyData}, x.py = some p → y.py = some q → (PyData.eqv p q = true ↔ x = y)
  | .non, y, _, hy, p, q, e1, e2 => by
    simp [D.py] at e1; subst e1
    cases y <;> simp [D.py, D.sm] at e2 hy
    case non => subst e2; simp [PyData.eqv]
    case int => subst e2; simp [PyData.eqv]
    case str => subst e2; simp [PyData.eqv]
    case lst l => obtain ⟨ps, h1, _⟩ := sm_pys l hy; simp [h1] at e2; subst e2; simp [PyData.eqv]
    case tup l => obtain ⟨ps, h1, _⟩ := sm_pys l hy; simp [h1] at e2; subst e2; simp [PyData.eqv]
  | .int i, y, _, hy, p, q, e1, e2 => by
    simp [D.py] at e1; subst e1
    cases y <;> simp [D.py, D.sm] at e2 hy
    case non => subst e2; simp [PyData.eqv]
    case int => subst e2; simp [PyData.eqv]
    case str => subst e2; simp [PyData.eqv]
    case lst l => obtain ⟨ps, h1, _⟩ := sm_pys l hy; simp [h1] at e2; subst e2; simp [PyData.eqv]
    case tup l => obtain ⟨ps, h1, _⟩ := sm_pys l hy; simp [h1] at e2; subst e2; simp [PyData.eqv]
  | .str i, y, _, hy, p, q, e1, e2 => by
    simp [D.py] at e1; subst e1
    cases y <;> simp [D.py, D.sm] at e2 hy
    case non => subst e2; simp [PyData.eqv]
    case int => subst e2; simp [PyData.eqv]
    case str => subst e2; simp [PyData.eqv]
    case lst l => obtain ⟨ps, h1, _⟩ := sm_pys l hy; simp [h1] at e2; subst e2; simp [PyData.eqv]
    case tup l => obtain ⟨ps, h1, _⟩ := sm_pys l hy; simp [h1] at e2; subst e2; simp [PyData.eqv]
  | .tup xs, y, hx, hy, p, q, e1, e2 => by
    have hx : smAll xs = true := by simpa [D.sm] using hx
    obtain ⟨ps, h1, _⟩ := sm_pys xs hx
    simp [D.py, h1] at e1; subst e1
    cases y <;> simp [D.py, D.sm] at e2 hy
    case non => subst e2; simp [PyData.eqv]
    case int => subst e2; simp [PyData.eqv]
    case str => subst e2; simp [PyData.eqv]
    case lst l => obtain ⟨ps, h1, _⟩ := sm_pys l hy; simp [h1] at e2; subst e2; simp [PyData.eqv]
    case tup l =>
      obtain ⟨qs, h2, _⟩ := sm_pys l hy; simp [h2] at e2; subst e2
      simp only [PyData.eqv, D.tup.injEq]
      exact sm_eqvs xs l hx hy h1 h2
  | .lst xs, y, hx, hy, p, q, e1, e2 => by
    have hx : smAll xs = true := by simpa [D.sm] using hx
    obtain ⟨ps, h1, _⟩ := sm_pys xs hx
    simp [D.py, h1] at e1; subst e1
    cases y <;> simp [D.py, D.sm] at e2 hy
    case non => subst e2; simp [PyData.eqv]
    case int => subst e2; simp [PyData.eqv]
    case str => subst e2; simp [PyData.eqv]
    case tup l => obtain ⟨ps, h1, _⟩ := sm_pys l hy; simp [h1] at e2; subst e2; simp [PyData.eqv]
    case lst l =>
      obtain ⟨qs, h2, _⟩ := sm_pys l hy; simp [h2] at e2; subst e2
      simp only [PyData.eqv, D.lst.injEq]
      exact sm_eqvs xs l hx hy h1 h2
  | .bl _, _, h, _, _, _, _, _ | .dct _, _, h, _, _, _, _, _ | .obj _ _, _, h, _, _, _, _, _ | .exc _ _, _, h, _, _, _, _, _ | .loc _, _, h, _, _, _, _, _ | .pen, _, h, _, _, _, _, _ | .scr _, _, h, _, _, _, _, _ => by simp [D.sm] at h
theorem sm_eqvs : ∀ (xs ys : List D), smAll xs = true → smAll ys = true → ∀ {ps qs : List PyData}, pys xs = some ps → pys ys = some qs → (PyData.eqvAll ps qs = true ↔ xs = ys)
  | [], [], _, _, ps, qs, e1, e2 => by simp [pys] at e1 e2; subst e1 e2; simp [PyData.eqvAll]
  | [], y :: ys, _, hy, ps, qs, e1, e2 => by
    have hy : y.sm = true ∧ smAll ys = true := by simpa [smAll] using hy
    obtain ⟨p, h1, _⟩ := sm_py y hy.1
    obtain ⟨qs', h4, _⟩ := sm_pys ys hy.2
    simp [pys, h1, h4] at e1 e2; subst e1 e2; simp [PyData.eqvAll]
  | x :: xs, [], hx, _, ps, qs, e1, e2 => by
    have hx : x.sm = true ∧ smAll xs = true := by simpa [smAll] using hx
    obtain ⟨p, h1, _⟩ := sm_py x hx.1
    obtain ⟨qs', h4, _⟩ := sm_pys xs hx.2
    simp [pys, h1, h4] at e1 e2; subst e1 e2; simp [PyData.eqvAll]
  | x :: xs, y :: ys, hx, hy, ps, qs, e1, e2 => by
    have hx : x.sm = true ∧ smAll xs = true := by simpa [smAll] using hx
    have hy : y.sm = true ∧ smAll ys = true := by simpa [smAll] using hy
    obtain ⟨p, h1, _⟩ := sm_py x hx.1
    obtain ⟨ps', h2, _⟩ := sm_pys xs hx.2
    obtain ⟨q, h3, _⟩ := sm_py y hy.1
    obtain ⟨qs', h4, _⟩ := sm_pys ys hy.2
    simp [pys, h1, h2, h3, h4] at e1 e2; subst e1 e2
    simp only [PyData.eqvAll, Bool.and_eq_true, List.cons.injEq]
    rw [sm_eqv x y hx.1 hy.1 h1 h3, sm_eqvs xs ys hx.2 hy.2 h2 h4]
end
section
variable {x y : D} {xs ys : List D} {neg : Bool}
theorem sm_pd (h : x.sm = true) (hd : x.dp ≤ 60) : ∃ p, Pd x p := let ⟨p, h1, h2, h3⟩ := sm_py x h; ⟨p, h1, h2, by rw [h3]; exact hd⟩
theorem eqA_sm (hx : x.sm = true) (hy : y.sm = true) (dx : x.dp ≤ 60) (dy : y.dp ≤ 60) : ∃ b, eqA neg x y = some (.bl (if neg = true then !b else b)) ∧ (b = true ↔ x = y) := by
  by_cases hs : noStr x = true
  · obtain ⟨p, hp⟩ := sm_pd hx dx
    obtain ⟨q, hq⟩ := sm_pd hy dy
    exact ⟨PyData.eqv p q, eqA_pd hp hq hs, sm_eqv x y hx hy hp.py hq.py⟩
  · cases x <;> simp [noStr] at hs
    rename_i s
    cases y with
    | str t => exact ⟨decide (s = t), eqA_s, by simp⟩
    | _ =>
      obtain ⟨p, hp⟩ := sm_pd hx dx
      obtain ⟨q, hq⟩ := sm_pd hy dy
      refine ⟨PyData.eqv p q, ?_, sm_eqv _ _ hx hy hp.py hq.py⟩
      unfold eqA
      dsimp only
      unfold eqD
      rw [hp.py, hq.py]
      show (if (SeqAt.shaped p && SeqAt.shaped q) = true then _ else none) = _
      rw [hp.sp, hq.sp, Bool.and_self, if_pos rfl]
theorem eqA_same (hx : x.sm = true) (dx : x.dp ≤ 60) : eqA neg x x = some (.bl (!neg)) := by
  obtain ⟨b, h1, h2⟩ := eqA_sm (neg := neg) hx hx dx dx
  rw [h1, h2.mpr rfl]
  cases neg <;> rfl
theorem eqA_diff (hx : x.sm = true) (hy : y.sm = true) (dx : x.dp ≤ 60) (dy : y.dp ≤ 60) (h : x ≠ y) : eqA neg x y = some (.bl neg) := by
  obtain ⟨b, h1, h2⟩ := eqA_sm (neg := neg) hx hy dx dy
  have : b = false := by
    cases b
    · rfl
    · exact absurd (h2.mp rfl) h
  rw [h1, this]
  cases neg <;> rfl
theorem eqA_iff {P : Prop} [Decidable P] (hx : x.sm = true) (hy : y.sm = true) (dx : x.dp ≤ 60) (dy : y.dp ≤ 60) (h : x = y ↔ P) : eqA neg x y = some (.bl (if neg = true then !decide P else decide P)) := by
  obtain ⟨b, h1, h2⟩ := eqA_sm (neg := neg) hx hy dx dy
  have : b = decide P := by
    rw [Bool.eq_iff_iff, h2, h, decide_eq_true_eq]
  rw [h1, this]
theorem any_sm {p : PyData} (hx : x.sm = true) (hp : x.py = some p) : ∀ {ys : List D} {qs : List PyData}, smAll ys = true → pys ys = some qs → ((qs.any fun z => PyData.eqv z p) = true ↔ x ∈ ys)
  | [], qs, _, e => by simp [pys] at e; subst e; simp
  | y :: ys, qs, h, e => by
    have h : y.sm = true ∧ smAll ys = true := by simpa [smAll] using h
    obtain ⟨q, h1, _⟩ := sm_py y h.1
    obtain ⟨qs', h4, _⟩ := sm_pys ys h.2
    simp [pys, h1, h4] at e; subst e
    rw [List.any_cons, Bool.or_eq_true, any_sm hx hp h.2 h4, sm_eqv y x h.1 hx h1 hp, List.mem_cons]
    constructor
    · rintro (h | h)
      · exact .inl h.symm
      · exact .inr h
    · rintro (h | h)
      · exact .inl h.symm
      · exact .inr h
theorem inA_sm {P : Prop} [Decidable P] (hx : x.sm = true) (dx : x.dp ≤ 60) (hy : y.sm = true) (dy : y.dp ≤ 60) (hs : seqD y = some ys) (h : x ∈ ys ↔ P) : inA neg x y = some (.bl (if neg = true then !decide P else decide P)) := by
  obtain ⟨p, hp⟩ := sm_pd hx dx
  obtain ⟨q, hq⟩ := sm_pd hy dy
  cases y <;> simp only [seqD, reduceCtorEq, Option.some.injEq] at hs <;> subst hs
  · rename_i l
    have hl : smAll l = true := by simpa [D.sm] using hy
    obtain ⟨qs, h1, _⟩ := sm_pys l hl
    have e := hq.py
    simp [D.py, h1] at e
    subst e
    show inD neg x (.lst l) = _
    unfold inD
    rw [hp.py, hq.py]
    show (if (SeqAt.shaped p && SeqAt.shaped (.list qs)) = true then _ else none) = _
    rw [hp.sp, hq.sp, Bool.and_self, if_pos rfl]
    have : (qs.any fun z => PyData.eqv z p) = decide P := by rw [Bool.eq_iff_iff, any_sm hx hp.py hl h1, h, decide_eq_true_eq]
    rw [this]
  · rename_i l
    have hl : smAll l = true := by simpa [D.sm] using hy
    obtain ⟨qs, h1, _⟩ := sm_pys l hl
    have e := hq.py
    simp [D.py, h1] at e
    subst e
    show inTD neg x (.tup l) = _
    unfold inTD
    rw [hp.py, hq.py]
    show (if (SeqAt.shaped p && SeqAt.shaped (.tuple qs)) = true then _ else none) = _
    rw [hp.sp, hq.sp, Bool.and_self, if_pos rfl]
    have : (qs.any fun z => PyData.eqv z p) = decide P := by rw [Bool.eq_iff_iff, any_sm hx hp.py hl h1, h, decide_eq_true_eq]
    rw [this]
theorem sm_all : (∀ x ∈ xs, x.sm = true) → smAll xs = true := by
  intro h
  induction xs with
  | nil => simp [smAll]
  | cons x xs ih => simp [smAll, h x List.mem_cons_self, ih fun y hy => h y (List.mem_cons_of_mem _ hy)]
theorem dp_all {n : Nat} : (∀ x ∈ xs, x.dp ≤ n) → dpAll xs ≤ n := by
  intro h
  induction xs with
  | nil => simp [dpAll]
  | cons x xs ih =>
    have := h x List.mem_cons_self
    have := ih fun y hy => h y (List.mem_cons_of_mem _ hy)
    simp only [dpAll]
    omega
end
end DL

namespace DL
open PySem L2 PyProof.Rows
/-! ### dict comprehensions -/
def dcD (tg : DGp) (tt : DT) (tk te : DE) (ρ : DEnv) (Q : List (Key × D) → Gh → Prop) : List D → List (Key × D) → Gh → Prop
  | [], acc, g => Q acc g
  | d :: ds, acc, g => ∃ ρ', tg d ρ = some ρ' ∧ tt ρ' g (fun b g1 => if b = true then tk ρ' g1 (fun y g2 => ∃ k, keyD y = some k ∧ te ρ' g2 (fun z g3 => acc.length < sizeLine ∧ dcD tg tt tk te ρ Q ds (putD acc k z) g3) ZF) ZF else dcD tg tt tk te ρ Q ds acc g1) ZF
def dDc (ti : DI) (tg : DGp) (tt : DT) (tk te : DE) (vs : List Nat) : DE := fun ρ g Q Z => ti ρ g (fun ds g1 => dcD tg tt tk te (wipeD ρ vs) (fun kvs g2 => Q (.dct kvs) g2) ds [] g1) Z
section
variable {B : Tb} {X : Cx} {W : WX} {kx elt tg iter : Expr} {ifs : List Expr} {scope : Scope} {own : List (Str × Nat)} {pos : Pos} {ti : DI} {dg : DGp} {dt : DT} {tk te : DE}
theorem dc_sem (hi : WI B X W tg iter ti) (hg : WP B X scope (own.map (·.2)) tg dg) (ht : ∀ s H C cl fp, WTs B (blkOf X scope s H C cl fp) W0 ifs dt) (hk : ∀ s H C cl fp, WE B (blkOf X scope s H C cl fp) W0 kx tk) (he : ∀ s H C cl fp, WE B (blkOf X scope s H C cl fp) W0 elt te) :
    ∃ (g : TG) (tt : TT) (tK tE : TE), (∀ s H C cl fp, PG (blkOf X scope s H C cl fp) tg g) ∧ (∀ s H C cl fp, PTs (blkOf X scope s H C cl fp) ifs tt) ∧ (∀ s H C cl fp, PE (blkOf X scope s H C cl fp) kx tK) ∧ (∀ s H C cl fp, PE (blkOf X scope s H C cl fp) elt tE) ∧
      ∀ (c : Cn) (gh : Gh) (ρ : DEnv) (σ : L2.St) (H : Hp) (Q : DQ) (Z : DZ), Fine B X.K c gh H → RelP B X.K c ρ σ → dDc ti dg dt tk te (own.map (·.2)) ρ gh Q Z → ZOk B X.K c H σ W Z →
        tDc (semI X tg iter) g tt tK tE (own.map (·.2)) σ H (PQ B X.K c H Q) := by
  obtain ⟨g, pg, hgg⟩ := hg.ex
  refine ⟨g, fun σ H Q => ∀ s H' C cl fp, semPTs (blkOf X scope s H' C cl fp) ifs σ H Q, fun σ H Q => ∀ s H' C cl fp, semE (blkOf X scope s H' C cl fp) kx σ H Q, fun σ H Q => ∀ s H' C cl fp, semE (blkOf X scope s H' C cl fp) elt σ H Q, pg, fun s H C cl fp => ⟨fun pins s1 σ H1 Q I h => h s H C cl fp pins s1 I⟩, fun s H C cl fp => ⟨fun pins s1 σ H1 Q I h => h s H C cl fp pins s1 I⟩, fun s H C cl fp => ⟨fun pins s1 σ H1 Q I h => h s H C cl fp pins s1 I⟩, ?_⟩
  intro c gh ρ σ H Q Z k r q z
  refine (hi.run c gh ρ σ H _ Z k r q z).mono fun J H1 ⟨c1, g1, ds, s1, k1, wk, q1⟩ => fun Dd hD => ?_
  have H0D : H Dd = none := by
    cases e : H Dd with
    | none => rfl
    | some o =>
      by_cases hp : c.pen = some Dd
      · obtain ⟨_, _, o', h1, _⟩ := k1.pen Dd (s1.le.pen _ hp)
        rw [hD] at h1; cases h1
      · by_cases hm : Dd ∈ c.ma
        · obtain ⟨i, hi⟩ := List.getElem?_of_mem hm
          have hi' := s1.le.ma i Dd hi
          have hlt : i < g1.mem.length := by rw [← k1.mlen]; exact (List.getElem?_eq_some_iff.mp hi').1
          obtain ⟨_, dx, fs, h1, _⟩ := k1.mem i _ Dd (List.getElem?_eq_getElem hlt) hi'
          rw [hD] at h1; cases h1
        · rcases s1.kp Dd o e hp hm with z | ⟨_, _, _, z⟩ <;> rw [hD] at z <;> cases z
  have pen1 : c1.pen ≠ some Dd := fun hp => by
    obtain ⟨_, _, o', h1, _⟩ := k1.pen Dd hp
    rw [hD] at h1; cases h1
  have ma1 : Dd ∉ c1.ma := fun hm => by
    obtain ⟨i, hi⟩ := List.getElem?_of_mem hm
    have hlt : i < g1.mem.length := by rw [← k1.mlen]; exact (List.getElem?_eq_some_iff.mp hi).1
    obtain ⟨_, dx, fs, h1, _⟩ := k1.mem i _ Dd (List.getElem?_eq_getElem hlt) hi
    rw [hD] at h1; cases h1
  have F1 : c1.F Dd = none := Evl.fresh_back k1.sub hD
  refine ⟨fun i m H' => m = ds.length - i ∧ i ≤ ds.length ∧ ∃ c' g' xs es, Grow c1 H1 c' H' ∧ Fine B X.K c' g' H' ∧ H' Dd = some (.dK xs) ∧ RepK B X.K c' xs es ∧ c'.F Dd = none ∧ c'.pen ≠ some Dd ∧ Dd ∉ c'.ma ∧ dcD dg dt tk te (wipeD ρ (own.map (·.2))) (fun kvs g => Q (.dct kvs) g) (ds.drop i) es g',
    ⟨ds.length, by simp, Nat.zero_le _, c1, g1, [], [], (Grow.refl c1 H1).own hD, k1.own F1 pen1 ma1, upd_same, .nil, F1, pen1, ma1, by simpa using q1⟩, ?_⟩
  rintro i m H' ⟨rfl, hi, c', g', xs, es, s', k', hx, rx, hF, hp, hm, q'⟩
  obtain ⟨go, stop⟩ := wk c' g' H' s'.le k'
  by_cases hlt : i < ds.length
  · have hd : ds[i]? = some ds[i] := List.getElem?_eq_getElem hlt
    obtain ⟨g1', g2'⟩ := go i _ hd
    have hdr : ds.drop i = ds[i] :: ds.drop (i + 1) := List.drop_eq_getElem_cons hlt
    rw [hdr] at q'
    obtain ⟨ρ2, e2, q2⟩ := q'
    refine .inr ⟨g1', fun H3 => ∃ c3 g3 xs3 es3, Grow c1 H1 c3 H3 ∧ Fine B X.K c3 g3 H3 ∧ H3 Dd = some (.dK xs3) ∧ RepK B X.K c3 xs3 es3 ∧ c3.F Dd = none ∧ c3.pen ≠ some Dd ∧ Dd ∉ c3.ma ∧ dcD dg dt tk te (wipeD ρ (own.map (·.2))) (fun kvs g => Q (.dct kvs) g) (ds.drop (i + 1)) es3 g3, fun H3 n3 => ⟨ds.length - (i + 1), by omega, rfl, hlt, n3⟩, fun x H2 y => ?_⟩
    obtain ⟨c2, s2, k2, rv⟩ := g2' x H2 y
    have rw2 : RelP B X.K c2 (wipeD ρ (own.map (·.2))) (wipe σ (own.map (·.2))) := (r.mono ((s1.trans s').trans s2).le).wipe _
    refine hgg c2 g' _ ρ2 _ H2 x _ _ k2 rw2 rv e2 fun σ3 r3 hw => ⟨by
      rw [hw]
      apply List.ext_getElem?
      intro j
      rw [wipe_get, wipe_get]
      split
      · cases σ[j]? <;> rfl
      · rfl, ?_⟩
    intro s0 H0 C cl fp pins0 s00 I0
    obtain ⟨tt0, pt0, ht0⟩ := (ht s0 H0 C cl fp).ex
    refine thn (pt0.run pins0 s00 σ3 H2 _ I0 (ht0 c2 g' ρ2 σ3 H2 _ ZF k2 r3 q2 zf_ok)) fun b s6 ⟨H3, I3, c3, g3, s3, k3, q3⟩ => ⟨H3, I3, ?_⟩
    obtain ⟨m1, m2, m3, m4⟩ := (s2.trans s3).mine hx hF hp hm
    cases b with
    | false =>
      exact ⟨c3, g3, xs, es, (s'.trans s2).trans s3, k3, m1, rx.mono (s2.trans s3).le, m2, m3, m4, q3⟩
    | true =>
      intro s0' H0' C' cl' fp'
      refine ((hk s0' H0' C' cl' fp').run c3 g3 ρ2 σ3 H3 _ ZF k3 (r3.mono s3.le) q3 zf_ok).mono fun y H4 ⟨c4, g4, d4, s4, k4, r4, kk, ek, q4⟩ => ?_
      obtain ⟨n1, n2, n3, n4⟩ := s4.mine m1 m2 m3 m4
      intro s0'' H0'' C'' cl'' fp''
      refine ((he s0'' H0'' C'' cl'' fp'').run c4 g4 ρ2 σ3 H4 _ ZF k4 (r3.mono (s3.trans s4).le) q4 zf_ok).mono fun v H5 ⟨c5, g5, d5, s5, k5, r5, hlen, q5⟩ => ?_
      obtain ⟨o1, o2, o3, o4⟩ := s5.mine n1 n2 n3 n4
      have rx5 : RepK B X.K c5 xs es := rx.mono (((s2.trans s3).trans s4).trans s5).le
      exact ⟨xs, kk, rep_key r4 ek, o1, by rw [rx5.length]; exact hlen, c5, g5, putK xs kk v, putD es kk d5, ((((s'.trans s2).trans s3).trans s4).trans s5).own hD, k5.own o2 o3 o4, upd_same, rx5.put r5, o2, o3, o4, q5⟩
  · have e : i = ds.length := by omega
    subst e
    rw [List.drop_length] at q'
    exact .inl ⟨stop, _, g', .dct es, (s1.trans s').ice H0D hF, k'.ice hF hx hp hm, .dct upd_same (rx.mono (Le.ice hF)), q'⟩
theorem we_dc (hc : X.calm = true) (hN : X.N.Nodup) (hi : WI B X W tg iter ti) (ok : BlkOk X.N X.env.scope scope own) (hg : WP B X scope (own.map (·.2)) tg dg) (ht : ∀ s H C cl fp, WTs B (blkOf X scope s H C cl fp) W0 ifs dt) (hk : ∀ s H C cl fp, WE B (blkOf X scope s H C cl fp) W0 kx tk) (he : ∀ s H C cl fp, WE B (blkOf X scope s H C cl fp) W0 elt te)
    (hs : ∀ x, foldedSetIterable iter X.env x = pure x := by intro _; rfl) : WE B X W (.DictComp kx elt [⟨tg, iter, ifs, 0⟩] scope pos) (dDc ti dg dt tk te (own.map (·.2))) := by
  obtain ⟨g, tt, tK, tE, p1, p2, p3, p4, h⟩ := dc_sem hi hg ht hk he
  exact ⟨fun c gh ρ σ H Q Z k r q z => sem_of (pe_dc hc hN pi_sem ok p1 p2 p3 p4 hs) (h c gh ρ σ H Q Z k r q z)⟩
end
/-- as a function -/
def dcF (tg : DGp) (fA : DEnv → R Bool) (fk fe : DEnv → R D) (ρ : DEnv) : List D → List (Key × D) → R (List (Key × D))
  | [], acc => .ok acc
  | d :: ds, acc => (ofO (tg d ρ)).bind fun ρ' => (fA ρ').bind fun b => if b = true then (fk ρ').bind fun y => (ofO (keyD y)).bind fun k => (fe ρ').bind fun z => if acc.length < sizeLine then dcF tg fA fk fe ρ ds (putD acc k z) else .no else dcF tg fA fk fe ρ ds acc
def fDc (fi : DEnv → R (List D)) (tg : DGp) (fA : DEnv → R Bool) (fk fe : DEnv → R D) (vs : List Nat) (ρ : DEnv) : R D := (fi ρ).bind fun ds => (dcF tg fA fk fe (wipeD ρ vs) ds []).quiet.bind fun kvs => .ok (.dct kvs)
theorem pu_dc {ti : DI} {fi : DEnv → R (List D)} {tg : DGp} {tA : DT} {fA : DEnv → R Bool} {tk te : DE} {fk fe : DEnv → R D} {vs : List Nat} (hi : PuI ti fi) (hA : PuT tA fA) (hk : PuE tk fk) (he : PuE te fe) : PuE (dDc ti tg tA tk te vs) (fDc fi tg fA fk fe vs) := fun ρ g Q Z hg h => hi ρ g _ Z hg (R.thn h fun ds _ h => by
  have h := sat_quiet (R.sat_bind h)
  have key : ∀ (ds : List D) (acc : List (Key × D)), (dcF tg fA fk fe (wipeD ρ vs) ds acc).sat g (fun kvs g' => Q (.dct kvs) g') ZF → dcD tg tA tk te (wipeD ρ vs) (fun kvs g2 => Q (.dct kvs) g2) ds acc g := by
    intro ds
    induction ds with
    | nil => intro acc h; exact h
    | cons d ds ih =>
      intro acc h
      unfold dcF at h
      obtain ⟨ρ', e, h⟩ := sat_ofO (R.sat_bind h)
      refine ⟨ρ', e, hA ρ' g _ ZF hg (R.thn h fun b _ h => ?_)⟩
      cases b with
      | false => exact ih acc h
      | true =>
        refine hk ρ' g _ ZF hg (R.thn h fun y _ h => ?_)
        obtain ⟨k, e2, h⟩ := sat_ofO (R.sat_bind h)
        refine ⟨k, e2, he ρ' g _ ZF hg (R.thn h fun z _ h => ?_)⟩
        split at h
        · rename_i hl; exact ⟨hl, ih _ h⟩
        · exact h.elim
  exact key ds [] h)
theorem dc_of {α : Type} {gg hv : α → D} {hk : α → Key} {fi : DEnv → R (List D)} {tg : DGp} {fA : DEnv → R Bool} {fk fe : DEnv → R D} {vs : List Nat} {η : DEnv} {as : List α} (h1 : fi η = .ok (as.map gg)) (hl : as.length < 1000)
    (k : ∀ a ∈ as, ∃ ρ' y, tg (gg a) (wipeD η vs) = some ρ' ∧ fA ρ' = .ok true ∧ fk ρ' = .ok y ∧ keyD y = some (hk a) ∧ fe ρ' = .ok (hv a)) : fDc fi tg fA fk fe vs η = .ok (.dct (as.foldl (fun acc a => putD acc (hk a) (hv a)) [])) := by
  have hz : 1000 < sizeLine := by decide
  have len : ∀ (acc : List (Key × D)) (k : Key) (d : D), (putD acc k d).length ≤ acc.length + 1 := fun acc k d => by
    unfold putD
    split <;> simp
  have key : ∀ (as : List α) (acc : List (Key × D)), acc.length + as.length < 1000 → (∀ a ∈ as, ∃ ρ' y, tg (gg a) (wipeD η vs) = some ρ' ∧ fA ρ' = .ok true ∧ fk ρ' = .ok y ∧ keyD y = some (hk a) ∧ fe ρ' = .ok (hv a)) → dcF tg fA fk fe (wipeD η vs) (as.map gg) acc = .ok (as.foldl (fun acc a => putD acc (hk a) (hv a)) acc) := by
    intro as
    induction as with
    | nil => intro acc _ _; rfl
    | cons a as ih =>
      intro acc hl k
      obtain ⟨ρ', y, e1, e2, e3, e4, e5⟩ := k a List.mem_cons_self
      rw [List.length_cons] at hl
      have := len acc (hk a) (hv a)
      rw [List.map_cons, dcF, e1, ofO_some, bind_ok, e2, bind_ok, if_pos rfl, e3, bind_ok, e4, ofO_some, bind_ok, e5, bind_ok, if_pos (by omega), ih _ (by omega) fun b hb => k b (List.mem_cons_of_mem _ hb)]
      rfl
  unfold fDc
  rw [h1, bind_ok, key as [] (by simpa using hl) k]
  rfl
end DL

namespace DL
open PySem L2 PyProof.Rows
/-! ### Base.__init__(self, ..) -/
structure BC (B : Tb) (P : Program) (w : World) (K : PySem.W.Frag) (mg : Str → Option Value) (base : Heap) (L : Nat) (x : Str) (ar : Nat) (S : DIn) : Prop where
  ex : ∃ C mc f fd ps, mg x = some (.ref C) ∧ ClX.CRead K C mc ∧ PySem.W.findCls K (.ref C) mc "__init__" = some (.val (.ref f)) ∧ PySem.W.keepIn K (.ref f) = true ∧ FnG P w K mg base L f fd ps (spInit B K ar S) ∧ Binds K fd ps []
theorem BC.mono {B : Tb} {P : Program} {w : World} {K : PySem.W.Frag} {mg : Str → Option Value} {base : Heap} {L L' : Nat} {x : Str} {ar : Nat} {S : DIn} (F : BC B P w K mg base L x ar S) (h : L ≤ L') : BC B P w K mg base L' x ar S :=
  let ⟨C, mc, f, fd, ps, a, b, c, d, e, k⟩ := F.ex
  ⟨C, mc, f, fd, ps, a, b, c, d, e.mono h, k⟩
def bcB (K : PySem.W.Frag) (C f : Addr) : Bool := (PySem.W.typeIn K (.ref C)).any fun mc => PySem.W.readsIn K C mc && decide (PySem.W.specialIn K (.ref C) "__getattribute__" = some (some (.builtin "type.__getattribute__"))) && (match PySem.W.findCls K (.ref C) mc "__init__" with | some (.val u) => decide (u = .ref f) | _ => false)
theorem bcB_ok {K : PySem.W.Frag} {C f : Addr} (h : bcB K C f = true) : ∃ mc, ClX.CRead K C mc ∧ PySem.W.findCls K (.ref C) mc "__init__" = some (.val (.ref f)) := by
  unfold bcB at h
  cases e : PySem.W.typeIn K (.ref C) with
  | none => rw [e] at h; cases h
  | some mc =>
    rw [e] at h
    simp only [Option.any_some, Bool.and_eq_true, decide_eq_true_eq] at h
    obtain ⟨⟨h1, h2⟩, h3⟩ := h
    refine ⟨mc, ⟨h1, h2⟩, ?_⟩
    split at h3
    · rename_i u e2; rw [e2, of_decide_eq_true h3]
    · cases h3
def dBase (i : Nat) (S : DIn) (tr : DA) : DS := fun En ρ g => ∃ k fs, ρ[i]? = some (.ob k fs) ∧ tr (mask ρ) g (fun xs g' => S k fs xs g' (fun fs' g2 => En.nx (ρ.set i (.ob k fs')) g2) ZF) fun ex g' => En.xz ex ρ g'
theorem upd_back {H : Hp} {x : Addr} {o u : HO} (h : H x = some u) : upd (upd H x o) x u = H := by
  funext a
  by_cases e : a = x
  · subst e; rw [upd_same, h]
  · rw [upd_ne e, upd_ne e]
section
variable {B : Tb} {X : Cx} {W : WX} {H₀ : En} {L i ar : Nat} {S : DIn} {x n : Str} {p1 pn apos cpos pos : Pos} {es : List Expr} {tr : DA}
theorem RelS.remade {K : PySem.W.Frag} {c₀ c c' : Cn} {g g' : Gh} {ρ : SEnv} {σ : L2.St} {H H' : Hp} {k : Nat} {fs gs : List (Str × D)} {p dx' : Addr} {v' : List (Str × V)} (r : RelS B K c₀ H₀ c g ρ σ H) (ep : p = H₀.th) (hi : ρ[i]? = some (.ob k fs))
    (s : Grow c (fun a => if a = p then none else H a) c' H') (kf : Fine B K c' g' H') (hx : H' p = some (.ins (B.ct k) dx' v')) (rf : RepF B K c' v' gs) (hF : c'.F p = none) (hp : c'.pen ≠ some p) (hm : p ∉ c'.ma) : RelS B K c₀ H₀ c' g' (ρ.set i (.ob k gs)) σ H' := by
  obtain ⟨dx, vs, h1, h2, h3, h4, h5, h6, h7⟩ := r.ob i p k fs ep hi
  have s1 : Grow c H c' (upd H' p (.ins (B.ct k) dx vs)) := by
    refine ⟨s.le, fun a o h n1 n2 => ?_, fun a h => ?_, fun a o h => ?_⟩
    · by_cases e : a = p
      · subst e; rw [h2] at h; rw [upd_same]; exact .inl h
      · rw [upd_ne e]
        exact s.kp a o (by rw [if_neg e]; exact h) n1 n2
    · rcases s.fresh a h with q | q
      · exact .inl q
      · by_cases e : a = p
        · subst e; exact absurd h (fun z => z.elim hp hm)
        · rw [if_neg e] at q; exact .inr q
    · rcases s.froz a o h with (q | q) | q
      · exact .inl (.inl q)
      · by_cases e : a = p
        · subst e; rw [hF] at h; cases h
        · rw [if_neg e] at q; exact .inl (.inr q)
      · exact .inr q
  have k1 : Fine B K c' g' (upd H' p (.ins (B.ct k) dx vs)) := kf.own hF hp hm (.inr ⟨_, hx, pl_ins⟩)
  have r1 := r.next s1 k1
  have r2 := r1.putO (dx := dx') (vs := v') (gs := gs) ep hi rf
  rw [upd_back hx] at r2
  exact r2
theorem ws_base {pl : Sem Bool} (F : BC B X.prog X.w X.K X.mg X.base L x ar S) (C : Ctx L X W) (hg : Gl X x) (hv : PE X (.Name n pn) (tVar i)) (ha : WA B X W es tr) (hn : es.length = ar := by rfl) (hdb : (x == ("__debug__" : Str)) = false := by decide)
    (he : starEach (.Name n pn :: es) X.env = (false, eval (.Name n pn) X.env) :: starEach es X.env := by rfl) (hpl : (backTo cpos (starEach es X.env)).any (·.1) = false := by rfl)
    (ht : eval (.Call (.Attribute (.Name x p1) "__init__" apos) (.Name n pn :: es) [] cpos) X.env = (do
      let v ← eval (.Name x p1) X.env
      standAt apos.atName
      let (g, first) ← holding [v] (getMethod v "__init__" pl)
      callWith cpos g first (backTo cpos (starEach (.Name n pn :: es) X.env)) (backToKw cpos (keywordEach [] X.env))) := by rfl)
    (hs : swapsWith (.Call (.Attribute (.Name x p1) "__init__" apos) (.Name n pn :: es) [] cpos) none pos.line X.env = pure false := by rfl) :
    WS B X W H₀ (.Expr (.Call (.Attribute (.Name x p1) "__init__" apos) (.Name n pn :: es) [] cpos) pos) (dBase i S tr) := by
  obtain ⟨C0, mc, f, fd, ps, hm, cr, hf, kp, G, hb⟩ := F.ex
  refine ⟨fun c₀ c g ρ σ H D r ⟨kk, fs, hi, q⟩ z => semS_of (ps_expr pe_sem hs) ?_⟩
  obtain ⟨dx0, us0, h0, _⟩ := r.ob i _ kk fs rfl hi
  intro pins s I
  refine PySem.W.methodCall_KW (pl := pl) (ld_glob I hg hm ?_ hdb) ht
  refine PySem.W.method_cls I.kIn cr.ga (PySem.W.cls_value I.kIn cr.rd hf rfl ?_)
  have I1 := I.tok (s.toks + 1)
  have all : semA X (.Name n pn :: es) σ H fun vs H' => ∃ c' g' ds ws, vs = .ref H₀.th :: ws ∧ Grow c H c' H' ∧ Fine B X.K c' g' H' ∧ Reps B X.K c' ws ds ∧ ds.length = es.length ∧ S kk fs ds g' (fun fs' g2 => D.nx (ρ.set i (.ob kk fs')) g2) ZF := by
    refine semA_of (pa_cons hv pa_sem he) ?_
    refine ⟨_, h0, (ha.run c g _ σ H _ _ r.fine r.mask q (r.zok z)).mono fun vs H' ⟨c', g', ds, s', k', rs, hl, hS⟩ => ?_⟩
    exact ⟨c', g', ds, vs, rfl, s', k', rs, hl, hS⟩
  refine PySem.W.callWith_K (first := []) (h₀ := X.base) I.ok.mod.kin kp (thn (all cpos pins _ I1) fun us s2 ⟨vs, H2, I2, rv, c', g', ds, ws, e1, s', k', rs, hl, hS⟩ => ⟨I2.kIn, ?_⟩) he hpl
  subst e1
  have r' := r.next s' k'
  obtain ⟨dx, us', h1, h2, h3, h4, h5, h6, h7⟩ := r'.ob i _ kk fs rfl hi
  refine run_fng (us := us) (vs := .ref _ :: ws) (dvs := []) (ds := []) (E := fun σ => L2.WE W σ) G C.room C.gd hb .nil (passAt C.tk σ) I2 rv ?_
  rw [List.append_nil]
  refine ⟨c', g', kk, fs, fun a => if a = H₀.th then none else H2 a, _, dx, us', ws, ds, _, ZF, rfl, by rw [rs.length, hl]; exact hn, ⟨Le.refl _, fun a o h _ _ => ?_, fun a h => .inl h, fun a o h => .inl (.inl h)⟩, k', h2, h3, h4, h5, h6, if_pos rfl, rs, hS, fun c3 H3 g3 dx' v' fs' s3 k3 hx rf hF hp hm' q3 => ?_, fun _ _ _ _ _ _ _ _ _ z => z.elim⟩
  · split at h
    · cases h
    · exact .inl h
  · exact ⟨c3, g3, _, r'.remade rfl hi s3 k3 hx rf hF hp hm', q3⟩
end
def fBase (i : Nat) (F : Nat → List (Str × D) → List D → R (List (Str × D))) (fr : DEnv → R (List D)) (ρ : SEnv) : Fl := match ρ[i]? with
  | some (SV.ob k fs) => (fr (mask ρ)).fl ρ fun xs => match F k fs xs with
    | .ok fs' => .nx (ρ.set i (.ob k fs'))
    | _ => .no
  | _ => .no
theorem pu_base {i : Nat} {S : DIn} {F : Nat → List (Str × D) → List D → R (List (Str × D))} {tr : DA} {fr : DEnv → R (List D)} (hF : PuIn S F) (hr : PuA tr fr) : PuS (dBase i S tr) (fBase i F fr) := fun En ρ g hg h => by
  unfold fBase at h
  split at h
  · rename_i k fs e
    refine ⟨k, fs, e, hr _ g _ _ hg (R.fl_thn h fun xs _ h => hF k fs xs g _ ZF hg ?_)⟩
    split at h
    · rename_i fs' e2; rw [e2]; exact h
    · exact h.elim
  · exact h.elim
theorem base_of {i k : Nat} {F : Nat → List (Str × D) → List D → R (List (Str × D))} {fr : DEnv → R (List D)} {ρ : SEnv} {fs fs' : List (Str × D)} {xs : List D} (h : ρ[i]? = some (.ob k fs)) (h1 : fr (mask ρ) = .ok xs) (h2 : F k fs xs = .ok fs') : fBase i F fr ρ = .nx (ρ.set i (.ob k fs')) := by
  unfold fBase
  rw [h]
  dsimp only
  rw [h1, fl_ok, h2]
end DL

namespace DL
open PySem L2 PyProof.Rows
/-! ### for x in range(e), e looks at lists of ours -/
def dForR (tw : DW) (tg : DG) (tb : DS) : DS := fun D ρ g => tw ρ g (fun x g' => ∃ j, x = .int j ∧ fits62 j = true ∧ forD tg tb D (rangeL 0 j.toNat) ρ g') fun ex g' => D.xz ex ρ g'
section
variable {B : Tb} {X : Cx} {W : WX} {H₀ : En}
theorem ws_forR {tg e : Expr} {body : List Stmt} {tw : DW} {dg : DG} {tb : DS} {p p2 pos : Pos} (hp : PassesOwn (model X.prog X.w) X.A X.env X.xe) (hc : X.calm = true) (hgl : Gl X "range") (hmg : X.mg "range" = none) (he : WEO B X W H₀ e tw) (hg : WG B X H₀ tg dg) (hb : WB B X W H₀ body tb)
    (hs : ∀ x, foldedSetIterable (.Call (.Name "range" p) [e] [] p2) X.env x = pure x := by intro _; rfl) (hst : starEach [e] X.env = [(false, eval e X.env)] := by rfl) : WS B X W H₀ (.For tg (.Call (.Name "range" p) [e] [] p2) body [] pos) (dForR tw dg tb) := by
  obtain ⟨gg, pg, hgg⟩ := hg.ex
  refine ⟨fun c₀ c g ρ σ H D r q z => semS_of (ps_for hp hc pi_sem pg pss_sem hs) ?_⟩
  refine (semI_of (tg := tg) (R := fun J H1 => ∃ c1 g1 ds, RelS B X.K c₀ H₀ c1 g1 ρ σ H1 ∧ Walks B X.K c1 J ds ∧ forD dg tb D ds ρ g1) (pi_range1 hgl hmg (pa_cons pe_sem pa_nil hst) hst) ?_).mono fun J H1 ⟨c1, g1, ds, r1, wk, q1⟩ => ?_
  · refine (he.run c₀ c g ρ σ H _ D r q z).mono fun v H1 ⟨c1, g1, d, r1, s1, rr, j, e1, hj, q1⟩ => ?_
    subst e1
    cases rr
    exact ⟨j, rfl, (fits_ok hj).1, (fits_ok hj).2, c1, g1, _, r1, walks_range, q1⟩
  refine ⟨fun i m σ' H' => m = ds.length - i ∧ i ≤ ds.length ∧ ∃ c' g' ρ', RelS B X.K c1 H₀ c' g' ρ' σ' H' ∧ forD dg tb D (ds.drop i) ρ' g', ⟨ds.length, by simp, Nat.zero_le _, c1, g1, ρ, r1.here, by simpa using q1⟩, ?_⟩
  rintro i m σ' H' ⟨rfl, hi, c', g', ρ', r', q'⟩
  obtain ⟨go, stop⟩ := wk c' g' H' r'.gr.le r'.fine
  by_cases hlt : i < ds.length
  · have hd : ds[i]? = some ds[i] := List.getElem?_eq_getElem hlt
    obtain ⟨g1', g2'⟩ := go i _ hd
    have hdr : ds.drop i = ds[i] :: ds.drop (i + 1) := List.drop_eq_getElem_cons hlt
    rw [hdr] at q'
    obtain ⟨ρ2, e2, q2⟩ := q'
    refine .inr ⟨g1', fun σ3 H3 => ∃ c3 g3 ρ3, RelS B X.K c1 H₀ c3 g3 ρ3 σ3 H3 ∧ forD dg tb D (ds.drop (i + 1)) ρ3 g3, fun σ3 H3 n3 => ⟨ds.length - (i + 1), by omega, rfl, hlt, n3⟩, fun x H2 y => ?_⟩
    obtain ⟨c2, s2, k2, rx⟩ := g2' x H2 y
    refine hgg c1 c2 g' ρ' ρ2 σ' H2 x _ _ (r'.next s2 k2) rx e2 fun σ3 r3 => ?_
    intro pins s I
    refine thn (hb.run c1 c2 g' ρ2 σ3 H2 _ r3 q2 (fun c' g' ρ' σ' H' ex cls d a b c => z c' g' ρ' σ' H' ex cls d (r1.rebase a) b c) pins s I) fun f s' hq => ?_
    exact SP.imp hq (fun _ _ h => h) (fun v H' ⟨c', g', d, s2, k2, rr, q'⟩ => ⟨c', g', d, r1.gr.over s2, k2, rr, q'⟩) (fun σ4 H4 ⟨c4, g4, ρ4, r4, q4⟩ => ⟨c4, g4, ρ4, r1.rebase r4, q4⟩) (fun _ _ h => h)
  · have e : i = ds.length := by omega
    subst e
    rw [List.drop_length] at q'
    exact .inl ⟨stop, c', g', ρ', r1.rebase r', q'⟩
end
def fForR (fw : SEnv → R D) (tg : DG) (fb : SEnv → Fl) (ρ : SEnv) : Fl := (fw ρ).fl ρ fun x => match x with
  | .int j => if fits62 j = true then forF tg fb (rangeL 0 j.toNat) ρ else .no
  | _ => .no
theorem pu_forR {tw : DW} {fw : SEnv → R D} {tg : DG} {tb : DS} {fb : SEnv → Fl} (hw : PuW tw fw) (hb : PuS tb fb) : PuS (dForR tw tg tb) (fForR fw tg fb) := fun En ρ g hg h => hw _ g _ _ hg (R.fl_thn h fun x _ h => by
  cases x with
  | int j =>
    dsimp only at h
    split at h
    · rename_i hj; exact ⟨j, rfl, hj, pu_forD hb hg _ ρ h⟩
    · exact h.elim
  | _ => exact h.elim)
/-! ### tuples of texts as constants -/
def strsV : List Str → List V := List.map V.str
def tupB (K : PySem.W.Frag) (a : Addr) (xs : List Str) : Bool := match K.lookup a with
  | some ⟨.type "tuple", _, .seq its _, _⟩ => decide (its.size ≤ sizeLine) && decide (its.toList.map (fun v => match v with | Value.str x _ => some x | _ => none) = xs.map some)
  | _ => false
theorem gc_tup {B : Tb} {K : PySem.W.Frag} {mg : Str → Option Value} {x : Str} {a : Addr} {xs : List Str} (hm : mg x = some (.ref a)) (h : tupB K a xs = true) : GC B K mg x (.tup (xs.map D.str)) := by
  unfold tupB at h
  split at h
  · rename_i dd its n sl e
    rw [Bool.and_eq_true, decide_eq_true_eq, decide_eq_true_eq] at h
    obtain ⟨h1, h2⟩ := h
    have key : ∀ (l : List Value) (xs : List Str), l.map (fun v => match v with | Value.str x _ => some x | _ => none) = xs.map some → Vals (xs.map V.str) l := by
      intro l
      induction l with
      | nil => intro xs h; cases xs with | nil => exact .nil | cons _ _ => cases h
      | cons v l ih =>
        intro xs h
        cases xs with
        | nil => cases h
        | cons x xs =>
          simp only [List.map_cons, List.cons.injEq] at h
          cases v with
          | str y t => obtain ⟨h3, h4⟩ := h; cases h3; exact .cons ⟨t, rfl⟩ (ih xs h4)
          | _ => cases h.1
    refine ⟨.ref a, .ref a, hm, rfl, fun c => .tup (vs := xs.map V.str) (.inr ⟨_, its, n, e, rfl, rfl, h1, key _ _ h2⟩) ?_⟩
    have reps : ∀ xs : List Str, Reps B K c (xs.map V.str) (xs.map D.str) := fun xs => by
      induction xs with
      | nil => exact .nil
      | cons x xs ih => exact .cons (.str x) ih
    exact reps xs
  · cases h
end DL

namespace DL
open PySem L2 PyProof.Rows
/-! ### len(o), o of an own class -/
section
variable {B : Tb} {X : Cx} {W : WX} {L i : Nat} {S : DSp} {a : Expr} {ta : DE} {p pos : Pos}
def rLenO (B : Tb) (K : PySem.W.Frag) (i : Nat) (S : DSp) : List V → Hp → VK → Prop := fun xs H Q => ∃ fs, rMeth B K S [.obj i fs] xs H (fun v H' => ∃ n : Int, v = .int n ∧ 0 ≤ n ∧ n < 2 ^ 63 ∧ Q (.int n) H')
theorem cr_lenO (F : MC B X.prog X.w X.K X.mg X.base L "__len__" i 0 S) (C : Ctx (L + 1) X W) : CallR X (.builtin "len") (rLenO B X.K i S) := by
  obtain ⟨f, fd, ps, cl, mt, G, hb⟩ := F.ex
  intro pins s σ H xs us Q I rx h
  obtain ⟨fs, c, g, Φ, k, rs, hS, hq⟩ := h
  have rs' := rs
  cases rs with
  | cons r1 rs =>
    cases rs
    obtain ⟨x, ox, od, rfl, J⟩ := inst_of I k.sub r1
    cases rx with
    | cons e1 e2 =>
      cases e2
      cases (show _ = Value.ref x from e1)
      obtain ⟨ml, hF⟩ := I.fr
      refine PySem.W.len_K hF I.ok.mod.kin J mt.at_ mt.fn ?_
      refine wpAny_mono (run_meth (us := [.ref x]) (vs := [.ref x]) G hb C.room.in1 C.gd I.env0.in1 I (.cons rfl .nil) rfl ⟨c, g, Φ, k, rs', hS, hq⟩) (fun w s' z => ?_) fun _ _ x => x
      obtain ⟨z', H', I', rz, n, ez, n0, n1, qz⟩ := z
      subst ez
      obtain ⟨t, rfl⟩ := (show ∃ t, w = Value.int n t from rz)
      exact ⟨⟨n0, n1⟩, .int n, H', I'.tok _, ⟨_, rfl⟩, qz⟩
def dLenO (i : Nat) (S : DSp) (ta : DE) : DE := fun ρ g Q Z => ta ρ g (fun x g1 => ∃ fs, x = .obj i fs ∧ S [x] g1 (fun d g2 => ∃ n : Int, d = .int n ∧ 0 ≤ n ∧ n < 2 ^ 63 ∧ Q (.int n) g2) ZF) Z
theorem we_lenO (F : MC B X.prog X.w X.K X.mg X.base L "__len__" i 0 S) (C : Ctx (L + 1) X W) (hg : Gl X "len") (hm : X.mg "len" = none) (ha : WE B X W a ta) (he : starEach [a] X.env = (false, eval a X.env) :: starEach [] X.env := by rfl) (hpl : (backTo pos (starEach [] X.env)).any (·.1) = false := by rfl) : WE B X W (.Call (.Name "len" p) [a] [] pos) (dLenO i S ta) := by
  refine ⟨fun c g ρ σ H Q Z k rl q z => sem_of (pe_callB (cr_lenO F C) hg hm Boot.«len» (pa_cons pe_sem pa_nil he) (by decide) (by decide) he hpl) ?_⟩
  refine (ha.run c g ρ σ H _ Z k rl q z).mono fun v H1 ⟨c1, g1, x, s1, k1, r1, fs, ex, hS⟩ => ?_
  subst ex
  exact ⟨fs, c1, g1, _, k1, .cons r1 .nil, hS, fun c' H' g' v d s3 k3 r3 ⟨n, ed, n0, n1, q3⟩ => by
    subst ed
    cases r3
    exact ⟨n, rfl, n0, n1, c', g', .int n, s1.trans s3, k3, .int n, q3⟩⟩
def fLenO (i : Nat) (F : List D → R D) (fa : DEnv → R D) (ρ : DEnv) : R D := (fa ρ).bind fun x => if isOb i x = true then (F [x]).quiet.bind fun d => (ofO (int? d)).bind fun n => if (decide (0 ≤ n) && decide (n < 2 ^ 63)) = true then .ok (.int n) else .no else .no
theorem pu_lenO {F : List D → R D} {fa : DEnv → R D} (hF : PuF S F) (ha : PuE ta fa) : PuE (dLenO i S ta) (fLenO i F fa) := fun ρ g Q Z hg h => ha ρ g _ Z hg (R.thn h fun x _ h2 => by
  split at h2
  · rename_i h1
    obtain ⟨fs, rfl⟩ : ∃ fs, x = .obj i fs := by
      cases x <;> simp [isOb] at h1
      subst h1
      exact ⟨_, rfl⟩
    refine ⟨_, rfl, hF _ g _ ZF hg ?_⟩
    have h2 := sat_quiet (R.sat_bind h2)
    refine R.sat_mono h2 fun d _ h2 => ?_
    obtain ⟨n, e, h2⟩ := sat_ofO (R.sat_bind h2)
    split at h2
    · rename_i hn
      obtain ⟨n0, n1⟩ := Bool.and_eq_true_iff.mp hn
      exact ⟨n, int?_eq e, of_decide_eq_true n0, of_decide_eq_true n1, h2⟩
    · exact h2.elim
  · exact h2.elim)
theorem lenO_of {F : List D → R D} {fa : DEnv → R D} {ρ : DEnv} {fs : List (Str × D)} {n : Nat} (h1 : fa ρ = .ok (.obj i fs)) (h2 : F [.obj i fs] = .ok (.int (n : Nat))) (hn : n < 1000000) : fLenO i F fa ρ = .ok (.int (n : Nat)) := by
  unfold fLenO
  rw [h1, bind_ok, if_pos (by simp [isOb]), h2]
  rw [quiet_ok, bind_ok, int?_int, ofO_some, bind_ok, if_pos (by rw [Bool.and_eq_true, decide_eq_true_eq, decide_eq_true_eq]; omega)]
end
/-! ### a def that calls itself: so deep at most -/
theorem fn_no {P : Program} {w : World} {K : PySem.W.Frag} {mg : Str → Option Value} {base : Heap} {k ar : Nat} {B : Tb} {f : Addr} {fd : FuncData} {ps : List Str} : FnG P w K mg base k f fd ps (spOf B K ar fun _ _ _ _ => False) :=
  ⟨fun vs H Q E h => by obtain ⟨c, g, ds, Φ, Ψ, _, _, _, z, _⟩ := h; exact z.elim, fun A outer s H args us vs Q E _ _ _ _ _ h => by obtain ⟨c, g, ds, Φ, Ψ, _, _, _, z, _⟩ := h; exact z.elim⟩
def SNo : DSp := fun _ _ _ _ => False
end DL

namespace DL
open PySem L2 PyProof.Rows
/-! ### tuple(range(..)), list(range(..)) -/
def rgOk (a b : Int) : Bool := fits62 a && fits62 b && decide ((b - a).toNat ≤ 2 ^ 24)
def tupR1 : D → Option D
  | .int j => if rgOk 0 j = true then some (.tup (rangeL 0 (j - 0).toNat)) else none
  | _ => none
def lstR1 : D → Option D
  | .int j => if rgOk 0 j = true then some (.lst (rangeL 0 (j - 0).toNat)) else none
  | _ => none
def tupR2 : D → D → Option D
  | .int i, .int j => if rgOk i j = true then some (.tup (rangeL i (j - i).toNat)) else none
  | _, _ => none
def lstR2 : D → D → Option D
  | .int i, .int j => if rgOk i j = true then some (.lst (rangeL i (j - i).toNat)) else none
  | _, _ => none
theorem rgOk_ok {a b : Int} (h : rgOk a b = true) : RgOk a b := by
  unfold rgOk at h
  rw [Bool.and_eq_true, Bool.and_eq_true, decide_eq_true_eq] at h
  exact ⟨(fits_ok h.1.1).1, (fits_ok h.1.1).2, (fits_ok h.1.2).1, (fits_ok h.1.2).2, h.2⟩
section
variable {B : Tb} {X : Cx} {W : WX} {L : Nat} {a b : Expr} {ta tb : DE} {p p2 pos pos2 : Pos}
theorem reps_rg {K : PySem.W.Frag} {c : Cn} {i j : Int} : Reps B K c (rgV i j) (rangeL i (j - i).toNat) := by
  unfold rgV rangeL
  generalize List.range (j - i).toNat = l
  induction l with
  | nil => exact .nil
  | cons x l ih => exact .cons (.int _) ih
theorem e_tupR1 (C : Ctx L X W) (hg : Gl X "tuple") (hm : X.mg "tuple" = none) (hg2 : Gl X "range") (hm2 : X.mg "range" = none) (ha : WE B X W a ta) (n1 : starEach [a] X.env = (false, eval a X.env) :: starEach [] X.env := by rfl)
    (n2 : starEach [.Call (.Name "range" p2) [a] [] pos2] X.env = (false, eval (.Call (.Name "range" p2) [a] [] pos2) X.env) :: starEach [] X.env := by rfl) : WE B X W (.Call (.Name "tuple" p) [.Call (.Name "range" p2) [a] [] pos2] [] pos) (dU tupR1 ta) := by
  refine ⟨fun c g ρ σ H Q Z k rl q z => sem_of (pe_tupRg C.calm hg hm (prg_1 hg2 hm2 pe_sem n1) n2) ?_⟩
  refine (ha.run c g ρ σ H _ Z k rl q z).mono fun v H1 ⟨c1, g1, d, s1, k1, r1, w, e, q1⟩ => ?_
  unfold tupR1 at e
  split at e
  · split at e
    · rename_i h; cases e; cases r1
      refine ⟨_, rfl, rgOk_ok h, fun y hy => ?_⟩
      obtain ⟨s3, k3⟩ := k1.lay (o := .tup _) hy
      exact ⟨_, g1, _, s1.trans s3, k3, .tup (SqT.of upd_same) reps_rg, q1⟩
    · cases e
  · cases e
theorem e_lstR1 (C : Ctx L X W) (hg : Gl X "list") (hm : X.mg "list" = none) (hg2 : Gl X "range") (hm2 : X.mg "range" = none) (ha : WE B X W a ta) (n1 : starEach [a] X.env = (false, eval a X.env) :: starEach [] X.env := by rfl)
    (n2 : starEach [.Call (.Name "range" p2) [a] [] pos2] X.env = (false, eval (.Call (.Name "range" p2) [a] [] pos2) X.env) :: starEach [] X.env := by rfl) : WE B X W (.Call (.Name "list" p) [.Call (.Name "range" p2) [a] [] pos2] [] pos) (dU lstR1 ta) := by
  refine ⟨fun c g ρ σ H Q Z k rl q z => sem_of (pe_listRg C.calm hg hm (prg_1 hg2 hm2 pe_sem n1) n2) ?_⟩
  refine (ha.run c g ρ σ H _ Z k rl q z).mono fun v H1 ⟨c1, g1, d, s1, k1, r1, w, e, q1⟩ => ?_
  unfold lstR1 at e
  split at e
  · split at e
    · rename_i h; cases e; cases r1
      refine ⟨_, rfl, rgOk_ok h, fun y hy => ?_⟩
      obtain ⟨s3, k3⟩ := k1.lay (o := .lst _) hy
      exact ⟨_, g1, _, s1.trans s3, k3, .lst upd_same reps_rg, q1⟩
    · cases e
  · cases e
theorem e_lstR2 (C : Ctx L X W) (hg : Gl X "list") (hm : X.mg "list" = none) (hg2 : Gl X "range") (hm2 : X.mg "range" = none) (ha : WE B X W a ta) (hb : WE B X W b tb) (n1 : starEach [a, b] X.env = (false, eval a X.env) :: starEach [b] X.env := by rfl) (n3 : starEach [b] X.env = (false, eval b X.env) :: starEach [] X.env := by rfl) (hp : (backTo pos2 (starEach [b] X.env)).any (·.1) = false := by rfl)
    (n2 : starEach [.Call (.Name "range" p2) [a, b] [] pos2] X.env = (false, eval (.Call (.Name "range" p2) [a, b] [] pos2) X.env) :: starEach [] X.env := by rfl) : WE B X W (.Call (.Name "list" p) [.Call (.Name "range" p2) [a, b] [] pos2] [] pos) (dOp lstR2 ta tb) := by
  refine ⟨fun c g ρ σ H Q Z k rl q z => sem_of (pe_listRg C.calm hg hm (prg_2 hg2 hm2 pe_sem pe_sem n1 n3 hp) n2) ?_⟩
  refine two ha hb k rl q z fun x y v u c2 g2 H2 s2 k2 r1 r2 ⟨w, e, q⟩ => ?_
  unfold lstR2 at e
  split at e
  · split at e
    · rename_i h; cases e; cases r1; cases r2
      refine ⟨_, _, rfl, rfl, rgOk_ok h, fun y hy => ?_⟩
      obtain ⟨s3, k3⟩ := k2.lay (o := .lst _) hy
      exact ⟨_, g2, _, s2.trans s3, k3, .lst upd_same reps_rg, q⟩
    · cases e
  · cases e
end
theorem rgOk_n {i j : Int} (h0 : 0 ≤ i) (h1 : i ≤ j) (h2 : j < 1000000) : rgOk i j = true := by
  unfold rgOk
  rw [fits_n h0 (by omega), fits_n (by omega) (by omega), Bool.and_self, Bool.true_and, decide_eq_true_eq]
  omega
end DL

namespace DL
open PySem L2 PyProof.Rows
/-! ### y = {..: .. for ..} at one line -/
theorem ps_setDc {X : Cx} {i : Nat} {y : Str} {py : Pos} {kx vx tg iter : Expr} {ifs : List Expr} {scope : Scope} {own : List (Str × Nat)} {pos spos : Pos} {wi : TI} {g : TG} {tt : TT} {tk tv : TE} (hc : X.calm = true) (hN : X.N.Nodup) (hy : X.N[i]? = some y) (hyl : X.env.scope.names.lookup y = some .local)
    (hsw : swapsWith (.DictComp kx vx [⟨tg, iter, ifs, 0⟩] scope pos) (some (.Name y py)) spos.line X.env = pure true) (hi : PI X tg iter wi) (ok : BlkOk X.N X.env.scope scope own)
    (hg : ∀ (s : Shared) (H : Hp) (C : Addr) (cl : List (Str × Addr)) (fp : List Addr), PG (X.blk s H scope (compEnvC scope cl C X.env) fp) tg g) (ht : ∀ (s : Shared) (H : Hp) (C : Addr) (cl : List (Str × Addr)) (fp : List Addr), PTs (X.blk s H scope (compEnvC scope cl C X.env) fp) ifs tt)
    (hk : ∀ (s : Shared) (H : Hp) (C : Addr) (cl : List (Str × Addr)) (fp : List Addr), PE (X.blk s H scope (compEnvC scope cl C X.env) fp) kx tk)
    (he : ∀ (s : Shared) (H : Hp) (C : Addr) (cl : List (Str × Addr)) (fp : List Addr), PE (X.blk s H scope (compEnvC scope cl C X.env) fp) vx tv) (hs : ∀ x, foldedSetIterable iter X.env x = pure x := by intro _; rfl) :
    PS X (.Assign [.Name y py] (.DictComp kx vx [⟨tg, iter, ifs, 0⟩] scope pos) spos) (tAsg (tDc wi g tt tk tv (own.map (·.2))) (gName i)) := by
  refine ⟨fun pins s σ H D I h => ?_⟩
  rw [exec_Assign_Name_used _ _ _ _ hsw]
  refine wpAny_bind (wpAny_standAt (wpAny_bind ?_))
  show wpAny _ X.A (do let _ ← comprehension (.DictComp kx vx [⟨tg, iter, ifs, 0⟩] scope pos) scope X.env (firstIterPos [⟨tg, iter, ifs, 0⟩] pos) newDict false (eval iter X.env) (some (assign (.Name y py) X.env))) _ _ s
  have h : tDc wi g tt tk tv (own.map (·.2)) σ H (fun x H1 => gName i x σ H1 D.nx) := h
  refine wpAny_bind (thn (dc_core (Qf := fun _ s' => SP X pins D .next s') hc hN I hi ok hg ht hk he hs h fun L C s' m H' I' q hn f => ?_) fun _ s' hq => wpAny_pure (wpAny_pure hq))
  show wpAny _ _ (assign (.Name y py) X.env (.ref L)) _ _ _
  refine wpAny_assign_Name (store_ok2 (v := V.ref L) I' hN hy (.inl hyl) rfl (fun s2 I2 ⟨a, sb, ha⟩ => ?_) (.inr hyl))
  obtain ⟨f0, f1, f2, f3, f4, f5⟩ := f
  have haC : C ≠ a := by
    rcases ha with z | z
    · rw [z]; exact f1
    · exact fun e => f4 y a z e.symm
  refine ⟨m, hn.sameBut sb haC, fun h3 sb3 => ?_⟩
  exact ⟨_, H', I2.turned (t' := s2.toks) (fun b o hb e => (sb3.2 b hb).trans e) f0 f1 f3 f4 f5, q⟩
section
variable {B : Tb} {X : Cx} {W : WX} {H₀ : En} {kx elt tg iter : Expr} {ifs : List Expr} {scope : Scope} {own : List (Str × Nat)} {pos : Pos} {ti : DI} {dg : DGp} {dt : DT} {tk te : DE}
theorem tDc_mono {wi : TI} {g : TG} {tt : TT} {tK tE : TE} {vs : List Nat} {σ : L2.St} {H : Hp} {Q Q' : VK} (hwi : ∀ σ H R R', wi σ H R → (∀ J H', R J H' → R' J H') → wi σ H R') (h : tDc wi g tt tK tE vs σ H Q) (k : ∀ v H', Q v H' → Q' v H') : tDc wi g tt tK tE vs σ H Q' :=
  hwi _ _ _ _ h fun J H1 h1 D hD => by
    obtain ⟨W, h0, turn⟩ := h1 D hD
    exact ⟨W, h0, fun i m H hw => (turn i m H hw).elim (fun ⟨a, b⟩ => .inl ⟨a, k _ _ b⟩) .inr⟩
theorem ws_setDc {i : Nat} {y : Str} {py spos : Pos} (hc : X.calm = true) (hN : X.N.Nodup) (hy : X.N[i]? = some y) (hyl : X.env.scope.names.lookup y = some .local)
    (hsw : swapsWith (.DictComp kx elt [⟨tg, iter, ifs, 0⟩] scope pos) (some (.Name y py)) spos.line X.env = pure true) (hi : WI B X W tg iter ti) (ok : BlkOk X.N X.env.scope scope own) (hg : WP B X scope (own.map (·.2)) tg dg)
    (ht : ∀ s H C cl fp, WTs B (blkOf X scope s H C cl fp) W0 ifs dt) (hk : ∀ s H C cl fp, WE B (blkOf X scope s H C cl fp) W0 kx tk) (he : ∀ s H C cl fp, WE B (blkOf X scope s H C cl fp) W0 elt te)
    (hs : ∀ x, foldedSetIterable iter X.env x = pure x := by intro _; rfl) : WS B X W H₀ (.Assign [.Name y py] (.DictComp kx elt [⟨tg, iter, ifs, 0⟩] scope pos) spos) (dSet i (dDc ti dg dt tk te (own.map (·.2)))) := by
  obtain ⟨g, tt, tK, tE, p1, p2, p3, p4, h⟩ := dc_sem hi hg ht hk he
  refine ⟨fun c₀ c gh ρ σ H D r q z => semS_of (ps_setDc hc hN hy hyl hsw pi_sem ok p1 p2 p3 p4 hs) ?_⟩
  exact tDc_mono (fun _ _ _ _ h k => semI.mono h k) (h c gh _ σ H _ _ r.fine r.mask q (r.zok z)) fun v H' m => by
    obtain ⟨c', g', d, s, k, rr, q'⟩ := m
    exact ⟨c', g', _, (r.next s k).set rr, q'⟩
end
end DL

namespace DL
open PySem L2 PyProof.Rows
/-! ### lists of unlike lengths, whatever is in them -/
def eqL (neg : Bool) (x y : D) : Option D := match x, y with
  | .lst xs, .lst ys => if xs.length = ys.length then eqA neg (.lst xs) (.lst ys) else some (.bl neg)
  | x, y => eqA neg x y
def rUnl (b : Bool) : R2 := fun x y H Q => ∃ l k xs ys, x = .ref l ∧ y = .ref k ∧ H l = some (.lst xs) ∧ H k = some (.lst ys) ∧ xs.length ≠ ys.length ∧ Q (.bl b) H
section
variable {B : Tb} {X : Cx} {W : WX} {L : Nat}
theorem op_unl (hu : X.A.units < cLine) : OpR X (compareOp .Eq) (rUnl false) := by
  intro pins s σ H x y v u Q I rx ry h
  obtain ⟨l, k, xs, ys, rfl, rfl, h1, h2, hn, q⟩ := h
  cases (show v = Value.ref l from rx)
  cases (show u = Value.ref k from ry)
  obtain ⟨z, its, n, r, hl, e⟩ := I.lstM h1
  obtain ⟨z2, its2, n2, r2, hl2, e2⟩ := I.lstM h2
  refine SeqAt.eq_list_lengthsAt (PySem.IsL.isList e) (PySem.IsL.isList e2) ?_ hu ⟨.bl false, H, I, rfl, q⟩
  have := r.length
  have := r2.length
  simp
  omega
theorem op_unlN (hu : X.A.units < cLine) : OpR X (compareOp .NotEq) (rUnl true) := by
  intro pins s σ H x y v u Q I rx ry h
  obtain ⟨l, k, xs, ys, rfl, rfl, h1, h2, hn, q⟩ := h
  cases (show v = Value.ref l from rx)
  cases (show u = Value.ref k from ry)
  obtain ⟨z, its, n, r, hl, e⟩ := I.lstM h1
  obtain ⟨z2, its2, n2, r2, hl2, e2⟩ := I.lstM h2
  refine SeqAt.RcNeAt.lists_lengths (PySem.IsL.isList e) (PySem.IsL.isList e2) ?_ hu X.prog X.w _ _ ⟨.bl true, H, I, rfl, q⟩
  have := r.length
  have := r2.length
  simp
  omega
theorem gv_eqL {neg : Bool} {r : R2} (h : Gives B X.K (eqA neg) r) : Gives B X.K (eqL neg) (fun x y H Q => r x y H Q ∨ rUnl neg x y H Q) := by
  intro c g H x y z v u Q k r1 r2 e q
  unfold eqL at e
  split at e
  · split at e
    · exact .inl (h c g H _ _ z v u Q k r1 r2 e q)
    · rename_i hn
      cases e
      cases r1 with
      | lst f1 s1 =>
        cases r2 with
        | lst f2 s2 => exact .inr ⟨_, _, _, _, rfl, rfl, k.sub _ _ f1, k.sub _ _ f2, by rw [s1.length, s2.length]; exact hn, done k (.bl _) q⟩
  · exact .inl (h c g H _ _ z v u Q k r1 r2 e q)
theorem o_eqL (C : Ctx L X W) : CO B X .Eq (eqL false) := ⟨_, (op_eq.or (op_eqD (by have := C.u65; omega))).or (op_unl (by have := C.u65; omega)), gv_eqL gv_eqA⟩
theorem o_neL (C : Ctx L X W) : CO B X .NotEq (eqL true) := ⟨_, (op_ne.or (op_neD (by have := C.u65; omega))).or (op_unlN (by have := C.u65; omega)), gv_eqL gv_neA⟩
theorem eqL_nil {neg : Bool} (xs : List D) : eqL neg (.lst xs) (.lst []) = some (.bl (if neg = true then !xs.isEmpty else xs.isEmpty)) := by
  cases xs with
  | nil =>
    show eqA neg (.lst []) (.lst []) = _
    rw [eqA_same (by simp [D.sm, smAll]) (by simp [D.dp, dpAll])]
    cases neg <;> rfl
  | cons x xs =>
    show (if (x :: xs).length = ([] : List D).length then eqA neg (.lst (x :: xs)) (.lst []) else some (.bl neg)) = _
    rw [if_neg (by simp)]
    cases neg <;> rfl
end
end DL

namespace DL
open PySem L2 PyProof.Rows
/-! ### a tuple, whatever is in it, and the empty one -/
def eqT (neg : Bool) (x y : D) : Option D := match x, y with
  | .tup xs, .tup [] => some (.bl (if neg = true then !xs.isEmpty else xs.isEmpty))
  | x, y => eqA neg x y
def rEmp (K : PySem.W.Frag) (neg : Bool) : R2 := fun x y H Q => ∃ l k xs, x = .ref l ∧ y = .ref k ∧ SqT K H l xs ∧ SqT K H k [] ∧ Q (.bl (if neg = true then !xs.isEmpty else xs.isEmpty)) H
section
variable {B : Tb} {X : Cx} {W : WX} {L : Nat}
theorem emp_val {xs : List V} {its : List Value} (r : Vals xs its) : ((List.range (min its.toArray.size 0)).all (fun _ => true) && its.toArray.size == 0) = xs.isEmpty := by
  have := r.length
  cases xs with
  | nil => cases its with
    | nil => rfl
    | cons a l => simp at this
  | cons x xs => cases its with
    | nil => simp at this
    | cons a l => simp
theorem op_emp (hu : X.A.units < cLine) : OpR X (compareOp .Eq) (rEmp X.K false) := by
  intro pins s σ H x y v u Q I rx ry h
  obtain ⟨l, k, xs, rfl, rfl, h1, h2, q⟩ := h
  cases (show v = Value.ref l from rx)
  cases (show u = Value.ref k from ry)
  obtain ⟨its, r, e, _⟩ := I.tuple h1
  obtain ⟨its2, r2, e2, _⟩ := I.tuple h2
  have l2 := r2.length
  cases its2 with
  | cons a l => simp at l2
  | nil =>
    refine SeqAt.eq_tupleAt (e := fun _ => true) (show s.heap.IsTuple l its.toArray from e) (show s.heap.IsTuple k #[] from e2) hu (fun j j1 j2 => absurd j2 (by simp)) ?_
    rw [show (#[] : Array Value).size = 0 from rfl, emp_val r]
    exact ⟨.bl _, H, I, rfl, q⟩
theorem op_empN (hu : X.A.units < cLine) : OpR X (compareOp .NotEq) (rEmp X.K true) := by
  intro pins s σ H x y v u Q I rx ry h
  obtain ⟨l, k, xs, rfl, rfl, h1, h2, q⟩ := h
  cases (show v = Value.ref l from rx)
  cases (show u = Value.ref k from ry)
  obtain ⟨its, r, e, _⟩ := I.tuple h1
  obtain ⟨its2, r2, e2, _⟩ := I.tuple h2
  have l2 := r2.length
  cases its2 with
  | cons a l => simp at l2
  | nil =>
    refine SeqAt.RcNeAt.tuples (e := fun _ => true) (show s.heap.IsTuple l its.toArray from e) (show s.heap.IsTuple k #[] from e2) hu (fun j j1 j2 => absurd j2 (by simp)) X.prog X.w _ _ ?_
    rw [show (#[] : Array Value).size = 0 from rfl, emp_val r]
    exact ⟨.bl _, H, I, rfl, q⟩
theorem reps_emp {K : PySem.W.Frag} {c : _} {vs : List V} {ds : List D} (s : Reps B K c vs ds) : vs.isEmpty = ds.isEmpty := by cases s <;> rfl
theorem gv_eqT {neg : Bool} {r : R2} (h : Gives B X.K (eqA neg) r) : Gives B X.K (eqT neg) (fun x y H Q => r x y H Q ∨ rEmp X.K neg x y H Q) := by
  intro c g H x y z v u Q k r1 r2 e q
  unfold eqT at e
  split at e
  · cases e
    cases r1 with
    | tup f1 s1 =>
      cases r2 with
      | tup f2 s2 =>
        cases s2
        refine .inr ⟨_, _, _, rfl, rfl, Evl.ex_t k.sub f1, Evl.ex_t k.sub f2, ?_⟩
        rw [reps_emp s1]
        exact done k (.bl _) q
  · exact .inl (h c g H _ _ z v u Q k r1 r2 e q)
theorem o_eqT (C : Ctx L X W) : CO B X .Eq (eqT false) := ⟨_, (op_eq.or (op_eqD (by have := C.u65; omega))).or (op_emp (by have := C.u65; omega)), gv_eqT gv_eqA⟩
theorem o_neT (C : Ctx L X W) : CO B X .NotEq (eqT true) := ⟨_, (op_ne.or (op_neD (by have := C.u65; omega))).or (op_empN (by have := C.u65; omega)), gv_eqT gv_neA⟩
end
end DL

namespace DL
open PySem L2 PyProof.Rows
/-! ### y = a list made of what is ours: ours too -/
def dSetOS (i : Nat) (tl : DEnv → Gh → (List D → Gh → Prop) → DZ → Prop) : DS := fun En ρ g => tl (snap ρ) g (fun ds g' => okG g g' = true ∧ nls ds = true ∧ En.nx (ρ.set i (.ow ds)) g') fun ex g' => okG g g' = true ∧ nlf ex.fs = true ∧ En.xz ex ρ g'
section
variable {B : Tb} {X : Cx} {W : WX} {H₀ : En} {e : Expr} {pos : Pos}
theorem ws_setOS {i : Nat} {x : Str} {pos' : Pos} {tl : DEnv → Gh → (List D → Gh → Prop) → DZ → Prop} (hN : X.N.Nodup) (hi : X.N[i]? = some x) (hx : Loc X.env.scope x) (he : WL B X W e tl) (hs : swapsWith e (some (.Name x pos')) pos.line X.env = pure false := by rfl)
    (hf : X.fn x = true ∨ X.env.scope.names.lookup x = some .local := by first | exact .inl rfl | exact .inr rfl) : WS B X W H₀ (.Assign [.Name x pos'] e pos) (dSetOS i tl) := by
  refine ⟨fun c₀ c g ρ σ H D r q z => semS_of (ps_set hN hi hx pe_sem hs hf) ?_⟩
  refine (he.run _ g _ σ H _ _ r.snapFine r.snapRel q (r.zsnap z)).mono fun v H' ⟨c', g', p, vs, ds, e1, s, k, h1, h2, h3, h4, h5, h6, q1, q2, q'⟩ => ?_
  subst e1
  obtain ⟨r', n', gr⟩ := r.unsnap s k q1
  refine ⟨_, g', _, r.take gr r'.fine h1 (h2.nl n' q2) ?_ h4 h5 h6, q'⟩
  show (if Owned ρ σ p then none else c'.F p) = none
  split
  · rfl
  · exact h3
def fSetOS (i : Nat) (fl : DEnv → R (List D)) (ρ : SEnv) : Fl := (fl (snap ρ)).flS ρ fun ds => if nls ds = true then .nx (ρ.set i (.ow ds)) else .no
theorem pu_setOS {i : Nat} {tl : DEnv → Gh → (List D → Gh → Prop) → DZ → Prop} {fl : DEnv → R (List D)} (he : PuL tl fl) : PuS (dSetOS i tl) (fSetOS i fl) := fun En ρ g hg h => he _ g _ _ hg (R.flS_thn hg h fun d _ h => by
  split at h
  · rename_i hn; exact ⟨okG_self hg, hn, h⟩
  · exact h.elim)
theorem setOS_of {i : Nat} {fl : DEnv → R (List D)} {ρ : SEnv} {ds : List D} (h : fl (snap ρ) = .ok ds) (hn : nls ds = true) : fSetOS i fl ρ = .nx (ρ.set i (.ow ds)) := by
  unfold fSetOS
  rw [h]
  show (if nls ds = true then Fl.nx (ρ.set i (.ow ds)) else .no) = _
  rw [if_pos hn]
end
end DL

namespace DL
open PySem L2 PyProof.Rows
open AutoSeq1 (wpAny_loadPart')
/-! ### == of two tuples whose items may be instances with an own __eq__ -/
section
variable {P : Program} {w : World} {A : Around} {R : Result → Shared → Prop}
theorem tupEqD (p q : Addr) (us vs : Array Value) (n m : Nat) (dp dq : Option Addr) (sp sq : Array (Option Value)) (same : us.size = vs.size) (J : Nat → Shared → Prop) (Dn : Shared → Prop)
    (step : ∀ i (g1 : i < us.size) (g2 : i < vs.size) s, J i s → wpAny (model P w) A.in1 (eqBool us[i] vs[i]) (fun r s' => if r = true then J (i + 1) s' else Dn s') (fun e s' => R (.error e) s') s)
    (all : ∀ s, J us.size s → R (.ok (.ret (.bool true))) s) (one : ∀ s, Dn s → R (.ok (.ret (.bool false))) s) {s : Shared}
    (hp : s.heap.get? p = some { cls := .type "tuple", dict := dp, data := .seq us n, slots := sp }) (hq : s.heap.get? q = some { cls := .type "tuple", dict := dq, data := .seq vs m, slots := sq }) (j0 : J 0 s) :
    wpAny (model P w) A.in1 (Builtin.«tuple.__eq__» ⟨[.ref p, .ref q], []⟩) (GQ.FinOf P w A R) (fun e s' => R (.error e) s') s := by
  have sub := AutoSeq1.sub_tuple_tuple
  have zl : (us.toList.zip vs.toList).length = us.size := by simp [same]
  have j1 := j0
  obtain ⟨h0, g0, d0, t0, o0⟩ := s
  wp_walk using wpAny_loadPart' hp, wpAny_loadPart' hq, wpAny_forIn_list _ (fun rs b s' => b.1 = none ∧ ∃ i, rs = (us.toList.zip vs.toList).drop i ∧ i ≤ us.size ∧ J i s') _
  case turn =>
    rintro ⟨y, x⟩ rs b s' ⟨nb, i, ez, li, ji⟩
    have lt : i < (us.toList.zip vs.toList).length := by
      rcases Nat.lt_or_ge i (us.toList.zip vs.toList).length with z | z
      · exact z
      · rw [List.drop_of_length_le z] at ez; cases ez
    have g1 : i < us.size := zl ▸ lt
    have g2 : i < vs.size := same ▸ g1
    rw [List.drop_eq_getElem_cons lt] at ez
    injection ez with e1 e2
    have ey : y = us[i] := by have z := congrArg Prod.fst e1; simpa using z
    have ex : x = vs[i] := by have z := congrArg Prod.snd e1; simpa using z
    subst ey ex
    refine wpAny_bind (wpAny_mono (step i g1 g2 s' ji) (fun r s2 q2 => ?_) fun _ _ z => z)
    cases r with
    | true =>
      wp_walk
      exact ⟨rfl, i + 1, e2, g1, by simpa using q2⟩
    | false =>
      wp_walk
      exact one s2 (by simpa using q2)
  case fin =>
    rintro ⟨b1, b2⟩ s' ⟨nb, i, ez, li, ji⟩
    simp only at nb
    subst nb
    have ge : us.size ≤ i := by
      rcases Nat.lt_or_ge i (us.toList.zip vs.toList).length with z | z
      · rw [List.drop_eq_getElem_cons z] at ez; cases ez
      · exact zl ▸ z
    have ei : i = us.size := by omega
    have fin := all s' (ei ▸ ji)
    wp_walk
    simpa [Builtin.Tuple.tupleCompareSizes, same] using fin
  case h => exact ⟨rfl, 0, rfl, Nat.zero_le _, j1⟩
end
section
variable {P : Program} {w : World} {A : Around} {E : Value → Shared → Prop} {s : Shared}
theorem rcTupD {p q : Addr} {us vs : Array Value} {Q : Value → Shared → Prop} (same : us.size = vs.size) (hu : A.units < cLine) (J : Nat → Shared → Prop) (Dn : Shared → Prop)
    (hp : s.heap.IsTuple p us) (hq : s.heap.IsTuple q vs)
    (step : ∀ i (g1 : i < us.size) (g2 : i < vs.size) s, J i s → wpAny (model P w) A.in1 (eqBool us[i] vs[i]) (fun r s' => if r = true then J (i + 1) s' else Dn s') E s)
    (all : ∀ s, J us.size s → Q (.bool true) s) (one : ∀ s, Dn s → Q (.bool false) s) (j0 : J 0 s) : wpAny (model P w) A (richCompare .Eq (.ref p) (.ref q)) Q E s := by
  obtain ⟨⟨c1, d1, t1, s1⟩, o1, k1, n1, m1⟩ := id hp
  obtain ⟨⟨c2, d2, t2, s2⟩, o2, k2, n2, m2⟩ := id hq
  simp only at k1 m1 k2 m2
  subst k1 m1 k2 m2
  refine wpAny_richCompare_same_room (op := .Eq) ⟨_, o1, rfl⟩ ⟨_, o2, rfl⟩ F.slot_tuple_eq (GQ.call_here F.slot_tuple_eq ⟨_, o1, rfl⟩ F.entry_tuple_eq (F.args_tuple_eq_2 _ _) ?_) hu
  exact tupEqD (R := wants (fun v s' => v ≠ .notImplemented ∧ Q v s') E) p q us vs n1 n2 d1 d2 s1 s2 same J Dn step (fun s' z => ⟨(fun x => nomatch x), all s' z⟩) (fun s' z => ⟨(fun x => nomatch x), one s' z⟩) o1 o2 j0
end
/-! plain data: what lies there says what it is -/
mutual
def D.pln : D → Bool
  | .non => true
  | .bl _ => true
  | .int _ => true
  | .str _ => true
  | .tup xs => plnAll xs
  | _ => false
def plnAll : List D → Bool
  | [] => true
  | x :: xs => x.pln && plnAll xs
end
def plnF : List (Str × D) → Bool
  | [] => true
  | x :: xs => x.2.pln && plnF xs
def plnO : D → Bool
  | .obj _ fs => plnF fs
  | _ => false
section
variable {B : Tb} {X : Cx} {pins : List (Addr × Obj)} {σ : L2.St} {H : Hp} {s : Shared} {c : Cn}
mutual
theorem Rep.inj (I : Inv X pins σ H s) (k : Ex c.F H) : ∀ {x : D} {v : V} {y : D}, x.pln = true → y.pln = true → Rep B X.K c v x → Rep B X.K c v y → x = y
  | .non, _, y, _, hy, .non, r2 => by cases r2; rfl
  | .bl _, _, y, _, hy, .bl _, r2 => by cases r2; rfl
  | .int _, _, y, _, hy, .int _, r2 => by cases r2; rfl
  | .str _, _, y, _, hy, .str _, r2 => by cases r2; rfl
  | .tup xs, _, y, hx, hy, .tup h1 s1, r2 => by
    cases r2 with
    | tup h2 s2 =>
      have e := I.tuple_inj (Evl.ex_t k h1) (Evl.ex_t k h2)
      subst e
      rw [Reps.inj I k (by simpa [D.pln] using hx) (by simpa [D.pln] using hy) s1 s2]
    | lst => simp [D.pln] at hy
    | dct => simp [D.pln] at hy
    | obj => simp [D.pln] at hy
    | exc => simp [D.pln] at hy
    | exc0 => simp [D.pln] at hy
    | loc => simp [D.pln] at hy
    | pen => simp [D.pln] at hy
    | scr => simp [D.pln] at hy
theorem Reps.inj (I : Inv X pins σ H s) (k : Ex c.F H) : ∀ {xs : List D} {vs : List V} {ys : List D}, plnAll xs = true → plnAll ys = true → Reps B X.K c vs xs → Reps B X.K c vs ys → xs = ys
  | [], _, _, _, _, .nil, .nil => rfl
  | x :: xs, _, _, hx, hy, .cons r1 s1, .cons r2 s2 => by
    simp only [plnAll, Bool.and_eq_true] at hx hy
    rw [Rep.inj I k hx.1 hy.1 r1 r2, Reps.inj I k hx.2 hy.2 s1 s2]
end
theorem RepF.inj (I : Inv X pins σ H s) (k : Ex c.F H) : ∀ {xs : List (Str × D)} {vs : List (Str × V)} {ys : List (Str × D)}, plnF xs = true → plnF ys = true → RepF B X.K c vs xs → RepF B X.K c vs ys → xs = ys
  | [], _, _, _, _, .nil, .nil => rfl
  | (kx, dx) :: xs, _, _, hx, hy, .cons r1 s1, .cons r2 s2 => by
    simp only [plnF, Bool.and_eq_true] at hx hy
    rw [Rep.inj I k hx.1 hy.1 r1 r2, RepF.inj I k hx.2 hy.2 s1 s2]
theorem obj_inj (I : Inv X pins σ H s) (k : Ex c.F H) {v : V} {i : Nat} {fs gs : List (Str × D)} (hf : plnF fs = true) (hg : plnF gs = true) (r1 : Rep B X.K c v (.obj i fs)) (r2 : Rep B X.K c v (.obj i gs)) : fs = gs := by
  cases r1 with
  | obj h1 s1 =>
    cases r2 with
    | obj h2 s2 =>
      rw [h1] at h2
      injection h2 with h2
      injection h2 with e1 e2 e3
      subst e3
      exact RepF.inj I k hf hg s1 s2
end
/-- how an item is compared: as data, or by its class's own == -/
inductive EK where
  | pl
  | ob (i : Nat) (S : DSp)
def eqTs : List EK → List D → List D → Gh → (Bool → Gh → Prop) → Prop
  | [], [], [], g, Q => Q true g
  | .pl :: ks, x :: xs, y :: ys, g, Q => ∃ b, eqA false x y = some (.bl b) ∧ if b = true then eqTs ks xs ys g Q else Q false g
  | .ob i S :: ks, x :: xs, y :: ys, g, Q => (∃ fs gs, x = .obj i fs ∧ y = .obj i gs) ∧ S [x, y] g (fun d g' => ∃ b, d = .bl b ∧ if b = true then eqTs ks xs ys g' Q else Q false g') ZF ∧
      ((x ≠ y ∧ plnO x = true ∧ plnO y = true) ∨ eqTs ks xs ys g Q)
  | _, _, _, _, _ => False
/-- the methods behind it -/
def EKOk (B : Tb) (X : Cx) (L : Nat) : List EK → Prop
  | [] => True
  | .pl :: ks => EKOk B X L ks
  | .ob i S :: ks => MC B X.prog X.w X.K X.mg X.base L "__eq__" i 1 S ∧ EKOk B X L ks
section
variable {B : Tb} {X : Cx} {W : WX} {L : Nat}
theorem eq_item (C : Ctx (L + 1) X W) {pins : List (Addr × Obj)} {σ : L2.St} {H : Hp} {s : Shared} {c : Cn} {g : Gh} {x y : D} {v u : V} {a b : Value} {t : Bool} {Q : Bool → Shared → Prop} (I : Inv X pins σ H s) (k : Fine B X.K c g H) (r1 : Rep B X.K c v x) (r2 : Rep B X.K c u y) (va : RelV v a) (vb : RelV u b)
    (e : eqA false x y = some (.bl t)) (q : ∀ s', Inv X pins σ H s' → Q t s') : wpAny (model X.prog X.w) X.A.in1 (eqBool a b) Q X.xe s := by
  unfold eqA at e
  split at e
  · cases r1; cases r2
    obtain ⟨t1, rfl⟩ := va
    obtain ⟨t2, rfl⟩ := vb
    cases e
    refine wpAny_eqBool_str (q _ I)
  · unfold eqD at e
    split at e
    · rename_i p1 p2 e1 e2
      split at e
      · rename_i hs
        obtain ⟨h1, h2⟩ := Bool.and_eq_true_iff.mp hs
        have d1 := Rep.dp k.sub r1 e1
        have d2 := Rep.dp k.sub r2 e2
        obtain ⟨as, w1⟩ := Dp.reads I _ v a d1 va
        obtain ⟨bs, w2⟩ := Dp.reads I _ u b d2 vb
        have := C.u65
        have h3 := SeqAt.depth_of_shaped h1
        have h4 : min p1.depth p2.depth ≤ p1.depth := Nat.min_le_left _ _
        cases e
        exact SeqAt.eqAt_reads _ _ X.A.in1 s a b as bs w1 w2 (SeqAt.canLay_of_shaped h1) (SeqAt.canLay_of_shaped h2) (by rw [PySem.Around.in1_units]; omega) X.prog X.w X.xe Q (q _ I)
      · cases e
    · cases e
def rTupO (B : Tb) (K : PySem.W.Frag) (ks : List EK) : R2 := fun x y H Q => ∃ c g xs ys Φ, Fine B K c g H ∧ Rep B K c x (.tup xs) ∧ Rep B K c y (.tup ys) ∧ xs.length = ks.length ∧ ys.length = ks.length ∧ eqTs ks xs ys g Φ ∧
  ∀ c' H' g' r, Grow c H c' H' → Fine B K c' g' H' → Φ r g' → Q (.bl r) H'
theorem ek_at : ∀ {ks : List EK} {i : Nat} {e : EK}, EKOk B X L ks → ks[i]? = some e → EKOk B X L [e]
  | _ :: _, 0, _, h, e => by
    simp at e; subst e
    rename_i k ks
    cases k with
    | pl => trivial
    | ob i S => exact ⟨h.1, trivial⟩
  | k :: ks, i + 1, e, h, he => by
    refine ek_at (ks := ks) (i := i) ?_ (by simpa using he)
    cases k with
    | pl => exact h
    | ob i S => exact h.2
theorem op_tupO {ks : List EK} (C : Ctx (L + 1) X W) (ok : EKOk B X L ks) : OpR X (compareOp .Eq) (rTupO B X.K ks) := by
  intro pins s σ H x y v u Q I rx ry h
  obtain ⟨c, g, xs, ys, Φ, k, r1, r2, l1, l2, he, hq⟩ := h
  cases r1 with
  | @tup a va _ h1 s1 =>
    cases r2 with
    | @tup b vb _ h2 s2 =>
      cases (show v = Value.ref a from rx)
      cases (show u = Value.ref b from ry)
      obtain ⟨ita, wa, pa, _⟩ := I.tuple (Evl.ex_t k.sub h1)
      obtain ⟨itb, wb, pb, _⟩ := I.tuple (Evl.ex_t k.sub h2)
      have na : ita.length = ks.length := by rw [← wa.length, s1.length, l1]
      have nb : itb.length = ks.length := by rw [← wb.length, s2.length, l2]
      refine rcTupD (us := ita.toArray) (vs := itb.toArray) (by simp [na, nb]) C.room.units0
        (fun i s' => ∃ H' c' g', Inv X pins σ H' s' ∧ Grow c H c' H' ∧ Fine B X.K c' g' H' ∧ eqTs (ks.drop i) (xs.drop i) (ys.drop i) g' Φ)
        (fun s' => ∃ H' c' g', Inv X pins σ H' s' ∧ Grow c H c' H' ∧ Fine B X.K c' g' H' ∧ Φ false g') pa pb ?_ ?_ ?_ ⟨H, c, g, I, Grow.refl c H, k, he⟩
      · rintro i g1 g2 s' ⟨H', c', g', I', gr, k', he'⟩
        have hi : i < ks.length := by simpa [na] using g1
        have hx : i < xs.length := by omega
        have hy : i < ys.length := by omega
        rw [List.drop_eq_getElem_cons hi, List.drop_eq_getElem_cons hx, List.drop_eq_getElem_cons hy] at he'
        obtain ⟨vx, ex, rx⟩ := s1.getD (List.getElem?_eq_getElem hx)
        obtain ⟨vy, ey, ry⟩ := s2.getD (List.getElem?_eq_getElem hy)
        obtain ⟨ux, fx, tx⟩ := wa.get ex
        obtain ⟨uy, fy, ty⟩ := wb.get ey
        have fx' : ita.toArray[i] = ux := by
          have z : ita[i]? = some ita.toArray[i] := by
            rw [List.getElem?_eq_getElem (by simpa using g1)]; simp
          rw [z] at fx; exact Option.some.inj fx
        have fy' : itb.toArray[i] = uy := by
          have z : itb[i]? = some itb.toArray[i] := by
            rw [List.getElem?_eq_getElem (by simpa using g2)]; simp
          rw [z] at fy; exact Option.some.inj fy
        rw [fx', fy']
        have rx := rx.mono gr.le
        have ry := ry.mono gr.le
        have okk := ek_at ok (List.getElem?_eq_getElem hi)
        generalize ks[i] = kk at he' okk
        generalize xs[i] = x at he' rx
        generalize ys[i] = y at he' ry
        cases kk with
        | pl =>
          obtain ⟨t, et, ht⟩ := he'
          refine eq_item C I' k' rx ry tx ty et fun s2 I2 => ?_
          cases t with
          | true => exact ⟨H', c', g', I2, gr, k', ht⟩
          | false => exact ⟨H', c', g', I2, gr, k', ht⟩
        | ob j S =>
          obtain ⟨⟨fs, gs, rfl, rfl⟩, hS, hid⟩ := he'
          obtain ⟨f, fd, ps, cl, mt, G, hb⟩ := okk.1.ex
          obtain ⟨a2, ox, od, rfl, J⟩ := inst_of I' k'.sub rx
          obtain ⟨b2, oy, oe, rfl, J'⟩ := inst_of I' k'.sub ry
          cases (show ux = Value.ref a2 from tx)
          cases (show uy = Value.ref b2 from ty)
          by_cases hab : a2 = b2
          · subst hab
            refine SeqAt.EqAt.same (A := X.A.in1) (s := s') (.ref a2) X.prog X.w X.xe _ ?_
            refine (if_pos rfl).mpr ⟨H', c', g', I', gr, k', ?_⟩
            rcases hid with ⟨ne, p1, p2⟩ | hid
            · exact absurd (by rw [obj_inj I' k'.sub p1 p2 rx ry]) ne
            · exact hid
          · obtain ⟨ml, hF⟩ := I'.fr
            refine GQ.eqBool_refG hab ?_
            refine PySem.W.cmp_K (op := .Eq) (tb := .ref (B.ct j)) (by have := C.u65; rw [PySem.Around.in1_units]; omega) hF I'.ok.mod.kin J J'.type (by unfold PySem.W.notFirst; simp) mt.at_ mt.fn ?_
            refine wpAny_mono (run_meth (us := [.ref a2, .ref b2]) (vs := [.ref a2, .ref b2]) (ds := [.obj j fs, .obj j gs]) (Q := fun v' H'' => ∃ t, v' = .bl t ∧ ∃ c'' g'', Grow c H c'' H'' ∧ Fine B X.K c'' g'' H'' ∧ if t = true then eqTs (ks.drop (i + 1)) (xs.drop (i + 1)) (ys.drop (i + 1)) g'' Φ else Φ false g'') G hb C.room.in1 C.gd I'.env0.in1 I' (.cons rfl (.cons rfl .nil)) rfl ⟨c', g', _, k', .cons rx (.cons ry .nil), hS, ?_⟩) (fun w s2 z => ?_) fun _ _ z => z
            · rintro c2 H2 g2 v2 d2 gr2 k2 r2 ⟨t, rfl, ht⟩
              exact ⟨t, r2.blv, c2, g2, gr.trans gr2, k2, ht⟩
            · obtain ⟨v2, H2, I2, rv, t, rfl, c2, g2, gr2, k2, ht⟩ := z
              cases (show w = Value.bool t from rv)
              refine ⟨t, rfl, ?_⟩
              cases t with
              | true => exact ⟨H2, c2, g2, I2, gr2, k2, ht⟩
              | false => exact ⟨H2, c2, g2, I2, gr2, k2, ht⟩
      · rintro s' ⟨H', c', g', I', gr, k', he'⟩
        rw [show ita.toArray.size = ks.length by simpa using na, List.drop_length, ← l1, List.drop_length, l1, ← l2, List.drop_length] at he'
        exact ⟨.bl true, H', I', rfl, hq _ _ _ _ gr k' he'⟩
      · rintro s' ⟨H', c', g', I', gr, k', he'⟩
        exact ⟨.bl false, H', I', rfl, hq _ _ _ _ gr k' he'⟩
/-- (a, ..) == (b, ..) -/
def dEqT (ks : List EK) (ta tb : DE) : DE := fun ρ g Q Z => ta ρ g (fun x g1 => tb ρ g1 (fun y g2 => ∃ xs ys, x = .tup xs ∧ y = .tup ys ∧ xs.length = ks.length ∧ ys.length = ks.length ∧ eqTs ks xs ys g2 (fun b g3 => Q (.bl b) g3)) Z) Z
variable {a b : Expr} {ta tb : DE} {pos : Pos} {ks : List EK}
theorem we_eqT (C : Ctx (L + 1) X W) (ok : EKOk B X L ks) (ha : WE B X W a ta) (hb : WE B X W b tb) (hmk : behindInMarks .Eq b = false := by rfl) : WE B X W (.Compare a [.Eq] [b] pos) (dEqT ks ta tb) := by
  refine ⟨fun c g ρ σ H Q Z k rl h z => sem_of (pe_cmpR (op_tupO C ok) pe_sem pe_sem hmk) ?_⟩
  refine two ha hb k rl h z fun x y v u c2 g2 H2 s2 k2 r1 r2 ⟨xs, ys, ex, ey, l1, l2, he⟩ => ?_
  subst ex ey
  exact ⟨c2, g2, xs, ys, _, k2, r1, r2, l1, l2, he, fun c' H' g' r s3 k3 q3 => ⟨c', g', _, s2.trans s3, k3, .bl r, q3⟩⟩
end
/-! as a function -/
mutual
def sameD : D → D → Bool
  | .non, .non => true
  | .bl a, .bl b => decide (a = b)
  | .int a, .int b => decide (a = b)
  | .str a, .str b => decide (a = b)
  | .tup xs, .tup ys => sameAll xs ys
  | _, _ => false
def sameAll : List D → List D → Bool
  | [], [] => true
  | x :: xs, y :: ys => sameD x y && sameAll xs ys
  | _, _ => false
end
def sameF : List (Str × D) → List (Str × D) → Bool
  | [], [] => true
  | x :: xs, y :: ys => decide (x.1 = y.1) && sameD x.2 y.2 && sameF xs ys
  | _, _ => false
def sameO : D → D → Bool
  | .obj _ fs, .obj _ gs => sameF fs gs
  | _, _ => false
mutual
theorem sameD_refl : ∀ {x : D}, x.pln = true → sameD x x = true
  | .non, _ => rfl
  | .bl _, _ => by simp [sameD]
  | .int _, _ => by simp [sameD]
  | .str _, _ => by simp [sameD]
  | .tup xs, h => by simpa [sameD] using sameAll_refl (xs := xs) (by simpa [D.pln] using h)
theorem sameAll_refl : ∀ {xs : List D}, plnAll xs = true → sameAll xs xs = true
  | [], _ => rfl
  | x :: xs, h => by
    simp only [plnAll, Bool.and_eq_true] at h
    simp [sameAll, sameD_refl h.1, sameAll_refl h.2]
end
theorem sameF_refl : ∀ {xs : List (Str × D)}, plnF xs = true → sameF xs xs = true
  | [], _ => rfl
  | (k, x) :: xs, h => by
    simp only [plnF, Bool.and_eq_true] at h
    simp [sameF, sameD_refl h.1, sameF_refl h.2]
theorem sameO_ne {x y : D} (hx : plnO x = true) (h : sameO x y = false) : x ≠ y := by
  rintro rfl
  cases x with
  | obj i fs =>
    have := sameF_refl (xs := fs) hx
    simp [sameO, this] at h
  | _ => simp [plnO] at hx
inductive FK where
  | pl
  | ob (i : Nat) (F : List D → R D)
def FKOk : List EK → List FK → Prop
  | [], [] => True
  | .pl :: ks, .pl :: fs => FKOk ks fs
  | .ob i S :: ks, .ob j F :: fs => i = j ∧ PuF S F ∧ FKOk ks fs
  | _, _ => False
def runTs : List FK → List D → List D → R Bool
  | [], [], [] => .ok true
  | .pl :: ks, x :: xs, y :: ys => (ofO (eqA false x y)).bind fun d => (ofO (bl? d)).bind fun b => if b = true then runTs ks xs ys else .ok false
  | .ob i F :: ks, x :: xs, y :: ys => if (isOb i x && isOb i y) = true then (F [x, y]).quiet.bind fun d => (ofO (bl? d)).bind fun b => if b = true then runTs ks xs ys else
      if (plnO x && plnO y && !sameO x y) = true then .ok false else .no else .no
  | _, _, _ => .no
theorem runTs_ok : ∀ {ks : List EK} {fs : List FK} {xs ys : List D} {g : Gh} {Q : Bool → Gh → Prop} {Z : DZ}, FKOk ks fs → memNl g = true → (runTs fs xs ys).sat g Q Z → (∀ e g, Z e g → False) → eqTs ks xs ys g Q
  | [], [], [], [], _, _, _, _, _, h, _ => h
  | .pl :: ks, .pl :: fs, x :: xs, y :: ys, g, Q, Z, hk, hg, h, hz => by
    obtain ⟨d, e1, h⟩ := sat_ofO (R.sat_bind h)
    obtain ⟨b, e2, h⟩ := sat_ofO (R.sat_bind h)
    rw [bl?_eq e2] at e1
    refine ⟨b, e1, ?_⟩
    cases b with
    | true => exact runTs_ok (ks := ks) (fs := fs) hk hg h hz
    | false => exact h
  | .ob i S :: ks, .ob j F :: fs, x :: xs, y :: ys, g, Q, Z, hk, hg, h, hz => by
    obtain ⟨rfl, hF, hk⟩ := hk
    unfold runTs at h
    split at h
    · rename_i hh
      obtain ⟨h1, h2⟩ := Bool.and_eq_true_iff.mp hh
      obtain ⟨f1, e1⟩ := isOb_eq h1
      obtain ⟨f2, e2⟩ := isOb_eq h2
      have h0 := h
      refine ⟨⟨f1, f2, e1, e2⟩, hF _ g _ ZF hg (sat_quiet (Z := Z) (R.thn h fun d _ h => ?_)), ?_⟩
      · obtain ⟨b, e, h⟩ := sat_ofO (R.sat_bind h)
        refine ⟨b, bl?_eq e, ?_⟩
        cases b with
        | true => exact runTs_ok hk hg h hz
        | false =>
          rw [if_neg (by decide)] at h
          split at h
          · exact h
          · exact h.elim
      · cases er : (F [x, y]).quiet with
        | no => rw [er] at h0; exact h0.elim
        | ex e => rw [er] at h0; exact (hz _ _ h0).elim
        | ok d =>
          rw [er] at h0
          obtain ⟨b, e, h⟩ := sat_ofO (R.sat_bind (show ((ofO (bl? d)).bind _).sat g Q Z from h0))
          cases b with
          | true => exact .inr (runTs_ok hk hg h hz)
          | false =>
            rw [if_neg (by decide)] at h
            split at h
            · rename_i hc
              simp only [Bool.and_eq_true, Bool.not_eq_true'] at hc
              exact .inl ⟨sameO_ne hc.1.1 hc.2, hc.1.1, hc.1.2⟩
            · exact h.elim
    · exact h.elim
def fEqT (fs : List FK) (fa fb : DEnv → R D) (ρ : DEnv) : R D := (fa ρ).bind fun x => (fb ρ).bind fun y => match x, y with
  | .tup xs, .tup ys => if (decide (xs.length = fs.length) && decide (ys.length = fs.length)) = true then (runTs fs xs ys).quiet.bind fun b => .ok (.bl b) else .no
  | _, _ => .no
theorem FKOk.len : ∀ {ks : List EK} {fs : List FK}, FKOk ks fs → fs.length = ks.length
  | [], [], _ => rfl
  | .pl :: ks, .pl :: fs, h => congrArg (· + 1) (FKOk.len (ks := ks) (fs := fs) h)
  | .ob _ _ :: ks, .ob _ _ :: fs, h => congrArg (· + 1) (FKOk.len h.2.2)
theorem pu_eqT {ks : List EK} {fs : List FK} {ta tb : DE} {fa fb : DEnv → R D} (hk : FKOk ks fs) (ha : PuE ta fa) (hb : PuE tb fb) : PuE (dEqT ks ta tb) (fEqT fs fa fb) := fun ρ g Q Z hg h =>
  ha ρ g _ Z hg (R.thn h fun x _ h => hb ρ g _ Z hg (R.thn h fun y _ h => by
    cases x with
    | tup xs =>
      cases y with
      | tup ys =>
        dsimp only at h
        split at h
        · rename_i hl
          obtain ⟨l1, l2⟩ := Bool.and_eq_true_iff.mp hl
          have hl := hk.len
          have h := R.sat_bind h
          refine ⟨xs, ys, rfl, rfl, by rw [of_decide_eq_true l1, hl], by rw [of_decide_eq_true l2, hl], runTs_ok (Z := ZF) hk hg (sat_quiet h) fun _ _ z => z⟩
        · exact h.elim
      | _ => exact h.elim
    | _ => exact h.elim))
end DL

namespace DL
open PySem L2 PyProof.Rows
/-! ### dicts of the module, text keys -/
/-- a written value -/
inductive Lc where
  | s (x : Str)
  | i (n : Int)
deriving DecidableEq
def Lc.d : Lc → D
  | .s x => .str x
  | .i n => .int n
def Lc.v : Lc → V
  | .s x => .str x
  | .i n => .int n
theorem Lc.rep {B : Tb} {K : PySem.W.Frag} {c : Cn} : ∀ l : Lc, Rep B K c l.v l.d
  | .s x => .str x
  | .i n => .int n
def lcB (l : Lc) (u : Value) : Bool := match l, u with
  | .s x, .str y _ => decide (x = y)
  | .i n, .int m _ => decide (n = m)
  | _, _ => false
theorem lcB_ok {l : Lc} {u : Value} (h : lcB l u = true) : RelV l.v u := by
  unfold lcB at h
  split at h
  · rw [of_decide_eq_true h]; exact ⟨_, rfl⟩
  · rw [of_decide_eq_true h]; exact ⟨_, rfl⟩
  · cases h
def dctB (K : PySem.W.Frag) (a : Addr) (kvs : List (Str × Lc)) : Bool := kvs.all fun q => match PySem.W.nsIn K a q.1 with
  | some (some u) => lcB q.2 u
  | _ => false
structure DCt (K : PySem.W.Frag) (w : World) (mg : Str → Option Value) (x : Str) (kvs : List (Str × Lc)) : Prop where
  ex : ∃ a es n, mg x = some (.ref a) ∧ KDict K w a es n ∧ ∀ y, match kvs.lookup y with
    | some l => ∃ u, PySem.W.nsIn K a y = some (some u) ∧ RelV l.v u
    | none => PySem.W.nsIn K a y = some none
theorem keys_out {P : Params} {y : Str} : ∀ {l : List DictEntry} {ks : List Str}, l.map He.keyOf = He.keysIn P ks → y ∉ ks → l.find? (·.key.isStr y) = none ∧ l.any (·.refKey) = false
  | [], _, _, _ => ⟨rfl, rfl⟩
  | e :: r, [], h, _ => by cases h
  | e :: r, k :: ks, h, hy => by
    have h1 : He.keyOf e :: r.map He.keyOf = some (k, PyData.keyHash P k) :: He.keysIn P ks := h
    injection h1 with h2 h3
    obtain ⟨i1, i2⟩ := keys_out h3 fun z => hy (List.mem_cons_of_mem _ z)
    unfold He.keyOf at h2
    split at h2
    · rename_i x t q
      obtain ⟨h5, h6⟩ := Prod.mk.inj (Option.some.inj h2)
      have ne : ¬ y = k := fun z => hy (by rw [z]; exact List.mem_cons_self)
      refine ⟨?_, ?_⟩
      · rw [List.find?_cons, show e.key.isStr y = false by rw [q, h5]; simp [Value.isStr]; exact fun z => ne z.symm]
        exact i1
      · rw [List.any_cons, i2, Bool.or_false]
        simp [DictEntry.refKey, q]
    · cases h2
theorem dct_mk {K : PySem.W.Frag} {w : World} {mg : Str → Option Value} {x : Str} {a : Addr} {kvs : List (Str × Lc)} (hm : mg x = some (.ref a)) (hd : He.dicW K a = some (He.keysIn w.params (kvs.map (·.1)))) (hb : dctB K a kvs = true) : DCt K w mg x kvs := by
  obtain ⟨es, n, kd⟩ := He.dicW_ok hd
  refine ⟨a, es, n, hm, kd, fun y => ?_⟩
  have hk : es.toList.map He.keyOf = He.keysIn w.params (kvs.map (·.1)) := by
    have h := hd
    unfold He.dicW at h
    rw [kd.at_] at h
    dsimp only at h
    split at h
    · exact Option.some.inj h
    · cases h
  cases e : kvs.lookup y with
  | some l =>
    dsimp only
    have hm : (y, l) ∈ kvs := by
      clear hb hk hd
      induction kvs with
      | nil => cases e
      | cons p r ih =>
        rw [List.lookup_cons] at e
        split at e
        · rename_i h
          have h : y = p.1 := by simpa using h
          cases e
          rw [h]; exact List.mem_cons_self
        · exact List.mem_cons_of_mem _ (ih e)
    have h2 := List.all_eq_true.mp hb _ hm
    dsimp only at h2
    split at h2
    · rename_i u eu
      exact ⟨u, eu, lcB_ok h2⟩
    · cases h2
  | none =>
    dsimp only
    have ny : y ∉ kvs.map (·.1) := by
      clear hb hk hd
      induction kvs with
      | nil => simp
      | cons p r ih =>
        rw [List.lookup_cons] at e
        split at e
        · cases e
        · rename_i h
          have h : ¬ y = p.1 := by simpa using h
          rw [List.map_cons, List.mem_cons]
          rintro (z | z)
          · exact h z
          · exact ih e z
    obtain ⟨h1, h2⟩ := keys_out hk ny
    unfold PySem.W.nsIn
    rw [kd.at_]
    dsimp only
    rw [h1]
    simp only [h2, Bool.false_eq_true, if_false]
/-! NAME.get(e, f) -/
def getC (kvs : List (Str × Lc)) (k z : D) : Option D := match k with
  | .str y => some (match kvs.lookup y with
    | some l => l.d
    | none => z)
  | _ => none
theorem getC_some {kvs : List (Str × Lc)} {k z w : D} (h : getC kvs k z = some w) : ∃ y, k = .str y ∧ w = (match kvs.lookup y with
    | some l => l.d
    | none => z) := by
  unfold getC at h
  split at h
  · exact ⟨_, rfl, (Option.some.inj h).symm⟩
  · cases h
section
variable {B : Tb} {X : Cx} {W : WX} {L : Nat} {x : Str} {kvs : List (Str × Lc)} {e f : Expr} {te tf : DE} {p apos cpos : Pos}
theorem we_getC (h : DCt X.K X.w X.mg x kvs) (hg : Gl X x) (he : WE B X W e te) (hf : WE B X W f tf) (m : M2 X (.Name x p) "get" apos e f cpos := by exact ⟨rfl, rfl, rfl, rfl⟩) (hd : (x == ("__debug__" : Str)) = false := by decide) :
    WE B X W (.Call (.Attribute (.Name x p) "get" apos) [e, f] [] cpos) (dOp (getC kvs) te tf) := by
  obtain ⟨a, es, n, h1, kd, hv⟩ := h.ex
  refine ⟨fun c g ρ σ H Q Z k rl q z => ?_⟩
  intro pins s I
  refine wpAny_Call_method m.base m.few m.line PySem.F.plainAttrs_dict PySem.F.slot_dict_get PySem.F.type_dict_get (thn ((pe_glob hg h1 (show RelV (.ref a) (.ref a) from rfl) hd).run pins s σ H (fun v H1 => v = .ref a ∧ H1 = H) I ⟨rfl, rfl⟩) fun u s1 ⟨v, H1, I1, rv, ev, eH⟩ => ?_)
  subst ev eH
  cases (show u = Value.ref a from rv)
  have hmap := PySem.W.mapOf_K (prog := X.prog) (w := X.w) I1.kIn kd.at_ kd.lit
  refine ⟨hmap.typeIs, fun b eb => ?_, ?_⟩
  · cases eb
    exact ⟨_, I1.kIn _ _ kd.at_, rfl⟩
  rw [m.trees]
  refine Calls.callWith_builtin rfl (Calls.evalArgs_plain (Calls.spliced_cons (thn (he.run c g ρ σ H1 _ Z k rl q z pins s1 I1) fun iv s2 ⟨y, H2, I2, ry, c2, g2, dy, s2', k2, ry2, q2⟩ =>
    Calls.spliced_cons (thn (hf.run c2 g2 ρ σ H2 _ Z k2 (rl.mono s2'.le) q2 (z.next s2') pins s2 I2) fun fv s3 ⟨zz, H3, I3, rz, c3, g3, dz, s3', k3, rz3, w', ew, q3⟩ => Calls.spliced_nil ?_))))
  obtain ⟨ky, rfl, rfl⟩ := getC_some ew
  cases ry2
  obtain ⟨t, rfl⟩ := ry
  have hmap3 := PySem.W.mapOf_K (prog := X.prog) (w := X.w) I3.kIn kd.at_ kd.lit
  refine call_meetsIn PySem.F.slot_dict_get hmap3.typeIs PySem.F.entry_dict_get (PySem.F.args_dict_get_3 _ _ _) (meets_dict_get_default (strKind X.prog X.w) a (strKind_is X.prog X.w ky t) kd.low fv) ⟨_, hmap3, ?_⟩
  have hy := hv ky
  cases el : kvs.lookup ky with
  | some l =>
    rw [el] at hy q3
    obtain ⟨u, eu, ru⟩ := hy
    refine ⟨l.v, H3, I3.tok _, ?_, c3, g3, _, s2'.trans s3', k3, l.rep, q3⟩
    rw [PySem.W.find_K kd.at_ eu]
    exact ru
  | none =>
    rw [el] at hy q3
    refine ⟨zz, H3, I3.tok _, ?_, c3, g3, _, s2'.trans s3', k3, rz3, q3⟩
    rw [PySem.W.find_K kd.at_ hy]
    exact rz
end
/-! ### the head, with such dicts -/
abbrev AlW : Type := (Bool × AlM) × List (Option (List (Option (Str × Int))))
def obsWK (fb : PySem.W.Frag → Bool) (fn : List He.FnD) (lm : List (Str × Option Str)) (ts : List (Str × List Str)) (look : Addr → Option Obj) (K : PySem.W.Frag) : AlW := (obsMK fb fn lm look K, ts.map fun t => He.dicW K (He.ga K t.1))
def obsWG (n : Nat) (fb : PySem.W.Frag → Bool) (fn : List He.FnD) (lm : List (Str × Option Str)) (ts : List (Str × List Str)) (look : Addr → Option Obj) : AlW :=
  let K := He.frG look (sysModules :: cStatics :: He.asG look n)
  obsWK fb fn lm ts look (cutK K (lm.map (tabA K)))
def hookW (n : Nat) (fb : PySem.W.Frag → Bool) (fn : List He.FnD) (lm : List (Str × Option Str)) (ts : List (Str × List Str)) : PySem.W.Hook where
  α := AlW
  obs := fun st => obsWG n fb fn lm ts st.heap.get?
  val := fun w => ((true, valM fn), ts.map fun t => some (He.keysIn w.params t.2))
  says := fun w hp => ∃ K : PySem.W.Frag, K.In hp ∧ SaysM fb fn K ∧ Codes K hp (csOf K lm) ∧ (ts.map fun t => He.dicW K (He.ga K t.1)) = ts.map fun t => some (He.keysIn w.params t.2)
  of := fun w s q => by
    have q0 := congrArg Prod.fst q
    have q1 := congrArg Prod.fst q0
    have q2 := congrArg Prod.snd q0
    have q3 := congrArg Prod.snd q
    refine ⟨_, cutK_in He.frG_in, q2, ?_, q3⟩
    have al := List.all_eq_true.mp (show lm.all _ = true from q1)
    refine ⟨fun x hx => ?_, fun x hx => ?_, fun x hx => ?_⟩ <;>
    · obtain ⟨p, hp, rfl⟩ := List.mem_map.mp hx
      obtain ⟨h1, h3⟩ := Bool.and_eq_true_iff.mp (al p hp)
      obtain ⟨h1, h2⟩ := Bool.and_eq_true_iff.mp h1
      first
        | exact emptyTab_ok h2
        | exact hdB_ok (cutK_in He.frG_in) h1
        | exact Option.isNone_iff_eq_none.mp h3
  keeps := fun _ _ _ ⟨K, inK, c, d, e⟩ up => ⟨K, PySem.W.Frag.In.keeps inK up, c, ⟨fun x hx => up _ _ (d.tab x hx), d.out, fun x hx => (d.hd x hx).keeps up⟩, e⟩
theorem obsWG_eq {n : Nat} {fb : PySem.W.Frag → Bool} {fn : List He.FnD} {lm : List (Str × Option Str)} {ts : List (Str × List Str)} (s : PySem.W.SharedT) : obsWG n fb fn lm ts (HandSHeadRun.getT s) = (hookW n fb fn lm ts).obs s.abs := by
  have q : HandSHeadRun.getT s = s.abs.heap.get? := funext (HandSHeadRun.getT_eq s)
  rw [q]
  rfl
theorem tab_at {K : PySem.W.Frag} {w : World} {ts : List (Str × List Str)} (h : (ts.map fun t => He.dicW K (He.ga K t.1)) = ts.map fun t => some (He.keysIn w.params t.2)) (i : Nat) {t : Str × List Str} (e : ts[i]? = some t) : He.dicW K (He.ga K t.1) = some (He.keysIn w.params t.2) := by
  have e2 : (ts.map fun t => He.dicW K (He.ga K t.1))[i]? = (ts.map fun t => some (He.keysIn w.params t.2))[i]? := by rw [h]
  rw [List.getElem?_map, List.getElem?_map, e] at e2
  exact Option.some.inj e2
end DL

namespace DL
open PySem PySem.Spec L2 PyProof.Rows
/-! ### sorted(set(e)), e a list of whole numbers -/
def emp (w : World) : Obj := { cls := .type "set", dict := none, data := .set #[] 0 (.fresh 0 0 (!w.params.followText "set-order")) }
section
variable {P : Program} {w : World} {A : Around} {E : Value → Shared → Prop} {s : Shared}
theorem setLI {l : Addr} {us : Array Value} (ns : List Int) {Q : Value → Shared → Prop} (hh : A.handled = none) (hl : s.heap.IsList l us) (hn : IntsAre us.toList ns) (hb : ns.length + 1 < scanBound)
    (fin : ∀ (h2 : Heap) (t c : Nat), SetR w h2 s.heap.objs.size (fun j => decide (j ∈ ns)) c → c ≤ ns.length → (∀ b o, s.heap.get? b = some o → h2.get? b = some o) → Q (.ref s.heap.objs.size) { s with heap := h2, toks := t }) :
    wpAny (model P w) A (call (.type "set") [.ref l]) Q E s := by
  have sz : us.size = ns.length := by have q := IntsAre.length hn; rw [Array.length_toList] at q; exact q
  obtain ⟨c, tl, mro⟩ := F.called_set.mro
  have k1 := F.called_set.made; have k2 := F.called_set.sub
  refine wpAny_call (codeAny_of_tree (show wpAny _ _ (callAny (.type "set") _) _ _ _ from wpAny_pure ⟨Code.quiet_builtin _ (by decide +kernel), codeAny_builtin F.entry_type_call ?_⟩))
  rw [Around.under_plain (weight_type_call_type "set" [.ref l] []) rfl]
  have k3 := F.called_set.notType; have k4 := F.called_set.canCreate; have k5 := F.typeCall_set_1 (.ref l)
  repeat (any_goals (first | assumption | wp_step))
  refine codeAny_mono (code_set_led1 (.ref l) (E := E) (Q₁ := fun u s1 => u = .ref s.heap.objs.size ∧ s1 = { s with heap := s.heap.push (emp w) }) ⟨rfl, rfl⟩) fun r s1 hr => ?_
  cases r with
  | error e => exact hr
  | ok fl =>
    cases fl with
    | ret u =>
      obtain ⟨rfl, rfl⟩ := hr
      have g0 : (s.heap.push (emp w)).get? s.heap.objs.size = some (emp w) := Heap.get?_push_size _ rfl
      have ty : Shared.TypeIs { s with heap := s.heap.push (emp w) } (.ref s.heap.objs.size) "set" := ⟨_, g0, rfl⟩
      have k6 := F.called_set.init.lookup; have k7 := F.called_set.init.bind (.ref s.heap.objs.size)
      repeat (any_goals (first | assumption | wp_step))
      refine codeAny_mono (codeAny_call_builtin (R := wants (fun r s2 => r = .none ∧ ∃ h2 t c, s2 = { s with heap := h2, toks := t } ∧ SetR w h2 s.heap.objs.size (fun j => decide (j ∈ ns)) c ∧ c ≤ ns.length ∧ (∀ b o, s.heap.get? b = some o → h2.get? b = some o)) E) F.called_set.init.plain F.entry_set_init (check_set_init_1 ty ?_)) fun r2 s2 hr2 => ?_
      · obtain ⟨⟨oc, od, dt, os⟩, ol, q1, n1, q2⟩ := hl
        simp only at q1 q2
        subst q1; subst q2
        have ol2 : (s.heap.push (emp w)).get? l = some { cls := .type "list", dict := od, data := .seq us n1, slots := os } := Heap.get?_push_of_some _ ol
        have k8 := F.sub_list_set; have k9 := F.sub_list_frozenset; have k10 : (Value.type "list" == Value.type "dict") = false := by decide
        have isl : (s.heap.push (emp w)).IsList l us := ⟨_, ol2, rfl, n1, rfl⟩
        unfold Builtin.«set.__init__» noKeywords Builtin.Frozenset.updateFrom
        generalize ep : pyIter = PI
        wp_walk
        subst ep
        refine wpAny_pyIter_list isl (wpAny_bind (wpAny_runValue ?_))
        have l0 : l < s.heap.objs.size := Heap.lt_size ol
        have k11 : A.in1.in1.in1.handled = none := by simp [hh]
        have ne : l ≠ (s.heap.push (emp w)).objs.size := by rw [Heap.size_push]; exact Nat.ne_of_lt (Nat.lt_succ_of_lt l0)
        have nf : s.heap.objs.size ∉ [(s.heap.push (emp w)).objs.size, l] := by
          rw [Heap.size_push]; simp only [List.mem_cons, List.mem_singleton, List.not_mem_nil, or_false, not_or]; exact ⟨Nat.ne_of_lt (Nat.lt_succ_self _), Nat.ne_of_gt l0⟩
        have val : ∀ (i : Nat) (v : Value), us[i]? = some v → ∃ k t, ns[i]? = some k ∧ v = .int k t := fun i v hv => by
          have hi : i < ns.length := by rw [← sz]; exact (Array.getElem?_eq_some_iff.mp hv).1
          obtain ⟨t, e⟩ := IntsAre.int_at hn i v (by rw [Array.getElem?_toList]; exact hv)
          exact ⟨ns[i], t, List.getElem?_eq_getElem hi, by rw [e, List.getD_eq_getElem?_getD, List.getElem?_eq_getElem hi] <;> rfl⟩
        refine set_update_ints ((Walks.list k11 _ l ne us).toS) s.heap.objs.size nf ns sz hb val (us.size - 0) 0 _ (by omega) (Nat.zero_le _) ⟨⟨_, Heap.get?_push_size _ rfl, rfl, rfl⟩, (isl.push _)⟩ ?start ?behind
        case start =>
          have g1 : ((s.heap.push (emp w)).push { cls := .type "list_iterator", data := .fields #[.ref l, .int 0 0] }).get? s.heap.objs.size = some (emp w) := Heap.get?_push_of_some _ g0
          exact ⟨0, Nat.le_refl 0, setR_new_at g1⟩
        case behind =>
          intro s3 c3 hm hc3 hS3
          obtain ⟨h2, g2, d2, t2, o2⟩ := s3
          obtain rfl : g2 = s.gens := hm.gens
          obtain rfl : d2 = s.drawn := hm.drawn
          obtain rfl : o2 = s.os := hm.os
          show wpAny _ _ _ _ _ _
          refine wpAny_pure (show wpAny _ _ (ret Value.none) _ _ _ from ?_)
          rw [sz] at hc3
          refine wpAny_pure ⟨rfl, h2, t2, c3, rfl, hS3, hc3, fun b o e => ?_⟩
          have b0 : b < s.heap.objs.size := Heap.lt_size e
          have b2 : b ≠ (s.heap.push (emp w)).objs.size := by rw [Heap.size_push]; exact Nat.ne_of_lt (Nat.lt_succ_of_lt b0)
          exact hm.heap b o (by simp only [List.mem_cons, List.mem_singleton, List.not_mem_nil, or_false, not_or]; exact ⟨Nat.ne_of_lt b0, b2⟩) (Heap.get?_push_of_some _ (Heap.get?_push_of_some _ e))
      · cases r2 with
        | error e => exact hr2
        | ok f2 =>
          cases f2 with
          | ret r =>
            obtain ⟨rfl, h2, t2, c2, rfl, hS2, hc2, hk2⟩ := hr2
            repeat (any_goals (first | assumption | wp_step))
            exact fin _ _ _ hS2 hc2 hk2
          | _ => exact hr2.elim
    | _ => exact hr.elim
end
def rSetL (K : PySem.W.Frag) (w : World) : List V → Hp → VK → Prop := fun vs H Q => ∃ (a : Addr) (ns : List Int), vs = [.ref a] ∧ SqL K H a (ns.map V.int) ∧ ns.length ≤ 60 ∧ ∀ p c, H p = none → c ≤ ns.length → Q (.ref p) (upd H p (SetO w p (fun j => decide (j ∈ ns)) c))
theorem cr_setL {X : Cx} (hc : X.calm = true) : CallR X (.type "set") (rSetL X.K X.w) := by
  intro pins s σ H vs us Q I r h
  obtain ⟨a, ns, rfl, ha, h60, q⟩ := h
  rw [Vals.ref1 r]
  obtain ⟨its, ri, pl, hz⟩ := I.list ha
  refine setLI ns (I.ok.hd hc) pl.isList (by simpa using RZ.intsAre_vals ri) (by unfold scanBound; omega) fun h2 t c hS hcl hk => ?_
  exact ⟨.ref _, upd H s.heap.objs.size (SetO X.w s.heap.objs.size (fun j => decide (j ∈ ns)) c), I.laid (t' := t) (fun b u e => hk b u e) (Nat.le_refl _) (setO_new hS), rfl, q _ _ (I.hok.fresh (Nat.le_refl _)) hcl⟩
/-- an object that is not told of -/
theorem Fine.aside {B : Tb} {K : PySem.W.Frag} {c : Cn} {g : Gh} {H : Hp} {p : Addr} {o : HO} (k : Fine B K c g H) (hp : H p = none) (no : ∀ ps, o ≠ HO.tbl ps := by nofun) : Grow c H c (upd H p o) ∧ Fine B K c g (upd H p o) := by
  have up : Ex H (upd H p o) := Evl.Ex.new hp
  refine ⟨⟨Le.refl c, fun a u h _ _ => .inl (up a u h), fun a h => .inl h, fun a u h => .inl (.inl h)⟩, ⟨fun a u h => up a u (k.sub a u h), k.pd, fun q hq => ?_, k.cells, k.mlen, k.mnd, fun i m a h1 h2 => ?_, tabs_put k.tabs (.inl hp) no, k.nt⟩⟩
  · obtain ⟨h1, hm, u, h2, h3⟩ := k.pen q hq
    exact ⟨h1, hm, u, by rw [upd_ne (ne_of_none h2 hp)]; exact h2, h3⟩
  · obtain ⟨h3, dx, fs, h4, h5⟩ := k.mem i m a h1 h2
    exact ⟨h3, dx, fs, by rw [upd_ne (ne_of_none h4 hp)]; exact h4, h5⟩
/-! rising, each once -/
def insU (k : Int) : List Int → List Int
  | [] => [k]
  | x :: xs => if k < x then k :: x :: xs else if k = x then x :: xs else x :: insU k xs
def sortU (ns : List Int) : List Int := ns.foldr insU []
theorem insU_mem {k j : Int} : ∀ {xs : List Int}, j ∈ insU k xs ↔ j = k ∨ j ∈ xs
  | [] => by simp [insU]
  | x :: xs => by
    unfold insU
    split
    · simp
    · split
      · rename_i h; subst h; simp
      · rw [List.mem_cons, insU_mem (xs := xs), List.mem_cons]
        constructor
        · rintro (h | h | h)
          · exact .inr (.inl h)
          · exact .inl h
          · exact .inr (.inr h)
        · rintro (h | h | h)
          · exact .inr (.inl h)
          · exact .inl h
          · exact .inr (.inr h)
theorem insU_pw {k : Int} : ∀ {xs : List Int}, xs.Pairwise (· < ·) → (insU k xs).Pairwise (· < ·)
  | [], _ => by simp [insU]
  | x :: xs, h => by
    rw [List.pairwise_cons] at h
    unfold insU
    split
    · rename_i hk
      refine List.pairwise_cons.mpr ⟨fun y hy => ?_, List.pairwise_cons.mpr h⟩
      rcases List.mem_cons.mp hy with rfl | hy
      · exact hk
      · have := h.1 y hy; omega
    · split
      · exact List.pairwise_cons.mpr h
      · refine List.pairwise_cons.mpr ⟨fun y hy => ?_, insU_pw h.2⟩
        rcases insU_mem.mp hy with rfl | hy
        · omega
        · exact h.1 y hy
theorem sortU_mem {j : Int} : ∀ {ns : List Int}, j ∈ sortU ns ↔ j ∈ ns
  | [] => by simp [sortU]
  | n :: ns => by
    show j ∈ insU n (sortU ns) ↔ _
    rw [insU_mem, sortU_mem, List.mem_cons]
theorem sortU_pw : ∀ {ns : List Int}, (sortU ns).Pairwise (· < ·)
  | [] => List.Pairwise.nil
  | n :: ns => insU_pw (sortU_pw (ns := ns))
theorem rise_eq : ∀ {xs ys : List Int}, xs.Pairwise (· < ·) → ys.Pairwise (· < ·) → (∀ k, k ∈ xs ↔ k ∈ ys) → xs = ys
  | [], [], _, _, _ => rfl
  | [], y :: ys, _, _, h => by have := (h y).mpr List.mem_cons_self; cases this
  | x :: xs, [], _, _, h => by have := (h x).mp List.mem_cons_self; cases this
  | x :: xs, y :: ys, hx, hy, h => by
    rw [List.pairwise_cons] at hx hy
    have e : x = y := by
      rcases List.mem_cons.mp ((h x).mp List.mem_cons_self) with z | z
      · exact z
      · rcases List.mem_cons.mp ((h y).mpr List.mem_cons_self) with z2 | z2
        · exact z2.symm
        · have := hx.1 y z2; have := hy.1 x z; omega
    subst e
    congr 1
    refine rise_eq hx.2 hy.2 fun k => ⟨fun hk => ?_, fun hk => ?_⟩
    · rcases List.mem_cons.mp ((h k).mp (List.mem_cons_of_mem _ hk)) with z | z
      · subst z; have := hx.1 k hk; omega
      · exact z
    · rcases List.mem_cons.mp ((h k).mpr (List.mem_cons_of_mem _ hk)) with z | z
      · subst z; have := hy.1 k hk; omega
      · exact z
def intL : List D → Option (List Int)
  | [] => some []
  | .int i :: r => (intL r).map (i :: ·)
  | _ => none
theorem intL_eq : ∀ {ds : List D} {ns : List Int}, intL ds = some ns → ds = ns.map D.int
  | [], ns, h => by cases h; rfl
  | d :: ds, ns, h => by
    cases d with
    | int i =>
      unfold intL at h
      cases e : intL ds with
      | none => rw [e] at h; cases h
      | some r => rw [e] at h; cases h; rw [intL_eq e]; rfl
    | _ => cases h
theorem intL_i : ∀ ns : List Int, intL (ns.map D.int) = some ns
  | [] => rfl
  | n :: ns => by
    show (intL (ns.map D.int)).map _ = _
    rw [intL_i ns]; rfl
def sortSetD : D → Option D
  | .lst ds => match intL ds with
    | some ns => if ns.length ≤ 60 then some (.lst ((sortU ns).map D.int)) else none
    | none => none
  | _ => none
theorem reps_int {B : Tb} {K : PySem.W.Frag} {c : Cn} : ∀ {ns : List Int} {vs : List V}, Reps B K c vs (ns.map D.int) → vs = ns.map V.int
  | [], _, .nil => rfl
  | n :: ns, _, .cons (.int _) t => by rw [reps_int t]; rfl
theorem int_reps {B : Tb} {K : PySem.W.Frag} {c : Cn} : ∀ ns : List Int, Reps B K c (ns.map V.int) (ns.map D.int)
  | [] => .nil
  | n :: ns => .cons (.int n) (int_reps ns)
section
variable {B : Tb} {X : Cx} {W : WX} {L : Nat} {e : Expr} {te : DE} {p p2 pos pos2 : Pos}
theorem we_sortSet (C : Ctx L X W) (hg : Gl X "sorted") (hm : X.mg "sorted" = none) (hg2 : Gl X "set") (hm2 : X.mg "set" = none) (he : WE B X W e te)
    (hs : starEach [Expr.Call (.Name "set" p2) [e] [] pos2] X.env = (false, eval (.Call (.Name "set" p2) [e] [] pos2) X.env) :: starEach [] X.env := by rfl) (hs2 : starEach [e] X.env = (false, eval e X.env) :: starEach [] X.env := by rfl) :
    WE B X W (.Call (.Name "sorted" p) [.Call (.Name "set" p2) [e] [] pos2] [] pos) (dU sortSetD te) := by
  refine ⟨fun c g ρ σ H Q Z k rl q z => sem_of (pe_callB (cr_sortedSet C.calm) hg hm Boot.«sorted» (pa_cons (pe_callTy (cr_setL C.calm) hg2 hm2 Boot.«set» (pa_cons pe_sem pa_nil hs2) (by decide) (by decide) hs2 rfl) pa_nil hs) (by decide) (by decide) hs rfl) ?_⟩
  refine (he.run c g ρ σ H _ Z k rl q z).mono fun v H1 ⟨c1, g1, d, s1, k1, rr, w1, ew, q1⟩ => ?_
  unfold sortSetD at ew
  split at ew
  · rename_i ds
    split at ew
    · rename_i ns en
      split at ew
      · rename_i h60
        cases ew
        have en := intL_eq en
        subst en
        cases rr with
        | @lst a vs _ h1 rs =>
          have ev := reps_int rs
          subst ev
          refine ⟨a, ns, rfl, SqL.of (k1.sub _ _ h1), h60, fun b n hb hn => ?_⟩
          refine ⟨b, _, n, rfl, upd_same, by omega, fun ms r hp hmem hlen hr => ?_⟩
          have no : ∀ ps, SetO X.w b (fun j => decide (j ∈ ns)) n ≠ HO.tbl ps := by nofun
          obtain ⟨s2, k2⟩ := k1.aside (o := SetO X.w b (fun j => decide (j ∈ ns)) n) hb no
          obtain ⟨s3, k3⟩ := k2.lay (o := .lst (ms.map V.int)) hr
          have em : ms = sortU ns := rise_eq hp sortU_pw fun j => by rw [hmem, sortU_mem]; exact decide_eq_true_iff
          subst em
          exact ⟨_, g1, _, (s1.trans s2).trans s3, k3, .lst upd_same (int_reps _), q1⟩
      · cases ew
    · cases ew
  · cases ew
end
end DL

namespace DL
open PySem L2 PyProof.Rows
/-! ### C.m(..), m a staticmethod of C -/
structure SM (B : Tb) (P : Program) (w : World) (K : PySem.W.Frag) (mg : Str → Option Value) (base : Heap) (L : Nat) (x m : Str) (ar : Nat) (S : DSp) : Prop where
  ex : ∃ C mc p f fd ps rest, mg x = some (.ref C) ∧ ClX.CRead K C mc ∧ PySem.W.findCls K (.ref C) mc m = some (.get (.builtin "staticmethod.__get__") (.ref p) .none (.ref C)) ∧ PySem.W.recIn K p "staticmethod" = some (.ref f :: rest) ∧
    PySem.W.keepIn K (.ref f) = true ∧ FnG P w K mg base L f fd ps (spOf B K ar S) ∧ Binds K fd ps []
theorem SM.mono {B : Tb} {P : Program} {w : World} {K : PySem.W.Frag} {mg : Str → Option Value} {base : Heap} {L L' : Nat} {x m : Str} {ar : Nat} {S : DSp} (F : SM B P w K mg base L x m ar S) (h : L ≤ L') : SM B P w K mg base L' x m ar S := by
  obtain ⟨C, mc, p, f, fd, ps, rest, h1, h2, h3, h4, h5, h6, h7⟩ := F.ex
  exact ⟨C, mc, p, f, fd, ps, rest, h1, h2, h3, h4, h5, h6.mono h, h7⟩
section
variable {B : Tb} {X : Cx} {W : WX} {L ar : Nat} {S : DSp} {x m : Str} {p0 apos pos : Pos} {e : Expr} {es : List Expr} {tr : DA}
theorem we_sm {pl : Sem Bool} (F : SM B X.prog X.w X.K X.mg X.base L x m ar S) (C : Ctx L X W) (hg : Gl X x) (ha : WA B X W (e :: es) tr) (hn : (e :: es).length = ar := by rfl) (hd : (x == ("__debug__" : Str)) = false := by decide) (he : starEach (e :: es) X.env = (false, eval e X.env) :: starEach es X.env := by rfl) (hpl : (backTo pos (starEach es X.env)).any (·.1) = false := by rfl)
    (ht : eval (.Call (.Attribute (.Name x p0) m apos) (e :: es) [] pos) X.env = (do
      let u ← eval (.Name x p0) X.env
      standAt apos.atName
      let (g, first) ← holding [u] (getMethod u m pl)
      callWith pos g first (backTo pos (starEach (e :: es) X.env)) (backToKw pos (keywordEach [] X.env))) := by rfl) : WE B X W (.Call (.Attribute (.Name x p0) m apos) (e :: es) [] pos) (dCall S tr) := by
  obtain ⟨cl, mc, p, f, fd, ps, rest, h1, h2, h3, h4, h5, G, hb⟩ := F.ex
  refine ⟨fun c g ρ σ H Q Z k rl h z pins s I => ?_⟩
  refine PySem.W.methodCall_KW (pl := pl) (thn ((pe_glob hg h1 (show RelV (.ref cl) (.ref cl) from rfl) hd).run pins s σ H (fun v H1 => v = .ref cl ∧ H1 = H) I ⟨rfl, rfl⟩) fun u s1 ⟨v, H1, I1, rx, ev, eH⟩ => ?_) ht
  subst ev eH
  cases (show u = Value.ref cl from rx)
  refine PySem.W.method_cls I1.kIn h2.ga (PySem.W.cls_bind I1.kIn h2.rd h3 (wpAny_call (PySem.W.sm_get (s := { s1 with toks := s1.toks + 1 }) I1.kIn h4 (PySem.W.handed_on rfl ?_))))
  have I2 := I1.tok (s1.toks + 1)
  refine PySem.W.callWith_K (first := []) (h₀ := X.base) I.ok.mod.kin h5 (thn (ha.run c g ρ σ H1 _ Z k rl h z pos pins _ I2) fun us s2 ⟨vs, H2, I3, r, c2, g2, ds, gr2, k2, rs, hl, q2⟩ => ⟨I3.kIn, ?_⟩) he hpl
  refine run_fng (us := us) (vs := vs) (dvs := []) (ds := []) (E := fun σ => L2.WE W σ) G C.room C.gd hb .nil (passAt C.tk σ) I3 r ?_
  rw [List.append_nil]
  exact ⟨c2, g2, ds, Q, Z, by rw [rs.length, hl, hn], k2, rs, q2, fun c' H' g' v d s3 k3 r3 q3 => ⟨c', g', d, gr2.trans s3, k3, r3, q3⟩, fun c' H' g' cls dd ex s3 k3 r3 q3 => z c' H' g' ex cls dd (gr2.trans s3) k3 r3 q3⟩
end
/-! facts: where the def of a staticmethod stands -/
def sAd (K : PySem.W.Frag) (T : String) (p : Str × Str) : Addr := He5.wf K (He.ga K p.1) T p.2
def smB (K : PySem.W.Frag) (x m : Str) : Bool := PySem.W.readsIn K (He.ga K x) (.type "type") && (decide (PySem.W.specialIn K (.ref (He.ga K x)) "__getattribute__" = some (some (.builtin "type.__getattribute__"))) && (He5.wrapB K (He.ga K x) "staticmethod" "staticmethod.__get__" m && PySem.W.keepIn K (.ref (sAd K "staticmethod" (x, m)))))
theorem sm_mk {B : Tb} {P : Program} {w : World} {K : PySem.W.Frag} {mg : Str → Option Value} {base : Heap} {L : Nat} {x m : Str} {ar : Nat} {S : DSp} {fd : FuncData} {ps : List Str} (hm : mg x = some (.ref (He.ga K x))) (h : smB K x m = true) (G : FnG P w K mg base L (sAd K "staticmethod" (x, m)) fd ps (spOf B K ar S)) (hb : Binds K fd ps []) : SM B P w K mg base L x m ar S := by
  unfold smB at h
  simp only [Bool.and_eq_true, decide_eq_true_eq] at h
  obtain ⟨h1, h2, h3, h4⟩ := h
  obtain ⟨k1, rest, k2⟩ := He5.wrapB_ok h3
  exact ⟨_, .type "type", _, _, fd, ps, rest, hm, ⟨h1, h2⟩, k1, k2, h4, G, hb⟩
theorem smB_kp {K : PySem.W.Frag} {x m : Str} (h : smB K x m = true) : PySem.W.keepIn K (.ref (sAd K "staticmethod" (x, m))) = true := by
  unfold smB at h
  simp only [Bool.and_eq_true] at h
  exact h.2.2.2
/-! the function at an address, looked at -/
def fnAt (K : PySem.W.Frag) (a : Addr) : He.FnV := match K.lookup a with
  | some ⟨_, _, .func fd, _⟩ => some (fd.name, fd.qualname, fd.params, fd.body, fd.scope, fd.globals, fd.closure, fd.defaults, fd.builtins)
  | _ => none
def codeB (K : PySem.W.Frag) (a : Addr) (q : Str) : Bool := match K.lookup a with
  | some ⟨_, _, .func fd, _⟩ => PySem.W.codeIn K fd.code q
  | _ => false
/-- a def within a wrapper: its class, its name, the wrapper -/
structure WrD where
  at_ : Str × Str
  T : String
  d : He.FnD
theorem fnAt_ok {K : PySem.W.Frag} {a : Addr} {d : He.FnD} (e : fnAt K a = d.val) (c : codeB K a d.qual = true) :
    ∃ oc od osl kV doc pm an cdv ct, K.lookup a = some ⟨oc, od, .func (PySem.W.fnOf d.name d.qual d.params d.body d.scope .none kV doc pm an cdv ct), osl⟩ ∧ PySem.W.codeIn K cdv d.qual = true := by
  unfold codeB at c
  unfold fnAt at e
  cases q : K.lookup a with
  | none => rw [q] at c; cases c
  | some o =>
    obtain ⟨oc, od, dt, osl⟩ := o
    rw [q] at e c
    cases dt with
    | func fd =>
      dsimp only at c e
      unfold He.FnD.val at e
      obtain ⟨n1, n2, n3, n4, n5, n6, n7, n8, n9⟩ := fd
      simp only [Option.some.injEq, Prod.mk.injEq] at e
      obtain ⟨e1, e2, e3, e4, e5, e6, e7, e8, e9⟩ := e
      subst e1 e2 e3 e4 e5 e6 e7 e8 e9
      exact ⟨oc, od, osl, _, _, _, _, _, _, rfl, c⟩
    | _ => cases c
/-! ### the head, with such defs too -/
abbrev AlV : Type := AlW × List He.FnV
def obsVG (n : Nat) (fb : PySem.W.Frag → Bool) (fn : List He.FnD) (lm : List (Str × Option Str)) (ts : List (Str × List Str)) (sf : List WrD) (look : Addr → Option Obj) : AlV :=
  let K := He.frG look (sysModules :: cStatics :: He.asG look n)
  let K2 := cutK K (lm.map (tabA K))
  (obsWK fb fn lm ts look K2, sf.map fun d => fnAt K2 (sAd K2 d.T d.at_))
def SaysV (sf : List WrD) (K : PySem.W.Frag) : Prop := (sf.map fun d => fnAt K (sAd K d.T d.at_)) = sf.map fun d => d.d.val
def hookV (n : Nat) (fb : PySem.W.Frag → Bool) (fn : List He.FnD) (lm : List (Str × Option Str)) (ts : List (Str × List Str)) (sf : List WrD) : PySem.W.Hook where
  α := AlV
  obs := fun st => obsVG n fb fn lm ts sf st.heap.get?
  val := fun w => (((true, valM fn), ts.map fun t => some (He.keysIn w.params t.2)), sf.map fun d => d.d.val)
  says := fun w hp => ∃ K : PySem.W.Frag, K.In hp ∧ SaysM fb fn K ∧ Codes K hp (csOf K lm) ∧ ((ts.map fun t => He.dicW K (He.ga K t.1)) = ts.map fun t => some (He.keysIn w.params t.2)) ∧ SaysV sf K
  of := fun w s q => by
    have qw := congrArg Prod.fst q
    have q0 := congrArg Prod.fst qw
    have q1 := congrArg Prod.fst q0
    have q2 := congrArg Prod.snd q0
    have q3 := congrArg Prod.snd qw
    have q4 := congrArg Prod.snd q
    refine ⟨_, cutK_in He.frG_in, q2, ?_, q3, q4⟩
    have al := List.all_eq_true.mp (show lm.all _ = true from q1)
    refine ⟨fun x hx => ?_, fun x hx => ?_, fun x hx => ?_⟩ <;>
    · obtain ⟨p, hp, rfl⟩ := List.mem_map.mp hx
      obtain ⟨h1, h3⟩ := Bool.and_eq_true_iff.mp (al p hp)
      obtain ⟨h1, h2⟩ := Bool.and_eq_true_iff.mp h1
      first
        | exact emptyTab_ok h2
        | exact hdB_ok (cutK_in He.frG_in) h1
        | exact Option.isNone_iff_eq_none.mp h3
  keeps := fun _ _ _ ⟨K, inK, c, d, e⟩ up => ⟨K, PySem.W.Frag.In.keeps inK up, c, ⟨fun x hx => up _ _ (d.tab x hx), d.out, fun x hx => (d.hd x hx).keeps up⟩, e⟩
theorem obsVG_eq {n : Nat} {fb : PySem.W.Frag → Bool} {fn : List He.FnD} {lm : List (Str × Option Str)} {ts : List (Str × List Str)} {sf : List WrD} (s : PySem.W.SharedT) : obsVG n fb fn lm ts sf (HandSHeadRun.getT s) = (hookV n fb fn lm ts sf).obs s.abs := by
  have q : HandSHeadRun.getT s = s.abs.heap.get? := funext (HandSHeadRun.getT_eq s)
  rw [q]
  rfl
theorem SaysV.fun_ {sf : List WrD} {K : PySem.W.Frag} (c : SaysV sf K) (i : Nat) {C m : Str} {T : String} {x q : Str} {st : Stmt} (h : sf[i]? = some ⟨(C, m), T, fnS (C, some m) x q st⟩) (hc : codeB K (sAd K T (C, m)) q = true) (hk : PySem.W.keepIn K (.ref (sAd K T (C, m))) = true) : ∃ fd, Fun K x q st (sAd K T (C, m)) fd := by
  have e2 : (sf.map fun d => fnAt K (sAd K d.T d.at_))[i]? = (sf.map fun d => d.d.val)[i]? := by rw [show (sf.map fun d => fnAt K (sAd K d.T d.at_)) = sf.map fun d => d.d.val from c]
  rw [List.getElem?_map, List.getElem?_map, h] at e2
  obtain ⟨oc, od, osl, kV, doc, pm, an, cdv, ct, l, cd⟩ := fnAt_ok (d := fnS (C, some m) x q st) (Option.some.inj e2) hc
  exact ⟨_, fun_mk (st := st) l cd hk⟩
end DL

namespace DL
open PySem L2 PyProof.Rows
/-! ### comprehensions of two clauses -/
def lc2D (tg : DGp) (tt : DT) (ti1 : DI) (tg1 : DGp) (tt1 : DT) (te : DE) (vs1 : List Nat) (ρ : DEnv) (Q : List D → Gh → Prop) : List D → List D → Gh → Prop
  | [], acc, g => Q acc g
  | d :: ds, acc, g => ∃ ρ', tg d ρ = some ρ' ∧ tt ρ' g (fun b g1 => if b = true then ti1 ρ' g1 (fun es g2 => lcD tg1 tt1 te (wipeD ρ' vs1) (fun acc' g3 => lc2D tg tt ti1 tg1 tt1 te vs1 ρ Q ds acc' g3) es acc g2) ZF else lc2D tg tt ti1 tg1 tt1 te vs1 ρ Q ds acc g1) ZF
def dLc2O (ti : DI) (tg : DGp) (tt : DT) (ti1 : DI) (tg1 : DGp) (tt1 : DT) (te : DE) (vs vs1 : List Nat) : DEnv → Gh → (List D → Gh → Prop) → DZ → Prop := fun ρ g Q Z => ti ρ g (fun ds g1 => lc2D tg tt ti1 tg1 tt1 te vs1 (wipeD ρ vs) Q ds [] g1) Z
def dLc2 (ti : DI) (tg : DGp) (tt : DT) (ti1 : DI) (tg1 : DGp) (tt1 : DT) (te : DE) (vs vs1 : List Nat) : DE := fun ρ g Q Z => dLc2O ti tg tt ti1 tg1 tt1 te vs vs1 ρ g (fun ds g1 => Q (.lst ds) g1) Z
section
variable {B : Tb} {X : Cx} {W : WX} {H₀ : En} {elt tg iter tg1 iter1 : Expr} {ifs ifs1 : List Expr} {scope : Scope} {own : List (Str × Nat)} {vs1 : List Nat} {pos : Pos} {ti ti1 : DI} {dg dg1 : DGp} {dt dt1 : DT} {te : DE}
theorem mine_of {K : PySem.W.Frag} {c c1 : Cn} {g1 : Gh} {H H1 : Hp} {p : Addr} (s : Grow c H c1 H1) (k : Fine B K c1 g1 H1) (hp : H1 p = none) : H p = none ∧ c1.F p = none ∧ c1.pen ≠ some p ∧ p ∉ c1.ma := by
  obtain ⟨a, b, c⟩ := k.notMut hp
  exact ⟨s.back k hp, a, b, c⟩
theorem lc2_sem (hi : WI B X W tg iter ti) (hg : WP B X scope (own.map (·.2)) tg dg) (ht : ∀ s H C cl fp, WTs B (blkOf X scope s H C cl fp) W0 ifs dt) (hi1 : ∀ s H C cl fp, WI B (blkOf X scope s H C cl fp) W0 tg1 iter1 ti1) (hg1 : WP B X scope vs1 tg1 dg1) (ht1 : ∀ s H C cl fp, WTs B (blkOf X scope s H C cl fp) W0 ifs1 dt1)
    (he : ∀ s H C cl fp, WE B (blkOf X scope s H C cl fp) W0 elt te) :
    ∃ (g : TG) (tt : TT) (wi1 : TI) (g1 : TG) (tt1 : TT) (tE : TE), (∀ s H C cl fp, PG (blkOf X scope s H C cl fp) tg g) ∧ (∀ s H C cl fp, PTs (blkOf X scope s H C cl fp) ifs tt) ∧ (∀ s H C cl fp, PI (blkOf X scope s H C cl fp) tg1 iter1 wi1) ∧ (∀ s H C cl fp, PG (blkOf X scope s H C cl fp) tg1 g1) ∧ (∀ s H C cl fp, PTs (blkOf X scope s H C cl fp) ifs1 tt1) ∧
      (∀ s H C cl fp, PE (blkOf X scope s H C cl fp) elt tE) ∧
      ∀ (c : Cn) (gh : Gh) (ρ : DEnv) (σ : L2.St) (H : Hp) (Q : List D → Gh → Prop) (Z : DZ), Fine B X.K c gh H → RelP B X.K c ρ σ → dLc2O ti dg dt ti1 dg1 dt1 te (own.map (·.2)) vs1 ρ gh Q Z → ZOk B X.K c H σ W Z →
        tLc2 (semI X tg iter) g tt wi1 g1 tt1 tE (own.map (·.2)) vs1 σ H (Mine B X.K c H Q) := by
  obtain ⟨g, pg, hgg⟩ := hg.ex
  obtain ⟨g1, pg1, hgg1⟩ := hg1.ex
  refine ⟨g, fun σ H Q => ∀ s H' C cl fp, semPTs (blkOf X scope s H' C cl fp) ifs σ H Q, fun σ H R => ∀ s H' C cl fp, semI (blkOf X scope s H' C cl fp) tg1 iter1 σ H R, g1, fun σ H Q => ∀ s H' C cl fp, semPTs (blkOf X scope s H' C cl fp) ifs1 σ H Q, fun σ H Q => ∀ s H' C cl fp, semE (blkOf X scope s H' C cl fp) elt σ H Q,
    pg, fun s H C cl fp => ⟨fun pins s1 σ H1 Q I h => h s H C cl fp pins s1 I⟩, fun s H C cl fp => ⟨fun pins s1 σ H1 R I h => h s H C cl fp pins s1 I⟩, pg1, fun s H C cl fp => ⟨fun pins s1 σ H1 Q I h => h s H C cl fp pins s1 I⟩, fun s H C cl fp => ⟨fun pins s1 σ H1 Q I h => h s H C cl fp pins s1 I⟩, ?_⟩
  intro c gh ρ σ H Q Z k r q z
  refine (hi.run c gh ρ σ H _ Z k r q z).mono fun J H1 ⟨c1, g1', ds, s1, k1, wk, q1⟩ => fun Dd hD => ?_
  obtain ⟨H0D, F1, pen1, ma1⟩ := mine_of s1 k1 hD
  refine ⟨fun i m H' => m = ds.length - i ∧ i ≤ ds.length ∧ ∃ c' g' xs es, Grow c1 H1 c' H' ∧ Fine B X.K c' g' H' ∧ H' Dd = some (.lst xs) ∧ Reps B X.K c' xs es ∧ c'.F Dd = none ∧ c'.pen ≠ some Dd ∧ Dd ∉ c'.ma ∧ lc2D dg dt ti1 dg1 dt1 te vs1 (wipeD ρ (own.map (·.2))) Q (ds.drop i) es g',
    ⟨ds.length, by simp, Nat.zero_le _, c1, g1', [], [], (Grow.refl c1 H1).own hD, k1.own F1 pen1 ma1, upd_same, .nil, F1, pen1, ma1, by simpa using q1⟩, ?_⟩
  rintro i m H' ⟨rfl, hi', c', g', xs, es, s', k', hx, rx, hF, hp, hm, q'⟩
  obtain ⟨go, stop⟩ := wk c' g' H' s'.le k'
  by_cases hlt : i < ds.length
  · have hd : ds[i]? = some ds[i] := List.getElem?_eq_getElem hlt
    obtain ⟨go1, go2⟩ := go i _ hd
    rw [List.drop_eq_getElem_cons hlt] at q'
    obtain ⟨ρ2, e2, q2⟩ := q'
    refine .inr ⟨go1, fun H3 => ∃ c3 g3 xs3 es3, Grow c1 H1 c3 H3 ∧ Fine B X.K c3 g3 H3 ∧ H3 Dd = some (.lst xs3) ∧ Reps B X.K c3 xs3 es3 ∧ c3.F Dd = none ∧ c3.pen ≠ some Dd ∧ Dd ∉ c3.ma ∧ lc2D dg dt ti1 dg1 dt1 te vs1 (wipeD ρ (own.map (·.2))) Q (ds.drop (i + 1)) es3 g3, fun H3 n3 => ⟨ds.length - (i + 1), by omega, rfl, hlt, n3⟩, fun x H2 y => ?_⟩
    obtain ⟨c2, s2, k2, rv⟩ := go2 x H2 y
    have r1 : RelP B X.K c2 (wipeD ρ (own.map (·.2))) (wipe σ (own.map (·.2))) := (r.mono ((s1.trans s').trans s2).le).wipe _
    refine hgg c2 g' _ ρ2 _ H2 x _ _ k2 r1 rv e2 fun σ3 r3 hw => ⟨by
      rw [hw]
      apply List.ext_getElem?
      intro j
      rw [wipe_get, wipe_get]
      split
      · cases σ[j]? <;> rfl
      · rfl, ?_⟩
    intro s0 H0 C cl fp pins0 s00 I0
    obtain ⟨tt0, pt0, ht0⟩ := (ht s0 H0 C cl fp).ex
    refine thn (pt0.run pins0 s00 σ3 H2 _ I0 (ht0 c2 g' ρ2 σ3 H2 _ ZF k2 r3 q2 zf_ok)) fun b s6 ⟨H3, I3, c3, g3, s3, k3, q3⟩ => ⟨H3, I3, ?_⟩
    obtain ⟨m1, m2, m3, m4⟩ := (s2.trans s3).mine hx hF hp hm
    cases b with
    | false => exact ⟨c3, g3, xs, es, (s'.trans s2).trans s3, k3, m1, rx.mono (s2.trans s3).le, m2, m3, m4, q3⟩
    | true =>
      intro s0' H0' C' cl' fp'
      refine ((hi1 s0' H0' C' cl' fp').run c3 g3 ρ2 σ3 H3 _ ZF k3 (r3.mono s3.le) q3 zf_ok).mono fun J1 H4 ⟨c4, g4, es1, s4, k4, wk1, q4⟩ => ?_
      obtain ⟨n1, n2, n3, n4⟩ := s4.mine m1 m2 m3 m4
      have base : Grow c1 H1 c4 H4 := ((s'.trans s2).trans s3).trans s4
      have rx4 : Reps B X.K c4 xs es := rx.mono ((s2.trans s3).trans s4).le
      have r4 : RelP B X.K c4 ρ2 σ3 := r3.mono (s3.trans s4).le
      refine ⟨fun j m H' => m = es1.length - j ∧ j ≤ es1.length ∧ ∃ c' g' xs es, Le c4 c' ∧ Grow c1 H1 c' H' ∧ Fine B X.K c' g' H' ∧ H' Dd = some (.lst xs) ∧ Reps B X.K c' xs es ∧ c'.F Dd = none ∧ c'.pen ≠ some Dd ∧ Dd ∉ c'.ma ∧
          lcD dg1 dt1 te (wipeD ρ2 vs1) (fun acc' g3 => lc2D dg dt ti1 dg1 dt1 te vs1 (wipeD ρ (own.map (·.2))) Q (ds.drop (i + 1)) acc' g3) (es1.drop j) es g',
        ⟨es1.length, by simp, Nat.zero_le _, c4, g4, xs, es, Le.refl c4, base, k4, n1, rx4, n2, n3, n4, by simpa using q4⟩, ?_⟩
      rintro j m5 H5 ⟨rfl, hj, c5, g5, xs5, es5, s5, b5, k5, hx5, rx5, hF5, hp5, hm5, q5⟩
      obtain ⟨goj, stopj⟩ := wk1 c5 g5 H5 s5 k5
      by_cases hlj : j < es1.length
      · have hdj : es1[j]? = some es1[j] := List.getElem?_eq_getElem hlj
        obtain ⟨gj1, gj2⟩ := goj j _ hdj
        rw [List.drop_eq_getElem_cons hlj] at q5
        obtain ⟨ρ6, e6, q6⟩ := q5
        refine .inr ⟨gj1, fun H' => ∃ c' g' xs es, Le c4 c' ∧ Grow c1 H1 c' H' ∧ Fine B X.K c' g' H' ∧ H' Dd = some (.lst xs) ∧ Reps B X.K c' xs es ∧ c'.F Dd = none ∧ c'.pen ≠ some Dd ∧ Dd ∉ c'.ma ∧
          lcD dg1 dt1 te (wipeD ρ2 vs1) (fun acc' g3 => lc2D dg dt ti1 dg1 dt1 te vs1 (wipeD ρ (own.map (·.2))) Q (ds.drop (i + 1)) acc' g3) (es1.drop (j + 1)) es g', fun H' n' => ⟨es1.length - (j + 1), by omega, rfl, hlj, n'⟩, fun x6 H6 y6 => ?_⟩
        obtain ⟨c6, s6, k6, rv6⟩ := gj2 x6 H6 y6
        have r6 : RelP B X.K c6 (wipeD ρ2 vs1) (wipe σ3 vs1) := (r4.mono (s5.trans s6.le)).wipe _
        refine hgg1 c6 g5 _ ρ6 _ H6 x6 _ _ k6 r6 rv6 e6 fun σ7 r7 hw7 => ⟨by
          rw [hw7]
          apply List.ext_getElem?
          intro j
          rw [wipe_get, wipe_get]
          split
          · cases σ3[j]? <;> rfl
          · rfl, ?_⟩
        intro s7 H7 C7 cl7 fp7 pins7 s77 I7
        obtain ⟨tt1', pt1, ht1'⟩ := (ht1 s7 H7 C7 cl7 fp7).ex
        refine thn (pt1.run pins7 s77 σ7 H6 _ I7 (ht1' c6 g5 ρ6 σ7 H6 _ ZF k6 r7 q6 zf_ok)) fun b s8 ⟨H8, I8, c8, g8, s8', k8, q8⟩ => ⟨H8, I8, ?_⟩
        obtain ⟨o1, o2, o3, o4⟩ := (s6.trans s8').mine hx5 hF5 hp5 hm5
        cases b with
        | false => exact ⟨c8, g8, xs5, es5, (s5.trans s6.le).trans s8'.le, (b5.trans s6).trans s8', k8, o1, rx5.mono (s6.trans s8').le, o2, o3, o4, q8⟩
        | true =>
          intro s9 H9 C9 cl9 fp9
          refine ((he s9 H9 C9 cl9 fp9).run c8 g8 ρ6 σ7 H8 _ ZF k8 (r7.mono s8'.le) q8 zf_ok).mono fun v H10 ⟨c10, g10, d10, s10, k10, rd, hlen, q10⟩ => ?_
          obtain ⟨t1, t2, t3, t4⟩ := s10.mine o1 o2 o3 o4
          have rx10 : Reps B X.K c10 xs5 es5 := rx5.mono ((s6.trans s8').trans s10).le
          have own1 : Grow c1 H1 c10 (upd H10 Dd (.lst (xs5 ++ [v]))) := (((b5.trans s6).trans s8').trans s10).own hD
          refine ⟨xs5, t1, by rw [rx10.length]; exact hlen, c10, g10, xs5 ++ [v], es5 ++ [d10], ?_, own1, k10.own t2 t3 t4, upd_same, rx10.append (.cons rd .nil), t2, t3, t4, q10⟩
          exact ((s5.trans s6.le).trans s8'.le).trans s10.le
      · have e : j = es1.length := by omega
        subst e
        rw [List.drop_length] at q5
        exact .inl ⟨stopj, c5, g5, xs5, es5, b5, k5, hx5, rx5, hF5, hp5, hm5, q5⟩
  · have e : i = ds.length := by omega
    subst e
    rw [List.drop_length] at q'
    exact .inl ⟨stop, c', g', Dd, xs, es, rfl, s1.trans s', k', hx, rx, hF, hp, hm, H0D, q'⟩
theorem we_lc2 (hc : X.calm = true) (hN : X.N.Nodup) (hi : WI B X W tg iter ti) (ok : BlkOk X.N X.env.scope scope own) (hv : ∀ i ∈ vs1, i ∈ own.map (·.2)) (hg : WP B X scope (own.map (·.2)) tg dg) (ht : ∀ s H C cl fp, WTs B (blkOf X scope s H C cl fp) W0 ifs dt) (hi1 : ∀ s H C cl fp, WI B (blkOf X scope s H C cl fp) W0 tg1 iter1 ti1) (hg1 : WP B X scope vs1 tg1 dg1) (ht1 : ∀ s H C cl fp, WTs B (blkOf X scope s H C cl fp) W0 ifs1 dt1)
    (he : ∀ s H C cl fp, WE B (blkOf X scope s H C cl fp) W0 elt te) (hs : ∀ x, foldedSetIterable iter X.env x = pure x := by intro _; rfl) (hs1 : ∀ env x, foldedSetIterable iter1 env x = pure x := by intro _ _; rfl) : WE B X W (.ListComp elt [⟨tg, iter, ifs, 0⟩, ⟨tg1, iter1, ifs1, 0⟩] scope pos) (dLc2 ti dg dt ti1 dg1 dt1 te (own.map (·.2)) vs1) := by
  obtain ⟨g, tt, wi1, g1, tt1, tE, p1, p2, p3, p4, p5, p6, h⟩ := lc2_sem hi hg ht hi1 hg1 ht1 he
  refine ⟨fun c gh ρ σ H Q Z k r q z => ?_⟩
  exact (sem_of (pe_lc2 hc hN pi_sem ok hv p1 p2 p3 p4 p5 p6 hs hs1) (h c gh ρ σ H (fun ds g1 => Q (.lst ds) g1) Z k r q z)).mono fun _ _ m => m.ice
theorem tLc2_mono {wi wi1 : TI} {g g1 : TG} {tt tt1 : TT} {tE : TE} {vs vs1 : List Nat} {σ : L2.St} {H : Hp} {Q Q' : VK} (h : tLc2 wi g tt wi1 g1 tt1 tE vs vs1 σ H Q) (hw : ∀ {R R' : It → Hp → Prop}, (∀ J H, R J H → R' J H) → wi σ H R → wi σ H R') (k : ∀ v H', Q v H' → Q' v H') : tLc2 wi g tt wi1 g1 tt1 tE vs vs1 σ H Q' := by
  refine hw (fun J H1 h D hD => ?_) h
  obtain ⟨Wv, h0, h⟩ := h D hD
  refine ⟨Wv, h0, fun i m H w => ?_⟩
  rcases h i m H w with ⟨a, b⟩ | c
  · exact .inl ⟨a, k _ _ b⟩
  · exact .inr c
theorem ws_setLc2 {i : Nat} {y : Str} {py spos : Pos} (hc : X.calm = true) (hN : X.N.Nodup) (hy : X.N[i]? = some y) (hyl : X.env.scope.names.lookup y = some .local)
    (hsw : swapsWith (.ListComp elt [⟨tg, iter, ifs, 0⟩, ⟨tg1, iter1, ifs1, 0⟩] scope pos) (some (.Name y py)) spos.line X.env = pure true) (hi : WI B X W tg iter ti) (ok : BlkOk X.N X.env.scope scope own) (hv : ∀ i ∈ vs1, i ∈ own.map (·.2)) (hg : WP B X scope (own.map (·.2)) tg dg) (ht : ∀ s H C cl fp, WTs B (blkOf X scope s H C cl fp) W0 ifs dt)
    (hi1 : ∀ s H C cl fp, WI B (blkOf X scope s H C cl fp) W0 tg1 iter1 ti1) (hg1 : WP B X scope vs1 tg1 dg1) (ht1 : ∀ s H C cl fp, WTs B (blkOf X scope s H C cl fp) W0 ifs1 dt1) (he : ∀ s H C cl fp, WE B (blkOf X scope s H C cl fp) W0 elt te)
    (hs : ∀ x, foldedSetIterable iter X.env x = pure x := by intro _; rfl) (hs1 : ∀ env x, foldedSetIterable iter1 env x = pure x := by intro _ _; rfl) : WS B X W H₀ (.Assign [.Name y py] (.ListComp elt [⟨tg, iter, ifs, 0⟩, ⟨tg1, iter1, ifs1, 0⟩] scope pos) spos) (dSet i (dLc2 ti dg dt ti1 dg1 dt1 te (own.map (·.2)) vs1)) := by
  obtain ⟨g, tt, wi1, g1, tt1, tE, p1, p2, p3, p4, p5, p6, h⟩ := lc2_sem hi hg ht hi1 hg1 ht1 he
  refine ⟨fun c₀ c gh ρ σ H D r q z => semS_of (ps_setLc2 hc hN hy hyl hsw pi_sem ok hv p1 p2 p3 p4 p5 p6 hs hs1) ?_⟩
  refine tLc2_mono (h c gh _ σ H _ _ r.fine r.mask q (r.zok z)) (fun k h => semI.mono h k) fun v H' m => ?_
  obtain ⟨c', g', d, s, k, rr, q'⟩ := Mine.ice (Q := fun d g' => D.nx (ρ.set i (.fz d)) g') m
  exact ⟨c', g', _, (r.next s k).set rr, q'⟩
end
/-! as a function -/
def lc2F (tg : DGp) (fA : DEnv → R Bool) (fi1 : DEnv → R (List D)) (tg1 : DGp) (fA1 : DEnv → R Bool) (fe : DEnv → R D) (vs1 : List Nat) (ρ : DEnv) : List D → List D → R (List D)
  | [], acc => .ok acc
  | d :: ds, acc => (ofO (tg d ρ)).bind fun ρ' => (fA ρ').bind fun b => if b = true then (fi1 ρ').bind fun es => (lcF tg1 fA1 fe (wipeD ρ' vs1) es acc).bind fun acc' => lc2F tg fA fi1 tg1 fA1 fe vs1 ρ ds acc' else lc2F tg fA fi1 tg1 fA1 fe vs1 ρ ds acc
def fLc2 (fi : DEnv → R (List D)) (tg : DGp) (fA : DEnv → R Bool) (fi1 : DEnv → R (List D)) (tg1 : DGp) (fA1 : DEnv → R Bool) (fe : DEnv → R D) (vs vs1 : List Nat) (ρ : DEnv) : R D := (fi ρ).bind fun ds => (lc2F tg fA fi1 tg1 fA1 fe vs1 (wipeD ρ vs) ds []).quiet.bind fun xs => .ok (.lst xs)
section
variable {tA tA1 : DT} {fA fA1 : DEnv → R Bool} {te : DE} {fe : DEnv → R D}
theorem lcD_of {tg : DGp} {ρ : DEnv} {g : Gh} {Q : List D → Gh → Prop} (hA : PuT tA fA) (he : PuE te fe) (hg : memNl g = true) : ∀ (ds acc : List D), (lcF tg fA fe ρ ds acc).sat g Q ZF → lcD tg tA te ρ Q ds acc g
  | [], acc, h => h
  | d :: ds, acc, h => by
    unfold lcF at h
    obtain ⟨ρ', e, h⟩ := sat_ofO (R.sat_bind h)
    refine ⟨ρ', e, hA ρ' g _ ZF hg (R.thn h fun b _ h => ?_)⟩
    cases b with
    | false => exact lcD_of hA he hg ds acc h
    | true =>
      refine he ρ' g _ ZF hg (R.thn h fun y _ h => ?_)
      split at h
      · rename_i hl; exact ⟨hl, lcD_of hA he hg ds _ h⟩
      · exact h.elim
theorem lc2D_of {ti1 : DI} {fi1 : DEnv → R (List D)} {tg tg1 : DGp} {vs1 : List Nat} {ρ : DEnv} {g : Gh} {Q : List D → Gh → Prop} (hA : PuT tA fA) (hi1 : PuI ti1 fi1) (hA1 : PuT tA1 fA1) (he : PuE te fe) (hg : memNl g = true) : ∀ (ds acc : List D), (lc2F tg fA fi1 tg1 fA1 fe vs1 ρ ds acc).sat g Q ZF → lc2D tg tA ti1 tg1 tA1 te vs1 ρ Q ds acc g
  | [], acc, h => h
  | d :: ds, acc, h => by
    unfold lc2F at h
    obtain ⟨ρ', e, h⟩ := sat_ofO (R.sat_bind h)
    refine ⟨ρ', e, hA ρ' g _ ZF hg (R.thn h fun b _ h => ?_)⟩
    cases b with
    | false => exact lc2D_of hA hi1 hA1 he hg ds acc h
    | true => exact hi1 ρ' g _ ZF hg (R.thn h fun es _ h => lcD_of hA1 he hg es acc (R.thn h fun acc' _ h => lc2D_of hA hi1 hA1 he hg ds acc' h))
theorem pu_lc2 {ti ti1 : DI} {fi fi1 : DEnv → R (List D)} {tg tg1 : DGp} {vs vs1 : List Nat} (hi : PuI ti fi) (hA : PuT tA fA) (hi1 : PuI ti1 fi1) (hA1 : PuT tA1 fA1) (he : PuE te fe) : PuE (dLc2 ti tg tA ti1 tg1 tA1 te vs vs1) (fLc2 fi tg fA fi1 tg1 fA1 fe vs vs1) := fun ρ g Q Z hg h =>
  hi ρ g _ Z hg (R.thn h fun ds _ h => lc2D_of hA hi1 hA1 he hg ds [] (sat_quiet (Z := Z) (R.thn h fun xs _ h => h)))
theorem lc2_of {α β : Type} {g : α → D} {bs : α → List β} {g1 : β → D} {p : α → β → Bool} {h : α → β → D} {fi fi1 : DEnv → R (List D)} {tg tg1 : DGp} {vs vs1 : List Nat} {η : DEnv} {as : List α} (h1 : fi η = .ok (as.map g)) (hl : (as.map fun a => (bs a).length).sum < 1000)
    (k : ∀ a ∈ as, ∃ ρ', tg (g a) (wipeD η vs) = some ρ' ∧ fA ρ' = .ok true ∧ fi1 ρ' = .ok ((bs a).map g1) ∧ ∀ b ∈ bs a, ∃ ρ'', tg1 (g1 b) (wipeD ρ' vs1) = some ρ'' ∧ fA1 ρ'' = .ok (p a b) ∧ (p a b = true → fe ρ'' = .ok (h a b))) :
    fLc2 fi tg fA fi1 tg1 fA1 fe vs vs1 η = .ok (.lst (as.flatMap fun a => ((bs a).filter (p a)).map (h a))) := by
  have key : ∀ (as : List α) (acc : List D), acc.length + (as.map fun a => (bs a).length).sum < 1000 → (∀ a ∈ as, ∃ ρ', tg (g a) (wipeD η vs) = some ρ' ∧ fA ρ' = .ok true ∧ fi1 ρ' = .ok ((bs a).map g1) ∧ ∀ b ∈ bs a, ∃ ρ'', tg1 (g1 b) (wipeD ρ' vs1) = some ρ'' ∧ fA1 ρ'' = .ok (p a b) ∧ (p a b = true → fe ρ'' = .ok (h a b))) →
      lc2F tg fA fi1 tg1 fA1 fe vs1 (wipeD η vs) (as.map g) acc = .ok (acc ++ as.flatMap fun a => ((bs a).filter (p a)).map (h a)) := by
    intro as
    induction as with
    | nil => intro acc _ _; simp [lc2F]
    | cons a as ih =>
      intro acc hl k
      obtain ⟨ρ', e1, e2, e3, k1⟩ := k a List.mem_cons_self
      rw [List.map_cons, List.sum_cons] at hl
      have inner := lc_filterG (fA := fA1) (fe := fe) (tg := tg1) (ρ := wipeD ρ' vs1) (bs a) acc (by omega) k1
      rw [List.map_cons]
      show (ofO (tg (g a) (wipeD η vs))).bind _ = _
      rw [e1]
      show (fA ρ').bind _ = _
      rw [e2, bind_ok, if_pos rfl, e3, bind_ok, inner, bind_ok, ih _ (by
        have := List.length_filter_le (p a) (bs a)
        rw [List.length_append, List.length_map]; omega) fun a ha => k a (List.mem_cons_of_mem _ ha)]
      rw [List.flatMap_cons, List.append_assoc]
  unfold fLc2
  rw [h1, bind_ok, key as [] (by simpa using hl) k]
  simp [R.quiet, R.bind]
end
end DL

namespace DL
open PySem L2 PyProof.Rows
/-! ### range(a, b, -1) walked -/
def downL (i : Int) (n : Nat) : List D := (List.range n).map fun k => D.int (i + (k : Nat) * (-1))
theorem walks_down {B : Tb} {K : PySem.W.Frag} {c : Cn} {i : Int} {n : Nat} : Walks B K c (Itc i (-1) n) (downL i n) := by
  intro c' g' H' e k
  refine ⟨fun j d hj => ?_, ?_⟩
  · unfold downL at hj
    rw [List.getElem?_map, Option.map_eq_some_iff] at hj
    obtain ⟨x, h1, h2⟩ := hj
    obtain ⟨h3, h4⟩ := List.getElem?_eq_some_iff.mp h1
    rw [List.getElem_range] at h4
    subst h4 h2
    rw [List.length_range] at h3
    refine ⟨h3, fun x H2 ⟨e2, hx⟩ => ?_⟩
    subst e2 hx
    exact ⟨c', Grow.refl _ _, k, .int _⟩
  · show n ≤ _
    simp [downL]
def dRange3 (ta tb tc : DE) : DI := fun ρ g Q Z => ta ρ g (fun x g1 => tb ρ g1 (fun y g2 => tc ρ g2 (fun z g3 => ∃ i j, x = .int i ∧ y = .int j ∧ z = .int (-1) ∧ (fits62 i && fits62 j) = true ∧ Q (downL i (i - j).toNat) g3) Z) Z) Z
section
variable {B : Tb} {X : Cx} {W : WX} {L : Nat} {a b e e2 tg : Expr} {es : List Expr} {ta tb tc te : DE} {p pos : Pos}
theorem wi_range3 (hg : Gl X "range") (hm : X.mg "range" = none) (ha : WE B X W a ta) (hb : WE B X W b tb) (hc : WE B X W e tc) (hs : starEach [a, b, e] X.env = (false, eval a X.env) :: starEach [b, e] X.env := by rfl) (hs2 : starEach [b, e] X.env = (false, eval b X.env) :: starEach [e] X.env := by rfl) (hs3 : starEach [e] X.env = (false, eval e X.env) :: starEach [] X.env := by rfl) (hpl : (backTo pos (starEach [b, e] X.env)).any (·.1) = false := by rfl) :
    WI B X W tg (.Call (.Name "range" p) [a, b, e] [] pos) (dRange3 ta tb tc) := by
  refine ⟨fun c g ρ σ H Q Z k r q z => semI_of (pi_range3 hg hm (pa_cons pe_sem (pa_cons pe_sem (pa_cons pe_sem pa_nil hs3) hs2) hs) hs hpl) ?_⟩
  refine (ha.run c g ρ σ H _ Z k r q z).mono fun v H1 ⟨c1, g1, x, s1, k1, r1, q1⟩ => ?_
  refine (hb.run c1 g1 ρ σ H1 _ Z k1 (r.mono s1.le) q1 (z.next s1)).mono fun u H2 ⟨c2, g2, y, s2, k2, r2, q2⟩ => ?_
  refine (hc.run c2 g2 ρ σ H2 _ Z k2 (r.mono (s1.trans s2).le) q2 (z.next (s1.trans s2))).mono fun w H3 ⟨c3, g3, d, s3, k3, r3, i, j, e1, e2, e3, hij, q3⟩ => ?_
  subst e1 e2 e3
  cases r1; cases r2; cases r3
  obtain ⟨hi, hj⟩ := Bool.and_eq_true_iff.mp hij
  exact ⟨i, j, -1, _, rfl, RgC.neg (fits_ok hi).1 (fits_ok hi).2 (fits_ok hj).1 (fits_ok hj).2, c3, g3, _, (s1.trans s2).trans s3, k3, walks_down, q3⟩
end
def fRange3 (fa fb fc : DEnv → R D) (ρ : DEnv) : R (List D) := (fa ρ).bind fun x => (fb ρ).bind fun y => (fc ρ).bind fun z => match x, y, z with
  | .int i, .int j, .int k => if (decide (k = -1) && (fits62 i && fits62 j)) = true then .ok (downL i (i - j).toNat) else .no
  | _, _, _ => .no
theorem pu_range3 {ta tb tc : DE} {fa fb fc : DEnv → R D} (ha : PuE ta fa) (hb : PuE tb fb) (hc : PuE tc fc) : PuI (dRange3 ta tb tc) (fRange3 fa fb fc) := fun ρ g Q Z hg h =>
  ha ρ g _ Z hg (R.thn h fun x _ h => hb ρ g _ Z hg (R.thn h fun y _ h => hc ρ g _ Z hg (R.thn h fun z _ h => by
    cases x with
    | int i =>
      cases y with
      | int j =>
        cases z with
        | int k =>
          dsimp only at h
          split at h
          · rename_i hh
            obtain ⟨h1, h2⟩ := Bool.and_eq_true_iff.mp hh
            exact ⟨i, j, rfl, rfl, by rw [of_decide_eq_true h1], h2, h⟩
          · exact h.elim
        | _ => exact h.elim
      | _ => exact h.elim
    | _ => exact h.elim)))
/-! ### dict(list of pairs) -/
def pairsD : List D → Option (List (Key × D))
  | [] => some []
  | .tup [k, v] :: r => (keyD k).bind fun key => (pairsD r).map fun l => (key, v) :: l
  | _ => none
def dictPD : List D → Option D
  | [.lst ds] => if ds.length ≤ 100000 then (pairsD ds).map fun l => .dct (mergeD [] l) else none
  | _ => none
section
variable {B : Tb} {X : Cx} {W : WX} {L : Nat} {a b e : Expr} {es : List Expr} {ta tb te : DE} {p pos : Pos}
theorem pairs_rep {K : PySem.W.Frag} {c : Cn} {H : Hp} (k : Ex c.F H) : ∀ {ds : List D} {vs : List V} {l : List (Key × D)}, Reps B K c vs ds → pairsD ds = some l → ∃ (ps : List Addr) (kvs : List (Key × V)), vs = ps.map V.ref ∧ Paired (fun p kv => SqT K H p [kV kv.1, kv.2]) ps kvs ∧ RepK B K c kvs l
  | [], _, l, .nil, h => by
    cases h
    exact ⟨[], [], rfl, .nil, .nil⟩
  | d :: ds, _, l, .cons rv rs, h => by
    unfold pairsD at h
    split at h
    · rename_i hh; cases hh
    · rename_i k1 v1 r1 e1
      injection e1 with e1 e2
      subst e1 e2
      cases ek : keyD k1 with
      | none => rw [ek] at h; cases h
      | some key =>
        rw [ek, Option.bind_some] at h
        cases el : pairsD ds with
        | none => rw [el] at h; cases h
        | some l1 =>
          rw [el] at h
          cases h
          obtain ⟨ps, kvs, e1, e2, e3⟩ := pairs_rep k rs el
          subst e1
          cases rv with
          | @tup t vs2 _ ht hs =>
            cases hs with
            | cons ra hs =>
              cases hs with
              | cons rb hs =>
                cases hs
                have ea := rep_key ra ek
                subst ea
                exact ⟨t :: ps, (key, _) :: kvs, rfl, .cons (Evl.ex_t k ht) e2, .cons rb e3⟩
    · cases h
theorem gv_dictP : GivesC B X.K dictPD (fun xs H Q => ∃ (a : Addr) (ps : List Addr) (kvs : List (Key × V)), xs = [.ref a] ∧ SqL X.K H a (ps.map V.ref) ∧ Paired (fun p kv => SqT X.K H p [kV kv.1, kv.2]) ps kvs ∧ ∀ p, H p = none → Q (.ref p) (upd H p (.dK (mergeK [] kvs)))) := by
  intro c g H xs z vs Q k r e q
  unfold dictPD at e
  split at e
  · rename_i ds
    split at e
    · cases el : pairsD ds with
      | none => rw [el] at e; cases e
      | some l =>
        rw [el] at e
        cases e
        cases r with
        | cons r1 r2 =>
          cases r2
          cases r1 with
          | @lst a va _ h1 s1 =>
            obtain ⟨ps, kvs, e1, e2, e3⟩ := pairs_rep k.sub s1 el
            subst e1
            refine ⟨a, ps, kvs, rfl, SqL.of (k.sub _ _ h1), e2, fun p hp => ?_⟩
            obtain ⟨s2, k2⟩ := k.lay (o := .dK (mergeK [] kvs)) hp
            exact q _ _ _ s2 k2 (.dct upd_same ((e3.merge .nil).mono s2.le))
    · cases e
  · cases e
theorem e_dictP (C : Ctx L X W) (hg : Gl X "dict") (hm : X.mg "dict" = none) (ha : WE B X W a ta) (he : starEach [a] X.env = (false, eval a X.env) :: starEach [] X.env := by rfl) : WE B X W (.Call (.Name "dict" p) [a] [] pos) (dFn dictPD (dCons ta dNil)) :=
  we_callTy (call_dictP C.calm) gv_dictP hg hm Boot.«dict» (wa_cons ha wa_nil he) (by decide) (by decide) he rfl
/-! ### a text, many times -/
def mulSD : D → D → Option D
  | .str x, .int n => if 0 ≤ n ∧ n ≤ 1000 ∧ x.length ≤ 1000 then some (.str (Txt.mul x n)) else none
  | _, _ => none
def rMulS : R2 := fun x y H Q => ∃ s n, x = .str s ∧ y = .int n ∧ MulOk s n ∧ Q (.str (Txt.mul s n)) H
theorem op_mulS : OpR X (binaryOp .Mult) rMulS := by
  intro pins s σ H x y v u Q I rx ry h
  obtain ⟨z, n, rfl, rfl, ok, q⟩ := h
  obtain ⟨t1, rfl⟩ := rx
  obtain ⟨t2, rfl⟩ := ry
  exact SB.mul ok fun t' k => ⟨.str (Txt.mul z n), H, I.tok k, ⟨t', rfl⟩, q⟩
theorem gv_mulS : Gives B X.K mulSD rMulS := by
  intro c g H x y z v u Q k r1 r2 e q
  unfold mulSD at e
  split at e
  · rename_i s n
    split at e
    · rename_i hh
      obtain ⟨h0, h1, h2⟩ := hh
      cases e
      cases r1; cases r2
      refine ⟨s, n, rfl, rfl, ⟨?_, fun hn _ => ?_, fun hn _ => ?_⟩, done k (.str _) q⟩
      · rw [decide_eq_false (by omega), decide_eq_false (by omega)]; rfl
      · have : (9223372036854775 : Int) ≤ (2 ^ 63 - 1) / n := by
          rw [Int.le_ediv_iff_mul_le (by omega)]
          have : (9223372036854775 : Int) * n ≤ 9223372036854775 * 1000 := Int.mul_le_mul_of_nonneg_left h1 (by decide)
          omega
        omega
      · have h3 : s.length * n.toNat ≤ 1000 * 1000 := Nat.mul_le_mul h2 (by omega)
        have h4 : 1000 * 1000 < sizeLine := by decide
        unfold Builtin.Str.tooLong
        exact decide_eq_false (by omega)
    · cases e
  · cases e
theorem e_mulS (ha : WE B X W a ta) (hb : WE B X W b tb) : WE B X W (.BinOp a .Mult b pos) (dOp mulSD ta tb) := we_op op_mulS gv_mulS ha hb
end
end DL

namespace DL
open PySem L2 PyProof.Rows
/-! ### x = [xs, ys]: lists of ours that a list tells -/
section
variable {B : Tb} {K : PySem.W.Frag} {c₀ c c' : Cn} {H₀ : En} {H H' : Hp} {g g' : Gh} {ρ ρ2 : SEnv} {σ σ2 : L2.St}
theorem RelS.trunc (hl : ρ.length = σ.length) (r : RelS B K c₀ H₀ c g (ρ ++ ρ2) (σ ++ σ2) H) : RelS B K c₀ H₀ c g ρ σ H := by
  have up : ∀ {i : Nat} {x : SV}, ρ[i]? = some x → (ρ ++ ρ2)[i]? = some x := fun {i x} h => by
    rw [List.getElem?_append_left (List.getElem?_eq_some_iff.mp h).1]; exact h
  have dn : ∀ {i : Nat} {x : SV}, ρ[i]? = some x → (σ ++ σ2)[i]? = σ[i]? := fun {i x} h => List.getElem?_append_left (by rw [← hl]; exact (List.getElem?_eq_some_iff.mp h).1)
  refine ⟨r.gr, r.fine, hl, fun i d h => ?_, fun i ds h => ?_, fun i j ds es p hij h1 h2 h3 => ?_, fun i p k fs ep h => ?_, fun i j k l fs gs h1 h2 => r.ob1 i j k l fs gs (up h1) (up h2), r.th.1, r.th.2.1, fun i h => ?_⟩
  · rw [← dn h]; exact r.fz i d (up h)
  · rw [← dn h]; exact r.ow i ds (up h)
  · rw [← dn h2]
    rw [← dn h1] at h3
    exact r.inj i j ds es p hij (up h1) (up h2) h3
  · rw [← dn h]; exact r.ob i p k fs ep (up h)
  · rw [← dn h]; exact r.th.2.2 i (up h)
theorem RelS.pad (r : RelS B K c₀ H₀ c g ρ σ H) (u : Option V) : RelS B K c₀ H₀ c g (ρ ++ [.un]) (σ ++ [u]) H := by
  have cs : ∀ {i : Nat} {x : SV}, (ρ ++ [SV.un])[i]? = some x → x ≠ .un → ρ[i]? = some x ∧ (σ ++ [u])[i]? = σ[i]? := fun {i x} h hx => by
    by_cases hi : i < ρ.length
    · rw [List.getElem?_append_left hi] at h
      exact ⟨h, List.getElem?_append_left (by rw [← r.len]; exact hi)⟩
    · rw [List.getElem?_append_right (by omega)] at h
      rw [List.getElem?_singleton] at h
      split at h
      · exact absurd (Option.some.inj h).symm hx
      · cases h
  refine ⟨r.gr, r.fine, by simp [r.len], fun i d h => ?_, fun i ds h => ?_, fun i j ds es p hij h1 h2 h3 => ?_, fun i p k fs ep h => ?_, fun i j k l fs gs h1 h2 => r.ob1 i j k l fs gs (cs h1 nofun).1 (cs h2 nofun).1, r.th.1, r.th.2.1, fun i h => ?_⟩
  · rw [(cs h nofun).2]; exact r.fz i d (cs h nofun).1
  · rw [(cs h nofun).2]; exact r.ow i ds (cs h nofun).1
  · rw [(cs h2 nofun).2]
    rw [(cs h1 nofun).2] at h3
    exact r.inj i j ds es p hij (cs h1 nofun).1 (cs h2 nofun).1 h3
  · rw [(cs h nofun).2]; exact r.ob i p k fs ep (cs h nofun).1
  · rw [(cs h nofun).2]; exact r.th.2.2 i (cs h nofun).1
theorem RelS.drop (r : RelS B K c₀ H₀ c g ρ σ H) {i : Nat} (u : Option V) : RelS B K c₀ H₀ c g (ρ.set i .un) (σ.set i u) H := by
  have cs : ∀ {j : Nat} {x : SV}, (ρ.set i SV.un)[j]? = some x → x ≠ .un → ρ[j]? = some x ∧ (σ.set i u)[j]? = σ[j]? := fun {j x} h hx => by
    by_cases e : i = j
    · subst e
      by_cases hl : i < ρ.length
      · rw [List.getElem?_set_self hl] at h
        exact absurd (Option.some.inj h).symm hx
      · rw [List.getElem?_eq_none (by simpa using hl)] at h; cases h
    · rw [List.getElem?_set_ne e] at h
      exact ⟨h, List.getElem?_set_ne e⟩
  refine ⟨r.gr, r.fine, by rw [List.length_set, List.length_set]; exact r.len, fun i d h => ?_, fun i ds h => ?_, fun i j ds es p hij h1 h2 h3 => ?_, fun i p k fs ep h => ?_, fun i j k l fs gs h1 h2 => r.ob1 i j k l fs gs (cs h1 nofun).1 (cs h2 nofun).1, r.th.1, r.th.2.1, fun i h => ?_⟩
  · rw [(cs h nofun).2]; exact r.fz i d (cs h nofun).1
  · rw [(cs h nofun).2]; exact r.ow i ds (cs h nofun).1
  · rw [(cs h2 nofun).2]
    rw [(cs h1 nofun).2] at h3
    exact r.inj i j ds es p hij (cs h1 nofun).1 (cs h2 nofun).1 h3
  · rw [(cs h nofun).2]; exact r.ob i p k fs ep (cs h nofun).1
  · rw [(cs h nofun).2]; exact r.th.2.2 i (cs h nofun).1
/-- one more list, beside the slots -/
theorem RelS.push {p : Addr} {vs : List V} {ds : List D} (r : RelS B K c₀ H₀ c g ρ σ H) (s : Grow c H c' H') (k : Fine B K c' g' H') (hv : H' p = some (.lst vs)) (rs : Reps B K c' vs ds)
    (hF : c'.F p = none) (hp : c'.pen ≠ some p) (hm : p ∉ c'.ma) (h0 : H p = none) : RelS B K c₀ H₀ c' g' (ρ ++ [.ow ds]) (σ ++ [some (.ref p)]) H' := by
  have := (r.pad none).take (i := ρ.length) s k hv rs hF hp hm h0
  rw [List.set_append_right _ _ (Nat.le_refl _), List.set_append_right _ _ (Nat.le_of_eq r.len.symm), r.len, Nat.sub_self] at this
  exact this
end
def ows (gs : List (List D)) : SEnv := gs.map .ow
def refs (qs : List Addr) : L2.St := qs.map fun q => some (.ref q)
structure RelG (B : Tb) (K : PySem.W.Frag) (c₀ : Cn) (H₀ : En) (c : Cn) (g : Gh) (i : Nat) (gs : List (List D)) (ρ : SEnv) (σ : L2.St) (H : Hp) (p : Addr) (qs : List Addr) : Prop where
  rel : RelS B K c₀ H₀ c g (ρ ++ ows gs) (σ ++ refs qs) H
  len : ρ.length = σ.length
  sl : σ[i]? = some (some (.ref p))
  top : c.F p = some (.lst (qs.map V.ref))
/-- what follows, while x tells lists of ours -/
structure WBG (B : Tb) (X : Cx) (W : WX) (H₀ : En) (i : Nat) (st : List Stmt) (t : List (List D) → DS) : Prop where
  run : ∀ (c₀ c : Cn) (g : Gh) (gs : List (List D)) (ρ : SEnv) (σ : L2.St) (H : Hp) (p : Addr) (qs : List Addr) (D : DEnds), RelG B X.K c₀ H₀ c g i gs ρ σ H p qs → t gs D ρ g → ZS B X.K c₀ H₀ W D → semSs X st (endsOf B X.K c₀ H₀ D) σ H
section
variable {B : Tb} {K : PySem.W.Frag} {c₀ c c' : Cn} {H₀ : En} {H H' : Hp} {g g' : Gh} {ρ : SEnv} {σ : L2.St} {i : Nat} {gs : List (List D)} {p : Addr} {qs : List Addr}
theorem RelG.len2 (r : RelG B K c₀ H₀ c g i gs ρ σ H p qs) : gs.length = qs.length := by
  have := r.rel.len
  simp only [List.length_append, ows, refs, List.length_map] at this
  have := r.len
  omega
theorem RelG.lo (r : RelG B K c₀ H₀ c g i gs ρ σ H p qs) : RelS B K c₀ H₀ c g ρ σ H := r.rel.trunc r.len
theorem RelG.next (r : RelG B K c₀ H₀ c g i gs ρ σ H p qs) (s : Grow c H c' H') (k : Fine B K c' g' H') : RelG B K c₀ H₀ c' g' i gs ρ σ H' p qs := ⟨r.rel.next s k, r.len, r.sl, s.le.F _ _ r.top⟩
theorem RelG.own (r : RelG B K c₀ H₀ c g i gs ρ σ H p qs) {j : Nat} {ds : List D} (h : gs[j]? = some ds) : ∃ q, qs[j]? = some q ∧ (ρ ++ ows gs)[ρ.length + j]? = some (.ow ds) ∧ (σ ++ refs qs)[ρ.length + j]? = some (some (.ref q)) := by
  have hj : j < qs.length := by rw [← r.len2]; exact (List.getElem?_eq_some_iff.mp h).1
  refine ⟨qs[j], List.getElem?_eq_getElem hj, ?_, ?_⟩
  · rw [List.getElem?_append_right (by omega), Nat.add_sub_cancel_left]
    unfold ows
    rw [List.getElem?_map, h]; rfl
  · rw [r.len, List.getElem?_append_right (by omega), Nat.add_sub_cancel_left]
    unfold refs
    rw [List.getElem?_map, List.getElem?_eq_getElem hj]; rfl
theorem RelG.put (r : RelG B K c₀ H₀ c g i gs ρ σ H p qs) {j : Nat} {q : Addr} {ds es : List D} {vs : List V} (h : gs[j]? = some ds) (hq : qs[j]? = some q) (rs : Reps B K c vs es) : RelG B K c₀ H₀ c g i (gs.set j es) ρ σ (upd H q (.lst vs)) p qs := by
  obtain ⟨q', e, h1, h2⟩ := r.own h
  rw [hq] at e
  cases e
  have := r.rel.put h1 h2 rs
  rw [List.set_append_right _ _ (by omega), Nat.add_sub_cancel_left] at this
  refine ⟨?_, r.len, r.sl, r.top⟩
  unfold ows at this ⊢
  rw [List.map_set]
  exact this
/-- all looked at as it stands -/
def snapG (i : Nat) (gs : List (List D)) (ρ : SEnv) : DEnv := (snap ρ).set i (some (.lst (gs.map D.lst)))
theorem RelG.reps (r : RelG B K c₀ H₀ c g i gs ρ σ H p qs) : Reps B K (snapC c (ρ ++ ows gs) (σ ++ refs qs) H) (qs.map V.ref) (gs.map D.lst) := by
  have key : ∀ (n : Nat) (a : List (List D)) (b : List Addr), a.length = n → (∀ (j : Nat) (ds : List D), a[j]? = some ds → ∃ q, b[j]? = some q ∧ Rep B K (snapC c (ρ ++ ows gs) (σ ++ refs qs) H) (.ref q) (.lst ds)) → a.length = b.length → Reps B K (snapC c (ρ ++ ows gs) (σ ++ refs qs) H) (b.map V.ref) (a.map D.lst) := by
    intro n
    induction n with
    | zero =>
      intro a b ha _ hl
      cases a with
      | nil => cases b with
        | nil => exact .nil
        | cons _ _ => cases hl
      | cons _ _ => cases ha
    | succ n ih =>
      intro a b ha h hl
      cases a with
      | nil => cases ha
      | cons x a =>
        cases b with
        | nil => cases hl
        | cons y b =>
          obtain ⟨q, e, rq⟩ := h 0 x rfl
          cases e
          exact .cons rq (ih a b (by simpa using ha) (fun j ds hj => h (j + 1) ds hj) (by simpa using hl))
  refine key _ gs qs rfl (fun j ds hj => ?_) r.len2
  obtain ⟨q, e, h1, h2⟩ := r.own hj
  obtain ⟨q', vs, e1, e2, e3, _⟩ := r.rel.ow _ _ h1
  rw [h2] at e1
  cases e1
  refine ⟨q, e, .lst ?_ (e3.mono r.rel.snapLe)⟩
  show (if Owned (ρ ++ ows gs) (σ ++ refs qs) q then H q else c.F q) = _
  rw [if_pos ⟨_, ds, h1, h2⟩]; exact e2
theorem RelG.snapRel (r : RelG B K c₀ H₀ c g i gs ρ σ H p qs) : RelP B K (snapC c (ρ ++ ows gs) (σ ++ refs qs) H) (snapG i gs ρ) σ := by
  have q := r.rel.snapRel
  refine ⟨by unfold snapG snap; rw [List.length_set, List.length_map]; exact Nat.le_of_eq r.len, fun j d h => ?_⟩
  unfold snapG at h
  by_cases e : i = j
  · subst e
    by_cases hl : i < (snap ρ).length
    · rw [List.getElem?_set_self hl] at h
      cases h
      exact ⟨_, r.sl, .lst (r.rel.snapLe.F _ _ r.top) r.reps⟩
    · rw [List.getElem?_eq_none (by simpa using hl)] at h; cases h
  · rw [List.getElem?_set_ne e] at h
    have hj : j < (snap ρ).length := (List.getElem?_eq_some_iff.mp h).1
    have h2 : (snap (ρ ++ ows gs))[j]? = some (some d) := by
      unfold snap at h hj ⊢
      rw [List.map_append, List.getElem?_append_left hj]; exact h
    obtain ⟨v, e1, e2⟩ := q.2 j d h2
    refine ⟨v, ?_, e2⟩
    rw [← e1, List.getElem?_append_left]
    unfold snap at hj
    rw [List.length_map] at hj
    rw [← r.len]; exact hj
end

/-! ### what is made of lists of ours, and is none of them -/
def isI : D → Bool
  | .obj _ _ => true
  | _ => false
def isP : D → Bool
  | .int _ => true
  | .tup _ => true
  | _ => false
/-- no list of ours tells what this one tells -/
def apart : List D → List D → Bool
  | [], [] => false
  | [], _ => true
  | _, [] => true
  | d :: _, e :: _ => isP d && isI e
def apartS (es : List D) : SV → Bool
  | .ow ds => apart ds es
  | _ => true
def freeD (ρ : SEnv) : D → Bool
  | .lst es => nls es && ρ.all (apartS es)
  | d => nl d
section
variable {B : Tb} {K : PySem.W.Frag} {c₀ c c' : Cn} {H₀ : En} {H H' : Hp} {g g' : Gh} {ρ : SEnv} {σ : L2.St}
theorem semE.inv {X : Cx} {e : Expr} {σ : L2.St} {H : Hp} {Q : VK} (h : semE X e σ H Q) : semE X e σ H (fun v H' => Q v H' ∧ ∃ pins s, Inv X pins σ H' s) := fun pins s I =>
  thn (h pins s I) fun _ s1 ⟨v, H', I', r, q⟩ => ⟨v, H', I', r, q, pins, s1, I'⟩
theorem no_both {X : Cx} {c : Cn} {g : Gh} {H : Hp} (k : Fine B X.K c g H) {σ : L2.St} {pins : List (Addr × Obj)} {s : Shared} (I : Inv X pins σ H s) {v : V} {d e : D} (h1 : Rep B X.K c v d) (h2 : Rep B X.K c v e) (hd : isP d = true) (he : isI e = true) : False := by
  cases h2 with
  | obj e1 _ =>
    cases h1 with
    | tup e2 _ =>
      rcases e2 with (h | ⟨o, h⟩) | ⟨o, its, n, h, h3, _⟩
      · rw [e1] at h; cases h
      · rw [e1] at h; cases h
      · have q := I.hok _ _ (k.sub _ _ e1)
        obtain ⟨_, _, _, e4, _⟩ := q
        rw [I.kIn _ _ h] at e4
        cases e4
        cases h3
    | _ => cases hd
  | _ => cases he
theorem apart_no {X : Cx} {c : Cn} {g : Gh} {H : Hp} (k : Fine B X.K c g H) {σ : L2.St} {pins : List (Addr × Obj)} {s : Shared} (I : Inv X pins σ H s) {vs : List V} {ds es : List D} (h1 : Reps B X.K c vs ds) (h2 : Reps B X.K c vs es) (h : apart ds es = true) : False := by
  cases h1 with
  | nil => cases h2; cases h
  | cons a _ =>
    cases h2 with
    | cons b _ =>
      simp only [apart, Bool.and_eq_true] at h
      exact no_both k I a b h.1 h.2
theorem RelS.free {X : Cx} (r : RelS B X.K c₀ H₀ c g ρ σ H) {c1 : Cn} {g1 : Gh} {H1 : Hp} (s : Grow (snapC c ρ σ H) H c1 H1) (k : Fine B X.K c1 g1 H1) {σI : L2.St} (I : ∃ pins s, Inv X pins σI H1 s) (n : NL c1 (cutC c1 ρ σ)) {v : V} {d : D} (rv : Rep B X.K c1 v d) (hd : freeD ρ d = true) : Rep B X.K (cutC c1 ρ σ) v d := by
  obtain ⟨pins, sh, I⟩ := I
  cases d with
  | lst ds =>
    cases rv with
    | lst h rs =>
      rename_i a vs
      simp only [freeD, Bool.and_eq_true, List.all_eq_true] at hd
      refine .lst ?_ (rs.nl n hd.1)
      show (if Owned ρ σ a then none else c1.F a) = _
      rw [if_neg]
      · exact h
      · rintro ⟨i, es, h1, h2⟩
        obtain ⟨p', ws, e1, e2, e3, _⟩ := r.ow i es h1
        rw [h2] at e1
        cases e1
        have e4 : (snapC c ρ σ H).F a = some (.lst ws) := by
          show (if Owned ρ σ a then H a else c.F a) = _
          rw [if_pos ⟨i, es, h1, h2⟩]; exact e2
        have e5 := s.le.F _ _ e4
        rw [h] at e5
        cases e5
        exact apart_no k I ((e3.mono r.snapLe).mono s.le) rs (hd.2 _ (List.mem_of_getElem? h1))
  | _ => exact rv.nl n hd
end
section
variable {B : Tb} {X : Cx} {W : WX} {H₀ : En} {i j n : Nat} {e a b : Expr} {x : Str} {pos pos2 pos' px spos apos cpos : Pos} {te : DE} {tc : DT} {rest st : List Stmt} {u : List (List D) → DS} {t : DS}
/-- x = [a, b]: two new lists, and the one that tells them -/
def dOpen (i : Nat) (ta tb : DEnv → Gh → (List D → Gh → Prop) → DZ → Prop) (u : List (List D) → DS) : DS := fun En ρ g => i < ρ.length ∧ ta (mask ρ) g (fun da g1 => tb (mask ρ) g1 (fun db g2 => u [da, db] En (ρ.set i .un) g2) fun ex g' => En.xz ex ρ g') fun ex g' => En.xz ex ρ g'
theorem wb_open {ta tb : DEnv → Gh → (List D → Gh → Prop) → DZ → Prop} (hN : X.N.Nodup) (hi : X.N[i]? = some x) (hx : Loc X.env.scope x) (ha : WL B X W a ta) (hb : WL B X W b tb) (h2 : WBG B X W H₀ i rest u)
    (hs1 : starEach [a, b] X.env = (false, eval a X.env) :: starEach [b] X.env := by rfl) (hs2 : starEach [b] X.env = (false, eval b X.env) :: starEach [] X.env := by rfl)
    (hs : swapsWith (.List [a, b] pos2) (some (.Name x pos')) pos.line X.env = pure false := by rfl)
    (hf : X.fn x = true ∨ X.env.scope.names.lookup x = some .local := by first | exact .inl rfl | exact .inr rfl) : WB B X W H₀ (.Assign [.Name x pos'] (.List [a, b] pos2) pos :: rest) (dOpen i ta tb u) := by
  refine ⟨fun c₀ c g ρ σ H D r q z => semSs_of (pss_cons ps_sem pss_sem) ?_⟩
  refine semS_of (ps_set hN hi hx (pe_lst (pa_cons pe_sem (pa_cons pe_sem pa_nil hs2) hs1)) hs hf) ?_
  obtain ⟨hi2, q⟩ := q
  refine (ha.run c g _ σ H _ _ r.fine r.mask q (r.zok z)).mono fun v H1 ⟨c1, g1, q0, vs0, da, e1, s1, k1, a1, a2, a3, a4, a5, a6, q⟩ => ?_
  subst e1
  have r1 := r.push s1 k1 a1 a2 a3 a4 a5 a6
  have l1 := r.next s1 k1
  refine (hb.run c1 g1 _ σ H1 _ _ k1 l1.mask q (l1.zok z)).mono fun v H2 ⟨c2, g2, q1, vs1, db, e1, s2, k2, b1, b2, b3, b4, b5, b6, q⟩ => ?_
  subst e1
  have r2 := r1.push s2 k2 b1 b2 b3 b4 b5 b6
  refine ⟨Nat.le_of_ble_eq_true rfl, fun p hp => ?_⟩
  obtain ⟨n1, n2, n3⟩ := k2.notMut hp
  have k3 : Fine B X.K c2 g2 (upd H2 p (.lst [.ref q0, .ref q1])) := k2.own n1 n2 n3
  have s3 : Grow c2 H2 { c2 with F := upd c2.F p (.lst [.ref q0, .ref q1]) } (upd H2 p (.lst [.ref q0, .ref q1])) := ((Grow.refl c2 H2).own hp).ice hp n1
  have r3 := (r2.next s3 (k3.ice n1 upd_same n2 n3)).drop (i := i) (some (.ref p))
  have hσ : i < σ.length := by rw [← r.len]; exact hi2
  rw [List.append_assoc, List.append_assoc, List.set_append_left _ _ hi2, List.set_append_left _ _ hσ] at r3
  exact h2.run c₀ _ g2 [da, db] _ _ _ p [q0, q1] D ⟨r3, by rw [List.length_set, List.length_set]; exact r.len, List.getElem?_set_self hσ, upd_same⟩ q z
theorem wbg_close (h : WB B X W H₀ rest t) : WBG B X W H₀ i rest (fun _ => t) := ⟨fun c₀ c g gs ρ σ H p qs D r q z => h.run c₀ c g ρ σ H D r.lo q z⟩
/-- y = e, e looks at what x tells -/
def dSetG (i j : Nat) (te : DE) (u : List (List D) → DS) : List (List D) → DS := fun gs En ρ g => i ≠ j ∧ te (snapG i gs ρ) g (fun d g' => okG g g' = true ∧ freeD (ρ ++ ows gs) d = true ∧ u gs En (ρ.set j (.fz d)) g') fun ex g' => okG g g' = true ∧ nlf ex.fs = true ∧ En.xz ex ρ g'
theorem RelG.zsnap {c₀ c : Cn} {g : Gh} {gs : List (List D)} {ρ : SEnv} {σ : L2.St} {H : Hp} {p : Addr} {qs : List Addr} {D : DEnds} (r : RelG B X.K c₀ H₀ c g i gs ρ σ H p qs) (z : ZS B X.K c₀ H₀ W D) : ZOk B X.K (snapC c (ρ ++ ows gs) (σ ++ refs qs) H) H σ W fun ex g' => okG g g' = true ∧ nlf ex.fs = true ∧ D.xz ex ρ g' := fun c' H' g' ex cls d s k e ⟨q1, q2, q3⟩ => by
  obtain ⟨r', n', _⟩ := r.rel.unsnap s k q1
  refine z _ g' ρ σ H' ex cls d (r'.trunc r.len) ?_ q3
  obtain ⟨e1, e2⟩ := e
  refine ⟨e1, ?_⟩
  rcases e2 with e2 | ⟨dd, fs, h1, h2, h3⟩
  · exact .inl e2
  · exact .inr ⟨dd, fs, h1, n'.F _ _ h2 (fun xs z => by cases z), h3.nl n' q2⟩
theorem wbg_set {y : Str} (hN : X.N.Nodup) (hj : X.N[j]? = some y) (hy : Loc X.env.scope y) (he : WE B X W e te) (h2 : WBG B X W H₀ i rest u) (hs : swapsWith e (some (.Name y pos')) pos.line X.env = pure false := by rfl)
    (hf : X.fn y = true ∨ X.env.scope.names.lookup y = some .local := by first | exact .inl rfl | exact .inr rfl) : WBG B X W H₀ i (.Assign [.Name y pos'] e pos :: rest) (dSetG i j te u) := by
  refine ⟨fun c₀ c g gs ρ σ H p qs D r q z => semSs_of (pss_cons ps_sem pss_sem) ?_⟩
  refine semS_of (ps_set hN hj hy pe_sem hs hf) ?_
  obtain ⟨hij, q⟩ := q
  refine (he.run _ g _ σ H _ _ r.rel.snapFine r.snapRel q (r.zsnap z)).inv.mono fun v H' ⟨⟨c', g', d, s, k, rr, q1, q2, q'⟩, I⟩ => ?_
  obtain ⟨r', n', gr⟩ := r.rel.unsnap s k q1
  have rv := r.rel.free s k I n' rr q2
  have hjl : j < ρ.length ∨ ¬ j < ρ.length := Nat.lt_or_ge j ρ.length |>.imp id (fun h => by omega)
  rcases hjl with hjl | hjl
  · have r2 := r'.set (i := j) rv
    rw [List.set_append_left _ _ hjl, List.set_append_left _ _ (by rw [← r.len]; exact hjl)] at r2
    exact h2.run c₀ _ g' gs _ _ H' p qs D ⟨r2, by rw [List.length_set, List.length_set]; exact r.len, by rw [List.getElem?_set_ne (Ne.symm hij)]; exact r.sl, gr.le.F _ _ r.top⟩ q' z
  · have r2 : RelG B X.K c₀ H₀ (cutC c' (ρ ++ ows gs) (σ ++ refs qs)) g' i gs (ρ.set j (.fz d)) (σ.set j (some v)) H' p qs := by
      rw [List.set_eq_of_length_le (by omega), List.set_eq_of_length_le (by have := r.len; omega)]
      exact ⟨r', r.len, r.sl, gr.le.F _ _ r.top⟩
    exact h2.run c₀ _ g' gs _ _ H' p qs D r2 q' z
/-- if c: a body that ends the def -/
def dIfG (i : Nat) (tc : DT) (t : DS) (u : List (List D) → DS) : List (List D) → DS := fun gs En ρ g => tc (snapG i gs ρ) g (fun b g' => okG g g' = true ∧ if b = true then t { En with nx := fun _ _ => False } ρ g' else u gs En ρ g') fun ex g' => okG g g' = true ∧ nlf ex.fs = true ∧ En.xz ex ρ g'
theorem wbg_if {cnd : Expr} (hc : WT B X W cnd tc) (ha : WB B X W H₀ st t) (h2 : WBG B X W H₀ i rest u) : WBG B X W H₀ i (.If cnd st [] pos :: rest) (dIfG i tc t u) := by
  refine ⟨fun c₀ c g gs ρ σ H p qs D r q z => semSs_of (pss_cons ps_sem pss_sem) ?_⟩
  refine semS_of (ps_if pt_sem pss_sem pss_nil) ?_
  refine (hc.run _ g _ σ H _ _ r.rel.snapFine r.snapRel q (r.zsnap z)).mono fun b H' ⟨c', g', s, k, q1, q'⟩ => ?_
  obtain ⟨r', n', gr⟩ := r.rel.unsnap s k q1
  cases b with
  | true =>
    intro pins s I
    refine thn (ha.run c₀ _ g' ρ σ H' _ (r'.trunc r.len) q' (fun c' g' ρ' σ' H' ex cls d a b c => z c' g' ρ' σ' H' ex cls d a b c) pins s I) fun f s' hq => ?_
    exact SP.imp hq (fun _ _ ⟨_, _, _, _, h⟩ => h.elim) (fun _ _ h => h) (fun _ _ h => h) (fun _ _ h => h)
  | false => exact h2.run c₀ _ g' gs ρ σ H' p qs D ⟨r', r.len, r.sl, gr.le.F _ _ r.top⟩ q' z
/-- x[n].clear() -/
def dClearG (n : Nat) (u : List (List D) → DS) : List (List D) → DS := fun gs En ρ g => n < gs.length ∧ u (gs.set n []) En ρ g
theorem wbg_clear (hv : PE X (.Name x px) (tVar i)) (hn : PE X e (fun _ H Q => Q (.int (n : Nat)) H)) (h2 : WBG B X W H₀ i rest u) (hp : PlainIx e := by exact fun _ _ => rfl)
    (hbase : attributeBase (.Subscript (.Name x px) e spos) "clear" X.env (eval (.Subscript (.Name x px) e spos) X.env) = eval (.Subscript (.Name x px) e spos) X.env := by rfl) (hline : (apos.endLine == cpos.line) = true := by rfl)
    (hsw : swapsWith (.Call (.Attribute (.Subscript (.Name x px) e spos) "clear" apos) [] [] cpos) none pos.line X.env = pure false := by rfl) :
    WBG B X W H₀ i (.Expr (.Call (.Attribute (.Subscript (.Name x px) e spos) "clear" apos) [] [] cpos) pos :: rest) (dClearG n u) := by
  refine ⟨fun c₀ c g gs ρ σ H p qs D r q z => semSs_of (pss_cons ps_sem pss_sem) ?_⟩
  refine semS_of (ps_expr (pe_bm0 PySem.F.plainAttrs_list PySem.F.slot_list_clear PySem.F.type_list_clear mt_clear (pe_ix ix_seq hv hn hp) hbase hline) hsw) ?_
  obtain ⟨hl, q⟩ := q
  have h0 : gs[n]? = some gs[n] := List.getElem?_eq_getElem hl
  obtain ⟨qq, e1, e2, e3⟩ := r.own h0
  obtain ⟨p', vs, f1, f2, f3, _⟩ := r.rel.ow _ _ e2
  rw [e3] at f1
  cases f1
  refine ⟨_, r.sl, .inl ⟨p, qs.map V.ref, n, .ref qq, rfl, rfl, SqL.of (r.rel.fine.sub _ _ r.top), ?_, .inl ⟨rfl, vs, SqL.of f2⟩, qq, vs, rfl, rfl, f2, ?_⟩⟩
  · have hq : n < (qs.map V.ref).length := by rw [List.length_map, ← r.len2]; exact hl
    obtain ⟨d, g1, g2⟩ := at_get (xs := qs.map V.ref) (a := (n : Nat)) (by omega) (by omega)
    rw [g2, ← g1, Int.toNat_natCast, List.getElem?_map, e1]; rfl
  · exact h2.run c₀ c g _ ρ σ _ p qs D (r.put h0 e1 .nil) q z
/-- x[n].append(e) -/
def dAppendG (n : Nat) (te : DE) (u : List (List D) → DS) : List (List D) → DS := fun gs En ρ g => ∃ ds, gs[n]? = some ds ∧ te (mask ρ) g (fun d g' => ds.length < sizeLine ∧ u (gs.set n (ds ++ [d])) En ρ g') fun ex g' => En.xz ex ρ g'
theorem wbg_append {e2 : Expr} (hv : PE X (.Name x px) (tVar i)) (hn : PE X e (fun _ H Q => Q (.int (n : Nat)) H)) (he : WE B X W e2 te) (h2 : WBG B X W H₀ i rest u) (hp : PlainIx e := by exact fun _ _ => rfl)
    (hbase : attributeBase (.Subscript (.Name x px) e spos) "append" X.env (eval (.Subscript (.Name x px) e spos) X.env) = eval (.Subscript (.Name x px) e spos) X.env := by rfl)
    (hfew : ((backTo cpos (starEach [e2] X.env)).all (fun x => !x.1) && (backToKw cpos (keywordEach [] X.env)).all (fun x => x.1.isSome) && decide ([e2].length + ([] : List Keyword).length + (if ([] : List Keyword).isEmpty then 0 else 1) < 30)) = true := by rfl)
    (hline : (apos.endLine == cpos.line) = true := by rfl) (hs : starEach [e2] X.env = (false, eval e2 X.env) :: starEach [] X.env := by rfl)
    (hsw : swapsWith (.Call (.Attribute (.Subscript (.Name x px) e spos) "append" apos) [e2] [] cpos) none pos.line X.env = pure false := by rfl) :
    WBG B X W H₀ i (.Expr (.Call (.Attribute (.Subscript (.Name x px) e spos) "append" apos) [e2] [] cpos) pos :: rest) (dAppendG n te u) := by
  refine ⟨fun c₀ c g gs ρ σ H p qs D r q z => semSs_of (pss_cons ps_sem pss_sem) ?_⟩
  refine semS_of (ps_expr (pe_bm PySem.F.plainAttrs_list PySem.F.slot_list_append PySem.F.type_list_append mt_append (pe_ix ix_seq hv hn hp) (pa_cons pe_sem pa_nil hs) hbase hfew hline hs rfl) hsw) ?_
  obtain ⟨ds, h0, q⟩ := q
  obtain ⟨qq, e1, e3, e4⟩ := r.own h0
  obtain ⟨p', vs, f1, f2, f3, f4, f5, f6, _⟩ := r.rel.ow _ _ e3
  rw [e4] at f1
  cases f1
  have hq : n < (qs.map V.ref).length := by rw [List.length_map, ← r.len2]; exact (List.getElem?_eq_some_iff.mp h0).1
  have ha : atI (qs.map V.ref) (n : Nat) = some (.ref qq) := by
    obtain ⟨d, g1, g2⟩ := at_get (xs := qs.map V.ref) (a := (n : Nat)) (by omega) (by omega)
    rw [g2, ← g1, Int.toNat_natCast, List.getElem?_map, e1]; rfl
  refine ⟨_, r.sl, .inl ⟨p, qs.map V.ref, n, .ref qq, rfl, rfl, SqL.of (r.rel.fine.sub _ _ r.top), ha, .inl ⟨rfl, vs, SqL.of f2⟩, ?_⟩⟩
  refine (he.run c g _ σ H _ _ r.rel.fine r.lo.mask q (r.lo.zok z)).mono fun v H' ⟨c', g', d, s, k, rr, hl, q'⟩ => ?_
  have r2 := r.next s k
  obtain ⟨m1, _⟩ := s.mine f2 f4 f5 f6
  have f3' : Reps B X.K c' vs ds := f3.mono s.le
  exact ⟨qq, vs, v, rfl, rfl, m1, by rw [f3'.length]; exact hl, h2.run c₀ c' g' _ ρ σ _ p qs D (r2.put h0 e1 (f3'.append (.cons rr .nil))) q' z⟩
end
end DL

namespace DL
open PySem L2 PyProof.Rows
/-! ### an instance == a list; [instance] == [instance] -/
section
variable {B : Tb} {X : Cx} {W : WX} {L i : Nat} {S : DSp}
theorem list_not_first {K : PySem.W.Frag} {C : Addr} : PySem.W.notFirst K C (.type "list") = true := by
  have : PySem.W.subIn K (.type "list") (.ref C) = some false := by kernel_rfl
  unfold PySem.W.notFirst
  rw [this]
  simp
def rOwnL (B : Tb) (K : PySem.W.Frag) (i : Nat) (S : DSp) : R2 := fun x y H Q => ∃ fs ys, rMeth B K S [.obj i fs, .lst ys] [x, y] H Q
theorem op_ownL {op : CmpOp} {m : Str} (F : MC B X.prog X.w X.K X.mg X.base L m i 1 S) (C : Ctx L X W) (hm : m = (cmpInfo op).2.1) (hop : ∀ a b, compareOp op a b = richCompare op a b) : OpR X (compareOp op) (rOwnL B X.K i S) := by
  obtain ⟨f, fd, ps, cl, mt, G, hb⟩ := F.ex
  intro pins s σ H x y v u Q I rx ry h
  obtain ⟨fs, ys, c, g, Φ, k, rs, hS, hq⟩ := h
  have rs' := rs
  cases rs with
  | cons r1 rs =>
    cases rs with
    | cons r2 rs =>
      obtain ⟨a, ox, od, rfl, J⟩ := inst_of I k.sub r1
      cases r2 with
      | @lst b vs _ h1 s1 =>
        cases (show v = Value.ref a from rx)
        cases (show u = Value.ref b from ry)
        obtain ⟨z, its, n, r, e⟩ := I.hok _ _ (k.sub _ _ h1)
        have ty : PySem.W.Looks (model X.prog X.w) s.heap (typeOf (.ref b)) (.type "list") := fun A Q E s' kp q => wpAny_typeOf_ref (kp _ _ e) q
        obtain ⟨ml, hF⟩ := I.fr
        rw [hop]
        refine PySem.W.cmp_K (op := op) (tb := .type "list") C.room.units0 hF I.ok.mod.kin J ty list_not_first (hm ▸ mt.at_) mt.fn ?_
        refine wpAny_mono (run_meth (us := [.ref a, .ref b]) (vs := [.ref a, .ref b]) G hb C.room C.gd I.env0 I (.cons rfl (.cons rfl .nil)) rfl ⟨c, g, Φ, k, rs', hS, hq⟩) (fun w s' z => ?_) fun _ _ x => x
        obtain ⟨z', H', I', rz, qz⟩ := z
        exact SlX.cmpback rz ⟨z', H', I', rz, qz⟩
def dCmpL (i : Nat) (S : DSp) (ta tb : DE) : DE := fun ρ g Q Z => ta ρ g (fun x g1 => tb ρ g1 (fun y g2 => ∃ fs ys, x = .obj i fs ∧ y = .lst ys ∧ S [x, y] g2 Q ZF) Z) Z
variable {a b : Expr} {ta tb : DE} {pos : Pos} {op : CmpOp} {m : Str}
theorem we_cmpL (F : MC B X.prog X.w X.K X.mg X.base L m i 1 S) (C : Ctx L X W) (hm : m = (cmpInfo op).2.1) (hop : ∀ a b, compareOp op a b = richCompare op a b) (ha : WE B X W a ta) (hb : WE B X W b tb) (hmk : behindInMarks op b = false := by rfl) : WE B X W (.Compare a [op] [b] pos) (dCmpL i S ta tb) := by
  refine ⟨fun c g ρ σ H Q Z k rl h z => sem_of (pe_cmpR (op_ownL F C hm hop) pe_sem pe_sem hmk) ?_⟩
  refine two ha hb k rl h z fun x y v u c2 g2 H2 s2 k2 r1 r2 ⟨fs, ys, ex, ey, hS⟩ => ?_
  subst ex ey
  exact ⟨fs, ys, c2, g2, Q, k2, .cons r1 (.cons r2 .nil), hS, fun c' H' g' v d s3 k3 r3 q3 => ⟨c', g', d, s2.trans s3, k3, r3, q3⟩⟩
theorem wt_cmpL (F : MC B X.prog X.w X.K X.mg X.base L m i 1 S) (C : Ctx L X W) (hm : m = (cmpInfo op).2.1) (hop : ∀ a b, compareOp op a b = richCompare op a b) (ha : WE B X W a ta) (hb : WE B X W b tb) (hmk : behindInMarks op b = false := by rfl) : WT B X W (.Compare a [op] [b] pos) (dTest (dCmpL i S ta tb)) := by
  refine ⟨fun c g ρ σ H Q Z k rl h z => semT_of (pt_cmpR (op_ownL F C hm hop) pe_sem pe_sem hmk) ?_⟩
  refine two ha hb k rl h z fun x y v u c2 g2 H2 s2 k2 r1 r2 ⟨fs, ys, ex, ey, hS⟩ => ?_
  subst ex ey
  refine ⟨fs, ys, c2, g2, _, k2, .cons r1 (.cons r2 .nil), hS, fun c' H' g' v d s3 k3 r3 q3 => ?_⟩
  obtain ⟨b', eb, q⟩ := q3
  subst eb
  exact ⟨b', r3.blv, c', g', s2.trans s3, k3, q⟩
/-- [x] == [y], the two the same by their class's own == -/
def dEqL1 (i : Nat) (S : DSp) (ta tb : DE) : DE := fun ρ g Q Z => ta ρ g (fun x g1 => tb ρ g1 (fun y g2 => ∃ fs gs, x = .lst [.obj i fs] ∧ y = .lst [.obj i gs] ∧ S [.obj i fs, .obj i gs] g2 (fun d g3 => d = .bl true ∧ Q (.bl true) g3) ZF ∧ Q (.bl true) g2) Z) Z
def rLst1 (B : Tb) (K : PySem.W.Frag) (i : Nat) (S : DSp) : R2 := fun x y H Q => ∃ c g fs gs, ∃ Φ : Gh → Prop, Fine B K c g H ∧ Rep B K c x (.lst [.obj i fs]) ∧ Rep B K c y (.lst [.obj i gs]) ∧ S [.obj i fs, .obj i gs] g (fun d g' => d = .bl true ∧ Φ g') ZF ∧ Φ g ∧
  ∀ c' H' g', Grow c H c' H' → Fine B K c' g' H' → Φ g' → Q (.bl true) H'
theorem op_lst1 (F : MC B X.prog X.w X.K X.mg X.base L "__eq__" i 1 S) (C : Ctx (L + 1) X W) : OpR X (compareOp .Eq) (rLst1 B X.K i S) := by
  obtain ⟨f, fd, ps, cl, mt, G, hb⟩ := F.ex
  intro pins s σ H x y v u Q I rx ry h
  obtain ⟨c, g, fs, gs, Φ, k, r1, r2, hS, h0, hq⟩ := h
  cases r1 with
  | @lst a va _ h1 s1 =>
    cases r2 with
    | @lst b vb _ h2 s2 =>
      cases (show v = Value.ref a from rx)
      cases (show u = Value.ref b from ry)
      cases s1 with
      | cons x1 n1 =>
        cases n1
        cases s2 with
        | cons y1 n2 =>
          cases n2
          show wpAny _ _ (richCompare .Eq (.ref a) (.ref b)) _ _ _
          refine GQ.rc_listG (N := 1) C.room.units0 (fun j s' => ∃ H' c' g', Inv X pins σ H' s' ∧ Grow c H c' H' ∧ Fine B X.K c' g' H' ∧ (j = 0 → S [.obj i fs, .obj i gs] g' (fun d g' => d = .bl true ∧ Φ g') ZF ∧ Φ g') ∧ (j ≠ 0 → Φ g')) ?_ ?_ ⟨H, c, g, I, Grow.refl c H, k, fun _ => ⟨hS, h0⟩, fun z => absurd rfl z⟩
          · rintro j s' ⟨H', c', g', I', gr, k', j0, j1⟩
            obtain ⟨_, its, n, w1, e1⟩ := I'.hok _ _ (k'.sub _ _ (gr.le.F _ _ h1))
            obtain ⟨_, its2, n2, w2, e2⟩ := I'.hok _ _ (k'.sub _ _ (gr.le.F _ _ h2))
            refine ⟨_, _, _, _, e1, e2, by simpa using w1.length.symm, by simpa using w2.length.symm, fun z1 z2 => ?_⟩
            have l1 : its.length = 1 := by simpa using w1.length.symm
            have hj : j = 0 := by simp [l1] at z1; omega
            subst hj
            obtain ⟨hS, h0⟩ := j0 rfl
            obtain ⟨ux, rfl, t1⟩ := Vals.one w1
            obtain ⟨uy, rfl, t2⟩ := Vals.one w2
            have rx := x1.mono gr.le
            have ry := y1.mono gr.le
            obtain ⟨a2, ox, od, rfl, J⟩ := inst_of I' k'.sub rx
            obtain ⟨b2, oy, oe, rfl, J'⟩ := inst_of I' k'.sub ry
            cases (show ux = Value.ref a2 from t1)
            cases (show uy = Value.ref b2 from t2)
            show wpAny _ _ (eqBool (.ref a2) (.ref b2)) _ _ _
            by_cases hab : a2 = b2
            · subst hab
              exact SeqAt.EqAt.same (A := X.A.in1) (s := s') (.ref a2) X.prog X.w X.xe _ ⟨rfl, H', c', g', I', gr, k', nofun, fun _ => h0⟩
            · obtain ⟨ml, hF⟩ := I'.fr
              refine GQ.eqBool_refG hab ?_
              refine PySem.W.cmp_K (op := .Eq) (tb := .ref (B.ct i)) (by have := C.u65; rw [PySem.Around.in1_units]; omega) hF I'.ok.mod.kin J J'.type (by unfold PySem.W.notFirst; simp) mt.at_ mt.fn ?_
              refine wpAny_mono (run_meth (us := [.ref a2, .ref b2]) (vs := [.ref a2, .ref b2]) (ds := [.obj i fs, .obj i gs]) (Q := fun v' H'' => v' = .bl true ∧ ∃ c'' g'', Grow c H c'' H'' ∧ Fine B X.K c'' g'' H'' ∧ Φ g'') G hb C.room.in1 C.gd I'.env0.in1 I' (.cons rfl (.cons rfl .nil)) rfl ⟨c', g', _, k', .cons rx (.cons ry .nil), hS, ?_⟩) (fun w s2 z => ?_) fun _ _ z => z
              · rintro c2 H2 g2 v2 d2 gr2 k2 r2 ⟨rfl, ht⟩
                exact ⟨r2.blv, c2, g2, gr.trans gr2, k2, ht⟩
              · obtain ⟨v2, H2, I2, rv, rfl, c2, g2, gr2, k2, ht⟩ := z
                cases (show w = Value.bool true from rv)
                exact ⟨true, rfl, rfl, H2, c2, g2, I2, gr2, k2, nofun, fun _ => ht⟩
          · rintro s' ⟨H', c', g', I', gr, k', _, j1⟩
            exact ⟨.bl true, H', I', rfl, hq _ _ _ gr k' (j1 (by decide))⟩
theorem we_eqL1 (F : MC B X.prog X.w X.K X.mg X.base L "__eq__" i 1 S) (C : Ctx (L + 1) X W) (ha : WE B X W a ta) (hb : WE B X W b tb) (hmk : behindInMarks .Eq b = false := by rfl) : WE B X W (.Compare a [.Eq] [b] pos) (dEqL1 i S ta tb) := by
  refine ⟨fun c g ρ σ H Q Z k rl h z => sem_of (pe_cmpR (op_lst1 F C) pe_sem pe_sem hmk) ?_⟩
  refine two ha hb k rl h z fun x y v u c2 g2 H2 s2 k2 r1 r2 ⟨fs, gs, ex, ey, hS, h0⟩ => ?_
  subst ex ey
  exact ⟨c2, g2, fs, gs, _, k2, r1, r2, hS, h0, fun c' H' g' s3 k3 q3 => ⟨c', g', _, s2.trans s3, k3, .bl true, q3⟩⟩
end
/-! as functions -/
section
variable {i : Nat} {S : DSp} {F : List D → R D} {ta tb : DE} {fa fb : DEnv → R D}
def isLs : D → Bool
  | .lst _ => true
  | _ => false
theorem isLs_eq {y : D} (h : isLs y = true) : ∃ ys, y = .lst ys := by
  cases y <;> first | exact ⟨_, rfl⟩ | cases h
def fCmpL (i : Nat) (F : List D → R D) (fa fb : DEnv → R D) (ρ : DEnv) : R D := (fa ρ).bind fun x => (fb ρ).bind fun y => if (isOb i x && isLs y) = true then (F [x, y]).quiet else .no
theorem pu_cmpL (hF : PuF S F) (ha : PuE ta fa) (hb : PuE tb fb) : PuE (dCmpL i S ta tb) (fCmpL i F fa fb) := fun ρ g Q Z hg h =>
  ha ρ g _ Z hg (R.thn h fun x _ h => hb ρ g _ Z hg (R.thn h fun y _ h => by
    split at h
    · rename_i hh
      obtain ⟨h1, h2⟩ := Bool.and_eq_true_iff.mp hh
      obtain ⟨fs, rfl⟩ := isOb_eq h1
      obtain ⟨gs, rfl⟩ := isLs_eq h2
      exact ⟨fs, gs, rfl, rfl, hF _ g Q ZF hg (sat_quiet h)⟩
    · exact h.elim))
def one? : D → Option D
  | .lst [x] => some x
  | _ => none
def isTr : R D → Bool
  | .ok (.bl true) => true
  | _ => false
def fEqL1 (i : Nat) (F : List D → R D) (fa fb : DEnv → R D) (ρ : DEnv) : R D := (fa ρ).bind fun x => (fb ρ).bind fun y => match one? x, one? y with
  | some a, some b => if (isOb i a && isOb i b && isTr (F [a, b])) = true then .ok (.bl true) else .no
  | _, _ => .no
theorem one_eq {x a : D} (h : one? x = some a) : x = .lst [a] := by
  unfold one? at h
  split at h
  · cases h; rfl
  · cases h
theorem pu_eqL1 (hF : PuF S F) (ha : PuE ta fa) (hb : PuE tb fb) : PuE (dEqL1 i S ta tb) (fEqL1 i F fa fb) := fun ρ g Q Z hg h =>
  ha ρ g _ Z hg (R.thn h fun x _ h => hb ρ g _ Z hg (R.thn h fun y _ h => by
    split at h
    · rename_i a b e1 e2
      split at h
      · rename_i hh
        obtain ⟨h12, h3⟩ := Bool.and_eq_true_iff.mp hh
        obtain ⟨h1, h2⟩ := Bool.and_eq_true_iff.mp h12
        obtain ⟨fs, rfl⟩ := isOb_eq h1
        obtain ⟨gs, rfl⟩ := isOb_eq h2
        refine ⟨fs, gs, one_eq e1, one_eq e2, hF _ g _ ZF hg ?_, h⟩
        cases e : F [.obj i fs, .obj i gs] with
        | ok d =>
          rw [e] at h3
          cases d with
          | bl b => cases b with
            | true => exact ⟨rfl, h⟩
            | false => cases h3
          | _ => cases h3
        | _ => rw [e] at h3; cases h3
      · exact h.elim
    · exact h.elim))
theorem cmpL_of {η : DEnv} {fs : List (Str × D)} {ys : List D} {r : D} (h1 : fa η = .ok (.obj i fs)) (h2 : fb η = .ok (.lst ys)) (h3 : F [.obj i fs, .lst ys] = .ok r) : fCmpL i F fa fb η = .ok r := by
  unfold fCmpL
  rw [h1]
  show (R.bind (fb η) _) = _
  rw [h2]
  show (if (isOb i (.obj i fs) && isLs (.lst ys)) = true then (F [.obj i fs, .lst ys]).quiet else .no) = _
  rw [if_pos (by simp [isOb, isLs]), h3]
  rfl
theorem eqL1_of {η : DEnv} {fs gs : List (Str × D)} (h1 : fa η = .ok (.lst [.obj i fs])) (h2 : fb η = .ok (.lst [.obj i gs])) (h3 : F [.obj i fs, .obj i gs] = .ok (.bl true)) : fEqL1 i F fa fb η = .ok (.bl true) := by
  unfold fEqL1
  rw [h1]
  show (R.bind (fb η) _) = _
  rw [h2]
  show (if (isOb i (.obj i fs) && isOb i (.obj i gs) && isTr (F [.obj i fs, .obj i gs])) = true then R.ok (D.bl true) else .no) = _
  rw [h3, if_pos (by simp [isOb, isTr])]
end
end DL

namespace K09
open PySem L2 DL PyProof.Rows
def top (i : Nat) : Stmt := PySem.Challenge.pw_risingread_k09_schemes_made.main.body.getD i (.Pass ⟨0, 0, 0, 0⟩)
def fn_NoScheme : List Str := ["part", "at"]
def tb_NoScheme : KT := [(.non, false), (.bl, false), (.int, false), (.str, false), (.lst, false), (.tup, false), (.dct, false), (.exc 0, false), (.exc 1, true), (.obj 2, false)]
def tb_Scheme : KT := [(.non, false), (.bl, false), (.int, false), (.str, false), (.lst, false), (.tup, false), (.dct, false), (.exc 0, false), (.exc 1, false), (.obj 2, true)]
def tb_bool : KT := [(.non, false), (.bl, true), (.int, false), (.str, false), (.lst, false), (.tup, false), (.dct, false), (.exc 0, false), (.exc 1, false), (.obj 2, false)]
def tb_int : KT := [(.non, false), (.bl, true), (.int, true), (.str, false), (.lst, false), (.tup, false), (.dct, false), (.exc 0, false), (.exc 1, false), (.obj 2, false)]
def tb_list : KT := [(.non, false), (.bl, false), (.int, false), (.str, false), (.lst, true), (.tup, false), (.dct, false), (.exc 0, false), (.exc 1, false), (.obj 2, false)]
def tb_str : KT := [(.non, false), (.bl, false), (.int, false), (.str, true), (.lst, false), (.tup, false), (.dct, false), (.exc 0, false), (.exc 1, false), (.obj 2, false)]
def tb_tuple : KT := [(.non, false), (.bl, false), (.int, false), (.str, false), (.lst, false), (.tup, true), (.dct, false), (.exc 0, false), (.exc 1, false), (.obj 2, false)]
def v_KINDS : D := (.tup [(.str "strict"), (.str "weak"), (.str "free")])
def v_LETTERS : D := (.str "abcdefghijklmnopqrstuvwxyz")
def v_MOST_LETTERS : D := (.int 12)
def v_MOST_PLACES : D := (.int 4)
def ctl_RisingError : List (Nat × Bool) := [(0, true), (1, true)]
def ct_RisingError (k : Nat) : Option Bool := ctl_RisingError.lookup k
structure Mg (B : Tb) (P : Program) (w : World) (K : PySem.W.Frag) (mg : Str → Option Value) (base : Heap) : Prop where
  b_abs : mg "abs" = none
  b_all : mg "all" = none
  b_bool : mg "bool" = none
  b_enumerate : mg "enumerate" = none
  b_int : mg "int" = none
  b_isinstance : mg "isinstance" = none
  b_len : mg "len" = none
  b_list : mg "list" = none
  b_min : mg "min" = none
  b_range : mg "range" = none
  b_str : mg "str" = none
  b_tuple : mg "tuple" = none
  x_NoScheme : XC B P w K mg base "NoScheme" 1 fn_NoScheme
  n_NoScheme : mg "NoScheme" = some (.ref (B.ct 1))
  n_RisingError : mg "RisingError" = some (.ref (B.ct 0))
  n_Scheme : mg "Scheme" = some (.ref (B.ct 2))
  is_NoScheme : IsOk B K (isTab tb_NoScheme) (.ref (B.ct 1))
  is_Scheme : IsOk B K (isTab tb_Scheme) (.ref (B.ct 2))
  is_bool : IsOk B K (isTab tb_bool) (.type "bool")
  is_int : IsOk B K (isTab tb_int) (.type "int")
  is_list : IsOk B K (isTab tb_list) (.type "list")
  is_str : IsOk B K (isTab tb_str) (.type "str")
  is_tuple : IsOk B K (isTab tb_tuple) (.type "tuple")
  ne_Scheme : NeC B K 2
  cc_Scheme_CELLS : CC B K mg "Scheme" "CELLS" (.int 8)
  cc_Scheme_NUMBERS : CC B K mg "Scheme" "NUMBERS" (.int 3)
  at_at : AtOk B K "at" [] [1]
  at_cells : AtOk B K "cells" [2] []
  at_numbers : AtOk B K "numbers" [2] []
  at_part : AtOk B K "part" [] [1]
  c_KINDS : GC B K mg "KINDS" v_KINDS
  c_LETTERS : GC B K mg "LETTERS" v_LETTERS
  c_MOST_LETTERS : GC B K mg "MOST_LETTERS" v_MOST_LETTERS
  c_MOST_PLACES : GC B K mg "MOST_PLACES" v_MOST_PLACES
  ct_RisingError : ∀ k b, ct_RisingError k = some b → PySem.W.exmOne K (.ref (B.ct k)) (.ref (B.ct 0)) = some b
section
variable {B : Tb} {P : Program} {w : World} {K : PySem.W.Frag} {mg : Str → Option Value} {base : Heap}
/-! is_whole -/
abbrev s_is_whole : Stmt := top 5
theorem sc_is_whole : FnScope ["thing"] ["thing"] (defScope s_is_whole) := ⟨rfl, rfl, rfl, by decide +kernel, rfl, by decide +kernel, by decide +kernel⟩
def q_is_whole_0 : DS := (dRet (dAnd (dU (isiD (isTab tb_int)) (dVar 0)) (dNot (dU (isiD (isTab tb_bool)) (dVar 0)))))
def t_is_whole : DS := q_is_whole_0
def S_is_whole : DSp := specOf ["thing"] t_is_whole
theorem ok_is_whole {f : Addr} {fd : FuncData} (F : Fun K "is_whole" "is_whole" s_is_whole f fd) (M : Mg B P w K mg base)  : FnG P w K mg base 1 f fd ["thing"] (spOf B K 1 S_is_whole) :=
  def_ok F sc_is_whole (fun cdv A outer s H E C => (wb_one (ws_ret (we_and (we_isT M.is_int rfl M.b_int Boot.«int» rfl M.b_isinstance (wv 0)) (we_one (we_not (we_isT M.is_bool rfl M.b_bool Boot.«bool» rfl M.b_isinstance (wv 0)))))))) keeps_self
def f_q_is_whole_0 : SEnv → Fl := (fRet (fAnd (fU (isiD (isTab tb_int)) (fVar 0)) (fNot (fU (isiD (isTab tb_bool)) (fVar 0)))))
theorem pq_q_is_whole_0 : PuS q_is_whole_0 f_q_is_whole_0 := show PuS (dRet (dAnd (dU (isiD (isTab tb_int)) (dVar 0)) (dNot (dU (isiD (isTab tb_bool)) (dVar 0))))) f_q_is_whole_0 from (pu_ret (pu_and (pu_u pu_var) (pu_not (pu_u pu_var))))
def F_is_whole : List D → R D := runF ["thing"] f_q_is_whole_0
theorem pf_is_whole : PuF S_is_whole F_is_whole := pu_def (t := q_is_whole_0) pq_q_is_whole_0
/-! is_name -/
abbrev s_is_name : Stmt := top 11
theorem sc_is_name : FnScope ["thing", "sign"] ["thing"] (defScope s_is_name) := ⟨rfl, rfl, rfl, by decide +kernel, rfl, by decide +kernel, by decide +kernel⟩
def q_is_name_0 : DS := (dRet (dAnd (dU (isiD (isTab tb_str)) (dVar 0)) (dAnd (dChain leA leA (dC (.int 1)) (dFn lenD (dCons (dVar 0) dNil)) (dC v_MOST_LETTERS)) (dFn allD (dCons (dLc (dSigns (dVar 0)) (pN 1) dYes (dOp (inA false) (dVar 1) (dC v_LETTERS)) [1]) dNil)))))
def t_is_name : DS := q_is_name_0
def S_is_name : DSp := specOf ["thing", "sign"] t_is_name
theorem ok_is_name {f : Addr} {fd : FuncData} (F : Fun K "is_name" "is_name" s_is_name f fd) (M : Mg B P w K mg base)  : FnG P w K mg base 1 f fd ["thing"] (spOf B K 1 S_is_name) :=
  def_ok F sc_is_name (fun cdv A outer s H E C => (wb_one (ws_ret (we_and (we_isT M.is_str rfl M.b_str Boot.«str» rfl M.b_isinstance (wv 0)) (we_and (e_chain (o_leA C) (o_leA C) we_int (e_len rfl M.b_len (wv 0)) (we_gc M.c_MOST_LETTERS rfl)) (we_one (e_all C rfl M.b_all (we_lc C.calm sc_is_name.nd (wi_signs (wv 0)) (blk_ok (own := [("sign", 1)]) (by kernel_rfl)) (wp_name (fun _ _ _ _ _ => pg_name sc_is_name.nd rfl (by first | exact .inl rfl | exact .inr rfl)) (by decide)) (fun _ _ _ _ _ => wts_nil) (fun _ _ _ _ _ => (e_cmp (o_in C.blk) (wv 1) (we_gc M.c_LETTERS rfl))))))))))) keeps_self
def f_q_is_name_0 : SEnv → Fl := (fRet (fAnd (fU (isiD (isTab tb_str)) (fVar 0)) (fAnd (fChain leA leA (fC (.int 1)) (fFn lenD (fCons (fVar 0) (fun _ => .ok []))) (fC v_MOST_LETTERS)) (fFn allD (fCons (fLc (fSigns (fVar 0)) (pN 1) (fun _ => .ok true) (fOp (inA false) (fVar 1) (fC v_LETTERS)) [1]) (fun _ => .ok []))))))
theorem pq_q_is_name_0 : PuS q_is_name_0 f_q_is_name_0 := show PuS (dRet (dAnd (dU (isiD (isTab tb_str)) (dVar 0)) (dAnd (dChain leA leA (dC (.int 1)) (dFn lenD (dCons (dVar 0) dNil)) (dC v_MOST_LETTERS)) (dFn allD (dCons (dLc (dSigns (dVar 0)) (pN 1) dYes (dOp (inA false) (dVar 1) (dC v_LETTERS)) [1]) dNil))))) f_q_is_name_0 from (pu_ret (pu_and (pu_u pu_var) (pu_and (pu_chain pu_c (pu_fn (pu_cons pu_var pu_nil)) pu_c) (pu_fn (pu_cons (pu_lc (pu_signs pu_var) pu_yes (pu_op pu_var pu_c)) pu_nil)))))
def F_is_name : List D → R D := runF ["thing", "sign"] f_q_is_name_0
theorem pf_is_name : PuF S_is_name F_is_name := pu_def (t := q_is_name_0) pq_q_is_name_0
/-! is_places -/
abbrev s_is_places : Stmt := top 12
theorem sc_is_places : FnScope ["thing"] ["thing"] (defScope s_is_places) := ⟨rfl, rfl, rfl, by decide +kernel, rfl, by decide +kernel, by decide +kernel⟩
def q_is_places_0 : DS := (dRet (dAnd (dCall S_is_whole (dCons (dVar 0) dNil)) (dChain leA leA (dC (.int 1)) (dVar 0) (dC v_MOST_PLACES))))
def t_is_places : DS := q_is_places_0
def S_is_places : DSp := specOf ["thing"] t_is_places
theorem ok_is_places {f : Addr} {fd : FuncData} (F : Fun K "is_places" "is_places" s_is_places f fd) (M : Mg B P w K mg base) (h_is_whole : Fn B P w K mg base 1 "is_whole" 1 S_is_whole) : FnG P w K mg base 2 f fd ["thing"] (spOf B K 1 S_is_places) :=
  def_ok F sc_is_places (fun cdv A outer s H E C => (wb_one (ws_ret (we_and (we_call (h_is_whole.mono (by decide)) C rfl (wa_cons (wv 0) wa_nil)) (we_one (e_chain (o_leA C) (o_leA C) we_int (wv 0) (we_gc M.c_MOST_PLACES rfl))))))) keeps_self
def f_q_is_places_0 : SEnv → Fl := (fRet (fAnd (fCall F_is_whole (fCons (fVar 0) (fun _ => .ok []))) (fChain leA leA (fC (.int 1)) (fVar 0) (fC v_MOST_PLACES))))
theorem pq_q_is_places_0 : PuS q_is_places_0 f_q_is_places_0 := show PuS (dRet (dAnd (dCall S_is_whole (dCons (dVar 0) dNil)) (dChain leA leA (dC (.int 1)) (dVar 0) (dC v_MOST_PLACES)))) f_q_is_places_0 from (pu_ret (pu_and (pu_call pf_is_whole (pu_cons pu_var pu_nil)) (pu_chain pu_c pu_var pu_c)))
def F_is_places : List D → R D := runF ["thing"] f_q_is_places_0
theorem pf_is_places : PuF S_is_places F_is_places := pu_def (t := q_is_places_0) pq_q_is_places_0
/-! is_number -/
abbrev s_is_number : Stmt := top 13
theorem sc_is_number : FnScope ["thing"] ["thing"] (defScope s_is_number) := ⟨rfl, rfl, rfl, by decide +kernel, rfl, by decide +kernel, by decide +kernel⟩
def q_is_number_1 : DS := (dRet (dAnd (dCall S_is_name (dCons (dOp ixA (dVar 0) (dC (.int 0))) dNil)) (dAnd (dCall S_is_places (dCons (dOp ixA (dVar 0) (dC (.int 1))) dNil)) (dAnd (dU (isiD (isTab tb_str)) (dOp ixA (dVar 0) (dC (.int 2)))) (dOp (inA false) (dOp ixA (dVar 0) (dC (.int 2))) (dC v_KINDS))))))
def q_is_number_0 : DS := (dSeq (dIfS (dOrT (dNotT (dTest (dU (isiD (isTab tb_tuple)) (dVar 0)))) (dTest (dOp (eqA true) (dFn lenD (dCons (dVar 0) dNil)) (dC (.int 3)))))
    (dRet (dC (.bl false)))
    dNext)
    q_is_number_1)
def t_is_number : DS := q_is_number_0
def S_is_number : DSp := specOf ["thing"] t_is_number
theorem ok_is_number {f : Addr} {fd : FuncData} (F : Fun K "is_number" "is_number" s_is_number f fd) (M : Mg B P w K mg base) (h_is_name : Fn B P w K mg base 1 "is_name" 1 S_is_name) (h_is_places : Fn B P w K mg base 2 "is_places" 1 S_is_places) : FnG P w K mg base 3 f fd ["thing"] (spOf B K 1 S_is_number) :=
  def_ok F sc_is_number (fun cdv A outer s H E C => (wb_cons (ws_if (WW.wt (ww_or (wt_not (wt_val (we_isT M.is_tuple rfl M.b_tuple Boot.«tuple» rfl M.b_isinstance (wv 0)))) (ww_or1 (t_cmp (o_ne C) (e_len rfl M.b_len (wv 0)) we_int))))
    (wb_one (ws_ret we_bl))
    wb_nil)
    (wb_one (ws_ret (we_and (we_call (h_is_name.mono (by decide)) C rfl (wa_cons (e_ix C (wv 0) we_int) wa_nil)) (we_and (we_call (h_is_places.mono (by decide)) C rfl (wa_cons (e_ix C (wv 0) we_int) wa_nil)) (we_and (we_isT M.is_str rfl M.b_str Boot.«str» rfl M.b_isinstance (e_ix C (wv 0) we_int)) (we_one (e_cmp (o_in C) (e_ix C (wv 0) we_int) (we_gc M.c_KINDS rfl)))))))))) keeps_self
def f_q_is_number_1 : SEnv → Fl := (fRet (fAnd (fCall F_is_name (fCons (fOp ixA (fVar 0) (fC (.int 0))) (fun _ => .ok []))) (fAnd (fCall F_is_places (fCons (fOp ixA (fVar 0) (fC (.int 1))) (fun _ => .ok []))) (fAnd (fU (isiD (isTab tb_str)) (fOp ixA (fVar 0) (fC (.int 2)))) (fOp (inA false) (fOp ixA (fVar 0) (fC (.int 2))) (fC v_KINDS))))))
theorem pq_q_is_number_1 : PuS q_is_number_1 f_q_is_number_1 := show PuS (dRet (dAnd (dCall S_is_name (dCons (dOp ixA (dVar 0) (dC (.int 0))) dNil)) (dAnd (dCall S_is_places (dCons (dOp ixA (dVar 0) (dC (.int 1))) dNil)) (dAnd (dU (isiD (isTab tb_str)) (dOp ixA (dVar 0) (dC (.int 2)))) (dOp (inA false) (dOp ixA (dVar 0) (dC (.int 2))) (dC v_KINDS)))))) f_q_is_number_1 from (pu_ret (pu_and (pu_call pf_is_name (pu_cons (pu_op pu_var pu_c) pu_nil)) (pu_and (pu_call pf_is_places (pu_cons (pu_op pu_var pu_c) pu_nil)) (pu_and (pu_u (pu_op pu_var pu_c)) (pu_op (pu_op pu_var pu_c) pu_c)))))
def f_q_is_number_0 : SEnv → Fl := (fSeq (fIfF (fOrT (fNotT (fTest (fU (isiD (isTab tb_tuple)) (fVar 0)))) (fTest (fOp (eqA true) (fFn lenD (fCons (fVar 0) (fun _ => .ok []))) (fC (.int 3))))) (fRet (fC (.bl false))) Fl.nx) f_q_is_number_1)
theorem pq_q_is_number_0 : PuS q_is_number_0 f_q_is_number_0 := show PuS (dSeq (dIfS (dOrT (dNotT (dTest (dU (isiD (isTab tb_tuple)) (dVar 0)))) (dTest (dOp (eqA true) (dFn lenD (dCons (dVar 0) dNil)) (dC (.int 3)))))
    (dRet (dC (.bl false)))
    dNext)
    q_is_number_1) f_q_is_number_0 from (pu_seq (pu_ifS (pu_orT (pu_notT (pu_test (pu_u pu_var))) (pu_test (pu_op (pu_fn (pu_cons pu_var pu_nil)) pu_c))) (pu_ret pu_c) pu_next) pq_q_is_number_1)
def F_is_number : List D → R D := runF ["thing"] f_q_is_number_0
theorem pf_is_number : PuF S_is_number F_is_number := pu_def (t := q_is_number_0) pq_q_is_number_0
/-! check_numbers -/
abbrev s_check_numbers : Stmt := top 14
theorem sc_check_numbers : FnScope ["numbers", "names", "at", "number"] ["numbers"] (defScope s_check_numbers) := ⟨rfl, rfl, rfl, by decide +kernel, rfl, by decide +kernel, by decide +kernel⟩
def lb1_check_numbers_1 : DS := (dAppend 1 (dOp ixA (dVar 3) (dC (.int 0))))
def lb1_check_numbers_0 : DS := (dSeq (dIfSS (dOrT (dTest (dOp (eqA false) (dVar 2) (dC (.int 3)))) (dOrT (dNotT (dTest (dCall S_is_number (dCons (dVar 3) dNil)))) (dTest (dOp (inA false) (dOp ixA (dVar 3) (dC (.int 0))) (dVar 1)))))
    (dRaise 1 fn_NoScheme (dCons (dC (.str "numbers")) (dCons (dVar 2) dNil)))
    dNext)
    lb1_check_numbers_1)
def q_check_numbers_2 : DS := (dFor (dEnumX (dVar 0)) (gT [2, 3])
    lb1_check_numbers_0)
def q_check_numbers_1 : DS := (dSeq (dSetO 1 (dLstO dNil))
    q_check_numbers_2)
def q_check_numbers_0 : DS := (dSeq (dIfS (dOrT (dNotT (dTest (dU (isiD (isTab tb_list)) (dVar 0)))) (dTest (dOp (eqL false) (dVar 0) (dLst dNil))))
    (dRaise 1 fn_NoScheme (dCons (dC (.str "numbers")) (dCons (dC .non) dNil)))
    dNext)
    q_check_numbers_1)
def t_check_numbers : DS := q_check_numbers_0
def S_check_numbers : DSp := specOf ["numbers", "names", "at", "number"] t_check_numbers
theorem ok_check_numbers {f : Addr} {fd : FuncData} (F : Fun K "check_numbers" "check_numbers" s_check_numbers f fd) (M : Mg B P w K mg base) (h_is_number : Fn B P w K mg base 3 "is_number" 1 S_is_number) : FnG P w K mg base 4 f fd ["numbers"] (spOf B K 1 S_check_numbers) :=
  def_ok F sc_check_numbers (fun cdv A outer s H E C => (wb_cons (ws_if (WW.wt (ww_or (wt_not (wt_val (we_isT M.is_list rfl M.b_list Boot.«list» rfl M.b_isinstance (wv 0)))) (ww_or1 (t_cmp (o_eqL C) (wv 0) (we_lst wa_nil)))))
    (wb_one (ws_raise M.x_NoScheme C (by decide) rfl (wa_cons we_str (wa_cons we_non wa_nil))))
    wb_nil)
    (wb_cons (ws_setO sc_check_numbers.nd rfl (by first | exact .inl rfl | exact .inr rfl) (wl_lst wa_nil))
    (wb_one (ws_for (passes_of rfl) C.calm (wi_enumX rfl M.b_enumerate (wv 0)) (wg_tup (n := 2) C.calm (wgs_cons sc_check_numbers.nd rfl (by first | exact .inl rfl | exact .inr rfl) (wgs_cons sc_check_numbers.nd rfl (by first | exact .inl rfl | exact .inr rfl) wgs_nil)))
    (wb_cons (ws_ifS (WW.wt (ww_or (t_cmp (o_eq C) (wv 2) (we_cc M.cc_Scheme_NUMBERS rfl)) (ww_or (wt_not (wt_val (we_call (h_is_number.mono (by decide)) C rfl (wa_cons (wv 3) wa_nil)))) (ww_or1 (t_cmp (o_in C) (e_ix C (wv 3) we_int) (wv 1))))))
    (wb_one (ws_raise M.x_NoScheme C (by decide) rfl (wa_cons we_str (wa_cons (wv 2) wa_nil))))
    wb_nil)
    (wb_one (ws_append (pv 1) (e_ix C (wv 3) we_int))))))))) keeps_self
def f_lb1_check_numbers_1 : SEnv → Fl := (fAppend 1 (fOp ixA (fVar 3) (fC (.int 0))))
theorem pq_lb1_check_numbers_1 : PuS lb1_check_numbers_1 f_lb1_check_numbers_1 := show PuS (dAppend 1 (dOp ixA (dVar 3) (dC (.int 0)))) f_lb1_check_numbers_1 from (pu_append (pu_op pu_var pu_c))
def f_lb1_check_numbers_0 : SEnv → Fl := (fSeq (fIfSF (fOrT (fTest (fOp (eqA false) (fVar 2) (fC (.int 3)))) (fOrT (fNotT (fTest (fCall F_is_number (fCons (fVar 3) (fun _ => .ok []))))) (fTest (fOp (inA false) (fOp ixA (fVar 3) (fC (.int 0))) (fVar 1))))) (fRaise 1 fn_NoScheme (fCons (fC (.str "numbers")) (fCons (fVar 2) (fun _ => .ok [])))) Fl.nx) f_lb1_check_numbers_1)
theorem pq_lb1_check_numbers_0 : PuS lb1_check_numbers_0 f_lb1_check_numbers_0 := show PuS (dSeq (dIfSS (dOrT (dTest (dOp (eqA false) (dVar 2) (dC (.int 3)))) (dOrT (dNotT (dTest (dCall S_is_number (dCons (dVar 3) dNil)))) (dTest (dOp (inA false) (dOp ixA (dVar 3) (dC (.int 0))) (dVar 1)))))
    (dRaise 1 fn_NoScheme (dCons (dC (.str "numbers")) (dCons (dVar 2) dNil)))
    dNext)
    lb1_check_numbers_1) f_lb1_check_numbers_0 from (pu_seq (pu_ifSS (pu_orT (pu_test (pu_op pu_var pu_c)) (pu_orT (pu_notT (pu_test (pu_call pf_is_number (pu_cons pu_var pu_nil)))) (pu_test (pu_op (pu_op pu_var pu_c) pu_var)))) (pu_raise (pu_cons pu_c (pu_cons pu_var pu_nil))) pu_next) pq_lb1_check_numbers_1)
def f_q_check_numbers_2 : SEnv → Fl := (fFor (fEnumX (fVar 0)) (gT [2, 3]) f_lb1_check_numbers_0)
theorem pq_q_check_numbers_2 : PuS q_check_numbers_2 f_q_check_numbers_2 := show PuS (dFor (dEnumX (dVar 0)) (gT [2, 3])
    lb1_check_numbers_0) f_q_check_numbers_2 from (pu_for (pu_enumX pu_var) pq_lb1_check_numbers_0)
def f_q_check_numbers_1 : SEnv → Fl := (fSeq (fSetO 1 (fLstO (fun _ => .ok []))) f_q_check_numbers_2)
theorem pq_q_check_numbers_1 : PuS q_check_numbers_1 f_q_check_numbers_1 := show PuS (dSeq (dSetO 1 (dLstO dNil))
    q_check_numbers_2) f_q_check_numbers_1 from (pu_seq (pu_setO (pu_lstO pu_nil)) pq_q_check_numbers_2)
def f_q_check_numbers_0 : SEnv → Fl := (fSeq (fIfF (fOrT (fNotT (fTest (fU (isiD (isTab tb_list)) (fVar 0)))) (fTest (fOp (eqL false) (fVar 0) (fLst (fun _ => .ok []))))) (fRaise 1 fn_NoScheme (fCons (fC (.str "numbers")) (fCons (fC .non) (fun _ => .ok [])))) Fl.nx) f_q_check_numbers_1)
theorem pq_q_check_numbers_0 : PuS q_check_numbers_0 f_q_check_numbers_0 := show PuS (dSeq (dIfS (dOrT (dNotT (dTest (dU (isiD (isTab tb_list)) (dVar 0)))) (dTest (dOp (eqL false) (dVar 0) (dLst dNil))))
    (dRaise 1 fn_NoScheme (dCons (dC (.str "numbers")) (dCons (dC .non) dNil)))
    dNext)
    q_check_numbers_1) f_q_check_numbers_0 from (pu_seq (pu_ifS (pu_orT (pu_notT (pu_test (pu_u pu_var))) (pu_test (pu_op pu_var (pu_lst pu_nil)))) (pu_raise (pu_cons pu_c (pu_cons pu_c pu_nil))) pu_next) pq_q_check_numbers_1)
def F_check_numbers : List D → R D := runF ["numbers", "names", "at", "number"] f_q_check_numbers_0
theorem pf_check_numbers : PuF S_check_numbers F_check_numbers := pu_def (t := q_check_numbers_0) pq_q_check_numbers_0
/-! is_cell -/
abbrev s_is_cell : Stmt := top 15
theorem sc_is_cell : FnScope ["thing", "places"] ["thing", "places"] (defScope s_is_cell) := ⟨rfl, rfl, rfl, by decide +kernel, rfl, by decide +kernel, by decide +kernel⟩
def q_is_cell_1 : DS := (dRet (dAnd (dCall S_is_whole (dCons (dOp ixA (dVar 0) (dC (.int 1))) dNil)) (dChain leA ltA (dC (.int 0)) (dOp ixA (dVar 0) (dC (.int 1))) (dOp ixA (dVar 1) (dOp ixA (dVar 0) (dC (.int 0)))))))
def q_is_cell_0 : DS := (dSeq (dIfS (dOrT (dNotT (dTest (dU (isiD (isTab tb_tuple)) (dVar 0)))) (dOrT (dTest (dOp (eqA true) (dFn lenD (dCons (dVar 0) dNil)) (dC (.int 2)))) (dOrT (dNotT (dTest (dU (isiD (isTab tb_str)) (dOp ixA (dVar 0) (dC (.int 0)))))) (dTest (dOp (inA true) (dOp ixA (dVar 0) (dC (.int 0))) (dVar 1))))))
    (dRet (dC (.bl false)))
    dNext)
    q_is_cell_1)
def t_is_cell : DS := q_is_cell_0
def S_is_cell : DSp := specOf ["thing", "places"] t_is_cell
theorem ok_is_cell {f : Addr} {fd : FuncData} (F : Fun K "is_cell" "is_cell" s_is_cell f fd) (M : Mg B P w K mg base) (h_is_whole : Fn B P w K mg base 1 "is_whole" 1 S_is_whole) : FnG P w K mg base 2 f fd ["thing", "places"] (spOf B K 2 S_is_cell) :=
  def_ok F sc_is_cell (fun cdv A outer s H E C => (wb_cons (ws_if (WW.wt (ww_or (wt_not (wt_val (we_isT M.is_tuple rfl M.b_tuple Boot.«tuple» rfl M.b_isinstance (wv 0)))) (ww_or (t_cmp (o_ne C) (e_len rfl M.b_len (wv 0)) we_int) (ww_or (wt_not (wt_val (we_isT M.is_str rfl M.b_str Boot.«str» rfl M.b_isinstance (e_ix C (wv 0) we_int)))) (ww_or1 (t_cmp (o_notin C) (e_ix C (wv 0) we_int) (wv 1)))))))
    (wb_one (ws_ret we_bl))
    wb_nil)
    (wb_one (ws_ret (we_and (we_call (h_is_whole.mono (by decide)) C rfl (wa_cons (e_ix C (wv 0) we_int) wa_nil)) (we_one (e_chain (o_leA C) (o_ltA C) we_int (e_ix C (wv 0) we_int) (e_ix C (wv 1) (e_ix C (wv 0) we_int))))))))) keeps_self
def f_q_is_cell_1 : SEnv → Fl := (fRet (fAnd (fCall F_is_whole (fCons (fOp ixA (fVar 0) (fC (.int 1))) (fun _ => .ok []))) (fChain leA ltA (fC (.int 0)) (fOp ixA (fVar 0) (fC (.int 1))) (fOp ixA (fVar 1) (fOp ixA (fVar 0) (fC (.int 0)))))))
theorem pq_q_is_cell_1 : PuS q_is_cell_1 f_q_is_cell_1 := show PuS (dRet (dAnd (dCall S_is_whole (dCons (dOp ixA (dVar 0) (dC (.int 1))) dNil)) (dChain leA ltA (dC (.int 0)) (dOp ixA (dVar 0) (dC (.int 1))) (dOp ixA (dVar 1) (dOp ixA (dVar 0) (dC (.int 0))))))) f_q_is_cell_1 from (pu_ret (pu_and (pu_call pf_is_whole (pu_cons (pu_op pu_var pu_c) pu_nil)) (pu_chain pu_c (pu_op pu_var pu_c) (pu_op pu_var (pu_op pu_var pu_c)))))
def f_q_is_cell_0 : SEnv → Fl := (fSeq (fIfF (fOrT (fNotT (fTest (fU (isiD (isTab tb_tuple)) (fVar 0)))) (fOrT (fTest (fOp (eqA true) (fFn lenD (fCons (fVar 0) (fun _ => .ok []))) (fC (.int 2)))) (fOrT (fNotT (fTest (fU (isiD (isTab tb_str)) (fOp ixA (fVar 0) (fC (.int 0)))))) (fTest (fOp (inA true) (fOp ixA (fVar 0) (fC (.int 0))) (fVar 1)))))) (fRet (fC (.bl false))) Fl.nx) f_q_is_cell_1)
theorem pq_q_is_cell_0 : PuS q_is_cell_0 f_q_is_cell_0 := show PuS (dSeq (dIfS (dOrT (dNotT (dTest (dU (isiD (isTab tb_tuple)) (dVar 0)))) (dOrT (dTest (dOp (eqA true) (dFn lenD (dCons (dVar 0) dNil)) (dC (.int 2)))) (dOrT (dNotT (dTest (dU (isiD (isTab tb_str)) (dOp ixA (dVar 0) (dC (.int 0)))))) (dTest (dOp (inA true) (dOp ixA (dVar 0) (dC (.int 0))) (dVar 1))))))
    (dRet (dC (.bl false)))
    dNext)
    q_is_cell_1) f_q_is_cell_0 from (pu_seq (pu_ifS (pu_orT (pu_notT (pu_test (pu_u pu_var))) (pu_orT (pu_test (pu_op (pu_fn (pu_cons pu_var pu_nil)) pu_c)) (pu_orT (pu_notT (pu_test (pu_u (pu_op pu_var pu_c)))) (pu_test (pu_op (pu_op pu_var pu_c) pu_var))))) (pu_ret pu_c) pu_next) pq_q_is_cell_1)
def F_is_cell : List D → R D := runF ["thing", "places"] f_q_is_cell_0
theorem pf_is_cell : PuF S_is_cell F_is_cell := pu_def (t := q_is_cell_0) pq_q_is_cell_0
/-! check_cells -/
abbrev s_check_cells : Stmt := top 16
theorem sc_check_cells : FnScope ["cells", "numbers", "places", "at", "cell", "name", "many", "kind", "place"] ["cells", "numbers"] (defScope s_check_cells) := ⟨rfl, rfl, rfl, by decide +kernel, rfl, by decide +kernel, by decide +kernel⟩
def lb1_check_cells_0 : DS := (dIfS (dOrT (dTest (dOp (eqA false) (dVar 3) (dC (.int 8)))) (dNotT (dTest (dCall S_is_cell (dCons (dVar 4) (dCons (dVar 2) dNil))))))
    (dRaise 1 fn_NoScheme (dCons (dC (.str "cells")) (dCons (dVar 3) dNil)))
    dNext)
def lb2_check_cells_0 : DS := (dIfS (dNotT (dTest (dFn allD (dCons (dLc (dRange1 (dVar 6)) (pN 8) dYes (dOp (inA false) (dTup (dCons (dVar 5) (dCons (dVar 8) dNil))) (dVar 0)) [8]) dNil))))
    (dRaise 1 fn_NoScheme (dCons (dC (.str "cells")) (dCons (dC .non) dNil)))
    dNext)
def q_check_cells_3 : DS := (dFor (dSeqI (dVar 1)) (gT [5, 6, 7])
    lb2_check_cells_0)
def q_check_cells_2 : DS := (dSeq (dFor (dEnumX (dVar 0)) (gT [3, 4])
    lb1_check_cells_0)
    q_check_cells_3)
def q_check_cells_1 : DS := (dSeq (dSet 2 (dDc (dSeqI (dVar 1)) (pT [5, 6, 7]) dYes (dVar 5) (dVar 6) [5, 6, 7]))
    q_check_cells_2)
def q_check_cells_0 : DS := (dSeq (dIfS (dOrT (dNotT (dTest (dU (isiD (isTab tb_list)) (dVar 0)))) (dTest (dOp (eqL false) (dVar 0) (dLst dNil))))
    (dRaise 1 fn_NoScheme (dCons (dC (.str "cells")) (dCons (dC .non) dNil)))
    dNext)
    q_check_cells_1)
def t_check_cells : DS := q_check_cells_0
def S_check_cells : DSp := specOf ["cells", "numbers", "places", "at", "cell", "name", "many", "kind", "place"] t_check_cells
theorem ok_check_cells {f : Addr} {fd : FuncData} (F : Fun K "check_cells" "check_cells" s_check_cells f fd) (M : Mg B P w K mg base) (h_is_cell : Fn B P w K mg base 2 "is_cell" 2 S_is_cell) : FnG P w K mg base 3 f fd ["cells", "numbers"] (spOf B K 2 S_check_cells) :=
  def_ok F sc_check_cells (fun cdv A outer s H E C => (wb_cons (ws_if (WW.wt (ww_or (wt_not (wt_val (we_isT M.is_list rfl M.b_list Boot.«list» rfl M.b_isinstance (wv 0)))) (ww_or1 (t_cmp (o_eqL C) (wv 0) (we_lst wa_nil)))))
    (wb_one (ws_raise M.x_NoScheme C (by decide) rfl (wa_cons we_str (wa_cons we_non wa_nil))))
    wb_nil)
    (wb_cons (ws_setDc C.calm sc_check_cells.nd rfl rfl rfl (wi_seq (wv 1)) (blk_ok (own := [("name", 5), ("many", 6), ("kind", 7)]) (by kernel_rfl)) (wp_tup (n := 3) C.calm (wps_cons (fun _ _ _ _ _ => pg_name sc_check_cells.nd rfl (by first | exact .inl rfl | exact .inr rfl)) (by decide) (wps_cons (fun _ _ _ _ _ => pg_name sc_check_cells.nd rfl (by first | exact .inl rfl | exact .inr rfl)) (by decide) (wps_cons (fun _ _ _ _ _ => pg_name sc_check_cells.nd rfl (by first | exact .inl rfl | exact .inr rfl)) (by decide) wps_nil)))) (fun _ _ _ _ _ => wts_nil) (fun _ _ _ _ _ => (wv 5)) (fun _ _ _ _ _ => (wv 6)))
    (wb_cons (ws_for (passes_of rfl) C.calm (wi_enumX rfl M.b_enumerate (wv 0)) (wg_tup (n := 2) C.calm (wgs_cons sc_check_cells.nd rfl (by first | exact .inl rfl | exact .inr rfl) (wgs_cons sc_check_cells.nd rfl (by first | exact .inl rfl | exact .inr rfl) wgs_nil)))
    (wb_one (ws_if (WW.wt (ww_or (t_cmp (o_eq C) (wv 3) (we_cc M.cc_Scheme_CELLS rfl)) (ww_or1 (wt_not (wt_val (we_call (h_is_cell.mono (by decide)) C rfl (wa_cons (wv 4) (wa_cons (wv 2) wa_nil))))))))
    (wb_one (ws_raise M.x_NoScheme C (by decide) rfl (wa_cons we_str (wa_cons (wv 3) wa_nil))))
    wb_nil)))
    (wb_one (ws_for (passes_of rfl) C.calm (wi_seq (wv 1)) (wg_tup (n := 3) C.calm (wgs_cons sc_check_cells.nd rfl (by first | exact .inl rfl | exact .inr rfl) (wgs_cons sc_check_cells.nd rfl (by first | exact .inl rfl | exact .inr rfl) (wgs_cons sc_check_cells.nd rfl (by first | exact .inl rfl | exact .inr rfl) wgs_nil))))
    (wb_one (ws_if (wt_not (wt_val (e_all C rfl M.b_all (we_lc C.calm sc_check_cells.nd (wi_range1 rfl M.b_range (wv 6)) (blk_ok (own := [("place", 8)]) (by kernel_rfl)) (wp_name (fun _ _ _ _ _ => pg_name sc_check_cells.nd rfl (by first | exact .inl rfl | exact .inr rfl)) (by decide)) (fun _ _ _ _ _ => wts_nil) (fun _ _ _ _ _ => (e_cmp (o_in C.blk) (we_tup (wa_cons (wv 5) (wa_cons (wv 8) wa_nil))) (wv 0)))))))
    (wb_one (ws_raise M.x_NoScheme C (by decide) rfl (wa_cons we_str (wa_cons we_non wa_nil))))
    wb_nil)))))))) keeps_self
def f_lb1_check_cells_0 : SEnv → Fl := (fIfF (fOrT (fTest (fOp (eqA false) (fVar 3) (fC (.int 8)))) (fNotT (fTest (fCall F_is_cell (fCons (fVar 4) (fCons (fVar 2) (fun _ => .ok []))))))) (fRaise 1 fn_NoScheme (fCons (fC (.str "cells")) (fCons (fVar 3) (fun _ => .ok [])))) Fl.nx)
theorem pq_lb1_check_cells_0 : PuS lb1_check_cells_0 f_lb1_check_cells_0 := show PuS (dIfS (dOrT (dTest (dOp (eqA false) (dVar 3) (dC (.int 8)))) (dNotT (dTest (dCall S_is_cell (dCons (dVar 4) (dCons (dVar 2) dNil))))))
    (dRaise 1 fn_NoScheme (dCons (dC (.str "cells")) (dCons (dVar 3) dNil)))
    dNext) f_lb1_check_cells_0 from (pu_ifS (pu_orT (pu_test (pu_op pu_var pu_c)) (pu_notT (pu_test (pu_call pf_is_cell (pu_cons pu_var (pu_cons pu_var pu_nil)))))) (pu_raise (pu_cons pu_c (pu_cons pu_var pu_nil))) pu_next)
def f_lb2_check_cells_0 : SEnv → Fl := (fIfF (fNotT (fTest (fFn allD (fCons (fLc (fRange1 (fVar 6)) (pN 8) (fun _ => .ok true) (fOp (inA false) (fTup (fCons (fVar 5) (fCons (fVar 8) (fun _ => .ok [])))) (fVar 0)) [8]) (fun _ => .ok []))))) (fRaise 1 fn_NoScheme (fCons (fC (.str "cells")) (fCons (fC .non) (fun _ => .ok [])))) Fl.nx)
theorem pq_lb2_check_cells_0 : PuS lb2_check_cells_0 f_lb2_check_cells_0 := show PuS (dIfS (dNotT (dTest (dFn allD (dCons (dLc (dRange1 (dVar 6)) (pN 8) dYes (dOp (inA false) (dTup (dCons (dVar 5) (dCons (dVar 8) dNil))) (dVar 0)) [8]) dNil))))
    (dRaise 1 fn_NoScheme (dCons (dC (.str "cells")) (dCons (dC .non) dNil)))
    dNext) f_lb2_check_cells_0 from (pu_ifS (pu_notT (pu_test (pu_fn (pu_cons (pu_lc (pu_range1 pu_var) pu_yes (pu_op (pu_tup (pu_cons pu_var (pu_cons pu_var pu_nil))) pu_var)) pu_nil)))) (pu_raise (pu_cons pu_c (pu_cons pu_c pu_nil))) pu_next)
def f_q_check_cells_3 : SEnv → Fl := (fFor (fSeqI (fVar 1)) (gT [5, 6, 7]) f_lb2_check_cells_0)
theorem pq_q_check_cells_3 : PuS q_check_cells_3 f_q_check_cells_3 := show PuS (dFor (dSeqI (dVar 1)) (gT [5, 6, 7])
    lb2_check_cells_0) f_q_check_cells_3 from (pu_for (pu_seqI pu_var) pq_lb2_check_cells_0)
def f_q_check_cells_2 : SEnv → Fl := (fSeq (fFor (fEnumX (fVar 0)) (gT [3, 4]) f_lb1_check_cells_0) f_q_check_cells_3)
theorem pq_q_check_cells_2 : PuS q_check_cells_2 f_q_check_cells_2 := show PuS (dSeq (dFor (dEnumX (dVar 0)) (gT [3, 4])
    lb1_check_cells_0)
    q_check_cells_3) f_q_check_cells_2 from (pu_seq (pu_for (pu_enumX pu_var) pq_lb1_check_cells_0) pq_q_check_cells_3)
def f_q_check_cells_1 : SEnv → Fl := (fSeq (fSet 2 (fDc (fSeqI (fVar 1)) (pT [5, 6, 7]) (fun _ => .ok true) (fVar 5) (fVar 6) [5, 6, 7])) f_q_check_cells_2)
theorem pq_q_check_cells_1 : PuS q_check_cells_1 f_q_check_cells_1 := show PuS (dSeq (dSet 2 (dDc (dSeqI (dVar 1)) (pT [5, 6, 7]) dYes (dVar 5) (dVar 6) [5, 6, 7]))
    q_check_cells_2) f_q_check_cells_1 from (pu_seq (pu_set (pu_dc (pu_seqI pu_var) pu_yes pu_var pu_var)) pq_q_check_cells_2)
def f_q_check_cells_0 : SEnv → Fl := (fSeq (fIfF (fOrT (fNotT (fTest (fU (isiD (isTab tb_list)) (fVar 0)))) (fTest (fOp (eqL false) (fVar 0) (fLst (fun _ => .ok []))))) (fRaise 1 fn_NoScheme (fCons (fC (.str "cells")) (fCons (fC .non) (fun _ => .ok [])))) Fl.nx) f_q_check_cells_1)
theorem pq_q_check_cells_0 : PuS q_check_cells_0 f_q_check_cells_0 := show PuS (dSeq (dIfS (dOrT (dNotT (dTest (dU (isiD (isTab tb_list)) (dVar 0)))) (dTest (dOp (eqL false) (dVar 0) (dLst dNil))))
    (dRaise 1 fn_NoScheme (dCons (dC (.str "cells")) (dCons (dC .non) dNil)))
    dNext)
    q_check_cells_1) f_q_check_cells_0 from (pu_seq (pu_ifS (pu_orT (pu_notT (pu_test (pu_u pu_var))) (pu_test (pu_op pu_var (pu_lst pu_nil)))) (pu_raise (pu_cons pu_c (pu_cons pu_c pu_nil))) pu_next) pq_q_check_cells_1)
def F_check_cells : List D → R D := runF ["cells", "numbers", "places", "at", "cell", "name", "many", "kind", "place"] f_q_check_cells_0
theorem pf_check_cells : PuF S_check_cells F_check_cells := pu_def (t := q_check_cells_0) pq_q_check_cells_0
/-! Scheme_init -/
abbrev s_Scheme_init : Stmt := meth (top 17) 2
theorem sc_Scheme_init : FnScope ["self", "numbers", "cells"] ["self", "numbers", "cells"] (defScope s_Scheme_init) := ⟨rfl, rfl, rfl, by decide +kernel, rfl, by decide +kernel, by decide +kernel⟩
def q_Scheme_init_3 : DS := (dSelf 0 "cells" [2] (dFn tupleD (dCons (dVar 2) dNil)))
def q_Scheme_init_2 : DS := (dSeq (dSelf 0 "numbers" [2] (dFn tupleD (dCons (dVar 1) dNil)))
    q_Scheme_init_3)
def q_Scheme_init_1 : DS := (dSeq (dDrop (dCall S_check_cells (dCons (dVar 2) (dCons (dVar 1) dNil))))
    q_Scheme_init_2)
def q_Scheme_init_0 : DS := (dSeq (dDrop (dCall S_check_numbers (dCons (dVar 1) dNil)))
    q_Scheme_init_1)
def t_Scheme_init : DS := q_Scheme_init_0
def S_Scheme_init : DIn := specIn ["numbers", "cells"] t_Scheme_init
theorem ok_Scheme_init {f : Addr} {fd : FuncData} (F : Fun K "__init__" "Scheme.__init__" s_Scheme_init f fd) (M : Mg B P w K mg base) (h_check_cells : Fn B P w K mg base 3 "check_cells" 2 S_check_cells) (h_check_numbers : Fn B P w K mg base 4 "check_numbers" 1 S_check_numbers) : FnG P w K mg base 5 f fd ["self", "numbers", "cells"] (spInit B K 2 (specIn ["numbers", "cells"] t_Scheme_init)) :=
  init_mk F sc_Scheme_init rfl (fun cdv A outer s H H₀ E C => (wb_cons (ws_expr (we_call (h_check_numbers.mono (by decide)) C rfl (wa_cons (wv 1) wa_nil)))
    (wb_cons (ws_expr (we_call (h_check_cells.mono (by decide)) C rfl (wa_cons (wv 2) (wa_cons (wv 1) wa_nil))))
    (wb_cons (ws_self M.at_numbers (pv 0) (e_tuple rfl M.b_tuple (wv 1)))
    (wb_one (ws_self M.at_cells (pv 0) (e_tuple rfl M.b_tuple (wv 2)))))))) rfl
def f_q_Scheme_init_3 : SEnv → Fl := (fSelf 0 "cells" [2] (fFn tupleD (fCons (fVar 2) (fun _ => .ok []))))
theorem pq_q_Scheme_init_3 : PuS q_Scheme_init_3 f_q_Scheme_init_3 := show PuS (dSelf 0 "cells" [2] (dFn tupleD (dCons (dVar 2) dNil))) f_q_Scheme_init_3 from (pu_self (pu_fn (pu_cons pu_var pu_nil)))
def f_q_Scheme_init_2 : SEnv → Fl := (fSeq (fSelf 0 "numbers" [2] (fFn tupleD (fCons (fVar 1) (fun _ => .ok [])))) f_q_Scheme_init_3)
theorem pq_q_Scheme_init_2 : PuS q_Scheme_init_2 f_q_Scheme_init_2 := show PuS (dSeq (dSelf 0 "numbers" [2] (dFn tupleD (dCons (dVar 1) dNil)))
    q_Scheme_init_3) f_q_Scheme_init_2 from (pu_seq (pu_self (pu_fn (pu_cons pu_var pu_nil))) pq_q_Scheme_init_3)
def f_q_Scheme_init_1 : SEnv → Fl := (fSeq (fDrop (fCall F_check_cells (fCons (fVar 2) (fCons (fVar 1) (fun _ => .ok []))))) f_q_Scheme_init_2)
theorem pq_q_Scheme_init_1 : PuS q_Scheme_init_1 f_q_Scheme_init_1 := show PuS (dSeq (dDrop (dCall S_check_cells (dCons (dVar 2) (dCons (dVar 1) dNil))))
    q_Scheme_init_2) f_q_Scheme_init_1 from (pu_seq (pu_drop (pu_call pf_check_cells (pu_cons pu_var (pu_cons pu_var pu_nil)))) pq_q_Scheme_init_2)
def f_q_Scheme_init_0 : SEnv → Fl := (fSeq (fDrop (fCall F_check_numbers (fCons (fVar 1) (fun _ => .ok [])))) f_q_Scheme_init_1)
theorem pq_q_Scheme_init_0 : PuS q_Scheme_init_0 f_q_Scheme_init_0 := show PuS (dSeq (dDrop (dCall S_check_numbers (dCons (dVar 1) dNil)))
    q_Scheme_init_1) f_q_Scheme_init_0 from (pu_seq (pu_drop (pu_call pf_check_numbers (pu_cons pu_var pu_nil))) pq_q_Scheme_init_1)
def F_Scheme_init : Nat → List (Str × D) → List D → R (List (Str × D)) := runIn ["numbers", "cells"] f_q_Scheme_init_0
theorem pf_Scheme_init : PuIn S_Scheme_init F_Scheme_init := pu_init (t := q_Scheme_init_0) pq_q_Scheme_init_0
/-! Scheme___eq__ -/
abbrev s_Scheme___eq__ : Stmt := meth (top 17) 8
theorem sc_Scheme___eq__ : FnScope ["self", "other"] ["self", "other"] (defScope s_Scheme___eq__) := ⟨rfl, rfl, rfl, by decide +kernel, rfl, by decide +kernel, by decide +kernel⟩
def q_Scheme___eq___0 : DS := (dRet (dAnd (dU (isiD (isTab tb_Scheme)) (dVar 1)) (dAnd (dOp (eqA false) (dU (attrD "numbers" [2] []) (dVar 0)) (dU (attrD "numbers" [2] []) (dVar 1))) (dOp (eqA false) (dU (attrD "cells" [2] []) (dVar 0)) (dU (attrD "cells" [2] []) (dVar 1))))))
def t_Scheme___eq__ : DS := q_Scheme___eq___0
def S_Scheme___eq__ : DSp := specOf ["self", "other"] t_Scheme___eq__
theorem ok_Scheme___eq__ {f : Addr} {fd : FuncData} (F : Fun K "__eq__" "Scheme.__eq__" s_Scheme___eq__ f fd) (M : Mg B P w K mg base)  : FnG P w K mg base 1 f fd ["self", "other"] (spOf B K 2 S_Scheme___eq__) :=
  def_ok F sc_Scheme___eq__ (fun cdv A outer s H E C => (wb_one (ws_ret (we_and (we_isC M.is_Scheme rfl M.n_Scheme rfl M.b_isinstance (wv 1)) (we_and (e_cmp (o_eq C) (we_attr M.at_numbers (wv 0)) (we_attr M.at_numbers (wv 1))) (we_one (e_cmp (o_eq C) (we_attr M.at_cells (wv 0)) (we_attr M.at_cells (wv 1))))))))) keeps_self
def f_q_Scheme___eq___0 : SEnv → Fl := (fRet (fAnd (fU (isiD (isTab tb_Scheme)) (fVar 1)) (fAnd (fOp (eqA false) (fU (attrD "numbers" [2] []) (fVar 0)) (fU (attrD "numbers" [2] []) (fVar 1))) (fOp (eqA false) (fU (attrD "cells" [2] []) (fVar 0)) (fU (attrD "cells" [2] []) (fVar 1))))))
theorem pq_q_Scheme___eq___0 : PuS q_Scheme___eq___0 f_q_Scheme___eq___0 := show PuS (dRet (dAnd (dU (isiD (isTab tb_Scheme)) (dVar 1)) (dAnd (dOp (eqA false) (dU (attrD "numbers" [2] []) (dVar 0)) (dU (attrD "numbers" [2] []) (dVar 1))) (dOp (eqA false) (dU (attrD "cells" [2] []) (dVar 0)) (dU (attrD "cells" [2] []) (dVar 1)))))) f_q_Scheme___eq___0 from (pu_ret (pu_and (pu_u pu_var) (pu_and (pu_op (pu_u pu_var) (pu_u pu_var)) (pu_op (pu_u pu_var) (pu_u pu_var)))))
def F_Scheme___eq__ : List D → R D := runF ["self", "other"] f_q_Scheme___eq___0
theorem pf_Scheme___eq__ : PuF S_Scheme___eq__ F_Scheme___eq__ := pu_def (t := q_Scheme___eq___0) pq_q_Scheme___eq___0
/-! Scheme___len__ -/
abbrev s_Scheme___len__ : Stmt := meth (top 17) 9
theorem sc_Scheme___len__ : FnScope ["self"] ["self"] (defScope s_Scheme___len__) := ⟨rfl, rfl, rfl, by decide +kernel, rfl, by decide +kernel, by decide +kernel⟩
def q_Scheme___len___0 : DS := (dRet (dFn lenD (dCons (dU (attrD "cells" [2] []) (dVar 0)) dNil)))
def t_Scheme___len__ : DS := q_Scheme___len___0
def S_Scheme___len__ : DSp := specOf ["self"] t_Scheme___len__
theorem ok_Scheme___len__ {f : Addr} {fd : FuncData} (F : Fun K "__len__" "Scheme.__len__" s_Scheme___len__ f fd) (M : Mg B P w K mg base)  : FnG P w K mg base 1 f fd ["self"] (spOf B K 1 S_Scheme___len__) :=
  def_ok F sc_Scheme___len__ (fun cdv A outer s H E C => (wb_one (ws_ret (e_len rfl M.b_len (we_attr M.at_cells (wv 0)))))) keeps_self
def f_q_Scheme___len___0 : SEnv → Fl := (fRet (fFn lenD (fCons (fU (attrD "cells" [2] []) (fVar 0)) (fun _ => .ok []))))
theorem pq_q_Scheme___len___0 : PuS q_Scheme___len___0 f_q_Scheme___len___0 := show PuS (dRet (dFn lenD (dCons (dU (attrD "cells" [2] []) (dVar 0)) dNil))) f_q_Scheme___len___0 from (pu_ret (pu_fn (pu_cons (pu_u pu_var) pu_nil)))
def F_Scheme___len__ : List D → R D := runF ["self"] f_q_Scheme___len___0
theorem pf_Scheme___len__ : PuF S_Scheme___len__ F_Scheme___len__ := pu_def (t := q_Scheme___len___0) pq_q_Scheme___len___0
/-! _law_pen -/
abbrev s__law_pen : Stmt := top 19
theorem sc__law_pen : FnScope ["_law_script", "_law_fold", "_law_cell"] ["_law_script"] (defScope s__law_pen) := ⟨rfl, rfl, rfl, by decide +kernel, rfl, by decide +kernel, by decide +kernel⟩
def lb1__law_pen_0 : DS := (dSet 1 (dOp modD (dFn intD (dCons (dOp addD (dOp addD (dOp mulD (dVar 1) (dC (.int 41203))) (dOp modD (dFn intD (dCons (dVar 2) dNil)) (dC (.int 2147483629)))) (dC (.int 5))) dNil)) (dC (.int 2147483629))))
def q__law_pen_2 : DS := (dRet (dPenNew (dPCons (dC (.str "cells")) (dFn listD (dCons (dSl (dVar 0) dNoPart (dPart (dC (.int 63)))) dNil)) (dPCons (dC (.str "at")) (dC (.int 0)) (dPCons (dC (.str "rest")) (dC (.int 0)) (dPCons (dC (.str "fold")) (dVar 1) dPNil))))))
def q__law_pen_1 : DS := (dSeq (dFor (dSeqI (dSl (dVar 0) dNoPart (dPart (dC (.int 63))))) (gN 2)
    lb1__law_pen_0)
    q__law_pen_2)
def q__law_pen_0 : DS := (dSeq (dSet 1 (dC (.int 97)))
    q__law_pen_1)
def t__law_pen : DS := q__law_pen_0
def S__law_pen : DSp := specOf ["_law_script", "_law_fold", "_law_cell"] t__law_pen
theorem ok__law_pen {f : Addr} {fd : FuncData} (F : Fun K "_law_pen" "_law_pen" s__law_pen f fd) (T : TbD B) (M : Mg B P w K mg base)  : FnG P w K mg base 1 f fd ["_law_script"] (spOf B K 1 S__law_pen) :=
  def_ok F sc__law_pen (fun cdv A outer s H E C => (wb_cons (ws_set sc__law_pen.nd rfl (by first | exact .inl rfl | exact .inr rfl) we_int)
    (wb_cons (ws_for (passes_of rfl) C.calm (wi_seq (we_sl (wv 0) wo_none (wo_some we_int))) (wg_name sc__law_pen.nd rfl (by first | exact .inl rfl | exact .inr rfl))
    (wb_one (ws_set sc__law_pen.nd rfl (by first | exact .inl rfl | exact .inr rfl) (e_mod (e_int rfl M.b_int (e_add (e_add (e_mul (wv 1) we_int) (e_mod (e_int rfl M.b_int (wv 2)) we_int)) we_int)) we_int))))
    (wb_one (ws_ret (we_penNew T (wp_cons we_str (e_list rfl M.b_list (we_sl (wv 0) wo_none (wo_some we_int))) (wp_cons we_str we_int (wp_cons we_str we_int (wp_cons we_str (wv 1) wp_nil)))))))))) keeps_self
def f_lb1__law_pen_0 : SEnv → Fl := (fSet 1 (fOp modD (fFn intD (fCons (fOp addD (fOp addD (fOp mulD (fVar 1) (fC (.int 41203))) (fOp modD (fFn intD (fCons (fVar 2) (fun _ => .ok []))) (fC (.int 2147483629)))) (fC (.int 5))) (fun _ => .ok []))) (fC (.int 2147483629))))
theorem pq_lb1__law_pen_0 : PuS lb1__law_pen_0 f_lb1__law_pen_0 := show PuS (dSet 1 (dOp modD (dFn intD (dCons (dOp addD (dOp addD (dOp mulD (dVar 1) (dC (.int 41203))) (dOp modD (dFn intD (dCons (dVar 2) dNil)) (dC (.int 2147483629)))) (dC (.int 5))) dNil)) (dC (.int 2147483629)))) f_lb1__law_pen_0 from (pu_set (pu_op (pu_fn (pu_cons (pu_op (pu_op (pu_op pu_var pu_c) (pu_op (pu_fn (pu_cons pu_var pu_nil)) pu_c)) pu_c) pu_nil)) pu_c))
def f_s_q__law_pen_0 : SEnv → Fl := (fSet 1 (fC (.int 97)))
theorem pq_s_q__law_pen_0 : PuS (dSet 1 (dC (.int 97))) f_s_q__law_pen_0 := show PuS (dSet 1 (dC (.int 97))) f_s_q__law_pen_0 from (pu_set pu_c)
def f_s_q__law_pen_1 : SEnv → Fl := (fFor (fSeqI (fSl (fVar 0) (fun _ => .ok none) (fPart (fC (.int 63))))) (gN 2) f_lb1__law_pen_0)
theorem pq_s_q__law_pen_1 : PuS (dFor (dSeqI (dSl (dVar 0) dNoPart (dPart (dC (.int 63))))) (gN 2)
    lb1__law_pen_0) f_s_q__law_pen_1 := show PuS (dFor (dSeqI (dSl (dVar 0) dNoPart (dPart (dC (.int 63))))) (gN 2)
    lb1__law_pen_0) f_s_q__law_pen_1 from (pu_for (pu_seqI (pu_sl pu_var pu_noPart (pu_part pu_c))) pq_lb1__law_pen_0)
/-! _law_take -/
abbrev s__law_take : Stmt := top 20
theorem sc__law_take : FnScope ["_law_pen_here", "_law_many", "_law_at", "_law_cell", "_law_mixed", "_law_digit", "_law_great"] ["_law_pen_here", "_law_many"] (defScope s__law_take) := ⟨rfl, rfl, rfl, by decide +kernel, rfl, by decide +kernel, by decide +kernel⟩
def q__law_take_8 : DS := (dRet (dOp modD (dFn intD (dCons (dOp fdivD (dVar 4) (dC (.int 64))) dNil)) (dVar 1)))
def q__law_take_7 : DS := (dSeq (dSet 4 (dOp modD (dFn intD (dCons (dOp powD (dOp addD (dOp addD (dVar 4) (dOp mulD (dOp mulD (dC (.int 30011)) (dVar 2)) (dVar 2))) (dOp fdivD (dFn intD (dCons (dPenK "fold" (dVar 0)) dNil)) (dC (.int 3)))) (dC (.int 3))) dNil)) (dC (.int 2147483587))))
    q__law_take_8)
def q__law_take_6 : DS := (dSeq (dSet 4 (dOp modD (dFn intD (dCons (dOp powD (dOp addD (dOp addD (dOp modD (dFn intD (dCons (dVar 3) dNil)) (dC (.int 2147483563))) (dFn intD (dCons (dPenK "fold" (dVar 0)) dNil))) (dOp mulD (dC (.int 70001)) (dVar 2))) (dC (.int 3))) dNil)) (dC (.int 2147483647))))
    q__law_take_7)
def q__law_take_5 : DS := (dSeq (dIfS (dTest (dOp geA (dFn absD (dCons (dVar 3) dNil)) (dOp powD (dC (.int 10)) (dC (.int 18)))))
    (dSeq (dSet 6 (dOp addD (dOp mulD (dC (.int 2)) (dFn absD (dCons (dVar 3) dNil))) (dFn intD (dCons (dOp ltA (dVar 3) (dC (.int 0))) dNil))))
    (dSeq (dPutRest 0 (dOp fdivD (dFn intD (dCons (dVar 6) dNil)) (dVar 1)))
    (dRet (dOp modD (dFn intD (dCons (dVar 6) dNil)) (dVar 1)))))
    dNext)
    q__law_take_6)
def q__law_take_4 : DS := (dSeq (dIfS (dTest (dOp ltA (dVar 2) (dFn lenD (dCons (dPenK "cells" (dVar 0)) dNil))))
    (dSet 3 (dOp ixA (dPenK "cells" (dVar 0)) (dVar 2)))
    dNext)
    q__law_take_5)
def q__law_take_3 : DS := (dSeq (dSet 3 (dC (.int 0)))
    q__law_take_4)
def q__law_take_2 : DS := (dSeq (dPutAt 0 (dOp addD (dVar 2) (dC (.int 1))))
    q__law_take_3)
def q__law_take_1 : DS := (dSeq (dSet 2 (dPenK "at" (dVar 0)))
    q__law_take_2)
def q__law_take_0 : DS := (dSeq (dIfS (dTest (dOp gtA (dPenK "rest" (dVar 0)) (dC (.int 0))))
    (dSeq (dSet 5 (dOp modD (dFn intD (dCons (dPenK "rest" (dVar 0)) dNil)) (dVar 1)))
    (dSeq (dPutRest 0 (dOp fdivD (dFn intD (dCons (dPenK "rest" (dVar 0)) dNil)) (dVar 1)))
    (dRet (dVar 5))))
    dNext)
    q__law_take_1)
def t__law_take : DS := q__law_take_0
def S__law_take : DSp := specOf ["_law_pen_here", "_law_many", "_law_at", "_law_cell", "_law_mixed", "_law_digit", "_law_great"] t__law_take
theorem ok__law_take {f : Addr} {fd : FuncData} (F : Fun K "_law_take" "_law_take" s__law_take f fd) (T : TbD B) (M : Mg B P w K mg base)  : FnG P w K mg base 1 f fd ["_law_pen_here", "_law_many"] (spOf B K 2 S__law_take) :=
  def_ok F sc__law_take (fun cdv A outer s H E C => (wb_cons (ws_if (t_cmp (o_gtA C) (we_penK T C.u1 (by decide) (wv 0)) we_int)
    (wb_cons (ws_set sc__law_take.nd rfl (by first | exact .inl rfl | exact .inr rfl) (e_mod (e_int rfl M.b_int (we_penK T C.u1 (by decide) (wv 0))) (wv 1)))
    (wb_cons (ws_penRest T C.u1 (pv 0) (e_fdiv (e_int rfl M.b_int (we_penK T C.u1 (by decide) (wv 0))) (wv 1)))
    (wb_one (ws_ret (wv 5)))))
    wb_nil)
    (wb_cons (ws_set sc__law_take.nd rfl (by first | exact .inl rfl | exact .inr rfl) (we_penK T C.u1 (by decide) (wv 0)))
    (wb_cons (ws_penAt T C.u1 (pv 0) (e_add (wv 2) we_int))
    (wb_cons (ws_set sc__law_take.nd rfl (by first | exact .inl rfl | exact .inr rfl) we_int)
    (wb_cons (ws_if (t_cmp (o_ltA C) (wv 2) (e_len rfl M.b_len (we_penK T C.u1 (by decide) (wv 0))))
    (wb_one (ws_set sc__law_take.nd rfl (by first | exact .inl rfl | exact .inr rfl) (e_ix C (we_penK T C.u1 (by decide) (wv 0)) (wv 2))))
    wb_nil)
    (wb_cons (ws_if (t_cmp (o_geA C) (e_abs rfl M.b_abs (wv 3)) (e_pow we_int we_int))
    (wb_cons (ws_set sc__law_take.nd rfl (by first | exact .inl rfl | exact .inr rfl) (e_add (e_mul we_int (e_abs rfl M.b_abs (wv 3))) (e_int rfl M.b_int (e_cmp (o_ltA C) (wv 3) we_int))))
    (wb_cons (ws_penRest T C.u1 (pv 0) (e_fdiv (e_int rfl M.b_int (wv 6)) (wv 1)))
    (wb_one (ws_ret (e_mod (e_int rfl M.b_int (wv 6)) (wv 1))))))
    wb_nil)
    (wb_cons (ws_set sc__law_take.nd rfl (by first | exact .inl rfl | exact .inr rfl) (e_mod (e_int rfl M.b_int (e_pow (e_add (e_add (e_mod (e_int rfl M.b_int (wv 3)) we_int) (e_int rfl M.b_int (we_penK T C.u1 (by decide) (wv 0)))) (e_mul we_int (wv 2))) we_int)) we_int))
    (wb_cons (ws_set sc__law_take.nd rfl (by first | exact .inl rfl | exact .inr rfl) (e_mod (e_int rfl M.b_int (e_pow (e_add (e_add (wv 4) (e_mul (e_mul we_int (wv 2)) (wv 2))) (e_fdiv (e_int rfl M.b_int (we_penK T C.u1 (by decide) (wv 0))) we_int)) we_int)) we_int))
    (wb_one (ws_ret (e_mod (e_int rfl M.b_int (e_fdiv (wv 4) we_int)) (wv 1))))))))))))) keeps_self
def f_q__law_take_8 : SEnv → Fl := (fRet (fOp modD (fFn intD (fCons (fOp fdivD (fVar 4) (fC (.int 64))) (fun _ => .ok []))) (fVar 1)))
theorem pq_q__law_take_8 : PuS q__law_take_8 f_q__law_take_8 := show PuS (dRet (dOp modD (dFn intD (dCons (dOp fdivD (dVar 4) (dC (.int 64))) dNil)) (dVar 1))) f_q__law_take_8 from (pu_ret (pu_op (pu_fn (pu_cons (pu_op pu_var pu_c) pu_nil)) pu_var))
def f_s_q__law_take_3 : SEnv → Fl := (fSet 3 (fC (.int 0)))
theorem pq_s_q__law_take_3 : PuS (dSet 3 (dC (.int 0))) f_s_q__law_take_3 := show PuS (dSet 3 (dC (.int 0))) f_s_q__law_take_3 from (pu_set pu_c)
/-! _law_names -/
abbrev s__law_names : Stmt := top 21
theorem sc__law_names : FnScope ["_law_pen_here", "_law_wanted", "_law_letters", "_law_base", "_law_spot", "_law_first", "_law_k"] ["_law_pen_here", "_law_wanted"] (defScope s__law_names) := ⟨rfl, rfl, rfl, by decide +kernel, rfl, by decide +kernel, by decide +kernel⟩
def q__law_names_4 : DS := (dRet (dLc (dRange1 (dVar 1)) (pN 6) dYes (dOp addD (dOp addD (dSl (dVar 3) dNoPart (dPart (dVar 4))) (dOp ixA (dVar 2) (dOp modD (dFn intD (dCons (dOp addD (dVar 5) (dOp mulD (dC (.int 5)) (dVar 6))) dNil)) (dC (.int 26))))) (dSl (dVar 3) (dPart (dVar 4)) dNoPart)) [6]))
def q__law_names_3 : DS := (dSeq (dSet 5 (dCall S__law_take (dCons (dVar 0) (dCons (dC (.int 26)) dNil))))
    q__law_names_4)
def q__law_names_2 : DS := (dSeq (dSet 4 (dCall S__law_take (dCons (dVar 0) (dCons (dOp addD (dFn lenD (dCons (dVar 3) dNil)) (dC (.int 1))) dNil))))
    q__law_names_3)
def q__law_names_1 : DS := (dSeq (dSet 3 (dM isSt joinD (dC (.str "")) (dLc (dRange1 (dOp ixA (dLst (dCons (dC (.int 0)) (dCons (dC (.int 1)) (dCons (dC (.int 2)) (dCons (dC (.int 11)) dNil))))) (dCall S__law_take (dCons (dVar 0) (dCons (dC (.int 4)) dNil))))) (pN 6) dYes (dOp ixA (dVar 2) (dCall S__law_take (dCons (dVar 0) (dCons (dC (.int 26)) dNil)))) [6])))
    q__law_names_2)
def q__law_names_0 : DS := (dSeq (dSet 2 (dC (.str "abcdefghijklmnopqrstuvwxyz")))
    q__law_names_1)
def t__law_names : DS := q__law_names_0
def S__law_names : DSp := specOf ["_law_pen_here", "_law_wanted", "_law_letters", "_law_base", "_law_spot", "_law_first", "_law_k"] t__law_names
theorem ok__law_names {f : Addr} {fd : FuncData} (F : Fun K "_law_names" "_law_names" s__law_names f fd) (M : Mg B P w K mg base) (h__law_take : Fn B P w K mg base 1 "_law_take" 2 S__law_take) : FnG P w K mg base 2 f fd ["_law_pen_here", "_law_wanted"] (spOf B K 2 S__law_names) :=
  def_ok F sc__law_names (fun cdv A outer s H E C => (wb_cons (ws_set sc__law_names.nd rfl (by first | exact .inl rfl | exact .inr rfl) we_str)
    (wb_cons (ws_set sc__law_names.nd rfl (by first | exact .inl rfl | exact .inr rfl) (we_join we_str (we_lc C.calm sc__law_names.nd (wi_range1 rfl M.b_range (e_ix C (we_lst (wa_cons we_int (wa_cons we_int (wa_cons we_int (wa_cons we_int wa_nil))))) (we_call (h__law_take.mono (by decide)) C rfl (wa_cons (wv 0) (wa_cons we_int wa_nil))))) (blk_ok (own := [("_law_k", 6)]) (by kernel_rfl)) (wp_name (fun _ _ _ _ _ => pg_name sc__law_names.nd rfl (by first | exact .inl rfl | exact .inr rfl)) (by decide)) (fun _ _ _ _ _ => wts_nil) (fun _ _ _ _ _ => (e_ix C.blk (wv 2) (we_call (h__law_take.mono (by decide)) C.blk rfl (wa_cons (wv 0) (wa_cons we_int wa_nil))))))))
    (wb_cons (ws_set sc__law_names.nd rfl (by first | exact .inl rfl | exact .inr rfl) (we_call (h__law_take.mono (by decide)) C rfl (wa_cons (wv 0) (wa_cons (e_add (e_len rfl M.b_len (wv 3)) we_int) wa_nil))))
    (wb_cons (ws_set sc__law_names.nd rfl (by first | exact .inl rfl | exact .inr rfl) (we_call (h__law_take.mono (by decide)) C rfl (wa_cons (wv 0) (wa_cons we_int wa_nil))))
    (wb_one (ws_ret (we_lc C.calm sc__law_names.nd (wi_range1 rfl M.b_range (wv 1)) (blk_ok (own := [("_law_k", 6)]) (by kernel_rfl)) (wp_name (fun _ _ _ _ _ => pg_name sc__law_names.nd rfl (by first | exact .inl rfl | exact .inr rfl)) (by decide)) (fun _ _ _ _ _ => wts_nil) (fun _ _ _ _ _ => (e_add (e_add (we_sl (wv 3) wo_none (wo_some (wv 4))) (e_ix C.blk (wv 2) (e_mod (e_int rfl M.b_int (e_add (wv 5) (e_mul we_int (wv 6)))) we_int))) (we_sl (wv 3) (wo_some (wv 4)) wo_none))))))))))) keeps_self
def f_q__law_names_4 : SEnv → Fl := (fRet (fLc (fRange1 (fVar 1)) (pN 6) (fun _ => .ok true) (fOp addD (fOp addD (fSl (fVar 3) (fun _ => .ok none) (fPart (fVar 4))) (fOp ixA (fVar 2) (fOp modD (fFn intD (fCons (fOp addD (fVar 5) (fOp mulD (fC (.int 5)) (fVar 6))) (fun _ => .ok []))) (fC (.int 26))))) (fSl (fVar 3) (fPart (fVar 4)) (fun _ => .ok none))) [6]))
theorem pq_q__law_names_4 : PuS q__law_names_4 f_q__law_names_4 := show PuS (dRet (dLc (dRange1 (dVar 1)) (pN 6) dYes (dOp addD (dOp addD (dSl (dVar 3) dNoPart (dPart (dVar 4))) (dOp ixA (dVar 2) (dOp modD (dFn intD (dCons (dOp addD (dVar 5) (dOp mulD (dC (.int 5)) (dVar 6))) dNil)) (dC (.int 26))))) (dSl (dVar 3) (dPart (dVar 4)) dNoPart)) [6])) f_q__law_names_4 from (pu_ret (pu_lc (pu_range1 pu_var) pu_yes (pu_op (pu_op (pu_sl pu_var pu_noPart (pu_part pu_var)) (pu_op pu_var (pu_op (pu_fn (pu_cons (pu_op pu_var (pu_op pu_c pu_var)) pu_nil)) pu_c))) (pu_sl pu_var (pu_part pu_var) pu_noPart))))
def f_s_q__law_names_0 : SEnv → Fl := (fSet 2 (fC (.str "abcdefghijklmnopqrstuvwxyz")))
theorem pq_s_q__law_names_0 : PuS (dSet 2 (dC (.str "abcdefghijklmnopqrstuvwxyz"))) f_s_q__law_names_0 := show PuS (dSet 2 (dC (.str "abcdefghijklmnopqrstuvwxyz"))) f_s_q__law_names_0 from (pu_set pu_c)
/-! _law_numbers -/
abbrev s__law_numbers : Stmt := top 22
theorem sc__law_numbers : FnScope ["_law_pen_here", "_law_room", "_law_names_here", "_law_found", "_law_left", "_law_k", "_law_size"] ["_law_pen_here", "_law_room"] (defScope s__law_numbers) := ⟨rfl, rfl, rfl, by decide +kernel, rfl, by decide +kernel, by decide +kernel⟩
def lb1__law_numbers_0 : DS := (dIfS (dTest (dOp gtA (dVar 4) (dC (.int 0))))
    (dSeq (dSet 6 (dOp addD (dC (.int 1)) (dCall S__law_take (dCons (dVar 0) (dCons (dFn min2D (dCons (dC (.int 4)) (dCons (dFn intD (dCons (dVar 4) dNil)) dNil))) dNil)))))
    (dSeq (dSet 4 (dOp subD (dVar 4) (dVar 6)))
    (dAppend 3 (dTup (dCons (dOp ixA (dVar 2) (dVar 5)) (dCons (dVar 6) (dCons (dOp ixA (dLst (dCons (dC (.str "strict")) (dCons (dC (.str "weak")) (dCons (dC (.str "free")) dNil)))) (dCall S__law_take (dCons (dVar 0) (dCons (dC (.int 3)) dNil)))) dNil)))))))
    dNext)
def q__law_numbers_4 : DS := (dRetO 3)
def q__law_numbers_3 : DS := (dSeq (dFor (dRange1 (dOp addD (dC (.int 1)) (dCall S__law_take (dCons (dVar 0) (dCons (dC (.int 3)) dNil))))) (gN 5)
    lb1__law_numbers_0)
    q__law_numbers_4)
def q__law_numbers_2 : DS := (dSeq (dSet 4 (dVar 1))
    q__law_numbers_3)
def q__law_numbers_1 : DS := (dSeq (dSetO 3 (dLstO dNil))
    q__law_numbers_2)
def q__law_numbers_0 : DS := (dSeq (dSet 2 (dCall S__law_names (dCons (dVar 0) (dCons (dC (.int 3)) dNil))))
    q__law_numbers_1)
def t__law_numbers : DS := q__law_numbers_0
def S__law_numbers : DSp := specOf ["_law_pen_here", "_law_room", "_law_names_here", "_law_found", "_law_left", "_law_k", "_law_size"] t__law_numbers
theorem ok__law_numbers {f : Addr} {fd : FuncData} (F : Fun K "_law_numbers" "_law_numbers" s__law_numbers f fd) (M : Mg B P w K mg base) (h__law_names : Fn B P w K mg base 2 "_law_names" 2 S__law_names) (h__law_take : Fn B P w K mg base 1 "_law_take" 2 S__law_take) : FnG P w K mg base 3 f fd ["_law_pen_here", "_law_room"] (spOf B K 2 S__law_numbers) :=
  def_ok F sc__law_numbers (fun cdv A outer s H E C => (wb_cons (ws_set sc__law_numbers.nd rfl (by first | exact .inl rfl | exact .inr rfl) (we_call (h__law_names.mono (by decide)) C rfl (wa_cons (wv 0) (wa_cons we_int wa_nil))))
    (wb_cons (ws_setO sc__law_numbers.nd rfl (by first | exact .inl rfl | exact .inr rfl) (wl_lst wa_nil))
    (wb_cons (ws_set sc__law_numbers.nd rfl (by first | exact .inl rfl | exact .inr rfl) (wv 1))
    (wb_cons (ws_for (passes_of rfl) C.calm (wi_range1 rfl M.b_range (e_add we_int (we_call (h__law_take.mono (by decide)) C rfl (wa_cons (wv 0) (wa_cons we_int wa_nil))))) (wg_name sc__law_numbers.nd rfl (by first | exact .inl rfl | exact .inr rfl))
    (wb_one (ws_if (t_cmp (o_gtA C) (wv 4) we_int)
    (wb_cons (ws_set sc__law_numbers.nd rfl (by first | exact .inl rfl | exact .inr rfl) (e_add we_int (we_call (h__law_take.mono (by decide)) C rfl (wa_cons (wv 0) (wa_cons (e_min C rfl M.b_min we_int (e_int rfl M.b_int (wv 4))) wa_nil)))))
    (wb_cons (ws_set sc__law_numbers.nd rfl (by first | exact .inl rfl | exact .inr rfl) (e_sub (wv 4) (wv 6)))
    (wb_one (ws_append (pv 3) (we_tup (wa_cons (e_ix C (wv 2) (wv 5)) (wa_cons (wv 6) (wa_cons (e_ix C (we_lst (wa_cons we_str (wa_cons we_str (wa_cons we_str wa_nil)))) (we_call (h__law_take.mono (by decide)) C rfl (wa_cons (wv 0) (wa_cons we_int wa_nil)))) wa_nil))))))))
    wb_nil)))
    (wb_one (ws_retO (pv 3)))))))) keeps_self
def f_q__law_numbers_4 : SEnv → Fl := (fRetO 3)
theorem pq_q__law_numbers_4 : PuS q__law_numbers_4 f_q__law_numbers_4 := show PuS (dRetO 3) f_q__law_numbers_4 from pu_retO
def f_s_q__law_numbers_1 : SEnv → Fl := (fSetO 3 (fLstO (fun _ => .ok [])))
theorem pq_s_q__law_numbers_1 : PuS (dSetO 3 (dLstO dNil)) f_s_q__law_numbers_1 := show PuS (dSetO 3 (dLstO dNil)) f_s_q__law_numbers_1 from (pu_setO (pu_lstO pu_nil))
def f_s_q__law_numbers_2 : SEnv → Fl := (fSet 4 (fVar 1))
theorem pq_s_q__law_numbers_2 : PuS (dSet 4 (dVar 1)) f_s_q__law_numbers_2 := show PuS (dSet 4 (dVar 1)) f_s_q__law_numbers_2 from (pu_set pu_var)
/-! _law_cells -/
abbrev s__law_cells : Stmt := top 23
theorem sc__law_cells : FnScope ["_law_pen_here", "_law_numbers_here", "_law_most", "_law_left", "_law_places", "_law_k", "_law_found", "_law_name", "_law_size", "_law_kind", "_law_place"] ["_law_pen_here", "_law_numbers_here", "_law_most"] (defScope s__law_cells) := ⟨rfl, rfl, rfl, by decide +kernel, rfl, by decide +kernel, by decide +kernel⟩
def lb1__law_cells_0 : DS := (dFreeze 3 (dSetO 3 (dCatO (dVar 3) (dLc (dRange1 (dVar 8)) (pN 10) dYes (dTup (dCons (dVar 7) (dCons (dVar 10) dNil))) [10]))))
def lb2__law_cells_0 : DS := (dAppend 3 (dOp ixA (dVar 4) (dCall S__law_take (dCons (dVar 0) (dCons (dFn lenD (dCons (dVar 4) dNil)) dNil)))))
def lb3__law_cells_0 : DS := (dMove 6 3 (dCall S__law_take (dCons (dVar 0) (dCons (dFn lenD (dCons (dVar 3) dNil)) dNil))))
def q__law_cells_6 : DS := (dRetO 6)
def q__law_cells_5 : DS := (dSeq (dWhileS (dTest (dOp (eqA true) (dVar 3) (dLst dNil)))
    lb3__law_cells_0)
    q__law_cells_6)
def q__law_cells_4 : DS := (dSeq (dSetO 6 (dLstO dNil))
    q__law_cells_5)
def q__law_cells_3 : DS := (dSeq (dFreeze 4 (dForR (dwS (dCall S__law_take (dCons (dVar 0) (dCons (dOp subD (dOp addD (dC (.int 1)) (dVar 2)) (dFn lenD (dCons (dVar 3) dNil))) dNil)))) (gN 5)
    lb2__law_cells_0))
    q__law_cells_4)
def q__law_cells_2 : DS := (dSeq (dSetOS 4 (dListO (dVar 3)))
    q__law_cells_3)
def q__law_cells_1 : DS := (dSeq (dFor (dSeqI (dVar 1)) (gT [7, 8, 9])
    lb1__law_cells_0)
    q__law_cells_2)
def q__law_cells_0 : DS := (dSeq (dSetO 3 (dLstO dNil))
    q__law_cells_1)
def t__law_cells : DS := q__law_cells_0
def S__law_cells : DSp := specOf ["_law_pen_here", "_law_numbers_here", "_law_most", "_law_left", "_law_places", "_law_k", "_law_found", "_law_name", "_law_size", "_law_kind", "_law_place"] t__law_cells
theorem ok__law_cells {f : Addr} {fd : FuncData} (F : Fun K "_law_cells" "_law_cells" s__law_cells f fd) (M : Mg B P w K mg base) (h__law_take : Fn B P w K mg base 1 "_law_take" 2 S__law_take) : FnG P w K mg base 2 f fd ["_law_pen_here", "_law_numbers_here", "_law_most"] (spOf B K 3 S__law_cells) :=
  def_ok F sc__law_cells (fun cdv A outer s H E C => (wb_cons (ws_setO sc__law_cells.nd rfl (by first | exact .inl rfl | exact .inr rfl) (wl_lst wa_nil))
    (wb_cons (ws_for (passes_of rfl) C.calm (wi_seq (wv 1)) (wg_tup (n := 3) C.calm (wgs_cons sc__law_cells.nd rfl (by first | exact .inl rfl | exact .inr rfl) (wgs_cons sc__law_cells.nd rfl (by first | exact .inl rfl | exact .inr rfl) (wgs_cons sc__law_cells.nd rfl (by first | exact .inl rfl | exact .inr rfl) wgs_nil))))
    (wb_one (ws_freeze (i := 3) (ws_setO sc__law_cells.nd rfl (by first | exact .inl rfl | exact .inr rfl) (wl_cat (wv 3) (we_lc C.calm sc__law_cells.nd (wi_range1 rfl M.b_range (wv 8)) (blk_ok (own := [("_law_place", 10)]) (by kernel_rfl)) (wp_name (fun _ _ _ _ _ => pg_name sc__law_cells.nd rfl (by first | exact .inl rfl | exact .inr rfl)) (by decide)) (fun _ _ _ _ _ => wts_nil) (fun _ _ _ _ _ => (we_tup (wa_cons (wv 7) (wa_cons (wv 10) wa_nil))))))))))
    (wb_cons (ws_setOS sc__law_cells.nd rfl (by first | exact .inl rfl | exact .inr rfl) (wl_list rfl M.b_list Boot.«list» (wv 3)))
    (wb_cons (ws_freeze (i := 4) (ws_forR (passes_of rfl) C.calm rfl M.b_range (weo_snap (we_call (h__law_take.mono (by decide)) C rfl (wa_cons (wv 0) (wa_cons (e_sub (e_add we_int (wv 2)) (e_len rfl M.b_len (wv 3))) wa_nil)))) (wg_name sc__law_cells.nd rfl (by first | exact .inl rfl | exact .inr rfl))
    (wb_one (ws_append (pv 3) (e_ix C (wv 4) (we_call (h__law_take.mono (by decide)) C rfl (wa_cons (wv 0) (wa_cons (e_len rfl M.b_len (wv 4)) wa_nil))))))))
    (wb_cons (ws_setO sc__law_cells.nd rfl (by first | exact .inl rfl | exact .inr rfl) (wl_lst wa_nil))
    (wb_cons (ws_whileS (passes_of rfl) (t_cmp (o_ne C) (wv 3) (we_lst wa_nil))
    (wb_one (ws_move (pv 6) (pv 3) (we_call (h__law_take.mono (by decide)) C rfl (wa_cons (wv 0) (wa_cons (e_len rfl M.b_len (wv 3)) wa_nil))))))
    (wb_one (ws_retO (pv 6)))))))))) keeps_self
def f_lb1__law_cells_0 : SEnv → Fl := (fFreeze 3 (fSetO 3 (fCatO (fVar 3) (fLc (fRange1 (fVar 8)) (pN 10) (fun _ => .ok true) (fTup (fCons (fVar 7) (fCons (fVar 10) (fun _ => .ok [])))) [10]))))
theorem pq_lb1__law_cells_0 : PuS lb1__law_cells_0 f_lb1__law_cells_0 := show PuS (dFreeze 3 (dSetO 3 (dCatO (dVar 3) (dLc (dRange1 (dVar 8)) (pN 10) dYes (dTup (dCons (dVar 7) (dCons (dVar 10) dNil))) [10])))) f_lb1__law_cells_0 from (pu_freeze (pu_setO (pu_catO pu_var (pu_lc (pu_range1 pu_var) pu_yes (pu_tup (pu_cons pu_var (pu_cons pu_var pu_nil)))))))
def f_q__law_cells_6 : SEnv → Fl := (fRetO 6)
theorem pq_q__law_cells_6 : PuS q__law_cells_6 f_q__law_cells_6 := show PuS (dRetO 6) f_q__law_cells_6 from pu_retO
def f_s_q__law_cells_0 : SEnv → Fl := (fSetO 3 (fLstO (fun _ => .ok [])))
theorem pq_s_q__law_cells_0 : PuS (dSetO 3 (dLstO dNil)) f_s_q__law_cells_0 := show PuS (dSetO 3 (dLstO dNil)) f_s_q__law_cells_0 from (pu_setO (pu_lstO pu_nil))
def f_s_q__law_cells_1 : SEnv → Fl := (fFor (fSeqI (fVar 1)) (gT [7, 8, 9]) f_lb1__law_cells_0)
theorem pq_s_q__law_cells_1 : PuS (dFor (dSeqI (dVar 1)) (gT [7, 8, 9])
    lb1__law_cells_0) f_s_q__law_cells_1 := show PuS (dFor (dSeqI (dVar 1)) (gT [7, 8, 9])
    lb1__law_cells_0) f_s_q__law_cells_1 from (pu_for (pu_seqI pu_var) pq_lb1__law_cells_0)
def f_s_q__law_cells_2 : SEnv → Fl := (fSetOS 4 (fListO (fVar 3)))
theorem pq_s_q__law_cells_2 : PuS (dSetOS 4 (dListO (dVar 3))) f_s_q__law_cells_2 := show PuS (dSetOS 4 (dListO (dVar 3))) f_s_q__law_cells_2 from (pu_setOS (pu_listO pu_var))
def f_s_q__law_cells_4 : SEnv → Fl := (fSetO 6 (fLstO (fun _ => .ok [])))
theorem pq_s_q__law_cells_4 : PuS (dSetO 6 (dLstO dNil)) f_s_q__law_cells_4 := show PuS (dSetO 6 (dLstO dNil)) f_s_q__law_cells_4 from (pu_setO (pu_lstO pu_nil))
/-! _law_made -/
abbrev s__law_made : Stmt := top 24
theorem sc__law_made : FnScope ["_law_numbers_here", "_law_cells_here", "_law_caught", "_law_found", "e"] ["_law_numbers_here", "_law_cells_here"] (defScope s__law_made) := ⟨rfl, rfl, rfl, by decide +kernel, rfl, by decide +kernel, by decide +kernel⟩
def q__law_made_4 : DS := (dRet (dIf (dTest (dU (isiD (isTab tb_NoScheme)) (dVar 2))) (dTup (dCons (dU (attrD "part" [] [1]) (dVar 2)) (dCons (dU (attrD "at" [] [1]) (dVar 2)) dNil))) (dC (.str "odd"))))
def q__law_made_3 : DS := (dSeq (dIfS (dTest (dOp (isND false) (dVar 2) (dC .non)))
    (dRet (dLst (dCons (dVar 3) dNil)))
    dNext)
    q__law_made_4)
def q__law_made_2 : DS := (dSeq (dTry ct_RisingError 4 2
    (dSet 3 (dNew 2 S_Scheme_init (dCons (dVar 0) (dCons (dVar 1) dNil)))))
    q__law_made_3)
def q__law_made_1 : DS := (dSeq (dSet 3 (dC .non))
    q__law_made_2)
def q__law_made_0 : DS := (dSeq (dSet 2 (dC .non))
    q__law_made_1)
def t__law_made : DS := q__law_made_0
def S__law_made : DSp := specOf ["_law_numbers_here", "_law_cells_here", "_law_caught", "_law_found", "e"] t__law_made
theorem ok__law_made {f : Addr} {fd : FuncData} (F : Fun K "_law_made" "_law_made" s__law_made f fd) (M : Mg B P w K mg base) (h_Scheme_init : NC B P w K mg base 5 "Scheme" 2 2 S_Scheme_init) : FnG P w K mg base 7 f fd ["_law_numbers_here", "_law_cells_here"] (spOf B K 2 S__law_made) :=
  def_ok F sc__law_made (fun cdv A outer s H E C => (wb_cons (ws_set sc__law_made.nd rfl (by first | exact .inl rfl | exact .inr rfl) we_non)
    (wb_cons (ws_set sc__law_made.nd rfl (by first | exact .inl rfl | exact .inr rfl) we_non)
    (wb_cons (ws_try C rfl rfl rfl sc__law_made.nd rfl rfl rfl rfl (names_own M.n_RisingError rfl) M.ct_RisingError (fun pn xe W1 C1 hpo =>
    (wb_one (ws_set sc__law_made.nd rfl (by first | exact .inl rfl | exact .inr rfl) (we_new (L := 5) (h_Scheme_init.mono (by decide)) C1 rfl (wa_cons (wv 0) (wa_cons (wv 1) wa_nil)))))))
    (wb_cons (ws_if (t_cmp o_is (wv 2) we_non)
    (wb_one (ws_ret (we_lst (wa_cons (wv 3) wa_nil))))
    wb_nil)
    (wb_one (ws_ret (we_if (wt_val (we_isC M.is_NoScheme rfl M.n_NoScheme rfl M.b_isinstance (wv 2))) (we_tup (wa_cons (we_attr M.at_part (wv 2)) (wa_cons (we_attr M.at_at (wv 2)) wa_nil))) we_str)))))))) keeps_self
def f_q__law_made_4 : SEnv → Fl := (fRet (fIf (fTest (fU (isiD (isTab tb_NoScheme)) (fVar 2))) (fTup (fCons (fU (attrD "part" [] [1]) (fVar 2)) (fCons (fU (attrD "at" [] [1]) (fVar 2)) (fun _ => .ok [])))) (fC (.str "odd"))))
theorem pq_q__law_made_4 : PuS q__law_made_4 f_q__law_made_4 := show PuS (dRet (dIf (dTest (dU (isiD (isTab tb_NoScheme)) (dVar 2))) (dTup (dCons (dU (attrD "part" [] [1]) (dVar 2)) (dCons (dU (attrD "at" [] [1]) (dVar 2)) dNil))) (dC (.str "odd")))) f_q__law_made_4 from (pu_ret (pu_if (pu_test (pu_u pu_var)) (pu_tup (pu_cons (pu_u pu_var) (pu_cons (pu_u pu_var) pu_nil))) pu_c))
def f_q__law_made_3 : SEnv → Fl := (fSeq (fIfF (fTest (fOp (isND false) (fVar 2) (fC .non))) (fRet (fLst (fCons (fVar 3) (fun _ => .ok [])))) Fl.nx) f_q__law_made_4)
theorem pq_q__law_made_3 : PuS q__law_made_3 f_q__law_made_3 := show PuS (dSeq (dIfS (dTest (dOp (isND false) (dVar 2) (dC .non)))
    (dRet (dLst (dCons (dVar 3) dNil)))
    dNext)
    q__law_made_4) f_q__law_made_3 from (pu_seq (pu_ifS (pu_test (pu_op pu_var pu_c)) (pu_ret (pu_lst (pu_cons pu_var pu_nil))) pu_next) pq_q__law_made_4)
def f_q__law_made_2 : SEnv → Fl := (fSeq (fTry ct_RisingError 4 2 (fSet 3 (fNew 2 F_Scheme_init (fCons (fVar 0) (fCons (fVar 1) (fun _ => .ok [])))))) f_q__law_made_3)
theorem pq_q__law_made_2 : PuS q__law_made_2 f_q__law_made_2 := show PuS (dSeq (dTry ct_RisingError 4 2
    (dSet 3 (dNew 2 S_Scheme_init (dCons (dVar 0) (dCons (dVar 1) dNil)))))
    q__law_made_3) f_q__law_made_2 from (pu_seq (pu_try (pu_set (pu_new pf_Scheme_init (pu_cons pu_var (pu_cons pu_var pu_nil))))) pq_q__law_made_3)
def f_q__law_made_1 : SEnv → Fl := (fSeq (fSet 3 (fC .non)) f_q__law_made_2)
theorem pq_q__law_made_1 : PuS q__law_made_1 f_q__law_made_1 := show PuS (dSeq (dSet 3 (dC .non))
    q__law_made_2) f_q__law_made_1 from (pu_seq (pu_set pu_c) pq_q__law_made_2)
def f_q__law_made_0 : SEnv → Fl := (fSeq (fSet 2 (fC .non)) f_q__law_made_1)
theorem pq_q__law_made_0 : PuS q__law_made_0 f_q__law_made_0 := show PuS (dSeq (dSet 2 (dC .non))
    q__law_made_1) f_q__law_made_0 from (pu_seq (pu_set pu_c) pq_q__law_made_1)
def F__law_made : List D → R D := runF ["_law_numbers_here", "_law_cells_here", "_law_caught", "_law_found", "e"] f_q__law_made_0
theorem pf__law_made : PuF S__law_made F__law_made := pu_def (t := q__law_made_0) pq_q__law_made_0
/-! _law_bad_numbers -/
abbrev s__law_bad_numbers : Stmt := top 25
theorem sc__law_bad_numbers : FnScope ["_law_pen_here", "_law_numbers_here", "_law_way", "_law_at", "_law_some", "_law_name", "_law_size", "_law_kind"] ["_law_pen_here", "_law_numbers_here"] (defScope s__law_bad_numbers) := ⟨rfl, rfl, rfl, by decide +kernel, rfl, by decide +kernel, by decide +kernel⟩
def q__law_bad_numbers_9 : DS := (dRet (dTup (dCons (dOp addD (dOp addD (dSl (dVar 1) dNoPart (dPart (dVar 3))) (dLst (dCons (dOp ixA (dVar 4) (dCall S__law_take (dCons (dVar 0) (dCons (dFn lenD (dCons (dVar 4) dNil)) dNil)))) dNil))) (dSl (dVar 1) (dPart (dOp addD (dVar 3) (dC (.int 1)))) dNoPart)) (dCons (dVar 3) dNil))))
def q__law_bad_numbers_8 : DS := (dSeq (dIfS (dTest (dOp gtA (dVar 3) (dC (.int 0))))
    (dSet 4 (dOp addD (dVar 4) (dLst (dCons (dOp ixA (dVar 1) (dC (.int 0))) (dCons (dTup (dCons (dOp ixA (dOp ixA (dVar 1) (dC (.int 0))) (dC (.int 0))) (dCons (dC (.int 1)) (dCons (dC (.str "free")) dNil)))) dNil)))))
    dNext)
    q__law_bad_numbers_9)
def q__law_bad_numbers_7 : DS := (dSeq (dSet 4 (dOp addD (dVar 4) (dLst (dCons (dTup (dCons (dVar 5) (dCons (dVar 6) (dCons (dC (.str "Strict")) dNil)))) (dCons (dTup (dCons (dVar 5) (dCons (dVar 6) (dCons (dC .non) dNil)))) (dCons (dC .non) (dCons (dVar 5) (dCons (dTup (dCons (dC (.str "a1")) (dCons (dVar 6) (dCons (dVar 7) dNil)))) (dCons (dTup (dCons (dVar 5) (dCons (dVar 6) (dCons (dVar 7) (dCons (dC (.int 1)) dNil))))) dNil)))))))))
    q__law_bad_numbers_8)
def q__law_bad_numbers_6 : DS := (dSeq (dSet 4 (dOp addD (dVar 4) (dLst (dCons (dTup (dCons (dC (.str "")) (dCons (dVar 6) (dCons (dVar 7) dNil)))) (dCons (dTup (dCons (dC (.str "Aa")) (dCons (dVar 6) (dCons (dVar 7) dNil)))) (dCons (dTup (dCons (dOp mulSD (dC (.str "a")) (dC (.int 13))) (dCons (dVar 6) (dCons (dVar 7) dNil)))) (dCons (dTup (dCons (dC (.int 7)) (dCons (dVar 6) (dCons (dVar 7) dNil)))) (dCons (dTup (dCons (dC (.str "a b")) (dCons (dVar 6) (dCons (dVar 7) dNil)))) dNil))))))))
    q__law_bad_numbers_7)
def q__law_bad_numbers_5 : DS := (dSeq (dSet 4 (dLst (dCons (dTup (dCons (dVar 5) (dCons (dVar 6) dNil))) (dCons (dLst (dCons (dVar 5) (dCons (dVar 6) (dCons (dVar 7) dNil)))) (dCons (dTup (dCons (dVar 5) (dCons (dC (.int 0)) (dCons (dVar 7) dNil)))) (dCons (dTup (dCons (dVar 5) (dCons (dC (.int 5)) (dCons (dVar 7) dNil)))) (dCons (dTup (dCons (dVar 5) (dCons (dC (.bl true)) (dCons (dVar 7) dNil)))) (dCons (dTup (dCons (dVar 5) (dCons (dC (.str "1")) (dCons (dVar 7) dNil)))) dNil))))))))
    q__law_bad_numbers_6)
def q__law_bad_numbers_4 : DS := (dSeq (dAsgT (dOp ixA (dVar 1) (dVar 3)) (gT [5, 6, 7]))
    q__law_bad_numbers_5)
def q__law_bad_numbers_3 : DS := (dSeq (dSet 3 (dCall S__law_take (dCons (dVar 0) (dCons (dFn lenD (dCons (dVar 1) dNil)) dNil))))
    q__law_bad_numbers_4)
def q__law_bad_numbers_2 : DS := (dSeq (dIfS (dTest (dOp (eqA false) (dVar 2) (dC (.int 1))))
    (dSeq (dSet 4 (dLst (dCons (dTup (dCons (dC (.str "qa")) (dCons (dC (.int 1)) (dCons (dC (.str "weak")) dNil)))) (dCons (dTup (dCons (dC (.str "qb")) (dCons (dC (.int 1)) (dCons (dC (.str "free")) dNil)))) (dCons (dTup (dCons (dC (.str "qc")) (dCons (dC (.int 1)) (dCons (dC (.str "strict")) dNil)))) (dCons (dTup (dCons (dC (.str "qd")) (dCons (dC (.int 1)) (dCons (dC (.str "free")) dNil)))) (dCons (dC (.int 7)) dNil)))))))
    (dRet (dTup (dCons (dSl (dVar 4) dNoPart (dPart (dOp addD (dC (.int 4)) (dCall S__law_take (dCons (dVar 0) (dCons (dC (.int 2)) dNil)))))) (dCons (dC (.int 3)) dNil)))))
    dNext)
    q__law_bad_numbers_3)
def q__law_bad_numbers_1 : DS := (dSeq (dIfS (dTest (dOp (eqA false) (dVar 2) (dC (.int 0))))
    (dRet (dTup (dCons (dOp ixA (dLst (dCons (dC .non) (dCons (dTup dNil) (dCons (dC (.dct [])) (dCons (dLst dNil) (dCons (dC (.str "n")) (dCons (dFn tupleD (dCons (dVar 1) dNil)) dNil))))))) (dCall S__law_take (dCons (dVar 0) (dCons (dC (.int 6)) dNil)))) (dCons (dC .non) dNil))))
    dNext)
    q__law_bad_numbers_2)
def q__law_bad_numbers_0 : DS := (dSeq (dSet 2 (dCall S__law_take (dCons (dVar 0) (dCons (dC (.int 4)) dNil))))
    q__law_bad_numbers_1)
def t__law_bad_numbers : DS := q__law_bad_numbers_0
def S__law_bad_numbers : DSp := specOf ["_law_pen_here", "_law_numbers_here", "_law_way", "_law_at", "_law_some", "_law_name", "_law_size", "_law_kind"] t__law_bad_numbers
theorem ok__law_bad_numbers {f : Addr} {fd : FuncData} (F : Fun K "_law_bad_numbers" "_law_bad_numbers" s__law_bad_numbers f fd) (M : Mg B P w K mg base) (h__law_take : Fn B P w K mg base 1 "_law_take" 2 S__law_take) : FnG P w K mg base 2 f fd ["_law_pen_here", "_law_numbers_here"] (spOf B K 2 S__law_bad_numbers) :=
  def_ok F sc__law_bad_numbers (fun cdv A outer s H E C => (wb_cons (ws_set sc__law_bad_numbers.nd rfl (by first | exact .inl rfl | exact .inr rfl) (we_call (h__law_take.mono (by decide)) C rfl (wa_cons (wv 0) (wa_cons we_int wa_nil))))
    (wb_cons (ws_if (t_cmp (o_eq C) (wv 2) we_int)
    (wb_one (ws_ret (we_tup (wa_cons (e_ix C (we_lst (wa_cons we_non (wa_cons (we_tup wa_nil) (wa_cons we_disp0 (wa_cons (we_lst wa_nil) (wa_cons we_str (wa_cons (e_tuple rfl M.b_tuple (wv 1)) wa_nil))))))) (we_call (h__law_take.mono (by decide)) C rfl (wa_cons (wv 0) (wa_cons we_int wa_nil)))) (wa_cons we_non wa_nil)))))
    wb_nil)
    (wb_cons (ws_if (t_cmp (o_eq C) (wv 2) we_int)
    (wb_cons (ws_set sc__law_bad_numbers.nd rfl (by first | exact .inl rfl | exact .inr rfl) (we_lst (wa_cons (we_tup (wa_cons we_str (wa_cons we_int (wa_cons we_str wa_nil)))) (wa_cons (we_tup (wa_cons we_str (wa_cons we_int (wa_cons we_str wa_nil)))) (wa_cons (we_tup (wa_cons we_str (wa_cons we_int (wa_cons we_str wa_nil)))) (wa_cons (we_tup (wa_cons we_str (wa_cons we_int (wa_cons we_str wa_nil)))) (wa_cons we_int wa_nil)))))))
    (wb_one (ws_ret (we_tup (wa_cons (we_sl (wv 4) wo_none (wo_some (e_add we_int (we_call (h__law_take.mono (by decide)) C rfl (wa_cons (wv 0) (wa_cons we_int wa_nil)))))) (wa_cons we_int wa_nil))))))
    wb_nil)
    (wb_cons (ws_set sc__law_bad_numbers.nd rfl (by first | exact .inl rfl | exact .inr rfl) (we_call (h__law_take.mono (by decide)) C rfl (wa_cons (wv 0) (wa_cons (e_len rfl M.b_len (wv 1)) wa_nil))))
    (wb_cons (ws_asgT (wg_tup (n := 3) C.calm (wgs_cons sc__law_bad_numbers.nd rfl (by first | exact .inl rfl | exact .inr rfl) (wgs_cons sc__law_bad_numbers.nd rfl (by first | exact .inl rfl | exact .inr rfl) (wgs_cons sc__law_bad_numbers.nd rfl (by first | exact .inl rfl | exact .inr rfl) wgs_nil)))) (e_ix C (wv 1) (wv 3)))
    (wb_cons (ws_set sc__law_bad_numbers.nd rfl (by first | exact .inl rfl | exact .inr rfl) (we_lst (wa_cons (we_tup (wa_cons (wv 5) (wa_cons (wv 6) wa_nil))) (wa_cons (we_lst (wa_cons (wv 5) (wa_cons (wv 6) (wa_cons (wv 7) wa_nil)))) (wa_cons (we_tup (wa_cons (wv 5) (wa_cons we_int (wa_cons (wv 7) wa_nil)))) (wa_cons (we_tup (wa_cons (wv 5) (wa_cons we_int (wa_cons (wv 7) wa_nil)))) (wa_cons (we_tup (wa_cons (wv 5) (wa_cons we_bl (wa_cons (wv 7) wa_nil)))) (wa_cons (we_tup (wa_cons (wv 5) (wa_cons we_str (wa_cons (wv 7) wa_nil)))) wa_nil))))))))
    (wb_cons (ws_set sc__law_bad_numbers.nd rfl (by first | exact .inl rfl | exact .inr rfl) (e_add (wv 4) (we_lst (wa_cons (we_tup (wa_cons we_str (wa_cons (wv 6) (wa_cons (wv 7) wa_nil)))) (wa_cons (we_tup (wa_cons we_str (wa_cons (wv 6) (wa_cons (wv 7) wa_nil)))) (wa_cons (we_tup (wa_cons (e_mulS we_str we_int) (wa_cons (wv 6) (wa_cons (wv 7) wa_nil)))) (wa_cons (we_tup (wa_cons we_int (wa_cons (wv 6) (wa_cons (wv 7) wa_nil)))) (wa_cons (we_tup (wa_cons we_str (wa_cons (wv 6) (wa_cons (wv 7) wa_nil)))) wa_nil))))))))
    (wb_cons (ws_set sc__law_bad_numbers.nd rfl (by first | exact .inl rfl | exact .inr rfl) (e_add (wv 4) (we_lst (wa_cons (we_tup (wa_cons (wv 5) (wa_cons (wv 6) (wa_cons we_str wa_nil)))) (wa_cons (we_tup (wa_cons (wv 5) (wa_cons (wv 6) (wa_cons we_non wa_nil)))) (wa_cons we_non (wa_cons (wv 5) (wa_cons (we_tup (wa_cons we_str (wa_cons (wv 6) (wa_cons (wv 7) wa_nil)))) (wa_cons (we_tup (wa_cons (wv 5) (wa_cons (wv 6) (wa_cons (wv 7) (wa_cons we_int wa_nil))))) wa_nil)))))))))
    (wb_cons (ws_if (t_cmp (o_gtA C) (wv 3) we_int)
    (wb_one (ws_set sc__law_bad_numbers.nd rfl (by first | exact .inl rfl | exact .inr rfl) (e_add (wv 4) (we_lst (wa_cons (e_ix C (wv 1) we_int) (wa_cons (we_tup (wa_cons (e_ix C (e_ix C (wv 1) we_int) we_int) (wa_cons we_int (wa_cons we_str wa_nil)))) wa_nil))))))
    wb_nil)
    (wb_one (ws_ret (we_tup (wa_cons (e_add (e_add (we_sl (wv 1) wo_none (wo_some (wv 3))) (we_lst (wa_cons (e_ix C (wv 4) (we_call (h__law_take.mono (by decide)) C rfl (wa_cons (wv 0) (wa_cons (e_len rfl M.b_len (wv 4)) wa_nil)))) wa_nil))) (we_sl (wv 1) (wo_some (e_add (wv 3) we_int)) wo_none)) (wa_cons (wv 3) wa_nil))))))))))))))) keeps_self
def f_s_q__law_bad_numbers_4 : SEnv → Fl := (fAsgT (fOp ixA (fVar 1) (fVar 3)) (gT [5, 6, 7]))
theorem pq_s_q__law_bad_numbers_4 : PuS (dAsgT (dOp ixA (dVar 1) (dVar 3)) (gT [5, 6, 7])) f_s_q__law_bad_numbers_4 := show PuS (dAsgT (dOp ixA (dVar 1) (dVar 3)) (gT [5, 6, 7])) f_s_q__law_bad_numbers_4 from (pu_asgT (pu_op pu_var pu_var))
def f_s_q__law_bad_numbers_5 : SEnv → Fl := (fSet 4 (fLst (fCons (fTup (fCons (fVar 5) (fCons (fVar 6) (fun _ => .ok [])))) (fCons (fLst (fCons (fVar 5) (fCons (fVar 6) (fCons (fVar 7) (fun _ => .ok []))))) (fCons (fTup (fCons (fVar 5) (fCons (fC (.int 0)) (fCons (fVar 7) (fun _ => .ok []))))) (fCons (fTup (fCons (fVar 5) (fCons (fC (.int 5)) (fCons (fVar 7) (fun _ => .ok []))))) (fCons (fTup (fCons (fVar 5) (fCons (fC (.bl true)) (fCons (fVar 7) (fun _ => .ok []))))) (fCons (fTup (fCons (fVar 5) (fCons (fC (.str "1")) (fCons (fVar 7) (fun _ => .ok []))))) (fun _ => .ok [])))))))))
theorem pq_s_q__law_bad_numbers_5 : PuS (dSet 4 (dLst (dCons (dTup (dCons (dVar 5) (dCons (dVar 6) dNil))) (dCons (dLst (dCons (dVar 5) (dCons (dVar 6) (dCons (dVar 7) dNil)))) (dCons (dTup (dCons (dVar 5) (dCons (dC (.int 0)) (dCons (dVar 7) dNil)))) (dCons (dTup (dCons (dVar 5) (dCons (dC (.int 5)) (dCons (dVar 7) dNil)))) (dCons (dTup (dCons (dVar 5) (dCons (dC (.bl true)) (dCons (dVar 7) dNil)))) (dCons (dTup (dCons (dVar 5) (dCons (dC (.str "1")) (dCons (dVar 7) dNil)))) dNil)))))))) f_s_q__law_bad_numbers_5 := show PuS (dSet 4 (dLst (dCons (dTup (dCons (dVar 5) (dCons (dVar 6) dNil))) (dCons (dLst (dCons (dVar 5) (dCons (dVar 6) (dCons (dVar 7) dNil)))) (dCons (dTup (dCons (dVar 5) (dCons (dC (.int 0)) (dCons (dVar 7) dNil)))) (dCons (dTup (dCons (dVar 5) (dCons (dC (.int 5)) (dCons (dVar 7) dNil)))) (dCons (dTup (dCons (dVar 5) (dCons (dC (.bl true)) (dCons (dVar 7) dNil)))) (dCons (dTup (dCons (dVar 5) (dCons (dC (.str "1")) (dCons (dVar 7) dNil)))) dNil)))))))) f_s_q__law_bad_numbers_5 from (pu_set (pu_lst (pu_cons (pu_tup (pu_cons pu_var (pu_cons pu_var pu_nil))) (pu_cons (pu_lst (pu_cons pu_var (pu_cons pu_var (pu_cons pu_var pu_nil)))) (pu_cons (pu_tup (pu_cons pu_var (pu_cons pu_c (pu_cons pu_var pu_nil)))) (pu_cons (pu_tup (pu_cons pu_var (pu_cons pu_c (pu_cons pu_var pu_nil)))) (pu_cons (pu_tup (pu_cons pu_var (pu_cons pu_c (pu_cons pu_var pu_nil)))) (pu_cons (pu_tup (pu_cons pu_var (pu_cons pu_c (pu_cons pu_var pu_nil)))) pu_nil))))))))
def f_s_q__law_bad_numbers_6 : SEnv → Fl := (fSet 4 (fOp addD (fVar 4) (fLst (fCons (fTup (fCons (fC (.str "")) (fCons (fVar 6) (fCons (fVar 7) (fun _ => .ok []))))) (fCons (fTup (fCons (fC (.str "Aa")) (fCons (fVar 6) (fCons (fVar 7) (fun _ => .ok []))))) (fCons (fTup (fCons (fOp mulSD (fC (.str "a")) (fC (.int 13))) (fCons (fVar 6) (fCons (fVar 7) (fun _ => .ok []))))) (fCons (fTup (fCons (fC (.int 7)) (fCons (fVar 6) (fCons (fVar 7) (fun _ => .ok []))))) (fCons (fTup (fCons (fC (.str "a b")) (fCons (fVar 6) (fCons (fVar 7) (fun _ => .ok []))))) (fun _ => .ok [])))))))))
theorem pq_s_q__law_bad_numbers_6 : PuS (dSet 4 (dOp addD (dVar 4) (dLst (dCons (dTup (dCons (dC (.str "")) (dCons (dVar 6) (dCons (dVar 7) dNil)))) (dCons (dTup (dCons (dC (.str "Aa")) (dCons (dVar 6) (dCons (dVar 7) dNil)))) (dCons (dTup (dCons (dOp mulSD (dC (.str "a")) (dC (.int 13))) (dCons (dVar 6) (dCons (dVar 7) dNil)))) (dCons (dTup (dCons (dC (.int 7)) (dCons (dVar 6) (dCons (dVar 7) dNil)))) (dCons (dTup (dCons (dC (.str "a b")) (dCons (dVar 6) (dCons (dVar 7) dNil)))) dNil)))))))) f_s_q__law_bad_numbers_6 := show PuS (dSet 4 (dOp addD (dVar 4) (dLst (dCons (dTup (dCons (dC (.str "")) (dCons (dVar 6) (dCons (dVar 7) dNil)))) (dCons (dTup (dCons (dC (.str "Aa")) (dCons (dVar 6) (dCons (dVar 7) dNil)))) (dCons (dTup (dCons (dOp mulSD (dC (.str "a")) (dC (.int 13))) (dCons (dVar 6) (dCons (dVar 7) dNil)))) (dCons (dTup (dCons (dC (.int 7)) (dCons (dVar 6) (dCons (dVar 7) dNil)))) (dCons (dTup (dCons (dC (.str "a b")) (dCons (dVar 6) (dCons (dVar 7) dNil)))) dNil)))))))) f_s_q__law_bad_numbers_6 from (pu_set (pu_op pu_var (pu_lst (pu_cons (pu_tup (pu_cons pu_c (pu_cons pu_var (pu_cons pu_var pu_nil)))) (pu_cons (pu_tup (pu_cons pu_c (pu_cons pu_var (pu_cons pu_var pu_nil)))) (pu_cons (pu_tup (pu_cons (pu_op pu_c pu_c) (pu_cons pu_var (pu_cons pu_var pu_nil)))) (pu_cons (pu_tup (pu_cons pu_c (pu_cons pu_var (pu_cons pu_var pu_nil)))) (pu_cons (pu_tup (pu_cons pu_c (pu_cons pu_var (pu_cons pu_var pu_nil)))) pu_nil))))))))
def f_s_q__law_bad_numbers_7 : SEnv → Fl := (fSet 4 (fOp addD (fVar 4) (fLst (fCons (fTup (fCons (fVar 5) (fCons (fVar 6) (fCons (fC (.str "Strict")) (fun _ => .ok []))))) (fCons (fTup (fCons (fVar 5) (fCons (fVar 6) (fCons (fC .non) (fun _ => .ok []))))) (fCons (fC .non) (fCons (fVar 5) (fCons (fTup (fCons (fC (.str "a1")) (fCons (fVar 6) (fCons (fVar 7) (fun _ => .ok []))))) (fCons (fTup (fCons (fVar 5) (fCons (fVar 6) (fCons (fVar 7) (fCons (fC (.int 1)) (fun _ => .ok [])))))) (fun _ => .ok []))))))))))
theorem pq_s_q__law_bad_numbers_7 : PuS (dSet 4 (dOp addD (dVar 4) (dLst (dCons (dTup (dCons (dVar 5) (dCons (dVar 6) (dCons (dC (.str "Strict")) dNil)))) (dCons (dTup (dCons (dVar 5) (dCons (dVar 6) (dCons (dC .non) dNil)))) (dCons (dC .non) (dCons (dVar 5) (dCons (dTup (dCons (dC (.str "a1")) (dCons (dVar 6) (dCons (dVar 7) dNil)))) (dCons (dTup (dCons (dVar 5) (dCons (dVar 6) (dCons (dVar 7) (dCons (dC (.int 1)) dNil))))) dNil))))))))) f_s_q__law_bad_numbers_7 := show PuS (dSet 4 (dOp addD (dVar 4) (dLst (dCons (dTup (dCons (dVar 5) (dCons (dVar 6) (dCons (dC (.str "Strict")) dNil)))) (dCons (dTup (dCons (dVar 5) (dCons (dVar 6) (dCons (dC .non) dNil)))) (dCons (dC .non) (dCons (dVar 5) (dCons (dTup (dCons (dC (.str "a1")) (dCons (dVar 6) (dCons (dVar 7) dNil)))) (dCons (dTup (dCons (dVar 5) (dCons (dVar 6) (dCons (dVar 7) (dCons (dC (.int 1)) dNil))))) dNil))))))))) f_s_q__law_bad_numbers_7 from (pu_set (pu_op pu_var (pu_lst (pu_cons (pu_tup (pu_cons pu_var (pu_cons pu_var (pu_cons pu_c pu_nil)))) (pu_cons (pu_tup (pu_cons pu_var (pu_cons pu_var (pu_cons pu_c pu_nil)))) (pu_cons pu_c (pu_cons pu_var (pu_cons (pu_tup (pu_cons pu_c (pu_cons pu_var (pu_cons pu_var pu_nil)))) (pu_cons (pu_tup (pu_cons pu_var (pu_cons pu_var (pu_cons pu_var (pu_cons pu_c pu_nil))))) pu_nil)))))))))
def f_s_q__law_bad_numbers_8 : SEnv → Fl := (fIfF (fTest (fOp gtA (fVar 3) (fC (.int 0)))) (fSet 4 (fOp addD (fVar 4) (fLst (fCons (fOp ixA (fVar 1) (fC (.int 0))) (fCons (fTup (fCons (fOp ixA (fOp ixA (fVar 1) (fC (.int 0))) (fC (.int 0))) (fCons (fC (.int 1)) (fCons (fC (.str "free")) (fun _ => .ok []))))) (fun _ => .ok [])))))) Fl.nx)
theorem pq_s_q__law_bad_numbers_8 : PuS (dIfS (dTest (dOp gtA (dVar 3) (dC (.int 0))))
    (dSet 4 (dOp addD (dVar 4) (dLst (dCons (dOp ixA (dVar 1) (dC (.int 0))) (dCons (dTup (dCons (dOp ixA (dOp ixA (dVar 1) (dC (.int 0))) (dC (.int 0))) (dCons (dC (.int 1)) (dCons (dC (.str "free")) dNil)))) dNil)))))
    dNext) f_s_q__law_bad_numbers_8 := show PuS (dIfS (dTest (dOp gtA (dVar 3) (dC (.int 0))))
    (dSet 4 (dOp addD (dVar 4) (dLst (dCons (dOp ixA (dVar 1) (dC (.int 0))) (dCons (dTup (dCons (dOp ixA (dOp ixA (dVar 1) (dC (.int 0))) (dC (.int 0))) (dCons (dC (.int 1)) (dCons (dC (.str "free")) dNil)))) dNil)))))
    dNext) f_s_q__law_bad_numbers_8 from (pu_ifS (pu_test (pu_op pu_var pu_c)) (pu_set (pu_op pu_var (pu_lst (pu_cons (pu_op pu_var pu_c) (pu_cons (pu_tup (pu_cons (pu_op (pu_op pu_var pu_c) pu_c) (pu_cons pu_c (pu_cons pu_c pu_nil)))) pu_nil))))) pu_next)
/-! _law_bad_cells -/
abbrev s__law_bad_cells : Stmt := top 26
theorem sc__law_bad_cells : FnScope ["_law_pen_here", "_law_numbers_here", "_law_cells_here", "_law_way", "_law_some", "_law_at", "_law_name", "_law_size", "_law_kind", "_law_gone", "_law_cell"] ["_law_pen_here", "_law_numbers_here", "_law_cells_here"] (defScope s__law_bad_cells) := ⟨rfl, rfl, rfl, by decide +kernel, rfl, by decide +kernel, by decide +kernel⟩
def q__law_bad_cells_8 : DS := (dRet (dTup (dCons (dOp addD (dOp addD (dSl (dVar 2) dNoPart (dPart (dVar 5))) (dLst (dCons (dOp ixA (dVar 4) (dCall S__law_take (dCons (dVar 0) (dCons (dFn lenD (dCons (dVar 4) dNil)) dNil)))) dNil))) (dSl (dVar 2) (dPart (dOp addD (dVar 5) (dC (.int 1)))) dNoPart)) (dCons (dVar 5) dNil))))
def q__law_bad_cells_7 : DS := (dSeq (dSet 5 (dCall S__law_take (dCons (dVar 0) (dCons (dFn lenD (dCons (dVar 2) dNil)) dNil))))
    q__law_bad_cells_8)
def q__law_bad_cells_6 : DS := (dSeq (dSet 4 (dOp addD (dVar 4) (dLst (dCons (dC .non) (dCons (dVar 6) (dCons (dTup (dCons (dC .non) (dCons (dC (.int 0)) dNil))) (dCons (dTup (dCons (dC (.int 7)) (dCons (dC (.int 0)) dNil))) (dCons (dTup (dCons (dLst (dCons (dVar 6) dNil)) (dCons (dC (.int 0)) dNil))) (dCons (dTup (dCons (dC (.dct [])) (dCons (dC (.int 0)) dNil))) (dCons (dTup (dCons (dVar 6) (dCons (dC .non) dNil))) (dCons (dTup (dCons (dVar 6) (dCons (dOp powD (dC (.int 10)) (dC (.int 30))) dNil))) dNil)))))))))))
    q__law_bad_cells_7)
def q__law_bad_cells_5 : DS := (dSeq (dSet 4 (dLst (dCons (dTup (dCons (dVar 6) (dCons (dVar 7) dNil))) (dCons (dTup (dCons (dVar 6) (dCons (dU negD (dC (.int 1))) dNil))) (dCons (dTup (dCons (dVar 6) (dCons (dC (.bl true)) dNil))) (dCons (dTup (dCons (dVar 6) (dCons (dC (.str "0")) dNil))) (dCons (dLst (dCons (dVar 6) (dCons (dC (.int 0)) dNil))) (dCons (dTup (dCons (dVar 6) dNil)) (dCons (dTup (dCons (dVar 6) (dCons (dC (.int 0)) (dCons (dC (.int 0)) dNil)))) (dCons (dTup (dCons (dOp addD (dC (.str "zz")) (dVar 6)) (dCons (dC (.int 0)) dNil))) dNil))))))))))
    q__law_bad_cells_6)
def q__law_bad_cells_4 : DS := (dSeq (dIfS (dTest (dOp (eqA false) (dVar 3) (dC (.int 2))))
    (dSeq (dSet 9 (dOp ixA (dVar 2) (dCall S__law_take (dCons (dVar 0) (dCons (dFn lenD (dCons (dVar 2) dNil)) dNil)))))
    (dRet (dTup (dCons (dOp addD (dLc (dSeqI (dVar 2)) (pN 10) (dTest (dOp (eqA true) (dVar 10) (dVar 9))) (dVar 10) [10]) (dOp mulD (dLst (dCons (dOp ixA (dVar 2) (dC (.int 0))) dNil)) (dFn intD (dCons (dOp (eqA true) (dOp ixA (dVar 2) (dC (.int 0))) (dVar 9)) dNil)))) (dCons (dC .non) dNil)))))
    dNext)
    q__law_bad_cells_5)
def q__law_bad_cells_3 : DS := (dSeq (dIfS (dTest (dOp (eqA false) (dVar 3) (dC (.int 1))))
    (dRet (dTup (dCons (dSl (dOp addD (dVar 2) (dOp mulD (dLst (dCons (dOp ixA (dVar 2) (dC (.int 0))) dNil)) (dC (.int 9)))) dNoPart (dPart (dOp addD (dC (.int 9)) (dCall S__law_take (dCons (dVar 0) (dCons (dC (.int 2)) dNil)))))) (dCons (dC (.int 8)) dNil))))
    dNext)
    q__law_bad_cells_4)
def q__law_bad_cells_2 : DS := (dSeq (dIfS (dTest (dOp (eqA false) (dVar 3) (dC (.int 0))))
    (dRet (dTup (dCons (dOp ixA (dLst (dCons (dC .non) (dCons (dTup dNil) (dCons (dC (.dct [])) (dCons (dLst dNil) (dCons (dC (.str "n")) (dCons (dFn tupleD (dCons (dVar 2) dNil)) dNil))))))) (dCall S__law_take (dCons (dVar 0) (dCons (dC (.int 6)) dNil)))) (dCons (dC .non) dNil))))
    dNext)
    q__law_bad_cells_3)
def q__law_bad_cells_1 : DS := (dSeq (dAsgT (dOp ixA (dVar 1) (dCall S__law_take (dCons (dVar 0) (dCons (dFn lenD (dCons (dVar 1) dNil)) dNil)))) (gT [6, 7, 8]))
    q__law_bad_cells_2)
def q__law_bad_cells_0 : DS := (dSeq (dSet 3 (dCall S__law_take (dCons (dVar 0) (dCons (dC (.int 5)) dNil))))
    q__law_bad_cells_1)
def t__law_bad_cells : DS := q__law_bad_cells_0
def S__law_bad_cells : DSp := specOf ["_law_pen_here", "_law_numbers_here", "_law_cells_here", "_law_way", "_law_some", "_law_at", "_law_name", "_law_size", "_law_kind", "_law_gone", "_law_cell"] t__law_bad_cells
theorem ok__law_bad_cells {f : Addr} {fd : FuncData} (F : Fun K "_law_bad_cells" "_law_bad_cells" s__law_bad_cells f fd) (M : Mg B P w K mg base) (h__law_take : Fn B P w K mg base 1 "_law_take" 2 S__law_take) : FnG P w K mg base 2 f fd ["_law_pen_here", "_law_numbers_here", "_law_cells_here"] (spOf B K 3 S__law_bad_cells) :=
  def_ok F sc__law_bad_cells (fun cdv A outer s H E C => (wb_cons (ws_set sc__law_bad_cells.nd rfl (by first | exact .inl rfl | exact .inr rfl) (we_call (h__law_take.mono (by decide)) C rfl (wa_cons (wv 0) (wa_cons we_int wa_nil))))
    (wb_cons (ws_asgT (wg_tup (n := 3) C.calm (wgs_cons sc__law_bad_cells.nd rfl (by first | exact .inl rfl | exact .inr rfl) (wgs_cons sc__law_bad_cells.nd rfl (by first | exact .inl rfl | exact .inr rfl) (wgs_cons sc__law_bad_cells.nd rfl (by first | exact .inl rfl | exact .inr rfl) wgs_nil)))) (e_ix C (wv 1) (we_call (h__law_take.mono (by decide)) C rfl (wa_cons (wv 0) (wa_cons (e_len rfl M.b_len (wv 1)) wa_nil)))))
    (wb_cons (ws_if (t_cmp (o_eq C) (wv 3) we_int)
    (wb_one (ws_ret (we_tup (wa_cons (e_ix C (we_lst (wa_cons we_non (wa_cons (we_tup wa_nil) (wa_cons we_disp0 (wa_cons (we_lst wa_nil) (wa_cons we_str (wa_cons (e_tuple rfl M.b_tuple (wv 2)) wa_nil))))))) (we_call (h__law_take.mono (by decide)) C rfl (wa_cons (wv 0) (wa_cons we_int wa_nil)))) (wa_cons we_non wa_nil)))))
    wb_nil)
    (wb_cons (ws_if (t_cmp (o_eq C) (wv 3) we_int)
    (wb_one (ws_ret (we_tup (wa_cons (we_sl (e_add (wv 2) (e_mul (we_lst (wa_cons (e_ix C (wv 2) we_int) wa_nil)) we_int)) wo_none (wo_some (e_add we_int (we_call (h__law_take.mono (by decide)) C rfl (wa_cons (wv 0) (wa_cons we_int wa_nil)))))) (wa_cons we_int wa_nil)))))
    wb_nil)
    (wb_cons (ws_if (t_cmp (o_eq C) (wv 3) we_int)
    (wb_cons (ws_set sc__law_bad_cells.nd rfl (by first | exact .inl rfl | exact .inr rfl) (e_ix C (wv 2) (we_call (h__law_take.mono (by decide)) C rfl (wa_cons (wv 0) (wa_cons (e_len rfl M.b_len (wv 2)) wa_nil)))))
    (wb_one (ws_ret (we_tup (wa_cons (e_add (we_lc C.calm sc__law_bad_cells.nd (wi_seq (wv 2)) (blk_ok (own := [("_law_cell", 10)]) (by kernel_rfl)) (wp_name (fun _ _ _ _ _ => pg_name sc__law_bad_cells.nd rfl (by first | exact .inl rfl | exact .inr rfl)) (by decide)) (fun _ _ _ _ _ => (wts_one (t_cmp (o_ne C.blk) (wv 10) (wv 9)))) (fun _ _ _ _ _ => (wv 10))) (e_mul (we_lst (wa_cons (e_ix C (wv 2) we_int) wa_nil)) (e_int rfl M.b_int (e_cmp (o_ne C) (e_ix C (wv 2) we_int) (wv 9))))) (wa_cons we_non wa_nil))))))
    wb_nil)
    (wb_cons (ws_set sc__law_bad_cells.nd rfl (by first | exact .inl rfl | exact .inr rfl) (we_lst (wa_cons (we_tup (wa_cons (wv 6) (wa_cons (wv 7) wa_nil))) (wa_cons (we_tup (wa_cons (wv 6) (wa_cons (we_neg we_int) wa_nil))) (wa_cons (we_tup (wa_cons (wv 6) (wa_cons we_bl wa_nil))) (wa_cons (we_tup (wa_cons (wv 6) (wa_cons we_str wa_nil))) (wa_cons (we_lst (wa_cons (wv 6) (wa_cons we_int wa_nil))) (wa_cons (we_tup (wa_cons (wv 6) wa_nil)) (wa_cons (we_tup (wa_cons (wv 6) (wa_cons we_int (wa_cons we_int wa_nil)))) (wa_cons (we_tup (wa_cons (e_add we_str (wv 6)) (wa_cons we_int wa_nil))) wa_nil))))))))))
    (wb_cons (ws_set sc__law_bad_cells.nd rfl (by first | exact .inl rfl | exact .inr rfl) (e_add (wv 4) (we_lst (wa_cons we_non (wa_cons (wv 6) (wa_cons (we_tup (wa_cons we_non (wa_cons we_int wa_nil))) (wa_cons (we_tup (wa_cons we_int (wa_cons we_int wa_nil))) (wa_cons (we_tup (wa_cons (we_lst (wa_cons (wv 6) wa_nil)) (wa_cons we_int wa_nil))) (wa_cons (we_tup (wa_cons we_disp0 (wa_cons we_int wa_nil))) (wa_cons (we_tup (wa_cons (wv 6) (wa_cons we_non wa_nil))) (wa_cons (we_tup (wa_cons (wv 6) (wa_cons (e_pow we_int we_int) wa_nil))) wa_nil)))))))))))
    (wb_cons (ws_set sc__law_bad_cells.nd rfl (by first | exact .inl rfl | exact .inr rfl) (we_call (h__law_take.mono (by decide)) C rfl (wa_cons (wv 0) (wa_cons (e_len rfl M.b_len (wv 2)) wa_nil))))
    (wb_one (ws_ret (we_tup (wa_cons (e_add (e_add (we_sl (wv 2) wo_none (wo_some (wv 5))) (we_lst (wa_cons (e_ix C (wv 4) (we_call (h__law_take.mono (by decide)) C rfl (wa_cons (wv 0) (wa_cons (e_len rfl M.b_len (wv 4)) wa_nil)))) wa_nil))) (we_sl (wv 2) (wo_some (e_add (wv 5) we_int)) wo_none)) (wa_cons (wv 5) wa_nil)))))))))))))) keeps_self
def f_s_q__law_bad_cells_5 : SEnv → Fl := (fSet 4 (fLst (fCons (fTup (fCons (fVar 6) (fCons (fVar 7) (fun _ => .ok [])))) (fCons (fTup (fCons (fVar 6) (fCons (fU negD (fC (.int 1))) (fun _ => .ok [])))) (fCons (fTup (fCons (fVar 6) (fCons (fC (.bl true)) (fun _ => .ok [])))) (fCons (fTup (fCons (fVar 6) (fCons (fC (.str "0")) (fun _ => .ok [])))) (fCons (fLst (fCons (fVar 6) (fCons (fC (.int 0)) (fun _ => .ok [])))) (fCons (fTup (fCons (fVar 6) (fun _ => .ok []))) (fCons (fTup (fCons (fVar 6) (fCons (fC (.int 0)) (fCons (fC (.int 0)) (fun _ => .ok []))))) (fCons (fTup (fCons (fOp addD (fC (.str "zz")) (fVar 6)) (fCons (fC (.int 0)) (fun _ => .ok [])))) (fun _ => .ok [])))))))))))
theorem pq_s_q__law_bad_cells_5 : PuS (dSet 4 (dLst (dCons (dTup (dCons (dVar 6) (dCons (dVar 7) dNil))) (dCons (dTup (dCons (dVar 6) (dCons (dU negD (dC (.int 1))) dNil))) (dCons (dTup (dCons (dVar 6) (dCons (dC (.bl true)) dNil))) (dCons (dTup (dCons (dVar 6) (dCons (dC (.str "0")) dNil))) (dCons (dLst (dCons (dVar 6) (dCons (dC (.int 0)) dNil))) (dCons (dTup (dCons (dVar 6) dNil)) (dCons (dTup (dCons (dVar 6) (dCons (dC (.int 0)) (dCons (dC (.int 0)) dNil)))) (dCons (dTup (dCons (dOp addD (dC (.str "zz")) (dVar 6)) (dCons (dC (.int 0)) dNil))) dNil)))))))))) f_s_q__law_bad_cells_5 := show PuS (dSet 4 (dLst (dCons (dTup (dCons (dVar 6) (dCons (dVar 7) dNil))) (dCons (dTup (dCons (dVar 6) (dCons (dU negD (dC (.int 1))) dNil))) (dCons (dTup (dCons (dVar 6) (dCons (dC (.bl true)) dNil))) (dCons (dTup (dCons (dVar 6) (dCons (dC (.str "0")) dNil))) (dCons (dLst (dCons (dVar 6) (dCons (dC (.int 0)) dNil))) (dCons (dTup (dCons (dVar 6) dNil)) (dCons (dTup (dCons (dVar 6) (dCons (dC (.int 0)) (dCons (dC (.int 0)) dNil)))) (dCons (dTup (dCons (dOp addD (dC (.str "zz")) (dVar 6)) (dCons (dC (.int 0)) dNil))) dNil)))))))))) f_s_q__law_bad_cells_5 from (pu_set (pu_lst (pu_cons (pu_tup (pu_cons pu_var (pu_cons pu_var pu_nil))) (pu_cons (pu_tup (pu_cons pu_var (pu_cons (pu_u pu_c) pu_nil))) (pu_cons (pu_tup (pu_cons pu_var (pu_cons pu_c pu_nil))) (pu_cons (pu_tup (pu_cons pu_var (pu_cons pu_c pu_nil))) (pu_cons (pu_lst (pu_cons pu_var (pu_cons pu_c pu_nil))) (pu_cons (pu_tup (pu_cons pu_var pu_nil)) (pu_cons (pu_tup (pu_cons pu_var (pu_cons pu_c (pu_cons pu_c pu_nil)))) (pu_cons (pu_tup (pu_cons (pu_op pu_c pu_var) (pu_cons pu_c pu_nil))) pu_nil))))))))))
def f_s_q__law_bad_cells_6 : SEnv → Fl := (fSet 4 (fOp addD (fVar 4) (fLst (fCons (fC .non) (fCons (fVar 6) (fCons (fTup (fCons (fC .non) (fCons (fC (.int 0)) (fun _ => .ok [])))) (fCons (fTup (fCons (fC (.int 7)) (fCons (fC (.int 0)) (fun _ => .ok [])))) (fCons (fTup (fCons (fLst (fCons (fVar 6) (fun _ => .ok []))) (fCons (fC (.int 0)) (fun _ => .ok [])))) (fCons (fTup (fCons (fC (.dct [])) (fCons (fC (.int 0)) (fun _ => .ok [])))) (fCons (fTup (fCons (fVar 6) (fCons (fC .non) (fun _ => .ok [])))) (fCons (fTup (fCons (fVar 6) (fCons (fOp powD (fC (.int 10)) (fC (.int 30))) (fun _ => .ok [])))) (fun _ => .ok []))))))))))))
theorem pq_s_q__law_bad_cells_6 : PuS (dSet 4 (dOp addD (dVar 4) (dLst (dCons (dC .non) (dCons (dVar 6) (dCons (dTup (dCons (dC .non) (dCons (dC (.int 0)) dNil))) (dCons (dTup (dCons (dC (.int 7)) (dCons (dC (.int 0)) dNil))) (dCons (dTup (dCons (dLst (dCons (dVar 6) dNil)) (dCons (dC (.int 0)) dNil))) (dCons (dTup (dCons (dC (.dct [])) (dCons (dC (.int 0)) dNil))) (dCons (dTup (dCons (dVar 6) (dCons (dC .non) dNil))) (dCons (dTup (dCons (dVar 6) (dCons (dOp powD (dC (.int 10)) (dC (.int 30))) dNil))) dNil))))))))))) f_s_q__law_bad_cells_6 := show PuS (dSet 4 (dOp addD (dVar 4) (dLst (dCons (dC .non) (dCons (dVar 6) (dCons (dTup (dCons (dC .non) (dCons (dC (.int 0)) dNil))) (dCons (dTup (dCons (dC (.int 7)) (dCons (dC (.int 0)) dNil))) (dCons (dTup (dCons (dLst (dCons (dVar 6) dNil)) (dCons (dC (.int 0)) dNil))) (dCons (dTup (dCons (dC (.dct [])) (dCons (dC (.int 0)) dNil))) (dCons (dTup (dCons (dVar 6) (dCons (dC .non) dNil))) (dCons (dTup (dCons (dVar 6) (dCons (dOp powD (dC (.int 10)) (dC (.int 30))) dNil))) dNil))))))))))) f_s_q__law_bad_cells_6 from (pu_set (pu_op pu_var (pu_lst (pu_cons pu_c (pu_cons pu_var (pu_cons (pu_tup (pu_cons pu_c (pu_cons pu_c pu_nil))) (pu_cons (pu_tup (pu_cons pu_c (pu_cons pu_c pu_nil))) (pu_cons (pu_tup (pu_cons (pu_lst (pu_cons pu_var pu_nil)) (pu_cons pu_c pu_nil))) (pu_cons (pu_tup (pu_cons pu_c (pu_cons pu_c pu_nil))) (pu_cons (pu_tup (pu_cons pu_var (pu_cons pu_c pu_nil))) (pu_cons (pu_tup (pu_cons pu_var (pu_cons (pu_op pu_c pu_c) pu_nil))) pu_nil)))))))))))
/-! _law_bent_right -/
abbrev s__law_bent_right : Stmt := top 27
theorem sc__law_bent_right : FnScope ["_law_pen_here", "_law_numbers_here", "_law_cells_here", "_law_is_bent", "_law_bad", "_law_first", "_law_passed", "_law_k"] ["_law_pen_here", "_law_numbers_here", "_law_cells_here"] (defScope s__law_bent_right) := ⟨rfl, rfl, rfl, by decide +kernel, rfl, by decide +kernel, by decide +kernel⟩
def q__law_bent_right_5 : DS := (dRet (dOp (eqA false) (dCall S__law_made (dCons (dOp ixA (dVar 6) (dC (.int 0))) (dCons (dOp ixA (dVar 6) (dC (.int 1))) dNil))) (dTup (dCons (dOp ixA (dLst (dCons (dC (.str "numbers")) (dCons (dC (.str "cells")) dNil))) (dVar 5)) (dCons (dOp ixA (dOp ixA (dVar 4) (dVar 5)) (dC (.int 1))) dNil)))))
def q__law_bent_right_4 : DS := (dSeq (dSet 6 (dLc (dRange1 (dC (.int 2))) (pN 7) dYes (dIf (dNotT (dTest (dOp ixA (dVar 3) (dVar 7)))) (dOp ixA (dLst (dCons (dVar 1) (dCons (dVar 2) dNil))) (dVar 7)) (dOp ixA (dOp ixA (dVar 4) (dVar 7)) (dC (.int 0)))) [7]))
    q__law_bent_right_5)
def q__law_bent_right_3 : DS := (dSeq (dSet 5 (dM isLst indexD (dVar 3) (dC (.bl true))))
    q__law_bent_right_4)
def q__law_bent_right_2 : DS := (dSeq (dIfS (dTest (dOp (inA true) (dC (.bl true)) (dVar 3)))
    (dRet (dEqL1 2 S_Scheme___eq__ (dCall S__law_made (dCons (dVar 1) (dCons (dVar 2) dNil))) (dLst (dCons (dNew 2 S_Scheme_init (dCons (dVar 1) (dCons (dVar 2) dNil))) dNil))))
    dNext)
    q__law_bent_right_3)
def q__law_bent_right_1 : DS := (dSeq (dSet 4 (dLst (dCons (dCall S__law_bad_numbers (dCons (dVar 0) (dCons (dVar 1) dNil))) (dCons (dCall S__law_bad_cells (dCons (dVar 0) (dCons (dVar 1) (dCons (dVar 2) dNil)))) dNil))))
    q__law_bent_right_2)
def q__law_bent_right_0 : DS := (dSeq (dSet 3 (dLst (dCons (dOp (eqA false) (dCall S__law_take (dCons (dVar 0) (dCons (dC (.int 2)) dNil))) (dC (.int 0))) (dCons (dOp (eqA false) (dCall S__law_take (dCons (dVar 0) (dCons (dC (.int 2)) dNil))) (dC (.int 0))) dNil))))
    q__law_bent_right_1)
def t__law_bent_right : DS := q__law_bent_right_0
def S__law_bent_right : DSp := specOf ["_law_pen_here", "_law_numbers_here", "_law_cells_here", "_law_is_bent", "_law_bad", "_law_first", "_law_passed", "_law_k"] t__law_bent_right
theorem ok__law_bent_right {f : Addr} {fd : FuncData} (F : Fun K "_law_bent_right" "_law_bent_right" s__law_bent_right f fd) (M : Mg B P w K mg base) (h_Scheme___eq__ : MC B P w K mg base 1 "__eq__" 2 1 S_Scheme___eq__) (h_Scheme_init : NC B P w K mg base 5 "Scheme" 2 2 S_Scheme_init) (h__law_bad_cells : Fn B P w K mg base 2 "_law_bad_cells" 3 S__law_bad_cells) (h__law_bad_numbers : Fn B P w K mg base 2 "_law_bad_numbers" 2 S__law_bad_numbers) (h__law_made : Fn B P w K mg base 7 "_law_made" 2 S__law_made) (h__law_take : Fn B P w K mg base 1 "_law_take" 2 S__law_take) : FnG P w K mg base 8 f fd ["_law_pen_here", "_law_numbers_here", "_law_cells_here"] (spOf B K 3 S__law_bent_right) :=
  def_ok F sc__law_bent_right (fun cdv A outer s H E C => (wb_cons (ws_set sc__law_bent_right.nd rfl (by first | exact .inl rfl | exact .inr rfl) (we_lst (wa_cons (e_cmp (o_eq C) (we_call (h__law_take.mono (by decide)) C rfl (wa_cons (wv 0) (wa_cons we_int wa_nil))) we_int) (wa_cons (e_cmp (o_eq C) (we_call (h__law_take.mono (by decide)) C rfl (wa_cons (wv 0) (wa_cons we_int wa_nil))) we_int) wa_nil))))
    (wb_cons (ws_set sc__law_bent_right.nd rfl (by first | exact .inl rfl | exact .inr rfl) (we_lst (wa_cons (we_call (h__law_bad_numbers.mono (by decide)) C rfl (wa_cons (wv 0) (wa_cons (wv 1) wa_nil))) (wa_cons (we_call (h__law_bad_cells.mono (by decide)) C rfl (wa_cons (wv 0) (wa_cons (wv 1) (wa_cons (wv 2) wa_nil)))) wa_nil))))
    (wb_cons (ws_if (t_cmp (o_notin C) we_bl (wv 3))
    (wb_one (ws_ret (we_eqL1 (L := 6) (h_Scheme___eq__.mono (by decide)) C (we_call (h__law_made.mono (by decide)) C rfl (wa_cons (wv 1) (wa_cons (wv 2) wa_nil))) (we_lst (wa_cons (we_new (L := 6) (h_Scheme_init.mono (by decide)) C rfl (wa_cons (wv 1) (wa_cons (wv 2) wa_nil))) wa_nil)))))
    wb_nil)
    (wb_cons (ws_set sc__law_bent_right.nd rfl (by first | exact .inl rfl | exact .inr rfl) (e_index C (wv 3) we_bl))
    (wb_cons (ws_setLc C.calm sc__law_bent_right.nd rfl rfl rfl (wi_range1 rfl M.b_range we_int) (blk_ok (own := [("_law_k", 7)]) (by kernel_rfl)) (wp_name (fun _ _ _ _ _ => pg_name sc__law_bent_right.nd rfl (by first | exact .inl rfl | exact .inr rfl)) (by decide)) (fun _ _ _ _ _ => wts_nil) (fun _ _ _ _ _ => (we_if (wt_not (wt_val (e_ix C.blk (wv 3) (wv 7)))) (e_ix C.blk (we_lst (wa_cons (wv 1) (wa_cons (wv 2) wa_nil))) (wv 7)) (e_ix C.blk (e_ix C.blk (wv 4) (wv 7)) we_int))))
    (wb_one (ws_ret (e_cmp (o_eq C) (we_call (h__law_made.mono (by decide)) C rfl (wa_cons (e_ix C (wv 6) we_int) (wa_cons (e_ix C (wv 6) we_int) wa_nil))) (we_tup (wa_cons (e_ix C (we_lst (wa_cons we_str (wa_cons we_str wa_nil))) (wv 5)) (wa_cons (e_ix C (e_ix C (wv 4) (wv 5)) we_int) wa_nil)))))))))))) keeps_self
def f_q__law_bent_right_5 : SEnv → Fl := (fRet (fOp (eqA false) (fCall F__law_made (fCons (fOp ixA (fVar 6) (fC (.int 0))) (fCons (fOp ixA (fVar 6) (fC (.int 1))) (fun _ => .ok [])))) (fTup (fCons (fOp ixA (fLst (fCons (fC (.str "numbers")) (fCons (fC (.str "cells")) (fun _ => .ok [])))) (fVar 5)) (fCons (fOp ixA (fOp ixA (fVar 4) (fVar 5)) (fC (.int 1))) (fun _ => .ok []))))))
theorem pq_q__law_bent_right_5 : PuS q__law_bent_right_5 f_q__law_bent_right_5 := show PuS (dRet (dOp (eqA false) (dCall S__law_made (dCons (dOp ixA (dVar 6) (dC (.int 0))) (dCons (dOp ixA (dVar 6) (dC (.int 1))) dNil))) (dTup (dCons (dOp ixA (dLst (dCons (dC (.str "numbers")) (dCons (dC (.str "cells")) dNil))) (dVar 5)) (dCons (dOp ixA (dOp ixA (dVar 4) (dVar 5)) (dC (.int 1))) dNil))))) f_q__law_bent_right_5 from (pu_ret (pu_op (pu_call pf__law_made (pu_cons (pu_op pu_var pu_c) (pu_cons (pu_op pu_var pu_c) pu_nil))) (pu_tup (pu_cons (pu_op (pu_lst (pu_cons pu_c (pu_cons pu_c pu_nil))) pu_var) (pu_cons (pu_op (pu_op pu_var pu_var) pu_c) pu_nil)))))
def f_q__law_bent_right_4 : SEnv → Fl := (fSeq (fSet 6 (fLc (fRange1 (fC (.int 2))) (pN 7) (fun _ => .ok true) (fIf (fNotT (fTest (fOp ixA (fVar 3) (fVar 7)))) (fOp ixA (fLst (fCons (fVar 1) (fCons (fVar 2) (fun _ => .ok [])))) (fVar 7)) (fOp ixA (fOp ixA (fVar 4) (fVar 7)) (fC (.int 0)))) [7])) f_q__law_bent_right_5)
theorem pq_q__law_bent_right_4 : PuS q__law_bent_right_4 f_q__law_bent_right_4 := show PuS (dSeq (dSet 6 (dLc (dRange1 (dC (.int 2))) (pN 7) dYes (dIf (dNotT (dTest (dOp ixA (dVar 3) (dVar 7)))) (dOp ixA (dLst (dCons (dVar 1) (dCons (dVar 2) dNil))) (dVar 7)) (dOp ixA (dOp ixA (dVar 4) (dVar 7)) (dC (.int 0)))) [7]))
    q__law_bent_right_5) f_q__law_bent_right_4 from (pu_seq (pu_set (pu_lc (pu_range1 pu_c) pu_yes (pu_if (pu_notT (pu_test (pu_op pu_var pu_var))) (pu_op (pu_lst (pu_cons pu_var (pu_cons pu_var pu_nil))) pu_var) (pu_op (pu_op pu_var pu_var) pu_c)))) pq_q__law_bent_right_5)
def f_q__law_bent_right_3 : SEnv → Fl := (fSeq (fSet 5 (fM isLst indexD (fVar 3) (fC (.bl true)))) f_q__law_bent_right_4)
theorem pq_q__law_bent_right_3 : PuS q__law_bent_right_3 f_q__law_bent_right_3 := show PuS (dSeq (dSet 5 (dM isLst indexD (dVar 3) (dC (.bl true))))
    q__law_bent_right_4) f_q__law_bent_right_3 from (pu_seq (pu_set (pu_m pu_var pu_c)) pq_q__law_bent_right_4)
def f_q__law_bent_right_2 : SEnv → Fl := (fSeq (fIfF (fTest (fOp (inA true) (fC (.bl true)) (fVar 3))) (fRet (fEqL1 2 F_Scheme___eq__ (fCall F__law_made (fCons (fVar 1) (fCons (fVar 2) (fun _ => .ok [])))) (fLst (fCons (fNew 2 F_Scheme_init (fCons (fVar 1) (fCons (fVar 2) (fun _ => .ok [])))) (fun _ => .ok []))))) Fl.nx) f_q__law_bent_right_3)
theorem pq_q__law_bent_right_2 : PuS q__law_bent_right_2 f_q__law_bent_right_2 := show PuS (dSeq (dIfS (dTest (dOp (inA true) (dC (.bl true)) (dVar 3)))
    (dRet (dEqL1 2 S_Scheme___eq__ (dCall S__law_made (dCons (dVar 1) (dCons (dVar 2) dNil))) (dLst (dCons (dNew 2 S_Scheme_init (dCons (dVar 1) (dCons (dVar 2) dNil))) dNil))))
    dNext)
    q__law_bent_right_3) f_q__law_bent_right_2 from (pu_seq (pu_ifS (pu_test (pu_op pu_c pu_var)) (pu_ret (pu_eqL1 pf_Scheme___eq__ (pu_call pf__law_made (pu_cons pu_var (pu_cons pu_var pu_nil))) (pu_lst (pu_cons (pu_new pf_Scheme_init (pu_cons pu_var (pu_cons pu_var pu_nil))) pu_nil)))) pu_next) pq_q__law_bent_right_3)
/-! law -/
abbrev s_law : Stmt := top 28
theorem sc_law : FnScope ["_law_script", "_law_pen_here", "_law_turn", "_law_numbers_here", "_law_cells_here", "_law_passed", "_law_made_here", "_law_one", "_law_other", "_law_k", "_law_name", "_law_size", "_law_kind", "_law_cell"] ["_law_script"] (defScope s_law) := ⟨rfl, rfl, rfl, by decide +kernel, rfl, by decide +kernel, by decide +kernel⟩
def lb2_law_0 : DS := (dIfS (dNotT (dTest (dCall S__law_bent_right (dCons (dVar 1) (dCons (dVar 3) (dCons (dVar 4) dNil))))))
    (dRet (dC (.bl false)))
    dNext)
def lb1_law_16 : DS := (dFor (dRange1 (dC (.int 5))) (gN 9)
    lb2_law_0)
def lb1_law_15 : DS := (dSeq (dIfS (dAndT (dTest (dOp gtA (dFn lenD (dCons (dVar 3) dNil)) (dC (.int 1)))) (dTest (dCmpO 2 S_Scheme___eq__ (dVar 7) (dNew 2 S_Scheme_init (dCons (dU revX (dVar 3)) (dCons (dVar 4) dNil))))))
    (dRet (dC (.bl false)))
    dNext)
    lb1_law_16)
def lb1_law_14 : DS := (dSeq (dIfS (dAndT (dTest (dOp gtA (dFn lenD (dCons (dVar 4) dNil)) (dC (.int 1)))) (dAndT (dTest (dOp (eqA true) (dU revX (dVar 4)) (dVar 4))) (dTest (dCmpO 2 S_Scheme___eq__ (dVar 7) (dNew 2 S_Scheme_init (dCons (dVar 3) (dCons (dU revX (dVar 4)) dNil)))))))
    (dRet (dC (.bl false)))
    dNext)
    lb1_law_15)
def lb1_law_13 : DS := (dSeq (dIfS (dTest (dCmpO 2 S_Scheme___eq__ (dVar 7) (dNew 2 S_Scheme_init (dCons (dOp addD (dLst (dCons (dTup (dCons (dC (.str "zzqzz")) (dCons (dVar 11) (dCons (dVar 12) dNil)))) dNil)) (dSl (dVar 3) (dPart (dC (.int 1))) dNoPart)) (dCons (dVar 8) dNil)))))
    (dRet (dC (.bl false)))
    dNext)
    lb1_law_14)
def lb1_law_12 : DS := (dSeq (dSet 8 (dLc (dSeqI (dVar 4)) (pN 13) dYes (dTup (dCons (dIf (dTest (dOp (eqA false) (dOp ixA (dVar 13) (dC (.int 0))) (dVar 10))) (dC (.str "zzqzz")) (dOp ixA (dVar 13) (dC (.int 0)))) (dCons (dOp ixA (dVar 13) (dC (.int 1))) dNil))) [13]))
    lb1_law_13)
def lb1_law_11 : DS := (dSeq (dIfS (dTest (dCmpO 2 S_Scheme___eq__ (dVar 7) (dNew 2 S_Scheme_init (dCons (dOp addD (dLst (dCons (dTup (dCons (dVar 10) (dCons (dVar 11) (dCons (dIf (dTest (dOp (eqA true) (dVar 12) (dC (.str "weak")))) (dC (.str "weak")) (dC (.str "free"))) dNil)))) dNil)) (dSl (dVar 3) (dPart (dC (.int 1))) dNoPart)) (dCons (dVar 4) dNil)))))
    (dRet (dC (.bl false)))
    dNext)
    lb1_law_12)
def lb1_law_10 : DS := (dSeq (dAsgT (dOp ixA (dVar 3) (dC (.int 0))) (gT [10, 11, 12]))
    lb1_law_11)
def lb1_law_9 : DS := (dSeq (dIfS (dOrT (dTest (dCmpL 2 S_Scheme___eq__ (dVar 7) (dVar 3))) (dTest (dNeO 2 S_Scheme___eq__ (dVar 7) (dNew 2 S_Scheme_init (dCons (dVar 3) (dCons (dVar 4) dNil))))))
    (dRet (dC (.bl false)))
    dNext)
    lb1_law_10)
def lb1_law_8 : DS := (dSeq (dIfS (dOrT (dTest (dOp (eqA true) (dU (attrD "numbers" [2] []) (dVar 7)) (dFn tupleD (dCons (dVar 3) dNil)))) (dTest (dOp (eqA true) (dU (attrD "cells" [2] []) (dVar 7)) (dFn tupleD (dCons (dVar 4) dNil)))))
    (dRet (dC (.bl false)))
    dNext)
    lb1_law_9)
def lb1_law_7 : DS := (dSeq (dSet 7 (dOp ixA (dVar 6) (dC (.int 0))))
    lb1_law_8)
def lb1_law_2 : DS := (dOpen 5 (dListO (dVar 3)) (dListO (dVar 4)) (dSetG 5 6 (dCall S__law_made (dCons (dOp ixA (dVar 5) (dC (.int 0))) (dCons (dOp ixA (dVar 5) (dC (.int 1))) dNil))) (dIfG 5 (dOrT (dNotT (dTest (dU (isiD (isTab tb_list)) (dVar 6)))) (dTest (dOp (eqA true) (dVar 5) (dLst (dCons (dVar 3) (dCons (dVar 4) dNil))))))
    (dRet (dC (.bl false)))
    (dClearG 0 (dClearG 1 (fun _ => lb1_law_7))))))
def lb1_law_1 : DS := (dSeq (dSet 4 (dCall S__law_cells (dCons (dVar 1) (dCons (dVar 3) (dCons (dC (.int 8)) dNil)))))
    lb1_law_2)
def lb1_law_0 : DS := (dSeq (dSet 3 (dCall S__law_numbers (dCons (dVar 1) (dCons (dC (.int 8)) dNil))))
    lb1_law_1)
def q_law_2 : DS := (dRet (dAnd (dOp (eqA false) (dC (.int 8)) (dC (.int 8))) (dOp (eqA false) (dC (.int 3)) (dC (.int 3)))))
def q_law_1 : DS := (dSeq (dFor (dRange1 (dC (.int 5))) (gN 2)
    lb1_law_0)
    q_law_2)
def q_law_0 : DS := (dSeq (dSet 1 (dCall S__law_pen (dCons (dVar 0) dNil)))
    q_law_1)
def t_law : DS := q_law_0
def S_law : DSp := specOf ["_law_script", "_law_pen_here", "_law_turn", "_law_numbers_here", "_law_cells_here", "_law_passed", "_law_made_here", "_law_one", "_law_other", "_law_k", "_law_name", "_law_size", "_law_kind", "_law_cell"] t_law
theorem ok_law {f : Addr} {fd : FuncData} (F : Fun K "law" "law" s_law f fd) (M : Mg B P w K mg base) (hk : Keeps ["_law_script", "_law_pen_here", "_law_turn", "_law_numbers_here", "_law_cells_here", "_law_passed", "_law_made_here", "_law_one", "_law_other", "_law_k", "_law_name", "_law_size", "_law_kind", "_law_cell"] 1 DL.S_law t_law) (h_Scheme___eq__ : MC B P w K mg base 1 "__eq__" 2 1 S_Scheme___eq__) (h_Scheme_init : NC B P w K mg base 5 "Scheme" 2 2 S_Scheme_init) (h__law_bent_right : Fn B P w K mg base 8 "_law_bent_right" 3 S__law_bent_right) (h__law_cells : Fn B P w K mg base 2 "_law_cells" 3 S__law_cells) (h__law_made : Fn B P w K mg base 7 "_law_made" 2 S__law_made) (h__law_numbers : Fn B P w K mg base 3 "_law_numbers" 2 S__law_numbers) (h__law_pen : Fn B P w K mg base 1 "_law_pen" 1 S__law_pen) : FnG P w K mg base 9 f fd ["_law_script"] (spOf B K 1 DL.S_law) :=
  def_ok F sc_law (fun cdv A outer s H E C => (wb_cons (ws_set sc_law.nd rfl (by first | exact .inl rfl | exact .inr rfl) (we_call (h__law_pen.mono (by decide)) C rfl (wa_cons (wv 0) wa_nil)))
    (wb_cons (ws_for (passes_of rfl) C.calm (wi_range1 rfl M.b_range we_int) (wg_name sc_law.nd rfl (by first | exact .inl rfl | exact .inr rfl))
    (wb_cons (ws_set sc_law.nd rfl (by first | exact .inl rfl | exact .inr rfl) (we_call (h__law_numbers.mono (by decide)) C rfl (wa_cons (wv 1) (wa_cons we_int wa_nil))))
    (wb_cons (ws_set sc_law.nd rfl (by first | exact .inl rfl | exact .inr rfl) (we_call (h__law_cells.mono (by decide)) C rfl (wa_cons (wv 1) (wa_cons (wv 3) (wa_cons we_int wa_nil)))))
    (wb_open sc_law.nd rfl (by first | exact .inl rfl | exact .inr rfl) (wl_list rfl M.b_list Boot.«list» (wv 3)) (wl_list rfl M.b_list Boot.«list» (wv 4)) (wbg_set sc_law.nd rfl (by first | exact .inl rfl | exact .inr rfl) (we_call (h__law_made.mono (by decide)) C rfl (wa_cons (e_ix C (wv 5) we_int) (wa_cons (e_ix C (wv 5) we_int) wa_nil))) (wbg_if (WW.wt (ww_or (wt_not (wt_val (we_isT M.is_list rfl M.b_list Boot.«list» rfl M.b_isinstance (wv 6)))) (ww_or1 (t_cmp (o_ne C) (wv 5) (we_lst (wa_cons (wv 3) (wa_cons (wv 4) wa_nil)))))))
    (wb_one (ws_ret we_bl))
    (wbg_clear (n := 0) (pv 5) pe_int (wbg_clear (n := 1) (pv 5) pe_int (wbg_close (wb_cons (ws_set sc_law.nd rfl (by first | exact .inl rfl | exact .inr rfl) (e_ix C (wv 6) we_int))
    (wb_cons (ws_if (WW.wt (ww_or (t_cmp (o_ne C) (we_attr M.at_numbers (wv 7)) (e_tuple rfl M.b_tuple (wv 3))) (ww_or1 (t_cmp (o_ne C) (we_attr M.at_cells (wv 7)) (e_tuple rfl M.b_tuple (wv 4))))))
    (wb_one (ws_ret we_bl))
    wb_nil)
    (wb_cons (ws_if (WW.wt (ww_or (wt_cmpL (h_Scheme___eq__.mono (by decide)) C rfl (fun _ _ => rfl) (wv 7) (wv 3)) (ww_or1 (wt_neO (L := 7) (h_Scheme___eq__.mono (by decide)) M.ne_Scheme C (wv 7) (we_new (L := 7) (h_Scheme_init.mono (by decide)) C rfl (wa_cons (wv 3) (wa_cons (wv 4) wa_nil)))))))
    (wb_one (ws_ret we_bl))
    wb_nil)
    (wb_cons (ws_asgT (wg_tup (n := 3) C.calm (wgs_cons sc_law.nd rfl (by first | exact .inl rfl | exact .inr rfl) (wgs_cons sc_law.nd rfl (by first | exact .inl rfl | exact .inr rfl) (wgs_cons sc_law.nd rfl (by first | exact .inl rfl | exact .inr rfl) wgs_nil)))) (e_ix C (wv 3) we_int))
    (wb_cons (ws_if (wt_cmpO (h_Scheme___eq__.mono (by decide)) C rfl (fun _ _ => rfl) (wv 7) (we_new (L := 7) (h_Scheme_init.mono (by decide)) C rfl (wa_cons (e_add (we_lst (wa_cons (we_tup (wa_cons (wv 10) (wa_cons (wv 11) (wa_cons (we_if (t_cmp (o_ne C) (wv 12) we_str) we_str we_str) wa_nil)))) wa_nil)) (we_sl (wv 3) (wo_some we_int) wo_none)) (wa_cons (wv 4) wa_nil))))
    (wb_one (ws_ret we_bl))
    wb_nil)
    (wb_cons (ws_setLc C.calm sc_law.nd rfl rfl rfl (wi_seq (wv 4)) (blk_ok (own := [("_law_cell", 13)]) (by kernel_rfl)) (wp_name (fun _ _ _ _ _ => pg_name sc_law.nd rfl (by first | exact .inl rfl | exact .inr rfl)) (by decide)) (fun _ _ _ _ _ => wts_nil) (fun _ _ _ _ _ => (we_tup (wa_cons (we_if (t_cmp (o_eq C.blk) (e_ix C.blk (wv 13) we_int) (wv 10)) we_str (e_ix C.blk (wv 13) we_int)) (wa_cons (e_ix C.blk (wv 13) we_int) wa_nil)))))
    (wb_cons (ws_if (wt_cmpO (h_Scheme___eq__.mono (by decide)) C rfl (fun _ _ => rfl) (wv 7) (we_new (L := 7) (h_Scheme_init.mono (by decide)) C rfl (wa_cons (e_add (we_lst (wa_cons (we_tup (wa_cons we_str (wa_cons (wv 11) (wa_cons (wv 12) wa_nil)))) wa_nil)) (we_sl (wv 3) (wo_some we_int) wo_none)) (wa_cons (wv 8) wa_nil))))
    (wb_one (ws_ret we_bl))
    wb_nil)
    (wb_cons (ws_if (WW.wt (ww_and (t_cmp (o_gtA C) (e_len rfl M.b_len (wv 4)) we_int) (ww_and (t_cmp (o_ne C) (we_revX (wv 4)) (wv 4)) (ww_and1 (wt_cmpO (h_Scheme___eq__.mono (by decide)) C rfl (fun _ _ => rfl) (wv 7) (we_new (L := 7) (h_Scheme_init.mono (by decide)) C rfl (wa_cons (wv 3) (wa_cons (we_revX (wv 4)) wa_nil))))))))
    (wb_one (ws_ret we_bl))
    wb_nil)
    (wb_cons (ws_if (WW.wt (ww_and (t_cmp (o_gtA C) (e_len rfl M.b_len (wv 3)) we_int) (ww_and1 (wt_cmpO (h_Scheme___eq__.mono (by decide)) C rfl (fun _ _ => rfl) (wv 7) (we_new (L := 7) (h_Scheme_init.mono (by decide)) C rfl (wa_cons (we_revX (wv 3)) (wa_cons (wv 4) wa_nil)))))))
    (wb_one (ws_ret we_bl))
    wb_nil)
    (wb_one (ws_for (passes_of rfl) C.calm (wi_range1 rfl M.b_range we_int) (wg_name sc_law.nd rfl (by first | exact .inl rfl | exact .inr rfl))
    (wb_one (ws_if (wt_not (wt_val (we_call (h__law_bent_right.mono (by decide)) C rfl (wa_cons (wv 1) (wa_cons (wv 3) (wa_cons (wv 4) wa_nil))))))
    (wb_one (ws_ret we_bl))
    wb_nil))))))))))))))))))))))
    (wb_one (ws_ret (we_and (e_cmp (o_eq C) (we_cc M.cc_Scheme_CELLS rfl) we_int) (we_one (e_cmp (o_eq C) (we_cc M.cc_Scheme_NUMBERS rfl) we_int)))))))) hk
def f_q_law_2 : SEnv → Fl := (fRet (fAnd (fOp (eqA false) (fC (.int 8)) (fC (.int 8))) (fOp (eqA false) (fC (.int 3)) (fC (.int 3)))))
theorem pq_q_law_2 : PuS q_law_2 f_q_law_2 := show PuS (dRet (dAnd (dOp (eqA false) (dC (.int 8)) (dC (.int 8))) (dOp (eqA false) (dC (.int 3)) (dC (.int 3))))) f_q_law_2 from (pu_ret (pu_and (pu_op pu_c pu_c) (pu_op pu_c pu_c)))
def f_s_lb1_law_7 : SEnv → Fl := (fSet 7 (fOp ixA (fVar 6) (fC (.int 0))))
theorem pq_s_lb1_law_7 : PuS (dSet 7 (dOp ixA (dVar 6) (dC (.int 0)))) f_s_lb1_law_7 := show PuS (dSet 7 (dOp ixA (dVar 6) (dC (.int 0)))) f_s_lb1_law_7 from (pu_set (pu_op pu_var pu_c))
def f_s_lb1_law_8 : SEnv → Fl := (fIfF (fOrT (fTest (fOp (eqA true) (fU (attrD "numbers" [2] []) (fVar 7)) (fFn tupleD (fCons (fVar 3) (fun _ => .ok []))))) (fTest (fOp (eqA true) (fU (attrD "cells" [2] []) (fVar 7)) (fFn tupleD (fCons (fVar 4) (fun _ => .ok [])))))) (fRet (fC (.bl false))) Fl.nx)
theorem pq_s_lb1_law_8 : PuS (dIfS (dOrT (dTest (dOp (eqA true) (dU (attrD "numbers" [2] []) (dVar 7)) (dFn tupleD (dCons (dVar 3) dNil)))) (dTest (dOp (eqA true) (dU (attrD "cells" [2] []) (dVar 7)) (dFn tupleD (dCons (dVar 4) dNil)))))
    (dRet (dC (.bl false)))
    dNext) f_s_lb1_law_8 := show PuS (dIfS (dOrT (dTest (dOp (eqA true) (dU (attrD "numbers" [2] []) (dVar 7)) (dFn tupleD (dCons (dVar 3) dNil)))) (dTest (dOp (eqA true) (dU (attrD "cells" [2] []) (dVar 7)) (dFn tupleD (dCons (dVar 4) dNil)))))
    (dRet (dC (.bl false)))
    dNext) f_s_lb1_law_8 from (pu_ifS (pu_orT (pu_test (pu_op (pu_u pu_var) (pu_fn (pu_cons pu_var pu_nil)))) (pu_test (pu_op (pu_u pu_var) (pu_fn (pu_cons pu_var pu_nil))))) (pu_ret pu_c) pu_next)
def f_s_lb1_law_9 : SEnv → Fl := (fIfF (fOrT (fTest (fCmpL 2 F_Scheme___eq__ (fVar 7) (fVar 3))) (fTest (fNeO 2 F_Scheme___eq__ (fVar 7) (fNew 2 F_Scheme_init (fCons (fVar 3) (fCons (fVar 4) (fun _ => .ok []))))))) (fRet (fC (.bl false))) Fl.nx)
theorem pq_s_lb1_law_9 : PuS (dIfS (dOrT (dTest (dCmpL 2 S_Scheme___eq__ (dVar 7) (dVar 3))) (dTest (dNeO 2 S_Scheme___eq__ (dVar 7) (dNew 2 S_Scheme_init (dCons (dVar 3) (dCons (dVar 4) dNil))))))
    (dRet (dC (.bl false)))
    dNext) f_s_lb1_law_9 := show PuS (dIfS (dOrT (dTest (dCmpL 2 S_Scheme___eq__ (dVar 7) (dVar 3))) (dTest (dNeO 2 S_Scheme___eq__ (dVar 7) (dNew 2 S_Scheme_init (dCons (dVar 3) (dCons (dVar 4) dNil))))))
    (dRet (dC (.bl false)))
    dNext) f_s_lb1_law_9 from (pu_ifS (pu_orT (pu_test (pu_cmpL pf_Scheme___eq__ pu_var pu_var)) (pu_test (pu_neO pf_Scheme___eq__ pu_var (pu_new pf_Scheme_init (pu_cons pu_var (pu_cons pu_var pu_nil)))))) (pu_ret pu_c) pu_next)
def f_s_lb1_law_10 : SEnv → Fl := (fAsgT (fOp ixA (fVar 3) (fC (.int 0))) (gT [10, 11, 12]))
theorem pq_s_lb1_law_10 : PuS (dAsgT (dOp ixA (dVar 3) (dC (.int 0))) (gT [10, 11, 12])) f_s_lb1_law_10 := show PuS (dAsgT (dOp ixA (dVar 3) (dC (.int 0))) (gT [10, 11, 12])) f_s_lb1_law_10 from (pu_asgT (pu_op pu_var pu_c))
def f_s_lb1_law_11 : SEnv → Fl := (fIfF (fTest (fCmpO 2 F_Scheme___eq__ (fVar 7) (fNew 2 F_Scheme_init (fCons (fOp addD (fLst (fCons (fTup (fCons (fVar 10) (fCons (fVar 11) (fCons (fIf (fTest (fOp (eqA true) (fVar 12) (fC (.str "weak")))) (fC (.str "weak")) (fC (.str "free"))) (fun _ => .ok []))))) (fun _ => .ok []))) (fSl (fVar 3) (fPart (fC (.int 1))) (fun _ => .ok none))) (fCons (fVar 4) (fun _ => .ok [])))))) (fRet (fC (.bl false))) Fl.nx)
theorem pq_s_lb1_law_11 : PuS (dIfS (dTest (dCmpO 2 S_Scheme___eq__ (dVar 7) (dNew 2 S_Scheme_init (dCons (dOp addD (dLst (dCons (dTup (dCons (dVar 10) (dCons (dVar 11) (dCons (dIf (dTest (dOp (eqA true) (dVar 12) (dC (.str "weak")))) (dC (.str "weak")) (dC (.str "free"))) dNil)))) dNil)) (dSl (dVar 3) (dPart (dC (.int 1))) dNoPart)) (dCons (dVar 4) dNil)))))
    (dRet (dC (.bl false)))
    dNext) f_s_lb1_law_11 := show PuS (dIfS (dTest (dCmpO 2 S_Scheme___eq__ (dVar 7) (dNew 2 S_Scheme_init (dCons (dOp addD (dLst (dCons (dTup (dCons (dVar 10) (dCons (dVar 11) (dCons (dIf (dTest (dOp (eqA true) (dVar 12) (dC (.str "weak")))) (dC (.str "weak")) (dC (.str "free"))) dNil)))) dNil)) (dSl (dVar 3) (dPart (dC (.int 1))) dNoPart)) (dCons (dVar 4) dNil)))))
    (dRet (dC (.bl false)))
    dNext) f_s_lb1_law_11 from (pu_ifS (pu_test (pu_cmpO pf_Scheme___eq__ pu_var (pu_new pf_Scheme_init (pu_cons (pu_op (pu_lst (pu_cons (pu_tup (pu_cons pu_var (pu_cons pu_var (pu_cons (pu_if (pu_test (pu_op pu_var pu_c)) pu_c pu_c) pu_nil)))) pu_nil)) (pu_sl pu_var (pu_part pu_c) pu_noPart)) (pu_cons pu_var pu_nil))))) (pu_ret pu_c) pu_next)
def f_s_lb1_law_12 : SEnv → Fl := (fSet 8 (fLc (fSeqI (fVar 4)) (pN 13) (fun _ => .ok true) (fTup (fCons (fIf (fTest (fOp (eqA false) (fOp ixA (fVar 13) (fC (.int 0))) (fVar 10))) (fC (.str "zzqzz")) (fOp ixA (fVar 13) (fC (.int 0)))) (fCons (fOp ixA (fVar 13) (fC (.int 1))) (fun _ => .ok [])))) [13]))
theorem pq_s_lb1_law_12 : PuS (dSet 8 (dLc (dSeqI (dVar 4)) (pN 13) dYes (dTup (dCons (dIf (dTest (dOp (eqA false) (dOp ixA (dVar 13) (dC (.int 0))) (dVar 10))) (dC (.str "zzqzz")) (dOp ixA (dVar 13) (dC (.int 0)))) (dCons (dOp ixA (dVar 13) (dC (.int 1))) dNil))) [13])) f_s_lb1_law_12 := show PuS (dSet 8 (dLc (dSeqI (dVar 4)) (pN 13) dYes (dTup (dCons (dIf (dTest (dOp (eqA false) (dOp ixA (dVar 13) (dC (.int 0))) (dVar 10))) (dC (.str "zzqzz")) (dOp ixA (dVar 13) (dC (.int 0)))) (dCons (dOp ixA (dVar 13) (dC (.int 1))) dNil))) [13])) f_s_lb1_law_12 from (pu_set (pu_lc (pu_seqI pu_var) pu_yes (pu_tup (pu_cons (pu_if (pu_test (pu_op (pu_op pu_var pu_c) pu_var)) pu_c (pu_op pu_var pu_c)) (pu_cons (pu_op pu_var pu_c) pu_nil)))))
def f_s_lb1_law_13 : SEnv → Fl := (fIfF (fTest (fCmpO 2 F_Scheme___eq__ (fVar 7) (fNew 2 F_Scheme_init (fCons (fOp addD (fLst (fCons (fTup (fCons (fC (.str "zzqzz")) (fCons (fVar 11) (fCons (fVar 12) (fun _ => .ok []))))) (fun _ => .ok []))) (fSl (fVar 3) (fPart (fC (.int 1))) (fun _ => .ok none))) (fCons (fVar 8) (fun _ => .ok [])))))) (fRet (fC (.bl false))) Fl.nx)
theorem pq_s_lb1_law_13 : PuS (dIfS (dTest (dCmpO 2 S_Scheme___eq__ (dVar 7) (dNew 2 S_Scheme_init (dCons (dOp addD (dLst (dCons (dTup (dCons (dC (.str "zzqzz")) (dCons (dVar 11) (dCons (dVar 12) dNil)))) dNil)) (dSl (dVar 3) (dPart (dC (.int 1))) dNoPart)) (dCons (dVar 8) dNil)))))
    (dRet (dC (.bl false)))
    dNext) f_s_lb1_law_13 := show PuS (dIfS (dTest (dCmpO 2 S_Scheme___eq__ (dVar 7) (dNew 2 S_Scheme_init (dCons (dOp addD (dLst (dCons (dTup (dCons (dC (.str "zzqzz")) (dCons (dVar 11) (dCons (dVar 12) dNil)))) dNil)) (dSl (dVar 3) (dPart (dC (.int 1))) dNoPart)) (dCons (dVar 8) dNil)))))
    (dRet (dC (.bl false)))
    dNext) f_s_lb1_law_13 from (pu_ifS (pu_test (pu_cmpO pf_Scheme___eq__ pu_var (pu_new pf_Scheme_init (pu_cons (pu_op (pu_lst (pu_cons (pu_tup (pu_cons pu_c (pu_cons pu_var (pu_cons pu_var pu_nil)))) pu_nil)) (pu_sl pu_var (pu_part pu_c) pu_noPart)) (pu_cons pu_var pu_nil))))) (pu_ret pu_c) pu_next)
def f_s_lb1_law_14 : SEnv → Fl := (fIfF (fAndT (fTest (fOp gtA (fFn lenD (fCons (fVar 4) (fun _ => .ok []))) (fC (.int 1)))) (fAndT (fTest (fOp (eqA true) (fU revX (fVar 4)) (fVar 4))) (fTest (fCmpO 2 F_Scheme___eq__ (fVar 7) (fNew 2 F_Scheme_init (fCons (fVar 3) (fCons (fU revX (fVar 4)) (fun _ => .ok [])))))))) (fRet (fC (.bl false))) Fl.nx)
theorem pq_s_lb1_law_14 : PuS (dIfS (dAndT (dTest (dOp gtA (dFn lenD (dCons (dVar 4) dNil)) (dC (.int 1)))) (dAndT (dTest (dOp (eqA true) (dU revX (dVar 4)) (dVar 4))) (dTest (dCmpO 2 S_Scheme___eq__ (dVar 7) (dNew 2 S_Scheme_init (dCons (dVar 3) (dCons (dU revX (dVar 4)) dNil)))))))
    (dRet (dC (.bl false)))
    dNext) f_s_lb1_law_14 := show PuS (dIfS (dAndT (dTest (dOp gtA (dFn lenD (dCons (dVar 4) dNil)) (dC (.int 1)))) (dAndT (dTest (dOp (eqA true) (dU revX (dVar 4)) (dVar 4))) (dTest (dCmpO 2 S_Scheme___eq__ (dVar 7) (dNew 2 S_Scheme_init (dCons (dVar 3) (dCons (dU revX (dVar 4)) dNil)))))))
    (dRet (dC (.bl false)))
    dNext) f_s_lb1_law_14 from (pu_ifS (pu_andT (pu_test (pu_op (pu_fn (pu_cons pu_var pu_nil)) pu_c)) (pu_andT (pu_test (pu_op (pu_u pu_var) pu_var)) (pu_test (pu_cmpO pf_Scheme___eq__ pu_var (pu_new pf_Scheme_init (pu_cons pu_var (pu_cons (pu_u pu_var) pu_nil))))))) (pu_ret pu_c) pu_next)
def f_s_lb1_law_15 : SEnv → Fl := (fIfF (fAndT (fTest (fOp gtA (fFn lenD (fCons (fVar 3) (fun _ => .ok []))) (fC (.int 1)))) (fTest (fCmpO 2 F_Scheme___eq__ (fVar 7) (fNew 2 F_Scheme_init (fCons (fU revX (fVar 3)) (fCons (fVar 4) (fun _ => .ok []))))))) (fRet (fC (.bl false))) Fl.nx)
theorem pq_s_lb1_law_15 : PuS (dIfS (dAndT (dTest (dOp gtA (dFn lenD (dCons (dVar 3) dNil)) (dC (.int 1)))) (dTest (dCmpO 2 S_Scheme___eq__ (dVar 7) (dNew 2 S_Scheme_init (dCons (dU revX (dVar 3)) (dCons (dVar 4) dNil))))))
    (dRet (dC (.bl false)))
    dNext) f_s_lb1_law_15 := show PuS (dIfS (dAndT (dTest (dOp gtA (dFn lenD (dCons (dVar 3) dNil)) (dC (.int 1)))) (dTest (dCmpO 2 S_Scheme___eq__ (dVar 7) (dNew 2 S_Scheme_init (dCons (dU revX (dVar 3)) (dCons (dVar 4) dNil))))))
    (dRet (dC (.bl false)))
    dNext) f_s_lb1_law_15 from (pu_ifS (pu_andT (pu_test (pu_op (pu_fn (pu_cons pu_var pu_nil)) pu_c)) (pu_test (pu_cmpO pf_Scheme___eq__ pu_var (pu_new pf_Scheme_init (pu_cons (pu_u pu_var) (pu_cons pu_var pu_nil)))))) (pu_ret pu_c) pu_next)
end
end K09

namespace K09
open PySem L2 DL PyProof.Rows
theorem ite_b {b : Bool} {X Y : Prop} (h1 : b = true → X) (h2 : b = false → Y) : if b = true then X else Y := by
  cases b
  · exact h2 rfl
  · exact h1 rfl
theorem sm {i : Int} (h0 : 0 ≤ i) (h1 : i < 2 ^ 64) : small i = true := by
  unfold small
  rw [Bool.and_eq_true, decide_eq_true_eq, decide_eq_true_eq]
  constructor <;> omega
theorem take_tail {m a k : Int} {g : Gh} {Φ : DQ} {En : DEnds} (hm : 0 < m) (hm2 : m < 1073741824) (a0 : 0 ≤ a) (a1 : a < 1000000) (fin : ∀ i : Int, Φ (.int (i % m)) g) (hE : En.rt = Φ) : q__law_take_5 En [.fz .pen, .fz (.int m), .fz (.int a), .fz (.int k), .un, .un, .un] g := by
  subst hE
  unfold q__law_take_5 q__law_take_6 q__law_take_7 q__law_take_8
  simp only [dSeq, dIfS, dTest, dOp, dPenK, dVar, dC, dSet, dFn, dCons, dNil, dPutRest, dPutAt, dRet, dNext, mask]
  refine ⟨_, rfl, _, rfl, _, pow_i (by decide), _, rfl, _, rfl, ite_b (fun hb => ?_) (fun hb => ?_)⟩
  · exact ⟨_, rfl, _, rfl, _, mul_i (by rw [Bool.or_eq_true]; exact .inl (by decide)), _, rfl, _, rfl, _, rfl, _, rfl, _, rfl, _, rfl, _, rfl, _, fdiv_i hm hm2, rfl, _, g.n, rfl, Nat.le_refl _, _, rfl, _, rfl, _, rfl, _, mod_i hm, fin _⟩
  · refine ⟨_, rfl, _, rfl, _, mod_i (by decide), .pen, rfl, rfl, fun d hd => ?_⟩
    obtain ⟨f, rfl, f0, f1⟩ := penV_fold hd
    have m0 := Int.emod_nonneg k (show (2147483563 : Int) ≠ 0 by decide)
    have m1 := Int.emod_lt_of_pos k (show (0 : Int) < 2147483563 by decide)
    refine ⟨_, rfl, _, rfl, _, rfl, _, mul_i (by rw [Bool.or_eq_true]; exact .inl (by decide)), _, rfl, _, pow_i ⟨by decide, by decide, by omega⟩, _, rfl, _, mod_i (by decide), ?_⟩
    generalize hx : ((k % 2147483563 + f + 70001 * a) ^ Int.toNat 3 : Int) = x
    have x0 := Int.emod_nonneg x (show (2147483647 : Int) ≠ 0 by decide)
    have x1 := Int.emod_lt_of_pos x (show (0 : Int) < 2147483647 by decide)
    refine ⟨_, rfl, _, rfl, _, mul_i (by rw [Bool.or_eq_true]; exact .inl (by decide)), _, rfl, _, mul_i (by rw [Bool.or_eq_true]; exact .inr (sm a0 (by omega))), _, rfl, .pen, rfl, rfl, fun d hd => ?_⟩
    obtain ⟨f', rfl, f0', f1'⟩ := penV_fold hd
    have q1 : 30011 * a * a ≤ 30011 * 1000000 * 1000000 := Int.mul_le_mul (by omega) (by omega) a0 (by omega)
    have q0 : 0 ≤ 30011 * a * a := Int.mul_nonneg (by omega) a0
    refine ⟨_, rfl, _, fdiv_i (by decide) (by decide), _, rfl, _, pow_i ⟨by decide, by decide, ?_⟩, _, rfl, _, mod_i (by decide), ?_⟩
    · generalize 30011 * a * a = y at q0 q1
      omega
    · exact ⟨_, rfl, _, fdiv_i (by decide) (by decide), _, rfl, _, rfl, _, mod_i hm, fin _⟩
theorem take_ok {m : Int} {g : Gh} {Φ : DQ} {Ψ : DZ} (hm : 0 < m) (hm2 : m < 1073741824) (hn : g.n < 900000) (h : ∀ i : Int, 0 ≤ i → i < m → Φ (.int i) { g with n := g.n + 1 }) : S__law_take [.pen, .int m] g Φ Ψ := by
  have fin : ∀ i : Int, Φ (.int (i % m)) { g with n := g.n + 1 } := fun i => h _ (Int.emod_nonneg _ (by omega)) (Int.emod_lt_of_pos _ hm)
  show q__law_take_0 _ _ _
  unfold q__law_take_0 q__law_take_1 q__law_take_2 q__law_take_3 q__law_take_4
  simp only [dSeq, dIfS, dTest, dOp, dPenK, dVar, dC, dSet, dFn, dCons, dNil, dPutRest, dPutAt, dRet, dNext, mask]
  refine ⟨.pen, rfl, rfl, fun d hd => ?_⟩
  obtain ⟨r, rfl⟩ := penV_rest hd
  refine ⟨_, rfl, _, rfl, ite_b (fun hr => ?_) (fun hr => ?_)⟩
  · refine ⟨.pen, rfl, rfl, fun d hd => ?_⟩
    obtain ⟨r1, rfl⟩ := penV_rest hd
    refine ⟨_, rfl, _, rfl, _, mod_i hm, .pen, rfl, rfl, fun d hd => ?_⟩
    obtain ⟨r2, rfl⟩ := penV_rest hd
    exact ⟨_, rfl, _, rfl, _, fdiv_i hm hm2, rfl, _, g.n + 1, rfl, by omega, _, rfl, fin r1⟩
  · refine ⟨.pen, rfl, rfl, fun d hd => ?_⟩
    obtain ⟨a, rfl, a0, a1⟩ := penV_at hd
    refine ⟨_, rfl, _, rfl, rfl, _, g.n + 1, rfl, by omega, by omega, ?_⟩
    refine ⟨_, rfl, .pen, rfl, rfl, fun d hd => ?_⟩
    obtain ⟨ns, rfl, hns, hcl⟩ := penV_cells hd
    refine ⟨_, rfl, _, rfl, _, rfl, ite_b (fun hb => ?_) (fun hb => ?_)⟩
    · refine ⟨.pen, rfl, rfl, fun d hd => ?_⟩
      obtain ⟨ns', rfl, hns', hcl'⟩ := penV_cells hd
      have hlt : a < (ns'.length : Int) := by
        have := of_decide_eq_true hb
        simp only [List.length_map] at this

        omega
      obtain ⟨k, hk⟩ := ix_ints a0 hlt
      exact ⟨_, rfl, _, hk, take_tail hm hm2 a0 (by omega) fin rfl⟩
    · exact take_tail (k := 0) hm hm2 a0 (by omega) fin rfl
theorem cut63 {xs : List D} (h : xs.length ≤ 63) : cutL xs none (some 63) = xs := by
  have e : HT.sIx xs.length xs.length (some 63) = xs.length := by
    unfold HT.sIx
    simp only [show ¬ ((63 : Int) < 0) by decide, if_false]
    show min 63 xs.length = _
    omega
  unfold cutL
  rw [e]
  simp [HT.sIx]
theorem pen_loop {En : DEnds} {g : Gh} {ns0 : List Int} (hE : ∀ f y : D, (∃ i : Int, f = .int i ∧ 0 ≤ i ∧ i < 2147483629) → En.nx [.fz (.scr ns0), .fz f, .fz y] g) (hE0 : ∀ f : D, (∃ i : Int, f = .int i ∧ 0 ≤ i ∧ i < 2147483629) → En.nx [.fz (.scr ns0), .fz f, .un] g) :
    ∀ (ns : List Int) (f : Int) (y : SV), 0 ≤ f → f < 2147483629 → (y = .un ∨ ∃ d, y = .fz d) → forD (gN 2) lb1__law_pen_0 En (ns.map D.int) [.fz (.scr ns0), .fz (.int f), y] g
  | [], f, y, h0, h1, hy => by
    rcases hy with rfl | ⟨d, rfl⟩
    · exact hE0 _ ⟨f, rfl, h0, h1⟩
    · exact hE _ _ ⟨f, rfl, h0, h1⟩
  | k :: ns, f, y, h0, h1, hy => by
    refine ⟨_, rfl, ?_⟩
    unfold lb1__law_pen_0
    simp only [dSet, dOp, dFn, dCons, dNil, dVar, dC, mask]
    refine ⟨_, rfl, _, mul_i (by rw [Bool.or_eq_true]; exact .inr (by decide)), _, rfl, _, rfl, _, mod_i (by decide), _, rfl, _, rfl, _, rfl, _, mod_i (by decide), ?_⟩
    exact pen_loop hE hE0 ns _ _ (Int.emod_nonneg _ (by decide)) (Int.emod_lt_of_pos _ (by decide)) (.inr ⟨_, rfl⟩)
theorem pen_ok {ns : List Int} {Φ : DQ} {Ψ : DZ} (hl : ns.length ≤ 63) (h : Φ .pen ⟨true, 0, [], ns.length⟩) : S__law_pen [.scr ns] ⟨false, 0, [], 0⟩ Φ Ψ := by
  have hc : slD (.scr ns) none (some 63) = some (.lst (ns.map D.int)) := by
    show some (D.lst (cutL (ns.map D.int) none (some 63))) = _
    rw [cut63 (by rw [List.length_map]; exact hl)]
  have fin : ∀ (f : D) (y : SV), (∃ i : Int, f = .int i ∧ 0 ≤ i ∧ i < 2147483629) → q__law_pen_2 { nx := fun _ g' => Φ .non g', rt := Φ, xz := fun ex _ g' => Ψ ex g' } [.fz (.scr ns), .fz f, y] ⟨false, 0, [], 0⟩ := by
    rintro f y ⟨i, rfl, h0, h1⟩
    unfold q__law_pen_2
    simp only [dRet, dPenNew, dPCons, dPNil, dFn, dCons, dNil, dSl, dVar, dC, dNoPart, dPart, mask]
    exact ⟨_, rfl, _, rfl, _, rfl, _, hc, _, rfl, _, rfl, _, rfl, _, rfl, _, rfl, ns, 0, 0, i, rfl, hl, h0, h1, by decide, by decide, trivial, h⟩
  show q__law_pen_0 _ _ _
  unfold q__law_pen_0 q__law_pen_1
  simp only [dSeq, dSet, dC, dFor, dList, dSl, dVar, dNoPart, dPart, mask]
  exact ⟨_, rfl, _, rfl, _, hc, _, rfl, pen_loop (fun f y hf => fin f _ hf) (fun f hf => fin f _ hf) ns 97 .un (by decide) (by decide) (.inl rfl)⟩
end K09

namespace K09
open PySem L2 DL PyProof.Rows
/-! ### schemes -/
abbrev cS : Nat := 2
inductive Kd3 where
  | s | w | f
def Kd3.nm : Kd3 → Str
  | .s => "strict"
  | .w => "weak"
  | .f => "free"
structure Num where
  nm : Str
  pl : Nat
  kd : Kd3
abbrev Num.d (n : Num) : D := .tup [.str n.nm, .int (n.pl : Nat), .str n.kd.nm]
abbrev cellD (c : Str × Nat) : D := .tup [.str c.1, .int (c.2 : Nat)]
def ltrs : List Nat := ("abcdefghijklmnopqrstuvwxyz" : Str).cps.toList
def nameB (s : Str) : Bool := decide (1 ≤ s.length) && decide (s.length ≤ 12) && s.cps.toList.all fun c => decide (c ∈ ltrs)
theorem whole_i {i : Int} : F_is_whole [.int i] = .ok (.bl true) := by kernel_rfl
theorem bools_map {α : Type} {p : α → Bool} : ∀ as : List α, bools (as.map fun a => .bl (p a)) = some (as.map p)
  | [] => rfl
  | a :: as => by
    have := bools_map (p := p) as
    simp only [List.map_cons]
    show (match bools (as.map fun a => .bl (p a)) with | some l => some (p a :: l) | none => none) = _
    rw [this]
theorem all_map {α : Type} {p : α → Bool} (as : List α) : allD [.lst (as.map fun a => .bl (p a))] = some (.bl (as.all p)) := by
  show (bools (as.map fun a => .bl (p a))).map (fun bs => D.bl (bs.all id)) = _
  rw [bools_map]
  show some (D.bl ((as.map p).all id)) = _
  rw [List.all_map]; rfl
theorem and_f {fa fb : DEnv → R D} {η : DEnv} (h : fa η = .ok (.bl false)) : fAnd fa fb η = .ok (.bl false) := by unfold fAnd; rw [h]; rfl
theorem and_t {fa fb : DEnv → R D} {η : DEnv} {r : R D} (h : fa η = .ok (.bl true)) (h2 : fb η = r) : fAnd fa fb η = r := by unfold fAnd; rw [h]; exact h2
theorem or_t {fa fb : DEnv → R D} {η : DEnv} (h : fa η = .ok (.bl true)) : fOr fa fb η = .ok (.bl true) := by unfold fOr; rw [h]; rfl
theorem or_f {fa fb : DEnv → R D} {η : DEnv} {r : R D} (h : fa η = .ok (.bl false)) (h2 : fb η = r) : fOr fa fb η = r := by unfold fOr; rw [h]; exact h2
theorem not_of {fa : DEnv → R D} {η : DEnv} {b : Bool} (h : fa η = .ok (.bl b)) : fNot fa η = .ok (.bl (!b)) := by unfold fNot; rw [h]; rfl
theorem chain_tt {f f' : D → D → Option D} {fa fb fc : DEnv → R D} {η : DEnv} {x y w z : D} (h1 : fa η = .ok x) (h2 : fb η = .ok y) (h3 : f x y = some (.bl true)) (h4 : fc η = .ok w) (h5 : f' y w = some z) : fChain f f' fa fb fc η = .ok z := by
  rw [chain_t h1 h2 h3, h4, bind_ok, h5]; rfl
theorem chain_ff {f f' : D → D → Option D} {fa fb fc : DEnv → R D} {η : DEnv} {x y : D} (h1 : fa η = .ok x) (h2 : fb η = .ok y) (h3 : f x y = some (.bl false)) : fChain f f' fa fb fc η = .ok (.bl false) := by
  rw [chain_e, h1, bind_ok, h2, bind_ok, h3]; rfl
theorem notT_t {fA : DEnv → R Bool} {η : DEnv} (h : fA η = .ok true) : fNotT fA η = .ok false := by unfold fNotT; rw [h]; rfl
theorem notT_f {fA : DEnv → R Bool} {η : DEnv} (h : fA η = .ok false) : fNotT fA η = .ok true := by unfold fNotT; rw [h]; rfl
/-- a loop over what comes of other items, with what lies ahead -/
theorem for_pre {α : Type} {g : α → D} {tg : DG} {fb : SEnv → Fl} (I : List α → SEnv → Prop) (all : List α) : ∀ (xs dn : List α) (ρ : SEnv), all = dn ++ xs → I dn ρ → (∀ dn x rest ρ, all = dn ++ x :: rest → I dn ρ → ∃ ρ' ρ'', tg (g x) ρ = some ρ' ∧ fb ρ' = .nx ρ'' ∧ I (dn ++ [x]) ρ'') → ∃ ρ', forF tg fb (xs.map g) ρ = .nx ρ' ∧ I all ρ'
  | [], dn, ρ, e, hi, _ => ⟨ρ, rfl, by rw [e, List.append_nil]; exact hi⟩
  | x :: xs, dn, ρ, e, hi, k => by
    obtain ⟨ρ', ρ'', e1, e2, hi2⟩ := k dn x xs ρ e hi
    obtain ⟨ρ3, e3, hi3⟩ := for_pre I all xs (dn ++ [x]) ρ'' (by rw [e]; simp) hi2 k
    exact ⟨ρ3, by rw [List.map_cons, for_cons e1, e2]; exact e3, hi3⟩
theorem zip_pre {α : Type} {xs : List α} {dn rest : List (α × Nat)} {p : α × Nat} (h : xs.zipIdx = dn ++ p :: rest) : xs = dn.map (·.1) ++ p.1 :: rest.map (·.1) ∧ p.2 = dn.length := by
  have h1 : xs = dn.map (·.1) ++ p.1 :: rest.map (·.1) := by
    have := congrArg (List.map (·.1)) h
    simpa using this
  refine ⟨h1, ?_⟩
  have h2 : xs.zipIdx[dn.length]? = some p := by rw [h]; simp
  rw [List.getElem?_zipIdx] at h2
  cases e : xs[dn.length]? with
  | none => rw [e] at h2; cases h2
  | some a => rw [e] at h2; simp at h2; rw [← h2]
theorem len_str {s : Str} (h : s.length < 1000) : lenD [.str s] = some (.int (s.length : Nat)) := by
  have : 1000 < sizeLine := by decide
  show (if s.length ≤ sizeLine then _ else _) = _
  rw [if_pos (by omega)]
theorem name_ok {s : Str} (hl : s.length < 1000) : F_is_name [.str s] = .ok (.bl (nameB s)) := by
  show (f_q_is_name_0 [.fz (.str s), .un]).out = _
  have key : f_q_is_name_0 [.fz (.str s), .un] = .rt (.bl (nameB s)) := by
    unfold f_q_is_name_0 nameB
    refine ret_of (and_t (u_of rfl rfl) ?_)
    by_cases h1 : 1 ≤ s.length
    · by_cases h2 : s.length ≤ 12
      · rw [decide_eq_true h1, decide_eq_true h2, Bool.true_and, Bool.true_and]
        refine and_t (chain_tt rfl (fn_of (cons_of rfl rfl) (len_str hl)) (by rw [le_i, decide_eq_true (by omega)]) rfl (by rw [v_MOST_LETTERS, le_i, decide_eq_true (by omega)])) ?_
        refine fn_of (cons_of (lc_of (g := fun c => D.str ⟨#[c]⟩) (h := fun c => .bl (decide (c ∈ ltrs))) (as := s.cps.toList) rfl (by rw [show s.cps.toList.length = s.length by simp [Str.length]]; omega) fun c hc => ⟨_, rfl, rfl, op_of rfl rfl rfl⟩) rfl) (all_map _)
      · rw [decide_eq_true h1, decide_eq_false h2, Bool.and_false, Bool.false_and]
        exact and_f (chain_tt rfl (fn_of (cons_of rfl rfl) (len_str hl)) (by rw [le_i, decide_eq_true (by omega)]) rfl (by rw [v_MOST_LETTERS, le_i, decide_eq_false (by omega)]))
    · rw [decide_eq_false h1, Bool.false_and, Bool.false_and]
      exact and_f (chain_ff rfl (fn_of (cons_of rfl rfl) (len_str hl)) (by rw [le_i, decide_eq_false (by omega)]))
  rw [key]
  rfl
theorem name_len {s : Str} (h : nameB s = true) : 1 ≤ s.length ∧ s.length ≤ 12 := by
  unfold nameB at h
  simp only [Bool.and_eq_true, decide_eq_true_eq] at h
  exact ⟨h.1.1, h.1.2⟩
theorem strOk_of {s : Str} (h : nameB s = true) : PyData.strOk s = true := by
  unfold nameB at h
  simp only [Bool.and_eq_true, List.all_eq_true, decide_eq_true_eq] at h
  have all : ∀ c ∈ ltrs, c < 0x110000 := by decide
  unfold PyData.strOk
  rw [Array.all_eq_true']
  intro c hc
  simpa using all c (h.2 c (Array.mem_toList_iff.mpr hc))
theorem kd_ok (k : Kd3) : PyData.strOk k.nm = true := by cases k <;> kernel_rfl
theorem kd_in (k : Kd3) : inA false (.str k.nm) v_KINDS = some (.bl true) := by cases k <;> kernel_rfl
section
variable {ns : List Num} {cs : List (Str × Nat)}
structure SchOk (ns : List Num) (cs : List (Str × Nat)) : Prop where
  n1 : 1 ≤ ns.length
  n3 : ns.length ≤ 3
  nm : ∀ n ∈ ns, nameB n.nm = true
  pl : ∀ n ∈ ns, 1 ≤ n.pl ∧ n.pl ≤ 4
  nd : (ns.map Num.nm).Nodup
  c1 : 1 ≤ cs.length
  c8 : cs.length ≤ 8
  cin : ∀ c ∈ cs, ∃ n ∈ ns, c.1 = n.nm ∧ c.2 < n.pl
  all : ∀ n ∈ ns, ∀ p, p < n.pl → (n.nm, p) ∈ cs
theorem num_sm {n : Num} (h : nameB n.nm = true) : n.d.sm = true ∧ n.d.dp ≤ 1 := by
  constructor
  · simp [D.sm, smAll, strOk_of h, kd_ok]
  · simp [D.dp, dpAll]
theorem cell_sm {c : Str × Nat} (h : nameB c.1 = true) : (cellD c).sm = true ∧ (cellD c).dp ≤ 1 := by
  constructor
  · simp [D.sm, smAll, strOk_of h]
  · simp [D.dp, dpAll]
theorem cellD_inj {c e : Str × Nat} : cellD c = cellD e ↔ c = e := by
  constructor
  · intro h
    simp only [D.tup.injEq, List.cons.injEq, D.str.injEq, D.int.injEq, and_true] at h
    obtain ⟨h1, h2⟩ := h
    cases c; cases e
    simp only [Prod.mk.injEq]
    exact ⟨h1, by simp at h2; omega⟩
  · rintro rfl; rfl
theorem number_ok {n : Num} (hn : nameB n.nm = true) (hp : 1 ≤ n.pl ∧ n.pl ≤ 4) : F_is_number [n.d] = .ok (.bl true) := by
  have hl := name_len hn
  have i0 : ixA n.d (.int 0) = some (.str n.nm) := ix_t (i := 0) rfl
  have i1 : ixA n.d (.int 1) = some (.int (n.pl : Nat)) := ix_t (i := 1) rfl
  have i2 : ixA n.d (.int 2) = some (.str n.kd.nm) := ix_t (i := 2) rfl
  have pls : F_is_places [.int (n.pl : Nat)] = .ok (.bl true) := by
    show (f_q_is_places_0 [.fz (.int (n.pl : Nat))]).out = _
    rw [show f_q_is_places_0 [.fz (.int (n.pl : Nat))] = .rt (.bl true) from ret_of (and_t (call_of (cons_of rfl rfl) whole_i) (chain_tt rfl rfl (by rw [le_i, decide_eq_true (by omega)]) rfl (by rw [v_MOST_PLACES, le_i, decide_eq_true (by omega)])))]
    rfl
  have nmo : F_is_name [.str n.nm] = .ok (.bl true) := by rw [name_ok (by omega), hn]
  show (f_q_is_number_0 [.fz n.d]).out = _
  rw [show f_q_is_number_0 [.fz n.d] = .rt (.bl true) from seq_of (if_f (orT_f (notT_t (test_of (u_of rfl rfl))) (test_of (op_of (fn_of (cons_of rfl rfl) rfl) rfl (by rw [eqA_i]; rfl)))) rfl) (ret_of (and_t (call_of (cons_of (op_of rfl rfl i0) rfl) nmo) (and_t (call_of (cons_of (op_of rfl rfl i1) rfl) pls) (and_t (u_of (op_of rfl rfl i2) rfl) (op_of (op_of rfl rfl i2) rfl (kd_in n.kd))))))]
  rfl
theorem nil_ne {xs : List D} {x : D} (h : smAll (x :: xs) = true) (hd : dpAll (x :: xs) ≤ 50) {neg : Bool} : eqA neg (.lst (x :: xs)) (.lst []) = some (.bl neg) :=
  eqA_diff (by simpa [D.sm] using h) (by simp [D.sm, smAll]) (by simp only [D.dp]; omega) (by simp [D.dp, dpAll]) (by simp)
theorem nums_sm (h : ∀ n ∈ ns, nameB n.nm = true) : smAll (ns.map Num.d) = true ∧ dpAll (ns.map Num.d) ≤ 1 := by
  refine ⟨sm_all fun x hx => ?_, dp_all fun x hx => ?_⟩ <;> (obtain ⟨n, hn, rfl⟩ := List.mem_map.mp hx)
  · exact (num_sm (h n hn)).1
  · exact (num_sm (h n hn)).2
theorem names_in {xs : List Str} {x : Str} (h : ∀ y ∈ xs, nameB y = true) (hx : nameB x = true) : inA false (.str x) (.lst (xs.map D.str)) = some (.bl (decide (x ∈ xs))) := by
  have sm : smAll (xs.map D.str) = true := sm_all fun y hy => by
    obtain ⟨z, hz, rfl⟩ := List.mem_map.mp hy
    simp [D.sm, strOk_of (h z hz)]
  have dp : dpAll (xs.map D.str) ≤ 0 := dp_all fun y hy => by
    obtain ⟨z, hz, rfl⟩ := List.mem_map.mp hy
    simp [D.dp]
  refine (inA_sm (P := x ∈ xs) (neg := false) (by simp [D.sm, strOk_of hx]) (by simp [D.dp]) (by simpa [D.sm] using sm) (by simp only [D.dp]; omega) rfl ?_).trans rfl
  simp
theorem numbers_ok (S : SchOk ns cs) : F_check_numbers [.lst (ns.map Num.d)] = .ok .non := by
  have n3 := S.n3
  obtain ⟨ρ', e, s2, s3, rfl⟩ := for_pre (g := fun p : Num × Nat => D.tup [.int (p.2 : Nat), p.1.d]) (tg := gT [2, 3]) (fb := f_lb1_check_numbers_0) (fun dn ρ => ∃ s2 s3, ρ = [.fz (.lst (ns.map Num.d)), .ow ((dn.map fun p => p.1.nm).map D.str), s2, s3]) ns.zipIdx ns.zipIdx [] [.fz (.lst (ns.map Num.d)), .ow [], .un, .un] rfl ⟨_, _, rfl⟩ (by
    rintro dn ⟨n, i⟩ rest _ h ⟨s2, s3, rfl⟩
    obtain ⟨h1, h2⟩ := zip_pre h
    dsimp only at h1 h2
    subst h2
    have hm : n ∈ ns := by rw [h1]; simp
    have hlen : dn.length < ns.length := by rw [h1]; simp
    have nd := S.nd
    have hnd : n.nm ∉ dn.map fun p => p.1.nm := by
      rw [h1, List.map_append, List.map_cons, List.nodup_append] at nd
      intro hc
      refine nd.2.2 n.nm ?_ n.nm (by simp) rfl
      rw [List.map_map]
      exact hc
    have i0 : ixA n.d (.int 0) = some (.str n.nm) := ix_t (i := 0) rfl
    have inn := names_in (xs := dn.map fun p => p.1.nm) (x := n.nm) (fun y hy => by
      obtain ⟨p, hp, rfl⟩ := List.mem_map.mp hy
      exact S.nm p.1 (by rw [h1]; exact List.mem_append.mpr (.inl (List.mem_map.mpr ⟨p, hp, rfl⟩)))) (S.nm n hm)
    rw [decide_eq_false hnd] at inn
    refine ⟨[.fz (.lst (ns.map Num.d)), .ow ((dn.map fun p => p.1.nm).map D.str), .fz (.int (dn.length : Nat)), .fz n.d], [.fz (.lst (ns.map Num.d)), .ow ((dn.map fun p => p.1.nm).map D.str ++ [.str n.nm]), .fz (.int (dn.length : Nat)), .fz n.d], rfl, ?_, .fz (.int (dn.length : Nat)), .fz n.d, by simp⟩
    refine seq_of (ifS_f (orT_f (test_of (op_of rfl rfl (by rw [eqA_i]; simp; omega))) (orT_f (notT_t (test_of (call_of (cons_of rfl rfl) (number_ok (S.nm n hm) (S.pl n hm))))) (test_of (op_of (op_of rfl rfl i0) rfl inn)))) rfl) (fAppend_ok rfl (op_of rfl rfl i0) (by simp; omega)))
  obtain ⟨n0, nr, e0⟩ : ∃ n0 nr, ns = n0 :: nr := by
    have := S.n1
    cases ns with
    | nil => simp at this
    | cons a b => exact ⟨a, b, rfl⟩
  have sm := nums_sm S.nm
  have ne : eqL false (.lst (ns.map Num.d)) (.lst []) = some (.bl false) := by
    rw [e0]; rfl
  show (f_q_check_numbers_0 [.fz (.lst (ns.map Num.d)), .un, .un, .un]).out = _
  rw [show f_q_check_numbers_0 [.fz (.lst (ns.map Num.d)), .un, .un, .un] = .nx [.fz (.lst (ns.map Num.d)), .ow ((ns.zipIdx.map fun p => p.1.nm).map D.str), s2, s3] from seq_of (if_f (orT_f (notT_t (test_of (u_of rfl rfl))) (test_of (op_of rfl (lst_of (xs := []) rfl (by simp)) ne))) rfl) (seq_of (setO_of (xs := []) rfl) (for_of (enum_of rfl rfl) e))]
  rfl
/-! cells -/
def plD (ns : List Num) : List (Key × D) := ns.map fun n => (.inr n.nm, .int (n.pl : Nat))
theorem fold_put : ∀ (ns : List Num) (acc : List (Key × D)), (ns.map Num.nm).Nodup → (∀ n ∈ ns, ∀ kv ∈ acc, kv.1 ≠ .inr n.nm) → ns.foldl (fun acc n => putD acc (.inr n.nm) (.int (n.pl : Nat))) acc = acc ++ plD ns
  | [], acc, _, _ => by simp [plD]
  | n :: ns, acc, nd, h => by
    rw [List.map_cons, List.nodup_cons] at nd
    have e : putD acc (.inr n.nm) (.int (n.pl : Nat)) = acc ++ [(.inr n.nm, .int (n.pl : Nat))] := by
      unfold putD
      rw [if_neg]
      intro hc
      rw [List.any_eq_true] at hc
      obtain ⟨kv, hk, he⟩ := hc
      exact h n List.mem_cons_self kv hk (of_decide_eq_true he)
    rw [List.foldl_cons, e, fold_put ns _ nd.2 fun m hm kv hk => ?_]
    · simp [plD]
    · rcases List.mem_append.mp hk with hk | hk
      · exact h m (List.mem_cons_of_mem _ hm) kv hk
      · rw [List.mem_singleton.mp hk]
        intro hc
        exact nd.1 (by rw [Sum.inr.inj hc]; exact List.mem_map.mpr ⟨m, hm, rfl⟩)
theorem val_in : ∀ {ns : List Num}, (ns.map Num.nm).Nodup → ∀ {n : Num}, n ∈ ns → valD (plD ns) (.inr n.nm) = some (.int (n.pl : Nat))
  | m :: ns, nd, n, hn => by
    rw [List.map_cons, List.nodup_cons] at nd
    unfold valD plD
    rw [List.map_cons, List.find?_cons]
    by_cases e : m.nm = n.nm
    · rw [decide_eq_true (show (Sum.inr m.nm : Key) = .inr n.nm by rw [e])]
      rcases List.mem_cons.mp hn with rfl | hn
      · rfl
      · exact absurd (by rw [e]; exact List.mem_map.mpr ⟨n, hn, rfl⟩) nd.1
    · rw [decide_eq_false (show ¬ (Sum.inr m.nm : Key) = .inr n.nm from fun z => e (Sum.inr.inj z))]
      rcases List.mem_cons.mp hn with rfl | hn
      · exact absurd rfl e
      · exact val_in nd.2 hn
theorem cell_ok (S : SchOk ns cs) {c : Str × Nat} (hc : ∃ n ∈ ns, c.1 = n.nm ∧ c.2 < n.pl) : F_is_cell [cellD c, .dct (plD ns)] = .ok (.bl true) := by
  obtain ⟨n, hn, e1, e2⟩ := hc
  have i0 : ixA (cellD c) (.int 0) = some (.str c.1) := ix_t (i := 0) rfl
  have i1 : ixA (cellD c) (.int 1) = some (.int (c.2 : Nat)) := ix_t (i := 1) rfl
  have v := val_in S.nd hn
  have g1 : inA true (.str c.1) (.dct (plD ns)) = some (.bl false) := by
    show dinD true (.str c.1) (.dct (plD ns)) = _
    simp only [dinD, keyD, e1, Option.map_some, Option.bind_some, v]
    rfl
  have g2 : ixA (.dct (plD ns)) (.str c.1) = some (.int (n.pl : Nat)) := by
    show dgetD (.dct (plD ns)) (.str c.1) = _
    simp only [dgetD, keyD, e1, Option.bind_some, v]
  show (f_q_is_cell_0 [.fz (cellD c), .fz (.dct (plD ns))]).out = _
  rw [show f_q_is_cell_0 [.fz (cellD c), .fz (.dct (plD ns))] = .rt (.bl true) from seq_of (if_f (orT_f (notT_t (test_of (u_of rfl rfl))) (orT_f (test_of (op_of (fn_of (cons_of rfl rfl) rfl) rfl (by rw [eqA_i]; rfl))) (orT_f (notT_t (test_of (u_of (op_of rfl rfl i0) rfl))) (test_of (op_of (op_of rfl rfl i0) rfl g1))))) rfl) (ret_of (and_t (call_of (cons_of (op_of rfl rfl i1) rfl) whole_i) (chain_tt rfl (op_of rfl rfl i1) (by rw [le_i, decide_eq_true (by omega)]) (op_of rfl (op_of rfl rfl i0) g2) (by rw [lt_i, decide_eq_true (by omega)]))))]
  rfl
theorem cells_sm (h : ∀ c ∈ cs, nameB c.1 = true) : smAll (cs.map cellD) = true ∧ dpAll (cs.map cellD) ≤ 1 := by
  refine ⟨sm_all fun x hx => ?_, dp_all fun x hx => ?_⟩ <;> (obtain ⟨n, hn, rfl⟩ := List.mem_map.mp hx)
  · exact (cell_sm (h n hn)).1
  · exact (cell_sm (h n hn)).2
theorem SchOk.cn (S : SchOk ns cs) : ∀ c ∈ cs, nameB c.1 = true := fun c hc => by
  obtain ⟨n, hn, e, _⟩ := S.cin c hc
  rw [e]; exact S.nm n hn
theorem cell_in (hs : ∀ c ∈ cs, nameB c.1 = true) {c : Str × Nat} (hc : nameB c.1 = true) {neg : Bool} {y : D} (hy : seqD y = some (cs.map cellD)) : inA neg (cellD c) y = some (.bl (if neg = true then !decide (c ∈ cs) else decide (c ∈ cs))) := by
  have sm := cells_sm hs
  have q := cell_sm hc
  refine inA_sm (P := c ∈ cs) q.1 (by omega) ?_ ?_ hy ?_
  · cases y <;> simp only [seqD, reduceCtorEq, Option.some.injEq] at hy <;> subst hy <;> simpa [D.sm] using sm.1
  · cases y <;> simp only [seqD, reduceCtorEq, Option.some.injEq] at hy <;> subst hy <;> (simp only [D.dp]; omega)
  · constructor
    · intro h
      obtain ⟨e, he, h2⟩ := List.mem_map.mp h
      rw [← cellD_inj.mp h2]; exact he
    · exact fun h => List.mem_map.mpr ⟨c, h, rfl⟩
theorem cells_ok (S : SchOk ns cs) : F_check_cells [.lst (cs.map cellD), .lst (ns.map Num.d)] = .ok .non := by
  have n3 := S.n3
  have c8 := S.c8
  have dc : fDc (fSeqI (fVar 1)) (pT [5, 6, 7]) (fun _ => .ok true) (fVar 5) (fVar 6) [5, 6, 7] (mask [.fz (.lst (cs.map cellD)), .fz (.lst (ns.map Num.d)), .un, .un, .un, .un, .un, .un, .un]) = .ok (.dct (plD ns)) := by
    refine (dc_of (gg := Num.d) (hv := fun n => .int (n.pl : Nat)) (hk := fun n => .inr n.nm) (as := ns) rfl (by omega) fun n hn => ⟨_, .str n.nm, rfl, rfl, rfl, rfl, rfl⟩).trans ?_
    rw [fold_put ns [] S.nd (fun _ _ _ h => nomatch h)]
    rfl
  obtain ⟨ρ', e, s3, s4, rfl⟩ := for_pre (g := fun p : (Str × Nat) × Nat => D.tup [.int (p.2 : Nat), cellD p.1]) (tg := gT [3, 4]) (fb := f_lb1_check_cells_0) (fun dn ρ => ∃ s3 s4, ρ = [.fz (.lst (cs.map cellD)), .fz (.lst (ns.map Num.d)), .fz (.dct (plD ns)), s3, s4, .un, .un, .un, .un]) cs.zipIdx cs.zipIdx [] [.fz (.lst (cs.map cellD)), .fz (.lst (ns.map Num.d)), .fz (.dct (plD ns)), .un, .un, .un, .un, .un, .un] rfl ⟨_, _, rfl⟩ (by
    rintro dn ⟨c, i⟩ rest _ h ⟨s3, s4, rfl⟩
    obtain ⟨h1, h2⟩ := zip_pre h
    dsimp only at h1 h2
    subst h2
    have hm : c ∈ cs := by rw [h1]; simp
    have hlen : dn.length < cs.length := by rw [h1]; simp
    refine ⟨_, [.fz (.lst (cs.map cellD)), .fz (.lst (ns.map Num.d)), .fz (.dct (plD ns)), .fz (.int (dn.length : Nat)), .fz (cellD c), .un, .un, .un, .un], rfl, ?_, .fz (.int (dn.length : Nat)), .fz (cellD c), rfl⟩
    exact if_f (orT_f (test_of (op_of rfl rfl (by rw [eqA_i]; simp; omega))) (notT_t (test_of (call_of (cons_of rfl (cons_of rfl rfl)) (cell_ok S (S.cin c hm)))))) rfl)
  obtain ⟨ρ2, e2, s5, s6, s7, rfl⟩ := for_fold (g := Num.d) (tg := gT [5, 6, 7]) (fb := f_lb2_check_cells_0) (fun dn ρ => ∃ s5 s6 s7, ρ = [.fz (.lst (cs.map cellD)), .fz (.lst (ns.map Num.d)), .fz (.dct (plD ns)), s3, s4, s5, s6, s7, .un]) ns [] [.fz (.lst (cs.map cellD)), .fz (.lst (ns.map Num.d)), .fz (.dct (plD ns)), s3, s4, .un, .un, .un, .un] ⟨_, _, _, rfl⟩ (by
    rintro dn n ρ hn hl ⟨s5, s6, s7, rfl⟩
    have p4 := (S.pl n hn).2
    refine ⟨_, [.fz (.lst (cs.map cellD)), .fz (.lst (ns.map Num.d)), .fz (.dct (plD ns)), s3, s4, .fz (.str n.nm), .fz (.int (n.pl : Nat)), .fz (.str n.kd.nm), .un], rfl, ?_, _, _, _, rfl⟩
    refine if_f (notT_t (test_of (fn_of (cons_of (lc_of (g := fun p : Nat => D.int (p : Nat)) (h := fun p => .bl (decide ((n.nm, p) ∈ cs))) (as := List.range n.pl) (range1_of rfl (by omega)) (by simp; omega) fun p hp => ⟨_, rfl, rfl, op_of (tup_of (cons_of rfl (cons_of rfl rfl)) (by simp)) rfl (cell_in (c := (n.nm, p)) S.cn (S.nm n hn) rfl)⟩) rfl) ?_))) rfl
    rw [all_map]
    congr 2
    rw [List.all_eq_true]
    intro p hp
    rw [decide_eq_true (S.all n hn p (List.mem_range.mp hp))])
  obtain ⟨c0, cr, e0⟩ : ∃ c0 cr, cs = c0 :: cr := by
    have := S.c1
    cases cs with
    | nil => simp at this
    | cons a b => exact ⟨a, b, rfl⟩
  have sm := cells_sm S.cn
  have ne : eqL false (.lst (cs.map cellD)) (.lst []) = some (.bl false) := by
    rw [e0]; rfl
  show (f_q_check_cells_0 [.fz (.lst (cs.map cellD)), .fz (.lst (ns.map Num.d)), .un, .un, .un, .un, .un, .un, .un]).out = _
  rw [show f_q_check_cells_0 [.fz (.lst (cs.map cellD)), .fz (.lst (ns.map Num.d)), .un, .un, .un, .un, .un, .un, .un] = .nx [.fz (.lst (cs.map cellD)), .fz (.lst (ns.map Num.d)), .fz (.dct (plD ns)), s3, s4, s5, s6, s7, .un] from seq_of (if_f (orT_f (notT_t (test_of (u_of rfl rfl))) (test_of (op_of rfl (lst_of (xs := []) rfl (by simp)) ne))) rfl) (seq_of (set_of dc) (seq_of (for_of (enum_of rfl rfl) e) (for_of rfl e2)))]
  rfl
abbrev sch (ns : List Num) (cs : List (Str × Nat)) : D := .obj cS [("numbers", .tup (ns.map Num.d)), ("cells", .tup (cs.map cellD))]
theorem sch_ok (S : SchOk ns cs) : F_Scheme_init cS [] [.lst (ns.map Num.d), .lst (cs.map cellD)] = .ok [("numbers", .tup (ns.map Num.d)), ("cells", .tup (cs.map cellD))] := by
  show outIn cS (f_q_Scheme_init_0 [.ob cS [], .fz (.lst (ns.map Num.d)), .fz (.lst (cs.map cellD))]) = _
  have h1 := numbers_ok S
  have h2 := cells_ok S
  have pc {a b : D} : putFD "cells" a [("numbers", b)] = ([("numbers", b), ("cells", a)] : List (Str × D)) := by kernel_rfl
  have p0 {a : D} : putFD "numbers" a [] = ([("numbers", a)] : List (Str × D)) := rfl
  simp [bind_ok, bind_ex, fl_ok, fl_ex, seq_nx, seq_rt, seq_ex, ofO_some, quiet_ok, bl?_bl, int?_int, seqD_lst, seqD_tup, out_nx, out_rt, out_ex, var_0, var_s, mask_nil, mask_fz, mask_cons, msk_fz, chain_e, chain2_bl, lt_i, le_i, gt_i, ge_i, add_ii, sub_ii, len_l, len_t, tup_l, tup_t, for_nil, forK_nx, forK_rt, fC, fOp, fAnd, fOr, fNot, fIf, fTest, fAndT, fOrT, fNotT, fCons, fTup, fLst, fFn, fU, fM, fPart, fSl, fExc, fSeqI, fEnumX, fZipX, fCall, fSeq, fSet, fRet, fDrop, fIfF, fFor, fRaise, f_q_Scheme_init_0, f_q_Scheme_init_1, f_q_Scheme_init_2, f_q_Scheme_init_3, h1, h2, fSelf, pc, p0, outIn]
theorem slen_ok : F_Scheme___len__ [sch ns cs] = .ok (.int (cs.length : Nat)) := by
  have h : attrD "cells" [cS] [] (sch ns cs) = some (.tup (cs.map cellD)) := by kernel_rfl
  show (f_q_Scheme___len___0 [.fz (sch ns cs)]).out = _
  rw [show f_q_Scheme___len___0 [.fz (sch ns cs)] = .rt (.int (cs.length : Nat)) from ret_of (fn_of (cons_of (u_of rfl h) rfl) (by rw [len_t, List.length_map]))]
  rfl
end
end K09

namespace K09
open PySem L2 DL PyProof.Rows
section
variable {ns : List Num} {cs : List (Str × Nat)} {ls : List Nat} {ts : List (Nat × Nat)}
theorem getN {α : Type} {xs : List α} {i : Nat} {d : α} (h : i < xs.length) : xs[i]? = some (xs.getD i d) := by
  rw [List.getD_eq_getElem?_getD, List.getElem?_eq_getElem h]; rfl
theorem cell_eq {c e : Str × Nat} (hc : nameB c.1 = true) (he : nameB e.1 = true) {neg : Bool} : eqA neg (cellD c) (cellD e) = some (.bl (if neg = true then !decide (c = e) else decide (c = e))) :=
  eqA_iff (cell_sm hc).1 (cell_sm he).1 (by have := (cell_sm hc).2; omega) (by have := (cell_sm he).2; omega) cellD_inj
theorem at_cells {ns : List Num} {cs : List (Str × Nat)} : attrD "cells" [cS] [] (sch ns cs) = some (.tup (cs.map cellD)) := by kernel_rfl
theorem at_numbers {ns : List Num} {cs : List (Str × Nat)} : attrD "numbers" [cS] [] (sch ns cs) = some (.tup (ns.map Num.d)) := by kernel_rfl
end
section
variable {ns : List Num} {cs : List (Str × Nat)} {ls : List Nat} {ts : List (Nat × Nat)}
theorem new_of {i : Nat} {F : Nat → List (Str × D) → List D → R (List (Str × D))} {fr : DEnv → R (List D)} {η : DEnv} {xs : List D} {fs : List (Str × D)} (h1 : fr η = .ok xs) (h2 : F i [] xs = .ok fs) : fNew i F fr η = .ok (.obj i fs) := by
  unfold fNew; rw [h1, bind_ok, h2]; rfl
end
section
variable {ns : List Num} {cs : List (Str × Nat)} {ls : List Nat} {ts : List (Nat × Nat)}
theorem eq_tup {xs : List D} {neg : Bool} {k : Nat} (h : smAll xs = true) (hd : dpAll xs ≤ k) (hk : k ≤ 20 := by decide) : eqA neg (.tup xs) (.tup xs) = some (.bl (!neg)) := eqA_same (by simpa [D.sm] using h) (by simp only [D.dp]; omega)
theorem eq_lst {xs : List D} {neg : Bool} {k : Nat} (h : smAll xs = true) (hd : dpAll xs ≤ k) (hk : k ≤ 20 := by decide) : eqA neg (.lst xs) (.lst xs) = some (.bl (!neg)) := eqA_same (by simpa [D.sm] using h) (by simp only [D.dp]; omega)
theorem neO_of {i : Nat} {F : List D → R D} {fa fb : DEnv → R D} {η : DEnv} {x y : D} {b : Bool} (h1 : fa η = .ok x) (h2 : fb η = .ok y) (i1 : isOb i x = true) (i2 : isOb i y = true) (h : F [x, y] = .ok (.bl b)) : fNeO i F fa fb η = .ok (.bl (!b)) := by
  unfold fNeO
  rw [h1, bind_ok, h2, bind_ok, i1, i2, Bool.and_true, if_pos rfl, h]
  rfl
end
end K09

namespace K09
open PySem L2 DL PyProof.Rows
/-! ### names drawn -/
section
theorem take_n {m : Int} {n cl : Nat} {Φ : DQ} {Ψ : DZ} (hm : 0 < m) (hm2 : m < 1073741824) (hn : n < 900000) (h : ∀ i : Int, 0 ≤ i → i < m → Φ (.int i) (gh (n + 1) cl)) : S__law_take [.pen, .int m] (gh n cl) Φ Ψ := take_ok hm hm2 hn h
/-- a number drawn, as a plain one -/
theorem take_m {m n cl : Nat} {Φ : DQ} {Ψ : DZ} (hm : 0 < m) (hm2 : m < 1000000) (hn : n < 900000) (h : ∀ i : Nat, i < m → Φ (.int (i : Nat)) (gh (n + 1) cl)) : S__law_take [.pen, .int (m : Nat)] (gh n cl) Φ Ψ :=
  take_n (by omega) (by omega) hn fun i i0 i1 => by
    have := h i.toNat (by omega)
    rwa [show ((i.toNat : Nat) : Int) = i by omega] at this
abbrev sOf (l : List Nat) : Str := ⟨l.toArray⟩
theorem sOf_len (l : List Nat) : (sOf l).length = l.length := by simp [Str.length, sOf]
theorem foldl_app : ∀ (l : List Nat) (acc : Array Nat), (l.map fun c => (⟨#[c]⟩ : Str)).foldl (fun acc p => acc ++ (("" : String) : Str).cps ++ p.cps) acc = acc ++ l.toArray
  | [], acc => by simp
  | c :: l, acc => by
    rw [List.map_cons, List.foldl_cons, foldl_app l]
    have e : (("" : String) : Str).cps = #[] := by decide +kernel
    rw [e]
    apply Array.toList_inj.mp
    simp
theorem join_l (l : List Nat) : Txt.join (("" : String) : Str) (l.map fun c => (⟨#[c]⟩ : Str)) = sOf l := by
  cases l with
  | nil => decide +kernel
  | cons c l =>
    show (⟨List.foldl _ _ _⟩ : Str) = _
    rw [List.map_cons, List.drop_one, List.tail_cons, foldl_app]
    show (⟨#[c] ++ l.toArray⟩ : Str) = ⟨(c :: l).toArray⟩
    congr 1
    apply Array.toList_inj.mp
    simp
theorem texts_l : ∀ l : List Nat, texts (l.map fun c => D.str ⟨#[c]⟩) = some (l.map fun c => (⟨#[c]⟩ : Str))
  | [] => rfl
  | c :: l => by
    show (texts (l.map fun c => D.str ⟨#[c]⟩)).map _ = _
    rw [texts_l l]; rfl
theorem sum_ones : ∀ l : List Nat, ((l.map fun c => (⟨#[c]⟩ : Str)).map (·.length)).sum = l.length
  | [] => rfl
  | c :: l => by
    rw [List.map_cons, List.map_cons, List.sum_cons, sum_ones l]
    show 1 + l.length = l.length + 1
    omega
theorem join_d {l : List Nat} (h : l.length < 1000) : joinD (.str (("" : String) : Str)) (.lst (l.map fun c => D.str ⟨#[c]⟩)) = some (.str (sOf l)) := by
  show (texts (l.map fun c => D.str ⟨#[c]⟩)).bind _ = _
  rw [texts_l, Option.bind_some, sum_ones, join_l, if_pos]
  have e : (("" : String) : Str).length = 0 := by decide +kernel
  rw [e]
  omega
theorem ltr_ix {i : Nat} (h : i < 26) : ixA (.str (("abcdefghijklmnopqrstuvwxyz" : String) : Str)) (.int (i : Nat)) = some (.str ⟨#[ltrs.getD i 0]⟩) := by
  have hl : ltrs.length = 26 := by decide +kernel
  obtain ⟨d, e1, e2⟩ := at_get (xs := ltrs) (a := (i : Nat)) (by omega) (by omega)
  rw [Int.toNat_natCast, getN (d := 0) (by omega)] at e1
  cases e1
  have hz : (("abcdefghijklmnopqrstuvwxyz" : String) : Str).length ≤ sizeLine := by decide +kernel
  show (if (("abcdefghijklmnopqrstuvwxyz" : String) : Str).length ≤ sizeLine then (atI ltrs (i : Nat)).map (fun c => D.str ⟨#[c]⟩) else none) = _
  rw [if_pos hz, e2]
  rfl
theorem one_rt {t : DS} {f : SEnv → Fl} {En : DEnds} {ρ : SEnv} {g : Gh} {d : D} (h : PuS t f) (hg : memNl g = true) (e : f ρ = .rt d) (k : En.rt d g) : t En ρ g := h _ ρ g hg (by rw [e]; exact k)
theorem ltr_in {i : Nat} (h : i < 26) : ltrs.getD i 0 ∈ ltrs := by
  have : ∀ j : Fin 26, ltrs.getD j.1 0 ∈ ltrs := by decide +kernel
  exact this ⟨i, h⟩
theorem ltr_inj {i j : Nat} (hi : i < 26) (hj : j < 26) (h : ltrs.getD i 0 = ltrs.getD j 0) : i = j := by
  have : ∀ i j : Fin 26, ltrs.getD i.1 0 = ltrs.getD j.1 0 → i = j := by decide +kernel
  exact congrArg Fin.val (this ⟨i, hi⟩ ⟨j, hj⟩ h)
theorem cutS_take {l : List Nat} {k : Nat} (h : k ≤ l.length) : slD (.str (sOf l)) none (some (k : Nat)) = if (sOf l).length ≤ sizeLine then some (.str (sOf (l.take k))) else none := by
  show (if (sOf l).length ≤ sizeLine then some (D.str (cutS (sOf l) none (some (k : Nat)))) else none) = _
  have : cutS (sOf l) none (some (k : Nat)) = sOf (l.take k) := by
    unfold cutS
    rw [HT.sIx_nat, HT.sIx_none, sOf_len, Nat.min_eq_left h]
    simp
  rw [this]
theorem cutS_drop {l : List Nat} {k : Nat} (h : k ≤ l.length) : slD (.str (sOf l)) (some (k : Nat)) none = if (sOf l).length ≤ sizeLine then some (.str (sOf (l.drop k))) else none := by
  show (if (sOf l).length ≤ sizeLine then some (D.str (cutS (sOf l) (some (k : Nat)) none)) else none) = _
  have : cutS (sOf l) (some (k : Nat)) none = sOf (l.drop k) := by
    unfold cutS
    rw [HT.sIx_nat, HT.sIx_none, sOf_len, Nat.min_eq_left h]
    congr 1
    rw [List.take_of_length_le (by simp)]
  rw [this]
theorem add_s {a b : List Nat} (h : a.length + b.length < 1000) : addD (.str (sOf a)) (.str (sOf b)) = some (.str (sOf (a ++ b))) := by
  have : 1000 < sizeLine := by decide
  show (if (sOf a).length + (sOf b).length ≤ sizeLine then some (D.str (sOf a ++ sOf b)) else none) = _
  rw [sOf_len, sOf_len, if_pos (by omega)]
  congr 2
  show (⟨a.toArray ++ b.toArray⟩ : Str) = ⟨(a ++ b).toArray⟩
  simp
def nmK (b : List Nat) (spot first k : Nat) : List Nat := b.take spot ++ [ltrs.getD ((first + 5 * k) % 26) 0] ++ b.drop spot
theorem nmK_inj {b : List Nat} {spot first i j : Nat} (hi : i < 3) (hj : j < 3) (h : nmK b spot first i = nmK b spot first j) : i = j := by
  unfold nmK at h
  have h1 := List.append_cancel_right h
  have h2 := List.append_cancel_left h1
  simp only [List.cons.injEq, and_true] at h2
  have := ltr_inj (by omega) (by omega) h2
  omega
theorem nmK_ok {b : List Nat} {spot first k : Nat} (hb : ∀ c ∈ b, c ∈ ltrs) (hl : b.length ≤ 11) (hs : spot ≤ b.length) : nameB (sOf (nmK b spot first k)) = true := by
  unfold nameB
  have hlen : (nmK b spot first k).length = b.length + 1 := by
    unfold nmK
    simp
    omega
  rw [Bool.and_eq_true, Bool.and_eq_true, decide_eq_true_eq, decide_eq_true_eq, sOf_len, hlen, List.all_eq_true]
  refine ⟨⟨by omega, by omega⟩, fun c hc => ?_⟩
  rw [decide_eq_true_eq]
  simp only [nmK, List.mem_append, List.mem_singleton] at hc
  rcases hc with (hc | rfl) | hc
  · exact hb c (List.mem_of_mem_take hc)
  · exact ltr_in (by omega)
  · exact hb c (List.mem_of_mem_drop hc)
theorem chars_of : ∀ {ys : List D}, (∀ y ∈ ys, ∃ c, y = D.str ⟨#[c]⟩ ∧ c ∈ ltrs) → ∃ b : List Nat, ys = b.map (fun c => D.str ⟨#[c]⟩) ∧ ∀ c ∈ b, c ∈ ltrs
  | [], _ => ⟨[], rfl, fun b hb => nomatch hb⟩
  | y :: ys, h => by
    obtain ⟨b, rfl, hb⟩ := h y List.mem_cons_self
    obtain ⟨bs, rfl, hbs⟩ := chars_of fun y hy => h y (List.mem_cons_of_mem _ hy)
    refine ⟨b :: bs, rfl, fun c hc => ?_⟩
    rcases List.mem_cons.mp hc with rfl | hc
    · exact hb
    · exact hbs c hc
theorem int_n {i : Int} : intD [.int i] = some (.int i) := rfl
theorem mod26 {i : Nat} : modD (.int (i : Nat)) (.int 26) = some (.int ((i % 26 : Nat) : Int)) := by
  rw [mod_i (by decide)]
  rfl
theorem names_ok {n cl : Nat} {Φ : DQ} {Ψ : DZ} (hn : n < 800000) (h : ∀ (nm : Nat → Str) m, (∀ k, nameB (nm k) = true) → (∀ i j, i < 3 → j < 3 → nm i = nm j → i = j) → (∃ L, (L = 1 ∨ L = 2 ∨ L = 3 ∨ L = 12) ∧ ∀ k, (nm k).length = L) → m ≤ n + 14 → Φ (.lst ((List.range 3).map fun k => D.str (nm k))) (gh m cl)) : S__law_names [.pen, .int 3] (gh n cl) Φ Ψ := by
  show q__law_names_0 _ _ _
  refine seq_pu pq_s_q__law_names_0 rfl (set_of rfl) ?_
  unfold q__law_names_1
  simp only [dSeq, dSet, dM, dLc, dLcO, dRange1, dOp, dC, dCall, dCons, dNil, dVar, dLst, mask]
  have key : ∀ (b : List Nat) (m : Nat), (∀ c ∈ b, c ∈ ltrs) → (b.length = 0 ∨ b.length = 1 ∨ b.length = 2 ∨ b.length = 11) → m ≤ n + 12 → q__law_names_2 { nx := fun _ g' => Φ .non g', rt := Φ, xz := fun ex _ g' => Ψ ex g' } [.fz .pen, .fz (.int 3), .fz (.str (("abcdefghijklmnopqrstuvwxyz" : String) : Str)), .fz (.str (sOf b)), .un, .un, .un] (gh m cl) := fun b m hb hl hm => by
    have hz : 1000 < sizeLine := by decide
    unfold q__law_names_2
    simp only [dSeq, dSet, dCall, dCons, dNil, dVar, dC, dOp, dFn, mask]
    refine ⟨_, rfl, _, rfl, _, len_str (by rw [sOf_len]; omega), _, rfl, take_m (m := (sOf b).length + 1) (by omega) (by rw [sOf_len]; omega) (by omega) fun spot hs => ?_⟩
    rw [sOf_len] at hs
    unfold q__law_names_3
    simp only [dSeq, dSet, dCall, dCons, dNil, dVar, dC, mask]
    refine ⟨_, rfl, take_m (m := 26) (by omega) (by omega) (by omega) fun first hf => ?_⟩
    refine one_rt pq_q__law_names_4 rfl (ret_of (lc_of (g := fun k : Nat => D.int (k : Nat)) (h := fun k => D.str (sOf (nmK b spot first k))) (as := List.range 3) (range1_of (n := 3) rfl (by omega)) (by simp) fun k hk => ⟨_, rfl, rfl, ?_⟩)) ?_
    · have hk := List.mem_range.mp hk
      have c1 := (cutS_take (l := b) (k := spot) (by omega)).trans (if_pos (by rw [sOf_len]; omega))
      have c2 := (cutS_drop (l := b) (k := spot) (by omega)).trans (if_pos (by rw [sOf_len]; omega))
      have e5 : mulD (.int 5) (.int (k : Nat)) = some (.int ((5 * k : Nat) : Int)) := by
        rw [mul_i (by rw [Bool.or_eq_true]; exact .inl (by decide))]
        congr 2
      have e6 : addD (.int (first : Nat)) (.int ((5 * k : Nat) : Int)) = some (.int ((first + 5 * k : Nat) : Int)) := by
        rw [add_ii]
        congr 2
      refine op_of (op_of (sl_of rfl rfl (part_of rfl) c1) (op_of rfl (op_of (fn_of (cons_of (op_of rfl (op_of rfl rfl e5) e6) rfl) int_n) rfl mod26) (ltr_ix (Nat.mod_lt _ (by omega)))) (add_s (b := [ltrs.getD ((first + 5 * k) % 26) 0]) (by simp; omega))) (sl_of rfl (part_of rfl) rfl c2) (add_s (by simp; omega))
    · exact h (fun k => sOf (nmK b spot first k)) _ (fun k => nmK_ok hb (by omega) (by omega)) (fun i j hi hj e => nmK_inj hi hj (by
        have := congrArg (fun x : Str => x.cps.toList) e
        simpa using this)) ⟨b.length + 1, by omega, fun k => by rw [sOf_len]; simp [nmK]; omega⟩ (by omega)
  refine ⟨rfl, Nat.le_of_ble_eq_true rfl, _, rfl, take_n (by decide) (by decide) (by omega) fun i i0 i1 => ?_⟩
  obtain ⟨L, e, hL⟩ : ∃ L : Nat, ixA (.lst [.int 0, .int 1, .int 2, .int 11]) (.int i) = some (.int (L : Nat)) ∧ (L = 0 ∨ L = 1 ∨ L = 2 ∨ L = 11) := by
    have : i = 0 ∨ i = 1 ∨ i = 2 ∨ i = 3 := by omega
    rcases this with rfl | rfl | rfl | rfl
    · exact ⟨0, rfl, by omega⟩
    · exact ⟨1, rfl, by omega⟩
    · exact ⟨2, rfl, by omega⟩
    · exact ⟨11, rfl, by omega⟩
  refine ⟨_, e, _, rfl, fits_n (by omega) (by omega), ?_⟩
  refine lcD_each (P := fun _ y => ∃ c, y = D.str ⟨#[c]⟩ ∧ c ∈ ltrs) (c := 1) (lim := 800100) _ _ _ (by rw [range_len]; omega) (by rw [range_len]; simp; omega) (fun d hd => ?_) fun ys m hys hm => ?_
  · refine ⟨_, rfl, fun n Φ hn q => ?_⟩
    simp only [dOp, dVar, dCall, dCons, dNil, dC]
    refine ⟨_, rfl, _, rfl, take_m (m := 26) (by omega) (by omega) (by omega) fun j hj => ⟨_, ltr_ix hj, q _ _ ⟨_, rfl, ltr_in hj⟩ (by omega)⟩⟩
  · rw [range_len] at hm
    have hlen := hys.len
    rw [range_len] at hlen
    obtain ⟨b, rfl, hb⟩ : ∃ b : List Nat, ys = b.map (fun c => D.str ⟨#[c]⟩) ∧ ∀ c ∈ b, c ∈ ltrs := chars_of (hys.all (Q := fun y => ∃ c, y = D.str ⟨#[c]⟩ ∧ c ∈ ltrs) fun d y h => h)
    rw [List.nil_append]
    rw [List.length_map] at hlen
    refine ⟨_, join_d (by omega), ?_⟩
    exact key b m hb (by omega) (by omega)
end
end K09

namespace K09
open PySem L2 DL PyProof.Rows
/-! ### numbers drawn -/
section
theorem setcall2 {i j : Nat} {S : DSp} {x d : D} {u : DS} {En : DEnds} {ρ : SEnv} {g : Gh} (h : (mask ρ)[j]? = some (some d)) (k : S [d, x] g (fun y g' => u En (ρ.set i (.fz y)) g') (fun ex g' => En.xz ex ρ g')) : dSeq (dSet i (dCall S (dCons (dVar j) (dCons (dC x) dNil)))) u En ρ g := ⟨d, h, k⟩
structure NsOk (ns : List Num) (room : Nat) : Prop where
  n1 : 1 ≤ ns.length
  n3 : ns.length ≤ 3
  nm : ∀ n ∈ ns, nameB n.nm = true
  pl : ∀ n ∈ ns, 1 ≤ n.pl ∧ n.pl ≤ 4
  nd : (ns.map Num.nm).Nodup
  sm : (ns.map Num.pl).sum ≤ room
  ln : ∃ L, (L = 1 ∨ L = 2 ∨ L = 3 ∨ L = 12) ∧ ∀ n ∈ ns, n.nm.length = L
theorem kd_ix {i : Nat} (h : i < 3) : ∃ k : Kd3, ixA (.lst [.str "strict", .str "weak", .str "free"]) (.int (i : Nat)) = some (.str k.nm) := by
  have : i = 0 ∨ i = 1 ∨ i = 2 := by omega
  rcases this with rfl | rfl | rfl
  · exact ⟨.s, by kernel_rfl⟩
  · exact ⟨.w, by kernel_rfl⟩
  · exact ⟨.f, by kernel_rfl⟩
theorem numbers_gen {room n cl : Nat} {Φ : DQ} {Ψ : DZ} (r1 : 1 ≤ room) (r8 : room ≤ 8) (hn : n < 700000) (h : ∀ ns m, NsOk ns room → m ≤ n + 21 → Φ (.lst (ns.map Num.d)) (gh m cl)) : S__law_numbers [.pen, .int (room : Nat)] (gh n cl) Φ Ψ := by
  unfold S__law_numbers DL.specOf t__law_numbers q__law_numbers_0
  show dSeq (dSet 2 (dCall S__law_names (dCons (dVar 0) (dCons (dC (.int 3)) dNil)))) q__law_numbers_1 _ [.fz .pen, .fz (.int (room : Nat)), .un, .un, .un, .un, .un] _
  refine setcall2 rfl (names_ok (by omega) fun nm m hnm hinj hln hm => ?_)
  refine seq_pu pq_s_q__law_numbers_1 rfl (setO_of (xs := []) rfl) ?_
  refine seq_pu pq_s_q__law_numbers_2 rfl (set_of rfl) ?_
  unfold q__law_numbers_3
  simp only [dSeq, dFor, dRange1, dOp, dCall, dCons, dNil, dVar, dC, mask]
  refine ⟨_, rfl, take_m (m := 3) (by omega) (by omega) (by omega) fun i hi => ⟨_, rfl, _, rfl, fits_n (by omega) (by omega), ?_⟩⟩
  rw [show ((1 : Int) + (i : Nat)).toNat = i + 1 by omega]
  refine forD_at (c := 2) (lim := 800100) (fun k ρ => ∃ (ns : List Num) (left : Nat) (s5 s6 : SV), ρ = [.fz .pen, .fz (.int (room : Nat)), .fz (.lst ((List.range 3).map fun k => D.str (nm k))), .ow (ns.map Num.d), .fz (.int (left : Nat)), s5, s6] ∧ (k = 0 → left = room) ∧ (1 ≤ k → 1 ≤ ns.length) ∧ ns.length ≤ k ∧ (∀ n ∈ ns, nameB n.nm = true) ∧ (∀ n ∈ ns, 1 ≤ n.pl ∧ n.pl ≤ 4) ∧ (ns.map Num.nm).Nodup ∧ (∀ n ∈ ns, ∃ j, j < k ∧ n.nm = nm j) ∧ (ns.map Num.pl).sum + left = room) _ 0 _ _ (by rw [range_len]; omega) ⟨[], room, .un, .un, rfl, fun _ => rfl, fun h => absurd h (by omega), Nat.le_refl 0, (fun n hn => nomatch hn), (fun n hn => nomatch hn), List.nodup_nil, (fun n hn => nomatch hn), by simp⟩ ?_ ?_
  · rintro k d hd _ q ⟨ns, left, s5, s6, rfl, h0, h1, hk, a1, a2, a3, a4, a5⟩ hq
    simp only [Nat.zero_add] at *
    have hk3 : k < i + 1 := by
      have := (List.getElem?_eq_some_iff.mp hd).1
      rwa [range_len] at this
    have hd : d = .int (k : Nat) := by
      unfold rangeL at hd
      rw [List.getElem?_map, List.getElem?_range hk3] at hd
      simp at hd
      exact hd.symm
    subst hd
    refine ⟨_, rfl, fun K hK => ?_⟩
    unfold lb1__law_numbers_0
    simp only [dIfS, dTest, dOp, dVar, dC, mask]
    refine ⟨_, rfl, _, gt_i, _, rfl, ite_b (fun hb => ?_) (fun hb => ?_)⟩
    · have hl : 1 ≤ left := by have := of_decide_eq_true hb; omega
      simp only [dSeq, dSet, dOp, dC, dCall, dCons, dNil, dVar, dFn, mask]
      have hmin : min2D [.int 4, .int (left : Nat)] = some (.int ((min 4 left : Nat) : Int)) := by
        show some (D.int (if (left : Int) < 4 then (left : Int) else 4)) = _
        congr 2
        split <;> omega
      refine ⟨_, rfl, _, rfl, _, rfl, _, hmin, take_m (m := min 4 left) (by omega) (by omega) (by omega) fun j hj => ⟨_, rfl, _, rfl, _, rfl, _, rfl, ?_⟩⟩
      unfold dAppend
      simp only [dTup, dOp, dC, dCall, dCons, dNil, dVar, dLst, mask]
      have i2 : ixA (.lst ((List.range 3).map fun k => D.str (nm k))) (.int (k : Nat)) = some (.str (nm k)) := ix_l (by rw [List.getElem?_map, List.getElem?_range (by omega)]; rfl)
      refine ⟨_, rfl, _, rfl, _, rfl, _, i2, _, rfl, Nat.le_of_ble_eq_true rfl, _, rfl, take_m (m := 3) (by omega) (by omega) (by omega) fun kd hkd => ?_⟩
      obtain ⟨kd, ekd⟩ := kd_ix hkd
      refine ⟨_, ekd, Nat.le_of_ble_eq_true rfl, ?_, ?_⟩
      · have : 1000 < sizeLine := by decide
        rw [List.length_map]; omega
      · refine hK _ _ ⟨ns ++ [⟨nm k, 1 + j, kd⟩], left - (1 + j), .fz (.int (k : Nat)), .fz (.int ((1 + j : Nat) : Int)), ?_, fun h => absurd h (by omega), fun _ => by simp, by simp; omega, ?_, ?_, ?_, ?_, ?_⟩ (by omega)
        · rw [show ((left - (1 + j) : Nat) : Int) = (left : Int) - (1 + (j : Int)) by omega, show ((1 + j : Nat) : Int) = 1 + (j : Int) by omega, List.map_append]
          rfl
        · intro n hn
          rcases List.mem_append.mp hn with hn | hn
          · exact a1 n hn
          · rw [List.mem_singleton.mp hn]; exact hnm k
        · intro n hn
          rcases List.mem_append.mp hn with hn | hn
          · exact a2 n hn
          · rw [List.mem_singleton.mp hn]; exact ⟨by simp, by simp; omega⟩
        · rw [List.map_append, List.nodup_append]
          refine ⟨a3, by simp, fun a ha b hb e => ?_⟩
          obtain ⟨n, hn, rfl⟩ := List.mem_map.mp ha
          obtain ⟨j', hj', e'⟩ := a4 n hn
          simp only [List.map_cons, List.map_nil, List.mem_singleton] at hb
          have := hinj j' k (by omega) (by omega) (by rw [← e', e, hb])
          omega
        · intro n hn
          rcases List.mem_append.mp hn with hn | hn
          · obtain ⟨j', h1, h2⟩ := a4 n hn; exact ⟨j', by omega, h2⟩
          · rw [List.mem_singleton.mp hn]; exact ⟨k, by omega, rfl⟩
        · rw [List.map_append, List.sum_append]
          simp
          omega
    · have hl : left = 0 := by have := of_decide_eq_false hb; omega
      refine hK _ _ ⟨ns, left, .fz (.int (k : Nat)), s6, rfl, fun h => absurd h (by omega), fun _ => ?_, by omega, a1, a2, a3, fun n hn => ?_, a5⟩ (by omega)
      · rcases Nat.eq_zero_or_pos k with rfl | hk0
        · have := h0 rfl; omega
        · exact h1 hk0
      · obtain ⟨j', h1, h2⟩ := a4 n hn; exact ⟨j', by omega, h2⟩
  · rintro _ m' ⟨ns, left, s5, s6, rfl, h0, h1, hk, a1, a2, a3, a4, a5⟩ hm'
    rw [range_len] at *
    show q__law_numbers_4 _ _ _
    refine one_rt pq_q__law_numbers_4 rfl (retO_of rfl) ?_
    obtain ⟨L, hL, hln⟩ := hln
    exact h ns m' ⟨h1 (by omega), by omega, a1, a2, a3, by omega, L, hL, fun n hn => by obtain ⟨j, _, e⟩ := a4 n hn; rw [e]; exact hln j⟩ (by omega)
end
end K09

namespace K09
open PySem L2 DL PyProof.Rows
/-! ### cells drawn -/
section
def allC (ns : List Num) : List (Str × Nat) := ns.flatMap fun n => (List.range n.pl).map fun p => (n.nm, p)
theorem allC_len : ∀ ns : List Num, (allC ns).length = (ns.map Num.pl).sum
  | [] => rfl
  | n :: ns => by
    have := allC_len ns
    simp only [allC, List.flatMap_cons, List.length_append, List.length_map, List.length_range, List.map_cons, List.sum_cons] at this ⊢
    omega
theorem allC_mem {ns : List Num} {c : Str × Nat} : c ∈ allC ns ↔ ∃ n ∈ ns, c.1 = n.nm ∧ c.2 < n.pl := by
  simp only [allC, List.mem_flatMap, List.mem_map, List.mem_range]
  constructor
  · rintro ⟨n, hn, p, hp, rfl⟩; exact ⟨n, hn, rfl, hp⟩
  · rintro ⟨n, hn, e, hp⟩; exact ⟨n, hn, c.2, hp, by rw [← e]⟩
theorem allC_app (as bs : List Num) : allC (as ++ bs) = allC as ++ allC bs := by simp [allC]
theorem sum_le {as bs : List Num} : (as.map Num.pl).sum ≤ ((as ++ bs).map Num.pl).sum := by
  rw [List.map_append, List.sum_append]; omega
theorem nls_cells : ∀ cs : List (Str × Nat), nls (cs.map cellD) = true
  | [] => by simp [nls]
  | c :: cs => by
    have := nls_cells cs
    simp [nls, nl, this]
abbrev ceE (ns : List Num) (s3 s4 s5 s6 s7 s8 s9 : SV) : SEnv := [.fz .pen, .fz (.lst (ns.map Num.d)), .fz (.int 8), s3, s4, s5, s6, s7, s8, s9, .un]
theorem cells_for {ns : List Num} (h8 : (ns.map Num.pl).sum ≤ 8) : ∃ s7 s8 s9, f_s_q__law_cells_1 (ceE ns (.ow []) .un .un .un .un .un .un) = .nx (ceE ns (.ow ((allC ns).map cellD)) .un .un .un s7 s8 s9) := by
  obtain ⟨ρ', e, s7, s8, s9, rfl⟩ := for_pre (g := Num.d) (tg := gT [7, 8, 9]) (fb := f_lb1__law_cells_0) (fun dn ρ => ∃ s7 s8 s9, ρ = ceE ns (.ow ((allC dn).map cellD)) .un .un .un s7 s8 s9) ns ns [] (ceE ns (.ow []) .un .un .un .un .un .un) rfl ⟨_, _, _, rfl⟩ (by
    rintro dn n rest _ e ⟨s7, s8, s9, rfl⟩
    have hl : (allC (dn ++ [n])).length ≤ 8 := by
      rw [allC_len]
      have := sum_le (as := dn ++ [n]) (bs := rest)
      rw [List.append_assoc, List.singleton_append, ← e] at this
      omega
    have ea : allC (dn ++ [n]) = allC dn ++ (List.range n.pl).map fun p => (n.nm, p) := by rw [allC_app]; simp [allC]
    rw [ea, List.length_append, List.length_map, List.length_range] at hl
    refine ⟨_, ceE ns (.ow ((allC (dn ++ [n])).map cellD)) .un .un .un (.fz (.str n.nm)) (.fz (.int (n.pl : Nat))) (.fz (.str n.kd.nm)), rfl, ?_, _, _, _, rfl⟩
    have lc := lc_of (fi := fRange1 (fVar 8)) (tp := pN 10) (fA := fun _ => .ok true) (fe := fTup (fCons (fVar 7) (fCons (fVar 10) (fun _ => .ok [])))) (vs := [10]) (η := mask (ceE ns (.fz (.lst ((allC dn).map cellD))) .un .un .un (.fz (.str n.nm)) (.fz (.int (n.pl : Nat))) (.fz (.str n.kd.nm)))) (g := fun p : Nat => D.int (p : Nat)) (h := fun p => cellD (n.nm, p)) (as := List.range n.pl) (range1_of (n := n.pl) rfl (by omega)) (by simp; omega) fun p hp => ⟨_, rfl, rfl, tup_of (cons_of rfl (cons_of rfl rfl)) (by simp)⟩
    refine frz_of rfl ((setO_of (cat_of rfl lc (by simp; omega))).trans ?_)
    rw [ea, List.map_append, List.map_map]
    rfl)
  exact ⟨s7, s8, s9, for_of rfl e⟩
theorem erase_map {α β : Type} {f : α → β} : ∀ (xs : List α) (k : Nat), (xs.map f).eraseIdx k = (xs.eraseIdx k).map f
  | [], k => by simp
  | x :: xs, 0 => by simp
  | x :: xs, k + 1 => by simp [erase_map xs k]
theorem pop_cells {cs : List (Str × Nat)} {k : Nat} (h : k < cs.length) (h8 : cs.length ≤ 1000) : popAt (cs.map cellD) (k : Nat) = some (cellD (cs.getD k ("", 0)), (cs.eraseIdx k).map cellD) := by
  unfold popAt
  rw [if_pos ⟨by omega, by omega⟩]
  have e : seqIndex? (k : Nat) (cs.map cellD).length = some k := by
    unfold seqIndex?
    rw [List.length_map]
    simp
    omega
  rw [e, Option.bind_some, List.getElem?_map, getN (d := (("" : Str), 0)) h]
  simp only [Option.map_some]
  congr 2
  exact erase_map cs k
theorem split_get {α : Type} {L : List α} {i : Nat} {d : α} (hi : i < L.length) : L = L.take i ++ (L.getD i d :: L.drop (i + 1)) := by
  have e : L.getD i d = L[i] := by rw [List.getD_eq_getElem?_getD, List.getElem?_eq_getElem hi, Option.getD_some]
  rw [e, ← List.drop_eq_getElem_cons hi, List.take_append_drop]
theorem okG_gh {n m cl : Nat} : okG (gh n cl) (gh m cl) = true := rfl
theorem cells_while {ns : List Num} {s4 s5 s7 s8 s9 : SV} {cl : Nat} {En : DEnds} {orig : List (Str × Nat)} (ho : ∀ c ∈ orig, nameB c.1 = true) (h8 : orig.length ≤ 8) : ∀ (k n : Nat) (left fnd : List (Str × Nat)), left.length = k → (∀ c, c ∈ fnd ++ left ↔ c ∈ orig) → fnd.length + left.length = orig.length → n + k < 800000 →
    (∀ (fs : List (Str × Nat)) (m : Nat), (∀ c, c ∈ fs ↔ c ∈ orig) → fs.length = orig.length → m ≤ n + k → En.nx (ceE ns (.ow []) s4 s5 (.ow (fs.map cellD)) s7 s8 s9) (gh m cl)) →
    whileDS (dTest (dOp (eqA true) (dVar 3) (dLst dNil))) lb3__law_cells_0 En (k + 1) (ceE ns (.ow (left.map cellD)) s4 s5 (.ow (fnd.map cellD)) s7 s8 s9) (gh n cl)
  | k, n, [], fnd, hk, hm, hl, hn, h => by
    unfold whileDS
    simp only [dTest, dOp, dVar, dLst, dNil, snap]
    refine ⟨_, rfl, Nat.le_of_ble_eq_true rfl, _, eqA_same (neg := true) (by simp [D.sm, smAll]) (by simp [D.dp, dpAll]), _, rfl, okG_gh, ?_⟩
    exact h fnd n (fun c => by simpa using hm c) (by simpa using hl) (by omega)
  | 0, n, c :: left, fnd, hk, hm, hl, hn, h => by simp at hk
  | k + 1, n, c :: left, fnd, hk, hm, hl, hn, h => by
    unfold whileDS
    simp only [dTest, dOp, dVar, dLst, dNil, snap]
    have sm := cells_sm (cs := c :: left) fun d hd => ho d ((hm d).mp (List.mem_append_right _ hd))
    rw [List.map_cons] at sm
    refine ⟨_, rfl, Nat.le_of_ble_eq_true rfl, _, nil_ne (neg := true) sm.1 (by have := sm.2; omega), _, rfl, okG_gh, ?_⟩
    rw [if_pos rfl]
    unfold lb3__law_cells_0 dMove
    simp only [dCall, dCons, dNil, dVar, dFn, snap]
    have hlen : (c :: left).length = k + 1 := hk
    refine ⟨by decide, _, _, rfl, rfl, _, rfl, _, rfl, _, len_l, ?_⟩
    rw [show (List.map cellD (c :: left)).length = (c :: left).length from List.length_map ..]
    refine take_m (by omega) (by simp at hl; omega) (by omega) fun i hi => ⟨okG_gh, _, _, _, rfl, pop_cells (cs := c :: left) hi (by simp at hl ⊢; omega), ?_, ?_⟩
    · have : 1000 < sizeLine := by decide
      rw [List.length_map]; simp at hl; omega
    · have hs : ∀ d, d ∈ (c :: left) ↔ d = (c :: left).getD i ("", 0) ∨ d ∈ (c :: left).eraseIdx i := by
        intro d
        have e := split_get (d := (("" : Str), 0)) hi
        rw [List.eraseIdx_eq_take_drop_succ]
        conv => lhs; rw [e]
        simp only [List.mem_append, List.mem_cons]
        constructor
        · rintro (h | h | h)
          · exact .inr (.inl h)
          · exact .inl h
          · exact .inr (.inr h)
        · rintro (h | h | h)
          · exact .inr (.inl h)
          · exact .inl h
          · exact .inr (.inr h)
      have key := cells_while (ns := ns) (s4 := s4) (s5 := s5) (s7 := s7) (s8 := s8) (s9 := s9) (cl := cl) (En := En) ho h8 k (n + 1) ((c :: left).eraseIdx i) (fnd ++ [(c :: left).getD i ("", 0)]) (by rw [List.length_eraseIdx_of_lt hi]; omega) (fun d => by
        rw [← hm d, List.mem_append, List.mem_append, List.mem_append, hs d, List.mem_singleton]
        constructor
        · rintro ((h | h) | h)
          · exact .inl h
          · exact .inr (.inl h)
          · exact .inr (.inr h)
        · rintro (h | h | h)
          · exact .inl (.inl h)
          · exact .inl (.inr h)
          · exact .inr h) (by rw [List.length_append, List.length_eraseIdx_of_lt hi, List.length_singleton]; omega) (by omega) (fun fs m a b c => h fs m a b (by omega))
      rw [List.map_append] at key
      exact key
structure CsOk (ns : List Num) (cs : List (Str × Nat)) : Prop where
  c8 : cs.length ≤ 8
  mm : ∀ c, c ∈ cs ↔ c ∈ allC ns
theorem CsOk.sch {ns : List Num} {cs : List (Str × Nat)} {room : Nat} (N : NsOk ns room) (C : CsOk ns cs) : SchOk ns cs where
  n1 := N.n1
  n3 := N.n3
  nm := N.nm
  pl := N.pl
  nd := N.nd
  c1 := by
    obtain ⟨n, hn⟩ : ∃ n, n ∈ ns := by
      have := N.n1
      cases ns with
      | nil => simp at this
      | cons a b => exact ⟨a, by simp⟩
    have : (n.nm, 0) ∈ cs := (C.mm _).mpr (allC_mem.mpr ⟨n, hn, rfl, (N.pl n hn).1⟩)
    exact List.length_pos_of_mem this
  c8 := C.c8
  cin := fun c hc => allC_mem.mp ((C.mm c).mp hc)
  all := fun n hn p hp => (C.mm _).mpr (allC_mem.mpr ⟨n, hn, rfl, hp⟩)
end
end K09

namespace K09
open PySem L2 DL PyProof.Rows
section
theorem cells_gen {ns : List Num} {room n cl : Nat} {Φ : DQ} {Ψ : DZ} (N : NsOk ns room) (r8 : room ≤ 8) (hn : n < 700000) (h : ∀ cs m, CsOk ns cs → m ≤ n + 18 → Φ (.lst (cs.map cellD)) (gh m cl)) : S__law_cells [.pen, .lst (ns.map Num.d), .int 8] (gh n cl) Φ Ψ := by
  have hsum := N.sm
  have hal : (allC ns).length ≤ 8 := by rw [allC_len]; omega
  have ha1 : 1 ≤ (allC ns).length := by
    obtain ⟨n, hn⟩ : ∃ n, n ∈ ns := by
      have := N.n1
      cases ns with
      | nil => simp at this
      | cons a b => exact ⟨a, by simp⟩
    exact List.length_pos_of_mem (allC_mem.mpr ⟨n, hn, rfl, (N.pl n hn).1⟩ : (n.nm, 0) ∈ allC ns)
  unfold S__law_cells DL.specOf t__law_cells
  show q__law_cells_0 _ (ceE ns .un .un .un .un .un .un .un) _
  refine seq_pu pq_s_q__law_cells_0 rfl (setO_of (xs := []) rfl) ?_
  obtain ⟨s7, s8, s9, e⟩ := cells_for (ns := ns) (by omega)
  refine seq_pu pq_s_q__law_cells_1 rfl e ?_
  refine seq_pu pq_s_q__law_cells_2 rfl (setOS_of (ds := (allC ns).map cellD) rfl (nls_cells _)) ?_
  show q__law_cells_3 _ (ceE ns (.ow ((allC ns).map cellD)) (.ow ((allC ns).map cellD)) .un .un s7 s8 s9) _
  unfold q__law_cells_3
  simp only [dSeq, dFreeze, dForR, dwS, dCall, dCons, dNil, dVar, dOp, dC, dFn, snap]
  refine ⟨_, rfl, _, rfl, _, rfl, _, rfl, _, rfl, _, len_l, _, sub_ii, ?_⟩
  rw [List.length_map, show ((1 : Int) + 8 - ((allC ns).length : Nat)) = ((9 - (allC ns).length : Nat) : Int) by omega]
  refine take_m (by omega) (by omega) (by omega) fun i hi => ⟨okG_gh, rfl, _, rfl, fits_n (by omega) (by omega), ?_⟩
  rw [Int.toNat_natCast]
  refine forD_at (c := 1) (lim := 800100) (fun k ρ => ∃ (ex : List (Str × Nat)) (s5 : SV), ρ = ceE ns (.ow ((allC ns ++ ex).map cellD)) (.fz (.lst ((allC ns).map cellD))) s5 .un s7 s8 s9 ∧ ex.length = k ∧ ∀ c ∈ ex, c ∈ allC ns) _ 0 _ _ (by rw [range_len]; omega) ⟨[], .un, by rw [List.append_nil]; rfl, rfl, (fun c hc => nomatch hc)⟩ ?_ ?_
  · rintro k d hd _ q ⟨ex, s5, rfl, hk, hex⟩ hq
    have hk3 : k < i := by
      have := (List.getElem?_eq_some_iff.mp hd).1
      rwa [range_len] at this
    refine ⟨_, rfl, fun K hK => ?_⟩
    unfold lb2__law_cells_0
    simp only [dAppend, dOp, dVar, dCall, dCons, dNil, dFn, mask]
    refine ⟨_, rfl, _, rfl, _, rfl, _, rfl, _, len_l, ?_⟩
    rw [show (List.map cellD (allC ns)).length = (allC ns).length from List.length_map ..]
    refine take_m (by omega) (by omega) (by omega) fun j hj => ⟨_, ix_l (by rw [List.getElem?_map, getN (d := (("" : Str), 0)) hj]; rfl), ?_, ?_⟩
    · have : 1000 < sizeLine := by decide
      rw [List.length_map, List.length_append]; omega
    · refine hK _ _ ⟨ex ++ [(allC ns).getD j ("", 0)], .fz d, ?_, by simp [hk], ?_⟩ (by omega)
      · rw [← List.append_assoc, List.map_append (l₁ := allC ns ++ ex)]
        rfl
      · intro c hc
        rcases List.mem_append.mp hc with hc | hc
        · exact hex c hc
        · rw [List.mem_singleton.mp hc]; exact List.mem_of_getElem? (getN hj)
  · rintro _ m ⟨ex, s5, rfl, hk, hex⟩ hm
    rw [range_len] at hk hm
    show q__law_cells_4 _ _ _
    refine seq_pu pq_s_q__law_cells_4 rfl (setO_of (xs := []) rfl) ?_
    have ho : ∀ c, c ∈ allC ns ++ ex ↔ c ∈ allC ns := fun c => by
      rw [List.mem_append]
      exact ⟨fun h => h.elim id (hex c), .inl⟩
    have hlen : (allC ns ++ ex).length ≤ 8 := by rw [List.length_append]; omega
    show q__law_cells_5 _ (ceE ns (.ow ((allC ns ++ ex).map cellD)) (.fz (.lst ((allC ns).map cellD))) s5 (.ow (([] : List (Str × Nat)).map cellD)) s7 s8 s9) _
    unfold q__law_cells_5
    refine ⟨_, cells_while (orig := allC ns ++ ex) (fun c hc => ?_) hlen _ _ (allC ns ++ ex) [] rfl (fun c => by simp) (by simp) (by omega) fun fs m' hf hfl hm' => ?_⟩
    · obtain ⟨n, hn, e, _⟩ := allC_mem.mp ((ho c).mp hc)
      rw [e]; exact N.nm n hn
    · show q__law_cells_6 _ _ _
      refine one_rt pq_q__law_cells_6 rfl (retO_of rfl) ?_
      exact h fs m' ⟨by omega, fun c => (hf c).trans (ho c)⟩ (by omega)
end
section
theorem setcall3 {i a b : Nat} {S : DSp} {xa xb x : D} {u : DS} {En : DEnds} {ρ : SEnv} {g : Gh} (h1 : (mask ρ)[a]? = some (some xa)) (h2 : (mask ρ)[b]? = some (some xb)) (k : S [xa, xb, x] g (fun y g' => u En (ρ.set i (.fz y)) g') (fun ex g' => En.xz ex ρ g')) : dSeq (dSet i (dCall S (dCons (dVar a) (dCons (dVar b) (dCons (dC x) dNil))))) u En ρ g := ⟨xa, h1, xb, h2, k⟩
end
end K09

namespace K09
open PySem L2 DL PyProof.Rows
/-! ### what is refused -/
section
variable {tg : DG} {fb : SEnv → Fl}
theorem raise_of {i : Nat} {fns : List Str} {fr : DEnv → R (List D)} {ρ : SEnv} {xs : List D} (h : fr (mask ρ) = .ok xs) : fRaise i fns fr ρ = .ex ⟨i, fieldsOf fns xs⟩ ρ := by unfold fRaise; rw [h]; rfl
theorem asgT_of {fe : DEnv → R D} {tg : DG} {ρ ρ' : SEnv} {d : D} (h : fe (mask ρ) = .ok d) (h2 : tg d ρ = some ρ') : fAsgT fe tg ρ = .nx ρ' := by
  unfold fAsgT
  rw [h]
  show (match tg d ρ with | some ρ' => Fl.nx ρ' | none => Fl.no) = _
  rw [h2]
/-- a loop that an item ends by an exception -/
theorem for_bad {α : Type} {g : α → D} {d : D} {rest : List D} {e : Exn} (I : List α → SEnv → Prop) (all : List α) (kb : ∀ ρ, I all ρ → ∃ ρ' ρ'', tg d ρ = some ρ' ∧ fb ρ' = .ex e ρ'') : ∀ (xs dn : List α) (ρ : SEnv), all = dn ++ xs → I dn ρ → (∀ dn x rest ρ, all = dn ++ x :: rest → I dn ρ → ∃ ρ' ρ'', tg (g x) ρ = some ρ' ∧ fb ρ' = .nx ρ'' ∧ I (dn ++ [x]) ρ'') → ∃ ρ', forF tg fb (xs.map g ++ d :: rest) ρ = .ex e ρ'
  | [], dn, ρ, e, hi, _ => by
    obtain ⟨ρ', ρ'', e1, e2⟩ := kb ρ (by rw [e, List.append_nil]; exact hi)
    exact ⟨ρ'', by rw [List.map_nil, List.nil_append, for_cons e1, e2]; rfl⟩
  | x :: xs, dn, ρ, e, hi, k => by
    obtain ⟨ρ', ρ'', e1, e2, hi2⟩ := k dn x xs ρ e hi
    obtain ⟨ρ3, e3⟩ := for_bad I all kb xs (dn ++ [x]) ρ'' (by rw [e]; simp) hi2 k
    exact ⟨ρ3, by rw [List.map_cons, List.cons_append, for_cons e1, e2]; exact e3⟩
end
abbrev noS (part : Str) (w : D) : Exn := ⟨1, [("at", w), ("part", .str part)]⟩
theorem raise_ns {part : Str} {x : D} {fr : DEnv → R (List D)} {ρ : SEnv} (h : fr (mask ρ) = .ok [.str part, x]) : fRaise 1 fn_NoScheme fr ρ = .ex (noS part x) ρ := (raise_of h).trans (by kernel_rfl)
theorem numb_pre {α : Type} {g : α → D} {pre : List α} {bad : D} {rest : List D} : ((pre.map g ++ bad :: rest).zipIdx.map fun p => D.tup [.int (p.2 : Nat), id p.1]) = (pre.zipIdx.map fun p => D.tup [.int (p.2 : Nat), g p.1]) ++ D.tup [.int (pre.length : Nat), bad] :: ((rest.zipIdx (pre.length + 1)).map fun p => D.tup [.int (p.2 : Nat), p.1]) := by
  rw [List.zipIdx_append, List.map_append, List.zipIdx_cons, List.map_cons, List.zipIdx_map, List.map_map]
  simp [Function.comp_def]
theorem fst_zip {α β : Type} {f : α → β} (pre : List α) : (pre.zipIdx.map fun p => f p.1) = pre.map f := by
  have : (pre.zipIdx.map fun p => f p.1) = (pre.zipIdx.map Prod.fst).map f := by rw [List.map_map]; rfl
  rw [this, List.zipIdx_map_fst]
section
variable {ns pre : List Num} {cs pc : List (Str × Nat)} {bad : D} {rest : List D}
/-- what numbers may not hold behind these -/
def BadN (pre : List Num) (bad : D) : Prop := pre.length = 3 ∨ F_is_number [bad] = .ok (.bl false) ∨ ∃ n : Num, bad = n.d ∧ nameB n.nm = true ∧ (1 ≤ n.pl ∧ n.pl ≤ 4) ∧ n.nm ∈ pre.map Num.nm
theorem lst_ne {x : D} {xs : List D} : eqL false (.lst (x :: xs)) (.lst []) = some (.bl false) := rfl
theorem app_ne {xs : List D} {x : D} {ys : List D} : eqL false (.lst (xs ++ x :: ys)) (.lst []) = some (.bl false) := by
  cases xs with
  | nil => rfl
  | cons a b => rfl
theorem numbers_bad (h3 : pre.length ≤ 3) (hn : ∀ n ∈ pre, nameB n.nm = true) (hp : ∀ n ∈ pre, 1 ≤ n.pl ∧ n.pl ≤ 4) (nd : (pre.map Num.nm).Nodup) (hb : BadN pre bad) : F_check_numbers [.lst (pre.map Num.d ++ bad :: rest)] = .ex (noS "numbers" (.int (pre.length : Nat))) := by
  obtain ⟨ρ', e⟩ := for_bad (g := fun p : Num × Nat => D.tup [.int (p.2 : Nat), p.1.d]) (d := D.tup [.int (pre.length : Nat), bad]) (rest := (rest.zipIdx (pre.length + 1)).map fun p => D.tup [.int (p.2 : Nat), p.1]) (e := noS "numbers" (.int (pre.length : Nat))) (tg := gT [2, 3]) (fb := f_lb1_check_numbers_0) (fun dn ρ => ∃ s2 s3, ρ = [.fz (.lst (pre.map Num.d ++ bad :: rest)), .ow ((dn.map fun p => p.1.nm).map D.str), s2, s3]) pre.zipIdx (by
    rintro _ ⟨s2, s3, rfl⟩
    rw [fst_zip (f := Num.nm)]
    refine ⟨[.fz (.lst (pre.map Num.d ++ bad :: rest)), .ow ((pre.map Num.nm).map D.str), .fz (.int (pre.length : Nat)), .fz bad], [.fz (.lst (pre.map Num.d ++ bad :: rest)), .ow ((pre.map Num.nm).map D.str), .fz (.int (pre.length : Nat)), .fz bad], rfl, ?_⟩
    refine seq_raise (ifS_t ?_ (raise_ns rfl))
    by_cases h : pre.length = 3
    · exact orT_t (test_of (op_of rfl rfl (by rw [eqA_i]; simp [h])))
    · refine orT_f (test_of (op_of rfl rfl (by rw [eqA_i]; simp; omega))) ?_
      rcases hb with hb | hb | ⟨n, rfl, h1, h2, h3⟩
      · exact absurd hb h
      · exact orT_t (notT_f (test_of (call_of (cons_of rfl rfl) hb)))
      · refine orT_f (notT_t (test_of (call_of (cons_of rfl rfl) (number_ok h1 h2)))) (test_of (op_of (op_of rfl rfl (ix_t (i := 0) rfl)) rfl ?_))
        have inn := names_in (xs := pre.map Num.nm) (x := n.nm) (fun y hy => by
          obtain ⟨p, hp, rfl⟩ := List.mem_map.mp hy
          exact hn p hp) h1
        rw [decide_eq_true h3] at inn
        exact inn) pre.zipIdx [] [.fz (.lst (pre.map Num.d ++ bad :: rest)), .ow [], .un, .un] rfl ⟨_, _, rfl⟩ (by
    rintro dn ⟨n, i⟩ rest' _ h ⟨s2, s3, rfl⟩
    obtain ⟨h1, h2⟩ := zip_pre h
    dsimp only at h1 h2
    subst h2
    have hm : n ∈ pre := by rw [h1]; simp
    have hlen : dn.length < pre.length := by rw [h1]; simp
    have hnd : n.nm ∉ dn.map fun p => p.1.nm := by
      rw [h1, List.map_append, List.map_cons, List.nodup_append] at nd
      intro hc
      refine nd.2.2 n.nm ?_ n.nm (by simp) rfl
      rw [List.map_map]
      exact hc
    have i0 : ixA n.d (.int 0) = some (.str n.nm) := ix_t (i := 0) rfl
    have inn := names_in (xs := dn.map fun p => p.1.nm) (x := n.nm) (fun y hy => by
      obtain ⟨p, hp, rfl⟩ := List.mem_map.mp hy
      exact hn p.1 (by rw [h1]; exact List.mem_append.mpr (.inl (List.mem_map.mpr ⟨p, hp, rfl⟩)))) (hn n hm)
    rw [decide_eq_false hnd] at inn
    refine ⟨[.fz (.lst (pre.map Num.d ++ bad :: rest)), .ow ((dn.map fun p => p.1.nm).map D.str), .fz (.int (dn.length : Nat)), .fz n.d], [.fz (.lst (pre.map Num.d ++ bad :: rest)), .ow ((dn.map fun p => p.1.nm).map D.str ++ [.str n.nm]), .fz (.int (dn.length : Nat)), .fz n.d], rfl, ?_, .fz (.int (dn.length : Nat)), .fz n.d, by simp⟩
    refine seq_of (ifS_f (orT_f (test_of (op_of rfl rfl (by rw [eqA_i]; simp; omega))) (orT_f (notT_t (test_of (call_of (cons_of rfl rfl) (number_ok (hn n hm) (hp n hm))))) (test_of (op_of (op_of rfl rfl i0) rfl inn)))) rfl) (fAppend_ok rfl (op_of rfl rfl i0) (by simp; omega)))
  rw [← numb_pre (g := Num.d)] at e
  show (f_q_check_numbers_0 [.fz (.lst (pre.map Num.d ++ bad :: rest)), .un, .un, .un]).out = _
  rw [show f_q_check_numbers_0 [.fz (.lst (pre.map Num.d ++ bad :: rest)), .un, .un, .un] = .ex (noS "numbers" (.int (pre.length : Nat))) ρ' from seq_of (if_f (orT_f (notT_t (test_of (u_of rfl rfl))) (test_of (op_of rfl (lst_of (xs := []) rfl (by simp)) app_ne))) rfl) (seq_of (setO_of (xs := []) rfl) (for_of (enum_of (g := id) (as := pre.map Num.d ++ bad :: rest) rfl (by rw [List.map_id]; rfl)) e))]
  rfl
def noLsts (xs : List D) : List D := [.non, .tup [], .dct [], .lst [], .str "n", .tup xs]
theorem numbers_no {xs : List D} {x : D} (hx : x ∈ noLsts xs) : F_check_numbers [x] = .ex (noS "numbers" .non) := by
  simp only [noLsts, List.mem_cons, List.not_mem_nil, or_false] at hx
  rcases hx with rfl | rfl | rfl | rfl | rfl | rfl <;> kernel_rfl
theorem cells_no {xs : List D} {x y : D} (hx : x ∈ noLsts xs) : F_check_cells [x, y] = .ex (noS "cells" .non) := by
  simp only [noLsts, List.mem_cons, List.not_mem_nil, or_false] at hx
  rcases hx with rfl | rfl | rfl | rfl | rfl | rfl <;> kernel_rfl
/-- what cells may not hold behind these -/
def BadC (ns : List Num) (pc : List (Str × Nat)) (bad : D) : Prop := pc.length = 8 ∨ F_is_cell [bad, .dct (plD ns)] = .ok (.bl false)
theorem dc_ok {n3 : ns.length ≤ 3} (nd : (ns.map Num.nm).Nodup) {C s2 s3 s4 s5 s6 s7 s8 : SV} : fDc (fSeqI (fVar 1)) (pT [5, 6, 7]) (fun _ => .ok true) (fVar 5) (fVar 6) [5, 6, 7] (mask [C, .fz (.lst (ns.map Num.d)), s2, s3, s4, s5, s6, s7, s8]) = .ok (.dct (plD ns)) := by
  refine (dc_of (gg := Num.d) (hv := fun n => .int (n.pl : Nat)) (hk := fun n => .inr n.nm) (as := ns) rfl (by omega) fun n hn => ⟨_, .str n.nm, rfl, rfl, rfl, rfl, rfl⟩).trans ?_
  rw [fold_put ns [] nd (fun _ _ _ h => nomatch h)]
  rfl
theorem cells_bad {cs : List (Str × Nat)} (S : SchOk ns cs) (h8 : pc.length ≤ 8) (hc : ∀ c ∈ pc, ∃ n ∈ ns, c.1 = n.nm ∧ c.2 < n.pl) (hb : BadC ns pc bad) : F_check_cells [.lst (pc.map cellD ++ bad :: rest), .lst (ns.map Num.d)] = .ex (noS "cells" (.int (pc.length : Nat))) := by
  have n3 := S.n3
  obtain ⟨ρ', e⟩ := for_bad (g := fun p : (Str × Nat) × Nat => D.tup [.int (p.2 : Nat), cellD p.1]) (d := D.tup [.int (pc.length : Nat), bad]) (rest := (rest.zipIdx (pc.length + 1)).map fun p => D.tup [.int (p.2 : Nat), p.1]) (e := noS "cells" (.int (pc.length : Nat))) (tg := gT [3, 4]) (fb := f_lb1_check_cells_0) (fun dn ρ => ∃ s3 s4, ρ = [.fz (.lst (pc.map cellD ++ bad :: rest)), .fz (.lst (ns.map Num.d)), .fz (.dct (plD ns)), s3, s4, .un, .un, .un, .un]) pc.zipIdx (by
    rintro _ ⟨s3, s4, rfl⟩
    refine ⟨_, [.fz (.lst (pc.map cellD ++ bad :: rest)), .fz (.lst (ns.map Num.d)), .fz (.dct (plD ns)), .fz (.int (pc.length : Nat)), .fz bad, .un, .un, .un, .un], rfl, ?_⟩
    refine if_t ?_ (raise_ns rfl)
    by_cases h : pc.length = 8
    · exact orT_t (test_of (op_of rfl rfl (by rw [eqA_i]; simp [h])))
    · refine orT_f (test_of (op_of rfl rfl (by rw [eqA_i]; simp; omega))) ?_
      rcases hb with hb | hb
      · exact absurd hb h
      · exact notT_f (test_of (call_of (cons_of rfl (cons_of rfl rfl)) hb))) pc.zipIdx [] [.fz (.lst (pc.map cellD ++ bad :: rest)), .fz (.lst (ns.map Num.d)), .fz (.dct (plD ns)), .un, .un, .un, .un, .un, .un] rfl ⟨_, _, rfl⟩ (by
    rintro dn ⟨c, i⟩ rest' _ h ⟨s3, s4, rfl⟩
    obtain ⟨h1, h2⟩ := zip_pre h
    dsimp only at h1 h2
    subst h2
    have hm : c ∈ pc := by rw [h1]; simp
    have hlen : dn.length < pc.length := by rw [h1]; simp
    refine ⟨_, [.fz (.lst (pc.map cellD ++ bad :: rest)), .fz (.lst (ns.map Num.d)), .fz (.dct (plD ns)), .fz (.int (dn.length : Nat)), .fz (cellD c), .un, .un, .un, .un], rfl, ?_, .fz (.int (dn.length : Nat)), .fz (cellD c), rfl⟩
    exact if_f (orT_f (test_of (op_of rfl rfl (by rw [eqA_i]; simp; omega))) (notT_t (test_of (call_of (cons_of rfl (cons_of rfl rfl)) (cell_ok S (hc c hm)))))) rfl)
  rw [← numb_pre (g := cellD)] at e
  show (f_q_check_cells_0 [.fz (.lst (pc.map cellD ++ bad :: rest)), .fz (.lst (ns.map Num.d)), .un, .un, .un, .un, .un, .un, .un]).out = _
  rw [show f_q_check_cells_0 [.fz (.lst (pc.map cellD ++ bad :: rest)), .fz (.lst (ns.map Num.d)), .un, .un, .un, .un, .un, .un, .un] = .ex (noS "cells" (.int (pc.length : Nat))) ρ' from seq_of (if_f (orT_f (notT_t (test_of (u_of rfl rfl))) (test_of (op_of rfl (lst_of (xs := []) rfl (by simp)) app_ne))) rfl) (seq_of (set_of (dc_ok (n3 := n3) S.nd)) (seq_raise (for_of (enum_of (g := id) (as := pc.map cellD ++ bad :: rest) rfl (by rw [List.map_id]; rfl)) e)))]
  rfl
end
end K09

namespace K09
open PySem L2 DL PyProof.Rows
/-! ### the law's wrong items -/
section
variable {ns pre : List Num} {cs pc : List (Str × Nat)} {n : Num} {nm : Str}
theorem first_split {α : Type} {P : α → Bool} : ∀ (as : List α), (∃ a ∈ as, P a = false) → ∃ pre a rest, as = pre ++ a :: rest ∧ (∀ b ∈ pre, P b = true) ∧ P a = false
  | [], h => by obtain ⟨_, h, _⟩ := h; cases h
  | a :: as, h => by
    cases e : P a with
    | false => exact ⟨[], a, as, rfl, (fun b hb => nomatch hb), e⟩
    | true =>
      obtain ⟨b, hb, hp⟩ := h
      obtain ⟨pre, x, rest, e1, e2, e3⟩ := first_split as ⟨b, by
        rcases List.mem_cons.mp hb with rfl | hb
        · rw [e] at hp; cases hp
        · exact hb, hp⟩
      exact ⟨a :: pre, x, rest, by rw [e1]; rfl, fun c hc => by
        rcases List.mem_cons.mp hc with rfl | hc
        · exact e
        · exact e2 c hc, e3⟩
theorem cells_lack (S : SchOk ns cs) (h1 : 1 ≤ pc.length) (h8 : pc.length ≤ 8) (hc : ∀ c ∈ pc, ∃ n ∈ ns, c.1 = n.nm ∧ c.2 < n.pl) {p : Nat} (hn : n ∈ ns) (hp : p < n.pl) (hx : (n.nm, p) ∉ pc) : F_check_cells [.lst (pc.map cellD), .lst (ns.map Num.d)] = .ex (noS "cells" .non) := by
  have n3 := S.n3
  have pcn : ∀ c ∈ pc, nameB c.1 = true := fun c h => by obtain ⟨n, hn, e, _⟩ := hc c h; rw [e]; exact S.nm n hn
  obtain ⟨ρ', e, s3, s4, rfl⟩ := for_pre (g := fun p : (Str × Nat) × Nat => D.tup [.int (p.2 : Nat), cellD p.1]) (tg := gT [3, 4]) (fb := f_lb1_check_cells_0) (fun dn ρ => ∃ s3 s4, ρ = [.fz (.lst (pc.map cellD)), .fz (.lst (ns.map Num.d)), .fz (.dct (plD ns)), s3, s4, .un, .un, .un, .un]) pc.zipIdx pc.zipIdx [] [.fz (.lst (pc.map cellD)), .fz (.lst (ns.map Num.d)), .fz (.dct (plD ns)), .un, .un, .un, .un, .un, .un] rfl ⟨_, _, rfl⟩ (by
    rintro dn ⟨c, i⟩ rest _ h ⟨s3, s4, rfl⟩
    obtain ⟨h1, h2⟩ := zip_pre h
    dsimp only at h1 h2
    subst h2
    have hm : c ∈ pc := by rw [h1]; simp
    have hlen : dn.length < pc.length := by rw [h1]; simp
    refine ⟨_, [.fz (.lst (pc.map cellD)), .fz (.lst (ns.map Num.d)), .fz (.dct (plD ns)), .fz (.int (dn.length : Nat)), .fz (cellD c), .un, .un, .un, .un], rfl, ?_, .fz (.int (dn.length : Nat)), .fz (cellD c), rfl⟩
    exact if_f (orT_f (test_of (op_of rfl rfl (by rw [eqA_i]; simp; omega))) (notT_t (test_of (call_of (cons_of rfl (cons_of rfl rfl)) (cell_ok S (hc c hm)))))) rfl)
  have look : ∀ m ∈ ns, ∀ {s3 s4 : SV}, fFn allD (fCons (fLc (fRange1 (fVar 6)) (pN 8) (fun _ => .ok true) (fOp (inA false) (fTup (fCons (fVar 5) (fCons (fVar 8) (fun _ => .ok [])))) (fVar 0)) [8]) (fun _ => .ok [])) (mask [.fz (.lst (pc.map cellD)), .fz (.lst (ns.map Num.d)), .fz (.dct (plD ns)), s3, s4, .fz (.str m.nm), .fz (.int (m.pl : Nat)), .fz (.str m.kd.nm), .un]) = .ok (.bl ((List.range m.pl).all fun p => decide ((m.nm, p) ∈ pc))) := fun m hm {s3 s4} => by
    have p4 := (S.pl m hm).2
    exact fn_of (cons_of (lc_of (g := fun p : Nat => D.int (p : Nat)) (h := fun p => .bl (decide ((m.nm, p) ∈ pc))) (as := List.range m.pl) (range1_of rfl (by omega)) (by simp; omega) fun p hp => ⟨_, rfl, rfl, op_of (tup_of (cons_of rfl (cons_of rfl rfl)) (by simp)) rfl (cell_in (c := (m.nm, p)) pcn (S.nm m hm) rfl)⟩) rfl) (all_map _)
  obtain ⟨npre, m, rest, en, en1, en2⟩ := first_split (P := fun m : Num => (List.range m.pl).all fun p => decide ((m.nm, p) ∈ pc)) ns ⟨n, hn, by
    rw [← Bool.not_eq_true, List.all_eq_true]
    intro h
    exact hx (of_decide_eq_true (h p (List.mem_range.mpr hp)))⟩
  have hm : m ∈ ns := by rw [en]; simp
  obtain ⟨ρ2, e2⟩ := for_bad (g := Num.d) (d := m.d) (rest := rest.map Num.d) (e := noS "cells" .non) (tg := gT [5, 6, 7]) (fb := f_lb2_check_cells_0) (fun dn ρ => ∃ s5 s6 s7, ρ = [.fz (.lst (pc.map cellD)), .fz (.lst (ns.map Num.d)), .fz (.dct (plD ns)), s3, s4, s5, s6, s7, .un]) npre (by
    rintro _ ⟨s5, s6, s7, rfl⟩
    refine ⟨_, [.fz (.lst (pc.map cellD)), .fz (.lst (ns.map Num.d)), .fz (.dct (plD ns)), s3, s4, .fz (.str m.nm), .fz (.int (m.pl : Nat)), .fz (.str m.kd.nm), .un], rfl, ?_⟩
    exact if_t (notT_f (test_of ((look m hm).trans (by rw [en2])))) (raise_ns rfl)) npre [] [.fz (.lst (pc.map cellD)), .fz (.lst (ns.map Num.d)), .fz (.dct (plD ns)), s3, s4, .un, .un, .un, .un] rfl ⟨_, _, _, rfl⟩ (by
    rintro dn k rest' _ h ⟨s5, s6, s7, rfl⟩
    have hk : k ∈ npre := by rw [h]; simp
    refine ⟨_, [.fz (.lst (pc.map cellD)), .fz (.lst (ns.map Num.d)), .fz (.dct (plD ns)), s3, s4, .fz (.str k.nm), .fz (.int (k.pl : Nat)), .fz (.str k.kd.nm), .un], rfl, ?_, _, _, _, rfl⟩
    exact if_f (notT_t (test_of ((look k (by rw [en]; exact List.mem_append_left _ hk)).trans (by rw [en1 k hk])))) rfl)
  have em : ns.map Num.d = npre.map Num.d ++ m.d :: rest.map Num.d := by rw [en, List.map_append, List.map_cons]
  rw [← em] at e2
  obtain ⟨c0, cr, e0⟩ : ∃ c0 cr, pc = c0 :: cr := by
    cases pc with
    | nil => simp at h1
    | cons a b => exact ⟨a, b, rfl⟩
  show (f_q_check_cells_0 [.fz (.lst (pc.map cellD)), .fz (.lst (ns.map Num.d)), .un, .un, .un, .un, .un, .un, .un]).out = _
  rw [show f_q_check_cells_0 [.fz (.lst (pc.map cellD)), .fz (.lst (ns.map Num.d)), .un, .un, .un, .un, .un, .un, .un] = .ex (noS "cells" .non) ρ2 from seq_of (if_f (orT_f (notT_t (test_of (u_of rfl rfl))) (test_of (op_of rfl (lst_of (xs := []) rfl (by simp)) (by rw [e0]; rfl)))) rfl) (seq_of (set_of (dc_ok (n3 := n3) S.nd)) (seq_of (for_of (enum_of rfl rfl) e) (for_of rfl e2)))]
  rfl
/-! numbers that are none -/
theorem nmo_ok (h : nameB nm = true) : F_is_name [.str nm] = .ok (.bl true) := by rw [name_ok (by have := name_len h; omega), h]
theorem pls_ok (h : 1 ≤ n.pl ∧ n.pl ≤ 4) : F_is_places [.int (n.pl : Nat)] = .ok (.bl true) := by
  have : n.pl = 1 ∨ n.pl = 2 ∨ n.pl = 3 ∨ n.pl = 4 := by omega
  rcases this with h | h | h | h <;> rw [h] <;> kernel_rfl
theorem num_pl {x k : D} (hn : nameB nm = true) (h : F_is_places [x] = .ok (.bl false)) : F_is_number [.tup [.str nm, x, k]] = .ok (.bl false) := by
  show (f_q_is_number_0 [.fz (.tup [.str nm, x, k])]).out = _
  rw [show f_q_is_number_0 [.fz (.tup [.str nm, x, k])] = .rt (.bl false) from seq_of (if_f (orT_f (notT_t (test_of (u_of rfl rfl))) (test_of (op_of (fn_of (cons_of rfl rfl) rfl) rfl (by rw [eqA_i]; rfl)))) rfl) (ret_of (and_t (call_of (cons_of (op_of rfl rfl (ix_t (i := 0) rfl)) rfl) (nmo_ok hn)) (and_f (call_of (cons_of (op_of rfl rfl (ix_t (i := 1) rfl)) rfl) h))))]
  rfl
theorem num_kd {k : D} (hn : nameB n.nm = true) (hp : 1 ≤ n.pl ∧ n.pl ≤ 4) (h : k = .non ∨ k = .str "Strict") : F_is_number [.tup [.str n.nm, .int (n.pl : Nat), k]] = .ok (.bl false) := by
  show (f_q_is_number_0 [.fz (.tup [.str n.nm, .int (n.pl : Nat), k])]).out = _
  have i2 : ixA (.tup [.str n.nm, .int (n.pl : Nat), k]) (.int 2) = some k := ix_t (i := 2) rfl
  rw [show f_q_is_number_0 [.fz (.tup [.str n.nm, .int (n.pl : Nat), k])] = .rt (.bl false) from seq_of (if_f (orT_f (notT_t (test_of (u_of rfl rfl))) (test_of (op_of (fn_of (cons_of rfl rfl) rfl) rfl (by rw [eqA_i]; rfl)))) rfl) (ret_of (and_t (call_of (cons_of (op_of rfl rfl (ix_t (i := 0) rfl)) rfl) (nmo_ok hn)) (and_t (call_of (cons_of (op_of rfl rfl (ix_t (i := 1) rfl)) rfl) (pls_ok hp)) (by
    rcases h with rfl | rfl
    · exact and_f (u_of (op_of rfl rfl i2) rfl)
    · exact and_t (u_of (op_of rfl rfl i2) rfl) (op_of (op_of rfl rfl i2) rfl (by kernel_rfl))))))]
  rfl
def someN1 (n : Num) : List D := [.tup [.str n.nm, .int (n.pl : Nat)], .lst [.str n.nm, .int (n.pl : Nat), .str n.kd.nm], .tup [.str n.nm, .int 0, .str n.kd.nm], .tup [.str n.nm, .int 5, .str n.kd.nm], .tup [.str n.nm, .bl true, .str n.kd.nm], .tup [.str n.nm, .str "1", .str n.kd.nm]]
def someN2 (n : Num) : List D := [.tup [.str "", .int (n.pl : Nat), .str n.kd.nm], .tup [.str "Aa", .int (n.pl : Nat), .str n.kd.nm], .tup [.str (Txt.mul "a" 13), .int (n.pl : Nat), .str n.kd.nm], .tup [.int 7, .int (n.pl : Nat), .str n.kd.nm], .tup [.str "a b", .int (n.pl : Nat), .str n.kd.nm]]
def someN3 (n : Num) : List D := [.tup [.str n.nm, .int (n.pl : Nat), .str "Strict"], .tup [.str n.nm, .int (n.pl : Nat), .non], .non, .str n.nm, .tup [.str "a1", .int (n.pl : Nat), .str n.kd.nm], .tup [.str n.nm, .int (n.pl : Nat), .str n.kd.nm, .int 1]]
def someN (n : Num) : List D := someN1 n ++ someN2 n ++ someN3 n
theorem some_no (hn : nameB n.nm = true) (hp : 1 ≤ n.pl ∧ n.pl ≤ 4) {x : D} (hx : x ∈ someN n) : F_is_number [x] = .ok (.bl false) := by
  simp only [someN, someN1, someN2, someN3, List.mem_append, List.mem_cons, List.not_mem_nil, or_false] at hx
  rcases hx with ((rfl | rfl | rfl | rfl | rfl | rfl) | (rfl | rfl | rfl | rfl | rfl)) | (rfl | rfl | rfl | rfl | rfl | rfl)
  · kernel_rfl
  · kernel_rfl
  · exact num_pl hn (by kernel_rfl)
  · exact num_pl hn (by kernel_rfl)
  · exact num_pl hn (by kernel_rfl)
  · exact num_pl hn (by kernel_rfl)
  · kernel_rfl
  · kernel_rfl
  · kernel_rfl
  · kernel_rfl
  · kernel_rfl
  · exact num_kd hn hp (.inr rfl)
  · exact num_kd hn hp (.inl rfl)
  · kernel_rfl
  · kernel_rfl
  · kernel_rfl
  · kernel_rfl
/-! cells that are none -/
def someC1 (n : Num) : List D := [.tup [.str n.nm, .int (n.pl : Nat)], .tup [.str n.nm, .int (-1)], .tup [.str n.nm, .bl true], .tup [.str n.nm, .str "0"], .lst [.str n.nm, .int 0], .tup [.str n.nm], .tup [.str n.nm, .int 0, .int 0], .tup [.str (("zz" : Str) ++ n.nm), .int 0]]
def someC2 (n : Num) : List D := [.non, .str n.nm, .tup [.non, .int 0], .tup [.int 7, .int 0], .tup [.lst [.str n.nm], .int 0], .tup [.dct [], .int 0], .tup [.str n.nm, .non], .tup [.str n.nm, .int (10 ^ 30)]]
def someC (n : Num) : List D := someC1 n ++ someC2 n
theorem cell_at (nd : (ns.map Num.nm).Nodup) (hn : n ∈ ns) {y : D} (h : F_is_whole [y] = .ok (.bl false) ∨ ∃ i : Int, y = .int i ∧ (i < 0 ∨ n.pl ≤ i)) : F_is_cell [.tup [.str n.nm, y], .dct (plD ns)] = .ok (.bl false) := by
  have i0 : ixA (.tup [.str n.nm, y]) (.int 0) = some (.str n.nm) := ix_t (i := 0) rfl
  have i1 : ixA (.tup [.str n.nm, y]) (.int 1) = some y := ix_t (i := 1) rfl
  have v := val_in nd hn
  have g1 : inA true (.str n.nm) (.dct (plD ns)) = some (.bl false) := by
    show dinD true (.str n.nm) (.dct (plD ns)) = _
    simp only [dinD, keyD, Option.map_some, Option.bind_some, v]
    rfl
  have g2 : ixA (.dct (plD ns)) (.str n.nm) = some (.int (n.pl : Nat)) := by
    show dgetD (.dct (plD ns)) (.str n.nm) = _
    simp only [dgetD, keyD, Option.bind_some, v]
  show (f_q_is_cell_0 [.fz (.tup [.str n.nm, y]), .fz (.dct (plD ns))]).out = _
  rw [show f_q_is_cell_0 [.fz (.tup [.str n.nm, y]), .fz (.dct (plD ns))] = .rt (.bl false) from seq_of (if_f (orT_f (notT_t (test_of (u_of rfl rfl))) (orT_f (test_of (op_of (fn_of (cons_of rfl rfl) rfl) rfl (by rw [eqA_i]; rfl))) (orT_f (notT_t (test_of (u_of (op_of rfl rfl i0) rfl))) (test_of (op_of (op_of rfl rfl i0) rfl g1))))) rfl) (ret_of (by
    rcases h with h | ⟨i, rfl, h⟩
    · exact and_f (call_of (cons_of (op_of rfl rfl i1) rfl) h)
    · refine and_t (call_of (cons_of (op_of rfl rfl i1) rfl) whole_i) ?_
      by_cases hi : 0 ≤ i
      · exact chain_tt rfl (op_of rfl rfl i1) (by rw [le_i, decide_eq_true hi]) (op_of rfl (op_of rfl rfl i0) g2) (by rw [lt_i, decide_eq_false (by omega)])
      · exact chain_ff rfl (op_of rfl rfl i1) (by rw [le_i, decide_eq_false hi])))]
  rfl
theorem val_out : ∀ {ns : List Num} {z : Str}, (∀ n ∈ ns, n.nm ≠ z) → valD (plD ns) (.inr z) = none
  | [], _, _ => rfl
  | m :: ns, z, h => by
    unfold valD plD
    rw [List.map_cons, List.find?_cons]
    rw [decide_eq_false (show ¬ (Sum.inr m.nm : Key) = .inr z from fun q => h m List.mem_cons_self (Sum.inr.inj q))]
    exact val_out fun n hn => h n (List.mem_cons_of_mem _ hn)
theorem cell_out {z : Str} {y : D} (h : ∀ n ∈ ns, n.nm ≠ z) : F_is_cell [.tup [.str z, y], .dct (plD ns)] = .ok (.bl false) := by
  have i0 : ixA (.tup [.str z, y]) (.int 0) = some (.str z) := ix_t (i := 0) rfl
  have v := val_out h
  have g1 : inA true (.str z) (.dct (plD ns)) = some (.bl true) := by
    show dinD true (.str z) (.dct (plD ns)) = _
    simp only [dinD, keyD, Option.map_some, Option.bind_some, v]
    rfl
  show (f_q_is_cell_0 [.fz (.tup [.str z, y]), .fz (.dct (plD ns))]).out = _
  have key : (fIfF (fOrT (fNotT (fTest (fU (isiD (isTab tb_tuple)) (fVar 0)))) (fOrT (fTest (fOp (eqA true) (fFn lenD (fCons (fVar 0) (fun _ => .ok []))) (fC (.int 2)))) (fOrT (fNotT (fTest (fU (isiD (isTab tb_str)) (fOp ixA (fVar 0) (fC (.int 0)))))) (fTest (fOp (inA true) (fOp ixA (fVar 0) (fC (.int 0))) (fVar 1)))))) (fRet (fC (.bl false))) Fl.nx) [.fz (.tup [.str z, y]), .fz (.dct (plD ns))] = .rt (.bl false) :=
    if_t (orT_f (notT_t (test_of (u_of rfl rfl))) (orT_f (test_of (op_of (fn_of (cons_of rfl rfl) rfl) rfl (by rw [eqA_i]; rfl))) (orT_f (notT_t (test_of (u_of (op_of rfl rfl i0) rfl))) (test_of (op_of (op_of rfl rfl i0) rfl g1))))) (ret_of rfl)
  unfold f_q_is_cell_0 fSeq
  rw [key]
  rfl
theorem app_len (a b : Str) : (a ++ b).length = a.length + b.length := by
  show (a.cps ++ b.cps).size = a.cps.size + b.cps.size
  exact Array.size_append
theorem someC_no (nd : (ns.map Num.nm).Nodup) (hn : n ∈ ns) (hp : n.pl ≤ 4) (hl : ∃ L, ∀ m ∈ ns, m.nm.length = L) {x : D} (hx : x ∈ someC n) : F_is_cell [x, .dct (plD ns)] = .ok (.bl false) := by
  simp only [someC, someC1, someC2, List.mem_append, List.mem_cons, List.not_mem_nil, or_false] at hx
  rcases hx with (rfl | rfl | rfl | rfl | rfl | rfl | rfl | rfl) | (rfl | rfl | rfl | rfl | rfl | rfl | rfl | rfl)
  · exact cell_at nd hn (.inr ⟨_, rfl, .inr (Int.le_refl _)⟩)
  · exact cell_at nd hn (.inr ⟨_, rfl, .inl (by decide)⟩)
  · exact cell_at nd hn (.inl (by kernel_rfl))
  · exact cell_at nd hn (.inl (by kernel_rfl))
  · kernel_rfl
  · kernel_rfl
  · kernel_rfl
  · refine cell_out fun m hm e => ?_
    obtain ⟨L, hL⟩ := hl
    have h1 := hL m hm
    have h2 := hL n hn
    rw [e, app_len] at h1
    have : (("zz" : String) : Str).length = 2 := by decide +kernel
    omega
  · kernel_rfl
  · kernel_rfl
  · kernel_rfl
  · kernel_rfl
  · kernel_rfl
  · kernel_rfl
  · exact cell_at nd hn (.inl (by kernel_rfl))
  · exact cell_at nd hn (.inr ⟨_, rfl, .inr (by omega)⟩)
end
end K09

namespace K09
open PySem L2 DL PyProof.Rows
/-! ### schemes made, or not; schemes compared -/
section
variable {ns ms : List Num} {cs es : List (Str × Nat)} {x y w : D} {part : Str}
theorem drop_ex {F : List D → R D} {fr : DEnv → R (List D)} {ρ : SEnv} {xs : List D} {e : Exn} (h1 : fr (mask ρ) = .ok xs) (h2 : F xs = .ex e) : fDrop (fCall F fr) ρ = .ex e ρ := by
  unfold fDrop
  rw [call_of h1 h2]; rfl
theorem drop_ok {F : List D → R D} {fr : DEnv → R (List D)} {ρ : SEnv} {xs : List D} {d : D} (h1 : fr (mask ρ) = .ok xs) (h2 : F xs = .ok d) : fDrop (fCall F fr) ρ = .nx ρ := by
  unfold fDrop
  rw [call_of h1 h2]; rfl
theorem init_exN {e : Exn} (h : F_check_numbers [x] = .ex e) : F_Scheme_init cS [] [x, y] = .ex e := by
  show outIn cS (f_q_Scheme_init_0 [.ob cS [], .fz x, .fz y]) = _
  rw [show f_q_Scheme_init_0 [.ob cS [], .fz x, .fz y] = .ex e [.ob cS [], .fz x, .fz y] from seq_raise (drop_ex (cons_of rfl rfl) h)]
  rfl
theorem init_exC {e : Exn} {d : D} (h1 : F_check_numbers [x] = .ok d) (h : F_check_cells [y, x] = .ex e) : F_Scheme_init cS [] [x, y] = .ex e := by
  show outIn cS (f_q_Scheme_init_0 [.ob cS [], .fz x, .fz y]) = _
  rw [show f_q_Scheme_init_0 [.ob cS [], .fz x, .fz y] = .ex e [.ob cS [], .fz x, .fz y] from seq_of (drop_ok (cons_of rfl rfl) h1) (seq_raise (drop_ex (cons_of rfl (cons_of rfl rfl)) h))]
  rfl
theorem made_ok (S : SchOk ns cs) : F__law_made [.lst (ns.map Num.d), .lst (cs.map cellD)] = .ok (.lst [sch ns cs]) := by
  show (f_q__law_made_0 [.fz (.lst (ns.map Num.d)), .fz (.lst (cs.map cellD)), .un, .un, .un]).out = _
  have t : fTry ct_RisingError 4 2 (fSet 3 (fNew 2 F_Scheme_init (fCons (fVar 0) (fCons (fVar 1) (fun _ => .ok []))))) [.fz (.lst (ns.map Num.d)), .fz (.lst (cs.map cellD)), .fz .non, .fz .non, .un] = .nx [.fz (.lst (ns.map Num.d)), .fz (.lst (cs.map cellD)), .fz .non, .fz (sch ns cs), .un] := by
    unfold fTry
    rw [show fSet 3 (fNew 2 F_Scheme_init (fCons (fVar 0) (fCons (fVar 1) (fun _ => .ok [])))) [.fz (.lst (ns.map Num.d)), .fz (.lst (cs.map cellD)), .fz .non, .fz .non, .un] = .nx [.fz (.lst (ns.map Num.d)), .fz (.lst (cs.map cellD)), .fz .non, .fz (sch ns cs), .un] from set_of (new_of (cons_of rfl (cons_of rfl rfl)) (sch_ok S))]
  rw [show f_q__law_made_0 [.fz (.lst (ns.map Num.d)), .fz (.lst (cs.map cellD)), .un, .un, .un] = .rt (.lst [sch ns cs]) from seq_of (set_of rfl) (seq_of (set_of rfl) (seq_of t (by kernel_rfl)))]
  rfl
theorem made_ex (h : F_Scheme_init cS [] [x, y] = .ex (noS part w)) : F__law_made [x, y] = .ok (.tup [.str part, w]) := by
  show (f_q__law_made_0 [.fz x, .fz y, .un, .un, .un]).out = _
  have t : fTry ct_RisingError 4 2 (fSet 3 (fNew 2 F_Scheme_init (fCons (fVar 0) (fCons (fVar 1) (fun _ => .ok []))))) [.fz x, .fz y, .fz .non, .fz .non, .un] = .nx [.fz x, .fz y, .fz (.exc 1 [("at", w), ("part", .str part)]), .fz .non, .un] := by
    have q : fSet 3 (fNew 2 F_Scheme_init (fCons (fVar 0) (fCons (fVar 1) (fun _ => .ok [])))) [.fz x, .fz y, .fz .non, .fz .non, .un] = .ex (noS part w) [.fz x, .fz y, .fz .non, .fz .non, .un] := by
      unfold fSet
      rw [show fNew 2 F_Scheme_init (fCons (fVar 0) (fCons (fVar 1) (fun _ => .ok []))) (mask [.fz x, .fz y, .fz .non, .fz .non, .un]) = .ex (noS part w) from by
        unfold fNew
        rw [show fCons (fVar 0) (fCons (fVar 1) (fun _ => .ok [])) (mask [.fz x, .fz y, .fz .non, .fz .non, .un]) = .ok [x, y] from cons_of rfl (cons_of rfl rfl), bind_ok, h]; rfl]
      rfl
    unfold fTry
    rw [q]
    kernel_rfl
  rw [show f_q__law_made_0 [.fz x, .fz y, .un, .un, .un] = .rt (.tup [.str part, w]) from seq_of (set_of rfl) (seq_of (set_of rfl) (seq_of t (by kernel_rfl)))]
  rfl
theorem scheq_ok (S : SchOk ns cs) : F_Scheme___eq__ [sch ns cs, sch ns cs] = .ok (.bl true) := by
  show (f_q_Scheme___eq___0 [.fz (sch ns cs), .fz (sch ns cs)]).out = _
  rw [show f_q_Scheme___eq___0 [.fz (sch ns cs), .fz (sch ns cs)] = .rt (.bl true) from ret_of (and_t (u_of rfl rfl) (and_t (op_of (u_of rfl at_numbers) (u_of rfl at_numbers) (eq_tup (nums_sm S.nm).1 (nums_sm S.nm).2)) (op_of (u_of rfl at_cells) (u_of rfl at_cells) (eq_tup (cells_sm S.cn).1 (cells_sm S.cn).2))))]
  rfl
theorem scheq_n (S : SchOk ns cs) (M : SchOk ms es) (h : ns.map Num.d ≠ ms.map Num.d) : F_Scheme___eq__ [sch ns cs, sch ms es] = .ok (.bl false) := by
  show (f_q_Scheme___eq___0 [.fz (sch ns cs), .fz (sch ms es)]).out = _
  have s1 := nums_sm S.nm
  have s2 := nums_sm M.nm
  rw [show f_q_Scheme___eq___0 [.fz (sch ns cs), .fz (sch ms es)] = .rt (.bl false) from ret_of (and_t (u_of rfl rfl) (and_f (op_of (u_of rfl at_numbers) (u_of rfl at_numbers) (eqA_diff (by simpa [D.sm] using s1.1) (by simpa [D.sm] using s2.1) (by simp only [D.dp]; omega) (by simp only [D.dp]; omega) (by simpa using h)))))]
  rfl
theorem scheq_c (S : SchOk ns cs) (M : SchOk ns es) (h : cs ≠ es) : F_Scheme___eq__ [sch ns cs, sch ns es] = .ok (.bl false) := by
  show (f_q_Scheme___eq___0 [.fz (sch ns cs), .fz (sch ns es)]).out = _
  have s1 := cells_sm S.cn
  have s2 := cells_sm M.cn
  have hne : cs.map cellD ≠ es.map cellD := fun q => h ((List.map_inj_right fun a b e => cellD_inj.mp e).mp q)
  rw [show f_q_Scheme___eq___0 [.fz (sch ns cs), .fz (sch ns es)] = .rt (.bl false) from ret_of (and_t (u_of rfl rfl) (and_t (op_of (u_of rfl at_numbers) (u_of rfl at_numbers) (eq_tup (nums_sm S.nm).1 (nums_sm S.nm).2)) (op_of (u_of rfl at_cells) (u_of rfl at_cells) (eqA_diff (by simpa [D.sm] using s1.1) (by simpa [D.sm] using s2.1) (by simp only [D.dp]; omega) (by simp only [D.dp]; omega) (by simpa using hne)))))]
  rfl
theorem scheq_l {ys : List D} : F_Scheme___eq__ [sch ns cs, .lst ys] = .ok (.bl false) := by kernel_rfl
end
end K09

namespace K09
open PySem L2 DL PyProof.Rows
/-! ### wrong numbers drawn -/
section
variable {te : DE} {fe : DEnv → R D} {tc : DT} {fA : DEnv → R Bool} {t u : DS} {En : DEnds} {ρ : SEnv} {g : Gh} {i j m n cl : Nat}
theorem if_puT (h : PuT tc fA) (hg : memNl g = true) (e : fA (mask ρ) = .ok true) (k : t { En with nx := u En } ρ g) : dSeq (dIfS tc t dNext) u En ρ g := h _ g _ _ hg (by rw [e]; exact k)
theorem if_puF (h : PuT tc fA) (hg : memNl g = true) (e : fA (mask ρ) = .ok false) (k : u En ρ g) : dSeq (dIfS tc t dNext) u En ρ g := h _ g _ _ hg (by rw [e]; exact k)
theorem setTake (h : PuE te fe) (e : fe (mask ρ) = .ok (.int (m : Nat))) (h1 : (mask ρ)[j]? = some (some .pen)) (hm : 0 < m) (hm2 : m < 1000000) (hn : n < 800000) (k : ∀ v : Nat, v < m → u En (ρ.set i (.fz (.int (v : Nat)))) (gh (n + 1) cl)) : dSeq (dSet i (dCall S__law_take (dCons (dVar j) (dCons te dNil)))) u En ρ (gh n cl) :=
  ⟨_, h1, h _ _ _ _ rfl (by
    rw [e]
    exact take_m hm hm2 (by omega) k)⟩
theorem retPick {xs : List D} {w : D} (h : PuE te fe) (e : fe (mask ρ) = .ok (.lst xs)) (hl : xs.length = m) (hm : 0 < m) (hm2 : m < 1000000) (hn : n < 800000) (h1 : (mask ρ)[j]? = some (some .pen)) (k : ∀ x ∈ xs, En.rt (.tup [x, w]) (gh (n + 1) cl)) : dRet (dTup (dCons (dOp ixA te (dCall S__law_take (dCons (dVar j) (dCons (dC (.int (m : Nat))) dNil)))) (dCons (dC w) dNil))) En ρ (gh n cl) :=
  h _ _ _ _ rfl (by
    rw [e]
    refine ⟨_, h1, take_m hm hm2 (by omega) fun v hv => ?_⟩
    have hj : v < xs.length := by omega
    exact ⟨xs[v], ix_l (List.getElem?_eq_getElem hj), Nat.le_of_ble_eq_true rfl, k _ (List.getElem_mem hj)⟩)
theorem retBad {jl ja js : Nat} {L sm : List D} (hL : (mask ρ)[jl]? = some (some (.lst L))) (ha : (mask ρ)[ja]? = some (some (.int (i : Nat)))) (hs : (mask ρ)[js]? = some (some (.lst sm))) (h0 : (mask ρ)[0]? = some (some .pen)) (hi : i < L.length) (hl : L.length ≤ 20) (s1 : 0 < sm.length) (s2 : sm.length ≤ 100) (hn : n < 800000)
    (k : ∀ x ∈ sm, En.rt (.tup [.lst (L.take i ++ x :: L.drop (i + 1)), .int (i : Nat)]) (gh (n + 1) cl)) : dRet (dTup (dCons (dOp addD (dOp addD (dSl (dVar jl) dNoPart (dPart (dVar ja))) (dLst (dCons (dOp ixA (dVar js) (dCall S__law_take (dCons (dVar 0) (dCons (dFn lenD (dCons (dVar js) dNil)) dNil)))) dNil))) (dSl (dVar jl) (dPart (dOp addD (dVar ja) (dC (.int 1)))) dNoPart)) (dCons (dVar ja) dNil))) En ρ (gh n cl) := by
  have c1 : slD (.lst L) none (some (i : Nat)) = some (.lst (L.take i)) := by
    show some (D.lst (cutL L none (some (i : Nat)))) = _
    rw [cut_take (by omega) (by omega)]; rfl
  have c2 : slD (.lst L) (some ((i : Nat) + 1 : Int)) none = some (.lst (L.drop (i + 1))) := by
    show some (D.lst (cutL L (some ((i : Nat) + 1 : Int)) none)) = _
    rw [cut_drop (by omega) (by omega)]; rfl
  refine ⟨_, hL, _, ha, _, rfl, _, c1, _, hs, _, h0, _, hs, _, len_l, take_m s1 (by omega) (by omega) fun v hv => ?_⟩
  refine ⟨sm[v], ix_l (List.getElem?_eq_getElem hv), Nat.le_of_ble_eq_true rfl, _, add_l (by simp; omega), _, hL, _, ha, _, add_ii, _, rfl, _, c2, _, add_l (by simp; omega), _, ha, Nat.le_of_ble_eq_true rfl, ?_⟩
  have := k _ (List.getElem_mem hv)
  rw [List.append_assoc, List.singleton_append]
  exact this
def Wok (w : D) : Prop := w = .non ∨ ∃ k : Nat, w = .int (k : Nat)
abbrev bnE (ns : List Num) (s2 s3 s4 s5 s6 s7 : SV) : SEnv := [.fz .pen, .fz (.lst (ns.map Num.d)), s2, s3, s4, s5, s6, s7]
theorem bad_numbers_gen {ns : List Num} {room : Nat} {Φ : DQ} {Ψ : DZ} (N : NsOk ns room) (hn : n < 700000) (h : ∀ X w m, F_check_numbers [X] = .ex (noS "numbers" w) → Wok w → m ≤ n + 4 → Φ (.tup [X, w]) (gh m cl)) : S__law_bad_numbers [.pen, .lst (ns.map Num.d)] (gh n cl) Φ Ψ := by
  have n1 := N.n1
  have n3 := N.n3
  unfold S__law_bad_numbers DL.specOf t__law_bad_numbers q__law_bad_numbers_0
  show dSeq (dSet 2 (dCall S__law_take (dCons (dVar 0) (dCons (dC (.int 4)) dNil)))) q__law_bad_numbers_1 _ (bnE ns .un .un .un .un .un .un) _
  refine setTake (m := 4) pu_c rfl rfl (by omega) (by omega) (by omega) fun way hw => ?_
  show q__law_bad_numbers_1 _ (bnE ns (.fz (.int (way : Nat))) .un .un .un .un .un) _
  unfold q__law_bad_numbers_1
  by_cases w0 : way = 0
  · subst w0
    refine if_puT (pu_test (pu_op pu_var pu_c)) rfl (test_of (op_of rfl rfl (by kernel_rfl))) ?_
    refine retPick (m := 6) (xs := noLsts (ns.map Num.d)) (pu_lst (pu_cons pu_c (pu_cons (pu_tup pu_nil) (pu_cons pu_c (pu_cons (pu_lst pu_nil) (pu_cons pu_c (pu_cons (pu_fn (pu_cons pu_var pu_nil)) pu_nil))))))) (by kernel_rfl) rfl (by omega) (by omega) (by omega) rfl fun x hx => ?_
    exact h _ _ _ (numbers_no hx) (.inl rfl) (by omega)
  refine if_puF (pu_test (pu_op pu_var pu_c)) rfl (test_of (op_of rfl rfl (by rw [eqA_i]; simp; omega))) ?_
  unfold q__law_bad_numbers_2
  by_cases w1 : way = 1
  · subst w1
    refine if_puT (pu_test (pu_op pu_var pu_c)) rfl (test_of (op_of rfl rfl (by kernel_rfl))) ?_
    refine seq_pu (pu_set (pu_lst (pu_cons (pu_tup (pu_cons pu_c (pu_cons pu_c (pu_cons pu_c pu_nil)))) (pu_cons (pu_tup (pu_cons pu_c (pu_cons pu_c (pu_cons pu_c pu_nil)))) (pu_cons (pu_tup (pu_cons pu_c (pu_cons pu_c (pu_cons pu_c pu_nil)))) (pu_cons (pu_tup (pu_cons pu_c (pu_cons pu_c (pu_cons pu_c pu_nil)))) (pu_cons pu_c pu_nil))))))) rfl (set_of (d := .lst [.tup [.str "qa", .int 1, .str "weak"], .tup [.str "qb", .int 1, .str "free"], .tup [.str "qc", .int 1, .str "strict"], .tup [.str "qd", .int 1, .str "free"], .int 7]) (by kernel_rfl)) ?_
    refine ⟨_, rfl, _, rfl, take_m (m := 2) (by omega) (by omega) (by omega) fun v hv => ?_⟩
    have : v = 0 ∨ v = 1 := by omega
    rcases this with rfl | rfl
    · exact ⟨_, rfl, _, rfl, _, rfl, Nat.le_of_ble_eq_true rfl, h _ _ _ (by kernel_rfl) (.inr ⟨3, rfl⟩) (by omega)⟩
    · exact ⟨_, rfl, _, rfl, _, rfl, Nat.le_of_ble_eq_true rfl, h _ _ _ (by kernel_rfl) (.inr ⟨3, rfl⟩) (by omega)⟩
  refine if_puF (pu_test (pu_op pu_var pu_c)) rfl (test_of (op_of rfl rfl (by rw [eqA_i]; simp; omega))) ?_
  unfold q__law_bad_numbers_3
  refine setTake (m := ns.length) (pu_fn (pu_cons pu_var pu_nil)) (fn_of (cons_of rfl rfl) (by rw [len_l, List.length_map])) rfl (by omega) (by omega) (by omega) fun i hi => ?_
  show q__law_bad_numbers_4 _ (bnE ns (.fz (.int (way : Nat))) (.fz (.int (i : Nat))) .un .un .un .un) _
  have hm : ns[i] ∈ ns := List.getElem_mem hi
  refine seq_pu pq_s_q__law_bad_numbers_4 rfl (asgT_of (op_of rfl rfl (ix_l (d := (ns[i]).d) (by rw [List.getElem?_map, List.getElem?_eq_getElem hi]; rfl))) rfl) ?_
  have hname := N.nm _ hm
  have hpl := N.pl _ hm
  generalize hk : ns[i] = k at hm hname hpl
  show q__law_bad_numbers_5 _ (bnE ns (.fz (.int (way : Nat))) (.fz (.int (i : Nat))) .un (.fz (.str k.nm)) (.fz (.int (k.pl : Nat))) (.fz (.str k.kd.nm))) _
  refine seq_pu pq_s_q__law_bad_numbers_5 rfl (set_of (d := .lst (someN1 k)) (by kernel_rfl)) ?_
  refine seq_pu pq_s_q__law_bad_numbers_6 rfl (set_of (d := .lst (someN1 k ++ someN2 k)) (by kernel_rfl)) ?_
  refine seq_pu pq_s_q__law_bad_numbers_7 rfl (set_of (d := .lst (someN k)) (by kernel_rfl)) ?_
  show q__law_bad_numbers_8 _ (bnE ns (.fz (.int (way : Nat))) (.fz (.int (i : Nat))) (.fz (.lst (someN k))) (.fz (.str k.nm)) (.fz (.int (k.pl : Nat))) (.fz (.str k.kd.nm))) _
  have lt : (ns.take i).length = i := by rw [List.length_take]; omega
  have fin : ∀ x, BadN (ns.take i) x → F_check_numbers [.lst ((ns.map Num.d).take i ++ x :: (ns.map Num.d).drop (i + 1))] = .ex (noS "numbers" (.int (i : Nat))) := fun x hx => by
    have nd := N.nd
    rw [← List.take_append_drop i ns, List.map_append, List.nodup_append] at nd
    have := numbers_bad (pre := ns.take i) (rest := (ns.map Num.d).drop (i + 1)) (by omega) (fun n hn => N.nm n (List.mem_of_mem_take hn)) (fun n hn => N.pl n (List.mem_of_mem_take hn)) nd.1 hx
    rw [lt] at this
    rw [← List.map_take]
    exact this
  by_cases i0 : 0 < i
  · have h0 : 0 < ns.length := by omega
    have x0 : ixA (.lst (ns.map Num.d)) (.int 0) = some (ns[0]).d := ix_l (i := 0) (by rw [List.getElem?_map, List.getElem?_eq_getElem h0]; rfl)
    have x1 : ixA (ns[0]).d (.int 0) = some (.str (ns[0]).nm) := ix_t (i := 0) rfl
    have hin : ns[0] ∈ ns.take i := List.mem_take_iff_getElem.mpr ⟨0, by omega, rfl⟩
    have hn0 := N.nm _ (List.getElem_mem h0)
    have hp0 := N.pl _ (List.getElem_mem h0)
    generalize ns[0] = z at x0 x1 hin hn0 hp0
    refine seq_pu pq_s_q__law_bad_numbers_8 rfl (if_t (test_of (op_of rfl rfl (by rw [gt_i, decide_eq_true (by omega)]))) (set_of (d := .lst (someN k ++ [z.d, .tup [.str z.nm, .int 1, .str "free"]])) (op_of rfl (lst_of (cons_of (op_of rfl rfl x0) (cons_of (tup_of (cons_of (op_of (op_of rfl rfl x0) rfl x1) (cons_of rfl (cons_of rfl rfl))) (by simp)) rfl)) (by simp)) (add_l (by simp [someN, someN1, someN2, someN3]))))) ?_
    refine retBad rfl rfl rfl rfl (by rw [List.length_map]; exact hi) (by rw [List.length_map]; omega) (by simp) (by simp [someN, someN1, someN2, someN3]) (by omega) fun x hx => ?_
    refine h _ _ _ (fin x ?_) (.inr ⟨i, rfl⟩) (by omega)
    rcases List.mem_append.mp hx with hx | hx
    · exact .inr (.inl (some_no hname hpl hx))
    · simp only [List.mem_cons, List.not_mem_nil, or_false] at hx
      rcases hx with rfl | rfl
      · exact .inr (.inr ⟨z, rfl, hn0, hp0, List.mem_map.mpr ⟨z, hin, rfl⟩⟩)
      · exact .inr (.inr ⟨⟨z.nm, 1, .f⟩, rfl, hn0, ⟨Nat.le_refl 1, Nat.le_of_ble_eq_true rfl⟩, List.mem_map.mpr ⟨z, hin, rfl⟩⟩)
  · refine seq_pu pq_s_q__law_bad_numbers_8 rfl (if_f (test_of (op_of rfl rfl (by rw [gt_i, decide_eq_false (by omega)]))) rfl) ?_
    refine retBad rfl rfl rfl rfl (by rw [List.length_map]; exact hi) (by rw [List.length_map]; omega) (by simp [someN, someN1]) (by simp [someN, someN1, someN2, someN3]) (by omega) fun x hx => ?_
    exact h _ _ _ (fin x (.inr (.inl (some_no hname hpl hx)))) (.inr ⟨i, rfl⟩) (by omega)
end
end K09

namespace K09
open PySem L2 DL PyProof.Rows
/-! ### wrong cells drawn -/
section
variable {n cl : Nat}
abbrev bcE (ns : List Num) (cs : List (Str × Nat)) (s3 s4 s5 s6 s7 s8 s9 : SV) : SEnv := [.fz .pen, .fz (.lst (ns.map Num.d)), .fz (.lst (cs.map cellD)), s3, s4, s5, s6, s7, s8, s9, .un]
theorem bad_cells_gen {ns : List Num} {cs : List (Str × Nat)} {room : Nat} {Φ : DQ} {Ψ : DZ} (N : NsOk ns room) (C : CsOk ns cs) (hn : n < 700000) (h : ∀ X w m, F_check_cells [X, .lst (ns.map Num.d)] = .ex (noS "cells" w) → Wok w → m ≤ n + 5 → Φ (.tup [X, w]) (gh m cl)) : S__law_bad_cells [.pen, .lst (ns.map Num.d), .lst (cs.map cellD)] (gh n cl) Φ Ψ := by
  have S := C.sch N
  have n1 := N.n1
  have n3 := N.n3
  have c1 := S.c1
  have c8 := S.c8
  unfold S__law_bad_cells DL.specOf t__law_bad_cells q__law_bad_cells_0
  show dSeq (dSet 3 (dCall S__law_take (dCons (dVar 0) (dCons (dC (.int 5)) dNil)))) q__law_bad_cells_1 _ (bcE ns cs .un .un .un .un .un .un .un) _
  refine setTake (m := 5) pu_c rfl rfl (by omega) (by omega) (by omega) fun way hw => ?_
  show q__law_bad_cells_1 _ (bcE ns cs (.fz (.int (way : Nat))) .un .un .un .un .un .un) _
  unfold q__law_bad_cells_1
  refine ⟨_, rfl, _, rfl, _, rfl, _, len_l, ?_⟩
  rw [List.length_map]
  refine take_m (by omega) (by omega) (by omega) fun j hj => ⟨_, ix_l (d := (ns[j]).d) (by rw [List.getElem?_map, List.getElem?_eq_getElem hj]; rfl), _, rfl, ?_⟩
  have hm : ns[j] ∈ ns := List.getElem_mem hj
  generalize ns[j] = k at hm
  show q__law_bad_cells_2 _ (bcE ns cs (.fz (.int (way : Nat))) .un .un (.fz (.str k.nm)) (.fz (.int (k.pl : Nat))) (.fz (.str k.kd.nm)) .un) _
  unfold q__law_bad_cells_2
  by_cases w0 : way = 0
  · subst w0
    refine if_puT (pu_test (pu_op pu_var pu_c)) rfl (test_of (op_of rfl rfl (by kernel_rfl))) ?_
    refine retPick (m := 6) (xs := noLsts (cs.map cellD)) (pu_lst (pu_cons pu_c (pu_cons (pu_tup pu_nil) (pu_cons pu_c (pu_cons (pu_lst pu_nil) (pu_cons pu_c (pu_cons (pu_fn (pu_cons pu_var pu_nil)) pu_nil))))))) (by kernel_rfl) rfl (by omega) (by omega) (by omega) rfl fun x hx => ?_
    exact h _ _ _ (cells_no hx) (.inl rfl) (by omega)
  refine if_puF (pu_test (pu_op pu_var pu_c)) rfl (test_of (op_of rfl rfl (by rw [eqA_i]; simp; omega))) ?_
  unfold q__law_bad_cells_3
  obtain ⟨c0, cr, e0⟩ : ∃ c0 cr, cs = c0 :: cr := by
    cases cs with
    | nil => simp at c1
    | cons a b => exact ⟨a, b, rfl⟩
  have hc0 : c0 ∈ cs := by rw [e0]; simp
  have x0 : ixA (.lst (cs.map cellD)) (.int 0) = some (cellD c0) := ix_l (i := 0) (by rw [e0]; rfl)
  by_cases w1 : way = 1
  · subst w1
    refine if_puT (pu_test (pu_op pu_var pu_c)) rfl (test_of (op_of rfl rfl (by kernel_rfl))) ?_
    have e9 : mulD (.lst [cellD c0]) (.int 9) = some (.lst (List.replicate 9 (cellD c0))) := by kernel_rfl
    have ea : addD (.lst (cs.map cellD)) (.lst (List.replicate 9 (cellD c0))) = some (.lst (cs.map cellD ++ List.replicate 9 (cellD c0))) := add_l (by simp; omega)
    refine ⟨_, rfl, _, rfl, _, x0, Nat.le_of_ble_eq_true rfl, _, e9, _, ea, _, rfl, take_m (m := 2) (by omega) (by omega) (by omega) fun v hv => ?_⟩
    have key : ∀ a : Nat, 9 ≤ a → a ≤ 10 → ∃ (pc : List (Str × Nat)) (rest : List D), slD (.lst (cs.map cellD ++ List.replicate 9 (cellD c0))) none (some (a : Nat)) = some (.lst (pc.map cellD ++ cellD c0 :: rest)) ∧ pc.length = 8 ∧ ∀ c ∈ pc, c ∈ cs := fun a h1 h2 => by
      refine ⟨cs ++ List.replicate (8 - cs.length) c0, List.replicate (a - 9) (cellD c0), ?_, by simp; omega, fun c hc => ?_⟩
      · show some (D.lst (cutL _ none (some (a : Nat)))) = _
        rw [cut_take (by omega) (by simp; omega), Int.toNat_natCast, List.take_append, List.length_map, List.take_of_length_le (by simp; omega), List.take_replicate, List.map_append, List.map_replicate, List.append_assoc]
        congr 3
        rw [show min (a - cs.length) 9 = (8 - cs.length) + ((a - 9) + 1) by omega, ← List.replicate_append_replicate, List.replicate_succ]
      · rcases List.mem_append.mp hc with hc | hc
        · exact hc
        · rw [List.eq_of_mem_replicate hc]; exact hc0
    have go : ∀ a : Nat, 9 ≤ a → a ≤ 10 → ∃ X, slD (.lst (cs.map cellD ++ List.replicate 9 (cellD c0))) none (some (a : Nat)) = some X ∧ F_check_cells [X, .lst (ns.map Num.d)] = .ex (noS "cells" (.int 8)) := fun a h1 h2 => by
      obtain ⟨pc, rest, e, l8, hp⟩ := key a h1 h2
      refine ⟨_, e, ?_⟩
      have := cells_bad (bad := cellD c0) (rest := rest) S (by omega) (fun c hc => S.cin c (hp c hc)) (.inl l8)
      rw [l8] at this
      exact this
    have hv2 : v = 0 ∨ v = 1 := by omega
    rcases hv2 with rfl | rfl
    · obtain ⟨X, e, hX⟩ := go 9 (by omega) (by omega)
      exact ⟨_, rfl, _, rfl, _, e, Nat.le_of_ble_eq_true rfl, h _ _ _ hX (.inr ⟨8, rfl⟩) (by omega)⟩
    · obtain ⟨X, e, hX⟩ := go 10 (by omega) (by omega)
      exact ⟨_, rfl, _, rfl, _, e, Nat.le_of_ble_eq_true rfl, h _ _ _ hX (.inr ⟨8, rfl⟩) (by omega)⟩
  refine if_puF (pu_test (pu_op pu_var pu_c)) rfl (test_of (op_of rfl rfl (by rw [eqA_i]; simp; omega))) ?_
  unfold q__law_bad_cells_4
  by_cases w2 : way = 2
  · subst w2
    refine if_puT (pu_test (pu_op pu_var pu_c)) rfl (test_of (op_of rfl rfl (by kernel_rfl))) ?_
    refine ⟨_, rfl, _, rfl, _, rfl, _, len_l, ?_⟩
    rw [List.length_map]
    refine take_m (by omega) (by omega) (by omega) fun i hi => ⟨_, ix_l (d := cellD cs[i]) (by rw [List.getElem?_map, List.getElem?_eq_getElem hi]; rfl), ?_⟩
    have hg : cs[i] ∈ cs := List.getElem_mem hi
    generalize cs[i] = gone at hg
    have g1 := S.cn _ hg
    have lcE : ∀ {s3 s4 s5 s6 s7 s8 : SV}, fLc (fSeqI (fVar 2)) (pN 10) (fTest (fOp (eqA true) (fVar 10) (fVar 9))) (fVar 10) [10] (mask (bcE ns cs s3 s4 s5 s6 s7 s8 (.fz (cellD gone)))) = .ok (.lst ((cs.filter fun c => !decide (c = gone)).map cellD)) := fun {s3 s4 s5 s6 s7 s8} =>
      lc_ofF (g := cellD) (h := cellD) (p := fun c => !decide (c = gone)) (as := cs) (seqI_of rfl seqD_lst) (by omega) fun c hc => ⟨_, rfl, test_of (op_of rfl rfl (cell_eq (S.cn _ hc) g1)), fun _ => rfl⟩
    have lf : (cs.filter fun c => !decide (c = gone)).length ≤ 7 := by
      have h1 : ∀ xs : List (Str × Nat), gone ∈ xs → (xs.filter fun c => !decide (c = gone)).length < xs.length := fun xs hx => by
        rcases Nat.lt_or_ge (xs.filter fun c => !decide (c = gone)).length xs.length with h | h
        · exact h
        · have := List.filter_eq_self.mp (List.Sublist.eq_of_length (List.filter_sublist (p := fun c => !decide (c = gone)) (l := xs)) (Nat.le_antisymm (List.length_filter_le _ _) h)) gone hx
          simp at this
      have := h1 cs hg
      omega
    have mE : mulD (.lst [cellD c0]) (.int (if (!decide (c0 = gone)) = true then 1 else 0)) = some (.lst ((if c0 = gone then [] else [c0]).map cellD)) := by
      by_cases e : c0 = gone
      · rw [decide_eq_true e, if_pos e]; kernel_rfl
      · rw [decide_eq_false e, if_neg e]; kernel_rfl
    refine one_rt (d := .tup [.lst (((cs.filter fun c => !decide (c = gone)) ++ (if c0 = gone then [] else [c0])).map cellD), .non]) (pu_ret (pu_tup (pu_cons (pu_op (pu_lc (pu_seqI pu_var) (pu_test (pu_op pu_var pu_var)) pu_var) (pu_op (pu_lst (pu_cons (pu_op pu_var pu_c) pu_nil)) (pu_fn (pu_cons (pu_op (pu_op pu_var pu_c) pu_var) pu_nil)))) (pu_cons pu_c pu_nil)))) rfl (ret_of (tup_of (cons_of (op_of lcE (op_of (lst_of (cons_of (op_of rfl rfl x0) rfl) (by simp)) (fn_of (cons_of (op_of (op_of rfl rfl x0) rfl (cell_eq (neg := true) (S.cn _ hc0) g1)) rfl) rfl) mE) (by
      rw [List.map_append]
      refine add_l ?_
      split <;> simp <;> omega)) (cons_of rfl rfl)) (by simp))) ?_
    refine h _ _ _ ?_ (.inl rfl) (by omega)
    have notin : gone ∉ (cs.filter fun c => !decide (c = gone)) ++ (if c0 = gone then [] else [c0]) := by
      intro hc
      rcases List.mem_append.mp hc with hc | hc
      · simp at hc
      · split at hc
        · cases hc
        · rename_i ne; exact ne (List.mem_singleton.mp hc).symm
    have sub : ∀ c ∈ (cs.filter fun c => !decide (c = gone)) ++ (if c0 = gone then [] else [c0]), c ∈ cs := fun c hc => by
      rcases List.mem_append.mp hc with hc | hc
      · exact (List.mem_filter.mp hc).1
      · split at hc
        · cases hc
        · rw [List.mem_singleton.mp hc]; exact hc0
    have l8 : ((cs.filter fun c => !decide (c = gone)) ++ (if c0 = gone then [] else [c0])).length ≤ 8 := by
      rw [List.length_append]
      split <;> simp <;> omega
    generalize (cs.filter fun c => !decide (c = gone)) ++ (if c0 = gone then [] else [c0]) = pc at notin sub l8
    cases pc with
    | nil => exact cells_no (xs := []) (by simp [noLsts])
    | cons a b =>
      obtain ⟨m, hm2, em, lm⟩ := S.cin _ hg
      exact cells_lack S (by simp) l8 (fun c hc => S.cin c (sub c hc)) hm2 lm (by rw [← em]; exact notin)
  refine if_puF (pu_test (pu_op pu_var pu_c)) rfl (test_of (op_of rfl rfl (by rw [eqA_i]; simp; omega))) ?_
  have hln : ∃ L, ∀ m ∈ ns, m.nm.length = L := by obtain ⟨L, _, h⟩ := N.ln; exact ⟨L, h⟩
  refine seq_pu pq_s_q__law_bad_cells_5 rfl (set_of (d := .lst (someC1 k)) ?_) ?_
  · have nl := name_len (N.nm k hm)
    have e2 : (("zz" : String) : Str).length = 2 := by decide +kernel
    have ez : addD (.str "zz") (.str k.nm) = some (.str (("zz" : Str) ++ k.nm)) := by
      have : 1000 < sizeLine := by decide
      show (if (("zz" : String) : Str).length + k.nm.length ≤ sizeLine then some (D.str (("zz" : Str) ++ k.nm)) else none) = _
      rw [if_pos (by omega)]
    exact lst_of (cons_of (tup_of (cons_of rfl (cons_of rfl rfl)) (by simp)) (cons_of (tup_of (cons_of rfl (cons_of (u_of rfl rfl) rfl)) (by simp)) (cons_of (tup_of (cons_of rfl (cons_of rfl rfl)) (by simp)) (cons_of (tup_of (cons_of rfl (cons_of rfl rfl)) (by simp)) (cons_of (lst_of (cons_of rfl (cons_of rfl rfl)) (by simp)) (cons_of (tup_of (cons_of rfl rfl) (by simp)) (cons_of (tup_of (cons_of rfl (cons_of rfl (cons_of rfl rfl))) (by simp)) (cons_of (tup_of (cons_of (op_of rfl rfl ez) (cons_of rfl rfl)) (by simp)) rfl)))))))) (by simp [someC1])
  refine seq_pu pq_s_q__law_bad_cells_6 rfl (set_of (d := .lst (someC k)) (by kernel_rfl)) ?_
  show q__law_bad_cells_7 _ (bcE ns cs (.fz (.int (way : Nat))) (.fz (.lst (someC k))) .un (.fz (.str k.nm)) (.fz (.int (k.pl : Nat))) (.fz (.str k.kd.nm)) .un) _
  unfold q__law_bad_cells_7
  refine setTake (m := cs.length) (pu_fn (pu_cons pu_var pu_nil)) (fn_of (cons_of rfl rfl) (by rw [len_l, List.length_map])) rfl (by omega) (by omega) (by omega) fun i hi => ?_
  show q__law_bad_cells_8 _ (bcE ns cs (.fz (.int (way : Nat))) (.fz (.lst (someC k))) (.fz (.int (i : Nat))) (.fz (.str k.nm)) (.fz (.int (k.pl : Nat))) (.fz (.str k.kd.nm)) .un) _
  refine retBad rfl rfl rfl rfl (by rw [List.length_map]; exact hi) (by rw [List.length_map]; omega) (by simp [someC, someC1]) (by simp [someC, someC1, someC2]) (by omega) fun x hx => ?_
  refine h _ _ _ ?_ (.inr ⟨i, rfl⟩) (by omega)
  have lt : (cs.take i).length = i := by rw [List.length_take]; omega
  have := cells_bad (pc := cs.take i) (rest := (cs.map cellD).drop (i + 1)) S (by omega) (fun c hc => S.cin c (List.mem_of_mem_take hc)) (.inr (someC_no N.nd hm (N.pl k hm).2 hln hx))
  rw [lt] at this
  rw [← List.map_take]
  exact this
end
end K09

namespace K09
open PySem L2 DL PyProof.Rows
/-! ### wrong parts are refused -/
section
variable {ns : List Num} {cs : List (Str × Nat)} {X Y w v : D}
theorem seq_rt2 {f fu : SEnv → Fl} {ρ : SEnv} {d : D} (h1 : f ρ = .rt d) : fSeq f fu ρ = .rt d := by unfold fSeq; rw [h1]; rfl
theorem wok_sm {part : Str} (hp : PyData.strOk part = true) (h : Wok w) : (D.tup [.str part, w]).sm = true ∧ (D.tup [.str part, w]).dp ≤ 5 := by
  rcases h with rfl | ⟨k, rfl⟩ <;> constructor <;> simp [D.sm, smAll, D.dp, dpAll, hp]
abbrev beE (ns : List Num) (cs : List (Str × Nat)) (s3 s4 s5 s6 s7 : SV) : SEnv := [.fz .pen, .fz (.lst (ns.map Num.d)), .fz (.lst (cs.map cellD)), s3, s4, s5, s6, s7]
theorem bent_end {L B P0 P1 : D} {i : Nat} {part : Str} (hp : PyData.strOk part = true) (hw : Wok w) (hm : F_Scheme_init cS [] [P0, P1] = .ex (noS part w)) (e1 : ixA (.lst [.str "numbers", .str "cells"]) (.int (i : Nat)) = some (.str part)) (e2 : ∃ z, ixA B (.int (i : Nat)) = some z ∧ ixA z (.int 1) = some w) {s7 : SV} :
    f_q__law_bent_right_5 (beE ns cs (.fz L) (.fz B) (.fz (.int (i : Nat))) (.fz (.lst [P0, P1])) s7) = .rt (.bl true) := by
  obtain ⟨z, e2, e3⟩ := e2
  have q := wok_sm (part := part) hp hw
  exact ret_of (op_of (call_of (cons_of (op_of rfl rfl (ix_l (i := 0) rfl)) (cons_of (op_of rfl rfl (ix_l (i := 1) rfl)) rfl)) (made_ex hm)) (tup_of (cons_of (op_of (lst_of (cons_of rfl (cons_of rfl rfl)) (by simp)) rfl e1) (cons_of (op_of (op_of rfl rfl e2) rfl e3) rfl)) (by simp)) (eqA_same (neg := false) q.1 (by have := q.2; omega)))
theorem bent_pure (S : SchOk ns cs) (hX : F_check_numbers [X] = .ex (noS "numbers" w)) (hw : Wok w) (hY : F_check_cells [Y, .lst (ns.map Num.d)] = .ex (noS "cells" v)) (hv : Wok v) (ba bb : Bool) : f_q__law_bent_right_2 (beE ns cs (.fz (.lst [.bl ba, .bl bb])) (.fz (.lst [.tup [X, w], .tup [Y, v]])) .un .un .un) = .rt (.bl true) := by
  have pn : PyData.strOk "numbers" = true := by kernel_rfl
  have pc : PyData.strOk "cells" = true := by kernel_rfl
  cases ba with
  | true =>
    cases bb with
    | true =>
      exact seq_of (if_f (test_of (op_of rfl rfl (by kernel_rfl))) rfl) (seq_of (ρ' := beE ns cs (.fz (.lst [.bl true, .bl true])) (.fz (.lst [.tup [X, w], .tup [Y, v]])) (.fz (.int (0 : Nat))) .un .un) (by kernel_rfl) (seq_of (ρ' := beE ns cs (.fz (.lst [.bl true, .bl true])) (.fz (.lst [.tup [X, w], .tup [Y, v]])) (.fz (.int (0 : Nat))) (.fz (.lst [X, Y])) .un) (by kernel_rfl) (bent_end (part := "numbers") pn hw (init_exN hX) rfl ⟨_, ix_l (i := 0) rfl, ix_t (i := 1) rfl⟩)))
    | false =>
      exact seq_of (if_f (test_of (op_of rfl rfl (by kernel_rfl))) rfl) (seq_of (ρ' := beE ns cs (.fz (.lst [.bl true, .bl false])) (.fz (.lst [.tup [X, w], .tup [Y, v]])) (.fz (.int (0 : Nat))) .un .un) (by kernel_rfl) (seq_of (ρ' := beE ns cs (.fz (.lst [.bl true, .bl false])) (.fz (.lst [.tup [X, w], .tup [Y, v]])) (.fz (.int (0 : Nat))) (.fz (.lst [X, .lst (cs.map cellD)])) .un) (by kernel_rfl) (bent_end (part := "numbers") pn hw (init_exN hX) rfl ⟨_, ix_l (i := 0) rfl, ix_t (i := 1) rfl⟩)))
  | false =>
    cases bb with
    | true =>
      exact seq_of (if_f (test_of (op_of rfl rfl (by kernel_rfl))) rfl) (seq_of (ρ' := beE ns cs (.fz (.lst [.bl false, .bl true])) (.fz (.lst [.tup [X, w], .tup [Y, v]])) (.fz (.int (1 : Nat))) .un .un) (by kernel_rfl) (seq_of (ρ' := beE ns cs (.fz (.lst [.bl false, .bl true])) (.fz (.lst [.tup [X, w], .tup [Y, v]])) (.fz (.int (1 : Nat))) (.fz (.lst [.lst (ns.map Num.d), Y])) .un) (by kernel_rfl) (bent_end (part := "cells") pc hv (init_exC (numbers_ok S) hY) rfl ⟨_, ix_l (i := 1) rfl, ix_t (i := 1) rfl⟩)))
    | false =>
      exact seq_rt2 (if_t (test_of (op_of rfl rfl (by kernel_rfl))) (ret_of (eqL1_of (call_of (cons_of rfl (cons_of rfl rfl)) (made_ok S)) (lst_of (cons_of (new_of (cons_of rfl (cons_of rfl rfl)) (sch_ok S)) rfl) (by simp)) (scheq_ok S))))
theorem bent_gen {room n cl : Nat} {Φ : DQ} {Ψ : DZ} (N : NsOk ns room) (C : CsOk ns cs) (hn : n < 600000) (h : ∀ m, m ≤ n + 12 → Φ (.bl true) (gh m cl)) : S__law_bent_right [.pen, .lst (ns.map Num.d), .lst (cs.map cellD)] (gh n cl) Φ Ψ := by
  unfold S__law_bent_right DL.specOf t__law_bent_right q__law_bent_right_0
  refine ⟨_, rfl, take_m (m := 2) (by omega) (by omega) (by omega) fun a ha => ⟨_, eqA_i, _, rfl, take_m (m := 2) (by omega) (by omega) (by omega) fun b hb => ⟨_, eqA_i, Nat.le_of_ble_eq_true rfl, ?_⟩⟩⟩
  show q__law_bent_right_1 _ (beE ns cs (.fz (.lst [.bl (decide ((a : Int) = 0)), .bl (decide ((b : Int) = 0))])) .un .un .un .un) _
  unfold q__law_bent_right_1
  refine ⟨_, rfl, _, rfl, bad_numbers_gen N (by omega) fun X w m1 hX hw hm1 => ⟨_, rfl, _, rfl, _, rfl, bad_cells_gen N C (by omega) fun Y v m2 hY hv hm2 => ⟨Nat.le_of_ble_eq_true rfl, ?_⟩⟩⟩
  show q__law_bent_right_2 _ (beE ns cs (.fz (.lst [.bl (decide ((a : Int) = 0)), .bl (decide ((b : Int) = 0))])) (.fz (.lst [.tup [X, w], .tup [Y, v]])) .un .un .un) _
  exact one_rt pq_q__law_bent_right_2 rfl (bent_pure (C.sch N) hX hw hY hv _ _) (h _ (by omega))
end
end K09

namespace K09
open PySem L2 DL PyProof.Rows
/-! ### the law -/
section
variable {ns nr : List Num} {cs : List (Str × Nat)} {n0 : Num}
theorem nls_nums : ∀ ns : List Num, nls (ns.map Num.d) = true
  | [] => by simp [nls]
  | n :: ns => by
    have := nls_nums ns
    simp [nls, nl, this]
def notOw : SV → Bool
  | .ow _ => false
  | _ => true
theorem apart_no {es : List D} {s : SV} (h : notOw s = true) : apartS es s = true := by
  cases s <;> first | rfl | cases h
theorem SchOk.rev (S : SchOk ns cs) : SchOk ns cs.reverse where
  n1 := S.n1
  n3 := S.n3
  nm := S.nm
  pl := S.pl
  nd := S.nd
  c1 := by rw [List.length_reverse]; exact S.c1
  c8 := by rw [List.length_reverse]; exact S.c8
  cin := fun c hc => S.cin c (List.mem_reverse.mp hc)
  all := fun n hn p hp => List.mem_reverse.mpr (S.all n hn p hp)
theorem SchOk.nrev (S : SchOk ns cs) : SchOk ns.reverse cs where
  n1 := by rw [List.length_reverse]; exact S.n1
  n3 := by rw [List.length_reverse]; exact S.n3
  nm := fun n hn => S.nm n (List.mem_reverse.mp hn)
  pl := fun n hn => S.pl n (List.mem_reverse.mp hn)
  nd := by rw [List.map_reverse]; exact List.pairwise_reverse.mpr (S.nd.imp fun h => Ne.symm h)
  c1 := S.c1
  c8 := S.c8
  cin := fun c hc => by obtain ⟨n, hn, h⟩ := S.cin c hc; exact ⟨n, List.mem_reverse.mpr hn, h⟩
  all := fun n hn p hp => S.all n (List.mem_reverse.mp hn) p hp
def Kd3.flip : Kd3 → Kd3
  | .w => .f
  | _ => .w
theorem SchOk.flip (S : SchOk (n0 :: nr) cs) : SchOk (⟨n0.nm, n0.pl, n0.kd.flip⟩ :: nr) cs where
  n1 := by simp
  n3 := S.n3
  nm := fun n hn => by
    rcases List.mem_cons.mp hn with rfl | hn
    · exact S.nm n0 List.mem_cons_self
    · exact S.nm n (List.mem_cons_of_mem _ hn)
  pl := fun n hn => by
    rcases List.mem_cons.mp hn with rfl | hn
    · exact S.pl n0 List.mem_cons_self
    · exact S.pl n (List.mem_cons_of_mem _ hn)
  nd := S.nd
  c1 := S.c1
  c8 := S.c8
  cin := fun c hc => by
    obtain ⟨n, hn, h⟩ := S.cin c hc
    rcases List.mem_cons.mp hn with rfl | hn
    · exact ⟨_, List.mem_cons_self, h⟩
    · exact ⟨n, List.mem_cons_of_mem _ hn, h⟩
  all := fun n hn p hp => by
    rcases List.mem_cons.mp hn with rfl | hn
    · exact S.all n0 List.mem_cons_self p hp
    · exact S.all n (List.mem_cons_of_mem _ hn) p hp
abbrev zz : Str := ("zzqzz" : String)
def other (n0 : Num) (c : Str × Nat) : Str × Nat := (if c.1 = n0.nm then zz else c.1, c.2)
theorem SchOk.other (S : SchOk (n0 :: nr) cs) (hz : ∀ n ∈ n0 :: nr, n.nm ≠ zz) : SchOk (⟨zz, n0.pl, n0.kd⟩ :: nr) (cs.map (other n0)) where
  n1 := by simp
  n3 := S.n3
  nm := fun n hn => by
    rcases List.mem_cons.mp hn with rfl | hn
    · kernel_rfl
    · exact S.nm n (List.mem_cons_of_mem _ hn)
  pl := fun n hn => by
    rcases List.mem_cons.mp hn with rfl | hn
    · exact S.pl n0 List.mem_cons_self
    · exact S.pl n (List.mem_cons_of_mem _ hn)
  nd := by
    have nd := S.nd
    rw [List.map_cons, List.nodup_cons] at nd ⊢
    refine ⟨fun h => ?_, nd.2⟩
    obtain ⟨m, hm, e⟩ := List.mem_map.mp h
    exact hz m (List.mem_cons_of_mem _ hm) e
  c1 := by rw [List.length_map]; exact S.c1
  c8 := by rw [List.length_map]; exact S.c8
  cin := fun c hc => by
    obtain ⟨e, he, rfl⟩ := List.mem_map.mp hc
    obtain ⟨n, hn, h1, h2⟩ := S.cin e he
    rcases List.mem_cons.mp hn with rfl | hn
    · exact ⟨_, List.mem_cons_self, by unfold K09.other; rw [if_pos h1], h2⟩
    · refine ⟨n, List.mem_cons_of_mem _ hn, ?_, h2⟩
      unfold K09.other
      rw [if_neg]
      · exact h1
      · intro e2
        have nd := S.nd
        rw [List.map_cons, List.nodup_cons] at nd
        exact nd.1 (by rw [← e2, h1]; exact List.mem_map.mpr ⟨n, hn, rfl⟩)
  all := fun n hn p hp => by
    rcases List.mem_cons.mp hn with rfl | hn
    · exact List.mem_map.mpr ⟨(n0.nm, p), S.all n0 List.mem_cons_self p hp, by unfold K09.other; rw [if_pos rfl]⟩
    · refine List.mem_map.mpr ⟨(n.nm, p), S.all n (List.mem_cons_of_mem _ hn) p hp, ?_⟩
      unfold K09.other
      rw [if_neg]
      intro e2
      have nd := S.nd
      rw [List.map_cons, List.nodup_cons] at nd
      exact nd.1 (by rw [← e2]; exact List.mem_map.mpr ⟨n, hn, rfl⟩)
theorem zz_ne {room : Nat} (N : NsOk ns room) : ∀ n ∈ ns, n.nm ≠ zz := fun n hn e => by
  obtain ⟨L, hL, h⟩ := N.ln
  have h1 := h n hn
  rw [e] at h1
  have : zz.length = 5 := by decide +kernel
  omega
theorem d_nm {a b : Num} (h : a.d = b.d) : a.nm = b.nm ∧ a.kd.nm = b.kd.nm := by
  simp only [D.tup.injEq, List.cons.injEq, D.str.injEq, and_true] at h
  exact ⟨h.1, h.2.2⟩
theorem rev_ne (S : SchOk ns cs) (h : 1 < ns.length) : ns.map Num.d ≠ ns.reverse.map Num.d := by
  have n3 := S.n3
  have nd := S.nd
  match ns, h, n3, nd with
  | [a, b], _, _, nd =>
    intro e
    simp only [List.reverse_cons, List.reverse_nil, List.nil_append, List.cons_append, List.map_cons, List.map_nil, List.cons.injEq, and_true] at e
    have := (d_nm e.1).1
    simp [this] at nd
  | [a, b, c], _, _, nd =>
    intro e
    simp only [List.reverse_cons, List.reverse_nil, List.nil_append, List.cons_append, List.map_cons, List.map_nil, List.cons.injEq, and_true] at e
    have := (d_nm e.1).1
    simp [this] at nd
  | _ :: _ :: _ :: _ :: _, _, n3, _ => simp at n3
end
end K09

namespace K09
open PySem L2 DL PyProof.Rows
/-! ### the law's loop -/
section
variable {ns nr : List Num} {cs : List (Str × Nat)} {n0 : Num}
theorem cmpO_of {i : Nat} {F : List D → R D} {fa fb : DEnv → R D} {η : DEnv} {x y : D} {b : Bool} (h1 : fa η = .ok x) (h2 : fb η = .ok y) (i1 : isOb i x = true) (i2 : isOb i y = true) (h : F [x, y] = .ok (.bl b)) : fCmpO i F fa fb η = .ok (.bl b) := by
  unfold fCmpO
  rw [h1, bind_ok, h2, bind_ok, i1, i2, Bool.and_true, if_pos rfl, h]
  rfl
abbrev laE (x0 : D) (s2 s3 s4 s5 s6 s7 s8 s9 s10 s11 s12 s13 : SV) : SEnv := [.fz x0, .fz .pen, s2, s3, s4, s5, s6, s7, s8, s9, s10, s11, s12, s13]
abbrev aE (x0 : D) (ns : List Num) (cs : List (Str × Nat)) (s2 s5 s6 s7 s8 s9 s10 s11 s12 s13 : SV) : SEnv := laE x0 s2 (.fz (.lst (ns.map Num.d))) (.fz (.lst (cs.map cellD))) s5 s6 s7 s8 s9 s10 s11 s12 s13
theorem win_ok {x0 : D} {s2 s5 s6 s7 s8 s9 s10 s11 s12 s13 : SV} {m cl : Nat} {En : DEnds} (S : SchOk ns cs) (ho : ∀ s ∈ [s2, s6, s7, s8, s9, s10, s11, s12, s13], notOw s = true) (h : lb1_law_7 En (aE x0 ns cs s2 .un (.fz (.lst [sch ns cs])) s7 s8 s9 s10 s11 s12 s13) (gh m cl)) : lb1_law_2 En (aE x0 ns cs s2 s5 s6 s7 s8 s9 s10 s11 s12 s13) (gh m cl) := by
  unfold lb1_law_2
  refine ⟨Nat.le_of_ble_eq_true rfl, _, rfl, _, .inl rfl, _, rfl, _, .inl rfl, by decide, ?_⟩
  have e1 : fCall F__law_made (fCons (fOp ixA (fVar 5) (fC (.int 0))) (fCons (fOp ixA (fVar 5) (fC (.int 1))) (fun _ => .ok []))) (snapG 5 [ns.map Num.d, cs.map cellD] (aE x0 ns cs s2 .un s6 s7 s8 s9 s10 s11 s12 s13)) = .ok (.lst [sch ns cs]) :=
    call_of (cons_of (op_of rfl rfl (ix_l (i := 0) rfl)) (cons_of (op_of rfl rfl (ix_l (i := 1) rfl)) rfl)) (made_ok S)
  refine (pu_call pf__law_made (pu_cons (pu_op pu_var pu_c) (pu_cons (pu_op pu_var pu_c) pu_nil))) _ _ _ _ rfl ?_
  refine Eq.mpr (congrArg (fun r : R D => r.sat _ _ _) e1) ?_
  refine ⟨rfl, ?_, ?_⟩
  · obtain ⟨a, b, ea⟩ : ∃ a b, ns = a :: b := by
      have := S.n1
      cases ns with
      | nil => simp at this
      | cons a b => exact ⟨a, b, rfl⟩
    obtain ⟨c, d, ec⟩ : ∃ c d, cs = c :: d := by
      have := S.c1
      cases cs with
      | nil => simp at this
      | cons a b => exact ⟨a, b, rfl⟩
    have an : apart (ns.map Num.d) [sch ns cs] = true := by rw [ea]; rfl
    have ac : apart (cs.map cellD) [sch ns cs] = true := by rw [ec]; rfl
    have h2 := fun s hs => apart_no (es := [sch ns cs]) (ho s hs)
    simp only [List.mem_cons, List.not_mem_nil, or_false, forall_eq_or_imp, forall_eq] at h2
    obtain ⟨p2, p6, p7, p8, p9, p10, p11, p12, p13⟩ := h2
    simp only [freeD, List.all_append, List.all_cons, List.all_nil, ows, List.map_cons, List.map_nil, Bool.and_eq_true]
    refine ⟨by simp [nls, nl, nlf, nls_nums, nls_cells], ?_⟩
    simp only [apartS, an, ac, and_self, and_true]
    show (aE x0 ns cs s2 .un s6 s7 s8 s9 s10 s11 s12 s13).all (apartS [sch ns cs]) = true
    have f1 : ∀ d, apartS [sch ns cs] (.fz d) = true := fun _ => rfl
    have f2 : apartS [sch ns cs] .un = true := rfl
    simp only [List.all_cons, List.all_nil, p2, p6, p7, p8, p9, p10, p11, p12, p13, Bool.and_true, Bool.and_self, f1, f2]
  have sm := nums_sm S.nm
  have sc := cells_sm S.cn
  have e2 : fOrT (fNotT (fTest (fU (isiD (isTab tb_list)) (fVar 6)))) (fTest (fOp (eqA true) (fVar 5) (fLst (fCons (fVar 3) (fCons (fVar 4) (fun _ => .ok [])))))) (snapG 5 [ns.map Num.d, cs.map cellD] (aE x0 ns cs s2 .un (.fz (.lst [sch ns cs])) s7 s8 s9 s10 s11 s12 s13)) = .ok false :=
    orT_f (notT_t (test_of (u_of rfl rfl))) (test_of (op_of rfl (lst_of (cons_of rfl (cons_of rfl rfl)) (by simp)) (eqA_same (neg := true) (by simp [D.sm, smAll, sm.1, sc.1]) (by
      have h1 := sm.2
      have h2 := sc.2
      simp only [List.map_cons, List.map_nil, D.dp, dpAll]
      omega))))
  refine (pu_orT (pu_notT (pu_test (pu_u pu_var))) (pu_test (pu_op pu_var (pu_lst (pu_cons pu_var (pu_cons pu_var pu_nil)))))) _ _ _ _ rfl ?_
  refine Eq.mpr (congrArg (fun r : R Bool => r.sat _ _ _) e2) ?_
  exact ⟨rfl, Nat.le_of_ble_eq_true rfl, Nat.le_of_ble_eq_true rfl, h⟩
theorem look_ok {x0 : D} {s2 s5 s8 s9 s10 s11 s12 s13 : SV} {room m cl : Nat} {En : DEnds} (N : NsOk ns room) (C : CsOk ns cs) (ho : ∀ s ∈ [s2, s8, s9, s13], notOw s = true) (h : ∀ s8 s10 s11 s12 s13, (∀ s ∈ [s8, s10, s11, s12, s13], notOw s = true) → lb1_law_16 En (aE x0 ns cs s2 s5 (.fz (.lst [sch ns cs])) (.fz (sch ns cs)) s8 s9 s10 s11 s12 s13) (gh m cl)) : ∀ s7, lb1_law_7 En (aE x0 ns cs s2 s5 (.fz (.lst [sch ns cs])) s7 s8 s9 s10 s11 s12 s13) (gh m cl) := fun s7 => by
  have S := C.sch N
  have n3 := S.n3
  have c8 := S.c8
  obtain ⟨n0, nr, e0⟩ : ∃ a b, ns = a :: b := by
    have := S.n1
    cases ns with
    | nil => simp at this
    | cons a b => exact ⟨a, b, rfl⟩
  refine seq_pu pq_s_lb1_law_7 rfl (set_of (d := sch ns cs) (op_of rfl rfl (ix_l (i := 0) rfl))) ?_
  refine seq_pu pq_s_lb1_law_8 rfl (if_f (orT_f (test_of (op_of (u_of rfl at_numbers) (fn_of (cons_of rfl rfl) tup_l) (eq_tup (neg := true) (nums_sm S.nm).1 (nums_sm S.nm).2))) (test_of (op_of (u_of rfl at_cells) (fn_of (cons_of rfl rfl) tup_l) (eq_tup (neg := true) (cells_sm S.cn).1 (cells_sm S.cn).2)))) rfl) ?_
  refine seq_pu pq_s_lb1_law_9 rfl (if_f (orT_f (test_of (cmpL_of rfl rfl scheq_l)) (test_of (neO_of rfl (new_of (cons_of rfl (cons_of rfl rfl)) (sch_ok S)) rfl rfl (scheq_ok S)))) rfl) ?_
  have x0' : ixA (.lst (ns.map Num.d)) (.int 0) = some n0.d := ix_l (i := 0) (by rw [e0]; rfl)
  refine seq_pu pq_s_lb1_law_10 rfl (asgT_of (op_of rfl rfl x0') rfl) ?_
  show lb1_law_11 _ (aE x0 ns cs s2 s5 (.fz (.lst [sch ns cs])) (.fz (sch ns cs)) s8 s9 (.fz (.str n0.nm)) (.fz (.int (n0.pl : Nat))) (.fz (.str n0.kd.nm)) s13) _
  have tl : slD (.lst (ns.map Num.d)) (some 1) none = some (.lst (nr.map Num.d)) := by
    show some (D.lst (cutL (ns.map Num.d) (some (1 : Int)) none)) = _
    rw [cut_drop (by omega) (by rw [e0]; simp; omega)]
    rw [e0]; rfl
  have hr : nr.length < 900 := by rw [e0] at n3; simp at n3; omega
  have S' : SchOk (n0 :: nr) cs := e0 ▸ S
  have kd : ∀ {η : DEnv}, fVar 12 η = .ok (.str n0.kd.nm) → fIf (fTest (fOp (eqA true) (fVar 12) (fC (.str "weak")))) (fC (.str "weak")) (fC (.str "free")) η = .ok (.str n0.kd.flip.nm) := fun {η} hη => by
    have ht : fTest (fOp (eqA true) (fVar 12) (fC (.str "weak"))) η = .ok (match n0.kd with | .w => false | _ => true) := test_of (op_of hη rfl (by cases n0.kd <;> kernel_rfl))
    unfold fIf
    rw [ht]
    cases n0.kd <;> rfl
  refine seq_pu pq_s_lb1_law_11 rfl (if_f (test_of (cmpO_of rfl (new_of (cons_of (op_of (lst_of (cons_of (tup_of (cons_of rfl (cons_of rfl (cons_of (kd rfl) rfl))) (by simp)) rfl) (by simp)) (sl_of rfl (part_of rfl) rfl tl) (add_l (by simp; omega))) (cons_of rfl rfl)) (sch_ok S'.flip)) rfl rfl (scheq_n S S'.flip (by
    rw [e0, List.map_cons, List.map_cons]
    intro e
    have := (d_nm (List.cons.inj e).1).2
    have hk : ∀ k : Kd3, k.nm ≠ k.flip.nm := by intro k; cases k <;> decide +kernel
    exact hk _ this)))) rfl) ?_
  have hz := zz_ne N
  have hz' : ∀ n ∈ n0 :: nr, n.nm ≠ zz := e0 ▸ hz
  have lc : ∀ {s13 : SV}, fLc (fSeqI (fVar 4)) (pN 13) (fun _ => .ok true) (fTup (fCons (fIf (fTest (fOp (eqA false) (fOp ixA (fVar 13) (fC (.int 0))) (fVar 10))) (fC (.str "zzqzz")) (fOp ixA (fVar 13) (fC (.int 0)))) (fCons (fOp ixA (fVar 13) (fC (.int 1))) (fun _ => .ok [])))) [13] (mask (aE x0 ns cs s2 s5 (.fz (.lst [sch ns cs])) (.fz (sch ns cs)) s8 s9 (.fz (.str n0.nm)) (.fz (.int (n0.pl : Nat))) (.fz (.str n0.kd.nm)) s13)) = .ok (.lst ((cs.map (other n0)).map cellD)) := fun {s13} => by
    refine Eq.trans (lc_of (g := cellD) (h := fun c => cellD (other n0 c)) (as := cs) (seqI_of rfl seqD_lst) (by omega) fun c hc => ⟨_, rfl, rfl, tup_of (cons_of ?_ (cons_of (op_of rfl rfl (ix_t (i := 1) rfl)) rfl)) (by simp)⟩) (by rw [List.map_map]; rfl)
    have ht : ∀ {η : DEnv}, fVar 13 η = .ok (cellD c) → fVar 10 η = .ok (.str n0.nm) → fIf (fTest (fOp (eqA false) (fOp ixA (fVar 13) (fC (.int 0))) (fVar 10))) (fC (.str "zzqzz")) (fOp ixA (fVar 13) (fC (.int 0))) η = .ok (.str (other n0 c).1) := fun {η} h1 h2 => by
      have i0 : fOp ixA (fVar 13) (fC (.int 0)) η = .ok (.str c.1) := op_of h1 rfl (ix_t (i := 0) rfl)
      have ht := test_of (op_of i0 h2 (eqA_s (a := c.1) (b := n0.nm) (neg := false)))
      unfold fIf
      rw [ht]
      unfold other
      by_cases e : c.1 = n0.nm
      · rw [if_pos e]
        simp only [e, decide_true]
        rfl
      · rw [if_neg e]
        simp only [e, decide_false]
        exact i0
    exact ht rfl rfl
  refine seq_pu pq_s_lb1_law_12 rfl (set_of lc) ?_
  have SO := S'.other hz'
  refine seq_pu pq_s_lb1_law_13 rfl (if_f (test_of (cmpO_of rfl (new_of (cons_of (op_of (lst_of (cons_of (tup_of (cons_of rfl (cons_of rfl (cons_of rfl rfl))) (by simp)) rfl) (by simp)) (sl_of rfl (part_of rfl) rfl tl) (add_l (by simp; omega))) (cons_of rfl rfl)) (sch_ok SO)) rfl rfl (scheq_n S SO (by
    rw [e0, List.map_cons, List.map_cons]
    intro e
    exact hz' n0 List.mem_cons_self (d_nm (List.cons.inj e).1).1)))) rfl) ?_
  have rc : revX (.lst (cs.map cellD)) = some (.lst (cs.reverse.map cellD)) := by rw [List.map_reverse]; rfl
  have rn : revX (.lst (ns.map Num.d)) = some (.lst (ns.reverse.map Num.d)) := by rw [List.map_reverse]; rfl
  have hne : cs.reverse ≠ cs → cs.reverse.map cellD ≠ cs.map cellD := fun h q => h ((List.map_inj_right fun a b e => cellD_inj.mp e).mp q)
  refine seq_pu pq_s_lb1_law_14 rfl (if_f (by
    by_cases h1 : 1 < cs.length
    · refine andT_t (test_of (op_of (fn_of (cons_of rfl rfl) len_l) rfl (by rw [gt_i, decide_eq_true (by rw [List.length_map]; omega)]))) ?_
      by_cases h2 : cs.reverse = cs
      · exact andT_f (test_of (op_of (u_of rfl (by rw [rc, h2])) rfl (eq_lst (neg := true) (cells_sm S.cn).1 (cells_sm S.cn).2)))
      · have q1 := cells_sm S.rev.cn
        have q2 := cells_sm S.cn
        exact andT_t (test_of (op_of (u_of rfl rc) rfl (eqA_diff (neg := true) (by simpa [D.sm] using q1.1) (by simpa [D.sm] using q2.1) (by simp only [D.dp]; omega) (by simp only [D.dp]; omega) (by simpa using hne h2)))) (test_of (cmpO_of rfl (new_of (cons_of rfl (cons_of (u_of rfl rc) rfl)) (sch_ok S.rev)) rfl rfl (scheq_c S S.rev (Ne.symm h2))))
    · exact andT_f (test_of (op_of (fn_of (cons_of rfl rfl) len_l) rfl (by rw [gt_i, decide_eq_false (by rw [List.length_map]; omega)])))) rfl) ?_
  refine seq_pu pq_s_lb1_law_15 rfl (if_f (by
    by_cases h1 : 1 < ns.length
    · exact andT_t (test_of (op_of (fn_of (cons_of rfl rfl) len_l) rfl (by rw [gt_i, decide_eq_true (by rw [List.length_map]; omega)]))) (test_of (cmpO_of rfl (new_of (cons_of (u_of rfl rn) (cons_of rfl rfl)) (sch_ok S.nrev)) rfl rfl (scheq_n S S.nrev (rev_ne S h1))))
    · exact andT_f (test_of (op_of (fn_of (cons_of rfl rfl) len_l) rfl (by rw [gt_i, decide_eq_false (by rw [List.length_map]; omega)])))) rfl) ?_
  simp only [List.mem_cons, List.not_mem_nil, or_false, forall_eq_or_imp, forall_eq] at ho
  refine h _ _ _ _ _ ?_
  simp only [List.mem_cons, List.not_mem_nil, or_false, forall_eq_or_imp, forall_eq]
  exact ⟨rfl, rfl, rfl, rfl, ho.2.2.2⟩
end
end K09

namespace K09
open PySem L2 DL PyProof.Rows
/-! ### the law -/
section
theorem turn_ok {x0 : D} {cl : Nat} {En : DEnds} (h : ∀ s2 s3 s4 s5 s6 s7 s8 s9 s10 s11 s12 s13 m, En.nx (laE x0 s2 s3 s4 s5 s6 s7 s8 s9 s10 s11 s12 s13) (gh m cl)) : forD (gN 2) lb1_law_0 En (rangeL 0 5) (laE x0 .un .un .un .un .un .un .un .un .un .un .un .un) (gh 0 cl) := by
  refine forD_inv (c := 200) (lim := 1000) (fun ρ => ∃ s2 s3 s4 s5 s6 s7 s8 s9 s10 s11 s12 s13, ρ = laE x0 s2 s3 s4 s5 s6 s7 s8 s9 s10 s11 s12 s13 ∧ ∀ s ∈ [s6, s7, s8, s9, s10, s11, s12, s13], notOw s = true) _ _ _ (by decide) ⟨_, _, _, _, _, _, _, _, _, _, _, _, rfl, by decide⟩ ?_ ?_
  · rintro d hd _ n ⟨s2, s3, s4, s5, s6, s7, s8, s9, s10, s11, s12, s13, rfl, ho⟩ hn
    simp only [List.mem_cons, List.not_mem_nil, or_false, forall_eq_or_imp, forall_eq] at ho
    obtain ⟨o6, o7, o8, o9, o10, o11, o12, o13⟩ := ho
    refine ⟨_, rfl, fun K hK => ?_⟩
    unfold lb1_law_0
    refine setcall2 rfl (numbers_gen (room := 8) (by omega) (by omega) (by omega) fun ns m1 N hm1 => ?_)
    show lb1_law_1 _ (laE x0 (.fz d) (.fz (.lst (ns.map Num.d))) s4 s5 s6 s7 s8 s9 s10 s11 s12 s13) _
    unfold lb1_law_1
    refine setcall3 rfl rfl (cells_gen N (by omega) (by omega) fun cs m2 C hm2 => ?_)
    show lb1_law_2 _ (aE x0 ns cs (.fz d) s5 s6 s7 s8 s9 s10 s11 s12 s13) _
    refine win_ok (C.sch N) (by
      simp only [List.mem_cons, List.not_mem_nil, or_false, forall_eq_or_imp, forall_eq]
      exact ⟨rfl, o6, o7, o8, o9, o10, o11, o12, o13⟩) (look_ok N C (by
      simp only [List.mem_cons, List.not_mem_nil, or_false, forall_eq_or_imp, forall_eq]
      exact ⟨rfl, o8, o9, o13⟩) (fun s8 s10 s11 s12 s13 ho => ?_) _)
    simp only [List.mem_cons, List.not_mem_nil, or_false, forall_eq_or_imp, forall_eq] at ho
    obtain ⟨o8, o10, o11, o12, o13⟩ := ho
    unfold lb1_law_16
    refine ⟨5, rfl, by decide, ?_⟩
    refine forD_inv (c := 12) (lim := m2 + 60) (fun ρ => ∃ s9, ρ = aE x0 ns cs (.fz d) .un (.fz (.lst [sch ns cs])) (.fz (sch ns cs)) s8 s9 s10 s11 s12 s13 ∧ notOw s9 = true) _ _ _ (Nat.le_refl _) ⟨s9, rfl, o9⟩ ?_ ?_
    · rintro x hx _ n2 ⟨s9, rfl, o9⟩ hn2
      refine ⟨_, rfl, fun K2 hK2 => ?_⟩
      unfold lb2_law_0
      exact ⟨_, rfl, _, rfl, _, rfl, bent_gen N C (by omega) fun m3 hm3 => ⟨true, rfl, hK2 _ _ ⟨_, rfl, rfl⟩ hm3⟩⟩
    · rintro _ m4 ⟨s9, rfl, o9⟩ hm4
      rw [range_len] at hm4
      refine hK _ _ ⟨_, _, _, _, _, _, _, _, _, _, _, _, rfl, ?_⟩ (by have : (5 : Int).toNat = 5 := rfl; omega)
      simp only [List.mem_cons, List.not_mem_nil, or_false, forall_eq_or_imp, forall_eq]
      exact ⟨rfl, rfl, o8, o9, o10, o11, o12, o13⟩
  · rintro _ m ⟨s2, s3, s4, s5, s6, s7, s8, s9, s10, s11, s12, s13, rfl, _⟩ hm
    exact h _ _ _ _ _ _ _ _ _ _ _ _ _
theorem k_law : Keeps ["_law_script", "_law_pen_here", "_law_turn", "_law_numbers_here", "_law_cells_here", "_law_passed", "_law_made_here", "_law_one", "_law_other", "_law_k", "_law_name", "_law_size", "_law_kind", "_law_cell"] 1 DL.S_law t_law := by
  rintro ds g Φ Ψ _ ⟨ns, rfl, hl, rfl, hq⟩
  show q_law_0 _ _ _
  unfold q_law_0
  simp only [dSeq, dSet, dCall, dCons, dNil, dVar, mask]
  refine ⟨_, rfl, pen_ok hl ?_⟩
  show q_law_1 _ _ _
  unfold q_law_1
  refine ⟨5, rfl, by decide, ?_⟩
  refine turn_ok fun s2 s3 s4 s5 s6 s7 s8 s9 s10 s11 s12 s13 m => ?_
  show q_law_2 _ _ _
  exact one_rt pq_q_law_2 rfl (d := .bl true) (by kernel_rfl) (hq _)
end
end K09

namespace K09
open PySem L2 DL PyProof.Rows
def cls0 : List Str := ["RisingError", "NoScheme", "Scheme"]
def clsN : List Str := cls0
def lm : List (Str × Option Str) := []
def mkB (K : PySem.W.Frag) : Tb := ⟨fun i => (clsN.map (He.ga K)).getD i 0, pnD, cokP, [], pnD_pl⟩
abbrev s_NoScheme_init : Stmt := meth (top 3) 0
theorem sc_NoScheme_init : FnScope ["self", "part", "at"] ["self", "part", "at"] (defScope s_NoScheme_init) := ⟨rfl, rfl, rfl, by decide +kernel, rfl, by decide +kernel, by decide +kernel⟩
theorem in_NoScheme_init : isInit fn_NoScheme (defBody s_NoScheme_init) = true := by decide +kernel
def fb0 (K : PySem.W.Frag) : Bool := (He.Fa.glo "NoScheme").ok K && ((He.Fa.glo "RisingError").ok K && ((He.Fa.glo "Scheme").ok K && ((He.Fa.glo "is_whole").ok K && ((He.Fa.glo "is_name").ok K && ((He.Fa.glo "is_places").ok K && ((He.Fa.glo "is_number").ok K && ((He.Fa.glo "check_numbers").ok K && ((He.Fa.glo "is_cell").ok K && ((He.Fa.glo "check_cells").ok K && ((He.Fa.mkr "Scheme").ok K && ((He.Fa.meth "Scheme" "__eq__").ok K && (clsB K (He.ga K "Scheme") && ((He.Fa.meth "Scheme" "__len__").ok K && ((He.Fa.glo "_law_pen").ok K && ((He.Fa.glo "_law_take").ok K && ((He.Fa.glo "_law_names").ok K && ((He.Fa.glo "_law_numbers").ok K && ((He.Fa.glo "_law_cells").ok K && ((He.Fa.glo "_law_made").ok K && ((He.Fa.glo "_law_bad_numbers").ok K && ((He.Fa.glo "_law_bad_cells").ok K && ((He.Fa.glo "_law_bent_right").ok K && ((He.Fa.glo "law").ok K && (neB (mkB K) K 2))))))))))))))))))))))))
def fb1 (K : PySem.W.Frag) : Bool := (He.Fa.free "abs").ok K && ((He.Fa.free "all").ok K && ((He.Fa.free "bool").ok K && ((He.Fa.free "enumerate").ok K && ((He.Fa.free "int").ok K && ((He.Fa.free "isinstance").ok K && ((He.Fa.free "len").ok K && ((He.Fa.free "list").ok K && ((He.Fa.free "min").ok K && ((He.Fa.free "range").ok K && ((He.Fa.free "str").ok K && ((He.Fa.free "tuple").ok K && (xcB K (He.ga K "NoScheme") (He.ma K (He.ga K "NoScheme") "__init__") fn_NoScheme && (isTabB (mkB K) K tb_NoScheme (.ref (He.ga K "NoScheme")) && (isTabB (mkB K) K tb_Scheme (.ref (He.ga K "Scheme")) && (isTabB (mkB K) K tb_bool (.type "bool") && (isTabB (mkB K) K tb_int (.type "int") && (isTabB (mkB K) K tb_list (.type "list") && (isTabB (mkB K) K tb_str (.type "str") && (isTabB (mkB K) K tb_tuple (.type "tuple") && (ccI K (He.ga K "Scheme") "CELLS" 8 && (ccI K (He.ga K "Scheme") "NUMBERS" 3 && (atB (mkB K) K "at" [] [1] && (atB (mkB K) K "cells" [2] [] && (atB (mkB K) K "numbers" [2] []))))))))))))))))))))))))
def fb2 (K : PySem.W.Frag) : Bool := atB (mkB K) K "part" [] [1] && (ctB (mkB K) K ctl_RisingError (.ref (He.ga K "RisingError")) && ((He.Fa.glo "KINDS").ok K && (tupB K (He.ga K "KINDS") ["strict", "weak", "free"] && ((He.Fa.str "LETTERS" "abcdefghijklmnopqrstuvwxyz").ok K && ((He.Fa.int "MOST_LETTERS" 12).ok K && ((He.Fa.int "MOST_PLACES" 4).ok K))))))
def fb (K : PySem.W.Frag) : Bool := fb0 K && (fb1 K && (fb2 K))
def fn0 : List He.FnD := [fnS ("is_whole", none) "is_whole" "is_whole" s_is_whole, fnS ("is_name", none) "is_name" "is_name" s_is_name, fnS ("is_places", none) "is_places" "is_places" s_is_places, fnS ("is_number", none) "is_number" "is_number" s_is_number, fnS ("check_numbers", none) "check_numbers" "check_numbers" s_check_numbers, fnS ("is_cell", none) "is_cell" "is_cell" s_is_cell, fnS ("check_cells", none) "check_cells" "check_cells" s_check_cells, fnS ("Scheme", some "__init__") "__init__" "Scheme.__init__" s_Scheme_init, fnS ("Scheme", some "__eq__") "__eq__" "Scheme.__eq__" s_Scheme___eq__, fnS ("Scheme", some "__len__") "__len__" "Scheme.__len__" s_Scheme___len__, fnS ("_law_pen", none) "_law_pen" "_law_pen" s__law_pen, fnS ("_law_take", none) "_law_take" "_law_take" s__law_take, fnS ("_law_names", none) "_law_names" "_law_names" s__law_names, fnS ("_law_numbers", none) "_law_numbers" "_law_numbers" s__law_numbers, fnS ("_law_cells", none) "_law_cells" "_law_cells" s__law_cells, fnS ("_law_made", none) "_law_made" "_law_made" s__law_made, fnS ("_law_bad_numbers", none) "_law_bad_numbers" "_law_bad_numbers" s__law_bad_numbers, fnS ("_law_bad_cells", none) "_law_bad_cells" "_law_bad_cells" s__law_bad_cells, fnS ("_law_bent_right", none) "_law_bent_right" "_law_bent_right" s__law_bent_right, fnS ("law", none) "law" "law" s_law, fnS ("NoScheme", some "__init__") "__init__" "NoScheme.__init__" s_NoScheme_init]
def fnL : List He.FnD := fn0
theorem all_mk {l : PySem.W.OpenLaw} {w : World} {K : PySem.W.Frag} {h : Heap} {mg : Str → Option Value} {fa : Addr} (hk : Keeps ["_law_script", "_law_pen_here", "_law_turn", "_law_numbers_here", "_law_cells_here", "_law_passed", "_law_made_here", "_law_one", "_law_other", "_law_k", "_law_name", "_law_size", "_law_kind", "_law_cell"] 1 DL.S_law t_law) (X : K.In h) (G : h.Ns mainGlobals mg) (hfa : mg "law" = some (.ref fa)) (c : SaysM fb fnL K) :
    ∃ (B : Tb) (fd : FuncData), (∀ (s : Shared) (u : Value), BindsTo s fd ⟨[u], []⟩ [("_law_script", u)]) ∧ (∀ b, b ∈ B.T.map (·.1) ↔ b ∈ (csOf K lm).map (·.2)) ∧ ∀ base : Heap, (∀ y ∈ csOf K lm, LamX.TabB base mg y.1 y.2) → FnG l.prog w K mg base 9 fa fd ["_law_script"] (spOf B K 1 DL.S_law) := by
  have ca := c.all
  obtain ⟨cg0, ca⟩ := Bool.and_eq_true_iff.mp ca
  obtain ⟨g_NoScheme, cg0⟩ := Bool.and_eq_true_iff.mp cg0
  obtain ⟨g_RisingError, cg0⟩ := Bool.and_eq_true_iff.mp cg0
  obtain ⟨g_Scheme, cg0⟩ := Bool.and_eq_true_iff.mp cg0
  obtain ⟨g_is_whole, cg0⟩ := Bool.and_eq_true_iff.mp cg0
  obtain ⟨g_is_name, cg0⟩ := Bool.and_eq_true_iff.mp cg0
  obtain ⟨g_is_places, cg0⟩ := Bool.and_eq_true_iff.mp cg0
  obtain ⟨g_is_number, cg0⟩ := Bool.and_eq_true_iff.mp cg0
  obtain ⟨g_check_numbers, cg0⟩ := Bool.and_eq_true_iff.mp cg0
  obtain ⟨g_is_cell, cg0⟩ := Bool.and_eq_true_iff.mp cg0
  obtain ⟨g_check_cells, cg0⟩ := Bool.and_eq_true_iff.mp cg0
  obtain ⟨q_mk_Scheme_init, cg0⟩ := Bool.and_eq_true_iff.mp cg0
  obtain ⟨q_me_Scheme___eq__, cg0⟩ := Bool.and_eq_true_iff.mp cg0
  obtain ⟨q_cl_Scheme, cg0⟩ := Bool.and_eq_true_iff.mp cg0
  obtain ⟨q_me_Scheme___len__, cg0⟩ := Bool.and_eq_true_iff.mp cg0
  obtain ⟨g__law_pen, cg0⟩ := Bool.and_eq_true_iff.mp cg0
  obtain ⟨g__law_take, cg0⟩ := Bool.and_eq_true_iff.mp cg0
  obtain ⟨g__law_names, cg0⟩ := Bool.and_eq_true_iff.mp cg0
  obtain ⟨g__law_numbers, cg0⟩ := Bool.and_eq_true_iff.mp cg0
  obtain ⟨g__law_cells, cg0⟩ := Bool.and_eq_true_iff.mp cg0
  obtain ⟨g__law_made, cg0⟩ := Bool.and_eq_true_iff.mp cg0
  obtain ⟨g__law_bad_numbers, cg0⟩ := Bool.and_eq_true_iff.mp cg0
  obtain ⟨g__law_bad_cells, cg0⟩ := Bool.and_eq_true_iff.mp cg0
  obtain ⟨g__law_bent_right, cg0⟩ := Bool.and_eq_true_iff.mp cg0
  obtain ⟨g_law, cg0⟩ := Bool.and_eq_true_iff.mp cg0
  have q_ne_Scheme := cg0
  obtain ⟨cg1, ca⟩ := Bool.and_eq_true_iff.mp ca
  obtain ⟨z_abs, cg1⟩ := Bool.and_eq_true_iff.mp cg1
  obtain ⟨z_all, cg1⟩ := Bool.and_eq_true_iff.mp cg1
  obtain ⟨z_bool, cg1⟩ := Bool.and_eq_true_iff.mp cg1
  obtain ⟨z_enumerate, cg1⟩ := Bool.and_eq_true_iff.mp cg1
  obtain ⟨z_int, cg1⟩ := Bool.and_eq_true_iff.mp cg1
  obtain ⟨z_isinstance, cg1⟩ := Bool.and_eq_true_iff.mp cg1
  obtain ⟨z_len, cg1⟩ := Bool.and_eq_true_iff.mp cg1
  obtain ⟨z_list, cg1⟩ := Bool.and_eq_true_iff.mp cg1
  obtain ⟨z_min, cg1⟩ := Bool.and_eq_true_iff.mp cg1
  obtain ⟨z_range, cg1⟩ := Bool.and_eq_true_iff.mp cg1
  obtain ⟨z_str, cg1⟩ := Bool.and_eq_true_iff.mp cg1
  obtain ⟨z_tuple, cg1⟩ := Bool.and_eq_true_iff.mp cg1
  obtain ⟨q_NoScheme, cg1⟩ := Bool.and_eq_true_iff.mp cg1
  obtain ⟨q_is_NoScheme, cg1⟩ := Bool.and_eq_true_iff.mp cg1
  obtain ⟨q_is_Scheme, cg1⟩ := Bool.and_eq_true_iff.mp cg1
  obtain ⟨q_is_bool, cg1⟩ := Bool.and_eq_true_iff.mp cg1
  obtain ⟨q_is_int, cg1⟩ := Bool.and_eq_true_iff.mp cg1
  obtain ⟨q_is_list, cg1⟩ := Bool.and_eq_true_iff.mp cg1
  obtain ⟨q_is_str, cg1⟩ := Bool.and_eq_true_iff.mp cg1
  obtain ⟨q_is_tuple, cg1⟩ := Bool.and_eq_true_iff.mp cg1
  obtain ⟨q_cc_Scheme_CELLS, cg1⟩ := Bool.and_eq_true_iff.mp cg1
  obtain ⟨q_cc_Scheme_NUMBERS, cg1⟩ := Bool.and_eq_true_iff.mp cg1
  obtain ⟨q_at_at, cg1⟩ := Bool.and_eq_true_iff.mp cg1
  obtain ⟨q_at_cells, cg1⟩ := Bool.and_eq_true_iff.mp cg1
  have q_at_numbers := cg1
  have cg2 := ca
  obtain ⟨q_at_part, cg2⟩ := Bool.and_eq_true_iff.mp cg2
  obtain ⟨q_ct_RisingError, cg2⟩ := Bool.and_eq_true_iff.mp cg2
  obtain ⟨gk_KINDS, cg2⟩ := Bool.and_eq_true_iff.mp cg2
  obtain ⟨q_c_KINDS, cg2⟩ := Bool.and_eq_true_iff.mp cg2
  obtain ⟨q_c_LETTERS, cg2⟩ := Bool.and_eq_true_iff.mp cg2
  obtain ⟨q_c_MOST_LETTERS, cg2⟩ := Bool.and_eq_true_iff.mp cg2
  have q_c_MOST_PLACES := cg2
  obtain ⟨fd_is_whole, F_is_whole⟩ := c.fun_ 0 (st := s_is_whole) rfl
  obtain ⟨fd_is_name, F_is_name⟩ := c.fun_ 1 (st := s_is_name) rfl
  obtain ⟨fd_is_places, F_is_places⟩ := c.fun_ 2 (st := s_is_places) rfl
  obtain ⟨fd_is_number, F_is_number⟩ := c.fun_ 3 (st := s_is_number) rfl
  obtain ⟨fd_check_numbers, F_check_numbers⟩ := c.fun_ 4 (st := s_check_numbers) rfl
  obtain ⟨fd_is_cell, F_is_cell⟩ := c.fun_ 5 (st := s_is_cell) rfl
  obtain ⟨fd_check_cells, F_check_cells⟩ := c.fun_ 6 (st := s_check_cells) rfl
  obtain ⟨fd_Scheme_init, F_Scheme_init⟩ := c.fun_ 7 (st := s_Scheme_init) rfl
  obtain ⟨fd_Scheme___eq__, F_Scheme___eq__⟩ := c.fun_ 8 (st := s_Scheme___eq__) rfl
  obtain ⟨fd_Scheme___len__, F_Scheme___len__⟩ := c.fun_ 9 (st := s_Scheme___len__) rfl
  obtain ⟨fd__law_pen, F__law_pen⟩ := c.fun_ 10 (st := s__law_pen) rfl
  obtain ⟨fd__law_take, F__law_take⟩ := c.fun_ 11 (st := s__law_take) rfl
  obtain ⟨fd__law_names, F__law_names⟩ := c.fun_ 12 (st := s__law_names) rfl
  obtain ⟨fd__law_numbers, F__law_numbers⟩ := c.fun_ 13 (st := s__law_numbers) rfl
  obtain ⟨fd__law_cells, F__law_cells⟩ := c.fun_ 14 (st := s__law_cells) rfl
  obtain ⟨fd__law_made, F__law_made⟩ := c.fun_ 15 (st := s__law_made) rfl
  obtain ⟨fd__law_bad_numbers, F__law_bad_numbers⟩ := c.fun_ 16 (st := s__law_bad_numbers) rfl
  obtain ⟨fd__law_bad_cells, F__law_bad_cells⟩ := c.fun_ 17 (st := s__law_bad_cells) rfl
  obtain ⟨fd__law_bent_right, F__law_bent_right⟩ := c.fun_ 18 (st := s__law_bent_right) rfl
  obtain ⟨fd_law, F_law⟩ := c.fun_ 19 (st := s_law) rfl
  obtain ⟨fd_NoScheme_init, F_NoScheme_init⟩ := c.fun_ 20 (st := s_NoScheme_init) rfl
  have e := hfa.symm.trans (He.glo_ok X G g_law)
  cases e
  have b_NoScheme_init := F_NoScheme_init.binds (ps := ["self", "part", "at"]) fun _ _ _ _ _ _ us hl => match us, hl with | [_, _, _], _ => rfl
  have b_is_whole := F_is_whole.binds (ps := ["thing"]) fun _ _ _ _ _ _ us hl => match us, hl with | [_], _ => rfl
  have b_is_name := F_is_name.binds (ps := ["thing"]) fun _ _ _ _ _ _ us hl => match us, hl with | [_], _ => rfl
  have b_is_places := F_is_places.binds (ps := ["thing"]) fun _ _ _ _ _ _ us hl => match us, hl with | [_], _ => rfl
  have b_is_number := F_is_number.binds (ps := ["thing"]) fun _ _ _ _ _ _ us hl => match us, hl with | [_], _ => rfl
  have b_check_numbers := F_check_numbers.binds (ps := ["numbers"]) fun _ _ _ _ _ _ us hl => match us, hl with | [_], _ => rfl
  have b_is_cell := F_is_cell.binds (ps := ["thing", "places"]) fun _ _ _ _ _ _ us hl => match us, hl with | [_, _], _ => rfl
  have b_check_cells := F_check_cells.binds (ps := ["cells", "numbers"]) fun _ _ _ _ _ _ us hl => match us, hl with | [_, _], _ => rfl
  have b_Scheme_init := F_Scheme_init.binds (ps := ["self", "numbers", "cells"]) fun _ _ _ _ _ _ us hl => match us, hl with | [_, _, _], _ => rfl
  have b_Scheme___eq__ := F_Scheme___eq__.binds (ps := ["self", "other"]) fun _ _ _ _ _ _ us hl => match us, hl with | [_, _], _ => rfl
  have b_Scheme___len__ := F_Scheme___len__.binds (ps := ["self"]) fun _ _ _ _ _ _ us hl => match us, hl with | [_], _ => rfl
  have b__law_pen := F__law_pen.binds (ps := ["_law_script"]) fun _ _ _ _ _ _ us hl => match us, hl with | [_], _ => rfl
  have b__law_take := F__law_take.binds (ps := ["_law_pen_here", "_law_many"]) fun _ _ _ _ _ _ us hl => match us, hl with | [_, _], _ => rfl
  have b__law_names := F__law_names.binds (ps := ["_law_pen_here", "_law_wanted"]) fun _ _ _ _ _ _ us hl => match us, hl with | [_, _], _ => rfl
  have b__law_numbers := F__law_numbers.binds (ps := ["_law_pen_here", "_law_room"]) fun _ _ _ _ _ _ us hl => match us, hl with | [_, _], _ => rfl
  have b__law_cells := F__law_cells.binds (ps := ["_law_pen_here", "_law_numbers_here", "_law_most"]) fun _ _ _ _ _ _ us hl => match us, hl with | [_, _, _], _ => rfl
  have b__law_made := F__law_made.binds (ps := ["_law_numbers_here", "_law_cells_here"]) fun _ _ _ _ _ _ us hl => match us, hl with | [_, _], _ => rfl
  have b__law_bad_numbers := F__law_bad_numbers.binds (ps := ["_law_pen_here", "_law_numbers_here"]) fun _ _ _ _ _ _ us hl => match us, hl with | [_, _], _ => rfl
  have b__law_bad_cells := F__law_bad_cells.binds (ps := ["_law_pen_here", "_law_numbers_here", "_law_cells_here"]) fun _ _ _ _ _ _ us hl => match us, hl with | [_, _, _], _ => rfl
  have b__law_bent_right := F__law_bent_right.binds (ps := ["_law_pen_here", "_law_numbers_here", "_law_cells_here"]) fun _ _ _ _ _ _ us hl => match us, hl with | [_, _, _], _ => rfl
  have b_law := F_law.binds (ps := ["_law_script"]) fun _ _ _ _ _ _ us hl => match us, hl with | [_], _ => rfl
  refine ⟨mkB K, fd_law, fun s v => ?bind, fun b => Iff.rfl, fun base TB => ?_⟩
  case bind =>
    obtain ⟨oc, od, kV, doc, pm, an, cdv, ct, osl, rfl, _⟩ := F_law.ex
    exact .of_eq rfl
  have T : TbD (mkB K) := ⟨rfl, rfl⟩
  have M : Mg (mkB K) l.prog w K mg base := { ne_Scheme := neB_ok q_ne_Scheme, b_abs := He.free_ok X G z_abs, b_all := He.free_ok X G z_all, b_bool := He.free_ok X G z_bool, b_enumerate := He.free_ok X G z_enumerate, b_int := He.free_ok X G z_int, b_isinstance := He.free_ok X G z_isinstance, b_len := He.free_ok X G z_len, b_list := He.free_ok X G z_list, b_min := He.free_ok X G z_min, b_range := He.free_ok X G z_range, b_str := He.free_ok X G z_str, b_tuple := He.free_ok X G z_tuple, x_NoScheme := xc_mk (He.glo_ok X G g_NoScheme) q_NoScheme F_NoScheme_init sc_NoScheme_init in_NoScheme_init b_NoScheme_init, n_NoScheme := He.glo_ok X G g_NoScheme, n_RisingError := He.glo_ok X G g_RisingError, n_Scheme := He.glo_ok X G g_Scheme, is_NoScheme := isTab_ok q_is_NoScheme, is_Scheme := isTab_ok q_is_Scheme, is_bool := isTab_ok q_is_bool, is_int := isTab_ok q_is_int, is_list := isTab_ok q_is_list, is_str := isTab_ok q_is_str, is_tuple := isTab_ok q_is_tuple, cc_Scheme_CELLS := ccI_ok (He.glo_ok X G g_Scheme) q_cc_Scheme_CELLS, cc_Scheme_NUMBERS := ccI_ok (He.glo_ok X G g_Scheme) q_cc_Scheme_NUMBERS, at_at := atB_ok q_at_at, at_cells := atB_ok q_at_cells, at_numbers := atB_ok q_at_numbers, at_part := atB_ok q_at_part, ct_RisingError := ctB_ok q_ct_RisingError, c_KINDS := gc_tup (He.glo_ok X G gk_KINDS) q_c_KINDS, c_LETTERS := gc_str (He.str_ok X G q_c_LETTERS), c_MOST_LETTERS := gc_int (He.int_ok X G q_c_MOST_LETTERS), c_MOST_PLACES := gc_int (He.int_ok X G q_c_MOST_PLACES) }
  have h_is_whole : Fn (mkB K) l.prog w K mg base 1 "is_whole" 1 S_is_whole := fn_mk (ok_is_whole F_is_whole M ) (He.glo_ok X G g_is_whole) F_is_whole.kp b_is_whole
  have h_is_name : Fn (mkB K) l.prog w K mg base 1 "is_name" 1 S_is_name := fn_mk (ok_is_name F_is_name M ) (He.glo_ok X G g_is_name) F_is_name.kp b_is_name
  have h_is_places : Fn (mkB K) l.prog w K mg base 2 "is_places" 1 S_is_places := fn_mk (ok_is_places F_is_places M h_is_whole) (He.glo_ok X G g_is_places) F_is_places.kp b_is_places
  have h_is_number : Fn (mkB K) l.prog w K mg base 3 "is_number" 1 S_is_number := fn_mk (ok_is_number F_is_number M h_is_name h_is_places) (He.glo_ok X G g_is_number) F_is_number.kp b_is_number
  have h_check_numbers : Fn (mkB K) l.prog w K mg base 4 "check_numbers" 1 S_check_numbers := fn_mk (ok_check_numbers F_check_numbers M h_is_number) (He.glo_ok X G g_check_numbers) F_check_numbers.kp b_check_numbers
  have h_is_cell : Fn (mkB K) l.prog w K mg base 2 "is_cell" 2 S_is_cell := fn_mk (ok_is_cell F_is_cell M h_is_whole) (He.glo_ok X G g_is_cell) F_is_cell.kp b_is_cell
  have h_check_cells : Fn (mkB K) l.prog w K mg base 3 "check_cells" 2 S_check_cells := fn_mk (ok_check_cells F_check_cells M h_is_cell) (He.glo_ok X G g_check_cells) F_check_cells.kp b_check_cells
  have h_Scheme_init : NC (mkB K) l.prog w K mg base 5 "Scheme" 2 2 S_Scheme_init := nc_of (He.glo_ok X G g_Scheme) q_mk_Scheme_init rfl (ok_Scheme_init F_Scheme_init M h_check_cells h_check_numbers) b_Scheme_init
  have h_Scheme___eq__ : MC (mkB K) l.prog w K mg base 1 "__eq__" 2 1 S_Scheme___eq__ := mc_of (x := "Scheme") q_cl_Scheme q_me_Scheme___eq__ rfl (ok_Scheme___eq__ F_Scheme___eq__ M ) b_Scheme___eq__
  have h_Scheme___len__ : MC (mkB K) l.prog w K mg base 1 "__len__" 2 0 S_Scheme___len__ := mc_of (x := "Scheme") q_cl_Scheme q_me_Scheme___len__ rfl (ok_Scheme___len__ F_Scheme___len__ M ) b_Scheme___len__
  have h__law_pen : Fn (mkB K) l.prog w K mg base 1 "_law_pen" 1 S__law_pen := fn_mk (ok__law_pen F__law_pen T M ) (He.glo_ok X G g__law_pen) F__law_pen.kp b__law_pen
  have h__law_take : Fn (mkB K) l.prog w K mg base 1 "_law_take" 2 S__law_take := fn_mk (ok__law_take F__law_take T M ) (He.glo_ok X G g__law_take) F__law_take.kp b__law_take
  have h__law_names : Fn (mkB K) l.prog w K mg base 2 "_law_names" 2 S__law_names := fn_mk (ok__law_names F__law_names M h__law_take) (He.glo_ok X G g__law_names) F__law_names.kp b__law_names
  have h__law_numbers : Fn (mkB K) l.prog w K mg base 3 "_law_numbers" 2 S__law_numbers := fn_mk (ok__law_numbers F__law_numbers M h__law_names h__law_take) (He.glo_ok X G g__law_numbers) F__law_numbers.kp b__law_numbers
  have h__law_cells : Fn (mkB K) l.prog w K mg base 2 "_law_cells" 3 S__law_cells := fn_mk (ok__law_cells F__law_cells M h__law_take) (He.glo_ok X G g__law_cells) F__law_cells.kp b__law_cells
  have h__law_made : Fn (mkB K) l.prog w K mg base 7 "_law_made" 2 S__law_made := fn_mk (ok__law_made F__law_made M h_Scheme_init) (He.glo_ok X G g__law_made) F__law_made.kp b__law_made
  have h__law_bad_numbers : Fn (mkB K) l.prog w K mg base 2 "_law_bad_numbers" 2 S__law_bad_numbers := fn_mk (ok__law_bad_numbers F__law_bad_numbers M h__law_take) (He.glo_ok X G g__law_bad_numbers) F__law_bad_numbers.kp b__law_bad_numbers
  have h__law_bad_cells : Fn (mkB K) l.prog w K mg base 2 "_law_bad_cells" 3 S__law_bad_cells := fn_mk (ok__law_bad_cells F__law_bad_cells M h__law_take) (He.glo_ok X G g__law_bad_cells) F__law_bad_cells.kp b__law_bad_cells
  have h__law_bent_right : Fn (mkB K) l.prog w K mg base 8 "_law_bent_right" 3 S__law_bent_right := fn_mk (ok__law_bent_right F__law_bent_right M h_Scheme___eq__ h_Scheme_init h__law_bad_cells h__law_bad_numbers h__law_made h__law_take) (He.glo_ok X G g__law_bent_right) F__law_bent_right.kp b__law_bent_right
  exact ok_law F_law M hk h_Scheme___eq__ h_Scheme_init h__law_bent_right h__law_cells h__law_made h__law_numbers h__law_pen
def loose0 : List Str := ["_wall", "RisingError", "NoScheme", "is_whole", "KINDS", "LETTERS", "MOST_LETTERS", "MOST_PLACES", "is_name", "is_places", "is_number", "check_numbers", "is_cell", "check_cells", "Scheme", "_law_pen", "_law_take", "_law_names", "_law_numbers", "_law_cells", "_law_made", "_law_bad_numbers", "_law_bad_cells", "_law_bent_right"]
def loose : List Str := loose0
abbrev Rw : PySem.W.OpenRow := PySem.W.OpenLaw.row PySem.Challenge.rw_risingread_k09_schemes_made
abbrev hk : PySem.W.Hook := hookM 5 fb fnL lm
def ob (s : PySem.W.SharedT) : Bool × AlM := obsMG 5 fb fnL lm (HandSHeadRun.getT s)
theorem ob_eq (s : PySem.W.SharedT) : ob s = hk.obs s.abs := obsMG_eq s
theorem run (w : World) : HandSHeadRun.RunEq Rw (PySem.W.view Rw.prog [28]) hk ob 20000 loose w := by
  intro os
  kernel_rfl
end K09
open PySem PySem.W PySem.Calls PyProof.Rows
set_option maxRecDepth 100000 in
set_option maxHeartbeats 0 in
theorem PySem.Challenge.cw_risingread_k09_schemes_made_holds : PySem.Challenge.rw_risingread_k09_schemes_made.Holds := by
  w_on; o_law
  refine HandSHeadRun.head_any (r := OpenLaw.row PySem.Challenge.rw_risingread_k09_schemes_made) (q := view (OpenLaw.row PySem.Challenge.rw_risingread_k09_schemes_made).prog [28]) (H := K09.hk) (ob := K09.ob) (M := 20000) (loose := K09.loose) (d := HandSHeadRun.topDef (OpenLaw.row PySem.Challenge.rw_risingread_k09_schemes_made).prog 28) (kwd := []) K09.ob_eq (by kernel_rfl) (fun s => by kernel_rfl)
    K09.run (by kernel_rfl) (by kernel_rfl) (by kernel_rfl) (by rfl) (by first | assumption | decide +kernel) (by decide +kernel) ⟨rfl, rfl, rfl, rfl, rfl, by decide +kernel⟩ ?hw ?hc
  case hw => w_witness2
  case hc =>
    refine DL.law_walkE (l := PySem.Challenge.rw_risingread_k09_schemes_made) (L := 9) (x := "_law_script") rfl (by kernel_rfl) ⟨rfl, by decide, by decide⟩ ?F
    intro w mg fa h Y G hmg0
    obtain ⟨K, KX, c, cod⟩ := Y
    have hmg : mg ("law" : PySem.Str) = some (.ref fa) := by
      have e : (HandSHeadRun.topDef (OpenLaw.row PySem.Challenge.rw_risingread_k09_schemes_made).prog 28).name = ("law" : PySem.Str) := by kernel_rfl
      rw [← e]
      exact hmg0
    obtain ⟨B, fd, hb, hT, hF⟩ := K09.all_mk (l := PySem.Challenge.rw_risingread_k09_schemes_made) (w := w) K09.k_law KX G hmg c
    exact ⟨K, B, fd, _, KX, cod, hb, hT, hF⟩
#print axioms PySem.Challenge.cw_risingread_k09_schemes_made_holds

