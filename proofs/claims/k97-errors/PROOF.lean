import PyProof.Rows.All
import Wide.All
import OpenK.AllK
import Wide.FinOn
import HandS.ForMost
import HandS.ForExc
import HandS.CallSlots
import HandS.IsInst
import HandS.Deep
import HandS.Wide
import HandS.Flow
import HandS.Evl
import HandS.TupAny
import HandS.Style
import HandS.SortInts
import HandS.DictComp
import HandS.ExcIs
import KE.KExcIs
import HandS.ExcInit
import HandS.WordsExc
import HandS.ExcField
import HandS.ExcValue
import HandS.SetFor
import HandS.Head0
import HandS.Head1
import HandS.Head2
import HandS.HeadHook1
import PySem.Challenge.RW_risingread_k97_errors
set_option Elab.async false
set_option linter.all false
set_option maxRecDepth 100000
set_option maxHeartbeats 1000000
namespace DL
open PySem L2

/-! ### data -/
inductive D where
  | non
  | bl (b : Bool)
  | int (i : Int)
  | str (x : Str)
  | lst (xs : List D)
  | tup (xs : List D)
  | dct (kvs : List (Key × D))
  | obj (c : Nat) (fs : List (Str × D))
  | exc (c : Nat) (fs : List (Str × D))
  | loc (i : Nat)
  | pen
  | scr (ns : List Int)
instance : Inhabited D := ⟨.non⟩

/-- an exception: the number of its class, its fields -/
structure Exn where
  c : Nat
  fs : List (Str × D)
/-- what changes: a bound on the pen's draws, the mutable instances -/
structure Gh where
  pd : Bool
  n : Nat
  mem : List (Nat × List (Str × D))
  cl : Nat

/-- where things stand: the frozen heap, the pen, the mutable instances -/
structure Cn where
  F : Hp
  pen : Option Addr
  ma : List Addr
  cel : Addr

/-- what is fixed: the classes' addresses, what a pen's object is -/
structure Tb where
  ct : Nat → Addr
  pn : Addr → HO → Nat → Prop
  cok : List Int → Prop

abbrev Ex := Evl.Ex

/-- an exception that is held as a value -/
def excHO (C : Addr) (a : Addr) (d : Option Addr) : HO := .ext fun h => ∃ o vs, h.get? a = some o ∧ o.cls = .ref C ∧ o.dict = d ∧ o.data = .fields vs

mutual
inductive Rep (B : Tb) (K : PySem.W.Frag) (c : Cn) : V → D → Prop
  | non : Rep B K c .non .non
  | bl (b : Bool) : Rep B K c (.bl b) (.bl b)
  | int (i : Int) : Rep B K c (.int i) (.int i)
  | str (x : Str) : Rep B K c (.str x) (.str x)
  | lst {a : Addr} {vs : List V} {ds : List D} : c.F a = some (.lst vs) → Reps B K c vs ds → Rep B K c (.ref a) (.lst ds)
  | tup {a : Addr} {vs : List V} {ds : List D} : SqT K c.F a vs → Reps B K c vs ds → Rep B K c (.ref a) (.tup ds)
  | dct {a : Addr} {kvs : List (Key × V)} {ds : List (Key × D)} : c.F a = some (.dK kvs) → RepK B K c kvs ds → Rep B K c (.ref a) (.dct ds)
  | obj {a dx : Addr} {i : Nat} {fs : List (Str × V)} {ds : List (Str × D)} : c.F a = some (.ins (B.ct i) dx fs) → RepF B K c fs ds → Rep B K c (.ref a) (.obj i ds)
  | exc {a d : Addr} {i : Nat} {fs : List (Str × V)} {ds : List (Str × D)} : c.F a = some (excHO (B.ct i) a (some d)) → c.F d = some (.xd fs) → RepF B K c fs ds → Rep B K c (.ref a) (.exc i ds)
  | exc0 {a : Addr} {i : Nat} : c.F a = some (excHO (B.ct i) a none) → Rep B K c (.ref a) (.exc i [])
  | loc {a : Addr} {i : Nat} : c.ma[i]? = some a → Rep B K c (.ref a) (.loc i)
  | pen {a : Addr} : c.pen = some a → Rep B K c (.ref a) .pen
  | scr {a : Addr} {ns : List Int} : SqL K c.F a (ns.map V.int) → Rep B K c (.ref a) (.scr ns)
inductive Reps (B : Tb) (K : PySem.W.Frag) (c : Cn) : List V → List D → Prop
  | nil : Reps B K c [] []
  | cons {v : V} {d : D} {vs : List V} {ds : List D} : Rep B K c v d → Reps B K c vs ds → Reps B K c (v :: vs) (d :: ds)
inductive RepK (B : Tb) (K : PySem.W.Frag) (c : Cn) : List (Key × V) → List (Key × D) → Prop
  | nil : RepK B K c [] []
  | cons {k : Key} {v : V} {d : D} {vs : List (Key × V)} {ds : List (Key × D)} : Rep B K c v d → RepK B K c vs ds → RepK B K c ((k, v) :: vs) ((k, d) :: ds)
inductive RepF (B : Tb) (K : PySem.W.Frag) (c : Cn) : List (Str × V) → List (Str × D) → Prop
  | nil : RepF B K c [] []
  | cons {k : Str} {v : V} {d : D} {vs : List (Str × V)} {ds : List (Str × D)} : Rep B K c v d → RepF B K c vs ds → RepF B K c ((k, v) :: vs) ((k, d) :: ds)
end

/-- what stands goes on standing -/
structure Le (c c' : Cn) : Prop where
  F : Ex c.F c'.F
  pen : ∀ p, c.pen = some p → c'.pen = some p
  ma : ∀ (i : Nat) (a : Addr), c.ma[i]? = some a → c'.ma[i]? = some a
  cel : ∀ p, c.pen = some p → c'.cel = c.cel
theorem Le.refl (c : Cn) : Le c c := ⟨Evl.Ex.refl _, fun _ h => h, fun _ _ h => h, fun _ _ => rfl⟩
theorem Le.trans {c c1 c2 : Cn} (a : Le c c1) (b : Le c1 c2) : Le c c2 := ⟨a.F.trans b.F, fun p h => b.pen p (a.pen p h), fun i x h => b.ma i x (a.ma i x h), fun p h => (b.cel p (a.pen p h)).trans (a.cel p h)⟩
section
variable {B : Tb} {K : PySem.W.Frag} {c c' : Cn}
mutual
theorem Rep.mono (e : Le c c') : ∀ {v : V} {d : D}, Rep B K c v d → Rep B K c' v d
  | _, _, .non => .non
  | _, _, .bl b => .bl b
  | _, _, .int i => .int i
  | _, _, .str x => .str x
  | _, _, .lst h r => .lst (e.F _ _ h) (Reps.mono e r)
  | _, _, .tup h r => .tup (Evl.ex_t e.F h) (Reps.mono e r)
  | _, _, .dct h r => .dct (e.F _ _ h) (RepK.mono e r)
  | _, _, .obj h r => .obj (e.F _ _ h) (RepF.mono e r)
  | _, _, .exc h h2 r => .exc (e.F _ _ h) (e.F _ _ h2) (RepF.mono e r)
  | _, _, .exc0 h => .exc0 (e.F _ _ h)
  | _, _, .loc h => .loc (e.ma _ _ h)
  | _, _, .pen h => .pen (e.pen _ h)
  | _, _, .scr h => .scr (Evl.ex_l e.F h)
theorem Reps.mono (e : Le c c') : ∀ {vs : List V} {ds : List D}, Reps B K c vs ds → Reps B K c' vs ds
  | _, _, .nil => .nil
  | _, _, .cons h r => .cons (Rep.mono e h) (Reps.mono e r)
theorem RepK.mono (e : Le c c') : ∀ {vs : List (Key × V)} {ds : List (Key × D)}, RepK B K c vs ds → RepK B K c' vs ds
  | _, _, .nil => .nil
  | _, _, .cons h r => .cons (Rep.mono e h) (RepK.mono e r)
theorem RepF.mono (e : Le c c') : ∀ {vs : List (Str × V)} {ds : List (Str × D)}, RepF B K c vs ds → RepF B K c' vs ds
  | _, _, .nil => .nil
  | _, _, .cons h r => .cons (Rep.mono e h) (RepF.mono e r)
end
theorem Reps.length : ∀ {vs : List V} {ds : List D}, Reps B K c vs ds → vs.length = ds.length
  | _, _, .nil => rfl
  | _, _, .cons _ r => congrArg (· + 1) (Reps.length r)
theorem Reps.get : ∀ {vs : List V} {ds : List D} {i : Nat} {v : V}, Reps B K c vs ds → vs[i]? = some v → ∃ d, ds[i]? = some d ∧ Rep B K c v d
  | _, _, _, _, .nil, e => by simp at e
  | _, _, 0, _, .cons r _, e => by simp at e; subst e; exact ⟨_, rfl, r⟩
  | _, _, i + 1, v, .cons _ t, e => by
    obtain ⟨d, h1, h2⟩ := Reps.get (i := i) (v := v) t (by simpa using e)
    exact ⟨d, by simpa using h1, h2⟩
theorem Reps.getD : ∀ {vs : List V} {ds : List D} {i : Nat} {d : D}, Reps B K c vs ds → ds[i]? = some d → ∃ v, vs[i]? = some v ∧ Rep B K c v d
  | _, _, _, _, .nil, e => by simp at e
  | _, _, 0, _, .cons r _, e => by simp at e; subst e; exact ⟨_, rfl, r⟩
  | _, _, i + 1, v, .cons _ t, e => by
    obtain ⟨d, h1, h2⟩ := Reps.getD (i := i) (d := v) t (by simpa using e)
    exact ⟨d, by simpa using h1, h2⟩
theorem Reps.append : ∀ {vs ws : List V} {ds es : List D}, Reps B K c vs ds → Reps B K c ws es → Reps B K c (vs ++ ws) (ds ++ es)
  | _, _, _, _, .nil, s => s
  | _, _, _, _, .cons r t, s => .cons r (Reps.append t s)
end

/-- from (c, H) to (c', H'): the frozen stays, all that was tracked but the mutable stays, what is newly mutable was not there -/
structure Grow (c : Cn) (H : Hp) (c' : Cn) (H' : Hp) : Prop where
  le : Le c c'
  keep : ∀ a o, H a = some o → c.pen ≠ some a → a ∉ c.ma → H' a = some o
  fresh : ∀ a, c'.pen = some a ∨ a ∈ c'.ma → (c.pen = some a ∨ a ∈ c.ma) ∨ H a = none
  froz : ∀ a o, c'.F a = some o → (c.F a = some o ∨ H a = none) ∨ (c.pen = some a ∨ a ∈ c.ma)
theorem Grow.refl (c : Cn) (H : Hp) : Grow c H c H := ⟨Le.refl c, fun _ _ h _ _ => h, fun _ h => .inl h, fun _ _ h => .inl (.inl h)⟩
theorem Grow.trans {c c1 c2 : Cn} {H H1 H2 : Hp} (a : Grow c H c1 H1) (b : Grow c1 H1 c2 H2) : Grow c H c2 H2 := by
  have back : ∀ x, H1 x = none → H x = none ∨ (c.pen = some x ∨ x ∈ c.ma) := fun x q => by
    cases e : H x with
    | none => exact .inl rfl
    | some o =>
      by_cases hp : c.pen = some x
      · exact .inr (.inl hp)
      · by_cases hm : x ∈ c.ma
        · exact .inr (.inr hm)
        · have := a.keep x o e hp hm
          rw [q] at this; cases this
  refine ⟨a.le.trans b.le, fun x o h hp hm => ?_, fun x h => ?_, fun x o h => ?_⟩
  · have h1 := a.keep x o h hp hm
    refine b.keep x o h1 (fun z => ?_) (fun z => ?_)
    · rcases a.fresh x (.inl z) with (q | q) | q
      · exact hp q
      · exact hm q
      · rw [h] at q; cases q
    · rcases a.fresh x (.inr z) with (q | q) | q
      · exact hp q
      · exact hm q
      · rw [h] at q; cases q
  · rcases b.fresh x h with q | q
    · exact a.fresh x q
    · rcases back x q with q | q
      · exact .inr q
      · exact .inl q
  · rcases b.froz x o h with (q | q) | q
    · exact a.froz x o q
    · rcases back x q with q | q
      · exact .inl (.inr q)
      · exact .inr q
    · rcases a.fresh x q with q | q
      · exact .inr q
      · exact .inl (.inr q)

/-- what is ours stays ours while others work -/
theorem Grow.mine {c c' : Cn} {H H' : Hp} {p : Addr} {o : HO} (s : Grow c H c' H') (h : H p = some o) (hF : c.F p = none) (hp : c.pen ≠ some p) (hm : p ∉ c.ma) : H' p = some o ∧ c'.F p = none ∧ c'.pen ≠ some p ∧ p ∉ c'.ma := by
  refine ⟨s.keep p o h hp hm, ?_, fun z => ?_, fun z => ?_⟩
  · cases e : c'.F p with
    | none => rfl
    | some u =>
      rcases s.froz p u e with (q | q) | (q | q)
      · rw [hF] at q; cases q
      · rw [h] at q; cases q
      · exact absurd q hp
      · exact absurd q hm
  · rcases s.fresh p (.inl z) with (q | q) | q
    · exact hp q
    · exact hm q
    · rw [h] at q; cases q
  · rcases s.fresh p (.inr z) with (q | q) | q
    · exact hp q
    · exact hm q
    · rw [h] at q; cases q
/-- the state is right -/
structure Fine (B : Tb) (K : PySem.W.Frag) (c : Cn) (g : Gh) (H : Hp) : Prop where
  sub : Ex c.F H
  pd : c.pen.isSome = g.pd
  pen : ∀ p, c.pen = some p → c.F p = none ∧ p ∉ c.ma ∧ ∃ o, H p = some o ∧ B.pn c.cel o g.n
  cells : ∀ p, c.pen = some p → ∃ ns : List Int, c.F c.cel = some (.lst (ns.map V.int)) ∧ B.cok ns ∧ ns.length = g.cl
  mlen : c.ma.length = g.mem.length
  mnd : c.ma.Nodup
  mem : ∀ (i : Nat) (m : Nat × List (Str × D)) (a : Addr), g.mem[i]? = some m → c.ma[i]? = some a → c.F a = none ∧ ∃ dx fs, H a = some (.ins (B.ct m.1) dx fs) ∧ RepF B K c fs m.2

/-- slots that hold frozen data -/
abbrev DEnv := List (Option D)
structure RelP (B : Tb) (K : PySem.W.Frag) (c : Cn) (ρ : DEnv) (σ : L2.St) : Prop where
  len : ρ.length ≤ σ.length
  sl : ∀ (i : Nat) (d : D), ρ[i]? = some (some d) → ∃ v, σ[i]? = some (some v) ∧ Rep B K c v d
theorem RelP.mono {B : Tb} {K : PySem.W.Frag} {c c' : Cn} {ρ : DEnv} {σ : L2.St} (e : Le c c') (h : RelP B K c ρ σ) : RelP B K c' ρ σ := ⟨h.len, fun i d q =>
  let ⟨v, h1, h2⟩ := h.sl i d q
  ⟨v, h1, h2.mono e⟩⟩
theorem Le.ice {c : Cn} {p : Addr} {o : HO} (h : c.F p = none) : Le c { c with F := upd c.F p o } := ⟨Evl.Ex.new h, fun _ z => z, fun _ _ z => z, fun _ _ => rfl⟩

/-- a new frozen object -/
theorem Fine.lay {B : Tb} {K : PySem.W.Frag} {c : Cn} {g : Gh} {H : Hp} {p : Addr} {o : HO} (k : Fine B K c g H) (hp : H p = none) : Grow c H { c with F := upd c.F p o } (upd H p o) ∧ Fine B K { c with F := upd c.F p o } g (upd H p o) := by
  have fp : c.F p = none := Evl.fresh_back k.sub hp
  have eF : Ex c.F (upd c.F p o) := Evl.Ex.new fp
  have le : Le c { c with F := upd c.F p o } := ⟨eF, fun _ h => h, fun _ _ h => h, fun _ _ => rfl⟩
  refine ⟨⟨le, fun a u h _ _ => Evl.Ex.new hp a u h, fun a h => .inl h, fun a u h => .inl ?_⟩, ⟨fun a u h => ?_, k.pd, fun q hq => ?_, fun q hq => (let ⟨ns, h1, h2⟩ := k.cells q hq; ⟨ns, eF _ _ h1, h2⟩), k.mlen, k.mnd, fun i m a h1 h2 => ?_⟩⟩
  · have h : upd c.F p o a = some u := h
    by_cases e : a = p
    · subst e; exact .inr hp
    · rw [upd_ne e] at h; exact .inl h
  · show upd H p o a = some u
    have h : upd c.F p o a = some u := h
    by_cases e : a = p
    · subst e; rw [upd_same] at h; rw [upd_same]; exact h
    · rw [upd_ne e] at h; rw [upd_ne e]; exact k.sub a u h
  · obtain ⟨h1, hm, u, h2, h3⟩ := k.pen q hq
    have ne : q ≠ p := ne_of_none h2 hp
    refine ⟨?_, hm, u, ?_, h3⟩
    · show upd c.F p o q = none
      rw [upd_ne ne]; exact h1
    · rw [upd_ne ne]; exact h2
  · obtain ⟨h3, dx, fs, h4, h5⟩ := k.mem i m a h1 h2
    have ne : a ≠ p := ne_of_none h4 hp
    refine ⟨?_, dx, fs, ?_, RepF.mono le h5⟩
    · show upd c.F p o a = none
      rw [upd_ne ne]; exact h3
    · rw [upd_ne ne]; exact h4
end DL

namespace DL
open PySem L2

abbrev DQ := D → Gh → Prop
abbrev DZ := Exn → Gh → Prop
abbrev DE := DEnv → Gh → DQ → DZ → Prop
abbrev DA := DEnv → Gh → (List D → Gh → Prop) → DZ → Prop
abbrev DT := DEnv → Gh → (Bool → Gh → Prop) → DZ → Prop
abbrev DSp := List D → Gh → DQ → DZ → Prop

/-- how an exception lies -/
def ExR (B : Tb) (K : PySem.W.Frag) (c : Cn) (cls : Value) (d : Option Addr) (ex : Exn) : Prop :=
  cls = .ref (B.ct ex.c) ∧ ((d = none ∧ ex.fs = []) ∨ ∃ dd fs, d = some dd ∧ c.F dd = some (.xd fs) ∧ RepF B K c fs ex.fs)
/-- what is let out is wanted -/
def ZOk (B : Tb) (K : PySem.W.Frag) (c : Cn) (H : Hp) (σ : L2.St) (W : WX) (Z : DZ) : Prop :=
  ∀ c' H' g' ex cls d, Grow c H c' H' → Fine B K c' g' H' → ExR B K c' cls d ex → Z ex g' → W cls d σ H'
theorem ZOk.next {B : Tb} {K : PySem.W.Frag} {c c1 : Cn} {H H1 : Hp} {σ : L2.St} {W : WX} {Z : DZ} (z : ZOk B K c H σ W Z) (s : Grow c H c1 H1) : ZOk B K c1 H1 σ W Z :=
  fun c' H' g' ex cls d s' k r h => z c' H' g' ex cls d (s.trans s') k r h

/-! ### the readings of L2 at their strongest -/
def semE (X : Cx) (e : Expr) : TE := fun σ H Q => ∀ pins s, Inv X pins σ H s → wpAny (model X.prog X.w) X.A (eval e X.env) (EP X pins σ Q) X.xe s
theorem pe_sem {X : Cx} {e : Expr} : PE X e (semE X e) := ⟨fun pins s _ _ _ I h => h pins s I⟩
theorem sem_of {X : Cx} {e : Expr} {t : TE} (h : PE X e t) {σ : L2.St} {H : Hp} {Q : VK} (q : t σ H Q) : semE X e σ H Q := fun pins s I => h.run pins s σ H Q I q
theorem semE.mono {X : Cx} {e : Expr} {σ : L2.St} {H : Hp} {Q Q' : VK} (h : semE X e σ H Q) (k : ∀ v H', Q v H' → Q' v H') : semE X e σ H Q' := fun pins s I =>
  thn (h pins s I) fun _ _ ⟨v, H', I', r, q⟩ => ⟨v, H', I', r, k v H' q⟩
def semT (X : Cx) (e : Expr) : TT := fun σ H Q => ∀ pins s, Inv X pins σ H s → wpAny (model X.prog X.w) X.A (isTrue e X.env (eval e X.env)) (TP X pins σ Q) X.xe s
theorem pt_sem {X : Cx} {e : Expr} : PT X e (semT X e) := ⟨fun pins s _ _ _ I h => h pins s I⟩
theorem semT_of {X : Cx} {e : Expr} {t : TT} (h : PT X e t) {σ : L2.St} {H : Hp} {Q : Bool → Hp → Prop} (q : t σ H Q) : semT X e σ H Q := fun pins s I => h.run pins s σ H Q I q
theorem semT.mono {X : Cx} {e : Expr} {σ : L2.St} {H : Hp} {Q Q' : Bool → Hp → Prop} (h : semT X e σ H Q) (k : ∀ v H', Q v H' → Q' v H') : semT X e σ H Q' := fun pins s I =>
  thn (h pins s I) fun _ _ ⟨H', I', q⟩ => ⟨H', I', k _ H' q⟩
def semA (X : Cx) (es : List Expr) : TA := fun σ H Q => ∀ pos pins s, Inv X pins σ H s → wpAny (model X.prog X.w) X.A (spliced (backTo pos (starEach es X.env))) (AP X pins σ Q) X.xe s
theorem pa_sem {X : Cx} {es : List Expr} : PA X es (semA X es) := ⟨fun pos pins s _ _ _ I h => h pos pins s I⟩
theorem semA_of {X : Cx} {es : List Expr} {t : TA} (h : PA X es t) {σ : L2.St} {H : Hp} {Q : List V → Hp → Prop} (q : t σ H Q) : semA X es σ H Q := fun pos pins s I => h.run pos pins s σ H Q I q
theorem semA.mono {X : Cx} {es : List Expr} {σ : L2.St} {H : Hp} {Q Q' : List V → Hp → Prop} (h : semA X es σ H Q) (k : ∀ v H', Q v H' → Q' v H') : semA X es σ H Q' := fun pos pins s I =>
  thn (h pos pins s I) fun _ _ ⟨v, H', I', r, q⟩ => ⟨v, H', I', r, k v H' q⟩

/-- the ends of an expression, of arguments, of a test -/
def PQ (B : Tb) (K : PySem.W.Frag) (c : Cn) (H : Hp) (Q : DQ) : VK := fun v H' => ∃ c' g' d, Grow c H c' H' ∧ Fine B K c' g' H' ∧ Rep B K c' v d ∧ Q d g'
def PQs (B : Tb) (K : PySem.W.Frag) (c : Cn) (H : Hp) (n : Nat) (Q : List D → Gh → Prop) : List V → Hp → Prop := fun vs H' => ∃ c' g' ds, Grow c H c' H' ∧ Fine B K c' g' H' ∧ Reps B K c' vs ds ∧ ds.length = n ∧ Q ds g'
def PQb (B : Tb) (K : PySem.W.Frag) (c : Cn) (H : Hp) (Q : Bool → Gh → Prop) : Bool → Hp → Prop := fun b H' => ∃ c' g', Grow c H c' H' ∧ Fine B K c' g' H' ∧ Q b g'
theorem PQ.back {B : Tb} {K : PySem.W.Frag} {c c1 : Cn} {H H1 : Hp} {Q : DQ} (s : Grow c H c1 H1) {v : V} {H' : Hp} (q : PQ B K c1 H1 Q v H') : PQ B K c H Q v H' := by
  obtain ⟨c', g', d, s', k, r, h⟩ := q
  exact ⟨c', g', d, s.trans s', k, r, h⟩

section
variable (B : Tb) (X : Cx) (W : WX)
structure WE (e : Expr) (t : DE) : Prop where
  run : ∀ (c : Cn) (g : Gh) (ρ : DEnv) (σ : L2.St) (H : Hp) (Q : DQ) (Z : DZ), Fine B X.K c g H → RelP B X.K c ρ σ → t ρ g Q Z → ZOk B X.K c H σ W Z → semE X e σ H (PQ B X.K c H Q)
structure WA (es : List Expr) (t : DA) : Prop where
  run : ∀ (c : Cn) (g : Gh) (ρ : DEnv) (σ : L2.St) (H : Hp) (Q : List D → Gh → Prop) (Z : DZ), Fine B X.K c g H → RelP B X.K c ρ σ → t ρ g Q Z → ZOk B X.K c H σ W Z → semA X es σ H (PQs B X.K c H es.length Q)
structure WT (e : Expr) (t : DT) : Prop where
  run : ∀ (c : Cn) (g : Gh) (ρ : DEnv) (σ : L2.St) (H : Hp) (Q : Bool → Gh → Prop) (Z : DZ), Fine B X.K c g H → RelP B X.K c ρ σ → t ρ g Q Z → ZOk B X.K c H σ W Z → semT X e σ H (PQb B X.K c H Q)
end

section
variable {B : Tb} {X : Cx} {W : WX} {a b e : Expr} {es : List Expr} {ta tb te : DE} {pos : Pos}
/-! ### names and constants -/
def dVar (i : Nat) : DE := fun ρ g Q _ => ∃ d, ρ[i]? = some (some d) ∧ Q d g
def dC (d : D) : DE := fun _ g Q _ => Q d g
theorem we_var {i : Nat} {x : Str} (hN : X.N[i]? = some x) (hv : Vis X.env.scope x) (hd : (x == ("__debug__" : Str)) = false) (hcd : (x == ("__classdict__" : Str)) = false) : WE B X W (.Name x pos) (dVar i) := by
  refine ⟨fun c g ρ σ H Q Z k r h _ => sem_of (pe_var hN hv hd hcd) ?_⟩
  obtain ⟨d, e, q⟩ := h
  obtain ⟨v, h1, h2⟩ := r.sl i d e
  exact ⟨v, h1, c, g, d, Grow.refl c H, k, h2, q⟩
theorem we_c {v : V} {d : D} (h : PE X e (tC v)) (hr : ∀ c, Rep B X.K c v d) : WE B X W e (dC d) :=
  ⟨fun c g ρ σ H Q Z k r q _ => sem_of h ⟨c, g, d, Grow.refl c H, k, hr c, q⟩⟩
theorem we_int {i j} : WE B X W (.Constant (.int i) j pos) (dC (.int i)) := we_c pe_int fun _ => .int i
theorem we_bl {i j} : WE B X W (.Constant (.bool i) j pos) (dC (.bl i)) := we_c pe_bl fun _ => .bl i
theorem we_non {j} : WE B X W (.Constant .none j pos) (dC .non) := we_c pe_non fun _ => .non
theorem we_str {x j} : WE B X W (.Constant (.str x) j pos) (dC (.str x)) := we_c pe_str fun _ => .str x

/-! ### two parts in a row -/
theorem two {R : D → D → Gh → Prop} {k2 : V → V → Hp → Prop} (ha : WE B X W a ta) (hb : WE B X W b tb) {c : Cn} {g : Gh} {ρ : DEnv} {σ : L2.St} {H : Hp} {Z : DZ} (k : Fine B X.K c g H) (r : RelP B X.K c ρ σ)
    (h : ta ρ g (fun x g1 => tb ρ g1 (fun y g2 => R x y g2) Z) Z) (z : ZOk B X.K c H σ W Z)
    (hk : ∀ x y v u c2 g2 H2, Grow c H c2 H2 → Fine B X.K c2 g2 H2 → Rep B X.K c2 v x → Rep B X.K c2 u y → R x y g2 → k2 v u H2) :
    semE X a σ H fun v H1 => semE X b σ H1 fun u H2 => k2 v u H2 := by
  refine (ha.run c g ρ σ H _ Z k r h z).mono fun v H1 ⟨c1, g1, x, s1, k1, r1, q1⟩ => ?_
  refine (hb.run c1 g1 ρ σ H1 _ Z k1 (r.mono s1.le) q1 (z.next s1)).mono fun u H2 ⟨c2, g2, y, s2, k2', r2, q2⟩ => ?_
  exact hk x y v u c2 g2 H2 (s1.trans s2) k2' (r1.mono s2.le) r2 q2
/-- a value that the operation hands back, and what it lays -/
def Gives (B : Tb) (K : PySem.W.Frag) (f : D → D → Option D) (r : R2) : Prop :=
  ∀ (c : Cn) (g : Gh) (H : Hp) (x y z : D) (v u : V) (Q : VK), Fine B K c g H → Rep B K c v x → Rep B K c u y → f x y = some z →
    (∀ w c' H', Grow c H c' H' → Fine B K c' g H' → Rep B K c' w z → Q w H') → r v u H Q
def dOp (f : D → D → Option D) (ta tb : DE) : DE := fun ρ g Q Z => ta ρ g (fun x g1 => tb ρ g1 (fun y g2 => ∃ z, f x y = some z ∧ Q z g2) Z) Z
theorem we_op {op : Operator} {f : D → D → Option D} {r : R2} (ho : OpR X (binaryOp op) r) (hg : Gives B X.K f r) (ha : WE B X W a ta) (hb : WE B X W b tb) : WE B X W (.BinOp a op b pos) (dOp f ta tb) := by
  refine ⟨fun c g ρ σ H Q Z k rl h z => sem_of (pe_op ho pe_sem pe_sem) ?_⟩
  refine two ha hb k rl h z fun x y v u c2 g2 H2 s2 k2 r1 r2 ⟨w, e, q⟩ => ?_
  exact hg c2 g2 H2 x y w v u _ k2 r1 r2 e fun w' c' H' s3 k3 r3 => ⟨c', g2, w, s2.trans s3, k3, r3, q⟩
theorem we_cmp {op : CmpOp} {f : D → D → Option D} {r : R2} (ho : OpR X (compareOp op) r) (hg : Gives B X.K f r) (ha : WE B X W a ta) (hb : WE B X W b tb) (hm : behindInMarks op b = false) : WE B X W (.Compare a [op] [b] pos) (dOp f ta tb) := by
  refine ⟨fun c g ρ σ H Q Z k rl h z => sem_of (pe_cmpR ho pe_sem pe_sem hm) ?_⟩
  refine two ha hb k rl h z fun x y v u c2 g2 H2 s2 k2 r1 r2 ⟨w, e, q⟩ => ?_
  exact hg c2 g2 H2 x y w v u _ k2 r1 r2 e fun w' c' H' s3 k3 r3 => ⟨c', g2, w, s2.trans s3, k3, r3, q⟩
theorem Rep.blv {K : PySem.W.Frag} {c : Cn} {v : V} {k : Bool} (h : Rep B K c v (.bl k)) : v = .bl k := by cases h; rfl
theorem Rep.intv {K : PySem.W.Frag} {c : Cn} {v : V} {k : Int} (h : Rep B K c v (.int k)) : v = .int k := by cases h; rfl
theorem Rep.strv {K : PySem.W.Frag} {c : Cn} {v : V} {k : Str} (h : Rep B K c v (.str k)) : v = .str k := by cases h; rfl
def dTest (t : DE) : DT := fun ρ g Q Z => t ρ g (fun x g1 => ∃ k, x = .bl k ∧ Q k g1) Z
theorem wt_cmp {op : CmpOp} {f : D → D → Option D} {r : R2} (ho : OpR X (compareOp op) r) (hg : Gives B X.K f r) (ha : WE B X W a ta) (hb : WE B X W b tb) (hm : behindInMarks op b = false) : WT B X W (.Compare a [op] [b] pos) (dTest (dOp f ta tb)) := by
  refine ⟨fun c g ρ σ H Q Z k rl h z => semT_of (pt_cmpR ho pe_sem pe_sem hm) ?_⟩
  refine two ha hb k rl h z fun x y v u c2 g2 H2 s2 k2 r1 r2 ⟨w, e, b', eb, q⟩ => ?_
  subst eb
  exact hg c2 g2 H2 x y _ v u _ k2 r1 r2 e fun w' c' H' s3 k3 r3 => ⟨b', r3.blv, c', g2, s2.trans s3, k3, q⟩
/-- a op1 b op2 c -/
def dChain (f f' : D → D → Option D) (ta tb tc : DE) : DE := fun ρ g Q Z => ta ρ g (fun x g1 => tb ρ g1 (fun y g2 => ∃ k, f x y = some (.bl k) ∧
  if k = true then tc ρ g2 (fun w g3 => ∃ z, f' y w = some z ∧ Q z g3) Z else Q (.bl false) g2) Z) Z
theorem chain_core {e3 : Expr} {f f' : D → D → Option D} {r r' : R2} {tc : DE} {Q' : VK} (hg : Gives B X.K f r) (hg' : Gives B X.K f' r') (ha : WE B X W a ta) (hb : WE B X W b tb) (hc : WE B X W e3 tc)
    {c : Cn} {g : Gh} {ρ : DEnv} {σ : L2.St} {H : Hp} {Q : DQ} {Z : DZ} (k : Fine B X.K c g H) (rl : RelP B X.K c ρ σ) (h : dChain f f' ta tb tc ρ g Q Z) (z : ZOk B X.K c H σ W Z)
    (fin : ∀ v H', PQ B X.K c H Q v H' → Q' v H') : tChain r r' (semE X a) (semE X b) (semE X e3) σ H Q' := by
  refine two ha hb k rl h z fun x y v u c2 g2 H2 s2 k2 r1 r2 ⟨b', e, q⟩ => ?_
  refine hg c2 g2 H2 x y _ v u _ k2 r1 r2 e fun w' c' H' s3 k3 r3 => ⟨b', r3.blv, ?_⟩
  cases b' with
  | false => exact fin _ _ ⟨c', g2, _, s2.trans s3, k3, .bl false, q⟩
  | true =>
    refine (hc.run c' g2 ρ σ H' _ Z k3 (rl.mono (s2.trans s3).le) q (z.next (s2.trans s3))).mono fun v3 H4 ⟨c4, g4, d4, s4, k4, r4, z4, e4, q4⟩ => ?_
    exact hg' c4 g4 H4 y d4 z4 u v3 _ k4 (r2.mono (s3.trans s4).le) r4 e4 fun w5 c5 H5 s5 k5 r5 => fin _ _ ⟨c5, g4, z4, ((s2.trans s3).trans s4).trans s5, k5, r5, q4⟩
theorem we_chain {e3 : Expr} {op op' : CmpOp} {f f' : D → D → Option D} {r r' : R2} {tc : DE} (ho : OpR X (compareOp op) r) (ho' : OpR X (compareOp op') r') (hg : Gives B X.K f r) (hg' : Gives B X.K f' r') (ha : WE B X W a ta) (hb : WE B X W b tb) (hc : WE B X W e3 tc)
    (hm : lastMarks [op, op'] [b, e3] = false) : WE B X W (.Compare a [op, op'] [b, e3] pos) (dChain f f' ta tb tc) :=
  ⟨fun c g ρ σ H Q Z k rl h z => sem_of (pe_chain ho ho' pe_sem pe_sem pe_sem hm) (chain_core hg hg' ha hb hc k rl h z fun _ _ q => q)⟩
theorem wt_chain {e3 : Expr} {op op' : CmpOp} {f f' : D → D → Option D} {r r' : R2} {tc : DE} (ho : OpR X (compareOp op) r) (ho' : OpR X (compareOp op') r') (hg : Gives B X.K f r) (hg' : Gives B X.K f' r') (ha : WE B X W a ta) (hb : WE B X W b tb) (hc : WE B X W e3 tc)
    (hm : lastMarks [op, op'] [b, e3] = false) : WT B X W (.Compare a [op, op'] [b, e3] pos) (dTest (dChain f f' ta tb tc)) :=
  ⟨fun c g ρ σ H Q Z k rl h z => semT_of (pt_chain ho ho' pe_sem pe_sem pe_sem hm) (chain_core hg hg' ha hb hc k rl h z fun v H' ⟨c', g', d, s, kk, rr, b', e, q⟩ => by
    subst e
    exact ⟨b', rr.blv, c', g', s, kk, q⟩)⟩
/-! ### and, or, not -/
def dAndT (t u : DT) : DT := fun ρ g Q Z => t ρ g (fun k g1 => if k = true then u ρ g1 Q Z else Q false g1) Z
def dOrT (t u : DT) : DT := fun ρ g Q Z => t ρ g (fun k g1 => if k = true then Q true g1 else u ρ g1 Q Z) Z
def dNotT (t : DT) : DT := fun ρ g Q Z => t ρ g (fun k g1 => Q (!k) g1) Z
end
end DL

namespace DL
open PySem L2

/-! ### tests whatever their whole is -/
def semW (X : Cx) (e : Expr) : TT := fun σ H Q => ∀ wh pins s, Inv X pins σ H s → wpAny (model X.prog X.w) X.A (isTrue e X.env wh) (TP X pins σ Q) X.xe s
theorem pw_sem {X : Cx} {e : Expr} : PW X e (semW X e) := ⟨fun wh pins s _ _ _ I h => h wh pins s I⟩
theorem semW_of {X : Cx} {e : Expr} {t : TT} (h : PW X e t) {σ : L2.St} {H : Hp} {Q : Bool → Hp → Prop} (q : t σ H Q) : semW X e σ H Q := fun wh pins s I => h.run wh pins s σ H Q I q
structure WW (B : Tb) (X : Cx) (W : WX) (e : Expr) (t : DT) : Prop where
  run : ∀ (c : Cn) (g : Gh) (ρ : DEnv) (σ : L2.St) (H : Hp) (Q : Bool → Gh → Prop) (Z : DZ), Fine B X.K c g H → RelP B X.K c ρ σ → t ρ g Q Z → ZOk B X.K c H σ W Z → semW X e σ H (PQb B X.K c H Q)
theorem semW.mono {X : Cx} {e : Expr} {σ : L2.St} {H : Hp} {Q Q' : Bool → Hp → Prop} (h : semW X e σ H Q) (k : ∀ v H', Q v H' → Q' v H') : semW X e σ H Q' := fun wh pins s I =>
  thn (h wh pins s I) fun _ _ ⟨H', I', q⟩ => ⟨H', I', k _ H' q⟩
section
variable {B : Tb} {X : Cx} {W : WX} {a b e : Expr} {es rest : List Expr} {ta tb te : DE} {tA tB : DT} {tr : DA} {pos : Pos}
theorem WW.wt (h : WW B X W e tA) : WT B X W e tA := ⟨fun c g ρ σ H Q Z k r q z pins s I => h.run c g ρ σ H Q Z k r q z _ pins s I⟩
theorem ww_and1 (h : WT B X W a tA) : WW B X W (.BoolOp .And [a] pos) tA := ⟨fun c g ρ σ H Q Z k r q z => semW_of (pw_and1 pt_sem) (h.run c g ρ σ H Q Z k r q z)⟩
theorem ww_or1 (h : WT B X W a tA) : WW B X W (.BoolOp .Or [a] pos) tA := ⟨fun c g ρ σ H Q Z k r q z => semW_of (pw_or1 pt_sem) (h.run c g ρ σ H Q Z k r q z)⟩
theorem ww_and (h : WT B X W a tA) (hb : WW B X W (.BoolOp .And (b :: rest) pos) tB) : WW B X W (.BoolOp .And (a :: b :: rest) pos) (dAndT tA tB) := by
  refine ⟨fun c g ρ σ H Q Z k r q z => semW_of (pw_and pt_sem pw_sem) ?_⟩
  refine (h.run c g ρ σ H _ Z k r q z).mono fun v H1 ⟨c1, g1, s1, k1, q1⟩ => ?_
  cases v with
  | true => exact (hb.run c1 g1 ρ σ H1 Q Z k1 (r.mono s1.le) q1 (z.next s1)).mono fun v2 H2 ⟨c2, g2, s2, k2, q2⟩ => ⟨c2, g2, s1.trans s2, k2, q2⟩
  | false => exact ⟨c1, g1, s1, k1, q1⟩
theorem ww_or (h : WT B X W a tA) (hb : WW B X W (.BoolOp .Or (b :: rest) pos) tB) : WW B X W (.BoolOp .Or (a :: b :: rest) pos) (dOrT tA tB) := by
  refine ⟨fun c g ρ σ H Q Z k r q z => semW_of (pw_or pt_sem pw_sem) ?_⟩
  refine (h.run c g ρ σ H _ Z k r q z).mono fun v H1 ⟨c1, g1, s1, k1, q1⟩ => ?_
  cases v with
  | true => exact ⟨c1, g1, s1, k1, q1⟩
  | false => exact (hb.run c1 g1 ρ σ H1 Q Z k1 (r.mono s1.le) q1 (z.next s1)).mono fun v2 H2 ⟨c2, g2, s2, k2, q2⟩ => ⟨c2, g2, s1.trans s2, k2, q2⟩
theorem wt_not (h : WT B X W a tA) : WT B X W (.UnaryOp .Not a pos) (dNotT tA) :=
  ⟨fun c g ρ σ H Q Z k r q z => semT_of (pt_not pt_sem) ((h.run c g ρ σ H _ Z k r q z).mono fun _ _ q => q)⟩
/-- a value that is a bool, as a test -/
theorem wt_val (h : WE B X W e te) (he : ∀ whole, isTrue e X.env whole = (do let v ← whole; standAt e.pos; holding [v] (truthy v)) := by intro _; rfl) : WT B X W e (dTest te) :=
  ⟨fun c g ρ σ H Q Z k r q z => semT_of (pt_val pe_sem he) ((h.run c g ρ σ H _ Z k r q z).mono fun v H' ⟨c', g', d, s, k', rr, b', e', q'⟩ => by
    subst e'
    exact ⟨b', rr.blv, c', g', s, k', q'⟩)⟩
/-- .. as values -/
def dAnd (ta tb : DE) : DE := fun ρ g Q Z => ta ρ g (fun x g1 => ∃ k, x = .bl k ∧ if k = true then tb ρ g1 Q Z else Q (.bl false) g1) Z
def dOr (ta tb : DE) : DE := fun ρ g Q Z => ta ρ g (fun x g1 => ∃ k, x = .bl k ∧ if k = true then Q (.bl true) g1 else tb ρ g1 Q Z) Z
def dNot (ta : DE) : DE := fun ρ g Q Z => ta ρ g (fun x g1 => ∃ k, x = .bl k ∧ Q (.bl (!k)) g1) Z
def dIf (t : DT) (ta tb : DE) : DE := fun ρ g Q Z => t ρ g (fun k g1 => if k = true then ta ρ g1 Q Z else tb ρ g1 Q Z) Z
theorem we_one {op} (h : WE B X W a ta) : WE B X W (.BoolOp op [a] pos) ta := ⟨fun c g ρ σ H Q Z k r q z => sem_of (pe_one pe_sem) (h.run c g ρ σ H Q Z k r q z)⟩
theorem we_and (h : WE B X W a ta) (hb : WE B X W (.BoolOp .And (b :: rest) pos) tb) : WE B X W (.BoolOp .And (a :: b :: rest) pos) (dAnd ta tb) := by
  refine ⟨fun c g ρ σ H Q Z k r q z => sem_of (pe_and pe_sem pe_sem) ?_⟩
  refine (h.run c g ρ σ H _ Z k r q z).mono fun v H1 ⟨c1, g1, d, s1, k1, rr, b', e', q1⟩ => ?_
  subst e'
  refine ⟨b', rr.blv, ?_⟩
  cases b' with
  | true => exact (hb.run c1 g1 ρ σ H1 Q Z k1 (r.mono s1.le) q1 (z.next s1)).mono fun _ _ q => q.back s1
  | false => exact ⟨c1, g1, _, s1, k1, .bl false, q1⟩
theorem we_or (h : WE B X W a ta) (hb : WE B X W (.BoolOp .Or (b :: rest) pos) tb) : WE B X W (.BoolOp .Or (a :: b :: rest) pos) (dOr ta tb) := by
  refine ⟨fun c g ρ σ H Q Z k r q z => sem_of (pe_or pe_sem pe_sem) ?_⟩
  refine (h.run c g ρ σ H _ Z k r q z).mono fun v H1 ⟨c1, g1, d, s1, k1, rr, b', e', q1⟩ => ?_
  subst e'
  refine ⟨b', rr.blv, ?_⟩
  cases b' with
  | false => exact (hb.run c1 g1 ρ σ H1 Q Z k1 (r.mono s1.le) q1 (z.next s1)).mono fun _ _ q => q.back s1
  | true => exact ⟨c1, g1, _, s1, k1, .bl true, q1⟩
theorem we_not (h : WE B X W a ta) : WE B X W (.UnaryOp .Not a pos) (dNot ta) := by
  refine ⟨fun c g ρ σ H Q Z k r q z => sem_of (pe_not pe_sem) ?_⟩
  refine (h.run c g ρ σ H _ Z k r q z).mono fun v H1 ⟨c1, g1, d, s1, k1, rr, b', e', q1⟩ => ?_
  subst e'
  exact ⟨b', rr.blv, c1, g1, _, s1, k1, .bl _, q1⟩
theorem we_if {t : Expr} (ht : WT B X W t tA) (ha : WE B X W a ta) (hb : WE B X W b tb) : WE B X W (.IfExp t a b pos) (dIf tA ta tb) := by
  refine ⟨fun c g ρ σ H Q Z k r q z => sem_of (pe_ifExp pt_sem pe_sem pe_sem) ?_⟩
  refine (ht.run c g ρ σ H _ Z k r q z).mono fun v H1 ⟨c1, g1, s1, k1, q1⟩ => ?_
  cases v with
  | true => exact (ha.run c1 g1 ρ σ H1 Q Z k1 (r.mono s1.le) q1 (z.next s1)).mono fun _ _ q => q.back s1
  | false => exact (hb.run c1 g1 ρ σ H1 Q Z k1 (r.mono s1.le) q1 (z.next s1)).mono fun _ _ q => q.back s1
/-! ### arguments and displays -/
def dNil : DA := fun _ g Q _ => Q [] g
def dCons (ta : DE) (tr : DA) : DA := fun ρ g Q Z => ta ρ g (fun x g1 => tr ρ g1 (fun xs g2 => Q (x :: xs) g2) Z) Z
theorem wa_nil : WA B X W [] dNil := ⟨fun c g ρ σ H Q Z k r q z => semA_of pa_nil ⟨c, g, [], Grow.refl c H, k, .nil, rfl, q⟩⟩
theorem wa_cons (h : WE B X W e te) (hr : WA B X W es tr) (hs : starEach (e :: es) X.env = (false, eval e X.env) :: starEach es X.env := by rfl) : WA B X W (e :: es) (dCons te tr) := by
  refine ⟨fun c g ρ σ H Q Z k r q z => semA_of (pa_cons pe_sem pa_sem hs) ?_⟩
  refine (h.run c g ρ σ H _ Z k r q z).mono fun v H1 ⟨c1, g1, d, s1, k1, rr, q1⟩ => ?_
  refine (hr.run c1 g1 ρ σ H1 _ Z k1 (r.mono s1.le) q1 (z.next s1)).mono fun vs H2 ⟨c2, g2, ds, s2, k2, rs, hn, q2⟩ => ?_
  exact ⟨c2, g2, d :: ds, s1.trans s2, k2, .cons (rr.mono s2.le) rs, congrArg (· + 1) hn, q2⟩
def dTup (tr : DA) : DE := fun ρ g Q Z => tr ρ g (fun xs g1 => xs.length ≤ sizeLine ∧ Q (.tup xs) g1) Z
def dLst (tr : DA) : DE := fun ρ g Q Z => tr ρ g (fun xs g1 => xs.length ≤ sizeLine ∧ Q (.lst xs) g1) Z
theorem we_tup {x1} (h : WA B X W es tr) : WE B X W (.Tuple es x1 pos) (dTup tr) := by
  refine ⟨fun c g ρ σ H Q Z k r q z => sem_of (pe_tup pa_sem) ?_⟩
  refine (h.run c g ρ σ H _ Z k r q z).mono fun vs H1 ⟨c1, g1, ds, s1, k1, rs, _, hl, q1⟩ => ⟨by rw [rs.length]; exact hl, fun p hp => ?_⟩
  obtain ⟨s2, k2⟩ := k1.lay (o := .tup vs) hp
  exact ⟨_, g1, .tup ds, s1.trans s2, k2, .tup (SqT.of upd_same) (rs.mono s2.le), q1⟩
theorem we_lst (h : WA B X W es tr) : WE B X W (.List es pos) (dLst tr) := by
  refine ⟨fun c g ρ σ H Q Z k r q z => sem_of (pe_lst pa_sem) ?_⟩
  refine (h.run c g ρ σ H _ Z k r q z).mono fun vs H1 ⟨c1, g1, ds, s1, k1, rs, _, hl, q1⟩ => ⟨by rw [rs.length]; exact hl, fun p hp => ?_⟩
  obtain ⟨s2, k2⟩ := k1.lay (o := .lst vs) hp
  exact ⟨_, g1, .lst ds, s1.trans s2, k2, .lst upd_same (rs.mono s2.le), q1⟩
/-! ### built-ins -/
def GivesC (B : Tb) (K : PySem.W.Frag) (f : List D → Option D) (r : List V → Hp → VK → Prop) : Prop :=
  ∀ (c : Cn) (g : Gh) (H : Hp) (xs : List D) (z : D) (vs : List V) (Q : VK), Fine B K c g H → Reps B K c vs xs → f xs = some z →
    (∀ w c' H', Grow c H c' H' → Fine B K c' g H' → Rep B K c' w z → Q w H') → r vs H Q
def dFn (f : List D → Option D) (tr : DA) : DE := fun ρ g Q Z => tr ρ g (fun xs g1 => ∃ z, f xs = some z ∧ Q z g1) Z
section
variable {x : Str} {p : Pos} {id T : String} {r : List V → Hp → VK → Prop} {f : List D → Option D}
theorem we_callB (hc : CallR X (.builtin id) r) (hgv : GivesC B X.K f r) (hg : Gl X x) (hm : X.mg x = none) (hv : bootBuiltins x = some (.builtin id)) (ha : WA B X W (e :: es) tr) (hn : x ≠ "__name__" := by decide) (hdb : (x == ("__debug__" : Str)) = false := by decide)
    (he : starEach (e :: es) X.env = (false, eval e X.env) :: starEach es X.env := by rfl) (hpl : (backTo pos (starEach es X.env)).any (·.1) = false := by rfl) : WE B X W (.Call (.Name x p) (e :: es) [] pos) (dFn f tr) := by
  refine ⟨fun c g ρ σ H Q Z k rl q z => sem_of (pe_callB hc hg hm hv pa_sem hn hdb he hpl) ?_⟩
  refine (ha.run c g ρ σ H _ Z k rl q z).mono fun vs H1 ⟨c1, g1, ds, s1, k1, rs, _, w, ew, q1⟩ => ?_
  exact hgv c1 g1 H1 ds w vs _ k1 rs ew fun w' c' H' s2 k2 r2 => ⟨c', g1, w, s1.trans s2, k2, r2, q1⟩
theorem we_callTy (hc : CallR X (.type T) r) (hgv : GivesC B X.K f r) (hg : Gl X x) (hm : X.mg x = none) (hv : bootBuiltins x = some (.type T)) (ha : WA B X W (e :: es) tr) (hn : x ≠ "__name__" := by decide) (hdb : (x == ("__debug__" : Str)) = false := by decide)
    (he : starEach (e :: es) X.env = (false, eval e X.env) :: starEach es X.env := by rfl) (hpl : (backTo pos (starEach es X.env)).any (·.1) = false := by rfl) : WE B X W (.Call (.Name x p) (e :: es) [] pos) (dFn f tr) := by
  refine ⟨fun c g ρ σ H Q Z k rl q z => sem_of (pe_callTy hc hg hm hv pa_sem hn hdb he hpl) ?_⟩
  refine (ha.run c g ρ σ H _ Z k rl q z).mono fun vs H1 ⟨c1, g1, ds, s1, k1, rs, _, w, ew, q1⟩ => ?_
  exact hgv c1 g1 H1 ds w vs _ k1 rs ew fun w' c' H' s2 k2 r2 => ⟨c', g1, w, s1.trans s2, k2, r2, q1⟩
end
end
end DL

namespace DL
open PySem L2
/-! ### what the operations do on data -/
def small (i : Int) : Bool := decide (-(2 ^ 64) < i) && decide (i < 2 ^ 64)
def addD : D → D → Option D
  | .int i, .int j => some (.int (i + j))
  | .str x, .str y => if x.length + y.length ≤ sizeLine then some (.str (x ++ y)) else none
  | .lst xs, .lst ys => if xs.length + ys.length ≤ sizeLine then some (.lst (xs ++ ys)) else none
  | .tup xs, .tup ys => if xs.length + ys.length ≤ sizeLine then some (.tup (xs ++ ys)) else none
  | _, _ => none
def subD : D → D → Option D
  | .int i, .int j => some (.int (i - j))
  | _, _ => none
def mulD : D → D → Option D
  | .int i, .int j => if (small i || small j) = true then some (.int (i * j)) else none
  | .lst xs, .int k => if -(2 ^ 63) ≤ k ∧ k < 2 ^ 63 ∧ xs.length * k.toNat ≤ sizeLine then some (.lst (List.replicate k.toNat xs).flatten) else none
  | _, _ => none
def fdivD : D → D → Option D
  | .int i, .int j => if 0 < j ∧ j < 1073741824 then some (.int (i / j)) else none
  | _, _ => none
def modD : D → D → Option D
  | .int i, .int j => if 0 < j then some (.int (i % j)) else none
  | _, _ => none
def powD : D → D → Option D
  | .int i, .int j => if 0 ≤ j ∧ j ≤ 1000000 ∧ i.natAbs < 2 ^ 64 then some (.int (i ^ j.toNat)) else none
  | _, _ => none
def cmpD (p : Int → Int → Bool) : D → D → Option D
  | .int i, .int j => some (.bl (p i j))
  | _, _ => none
abbrev ltD := cmpD fun i j => decide (i < j)
abbrev leD := cmpD fun i j => decide (i ≤ j)
abbrev gtD := cmpD fun i j => decide (j < i)
abbrev geD := cmpD fun i j => decide (j ≤ i)

/-! ### data as the library has it -/
mutual
def D.py : D → Option PyData
  | .non => some .none
  | .bl b => some (.bool b)
  | .int i => some (.int i)
  | .str x => some (.str x)
  | .lst xs => match pys xs with | some l => some (.list l) | none => none
  | .tup xs => match pys xs with | some l => some (.tuple l) | none => none
  | _ => none
def pys : List D → Option (List PyData)
  | [] => some []
  | x :: xs => match x.py, pys xs with | some a, some l => some (a :: l) | _, _ => none
end
section
variable {B : Tb} {K : PySem.W.Frag} {c : Cn} {g : Gh} {H : Hp}
mutual
theorem Rep.dp (k : Ex c.F H) : ∀ {v : V} {d : D} {p : PyData}, Rep B K c v d → d.py = some p → Dp K H v p
  | _, _, _, .non, e => by simp only [D.py, Option.some.injEq] at e; subst e; exact .non
  | _, _, _, .bl b, e => by simp only [D.py, Option.some.injEq] at e; subst e; exact .bl b
  | _, _, _, .int b, e => by simp only [D.py, Option.some.injEq] at e; subst e; exact .int b
  | _, _, _, .str b, e => by simp only [D.py, Option.some.injEq] at e; subst e; exact .str b
  | _, .lst ds, _, .lst h r, e => by
    unfold D.py at e
    split at e
    · rename_i l hl
      simp only [Option.some.injEq] at e; subst e
      exact .lst (SqL.of (k _ _ h)) (Reps.dp k r hl)
    · cases e
  | _, .tup ds, _, .tup h r, e => by
    unfold D.py at e
    split at e
    · rename_i l hl
      simp only [Option.some.injEq] at e; subst e
      exact .tup (Evl.ex_t k h) (Reps.dp k r hl)
    · cases e
  | _, _, _, .dct _ _, e => by simp [D.py] at e
  | _, _, _, .obj _ _, e => by simp [D.py] at e
  | _, _, _, .exc _ _ _, e => by simp [D.py] at e
  | _, _, _, .exc0 _, e => by simp [D.py] at e
  | _, _, _, .loc _, e => by simp [D.py] at e
  | _, _, _, .pen _, e => by simp [D.py] at e
  | _, _, _, .scr _, e => by simp [D.py] at e
theorem Reps.dp (k : Ex c.F H) : ∀ {vs : List V} {ds : List D} {ps : List PyData}, Reps B K c vs ds → pys ds = some ps → DpAll K H vs ps
  | _, _, _, .nil, e => by simp only [pys, Option.some.injEq] at e; subst e; exact .nil
  | _, .cons d ds, _, .cons h r, e => by
    unfold pys at e
    split at e
    · rename_i a l ha hl
      simp only [Option.some.injEq] at e; subst e
      exact .cons (Rep.dp k h ha) (Reps.dp k r hl)
    · cases e
end
end
def eqD (neg : Bool) (x y : D) : Option D := match x.py, y.py with
  | some p, some q => if (SeqAt.shaped p && SeqAt.shaped q) = true then some (.bl (if neg then !PyData.eqv p q else PyData.eqv p q)) else none
  | _, _ => none
/-- x in ys -/
def inD (neg : Bool) (x y : D) : Option D := match x.py, y.py with
  | some p, some (.list qs) => if (SeqAt.shaped p && SeqAt.shaped (.list qs)) = true then some (.bl (if neg then !(qs.any fun z => PyData.eqv z p) else (qs.any fun z => PyData.eqv z p))) else none
  | _, _ => none
/-- is None -/
def isND (neg : Bool) (x y : D) : Option D := match y with
  | .non => some (.bl (match x with | .non => !neg | _ => neg))
  | _ => none
section
variable {B : Tb} {X : Cx}
theorem done {c : Cn} {g : Gh} {H : Hp} {v : V} {z : D} {Q : VK} (k : Fine B X.K c g H) (r : Rep B X.K c v z) (q : ∀ w c' H', Grow c H c' H' → Fine B X.K c' g H' → Rep B X.K c' w z → Q w H') : Q v H := q v c H (Grow.refl c H) k r
theorem gv_int {f : D → D → Option D} {g0 : Int → Int → V} {gd : Int → Int → D} (hf : ∀ x y z, f x y = some z → ∃ i j, x = .int i ∧ y = .int j ∧ z = gd i j) (hr : ∀ c i j, Rep B X.K c (g0 i j) (gd i j)) : Gives B X.K f (rI0 g0) := by
  intro c g H x y z v u Q k r1 r2 e q
  obtain ⟨i, j, rfl, rfl, rfl⟩ := hf x y z e
  cases r1; cases r2
  exact ⟨i, j, rfl, rfl, done k (hr c i j) q⟩
theorem gv_intC {f : D → D → Option D} {C : Int → Int → Prop} {g0 : Int → Int → V} {gd : Int → Int → D} (hf : ∀ x y z, f x y = some z → ∃ i j, x = .int i ∧ y = .int j ∧ C i j ∧ z = gd i j) (hr : ∀ c i j, Rep B X.K c (g0 i j) (gd i j)) : Gives B X.K f (rI C g0) := by
  intro c g H x y z v u Q k r1 r2 e q
  obtain ⟨i, j, rfl, rfl, hc, rfl⟩ := hf x y z e
  cases r1; cases r2
  exact ⟨i, j, rfl, rfl, hc, done k (hr c i j) q⟩
theorem gv_sub : Gives B X.K subD (rI0 fun i j => .int (i - j)) := gv_int (gd := fun i j => .int (i - j)) (fun x y z e => by
  unfold subD at e
  split at e
  · simp only [Option.some.injEq] at e; exact ⟨_, _, rfl, rfl, e.symm⟩
  · cases e) fun _ _ _ => .int _
theorem gv_cmp {p : Int → Int → Bool} : Gives B X.K (cmpD p) (rI0 fun i j => .bl (p i j)) := gv_int (gd := fun i j => .bl (p i j)) (fun x y z e => by
  unfold cmpD at e
  split at e
  · simp only [Option.some.injEq] at e; exact ⟨_, _, rfl, rfl, e.symm⟩
  · cases e) fun _ _ _ => .bl _
theorem gv_fdiv : Gives B X.K fdivD (rI CDiv fun i j => .int (i / j)) := gv_intC (gd := fun i j => .int (i / j)) (fun x y z e => by
  unfold fdivD at e
  split at e
  · split at e
    · rename_i h
      simp only [Option.some.injEq] at e; exact ⟨_, _, rfl, rfl, h, e.symm⟩
    · cases e
  · cases e) fun _ _ _ => .int _
theorem gv_mod : Gives B X.K modD (rI (fun _ j => 0 < j) fun i j => .int (i % j)) := gv_intC (gd := fun i j => .int (i % j)) (fun x y z e => by
  unfold modD at e
  split at e
  · split at e
    · rename_i h
      simp only [Option.some.injEq] at e; exact ⟨_, _, rfl, rfl, h, e.symm⟩
    · cases e
  · cases e) fun _ _ _ => .int _
theorem gv_pow : Gives B X.K powD (rI CPow fun i j => .int (i ^ j.toNat)) := gv_intC (gd := fun i j => .int (i ^ j.toNat)) (fun x y z e => by
  unfold powD at e
  split at e
  · split at e
    · rename_i h
      simp only [Option.some.injEq] at e; exact ⟨_, _, rfl, rfl, h, e.symm⟩
    · cases e
  · cases e) fun _ _ _ => .int _
theorem small_ok {i : Int} (h : small i = true) : -(2 ^ 64) < i ∧ i < 2 ^ 64 := by
  unfold small at h
  rw [Bool.and_eq_true, decide_eq_true_eq, decide_eq_true_eq] at h
  exact h
/-- the sum of what can be added -/
def rAddAll (K : PySem.W.Frag) : R2 := fun x y H Q => (rI0 (fun i j => .int (i + j)) x y H Q ∨ (∃ i j, x = .str i ∧ y = .str j ∧ i.length + j.length ≤ sizeLine ∧ Q (.str (i ++ j)) H)) ∨ (rCat x y H Q ∨ rCatA K x y H Q)
theorem op_addAll : OpR X (binaryOp .Add) (rAddAll X.K) := (op_add.or op_add_str).or (op_cat.or op_catA)
theorem gv_add : Gives B X.K addD (rAddAll X.K) := by
  intro c g H x y z v u Q k r1 r2 e q
  unfold addD at e
  split at e
  · simp only [Option.some.injEq] at e; subst e
    cases r1; cases r2
    exact .inl (.inl ⟨_, _, rfl, rfl, done k (.int _) q⟩)
  · split at e
    · rename_i h
      simp only [Option.some.injEq] at e; subst e
      cases r1; cases r2
      exact .inl (.inr ⟨_, _, rfl, rfl, h, done k (.str _) q⟩)
    · cases e
  · split at e
    · rename_i h
      simp only [Option.some.injEq] at e; subst e
      cases r1 with
      | lst h1 s1 =>
        cases r2 with
        | lst h2 s2 =>
          refine .inr (.inl ⟨_, _, _, _, rfl, rfl, k.sub _ _ h1, k.sub _ _ h2, by rw [s1.length, s2.length]; exact h, fun p hp => ?_⟩)
          obtain ⟨s3, k3⟩ := k.lay hp
          exact q _ _ _ s3 k3 (.lst upd_same ((s1.append s2).mono s3.le))
    · cases e
  · split at e
    · rename_i h
      simp only [Option.some.injEq] at e; subst e
      cases r1 with
      | tup h1 s1 =>
        cases r2 with
        | tup h2 s2 =>
          refine .inr (.inr ⟨_, _, _, _, rfl, rfl, Evl.ex_t k.sub h1, Evl.ex_t k.sub h2, by rw [s1.length, s2.length]; exact h, ?_⟩)
          have nil1 : ∀ {vs ds}, Reps B X.K c vs ds → vs = [] → ds = [] := fun r e => by subst e; cases r; rfl
          refine ⟨fun e1 => ?_, fun _ e1 => ?_, fun _ _ p hp => ?_⟩
          · have e0 := nil1 s1 e1
            subst e0
            exact done k (.tup h2 s2) q
          · have e0 := nil1 s2 e1
            subst e0
            rw [List.append_nil] at q
            exact done k (.tup h1 s1) q
          · obtain ⟨s3, k3⟩ := k.lay hp
            exact q _ _ _ s3 k3 (.tup (SqT.of upd_same) ((s1.append s2).mono s3.le))
    · cases e
  · cases e
theorem Reps.flat {K : PySem.W.Frag} {c : Cn} {vs : List V} {ds : List D} (r : Reps B K c vs ds) : ∀ n : Nat, Reps B K c (List.replicate n vs).flatten (List.replicate n ds).flatten
  | 0 => .nil
  | n + 1 => by
    rw [List.replicate_succ, List.replicate_succ, List.flatten_cons, List.flatten_cons]
    exact r.append (Reps.flat r n)
def rMulAll : R2 := fun x y H Q => rI CMul (fun i j => .int (i * j)) x y H Q ∨ rRep x y H Q
theorem op_mulAll : OpR X (binaryOp .Mult) rMulAll := op_mul.or op_rep
theorem gv_mul : Gives B X.K mulD rMulAll := by
  intro c g H x y z v u Q k r1 r2 e q
  unfold mulD at e
  split at e
  · split at e
    · rename_i h
      simp only [Option.some.injEq] at e; subst e
      cases r1; cases r2
      refine .inl ⟨_, _, rfl, rfl, ?_, done k (.int _) q⟩
      rcases Bool.or_eq_true_iff.mp h with h | h
      · exact .inl (small_ok h)
      · exact .inr (small_ok h)
    · cases e
  · split at e
    · rename_i h
      simp only [Option.some.injEq] at e; subst e
      cases r1 with
      | lst h1 s1 =>
        cases r2
        refine .inr ⟨_, _, _, rfl, rfl, k.sub _ _ h1, h.1, h.2.1, by rw [s1.length]; exact h.2.2, fun p hp => ?_⟩
        obtain ⟨s3, k3⟩ := k.lay hp
        exact q _ _ _ s3 k3 (.lst upd_same ((s1.flat _).mono s3.le))
    · cases e
  · cases e
theorem gv_eq : Gives B X.K (eqD false) (rEqD X.K) := by
  intro c g H x y z v u Q k r1 r2 e q
  unfold eqD at e
  split at e
  · rename_i p p' h1 h2
    split at e
    · rename_i h
      simp only [Option.some.injEq] at e; subst e
      obtain ⟨ha, hb⟩ := Bool.and_eq_true_iff.mp h
      exact ⟨p, p', r1.dp k.sub h1, r2.dp k.sub h2, ha, hb, done k (.bl _) q⟩
    · cases e
  · cases e
theorem gv_ne : Gives B X.K (eqD true) (rNeD X.K) := by
  intro c g H x y z v u Q k r1 r2 e q
  unfold eqD at e
  split at e
  · rename_i p p' h1 h2
    split at e
    · rename_i h
      simp only [Option.some.injEq] at e; subst e
      obtain ⟨ha, hb⟩ := Bool.and_eq_true_iff.mp h
      exact ⟨p, p', r1.dp k.sub h1, r2.dp k.sub h2, ha, hb, done k (.bl _) q⟩
    · cases e
  · cases e
theorem gv_in : Gives B X.K (inD false) (rInD X.K) := by
  intro c g H x y z v u Q k r1 r2 e q
  unfold inD at e
  split at e
  · rename_i p p' h1 h2
    split at e
    · rename_i h
      simp only [Option.some.injEq] at e; subst e
      obtain ⟨ha, hb⟩ := Bool.and_eq_true_iff.mp h
      exact ⟨p, p', r1.dp k.sub h1, r2.dp k.sub h2, ha, hb, done k (.bl _) q⟩
    · cases e
  · cases e
theorem gv_notin : Gives B X.K (inD true) (rNotInD X.K) := by
  intro c g H x y z v u Q k r1 r2 e q
  unfold inD at e
  split at e
  · rename_i p p' h1 h2
    split at e
    · rename_i h
      simp only [Option.some.injEq] at e; subst e
      obtain ⟨ha, hb⟩ := Bool.and_eq_true_iff.mp h
      exact ⟨p, p', r1.dp k.sub h1, r2.dp k.sub h2, ha, hb, done k (.bl _) q⟩
    · cases e
  · cases e
theorem rep_non {K : PySem.W.Frag} {c : Cn} {v : V} {x : D} (r : Rep B K c v x) : decide (v = V.non) = (match x with | .non => true | _ => false) := by
  cases r <;> simp
theorem gv_is : Gives B X.K (isND false) (fun x y H Q => y = .non ∧ Q (.bl (decide (x = .non))) H) := by
  intro c g H x y z v u Q k r1 r2 e q
  unfold isND at e
  split at e
  · simp only [Option.some.injEq] at e; subst e
    cases r2
    refine ⟨rfl, done k ?_ q⟩
    rw [rep_non r1]
    cases x <;> exact .bl _
  · cases e
theorem gv_isnot : Gives B X.K (isND true) (fun x y H Q => y = .non ∧ Q (.bl (!decide (x = .non))) H) := by
  intro c g H x y z v u Q k r1 r2 e q
  unfold isND at e
  split at e
  · simp only [Option.some.injEq] at e; subst e
    cases r2
    refine ⟨rfl, done k ?_ q⟩
    rw [rep_non r1]
    cases x <;> exact .bl _
  · cases e
/-! ### built-ins -/
def lenD : List D → Option D
  | [.str x] => if x.length ≤ sizeLine then some (.int x.length) else none
  | [.lst xs] => some (.int xs.length)
  | [.tup xs] => some (.int xs.length)
  | _ => none
theorem gv_len : GivesC B X.K lenD (fun xs H Q => ∃ x n, xs = [x] ∧ LenV X.K x H n ∧ Q (.int n) H) := by
  intro c g H xs z vs Q k r e q
  unfold lenD at e
  split at e
  · split at e
    · rename_i h
      simp only [Option.some.injEq] at e; subst e
      cases r with
      | cons r1 r2 => cases r1; cases r2; exact ⟨_, _, rfl, ⟨h, rfl⟩, done k (.int _) q⟩
    · cases e
  · simp only [Option.some.injEq] at e; subst e
    cases r with
    | cons r1 r2 =>
      cases r2
      cases r1 with
      | lst h1 s1 => exact ⟨_, _, rfl, .inl ⟨_, SqL.of (k.sub _ _ h1), rfl⟩, by rw [s1.length]; exact done k (.int _) q⟩
  · simp only [Option.some.injEq] at e; subst e
    cases r with
    | cons r1 r2 =>
      cases r2
      cases r1 with
      | tup h1 s1 => exact ⟨_, _, rfl, .inr ⟨_, Evl.ex_t k.sub h1, rfl⟩, by rw [s1.length]; exact done k (.int _) q⟩
  · cases e
def intD : List D → Option D
  | [.int i] => some (.int i)
  | [.bl b] => some (.int (if b then 1 else 0))
  | _ => none
theorem gv_int1 : GivesC B X.K intD (fun xs H Q => (∃ i, xs = [.int i] ∧ Q (.int i) H) ∨ ∃ k, xs = [.bl k] ∧ Q (.int (if k then 1 else 0)) H) := by
  intro c g H xs z vs Q k r e q
  unfold intD at e
  split at e
  · simp only [Option.some.injEq] at e; subst e
    cases r with
    | cons r1 r2 => cases r1; cases r2; exact .inl ⟨_, rfl, done k (.int _) q⟩
  · simp only [Option.some.injEq] at e; subst e
    cases r with
    | cons r1 r2 => cases r1; cases r2; exact .inr ⟨_, rfl, done k (.int _) q⟩
  · cases e
def absD : List D → Option D
  | [.int i] => some (.int (if i < 0 then -i else i))
  | _ => none
theorem gv_abs : GivesC B X.K absD (fun xs H Q => ∃ i, xs = [.int i] ∧ Q (.int (if i < 0 then -i else i)) H) := by
  intro c g H xs z vs Q k r e q
  unfold absD at e
  split at e
  · simp only [Option.some.injEq] at e; subst e
    cases r with
    | cons r1 r2 => cases r1; cases r2; exact ⟨_, rfl, done k (.int _) q⟩
  · cases e
def min2D : List D → Option D
  | [.int i, .int j] => some (.int (if j < i then j else i))
  | _ => none
theorem gv_min2 : GivesC B X.K min2D (fun xs H Q => ∃ i j, xs = [.int i, .int j] ∧ Q (.int (if j < i then j else i)) H) := by
  intro c g H xs z vs Q k r e q
  unfold min2D at e
  split at e
  · simp only [Option.some.injEq] at e; subst e
    cases r with
    | cons r1 r2 => cases r2 with
      | cons r2 r3 => cases r1; cases r2; cases r3; exact ⟨_, _, rfl, done k (.int _) q⟩
  · cases e
def max2D : List D → Option D
  | [.int i, .int j] => some (.int (if j > i then j else i))
  | _ => none
theorem gv_max2 : GivesC B X.K max2D (fun xs H Q => ∃ i j, xs = [.int i, .int j] ∧ Q (.int (if j > i then j else i)) H) := by
  intro c g H xs z vs Q k r e q
  unfold max2D at e
  split at e
  · simp only [Option.some.injEq] at e; subst e
    cases r with
    | cons r1 r2 => cases r2 with
      | cons r2 r3 => cases r1; cases r2; cases r3; exact ⟨_, _, rfl, done k (.int _) q⟩
  · cases e
def listD : List D → Option D
  | [.lst xs] => some (.lst xs)
  | [.tup xs] => some (.lst xs)
  | _ => none
theorem gv_list : GivesC B X.K listD (fun xs H Q => ∃ p ys, xs = [.ref p] ∧ (SqL X.K H p ys ∨ SqT X.K H p ys) ∧ ∀ l, H l = none → Q (.ref l) (upd H l (.lst ys))) := by
  intro c g H xs z vs Q k r e q
  unfold listD at e
  split at e
  · simp only [Option.some.injEq] at e; subst e
    cases r with
    | cons r1 r2 =>
      cases r2
      cases r1 with
      | lst h1 s1 =>
        refine ⟨_, _, rfl, .inl (SqL.of (k.sub _ _ h1)), fun p hp => ?_⟩
        obtain ⟨s3, k3⟩ := k.lay hp
        exact q _ _ _ s3 k3 (.lst upd_same (s1.mono s3.le))
  · simp only [Option.some.injEq] at e; subst e
    cases r with
    | cons r1 r2 =>
      cases r2
      cases r1 with
      | tup h1 s1 =>
        refine ⟨_, _, rfl, .inr (Evl.ex_t k.sub h1), fun p hp => ?_⟩
        obtain ⟨s3, k3⟩ := k.lay hp
        exact q _ _ _ s3 k3 (.lst upd_same (s1.mono s3.le))
  · cases e
def tupleD : List D → Option D
  | [.lst xs] => some (.tup xs)
  | [.tup xs] => some (.tup xs)
  | _ => none
theorem gv_tuple : GivesC B X.K tupleD (fun xs H Q => ∃ p ys, xs = [.ref p] ∧ ((SqL X.K H p ys ∧ ∀ l, H l = none → Q (.ref l) (upd H l (.tup ys))) ∨ (SqT X.K H p ys ∧ Q (.ref p) H))) := by
  intro c g H xs z vs Q k r e q
  unfold tupleD at e
  split at e
  · simp only [Option.some.injEq] at e; subst e
    cases r with
    | cons r1 r2 =>
      cases r2
      cases r1 with
      | lst h1 s1 =>
        refine ⟨_, _, rfl, .inl ⟨SqL.of (k.sub _ _ h1), fun p hp => ?_⟩⟩
        obtain ⟨s3, k3⟩ := k.lay hp
        exact q _ _ _ s3 k3 (.tup (SqT.of upd_same) (s1.mono s3.le))
  · simp only [Option.some.injEq] at e; subst e
    cases r with
    | cons r1 r2 =>
      cases r2
      cases r1 with
      | tup h1 s1 => exact ⟨_, _, rfl, .inr ⟨Evl.ex_t k.sub h1, done k (.tup h1 s1) q⟩⟩
  · cases e
/-- bools -/
def bools : List D → Option (List Bool)
  | [] => some []
  | .bl b :: r => match bools r with | some l => some (b :: l) | none => none
  | _ => none
theorem Reps.bools {K : PySem.W.Frag} {c : Cn} : ∀ {vs : List V} {ds : List D} {bs : List Bool}, Reps B K c vs ds → bools ds = some bs → vs = bs.map V.bl
  | _, _, _, .nil, e => by simp only [DL.bools, Option.some.injEq] at e; subst e; rfl
  | _, .cons d ds, _, .cons h r, e => by
    cases d with
    | bl b =>
      simp only [DL.bools] at e
      split at e
      · rename_i l hl
        simp only [Option.some.injEq] at e; subst e
        cases h
        rw [Reps.bools r hl]; rfl
      · cases e
    | _ => simp [DL.bools] at e
def allD : List D → Option D
  | [.lst xs] => (bools xs).map fun bs => .bl (bs.all id)
  | _ => none
def anyD : List D → Option D
  | [.lst xs] => (bools xs).map fun bs => .bl (bs.any id)
  | _ => none
theorem gv_all : GivesC B X.K allD (rAll X.K) := by
  intro c g H xs z vs Q k r e q
  unfold allD at e
  split at e
  · rw [Option.map_eq_some_iff] at e
    obtain ⟨bs, hb, e⟩ := e
    subst e
    cases r with
    | cons r1 r2 =>
      cases r2
      cases r1 with
      | lst h1 s1 => exact ⟨_, bs, rfl, by rw [← s1.bools hb]; exact SqL.of (k.sub _ _ h1), done k (.bl _) q⟩
  · cases e
theorem gv_any : GivesC B X.K anyD (rAny X.K) := by
  intro c g H xs z vs Q k r e q
  unfold anyD at e
  split at e
  · rw [Option.map_eq_some_iff] at e
    obtain ⟨bs, hb, e⟩ := e
    subst e
    cases r with
    | cons r1 r2 =>
      cases r2
      cases r1 with
      | lst h1 s1 => exact ⟨_, bs, rfl, by rw [← s1.bools hb]; exact SqL.of (k.sub _ _ h1), done k (.bl _) q⟩
  · cases e
end
end DL

namespace DL
open PySem L2
/-! ### subscripts -/
def cutL {α : Type} (xs : List α) (lo hi : Option Int) : List α := (xs.drop (HT.sIx xs.length 0 lo)).take (HT.sIx xs.length xs.length hi - HT.sIx xs.length 0 lo)
def ixD : D → D → Option D
  | .lst xs, .int i => atI xs i
  | .tup xs, .int i => atI xs i
  | .str z, .int i => if z.length ≤ sizeLine then (atI z.cps.toList i).map fun c => .str ⟨#[c]⟩ else none
  | _, _ => none
section
variable {B : Tb} {X : Cx} {W : WX} {a b e : Expr} {ta tb te : DE} {pos : Pos}
theorem Reps.at {K : PySem.W.Frag} {c : Cn} {vs : List V} {ds : List D} {i : Int} {d : D} (r : Reps B K c vs ds) (h : atI ds i = some d) : ∃ v, atI vs i = some v ∧ Rep B K c v d := by
  unfold atI at h ⊢
  rw [r.length]
  cases e : ixN ds.length i with
  | none => rw [e] at h; cases h
  | some j =>
    rw [e] at h
    exact r.getD h
theorem gv_ix : Gives B X.K ixD (rIx X.K) := by
  intro c g H x y z v u Q k r1 r2 e q
  unfold ixD at e
  split at e
  · cases r2
    cases r1 with
    | lst h1 s1 =>
      obtain ⟨w, e1, rw1⟩ := s1.at e
      exact .inl ⟨_, _, _, w, rfl, rfl, SqL.of (k.sub _ _ h1), e1, done k rw1 q⟩
  · cases r2
    cases r1 with
    | tup h1 s1 =>
      obtain ⟨w, e1, rw1⟩ := s1.at e
      exact .inr (.inl ⟨_, _, _, w, rfl, rfl, Evl.ex_t k.sub h1, e1, done k rw1 q⟩)
  · cases r2; cases r1
    split at e
    · rename_i hl
      rw [Option.map_eq_some_iff] at e
      obtain ⟨cp, e1, e2⟩ := e
      subst e2
      exact .inr (.inr ⟨_, _, cp, rfl, rfl, hl, e1, done k (.str _) q⟩)
    · cases e
  · cases e
theorem we_ix (ha : WE B X W a ta) (hb : WE B X W b tb) (hs : PlainIx b) : WE B X W (.Subscript a b pos) (dOp ixD ta tb) := by
  refine ⟨fun c g ρ σ H Q Z k rl h z => sem_of (pe_ix ix_seq pe_sem pe_sem hs) ?_⟩
  refine two ha hb k rl h z fun x y v u c2 g2 H2 s2 k2 r1 r2 ⟨w, e, q⟩ => ?_
  exact gv_ix c2 g2 H2 x y w v u _ k2 r1 r2 e fun w' c' H' s3 k3 r3 => ⟨c', g2, w, s2.trans s3, k3, r3, q⟩
/-- a dict's item -/
def keyD : D → Option Key
  | .int i => some (.inl i)
  | .str x => some (.inr x)
  | _ => none
def valD (kvs : List (Key × D)) (k : Key) : Option D := (kvs.find? fun kv => decide (kv.1 = k)).map (·.2)
theorem RepK.val {K : PySem.W.Frag} {c : Cn} {k : Key} : ∀ {kvs : List (Key × V)} {ds : List (Key × D)}, RepK B K c kvs ds → (∀ d, valD ds k = some d → ∃ v, valV kvs k = some v ∧ Rep B K c v d) ∧ (valD ds k = none → valV kvs k = none)
  | _, _, .nil => ⟨fun d h => (by cases h), fun _ => rfl⟩
  | _, _, .cons (k := k') (v := v) (d := d) (vs := vs) (ds := ds) r t => by
    obtain ⟨ih1, ih2⟩ := RepK.val (k := k) t
    by_cases e : k' = k
    · subst e
      have e1 : valD ((k', d) :: ds) k' = some d := by simp [valD]
      have e2 : valV ((k', v) :: vs) k' = some v := by simp [valV]
      rw [e1, e2]
      exact ⟨fun d' h => by cases h; exact ⟨v, rfl, r⟩, fun h => by cases h⟩
    · have e1 : valD ((k', d) :: ds) k = valD ds k := by simp [valD, e]
      have e2 : valV ((k', v) :: vs) k = valV vs k := by simp [valV, e]
      rw [e1, e2]
      exact ⟨ih1, ih2⟩
theorem rep_key {K : PySem.W.Frag} {c : Cn} {v : V} {d : D} {k : Key} (r : Rep B K c v d) (h : keyD d = some k) : v = kV k := by
  cases d <;> simp only [keyD, Option.some.injEq] at h <;> first
    | (subst h; cases r; rfl)
    | cases h
def dgetD : D → D → Option D
  | .dct kvs, y => (keyD y).bind fun k => valD kvs k
  | _, _ => none
theorem we_dget (hu : X.A.units + 1 < cLine) (ha : WE B X W a ta) (hb : WE B X W b tb) (hs : NoSl b) : WE B X W (.Subscript a b pos) (dOp dgetD ta tb) := by
  refine ⟨fun c g ρ σ H Q Z k rl h z => sem_of (pe_dget hu pe_sem pe_sem hs) ?_⟩
  refine two ha hb k rl h z fun x y v u c2 g2 H2 s2 k2 r1 r2 ⟨w, e, q⟩ => ?_
  unfold dgetD at e
  split at e
  · rename_i kvs
    cases r1 with
    | dct h1 s1 =>
      rw [Option.bind_eq_some_iff] at e
      obtain ⟨kk, e1, e2⟩ := e
      obtain ⟨w', e3, r3⟩ := s1.val.1 w e2
      refine ⟨_, w', rfl, ?_, ⟨c2, g2, w, s2, k2, r3, q⟩⟩
      rw [rep_key r2 e1, ← e3]
      exact DGet.k (k2.sub _ _ h1)
  · cases e
/-- k in d -/
def dinD (neg : Bool) : D → D → Option D
  | x, .dct kvs => (keyD x).map fun k => .bl (if neg then !(valD kvs k).isSome else (valD kvs k).isSome)
  | _, _ => none
theorem din_core {neg : Bool} {c2 : Cn} {g2 : Gh} {H2 : Hp} {x y w : D} {v u : V} (k2 : Fine B X.K c2 g2 H2) (r1 : Rep B X.K c2 v x) (r2 : Rep B X.K c2 u y) (e : dinD neg x y = some w) :
    ∃ aa o, u = .ref aa ∧ DGet H2 aa v o ∧ w = .bl (if neg then !o.isSome else o.isSome) := by
  unfold dinD at e
  split at e
  · rename_i kvs
    cases r2 with
    | dct h1 s1 =>
      rw [Option.map_eq_some_iff] at e
      obtain ⟨kk, e1, e2⟩ := e
      have q := s1.val (k := kk)
      refine ⟨_, _, rfl, by rw [rep_key r1 e1]; exact DGet.k (k2.sub _ _ h1), ?_⟩
      subst e2
      cases hv : valD kvs kk with
      | none => rw [q.2 hv]; rfl
      | some d => obtain ⟨v', e3, _⟩ := q.1 d hv; rw [e3]; rfl
  · cases e
theorem wt_din (hu : X.A.units + 1 < cLine) (ha : WE B X W a ta) (hb : WE B X W b tb) (hm : behindInMarks .In b = false) : WT B X W (.Compare a [.In] [b] pos) (dTest (dOp (dinD false) ta tb)) := by
  refine ⟨fun c g ρ σ H Q Z k rl h z => semT_of (pt_cmp (pc_din hu pe_sem pe_sem) hm) ?_⟩
  refine two ha hb k rl h z fun x y v u c2 g2 H2 s2 k2 r1 r2 ⟨w, e, b', eb, q⟩ => ?_
  obtain ⟨aa, o, e1, e2, e3⟩ := din_core k2 r1 r2 e
  subst eb
  cases e3
  exact ⟨aa, o, e1, e2, _, rfl, c2, g2, s2, k2, q⟩
theorem wt_dnotin (hu : X.A.units + 1 < cLine) (ha : WE B X W a ta) (hb : WE B X W b tb) (hm : behindInMarks .NotIn b = false) : WT B X W (.Compare a [.NotIn] [b] pos) (dTest (dOp (dinD true) ta tb)) := by
  refine ⟨fun c g ρ σ H Q Z k rl h z => semT_of (pt_cmp (pc_dnotin hu pe_sem pe_sem) hm) ?_⟩
  refine two ha hb k rl h z fun x y v u c2 g2 H2 s2 k2 r1 r2 ⟨w, e, b', eb, q⟩ => ?_
  obtain ⟨aa, o, e1, e2, e3⟩ := din_core k2 r1 r2 e
  subst eb
  cases e3
  exact ⟨aa, o, e1, e2, _, rfl, c2, g2, s2, k2, q⟩
/-! ### slices -/
abbrev DO := DEnv → Gh → (Option Int → Gh → Prop) → DZ → Prop
def semO (X : Cx) (o : Option Expr) : TO := fun σ H Q => ∀ pins s, Inv X pins σ H s → wpAny (model X.prog X.w) X.A (evalPart o X.env) (fun u s' => ∃ o H', Inv X pins σ H' s' ∧ IsPart u o ∧ Q o H') X.xe s
theorem po_sem {o : Option Expr} : PO X o (semO X o) := ⟨fun pins s _ _ _ I h => h pins s I⟩
theorem semO_of {o : Option Expr} {t : TO} (h : PO X o t) {σ : L2.St} {H : Hp} {Q : Option Int → Hp → Prop} (q : t σ H Q) : semO X o σ H Q := fun pins s I => h.run pins s σ H Q I q
theorem semO.mono {o : Option Expr} {σ : L2.St} {H : Hp} {Q Q' : Option Int → Hp → Prop} (h : semO X o σ H Q) (k : ∀ v H', Q v H' → Q' v H') : semO X o σ H Q' := fun pins s I =>
  thn (h pins s I) fun _ _ ⟨v, H', I', r, q⟩ => ⟨v, H', I', r, k v H' q⟩
structure WO (B : Tb) (X : Cx) (W : WX) (o : Option Expr) (t : DO) : Prop where
  run : ∀ (c : Cn) (g : Gh) (ρ : DEnv) (σ : L2.St) (H : Hp) (Q : Option Int → Gh → Prop) (Z : DZ), Fine B X.K c g H → RelP B X.K c ρ σ → t ρ g Q Z → ZOk B X.K c H σ W Z →
    semO X o σ H fun i H' => ∃ c' g', Grow c H c' H' ∧ Fine B X.K c' g' H' ∧ Q i g'
def dNoPart : DO := fun _ g Q _ => Q none g
def dPart (t : DE) : DO := fun ρ g Q Z => t ρ g (fun x g1 => ∃ i, x = .int i ∧ Q (some i) g1) Z
theorem wo_none : WO B X W none dNoPart := ⟨fun c g ρ σ H Q Z k r q z => semO_of po_none ⟨c, g, Grow.refl c H, k, q⟩⟩
theorem wo_some (h : WE B X W e te) : WO B X W (some e) (dPart te) := by
  refine ⟨fun c g ρ σ H Q Z k r q z => semO_of (po_some pe_sem) ?_⟩
  refine (h.run c g ρ σ H _ Z k r q z).mono fun v H' ⟨c', g', d, s, k', rr, i, e', q'⟩ => ?_
  subst e'
  exact ⟨i, rr.intv, c', g', s, k', q'⟩
def slD (x : D) (lo hi : Option Int) : Option D := match x with
  | .lst xs => some (.lst (cutL xs lo hi))
  | .tup xs => some (.tup (cutL xs lo hi))
  | .str z => if z.length ≤ sizeLine then some (.str (cutS z lo hi)) else none
  | .scr ns => some (.lst (cutL (ns.map D.int) lo hi))
  | _ => none
theorem reps_ints {K : PySem.W.Frag} {c : Cn} : ∀ ns : List Int, Reps B K c (ns.map V.int) (ns.map D.int)
  | [] => .nil
  | n :: ns => .cons (.int n) (reps_ints ns)
def dSl (te : DE) (tl th : DO) : DE := fun ρ g Q Z => te ρ g (fun x g1 => tl ρ g1 (fun lo g2 => th ρ g2 (fun hi g3 => ∃ z, slD x lo hi = some z ∧ Q z g3) Z) Z) Z
theorem Reps.drop {K : PySem.W.Frag} {c : Cn} : ∀ {vs : List V} {ds : List D} (n : Nat), Reps B K c vs ds → Reps B K c (vs.drop n) (ds.drop n)
  | _, _, 0, r => r
  | _, _, _ + 1, .nil => .nil
  | _, _, n + 1, .cons _ t => Reps.drop n t
theorem Reps.take {K : PySem.W.Frag} {c : Cn} : ∀ {vs : List V} {ds : List D} (n : Nat), Reps B K c vs ds → Reps B K c (vs.take n) (ds.take n)
  | _, _, 0, _ => .nil
  | _, _, _ + 1, .nil => .nil
  | _, _, n + 1, .cons r t => .cons r (Reps.take n t)
theorem Reps.cut {K : PySem.W.Frag} {c : Cn} {vs : List V} {ds : List D} {lo hi : Option Int} (r : Reps B K c vs ds) : Reps B K c (cutV vs lo hi) (cutL ds lo hi) := by
  unfold cutV cutL
  rw [r.length]
  exact (r.drop _).take _
def rSlAll (K : PySem.W.Frag) : V → Option Int → Option Int → Hp → VK → Prop := fun x lo hi H Q => rSlL K x lo hi H Q ∨ (rSlA K x lo hi H Q ∨ rSlS x lo hi H Q)
theorem cut_whole {xs : List D} {lo hi : Option Int} (h : HT.sIx xs.length 0 lo = 0 ∧ HT.sIx xs.length xs.length hi = xs.length) : cutL xs lo hi = xs := by
  unfold cutL
  rw [h.1, h.2, List.drop_zero, Nat.sub_zero, List.take_length]
theorem we_sl {lo hi : Option Expr} {tl th : DO} {p2 : Pos} (he : WE B X W e te) (hl : WO B X W lo tl) (hh : WO B X W hi th) : WE B X W (.Subscript e (.Slice lo hi none p2) pos) (dSl te tl th) := by
  refine ⟨fun c g ρ σ H Q Z k rl h z => sem_of (pe_slice (L2.SlR.or sl_list (L2.SlR.or sl_tupA sl_str)) pe_sem po_sem po_sem) ?_⟩
  refine (he.run c g ρ σ H _ Z k rl h z).mono fun v H1 ⟨c1, g1, x, s1, k1, r1, q1⟩ => ?_
  refine (hl.run c1 g1 ρ σ H1 _ Z k1 (rl.mono s1.le) q1 (z.next s1)).mono fun l H2 ⟨c2, g2, s2, k2, q2⟩ => ?_
  refine (hh.run c2 g2 ρ σ H2 _ Z k2 (rl.mono (s1.trans s2).le) q2 (z.next (s1.trans s2))).mono fun u H3 ⟨c3, g3, s3, k3, w, e3, q3⟩ => ?_
  have r3 := r1.mono (s2.trans s3).le
  have s03 := (s1.trans s2).trans s3
  unfold slD at e3
  split at e3
  · simp only [Option.some.injEq] at e3; subst e3
    cases r3 with
    | lst h1 rs =>
      refine .inl ⟨_, _, rfl, SqL.of (k3.sub _ _ h1), fun p hp => ?_⟩
      obtain ⟨s4, k4⟩ := k3.lay (o := .lst (cutV _ l u)) hp
      exact ⟨_, g3, _, s03.trans s4, k4, .lst upd_same (rs.cut.mono s4.le), q3⟩
  · simp only [Option.some.injEq] at e3; subst e3
    cases r3 with
    | tup h1 rs =>
      refine .inr (.inl ⟨_, _, rfl, Evl.ex_t k3.sub h1, fun hw => ?_, fun hw p hp => ?_⟩)
      · rw [rs.length] at hw
        rw [cut_whole hw] at q3
        exact ⟨c3, g3, _, s03, k3, .tup h1 rs, q3⟩
      · obtain ⟨s4, k4⟩ := k3.lay (o := .tup (cutV _ l u)) hp
        exact ⟨_, g3, _, s03.trans s4, k4, .tup (SqT.of upd_same) (rs.cut.mono s4.le), q3⟩
  · split at e3
    · rename_i hz
      simp only [Option.some.injEq] at e3; subst e3
      cases r3
      exact .inr (.inr ⟨_, rfl, hz, c3, g3, _, s03, k3, .str _, q3⟩)
    · cases e3
  · simp only [Option.some.injEq] at e3; subst e3
    cases r3 with
    | @scr _ ns h1 =>
      refine .inl ⟨_, _, rfl, Evl.ex_l k3.sub h1, fun p hp => ?_⟩
      obtain ⟨s4, k4⟩ := k3.lay (o := .lst (cutV _ l u)) hp
      exact ⟨_, g3, _, s03.trans s4, k4, .lst upd_same (((reps_ints _).cut).mono s4.le), q3⟩
  · cases e3
theorem Reps.rev {K : PySem.W.Frag} {c : Cn} : ∀ {vs : List V} {ds : List D}, Reps B K c vs ds → Reps B K c vs.reverse ds.reverse
  | _, _, .nil => .nil
  | _, _, .cons r t => by
    rw [List.reverse_cons, List.reverse_cons]
    exact (Reps.rev t).append (.cons r .nil)
def revD : D → Option D
  | .lst xs => some (.lst xs.reverse)
  | _ => none
def dU (f : D → Option D) (te : DE) : DE := fun ρ g Q Z => te ρ g (fun x g1 => ∃ z, f x = some z ∧ Q z g1) Z
theorem we_rev {k : Nat} {p1 p2 p3 : Pos} (he : WE B X W e te) : WE B X W (.Subscript e (.Slice none none (some (.UnaryOp .USub (.Constant (.int 1) k p1) p2)) p3) pos) (dU revD te) := by
  refine ⟨fun c g ρ σ H Q Z k rl h z => sem_of (pe_revL pe_sem) ?_⟩
  refine (he.run c g ρ σ H _ Z k rl h z).mono fun v H1 ⟨c1, g1, x, s1, k1, r1, w, e1, q1⟩ => ?_
  unfold revD at e1
  split at e1
  · simp only [Option.some.injEq] at e1; subst e1
    cases r1 with
    | lst h1 rs =>
      refine ⟨_, _, rfl, SqL.of (k1.sub _ _ h1), fun p hp => ?_⟩
      obtain ⟨s4, k4⟩ := k1.lay hp
      exact ⟨_, g1, _, s1.trans s4, k4, .lst upd_same (rs.rev.mono s4.le), q1⟩
  · cases e1
/-! ### isinstance -/
inductive Kd where
  | non | bl | int | str | lst | tup | dct | obj (i : Nat) | exc (i : Nat)
  deriving DecidableEq
def kd : D → Option Kd
  | .non => some .non
  | .bl _ => some .bl
  | .int _ => some .int
  | .str _ => some .str
  | .lst _ => some .lst
  | .tup _ => some .tup
  | .dct _ => some .dct
  | .obj i _ => some (.obj i)
  | .exc i _ => some (.exc i)
  | _ => none
def tyK (B : Tb) : Kd → Value
  | .non => .type "NoneType"
  | .bl => .type "bool"
  | .int => .type "int"
  | .str => .type "str"
  | .lst => .type "list"
  | .tup => .type "tuple"
  | .dct => .type "dict"
  | .obj i => .ref (B.ct i)
  | .exc i => .ref (B.ct i)
/-- what isinstance asks of an own class -/
structure ClsI (K : PySem.W.Frag) (C : Addr) : Prop where
  ha : PySem.W.findIn K (.ref C) "__class__" = some (some (.builtin "object.__class__"))
  hn : PySem.W.specialIn K (.builtin "object.__class__") "__get__" = some (some (.builtin "getset_descriptor.__get__"))
  htk : PySem.W.takesIn K (.builtin "object.__class__") = some true
  hm : PySem.W.mroIn K C (.type "object") = some true
structure ExcA (K : PySem.W.Frag) (C : Addr) : Prop where
  isc : (PySem.W.clsIn K C).isSome = true
  ga : PySem.W.findIn K (.ref C) "__getattribute__" = some (some (.builtin "BaseException.__getattribute__"))
  gg : PySem.W.findIn K (.ref C) "__getattr__" = some none
  sub : PySem.W.subIn K (.ref C) (.type "BaseException") = some true
def KdOk (B : Tb) (K : PySem.W.Frag) : Kd → Prop
  | .obj i => Cls K (B.ct i) ∧ ClsI K (B.ct i)
  | .exc i => ExcA K (B.ct i) ∧ ClsI K (B.ct i)
  | _ => True
theorem kit_rep {pins : List (Addr × Obj)} {σ : L2.St} {H : Hp} {s : Shared} {c : Cn} {v : V} {d : D} {k : Kd} {u : Value} (I : Inv X pins σ H s) (sub : Ex c.F H) (r : Rep B X.K c v d) (hk : kd d = some k) (ok : KdOk B X.K k) (ru : RelV v u) :
    ∃ P : Heap → Prop, PySem.W.KitX X.K u (tyK B k) P ∧ P s.heap ∧ u ≠ .builtin "__main__.__loader__#opaque" := by
  cases r with
  | non => cases hk; exact kit_of I ru (.base .non)
  | bl b => cases hk; exact kit_of I ru (.base (.bl b))
  | int b => cases hk; exact kit_of I ru (.base (.int b))
  | str b => cases hk; exact kit_of I ru (.base (.str b))
  | lst h _ => cases hk; exact kit_of I ru (.base (.lst (sub _ _ h)))
  | tup h _ =>
    cases hk
    rcases h with (h | ⟨o, h⟩) | ⟨o, its, n, hK, hc, _⟩
    · exact kit_of I ru (.base (.tup (sub _ _ h)))
    · exact kit_of I ru (.fTuple (sub _ _ h))
    · exact kit_of I ru (.kTuple hK hc)
  | dct h _ => cases hk; exact kit_of I ru (.base (.dK (sub _ _ h)))
  | obj h _ =>
    cases hk
    exact kit_of I ru (.base (.ins (sub _ _ h) ok.1 ok.2.ha ok.2.hn ok.2.htk ok.2.hm))
  | @exc a dd i fs ds h h2 _ =>
    cases hk
    cases (show u = Value.ref a from ru)
    obtain ⟨⟨o, vs, e1, e2, e3, e4⟩, _⟩ := I.hok a _ (sub _ _ h)
    obtain ⟨mA, hns, _⟩ := I.hok dd _ (sub _ _ h2)
    obtain ⟨od, ho, _⟩ := lookIn_ns hns
    refine ⟨_, PySem.W.kitx_exc (ox := o) (od := some od) ok.1.isc ok.1.ga ok.1.gg ok.1.sub ok.2.ha ok.2.hn ok.2.htk ok.2.hm, ⟨e1, e2, by unfold PySem.W.notCls; rw [e4], by rw [e3]; exact ho⟩, fun z => nomatch z⟩
  | @exc0 a i h =>
    cases hk
    cases (show u = Value.ref a from ru)
    obtain ⟨⟨o, vs, e1, e2, e3, e4⟩, _⟩ := I.hok a _ (sub _ _ h)
    refine ⟨_, PySem.W.kitx_exc (ox := o) (od := none) ok.1.isc ok.1.ga ok.1.gg ok.1.sub ok.2.ha ok.2.hn ok.2.htk ok.2.hm, ⟨e1, e2, by unfold PySem.W.notCls; rw [e4], by rw [e3]; trivial⟩, fun z => nomatch z⟩
  | loc h => cases hk
  | pen h => cases hk
  | scr h => cases hk
/-- what «isinstance(.., T)» tells of each kind -/
def IsOk (B : Tb) (K : PySem.W.Frag) (f : Kd → Option Bool) (u : Value) : Prop := ∀ k b, f k = some b → KdOk B K k ∧ PySem.W.kitOne K (tyK B k) u = some b
def isiD (f : Kd → Option Bool) (x : D) : Option D := (kd x).bind fun k => (f k).map D.bl
theorem we_isi {T : Expr} {cv : V} {u : Value} {p : Pos} {f : Kd → Option Bool} (hT : PE X T (tC cv)) (hc : ClsV cv u) (hf : IsOk B X.K f u) (hg : Gl X "isinstance") (hm : X.mg "isinstance" = none) (he : WE B X W e te)
    (hs : starEach [e, T] X.env = (false, eval e X.env) :: starEach [T] X.env := by rfl) (hs2 : starEach [T] X.env = (false, eval T X.env) :: starEach [] X.env := by rfl) (hpl : (backTo pos (starEach [T] X.env)).any (·.1) = false := by rfl) :
    WE B X W (.Call (.Name "isinstance" p) [e, T] [] pos) (dU (isiD f) te) := by
  refine ⟨fun c g ρ σ H Q Z k rl h z pins s I => ?_⟩
  have run : CallR X (.builtin "isinstance") (fun xs H1 Q1 => ∃ v c1 g1 d kk b, xs = [v, cv] ∧ Fine B X.K c1 g1 H1 ∧ Rep B X.K c1 v d ∧ kd d = some kk ∧ f kk = some b ∧ Q1 (.bl b) H1) := by
    intro pins s σ H1 xs us Q1 I1 rr hh
    obtain ⟨v, c1, g1, d, kk, b, rfl, k1, r1, hkd, hfk, q1⟩ := hh
    obtain ⟨u1, u2, rfl, ru1, ru2⟩ := vals2 rr
    have e2 := hc.eq ru2
    subst e2
    obtain ⟨ok, hko⟩ := hf kk b hfk
    obtain ⟨P, Zz, p, hx⟩ := kit_rep I1 k1.sub r1 hkd ok ru1
    exact PySem.W.kia_one Zz I1.kIn p hko hx fun tk => ⟨.bl b, H1, I1.tok tk, rfl, q1⟩
  refine (pe_callB run hg hm (by decide +kernel) (pa_cons (pe_sem (e := e)) (pa_cons hT pa_nil hs2) hs) (by decide) (by decide) hs hpl).run pins s σ H _ I ?_
  refine (he.run c g ρ σ H _ Z k rl h z).mono fun v H1 ⟨c1, g1, x, s1, k1, r1, w, e1, q1⟩ => ?_
  unfold isiD at e1
  rw [Option.bind_eq_some_iff] at e1
  obtain ⟨kk, h1, h2⟩ := e1
  rw [Option.map_eq_some_iff] at h2
  obtain ⟨b, h3, h4⟩ := h2
  subst h4
  exact ⟨v, c1, g1, x, kk, b, rfl, k1, r1, h1, h3, c1, g1, _, s1, k1, .bl b, q1⟩
end
end DL

namespace DL
open PySem L2 PyProof.Rows
/-! ### a def's promise, called where nothing is being shown -/
structure FnG (P : Program) (w : World) (K : PySem.W.Frag) (mg : Str → Option Value) (base : Heap) (k : Nat) (f : Addr) (fd : FuncData) (ps : List Str) (sp : Sp) : Prop where
  size : ∀ vs H Q E, sp vs H Q E → vs.length = ps.length
  go : ∀ (A : Around) (outer : List Env) (s : Shared) (H : Hp) (args : Args) (us : List Value) (vs : List V) (Q : VK) (E : XK), Room k A → A.guards = some [] → Env0 P w K mg base A outer s H →
    BindsTo s fd args (ps.zip us) → Vals vs us → sp vs H Q E → codeAny (model P w) A (.call (.ref f) args) (CR (L2.CX P w) outer P w H s Q E) s
theorem FnG.mono {P : Program} {w : World} {K : PySem.W.Frag} {mg : Str → Option Value} {base : Heap} {j k : Nat} {f : Addr} {fd : FuncData} {ps : List Str} {sp : Sp} (F : FnG P w K mg base j f fd ps sp) (h : j ≤ k) : FnG P w K mg base k f fd ps sp :=
  ⟨F.size, fun A o s H ar us vs Q E hr => F.go A o s H ar us vs Q E (hr.mono h)⟩
section
variable {P : Program} {w : World} {K : PySem.W.Frag} {mg : Str → Option Value} {base : Heap}
theorem fng_of {x qual : Str} {st : Stmt} {f : Addr} {fd : FuncData} {N ps : List Str} {k : Nat} {sp : Sp} (F : Fun K x qual st f fd) (S : FnScope N ps (defScope st)) (size : ∀ vs H Q E, sp vs H Q E → vs.length = ps.length)
    (body : ∀ (cdv : Value) (A : Around) (outer : List Env) (s : Shared) (H : Hp) (vs : List V) (Q : VK) (E : XK), Room k (A.deeper (envOfC qual (defScope st) s.heap.objs.size f cdv)) → (A.deeper (envOfC qual (defScope st) s.heap.objs.size f cdv)).guards = some [] → sp vs H Q E →
      ∃ t, PSs (cxOf (L2.CX P w) P w K mg base N qual (defScope st) f cdv A outer s H E) (defBody st) t ∧ t { nx := fun _ H' => Q .non H', rt := Q } (start N vs) H) : FnG P w K mg base (k + 1) f fd ps sp := by
  obtain ⟨oc, od, kV, doc, pm, an, cdv, ct, osl, rfl, lk, hcd⟩ := F.ex
  refine ⟨size, fun A outer s H args us vs Q E room gd e0 bnd rv hsp => ?_⟩
  have hlen := size _ _ _ _ hsp
  have inH : K.In s.heap := e0.mod.kin.keeps fun b o q => (e0.bs b o q).1
  have noL : s.heap.NoLimit := e0.mod.nolimit.keeps fun b o q => (e0.bs b o q).1
  have kinds : ∀ y ∈ ps.zip us, (defScope st).names.lookup y.1 = some .local ∨ ((defScope st).names.lookup y.1 = some .cell ∧ ((cellsFrom (s.heap.objs.size + 1) (defScope st).names []).lookup y.1).isSome = true) := by
    rintro ⟨n, v⟩ hy
    rcases S.par n (List.of_mem_zip hy).1 with z | z
    · exact Or.inl z
    · exact Or.inr ⟨z, PySem.W.cellsFrom_some _ _ _ (Or.inl z)⟩
  refine codeAny_call_function room.depth (inH _ _ lk) rfl S.co S.gen rfl (PySem.W.codeRec_of inH hcd) (bnd _ _ _ _ ?_)
  refine wpAny_newFunctionEnv_cells S.kind kinds fun env he s1 x1 => ?_
  subst he
  refine ⟨noL.keeps x1.toInCall.keep, codeAny_func ?_⟩
  obtain ⟨t, ht, hq⟩ := body cdv A outer s H vs Q E (room.deeper _) gd hsp
  have J0 := inv_start (CX := L2.CX P w) (E := E) S room.hd e0 hlen rv x1
  refine wpAny_mono (ht.run [] s1 (start N vs) H _ J0 hq) (fun fl s' hs => ?_) fun e s' hs => hs
  cases fl with
  | ret u =>
    obtain ⟨v, σ', H', J, rv', q⟩ := hs
    exact ⟨v, H', J.os, J.bare, J.base, J.hok, rv', q⟩
  | next =>
    obtain ⟨σ', H', J, q⟩ := hs
    exact ⟨V.non, H', J.os, J.bare, J.base, J.hok, rfl, q⟩
  | brk => obtain ⟨_, _, _, q⟩ := hs; exact q.elim
  | cont => obtain ⟨_, _, _, q⟩ := hs; exact q.elim
end
section
variable {X : Cx} {k : Nat} {f : Addr} {fd : FuncData} {ps : List Str} {sp : Sp} {dvs : List V} {ds : List Value} {E : L2.St → XK} {x : Str} {p pos : Pos} {e : Expr} {es : List Expr} {t : TA}
theorem run_fng {pins : List (Addr × Obj)} {σ : L2.St} {H : Hp} {s : Shared} {Q : VK} {us : List Value} {vs : List V} (F : FnG X.prog X.w X.K X.mg X.base k f fd ps sp) (hr : Room k X.A) (gd : X.A.guards = some []) (hb : Binds X.K fd ps ds) (hd : Vals dvs ds)
    (hx : PassesAt (L2.CX X.prog X.w) X σ (E σ)) (I : Inv X pins σ H s) (r : Vals vs us) (h : sp (vs ++ dvs) H Q (E σ)) : wpAny (model X.prog X.w) X.A (call (.ref f) us) (EP X pins σ Q) X.xe s := by
  have rr : Vals (vs ++ dvs) (us ++ ds) := r.append hd
  have hl : (us ++ ds).length = ps.length := by rw [← rr.length]; exact F.size _ _ _ _ h
  refine wpAny_call (codeAny_mono (F.go X.A X.stack s H ⟨us, []⟩ (us ++ ds) (vs ++ dvs) Q (E σ) hr gd I.env0 (hb s us I.kIn hl) rr h) fun res s' hq => ?_)
  cases res with
  | error e => exact hx pins H s e s' I hq
  | ok fl =>
    cases fl with
    | ret u => exact I.after hq
    | next => exact hq.elim
    | brk => exact hq.elim
    | cont => exact hq.elim
theorem pe_callG (F : FnG X.prog X.w X.K X.mg X.base k f fd ps sp) (hr : Room k X.A) (gd : X.A.guards = some []) (hg : Gl X x) (hm : X.mg x = some (.ref f)) (hk : PySem.W.keepIn X.K (.ref f) = true) (hb : Binds X.K fd ps ds) (hd : Vals dvs ds) (hx : ∀ σ, PassesAt (L2.CX X.prog X.w) X σ (E σ))
    (ha : PA X (e :: es) t) (hdb : (x == ("__debug__" : Str)) = false := by decide) (he : starEach (e :: es) X.env = (false, eval e X.env) :: starEach es X.env := by rfl) (hpl : (backTo pos (starEach es X.env)).any (·.1) = false := by rfl) :
    PE X (.Call (.Name x p) (e :: es) [] pos) (tCallSD sp dvs E t) := by
  refine ⟨fun pins s σ H Q I h => wpAny_Call_Name_kw (ld_glob I hg hm ?_ hdb)⟩
  refine PySem.W.callWith_K (h₀ := X.base) I.ok.mod.kin hk (thn (ha.run pos pins s σ H _ I h) fun us s1 ⟨vs, H1, I1, r, q⟩ => ⟨I1.kIn, ?_⟩) he hpl
  exact run_fng F hr gd hb hd (hx σ) I1 r q
theorem pe_callG0 (F : FnG X.prog X.w X.K X.mg X.base k f fd ps sp) (hr : Room k X.A) (gd : X.A.guards = some []) (hg : Gl X x) (hm : X.mg x = some (.ref f)) (hk : PySem.W.keepIn X.K (.ref f) = true) (hb : Binds X.K fd ps ds) (hd : Vals dvs ds) (hx : ∀ σ, PassesAt (L2.CX X.prog X.w) X σ (E σ))
    (hdb : (x == ("__debug__" : Str)) = false := by decide) : PE X (.Call (.Name x p) [] [] pos) (tCallSD sp dvs E tNil) := by
  refine ⟨fun pins s σ H Q I h => wpAny_Call_Name_kw (ld_glob I hg hm ?_ hdb)⟩
  exact PySem.W.callWith_K0 I.kIn hk (run_fng (us := []) F hr gd hb hd (hx σ) I .nil h)
end
/-! ### promises over data -/
def spOf (B : Tb) (K : PySem.W.Frag) (ar : Nat) (S : DSp) : Sp := fun vs H Q E => ∃ c g ds Φ Ψ, vs.length = ar ∧ Fine B K c g H ∧ Reps B K c vs ds ∧ S ds g Φ Ψ ∧
  (∀ c' H' g' v d, Grow c H c' H' → Fine B K c' g' H' → Rep B K c' v d → Φ d g' → Q v H') ∧
  (∀ c' H' g' cls dd ex, Grow c H c' H' → Fine B K c' g' H' → ExR B K c' cls dd ex → Ψ ex g' → E cls dd H')
/-- a def by its promise -/
structure Fn (B : Tb) (P : Program) (w : World) (K : PySem.W.Frag) (mg : Str → Option Value) (base : Heap) (L : Nat) (x : Str) (ar : Nat) (S : DSp) : Prop where
  ex : ∃ f fd ps, FnG P w K mg base L f fd ps (spOf B K ar S) ∧ mg x = some (.ref f) ∧ PySem.W.keepIn K (.ref f) = true ∧ Binds K fd ps []
theorem Fn.mono {B : Tb} {P : Program} {w : World} {K : PySem.W.Frag} {mg : Str → Option Value} {base : Heap} {L L' : Nat} {x : Str} {ar : Nat} {S : DSp} (F : Fn B P w K mg base L x ar S) (h : L ≤ L') : Fn B P w K mg base L' x ar S :=
  let ⟨f, fd, ps, a, b, c, d⟩ := F.ex
  ⟨f, fd, ps, a.mono h, b, c, d⟩
/-- where a def's body runs -/
structure Ctx (L : Nat) (X : Cx) (W : WX) : Prop where
  calm : X.calm = true
  room : Room L X.A
  gd : X.A.guards = some []
  tk : Takes X W
def dCall (S : DSp) (tr : DA) : DE := fun ρ g Q Z => tr ρ g (fun xs g1 => S xs g1 Q Z) Z
section
variable {B : Tb} {X : Cx} {W : WX} {L ar : Nat} {S : DSp} {x : Str} {p pos : Pos} {e : Expr} {es : List Expr} {tr : DA}
theorem we_call (F : Fn B X.prog X.w X.K X.mg X.base L x ar S) (C : Ctx L X W) (hg : Gl X x) (ha : WA B X W (e :: es) tr) (hn : (e :: es).length = ar := by rfl) (hdb : (x == ("__debug__" : Str)) = false := by decide) (he : starEach (e :: es) X.env = (false, eval e X.env) :: starEach es X.env := by rfl)
    (hpl : (backTo pos (starEach es X.env)).any (·.1) = false := by rfl) : WE B X W (.Call (.Name x p) (e :: es) [] pos) (dCall S tr) := by
  obtain ⟨f, fd, ps, G, hm, hk, hb⟩ := F.ex
  refine ⟨fun c g ρ σ H Q Z k rl h z => sem_of (pe_callG (dvs := []) (ds := []) (E := fun σ => L2.WE W σ) G C.room C.gd hg hm hk hb .nil (fun σ => passAt C.tk σ) pa_sem hdb he hpl) ?_⟩
  refine (ha.run c g ρ σ H _ Z k rl h z).mono fun vs H1 ⟨c1, g1, ds, s1, k1, rs, hl, q1⟩ => ?_
  show spOf B X.K ar S (vs ++ []) H1 _ _
  rw [List.append_nil]
  exact ⟨c1, g1, ds, Q, Z, by rw [rs.length, hl]; exact hn, k1, rs, q1, fun c' H' g' v d s2 k2 r2 q2 => ⟨c', g', d, s1.trans s2, k2, r2, q2⟩, fun c' H' g' cls dd ex s2 k2 r2 q2 => z c' H' g' ex cls dd (s1.trans s2) k2 r2 q2⟩
theorem we_call0 (F : Fn B X.prog X.w X.K X.mg X.base L x 0 S) (C : Ctx L X W) (hg : Gl X x) (hdb : (x == ("__debug__" : Str)) = false := by decide) : WE B X W (.Call (.Name x p) [] [] pos) (dCall S dNil) := by
  obtain ⟨f, fd, ps, G, hm, hk, hb⟩ := F.ex
  refine ⟨fun c g ρ σ H Q Z k rl h z => sem_of (pe_callG0 (dvs := []) (ds := []) (E := fun σ => L2.WE W σ) G C.room C.gd hg hm hk hb .nil (fun σ => passAt C.tk σ) hdb) ?_⟩
  exact ⟨c, g, [], Q, Z, rfl, k, .nil, h, fun c' H' g' v d s2 k2 r2 q2 => ⟨c', g', d, s2, k2, r2, q2⟩, fun c' H' g' cls dd ex s2 k2 r2 q2 => z c' H' g' ex cls dd s2 k2 r2 q2⟩
end
end DL

namespace DL
open PySem L2 PyProof.Rows
/-- a slot: not assigned, frozen data, a list or an instance that nothing else refers to -/
inductive SV where
  | un
  | fz (d : D)
  | ow (ds : List D)
  | ob (p : Addr) (k : Nat) (fs : List (Str × D))
abbrev SEnv := List SV
def SV.mask : SV → Option D
  | .fz d => some d
  | _ => none
def SV.snap : SV → Option D
  | .fz d => some d
  | .ow ds => some (.lst ds)
  | _ => none
def mask (ρ : SEnv) : DEnv := ρ.map SV.mask
def snap (ρ : SEnv) : DEnv := ρ.map SV.snap

structure RelS (B : Tb) (K : PySem.W.Frag) (c₀ : Cn) (H₀ : Hp) (c : Cn) (g : Gh) (ρ : SEnv) (σ : L2.St) (H : Hp) : Prop where
  gr : Grow c₀ H₀ c H
  fine : Fine B K c g H
  len : ρ.length = σ.length
  fz : ∀ (i : Nat) (d : D), ρ[i]? = some (.fz d) → ∃ v, σ[i]? = some (some v) ∧ Rep B K c v d
  ow : ∀ (i : Nat) (ds : List D), ρ[i]? = some (.ow ds) → ∃ p vs, σ[i]? = some (some (.ref p)) ∧ H p = some (.lst vs) ∧ Reps B K c vs ds ∧ c.F p = none ∧ c.pen ≠ some p ∧ p ∉ c.ma ∧ H₀ p = none
  inj : ∀ (i j : Nat) (ds es : List D) (p : Addr), i ≠ j → ρ[i]? = some (.ow ds) → ρ[j]? = some (.ow es) → σ[i]? = some (some (.ref p)) → σ[j]? ≠ some (some (.ref p))
  ob : ∀ (i : Nat) (p : Addr) (k : Nat) (fs : List (Str × D)), ρ[i]? = some (.ob p k fs) → ∃ dx vs, σ[i]? = some (some (.ref p)) ∧ H p = some (.ins (B.ct k) dx vs) ∧ RepF B K c vs fs ∧ c.F p = none ∧ c.pen ≠ some p ∧ p ∉ c.ma ∧ H₀ p = none
  ob1 : ∀ (i j : Nat) (p q : Addr) (k l : Nat) (fs gs : List (Str × D)), ρ[i]? = some (.ob p k fs) → ρ[j]? = some (.ob q l gs) → i = j
structure DEnds where
  nx : SEnv → Gh → Prop
  rt : D → Gh → Prop
  bk : SEnv → Gh → Prop := fun _ _ => False
  ct : SEnv → Gh → Prop := fun _ _ => False
  xz : Exn → SEnv → Gh → Prop
abbrev DS := DEnds → SEnv → Gh → Prop
section
variable (B : Tb) (K : PySem.W.Frag) (c₀ : Cn) (H₀ : Hp)
def toE (P : SEnv → Gh → Prop) : L2.St → Hp → Prop := fun σ' H' => ∃ c' g' ρ', RelS B K c₀ H₀ c' g' ρ' σ' H' ∧ P ρ' g'
def endsOf (D : DEnds) : L2.Ends where
  nx := toE B K c₀ H₀ D.nx
  rt := fun v H' => ∃ c' g' d, Grow c₀ H₀ c' H' ∧ Fine B K c' g' H' ∧ Rep B K c' v d ∧ D.rt d g'
  bk := toE B K c₀ H₀ D.bk
  ct := toE B K c₀ H₀ D.ct
def ZS (W : WX) (D : DEnds) : Prop := ∀ c' g' ρ' σ' H' ex cls d, RelS B K c₀ H₀ c' g' ρ' σ' H' → ExR B K c' cls d ex → D.xz ex ρ' g' → W cls d σ' H'
end
def semS (X : Cx) (st : Stmt) : TS := fun D σ H => ∀ pins s, Inv X pins σ H s → wpAny (model X.prog X.w) X.A (exec st X.env) (SP X pins D) X.xe s
theorem ps_sem {X : Cx} {st : Stmt} : PS X st (semS X st) := ⟨fun pins s _ _ _ I h => h pins s I⟩
theorem semS_of {X : Cx} {st : Stmt} {t : TS} (h : PS X st t) {D : L2.Ends} {σ : L2.St} {H : Hp} (q : t D σ H) : semS X st D σ H := fun pins s I => h.run pins s σ H D I q
def semSs (X : Cx) (st : List Stmt) : TS := fun D σ H => ∀ pins s, Inv X pins σ H s → wpAny (model X.prog X.w) X.A (execs st X.env) (SP X pins D) X.xe s
theorem pss_sem {X : Cx} {st : List Stmt} : PSs X st (semSs X st) := ⟨fun pins s _ _ _ I h => h pins s I⟩
theorem semSs_of {X : Cx} {st : List Stmt} {t : TS} (h : PSs X st t) {D : L2.Ends} {σ : L2.St} {H : Hp} (q : t D σ H) : semSs X st D σ H := fun pins s I => h.run pins s σ H D I q
theorem SP.imp {X : Cx} {pins : List (Addr × Obj)} {D D' : L2.Ends} {f : Flow} {s : Shared} (h : SP X pins D f s) (h1 : ∀ σ H, D.nx σ H → D'.nx σ H) (h2 : ∀ v H, D.rt v H → D'.rt v H) (h3 : ∀ σ H, D.bk σ H → D'.bk σ H) (h4 : ∀ σ H, D.ct σ H → D'.ct σ H) : SP X pins D' f s := by
  cases f with
  | next => obtain ⟨σ, H, I, q⟩ := h; exact ⟨σ, H, I, h1 _ _ q⟩
  | brk => obtain ⟨σ, H, I, q⟩ := h; exact ⟨σ, H, I, h3 _ _ q⟩
  | cont => obtain ⟨σ, H, I, q⟩ := h; exact ⟨σ, H, I, h4 _ _ q⟩
  | ret u => obtain ⟨v, σ, H, I, r, q⟩ := h; exact ⟨v, σ, H, I, r, h2 _ _ q⟩
section
variable (B : Tb) (X : Cx) (W : WX) (H₀ : Hp)
structure WS (st : Stmt) (t : DS) : Prop where
  run : ∀ (c₀ c : Cn) (g : Gh) (ρ : SEnv) (σ : L2.St) (H : Hp) (D : DEnds), RelS B X.K c₀ H₀ c g ρ σ H → t D ρ g → ZS B X.K c₀ H₀ W D → semS X st (endsOf B X.K c₀ H₀ D) σ H
structure WB (st : List Stmt) (t : DS) : Prop where
  run : ∀ (c₀ c : Cn) (g : Gh) (ρ : SEnv) (σ : L2.St) (H : Hp) (D : DEnds), RelS B X.K c₀ H₀ c g ρ σ H → t D ρ g → ZS B X.K c₀ H₀ W D → semSs X st (endsOf B X.K c₀ H₀ D) σ H
end
section
variable {B : Tb} {K : PySem.W.Frag} {c₀ c c' : Cn} {H₀ H H' : Hp} {g g' : Gh} {ρ : SEnv} {σ : L2.St}
theorem RelS.next (r : RelS B K c₀ H₀ c g ρ σ H) (s : Grow c H c' H') (k : Fine B K c' g' H') : RelS B K c₀ H₀ c' g' ρ σ H' := by
  refine ⟨r.gr.trans s, k, r.len, fun i d h => ?_, fun i ds h => ?_, r.inj, fun i p k fs h => ?_, r.ob1⟩
  · obtain ⟨v, h1, h2⟩ := r.fz i d h
    exact ⟨v, h1, h2.mono s.le⟩
  · obtain ⟨p, vs, h1, h2, h3, h4, h5, h6, h7⟩ := r.ow i ds h
    refine ⟨p, vs, h1, s.keep p _ h2 h5 h6, h3.mono s.le, ?_, fun z => ?_, fun z => ?_, h7⟩
    · cases e : c'.F p with
      | none => rfl
      | some o =>
        rcases s.froz p o e with (q | q) | (q | q)
        · rw [h4] at q; cases q
        · rw [h2] at q; cases q
        · exact absurd q h5
        · exact absurd q h6
    · rcases s.fresh p (.inl z) with (q | q) | q
      · exact h5 q
      · exact h6 q
      · rw [h2] at q; cases q
    · rcases s.fresh p (.inr z) with (q | q) | q
      · exact h5 q
      · exact h6 q
      · rw [h2] at q; cases q
  · obtain ⟨dx, vs, h1, h2, h3, h4, h5, h6, h7⟩ := r.ob i p k fs h
    obtain ⟨m1, m2, m3, m4⟩ := s.mine h2 h4 h5 h6
    exact ⟨dx, vs, h1, m1, h3.mono s.le, m2, m3, m4, h7⟩
theorem mask_get {i : Nat} {d : D} (h : (mask ρ)[i]? = some (some d)) : ρ[i]? = some (.fz d) := by
  unfold mask at h
  rw [List.getElem?_map] at h
  cases e : ρ[i]? with
  | none => rw [e] at h; cases h
  | some v =>
    rw [e] at h
    cases v with
    | fz d' => simp only [Option.map_some, SV.mask, Option.some.injEq] at h; rw [h]
    | un => simp [SV.mask] at h
    | ow ds => simp [SV.mask] at h
    | ob p k fs => simp [SV.mask] at h
theorem RelS.mask (r : RelS B K c₀ H₀ c g ρ σ H) : RelP B K c (DL.mask ρ) σ := ⟨by unfold DL.mask; rw [List.length_map]; exact Nat.le_of_eq r.len, fun i d h => r.fz i d (mask_get h)⟩
theorem RelS.set (r : RelS B K c₀ H₀ c g ρ σ H) {i : Nat} {v : V} {d : D} (rv : Rep B K c v d) : RelS B K c₀ H₀ c g (ρ.set i (.fz d)) (σ.set i (some v)) H := by
  have get : ∀ (j : Nat) (x : SV), (ρ.set i (.fz d))[j]? = some x → (j = i ∧ x = .fz d ∧ j < ρ.length) ∨ (j ≠ i ∧ ρ[j]? = some x) := fun j x h => by
    by_cases e : i = j
    · subst e
      by_cases hl : i < ρ.length
      · rw [List.getElem?_set_self hl] at h
        exact .inl ⟨rfl, (Option.some.inj h).symm, hl⟩
      · rw [List.getElem?_eq_none (by simpa using hl)] at h; cases h
    · rw [List.getElem?_set_ne e] at h
      exact .inr ⟨fun z => e z.symm, h⟩
  have same : ∀ {j : Nat}, j ≠ i → (σ.set i (some v))[j]? = σ[j]? := fun h => List.getElem?_set_ne (Ne.symm h)
  refine ⟨r.gr, r.fine, by rw [List.length_set, List.length_set]; exact r.len, fun j d' h => ?_, fun j ds h => ?_, fun j k ds es p hjk h1 h2 h3 => ?_, fun j p k fs h => ?_, fun j l p p' k k' fs gs h1 h2 => ?_⟩
  · rcases get j _ h with ⟨rfl, e, hl⟩ | ⟨hj, h⟩
    · cases e
      exact ⟨v, List.getElem?_set_self (by rw [← r.len]; exact hl), rv⟩
    · rw [same hj]; exact r.fz j d' h
  · rcases get j _ h with ⟨rfl, e, _⟩ | ⟨hj, h⟩
    · cases e
    · rw [same hj]; exact r.ow j ds h
  · rcases get j _ h1 with ⟨rfl, e, _⟩ | ⟨hj, h1⟩
    · cases e
    · rcases get k _ h2 with ⟨rfl, e, _⟩ | ⟨hk, h2⟩
      · cases e
      · rw [same hj] at h3
        rw [same hk]; exact r.inj j k ds es p hjk h1 h2 h3
  · rcases get j _ h with ⟨rfl, e, _⟩ | ⟨hj, h⟩
    · cases e
    · rw [same hj]; exact r.ob j p k fs h
  · rcases get j _ h1 with ⟨rfl, e, _⟩ | ⟨hj, h1⟩
    · cases e
    · rcases get l _ h2 with ⟨rfl, e, _⟩ | ⟨hk, h2⟩
      · cases e
      · exact r.ob1 j l p p' k k' fs gs h1 h2
/-- what an expression wants of the rest of a statement -/
theorem RelS.zok {W : WX} {D : DEnds} (r : RelS B K c₀ H₀ c g ρ σ H) (z : ZS B K c₀ H₀ W D) : ZOk B K c H σ W fun ex g' => D.xz ex ρ g' := fun c' H' g' ex cls d s k e q =>
  z c' g' ρ σ H' ex cls d (r.next s k) e q
end
section
variable {B : Tb} {X : Cx} {W : WX} {H₀ : Hp} {st : Stmt} {rest : List Stmt} {t u : DS} {e : Expr} {te : DE} {pos : Pos}
def dNext : DS := fun D ρ g => D.nx ρ g
def dSeq (t u : DS) : DS := fun D ρ g => t { D with nx := u D } ρ g
theorem wb_nil : WB B X W H₀ [] dNext := ⟨fun c₀ c g ρ σ H D r q z => semSs_of pss_nil ⟨c, g, ρ, r, q⟩⟩
theorem wb_cons (h1 : WS B X W H₀ st t) (h2 : WB B X W H₀ rest u) : WB B X W H₀ (st :: rest) (dSeq t u) := by
  refine ⟨fun c₀ c g ρ σ H D r q z => semSs_of (pss_cons ps_sem pss_sem) ?_⟩
  intro pins s I
  refine thn (h1.run c₀ c g ρ σ H { D with nx := u D } r q (fun c' g' ρ' σ' H' ex cls d a b c => z c' g' ρ' σ' H' ex cls d a b c) pins s I) fun f s' hq => ?_
  exact SP.imp hq (fun σ' H' ⟨c', g', ρ', r', q'⟩ => h2.run c₀ c' g' ρ' σ' H' D r' q' z) (fun _ _ h => h) (fun _ _ h => h) (fun _ _ h => h)
theorem wb_one (h1 : WS B X W H₀ st t) : WB B X W H₀ [st] t := ⟨fun c₀ c g ρ σ H D r q z => semSs_of (pss_one ps_sem) (h1.run c₀ c g ρ σ H D r q z)⟩
def dBreak : DS := fun D ρ g => D.bk ρ g
def dCont : DS := fun D ρ g => D.ct ρ g
theorem ws_pass : WS B X W H₀ (.Pass pos) dNext := ⟨fun c₀ c g ρ σ H D r q z => semS_of ps_pass ⟨c, g, ρ, r, q⟩⟩
theorem ws_break : WS B X W H₀ (.Break pos) dBreak := ⟨fun c₀ c g ρ σ H D r q z => semS_of ps_break ⟨c, g, ρ, r, q⟩⟩
theorem ws_continue : WS B X W H₀ (.Continue pos) dCont := ⟨fun c₀ c g ρ σ H D r q z => semS_of ps_continue ⟨c, g, ρ, r, q⟩⟩
/-- an expression whose value is dropped -/
def dDrop (te : DE) : DS := fun D ρ g => te (mask ρ) g (fun _ g' => D.nx ρ g') fun ex g' => D.xz ex ρ g'
theorem ws_expr (he : WE B X W e te) (hs : swapsWith e none pos.line X.env = pure false := by rfl) : WS B X W H₀ (.Expr e pos) (dDrop te) := by
  refine ⟨fun c₀ c g ρ σ H D r q z => semS_of (ps_expr pe_sem hs) ?_⟩
  refine (he.run c g _ σ H _ _ r.fine r.mask q (r.zok z)).mono fun v H' ⟨c', g', d, s, k, _, q'⟩ => ⟨c', g', ρ, r.next s k, q'⟩
def dRet (te : DE) : DS := fun D ρ g => te (mask ρ) g D.rt fun ex g' => D.xz ex ρ g'
theorem ws_ret (he : WE B X W e te) : WS B X W H₀ (.Return (some e) pos) (dRet te) := by
  refine ⟨fun c₀ c g ρ σ H D r q z => semS_of (ps_ret pe_sem) ?_⟩
  refine (he.run c g _ σ H _ _ r.fine r.mask q (r.zok z)).mono fun v H' ⟨c', g', d, s, k, rr, q'⟩ => ⟨c', g', d, r.gr.trans s, k, rr, q'⟩
def dRetN : DS := fun D _ g => D.rt .non g
theorem ws_retN : WS B X W H₀ (.Return none pos) dRetN := ⟨fun c₀ c g ρ σ H D r q z => semS_of ps_retN ⟨c, g, .non, r.gr, r.fine, .non, q⟩⟩
/-- return x, x an owned list -/
def dRetO (i : Nat) : DS := fun D ρ g => ∃ ds, ρ[i]? = some (.ow ds) ∧ D.rt (.lst ds) g
theorem RelS.freeze {K : PySem.W.Frag} {c₀ c : Cn} {g : Gh} {ρ : SEnv} {σ : L2.St} {H : Hp} (r : RelS B K c₀ H₀ c g ρ σ H) {i : Nat} {ds : List D} (h : ρ[i]? = some (.ow ds)) :
    ∃ p c', σ[i]? = some (some (.ref p)) ∧ Rep B K c' (.ref p) (.lst ds) ∧ RelS B K c₀ H₀ c' g (ρ.set i (.fz (.lst ds))) σ H := by
  obtain ⟨p, vs, h1, h2, h3, h4, h5, h6, h7⟩ := r.ow i ds h
  have fr : Ex c.F (upd c.F p (.lst vs)) := Evl.Ex.new h4
  have le : Le c { c with F := upd c.F p (.lst vs) } := ⟨fr, fun _ z => z, fun _ _ z => z, fun _ _ => rfl⟩
  have gr : Grow c₀ H₀ { c with F := upd c.F p (.lst vs) } H := by
    refine ⟨r.gr.le.trans le, r.gr.keep, r.gr.fresh, fun a o q => ?_⟩
    have q : upd c.F p (.lst vs) a = some o := q
    by_cases e : a = p
    · subst e; exact .inl (.inr h7)
    · rw [upd_ne e] at q; exact r.gr.froz a o q
  have fine : Fine B K { c with F := upd c.F p (.lst vs) } g H := by
    refine ⟨fun a o q => ?_, r.fine.pd, fun q hq => ?_, fun q hq => (let ⟨ns, h1, h2⟩ := r.fine.cells q hq; ⟨ns, fr _ _ h1, h2⟩), r.fine.mlen, r.fine.mnd, fun j m a e1 e2 => ?_⟩
    · have q : upd c.F p (.lst vs) a = some o := q
      by_cases e : a = p
      · subst e; rw [upd_same] at q; rw [← q]; exact h2
      · rw [upd_ne e] at q; exact r.fine.sub a o q
    · obtain ⟨q1, q2, o, q3, q4⟩ := r.fine.pen q hq
      refine ⟨?_, q2, o, q3, q4⟩
      show upd c.F p (.lst vs) q = none
      rw [upd_ne (fun z => h5 (by rw [← z]; exact hq))]; exact q1
    · obtain ⟨q1, dx, fs, q2, q3⟩ := r.fine.mem j m a e1 e2
      refine ⟨?_, dx, fs, q2, RepF.mono le q3⟩
      show upd c.F p (.lst vs) a = none
      rw [upd_ne (fun z => h6 (by rw [← z]; exact List.mem_of_getElem? e2))]; exact q1
  have rp : Rep B K { c with F := upd c.F p (.lst vs) } (.ref p) (.lst ds) := .lst upd_same (h3.mono le)
  refine ⟨p, _, h1, rp, ⟨gr, fine, by rw [List.length_set]; exact r.len, fun j d' hh => ?_, fun j es hh => ?_, fun j k es fs q hjk e1 e2 e3 => ?_, fun j q k fs hh => ?_, fun j l q q' k k' fs gs e1 e2 => ?_⟩⟩
  · by_cases e : i = j
    · subst e
      have hl : i < ρ.length := (List.getElem?_eq_some_iff.mp h).1
      rw [List.getElem?_set_self hl] at hh
      cases hh
      exact ⟨_, h1, rp⟩
    · rw [List.getElem?_set_ne e] at hh
      obtain ⟨v, q1, q2⟩ := r.fz j d' hh
      exact ⟨v, q1, q2.mono le⟩
  · by_cases e : i = j
    · subst e
      have hl : i < ρ.length := (List.getElem?_eq_some_iff.mp h).1
      rw [List.getElem?_set_self hl] at hh
      cases hh
    · rw [List.getElem?_set_ne e] at hh
      obtain ⟨q, ws, q1, q2, q3, q4, q5, q6, q7⟩ := r.ow j es hh
      refine ⟨q, ws, q1, q2, q3.mono le, ?_, q5, q6, q7⟩
      show upd c.F p (.lst vs) q = none
      rw [upd_ne]
      · exact q4
      · intro z
        subst z
        exact r.inj i j ds es q e h hh h1 q1
  · have nj : i ≠ j := fun z => by
      subst z
      rw [List.getElem?_set_self (List.getElem?_eq_some_iff.mp h).1] at e1; cases e1
    have nk : i ≠ k := fun z => by
      subst z
      rw [List.getElem?_set_self (List.getElem?_eq_some_iff.mp h).1] at e2; cases e2
    rw [List.getElem?_set_ne nj] at e1
    rw [List.getElem?_set_ne nk] at e2
    exact r.inj j k es fs q hjk e1 e2 e3
  · have nj : i ≠ j := fun z => by
      subst z
      rw [List.getElem?_set_self (List.getElem?_eq_some_iff.mp h).1] at hh; cases hh
    rw [List.getElem?_set_ne nj] at hh
    obtain ⟨dx, ws, q1, q2, q3, q4, q5, q6, q7⟩ := r.ob j q k fs hh
    refine ⟨dx, ws, q1, q2, q3.mono le, ?_, q5, q6, q7⟩
    show upd c.F p (.lst vs) q = none
    rw [upd_ne]
    · exact q4
    · intro z
      subst z
      rw [h2] at q2; cases q2
  · have nj : i ≠ j := fun z => by
      subst z
      rw [List.getElem?_set_self (List.getElem?_eq_some_iff.mp h).1] at e1; cases e1
    have nl : i ≠ l := fun z => by
      subst z
      rw [List.getElem?_set_self (List.getElem?_eq_some_iff.mp h).1] at e2; cases e2
    rw [List.getElem?_set_ne nj] at e1
    rw [List.getElem?_set_ne nl] at e2
    exact r.ob1 j l q q' k k' fs gs e1 e2
theorem ws_retO {i : Nat} {x : Str} {p0 : Pos} (hv : PE X (.Name x p0) (tVar i)) : WS B X W H₀ (.Return (some (.Name x p0)) pos) (dRetO i) := by
  refine ⟨fun c₀ c g ρ σ H D r q z => semS_of (ps_ret hv) ?_⟩
  obtain ⟨ds, h1, q⟩ := q
  obtain ⟨p, c', e1, rp, r'⟩ := r.freeze h1
  exact ⟨_, e1, c', g, _, r'.gr, r'.fine, rp, q⟩
/-- x goes over into frozen data -/
def dFreeze (i : Nat) (t : DS) : DS := fun D ρ g => ∃ ds, ρ[i]? = some (.ow ds) ∧ t D (ρ.set i (.fz (.lst ds))) g
theorem ws_freeze {i : Nat} (h : WS B X W H₀ st t) : WS B X W H₀ st (dFreeze i t) := by
  refine ⟨fun c₀ c g ρ σ H D r q z => ?_⟩
  obtain ⟨ds, h1, q⟩ := q
  obtain ⟨p, c', e1, rp, r'⟩ := r.freeze h1
  exact h.run c₀ c' g _ σ H D r' q z
def dIfS (c : DT) (t u : DS) : DS := fun D ρ g => c (mask ρ) g (fun b g' => if b = true then t D ρ g' else u D ρ g') fun ex g' => D.xz ex ρ g'
theorem ws_if {c : Expr} {a b : List Stmt} {tc : DT} (hc : WT B X W c tc) (ha : WB B X W H₀ a t) (hb : WB B X W H₀ b u) : WS B X W H₀ (.If c a b pos) (dIfS tc t u) := by
  refine ⟨fun c₀ c g ρ σ H D r q z => semS_of (ps_if pt_sem pss_sem pss_sem) ?_⟩
  refine (hc.run c g _ σ H _ _ r.fine r.mask q (r.zok z)).mono fun v H' ⟨c', g', s, k, q'⟩ => ?_
  cases v with
  | true => exact ha.run c₀ c' g' ρ σ H' D (r.next s k) q' z
  | false => exact hb.run c₀ c' g' ρ σ H' D (r.next s k) q' z
/-- x = e -/
def dSet (i : Nat) (te : DE) : DS := fun D ρ g => te (mask ρ) g (fun d g' => D.nx (ρ.set i (.fz d)) g') fun ex g' => D.xz ex ρ g'
theorem ws_set {i : Nat} {x : Str} {pos' : Pos} (hN : X.N.Nodup) (hi : X.N[i]? = some x) (hx : Loc X.env.scope x) (he : WE B X W e te) (hs : swapsWith e (some (.Name x pos')) pos.line X.env = pure false := by rfl)
    (hf : X.fn x = true ∨ X.env.scope.names.lookup x = some .local := by first | exact .inl rfl | exact .inr rfl) : WS B X W H₀ (.Assign [.Name x pos'] e pos) (dSet i te) := by
  refine ⟨fun c₀ c g ρ σ H D r q z => semS_of (ps_set hN hi hx pe_sem hs hf) ?_⟩
  refine (he.run c g _ σ H _ _ r.fine r.mask q (r.zok z)).mono fun v H' ⟨c', g', d, s, k, rr, q'⟩ => ?_
  exact ⟨c', g', _, (r.next s k).set rr, q'⟩
end
/-! ### a def by its body -/
def dStart (N : List Str) (ds : List D) : SEnv := ds.map SV.fz ++ List.replicate (N.length - ds.length) .un
/-- the promise S is kept by the reading t -/
def Keeps (N : List Str) (ar : Nat) (S : DSp) (t : DS) : Prop := ∀ ds g Φ Ψ, ds.length = ar → S ds g Φ Ψ → t { nx := fun _ g' => Φ .non g', rt := Φ, xz := fun ex _ g' => Ψ ex g' } (dStart N ds) g
section
variable {B : Tb} {P : Program} {w : World} {K : PySem.W.Frag} {mg : Str → Option Value} {base : Heap}
theorem start_rel {c : Cn} {g : Gh} {H : Hp} {N : List Str} {vs : List V} {ds : List D} (k : Fine B K c g H) (r : Reps B K c vs ds) : RelS B K c H c g (dStart N ds) (L2.start N vs) H := by
  have lens := r.length
  refine ⟨Grow.refl c H, k, ?_, fun i d h => ?_, fun i es h => ?_, fun i j es fs p _ h => ?_, fun i p k fs h => ?_, fun i j p q k l fs gs h => ?_⟩
  · unfold dStart L2.start
    simp only [List.length_append, List.length_map, List.length_replicate, lens]
  · unfold dStart at h
    by_cases hi : i < ds.length
    · rw [List.getElem?_append_left (by simpa using hi), List.getElem?_map] at h
      cases e : ds[i]? with
      | none => rw [e] at h; cases h
      | some d' =>
        rw [e] at h
        cases h
        obtain ⟨v, h1, h2⟩ := r.getD e
        refine ⟨v, ?_, h2⟩
        unfold L2.start
        rw [List.getElem?_append_left (by simpa [lens] using hi), List.getElem?_map, h1]; rfl
    · rw [List.getElem?_append_right (by simpa using hi), List.getElem?_replicate] at h
      split at h <;> cases h
  all_goals
    unfold dStart at h
    by_cases hi : i < ds.length
    · rw [List.getElem?_append_left (by simpa using hi), List.getElem?_map] at h
      cases e : ds[i]? with
      | none => rw [e] at h; cases h
      | some d' => rw [e] at h; cases h
    · rw [List.getElem?_append_right (by simpa using hi), List.getElem?_replicate] at h
      split at h <;> cases h
theorem def_ok {x qual : Str} {st : Stmt} {f : Addr} {fd : FuncData} {N ps : List Str} {L : Nat} {S : DSp} {t : DS} (F : Fun K x qual st f fd) (Sc : FnScope N ps (defScope st))
    (body : ∀ (cdv : Value) (A : Around) (outer : List Env) (s : Shared) (H : Hp) (E : XK), let X := cxOf (L2.CX P w) P w K mg base N qual (defScope st) f cdv A outer s H E
      Ctx L X (fun cls d _ H => E cls d H) → WB B X (fun cls d _ H => E cls d H) H (defBody st) t) (hk : Keeps N ps.length S t) : FnG P w K mg base (L + 1) f fd ps (spOf B K ps.length S) := by
  refine fng_of F Sc (fun vs H Q E h => ?_) fun cdv A outer s H vs Q E hr gd h => ?_
  · obtain ⟨c, g, ds, Φ, Ψ, hl, _⟩ := h
    exact hl
  · obtain ⟨c, g, ds, Φ, Ψ, hl, k, rs, hS, hq, he⟩ := h
    refine ⟨_, pss_sem, ?_⟩
    have C : Ctx L (cxOf (L2.CX P w) P w K mg base N qual (defScope st) f cdv A outer s H E) (fun cls d _ H => E cls d H) := ⟨rfl, hr, gd, takes_of rfl rfl rfl rfl⟩
    have b := (body cdv A outer s H E C).run c c g (dStart N ds) (L2.start N vs) H _ (start_rel k rs) (hk ds g Φ Ψ (by rw [← rs.length]; exact hl) hS) (fun c' g' ρ' σ' H' ex cls d r' e' q' => he c' H' g' cls d ex r'.gr r'.fine e' q')
    intro pins s' I
    refine thn (b pins s' I) fun fl s1 hs => SP.imp hs (fun σ' H' ⟨c', g', ρ', r', q'⟩ => ?_) (fun v H' ⟨c', g', d, s2, k2, r2, q'⟩ => ?_) (fun _ _ ⟨_, _, _, _, q⟩ => q.elim) (fun _ _ ⟨_, _, _, _, q⟩ => q.elim)
    · exact hq c' H' g' .non .non r'.gr r'.fine .non q'
    · exact hq c' H' g' v d s2 k2 r2 q'
end
end DL

namespace DL
open PySem L2 PyProof.Rows
/-! ### the built-in classes -/
def isInt : Kd → Option Bool
  | .int => some true
  | .bl => some true
  | .obj _ => none
  | .exc _ => none
  | _ => some false
def isBool : Kd → Option Bool
  | .bl => some true
  | .obj _ => none
  | .exc _ => none
  | _ => some false
def isStr : Kd → Option Bool
  | .str => some true
  | .obj _ => none
  | .exc _ => none
  | _ => some false
def isList : Kd → Option Bool
  | .lst => some true
  | .obj _ => none
  | .exc _ => none
  | _ => some false
def isTuple : Kd → Option Bool
  | .tup => some true
  | .obj _ => none
  | .exc _ => none
  | _ => some false
def isDict : Kd → Option Bool
  | .dct => some true
  | .obj _ => none
  | .exc _ => none
  | _ => some false
section
variable {B : Tb} {K : PySem.W.Frag}
theorem ok_int : IsOk B K isInt (.type "int") := by
  intro k b h
  cases k <;> simp only [isInt, Option.some.injEq] at h <;> first
    | (subst h; exact ⟨trivial, kit_ty (by decide +kernel)⟩)
    | cases h
theorem ok_bool : IsOk B K isBool (.type "bool") := by
  intro k b h
  cases k <;> simp only [isBool, Option.some.injEq] at h <;> first
    | (subst h; exact ⟨trivial, kit_ty (by decide +kernel)⟩)
    | cases h
theorem ok_str : IsOk B K isStr (.type "str") := by
  intro k b h
  cases k <;> simp only [isStr, Option.some.injEq] at h <;> first
    | (subst h; exact ⟨trivial, kit_ty (by decide +kernel)⟩)
    | cases h
theorem ok_list : IsOk B K isList (.type "list") := by
  intro k b h
  cases k <;> simp only [isList, Option.some.injEq] at h <;> first
    | (subst h; exact ⟨trivial, kit_ty (by decide +kernel)⟩)
    | cases h
theorem ok_tuple : IsOk B K isTuple (.type "tuple") := by
  intro k b h
  cases k <;> simp only [isTuple, Option.some.injEq] at h <;> first
    | (subst h; exact ⟨trivial, kit_ty (by decide +kernel)⟩)
    | cases h
theorem ok_dict : IsOk B K isDict (.type "dict") := by
  intro k b h
  cases k <;> simp only [isDict, Option.some.injEq] at h <;> first
    | (subst h; exact ⟨trivial, kit_ty (by decide +kernel)⟩)
    | cases h
end
section
variable {B : Tb} {X : Cx} {W : WX} {e : Expr} {te : DE} {p p1 pos : Pos}
/-- isinstance(e, T), T a built-in class -/
theorem we_isT {x : Str} {n : String} {f : Kd → Option Bool} (hf : IsOk B X.K f (.type n)) (hx : Gl X x) (hmx : X.mg x = none) (hv : bootBuiltins x = some (.type n)) (hg : Gl X "isinstance") (hm : X.mg "isinstance" = none) (he : WE B X W e te) (hn : x ≠ "__name__" := by decide) (hdb : (x == ("__debug__" : Str)) = false := by decide)
    (hs : starEach [e, .Name x p1] X.env = (false, eval e X.env) :: starEach [.Name x p1] X.env := by rfl) (hpl : (backTo pos (starEach [.Name x p1] X.env)).any (·.1) = false := by rfl) : WE B X W (.Call (.Name "isinstance" p) [e, .Name x p1] [] pos) (dU (isiD f) te) :=
  we_isi (cv := .ty n) (pe_bltn hx hmx hv (show RelV (.ty n) (.type n) from rfl) hn hdb) (.ty n) hf hg hm he hs rfl hpl
/-- the name in slot i -/
theorem wv (i : Nat) {x : Str} {pos : Pos} (hN : X.N[i]? = some x := by rfl) (hv : Vis X.env.scope x := by first | exact Or.inl rfl | exact Or.inr (Or.inl rfl) | exact Or.inr (Or.inr rfl)) (hd : (x == ("__debug__" : Str)) = false := by decide)
    (hcd : (x == ("__classdict__" : Str)) = false := by decide) : WE B X W (.Name x pos) (dVar i) := we_var hN hv hd hcd
end
end DL

namespace DL
open PySem L2 PyProof.Rows
/-! ### what is walked -/
def Walks (B : Tb) (K : PySem.W.Frag) (c : Cn) (J : It) (ds : List D) : Prop := ∀ c' g' H', Le c c' → Fine B K c' g' H' →
  (∀ (i : Nat) (d : D), ds[i]? = some d → J.go i H' ∧ ∀ x H2, J.yld i H' x H2 → ∃ c2, Grow c' H' c2 H2 ∧ Fine B K c2 g' H2 ∧ Rep B K c2 x d) ∧ J.stop ds.length H'
theorem Walks.mono {B : Tb} {K : PySem.W.Frag} {c c1 : Cn} {J : It} {ds : List D} (h : Walks B K c J ds) (e : Le c c1) : Walks B K c1 J ds := fun c' g' H' e' k => h c' g' H' (e.trans e') k
abbrev DI := DEnv → Gh → (List D → Gh → Prop) → DZ → Prop
def semI (X : Cx) (tg iter : Expr) : TI := fun σ H R => ∀ pins s, Inv X pins σ H s → wpAny (model X.prog X.w) X.A (eval iter X.env) (fun v s1 => wpAny (model X.prog X.w) X.A (pyIter v) (PIE X pins σ tg R) X.xe s1) X.xe s
theorem pi_sem {X : Cx} {tg iter : Expr} : PI X tg iter (semI X tg iter) := ⟨fun pins s _ _ _ I h => h pins s I⟩
theorem semI_of {X : Cx} {tg iter : Expr} {t : TI} (h : PI X tg iter t) {σ : L2.St} {H : Hp} {R : It → Hp → Prop} (q : t σ H R) : semI X tg iter σ H R := fun pins s I => h.run pins s σ H R I q
structure WI (B : Tb) (X : Cx) (W : WX) (tg iter : Expr) (t : DI) : Prop where
  run : ∀ (c : Cn) (g : Gh) (ρ : DEnv) (σ : L2.St) (H : Hp) (Q : List D → Gh → Prop) (Z : DZ), Fine B X.K c g H → RelP B X.K c ρ σ → t ρ g Q Z → ZOk B X.K c H σ W Z →
    semI X tg iter σ H fun J H1 => ∃ c1 g1 ds, Grow c H c1 H1 ∧ Fine B X.K c1 g1 H1 ∧ Walks B X.K c1 J ds ∧ Q ds g1
theorem semI.mono {X : Cx} {tg iter : Expr} {σ : L2.St} {H : Hp} {R R' : It → Hp → Prop} (h : semI X tg iter σ H R) (k : ∀ J H', R J H' → R' J H') : semI X tg iter σ H R' := fun pins s I =>
  thn (h pins s I) fun _ _ h1 => thn h1 fun _ _ ⟨it, fp, tn, J, H', a, b, c, d, e, f⟩ => ⟨it, fp, tn, J, H', a, b, c, d, e, k J H' f⟩
section
variable {B : Tb} {X : Cx} {W : WX} {tg e a b : Expr} {te : DE} {tr : DA} {p pos : Pos}
/-- the items of a list, of a tuple, the signs of a text -/
def itemsD : D → Option (List D)
  | .lst ds => some ds
  | .tup ds => some ds
  | .str x => some (x.cps.toList.map fun c => .str ⟨#[c]⟩)
  | _ => none
def dItems (te : DE) : DI := fun ρ g Q Z => te ρ g (fun x g1 => ∃ ds, itemsD x = some ds ∧ Q ds g1) Z
def dList (te : DE) : DI := fun ρ g Q Z => te ρ g (fun x g1 => ∃ ds, x = .lst ds ∧ Q ds g1) Z
def dTuple (te : DE) : DI := fun ρ g Q Z => te ρ g (fun x g1 => ∃ ds, x = .tup ds ∧ Q ds g1) Z
def dSigns (te : DE) : DI := fun ρ g Q Z => te ρ g (fun x g1 => ∃ z, x = .str z ∧ Q (z.cps.toList.map fun c => .str ⟨#[c]⟩) g1) Z
theorem walks_list {K : PySem.W.Frag} {c : Cn} {a : Addr} {vs : List V} {ds : List D} (h : c.F a = some (.lst vs)) (r : Reps B K c vs ds) : Walks B K c (Itl K a) ds := by
  intro c' g' H' e k
  have hl : SqL K H' a vs := SqL.of (k.sub _ _ (e.F _ _ h))
  refine ⟨fun i d hi => ?_, ⟨vs, hl, Nat.le_of_eq r.length⟩⟩
  obtain ⟨v, h1, h2⟩ := r.getD hi
  refine ⟨⟨vs, v, hl, h1⟩, fun x H2 ⟨e2, hx⟩ => ?_⟩
  subst e2
  have h3 := hx vs hl
  rw [h1] at h3
  cases h3
  exact ⟨c', Grow.refl _ _, k, h2.mono e⟩
theorem walks_tup {K : PySem.W.Frag} {c : Cn} {a : Addr} {vs : List V} {ds : List D} (h : SqT K c.F a vs) (r : Reps B K c vs ds) : Walks B K c (Itt K a) ds := by
  intro c' g' H' e k
  have hl : SqT K H' a vs := Evl.ex_t k.sub (Evl.ex_t e.F h)
  refine ⟨fun i d hi => ?_, ⟨vs, hl, Nat.le_of_eq r.length⟩⟩
  obtain ⟨v, h1, h2⟩ := r.getD hi
  refine ⟨⟨vs, v, hl, h1⟩, fun x H2 ⟨e2, hx⟩ => ?_⟩
  subst e2
  have h3 := hx vs hl
  rw [h1] at h3
  cases h3
  exact ⟨c', Grow.refl _ _, k, h2.mono e⟩
theorem wi_list (he : WE B X W e te) : WI B X W tg e (dList te) := by
  refine ⟨fun c g ρ σ H Q Z k r q z => semI_of (pi_list pe_sem) ?_⟩
  refine (he.run c g ρ σ H _ Z k r q z).mono fun v H1 ⟨c1, g1, d, s1, k1, rr, ds, e1, q1⟩ => ?_
  subst e1
  cases rr with
  | lst h rs => exact ⟨_, rfl, ⟨_, SqL.of (k1.sub _ _ h)⟩, c1, g1, ds, s1, k1, walks_list h rs, q1⟩
theorem wi_tuple (he : WE B X W e te) : WI B X W tg e (dTuple te) := by
  refine ⟨fun c g ρ σ H Q Z k r q z => semI_of (pi_tup pe_sem) ?_⟩
  refine (he.run c g ρ σ H _ Z k r q z).mono fun v H1 ⟨c1, g1, d, s1, k1, rr, ds, e1, q1⟩ => ?_
  subst e1
  cases rr with
  | tup h rs => exact ⟨_, rfl, ⟨_, Evl.ex_t k1.sub h⟩, c1, g1, ds, s1, k1, walks_tup h rs, q1⟩
theorem wi_signs (he : WE B X W e te) : WI B X W tg e (dSigns te) := by
  refine ⟨fun c g ρ σ H Q Z k r q z => semI_of (pi_str pe_sem) ?_⟩
  refine (he.run c g ρ σ H _ Z k r q z).mono fun v H1 ⟨c1, g1, d, s1, k1, rr, x, e1, q1⟩ => ?_
  subst e1
  cases rr
  refine ⟨x, rfl, c1, g1, _, s1, k1, fun c' g' H' e k => ⟨fun i d hi => ?_, ?_⟩, q1⟩
  · rw [List.getElem?_map, Option.map_eq_some_iff] at hi
    obtain ⟨cp, h1, h2⟩ := hi
    subst h2
    have h3 : x.cps[i]? = some cp := by simpa using h1
    refine ⟨(Array.getElem?_eq_some_iff.mp h3).1, fun y H2 ⟨e2, cp', e3, e4⟩ => ?_⟩
    subst e2 e4
    rw [h3] at e3
    cases e3
    exact ⟨c', Grow.refl _ _, k, .str _⟩
  · show x.cps.size ≤ _
    simp
/-- lo, lo + 1, .. (n of them) -/
def rangeL (lo : Int) (n : Nat) : List D := (List.range n).map fun i : Nat => D.int (lo + (i : Int))
def fits62 (i : Int) : Bool := decide (-(2 ^ 62) ≤ i) && decide (i < 2 ^ 62)
def dRange1 (te : DE) : DI := fun ρ g Q Z => te ρ g (fun x g1 => ∃ j, x = .int j ∧ fits62 j = true ∧ Q (rangeL 0 j.toNat) g1) Z
def dRange2 (ta tb : DE) : DI := fun ρ g Q Z => ta ρ g (fun x g1 => tb ρ g1 (fun y g2 => ∃ i j, x = .int i ∧ y = .int j ∧ (fits62 i && fits62 j) = true ∧ Q (rangeL i (j - i).toNat) g2) Z) Z
theorem walks_range {K : PySem.W.Frag} {c : Cn} {lo : Int} {n : Nat} : Walks B K c (Itr lo n) (rangeL lo n) := by
  intro c' g' H' e k
  refine ⟨fun i d hi => ?_, ?_⟩
  · unfold rangeL at hi
    rw [List.getElem?_map, Option.map_eq_some_iff] at hi
    obtain ⟨j, h1, h2⟩ := hi
    obtain ⟨h3, h4⟩ := List.getElem?_eq_some_iff.mp h1
    rw [List.getElem_range] at h4
    subst h4 h2
    rw [List.length_range] at h3
    refine ⟨h3, fun x H2 ⟨e2, hx⟩ => ?_⟩
    subst e2 hx
    exact ⟨c', Grow.refl _ _, k, .int _⟩
  · show n ≤ _
    simp [rangeL]
theorem fits_ok {i : Int} (h : fits62 i = true) : -(2 ^ 62) ≤ i ∧ i < 2 ^ 62 := by
  unfold fits62 at h
  rw [Bool.and_eq_true, decide_eq_true_eq, decide_eq_true_eq] at h
  exact h
theorem wi_range1 (hg : Gl X "range") (hm : X.mg "range" = none) (ha : WE B X W a te) (hs : starEach [a] X.env = [(false, eval a X.env)] := by rfl) : WI B X W tg (.Call (.Name "range" p) [a] [] pos) (dRange1 te) := by
  refine ⟨fun c g ρ σ H Q Z k r q z => semI_of (pi_range1 hg hm (pa_cons pe_sem pa_nil hs) hs) ?_⟩
  refine (ha.run c g ρ σ H _ Z k r q z).mono fun v H1 ⟨c1, g1, d, s1, k1, rr, j, e1, hj, q1⟩ => ?_
  subst e1
  cases rr
  exact ⟨j, rfl, (fits_ok hj).1, (fits_ok hj).2, c1, g1, _, s1, k1, walks_range, q1⟩
theorem wi_range2 {ta tb : DE} (hg : Gl X "range") (hm : X.mg "range" = none) (ha : WE B X W a ta) (hb : WE B X W b tb) (hs : starEach [a, b] X.env = [(false, eval a X.env), (false, eval b X.env)] := by rfl) (hs2 : starEach [b] X.env = [(false, eval b X.env)] := by rfl) :
    WI B X W tg (.Call (.Name "range" p) [a, b] [] pos) (dRange2 ta tb) := by
  refine ⟨fun c g ρ σ H Q Z k r q z => semI_of (pi_range2 hg hm (pa_cons pe_sem (pa_cons pe_sem pa_nil hs2) (by rw [hs, hs2])) hs hs2) ?_⟩
  refine two ha hb k r q z fun x y v u c2 g2 H2 s2 k2 r1 r2 ⟨i, j, e1, e2, hij, q2⟩ => ?_
  subst e1 e2
  cases r1; cases r2
  obtain ⟨hi, hj⟩ := Bool.and_eq_true_iff.mp hij
  exact ⟨i, j, rfl, ⟨(fits_ok hi).1, (fits_ok hi).2, (fits_ok hj).1, (fits_ok hj).2⟩, c2, g2, _, s2, k2, walks_range, q2⟩
/-- pairs of a number and an item -/
def numbered (ds : List D) : List D := (List.range ds.length).zipWith (fun (i : Nat) d => D.tup [.int (i : Int), d]) ds
def dEnum (te : DE) : DI := fun ρ g Q Z => te ρ g (fun x g1 => ∃ ds, x = .lst ds ∧ Q (numbered ds) g1) Z
theorem numbered_get {ds : List D} {i : Nat} {d : D} (h : (numbered ds)[i]? = some d) : ∃ x, ds[i]? = some x ∧ d = .tup [.int (i : Int), x] := by
  unfold numbered at h
  rw [List.getElem?_zipWith] at h
  cases e : ds[i]? with
  | none => rw [e] at h; cases e2 : (List.range ds.length)[i]? <;> rw [e2] at h <;> cases h
  | some x =>
    rw [e] at h
    have hl : i < ds.length := (List.getElem?_eq_some_iff.mp e).1
    rw [List.getElem?_range hl] at h
    cases h
    exact ⟨x, rfl, rfl⟩
theorem numbered_length (ds : List D) : (numbered ds).length = ds.length := by simp [numbered]
theorem wi_enum {elts : List Expr} {kk : Nat} {tpos : Pos} (hg : Gl X "enumerate") (hm : X.mg "enumerate" = none) (he : WE B X W e te) (hs : starEach [e] X.env = [(false, eval e X.env)] := by rfl) : WI B X W (.Tuple elts kk tpos) (.Call (.Name "enumerate" p) [e] [] pos) (dEnum te) := by
  refine ⟨fun c g ρ σ H Q Z k r q z => semI_of (pi_enum hg hm (pa_cons pe_sem pa_nil hs) hs) ?_⟩
  refine (he.run c g ρ σ H _ Z k r q z).mono fun v H1 ⟨c1, g1, d, s1, k1, rr, ds, e1, q1⟩ => ?_
  subst e1
  cases rr with
  | @lst a vs _ h rs =>
    refine ⟨_, _, rfl, SqL.of (k1.sub _ _ h), c1, g1, _, s1, k1, fun c' g' H' e k => ?_, q1⟩
    have hl : SqL X.K H' a vs := SqL.of (k.sub _ _ (e.F _ _ h))
    refine ⟨fun i d hi => ?_, ⟨vs, hl, by rw [numbered_length]; exact Nat.le_of_eq rs.length⟩⟩
    obtain ⟨x, h1, h2⟩ := numbered_get hi
    subst h2
    obtain ⟨v, h3, h4⟩ := rs.getD h1
    refine ⟨⟨vs, v, hl, h3⟩, fun y H2 ⟨T, x', e1, hT, e2, e3⟩ => ?_⟩
    have h5 := e3 vs hl
    rw [h3] at h5
    cases h5
    subst e1 e2
    obtain ⟨s4, k4⟩ := k.lay (o := .tup [.int (i : Nat), v]) hT
    exact ⟨_, s4, k4, .tup (SqT.of upd_same) (.cons (.int _) (.cons ((h4.mono e).mono s4.le) .nil))⟩
/-- two lists abreast -/
def zipped (xs ys : List D) : List D := xs.zipWith (fun x y => D.tup [x, y]) ys
def dZip (ta tb : DE) : DI := fun ρ g Q Z => ta ρ g (fun x g1 => tb ρ g1 (fun y g2 => ∃ xs ys, x = .lst xs ∧ y = .lst ys ∧ Q (zipped xs ys) g2) Z) Z
theorem wi_zip {elts : List Expr} {kk : Nat} {tpos : Pos} {ta tb : DE} (hg : Gl X "zip") (hm : X.mg "zip" = none) (ha : WE B X W a ta) (hb : WE B X W b tb) (hs : starEach [a, b] X.env = (false, eval a X.env) :: starEach [b] X.env := by rfl) (hs2 : starEach [b] X.env = (false, eval b X.env) :: starEach [] X.env := by rfl)
    (hpl : (backTo pos (starEach [b] X.env)).any (·.1) = false := by rfl) : WI B X W (.Tuple elts kk tpos) (.Call (.Name "zip" p) [a, b] [] pos) (dZip ta tb) := by
  refine ⟨fun c g ρ σ H Q Z k r q z => semI_of (pi_zip hg hm (pa_cons pe_sem (pa_cons pe_sem pa_nil hs2) hs) hs hpl) ?_⟩
  refine two ha hb k r q z fun x y v u c2 g2 H2 s2 k2 r1 r2 ⟨xs, ys, e1, e2, q2⟩ => ?_
  subst e1 e2
  cases r1 with
  | @lst a1 vs1 _ h1 rs1 =>
    cases r2 with
    | @lst a2 vs2 _ h2 rs2 =>
      refine ⟨_, _, _, _, rfl, SqL.of (k2.sub _ _ h1), SqL.of (k2.sub _ _ h2), c2, g2, _, s2, k2, fun c' g' H' e k => ?_, q2⟩
      have hl1 : SqL X.K H' a1 vs1 := SqL.of (k.sub _ _ (e.F _ _ h1))
      have hl2 : SqL X.K H' a2 vs2 := SqL.of (k.sub _ _ (e.F _ _ h2))
      refine ⟨fun i d hi => ?_, ⟨vs1, vs2, hl1, hl2, ?_⟩⟩
      · unfold zipped at hi
        rw [List.getElem?_zipWith] at hi
        cases ex : xs[i]? with
        | none => rw [ex] at hi; cases ey : ys[i]? <;> rw [ey] at hi <;> cases hi
        | some x =>
          cases ey : ys[i]? with
          | none => rw [ex, ey] at hi; cases hi
          | some y =>
            rw [ex, ey] at hi
            cases hi
            obtain ⟨v1, f1, f2⟩ := rs1.getD ex
            obtain ⟨v2, f3, f4⟩ := rs2.getD ey
            refine ⟨⟨vs1, vs2, v1, v2, hl1, hl2, f1, f3⟩, fun w H3 ⟨T, x', y', e1, hT, e2, e3, e4⟩ => ?_⟩
            have h5 := e3 vs1 hl1
            rw [f1] at h5
            cases h5
            have h6 := e4 vs2 hl2
            rw [f3] at h6
            cases h6
            subst e1 e2
            obtain ⟨s4, k4⟩ := k.lay (o := .tup [v1, v2]) hT
            exact ⟨_, s4, k4, .tup (SqT.of upd_same) (.cons ((f2.mono e).mono s4.le) (.cons ((f4.mono e).mono s4.le) .nil))⟩
      · have l1 := rs1.length
        have l2 := rs2.length
        unfold zipped
        rw [List.length_zipWith]
        omega
end
/-! ### targets -/
/-- what a target makes of the slots -/
abbrev DG := D → SEnv → Option SEnv
def gN (i : Nat) : DG := fun d ρ => some (ρ.set i (.fz d))
def gsN : List Nat → List D → SEnv → Option SEnv
  | [], [], ρ => some ρ
  | i :: is, d :: ds, ρ => gsN is ds (ρ.set i (.fz d))
  | _, _, _ => none
def gT (is : List Nat) : DG := fun d ρ => match d with
  | .tup ds => gsN is ds ρ
  | _ => none
structure WG (B : Tb) (X : Cx) (H₀ : Hp) (tg : Expr) (t : DG) : Prop where
  ex : ∃ g : TG, PG X tg g ∧ ∀ c₀ c gh ρ ρ' σ H v d (Q : L2.St → Hp → Prop), RelS B X.K c₀ H₀ c gh ρ σ H → Rep B X.K c v d → t d ρ = some ρ' → (∀ σ', RelS B X.K c₀ H₀ c gh ρ' σ' H → Q σ' H) → g v σ H Q
structure WGs (B : Tb) (X : Cx) (H₀ : Hp) (tgs : List Expr) (is : List Nat) : Prop where
  ex : ∃ g : TGs, PGs X tgs g ∧ ∀ c₀ c gh ρ ρ' σ H vs ds (Q : L2.St → Hp → Prop), RelS B X.K c₀ H₀ c gh ρ σ H → Reps B X.K c vs ds → gsN is ds ρ = some ρ' → (∀ σ', RelS B X.K c₀ H₀ c gh ρ' σ' H → Q σ' H) → g vs σ H Q
section
variable {B : Tb} {X : Cx} {H₀ : Hp} {pos : Pos}
theorem wg_name {i : Nat} {x : Str} (hN : X.N.Nodup) (hi : X.N[i]? = some x) (hx : Loc X.env.scope x) (hf : X.fn x = true ∨ X.env.scope.names.lookup x = some .local := by first | exact .inl rfl | exact .inr rfl) : WG B X H₀ (.Name x pos) (gN i) := by
  refine ⟨gName i, pg_name hN hi hx hf, fun c₀ c gh ρ ρ' σ H v d Q r rv e q => ?_⟩
  cases e
  exact q _ (r.set rv)
theorem wgs_nil : WGs B X H₀ [] [] := by
  refine ⟨gNil, pgs_nil, fun c₀ c gh ρ ρ' σ H vs ds Q r rs e q => ?_⟩
  cases rs with
  | nil => cases e; exact ⟨rfl, q _ r⟩
  | cons _ _ => cases e
theorem wgs_cons {i : Nat} {x : Str} {es : List Expr} {is : List Nat} (hN : X.N.Nodup) (hi : X.N[i]? = some x) (hx : Loc X.env.scope x) (h2 : WGs B X H₀ es is) (hf : X.fn x = true ∨ X.env.scope.names.lookup x = some .local := by first | exact .inl rfl | exact .inr rfl)
    (hs : (assignEach (.Name x pos :: es) X.env).map (·.2) = assign (.Name x pos) X.env :: (assignEach es X.env).map (·.2) := by rfl) : WGs B X H₀ (.Name x pos :: es) (i :: is) := by
  obtain ⟨g2, p2, h2⟩ := h2.ex
  refine ⟨gCons (gName i) g2, pgs_cons (pg_name hN hi hx hf) p2 hs, fun c₀ c gh ρ ρ' σ H vs ds Q r rs e q => ?_⟩
  cases rs with
  | nil => cases e
  | cons rv rs => exact ⟨_, _, rfl, h2 c₀ c gh _ ρ' _ H _ _ Q (r.set rv) rs e q⟩
theorem wg_tup {es : List Expr} {is : List Nat} {k n : Nat} (hc : X.calm = true) (h : WGs B X H₀ es is) (hn : (assignEach es X.env).length = n := by rfl) (hl : is.length = n := by rfl) (hst : (assignEach es X.env).findIdx? (·.1) = none := by rfl) : WG B X H₀ (.Tuple es k pos) (gT is) := by
  obtain ⟨g2, p2, h2⟩ := h.ex
  refine ⟨gTup X.K n g2, pg_tup hc p2 hn hst, fun c₀ c gh ρ ρ' σ H v d Q r rv e q => ?_⟩
  unfold gT at e
  split at e
  · rename_i ds
    cases rv with
    | tup ht rs =>
      have lens : ∀ (is : List Nat) (ds : List D) (ρ ρ' : SEnv), gsN is ds ρ = some ρ' → is.length = ds.length := by
        intro is
        induction is with
        | nil => intro ds ρ ρ' e; cases ds with | nil => rfl | cons _ _ => cases e
        | cons i is ih => intro ds ρ ρ' e; cases ds with | nil => cases e | cons d ds => exact congrArg (· + 1) (ih ds _ _ e)
      exact ⟨_, _, rfl, Evl.ex_t r.fine.sub ht, by rw [rs.length, ← lens _ _ _ _ e]; exact hl, h2 c₀ c gh ρ ρ' σ H _ _ Q r rs e q⟩
  · cases e
end
/-! ### for -/
def forD (tg : DG) (tb : DS) (En : DEnds) : List D → SEnv → Gh → Prop
  | [], ρ, g => En.nx ρ g
  | d :: ds, ρ, g => ∃ ρ', tg d ρ = some ρ' ∧ tb { En with nx := forD tg tb En ds, ct := forD tg tb En ds, bk := En.nx } ρ' g
def dFor (ti : DI) (tg : DG) (tb : DS) : DS := fun D ρ g => ti (mask ρ) g (fun ds g' => forD tg tb D ds ρ g') fun ex g' => D.xz ex ρ g'
section
variable {B : Tb} {X : Cx} {W : WX} {H₀ : Hp} {pos : Pos}
/-- the entry may be told anew -/
theorem Grow.over {c₀ c1 c : Cn} {H0 H1 H : Hp} (r1 : Grow c₀ H0 c1 H1) (r : Grow c1 H0 c H) : Grow c₀ H0 c H := by
  refine ⟨r1.le.trans r.le, fun a o h hp hm => r.keep a o h (fun z => ?_) (fun z => ?_), fun a h => ?_, fun a o h => ?_⟩
  · rcases r1.fresh a (.inl z) with (q | q) | q
    · exact hp q
    · exact hm q
    · rw [h] at q; cases q
  · rcases r1.fresh a (.inr z) with (q | q) | q
    · exact hp q
    · exact hm q
    · rw [h] at q; cases q
  · rcases r.fresh a h with q | q
    · exact r1.fresh a q
    · exact .inr q
  · rcases r.froz a o h with (q | q) | q
    · exact r1.froz a o q
    · exact .inl (.inr q)
    · rcases r1.fresh a q with q | q
      · exact .inr q
      · exact .inl (.inr q)
theorem RelS.rebase {K : PySem.W.Frag} {c₀ c1 c : Cn} {H1 H : Hp} {g g1 : Gh} {ρ ρ1 : SEnv} {σ σ1 : L2.St} (r1 : RelS B K c₀ H₀ c1 g1 ρ1 σ1 H1) (r : RelS B K c1 H₀ c g ρ σ H) : RelS B K c₀ H₀ c g ρ σ H :=
  ⟨r1.gr.over r.gr, r.fine, r.len, r.fz, r.ow, r.inj, r.ob, r.ob1⟩
theorem RelS.here {K : PySem.W.Frag} {c₀ c : Cn} {H : Hp} {g : Gh} {ρ : SEnv} {σ : L2.St} (r : RelS B K c₀ H₀ c g ρ σ H) : RelS B K c H₀ c g ρ σ H := by
  refine ⟨⟨Le.refl c, fun a o h hp hm => r.gr.keep a o h (fun z => hp (r.gr.le.pen _ z)) (fun z => ?_), fun a h => .inl h, fun a o h => .inl (.inl h)⟩, r.fine, r.len, r.fz, r.ow, r.inj, r.ob, r.ob1⟩
  obtain ⟨i, hi⟩ := List.getElem?_of_mem z
  exact hm (List.mem_of_getElem? (r.gr.le.ma i a hi))
theorem ws_for {tg iter : Expr} {body : List Stmt} {ti : DI} {dg : DG} {tb : DS} (hp : PassesOwn (model X.prog X.w) X.A X.env X.xe) (hc : X.calm = true) (hi : WI B X W tg iter ti) (hg : WG B X H₀ tg dg) (hb : WB B X W H₀ body tb)
    (hs : ∀ x, foldedSetIterable iter X.env x = pure x := by intro _; rfl) : WS B X W H₀ (.For tg iter body [] pos) (dFor ti dg tb) := by
  obtain ⟨gg, pg, hgg⟩ := hg.ex
  refine ⟨fun c₀ c g ρ σ H D r q z => semS_of (ps_for hp hc pi_sem pg pss_sem hs) ?_⟩
  refine (hi.run c g _ σ H _ _ r.fine r.mask q (r.zok z)).mono fun J H1 ⟨c1, g1, ds, s1, k1, wk, q1⟩ => ?_
  have r1 := r.next s1 k1
  refine ⟨fun i m σ' H' => m = ds.length - i ∧ i ≤ ds.length ∧ ∃ c' g' ρ', RelS B X.K c1 H₀ c' g' ρ' σ' H' ∧ forD dg tb D (ds.drop i) ρ' g', ⟨ds.length, by simp, Nat.zero_le _, c1, g1, ρ, r1.here, by simpa using q1⟩, ?_⟩
  rintro i m σ' H' ⟨rfl, hi, c', g', ρ', r', q'⟩
  obtain ⟨go, stop⟩ := wk c' g' H' r'.gr.le r'.fine
  by_cases hlt : i < ds.length
  · have hd : ds[i]? = some ds[i] := List.getElem?_eq_getElem hlt
    obtain ⟨g1', g2'⟩ := go i _ hd
    have hdr : ds.drop i = ds[i] :: ds.drop (i + 1) := List.drop_eq_getElem_cons hlt
    rw [hdr] at q'
    obtain ⟨ρ2, e2, q2⟩ := q'
    refine .inr ⟨g1', fun σ3 H3 => ∃ c3 g3 ρ3, RelS B X.K c1 H₀ c3 g3 ρ3 σ3 H3 ∧ forD dg tb D (ds.drop (i + 1)) ρ3 g3, fun σ3 H3 n3 => ⟨ds.length - (i + 1), by omega, rfl, hlt, n3⟩, fun x H2 y => ?_⟩
    obtain ⟨c2, s2, k2, rx⟩ := g2' x H2 y
    refine hgg c1 c2 g' ρ' ρ2 σ' H2 x _ _ (r'.next s2 k2) rx e2 fun σ3 r3 => ?_
    intro pins s I
    refine thn (hb.run c1 c2 g' ρ2 σ3 H2 _ r3 q2 (fun c' g' ρ' σ' H' ex cls d a b c => z c' g' ρ' σ' H' ex cls d (r1.rebase a) b c) pins s I) fun f s' hq => ?_
    exact SP.imp hq (fun _ _ h => h) (fun v H' ⟨c', g', d, s2, k2, rr, q'⟩ => ⟨c', g', d, r1.gr.over s2, k2, rr, q'⟩) (fun σ4 H4 ⟨c4, g4, ρ4, r4, q4⟩ => ⟨c4, g4, ρ4, r1.rebase r4, q4⟩) (fun _ _ h => h)
  · have e : i = ds.length := by omega
    subst e
    rw [List.drop_length] at q'
    exact .inl ⟨stop, c', g', ρ', r1.rebase r', q'⟩
/-- while: so often at most -/
def whileD (c : DT) (tb : DS) (D : DEnds) : Nat → SEnv → Gh → Prop
  | 0, _, _ => False
  | n + 1, ρ, g => c (mask ρ) g (fun b g' => if b = true then tb { D with nx := whileD c tb D n, ct := whileD c tb D n, bk := D.nx } ρ g' else D.nx ρ g') fun ex g' => D.xz ex ρ g'
def dWhile (c : DT) (tb : DS) : DS := fun D ρ g => ∃ n, whileD c tb D n ρ g
theorem ws_while {c : Expr} {body : List Stmt} {tc : DT} {tb : DS} (hp : PassesOwn (model X.prog X.w) X.A X.env X.xe) (hc : WT B X W c tc) (hb : WB B X W H₀ body tb) : WS B X W H₀ (.While c body [] pos) (dWhile tc tb) := by
  refine ⟨fun c₀ c g ρ σ H D r ⟨n, q⟩ z => semS_of (ps_while hp pt_sem pss_sem) ?_⟩
  refine ⟨fun m σ' H' => ∃ c' g' ρ', RelS B X.K c₀ H₀ c' g' ρ' σ' H' ∧ whileD tc tb D m ρ' g', ⟨n, c, g, ρ, r, q⟩, ?_⟩
  rintro m σ' H' ⟨c', g', ρ', r', q'⟩
  cases m with
  | zero => exact q'.elim
  | succ m =>
    refine (hc.run c' g' _ σ' H' _ _ r'.fine r'.mask q' (r'.zok z)).mono fun b H2 ⟨c2, g2, s2, k2, q2⟩ => ?_
    cases b with
    | true =>
      refine ⟨fun σ3 H3 => ∃ c3 g3 ρ3, RelS B X.K c₀ H₀ c3 g3 ρ3 σ3 H3 ∧ whileD tc tb D m ρ3 g3, fun σ3 H3 n3 => ⟨m, Nat.lt_succ_self m, n3⟩, ?_⟩
      intro pins s I
      refine thn (hb.run c₀ c2 g2 ρ' σ' H2 _ (r'.next s2 k2) q2 (fun c' g' ρ' σ' H' ex cls d a b c => z c' g' ρ' σ' H' ex cls d a b c) pins s I) fun f s' hq => ?_
      exact SP.imp hq (fun _ _ h => h) (fun _ _ h => h) (fun _ _ h => h) (fun _ _ h => h)
    | false => exact ⟨c2, g2, ρ', r'.next s2 k2, q2⟩
end
end DL

namespace DL
open PySem L2 PyProof.Rows
/-! ### an object that is ours alone may change -/
theorem Fine.own {B : Tb} {K : PySem.W.Frag} {c : Cn} {g : Gh} {H : Hp} {p : Addr} {o : HO} (k : Fine B K c g H) (hF : c.F p = none) (hp : c.pen ≠ some p) (hm : p ∉ c.ma) : Fine B K c g (upd H p o) := by
  refine ⟨fun a u h => ?_, k.pd, fun q hq => ?_, k.cells, k.mlen, k.mnd, fun i m a h1 h2 => ?_⟩
  · rw [upd_ne (ne_of_none h hF)]; exact k.sub a u h
  · obtain ⟨h1, h2, u, h3, h4⟩ := k.pen q hq
    refine ⟨h1, h2, u, ?_, h4⟩
    rw [upd_ne (fun z => hp (by rw [← z]; exact hq))]; exact h3
  · obtain ⟨h3, dx, fs, h4, h5⟩ := k.mem i m a h1 h2
    refine ⟨h3, dx, fs, ?_, h5⟩
    rw [upd_ne (fun z => hm (by rw [← z]; exact List.mem_of_getElem? h2))]; exact h4
theorem Grow.own {c c' : Cn} {H H' : Hp} {p : Addr} {o : HO} (s : Grow c H c' H') (hp : H p = none) : Grow c H c' (upd H' p o) :=
  ⟨s.le, fun a u h h1 h2 => by rw [upd_ne (ne_of_none h hp)]; exact s.keep a u h h1 h2, s.fresh, s.froz⟩
theorem Grow.ice {c c' : Cn} {H H' : Hp} {p : Addr} {o : HO} (s : Grow c H c' H') (hp : H p = none) (hF : c'.F p = none) : Grow c H { c' with F := upd c'.F p o } H' := by
  refine ⟨⟨s.le.F.trans (Evl.Ex.new hF), s.le.pen, s.le.ma, s.le.cel⟩, s.keep, s.fresh, fun a u h => ?_⟩
  have h : upd c'.F p o a = some u := h
  by_cases e : a = p
  · subst e; exact .inl (.inr hp)
  · rw [upd_ne e] at h; exact s.froz a u h
theorem Fine.ice {B : Tb} {K : PySem.W.Frag} {c : Cn} {g : Gh} {H : Hp} {p : Addr} {o : HO} (k : Fine B K c g H) (hF : c.F p = none) (ho : H p = some o) (hp : c.pen ≠ some p) (hm : p ∉ c.ma) : Fine B K { c with F := upd c.F p o } g H := by
  have fr : Ex c.F (upd c.F p o) := Evl.Ex.new hF
  refine ⟨fun a u h => ?_, k.pd, fun q hq => ?_, fun q hq => (let ⟨ns, h1, h2⟩ := k.cells q hq; ⟨ns, fr _ _ h1, h2⟩), k.mlen, k.mnd, fun i m a h1 h2 => ?_⟩
  · have h : upd c.F p o a = some u := h
    by_cases e : a = p
    · subst e; rw [upd_same] at h; rw [← h]; exact ho
    · rw [upd_ne e] at h; exact k.sub a u h
  · obtain ⟨h1, h2, u, h3, h4⟩ := k.pen q hq
    refine ⟨?_, h2, u, h3, h4⟩
    show upd c.F p o q = none
    rw [upd_ne (fun z => hp (by rw [← z]; exact hq))]; exact h1
  · obtain ⟨h3, dx, fs, h4, h5⟩ := k.mem i m a h1 h2
    refine ⟨?_, dx, fs, h4, RepF.mono (Le.ice hF) h5⟩
    show upd c.F p o a = none
    rw [upd_ne (fun z => hm (by rw [← z]; exact List.mem_of_getElem? h2))]; exact h3
/-! ### the block of a comprehension -/
theorem wipe_get (σ : L2.St) (j : Nat) : ∀ vs : List Nat, (wipe σ vs)[j]? = if j ∈ vs then (σ[j]?).map (fun _ => none) else σ[j]?
  | [] => by simp [wipe]
  | v :: vs => by
    unfold wipe
    have ih := wipe_get σ j vs
    by_cases e : v = j
    · subst e
      rw [if_pos List.mem_cons_self]
      by_cases hl : v < σ.length
      · rw [List.getElem?_set_self (by rw [wipe_length]; exact hl), List.getElem?_eq_getElem hl]; rfl
      · rw [List.getElem?_eq_none (by rw [List.length_set, wipe_length]; omega), List.getElem?_eq_none (by omega)]; rfl
    · rw [List.getElem?_set_ne e, ih]
      by_cases h : j ∈ vs
      · rw [if_pos h, if_pos (List.mem_cons_of_mem _ h)]
      · rw [if_neg h, if_neg]
        intro z
        rcases List.mem_cons.mp z with z | z
        · exact e z.symm
        · exact h z
theorem wipe_set {σ : L2.St} {i : Nat} {x : Option V} {vs : List Nat} (h : i ∈ vs) : wipe (σ.set i x) vs = wipe σ vs := by
  apply List.ext_getElem?
  intro j
  rw [wipe_get, wipe_get]
  by_cases e : i = j
  · subst e
    rw [if_pos h, if_pos h]
    by_cases hl : i < σ.length
    · rw [List.getElem?_set_self hl, List.getElem?_eq_getElem hl]; rfl
    · rw [List.getElem?_eq_none (by rw [List.length_set]; omega), List.getElem?_eq_none (by omega)]
  · rw [List.getElem?_set_ne e]
def wipeD (ρ : DEnv) : List Nat → DEnv
  | [] => ρ
  | v :: vs => (wipeD ρ vs).set v none
theorem wipeD_get {ρ : DEnv} {j : Nat} {d : D} : ∀ {vs : List Nat}, (wipeD ρ vs)[j]? = some (some d) → ρ[j]? = some (some d) ∧ j ∉ vs
  | [], h => ⟨h, by simp⟩
  | v :: vs, h => by
    unfold wipeD at h
    by_cases e : v = j
    · subst e
      by_cases hl : v < (wipeD ρ vs).length
      · rw [List.getElem?_set_self hl] at h; cases h
      · rw [List.getElem?_eq_none (by rw [List.length_set]; omega)] at h; cases h
    · rw [List.getElem?_set_ne e] at h
      obtain ⟨h1, h2⟩ := wipeD_get h
      exact ⟨h1, fun z => (List.mem_cons.mp z).elim (fun q => e q.symm) h2⟩
theorem wipeD_length (ρ : DEnv) : ∀ vs : List Nat, (wipeD ρ vs).length = ρ.length
  | [] => rfl
  | v :: vs => by unfold wipeD; rw [List.length_set, wipeD_length ρ vs]
theorem RelP.wipe {B : Tb} {K : PySem.W.Frag} {c : Cn} {ρ : DEnv} {σ : L2.St} (r : RelP B K c ρ σ) (vs : List Nat) : RelP B K c (wipeD ρ vs) (wipe σ vs) := ⟨by rw [wipeD_length, wipe_length]; exact r.len, fun i d h => by
  obtain ⟨h1, h2⟩ := wipeD_get h
  obtain ⟨v, h3, h4⟩ := r.sl i d h1
  exact ⟨v, by rw [wipe_get, if_neg h2]; exact h3, h4⟩⟩
theorem RelP.set {B : Tb} {K : PySem.W.Frag} {c : Cn} {ρ : DEnv} {σ : L2.St} (r : RelP B K c ρ σ) {i : Nat} {v : V} {d : D} (rv : Rep B K c v d) : RelP B K c (ρ.set i (some d)) (σ.set i (some v)) := ⟨by rw [List.length_set, List.length_set]; exact r.len, fun j d' h => by
  have hl := r.len
  by_cases e : i = j
  · subst e
    by_cases hi : i < ρ.length
    · rw [List.getElem?_set_self hi] at h
      cases h
      exact ⟨v, List.getElem?_set_self (by omega), rv⟩
    · rw [List.getElem?_eq_none (by rw [List.length_set]; omega)] at h; cases h
  · rw [List.getElem?_set_ne e] at h
    rw [List.getElem?_set_ne e]; exact r.sl j d' h⟩
/-- targets within a block -/
abbrev DGp := D → DEnv → Option DEnv
def pN (i : Nat) : DGp := fun d ρ => some (ρ.set i (some d))
def psN : List Nat → List D → DEnv → Option DEnv
  | [], [], ρ => some ρ
  | i :: is, d :: ds, ρ => psN is ds (ρ.set i (some d))
  | _, _, _ => none
def pT (is : List Nat) : DGp := fun d ρ => match d with
  | .tup ds => psN is ds ρ
  | _ => none
abbrev blkOf (X : Cx) (scope : Scope) (s : Shared) (H : Hp) (C : Addr) (cl : List (Str × Addr)) (fp : List Addr) : Cx := X.blk s H scope (compEnvC scope cl C X.env) fp
structure WP (B : Tb) (X : Cx) (scope : Scope) (vs : List Nat) (tg : Expr) (t : DGp) : Prop where
  ex : ∃ g : TG, (∀ s H C cl fp, PG (blkOf X scope s H C cl fp) tg g) ∧ ∀ c gh ρ ρ' σ H v d (Q : L2.St → Hp → Prop), Fine B X.K c gh H → RelP B X.K c ρ σ → Rep B X.K c v d → t d ρ = some ρ' →
    (∀ σ', RelP B X.K c ρ' σ' → wipe σ' vs = wipe σ vs → Q σ' H) → g v σ H Q
structure WPs (B : Tb) (X : Cx) (scope : Scope) (vs : List Nat) (tgs : List Expr) (is : List Nat) : Prop where
  ex : ∃ g : TGs, (∀ s H C cl fp, PGs (blkOf X scope s H C cl fp) tgs g) ∧ ∀ c gh ρ ρ' σ H xs ds (Q : L2.St → Hp → Prop), Fine B X.K c gh H → RelP B X.K c ρ σ → Reps B X.K c xs ds → psN is ds ρ = some ρ' →
    (∀ σ', RelP B X.K c ρ' σ' → wipe σ' vs = wipe σ vs → Q σ' H) → g xs σ H Q
section
variable {B : Tb} {X : Cx} {scope : Scope} {vs : List Nat} {pos : Pos}
theorem wp_name {i : Nat} {x : Str} (hp : ∀ s H C cl fp, PG (blkOf X scope s H C cl fp) (.Name x pos) (gName i)) (hm : i ∈ vs) : WP B X scope vs (.Name x pos) (pN i) := by
  refine ⟨gName i, hp, fun c gh ρ ρ' σ H v d Q k r rv e q => ?_⟩
  cases e
  exact q _ (r.set rv) (wipe_set hm)
theorem wps_nil : WPs B X scope vs [] [] := by
  refine ⟨gNil, fun _ _ _ _ _ => pgs_nil, fun c gh ρ ρ' σ H xs ds Q k r rs e q => ?_⟩
  cases rs with
  | nil => cases e; exact ⟨rfl, q _ r rfl⟩
  | cons _ _ => cases e
theorem wps_cons {i : Nat} {x : Str} {es : List Expr} {is : List Nat} (hp : ∀ s H C cl fp, PG (blkOf X scope s H C cl fp) (.Name x pos) (gName i)) (hm : i ∈ vs) (h2 : WPs B X scope vs es is)
    (hs : ∀ s H C cl fp, (assignEach (.Name x pos :: es) (blkOf X scope s H C cl fp).env).map (·.2) = assign (.Name x pos) (blkOf X scope s H C cl fp).env :: (assignEach es (blkOf X scope s H C cl fp).env).map (·.2) := by intros; rfl) : WPs B X scope vs (.Name x pos :: es) (i :: is) := by
  obtain ⟨g2, p2, h2⟩ := h2.ex
  refine ⟨gCons (gName i) g2, fun s H C cl fp => pgs_cons (hp s H C cl fp) (p2 s H C cl fp) (hs s H C cl fp), fun c gh ρ ρ' σ H xs ds Q k r rs e q => ?_⟩
  cases rs with
  | nil => cases e
  | cons rv rs => exact ⟨_, _, rfl, h2 c gh _ ρ' _ H _ _ Q k (r.set rv) rs e fun σ' r' hw => q σ' r' (by rw [hw, wipe_set hm])⟩
theorem wp_tup {es : List Expr} {is : List Nat} {k n : Nat} (hc : X.calm = true) (h : WPs B X scope vs es is) (hn : ∀ s H C cl fp, (assignEach es (blkOf X scope s H C cl fp).env).length = n := by intros; rfl) (hl : is.length = n := by rfl)
    (hst : ∀ s H C cl fp, (assignEach es (blkOf X scope s H C cl fp).env).findIdx? (·.1) = none := by intros; rfl) : WP B X scope vs (.Tuple es k pos) (pT is) := by
  obtain ⟨g2, p2, h2⟩ := h.ex
  refine ⟨gTup X.K n g2, fun s H C cl fp => pg_tup (X := blkOf X scope s H C cl fp) hc (p2 s H C cl fp) (hn s H C cl fp) (hst s H C cl fp), fun c gh ρ ρ' σ H v d Q kk r rv e q => ?_⟩
  unfold pT at e
  split at e
  · rename_i ds
    cases rv with
    | tup ht rs =>
      have lens : ∀ (is : List Nat) (ds : List D) (ρ ρ' : DEnv), psN is ds ρ = some ρ' → is.length = ds.length := by
        intro is
        induction is with
        | nil => intro ds ρ ρ' e; cases ds with | nil => rfl | cons _ _ => cases e
        | cons i is ih => intro ds ρ ρ' e; cases ds with | nil => cases e | cons d ds => exact congrArg (· + 1) (ih ds _ _ e)
      exact ⟨_, _, rfl, Evl.ex_t kk.sub ht, by rw [rs.length, ← lens _ _ _ _ e]; exact hl, h2 c gh ρ ρ' σ H _ _ Q kk r rs e q⟩
  · cases e
end
/-! ### list comprehensions -/
abbrev ZF : DZ := fun _ _ => False
def lcD (tg : DGp) (tt : DT) (te : DE) (ρ : DEnv) (Q : List D → Gh → Prop) : List D → List D → Gh → Prop
  | [], acc, g => Q acc g
  | d :: ds, acc, g => ∃ ρ', tg d ρ = some ρ' ∧ tt ρ' g (fun b g1 => if b = true then te ρ' g1 (fun y g2 => acc.length < sizeLine ∧ lcD tg tt te ρ Q ds (acc ++ [y]) g2) ZF else lcD tg tt te ρ Q ds acc g1) ZF
abbrev W0 : WX := fun _ _ _ _ => False
def dYes : DT := fun _ g Q _ => Q true g
structure WTs (B : Tb) (X : Cx) (W : WX) (ifs : List Expr) (t : DT) : Prop where
  ex : ∃ tt : TT, PTs X ifs tt ∧ ∀ (c : Cn) (g : Gh) (ρ : DEnv) (σ : L2.St) (H : Hp) (Q : Bool → Gh → Prop) (Z : DZ), Fine B X.K c g H → RelP B X.K c ρ σ → t ρ g Q Z → ZOk B X.K c H σ W Z → tt σ H (PQb B X.K c H Q)
theorem wts_nil {B : Tb} {X : Cx} {W : WX} : WTs B X W [] dYes := ⟨tYes, pts_nil, fun c g ρ σ H Q Z k r q z => ⟨c, g, Grow.refl c H, k, q⟩⟩
theorem wts_one {B : Tb} {X : Cx} {W : WX} {c : Expr} {t : DT} (h : WT B X W c t) : WTs B X W [c] t := ⟨semT X c, pts_one pt_sem, fun c g ρ σ H Q Z k r q z => h.run c g ρ σ H Q Z k r q z⟩
theorem zf_ok {B : Tb} {K : PySem.W.Frag} {c : Cn} {H : Hp} {σ : L2.St} : ZOk B K c H σ W0 ZF := fun _ _ _ _ _ _ _ _ _ z => z
def semPTs (X : Cx) (ifs : List Expr) : TT := fun σ H Q => ∀ pins s, Inv X pins σ H s →
    wpAny (model X.prog X.w) X.A (forIn ifs true fun c r => if r = true then do let ok ← isTrue c X.env (eval c X.env); pure (ForInStep.yield ok) else pure (ForInStep.yield r)) (TP X pins σ Q) X.xe s
/-- a new list that is ours alone -/
def Mine (B : Tb) (K : PySem.W.Frag) (c : Cn) (H : Hp) (Q : List D → Gh → Prop) : VK := fun v H' => ∃ c' g' p vs ds, v = .ref p ∧ Grow c H c' H' ∧ Fine B K c' g' H' ∧ H' p = some (.lst vs) ∧ Reps B K c' vs ds ∧ c'.F p = none ∧ c'.pen ≠ some p ∧ p ∉ c'.ma ∧ H p = none ∧ Q ds g'
theorem Mine.ice {B : Tb} {K : PySem.W.Frag} {c : Cn} {H : Hp} {Q : DQ} {v : V} {H' : Hp} (h : Mine B K c H (fun ds g => Q (.lst ds) g) v H') : PQ B K c H Q v H' := by
  obtain ⟨c', g', p, vs, ds, rfl, s, k, h1, h2, h3, h4, h5, h6, q⟩ := h
  refine ⟨_, g', .lst ds, s.ice h6 h3, k.ice h3 h1 h4 h5, .lst upd_same (h2.mono (Le.ice h3)), q⟩
def dLcO (ti : DI) (tg : DGp) (tt : DT) (te : DE) (vs : List Nat) : DEnv → Gh → (List D → Gh → Prop) → DZ → Prop := fun ρ g Q Z => ti ρ g (fun ds g1 => lcD tg tt te (wipeD ρ vs) Q ds [] g1) Z
def dLc (ti : DI) (tg : DGp) (tt : DT) (te : DE) (vs : List Nat) : DE := fun ρ g Q Z => dLcO ti tg tt te vs ρ g (fun ds g1 => Q (.lst ds) g1) Z
section
variable {B : Tb} {X : Cx} {W : WX} {elt tg iter : Expr} {ifs : List Expr} {scope : Scope} {own : List (Str × Nat)} {pos : Pos} {ti : DI} {dg : DGp} {dt : DT} {te : DE}
theorem lc_sem (hi : WI B X W tg iter ti) (hg : WP B X scope (own.map (·.2)) tg dg) (ht : ∀ s H C cl fp, WTs B (blkOf X scope s H C cl fp) W0 ifs dt) (he : ∀ s H C cl fp, WE B (blkOf X scope s H C cl fp) W0 elt te) :
    ∃ (g : TG) (tt : TT) (tE : TE), (∀ s H C cl fp, PG (blkOf X scope s H C cl fp) tg g) ∧ (∀ s H C cl fp, PTs (blkOf X scope s H C cl fp) ifs tt) ∧ (∀ s H C cl fp, PE (blkOf X scope s H C cl fp) elt tE) ∧
      ∀ (c : Cn) (gh : Gh) (ρ : DEnv) (σ : L2.St) (H : Hp) (Q : List D → Gh → Prop) (Z : DZ), Fine B X.K c gh H → RelP B X.K c ρ σ → dLcO ti dg dt te (own.map (·.2)) ρ gh Q Z → ZOk B X.K c H σ W Z →
        tLc (semI X tg iter) g tt tE (own.map (·.2)) σ H (Mine B X.K c H Q) := by
  obtain ⟨g, pg, hgg⟩ := hg.ex
  refine ⟨g, fun σ H Q => ∀ s H' C cl fp, semPTs (blkOf X scope s H' C cl fp) ifs σ H Q, fun σ H Q => ∀ s H' C cl fp, semE (blkOf X scope s H' C cl fp) elt σ H Q, pg, fun s H C cl fp => ⟨fun pins s1 σ H1 Q I h => h s H C cl fp pins s1 I⟩, fun s H C cl fp => ⟨fun pins s1 σ H1 Q I h => h s H C cl fp pins s1 I⟩, ?_⟩
  intro c gh ρ σ H Q Z k r q z
  refine (hi.run c gh ρ σ H _ Z k r q z).mono fun J H1 ⟨c1, g1, ds, s1, k1, wk, q1⟩ => fun Dd hD => ?_
  have H0D : H Dd = none := by
    cases e : H Dd with
    | none => rfl
    | some o =>
      by_cases hp : c.pen = some Dd
      · obtain ⟨_, _, o', h1, _⟩ := k1.pen Dd (s1.le.pen _ hp)
        rw [hD] at h1; cases h1
      · by_cases hm : Dd ∈ c.ma
        · obtain ⟨i, hi⟩ := List.getElem?_of_mem hm
          have hi' := s1.le.ma i Dd hi
          have hlt : i < g1.mem.length := by rw [← k1.mlen]; exact (List.getElem?_eq_some_iff.mp hi').1
          obtain ⟨_, dx, fs, h1, _⟩ := k1.mem i _ Dd (List.getElem?_eq_getElem hlt) hi'
          rw [hD] at h1; cases h1
        · have := s1.keep Dd o e hp hm
          rw [hD] at this; cases this
  have pen1 : c1.pen ≠ some Dd := fun hp => by
    obtain ⟨_, _, o', h1, _⟩ := k1.pen Dd hp
    rw [hD] at h1; cases h1
  have ma1 : Dd ∉ c1.ma := fun hm => by
    obtain ⟨i, hi⟩ := List.getElem?_of_mem hm
    have hlt : i < g1.mem.length := by rw [← k1.mlen]; exact (List.getElem?_eq_some_iff.mp hi).1
    obtain ⟨_, dx, fs, h1, _⟩ := k1.mem i _ Dd (List.getElem?_eq_getElem hlt) hi
    rw [hD] at h1; cases h1
  have F1 : c1.F Dd = none := Evl.fresh_back k1.sub hD
  refine ⟨fun i m H' => m = ds.length - i ∧ i ≤ ds.length ∧ ∃ c' g' xs es, Grow c1 H1 c' H' ∧ Fine B X.K c' g' H' ∧ H' Dd = some (.lst xs) ∧ Reps B X.K c' xs es ∧ c'.F Dd = none ∧ c'.pen ≠ some Dd ∧ Dd ∉ c'.ma ∧ lcD dg dt te (wipeD ρ (own.map (·.2))) Q (ds.drop i) es g',
    ⟨ds.length, by simp, Nat.zero_le _, c1, g1, [], [], (Grow.refl c1 H1).own hD, k1.own F1 pen1 ma1, upd_same, .nil, F1, pen1, ma1, by simpa using q1⟩, ?_⟩
  rintro i m H' ⟨rfl, hi, c', g', xs, es, s', k', hx, rx, hF, hp, hm, q'⟩
  obtain ⟨go, stop⟩ := wk c' g' H' s'.le k'
  by_cases hlt : i < ds.length
  · have hd : ds[i]? = some ds[i] := List.getElem?_eq_getElem hlt
    obtain ⟨g1', g2'⟩ := go i _ hd
    have hdr : ds.drop i = ds[i] :: ds.drop (i + 1) := List.drop_eq_getElem_cons hlt
    rw [hdr] at q'
    obtain ⟨ρ2, e2, q2⟩ := q'
    refine .inr ⟨g1', fun H3 => ∃ c3 g3 xs3 es3, Grow c1 H1 c3 H3 ∧ Fine B X.K c3 g3 H3 ∧ H3 Dd = some (.lst xs3) ∧ Reps B X.K c3 xs3 es3 ∧ c3.F Dd = none ∧ c3.pen ≠ some Dd ∧ Dd ∉ c3.ma ∧ lcD dg dt te (wipeD ρ (own.map (·.2))) Q (ds.drop (i + 1)) es3 g3, fun H3 n3 => ⟨ds.length - (i + 1), by omega, rfl, hlt, n3⟩, fun x H2 y => ?_⟩
    obtain ⟨c2, s2, k2, rv⟩ := g2' x H2 y
    have rw2 : RelP B X.K c2 (wipeD ρ (own.map (·.2))) (wipe σ (own.map (·.2))) := (r.mono ((s1.trans s').trans s2).le).wipe _
    refine hgg c2 g' _ ρ2 _ H2 x _ _ k2 rw2 rv e2 fun σ3 r3 hw => ⟨by
      rw [hw]
      apply List.ext_getElem?
      intro j
      rw [wipe_get, wipe_get]
      split
      · cases σ[j]? <;> rfl
      · rfl, ?_⟩
    intro s0 H0 C cl fp pins0 s00 I0
    obtain ⟨tt0, pt0, ht0⟩ := (ht s0 H0 C cl fp).ex
    refine thn (pt0.run pins0 s00 σ3 H2 _ I0 (ht0 c2 g' ρ2 σ3 H2 _ ZF k2 r3 q2 zf_ok)) fun b s6 ⟨H3, I3, c3, g3, s3, k3, q3⟩ => ⟨H3, I3, ?_⟩
    obtain ⟨m1, m2, m3, m4⟩ := (s2.trans s3).mine hx hF hp hm
    cases b with
    | false =>
      exact ⟨c3, g3, xs, es, (s'.trans s2).trans s3, k3, m1, rx.mono (s2.trans s3).le, m2, m3, m4, q3⟩
    | true =>
      intro s0' H0' C' cl' fp'
      refine ((he s0' H0' C' cl' fp').run c3 g3 ρ2 σ3 H3 _ ZF k3 (r3.mono s3.le) q3 zf_ok).mono fun v H4 ⟨c4, g4, d4, s4, k4, r4, hlen, q4⟩ => ?_
      obtain ⟨n1, n2, n3, n4⟩ := s4.mine m1 m2 m3 m4
      have rx4 : Reps B X.K c4 xs es := rx.mono ((s2.trans s3).trans s4).le
      exact ⟨xs, n1, by rw [rx4.length]; exact hlen, c4, g4, xs ++ [v], es ++ [d4], (((s'.trans s2).trans s3).trans s4).own hD, k4.own n2 n3 n4, upd_same, rx4.append (.cons r4 .nil), n2, n3, n4, q4⟩
  · have e : i = ds.length := by omega
    subst e
    rw [List.drop_length] at q'
    exact .inl ⟨stop, c', g', Dd, xs, es, rfl, s1.trans s', k', hx, rx, hF, hp, hm, H0D, q'⟩
end
end DL

namespace DL
open PySem L2 PyProof.Rows
section
variable {B : Tb} {X : Cx} {W : WX} {H₀ : Hp} {elt tg iter e : Expr} {ifs : List Expr} {scope : Scope} {own : List (Str × Nat)} {pos : Pos} {ti : DI} {dg : DGp} {dt : DT} {te : DE}
theorem we_lc (hc : X.calm = true) (hN : X.N.Nodup) (hi : WI B X W tg iter ti) (ok : BlkOk X.N X.env.scope scope own) (hg : WP B X scope (own.map (·.2)) tg dg) (ht : ∀ s H C cl fp, WTs B (blkOf X scope s H C cl fp) W0 ifs dt) (he : ∀ s H C cl fp, WE B (blkOf X scope s H C cl fp) W0 elt te)
    (hs : ∀ x, foldedSetIterable iter X.env x = pure x := by intro _; rfl) : WE B X W (.ListComp elt [⟨tg, iter, ifs, 0⟩] scope pos) (dLc ti dg dt te (own.map (·.2))) := by
  obtain ⟨g, tt, tE, p1, p2, p3, h⟩ := lc_sem hi hg ht he
  refine ⟨fun c gh ρ σ H Q Z k r q z => ?_⟩
  exact (sem_of (pe_lc hc hN pi_sem ok p1 p2 p3 hs) (h c gh ρ σ H (fun ds g1 => Q (.lst ds) g1) Z k r q z)).mono fun _ _ m => m.ice
/-! ### lists that are ours alone -/
structure WL (B : Tb) (X : Cx) (W : WX) (e : Expr) (t : DEnv → Gh → (List D → Gh → Prop) → DZ → Prop) : Prop where
  run : ∀ (c : Cn) (g : Gh) (ρ : DEnv) (σ : L2.St) (H : Hp) (Q : List D → Gh → Prop) (Z : DZ), Fine B X.K c g H → RelP B X.K c ρ σ → t ρ g Q Z → ZOk B X.K c H σ W Z → semE X e σ H (Mine B X.K c H Q)
theorem Fine.notMut {K : PySem.W.Frag} {c : Cn} {g : Gh} {H : Hp} {p : Addr} (k : Fine B K c g H) (h : H p = none) : c.F p = none ∧ c.pen ≠ some p ∧ p ∉ c.ma := by
  refine ⟨Evl.fresh_back k.sub h, fun hp => ?_, fun hm => ?_⟩
  · obtain ⟨_, _, o', h1, _⟩ := k.pen p hp
    rw [h] at h1; cases h1
  · obtain ⟨i, hi⟩ := List.getElem?_of_mem hm
    have hlt : i < g.mem.length := by rw [← k.mlen]; exact (List.getElem?_eq_some_iff.mp hi).1
    obtain ⟨_, dx, fs, h1, _⟩ := k.mem i _ p (List.getElem?_eq_getElem hlt) hi
    rw [h] at h1; cases h1
theorem Grow.back {K : PySem.W.Frag} {c c1 : Cn} {g1 : Gh} {H H1 : Hp} {p : Addr} (s : Grow c H c1 H1) (k : Fine B K c1 g1 H1) (h : H1 p = none) : H p = none := by
  obtain ⟨_, h2, h3⟩ := k.notMut h
  cases e : H p with
  | none => rfl
  | some o =>
    have := s.keep p o e (fun z => h2 (s.le.pen _ z)) (fun z => by
      obtain ⟨i, hi⟩ := List.getElem?_of_mem z
      exact h3 (List.mem_of_getElem? (s.le.ma i p hi)))
    rw [h] at this; cases this
theorem mine_new {K : PySem.W.Frag} {c c1 : Cn} {g1 : Gh} {H H1 : Hp} {vs : List V} {ds : List D} {p : Addr} {Q : List D → Gh → Prop} (s : Grow c H c1 H1) (k : Fine B K c1 g1 H1) (r : Reps B K c1 vs ds) (hp : H1 p = none) (q : Q ds g1) : Mine B K c H Q (.ref p) (upd H1 p (.lst vs)) := by
  obtain ⟨h1, h2, h3⟩ := k.notMut hp
  have h0 := s.back k hp
  exact ⟨c1, g1, p, vs, ds, rfl, s.own h0, k.own h1 h2 h3, upd_same, r, h1, h2, h3, h0, q⟩
def dLstO (tr : DA) : DEnv → Gh → (List D → Gh → Prop) → DZ → Prop := fun ρ g Q Z => tr ρ g (fun xs g1 => xs.length ≤ sizeLine ∧ Q xs g1) Z
theorem wl_lst {es : List Expr} {tr : DA} (h : WA B X W es tr) : WL B X W (.List es pos) (dLstO tr) := by
  refine ⟨fun c g ρ σ H Q Z k r q z => sem_of (pe_lst pa_sem) ?_⟩
  exact (h.run c g ρ σ H _ Z k r q z).mono fun vs H1 ⟨c1, g1, ds, s1, k1, rs, _, hl, q1⟩ => ⟨by rw [rs.length]; exact hl, fun p hp => mine_new s1 k1 rs hp q1⟩
def dListO (te : DE) : DEnv → Gh → (List D → Gh → Prop) → DZ → Prop := fun ρ g Q Z => te ρ g (fun x g1 => ∃ ds, (x = .lst ds ∨ x = .tup ds) ∧ Q ds g1) Z
theorem wl_list {p : Pos} (hg : Gl X "list") (hm : X.mg "list" = none) (hv : bootBuiltins "list" = some (.type "list")) (h : WE B X W e te) (hs : starEach [e] X.env = (false, eval e X.env) :: starEach [] X.env := by rfl) : WL B X W (.Call (.Name "list" p) [e] [] pos) (dListO te) := by
  refine ⟨fun c g ρ σ H Q Z k r q z => sem_of (pe_callTy call_list_of hg hm hv (pa_cons pe_sem pa_nil hs) (by decide) (by decide) hs rfl) ?_⟩
  refine (h.run c g ρ σ H _ Z k r q z).mono fun v H1 ⟨c1, g1, d, s1, k1, rr, ds, e1, q1⟩ => ?_
  rcases e1 with rfl | rfl
  · cases rr with
    | lst h1 rs => exact ⟨_, _, rfl, .inl (SqL.of (k1.sub _ _ h1)), fun p hp => mine_new s1 k1 rs hp q1⟩
  · cases rr with
    | tup h1 rs => exact ⟨_, _, rfl, .inr (Evl.ex_t k1.sub h1), fun p hp => mine_new s1 k1 rs hp q1⟩
def dCatO (ta tb : DE) : DEnv → Gh → (List D → Gh → Prop) → DZ → Prop := fun ρ g Q Z => ta ρ g (fun x g1 => tb ρ g1 (fun y g2 => ∃ xs ys, x = .lst xs ∧ y = .lst ys ∧ xs.length + ys.length ≤ sizeLine ∧ Q (xs ++ ys) g2) Z) Z
theorem wl_cat {a b : Expr} {ta tb : DE} (ha : WE B X W a ta) (hb : WE B X W b tb) : WL B X W (.BinOp a .Add b pos) (dCatO ta tb) := by
  refine ⟨fun c g ρ σ H Q Z k r q z => sem_of (pe_op op_cat pe_sem pe_sem) ?_⟩
  refine two ha hb k r q z fun x y v u c2 g2 H2 s2 k2 r1 r2 ⟨xs, ys, e1, e2, hl, q2⟩ => ?_
  subst e1 e2
  cases r1 with
  | lst h1 s1 =>
    cases r2 with
    | lst h2 s2' => exact ⟨_, _, _, _, rfl, rfl, k2.sub _ _ h1, k2.sub _ _ h2, by rw [s1.length, s2'.length]; exact hl, fun p hp => mine_new s2 k2 (s1.append s2') hp q2⟩
theorem wl_lc (hc : X.calm = true) (hN : X.N.Nodup) (hi : WI B X W tg iter ti) (ok : BlkOk X.N X.env.scope scope own) (hg : WP B X scope (own.map (·.2)) tg dg) (ht : ∀ s H C cl fp, WTs B (blkOf X scope s H C cl fp) W0 ifs dt) (he : ∀ s H C cl fp, WE B (blkOf X scope s H C cl fp) W0 elt te)
    (hs : ∀ x, foldedSetIterable iter X.env x = pure x := by intro _; rfl) : WL B X W (.ListComp elt [⟨tg, iter, ifs, 0⟩] scope pos) (dLcO ti dg dt te (own.map (·.2))) := by
  obtain ⟨g, tt, tE, p1, p2, p3, h⟩ := lc_sem hi hg ht he
  exact ⟨fun c gh ρ σ H Q Z k r q z => sem_of (pe_lc hc hN pi_sem ok p1 p2 p3 hs) (h c gh ρ σ H Q Z k r q z)⟩
/-- a slot takes a list that is ours alone -/
theorem RelS.take {K : PySem.W.Frag} {c₀ c c' : Cn} {H H' : Hp} {g g' : Gh} {ρ : SEnv} {σ : L2.St} {i : Nat} {p : Addr} {vs : List V} {ds : List D} (r : RelS B K c₀ H₀ c g ρ σ H) (s : Grow c H c' H') (k : Fine B K c' g' H') (hv : H' p = some (.lst vs)) (rs : Reps B K c' vs ds)
    (hF : c'.F p = none) (hp : c'.pen ≠ some p) (hm : p ∉ c'.ma) (h0 : H p = none) : RelS B K c₀ H₀ c' g' (ρ.set i (.ow ds)) (σ.set i (some (.ref p))) H' := by
  have r' := r.next s k
  have H00 : H₀ p = none := r.gr.back r.fine h0
  have get : ∀ (j : Nat) (x : SV), (ρ.set i (.ow ds))[j]? = some x → (j = i ∧ x = .ow ds ∧ j < ρ.length) ∨ (j ≠ i ∧ ρ[j]? = some x) := fun j x h => by
    by_cases e : i = j
    · subst e
      by_cases hl : i < ρ.length
      · rw [List.getElem?_set_self hl] at h
        exact .inl ⟨rfl, (Option.some.inj h).symm, hl⟩
      · rw [List.getElem?_eq_none (by simpa using hl)] at h; cases h
    · rw [List.getElem?_set_ne e] at h
      exact .inr ⟨fun z => e z.symm, h⟩
  have same : ∀ {j : Nat}, j ≠ i → (σ.set i (some (V.ref p)))[j]? = σ[j]? := fun h => List.getElem?_set_ne (Ne.symm h)
  have self : i < ρ.length → (σ.set i (some (V.ref p)))[i]? = some (some (V.ref p)) := fun h => List.getElem?_set_self (by rw [← r.len]; exact h)
  have other : ∀ (j : Nat) (es : List D), ρ[j]? = some (.ow es) → σ[j]? ≠ some (some (.ref p)) := fun j es h z => by
    obtain ⟨q, ws, q1, q2, _⟩ := r.ow j es h
    rw [z] at q1
    cases q1
    rw [h0] at q2; cases q2
  refine ⟨r'.gr, k, by rw [List.length_set, List.length_set]; exact r.len, fun j d' h => ?_, fun j es h => ?_, fun j l es fs q hjk h1 h2 h3 => ?_, fun j pp k fs h => ?_, fun j l pp pp' k k' fs gs h1 h2 => ?_⟩
  · rcases get j _ h with ⟨rfl, e, hl⟩ | ⟨hj, h⟩
    · cases e
    · rw [same hj]; exact r'.fz j d' h
  · rcases get j _ h with ⟨rfl, e, hl⟩ | ⟨hj, h⟩
    · cases e
      exact ⟨p, vs, self hl, hv, rs, hF, hp, hm, H00⟩
    · rw [same hj]; exact r'.ow j es h
  · rcases get j _ h1 with ⟨ej, e, hl⟩ | ⟨hj, h1'⟩
    · rcases get l _ h2 with ⟨el, e', _⟩ | ⟨hk, h2'⟩
      · exact absurd (ej.trans el.symm) hjk
      · rw [ej] at h3 hl
        rw [self hl] at h3
        cases h3
        rw [same hk]
        exact other l fs h2'
    · rw [same hj] at h3
      rcases get l _ h2 with ⟨el, e', hl⟩ | ⟨hk, h2'⟩
      · rw [el] at hl ⊢
        rw [self hl]
        intro z
        cases z
        exact other j es h1' h3
      · rw [same hk]; exact r.inj j l es fs q hjk h1' h2' h3
  · rcases get j _ h with ⟨rfl, e, hl⟩ | ⟨hj, h⟩
    · cases e
    · rw [same hj]; exact r'.ob j pp k fs h
  · rcases get j _ h1 with ⟨rfl, e, hl⟩ | ⟨hj, h1⟩
    · cases e
    · rcases get l _ h2 with ⟨rfl, e, hl⟩ | ⟨hk, h2⟩
      · cases e
      · exact r.ob1 j l pp pp' k k' fs gs h1 h2
/-- x = a new list, which x alone refers to -/
def dSetO (i : Nat) (tl : DEnv → Gh → (List D → Gh → Prop) → DZ → Prop) : DS := fun En ρ g => tl (mask ρ) g (fun ds g' => En.nx (ρ.set i (.ow ds)) g') fun ex g' => En.xz ex ρ g'
theorem ws_setO {i : Nat} {x : Str} {pos' : Pos} {tl : DEnv → Gh → (List D → Gh → Prop) → DZ → Prop} (hN : X.N.Nodup) (hi : X.N[i]? = some x) (hx : Loc X.env.scope x) (he : WL B X W e tl) (hs : swapsWith e (some (.Name x pos')) pos.line X.env = pure false := by rfl)
    (hf : X.fn x = true ∨ X.env.scope.names.lookup x = some .local := by first | exact .inl rfl | exact .inr rfl) : WS B X W H₀ (.Assign [.Name x pos'] e pos) (dSetO i tl) := by
  refine ⟨fun c₀ c g ρ σ H D r q z => semS_of (ps_set hN hi hx pe_sem hs hf) ?_⟩
  refine (he.run c g _ σ H _ _ r.fine r.mask q (r.zok z)).mono fun v H' ⟨c', g', p, vs, ds, e1, s, k, h1, h2, h3, h4, h5, h6, q'⟩ => ?_
  subst e1
  exact ⟨c', g', _, r.take s k h1 h2 h3 h4 h5 h6, q'⟩
theorem tLc_mono {g : TG} {tt : TT} {tE : TE} {vs : List Nat} {σ : L2.St} {H : Hp} {Q Q' : VK} (h : tLc (semI X tg iter) g tt tE vs σ H Q) (k : ∀ v H', Q v H' → Q' v H') : tLc (semI X tg iter) g tt tE vs σ H Q' := by
  refine semI.mono h fun J H1 h1 D hD => ?_
  obtain ⟨Wi, w0, turn⟩ := h1 D hD
  refine ⟨Wi, w0, fun i m H2 w2 => ?_⟩
  rcases turn i m H2 w2 with ⟨a, b⟩ | b
  · exact .inl ⟨a, k _ _ b⟩
  · exact .inr b
/-- x = [.. for ..] -/
theorem ws_setLc {i : Nat} {y : Str} {py spos : Pos} (hc : X.calm = true) (hN : X.N.Nodup) (hy : X.N[i]? = some y) (hyl : X.env.scope.names.lookup y = some .local)
    (hsw : swapsWith (.ListComp elt [⟨tg, iter, ifs, 0⟩] scope pos) (some (.Name y py)) spos.line X.env = pure true) (hi : WI B X W tg iter ti) (ok : BlkOk X.N X.env.scope scope own) (hg : WP B X scope (own.map (·.2)) tg dg)
    (ht : ∀ s H C cl fp, WTs B (blkOf X scope s H C cl fp) W0 ifs dt) (he : ∀ s H C cl fp, WE B (blkOf X scope s H C cl fp) W0 elt te)
    (hs : ∀ x, foldedSetIterable iter X.env x = pure x := by intro _; rfl) : WS B X W H₀ (.Assign [.Name y py] (.ListComp elt [⟨tg, iter, ifs, 0⟩] scope pos) spos) (dSet i (dLc ti dg dt te (own.map (·.2)))) := by
  obtain ⟨g, tt, tE, p1, p2, p3, h⟩ := lc_sem hi hg ht he
  refine ⟨fun c₀ c gh ρ σ H D r q z => semS_of (ps_setLc hc hN hy hyl hsw pi_sem ok p1 p2 p3 hs) ?_⟩
  exact tLc_mono (h c gh _ σ H _ _ r.fine r.mask q (r.zok z)) fun v H' m => by
    obtain ⟨c', g', d, s, k, rr, q'⟩ := Mine.ice (Q := fun d g' => D.nx (ρ.set i (.fz d)) g') m
    exact ⟨c', g', _, (r.next s k).set rr, q'⟩
theorem ws_setLcO {i : Nat} {y : Str} {py spos : Pos} (hc : X.calm = true) (hN : X.N.Nodup) (hy : X.N[i]? = some y) (hyl : X.env.scope.names.lookup y = some .local)
    (hsw : swapsWith (.ListComp elt [⟨tg, iter, ifs, 0⟩] scope pos) (some (.Name y py)) spos.line X.env = pure true) (hi : WI B X W tg iter ti) (ok : BlkOk X.N X.env.scope scope own) (hg : WP B X scope (own.map (·.2)) tg dg)
    (ht : ∀ s H C cl fp, WTs B (blkOf X scope s H C cl fp) W0 ifs dt) (he : ∀ s H C cl fp, WE B (blkOf X scope s H C cl fp) W0 elt te)
    (hs : ∀ x, foldedSetIterable iter X.env x = pure x := by intro _; rfl) : WS B X W H₀ (.Assign [.Name y py] (.ListComp elt [⟨tg, iter, ifs, 0⟩] scope pos) spos) (dSetO i (dLcO ti dg dt te (own.map (·.2)))) := by
  obtain ⟨g, tt, tE, p1, p2, p3, h⟩ := lc_sem hi hg ht he
  refine ⟨fun c₀ c gh ρ σ H D r q z => semS_of (ps_setLc hc hN hy hyl hsw pi_sem ok p1 p2 p3 hs) ?_⟩
  exact tLc_mono (h c gh _ σ H _ _ r.fine r.mask q (r.zok z)) fun v H' m => by
    obtain ⟨c', g', p, vs, ds, e1, s, k, h1, h2, h3, h4, h5, h6, q'⟩ := m
    subst e1
    exact ⟨c', g', _, r.take s k h1 h2 h3 h4 h5 h6, q'⟩
/-! ### what is done to a list that is ours alone -/
theorem RelS.put {K : PySem.W.Frag} {c₀ c : Cn} {H : Hp} {g : Gh} {ρ : SEnv} {σ : L2.St} {i : Nat} {p : Addr} {ds es : List D} {vs : List V} (r : RelS B K c₀ H₀ c g ρ σ H) (hi : ρ[i]? = some (.ow ds)) (hp : σ[i]? = some (some (.ref p))) (rs : Reps B K c vs es) :
    RelS B K c₀ H₀ c g (ρ.set i (.ow es)) σ (upd H p (.lst vs)) := by
  obtain ⟨p', ws, h1, h2, h3, h4, h5, h6, h7⟩ := r.ow i ds hi
  rw [hp] at h1
  cases h1
  have hl : i < ρ.length := (List.getElem?_eq_some_iff.mp hi).1
  have get : ∀ (j : Nat) (x : SV), (ρ.set i (.ow es))[j]? = some x → (j = i ∧ x = .ow es) ∨ (j ≠ i ∧ ρ[j]? = some x) := fun j x h => by
    by_cases e : i = j
    · subst e
      rw [List.getElem?_set_self hl] at h
      exact .inl ⟨rfl, (Option.some.inj h).symm⟩
    · rw [List.getElem?_set_ne e] at h
      exact .inr ⟨fun z => e z.symm, h⟩
  refine ⟨r.gr.own h7, r.fine.own h4 h5 h6, by rw [List.length_set]; exact r.len, fun j d h => ?_, fun j fs h => ?_, fun j l fs fs' q hjl e1 e2 e3 => ?_, fun j q k fs h => ?_, fun j l q q' k k' fs gs e1 e2 => ?_⟩
  · rcases get j _ h with ⟨_, e⟩ | ⟨_, h⟩
    · cases e
    · exact r.fz j d h
  · rcases get j _ h with ⟨ej, e⟩ | ⟨hj, h⟩
    · cases e
      rw [ej]
      exact ⟨p, vs, hp, upd_same, rs, h4, h5, h6, h7⟩
    · obtain ⟨q, us, q1, q2, q3, q4, q5, q6, q7⟩ := r.ow j fs h
      refine ⟨q, us, q1, ?_, q3, q4, q5, q6, q7⟩
      rw [upd_ne]
      · exact q2
      · intro z
        subst z
        exact r.inj j i fs ds q hj h hi q1 hp
  · have f1 : ∃ fs, ρ[j]? = some (.ow fs) := by
      rcases get j _ e1 with ⟨ej, _⟩ | ⟨_, h⟩
      · exact ⟨ds, by rw [ej]; exact hi⟩
      · exact ⟨fs, h⟩
    have f2 : ∃ fs, ρ[l]? = some (.ow fs) := by
      rcases get l _ e2 with ⟨ej, _⟩ | ⟨_, h⟩
      · exact ⟨ds, by rw [ej]; exact hi⟩
      · exact ⟨fs', h⟩
    obtain ⟨_, f1⟩ := f1
    obtain ⟨_, f2⟩ := f2
    exact r.inj j l _ _ q hjl f1 f2 e3
  · rcases get j _ h with ⟨_, e⟩ | ⟨_, h⟩
    · cases e
    · obtain ⟨dx, us, q1, q2, q3, q4, q5, q6, q7⟩ := r.ob j q k fs h
      refine ⟨dx, us, q1, ?_, q3, q4, q5, q6, q7⟩
      rw [upd_ne]
      · exact q2
      · intro z
        subst z
        rw [h2] at q2; cases q2
  · rcases get j _ e1 with ⟨_, e⟩ | ⟨_, e1⟩
    · cases e
    · rcases get l _ e2 with ⟨_, e⟩ | ⟨_, e2⟩
      · cases e
      · exact r.ob1 j l q q' k k' fs gs e1 e2
/-- x.append(e) -/
def dAppend (i : Nat) (te : DE) : DS := fun En ρ g => ∃ ds, ρ[i]? = some (.ow ds) ∧ te (mask ρ) g (fun d g' => ds.length < sizeLine ∧ En.nx (ρ.set i (.ow (ds ++ [d]))) g') fun ex g' => En.xz ex ρ g'
theorem ws_append {i : Nat} {x : Str} {px apos cpos : Pos} (hv : PE X (.Name x px) (tVar i)) (he : WE B X W e te)
    (hbase : attributeBase (.Name x px) "append" X.env (eval (.Name x px) X.env) = eval (.Name x px) X.env := by rfl)
    (hfew : ((backTo cpos (starEach [e] X.env)).all (fun x => !x.1) && (backToKw cpos (keywordEach [] X.env)).all (fun x => x.1.isSome) && decide ([e].length + ([] : List Keyword).length + (if ([] : List Keyword).isEmpty then 0 else 1) < 30)) = true := by rfl)
    (hline : (apos.endLine == cpos.line) = true := by rfl) (hs : starEach [e] X.env = (false, eval e X.env) :: starEach [] X.env := by rfl) (hsw : swapsWith (.Call (.Attribute (.Name x px) "append" apos) [e] [] cpos) none pos.line X.env = pure false := by rfl) :
    WS B X W H₀ (.Expr (.Call (.Attribute (.Name x px) "append" apos) [e] [] cpos) pos) (dAppend i te) := by
  refine ⟨fun c₀ c g ρ σ H D r q z => semS_of (ps_expr (pe_bm PySem.F.plainAttrs_list PySem.F.slot_list_append PySem.F.type_list_append mt_append hv (pa_cons pe_sem pa_nil hs) hbase hfew hline hs rfl) hsw) ?_⟩
  obtain ⟨ds0, h0, q⟩ := q
  obtain ⟨p, vs, h1, h2, h3, h4, h5, h6, h7⟩ := r.ow i ds0 h0
  refine ⟨_, h1, .inl ⟨rfl, vs, SqL.of h2⟩, ?_⟩
  refine (he.run c g _ σ H _ _ r.fine r.mask q (r.zok z)).mono fun v H' ⟨c', g', d, s, k, rr, hl, q'⟩ => ?_
  obtain ⟨m1, _⟩ := s.mine h2 h4 h5 h6
  have r' := r.next s k
  have h3' : Reps B X.K c' vs ds0 := h3.mono s.le
  exact ⟨p, vs, v, rfl, rfl, m1, by rw [h3'.length]; exact hl, c', g', _, r'.put h0 h1 (h3'.append (.cons rr .nil)), q'⟩
end
end DL

namespace DL
open PySem L2 PyProof.Rows
/-! ### data without a list in it -/
mutual
def nl : D → Bool
  | .lst _ => false
  | .tup xs => nls xs
  | .dct kvs => nlk kvs
  | .obj _ fs => nlf fs
  | .exc _ fs => nlf fs
  | .non => true
  | .bl _ => true
  | .int _ => true
  | .str _ => true
  | .loc _ => true
  | .pen => true
  | .scr _ => false
def nls : List D → Bool
  | [] => true
  | x :: xs => nl x && nls xs
def nlk : List (Key × D) → Bool
  | [] => true
  | (_, x) :: xs => nl x && nlk xs
def nlf : List (Str × D) → Bool
  | [] => true
  | (_, x) :: xs => nl x && nlf xs
end
section
variable {B : Tb} {K : PySem.W.Frag} {c1 c2 : Cn}
structure NL (c1 c2 : Cn) : Prop where
  F : ∀ a o, c1.F a = some o → (∀ xs, o ≠ .lst xs) → c2.F a = some o
  pen : c2.pen = c1.pen
  ma : c2.ma = c1.ma
mutual
theorem Rep.nl (e : NL c1 c2) : ∀ {v : V} {d : D}, Rep B K c1 v d → nl d = true → Rep B K c2 v d
  | _, _, .non, _ => .non
  | _, _, .bl b, _ => .bl b
  | _, _, .int i, _ => .int i
  | _, _, .str x, _ => .str x
  | _, _, .lst h r, q => by simp [DL.nl] at q
  | _, _, .tup h r, q => by
    simp only [DL.nl] at q
    refine .tup ?_ (Reps.nl e r q)
    rcases h with (h | ⟨o, h⟩) | h
    · exact .inl (.inl (e.F _ _ h fun xs z => by cases z))
    · exact .inl (.inr ⟨o, e.F _ _ h fun xs z => by cases z⟩)
    · exact .inr h
  | _, _, .dct h r, q => by
    simp only [DL.nl] at q
    exact .dct (e.F _ _ h fun xs z => by cases z) (RepK.nl e r q)
  | _, _, .obj h r, q => by
    simp only [DL.nl] at q
    exact .obj (e.F _ _ h fun xs z => by cases z) (RepF.nl e r q)
  | _, _, .exc h h2 r, q => by
    simp only [DL.nl] at q
    exact .exc (e.F _ _ h fun xs z => by cases z) (e.F _ _ h2 fun xs z => by cases z) (RepF.nl e r q)
  | _, _, .exc0 h, _ => .exc0 (e.F _ _ h fun xs z => by cases z)
  | _, _, .loc h, _ => .loc (by rw [e.ma]; exact h)
  | _, _, .pen h, _ => .pen (by rw [e.pen]; exact h)
  | _, _, .scr h, q => by simp [DL.nl] at q
theorem Reps.nl (e : NL c1 c2) : ∀ {vs : List V} {ds : List D}, Reps B K c1 vs ds → nls ds = true → Reps B K c2 vs ds
  | _, _, .nil, _ => .nil
  | _, _, .cons h r, q => by
    simp only [nls, Bool.and_eq_true] at q
    exact .cons (Rep.nl e h q.1) (Reps.nl e r q.2)
theorem RepK.nl (e : NL c1 c2) : ∀ {vs : List (Key × V)} {ds : List (Key × D)}, RepK B K c1 vs ds → nlk ds = true → RepK B K c2 vs ds
  | _, _, .nil, _ => .nil
  | _, _, .cons h r, q => by
    simp only [nlk, Bool.and_eq_true] at q
    exact .cons (Rep.nl e h q.1) (RepK.nl e r q.2)
theorem RepF.nl (e : NL c1 c2) : ∀ {vs : List (Str × V)} {ds : List (Str × D)}, RepF B K c1 vs ds → nlf ds = true → RepF B K c2 vs ds
  | _, _, .nil, _ => .nil
  | _, _, .cons h r, q => by
    simp only [nlf, Bool.and_eq_true] at q
    exact .cons (Rep.nl e h q.1) (RepF.nl e r q.2)
end
end
/-! ### all slots looked at as they stand -/
def Owned (ρ : SEnv) (σ : L2.St) (a : Addr) : Prop := ∃ (i : Nat) (ds : List D), ρ[i]? = some (.ow ds) ∧ σ[i]? = some (some (.ref a))
noncomputable instance (ρ : SEnv) (σ : L2.St) (a : Addr) : Decidable (Owned ρ σ a) := Classical.propDecidable _
noncomputable def snapC (c : Cn) (ρ : SEnv) (σ : L2.St) (H : Hp) : Cn := { c with F := fun a => if Owned ρ σ a then H a else c.F a }
noncomputable def cutC (c : Cn) (ρ : SEnv) (σ : L2.St) : Cn := { c with F := fun a => if Owned ρ σ a then none else c.F a }
def memNl (g : Gh) : Bool := g.mem.all fun m => nlf m.2
section
variable {B : Tb} {K : PySem.W.Frag} {c₀ c : Cn} {H₀ H : Hp} {g : Gh} {ρ : SEnv} {σ : L2.St}
theorem RelS.owned (r : RelS B K c₀ H₀ c g ρ σ H) {a : Addr} (h : Owned ρ σ a) : ∃ vs, H a = some (.lst vs) ∧ c.F a = none ∧ c.pen ≠ some a ∧ a ∉ c.ma ∧ H₀ a = none := by
  obtain ⟨i, ds, h1, h2⟩ := h
  obtain ⟨p, vs, e1, e2, e3, e4, e5, e6, e7⟩ := r.ow i ds h1
  rw [h2] at e1
  cases e1
  exact ⟨vs, e2, e4, e5, e6, e7⟩
theorem RelS.snapLe (r : RelS B K c₀ H₀ c g ρ σ H) : Le c (snapC c ρ σ H) := by
  refine ⟨fun a o h => ?_, fun _ h => h, fun _ _ h => h, fun _ _ => rfl⟩
  show (if Owned ρ σ a then H a else c.F a) = some o
  rw [if_neg]
  · exact h
  · intro z
    obtain ⟨_, _, e, _⟩ := r.owned z
    rw [h] at e; cases e
theorem RelS.snapFine (r : RelS B K c₀ H₀ c g ρ σ H) : Fine B K (snapC c ρ σ H) g H := by
  have le := r.snapLe
  refine ⟨fun a o h => ?_, r.fine.pd, fun p hp => ?_, fun p hp => (let ⟨ns, h1, h2⟩ := r.fine.cells p hp; ⟨ns, le.F _ _ h1, h2⟩), r.fine.mlen, r.fine.mnd, fun i m a h1 h2 => ?_⟩
  · have h : (if Owned ρ σ a then H a else c.F a) = some o := h
    split at h
    · exact h
    · exact r.fine.sub a o h
  · obtain ⟨h1, h2, o, h3, h4⟩ := r.fine.pen p hp
    refine ⟨?_, h2, o, h3, h4⟩
    show (if Owned ρ σ p then H p else c.F p) = none
    rw [if_neg]
    · exact h1
    · intro z
      obtain ⟨_, _, _, e, _⟩ := r.owned z
      exact e hp
  · obtain ⟨h3, dx, fs, h4, h5⟩ := r.fine.mem i m a h1 h2
    refine ⟨?_, dx, fs, h4, h5.mono le⟩
    show (if Owned ρ σ a then H a else c.F a) = none
    rw [if_neg]
    · exact h3
    · intro z
      obtain ⟨_, _, _, _, e, _⟩ := r.owned z
      exact e (List.mem_of_getElem? h2)
theorem RelS.snapRel (r : RelS B K c₀ H₀ c g ρ σ H) : RelP B K (snapC c ρ σ H) (snap ρ) σ := by
  refine ⟨by unfold snap; rw [List.length_map]; exact Nat.le_of_eq r.len, fun i d h => ?_⟩
  unfold snap at h
  rw [List.getElem?_map] at h
  cases e : ρ[i]? with
  | none => rw [e] at h; cases h
  | some v =>
    rw [e] at h
    cases v with
    | fz d' =>
      simp only [Option.map_some, SV.snap, Option.some.injEq] at h
      subst h
      obtain ⟨v, h1, h2⟩ := r.fz i _ e
      exact ⟨v, h1, h2.mono r.snapLe⟩
    | un => simp [SV.snap] at h
    | ob p k fs => simp [SV.snap] at h
    | ow ds =>
      simp only [Option.map_some, SV.snap, Option.some.injEq] at h
      subst h
      obtain ⟨p, vs, e1, e2, e3, _⟩ := r.ow i ds e
      refine ⟨_, e1, .lst ?_ (e3.mono r.snapLe)⟩
      show (if Owned ρ σ p then H p else c.F p) = _
      rw [if_pos ⟨i, ds, e, e1⟩]; exact e2
/-- back again -/
theorem RelS.unsnap (r : RelS B K c₀ H₀ c g ρ σ H) {c1 : Cn} {g1 : Gh} {H1 : Hp} (s : Grow (snapC c ρ σ H) H c1 H1) (k : Fine B K c1 g1 H1) (hm : (memNl g1 && (g1.pd == g.pd)) = true) : RelS B K c₀ H₀ (cutC c1 ρ σ) g1 ρ σ H1 ∧ NL c1 (cutC c1 ρ σ) ∧ Grow c H (cutC c1 ρ σ) H1 := by
  obtain ⟨hm, hpd⟩ := Bool.and_eq_true_iff.mp hm
  have hpd : g1.pd = g.pd := eq_of_beq hpd
  have nl0 : NL c1 (cutC c1 ρ σ) := by
    refine ⟨fun a o h hn => ?_, rfl, rfl⟩
    show (if Owned ρ σ a then none else c1.F a) = some o
    rw [if_neg]
    · exact h
    · intro z
      obtain ⟨vs, e1, _⟩ := r.owned z
      have h2 : (snapC c ρ σ H).F a = some (.lst vs) := by
        show (if Owned ρ σ a then H a else c.F a) = _
        rw [if_pos z]; exact e1
      have h3 := s.le.F _ _ h2
      rw [h] at h3
      cases h3
      exact hn vs rfl
  have gr : Grow c H (cutC c1 ρ σ) H1 := by
    refine ⟨⟨fun a o h => ?_, s.le.pen, s.le.ma, s.le.cel⟩, s.keep, s.fresh, fun a o h => ?_⟩
    · show (if Owned ρ σ a then none else c1.F a) = some o
      rw [if_neg]
      · exact s.le.F _ _ (r.snapLe.F _ _ h)
      · intro z
        obtain ⟨_, _, e, _⟩ := r.owned z
        rw [h] at e; cases e
    · have h : (if Owned ρ σ a then none else c1.F a) = some o := h
      split at h
      · cases h
      · rename_i hn
        rcases s.froz a o h with (q | q) | q
        · have q : (if Owned ρ σ a then H a else c.F a) = some o := q
          rw [if_neg hn] at q
          exact .inl (.inl q)
        · exact .inl (.inr q)
        · exact .inr q
  have fine : Fine B K (cutC c1 ρ σ) g1 H1 := by
    refine ⟨fun a o h => ?_, k.pd, fun p hp => ?_, fun p hp => ?_, k.mlen, k.mnd, fun i m a h1 h2 => ?_⟩
    · have h : (if Owned ρ σ a then none else c1.F a) = some o := h
      split at h
      · cases h
      · exact k.sub a o h
    · obtain ⟨h1, h2, o, h3, h4⟩ := k.pen p hp
      refine ⟨?_, h2, o, h3, h4⟩
      show (if Owned ρ σ p then none else c1.F p) = none
      split
      · rfl
      · exact h1
    · obtain ⟨ns, h1, h2⟩ := k.cells p hp
      refine ⟨ns, ?_, h2⟩
      show (if Owned ρ σ c1.cel then none else c1.F c1.cel) = _
      rw [if_neg]
      · exact h1
      · -- the cells are no list of ours
        intro z
        rcases s.fresh p (.inl hp) with (q | q) | q
        · have q : c.pen = some p := q
          obtain ⟨ns', h3, _⟩ := r.fine.cells p q
          have e : c1.cel = c.cel := s.le.cel p q
          obtain ⟨_, _, e2, _⟩ := r.owned z
          rw [e, h3] at e2; cases e2
        · have q : p ∈ c.ma := q
          obtain ⟨i, hi⟩ := List.getElem?_of_mem q
          exact (k.pen p hp).2.1 (List.mem_of_getElem? (s.le.ma i p hi))
        · have hp : c1.pen = some p := hp
          have e1 : c1.pen.isSome = true := by rw [hp]; rfl
          rw [k.pd, hpd, ← r.fine.pd] at e1
          obtain ⟨p', hp'⟩ := Option.isSome_iff_exists.mp e1
          have hp2 := s.le.pen p' hp'
          rw [hp] at hp2
          cases hp2
          obtain ⟨_, _, o, h5, _⟩ := r.fine.pen p hp'
          rw [q] at h5; cases h5
    · obtain ⟨h3, dx, fs, h4, h5⟩ := k.mem i m a h1 h2
      refine ⟨?_, dx, fs, h4, h5.nl nl0 ?_⟩
      · show (if Owned ρ σ a then none else c1.F a) = none
        split
        · rfl
        · exact h3
      · unfold memNl at hm
        rw [List.all_eq_true] at hm
        exact hm m (List.mem_of_getElem? h1)
  exact ⟨r.next gr fine, nl0, gr⟩
end
section
variable {B : Tb} {X : Cx} {W : WX} {H₀ : Hp} {e : Expr} {te : DE} {tc : DT} {t u : DS} {pos : Pos}
def okG (g g' : Gh) : Bool := memNl g' && (g'.pd == g.pd)
/-- an exception at a look at all slots: nothing of a list in it -/
theorem RelS.zsnap {K : PySem.W.Frag} {c₀ c : Cn} {H : Hp} {g : Gh} {ρ : SEnv} {σ : L2.St} {W : WX} {D : DEnds} (r : RelS B K c₀ H₀ c g ρ σ H) (z : ZS B K c₀ H₀ W D) : ZOk B K (snapC c ρ σ H) H σ W fun ex g' => okG g g' = true ∧ nlf ex.fs = true ∧ D.xz ex ρ g' := fun c' H' g' ex cls d s k e q => by
  obtain ⟨q1, q2, q3⟩ := q
  obtain ⟨r', n', _⟩ := r.unsnap s k q1
  refine z _ g' ρ σ H' ex cls d r' ?_ q3
  obtain ⟨e1, e2⟩ := e
  refine ⟨e1, ?_⟩
  rcases e2 with e2 | ⟨dd, fs, h1, h2, h3⟩
  · exact .inl e2
  · exact .inr ⟨dd, fs, h1, n'.F _ _ h2 (fun xs z => by cases z), h3.nl n' q2⟩
/-- y = e, e looks at lists of ours; nothing of them is in what comes -/
def dSetS (i : Nat) (te : DE) : DS := fun En ρ g => te (snap ρ) g (fun d g' => okG g g' = true ∧ nl d = true ∧ En.nx (ρ.set i (.fz d)) g') fun ex g' => okG g g' = true ∧ nlf ex.fs = true ∧ En.xz ex ρ g'
theorem ws_setS {i : Nat} {x : Str} {pos' : Pos} (hN : X.N.Nodup) (hi : X.N[i]? = some x) (hx : Loc X.env.scope x) (he : WE B X W e te) (hs : swapsWith e (some (.Name x pos')) pos.line X.env = pure false := by rfl)
    (hf : X.fn x = true ∨ X.env.scope.names.lookup x = some .local := by first | exact .inl rfl | exact .inr rfl) : WS B X W H₀ (.Assign [.Name x pos'] e pos) (dSetS i te) := by
  refine ⟨fun c₀ c g ρ σ H D r q z => semS_of (ps_set hN hi hx pe_sem hs hf) ?_⟩
  refine (he.run _ g _ σ H _ _ r.snapFine r.snapRel q (r.zsnap z)).mono fun v H' ⟨c', g', d, s, k, rr, q1, q2, q'⟩ => ?_
  obtain ⟨r', n', _⟩ := r.unsnap s k q1
  exact ⟨_, g', _, r'.set (rr.nl n' q2), q'⟩
def dIfSS (c : DT) (t u : DS) : DS := fun En ρ g => c (snap ρ) g (fun b g' => okG g g' = true ∧ if b = true then t En ρ g' else u En ρ g') fun ex g' => okG g g' = true ∧ nlf ex.fs = true ∧ En.xz ex ρ g'
theorem ws_ifS {c : Expr} {a b : List Stmt} (hc : WT B X W c tc) (ha : WB B X W H₀ a t) (hb : WB B X W H₀ b u) : WS B X W H₀ (.If c a b pos) (dIfSS tc t u) := by
  refine ⟨fun c₀ c g ρ σ H D r q z => semS_of (ps_if pt_sem pss_sem pss_sem) ?_⟩
  refine (hc.run _ g _ σ H _ _ r.snapFine r.snapRel q (r.zsnap z)).mono fun v H' ⟨c', g', s, k, q1, q'⟩ => ?_
  obtain ⟨r', n', _⟩ := r.unsnap s k q1
  cases v with
  | true => exact ha.run c₀ _ g' ρ σ H' D r' q' z
  | false => exact hb.run c₀ _ g' ρ σ H' D r' q' z
def whileDS (c : DT) (tb : DS) (En : DEnds) : Nat → SEnv → Gh → Prop
  | 0, _, _ => False
  | n + 1, ρ, g => c (snap ρ) g (fun b g' => okG g g' = true ∧ if b = true then tb { En with nx := whileDS c tb En n, ct := whileDS c tb En n, bk := En.nx } ρ g' else En.nx ρ g') fun ex g' => okG g g' = true ∧ nlf ex.fs = true ∧ En.xz ex ρ g'
def dWhileS (c : DT) (tb : DS) : DS := fun En ρ g => ∃ n, whileDS c tb En n ρ g
theorem ws_whileS {c : Expr} {body : List Stmt} {tb : DS} (hp : PassesOwn (model X.prog X.w) X.A X.env X.xe) (hc : WT B X W c tc) (hb : WB B X W H₀ body tb) : WS B X W H₀ (.While c body [] pos) (dWhileS tc tb) := by
  refine ⟨fun c₀ c g ρ σ H D r ⟨n, q⟩ z => semS_of (ps_while hp pt_sem pss_sem) ?_⟩
  refine ⟨fun m σ' H' => ∃ c' g' ρ', RelS B X.K c₀ H₀ c' g' ρ' σ' H' ∧ whileDS tc tb D m ρ' g', ⟨n, c, g, ρ, r, q⟩, ?_⟩
  rintro m σ' H' ⟨c', g', ρ', r', q'⟩
  cases m with
  | zero => exact q'.elim
  | succ m =>
    refine (hc.run _ g' _ σ' H' _ _ r'.snapFine r'.snapRel q' (r'.zsnap z)).mono fun b H2 ⟨c2, g2, s2, k2, q1, q2⟩ => ?_
    obtain ⟨r2, _, _⟩ := r'.unsnap s2 k2 q1
    cases b with
    | true =>
      refine ⟨fun σ3 H3 => ∃ c3 g3 ρ3, RelS B X.K c₀ H₀ c3 g3 ρ3 σ3 H3 ∧ whileDS tc tb D m ρ3 g3, fun σ3 H3 n3 => ⟨m, Nat.lt_succ_self m, n3⟩, ?_⟩
      intro pins s I
      refine thn (hb.run c₀ _ g2 ρ' σ' H2 _ r2 q2 (fun c' g' ρ' σ' H' ex cls d a b c => z c' g' ρ' σ' H' ex cls d a b c) pins s I) fun f s' hq => ?_
      exact SP.imp hq (fun _ _ h => h) (fun _ _ h => h) (fun _ _ h => h) (fun _ _ h => h)
    | false => exact ⟨_, g2, ρ', r2, q2⟩
/-- x.append(e), e looks at lists of ours -/
def dAppendS (i : Nat) (te : DE) : DS := fun En ρ g => ∃ ds, ρ[i]? = some (.ow ds) ∧ te (snap ρ) g (fun d g' => okG g g' = true ∧ nl d = true ∧ ds.length < sizeLine ∧ En.nx (ρ.set i (.ow (ds ++ [d]))) g') fun ex g' => okG g g' = true ∧ nlf ex.fs = true ∧ En.xz ex ρ g'
theorem ws_appendS {i : Nat} {x : Str} {px apos cpos : Pos} (hv : PE X (.Name x px) (tVar i)) (he : WE B X W e te)
    (hbase : attributeBase (.Name x px) "append" X.env (eval (.Name x px) X.env) = eval (.Name x px) X.env := by rfl)
    (hfew : ((backTo cpos (starEach [e] X.env)).all (fun x => !x.1) && (backToKw cpos (keywordEach [] X.env)).all (fun x => x.1.isSome) && decide ([e].length + ([] : List Keyword).length + (if ([] : List Keyword).isEmpty then 0 else 1) < 30)) = true := by rfl)
    (hline : (apos.endLine == cpos.line) = true := by rfl) (hs : starEach [e] X.env = (false, eval e X.env) :: starEach [] X.env := by rfl) (hsw : swapsWith (.Call (.Attribute (.Name x px) "append" apos) [e] [] cpos) none pos.line X.env = pure false := by rfl) :
    WS B X W H₀ (.Expr (.Call (.Attribute (.Name x px) "append" apos) [e] [] cpos) pos) (dAppendS i te) := by
  refine ⟨fun c₀ c g ρ σ H D r q z => semS_of (ps_expr (pe_bm PySem.F.plainAttrs_list PySem.F.slot_list_append PySem.F.type_list_append mt_append hv (pa_cons pe_sem pa_nil hs) hbase hfew hline hs rfl) hsw) ?_⟩
  obtain ⟨ds0, h0, q⟩ := q
  obtain ⟨p, vs, h1, h2, h3, h4, h5, h6, h7⟩ := r.ow i ds0 h0
  refine ⟨_, h1, .inl ⟨rfl, vs, SqL.of h2⟩, ?_⟩
  refine (he.run _ g _ σ H _ _ r.snapFine r.snapRel q (r.zsnap z)).mono fun v H' ⟨c', g', d, s, k, rr, q1, q2, hl, q'⟩ => ?_
  obtain ⟨r', n', s'⟩ := r.unsnap s k q1
  obtain ⟨m1, _⟩ := s'.mine h2 h4 h5 h6
  have h3' : Reps B X.K (cutC c' ρ σ) vs ds0 := h3.mono s'.le
  exact ⟨p, vs, v, rfl, rfl, m1, by rw [h3'.length]; exact hl, _, g', _, r'.put h0 h1 (h3'.append (.cons (rr.nl n' q2) .nil)), q'⟩
/-- x.append(y.pop(e)) -/
def popAt (ds : List D) (i : Int) : Option (D × List D) := if -(2 ^ 63) ≤ i ∧ i < 2 ^ 63 then (seqIndex? i ds.length).bind fun k => (ds[k]?).map fun d => (d, ds.eraseIdx k) else none
def dMove (i j : Nat) (te : DE) : DS := fun En ρ g => i ≠ j ∧ ∃ xs ys, ρ[i]? = some (.ow xs) ∧ ρ[j]? = some (.ow ys) ∧ te (snap ρ) g (fun d g' => okG g g' = true ∧ ∃ n y r, d = .int n ∧ popAt ys n = some (y, r) ∧ xs.length < sizeLine ∧ En.nx ((ρ.set j (.ow r)).set i (.ow (xs ++ [y]))) g') fun ex g' => okG g g' = true ∧ nlf ex.fs = true ∧ En.xz ex ρ g'
theorem Reps.erase {K : PySem.W.Frag} {c : Cn} : ∀ {vs : List V} {ds : List D} (k : Nat), Reps B K c vs ds → Reps B K c (vs.eraseIdx k) (ds.eraseIdx k)
  | _, _, _, .nil => by simp; exact .nil
  | _, _, 0, .cons r t => by simpa using t
  | _, _, k + 1, .cons r t => by simpa using .cons r (Reps.erase k t)
theorem ws_move {i j : Nat} {x y : Str} {px py apos cpos apos2 cpos2 : Pos} (hv : PE X (.Name x px) (tVar i)) (hy : PE X (.Name y py) (tVar j)) (he : WE B X W e te)
    (hbase : attributeBase (.Name x px) "append" X.env (eval (.Name x px) X.env) = eval (.Name x px) X.env := by rfl) (hbase2 : attributeBase (.Name y py) "pop" X.env (eval (.Name y py) X.env) = eval (.Name y py) X.env := by rfl)
    (hfew : ((backTo cpos (starEach [.Call (.Attribute (.Name y py) "pop" apos2) [e] [] cpos2] X.env)).all (fun x => !x.1) && (backToKw cpos (keywordEach [] X.env)).all (fun x => x.1.isSome) && decide ([Expr.Call (.Attribute (.Name y py) "pop" apos2) [e] [] cpos2].length + ([] : List Keyword).length + (if ([] : List Keyword).isEmpty then 0 else 1) < 30)) = true := by rfl)
    (hfew2 : ((backTo cpos2 (starEach [e] X.env)).all (fun x => !x.1) && (backToKw cpos2 (keywordEach [] X.env)).all (fun x => x.1.isSome) && decide ([e].length + ([] : List Keyword).length + (if ([] : List Keyword).isEmpty then 0 else 1) < 30)) = true := by rfl)
    (hline : (apos.endLine == cpos.line) = true := by rfl) (hline2 : (apos2.endLine == cpos2.line) = true := by rfl) (hs : starEach [e] X.env = (false, eval e X.env) :: starEach [] X.env := by rfl)
    (hsw : swapsWith (.Call (.Attribute (.Name x px) "append" apos) [.Call (.Attribute (.Name y py) "pop" apos2) [e] [] cpos2] [] cpos) none pos.line X.env = pure false := by rfl) :
    WS B X W H₀ (.Expr (.Call (.Attribute (.Name x px) "append" apos) [.Call (.Attribute (.Name y py) "pop" apos2) [e] [] cpos2] [] cpos) pos) (dMove i j te) := by
  refine ⟨fun c₀ c g ρ σ H D r q z => semS_of (ps_expr (pe_bm PySem.F.plainAttrs_list PySem.F.slot_list_append PySem.F.type_list_append mt_append hv
    (pa_cons (pe_bm PySem.F.plainAttrs_list PySem.F.slot_list_pop PySem.F.type_list_pop mt_popAt hy (pa_cons pe_sem pa_nil hs) hbase2 hfew2 hline2 hs rfl) pa_nil rfl) hbase hfew hline rfl rfl) hsw) ?_⟩
  obtain ⟨hij, xs, ys, hx0, hy0, q⟩ := q
  obtain ⟨p, vs, h1, h2, h3, h4, h5, h6, h7⟩ := r.ow i xs hx0
  obtain ⟨p', ws, f1, f2, f3, f4, f5, f6, f7⟩ := r.ow j ys hy0
  have npp : p ≠ p' := fun e => by subst e; exact r.inj i j xs ys p hij hx0 hy0 h1 f1
  refine ⟨_, h1, .inl ⟨rfl, vs, SqL.of h2⟩, _, f1, .inl ⟨rfl, ws, SqL.of f2⟩, ?_⟩
  refine (he.run _ g _ σ H _ _ r.snapFine r.snapRel q (r.zsnap z)).mono fun v H' ⟨c', g', d, s, k, rr, q1, n, yy, rr', ed, ep, hl, q'⟩ => ?_
  subst ed
  cases rr
  obtain ⟨r', n', s'⟩ := r.unsnap s k q1
  obtain ⟨m1, m2, m3, m4⟩ := s'.mine h2 h4 h5 h6
  obtain ⟨l1, l2, l3, l4⟩ := s'.mine f2 f4 f5 f6
  have h3' : Reps B X.K (cutC c' ρ σ) vs xs := h3.mono s'.le
  have f3' : Reps B X.K (cutC c' ρ σ) ws ys := f3.mono s'.le
  unfold popAt at ep
  split at ep
  · rename_i hn
    rw [Option.bind_eq_some_iff] at ep
    obtain ⟨kk, e1, e2⟩ := ep
    rw [Option.map_eq_some_iff] at e2
    obtain ⟨d, e3, e4⟩ := e2
    cases e4
    obtain ⟨w, e5, e6⟩ := f3'.getD e3
    refine ⟨p', ws, n, kk, w, rfl, rfl, l1, hn.1, hn.2, by rw [f3'.length]; exact e1, e5, p, vs, w, rfl, rfl, by rw [upd_ne npp]; exact m1, by rw [h3'.length]; exact hl, cutC c' ρ σ, g', _, ?_, q'⟩
    have r2 := r'.put hy0 f1 (f3'.erase kk)
    have hx1 : (ρ.set j (.ow (ys.eraseIdx kk)))[i]? = some (.ow xs) := by rw [List.getElem?_set_ne (Ne.symm hij)]; exact hx0
    exact r2.put hx1 h1 (h3'.append (.cons e6 .nil))
  · cases ep
end
end DL

namespace DL
open PySem L2 PyProof.Rows
/-! ### an exception that was caught is held as a value -/
def xcHO (cls : Value) (a : Addr) (d : Option Addr) : HO := .ext fun h => ∃ o vs, h.get? a = some o ∧ o.cls = cls ∧ o.dict = d ∧ o.data = .fields vs
theorem Inv.hold {X : Cx} {pins : List (Addr × Obj)} {σ : L2.St} {H : Hp} {s : Shared} {a : Addr} {oe : Obj} {vs : Array Value} {cls : Value} {d : Option Addr} (J : L2.Inv X pins σ H s) (ha : s.heap.get? a = some oe) (hz : Zc cls d oe) (hd : oe.data = .fields vs) (hH : H a = none) (hL : a ≠ X.env.locals)
    (hp : ∀ p ∈ X.pn ++ pins, p.1 ≠ a) (h0 : ∀ o, X.s_0.heap.get? a ≠ some o) : L2.Inv X pins σ (upd H a (xcHO cls a d)) s := by
  have nn : ∀ b u, H b = some u → b ≠ a := fun b u e z => by rw [z, hH] at e; cases e
  refine ⟨J.ok, J.os, J.bare, ⟨J.base.keep, J.base.slot, fun b o e n hx => ?_, J.base.there, fun b xs e => ?_, fun b o u e => ?_, fun b ps e => ?_⟩, J.loc, J.cell, ?_, fun x c e => ?_, fun p q => ?_, fun b u e => ?_, J.len⟩
  · rw [upd_ne (fun z => h0 o (by rw [← z]; exact e))]; exact J.base.free b o e n hx
  · have q := J.base.tups b xs e
    rw [upd_ne (nn _ _ q)]; exact q
  · have q := J.base.frzs b o u e
    rw [upd_ne (nn _ _ q)]; exact q
  · obtain ⟨m, q⟩ := J.base.tbls b ps e
    exact ⟨m, by rw [upd_ne (nn _ _ q)]; exact q⟩
  · rw [upd_ne (Ne.symm hL)]; exact J.free
  · rw [upd_ne]
    · exact J.freeC x c e
    · intro z
      obtain ⟨v, o, ho, hdd⟩ := J.cell x c e
      rw [z, ha] at ho
      cases ho
      rw [hd] at hdd; cases hdd
  · obtain ⟨e1, e2, e3, e4, e5⟩ := J.pin p q
    exact ⟨e1, by rw [upd_ne (hp p q)]; exact e2, e3, e4, e5⟩
  · by_cases hb : b = a
    · subst hb
      rw [upd_same] at e
      cases e
      refine ⟨⟨oe, vs, ha, hz.1, hz.2, hd⟩, ⟨oe, ha⟩, fun h1 h2 ⟨o, ws, q1, q2, q3, q4⟩ k => ⟨o, ws, k o q1, q2, q3, q4⟩⟩
    · rw [upd_ne hb] at e
      exact (J.hok b u e).stay (fun _ _ _ q => q) (fun c q => by rw [upd_ne (nn _ _ q)]; exact q) fun c xs q => by rw [upd_ne (nn _ _ q)]; exact q
/-- what the clause wants of an exception of the body -/
def wKeep (K : PySem.W.Frag) (c : Value) (i j : Nat) (Wout : WX) (nx : L2.St → Hp → Prop) : WX := fun cls d σ H =>
  ∃ b, PySem.W.exmOne K cls c = some b ∧ (b = true → ∀ a, H a = none → nx (((σ.set i (some (.ref a))).set j (some (.ref a))).set i none) (upd H a (xcHO cls a d))) ∧ (b = false → Wout cls d σ H)
section
variable {X : Cx} {x n y : Str} {c : Value} {i j : Nat} {body : List Stmt} {np py pn3 pos3 pos pos' : Pos} {tb : WX → TS} {Wout : WX}
/-- try: body / except x as n: y = n -/
theorem ps_try_keep (hs : X.stack = X.env :: X.outer) (hf : X.env.frame = some X.env.locals) (hex : X.ex = []) (hN : X.N.Nodup) (hi : X.N[i]? = some n) (hj : X.N[j]? = some y) (hln : X.env.kindOf n = some .local) (hly : X.env.kindOf y = some .local) (hc : Names X x c) (tk : Takes X Wout)
    (hb : ∀ (W : WX) (pn : List (Addr × Obj)) (xe : Value → Shared → Prop), Takes (X.tr pn xe) W → PassesOwn (model X.prog X.w) X.A X.env xe → PSs (X.tr pn xe) body (tb W))
    (hsw : swapsWith (.Name n pn3) (some (.Name y py)) pos3.line X.env = pure false := by rfl) (hdn : (n == ("__debug__" : Str)) = false := by decide) (hcd : (n == ("__classdict__" : Str)) = false := by decide) :
    PS X (.Try body [.ExceptHandler (some (.Name x np)) (some n) [.Assign [.Name y py] (.Name n pn3) pos3] pos'] [] [] pos) (fun D σ H => tb (wKeep X.K c i j Wout D.nx) D σ H) := by
  refine ⟨fun pins s σ H D I h => ?_⟩
  have okX := I.ok
  have frm : X.A.frames = some (X.env :: X.outer) := by rw [okX.frames, hs]
  refine wpAny_Try_except ?_
  refine wpAny_mono ((hb (wKeep X.K c i j Wout D.nx) (X.pn ++ pins) (fun e s₁ => wpAny (model X.prog X.w) X.A (noteFrame e X.env) (fun _ s₂ => wpAny (model X.prog X.w) X.A (setFlight e none) (fun _ s₃ =>
    wpAny (model X.prog X.w) X.A (handleBy e X.env [.ExceptHandler (some (.Name x np)) (some n) [.Assign [.Name y py] (.Name n pn3) pos3] pos']) (SP X pins D) X.xe s₃) X.xe s₂) X.xe s₁) (fun u s' air => ?_) PassesOwn.looking).run [] s σ H D (I.toTry _) h) (fun f s1 fin => ?_) (fun e s1 he => he)
  · obtain ⟨a, G, sI, pins', σ', H', cls, d, rfl, J0, nb, up, sky, na, os, ag, b, hb1, yes, no⟩ := air
    have J : L2.Inv X pins σ' H' sI := J0.ofTry okX
    have sk : Sky G (X.env :: X.outer) a (Zc cls d) X.env.locals s'.heap := by rw [← hs]; exact sky
    show wpAny (model X.prog X.w) X.A (noteFrame (.ref a) X.env) _ _ _
    refine Sky.land Zc.steady frm hf sk fun h3 fl3 up3 => ?_
    have J3 : L2.Inv X pins σ' H' { s' with heap := h3 } := J.landed nb fl3.1 (up.trans up3) os ag
    obtain ⟨oe3, vs3, at3, z3, d3⟩ := fl3.there
    have out : a ∉ frs (X.env :: X.outer) := fun hm => by
      obtain ⟨_, o', e', hnf⟩ := fl3.2.2.1.mem hm
      rw [at3] at e'; cases e'
      exact hnf _ d3
    have nL : a ≠ X.env.locals := fun z => out (List.mem_filterMap.mpr ⟨X.env, List.mem_cons_self, by rw [hf, z]⟩)
    have nF : a ∉ X.fs := fun hm => by
      obtain ⟨ev, hev, q⟩ := List.mem_filterMap.mp hm
      exact out (List.mem_filterMap.mpr ⟨ev, List.mem_cons_of_mem _ hev, q⟩)
    have notI : ∀ o, sI.heap.get? a ≠ some o := fun o z => by
      have q := nb a o z (by rw [hs]; exact out)
      rw [fl3.2.1] at q; cases q
    have not0 : ∀ o, X.s_0.heap.get? a ≠ some o := fun o z => by
      obtain ⟨o', q⟩ := J.base.there a o z (by rw [hex]; simp)
      exact notI o' q
    have notP : ∀ p ∈ X.pn ++ pins, p.1 ≠ a := fun p hp z => notI p.2 (by rw [← z]; exact (J.pin p hp).1)
    have S3 := J3.suite at3 d3 na nL nF
    refine wpAny_handleBy_cons (codeAny_handlers_test ?_) (by intro q; cases q)
    have ty : PySem.W.Looks (model X.prog X.w) h3 (typeOf (.ref a)) cls := fun A Q E s k q => wpAny_typeOf_ref (k _ _ at3) (by rw [z3.1]; exact q)
    have mt := PySem.W.exm_one (M := model X.prog X.w) (J3.kIn) ty hb1
    have look : ∀ {Q : Value → Shared → Prop} {E : Value → Shared → Prop}, Q c { s' with heap := h3 } → wpAny (model X.prog X.w) (X.A.mark (some (.ref a))) (eval (.Name x np) X.env) Q E { s' with heap := h3 } := fun {Q E} q => by
      obtain ⟨hg, hdbg, hm | ⟨hm, hv, hnn⟩⟩ := hc
      · exact ld_glob (X := X.suite a ((a, oe3) :: (X.pn ++ pins))) S3 hg hm q hdbg
      · exact ld_blt (X := X.suite a ((a, oe3) :: (X.pn ++ pins))) S3 hg hm hv q hnn hdbg
    refine look (mt.here ?_)
    cases b with
    | true =>
      refine codeAny_handlers_suite_as ?_
      refine HandSPX.lands_againZ fl3 fun h4 fl4 up4 => ?_
      have J4 : L2.Inv X pins σ' H' { s' with heap := h4 } := J.landed nb fl4.1 ((up.trans up3).trans up4) os ag
      obtain ⟨oe4, vs4, at4, z4, d4⟩ := fl4.there
      have S4 := J4.suite at4 d4 na nL nF
      refine store_ok (X := X.suite a ((a, oe4) :: (X.pn ++ pins))) (v := .ref a) S4 hN hi (.inl hln) rfl (fun s5 S5 => ?_) (.inr hln)
      have asg : PSs (X.suite a ((a, oe4) :: (X.pn ++ pins))) [.Assign [.Name y py] (.Name n pn3) pos3] (tAsg (tVar i) (gName j)) :=
        pss_one (ps_set (X := X.suite a ((a, oe4) :: (X.pn ++ pins))) hN hj (.inl hly) (pe_var (X := X.suite a ((a, oe4) :: (X.pn ++ pins))) hi (.inl hln) hdn hcd) hsw (.inr hly))
      have hil : i < σ'.length := by rw [J.len]; exact (List.getElem?_eq_some_iff.mp hi).1
      refine wpAny_mono (asg.run [] s5 _ H' { nx := fun σ6 H6 => σ6 = (σ'.set i (some (.ref a))).set j (some (.ref a)) ∧ H6 = H', rt := fun _ _ => False } S5 ⟨_, List.getElem?_set_self hil, rfl, rfl⟩) (fun f s6 fin => ?_) (fun _ _ z => False.elim z)
      cases f with
      | next =>
        obtain ⟨σ6, H6, S6, e6, e7⟩ := fin
        subst e6 e7
        have P6 := (S6.pin (a, oe4) (by simp)).1
        refine gone_ok (Inv.hold (S6.unsuite okX) P6 z4 d4 na nL notP not0) hN hi hln fun s7 J7 => ?_
        exact ⟨_, _, J7, yes rfl a na⟩
      | brk => obtain ⟨_, _, _, q⟩ := fin; exact q.elim
      | cont => obtain ⟨_, _, _, q⟩ := fin; exact q.elim
      | ret u => obtain ⟨_, _, _, _, _, q⟩ := fin; exact q.elim
    | false =>
      show wpAny _ X.A (handleBy (.ref a) X.env []) _ _ _
      refine wpAny_handleBy_nil ?_
      obtain ⟨k1, k2, k3, oe, vs, T, oT, tsx, he, hz, hd, h1, hr⟩ := id fl3
      unfold PySem.passOn
      refine wpAny_bind (wpAny_field he hd h1 ?_)
      rw [if_neg (show ¬ ((Value.ref T == Value.none) = true) from by simp)]
      have onward : wpAny (model X.prog X.w) X.A (setFlight (.ref a) X.env.frame) (fun _ s4 => wpAny (model X.prog X.w) X.A (throw (.ref a) : Sem Flow) (SP X pins D) X.xe s4) X.xe { s' with heap := h3 } := by
        rw [hf]
        refine HandSPX.setFlight_upZ fl3 fun h4 hh4 up4 => wpAny_throw (tk _ _ ?_)
        exact ⟨a, G, sI, pins, σ', H', cls, d, rfl, J, nb, (up.trans up3).trans up4, .inr (.inr (by rw [hs]; exact hh4)), na, os, ag, no rfl⟩
      first
        | exact wpAny_bind (wpAny_pure (wpAny_bind onward))
        | exact wpAny_bind onward
  · cases f with
    | next => obtain ⟨σ', H', J', q⟩ := fin; exact wpAny_execs_nil ⟨σ', H', J'.ofTry okX, q⟩
    | brk => obtain ⟨σ', H', J', q⟩ := fin; exact ⟨σ', H', J'.ofTry okX, q⟩
    | cont => obtain ⟨σ', H', J', q⟩ := fin; exact ⟨σ', H', J'.ofTry okX, q⟩
    | ret u => obtain ⟨v, σ', H', J', r, q⟩ := fin; exact ⟨v, σ', H', J'.ofTry okX, r, q⟩
end
end DL

namespace DL
open PySem L2 PyProof.Rows
/-! ### an exception class whose __init__ stores its arguments -/
/-- self.f = f for each of the names -/
def isInit : List Str → List Stmt → Bool
  | [], [] => true
  | f :: fs, .Assign [.Attribute (.Name s _) h _] (.Name e _) _ :: r => s == "self" && h == f && e == f && !(f == "__debug__") && !(f == "__classdict__") && isInit fs r
  | _, _ => false
def spX (K : PySem.W.Frag) (fns : List Str) : Sp := fun vs H Q _ => ∃ (a C : Addr) (ws : List V), vs = .ref a :: ws ∧ ws.length = fns.length ∧ OexC K C ∧ (∀ f ∈ fns, PySem.W.findIn K (.ref C) f = some none) ∧ H a = some (exo a C none) ∧
  ∀ dx, H dx = none → dx ≠ a → Q .non (upd (upd H dx (exd dx (fns.zip ws).reverse)) a (exo a C (some dx)))
theorem upd_upd {H : Hp} {a : Addr} {o u : HO} : upd (upd H a o) a u = upd H a u := by
  funext b
  by_cases e : b = a
  · subst e; rw [upd_same, upd_same]
  · rw [upd_ne e, upd_ne e, upd_ne e]
theorem upd_swap {H : Hp} {a b : Addr} {o u : HO} (h : a ≠ b) : upd (upd H a o) b u = upd (upd H b u) a o := by
  funext c
  by_cases e : c = a
  · subst e; rw [upd_same, upd_ne h, upd_same]
  · by_cases e2 : c = b
    · subst e2; rw [upd_same, upd_ne e, upd_same]
    · rw [upd_ne e2, upd_ne e, upd_ne e, upd_ne e2]
theorem upd_id {H : Hp} {a : Addr} {o : HO} (h : H a = some o) : upd H a o = H := by
  funext b
  by_cases e : b = a
  · subst e; rw [upd_same, h]
  · rw [upd_ne e]
theorem init_cons {f : Str} {fns : List Str} {body : List Stmt} (h : isInit (f :: fns) body = true) : ∃ p1 p2 p3 p4 r, body = .Assign [.Attribute (.Name "self" p1) f p2] (.Name f p3) p4 :: r ∧ (f == ("__debug__" : Str)) = false ∧ (f == ("__classdict__" : Str)) = false ∧ isInit fns r = true := by
  unfold isInit at h
  split at h
  · rename_i _ e; cases e
  · rename_i f' fs s p1 hh p2 e p3 p4 r e1
    cases e1
    simp only [Bool.and_eq_true, Bool.not_eq_true', beq_iff_eq] at h
    obtain ⟨⟨⟨⟨⟨rfl, rfl⟩, rfl⟩, h1⟩, h2⟩, h3⟩ := h
    exact ⟨p1, p2, p3, p4, r, rfl, h1, h2, h3⟩
  · cases h
theorem init_rest {X : Cx} {a C dx : Addr} {σ : L2.St} {En : L2.Ends} (T : OexC X.K C) (h0 : X.N[0]? = some ("self" : Str)) (hs0 : σ[0]? = some (some (.ref a))) (hv : ∀ (i : Nat) (x : Str), X.N[i]? = some x → Vis X.env.scope x) (hda : dx ≠ a) :
    ∀ (fns : List Str) (body : List Stmt) (i : Nat) (ws : List V) (fs : List (Str × V)) (H : Hp), isInit fns body = true → (∀ f ∈ fns, PySem.W.findIn X.K (.ref C) f = some none) → ws.length = fns.length → (∀ (k : Nat) (f : Str), fns[k]? = some f → X.N[i + k]? = some f) →
      (∀ (k : Nat) (w : V), ws[k]? = some w → σ[i + k]? = some (some w)) → fs.length + fns.length ≤ 900 → H a = some (exo a C (some dx)) → H dx = some (exd dx fs) → En.nx σ (upd H dx (exd dx ((fns.zip ws).reverse ++ fs))) → semSs X body En σ H := by
  intro fns
  induction fns with
  | nil =>
    intro body i ws fs H hb _ hl _ _ _ ha hd q
    cases body with
    | cons _ _ => cases hb
    | nil =>
      cases ws with
      | cons _ _ => cases hl
      | nil =>
        refine semSs_of pss_nil ?_
        simp only [List.zip_nil_left, List.reverse_nil, List.nil_append] at q
        rw [upd_id hd] at q
        exact q
  | cons f fns ih =>
    intro body i ws fs H hb hno hl hN hσ hlen ha hd q
    obtain ⟨p1, p2, p3, p4, r, rfl, d1, d2, hb⟩ := init_cons hb
    cases ws with
    | nil => cases hl
    | cons w ws =>
      have hf : X.N[i]? = some f := hN 0 f rfl
      refine semSs_of (pss_cons (ps_ost (pe_var h0 (hv 0 _ h0) (by decide) (by decide)) (pe_var hf (hv i f hf) d1 d2)) pss_sem) ?_
      refine ⟨w, hσ 0 w rfl, .ref a, hs0, a, C, rfl, T, hno f List.mem_cons_self, .inr ⟨dx, fs, ha, hd, by simp at hlen; omega, ?_⟩⟩
      refine ih r (i + 1) ws ((f, w) :: fs) _ hb (fun g hg => hno g (List.mem_cons_of_mem _ hg)) (by simpa using hl) (fun k g hg => by rw [Nat.add_right_comm]; exact hN (k + 1) g (by simpa using hg)) (fun k g hg => by rw [Nat.add_right_comm]; exact hσ (k + 1) g (by simpa using hg)) (by simp at hlen ⊢; omega) ?_ upd_same ?_
      · rw [upd_ne (Ne.symm hda)]; exact ha
      · rw [upd_upd]
        simpa using q
theorem init_first {X : Cx} {a C : Addr} {σ : L2.St} {En : L2.Ends} (T : OexC X.K C) (h0 : X.N[0]? = some ("self" : Str)) (hs0 : σ[0]? = some (some (.ref a))) (hv : ∀ (i : Nat) (x : Str), X.N[i]? = some x → Vis X.env.scope x) {f : Str} {fns : List Str} {body : List Stmt} {w : V} {ws : List V} {H : Hp}
    (hb : isInit (f :: fns) body = true) (hno : ∀ g ∈ f :: fns, PySem.W.findIn X.K (.ref C) g = some none) (hl : ws.length = fns.length) (hN : ∀ (k : Nat) (g : Str), (f :: fns)[k]? = some g → X.N[1 + k]? = some g) (hσ : ∀ (k : Nat) (g : V), (w :: ws)[k]? = some g → σ[1 + k]? = some (some g)) (hlen : fns.length ≤ 800)
    (ha : H a = some (exo a C none)) (q : ∀ dx, H dx = none → dx ≠ a → En.nx σ (upd (upd H dx (exd dx ((f :: fns).zip (w :: ws)).reverse)) a (exo a C (some dx)))) : semSs X body En σ H := by
  obtain ⟨p1, p2, p3, p4, r, rfl, d1, d2, hb⟩ := init_cons hb
  have hf : X.N[1]? = some f := hN 0 f rfl
  refine semSs_of (pss_cons (ps_ost (pe_var h0 (hv 0 _ h0) (by decide) (by decide)) (pe_var hf (hv 1 f hf) d1 d2)) pss_sem) ?_
  refine ⟨w, hσ 0 w rfl, .ref a, hs0, a, C, rfl, T, hno f List.mem_cons_self, .inl ⟨ha, fun dx n1 n2 => ?_⟩⟩
  refine init_rest T h0 hs0 hv n2 fns r 2 ws [(f, w)] _ hb (fun g hg => hno g (List.mem_cons_of_mem _ hg)) hl (fun k g hg => by rw [show 2 + k = 1 + (k + 1) by omega]; exact hN (k + 1) g (by simpa using hg)) (fun k g hg => by rw [show 2 + k = 1 + (k + 1) by omega]; exact hσ (k + 1) g (by simpa using hg)) (by simp; omega) upd_same (by rw [upd_ne n2, upd_same]) ?_
  rw [upd_swap (Ne.symm n2), upd_upd]
  have := q dx n1 n2
  simpa using this
/-- such an __init__ keeps its promise -/
theorem xinit_ok {P : Program} {w : World} {K : PySem.W.Frag} {mg : Str → Option Value} {base : Heap} {qual f : Str} {st : Stmt} {fa : Addr} {fd : FuncData} {fns : List Str} (F : Fun K "__init__" qual st fa fd) (Sc : FnScope ("self" :: f :: fns) ("self" :: f :: fns) (defScope st)) (hb : isInit (f :: fns) (defBody st) = true) (hlen : fns.length ≤ 800) :
    FnOk P w K mg base (L2.CX P w) 1 fa fd ("self" :: f :: fns) (spX K (f :: fns)) := by
  refine F.okX Sc (fun vs H Q E ⟨a, C, ws, h1, h2, _⟩ => by subst h1; simp [h2]) fun cdv A outer s H vs Q E hr ⟨a, C, ws, h1, h2, T, hno, ha, q⟩ => ⟨_, pss_sem, ?_⟩
  subst h1
  cases ws with
  | nil => cases h2
  | cons y ws =>
    refine init_first (fns := fns) (f := f) (w := y) (ws := ws) (C := C) (a := a) T rfl (by rfl) (fun i x h => ?_) hb hno (by simpa using h2) (fun k g hg => by rw [Nat.add_comm]; exact hg) (fun k g hg => ?_) hlen ha fun dx n1 n2 => q dx n1 n2
    · rcases Sc.par x (List.mem_of_getElem? h) with z | z
      · exact .inl z
      · exact .inr (.inl z)
    · unfold L2.start
      rw [Nat.add_comm, List.getElem?_append_left (by simp; have := (List.getElem?_eq_some_iff.mp hg).1; simp at this; omega), List.getElem?_map]
      simp at hg ⊢
      exact hg
end DL

namespace DL
open PySem L2 PyProof.Rows
/-! ### raise -/
/-- an exception class by its name: its number, what its __init__ stores -/
structure XC (B : Tb) (P : Program) (w : World) (K : PySem.W.Frag) (mg : Str → Option Value) (base : Heap) (x : Str) (i : Nat) (fns : List Str) : Prop where
  ex : ∃ fI fd, OexC K (B.ct i) ∧ PySem.W.findIn K (.ref (B.ct i)) "__init__" = some (some (.ref fI)) ∧ PySem.W.typeIn K (.ref fI) = some (.type "function") ∧
    FnOk P w K mg base (L2.CX P w) 1 fI fd ("self" :: fns) (spX K fns) ∧ Binds K fd ("self" :: fns) [] ∧ mg x = some (.ref (B.ct i)) ∧ ∀ f ∈ fns, PySem.W.findIn K (.ref (B.ct i)) f = some none
/-- .. without __init__ -/
structure XC0 (B : Tb) (K : PySem.W.Frag) (mg : Str → Option Value) (x : Str) (i : Nat) : Prop where
  ex : ∃ bmB Bn newId initId, ExcBaseFacts Bn newId initId bmB ∧ PySem.W.excIn K (B.ct i) bmB newId = true
  mg : mg x = some (.ref (B.ct i))
  kp : PySem.W.keepIn K (.ref (B.ct i)) = true
  sub : PySem.W.subIn K (.ref (B.ct i)) (.type "BaseException") = some true
  ty : PySem.W.typeIn K (.ref (B.ct i)) = some (.type "type")
def fieldsOf (fns : List Str) (xs : List D) : List (Str × D) := (fns.zip xs).reverse
def dRaise (i : Nat) (fns : List Str) (tr : DA) : DS := fun En ρ g => tr (mask ρ) g (fun xs g' => En.xz ⟨i, fieldsOf fns xs⟩ ρ g') fun ex g' => En.xz ex ρ g'
theorem Reps.zipF {B : Tb} {K : PySem.W.Frag} {c : Cn} : ∀ {vs : List V} {ds : List D} (fns : List Str), Reps B K c vs ds → RepF B K c (fns.zip vs) (fns.zip ds)
  | _, _, [], _ => by simp; exact .nil
  | _, _, _ :: _, .nil => by simp; exact .nil
  | _, _, f :: fns, .cons r t => by
    rw [List.zip_cons_cons, List.zip_cons_cons]
    exact .cons r (Reps.zipF fns t)
theorem RepF.append {B : Tb} {K : PySem.W.Frag} {c : Cn} : ∀ {vs ws : List (Str × V)} {ds es : List (Str × D)}, RepF B K c vs ds → RepF B K c ws es → RepF B K c (vs ++ ws) (ds ++ es)
  | _, _, _, _, .nil, s => s
  | _, _, _, _, .cons r t, s => .cons r (RepF.append t s)
theorem RepF.rev {B : Tb} {K : PySem.W.Frag} {c : Cn} : ∀ {vs : List (Str × V)} {ds : List (Str × D)}, RepF B K c vs ds → RepF B K c vs.reverse ds.reverse
  | _, _, .nil => .nil
  | _, _, .cons r t => by
    rw [List.reverse_cons, List.reverse_cons]
    exact (RepF.rev t).append (.cons r .nil)
theorem RepF.look {B : Tb} {K : PySem.W.Frag} {c : Cn} {f : Str} : ∀ {vs : List (Str × V)} {ds : List (Str × D)} {d : D}, RepF B K c vs ds → ds.lookup f = some d → ∃ v, vs.lookup f = some v ∧ Rep B K c v d
  | _, _, _, .nil, h => by cases h
  | _, _, d, .cons (k := k) (v := v) (d := d') r t, h => by
    rw [List.lookup_cons] at h ⊢
    cases e : f == k with
    | true => rw [e] at h; cases h; exact ⟨v, rfl, r⟩
    | false => rw [e] at h; exact RepF.look t h
theorem RepF.lookN {B : Tb} {K : PySem.W.Frag} {c : Cn} {f : Str} : ∀ {vs : List (Str × V)} {ds : List (Str × D)}, RepF B K c vs ds → ds.lookup f = none → vs.lookup f = none
  | _, _, .nil, h => rfl
  | _, _, .cons (k := k) (v := v) (d := d') r t, h => by
    rw [List.lookup_cons] at h ⊢
    cases e : f == k with
    | true => rw [e] at h; cases h
    | false => rw [e] at h; exact RepF.lookN t h
theorem del_upd {H : Hp} {a d : Addr} {o u o' : HO} {F : HO} (hda : d ≠ a) (ha : H a = none) : upd (L2.del (upd (upd (upd H a o) d u) a o') a) d F = upd H d F := by
  funext b
  by_cases e : b = d
  · subst e; rw [upd_same, upd_same]
  · rw [upd_ne e, upd_ne e]
    by_cases e2 : b = a
    · subst e2; rw [L2.del_same, ha]
    · rw [L2.del_ne e2, upd_ne e2, upd_ne e, upd_ne e2]
section
variable {B : Tb} {X : Cx} {W : WX} {H₀ : Hp} {L : Nat} {x : Str} {p pos pos' : Pos} {e : Expr} {es : List Expr} {tr : DA} {i : Nat} {fns : List Str}
theorem mk_sem (F : XC B X.prog X.w X.K X.mg X.base x i fns) (C : Ctx L X W) (hL : 2 ≤ L) (hg : Gl X x) (ha : WA B X W (e :: es) tr) (hn : (e :: es).length = fns.length) (hsmall : fns.length ≤ 1000) (hdb : (x == ("__debug__" : Str)) = false) (he : starEach (e :: es) X.env = (false, eval e X.env) :: starEach es X.env)
    (hpl : (backTo pos (starEach es X.env)).any (·.1) = false) : ∃ t, PMk X (.Call (.Name x p) (e :: es) [] pos) t ∧ ∀ (c : Cn) (g : Gh) (ρ : DEnv) (σ : L2.St) (H : Hp) (R Z : DZ) (Q : XK), Fine B X.K c g H → RelP B X.K c ρ σ → tr ρ g (fun xs g' => R ⟨i, fieldsOf fns xs⟩ g') Z → ZOk B X.K c H σ W Z →
      (∀ c' H' g' ex cls d, Grow c H c' H' → Fine B X.K c' g' H' → ExR B X.K c' cls d ex → R ex g' → Q cls d H') → t σ H Q := by
  obtain ⟨fI, fd, T, iC, tI, F1, hb, hm, hno⟩ := F.ex
  refine ⟨_, pmk_oex (dvs := []) (ds := []) T iC tI F1 (C.room.mono hL) hb .nil (fun _ _ _ _ _ _ _ h => passL _ _ _ _ _ _ ‹_› h) hg hm pa_sem hdb he hpl, fun c g ρ σ H R Z Q k rl h z hq => ?_⟩
  refine (ha.run c g ρ σ H _ Z k rl h z).mono fun vs H1 ⟨c1, g1, ds, s1, k1, rs, hl, q1⟩ => ?_
  have hvl : vs.length = fns.length := by rw [rs.length, hl]; exact hn
  refine ⟨by omega, fun a hna => ?_⟩
  rw [List.append_nil]
  refine ⟨a, B.ct i, vs, rfl, hvl, T, hno, upd_same, fun dx hdx hda => ⟨rfl, dx, _, upd_same, by rw [upd_ne hda, upd_same], by rw [upd_ne hda] at hdx; exact hdx, ?_⟩⟩
  rw [upd_ne hda] at hdx
  rw [del_upd hda hna]
  obtain ⟨s2, k2⟩ := k1.lay (o := .xd ((fns.zip vs).reverse)) hdx
  exact hq _ _ g1 _ _ _ (s1.trans s2) k2 ⟨rfl, .inr ⟨dx, _, rfl, upd_same, ((rs.mono s2.le).zipF fns).rev⟩⟩ q1
theorem ws_raise (F : XC B X.prog X.w X.K X.mg X.base x i fns) (C : Ctx L X W) (hL : 2 ≤ L) (hg : Gl X x) (ha : WA B X W (e :: es) tr) (hn : (e :: es).length = fns.length := by rfl) (hsmall : fns.length ≤ 1000 := by decide) (hdb : (x == ("__debug__" : Str)) = false := by decide)
    (he : starEach (e :: es) X.env = (false, eval e X.env) :: starEach es X.env := by rfl) (hpl : (backTo pos (starEach es X.env)).any (·.1) = false := by rfl) : WS B X W H₀ (.Raise (some (.Call (.Name x p) (e :: es) [] pos)) none pos') (dRaise i fns tr) := by
  obtain ⟨t, ht, hq⟩ := mk_sem (p := p) F C hL hg ha hn hsmall hdb he hpl
  refine ⟨fun c₀ c g ρ σ H D r q z => semS_of (ps_raise C.calm C.tk ht) ?_⟩
  exact hq c g _ σ H (fun ex g' => D.xz ex ρ g') (fun ex g' => D.xz ex ρ g') _ r.fine r.mask q (r.zok z) fun c' H' g' ex cls d s k e' q' => z c' g' ρ σ H' ex cls d (r.next s k) e' q'
/-- .. looking at lists of ours -/
def dRaiseS (i : Nat) (fns : List Str) (tr : DA) : DS := fun En ρ g => tr (snap ρ) g (fun xs g' => okG g g' = true ∧ nlf (fieldsOf fns xs) = true ∧ En.xz ⟨i, fieldsOf fns xs⟩ ρ g') fun ex g' => okG g g' = true ∧ nlf ex.fs = true ∧ En.xz ex ρ g'
theorem ws_raiseS (F : XC B X.prog X.w X.K X.mg X.base x i fns) (C : Ctx L X W) (hL : 2 ≤ L) (hg : Gl X x) (ha : WA B X W (e :: es) tr) (hn : (e :: es).length = fns.length := by rfl) (hsmall : fns.length ≤ 1000 := by decide) (hdb : (x == ("__debug__" : Str)) = false := by decide)
    (he : starEach (e :: es) X.env = (false, eval e X.env) :: starEach es X.env := by rfl) (hpl : (backTo pos (starEach es X.env)).any (·.1) = false := by rfl) : WS B X W H₀ (.Raise (some (.Call (.Name x p) (e :: es) [] pos)) none pos') (dRaiseS i fns tr) := by
  obtain ⟨t, ht, hq⟩ := mk_sem (p := p) F C hL hg ha hn hsmall hdb he hpl
  refine ⟨fun c₀ c g ρ σ H D r q z => semS_of (ps_raise C.calm C.tk ht) ?_⟩
  exact hq _ g _ σ H (fun ex g' => okG g g' = true ∧ nlf ex.fs = true ∧ D.xz ex ρ g') (fun ex g' => okG g g' = true ∧ nlf ex.fs = true ∧ D.xz ex ρ g') _ r.snapFine r.snapRel q (r.zsnap z) (r.zsnap z)
/-- raise X('m'), X without __init__ -/
def dRaise0 (i : Nat) : DS := fun En ρ g => En.xz ⟨i, []⟩ ρ g
theorem ws_raise0 {m : Str} {j : Nat} {p2 : Pos} (F : XC0 B X.K X.mg x i) (C : Ctx L X W) (hg : Gl X x) (hdb : (x == ("__debug__" : Str)) = false := by decide) : WS B X W H₀ (.Raise (some (.Call (.Name x p) [.Constant (.str m) j p2] [] pos)) none pos') (dRaise0 i) := by
  obtain ⟨bmB, Bn, newId, initId, F1, q1⟩ := F.ex
  refine ⟨fun c₀ c g ρ σ H D r q z => semS_of (ps_raise C.calm C.tk (pmk_own F1 q1 F.mg F.kp (raises_own F.sub F.ty) hg hdb)) ?_⟩
  exact z c g ρ σ H ⟨i, []⟩ _ _ r ⟨rfl, .inl ⟨rfl, rfl⟩⟩ q
end
/-! ### try: .. except X as n: y = n -/
theorem RelS.unset {B : Tb} {K : PySem.W.Frag} {c₀ c : Cn} {H₀ H : Hp} {g : Gh} {ρ : SEnv} {σ : L2.St} (r : RelS B K c₀ H₀ c g ρ σ H) {i : Nat} : RelS B K c₀ H₀ c g (ρ.set i .un) (σ.set i none) H := by
  have get : ∀ (j : Nat) (x : SV), x ≠ .un → (ρ.set i .un)[j]? = some x → j ≠ i ∧ ρ[j]? = some x := fun j x hx h => by
    by_cases e : i = j
    · subst e
      by_cases hl : i < ρ.length
      · rw [List.getElem?_set_self hl] at h
        exact absurd (Option.some.inj h).symm hx
      · rw [List.getElem?_eq_none (by simpa using hl)] at h; cases h
    · rw [List.getElem?_set_ne e] at h
      exact ⟨fun z => e z.symm, h⟩
  have same : ∀ {j : Nat}, j ≠ i → (σ.set i none)[j]? = σ[j]? := fun h => List.getElem?_set_ne (Ne.symm h)
  refine ⟨r.gr, r.fine, by rw [List.length_set, List.length_set]; exact r.len, fun j d' h => ?_, fun j ds h => ?_, fun j k ds es p hjk h1 h2 h3 => ?_, fun j q k fs h => ?_, fun j l q q' k k' fs gs h1 h2 => ?_⟩
  · obtain ⟨hj, h⟩ := get j _ (by simp) h
    rw [same hj]; exact r.fz j d' h
  · obtain ⟨hj, h⟩ := get j _ (by simp) h
    rw [same hj]; exact r.ow j ds h
  · obtain ⟨hj, h1⟩ := get j _ (by simp) h1
    obtain ⟨hk, h2⟩ := get k _ (by simp) h2
    rw [same hj] at h3
    rw [same hk]; exact r.inj j k ds es p hjk h1 h2 h3
  · obtain ⟨hj, h⟩ := get j _ (by simp) h
    rw [same hj]; exact r.ob j q k fs h
  · obtain ⟨hj, h1⟩ := get j _ (by simp) h1
    obtain ⟨hk, h2⟩ := get l _ (by simp) h2
    exact r.ob1 j l q q' k k' fs gs h1 h2
theorem xc_exc {C a : Addr} {d : Option Addr} : xcHO (.ref C) a d = excHO C a d := rfl
def dTry (f : Nat → Option Bool) (i j : Nat) (tb : DS) : DS := fun En ρ g => tb { En with xz := fun ex ρ' g' => ∃ b, f ex.c = some b ∧ if b = true then En.nx (((ρ'.set i (.fz (.exc ex.c ex.fs))).set j (.fz (.exc ex.c ex.fs))).set i .un) g' else En.xz ex ρ' g' } ρ g
section
variable {B : Tb} {X : Cx} {W : WX} {H₀ : Hp} {L : Nat} {x n y : Str} {i j : Nat} {body : List Stmt} {np py pn3 pos3 pos pos' : Pos} {tb : DS} {Rc : Value} {f : Nat → Option Bool}
theorem Ctx.tr (C : Ctx L X W) {pn : List (Addr × Obj)} {xe : Value → Shared → Prop} {W' : WX} (t : Takes (X.tr pn xe) W') : Ctx L (X.tr pn xe) W' := ⟨C.calm, C.room, C.gd, t⟩
theorem ws_try (C : Ctx L X W) (hs : X.stack = X.env :: X.outer) (hf : X.env.frame = some X.env.locals) (hex : X.ex = []) (hN : X.N.Nodup) (hi : X.N[i]? = some n) (hj : X.N[j]? = some y) (hln : X.env.kindOf n = some .local) (hly : X.env.kindOf y = some .local) (hc : Names X x Rc)
    (hx : ∀ k b, f k = some b → PySem.W.exmOne X.K (.ref (B.ct k)) Rc = some b)
    (hb : ∀ (pn : List (Addr × Obj)) (xe : Value → Shared → Prop) (W' : WX), Ctx L (X.tr pn xe) W' → PassesOwn (model X.prog X.w) X.A X.env xe → WB B (X.tr pn xe) W' H₀ body tb)
    (hsw : swapsWith (.Name n pn3) (some (.Name y py)) pos3.line X.env = pure false := by rfl) (hdn : (n == ("__debug__" : Str)) = false := by decide) (hcd : (n == ("__classdict__" : Str)) = false := by decide) :
    WS B X W H₀ (.Try body [.ExceptHandler (some (.Name x np)) (some n) [.Assign [.Name y py] (.Name n pn3) pos3] pos'] [] [] pos) (dTry f i j tb) := by
  refine ⟨fun c₀ c g ρ σ H D r q z => semS_of (ps_try_keep (tb := fun W' D' σ' H' => ∀ pn xe, Takes (X.tr pn xe) W' → PassesOwn (model X.prog X.w) X.A X.env xe → semSs (X.tr pn xe) body D' σ' H') hs hf hex hN hi hj hln hly hc C.tk (fun W' pn xe t p => ⟨fun pins s σ H D I h => h pn xe t p pins s I⟩) hsw hdn hcd) ?_⟩
  intro pn xe t p
  refine (hb pn xe _ (C.tr t) p).run c₀ c g ρ σ H { D with xz := fun ex ρ' g' => ∃ b, f ex.c = some b ∧ if b = true then D.nx (((ρ'.set i (.fz (.exc ex.c ex.fs))).set j (.fz (.exc ex.c ex.fs))).set i .un) g' else D.xz ex ρ' g' } r q fun c' g' ρ' σ' H' ex cls d r' er hq => ?_
  obtain ⟨b, e1, e2⟩ := hq
  obtain ⟨e3, e4⟩ := id er
  refine ⟨b, by rw [e3]; exact hx _ _ e1, fun hbt a ha => ?_, fun hbf => ?_⟩
  · subst hbt
    rw [e3, xc_exc]
    obtain ⟨s2, k2⟩ := r'.fine.lay (o := excHO (B.ct ex.c) a d) ha
    have r2 := r'.next s2 k2
    have rp : Rep B X.K { c' with F := upd c'.F a (excHO (B.ct ex.c) a d) } (.ref a) (.exc ex.c ex.fs) := by
      rcases e4 with ⟨e5, e6⟩ | ⟨dd, fs, e5, e6, e7⟩
      · rw [e6]
        subst e5
        exact .exc0 upd_same
      · subst e5
        refine .exc upd_same (?_ : upd c'.F a (excHO (B.ct ex.c) a (some dd)) dd = some (.xd fs)) (e7.mono s2.le)
        rw [upd_ne]
        · exact e6
        · intro h
          have h2 := r'.fine.sub _ _ e6
          rw [h, ha] at h2; cases h2
    exact ⟨_, g', _, ((r2.set (i := i) rp).set (i := j) rp).unset, e2⟩
  · subst hbf
    exact z c' g' ρ' σ' H' ex cls d r' er e2
end
/-! ### attributes -/
def attrD (f : Str) (is js : List Nat) : D → Option D
  | .obj i fs => if is.contains i = true then fs.lookup f else none
  | .exc i fs => if js.contains i = true then fs.lookup f else none
  | _ => none
structure AtOk (B : Tb) (K : PySem.W.Frag) (f : Str) (is js : List Nat) : Prop where
  o : ∀ i ∈ is, Cls K (B.ct i) ∧ NoAttr K (B.ct i) f
  x : ∀ i ∈ js, XfC K (B.ct i) ∧ PySem.W.findIn K (.ref (B.ct i)) f = some none
section
variable {B : Tb} {X : Cx} {W : WX} {e : Expr} {te : DE} {pos : Pos} {f : Str} {is js : List Nat}
theorem we_attr (A : AtOk B X.K f is js) (he : WE B X W e te) (hb : attributeBase e f X.env (eval e X.env) = eval e X.env := by rfl) : WE B X W (.Attribute e f pos) (dU (attrD f is js) te) := by
  refine ⟨fun c g ρ σ H Q Z k rl h z pins s I => ?_⟩
  refine attr_of hb (thn (he.run c g ρ σ H _ Z k rl h z pins s I) fun u s1 ⟨v, H1, I1, rx, c1, g1, d, gr, k1, r1, w, e1, q1⟩ => ?_)
  unfold attrD at e1
  split at e1
  · split at e1
    · rename_i i fs hi
      obtain ⟨a1, a2⟩ := A.o i (List.contains_iff_mem.mp hi)
      cases r1 with
      | obj h1 rf =>
        obtain ⟨v, l, rv⟩ := rf.look e1
        obtain rfl := (show u = Value.ref _ from rx)
        exact getattr_ok I1 (k1.sub _ _ h1) a1 a2 l fun u' s2 I2 ru => ⟨v, H1, I2, ru, c1, g1, w, gr, k1, rv, q1⟩
    · cases e1
  · split at e1
    · rename_i i fs hi
      obtain ⟨a1, a2⟩ := A.x i (List.contains_iff_mem.mp hi)
      cases r1 with
      | @exc a dd _ fv _ h1 h2 rf =>
        obtain ⟨v, l, rv⟩ := rf.look e1
        obtain rfl := (show u = Value.ref _ from rx)
        obtain ⟨⟨o, vs, o1, o2, o3, o4⟩, _⟩ := I1.hok a _ (k1.sub _ _ h1)
        have hx : ObjOk X.prog X.w H1 s1.heap dd (.xd fv) := I1.hok dd _ (k1.sub _ _ h2)
        obtain ⟨mA, hns, hr⟩ := hx
        obtain ⟨od, ho, hl⟩ := lookIn_ns hns
        obtain ⟨u, hu, ru⟩ := RelO.some_of (v := v) (o := mA f) (by rw [← l]; exact hr f)
        have J : PySem.W.InstAt s1.heap a o (B.ct i) (some od) := ⟨o1, o2, by unfold PySem.W.notCls; rw [o4], by rw [o3]; exact ho⟩
        exact HandSPX.exc_get I1.kIn J a1.ga a1.gg a1.exC (PySem.W.findObj_own a1.hdC a2 rfl (by rw [hl, hu])) (handed_of ru) ⟨v, H1, I1.tok _, ru, c1, g1, w, gr, k1, rv, q1⟩
      | exc0 h1 => cases e1
    · cases e1
  · cases e1
end
end DL

namespace DL
open PySem L2 PyProof.Rows
/-! ### a new exception as a value -/
theorem pe_ofMk {X : Cx} {e : Expr} {t : L2.St → Hp → XK → Prop} (he : PMk X e t) : PE X e (fun σ H Q => t σ H fun cls d H' => ∀ a, H' a = none → Q (.ref a) (upd H' a (xcHO cls a d))) := by
  refine ⟨fun pins s σ H Q I h => ?_⟩
  refine wpAny_mono (he pins s σ H _ I h) (fun u s1 hu => ?_) fun _ _ x => x
  obtain ⟨a, oe, vs, sI, H', cls, d, rfl, J, k, hne, ha, hz, hd, h1, na, os, ag, r, q⟩ := hu
  have J2 : L2.Inv X pins σ (upd H' a (xcHO cls a d)) { sI with heap := s1.heap, toks := s1.toks } := J.laidN (o := xcHO cls a d) k hne na ⟨⟨oe, vs, ha, hz.1, hz.2, hd⟩, ⟨oe, ha⟩, fun h1 h2 ⟨o, ws, q1, q2, q3, q4⟩ kk => ⟨o, ws, kk o q1, q2, q3, q4⟩⟩
  have J3 : L2.Inv X pins σ (upd H' a (xcHO cls a d)) s1 := ⟨J2.ok, os.trans J2.os, ag, J2.base, J2.loc, J2.cell, J2.free, J2.freeC, J2.pin, J2.hok, J2.len⟩
  exact ⟨.ref a, _, J3, rfl, q a na⟩
def dExc (i : Nat) (fns : List Str) (tr : DA) : DE := fun ρ g Q Z => tr ρ g (fun xs g' => Q (.exc i (fieldsOf fns xs)) g') Z
theorem exc_rep {B : Tb} {K : PySem.W.Frag} {c : Cn} {g : Gh} {H : Hp} {a : Addr} {cls : Value} {d : Option Addr} {ex : Exn} (k : Fine B K c g H) (ha : H a = none) (er : ExR B K c cls d ex) :
    ∃ c', Grow c H c' (upd H a (xcHO cls a d)) ∧ Fine B K c' g (upd H a (xcHO cls a d)) ∧ Rep B K c' (.ref a) (.exc ex.c ex.fs) := by
  obtain ⟨e3, e4⟩ := er
  rw [e3, xc_exc]
  obtain ⟨s2, k2⟩ := k.lay (o := excHO (B.ct ex.c) a d) ha
  refine ⟨_, s2, k2, ?_⟩
  rcases e4 with ⟨e5, e6⟩ | ⟨dd, fs, e5, e6, e7⟩
  · rw [e6]
    subst e5
    exact .exc0 upd_same
  · subst e5
    refine .exc upd_same (?_ : upd c.F a (excHO (B.ct ex.c) a (some dd)) dd = some (.xd fs)) (e7.mono s2.le)
    rw [upd_ne]
    · exact e6
    · intro h
      have h2 := k.sub _ _ e6
      rw [h, ha] at h2; cases h2
section
variable {B : Tb} {X : Cx} {W : WX} {L : Nat} {x : Str} {p pos pos' : Pos} {e : Expr} {es : List Expr} {tr : DA} {i : Nat} {fns : List Str}
theorem we_exc (F : XC B X.prog X.w X.K X.mg X.base x i fns) (C : Ctx L X W) (hL : 2 ≤ L) (hg : Gl X x) (ha : WA B X W (e :: es) tr) (hn : (e :: es).length = fns.length := by rfl) (hsmall : fns.length ≤ 1000 := by decide) (hdb : (x == ("__debug__" : Str)) = false := by decide)
    (he : starEach (e :: es) X.env = (false, eval e X.env) :: starEach es X.env := by rfl) (hpl : (backTo pos (starEach es X.env)).any (·.1) = false := by rfl) : WE B X W (.Call (.Name x p) (e :: es) [] pos) (dExc i fns tr) := by
  obtain ⟨t, ht, hq⟩ := mk_sem (p := p) F C hL hg ha hn hsmall hdb he hpl
  refine ⟨fun c g ρ σ H Q Z k rl h z => sem_of (pe_ofMk ht) ?_⟩
  refine hq c g ρ σ H (fun ex g' => Q (.exc ex.c ex.fs) g') Z _ k rl h z fun c' H' g' ex cls d s1 k1 er q1 a ha => ?_
  obtain ⟨c2, s2, k2, r2⟩ := exc_rep k1 ha er
  exact ⟨c2, g', _, s1.trans s2, k2, r2, q1⟩
theorem we_exc0 {m : Str} {j : Nat} {p2 : Pos} (F : XC0 B X.K X.mg x i) (hg : Gl X x) (hdb : (x == ("__debug__" : Str)) = false := by decide) : WE B X W (.Call (.Name x p) [.Constant (.str m) j p2] [] pos) (dC (.exc i [])) := by
  obtain ⟨bmB, Bn, newId, initId, F1, q1⟩ := F.ex
  refine ⟨fun c g ρ σ H Q Z k rl h z => sem_of (pe_ofMk (pmk_own F1 q1 F.mg F.kp (raises_own F.sub F.ty) hg hdb)) fun a ha => ?_⟩
  obtain ⟨c2, s2, k2, r2⟩ := exc_rep (ex := ⟨i, []⟩) (d := none) k ha ⟨rfl, .inl ⟨rfl, rfl⟩⟩
  exact ⟨c2, g, _, s2, k2, r2, h⟩
end
/-! ### facts of classes, as one Bool -/
def clsB (K : PySem.W.Frag) (C : Addr) : Bool := PySem.W.plainGet K C Str.empty && PySem.W.hasDictIn K C && PySem.W.plainOver K C && decide (PySem.W.findIn K (.ref C) "__setattr__" = some (some (.builtin "object.__setattr__")))
theorem clsB_ok {K : PySem.W.Frag} {C : Addr} (h : clsB K C = true) : Cls K C := by
  simp only [clsB, Bool.and_eq_true, decide_eq_true_eq] at h
  exact ⟨h.1.1.1, h.1.1.2, h.1.2, h.2⟩
def clsIB (K : PySem.W.Frag) (C : Addr) : Bool := decide (PySem.W.findIn K (.ref C) "__class__" = some (some (.builtin "object.__class__"))) && decide (PySem.W.specialIn K (.builtin "object.__class__") "__get__" = some (some (.builtin "getset_descriptor.__get__"))) &&
  decide (PySem.W.takesIn K (.builtin "object.__class__") = some true) && decide (PySem.W.mroIn K C (.type "object") = some true)
theorem clsIB_ok {K : PySem.W.Frag} {C : Addr} (h : clsIB K C = true) : ClsI K C := by
  simp only [clsIB, Bool.and_eq_true, decide_eq_true_eq] at h
  exact ⟨h.1.1.1, h.1.1.2, h.1.2, h.2⟩
def excAB (K : PySem.W.Frag) (C : Addr) : Bool := (PySem.W.clsIn K C).isSome && decide (PySem.W.findIn K (.ref C) "__getattribute__" = some (some (.builtin "BaseException.__getattribute__"))) && decide (PySem.W.findIn K (.ref C) "__getattr__" = some none) && decide (PySem.W.subIn K (.ref C) (.type "BaseException") = some true)
theorem excAB_ok {K : PySem.W.Frag} {C : Addr} (h : excAB K C = true) : ExcA K C := by
  simp only [excAB, Bool.and_eq_true, decide_eq_true_eq] at h
  exact ⟨h.1.1.1, h.1.1.2, h.1.2, h.2⟩
def kdB (B : Tb) (K : PySem.W.Frag) : Kd → Bool
  | .obj i => clsB K (B.ct i) && clsIB K (B.ct i)
  | .exc i => excAB K (B.ct i) && clsIB K (B.ct i)
  | _ => true
theorem kdB_ok {B : Tb} {K : PySem.W.Frag} {k : Kd} (h : kdB B K k = true) : KdOk B K k := by
  cases k <;> simp only [kdB, Bool.and_eq_true] at h <;> first
    | trivial
    | exact ⟨clsB_ok h.1, clsIB_ok h.2⟩
    | exact ⟨excAB_ok h.1, clsIB_ok h.2⟩
/-- isinstance by a table -/
abbrev KT := List (Kd × Bool)
def isTab (tb : KT) (k : Kd) : Option Bool := tb.lookup k
def isTabB (B : Tb) (K : PySem.W.Frag) (tb : KT) (u : Value) : Bool := tb.all fun kb => kdB B K kb.1 && decide (PySem.W.kitOne K (tyK B kb.1) u = some kb.2)
theorem lookup_mem' {α β : Type} [BEq α] [LawfulBEq α] {k : α} {b : β} : ∀ {l : List (α × β)}, l.lookup k = some b → (k, b) ∈ l
  | [], h => by cases h
  | (k', b') :: l, h => by
    rw [List.lookup_cons] at h
    cases e : k == k' with
    | true =>
      rw [e] at h
      cases h
      have := eq_of_beq e
      subst this
      exact List.mem_cons_self
    | false =>
      rw [e] at h
      exact List.mem_cons_of_mem _ (lookup_mem' h)
theorem isTab_ok {B : Tb} {K : PySem.W.Frag} {tb : KT} {u : Value} (h : isTabB B K tb u = true) : IsOk B K (isTab tb) u := fun k b e => by
  unfold isTabB at h
  rw [List.all_eq_true] at h
  have q := h (k, b) (lookup_mem' e)
  simp only [Bool.and_eq_true, decide_eq_true_eq] at q
  exact ⟨kdB_ok q.1, q.2⟩
def atB (B : Tb) (K : PySem.W.Frag) (f : Str) (is js : List Nat) : Bool := (is.all fun i => clsB K (B.ct i) && decide (PySem.W.findIn K (.ref (B.ct i)) f = some none)) && js.all fun i => xfB K (B.ct i) && decide (PySem.W.findIn K (.ref (B.ct i)) f = some none)
theorem atB_ok {B : Tb} {K : PySem.W.Frag} {f : Str} {is js : List Nat} (h : atB B K f is js = true) : AtOk B K f is js := by
  simp only [atB, Bool.and_eq_true, List.all_eq_true, decide_eq_true_eq] at h
  exact ⟨fun i hi => ⟨clsB_ok (h.1 i hi).1, (h.1 i hi).2⟩, fun i hi => ⟨xfB_ok (h.2 i hi).1, (h.2 i hi).2⟩⟩
section
variable {B : Tb} {X : Cx} {W : WX} {e : Expr} {te : DE} {p p1 pos : Pos}
/-- isinstance(e, C), C an own class -/
theorem we_isC {x : Str} {C : Addr} {f : Kd → Option Bool} (hf : IsOk B X.K f (.ref C)) (hx : Gl X x) (hmx : X.mg x = some (.ref C)) (hg : Gl X "isinstance") (hm : X.mg "isinstance" = none) (he : WE B X W e te) (hdb : (x == ("__debug__" : Str)) = false := by decide)
    (hs : starEach [e, .Name x p1] X.env = (false, eval e X.env) :: starEach [.Name x p1] X.env := by rfl) (hpl : (backTo pos (starEach [.Name x p1] X.env)).any (·.1) = false := by rfl) : WE B X W (.Call (.Name "isinstance" p) [e, .Name x p1] [] pos) (dU (isiD f) te) :=
  we_isi (cv := .ref C) (pe_glob hx hmx (show RelV (.ref C) (.ref C) from rfl) hdb) (.own C) hf hg hm he hs rfl hpl
end
end DL

namespace DL
open PySem L2 PyProof.Rows
/-! ### dict displays -/
def putD (kvs : List (Key × D)) (k : Key) (d : D) : List (Key × D) :=
  if (kvs.any fun kv => decide (kv.1 = k)) = true then kvs.map (fun kv => if kv.1 = k then (kv.1, d) else kv) else kvs ++ [(k, d)]
def mergeD (kvs more : List (Key × D)) : List (Key × D) := more.foldl (fun acc kv => putD acc kv.1 kv.2) kvs
section
variable {B : Tb} {K : PySem.W.Frag} {c : Cn}
theorem RepK.any {k : Key} : ∀ {vs : List (Key × V)} {ds : List (Key × D)}, RepK B K c vs ds → (vs.any fun kv => decide (kv.1 = k)) = ds.any fun kv => decide (kv.1 = k)
  | _, _, .nil => rfl
  | _, _, .cons r t => by simp only [List.any_cons, RepK.any t]
theorem RepK.mapPut {k : Key} {v : V} {d : D} (rv : Rep B K c v d) : ∀ {vs : List (Key × V)} {ds : List (Key × D)}, RepK B K c vs ds → RepK B K c (vs.map (fun kv => if kv.1 = k then (kv.1, v) else kv)) (ds.map (fun kv => if kv.1 = k then (kv.1, d) else kv))
  | _, _, .nil => .nil
  | _, _, .cons (k := k') r t => by
    rw [List.map_cons, List.map_cons]
    by_cases e : k' = k
    · rw [if_pos e, if_pos e]; exact .cons rv (RepK.mapPut rv t)
    · rw [if_neg e, if_neg e]; exact .cons r (RepK.mapPut rv t)
theorem RepK.append : ∀ {vs ws : List (Key × V)} {ds es : List (Key × D)}, RepK B K c vs ds → RepK B K c ws es → RepK B K c (vs ++ ws) (ds ++ es)
  | _, _, _, _, .nil, s => s
  | _, _, _, _, .cons r t, s => .cons r (RepK.append t s)
theorem RepK.length : ∀ {vs : List (Key × V)} {ds : List (Key × D)}, RepK B K c vs ds → vs.length = ds.length
  | _, _, .nil => rfl
  | _, _, .cons _ t => congrArg (· + 1) (RepK.length t)
theorem RepK.put {k : Key} {v : V} {d : D} {vs : List (Key × V)} {ds : List (Key × D)} (r : RepK B K c vs ds) (rv : Rep B K c v d) : RepK B K c (putK vs k v) (putD ds k d) := by
  unfold putK putD
  rw [r.any]
  split
  · exact RepK.mapPut rv r
  · exact r.append (.cons rv .nil)
theorem RepK.merge : ∀ {more : List (Key × V)} {dm : List (Key × D)} {vs : List (Key × V)} {ds : List (Key × D)}, RepK B K c more dm → RepK B K c vs ds → RepK B K c (mergeK vs more) (mergeD ds dm)
  | _, _, _, _, .nil, s => s
  | _, _, vs, ds, .cons (k := k) (v := v) (d := d) (vs := m) (ds := dm) r t, s => by
    show RepK B K c (mergeK (putK vs k v) m) (mergeD (putD ds k d) dm)
    exact RepK.merge t (s.put r)
end
abbrev DP := DEnv → Gh → (List (Key × D) → Gh → Prop) → DZ → Prop
def prs (X : Cx) : List (Option Expr) → List Expr → List (TE × TE)
  | some k :: ks, v :: vs => (semE X k, semE X v) :: prs X ks vs
  | _, _ => []
structure WPr (B : Tb) (X : Cx) (W : WX) (keys : List (Option Expr)) (values : List Expr) (t : DP) : Prop where
  pp : ∀ pos, PPs X pos keys values (prs X keys values)
  run : ∀ (c : Cn) (g : Gh) (ρ : DEnv) (σ : L2.St) (H : Hp) (Q : List (Key × D) → Gh → Prop) (Z : DZ), Fine B X.K c g H → RelP B X.K c ρ σ → t ρ g Q Z → ZOk B X.K c H σ W Z →
    tPairs (prs X keys values) σ H fun ps H' => ∃ c' g' kvs kds, Grow c H c' H' ∧ Fine B X.K c' g' H' ∧ ps = kvs.map (fun kv => (kV kv.1, kv.2)) ∧ RepK B X.K c' kvs kds ∧ Q kds g'
theorem tPairs_mono : ∀ {trs : List (TE × TE)} {X : Cx} {ks : List (Option Expr)} {vs : List Expr} {σ : L2.St} {H : Hp} {Q Q' : List (V × V) → Hp → Prop}, tPairs (prs X ks vs) σ H Q → (∀ ps H', Q ps H' → Q' ps H') → tPairs (prs X ks vs) σ H Q'
  | trs, X, some k :: ks, v :: vs, σ, H, Q, Q', h, hq => by
    show semE X k σ H _
    have h : semE X k σ H _ := h
    refine h.mono fun x H1 h1 => ?_
    have h1 : semE X v σ H1 _ := h1
    show semE X v σ H1 _
    exact h1.mono fun y H2 h2 => tPairs_mono (trs := trs) h2 fun ps H' q => hq _ _ q
  | trs, X, [], _, σ, H, Q, Q', h, hq => hq _ _ h
  | trs, X, none :: _, _, σ, H, Q, Q', h, hq => hq _ _ (by simpa [prs, tPairs] using h)
  | trs, X, some _ :: _, [], σ, H, Q, Q', h, hq => hq _ _ h
section
variable {B : Tb} {X : Cx} {W : WX} {k v e : Expr} {ks : List (Option Expr)} {vs : List Expr} {tk tv te : DE} {t : DP} {pos : Pos}
def dPNil : DP := fun _ g Q _ => Q [] g
def dPCons (tk tv : DE) (tr : DP) : DP := fun ρ g Q Z => tk ρ g (fun x g1 => ∃ k, keyD x = some k ∧ tv ρ g1 (fun y g2 => tr ρ g2 (fun r g3 => Q ((k, y) :: r) g3) Z) Z) Z
theorem wp_nil : WPr B X W [] [] dPNil := ⟨fun _ => pps_nil, fun c g ρ σ H Q Z k r h z => ⟨c, g, [], [], Grow.refl c H, k, rfl, .nil, h⟩⟩
theorem wp_cons (hk : WE B X W k tk) (hv : WE B X W v tv) (hr : WPr B X W ks vs t) : WPr B X W (some k :: ks) (v :: vs) (dPCons tk tv t) := by
  refine ⟨fun pos => pps_cons pe_sem pe_sem (hr.pp pos), fun c g ρ σ H Q Z k r h z => ?_⟩
  refine (hk.run c g ρ σ H _ Z k r h z).mono fun x H1 ⟨c1, g1, d, s1, k1, r1, kk, ek, q1⟩ => ?_
  refine (hv.run c1 g1 ρ σ H1 _ Z k1 (r.mono s1.le) q1 (z.next s1)).mono fun y H2 ⟨c2, g2, d2, s2, k2, r2, q2⟩ => ?_
  refine tPairs_mono (trs := []) (hr.run c2 g2 ρ σ H2 _ Z k2 (r.mono (s1.trans s2).le) q2 (z.next (s1.trans s2))) fun ps H3 ⟨c3, g3, kvs, kds, s3, k3, e3, r3, q3⟩ => ?_
  subst e3
  refine ⟨c3, g3, (kk, y) :: kvs, (kk, d2) :: kds, (s1.trans s2).trans s3, k3, ?_, .cons (r2.mono s3.le) r3, q3⟩
  rw [rep_key r1 ek]; rfl
/-- the pairs, while the new dict stands empty -/
theorem disp_core (hp : WPr B X W ks vs t) {c : Cn} {g : Gh} {ρ : DEnv} {σ : L2.St} {H : Hp} {Q : List (Key × D) → Gh → Prop} {Z : DZ} {R : VK} (k : Fine B X.K c g H) (r : RelP B X.K c ρ σ) (h : t ρ g Q Z) (z : ZOk B X.K c H σ W Z)
    (fin : ∀ p c' g' H2 kvs kds, Grow c H c' H2 → Fine B X.K c' g' H2 → RepK B X.K c' kvs kds → Q kds g' → H p = none → H2 p = some (.dK []) → c'.F p = none → c'.pen ≠ some p → p ∉ c'.ma → kvs.length ≤ 15 ∧ R (.ref p) (upd H2 p (.dK (mergeK [] kvs)))) : tDisp (prs X ks vs) σ H R := by
  intro p hp0
  have fF : c.F p = none := Evl.fresh_back k.sub hp0
  have fP : c.pen ≠ some p := fun e => by
    obtain ⟨_, _, o, h1, _⟩ := k.pen p e
    rw [hp0] at h1; cases h1
  have fM : p ∉ c.ma := fun e => by
    obtain ⟨i, hi⟩ := List.getElem?_of_mem e
    have hlt : i < g.mem.length := by rw [← k.mlen]; exact (List.getElem?_eq_some_iff.mp hi).1
    obtain ⟨_, dx, fs, h1, _⟩ := k.mem i _ p (List.getElem?_eq_getElem hlt) hi
    rw [hp0] at h1; cases h1
  have s0 : Grow c H c (upd H p (.dK [])) := (Grow.refl c H).own hp0
  have k0 : Fine B X.K c g (upd H p (.dK [])) := k.own fF fP fM
  refine tPairs_mono (trs := []) (hp.run c g ρ σ _ Q Z k0 r h (z.next s0)) fun ps H2 ⟨c', g', kvs, kds, s1, k1, e1, r1, q1⟩ => ?_
  obtain ⟨m1, m2, m3, m4⟩ := s1.mine upd_same fF fP fM
  obtain ⟨l1, l2⟩ := fin p c' g' H2 kvs kds (s0.trans s1) k1 r1 q1 hp0 m1 m2 m3 m4
  exact ⟨m1, kvs, e1, l1, l2⟩
def dDisp (t : DP) : DE := fun ρ g Q Z => t ρ g (fun kds g1 => kds.length ≤ 15 ∧ Q (.dct (mergeD [] kds)) g1) Z
theorem we_disp (hp : WPr B X W (some k :: ks) (v :: vs) t) (hall : (some k :: ks).all (·.isSome) = true := by rfl) (hl : (some k :: ks).length = (v :: vs).length := by rfl) (h15 : (some k :: ks).length ≤ 15 := by decide) : WE B X W (.Dict (some k :: ks) (v :: vs) pos) (dDisp t) := by
  refine ⟨fun c g ρ σ H Q Z k r h z => sem_of (pe_disp (hp.pp pos) hall hl (by simp) h15) ?_⟩
  refine disp_core hp k r h z fun p c' g' H2 kvs kds s1 k1 r1 ⟨q0, q1⟩ hp0 m1 m2 m3 m4 => ⟨by rw [r1.length]; exact q0, ?_⟩
  have k2 : Fine B X.K c' g' (upd H2 p (.dK (mergeK [] kvs))) := k1.own m2 m3 m4
  have s2 : Grow c H c' (upd H2 p (.dK (mergeK [] kvs))) := s1.own hp0
  exact ⟨_, g', _, s2.ice hp0 m2, k2.ice m2 upd_same m3 m4, .dct upd_same ((r1.merge .nil).mono (Le.ice m2)), q1⟩
/-- {} -/
theorem we_disp0 : WE B X W (.Dict [] [] pos) (dC (.dct [])) := by
  refine ⟨fun c g ρ σ H Q Z k r h z => sem_of pe_dnewK fun p hp => ?_⟩
  obtain ⟨s2, k2⟩ := k.lay (o := .dK []) hp
  exact ⟨_, g, _, s2, k2, .dct upd_same .nil, h⟩
end
/-! ### the pen: a dict of cells, at, rest, fold -/
def penO (cel : Addr) (a r f : Int) : HO := .dK [(.inr "cells", .ref cel), (.inr "at", .int a), (.inr "rest", .int r), (.inr "fold", .int f)]
def pnD (cel : Addr) (o : HO) (n : Nat) : Prop := ∃ a r f : Int, o = penO cel a r f ∧ 0 ≤ a ∧ a ≤ n ∧ 0 ≤ f ∧ f < 2147483629
def cokP (ns : List Int) : Prop := ns.length ≤ 63
structure TbD (B : Tb) : Prop where
  pn : B.pn = pnD
  cok : B.cok = cokP
/-- what is read of the pen -/
inductive PenV (n cl : Nat) : Str → D → Prop
  | cells (ns : List Int) : cokP ns → ns.length = cl → PenV n cl "cells" (.lst (ns.map D.int))
  | at_ (a : Int) : 0 ≤ a → a ≤ n → PenV n cl "at" (.int a)
  | rest (r : Int) : PenV n cl "rest" (.int r)
  | fold (f : Int) : 0 ≤ f → f < 2147483629 → PenV n cl "fold" (.int f)
theorem Fine.penPut {B : Tb} {K : PySem.W.Frag} {c : Cn} {g : Gh} {H : Hp} {p : Addr} {o : HO} {n : Nat} (k : Fine B K c g H) (hp : c.pen = some p) (ho : B.pn c.cel o n) : Grow c H c (upd H p o) ∧ Fine B K c { g with n := n } (upd H p o) := by
  obtain ⟨hF, hm, o0, h0, _⟩ := k.pen p hp
  refine ⟨⟨Le.refl c, fun a u h h1 _ => ?_, fun a h => .inl h, fun a u h => .inl (.inl h)⟩, ⟨fun a u h => ?_, k.pd, fun q hq => ?_, k.cells, k.mlen, k.mnd, fun i m a h1 h2 => ?_⟩⟩
  · rw [upd_ne (fun z => h1 (by rw [z]; exact hp))]; exact h
  · rw [upd_ne (ne_of_none h hF)]; exact k.sub a u h
  · rw [hp] at hq
    cases hq
    exact ⟨hF, hm, o, upd_same, ho⟩
  · obtain ⟨h3, dx, fs, h4, h5⟩ := k.mem i m a h1 h2
    refine ⟨h3, dx, fs, ?_, h5⟩
    rw [upd_ne (fun z => hm (by rw [← z]; exact List.mem_of_getElem? h2))]; exact h4
section
variable {B : Tb} {X : Cx} {W : WX} {H₀ : Hp} {o e : Expr} {to te : DE} {pos pos' pk : Pos} {key : Str} {j : Nat}
/-- pen[key] -/
def dPenK (key : Str) (to : DE) : DE := fun ρ g Q Z => to ρ g (fun x g1 => x = .pen ∧ ∀ d, PenV g1.n g1.cl key d → Q d g1) Z
theorem we_penK (T : TbD B) (hu : X.A.units + 1 < cLine) (hk : key = "cells" ∨ key = "at" ∨ key = "rest" ∨ key = "fold") (ho : WE B X W o to) : WE B X W (.Subscript o (.Constant (.str key) j pk) pos) (dPenK key to) := by
  refine ⟨fun c g ρ σ H Q Z k rl h z => sem_of (pe_dget hu pe_sem pe_str (fun _ _ => rfl)) ?_⟩
  refine (ho.run c g ρ σ H _ Z k rl h z).mono fun v H1 ⟨c1, g1, x, s1, k1, r1, ex, q1⟩ => ?_
  subst ex
  cases r1 with
  | @pen p hp =>
    obtain ⟨hF, hm, oo, h1, h2⟩ := k1.pen p hp
    rw [T.pn] at h2
    obtain ⟨a, r, f, rfl, a1, a2, f1, f2⟩ := h2
    obtain ⟨ns, c1', c2', c3'⟩ := k1.cells p hp
    rcases hk with rfl | rfl | rfl | rfl
    · exact ⟨p, .ref c1.cel, rfl, DGet.k (k := .inr "cells") h1, c1, g1, _, s1, k1, .lst c1' (reps_ints ns), q1 _ (.cells ns (by rw [T.cok] at c2'; exact c2') c3')⟩
    · exact ⟨p, .int a, rfl, DGet.k (k := .inr "at") h1, c1, g1, _, s1, k1, .int a, q1 _ (.at_ a a1 a2)⟩
    · exact ⟨p, .int r, rfl, DGet.k (k := .inr "rest") h1, c1, g1, _, s1, k1, .int r, q1 _ (.rest r)⟩
    · exact ⟨p, .int f, rfl, DGet.k (k := .inr "fold") h1, c1, g1, _, s1, k1, .int f, q1 _ (.fold f f1 f2)⟩
/-- pen["rest"] = e -/
def dPutRest (i : Nat) (te : DE) : DS := fun En ρ g => te (mask ρ) g (fun d g' => ρ[i]? = some (.fz .pen) ∧ ∃ r n, d = .int r ∧ g'.n ≤ n ∧ En.nx ρ { g' with n := n }) fun ex g' => En.xz ex ρ g'
def dPutAt (i : Nat) (te : DE) : DS := fun En ρ g => te (mask ρ) g (fun d g' => ρ[i]? = some (.fz .pen) ∧ ∃ a n, d = .int a ∧ 0 ≤ a ∧ a ≤ (n : Nat) ∧ En.nx ρ { g' with n := n }) fun ex g' => En.xz ex ρ g'
theorem ws_penRest {i : Nat} {x : Str} {px : Pos} (T : TbD B) (hu : X.A.units + 1 < cLine) (hv : PE X (.Name x px) (tVar i)) (he : WE B X W e te) (hs : swapsWith e (some (.Subscript (.Name x px) (.Constant (.str "rest") j pk) pos')) pos.line X.env = pure false := by rfl) :
    WS B X W H₀ (.Assign [.Subscript (.Name x px) (.Constant (.str "rest") j pk) pos'] e pos) (dPutRest i te) := by
  refine ⟨fun c₀ c g ρ σ H D r q z => semS_of (ps_dput hu hv pe_str pe_sem hs) ?_⟩
  refine (he.run c g _ σ H _ _ r.fine r.mask q (r.zok z)).mono fun v H1 ⟨c1, g1, d, s1, k1, r1, hi, rr, n, ed, hle, q1⟩ => ?_
  subst ed
  cases r1
  have r' := r.next s1 k1
  obtain ⟨u, e1, e2⟩ := r'.fz i _ hi
  cases e2 with
  | @pen p hp =>
    obtain ⟨hF, hm, oo, h1, h2⟩ := k1.pen p hp
    rw [T.pn] at h2
    obtain ⟨a, r0, f, rfl, a1, a2, f1, f2⟩ := h2
    obtain ⟨s2, k2⟩ := k1.penPut (o := penO c1.cel a rr f) (n := n) hp (by rw [T.pn]; exact ⟨a, rr, f, rfl, a1, by omega, f1, f2⟩)
    exact ⟨_, e1, p, _, rfl, DPut.k (k := .inr "rest") h1 (by show 4 < sizeLine; decide), c1, { g1 with n := n }, ρ, r'.next s2 k2, q1⟩
theorem ws_penAt {i : Nat} {x : Str} {px : Pos} (T : TbD B) (hu : X.A.units + 1 < cLine) (hv : PE X (.Name x px) (tVar i)) (he : WE B X W e te) (hs : swapsWith e (some (.Subscript (.Name x px) (.Constant (.str "at") j pk) pos')) pos.line X.env = pure false := by rfl) :
    WS B X W H₀ (.Assign [.Subscript (.Name x px) (.Constant (.str "at") j pk) pos'] e pos) (dPutAt i te) := by
  refine ⟨fun c₀ c g ρ σ H D r q z => semS_of (ps_dput hu hv pe_str pe_sem hs) ?_⟩
  refine (he.run c g _ σ H _ _ r.fine r.mask q (r.zok z)).mono fun v H1 ⟨c1, g1, d, s1, k1, r1, hi, aa, n, ed, b1, b2, q1⟩ => ?_
  subst ed
  cases r1
  have r' := r.next s1 k1
  obtain ⟨u, e1, e2⟩ := r'.fz i _ hi
  cases e2 with
  | @pen p hp =>
    obtain ⟨hF, hm, oo, h1, h2⟩ := k1.pen p hp
    rw [T.pn] at h2
    obtain ⟨a, r0, f, rfl, a1, a2, f1, f2⟩ := h2
    obtain ⟨s2, k2⟩ := k1.penPut (o := penO c1.cel aa r0 f) (n := n) hp (by rw [T.pn]; exact ⟨aa, r0, f, rfl, b1, b2, f1, f2⟩)
    exact ⟨_, e1, p, _, rfl, DPut.k (k := .inr "at") h1 (by show 4 < sizeLine; decide), c1, { g1 with n := n }, ρ, r'.next s2 k2, q1⟩
/-- {'cells': .., 'at': .., 'rest': .., 'fold': ..}: the pen is made -/
def dPenNew (t : DP) : DE := fun ρ g Q Z => t ρ g (fun kds g1 => ∃ ns a r f, kds = [(.inr "cells", .lst (ns.map D.int)), (.inr "at", .int a), (.inr "rest", .int r), (.inr "fold", .int f)] ∧ cokP ns ∧ 0 ≤ f ∧ f < 2147483629 ∧ 0 ≤ a ∧ a ≤ (g1.n : Int) ∧ g1.pd = false ∧ Q .pen { g1 with pd := true, cl := ns.length }) Z
theorem Reps.ints {K : PySem.W.Frag} {c : Cn} : ∀ {vs : List V} {ns : List Int}, Reps B K c vs (ns.map D.int) → vs = ns.map V.int
  | [], [], _ => rfl
  | _ :: _, [], h => by cases h
  | [], _ :: _, h => by cases h
  | v :: vs, n :: ns, .cons r t => by rw [r.intv, Reps.ints t]; rfl
theorem we_penNew {k v : Expr} {ks : List (Option Expr)} {vs : List Expr} {t : DP} (T : TbD B) (hp : WPr B X W (some k :: ks) (v :: vs) t) (hall : (some k :: ks).all (·.isSome) = true := by rfl) (hl : (some k :: ks).length = (v :: vs).length := by rfl) (h15 : (some k :: ks).length ≤ 15 := by decide) :
    WE B X W (.Dict (some k :: ks) (v :: vs) pos) (dPenNew t) := by
  refine ⟨fun c g ρ σ H Q Z k r h z => sem_of (pe_disp (hp.pp pos) hall hl (by simp) h15) ?_⟩
  refine disp_core hp k r h z fun p c' g' H2 kvs kds s1 k1 r1 ⟨ns, a, r0, f, ek, hc, f1, f2, a1, a2, hpd, q1⟩ hp0 m1 m2 m3 m4 => ⟨by rw [r1.length, ek]; simp, ?_⟩
  subst ek
  have hpn : c'.pen = none := by
    have := k1.pd
    rw [hpd] at this
    simpa using this
  cases r1 with
  | cons ra r1 =>
    cases r1 with
    | cons rb r1 =>
      cases r1 with
      | cons rc r1 =>
        cases r1 with
        | cons rd r1 =>
          cases r1
          cases rb; cases rc; cases rd
          cases ra with
          | @lst ca vs _ hca rs =>
            have ev := rs.ints
            subst ev
            have k2 : Fine B X.K c' g' (upd H2 p (penO ca a r0 f)) := k1.own m2 m3 m4
            have s2 : Grow c H c' (upd H2 p (penO ca a r0 f)) := s1.own hp0
            have le : Le c' { c' with pen := some p, cel := ca } := ⟨Evl.Ex.refl _, fun q hq => (by rw [hpn] at hq; cases hq), fun _ _ h => h, fun q hq => (by rw [hpn] at hq; cases hq)⟩
            refine ⟨{ c' with pen := some p, cel := ca }, { g' with pd := true, cl := ns.length }, .pen, ⟨s2.le.trans le, s2.keep, fun x hx => ?_, s2.froz⟩, ⟨k2.sub, rfl, fun q hq => ?_, fun q hq => ⟨ns, hca, by rw [T.cok]; exact hc, rfl⟩, k2.mlen, k2.mnd, fun i m x h1 h2 => ?_⟩, .pen rfl, q1⟩
            · rcases hx with hx | hx
              · cases hx; exact .inr hp0
              · exact s2.fresh x (.inr hx)
            · cases hq
              exact ⟨m2, m4, _, upd_same, by rw [T.pn]; exact ⟨a, r0, f, rfl, a1, a2, f1, f2⟩⟩
            · obtain ⟨e1, dx, fs, e2, e3⟩ := k2.mem i m x h1 h2
              exact ⟨e1, dx, fs, e2, e3.mono le⟩
end
end DL

namespace DL
open PySem L2 PyProof.Rows
/-! ### the law's own call -/
/-- the promise of a law -/
def S_law : DSp := fun ds g Φ _ => ∃ ns : List Int, ds = [.scr ns] ∧ ns.length ≤ 63 ∧ g = ⟨false, 0, [], 0⟩ ∧ ∀ g', Φ (.bl true) g'
theorem law_start {B : Tb} {K : PySem.W.Frag} {H : Hp} {a : Addr} {ns : List Int} (hl : ns.length ≤ 63) (hS : SqL K H a (ns.map V.int)) : spOf B K 1 S_law [.ref a] H (fun v _ => v = .bl true) fun _ _ _ => False := by
  refine ⟨⟨H, none, [], 0⟩, ⟨false, 0, [], 0⟩, [.scr ns], fun d _ => d = .bl true, fun _ _ => False, rfl, ⟨Evl.Ex.refl _, rfl, fun p hp => (by cases hp), fun p hp => (by cases hp), rfl, List.nodup_nil, fun i m x h => (by simp at h)⟩, .cons (.scr hS) .nil, ⟨ns, rfl, hl, rfl, fun _ => rfl⟩, fun c' H' g' v d _ _ r e => ?_, fun _ _ _ _ _ _ _ _ _ z => z⟩
  subst e
  exact r.blv
section
variable {P : Program} {w : World} {K : PySem.W.Frag} {mg mb : Str → Option Value} {L : Nat} {fa a : Addr} {fd : FuncData} {x : Str} {sp : Sp} {s : Shared} {us : List Value} {ns : List Int}
/-- from an abstract heap that tracks the script at most -/
theorem law_at {H : Hp} (inK : K.In s.heap) (glob : s.heap.Ns mainGlobals mg) (blt : s.heap.Ns builtinsNs mb) (bltIs : ∀ y : Str, y ≠ "__name__" → mb y = bootBuiltins y) (noL : s.heap.NoLimit) (noG : s.gens = #[]) (at_ : s.heap.get? a = some { cls := .type "list", data := .seq us.toArray })
    (room : Room L callerA) (G : ∀ base : Heap, FnG P w K mg base L fa fd [x] sp) (bind : ∀ (s : Shared) (u : Value), BindsTo s fd ⟨[u], []⟩ [(x, u)]) (want : sp [.ref a] H (fun v _ => v = .bl true) fun _ _ _ => False)
    (only : ∀ b, H b = none ∨ ∃ o xs, H b = some (.frz o (.lst xs))) (hok : HOk P w H s.heap) (alone : ∀ b, H b ≠ none → b = a) (notK : H a ≠ none → K.lookup a = none) :
    codeAny (model P w) callerA (.call (.ref fa) ⟨[.ref a], []⟩) (fun r s' => r = .ok (.ret (.bool true)) ∧ OldK s.heap s'.heap ∧ s'.os = s.os ∧ AllBare s'.gens) s := by
  have seen : ∀ {b : Addr} {o : Obj}, s.heap.get? b = some o → H b = none → (hidT s.heap H).get? b = some o := fun p q => hidT_get p q
  have plain : ∀ {b : Addr} {o : Obj} {es : Array DictEntry} {ep : Nat}, s.heap.get? b = some o → o.data = .dict es ep → H b = none := fun {b o es ep} p d => by
    by_cases q : H b = none
    · exact q
    · have e := alone b q
      subst e
      rw [at_] at p
      cases p
      exact nomatch (show Data.seq us.toArray _ = Data.dict es ep from d)
  have nsUp : ∀ {b : Addr} {m : Str → Option Value}, s.heap.Ns b m → (hidT s.heap H).Ns b m := by
    rintro b m ⟨o, es, ep, p, d, r⟩
    exact ⟨o, es, ep, seen p (plain p d), d, r⟩
  have inB : K.In (hidT s.heap H) := fun b o p => by
    refine seen (inK b o p) ?_
    by_cases q : H b = none
    · exact q
    · have e := alone b q
      subst e
      rw [notK q] at p; cases p
  have mod : Mod K mg (hidT s.heap H) := by
    obtain ⟨mc, h1, h2⟩ := noL
    exact ⟨inB, nsUp glob, ⟨mb, nsUp blt, bltIs⟩, ⟨mc, nsUp h1, h2⟩⟩
  have env : Env0 P w K mg (hidT s.heap H) callerA [] s H := by
    refine ⟨rfl, mod, fun b o p => of_hidT p, Nat.le_of_eq (hidT_size _ _), trivial, fun b hb => ?_, hok, .of_eq noG⟩
    exact nomatch (show b ∈ ([] : List Addr) from hb)
  refine codeAny_mono ((G _).go callerA [] s H ⟨[.ref a], []⟩ [.ref a] [.ref a] _ _ room rfl env (bind s (.ref a)) (.cons rfl .nil) want) fun r s' h => ?_
  match r, h with
  | .error e, h =>
    obtain ⟨_, _, _, _, _, _, _, _, _, _, _, _, z⟩ := h
    exact z.elim
  | .ok .next, h => exact h.elim
  | .ok .brk, h => exact h.elim
  | .ok .cont, h => exact h.elim
  | .ok (.ret u), ⟨v, H', os, bare, un, hok', rv, ev⟩ =>
    have ev : v = .bl true := ev
    subst ev
    have eu : u = Value.bool true := rv
    subst eu
    refine ⟨rfl, OldK.of_keep fun b o p => ?_, os, bare⟩
    rcases only b with q | ⟨ob, xs, q⟩
    · exact un.keep b o p q (fun z => nomatch (show b ∈ ([] : List Addr) from z)) (by simp)
    · obtain ⟨e1, _⟩ := hok b _ q
      obtain ⟨e2, _⟩ := hok' b _ (un.frzs b ob _ q)
      rw [p] at e1
      cases e1
      exact e2
theorem law_go (inK : K.In s.heap) (glob : s.heap.Ns mainGlobals mg) (blt : s.heap.Ns builtinsNs mb) (bltIs : ∀ y : Str, y ≠ "__name__" → mb y = bootBuiltins y) (noL : s.heap.NoLimit) (noG : s.gens = #[]) (at_ : s.heap.get? a = some { cls := .type "list", data := .seq us.toArray }) (hints : IntsAre us ns) (hl : ns.length ≤ sizeLine)
    (room : Room L callerA) (G : ∀ base : Heap, FnG P w K mg base L fa fd [x] sp) (bind : ∀ (s : Shared) (u : Value), BindsTo s fd ⟨[u], []⟩ [(x, u)]) (want : ∀ H : Hp, SqL K H a (ns.map V.int) → sp [.ref a] H (fun v _ => v = .bl true) fun _ _ _ => False) :
    codeAny (model P w) callerA (.call (.ref fa) ⟨[.ref a], []⟩) (fun r s' => r = .ok (.ret (.bool true)) ∧ OldK s.heap s'.heap ∧ s'.os = s.os ∧ AllBare s'.gens) s := by
  have vals := vals_ints hints
  cases hk : K.lookup a with
  | some o =>
    have p := inK a o hk
    rw [at_] at p
    cases p
    have hS : SqL K (fun _ => none) a (ns.map V.int) := .inr ⟨_, us.toArray, _, hk, rfl, rfl, rfl, by rw [List.size_toArray, hints.length]; exact hl, by simpa using vals⟩
    exact law_at inK glob blt bltIs noL noG at_ room G bind (want _ hS) (fun _ => .inl rfl) (fun b u z => nomatch (show (none : Option HO) = some u from z)) (fun b z => absurd rfl z) (fun z => absurd rfl z)
  | none =>
    let o : Obj := { cls := .type "list", data := .seq us.toArray }
    let H1 : Hp := upd (fun _ => none) a (.frz o (.lst (ns.map V.int)))
    have hS : SqL K H1 a (ns.map V.int) := .inl (.inr ⟨o, upd_same⟩)
    refine law_at (H := H1) inK glob blt bltIs noL noG at_ room G bind (want _ hS) (fun b => ?_) (fun b u z => ?_) (fun b z => ?_) (fun _ => hk)
    · by_cases hb : b = a
      · subst hb; exact .inr ⟨_, _, upd_same⟩
      · exact .inl (upd_ne hb)
    · by_cases hb : b = a
      · subst hb
        rw [show H1 b = some (.frz o (.lst (ns.map V.int))) from upd_same] at z
        cases z
        exact ⟨at_, by rw [List.length_map]; exact hl, us, _, vals, at_⟩
      · rw [show H1 b = none from upd_ne hb] at z
        cases z
    · by_cases hb : b = a
      · exact hb
      · exact absurd (upd_ne hb) z
end
/-- the end of a law's proof -/
theorem law_walk {l : PySem.W.OpenLaw} {L : Nat} {q : Program} {loose : List Str} {XP : (Str → Option Value) → Heap → Prop} {YP : World → Heap → Prop} {d : DefRec} {K : Params → PySem.W.Frag} {x : Str} (hn : l.most = some 63) (hdf : d.params.defaults = []) (hr : Room L callerA)
    (hY : ∀ (w : World) (h : Heap), YP w h → (K w.params).In h)
    (F : ∀ (w : World) (mg : Str → Option Value) (fa : Addr) (h : Heap), (K w.params).In h → h.Ns mainGlobals mg → mg d.name = some (.ref fa) →
      ∃ (B : Tb) (fd : FuncData), (∀ (s : Shared) (u : Value), BindsTo s fd ⟨[u], []⟩ [(x, u)]) ∧ ∀ base : Heap, FnG l.prog w (K w.params) mg base L fa fd [x] (spOf B (K w.params) 1 S_law)) :
    PySem.W.WalkO q loose XP YP l.row.toRowW d [] (fun f vs => PySem.call f vs) := by
  refine Att.attach_call hn hdf fun w s₀ s₁ mg mb fa o pm cd doc a vs ns G Y ho hd hcd hmg hobj hints hlen hg => ?_
  have inK := hY w _ Y
  obtain ⟨B, fd, hb, hF⟩ := F w mg fa _ inK G.T.g hmg
  exact law_go inK G.T.g G.T.b G.T.builtins G.T.nolimit hg hobj hints (Nat.le_trans hlen (by decide)) hr hF hb fun H hS => law_start hlen hS
end DL

namespace DL
open PySem L2 PyProof.Rows
/-! ### l.count(x) -/
section
variable {X : Cx}
def rCountD (K : PySem.W.Frag) : V → List V → Hp → VK → Prop := fun x xs H Q => ∃ (a : Addr) (y : V) (d : PyData) (ds : List PyData), x = V.ref a ∧ xs = [y] ∧ Dp K H (V.ref a) (.list ds) ∧ Dp K H y d ∧ SeqAt.shaped (.list ds) = true ∧ SeqAt.shaped d = true ∧ Q (.int (ds.countP (fun z => PyData.eqv z d) : Nat)) H
theorem mt_countD (hu : X.A.units + 65 < cLine) : MtR X "list.count" (rCountD X.K) := by
  intro pins s σ H x xs v us Q I rx rxs h
  obtain ⟨a, y, d, ds, rfl, rfl, hl, hy, sl, sd, q⟩ := h
  cases rx
  cases rxs with
  | cons ry rt =>
    rename_i uy ut
    cases rt
    obtain ⟨bs, r1⟩ := Dp.reads I d y uy hy ry
    cases hl with
    | lst hs ha =>
      obtain ⟨its, rv, ⟨⟨cls, dd, data, sls⟩, n, ho, hc, hdn, hdt⟩, hlen⟩ := I.list hs
      simp only at hc hdt
      subst hc hdt
      obtain ⟨as, h4⟩ := Dp.readsAll I ds _ its ha rv
      have lay : PyData.canLayAll0 ds = true := SeqAt.canLay_of_shaped sl
      have same : its.map (SeqAt.readOf s.heap) = ds := SeqAt.readsAll_map ds its as lay h4
      refine call_meets PySem.F.slot_list_count ⟨_, ho, rfl⟩ PySem.F.entry_list_count (PySem.F.args_list_count_2 _ _) (SeqAt.list_countAt a its.toArray n dd sls uy (fun u => PyData.eqv (SeqAt.readOf s.heap u) d))
        ⟨ho, SeqAt.items_eqAt (vs := its.toArray) (show ReadsAll s.heap its.toArray.toList ds as from h4) r1 lay (SeqAt.canLay_of_shaped sd) (room_in_shaped sd hu), ?_⟩
      refine ⟨.int (ds.countP (fun z => PyData.eqv z d) : Nat), H, I.tok _, ⟨s.toks, ?_⟩, q⟩
      show Value.int ((its.toArray.toList.countP (fun u => PyData.eqv (SeqAt.readOf s.heap u) d) : Nat) : Int) s.toks = Value.int ((ds.countP (fun z => PyData.eqv z d) : Nat) : Int) s.toks
      rw [← same, List.countP_map]
      rfl
end
def countD : D → D → Option D := fun x y => match x.py, y.py with
  | some (.list qs), some p => if (SeqAt.shaped (.list qs) && SeqAt.shaped p) = true then some (.int ((qs.countP fun z => PyData.eqv z p : Nat) : Int)) else none
  | _, _ => none
/-- data whose python form is a list is a list -/
theorem py_list {x : D} {qs : List PyData} (h : x.py = some (.list qs)) : ∃ ds, x = .lst ds := by
  cases x <;> simp only [D.py, Option.some.injEq] at h <;> first
    | exact ⟨_, rfl⟩
    | cases h
    | (split at h <;> cases h)
def GivesM (B : Tb) (K : PySem.W.Frag) (f : D → D → Option D) (r : V → List V → Hp → VK → Prop) : Prop :=
  ∀ (c : Cn) (g : Gh) (H : Hp) (x y z : D) (v u : V) (Q : VK), Fine B K c g H → Rep B K c v x → Rep B K c u y → f x y = some z → (∀ w c' H', Grow c H c' H' → Fine B K c' g H' → Rep B K c' w z → Q w H') → r v [u] H Q
def isLst : D → Bool
  | .lst _ => true
  | _ => false
def isSt : D → Bool
  | .str _ => true
  | _ => false
/-- o.m(e) of a built-in kind -/
def dM (is : D → Bool) (f : D → D → Option D) (ta tb : DE) : DE := fun ρ g Q Z => ta ρ g (fun x g1 => is x = true ∧ tb ρ g1 (fun y g2 => ∃ z, f x y = some z ∧ Q z g2) Z) Z
section
variable {B : Tb} {X : Cx} {W : WX} {a b e : Expr} {ta tb te : DE} {p pos apos cpos : Pos}
theorem we_lm {m : Str} {id : String} {f : D → D → Option D} {r : V → List V → Hp → VK → Prop} (slot : Slot "list" m id) (hty : typeOf (.builtin id) = pure (.type "method_descriptor")) (hm : MtR X id r) (hgv : GivesM B X.K f r) (ha : WE B X W a ta) (hb : WE B X W b tb) (hbase : attributeBase a m X.env (eval a X.env) = eval a X.env := by rfl)
    (hfew : ((backTo cpos (starEach [b] X.env)).all (fun x => !x.1) && (backToKw cpos (keywordEach [] X.env)).all (fun x => x.1.isSome) && decide ([b].length + ([] : List Keyword).length + (if ([] : List Keyword).isEmpty then 0 else 1) < 30)) = true := by rfl)
    (hline : (apos.endLine == cpos.line) = true := by rfl) (hs : starEach [b] X.env = (false, eval b X.env) :: starEach [] X.env := by rfl) : WE B X W (.Call (.Attribute a m apos) [b] [] cpos) (dM isLst f ta tb) := by
  refine ⟨fun c g ρ σ H Q Z k rl h z => sem_of (pe_bm PySem.F.plainAttrs_list slot hty hm pe_sem (pa_cons pe_sem pa_nil hs) hbase hfew hline hs rfl) ?_⟩
  refine (ha.run c g ρ σ H _ Z k rl h z).mono fun v H1 ⟨c1, g1, x, s1, k1, r1, hx, q1⟩ => ?_
  cases x with
  | lst ds =>
    have tv : tyV X.K "list" v H1 := by
      cases r1 with
      | lst h1 rs => exact .inl ⟨rfl, _, SqL.of (k1.sub _ _ h1)⟩
    refine ⟨tv, ?_⟩
    refine (hb.run c1 g1 ρ σ H1 _ Z k1 (rl.mono s1.le) q1 (z.next s1)).mono fun u H2 ⟨c2, g2, y, s2, k2, r2, w, ew, q2⟩ => ?_
    exact hgv c2 g2 H2 _ y w v u _ k2 (r1.mono s2.le) r2 ew fun w' c' H' s3 k3 r3 => ⟨c', g2, w, (s1.trans s2).trans s3, k3, r3, q2⟩
  | _ => cases hx
theorem gv_count : GivesM B X.K countD (rCountD X.K) := by
  intro c g H x y z v u Q k r1 r2 e q
  unfold countD at e
  split at e
  · rename_i qs p' hx hy
    split at e
    · rename_i hsh
      obtain ⟨h1, h2⟩ := Bool.and_eq_true_iff.mp hsh
      simp only [Option.some.injEq] at e; subst e
      obtain ⟨ds, rfl⟩ := py_list hx
      have d1 := r1.dp k.sub hx
      cases r1 with
      | lst hh rs => exact ⟨_, u, p', qs, rfl, rfl, d1, r2.dp k.sub hy, h1, h2, done k (.int _) q⟩
    · cases e
  · cases e
/-- the place of the first equal item -/
def indexD : D → D → Option D := fun x y => match x.py, y.py with
  | some (.list qs), some p => if (SeqAt.shaped (.list qs) && SeqAt.shaped p) = true then (qs.findIdx? fun z => PyData.eqv z p).map fun i : Nat => .int (i : Int) else none
  | _, _ => none
theorem gv_index : GivesM B X.K indexD (rIndexD X.K) := by
  intro c g H x y z v u Q k r1 r2 e q
  unfold indexD at e
  split at e
  · rename_i qs p' hx hy
    split at e
    · rename_i hsh
      obtain ⟨h1, h2⟩ := Bool.and_eq_true_iff.mp hsh
      rw [Option.map_eq_some_iff] at e
      obtain ⟨j, ej, e⟩ := e
      subst e
      obtain ⟨ds, rfl⟩ := py_list hx
      have d1 := r1.dp k.sub hx
      obtain ⟨hj, hp, hn⟩ := List.findIdx?_eq_some_iff_getElem.mp ej
      cases r1 with
      | lst hh rs =>
        refine ⟨_, u, p', qs, j, qs[j], rfl, rfl, d1, r2.dp k.sub hy, h1, h2, List.getElem?_eq_getElem hj, hp, fun m z' hm hz => ?_, done k (.int _) q⟩
        obtain ⟨hl, rfl⟩ := List.getElem?_eq_some_iff.mp hz
        exact Bool.eq_false_iff.mpr (hn m hm)
    · cases e
  · cases e
/-- sep.join(texts) -/
def texts : List D → Option (List Str)
  | [] => some []
  | .str x :: r => (texts r).map (x :: ·)
  | _ => none
def joinD : D → D → Option D
  | .str a, .lst ds => (texts ds).bind fun ys => if (ys.map (·.length)).sum + ys.length * a.length ≤ 16777216 then some (.str (Txt.join a ys)) else none
  | _, _ => none
theorem texts_rep {K : PySem.W.Frag} {c : Cn} : ∀ {vs : List V} {ds : List D} {ys : List Str}, Reps B K c vs ds → texts ds = some ys → vs = ys.map V.str
  | _, _, _, .nil, h => by simp only [texts, Option.some.injEq] at h; subst h; rfl
  | _, _, _, .cons (d := d) r t, h => by
    cases d <;> simp only [texts] at h <;> first
      | cases h
      | skip
    rw [Option.map_eq_some_iff] at h
    obtain ⟨l, h1, h2⟩ := h
    subst h2
    cases r
    rw [texts_rep t h1]; rfl
theorem we_join (ha : WE B X W a ta) (hb : WE B X W b tb) (hs : starEach [b] X.env = [(false, eval b X.env)] := by rfl) (hbase : attributeBase a "join" X.env (eval a X.env) = eval a X.env := by rfl) (hline : (apos.endLine == pos.line) = true := by rfl) :
    WE B X W (.Call (.Attribute a "join" apos) [b] [] pos) (dM isSt joinD ta tb) := by
  refine ⟨fun c g ρ σ H Q Z k rl h z => sem_of (pe_join pe_sem pe_sem hs hbase hline) ?_⟩
  refine (ha.run c g ρ σ H _ Z k rl h z).mono fun v H1 ⟨c1, g1, x, s1, k1, r1, hx, q1⟩ => ?_
  cases x with
  | str sp =>
    cases r1
    refine ⟨⟨sp, rfl⟩, ?_⟩
    refine (hb.run c1 g1 ρ σ H1 _ Z k1 (rl.mono s1.le) q1 (z.next s1)).mono fun u H2 ⟨c2, g2, y, s2, k2, r2, w, ew, q2⟩ => ?_
    unfold joinD at ew
    split at ew
    · rename_i e1
      cases e1
      rw [Option.bind_eq_some_iff] at ew
      obtain ⟨ys, h1, h2⟩ := ew
      split at h2
      · rename_i hz
        cases h2
        cases r2 with
        | lst hl rs =>
          have := texts_rep rs h1
          subst this
          exact ⟨sp, _, ys, rfl, rfl, .inl (SqL.of (k2.sub _ _ hl)), hz, c2, g2, _, s1.trans s2, k2, .str _, q2⟩
      · cases h2
    · cases ew
  | _ => cases hx
/-- -e -/
def negD : D → Option D
  | .int i => some (.int (-i))
  | _ => none
theorem we_neg (ha : WE B X W a ta) : WE B X W (.UnaryOp .USub a pos) (dU negD ta) := by
  refine ⟨fun c g ρ σ H Q Z k rl h z => sem_of (pe_un un_neg pe_sem) ?_⟩
  refine (ha.run c g ρ σ H _ Z k rl h z).mono fun v H1 ⟨c1, g1, x, s1, k1, r1, w, ew, q1⟩ => ?_
  unfold negD at ew
  split at ew
  · cases ew
    cases r1
    exact ⟨_, rfl, c1, g1, _, s1, k1, .int _, q1⟩
  · cases ew
/-- repr(e) -/
def reprD : List D → Option D
  | [x] => match x.py with
    | some d => if d.showable = true ∧ d.hasDict = false ∧ d.depth ≤ 50 ∧ d.shown.length ≤ sizeLine then some (.str d.shown) else none
    | none => none
  | _ => none
def rReprD (K : PySem.W.Frag) : List V → Hp → VK → Prop := fun xs H Q => ∃ v d, xs = [v] ∧ Dp K H v d ∧ d.showable = true ∧ d.hasDict = false ∧ d.depth ≤ 50 ∧ d.shown.length ≤ sizeLine ∧ Q (.str d.shown) H
theorem call_reprD (hu : X.A.units + 60 < cLine) (gd : X.A.guards = some []) : CallR X (.builtin "repr") (rReprD X.K) := by
  intro pins s σ H xs us Q I rr hh
  obtain ⟨v, d, rfl, hd, h1, h2, h3, h4, q⟩ := hh
  obtain ⟨u, rfl, ru⟩ := rr.one
  obtain ⟨as, r⟩ := Dp.reads I d v u hd ru
  cases r with
  | none => exact PySem.P.repr_of_none ⟨.str "None", H, I.tok _, ⟨_, rfl⟩, q⟩
  | bool b => exact PySem.P.repr_of_bool ⟨.str (if b then "True" else "False"), H, I.tok _, ⟨_, rfl⟩, q⟩
  | int i tk => exact PySem.P.repr_of_int (of_decide_eq_true h1) ⟨.str (toString i), H, I.tok _, ⟨_, rfl⟩, q⟩
  | str x tk => exact PySem.P.repr_of_str ⟨.str (reprText x), H, I.tok _, ⟨_, rfl⟩, q⟩ h4
  | list a1 a2 a3 a4 => exact repr_of_reads' (Reads.list a1 a2 a3 a4) h1 (PyData.noDict_hsm h2) gd (by omega) (fun _ _ e => e) (fun h' u tk hk => ⟨.str _, H, I.kept hk, ⟨_, rfl⟩, q⟩) h4
  | tuple a1 a2 a3 a4 => exact repr_of_reads' (Reads.tuple a1 a2 a3 a4) h1 (PyData.noDict_hsm h2) gd (by omega) (fun _ _ e => e) (fun h' u tk hk => ⟨.str _, H, I.kept hk, ⟨_, rfl⟩, q⟩) h4
  | dict a1 a2 a3 a4 a5 => simp [PyData.hasDict] at h2
theorem gv_repr : GivesC B X.K reprD (rReprD X.K) := by
  intro c g H xs z vs Q k rs e q
  unfold reprD at e
  split at e
  · rename_i x
    split at e
    · rename_i d hd
      split at e
      · rename_i hc
        cases e
        cases rs with
        | cons r t =>
          cases t
          exact ⟨_, d, rfl, r.dp k.sub hd, hc.1, hc.2.1, hc.2.2.1, hc.2.2.2, done k (.str _) q⟩
      · cases e
    · cases e
  · cases e
end
/-- a name of the module that holds plain data -/
structure GC (B : Tb) (K : PySem.W.Frag) (mg : Str → Option Value) (x : Str) (d : D) : Prop where
  ex : ∃ u v, mg x = some u ∧ RelV v u ∧ ∀ c, Rep B K c v d
theorem we_gc {B : Tb} {X : Cx} {W : WX} {x : Str} {d : D} {pos : Pos} (h : GC B X.K X.mg x d) (hg : Gl X x) (hd : (x == ("__debug__" : Str)) = false := by decide) : WE B X W (.Name x pos) (dC d) := by
  obtain ⟨u, v, h1, h2, h3⟩ := h.ex
  exact we_c (pe_glob hg h1 h2 hd) h3
/-- within a comprehension -/
theorem Ctx.blk {L : Nat} {X : Cx} {W : WX} (C : Ctx L X W) {s : Shared} {H : Hp} {scope : Scope} {cenv : Env} {fp : List Addr} : Ctx L (X.blk s H scope cenv fp) W0 := ⟨C.calm, C.room, C.gd, fun _ _ x => by
  obtain ⟨_, _, _, _, _, _, _, _, _, _, _, _, _, _, _, _, z⟩ := x
  exact z.elim⟩
end DL

namespace DL
open PySem L2 PyProof.Rows
/-! ### x in y, whatever y is -/
def inTD (neg : Bool) (x y : D) : Option D := match x.py, y.py with
  | some p, some (.tuple qs) => if (SeqAt.shaped p && SeqAt.shaped (.tuple qs)) = true then some (.bl (if neg then !(qs.any fun z => PyData.eqv z p) else (qs.any fun z => PyData.eqv z p))) else none
  | _, _ => none
def inSD (neg : Bool) : D → D → Option D
  | .str x, .str z => match x.cps.toList with
    | [c] => some (.bl (if neg then !decide (c ∈ z.cps.toList) else decide (c ∈ z.cps.toList)))
    | _ => none
  | _, _ => none
def inA (neg : Bool) (x y : D) : Option D := match y with
  | .lst _ => inD neg x y
  | .tup _ => inTD neg x y
  | .dct _ => dinD neg x y
  | .str _ => inSD neg x y
  | _ => none
section
variable {B : Tb} {X : Cx}
def rInT (K : PySem.W.Frag) (neg : Bool) : R2 := fun x y H Q => ∃ d ds, Dp K H x d ∧ Dp K H y (.tuple ds) ∧ SeqAt.shaped d = true ∧ SeqAt.shaped (.tuple ds) = true ∧ Q (.bl (if neg then !(ds.any fun z => PyData.eqv z d) else (ds.any fun z => PyData.eqv z d))) H
theorem op_inT (hu : X.A.units + 65 < cLine) : OpR X (compareOp .In) (rInT X.K false) := by
  intro pins s σ H x y v u Q I rx ry h
  obtain ⟨d, ds, hd, he, sd, se, q⟩ := h
  obtain ⟨as, r1⟩ := Dp.reads I d x v hd rx
  obtain ⟨bs, r2⟩ := Dp.reads I (.tuple ds) y u he ry
  exact SeqAt.in_tuple_reads r2 r1 (SeqAt.canLay_of_shaped se) (SeqAt.canLay_of_shaped sd) (room_in_shaped sd hu) ⟨.bl _, H, I, rfl, q⟩
theorem op_notInT (hu : X.A.units + 65 < cLine) : OpR X (compareOp .NotIn) (rInT X.K true) := by
  intro pins s σ H x y v u Q I rx ry h
  obtain ⟨d, ds, hd, he, sd, se, q⟩ := h
  obtain ⟨as, r1⟩ := Dp.reads I d x v hd rx
  obtain ⟨bs, r2⟩ := Dp.reads I (.tuple ds) y u he ry
  exact SeqAt.notIn_tuple_reads r2 r1 (SeqAt.canLay_of_shaped se) (SeqAt.canLay_of_shaped sd) (room_in_shaped sd hu) ⟨.bl _, H, I, rfl, q⟩
def rInK (neg : Bool) : R2 := fun y x H Q => ∃ a ov, x = .ref a ∧ DGet H a y ov ∧ Q (.bl (if neg then !ov.isSome else ov.isSome)) H
theorem op_inK (hu : X.A.units + 1 < cLine) : OpR X (compareOp .In) (rInK false) := by
  intro pins s σ H y x u v Q I ry rx h
  obtain ⟨a, ov, rfl, g, q⟩ := h
  cases rx
  exact d_in hu I g ry fun s3 I3 => ⟨.bl ov.isSome, H, I3, rfl, q⟩
theorem op_notInK (hu : X.A.units + 1 < cLine) : OpR X (compareOp .NotIn) (rInK true) := by
  intro pins s σ H y x u v Q I ry rx h
  obtain ⟨a, ov, rfl, g, q⟩ := h
  cases rx
  exact d_notIn hu I g ry fun s3 I3 => ⟨.bl (!ov.isSome), H, I3, rfl, q⟩
def rInA (K : PySem.W.Frag) (neg : Bool) : R2 := fun x y H Q => (if neg then rNotInD K x y H Q else rInD K x y H Q) ∨ rInT K neg x y H Q ∨ rInK neg x y H Q ∨ ∃ (c : Nat) (z : Str), x = .str ⟨#[c]⟩ ∧ y = .str z ∧ Q (.bl (if neg then !decide (c ∈ z.cps.toList) else decide (c ∈ z.cps.toList))) H
theorem op_inA (hu : X.A.units + 65 < cLine) : OpR X (compareOp .In) (rInA X.K false) := by
  intro pins s σ H x y v u Q I rx ry h
  rcases h with h | h | h | h
  · exact op_inD hu pins s σ H x y v u Q I rx ry h
  · exact op_inT hu pins s σ H x y v u Q I rx ry h
  · exact op_inK (by omega) pins s σ H x y v u Q I rx ry h
  · exact op_in_sign pins s σ H x y v u Q I rx ry h
theorem op_notInA (hu : X.A.units + 65 < cLine) : OpR X (compareOp .NotIn) (rInA X.K true) := by
  intro pins s σ H x y v u Q I rx ry h
  rcases h with h | h | h | h
  · exact op_notInD hu pins s σ H x y v u Q I rx ry h
  · exact op_notInT hu pins s σ H x y v u Q I rx ry h
  · exact op_notInK (by omega) pins s σ H x y v u Q I rx ry h
  · exact op_notIn_sign pins s σ H x y v u Q I rx ry h
theorem gv_inA {neg : Bool} : Gives B X.K (inA neg) (rInA X.K neg) := by
  intro c g H x y z v u Q k r1 r2 e q
  cases y with
  | lst ys =>
    left
    cases neg with
    | false => exact gv_in c g H x _ z v u Q k r1 r2 e q
    | true => exact gv_notin c g H x _ z v u Q k r1 r2 e q
  | tup ys =>
    right; left
    simp only [inA, inTD] at e
    split at e
    · rename_i p qs hx hy
      split at e
      · rename_i hsh
        obtain ⟨h1, h2⟩ := Bool.and_eq_true_iff.mp hsh
        simp only [Option.some.injEq] at e; subst e
        exact ⟨p, qs, r1.dp k.sub hx, r2.dp k.sub hy, h1, h2, done k (.bl _) q⟩
      · cases e
    · cases e
  | dct kvs =>
    right; right; left
    obtain ⟨aa, o, e1, e2, e3⟩ := din_core k r1 r2 e
    subst e3
    exact ⟨aa, o, e1, e2, done k (.bl _) q⟩
  | str zz =>
    right; right; right
    simp only [inA] at e
    unfold inSD at e
    split at e
    · rename_i x' z' e2
      cases e2
      split at e
      · rename_i cc hc
        simp only [Option.some.injEq] at e; subst e
        cases r1; cases r2
        have ex : x' = ⟨#[cc]⟩ := by
          obtain ⟨arr⟩ := x'
          have : arr = #[cc] := by
            apply Array.ext'
            simpa using hc
          rw [this]
        subst ex
        exact ⟨cc, zz, rfl, rfl, done k (.bl _) q⟩
      · cases e
    · cases e
  | _ => cases e
/-- x[y], whatever x is -/
def ixA (x y : D) : Option D := match x with
  | .dct _ => dgetD x y
  | _ => ixD x y
def rIxK : R2 := fun x y H Q => ∃ a v, x = .ref a ∧ DGet H a y (some v) ∧ Q v H
theorem ix_dict (hu : X.A.units + 1 < cLine) : IxR X rIxK := by
  intro value slice pins s σ H x y v u Q I rx ry h hs
  obtain ⟨a, z, rfl, g, q⟩ := h
  cases rx
  have ty := dict_typeIs I g
  unfold subscriptTail
  refine wpAny_bind ?_
  rw [getitemInPython_of_ne ty.not_modules]
  refine wpAny_bind (wpAny_specialOf ty PySem.F.slot_dict_getitem.lookup ?_)
  have last : wpAny (model X.prog X.w) X.A (subscripted slice false (.ref a) u) (fun r s3 => wpAny (model X.prog X.w) X.A (letTemporaryGo value (.ref a) r >>= fun _ => pure r) (EP X pins σ Q) X.xe s3) X.xe s := by
    rw [hs]
    exact wpAny_operating (d_getItem hu I g ry fun w' s3 I3 rw' => wpAny_bind (wpAny_letTemporaryGo (wpAny_pure ⟨z, H, I3, rw', q⟩)))
  first
    | exact wpAny_pure (wpAny_bind last)
    | exact wpAny_bind (wpAny_pure (wpAny_bind last))
    | exact wpAny_bind last
theorem gv_ixA : Gives B X.K ixA (fun x y H Q => rIx X.K x y H Q ∨ rIxK x y H Q) := by
  intro c g H x y z v u Q k r1 r2 e q
  unfold ixA at e
  split at e
  · right
    unfold dgetD at e
    rw [Option.bind_eq_some_iff] at e
    obtain ⟨kk, e1, e2⟩ := e
    cases r1 with
    | dct h1 s1 =>
      obtain ⟨w', e3, r3⟩ := s1.val.1 z e2
      refine ⟨_, w', rfl, ?_, done k r3 q⟩
      rw [rep_key r2 e1, ← e3]
      exact DGet.k (k.sub _ _ h1)
  · exact .inl (gv_ix c g H x y z v u Q k r1 r2 e q)
end
/-! ### x == y: texts by themselves -/
def eqA (neg : Bool) (x y : D) : Option D := match x, y with
  | .str a, .str b => some (.bl (if neg then !decide (a = b) else decide (a = b)))
  | x, y => eqD neg x y
theorem gv_eqA {B : Tb} {X : Cx} : Gives B X.K (eqA false) (fun x y H Q => rEq x y H Q ∨ rEqD X.K x y H Q) := by
  intro c g H x y z v u Q k r1 r2 e q
  unfold eqA at e
  split at e
  · cases e
    cases r1; cases r2
    rename_i a b
    refine .inl ⟨rfl, ?_⟩
    rw [show decide (V.str a = V.str b) = decide (a = b) by simp]
    exact done k (.bl _) q
  · exact .inr (gv_eq c g H _ _ z v u Q k r1 r2 e q)
theorem gv_neA {B : Tb} {X : Cx} : Gives B X.K (eqA true) (fun x y H Q => rNe x y H Q ∨ rNeD X.K x y H Q) := by
  intro c g H x y z v u Q k r1 r2 e q
  unfold eqA at e
  split at e
  · cases e
    cases r1; cases r2
    rename_i a b
    refine .inl ⟨rfl, ?_⟩
    rw [show decide (V.str a = V.str b) = decide (a = b) by simp]
    exact done k (.bl _) q
  · exact .inr (gv_ne c g H _ _ z v u Q k r1 r2 e q)
/-! ### short names -/
theorem Ctx.u65 {L : Nat} {X : Cx} {W : WX} (C : Ctx L X W) : X.A.units + 65 < cLine := by have := C.room.un; omega
theorem Ctx.u1 {L : Nat} {X : Cx} {W : WX} (C : Ctx L X W) : X.A.units + 1 < cLine := by have := C.room.un; omega
/-- a comparison -/
structure CO (B : Tb) (X : Cx) (op : CmpOp) (f : D → D → Option D) : Prop where
  ex : ∃ r, OpR X (compareOp op) r ∧ Gives B X.K f r
section
variable {B : Tb} {X : Cx} {W : WX} {L : Nat} {a b e e3 : Expr} {es : List Expr} {ta tb tc te : DE} {tr : DA} {p pos : Pos} {op op' : CmpOp} {f f' : D → D → Option D}
theorem o_eq (C : Ctx L X W) : CO B X .Eq (eqA false) := ⟨_, op_eq.or (op_eqD (by have := C.u65; omega)), gv_eqA⟩
theorem o_ne (C : Ctx L X W) : CO B X .NotEq (eqA true) := ⟨_, op_ne.or (op_neD (by have := C.u65; omega)), gv_neA⟩
theorem o_lt : CO B X .Lt ltD := ⟨_, op_lt, gv_cmp⟩
theorem o_le : CO B X .LtE leD := ⟨_, op_le, gv_cmp⟩
theorem o_gt : CO B X .Gt gtD := ⟨_, op_gt, gv_cmp⟩
theorem o_ge : CO B X .GtE geD := ⟨_, op_ge, gv_cmp⟩
theorem o_is : CO B X .Is (isND false) := ⟨_, op_isN, gv_is⟩
theorem o_isnot : CO B X .IsNot (isND true) := ⟨_, op_notN, gv_isnot⟩
theorem o_in (C : Ctx L X W) : CO B X .In (inA false) := ⟨_, op_inA C.u65, gv_inA⟩
theorem o_notin (C : Ctx L X W) : CO B X .NotIn (inA true) := ⟨_, op_notInA C.u65, gv_inA⟩
theorem e_cmp (o : CO B X op f) (ha : WE B X W a ta) (hb : WE B X W b tb) (hm : behindInMarks op b = false := by rfl) : WE B X W (.Compare a [op] [b] pos) (dOp f ta tb) := let ⟨_, h1, h2⟩ := o.ex; we_cmp h1 h2 ha hb hm
theorem t_cmp (o : CO B X op f) (ha : WE B X W a ta) (hb : WE B X W b tb) (hm : behindInMarks op b = false := by rfl) : WT B X W (.Compare a [op] [b] pos) (dTest (dOp f ta tb)) := let ⟨_, h1, h2⟩ := o.ex; wt_cmp h1 h2 ha hb hm
theorem e_chain (o : CO B X op f) (o' : CO B X op' f') (ha : WE B X W a ta) (hb : WE B X W b tb) (hc : WE B X W e3 tc) (hm : lastMarks [op, op'] [b, e3] = false := by rfl) : WE B X W (.Compare a [op, op'] [b, e3] pos) (dChain f f' ta tb tc) :=
  let ⟨_, h1, h2⟩ := o.ex; let ⟨_, h3, h4⟩ := o'.ex; we_chain h1 h3 h2 h4 ha hb hc hm
theorem t_chain (o : CO B X op f) (o' : CO B X op' f') (ha : WE B X W a ta) (hb : WE B X W b tb) (hc : WE B X W e3 tc) (hm : lastMarks [op, op'] [b, e3] = false := by rfl) : WT B X W (.Compare a [op, op'] [b, e3] pos) (dTest (dChain f f' ta tb tc)) :=
  let ⟨_, h1, h2⟩ := o.ex; let ⟨_, h3, h4⟩ := o'.ex; wt_chain h1 h3 h2 h4 ha hb hc hm
theorem e_add (ha : WE B X W a ta) (hb : WE B X W b tb) : WE B X W (.BinOp a .Add b pos) (dOp addD ta tb) := we_op op_addAll gv_add ha hb
theorem e_sub (ha : WE B X W a ta) (hb : WE B X W b tb) : WE B X W (.BinOp a .Sub b pos) (dOp subD ta tb) := we_op op_sub gv_sub ha hb
theorem e_mul (ha : WE B X W a ta) (hb : WE B X W b tb) : WE B X W (.BinOp a .Mult b pos) (dOp mulD ta tb) := we_op op_mulAll gv_mul ha hb
theorem e_fdiv (ha : WE B X W a ta) (hb : WE B X W b tb) : WE B X W (.BinOp a .FloorDiv b pos) (dOp fdivD ta tb) := we_op op_fdiv gv_fdiv ha hb
theorem e_mod (ha : WE B X W a ta) (hb : WE B X W b tb) : WE B X W (.BinOp a .Mod b pos) (dOp modD ta tb) := we_op op_mod gv_mod ha hb
theorem e_pow (ha : WE B X W a ta) (hb : WE B X W b tb) : WE B X W (.BinOp a .Pow b pos) (dOp powD ta tb) := we_op op_pow gv_pow ha hb
theorem e_ix (C : Ctx L X W) (ha : WE B X W a ta) (hb : WE B X W b tb) (hs : PlainIx b := by exact fun _ _ => rfl) : WE B X W (.Subscript a b pos) (dOp ixA ta tb) := by
  refine ⟨fun c g ρ σ H Q Z k rl h z => sem_of (pe_ix (ix_seq.or (ix_dict C.u1)) pe_sem pe_sem hs) ?_⟩
  refine two ha hb k rl h z fun x y v u c2 g2 H2 s2 k2 r1 r2 ⟨w, e, q⟩ => ?_
  exact gv_ixA c2 g2 H2 x y w v u _ k2 r1 r2 e fun w' c' H' s3 k3 r3 => ⟨c', g2, w, s2.trans s3, k3, r3, q⟩
theorem e_len (hg : Gl X "len") (hm : X.mg "len" = none) (ha : WE B X W a ta) (he : starEach [a] X.env = (false, eval a X.env) :: starEach [] X.env := by rfl) : WE B X W (.Call (.Name "len" p) [a] [] pos) (dFn lenD (dCons ta dNil)) := we_callB call_len gv_len hg hm Boot.«len» (wa_cons ha wa_nil he) (by decide) (by decide) he rfl
theorem e_abs (hg : Gl X "abs") (hm : X.mg "abs" = none) (ha : WE B X W a ta) (he : starEach [a] X.env = (false, eval a X.env) :: starEach [] X.env := by rfl) : WE B X W (.Call (.Name "abs" p) [a] [] pos) (dFn absD (dCons ta dNil)) := we_callB call_abs gv_abs hg hm Boot.«abs» (wa_cons ha wa_nil he) (by decide) (by decide) he rfl
theorem e_int (hg : Gl X "int") (hm : X.mg "int" = none) (ha : WE B X W a ta) (he : starEach [a] X.env = (false, eval a X.env) :: starEach [] X.env := by rfl) : WE B X W (.Call (.Name "int" p) [a] [] pos) (dFn intD (dCons ta dNil)) := we_callTy call_int1 gv_int1 hg hm Boot.«int» (wa_cons ha wa_nil he) (by decide) (by decide) he rfl
theorem e_list (hg : Gl X "list") (hm : X.mg "list" = none) (ha : WE B X W a ta) (he : starEach [a] X.env = (false, eval a X.env) :: starEach [] X.env := by rfl) : WE B X W (.Call (.Name "list" p) [a] [] pos) (dFn listD (dCons ta dNil)) := we_callTy call_list_of gv_list hg hm Boot.«list» (wa_cons ha wa_nil he) (by decide) (by decide) he rfl
theorem e_tuple (hg : Gl X "tuple") (hm : X.mg "tuple" = none) (ha : WE B X W a ta) (he : starEach [a] X.env = (false, eval a X.env) :: starEach [] X.env := by rfl) : WE B X W (.Call (.Name "tuple" p) [a] [] pos) (dFn tupleD (dCons ta dNil)) := we_callTy call_tuple_of gv_tuple hg hm Boot.«tuple» (wa_cons ha wa_nil he) (by decide) (by decide) he rfl
theorem e_all (C : Ctx L X W) (hg : Gl X "all") (hm : X.mg "all" = none) (ha : WE B X W a ta) (he : starEach [a] X.env = (false, eval a X.env) :: starEach [] X.env := by rfl) : WE B X W (.Call (.Name "all" p) [a] [] pos) (dFn allD (dCons ta dNil)) := we_callB (cr_all C.calm) gv_all hg hm Boot.«all» (wa_cons ha wa_nil he) (by decide) (by decide) he rfl
theorem e_any (C : Ctx L X W) (hg : Gl X "any") (hm : X.mg "any" = none) (ha : WE B X W a ta) (he : starEach [a] X.env = (false, eval a X.env) :: starEach [] X.env := by rfl) : WE B X W (.Call (.Name "any" p) [a] [] pos) (dFn anyD (dCons ta dNil)) := we_callB (cr_any C.calm) gv_any hg hm Boot.«any» (wa_cons ha wa_nil he) (by decide) (by decide) he rfl
theorem e_repr (C : Ctx L X W) (hg : Gl X "repr") (hm : X.mg "repr" = none) (ha : WE B X W a ta) (he : starEach [a] X.env = (false, eval a X.env) :: starEach [] X.env := by rfl) : WE B X W (.Call (.Name "repr" p) [a] [] pos) (dFn reprD (dCons ta dNil)) := we_callB (call_reprD (by have := C.u65; omega) C.gd) gv_repr hg hm bootS_repr (wa_cons ha wa_nil he) (by decide) (by decide) he rfl
theorem e_min (C : Ctx L X W) (hg : Gl X "min") (hm : X.mg "min" = none) (ha : WE B X W a ta) (hb : WE B X W b tb) (he : starEach [a, b] X.env = (false, eval a X.env) :: starEach [b] X.env := by rfl) (he2 : starEach [b] X.env = (false, eval b X.env) :: starEach [] X.env := by rfl) (hpl : (backTo pos (starEach [b] X.env)).any (·.1) = false := by rfl) :
    WE B X W (.Call (.Name "min" p) [a, b] [] pos) (dFn min2D (dCons ta (dCons tb dNil))) := we_callB (call_min2 C.calm) gv_min2 hg hm Boot.«min» (wa_cons ha (wa_cons hb wa_nil he2) he) (by decide) (by decide) he hpl
theorem e_max (C : Ctx L X W) (hg : Gl X "max") (hm : X.mg "max" = none) (ha : WE B X W a ta) (hb : WE B X W b tb) (he : starEach [a, b] X.env = (false, eval a X.env) :: starEach [b] X.env := by rfl) (he2 : starEach [b] X.env = (false, eval b X.env) :: starEach [] X.env := by rfl) (hpl : (backTo pos (starEach [b] X.env)).any (·.1) = false := by rfl) :
    WE B X W (.Call (.Name "max" p) [a, b] [] pos) (dFn max2D (dCons ta (dCons tb dNil))) := we_callB (call_max2 C.calm) gv_max2 hg hm Boot.«max» (wa_cons ha (wa_cons hb wa_nil he2) he) (by decide) (by decide) he hpl
theorem e_count {apos cpos : Pos} (C : Ctx L X W) (ha : WE B X W a ta) (hb : WE B X W b tb) (hbase : attributeBase a "count" X.env (eval a X.env) = eval a X.env := by rfl)
    (hfew : ((backTo cpos (starEach [b] X.env)).all (fun x => !x.1) && (backToKw cpos (keywordEach [] X.env)).all (fun x => x.1.isSome) && decide ([b].length + ([] : List Keyword).length + (if ([] : List Keyword).isEmpty then 0 else 1) < 30)) = true := by rfl)
    (hline : (apos.endLine == cpos.line) = true := by rfl) (hs : starEach [b] X.env = (false, eval b X.env) :: starEach [] X.env := by rfl) : WE B X W (.Call (.Attribute a "count" apos) [b] [] cpos) (dM isLst countD ta tb) := we_lm PySem.F.slot_list_count PySem.F.type_list_count (mt_countD C.u65) gv_count ha hb hbase hfew hline hs
theorem e_index {apos cpos : Pos} (C : Ctx L X W) (ha : WE B X W a ta) (hb : WE B X W b tb) (hbase : attributeBase a "index" X.env (eval a X.env) = eval a X.env := by rfl)
    (hfew : ((backTo cpos (starEach [b] X.env)).all (fun x => !x.1) && (backToKw cpos (keywordEach [] X.env)).all (fun x => x.1.isSome) && decide ([b].length + ([] : List Keyword).length + (if ([] : List Keyword).isEmpty then 0 else 1) < 30)) = true := by rfl)
    (hline : (apos.endLine == cpos.line) = true := by rfl) (hs : starEach [b] X.env = (false, eval b X.env) :: starEach [] X.env := by rfl) : WE B X W (.Call (.Attribute a "index" apos) [b] [] cpos) (dM isLst indexD ta tb) := we_lm PySem.F.slot_list_index PySem.F.type_list_index (mt_indexD C.u65) gv_index ha hb hbase hfew hline hs
end
/-- the block of a comprehension, checked -/
def blkB (N : List Str) (sc scope : Scope) (own : List (Str × Nat)) : Bool :=
  decide (scope.kind = .function) && (scope.names.all fun y => decide (scope.names.lookup y.1 = some y.2)) && (own.all fun p => decide (N[p.2]? = some p.1)) &&
    (scope.names.all fun y => !decide (y.2 = .free) || decide (sc.names.lookup y.1 = some .cell) || decide (sc.names.lookup y.1 = some .free)) && scope.names.all fun y => !(decide (y.2 = .local) || decide (y.2 = .cell)) || (own.map (·.1)).contains y.1 || !N.contains y.1
theorem blk_ok {N : List Str} {sc scope : Scope} {own : List (Str × Nat)} (h : blkB N sc scope own = true) : BlkOk N sc scope own := by
  simp only [blkB, Bool.and_eq_true, decide_eq_true_eq, List.all_eq_true, Bool.or_eq_true, Bool.not_eq_true', decide_eq_false_iff_not, Bool.or_eq_false_iff] at h
  obtain ⟨⟨⟨⟨h1, h2⟩, h3⟩, h4⟩, h5⟩ := h
  refine ⟨h1, h2, h3, fun y hy hf => ?_, fun y hy hk => ?_⟩
  · rcases h4 y hy with (q | q) | q
    · exact absurd hf q
    · exact .inl q
    · exact .inr q
  · rcases h5 y hy with (q | q) | q
    · rcases hk with hk | hk
      · exact absurd hk q.1
      · exact absurd hk q.2
    · exact .inl (List.contains_iff_mem.mp q)
    · exact .inr fun z => by rw [List.contains_iff_mem.mpr z] at q; cases q
theorem names_own {X : Cx} {x : Str} {c : Value} (hm : X.mg x = some c) (hg : Gl X x) (hdb : (x == ("__debug__" : Str)) = false := by decide) : Names X x c := ⟨hg, hdb, .inl hm⟩
/-- a def's reading as its promise -/
def specOf (N : List Str) (t : DS) : DSp := fun ds g Φ Ψ => t { nx := fun _ g' => Φ .non g', rt := Φ, xz := fun ex _ g' => Ψ ex g' } (dStart N ds) g
theorem keeps_self {N : List Str} {ar : Nat} {t : DS} : Keeps N ar (specOf N t) t := fun _ _ _ _ _ h => h
end DL

namespace DL
open PySem L2 PyProof.Rows
/-! ### the classes of the module, by Bools -/
def excShape (C : Addr) (o : Option Obj) : Bool := match o with
  | some ⟨.type "type", _, .cls k, sl⟩ => (match k.mro with
    | .ref D :: bm => D == C && !k.hasDel && k.hasDict && HandSPX.refsVE bm
    | _ => false) && (match sl.toList with
    | [_, _, _, _, some (.builtin n), _] => n == "ValueError.__new__"
    | _ => false)
  | _ => false
theorem excShape_ok {C : Addr} {o : Option Obj} (h : excShape C o = true) : ∃ nm q N bs bm sn sub ab col dd k0 k1 k2 k3 k5, o = some (excClassObj nm q C N bs bm true sn sub ab col dd k0 k1 k2 k3 k5 "ValueError.__new__") ∧ HandSPX.refsVE bm = true := by
  unfold excShape at h
  split at h
  · rename_i dd k sl
    obtain ⟨h1, h2⟩ := Bool.and_eq_true_iff.mp h
    split at h1
    · rename_i D bm hm
      split at h2
      · rename_i k0 k1 k2 k3 n k5 hs
        simp only [Bool.and_eq_true, beq_iff_eq, Bool.not_eq_true'] at h1 h2
        obtain ⟨⟨⟨rfl, hdel⟩, hdct⟩, hve⟩ := h1
        subst h2
        obtain ⟨nm, bs, mro, ns, qn, hd, sn, sub, ab, col, del⟩ := k
        dsimp only at hm hdel hdct
        subst hm hdel hdct
        obtain ⟨l⟩ := sl
        simp only at hs
        subst hs
        exact ⟨nm, qn, ns, bs, bm, sn, sub, ab, col, dd, k0, k1, k2, k3, k5, rfl, hve⟩
      · cases h2
    · cases h1
  · cases h
def oexB (K : PySem.W.Frag) (C : Addr) : Bool := excShape C (K.lookup C) && decide (PySem.W.findIn K (.ref C) "__setattr__" = some (some (.builtin "object.__setattr__"))) && decide (PySem.W.subIn K (.ref C) (.type "BaseException") = some true) && decide (PySem.W.typeIn K (.ref C) = some (.type "type")) && PySem.W.keepIn K (.ref C)
theorem oexB_ok {K : PySem.W.Frag} {C : Addr} (h : oexB K C = true) : OexC K C := by
  simp only [oexB, Bool.and_eq_true, decide_eq_true_eq] at h
  exact ⟨excShape_ok h.1.1.1.1, h.1.1.1.2, h.1.1.2, h.1.2, h.2⟩
/-- the j-th statement of a class's body -/
def meth (st : Stmt) (j : Nat) : Stmt := match st with
  | .ClassDef (body := b) .. => b.getD j (.Pass ⟨0, 0, 0, 0⟩)
  | _ => .Pass ⟨0, 0, 0, 0⟩
def xcB (K : PySem.W.Frag) (C fI : Addr) (fns : List Str) : Bool := oexB K C && decide (PySem.W.findIn K (.ref C) "__init__" = some (some (.ref fI))) && decide (PySem.W.typeIn K (.ref fI) = some (.type "function")) && fns.all fun f => decide (PySem.W.findIn K (.ref C) f = some none)
theorem xc_mk {B : Tb} {P : Program} {w : World} {K : PySem.W.Frag} {mg : Str → Option Value} {base : Heap} {x qual f : Str} {i : Nat} {fns : List Str} {fI : Addr} {fd : FuncData} {st : Stmt} (hm : mg x = some (.ref (B.ct i))) (hb : xcB K (B.ct i) fI (f :: fns) = true) (F : Fun K "__init__" qual st fI fd)
    (Sc : FnScope ("self" :: f :: fns) ("self" :: f :: fns) (defScope st)) (hi : isInit (f :: fns) (defBody st) = true) (bd : Binds K fd ("self" :: f :: fns) []) (hl : fns.length ≤ 800 := by decide) : XC B P w K mg base x i (f :: fns) := by
  simp only [xcB, Bool.and_eq_true, decide_eq_true_eq, List.all_eq_true] at hb
  exact ⟨fI, fd, oexB_ok hb.1.1.1, hb.1.1.2, hb.1.2, xinit_ok F Sc hi hl, bd, hm, hb.2⟩
def xc0B (K : PySem.W.Frag) (C : Addr) : Bool := PySem.W.excIn K C [.type "ValueError", .type "Exception", .type "BaseException", .type "object"] "ValueError.__new__" && PySem.W.keepIn K (.ref C) && decide (PySem.W.subIn K (.ref C) (.type "BaseException") = some true) && decide (PySem.W.typeIn K (.ref C) = some (.type "type"))
theorem xc0_mk {B : Tb} {K : PySem.W.Frag} {mg : Str → Option Value} {x : Str} {i : Nat} (hm : mg x = some (.ref (B.ct i))) (hb : xc0B K (B.ct i) = true) : XC0 B K mg x i := by
  simp only [xc0B, Bool.and_eq_true, decide_eq_true_eq] at hb
  exact ⟨⟨_, _, _, _, PySem.F.excBase_ValueError, hb.1.1.1⟩, hm, hb.1.1.2, hb.1.2, hb.2⟩
/-- what «except X» says of each class -/
def ctB (B : Tb) (K : PySem.W.Frag) (l : List (Nat × Bool)) (u : Value) : Bool := l.all fun kb => decide (PySem.W.exmOne K (.ref (B.ct kb.1)) u = some kb.2)
theorem ctB_ok {B : Tb} {K : PySem.W.Frag} {l : List (Nat × Bool)} {u : Value} (h : ctB B K l u = true) : ∀ k b, l.lookup k = some b → PySem.W.exmOne K (.ref (B.ct k)) u = some b := fun k b e => by
  unfold ctB at h
  rw [List.all_eq_true] at h
  exact of_decide_eq_true (h (k, b) (lookup_mem' e))
/-- a def of the module -/
theorem fn_mk {B : Tb} {P : Program} {w : World} {K : PySem.W.Frag} {mg : Str → Option Value} {base : Heap} {L ar : Nat} {x : Str} {f : Addr} {fd : FuncData} {ps : List Str} {S : DSp} (G : FnG P w K mg base L f fd ps (spOf B K ar S)) (hm : mg x = some (.ref f)) (hk : PySem.W.keepIn K (.ref f) = true) (hb : Binds K fd ps []) : Fn B P w K mg base L x ar S :=
  ⟨f, fd, ps, G, hm, hk, hb⟩
end DL

namespace DL
open PySem L2
/-! ### readings without the pen, as functions -/
inductive R (α : Type) where
  | ok (a : α)
  | ex (e : Exn)
  | no
def R.bind {α β : Type} (r : R α) (k : α → R β) : R β := match r with
  | .ok a => k a
  | .ex e => .ex e
  | .no => .no
def ofO {α : Type} : Option α → R α
  | some a => .ok a
  | none => .no
def R.sat {α : Type} (r : R α) (g : Gh) (Q : α → Gh → Prop) (Z : DZ) : Prop := match r with
  | .ok a => Q a g
  | .ex e => Z e g
  | .no => False
theorem R.sat_bind {α β : Type} {r : R α} {k : α → R β} {g : Gh} {Q : β → Gh → Prop} {Z : DZ} (h : (r.bind k).sat g Q Z) : r.sat g (fun a g' => (k a).sat g' Q Z) Z := by
  cases r <;> exact h
theorem R.sat_mono {α : Type} {r : R α} {g : Gh} {Q Q' : α → Gh → Prop} {Z : DZ} (h : r.sat g Q Z) (k : ∀ a, r = .ok a → Q a g → Q' a g) : r.sat g Q' Z := by
  cases r with
  | ok a => exact k a rfl h
  | ex e => exact h
  | no => exact h
theorem R.thn {α β : Type} {r : R α} {k : α → R β} {g : Gh} {Q : β → Gh → Prop} {Q' : α → Gh → Prop} {Z : DZ} (h : (r.bind k).sat g Q Z) (q : ∀ a, r = .ok a → (k a).sat g Q Z → Q' a g) : r.sat g Q' Z := by
  cases r with
  | ok a => exact q a rfl h
  | ex e => exact h
  | no => exact h
def PuE (t : DE) (f : DEnv → R D) : Prop := ∀ ρ g Q Z, memNl g = true → (f ρ).sat g Q Z → t ρ g Q Z
def PuA (t : DA) (f : DEnv → R (List D)) : Prop := ∀ ρ g Q Z, memNl g = true → (f ρ).sat g Q Z → t ρ g Q Z
def PuT (t : DT) (f : DEnv → R Bool) : Prop := ∀ ρ g Q Z, memNl g = true → (f ρ).sat g Q Z → t ρ g Q Z
def PuO (t : DO) (f : DEnv → R (Option Int)) : Prop := ∀ ρ g Q Z, memNl g = true → (f ρ).sat g Q Z → t ρ g Q Z
def PuP (t : DP) (f : DEnv → R (List (Key × D))) : Prop := ∀ ρ g Q Z, memNl g = true → (f ρ).sat g Q Z → t ρ g Q Z
def PuF (S : DSp) (F : List D → R D) : Prop := ∀ ds g Φ Ψ, memNl g = true → (F ds).sat g Φ Ψ → S ds g Φ Ψ
section
variable {ta tb tc te : DE} {fa fb fc fe : DEnv → R D} {tr : DA} {fr : DEnv → R (List D)} {tA tB : DT} {fA fB : DEnv → R Bool}
def fVar (i : Nat) (ρ : DEnv) : R D := match ρ[i]? with
  | some (some d) => .ok d
  | _ => .no
theorem pu_var {i : Nat} : PuE (dVar i) (fVar i) := fun ρ g Q Z hg h => by
  unfold fVar at h
  split at h
  · rename_i d e; exact ⟨d, e, h⟩
  · exact h.elim
def fC (d : D) (_ : DEnv) : R D := .ok d
theorem pu_c {d : D} : PuE (dC d) (fC d) := fun ρ g Q Z hg h => h
def fOp (f : D → D → Option D) (fa fb : DEnv → R D) (ρ : DEnv) : R D := (fa ρ).bind fun x => (fb ρ).bind fun y => ofO (f x y)
theorem sat_ofO {α : Type} {o : Option α} {g : Gh} {Q : α → Gh → Prop} {Z : DZ} (h : (ofO o).sat g Q Z) : ∃ z, o = some z ∧ Q z g := by
  cases o with
  | none => exact h.elim
  | some a => exact ⟨a, rfl, h⟩
theorem pu_op {f : D → D → Option D} (ha : PuE ta fa) (hb : PuE tb fb) : PuE (dOp f ta tb) (fOp f fa fb) := fun ρ g Q Z hg h =>
  ha ρ g _ Z hg (R.thn h fun x _ h => hb ρ g _ Z hg (R.thn h fun y _ h => sat_ofO h))
def fChain (f f' : D → D → Option D) (fa fb fc : DEnv → R D) (ρ : DEnv) : R D := (fa ρ).bind fun x => (fb ρ).bind fun y => match f x y with
  | some (.bl k) => if k = true then (fc ρ).bind fun w => ofO (f' y w) else .ok (.bl false)
  | _ => .no
theorem pu_chain {f f' : D → D → Option D} (ha : PuE ta fa) (hb : PuE tb fb) (hc : PuE tc fc) : PuE (dChain f f' ta tb tc) (fChain f f' fa fb fc) := fun ρ g Q Z hg h =>
  ha ρ g _ Z hg (R.thn h fun x _ h => hb ρ g _ Z hg (R.thn h fun y _ h => by
    split at h
    · rename_i k e
      refine ⟨k, e, ?_⟩
      split at h
      · rename_i hk
        rw [if_pos hk]
        exact hc ρ g _ Z hg (R.thn h fun w _ h => sat_ofO h)
      · rename_i hk
        rw [if_neg hk]; exact h
    · exact h.elim))
def bl? : D → Option Bool
  | .bl b => some b
  | _ => none
theorem bl?_eq {d : D} {b : Bool} (h : bl? d = some b) : d = .bl b := by cases d <;> simp [bl?] at h; rw [h]
def fAnd (fa fb : DEnv → R D) (ρ : DEnv) : R D := (fa ρ).bind fun x => (ofO (bl? x)).bind fun k => if k = true then fb ρ else .ok (.bl false)
def fOr (fa fb : DEnv → R D) (ρ : DEnv) : R D := (fa ρ).bind fun x => (ofO (bl? x)).bind fun k => if k = true then .ok (.bl true) else fb ρ
def fNot (fa : DEnv → R D) (ρ : DEnv) : R D := (fa ρ).bind fun x => (ofO (bl? x)).bind fun k => .ok (.bl (!k))
theorem pu_and (ha : PuE ta fa) (hb : PuE tb fb) : PuE (dAnd ta tb) (fAnd fa fb) := fun ρ g Q Z hg h => ha ρ g _ Z hg (R.thn h fun x _ h => by
  obtain ⟨k, e, h⟩ := sat_ofO (R.sat_bind h)
  refine ⟨k, bl?_eq e, ?_⟩
  cases k with
  | true => exact hb ρ g Q Z hg h
  | false => exact h)
theorem pu_or (ha : PuE ta fa) (hb : PuE tb fb) : PuE (dOr ta tb) (fOr fa fb) := fun ρ g Q Z hg h => ha ρ g _ Z hg (R.thn h fun x _ h => by
  obtain ⟨k, e, h⟩ := sat_ofO (R.sat_bind h)
  refine ⟨k, bl?_eq e, ?_⟩
  cases k with
  | true => exact h
  | false => exact hb ρ g Q Z hg h)
theorem pu_not (ha : PuE ta fa) : PuE (dNot ta) (fNot fa) := fun ρ g Q Z hg h => ha ρ g _ Z hg (R.thn h fun x _ h => by
  obtain ⟨k, e, h⟩ := sat_ofO (R.sat_bind h)
  exact ⟨k, bl?_eq e, h⟩)
def fIf (fA : DEnv → R Bool) (fa fb : DEnv → R D) (ρ : DEnv) : R D := (fA ρ).bind fun k => if k = true then fa ρ else fb ρ
theorem pu_if (hA : PuT tA fA) (ha : PuE ta fa) (hb : PuE tb fb) : PuE (dIf tA ta tb) (fIf fA fa fb) := fun ρ g Q Z hg h => hA ρ g _ Z hg (R.thn h fun k _ h => by
  cases k with
  | true => exact ha ρ g Q Z hg h
  | false => exact hb ρ g Q Z hg h)
def fTest (fe : DEnv → R D) (ρ : DEnv) : R Bool := (fe ρ).bind fun x => ofO (bl? x)
theorem pu_test (he : PuE te fe) : PuT (dTest te) (fTest fe) := fun ρ g Q Z hg h => he ρ g _ Z hg (R.thn h fun x _ h => by
  obtain ⟨k, e, h⟩ := sat_ofO h
  exact ⟨k, bl?_eq e, h⟩)
def fAndT (fA fB : DEnv → R Bool) (ρ : DEnv) : R Bool := (fA ρ).bind fun k => if k = true then fB ρ else .ok false
def fOrT (fA fB : DEnv → R Bool) (ρ : DEnv) : R Bool := (fA ρ).bind fun k => if k = true then .ok true else fB ρ
def fNotT (fA : DEnv → R Bool) (ρ : DEnv) : R Bool := (fA ρ).bind fun k => .ok (!k)
theorem pu_andT (hA : PuT tA fA) (hB : PuT tB fB) : PuT (dAndT tA tB) (fAndT fA fB) := fun ρ g Q Z hg h => hA ρ g _ Z hg (R.thn h fun k _ h => by
  cases k with
  | true => exact hB ρ g Q Z hg h
  | false => exact h)
theorem pu_orT (hA : PuT tA fA) (hB : PuT tB fB) : PuT (dOrT tA tB) (fOrT fA fB) := fun ρ g Q Z hg h => hA ρ g _ Z hg (R.thn h fun k _ h => by
  cases k with
  | true => exact h
  | false => exact hB ρ g Q Z hg h)
theorem pu_notT (hA : PuT tA fA) : PuT (dNotT tA) (fNotT fA) := fun ρ g Q Z hg h => hA ρ g _ Z hg (R.thn h fun k _ h => h)
theorem pu_yes : PuT dYes (fun _ => .ok true) := fun ρ g Q Z hg h => h
/-! arguments, displays, built-ins -/
theorem pu_nil : PuA dNil (fun _ => .ok []) := fun ρ g Q Z hg h => h
def fCons (fe : DEnv → R D) (fr : DEnv → R (List D)) (ρ : DEnv) : R (List D) := (fe ρ).bind fun x => (fr ρ).bind fun xs => .ok (x :: xs)
theorem pu_cons (he : PuE te fe) (hr : PuA tr fr) : PuA (dCons te tr) (fCons fe fr) := fun ρ g Q Z hg h => he ρ g _ Z hg (R.thn h fun x _ h => hr ρ g _ Z hg (R.thn h fun xs _ h => h))
def fTup (fr : DEnv → R (List D)) (ρ : DEnv) : R D := (fr ρ).bind fun xs => if xs.length ≤ sizeLine then .ok (.tup xs) else .no
def fLst (fr : DEnv → R (List D)) (ρ : DEnv) : R D := (fr ρ).bind fun xs => if xs.length ≤ sizeLine then .ok (.lst xs) else .no
theorem pu_tup (hr : PuA tr fr) : PuE (dTup tr) (fTup fr) := fun ρ g Q Z hg h => hr ρ g _ Z hg (R.thn h fun xs _ h => by
  split at h
  · rename_i hl; exact ⟨hl, h⟩
  · exact h.elim)
theorem pu_lst (hr : PuA tr fr) : PuE (dLst tr) (fLst fr) := fun ρ g Q Z hg h => hr ρ g _ Z hg (R.thn h fun xs _ h => by
  split at h
  · rename_i hl; exact ⟨hl, h⟩
  · exact h.elim)
def fFn (f : List D → Option D) (fr : DEnv → R (List D)) (ρ : DEnv) : R D := (fr ρ).bind fun xs => ofO (f xs)
theorem pu_fn {f : List D → Option D} (hr : PuA tr fr) : PuE (dFn f tr) (fFn f fr) := fun ρ g Q Z hg h => hr ρ g _ Z hg (R.thn h fun xs _ h => sat_ofO h)
def fU (f : D → Option D) (fe : DEnv → R D) (ρ : DEnv) : R D := (fe ρ).bind fun x => ofO (f x)
theorem pu_u {f : D → Option D} (he : PuE te fe) : PuE (dU f te) (fU f fe) := fun ρ g Q Z hg h => he ρ g _ Z hg (R.thn h fun xs _ h => sat_ofO h)
def fM (is : D → Bool) (f : D → D → Option D) (fa fb : DEnv → R D) (ρ : DEnv) : R D := (fa ρ).bind fun x => if is x = true then (fb ρ).bind fun y => ofO (f x y) else .no
theorem pu_m {is : D → Bool} {f : D → D → Option D} (ha : PuE ta fa) (hb : PuE tb fb) : PuE (dM is f ta tb) (fM is f fa fb) := fun ρ g Q Z hg h => ha ρ g _ Z hg (R.thn h fun x _ h => by
  split at h
  · rename_i hi; exact ⟨hi, hb ρ g _ Z hg (R.thn h fun y _ h => sat_ofO h)⟩
  · exact h.elim)
def int? : D → Option Int
  | .int i => some i
  | _ => none
theorem int?_eq {d : D} {i : Int} (h : int? d = some i) : d = .int i := by cases d <;> simp [int?] at h; rw [h]
theorem pu_noPart : PuO dNoPart (fun _ => .ok none) := fun ρ g Q Z hg h => h
def fPart (fe : DEnv → R D) (ρ : DEnv) : R (Option Int) := (fe ρ).bind fun x => (ofO (int? x)).bind fun i => .ok (some i)
theorem pu_part (he : PuE te fe) : PuO (dPart te) (fPart fe) := fun ρ g Q Z hg h => he ρ g _ Z hg (R.thn h fun x _ h => by
  obtain ⟨i, e, h⟩ := sat_ofO (R.sat_bind h)
  exact ⟨i, int?_eq e, h⟩)
def fSl (fe : DEnv → R D) (fl fh : DEnv → R (Option Int)) (ρ : DEnv) : R D := (fe ρ).bind fun x => (fl ρ).bind fun lo => (fh ρ).bind fun hi => ofO (slD x lo hi)
theorem pu_sl {tl th : DO} {fl fh : DEnv → R (Option Int)} (he : PuE te fe) (hl : PuO tl fl) (hh : PuO th fh) : PuE (dSl te tl th) (fSl fe fl fh) := fun ρ g Q Z hg h =>
  he ρ g _ Z hg (R.thn h fun x _ h => hl ρ g _ Z hg (R.thn h fun lo _ h => hh ρ g _ Z hg (R.thn h fun hi _ h => sat_ofO h)))
def fExc (i : Nat) (fns : List Str) (fr : DEnv → R (List D)) (ρ : DEnv) : R D := (fr ρ).bind fun xs => .ok (.exc i (fieldsOf fns xs))
theorem pu_exc {i : Nat} {fns : List Str} (hr : PuA tr fr) : PuE (dExc i fns tr) (fExc i fns fr) := fun ρ g Q Z hg h => hr ρ g _ Z hg (R.thn h fun xs _ h => h)
theorem pu_pnil : PuP dPNil (fun _ => .ok []) := fun ρ g Q Z hg h => h
def fPCons (fa fb : DEnv → R D) (fp : DEnv → R (List (Key × D))) (ρ : DEnv) : R (List (Key × D)) := (fa ρ).bind fun x => (ofO (keyD x)).bind fun k => (fb ρ).bind fun y => (fp ρ).bind fun r => .ok ((k, y) :: r)
theorem pu_pcons {tp : DP} {fp : DEnv → R (List (Key × D))} (ha : PuE ta fa) (hb : PuE tb fb) (hp : PuP tp fp) : PuP (dPCons ta tb tp) (fPCons fa fb fp) := fun ρ g Q Z hg h => ha ρ g _ Z hg (R.thn h fun x _ h => by
  obtain ⟨k, e, h⟩ := sat_ofO (R.sat_bind h)
  exact ⟨k, e, hb ρ g _ Z hg (R.thn h fun y _ h => hp ρ g _ Z hg (R.thn h fun r _ h => h))⟩)
def fDisp (fp : DEnv → R (List (Key × D))) (ρ : DEnv) : R D := (fp ρ).bind fun kds => if kds.length ≤ 15 then .ok (.dct (mergeD [] kds)) else .no
theorem pu_disp {tp : DP} {fp : DEnv → R (List (Key × D))} (hp : PuP tp fp) : PuE (dDisp tp) (fDisp fp) := fun ρ g Q Z hg h => hp ρ g _ Z hg (R.thn h fun r _ h => by
  split at h
  · rename_i hl; exact ⟨hl, h⟩
  · exact h.elim)
/-! what is walked -/
def lst? : D → Option (List D)
  | .lst ds => some ds
  | _ => none
theorem lst?_eq {d : D} {l : List D} (h : lst? d = some l) : d = .lst l := by cases d <;> simp [lst?] at h; rw [h]
def tup? : D → Option (List D)
  | .tup ds => some ds
  | _ => none
theorem tup?_eq {d : D} {l : List D} (h : tup? d = some l) : d = .tup l := by cases d <;> simp [tup?] at h; rw [h]
def str? : D → Option Str
  | .str x => some x
  | _ => none
theorem str?_eq {d : D} {l : Str} (h : str? d = some l) : d = .str l := by cases d <;> simp [str?] at h; rw [h]
abbrev PuI (t : DI) (f : DEnv → R (List D)) : Prop := ∀ ρ g Q Z, memNl g = true → (f ρ).sat g Q Z → t ρ g Q Z
def fList (fe : DEnv → R D) (ρ : DEnv) : R (List D) := (fe ρ).bind fun x => ofO (lst? x)
theorem pu_list (he : PuE te fe) : PuI (dList te) (fList fe) := fun ρ g Q Z hg h => he ρ g _ Z hg (R.thn h fun x _ h => by
  obtain ⟨k, e, h⟩ := sat_ofO h
  exact ⟨k, lst?_eq e, h⟩)
def fTuple (fe : DEnv → R D) (ρ : DEnv) : R (List D) := (fe ρ).bind fun x => ofO (tup? x)
theorem pu_tuple (he : PuE te fe) : PuI (dTuple te) (fTuple fe) := fun ρ g Q Z hg h => he ρ g _ Z hg (R.thn h fun x _ h => by
  obtain ⟨k, e, h⟩ := sat_ofO h
  exact ⟨k, tup?_eq e, h⟩)
def fSigns (fe : DEnv → R D) (ρ : DEnv) : R (List D) := (fe ρ).bind fun x => (ofO (str? x)).bind fun z => .ok (z.cps.toList.map fun c => .str ⟨#[c]⟩)
theorem pu_signs (he : PuE te fe) : PuI (dSigns te) (fSigns fe) := fun ρ g Q Z hg h => he ρ g _ Z hg (R.thn h fun x _ h => by
  obtain ⟨k, e, h⟩ := sat_ofO (R.sat_bind h)
  exact ⟨k, str?_eq e, h⟩)
def fRange1 (fe : DEnv → R D) (ρ : DEnv) : R (List D) := (fe ρ).bind fun x => (ofO (int? x)).bind fun j => if fits62 j = true then .ok (rangeL 0 j.toNat) else .no
theorem pu_range1 (he : PuE te fe) : PuI (dRange1 te) (fRange1 fe) := fun ρ g Q Z hg h => he ρ g _ Z hg (R.thn h fun x _ h => by
  obtain ⟨j, e, h⟩ := sat_ofO (R.sat_bind h)
  split at h
  · rename_i hj; exact ⟨j, int?_eq e, hj, h⟩
  · exact h.elim)
def fRange2 (fa fb : DEnv → R D) (ρ : DEnv) : R (List D) := (fa ρ).bind fun x => (fb ρ).bind fun y => (ofO (int? x)).bind fun i => (ofO (int? y)).bind fun j => if (fits62 i && fits62 j) = true then .ok (rangeL i (j - i).toNat) else .no
theorem pu_range2 (ha : PuE ta fa) (hb : PuE tb fb) : PuI (dRange2 ta tb) (fRange2 fa fb) := fun ρ g Q Z hg h => ha ρ g _ Z hg (R.thn h fun x _ h => hb ρ g _ Z hg (R.thn h fun y _ h => by
  obtain ⟨i, e1, h⟩ := sat_ofO (R.sat_bind h)
  obtain ⟨j, e2, h⟩ := sat_ofO (R.sat_bind h)
  split at h
  · rename_i hj; exact ⟨i, j, int?_eq e1, int?_eq e2, hj, h⟩
  · exact h.elim))
def fEnum (fe : DEnv → R D) (ρ : DEnv) : R (List D) := (fe ρ).bind fun x => (ofO (lst? x)).bind fun ds => .ok (numbered ds)
theorem pu_enum (he : PuE te fe) : PuI (dEnum te) (fEnum fe) := fun ρ g Q Z hg h => he ρ g _ Z hg (R.thn h fun x _ h => by
  obtain ⟨k, e, h⟩ := sat_ofO (R.sat_bind h)
  exact ⟨k, lst?_eq e, h⟩)
def fZip (fa fb : DEnv → R D) (ρ : DEnv) : R (List D) := (fa ρ).bind fun x => (fb ρ).bind fun y => (ofO (lst? x)).bind fun xs => (ofO (lst? y)).bind fun ys => .ok (zipped xs ys)
theorem pu_zip (ha : PuE ta fa) (hb : PuE tb fb) : PuI (dZip ta tb) (fZip fa fb) := fun ρ g Q Z hg h => ha ρ g _ Z hg (R.thn h fun x _ h => hb ρ g _ Z hg (R.thn h fun y _ h => by
  obtain ⟨i, e1, h⟩ := sat_ofO (R.sat_bind h)
  obtain ⟨j, e2, h⟩ := sat_ofO (R.sat_bind h)
  exact ⟨i, j, lst?_eq e1, lst?_eq e2, h⟩))
def fCall (F : List D → R D) (fr : DEnv → R (List D)) (ρ : DEnv) : R D := (fr ρ).bind F
theorem pu_call {S : DSp} {F : List D → R D} (hS : PuF S F) (hr : PuA tr fr) : PuE (dCall S tr) (fCall F fr) := fun ρ g Q Z hg h => hr ρ g _ Z hg (R.thn h fun xs _ h => hS xs g Q Z hg h)
/-! comprehensions -/
def lcF (tg : DGp) (fA : DEnv → R Bool) (fe : DEnv → R D) (ρ : DEnv) : List D → List D → R (List D)
  | [], acc => .ok acc
  | d :: ds, acc => (ofO (tg d ρ)).bind fun ρ' => (fA ρ').bind fun b => if b = true then (fe ρ').bind fun y => if acc.length < sizeLine then lcF tg fA fe ρ ds (acc ++ [y]) else .no else lcF tg fA fe ρ ds acc
/-- nothing is raised -/
def R.quiet {α : Type} : R α → R α
  | .ex _ => .no
  | r => r
def fLcO (fi : DEnv → R (List D)) (tg : DGp) (fA : DEnv → R Bool) (fe : DEnv → R D) (vs : List Nat) (ρ : DEnv) : R (List D) := (fi ρ).bind fun ds => (lcF tg fA fe (wipeD ρ vs) ds []).quiet
theorem sat_quiet {α : Type} {r : R α} {g : Gh} {Q : α → Gh → Prop} {Z : DZ} (h : r.quiet.sat g Q Z) : r.sat g Q ZF := by
  cases r with
  | ok a => exact h
  | ex e => exact h.elim
  | no => exact h
theorem pu_lcO {ti : DI} {fi : DEnv → R (List D)} {tg : DGp} {vs : List Nat} (hi : PuI ti fi) (hA : PuT tA fA) (he : PuE te fe) : ∀ ρ g Q Z, memNl g = true → (fLcO fi tg fA fe vs ρ).sat g Q Z → dLcO ti tg tA te vs ρ g Q Z := fun ρ g Q Z hg h => hi ρ g _ Z hg (R.thn h fun ds _ h => by
  have h := sat_quiet h
  have key : ∀ (ds acc : List D), (lcF tg fA fe (wipeD ρ vs) ds acc).sat g Q ZF → lcD tg tA te (wipeD ρ vs) Q ds acc g := by
    intro ds
    induction ds with
    | nil => intro acc h; exact h
    | cons d ds ih =>
      intro acc h
      unfold lcF at h
      obtain ⟨ρ', e, h⟩ := sat_ofO (R.sat_bind h)
      refine ⟨ρ', e, hA ρ' g _ ZF hg (R.thn h fun b _ h => ?_)⟩
      cases b with
      | false => exact ih acc h
      | true =>
        refine he ρ' g _ ZF hg (R.thn h fun y _ h => ?_)
        split at h
        · rename_i hl; exact ⟨hl, ih _ h⟩
        · exact h.elim
  exact key ds [] h)
def fLc (fi : DEnv → R (List D)) (tg : DGp) (fA : DEnv → R Bool) (fe : DEnv → R D) (vs : List Nat) (ρ : DEnv) : R D := (fLcO fi tg fA fe vs ρ).bind fun ds => .ok (.lst ds)
theorem pu_lc {ti : DI} {fi : DEnv → R (List D)} {tg : DGp} {vs : List Nat} (hi : PuI ti fi) (hA : PuT tA fA) (he : PuE te fe) : PuE (dLc ti tg tA te vs) (fLc fi tg fA fe vs) := fun ρ g Q Z hg h => pu_lcO hi hA he ρ g _ Z hg (R.thn h fun ds _ h => h)
end
end DL

namespace DL
open PySem L2
/-! ### statements without the pen, as functions -/
inductive Fl where
  | nx (ρ : SEnv)
  | rt (d : D)
  | bk (ρ : SEnv)
  | ct (ρ : SEnv)
  | ex (e : Exn) (ρ : SEnv)
  | no
def Fl.sat (r : Fl) (g : Gh) (En : DEnds) : Prop := match r with
  | .nx ρ => En.nx ρ g
  | .rt d => En.rt d g
  | .bk ρ => En.bk ρ g
  | .ct ρ => En.ct ρ g
  | .ex e ρ => En.xz e ρ g
  | .no => False
def PuS (t : DS) (f : SEnv → Fl) : Prop := ∀ En ρ g, memNl g = true → (f ρ).sat g En → t En ρ g
def R.fl {α : Type} (r : R α) (ρ : SEnv) (k : α → Fl) : Fl := match r with
  | .ok a => k a
  | .ex e => .ex e ρ
  | .no => .no
theorem R.fl_thn {α : Type} {r : R α} {ρ : SEnv} {k : α → Fl} {g : Gh} {En : DEnds} {Q' : α → Gh → Prop} (h : (r.fl ρ k).sat g En) (q : ∀ a, r = .ok a → (k a).sat g En → Q' a g) : r.sat g Q' (fun ex g' => En.xz ex ρ g') := by
  cases r with
  | ok a => exact q a rfl h
  | ex e => exact h
  | no => exact h
def Fl.seq (r : Fl) (k : SEnv → Fl) : Fl := match r with
  | .nx ρ => k ρ
  | r => r
section
variable {t u tb : DS} {f fu fb : SEnv → Fl} {te : DE} {fe : DEnv → R D} {tA : DT} {fA : DEnv → R Bool} {tr : DA} {fr : DEnv → R (List D)} {i j : Nat}
theorem pu_next : PuS dNext .nx := fun En ρ g _ h => h
theorem pu_break : PuS dBreak .bk := fun En ρ g _ h => h
theorem pu_cont : PuS dCont .ct := fun En ρ g _ h => h
def fSeq (f fu : SEnv → Fl) (ρ : SEnv) : Fl := (f ρ).seq fu
theorem pu_seq (h1 : PuS t f) (h2 : PuS u fu) : PuS (dSeq t u) (fSeq f fu) := fun En ρ g hg h => h1 { En with nx := u En } ρ g hg (by
  unfold fSeq at h
  cases e : f ρ with
  | nx ρ' => rw [e] at h; exact h2 En ρ' g hg h
  | _ => rw [e] at h; exact h)
def fSet (i : Nat) (fe : DEnv → R D) (ρ : SEnv) : Fl := (fe (mask ρ)).fl ρ fun d => .nx (ρ.set i (.fz d))
theorem pu_set (he : PuE te fe) : PuS (dSet i te) (fSet i fe) := fun En ρ g hg h => he _ g _ _ hg (R.fl_thn h fun d _ h => h)
def fRet (fe : DEnv → R D) (ρ : SEnv) : Fl := (fe (mask ρ)).fl ρ .rt
theorem pu_ret (he : PuE te fe) : PuS (dRet te) (fRet fe) := fun En ρ g hg h => he _ g _ _ hg (R.fl_thn h fun d _ h => h)
theorem pu_retN : PuS dRetN (fun _ => .rt .non) := fun En ρ g hg h => h
def fRetO (i : Nat) (ρ : SEnv) : Fl := match ρ[i]? with
  | some (.ow ds) => .rt (.lst ds)
  | _ => .no
theorem pu_retO : PuS (dRetO i) (fRetO i) := fun En ρ g hg h => by
  unfold fRetO at h
  split at h
  · rename_i ds e; exact ⟨ds, e, h⟩
  · exact h.elim
def fDrop (fe : DEnv → R D) (ρ : SEnv) : Fl := (fe (mask ρ)).fl ρ fun _ => .nx ρ
theorem pu_drop (he : PuE te fe) : PuS (dDrop te) (fDrop fe) := fun En ρ g hg h => he _ g _ _ hg (R.fl_thn h fun d _ h => h)
def fIfF (fA : DEnv → R Bool) (f fu : SEnv → Fl) (ρ : SEnv) : Fl := (fA (mask ρ)).fl ρ fun b => if b = true then f ρ else fu ρ
theorem pu_ifS (hA : PuT tA fA) (h1 : PuS t f) (h2 : PuS u fu) : PuS (dIfS tA t u) (fIfF fA f fu) := fun En ρ g hg h => hA _ g _ _ hg (R.fl_thn h fun b _ h => by
  cases b with
  | true => exact h1 En ρ g hg h
  | false => exact h2 En ρ g hg h)
def fFreeze (i : Nat) (f : SEnv → Fl) (ρ : SEnv) : Fl := match ρ[i]? with
  | some (.ow ds) => f (ρ.set i (.fz (.lst ds)))
  | _ => .no
theorem pu_freeze (h1 : PuS t f) : PuS (dFreeze i t) (fFreeze i f) := fun En ρ g hg h => by
  unfold fFreeze at h
  split at h
  · rename_i ds e; exact ⟨ds, e, h1 En _ g hg h⟩
  · exact h.elim
/-- the passes of a loop -/
def forF (tg : DG) (fb : SEnv → Fl) : List D → SEnv → Fl
  | [], ρ => .nx ρ
  | d :: ds, ρ => match tg d ρ with
    | some ρ' => match fb ρ' with
      | .nx ρ'' => forF tg fb ds ρ''
      | .ct ρ'' => forF tg fb ds ρ''
      | .bk ρ'' => .nx ρ''
      | r => r
    | none => .no
theorem pu_forD {tg : DG} (hb : PuS tb fb) {En : DEnds} {g : Gh} (hg : memNl g = true) : ∀ (ds : List D) (ρ : SEnv), (forF tg fb ds ρ).sat g En → forD tg tb En ds ρ g
  | [], ρ, h => h
  | d :: ds, ρ, h => by
    unfold forF at h
    split at h
    · rename_i ρ' e
      refine ⟨ρ', e, hb _ ρ' g hg ?_⟩
      split at h
      · rename_i ρ'' e2; rw [e2]; exact pu_forD hb hg ds ρ'' h
      · rename_i ρ'' e2; rw [e2]; exact pu_forD hb hg ds ρ'' h
      · rename_i ρ'' e2; rw [e2]; exact h
      · rename_i r n1 n2 n3
        cases e2 : fb ρ' with
        | nx ρ'' => exact absurd e2 (n1 ρ'')
        | ct ρ'' => exact absurd e2 (n2 ρ'')
        | bk ρ'' => exact absurd e2 (n3 ρ'')
        | rt d => rw [e2] at h; exact h
        | ex e ρ'' => rw [e2] at h; exact h
        | no => rw [e2] at h; exact h
    · exact h.elim
def fFor (fi : DEnv → R (List D)) (tg : DG) (fb : SEnv → Fl) (ρ : SEnv) : Fl := (fi (mask ρ)).fl ρ fun ds => forF tg fb ds ρ
theorem pu_for {ti : DI} {fi : DEnv → R (List D)} {tg : DG} (hi : PuI ti fi) (hb : PuS tb fb) : PuS (dFor ti tg tb) (fFor fi tg fb) := fun En ρ g hg h => hi _ g _ _ hg (R.fl_thn h fun ds _ h => pu_forD hb hg ds ρ h)
def fRaise (i : Nat) (fns : List Str) (fr : DEnv → R (List D)) (ρ : SEnv) : Fl := (fr (mask ρ)).fl ρ fun xs => .ex ⟨i, fieldsOf fns xs⟩ ρ
theorem pu_raise {fns : List Str} (hr : PuA tr fr) : PuS (dRaise i fns tr) (fRaise i fns fr) := fun En ρ g hg h => hr _ g _ _ hg (R.fl_thn h fun xs _ h => h)
theorem pu_raise0 : PuS (dRaise0 i) (fun ρ => .ex ⟨i, []⟩ ρ) := fun En ρ g hg h => h
def fTry (c : Nat → Option Bool) (i j : Nat) (fb : SEnv → Fl) (ρ : SEnv) : Fl := match fb ρ with
  | .ex e ρ' => match c e.c with
    | some b => if b = true then .nx (((ρ'.set i (.fz (.exc e.c e.fs))).set j (.fz (.exc e.c e.fs))).set i .un) else .ex e ρ'
    | none => .no
  | r => r
theorem pu_try {c : Nat → Option Bool} (hb : PuS tb fb) : PuS (dTry c i j tb) (fTry c i j fb) := fun En ρ g hg h => hb _ ρ g hg (by
  unfold fTry at h
  cases e : fb ρ with
  | ex e' ρ' =>
    rw [e] at h
    dsimp only at h
    split at h
    · rename_i b e2
      refine ⟨b, e2, ?_⟩
      split at h
      · rename_i hbt; rw [if_pos hbt]; exact h
      · rename_i hbt; rw [if_neg hbt]; exact h
    · exact h.elim
  | _ => rw [e] at h; exact h)
/-! lists of our own -/
abbrev TL := DEnv → Gh → (List D → Gh → Prop) → DZ → Prop
def PuL (t : TL) (f : DEnv → R (List D)) : Prop := ∀ ρ g Q Z, memNl g = true → (f ρ).sat g Q Z → t ρ g Q Z
def fLstO (fr : DEnv → R (List D)) (ρ : DEnv) : R (List D) := (fr ρ).bind fun xs => if xs.length ≤ sizeLine then .ok xs else .no
theorem pu_lstO (hr : PuA tr fr) : PuL (dLstO tr) (fLstO fr) := fun ρ g Q Z hg h => hr ρ g _ Z hg (R.thn h fun xs _ h => by
  split at h
  · rename_i hl; exact ⟨hl, h⟩
  · exact h.elim)
def seq? : D → Option (List D)
  | .lst ds => some ds
  | .tup ds => some ds
  | _ => none
theorem seq?_eq {d : D} {l : List D} (h : seq? d = some l) : d = .lst l ∨ d = .tup l := by cases d <;> simp [seq?] at h <;> rw [h] <;> simp
def fListO (fe : DEnv → R D) (ρ : DEnv) : R (List D) := (fe ρ).bind fun x => ofO (seq? x)
theorem pu_listO (he : PuE te fe) : PuL (dListO te) (fListO fe) := fun ρ g Q Z hg h => he ρ g _ Z hg (R.thn h fun x _ h => by
  obtain ⟨ds, e, h⟩ := sat_ofO h
  exact ⟨ds, seq?_eq e, h⟩)
def fCatO (fa fb : DEnv → R D) (ρ : DEnv) : R (List D) := (fa ρ).bind fun x => (fb ρ).bind fun y => (ofO (lst? x)).bind fun xs => (ofO (lst? y)).bind fun ys => if xs.length + ys.length ≤ sizeLine then .ok (xs ++ ys) else .no
theorem pu_catO {ta tb : DE} {fa fb : DEnv → R D} (ha : PuE ta fa) (hb : PuE tb fb) : PuL (dCatO ta tb) (fCatO fa fb) := fun ρ g Q Z hg h => ha ρ g _ Z hg (R.thn h fun x _ h => hb ρ g _ Z hg (R.thn h fun y _ h => by
  obtain ⟨xs, e1, h⟩ := sat_ofO (R.sat_bind h)
  obtain ⟨ys, e2, h⟩ := sat_ofO (R.sat_bind h)
  split at h
  · rename_i hl; exact ⟨xs, ys, lst?_eq e1, lst?_eq e2, hl, h⟩
  · exact h.elim))
def fSetO (i : Nat) (fl : DEnv → R (List D)) (ρ : SEnv) : Fl := (fl (mask ρ)).fl ρ fun ds => .nx (ρ.set i (.ow ds))
theorem pu_setO {tl : TL} {fl : DEnv → R (List D)} (hl : PuL tl fl) : PuS (dSetO i tl) (fSetO i fl) := fun En ρ g hg h => hl _ g _ _ hg (R.fl_thn h fun ds _ h => h)
def fAppend (i : Nat) (fe : DEnv → R D) (ρ : SEnv) : Fl := match ρ[i]? with
  | some (.ow ds) => (fe (mask ρ)).fl ρ fun d => if ds.length < sizeLine then .nx (ρ.set i (.ow (ds ++ [d]))) else .no
  | _ => .no
theorem pu_append (he : PuE te fe) : PuS (dAppend i te) (fAppend i fe) := fun En ρ g hg h => by
  unfold fAppend at h
  split at h
  · rename_i ds e
    refine ⟨ds, e, he _ g _ _ hg (R.fl_thn h fun d _ h => ?_)⟩
    split at h
    · rename_i hl; exact ⟨hl, h⟩
    · exact h.elim
  · exact h.elim
/-! looking at lists of our own -/
theorem okG_self {g : Gh} (hg : memNl g = true) : okG g g = true := by unfold okG; rw [hg]; simp
def R.flS {α : Type} (r : R α) (ρ : SEnv) (k : α → Fl) : Fl := match r with
  | .ok a => k a
  | .ex e => if nlf e.fs = true then .ex e ρ else .no
  | .no => .no
theorem R.flS_thn {α : Type} {r : R α} {ρ : SEnv} {k : α → Fl} {g : Gh} {En : DEnds} {Q' : α → Gh → Prop} (hg : memNl g = true) (h : (r.flS ρ k).sat g En) (q : ∀ a, r = .ok a → (k a).sat g En → Q' a g) : r.sat g Q' (fun ex g' => okG g g' = true ∧ nlf ex.fs = true ∧ En.xz ex ρ g') := by
  cases r with
  | ok a => exact q a rfl h
  | ex e =>
    have h : (if nlf e.fs = true then Fl.ex e ρ else Fl.no).sat g En := h
    split at h
    · rename_i hn; exact ⟨okG_self hg, hn, h⟩
    · exact h.elim
  | no => exact h
def fSetS (i : Nat) (fe : DEnv → R D) (ρ : SEnv) : Fl := (fe (snap ρ)).flS ρ fun d => if nl d = true then .nx (ρ.set i (.fz d)) else .no
theorem pu_setS (he : PuE te fe) : PuS (dSetS i te) (fSetS i fe) := fun En ρ g hg h => he _ g _ _ hg (R.flS_thn hg h fun d _ h => by
  split at h
  · rename_i hn; exact ⟨okG_self hg, hn, h⟩
  · exact h.elim)
def fIfSF (fA : DEnv → R Bool) (f fu : SEnv → Fl) (ρ : SEnv) : Fl := (fA (snap ρ)).flS ρ fun b => if b = true then f ρ else fu ρ
theorem pu_ifSS (hA : PuT tA fA) (h1 : PuS t f) (h2 : PuS u fu) : PuS (dIfSS tA t u) (fIfSF fA f fu) := fun En ρ g hg h => hA _ g _ _ hg (R.flS_thn hg h fun b _ h => ⟨okG_self hg, by
  cases b with
  | true => exact h1 En ρ g hg h
  | false => exact h2 En ρ g hg h⟩)
def fAppendS (i : Nat) (fe : DEnv → R D) (ρ : SEnv) : Fl := match ρ[i]? with
  | some (.ow ds) => (fe (snap ρ)).flS ρ fun d => if nl d = true ∧ ds.length < sizeLine then .nx (ρ.set i (.ow (ds ++ [d]))) else .no
  | _ => .no
theorem pu_appendS (he : PuE te fe) : PuS (dAppendS i te) (fAppendS i fe) := fun En ρ g hg h => by
  unfold fAppendS at h
  split at h
  · rename_i ds e
    refine ⟨ds, e, he _ g _ _ hg (R.flS_thn hg h fun d _ h => ?_)⟩
    split at h
    · rename_i hl; exact ⟨okG_self hg, hl.1, hl.2, h⟩
    · exact h.elim
  · exact h.elim
def fRaiseS (i : Nat) (fns : List Str) (fr : DEnv → R (List D)) (ρ : SEnv) : Fl := (fr (snap ρ)).flS ρ fun xs => if nlf (fieldsOf fns xs) = true then .ex ⟨i, fieldsOf fns xs⟩ ρ else .no
theorem pu_raiseS {fns : List Str} (hr : PuA tr fr) : PuS (dRaiseS i fns tr) (fRaiseS i fns fr) := fun En ρ g hg h => hr _ g _ _ hg (R.flS_thn hg h fun xs _ h => by
  split at h
  · rename_i hn; exact ⟨okG_self hg, hn, h⟩
  · exact h.elim)
end
/-! ### defs -/
def Fl.out : Fl → R D
  | .nx _ => .ok .non
  | .rt d => .ok d
  | .ex e _ => .ex e
  | _ => .no
def runF (N : List Str) (f : SEnv → Fl) (ds : List D) : R D := (f (dStart N ds)).out
theorem pu_def {N : List Str} {t : DS} {f : SEnv → Fl} (h : PuS t f) : PuF (specOf N t) (runF N f) := fun ds g Φ Ψ hg q => h _ _ g hg (by
  unfold runF at q
  cases e : f (dStart N ds) with
  | nx ρ => rw [e] at q; exact q
  | rt d => rw [e] at q; exact q
  | ex e' ρ => rw [e] at q; exact q
  | bk ρ => rw [e] at q; exact q.elim
  | ct ρ => rw [e] at q; exact q.elim
  | no => rw [e] at q; exact q.elim)
end DL

namespace DL
open PySem L2
theorem penV_rest {n cl : Nat} {d : D} (h : PenV n cl "rest" d) : ∃ r, d = .int r := by
  generalize hk : ("rest" : Str) = k at h
  cases h with
  | cells ns _ _ => exact absurd hk (by decide)
  | at_ a _ _ => exact ⟨a, rfl⟩
  | rest r => exact ⟨r, rfl⟩
  | fold f _ _ => exact ⟨f, rfl⟩
theorem penV_at {n cl : Nat} {d : D} (h : PenV n cl "at" d) : ∃ a, d = .int a ∧ 0 ≤ a ∧ a ≤ n := by
  generalize hk : ("at" : Str) = k at h
  cases h with
  | cells ns _ _ => exact absurd hk (by decide)
  | at_ a h1 h2 => exact ⟨a, rfl, h1, h2⟩
  | rest r => exact absurd hk (by decide)
  | fold f _ _ => exact absurd hk (by decide)
theorem penV_fold {n cl : Nat} {d : D} (h : PenV n cl "fold" d) : ∃ a, d = .int a ∧ 0 ≤ a ∧ a < 2147483629 := by
  generalize hk : ("fold" : Str) = k at h
  cases h with
  | cells ns _ _ => exact absurd hk (by decide)
  | at_ a h1 h2 => exact absurd hk (by decide)
  | rest r => exact absurd hk (by decide)
  | fold f h1 h2 => exact ⟨f, rfl, h1, h2⟩
theorem penV_cells {n cl : Nat} {d : D} (h : PenV n cl "cells" d) : ∃ ns : List Int, d = .lst (ns.map D.int) ∧ ns.length ≤ 63 ∧ ns.length = cl := by
  generalize hk : ("cells" : Str) = k at h
  cases h with
  | cells ns h h' => exact ⟨ns, rfl, h, h'⟩
  | at_ a h1 h2 => exact absurd hk (by decide)
  | rest r => exact absurd hk (by decide)
  | fold f h1 h2 => exact absurd hk (by decide)
theorem mod_i {i j : Int} (h : 0 < j) : modD (.int i) (.int j) = some (.int (i % j)) := by simp [modD, h]
theorem fdiv_i {i j : Int} (h : 0 < j) (h2 : j < 1073741824) : fdivD (.int i) (.int j) = some (.int (i / j)) := by simp only [fdivD]; rw [if_pos ⟨h, h2⟩]
theorem pow_i {i j : Int} (h : 0 ≤ j ∧ j ≤ 1000000 ∧ i.natAbs < 2 ^ 64) : powD (.int i) (.int j) = some (.int (i ^ j.toNat)) := by simp only [powD]; rw [if_pos h]
theorem mul_i {i j : Int} (h : (small i || small j) = true) : mulD (.int i) (.int j) = some (.int (i * j)) := by simp only [mulD]; rw [if_pos h]
theorem at_get {α : Type} {xs : List α} {a : Int} (h0 : 0 ≤ a) (h1 : a < xs.length) : ∃ d, xs[a.toNat]? = some d ∧ atI xs a = some d := by
  have hl : a.toNat < xs.length := by omega
  refine ⟨_, List.getElem?_eq_getElem hl, ?_⟩
  unfold atI ixN
  rw [if_pos h0, if_pos h1, Option.bind_some, List.getElem?_eq_getElem hl]
theorem ix_ints {ns : List Int} {a : Int} (h0 : 0 ≤ a) (h1 : a < ns.length) : ∃ k : Int, ixA (.lst (ns.map D.int)) (.int a) = some (.int k) := by
  obtain ⟨d, e1, e2⟩ := at_get (xs := ns.map D.int) h0 (by rw [List.length_map]; exact h1)
  rw [List.getElem?_map, Option.map_eq_some_iff] at e1
  obtain ⟨k, _, rfl⟩ := e1
  exact ⟨k, e2⟩
/-! ### what can be shown -/
structure Shw (m : Nat) (v : D) (p : PyData) : Prop where
  py : v.py = some p
  sh : p.showable = true
  nd : p.hasDict = false
  dp : p.depth ≤ 40
  ln : p.shown.length ≤ m
theorem pys_shw {m : Nat} : ∀ {L : List D}, (∀ v ∈ L, ∃ p, Shw m v p) → ∃ ps, pys L = some ps ∧ PyData.showableAll ps = true ∧ PyData.hasDictAll ps = false ∧ PyData.depthAll ps ≤ 40 ∧ ((PyData.shownAll ps).map (·.length)).sum ≤ m * L.length ∧ (PyData.shownAll ps).length = L.length
  | [], _ => ⟨[], rfl, by simp [PyData.showableAll], by simp [PyData.hasDictAll], by simp [PyData.depthAll], by simp [PyData.shownAll], by simp [PyData.shownAll]⟩
  | v :: L, h => by
    obtain ⟨p, hp⟩ := h v List.mem_cons_self
    obtain ⟨ps, h1, h2, h3, h4, h5, h6⟩ := pys_shw (L := L) fun w hw => h w (List.mem_cons_of_mem _ hw)
    refine ⟨p :: ps, ?_, ?_, ?_, ?_, ?_, ?_⟩
    · simp only [pys, hp.py, h1]
    · simp only [PyData.showableAll, hp.sh, h2, Bool.and_self]
    · simp only [PyData.hasDictAll, hp.nd, h3, Bool.or_self]
    · simp only [PyData.depthAll]
      exact Nat.max_le.mpr ⟨hp.dp, h4⟩
    · simp only [PyData.shownAll, List.map_cons, List.sum_cons, List.length_cons, Nat.mul_add, Nat.mul_one]
      have := hp.ln
      omega
    · simp only [PyData.shownAll, List.length_cons, h6]
theorem repr_lst {m : Nat} {L : List D} (h : ∀ v ∈ L, ∃ p, Shw m v p) (hz : m * L.length + 2 * L.length + 3 ≤ sizeLine) : ∃ s, reprD [.lst L] = some (.str s) := by
  obtain ⟨ps, h1, h2, h3, h4, h5, h6⟩ := pys_shw h
  have hp : (D.lst L).py = some (.list ps) := by simp only [D.py, h1]
  have hl := listText_len_le (PyData.shownAll ps)
  refine ⟨(PyData.list ps).shown, ?_⟩
  show (match (D.lst L).py with
    | some d => if d.showable = true ∧ d.hasDict = false ∧ d.depth ≤ 50 ∧ d.shown.length ≤ sizeLine then some (D.str d.shown) else none
    | none => none) = _
  rw [hp]
  dsimp only
  rw [if_pos]
  refine ⟨by simp only [PyData.showable, h2], by simp only [PyData.hasDict, h3], by simp only [PyData.depth]; omega, ?_⟩
  simp only [PyData.shown]
  rw [h6] at hl
  omega
theorem eq_str (neg : Bool) (s : Str) : eqA neg (.str s) (.str s) = some (.bl (!neg)) := by
  cases neg <;> simp [eqA]
end DL

namespace DL
open PySem L2 PyProof.Rows
/-! ### the head: one Bool of the written part, and the defs -/
abbrev AlM : Type := Bool × List He.FnV
def fnS (at_ : Str × Option Str) (name qual : Str) (st : Stmt) : He.FnD := ⟨at_, name, qual, defArgs st, defBody st, defScope st⟩
def obsM (fb : PySem.W.Frag → Bool) (fn : List He.FnD) (K : PySem.W.Frag) : AlM := (fb K && fn.all fun d => (He.Fa.code d.at_ d.qual).ok K && PySem.W.keepIn K (.ref (He.fAd K d.at_)), fn.map fun d => He.fnObs K d.at_)
def valM (fn : List He.FnD) : AlM := (true, fn.map He.FnD.val)
def SaysM (fb : PySem.W.Frag → Bool) (fn : List He.FnD) (K : PySem.W.Frag) : Prop := obsM fb fn K = valM fn
def obsMG (n : Nat) (fb : PySem.W.Frag → Bool) (fn : List He.FnD) (look : Addr → Option Obj) : AlM := obsM fb fn (He.frG look (He.asG look n))
def hookM (n : Nat) (fb : PySem.W.Frag → Bool) (fn : List He.FnD) : PySem.W.Hook where
  α := AlM
  obs := fun st => obsMG n fb fn st.heap.get?
  val := fun _ => valM fn
  says := fun _ hp => ∃ K : PySem.W.Frag, K.In hp ∧ SaysM fb fn K
  of := fun _ _ q => ⟨_, He.frG_in, q⟩
  keeps := fun _ _ _ ⟨K, inK, c⟩ up => ⟨K, PySem.W.Frag.In.keeps inK up, c⟩
theorem obsMG_eq {n : Nat} {fb : PySem.W.Frag → Bool} {fn : List He.FnD} (s : PySem.W.SharedT) : obsMG n fb fn (HandSHeadRun.getT s) = (hookM n fb fn).obs s.abs := by
  have q : HandSHeadRun.getT s = s.abs.heap.get? := funext (HandSHeadRun.getT_eq s)
  rw [q]
  rfl
section
variable {fb : PySem.W.Frag → Bool} {fn : List He.FnD} {K : PySem.W.Frag}
theorem SaysM.all (c : SaysM fb fn K) : fb K = true := (Bool.and_eq_true_iff.mp (show (fb K && fn.all fun d => (He.Fa.code d.at_ d.qual).ok K && PySem.W.keepIn K (.ref (He.fAd K d.at_))) = true from congrArg Prod.fst c)).1
theorem SaysM.fun_ (c : SaysM fb fn K) (i : Nat) {a : Str × Option Str} {x q : Str} {st : Stmt} (h : fn[i]? = some (fnS a x q st)) : ∃ fd, Fun K x q st (He.fAd K a) fd := by
  have c2 := (Bool.and_eq_true_iff.mp (show (fb K && fn.all fun d => (He.Fa.code d.at_ d.qual).ok K && PySem.W.keepIn K (.ref (He.fAd K d.at_))) = true from congrArg Prod.fst c)).2
  have all := List.all_eq_true.mp c2 _ (List.mem_of_getElem? h)
  obtain ⟨k1, k2⟩ := Bool.and_eq_true_iff.mp all
  have e : fn.map (fun d => He.fnObs K d.at_) = fn.map He.FnD.val := congrArg Prod.snd c
  have e2 : (fn.map fun d => He.fnObs K d.at_)[i]? = (fn.map He.FnD.val)[i]? := by rw [e]
  rw [List.getElem?_map, List.getElem?_map, h] at e2
  obtain ⟨oc, od, osl, kV, doc, pm, an, cdv, ct, l, cd⟩ := He.fn_ok (Option.some.inj e2) k1
  exact ⟨_, fun_mk (st := st) l cd k2⟩
end
/-- the end of a law's proof by such a head -/
theorem law_walkE {l : PySem.W.OpenLaw} {L : Nat} {q : Program} {loose : List Str} {XP : (Str → Option Value) → Heap → Prop} {YP : World → Heap → Prop} {d : DefRec} {x : Str} (hn : l.most = some 63) (hdf : d.params.defaults = []) (hr : Room L callerA)
    (F : ∀ (w : World) (mg : Str → Option Value) (fa : Addr) (h : Heap), YP w h → h.Ns mainGlobals mg → mg d.name = some (.ref fa) →
      ∃ (K : PySem.W.Frag) (B : Tb) (fd : FuncData), K.In h ∧ (∀ (s : Shared) (u : Value), BindsTo s fd ⟨[u], []⟩ [(x, u)]) ∧ ∀ base : Heap, FnG l.prog w K mg base L fa fd [x] (spOf B K 1 S_law)) :
    PySem.W.WalkO q loose XP YP l.row.toRowW d [] (fun f vs => PySem.call f vs) := by
  refine Att.attach_call hn hdf fun w s₀ s₁ mg mb fa o pm cd doc a vs ns G Y ho hd hcd hmg hobj hints hlen hg => ?_
  obtain ⟨K, B, fd, inK, hb, hF⟩ := F w mg fa _ Y G.T.g hmg
  exact law_go inK G.T.g G.T.b G.T.builtins G.T.nolimit hg hobj hints (Nat.le_trans hlen (by decide)) hr hF hb fun H hS => law_start hlen hS
end DL

namespace K97
open PySem L2 DL PyProof.Rows
def top (i : Nat) : Stmt := PySem.Challenge.pw_risingread_k97_errors.main.body.getD i (.Pass ⟨0, 0, 0, 0⟩)
def fn_BadRun : List Str := ["part", "at"]
def fn_BadStep : List Str := ["at"]
def fn_BadText : List Str := ["line", "word"]
def fn_Fallen : List Str := ["name", "place"]
def fn_NoBases : List Str := ["name"]
def fn_NoMark : List Str := ["name"]
def fn_NoName : List Str := ["name"]
def fn_NoNumeral : List Str := ["at"]
def fn_NoPlace : List Str := ["place"]
def fn_NoPlan : List Str := ["part", "at"]
def fn_NoPromise : List Str := ["promise"]
def fn_NoReading : List Str := ["reading"]
def fn_NoRight : List Str := ["at"]
def fn_NoScheme : List Str := ["part", "at"]
def fn_NoText : List Str := ["at"]
def fn_NoVersion : List Str := ["name"]
def fn_NotEvents : List Str := ["at"]
def fn_NotForced : List Str := ["place", "x", "y"]
def fn_NotMoments : List Str := ["at"]
def fn_NotSeen : List Str := ["one", "other"]
def fn_Overflow : List Str := ["value"]
def fn_TooMany : List Str := ["most"]
def fn_Unheard : List Str := ["missing"]
def tb_BadRun : KT := [(.non, false), (.bl, false), (.int, false), (.str, false), (.lst, false), (.tup, false), (.dct, false), (.exc 0, false), (.exc 1, false), (.exc 2, false), (.exc 3, false), (.exc 4, false), (.exc 5, false), (.exc 6, false), (.exc 7, false), (.exc 8, false), (.exc 9, false), (.exc 10, false), (.exc 11, false), (.exc 12, false), (.exc 13, false), (.exc 14, false), (.exc 15, false), (.exc 16, false), (.exc 17, false), (.exc 18, false), (.exc 19, false), (.exc 20, false), (.exc 21, false), (.exc 22, true), (.exc 23, false), (.exc 24, false), (.exc 25, false), (.exc 26, false), (.exc 27, false), (.exc 28, false), (.exc 29, false), (.exc 30, false), (.exc 31, false), (.exc 32, false), (.exc 33, false), (.exc 34, false), (.exc 35, false)]
def tb_BadStep : KT := [(.non, false), (.bl, false), (.int, false), (.str, false), (.lst, false), (.tup, false), (.dct, false), (.exc 0, false), (.exc 1, false), (.exc 2, false), (.exc 3, false), (.exc 4, false), (.exc 5, false), (.exc 6, false), (.exc 7, false), (.exc 8, false), (.exc 9, false), (.exc 10, false), (.exc 11, false), (.exc 12, false), (.exc 13, false), (.exc 14, false), (.exc 15, false), (.exc 16, false), (.exc 17, false), (.exc 18, false), (.exc 19, false), (.exc 20, false), (.exc 21, false), (.exc 22, false), (.exc 23, false), (.exc 24, false), (.exc 25, false), (.exc 26, false), (.exc 27, false), (.exc 28, false), (.exc 29, false), (.exc 30, false), (.exc 31, false), (.exc 32, true), (.exc 33, false), (.exc 34, false), (.exc 35, false)]
def tb_BadText : KT := [(.non, false), (.bl, false), (.int, false), (.str, false), (.lst, false), (.tup, false), (.dct, false), (.exc 0, false), (.exc 1, false), (.exc 2, false), (.exc 3, false), (.exc 4, false), (.exc 5, false), (.exc 6, false), (.exc 7, false), (.exc 8, false), (.exc 9, false), (.exc 10, false), (.exc 11, false), (.exc 12, false), (.exc 13, false), (.exc 14, false), (.exc 15, false), (.exc 16, false), (.exc 17, false), (.exc 18, false), (.exc 19, false), (.exc 20, false), (.exc 21, false), (.exc 22, false), (.exc 23, false), (.exc 24, false), (.exc 25, false), (.exc 26, false), (.exc 27, false), (.exc 28, false), (.exc 29, false), (.exc 30, false), (.exc 31, false), (.exc 32, false), (.exc 33, false), (.exc 34, true), (.exc 35, false)]
def tb_Busy : KT := [(.non, false), (.bl, false), (.int, false), (.str, false), (.lst, false), (.tup, false), (.dct, false), (.exc 0, false), (.exc 1, false), (.exc 2, false), (.exc 3, false), (.exc 4, false), (.exc 5, false), (.exc 6, false), (.exc 7, false), (.exc 8, false), (.exc 9, false), (.exc 10, false), (.exc 11, false), (.exc 12, false), (.exc 13, false), (.exc 14, false), (.exc 15, false), (.exc 16, false), (.exc 17, true), (.exc 18, false), (.exc 19, false), (.exc 20, false), (.exc 21, false), (.exc 22, false), (.exc 23, false), (.exc 24, false), (.exc 25, false), (.exc 26, false), (.exc 27, false), (.exc 28, false), (.exc 29, false), (.exc 30, false), (.exc 31, false), (.exc 32, false), (.exc 33, false), (.exc 34, false), (.exc 35, false)]
def tb_Fallen : KT := [(.non, false), (.bl, false), (.int, false), (.str, false), (.lst, false), (.tup, false), (.dct, false), (.exc 0, false), (.exc 1, false), (.exc 2, false), (.exc 3, false), (.exc 4, false), (.exc 5, false), (.exc 6, false), (.exc 7, false), (.exc 8, false), (.exc 9, false), (.exc 10, false), (.exc 11, false), (.exc 12, false), (.exc 13, false), (.exc 14, false), (.exc 15, false), (.exc 16, true), (.exc 17, false), (.exc 18, false), (.exc 19, false), (.exc 20, false), (.exc 21, false), (.exc 22, false), (.exc 23, false), (.exc 24, false), (.exc 25, false), (.exc 26, false), (.exc 27, false), (.exc 28, false), (.exc 29, false), (.exc 30, false), (.exc 31, false), (.exc 32, false), (.exc 33, false), (.exc 34, false), (.exc 35, false)]
def tb_Held : KT := [(.non, false), (.bl, false), (.int, false), (.str, false), (.lst, false), (.tup, false), (.dct, false), (.exc 0, false), (.exc 1, false), (.exc 2, false), (.exc 3, false), (.exc 4, false), (.exc 5, false), (.exc 6, false), (.exc 7, false), (.exc 8, false), (.exc 9, false), (.exc 10, false), (.exc 11, false), (.exc 12, false), (.exc 13, false), (.exc 14, false), (.exc 15, false), (.exc 16, false), (.exc 17, false), (.exc 18, false), (.exc 19, true), (.exc 20, false), (.exc 21, false), (.exc 22, false), (.exc 23, false), (.exc 24, false), (.exc 25, false), (.exc 26, false), (.exc 27, false), (.exc 28, false), (.exc 29, false), (.exc 30, false), (.exc 31, false), (.exc 32, false), (.exc 33, false), (.exc 34, false), (.exc 35, false)]
def tb_Idle : KT := [(.non, false), (.bl, false), (.int, false), (.str, false), (.lst, false), (.tup, false), (.dct, false), (.exc 0, false), (.exc 1, false), (.exc 2, false), (.exc 3, false), (.exc 4, false), (.exc 5, false), (.exc 6, false), (.exc 7, false), (.exc 8, false), (.exc 9, false), (.exc 10, false), (.exc 11, false), (.exc 12, false), (.exc 13, false), (.exc 14, false), (.exc 15, false), (.exc 16, false), (.exc 17, false), (.exc 18, true), (.exc 19, false), (.exc 20, false), (.exc 21, false), (.exc 22, false), (.exc 23, false), (.exc 24, false), (.exc 25, false), (.exc 26, false), (.exc 27, false), (.exc 28, false), (.exc 29, false), (.exc 30, false), (.exc 31, false), (.exc 32, false), (.exc 33, false), (.exc 34, false), (.exc 35, false)]
def tb_NoBases : KT := [(.non, false), (.bl, false), (.int, false), (.str, false), (.lst, false), (.tup, false), (.dct, false), (.exc 0, false), (.exc 1, false), (.exc 2, false), (.exc 3, false), (.exc 4, false), (.exc 5, false), (.exc 6, false), (.exc 7, false), (.exc 8, false), (.exc 9, false), (.exc 10, false), (.exc 11, false), (.exc 12, false), (.exc 13, false), (.exc 14, true), (.exc 15, false), (.exc 16, false), (.exc 17, false), (.exc 18, false), (.exc 19, false), (.exc 20, false), (.exc 21, false), (.exc 22, false), (.exc 23, false), (.exc 24, false), (.exc 25, false), (.exc 26, false), (.exc 27, false), (.exc 28, false), (.exc 29, false), (.exc 30, false), (.exc 31, false), (.exc 32, false), (.exc 33, false), (.exc 34, false), (.exc 35, false)]
def tb_NoCell : KT := [(.non, false), (.bl, false), (.int, false), (.str, false), (.lst, false), (.tup, false), (.dct, false), (.exc 0, false), (.exc 1, false), (.exc 2, false), (.exc 3, false), (.exc 4, false), (.exc 5, false), (.exc 6, false), (.exc 7, false), (.exc 8, false), (.exc 9, false), (.exc 10, false), (.exc 11, false), (.exc 12, false), (.exc 13, false), (.exc 14, false), (.exc 15, false), (.exc 16, false), (.exc 17, false), (.exc 18, false), (.exc 19, false), (.exc 20, false), (.exc 21, true), (.exc 22, false), (.exc 23, false), (.exc 24, false), (.exc 25, false), (.exc 26, false), (.exc 27, false), (.exc 28, false), (.exc 29, false), (.exc 30, false), (.exc 31, false), (.exc 32, false), (.exc 33, false), (.exc 34, false), (.exc 35, false)]
def tb_NoCells : KT := [(.non, false), (.bl, false), (.int, false), (.str, false), (.lst, false), (.tup, false), (.dct, false), (.exc 0, false), (.exc 1, false), (.exc 2, false), (.exc 3, false), (.exc 4, false), (.exc 5, false), (.exc 6, false), (.exc 7, false), (.exc 8, false), (.exc 9, false), (.exc 10, false), (.exc 11, false), (.exc 12, false), (.exc 13, false), (.exc 14, false), (.exc 15, false), (.exc 16, false), (.exc 17, false), (.exc 18, false), (.exc 19, false), (.exc 20, true), (.exc 21, false), (.exc 22, false), (.exc 23, false), (.exc 24, false), (.exc 25, false), (.exc 26, false), (.exc 27, false), (.exc 28, false), (.exc 29, false), (.exc 30, false), (.exc 31, false), (.exc 32, false), (.exc 33, false), (.exc 34, false), (.exc 35, false)]
def tb_NoDivisor : KT := [(.non, false), (.bl, false), (.int, false), (.str, false), (.lst, false), (.tup, false), (.dct, false), (.exc 0, false), (.exc 1, false), (.exc 2, false), (.exc 3, false), (.exc 4, false), (.exc 5, true), (.exc 6, false), (.exc 7, false), (.exc 8, false), (.exc 9, false), (.exc 10, false), (.exc 11, false), (.exc 12, false), (.exc 13, false), (.exc 14, false), (.exc 15, false), (.exc 16, false), (.exc 17, false), (.exc 18, false), (.exc 19, false), (.exc 20, false), (.exc 21, false), (.exc 22, false), (.exc 23, false), (.exc 24, false), (.exc 25, false), (.exc 26, false), (.exc 27, false), (.exc 28, false), (.exc 29, false), (.exc 30, false), (.exc 31, false), (.exc 32, false), (.exc 33, false), (.exc 34, false), (.exc 35, false)]
def tb_NoLine : KT := [(.non, false), (.bl, false), (.int, false), (.str, false), (.lst, false), (.tup, false), (.dct, false), (.exc 0, false), (.exc 1, false), (.exc 2, false), (.exc 3, false), (.exc 4, false), (.exc 5, false), (.exc 6, false), (.exc 7, false), (.exc 8, false), (.exc 9, false), (.exc 10, false), (.exc 11, false), (.exc 12, false), (.exc 13, false), (.exc 14, false), (.exc 15, false), (.exc 16, false), (.exc 17, false), (.exc 18, false), (.exc 19, false), (.exc 20, false), (.exc 21, false), (.exc 22, false), (.exc 23, false), (.exc 24, false), (.exc 25, false), (.exc 26, false), (.exc 27, false), (.exc 28, false), (.exc 29, false), (.exc 30, false), (.exc 31, false), (.exc 32, false), (.exc 33, false), (.exc 34, false), (.exc 35, true)]
def tb_NoLook : KT := [(.non, false), (.bl, false), (.int, false), (.str, false), (.lst, false), (.tup, false), (.dct, false), (.exc 0, false), (.exc 1, false), (.exc 2, false), (.exc 3, false), (.exc 4, false), (.exc 5, false), (.exc 6, false), (.exc 7, false), (.exc 8, false), (.exc 9, false), (.exc 10, false), (.exc 11, false), (.exc 12, false), (.exc 13, true), (.exc 14, false), (.exc 15, false), (.exc 16, false), (.exc 17, false), (.exc 18, false), (.exc 19, false), (.exc 20, false), (.exc 21, false), (.exc 22, false), (.exc 23, false), (.exc 24, false), (.exc 25, false), (.exc 26, false), (.exc 27, false), (.exc 28, false), (.exc 29, false), (.exc 30, false), (.exc 31, false), (.exc 32, false), (.exc 33, false), (.exc 34, false), (.exc 35, false)]
def tb_NoMark : KT := [(.non, false), (.bl, false), (.int, false), (.str, false), (.lst, false), (.tup, false), (.dct, false), (.exc 0, false), (.exc 1, false), (.exc 2, false), (.exc 3, false), (.exc 4, false), (.exc 5, false), (.exc 6, false), (.exc 7, false), (.exc 8, false), (.exc 9, false), (.exc 10, false), (.exc 11, false), (.exc 12, false), (.exc 13, false), (.exc 14, false), (.exc 15, false), (.exc 16, false), (.exc 17, false), (.exc 18, false), (.exc 19, false), (.exc 20, false), (.exc 21, false), (.exc 22, false), (.exc 23, false), (.exc 24, false), (.exc 25, false), (.exc 26, false), (.exc 27, false), (.exc 28, false), (.exc 29, false), (.exc 30, false), (.exc 31, false), (.exc 32, false), (.exc 33, true), (.exc 34, false), (.exc 35, false)]
def tb_NoName : KT := [(.non, false), (.bl, false), (.int, false), (.str, false), (.lst, false), (.tup, false), (.dct, false), (.exc 0, false), (.exc 1, false), (.exc 2, false), (.exc 3, false), (.exc 4, false), (.exc 5, false), (.exc 6, false), (.exc 7, false), (.exc 8, false), (.exc 9, false), (.exc 10, false), (.exc 11, false), (.exc 12, true), (.exc 13, false), (.exc 14, false), (.exc 15, false), (.exc 16, false), (.exc 17, false), (.exc 18, false), (.exc 19, false), (.exc 20, false), (.exc 21, false), (.exc 22, false), (.exc 23, false), (.exc 24, false), (.exc 25, false), (.exc 26, false), (.exc 27, false), (.exc 28, false), (.exc 29, false), (.exc 30, false), (.exc 31, false), (.exc 32, false), (.exc 33, false), (.exc 34, false), (.exc 35, false)]
def tb_NoNumeral : KT := [(.non, false), (.bl, false), (.int, false), (.str, false), (.lst, false), (.tup, false), (.dct, false), (.exc 0, false), (.exc 1, true), (.exc 2, false), (.exc 3, false), (.exc 4, false), (.exc 5, false), (.exc 6, false), (.exc 7, false), (.exc 8, false), (.exc 9, false), (.exc 10, false), (.exc 11, false), (.exc 12, false), (.exc 13, false), (.exc 14, false), (.exc 15, false), (.exc 16, false), (.exc 17, false), (.exc 18, false), (.exc 19, false), (.exc 20, false), (.exc 21, false), (.exc 22, false), (.exc 23, false), (.exc 24, false), (.exc 25, false), (.exc 26, false), (.exc 27, false), (.exc 28, false), (.exc 29, false), (.exc 30, false), (.exc 31, false), (.exc 32, false), (.exc 33, false), (.exc 34, false), (.exc 35, false)]
def tb_NoOrder : KT := [(.non, false), (.bl, false), (.int, false), (.str, false), (.lst, false), (.tup, false), (.dct, false), (.exc 0, false), (.exc 1, false), (.exc 2, false), (.exc 3, false), (.exc 4, false), (.exc 5, false), (.exc 6, false), (.exc 7, true), (.exc 8, false), (.exc 9, false), (.exc 10, false), (.exc 11, false), (.exc 12, false), (.exc 13, false), (.exc 14, false), (.exc 15, false), (.exc 16, false), (.exc 17, false), (.exc 18, false), (.exc 19, false), (.exc 20, false), (.exc 21, false), (.exc 22, false), (.exc 23, false), (.exc 24, false), (.exc 25, false), (.exc 26, false), (.exc 27, false), (.exc 28, false), (.exc 29, false), (.exc 30, false), (.exc 31, false), (.exc 32, false), (.exc 33, false), (.exc 34, false), (.exc 35, false)]
def tb_NoPlace : KT := [(.non, false), (.bl, false), (.int, false), (.str, false), (.lst, false), (.tup, false), (.dct, false), (.exc 0, false), (.exc 1, false), (.exc 2, true), (.exc 3, false), (.exc 4, false), (.exc 5, false), (.exc 6, false), (.exc 7, false), (.exc 8, false), (.exc 9, false), (.exc 10, false), (.exc 11, false), (.exc 12, false), (.exc 13, false), (.exc 14, false), (.exc 15, false), (.exc 16, false), (.exc 17, false), (.exc 18, false), (.exc 19, false), (.exc 20, false), (.exc 21, false), (.exc 22, false), (.exc 23, false), (.exc 24, false), (.exc 25, false), (.exc 26, false), (.exc 27, false), (.exc 28, false), (.exc 29, false), (.exc 30, false), (.exc 31, false), (.exc 32, false), (.exc 33, false), (.exc 34, false), (.exc 35, false)]
def tb_NoPlan : KT := [(.non, false), (.bl, false), (.int, false), (.str, false), (.lst, false), (.tup, false), (.dct, false), (.exc 0, false), (.exc 1, false), (.exc 2, false), (.exc 3, false), (.exc 4, false), (.exc 5, false), (.exc 6, false), (.exc 7, false), (.exc 8, false), (.exc 9, false), (.exc 10, true), (.exc 11, false), (.exc 12, false), (.exc 13, false), (.exc 14, false), (.exc 15, false), (.exc 16, false), (.exc 17, false), (.exc 18, false), (.exc 19, false), (.exc 20, false), (.exc 21, false), (.exc 22, false), (.exc 23, false), (.exc 24, false), (.exc 25, false), (.exc 26, false), (.exc 27, false), (.exc 28, false), (.exc 29, false), (.exc 30, false), (.exc 31, false), (.exc 32, false), (.exc 33, false), (.exc 34, false), (.exc 35, false)]
def tb_NoPromise : KT := [(.non, false), (.bl, false), (.int, false), (.str, false), (.lst, false), (.tup, false), (.dct, false), (.exc 0, false), (.exc 1, false), (.exc 2, false), (.exc 3, false), (.exc 4, false), (.exc 5, false), (.exc 6, false), (.exc 7, false), (.exc 8, false), (.exc 9, false), (.exc 10, false), (.exc 11, true), (.exc 12, false), (.exc 13, false), (.exc 14, false), (.exc 15, false), (.exc 16, false), (.exc 17, false), (.exc 18, false), (.exc 19, false), (.exc 20, false), (.exc 21, false), (.exc 22, false), (.exc 23, false), (.exc 24, false), (.exc 25, false), (.exc 26, false), (.exc 27, false), (.exc 28, false), (.exc 29, false), (.exc 30, false), (.exc 31, false), (.exc 32, false), (.exc 33, false), (.exc 34, false), (.exc 35, false)]
def tb_NoReading : KT := [(.non, false), (.bl, false), (.int, false), (.str, false), (.lst, false), (.tup, false), (.dct, false), (.exc 0, false), (.exc 1, false), (.exc 2, false), (.exc 3, false), (.exc 4, false), (.exc 5, false), (.exc 6, false), (.exc 7, false), (.exc 8, false), (.exc 9, false), (.exc 10, false), (.exc 11, false), (.exc 12, false), (.exc 13, false), (.exc 14, false), (.exc 15, false), (.exc 16, false), (.exc 17, false), (.exc 18, false), (.exc 19, false), (.exc 20, false), (.exc 21, false), (.exc 22, false), (.exc 23, false), (.exc 24, false), (.exc 25, true), (.exc 26, false), (.exc 27, false), (.exc 28, false), (.exc 29, false), (.exc 30, false), (.exc 31, false), (.exc 32, false), (.exc 33, false), (.exc 34, false), (.exc 35, false)]
def tb_NoRight : KT := [(.non, false), (.bl, false), (.int, false), (.str, false), (.lst, false), (.tup, false), (.dct, false), (.exc 0, false), (.exc 1, false), (.exc 2, false), (.exc 3, false), (.exc 4, false), (.exc 5, false), (.exc 6, false), (.exc 7, false), (.exc 8, false), (.exc 9, false), (.exc 10, false), (.exc 11, false), (.exc 12, false), (.exc 13, false), (.exc 14, false), (.exc 15, false), (.exc 16, false), (.exc 17, false), (.exc 18, false), (.exc 19, false), (.exc 20, false), (.exc 21, false), (.exc 22, false), (.exc 23, false), (.exc 24, false), (.exc 25, false), (.exc 26, false), (.exc 27, false), (.exc 28, false), (.exc 29, false), (.exc 30, true), (.exc 31, false), (.exc 32, false), (.exc 33, false), (.exc 34, false), (.exc 35, false)]
def tb_NoScheme : KT := [(.non, false), (.bl, false), (.int, false), (.str, false), (.lst, false), (.tup, false), (.dct, false), (.exc 0, false), (.exc 1, false), (.exc 2, false), (.exc 3, false), (.exc 4, false), (.exc 5, false), (.exc 6, false), (.exc 7, false), (.exc 8, false), (.exc 9, true), (.exc 10, false), (.exc 11, false), (.exc 12, false), (.exc 13, false), (.exc 14, false), (.exc 15, false), (.exc 16, false), (.exc 17, false), (.exc 18, false), (.exc 19, false), (.exc 20, false), (.exc 21, false), (.exc 22, false), (.exc 23, false), (.exc 24, false), (.exc 25, false), (.exc 26, false), (.exc 27, false), (.exc 28, false), (.exc 29, false), (.exc 30, false), (.exc 31, false), (.exc 32, false), (.exc 33, false), (.exc 34, false), (.exc 35, false)]
def tb_NoText : KT := [(.non, false), (.bl, false), (.int, false), (.str, false), (.lst, false), (.tup, false), (.dct, false), (.exc 0, false), (.exc 1, false), (.exc 2, false), (.exc 3, false), (.exc 4, false), (.exc 5, false), (.exc 6, true), (.exc 7, false), (.exc 8, false), (.exc 9, false), (.exc 10, false), (.exc 11, false), (.exc 12, false), (.exc 13, false), (.exc 14, false), (.exc 15, false), (.exc 16, false), (.exc 17, false), (.exc 18, false), (.exc 19, false), (.exc 20, false), (.exc 21, false), (.exc 22, false), (.exc 23, false), (.exc 24, false), (.exc 25, false), (.exc 26, false), (.exc 27, false), (.exc 28, false), (.exc 29, false), (.exc 30, false), (.exc 31, false), (.exc 32, false), (.exc 33, false), (.exc 34, false), (.exc 35, false)]
def tb_NoVersion : KT := [(.non, false), (.bl, false), (.int, false), (.str, false), (.lst, false), (.tup, false), (.dct, false), (.exc 0, false), (.exc 1, false), (.exc 2, false), (.exc 3, false), (.exc 4, false), (.exc 5, false), (.exc 6, false), (.exc 7, false), (.exc 8, false), (.exc 9, false), (.exc 10, false), (.exc 11, false), (.exc 12, false), (.exc 13, false), (.exc 14, false), (.exc 15, true), (.exc 16, false), (.exc 17, false), (.exc 18, false), (.exc 19, false), (.exc 20, false), (.exc 21, false), (.exc 22, false), (.exc 23, false), (.exc 24, false), (.exc 25, false), (.exc 26, false), (.exc 27, false), (.exc 28, false), (.exc 29, false), (.exc 30, false), (.exc 31, false), (.exc 32, false), (.exc 33, false), (.exc 34, false), (.exc 35, false)]
def tb_NotEvents : KT := [(.non, false), (.bl, false), (.int, false), (.str, false), (.lst, false), (.tup, false), (.dct, false), (.exc 0, false), (.exc 1, false), (.exc 2, false), (.exc 3, false), (.exc 4, false), (.exc 5, false), (.exc 6, false), (.exc 7, false), (.exc 8, false), (.exc 9, false), (.exc 10, false), (.exc 11, false), (.exc 12, false), (.exc 13, false), (.exc 14, false), (.exc 15, false), (.exc 16, false), (.exc 17, false), (.exc 18, false), (.exc 19, false), (.exc 20, false), (.exc 21, false), (.exc 22, false), (.exc 23, false), (.exc 24, false), (.exc 25, false), (.exc 26, false), (.exc 27, false), (.exc 28, false), (.exc 29, true), (.exc 30, false), (.exc 31, false), (.exc 32, false), (.exc 33, false), (.exc 34, false), (.exc 35, false)]
def tb_NotForced : KT := [(.non, false), (.bl, false), (.int, false), (.str, false), (.lst, false), (.tup, false), (.dct, false), (.exc 0, false), (.exc 1, false), (.exc 2, false), (.exc 3, false), (.exc 4, false), (.exc 5, false), (.exc 6, false), (.exc 7, false), (.exc 8, false), (.exc 9, false), (.exc 10, false), (.exc 11, false), (.exc 12, false), (.exc 13, false), (.exc 14, false), (.exc 15, false), (.exc 16, false), (.exc 17, false), (.exc 18, false), (.exc 19, false), (.exc 20, false), (.exc 21, false), (.exc 22, false), (.exc 23, false), (.exc 24, false), (.exc 25, false), (.exc 26, false), (.exc 27, false), (.exc 28, false), (.exc 29, false), (.exc 30, false), (.exc 31, true), (.exc 32, false), (.exc 33, false), (.exc 34, false), (.exc 35, false)]
def tb_NotMoments : KT := [(.non, false), (.bl, false), (.int, false), (.str, false), (.lst, false), (.tup, false), (.dct, false), (.exc 0, false), (.exc 1, false), (.exc 2, false), (.exc 3, false), (.exc 4, false), (.exc 5, false), (.exc 6, false), (.exc 7, false), (.exc 8, false), (.exc 9, false), (.exc 10, false), (.exc 11, false), (.exc 12, false), (.exc 13, false), (.exc 14, false), (.exc 15, false), (.exc 16, false), (.exc 17, false), (.exc 18, false), (.exc 19, false), (.exc 20, false), (.exc 21, false), (.exc 22, false), (.exc 23, false), (.exc 24, false), (.exc 25, false), (.exc 26, false), (.exc 27, false), (.exc 28, true), (.exc 29, false), (.exc 30, false), (.exc 31, false), (.exc 32, false), (.exc 33, false), (.exc 34, false), (.exc 35, false)]
def tb_NotPattern : KT := [(.non, false), (.bl, false), (.int, false), (.str, false), (.lst, false), (.tup, false), (.dct, false), (.exc 0, false), (.exc 1, false), (.exc 2, false), (.exc 3, false), (.exc 4, false), (.exc 5, false), (.exc 6, false), (.exc 7, false), (.exc 8, false), (.exc 9, false), (.exc 10, false), (.exc 11, false), (.exc 12, false), (.exc 13, false), (.exc 14, false), (.exc 15, false), (.exc 16, false), (.exc 17, false), (.exc 18, false), (.exc 19, false), (.exc 20, false), (.exc 21, false), (.exc 22, false), (.exc 23, false), (.exc 24, false), (.exc 25, false), (.exc 26, true), (.exc 27, false), (.exc 28, false), (.exc 29, false), (.exc 30, false), (.exc 31, false), (.exc 32, false), (.exc 33, false), (.exc 34, false), (.exc 35, false)]
def tb_NotSeen : KT := [(.non, false), (.bl, false), (.int, false), (.str, false), (.lst, false), (.tup, false), (.dct, false), (.exc 0, false), (.exc 1, false), (.exc 2, false), (.exc 3, false), (.exc 4, false), (.exc 5, false), (.exc 6, false), (.exc 7, false), (.exc 8, false), (.exc 9, false), (.exc 10, false), (.exc 11, false), (.exc 12, false), (.exc 13, false), (.exc 14, false), (.exc 15, false), (.exc 16, false), (.exc 17, false), (.exc 18, false), (.exc 19, false), (.exc 20, false), (.exc 21, false), (.exc 22, false), (.exc 23, false), (.exc 24, false), (.exc 25, false), (.exc 26, false), (.exc 27, true), (.exc 28, false), (.exc 29, false), (.exc 30, false), (.exc 31, false), (.exc 32, false), (.exc 33, false), (.exc 34, false), (.exc 35, false)]
def tb_Overflow : KT := [(.non, false), (.bl, false), (.int, false), (.str, false), (.lst, false), (.tup, false), (.dct, false), (.exc 0, false), (.exc 1, false), (.exc 2, false), (.exc 3, true), (.exc 4, false), (.exc 5, false), (.exc 6, false), (.exc 7, false), (.exc 8, false), (.exc 9, false), (.exc 10, false), (.exc 11, false), (.exc 12, false), (.exc 13, false), (.exc 14, false), (.exc 15, false), (.exc 16, false), (.exc 17, false), (.exc 18, false), (.exc 19, false), (.exc 20, false), (.exc 21, false), (.exc 22, false), (.exc 23, false), (.exc 24, false), (.exc 25, false), (.exc 26, false), (.exc 27, false), (.exc 28, false), (.exc 29, false), (.exc 30, false), (.exc 31, false), (.exc 32, false), (.exc 33, false), (.exc 34, false), (.exc 35, false)]
def tb_RisingError : KT := [(.non, false), (.bl, false), (.int, false), (.str, false), (.lst, false), (.tup, false), (.dct, false), (.exc 0, true), (.exc 1, true), (.exc 2, true), (.exc 3, true), (.exc 4, true), (.exc 5, true), (.exc 6, true), (.exc 7, true), (.exc 8, true), (.exc 9, true), (.exc 10, true), (.exc 11, true), (.exc 12, true), (.exc 13, true), (.exc 14, true), (.exc 15, true), (.exc 16, true), (.exc 17, true), (.exc 18, true), (.exc 19, true), (.exc 20, true), (.exc 21, true), (.exc 22, true), (.exc 23, true), (.exc 24, true), (.exc 25, true), (.exc 26, true), (.exc 27, true), (.exc 28, true), (.exc 29, true), (.exc 30, true), (.exc 31, true), (.exc 32, true), (.exc 33, true), (.exc 34, true), (.exc 35, true)]
def tb_Spent : KT := [(.non, false), (.bl, false), (.int, false), (.str, false), (.lst, false), (.tup, false), (.dct, false), (.exc 0, false), (.exc 1, false), (.exc 2, false), (.exc 3, false), (.exc 4, false), (.exc 5, false), (.exc 6, false), (.exc 7, false), (.exc 8, false), (.exc 9, false), (.exc 10, false), (.exc 11, false), (.exc 12, false), (.exc 13, false), (.exc 14, false), (.exc 15, false), (.exc 16, false), (.exc 17, false), (.exc 18, false), (.exc 19, false), (.exc 20, false), (.exc 21, false), (.exc 22, false), (.exc 23, true), (.exc 24, false), (.exc 25, false), (.exc 26, false), (.exc 27, false), (.exc 28, false), (.exc 29, false), (.exc 30, false), (.exc 31, false), (.exc 32, false), (.exc 33, false), (.exc 34, false), (.exc 35, false)]
def tb_TooMany : KT := [(.non, false), (.bl, false), (.int, false), (.str, false), (.lst, false), (.tup, false), (.dct, false), (.exc 0, false), (.exc 1, false), (.exc 2, false), (.exc 3, false), (.exc 4, false), (.exc 5, false), (.exc 6, false), (.exc 7, false), (.exc 8, true), (.exc 9, false), (.exc 10, false), (.exc 11, false), (.exc 12, false), (.exc 13, false), (.exc 14, false), (.exc 15, false), (.exc 16, false), (.exc 17, false), (.exc 18, false), (.exc 19, false), (.exc 20, false), (.exc 21, false), (.exc 22, false), (.exc 23, false), (.exc 24, false), (.exc 25, false), (.exc 26, false), (.exc 27, false), (.exc 28, false), (.exc 29, false), (.exc 30, false), (.exc 31, false), (.exc 32, false), (.exc 33, false), (.exc 34, false), (.exc 35, false)]
def tb_Unheard : KT := [(.non, false), (.bl, false), (.int, false), (.str, false), (.lst, false), (.tup, false), (.dct, false), (.exc 0, false), (.exc 1, false), (.exc 2, false), (.exc 3, false), (.exc 4, false), (.exc 5, false), (.exc 6, false), (.exc 7, false), (.exc 8, false), (.exc 9, false), (.exc 10, false), (.exc 11, false), (.exc 12, false), (.exc 13, false), (.exc 14, false), (.exc 15, false), (.exc 16, false), (.exc 17, false), (.exc 18, false), (.exc 19, false), (.exc 20, false), (.exc 21, false), (.exc 22, false), (.exc 23, false), (.exc 24, true), (.exc 25, false), (.exc 26, false), (.exc 27, false), (.exc 28, false), (.exc 29, false), (.exc 30, false), (.exc 31, false), (.exc 32, false), (.exc 33, false), (.exc 34, false), (.exc 35, false)]
def tb_Unlike : KT := [(.non, false), (.bl, false), (.int, false), (.str, false), (.lst, false), (.tup, false), (.dct, false), (.exc 0, false), (.exc 1, false), (.exc 2, false), (.exc 3, false), (.exc 4, true), (.exc 5, false), (.exc 6, false), (.exc 7, false), (.exc 8, false), (.exc 9, false), (.exc 10, false), (.exc 11, false), (.exc 12, false), (.exc 13, false), (.exc 14, false), (.exc 15, false), (.exc 16, false), (.exc 17, false), (.exc 18, false), (.exc 19, false), (.exc 20, false), (.exc 21, false), (.exc 22, false), (.exc 23, false), (.exc 24, false), (.exc 25, false), (.exc 26, false), (.exc 27, false), (.exc 28, false), (.exc 29, false), (.exc 30, false), (.exc 31, false), (.exc 32, false), (.exc 33, false), (.exc 34, false), (.exc 35, false)]
def tb_ValueError : KT := [(.non, false), (.bl, false), (.int, false), (.str, false), (.lst, false), (.tup, false), (.dct, false), (.exc 0, true), (.exc 1, true), (.exc 2, true), (.exc 3, true), (.exc 4, true), (.exc 5, true), (.exc 6, true), (.exc 7, true), (.exc 8, true), (.exc 9, true), (.exc 10, true), (.exc 11, true), (.exc 12, true), (.exc 13, true), (.exc 14, true), (.exc 15, true), (.exc 16, true), (.exc 17, true), (.exc 18, true), (.exc 19, true), (.exc 20, true), (.exc 21, true), (.exc 22, true), (.exc 23, true), (.exc 24, true), (.exc 25, true), (.exc 26, true), (.exc 27, true), (.exc 28, true), (.exc 29, true), (.exc 30, true), (.exc 31, true), (.exc 32, true), (.exc 33, true), (.exc 34, true), (.exc 35, true)]
structure Mg (B : Tb) (P : Program) (w : World) (K : PySem.W.Frag) (mg : Str → Option Value) (base : Heap) : Prop where
  b_ValueError : mg "ValueError" = none
  b_abs : mg "abs" = none
  b_int : mg "int" = none
  b_isinstance : mg "isinstance" = none
  b_len : mg "len" = none
  b_list : mg "list" = none
  b_range : mg "range" = none
  b_repr : mg "repr" = none
  x_BadRun : XC B P w K mg base "BadRun" 22 fn_BadRun
  x_BadStep : XC B P w K mg base "BadStep" 32 fn_BadStep
  x_BadText : XC B P w K mg base "BadText" 34 fn_BadText
  x_Busy : XC0 B K mg "Busy" 17
  x_Fallen : XC B P w K mg base "Fallen" 16 fn_Fallen
  x_Held : XC0 B K mg "Held" 19
  x_Idle : XC0 B K mg "Idle" 18
  x_NoBases : XC B P w K mg base "NoBases" 14 fn_NoBases
  x_NoCell : XC0 B K mg "NoCell" 21
  x_NoCells : XC0 B K mg "NoCells" 20
  x_NoDivisor : XC0 B K mg "NoDivisor" 5
  x_NoLine : XC0 B K mg "NoLine" 35
  x_NoLook : XC0 B K mg "NoLook" 13
  x_NoMark : XC B P w K mg base "NoMark" 33 fn_NoMark
  x_NoName : XC B P w K mg base "NoName" 12 fn_NoName
  x_NoNumeral : XC B P w K mg base "NoNumeral" 1 fn_NoNumeral
  x_NoOrder : XC0 B K mg "NoOrder" 7
  x_NoPlace : XC B P w K mg base "NoPlace" 2 fn_NoPlace
  x_NoPlan : XC B P w K mg base "NoPlan" 10 fn_NoPlan
  x_NoPromise : XC B P w K mg base "NoPromise" 11 fn_NoPromise
  x_NoReading : XC B P w K mg base "NoReading" 25 fn_NoReading
  x_NoRight : XC B P w K mg base "NoRight" 30 fn_NoRight
  x_NoScheme : XC B P w K mg base "NoScheme" 9 fn_NoScheme
  x_NoText : XC B P w K mg base "NoText" 6 fn_NoText
  x_NoVersion : XC B P w K mg base "NoVersion" 15 fn_NoVersion
  x_NotEvents : XC B P w K mg base "NotEvents" 29 fn_NotEvents
  x_NotForced : XC B P w K mg base "NotForced" 31 fn_NotForced
  x_NotMoments : XC B P w K mg base "NotMoments" 28 fn_NotMoments
  x_NotPattern : XC0 B K mg "NotPattern" 26
  x_NotSeen : XC B P w K mg base "NotSeen" 27 fn_NotSeen
  x_Overflow : XC B P w K mg base "Overflow" 3 fn_Overflow
  x_RisingError : XC0 B K mg "RisingError" 0
  x_Spent : XC0 B K mg "Spent" 23
  x_TooMany : XC B P w K mg base "TooMany" 8 fn_TooMany
  x_Unheard : XC B P w K mg base "Unheard" 24 fn_Unheard
  x_Unlike : XC0 B K mg "Unlike" 4
  n_BadRun : mg "BadRun" = some (.ref (B.ct 22))
  n_BadStep : mg "BadStep" = some (.ref (B.ct 32))
  n_BadText : mg "BadText" = some (.ref (B.ct 34))
  n_Busy : mg "Busy" = some (.ref (B.ct 17))
  n_Fallen : mg "Fallen" = some (.ref (B.ct 16))
  n_Held : mg "Held" = some (.ref (B.ct 19))
  n_Idle : mg "Idle" = some (.ref (B.ct 18))
  n_NoBases : mg "NoBases" = some (.ref (B.ct 14))
  n_NoCell : mg "NoCell" = some (.ref (B.ct 21))
  n_NoCells : mg "NoCells" = some (.ref (B.ct 20))
  n_NoDivisor : mg "NoDivisor" = some (.ref (B.ct 5))
  n_NoLine : mg "NoLine" = some (.ref (B.ct 35))
  n_NoLook : mg "NoLook" = some (.ref (B.ct 13))
  n_NoMark : mg "NoMark" = some (.ref (B.ct 33))
  n_NoName : mg "NoName" = some (.ref (B.ct 12))
  n_NoNumeral : mg "NoNumeral" = some (.ref (B.ct 1))
  n_NoOrder : mg "NoOrder" = some (.ref (B.ct 7))
  n_NoPlace : mg "NoPlace" = some (.ref (B.ct 2))
  n_NoPlan : mg "NoPlan" = some (.ref (B.ct 10))
  n_NoPromise : mg "NoPromise" = some (.ref (B.ct 11))
  n_NoReading : mg "NoReading" = some (.ref (B.ct 25))
  n_NoRight : mg "NoRight" = some (.ref (B.ct 30))
  n_NoScheme : mg "NoScheme" = some (.ref (B.ct 9))
  n_NoText : mg "NoText" = some (.ref (B.ct 6))
  n_NoVersion : mg "NoVersion" = some (.ref (B.ct 15))
  n_NotEvents : mg "NotEvents" = some (.ref (B.ct 29))
  n_NotForced : mg "NotForced" = some (.ref (B.ct 31))
  n_NotMoments : mg "NotMoments" = some (.ref (B.ct 28))
  n_NotPattern : mg "NotPattern" = some (.ref (B.ct 26))
  n_NotSeen : mg "NotSeen" = some (.ref (B.ct 27))
  n_Overflow : mg "Overflow" = some (.ref (B.ct 3))
  n_RisingError : mg "RisingError" = some (.ref (B.ct 0))
  n_Spent : mg "Spent" = some (.ref (B.ct 23))
  n_TooMany : mg "TooMany" = some (.ref (B.ct 8))
  n_Unheard : mg "Unheard" = some (.ref (B.ct 24))
  n_Unlike : mg "Unlike" = some (.ref (B.ct 4))
  is_BadRun : IsOk B K (isTab tb_BadRun) (.ref (B.ct 22))
  is_BadStep : IsOk B K (isTab tb_BadStep) (.ref (B.ct 32))
  is_BadText : IsOk B K (isTab tb_BadText) (.ref (B.ct 34))
  is_Busy : IsOk B K (isTab tb_Busy) (.ref (B.ct 17))
  is_Fallen : IsOk B K (isTab tb_Fallen) (.ref (B.ct 16))
  is_Held : IsOk B K (isTab tb_Held) (.ref (B.ct 19))
  is_Idle : IsOk B K (isTab tb_Idle) (.ref (B.ct 18))
  is_NoBases : IsOk B K (isTab tb_NoBases) (.ref (B.ct 14))
  is_NoCell : IsOk B K (isTab tb_NoCell) (.ref (B.ct 21))
  is_NoCells : IsOk B K (isTab tb_NoCells) (.ref (B.ct 20))
  is_NoDivisor : IsOk B K (isTab tb_NoDivisor) (.ref (B.ct 5))
  is_NoLine : IsOk B K (isTab tb_NoLine) (.ref (B.ct 35))
  is_NoLook : IsOk B K (isTab tb_NoLook) (.ref (B.ct 13))
  is_NoMark : IsOk B K (isTab tb_NoMark) (.ref (B.ct 33))
  is_NoName : IsOk B K (isTab tb_NoName) (.ref (B.ct 12))
  is_NoNumeral : IsOk B K (isTab tb_NoNumeral) (.ref (B.ct 1))
  is_NoOrder : IsOk B K (isTab tb_NoOrder) (.ref (B.ct 7))
  is_NoPlace : IsOk B K (isTab tb_NoPlace) (.ref (B.ct 2))
  is_NoPlan : IsOk B K (isTab tb_NoPlan) (.ref (B.ct 10))
  is_NoPromise : IsOk B K (isTab tb_NoPromise) (.ref (B.ct 11))
  is_NoReading : IsOk B K (isTab tb_NoReading) (.ref (B.ct 25))
  is_NoRight : IsOk B K (isTab tb_NoRight) (.ref (B.ct 30))
  is_NoScheme : IsOk B K (isTab tb_NoScheme) (.ref (B.ct 9))
  is_NoText : IsOk B K (isTab tb_NoText) (.ref (B.ct 6))
  is_NoVersion : IsOk B K (isTab tb_NoVersion) (.ref (B.ct 15))
  is_NotEvents : IsOk B K (isTab tb_NotEvents) (.ref (B.ct 29))
  is_NotForced : IsOk B K (isTab tb_NotForced) (.ref (B.ct 31))
  is_NotMoments : IsOk B K (isTab tb_NotMoments) (.ref (B.ct 28))
  is_NotPattern : IsOk B K (isTab tb_NotPattern) (.ref (B.ct 26))
  is_NotSeen : IsOk B K (isTab tb_NotSeen) (.ref (B.ct 27))
  is_Overflow : IsOk B K (isTab tb_Overflow) (.ref (B.ct 3))
  is_RisingError : IsOk B K (isTab tb_RisingError) (.ref (B.ct 0))
  is_Spent : IsOk B K (isTab tb_Spent) (.ref (B.ct 23))
  is_TooMany : IsOk B K (isTab tb_TooMany) (.ref (B.ct 8))
  is_Unheard : IsOk B K (isTab tb_Unheard) (.ref (B.ct 24))
  is_Unlike : IsOk B K (isTab tb_Unlike) (.ref (B.ct 4))
  is_ValueError : IsOk B K (isTab tb_ValueError) (.type "ValueError")
  at_at : AtOk B K "at" [] [1, 6, 9, 10, 22, 28, 29, 30, 32]
  at_line : AtOk B K "line" [] [34]
  at_missing : AtOk B K "missing" [] [24]
  at_most : AtOk B K "most" [] [8]
  at_name : AtOk B K "name" [] [12, 14, 15, 16, 33]
  at_one : AtOk B K "one" [] [27]
  at_other : AtOk B K "other" [] [27]
  at_part : AtOk B K "part" [] [9, 10, 22]
  at_place : AtOk B K "place" [] [2, 16, 31]
  at_promise : AtOk B K "promise" [] [11]
  at_reading : AtOk B K "reading" [] [25]
  at_value : AtOk B K "value" [] [3]
  at_word : AtOk B K "word" [] [34]
  at_x : AtOk B K "x" [] [31]
  at_y : AtOk B K "y" [] [31]
section
variable {B : Tb} {P : Program} {w : World} {K : PySem.W.Frag} {mg : Str → Option Value} {base : Heap}
/-! _law_pen -/
abbrev s__law_pen : Stmt := top 38
theorem sc__law_pen : FnScope ["_law_script", "_law_fold", "_law_cell"] ["_law_script"] (defScope s__law_pen) := ⟨rfl, rfl, rfl, by decide +kernel, rfl, by decide +kernel, by decide +kernel⟩
def lb1__law_pen_0 : DS := (dSet 1 (dOp modD (dFn intD (dCons (dOp addD (dOp addD (dOp mulD (dVar 1) (dC (.int 41203))) (dOp modD (dFn intD (dCons (dVar 2) dNil)) (dC (.int 2147483629)))) (dC (.int 5))) dNil)) (dC (.int 2147483629))))
def q__law_pen_2 : DS := (dRet (dPenNew (dPCons (dC (.str "cells")) (dFn listD (dCons (dSl (dVar 0) dNoPart (dPart (dC (.int 63)))) dNil)) (dPCons (dC (.str "at")) (dC (.int 0)) (dPCons (dC (.str "rest")) (dC (.int 0)) (dPCons (dC (.str "fold")) (dVar 1) dPNil))))))
def q__law_pen_1 : DS := (dSeq (dFor (dList (dSl (dVar 0) dNoPart (dPart (dC (.int 63))))) (gN 2)
    lb1__law_pen_0)
    q__law_pen_2)
def q__law_pen_0 : DS := (dSeq (dSet 1 (dC (.int 97)))
    q__law_pen_1)
def t__law_pen : DS := q__law_pen_0
def S__law_pen : DSp := specOf ["_law_script", "_law_fold", "_law_cell"] t__law_pen
theorem ok__law_pen {f : Addr} {fd : FuncData} (F : Fun K "_law_pen" "_law_pen" s__law_pen f fd) (T : TbD B) (M : Mg B P w K mg base)  : FnG P w K mg base 1 f fd ["_law_script"] (spOf B K 1 S__law_pen) :=
  def_ok F sc__law_pen (fun cdv A outer s H E C => (wb_cons (ws_set sc__law_pen.nd rfl (by first | exact .inl rfl | exact .inr rfl) we_int)
    (wb_cons (ws_for (passes_of rfl) C.calm (wi_list (we_sl (wv 0) wo_none (wo_some we_int))) (wg_name sc__law_pen.nd rfl (by first | exact .inl rfl | exact .inr rfl))
    (wb_one (ws_set sc__law_pen.nd rfl (by first | exact .inl rfl | exact .inr rfl) (e_mod (e_int rfl M.b_int (e_add (e_add (e_mul (wv 1) we_int) (e_mod (e_int rfl M.b_int (wv 2)) we_int)) we_int)) we_int))))
    (wb_one (ws_ret (we_penNew T (wp_cons we_str (e_list rfl M.b_list (we_sl (wv 0) wo_none (wo_some we_int))) (wp_cons we_str we_int (wp_cons we_str we_int (wp_cons we_str (wv 1) wp_nil)))))))))) keeps_self
def f_lb1__law_pen_0 : SEnv → Fl := (fSet 1 (fOp modD (fFn intD (fCons (fOp addD (fOp addD (fOp mulD (fVar 1) (fC (.int 41203))) (fOp modD (fFn intD (fCons (fVar 2) (fun _ => .ok []))) (fC (.int 2147483629)))) (fC (.int 5))) (fun _ => .ok []))) (fC (.int 2147483629))))
theorem pq_lb1__law_pen_0 : PuS lb1__law_pen_0 f_lb1__law_pen_0 := show PuS (dSet 1 (dOp modD (dFn intD (dCons (dOp addD (dOp addD (dOp mulD (dVar 1) (dC (.int 41203))) (dOp modD (dFn intD (dCons (dVar 2) dNil)) (dC (.int 2147483629)))) (dC (.int 5))) dNil)) (dC (.int 2147483629)))) f_lb1__law_pen_0 from (pu_set (pu_op (pu_fn (pu_cons (pu_op (pu_op (pu_op pu_var pu_c) (pu_op (pu_fn (pu_cons pu_var pu_nil)) pu_c)) pu_c) pu_nil)) pu_c))
/-! _law_take -/
abbrev s__law_take : Stmt := top 39
theorem sc__law_take : FnScope ["_law_pen_here", "_law_many", "_law_at", "_law_cell", "_law_mixed", "_law_digit", "_law_great"] ["_law_pen_here", "_law_many"] (defScope s__law_take) := ⟨rfl, rfl, rfl, by decide +kernel, rfl, by decide +kernel, by decide +kernel⟩
def q__law_take_8 : DS := (dRet (dOp modD (dFn intD (dCons (dOp fdivD (dVar 4) (dC (.int 64))) dNil)) (dVar 1)))
def q__law_take_7 : DS := (dSeq (dSet 4 (dOp modD (dFn intD (dCons (dOp powD (dOp addD (dOp addD (dVar 4) (dOp mulD (dOp mulD (dC (.int 30011)) (dVar 2)) (dVar 2))) (dOp fdivD (dFn intD (dCons (dPenK "fold" (dVar 0)) dNil)) (dC (.int 3)))) (dC (.int 3))) dNil)) (dC (.int 2147483587))))
    q__law_take_8)
def q__law_take_6 : DS := (dSeq (dSet 4 (dOp modD (dFn intD (dCons (dOp powD (dOp addD (dOp addD (dOp modD (dFn intD (dCons (dVar 3) dNil)) (dC (.int 2147483563))) (dFn intD (dCons (dPenK "fold" (dVar 0)) dNil))) (dOp mulD (dC (.int 70001)) (dVar 2))) (dC (.int 3))) dNil)) (dC (.int 2147483647))))
    q__law_take_7)
def q__law_take_5 : DS := (dSeq (dIfS (dTest (dOp geD (dFn absD (dCons (dVar 3) dNil)) (dOp powD (dC (.int 10)) (dC (.int 18)))))
    (dSeq (dSet 6 (dOp addD (dOp mulD (dC (.int 2)) (dFn absD (dCons (dVar 3) dNil))) (dFn intD (dCons (dOp ltD (dVar 3) (dC (.int 0))) dNil))))
    (dSeq (dPutRest 0 (dOp fdivD (dFn intD (dCons (dVar 6) dNil)) (dVar 1)))
    (dRet (dOp modD (dFn intD (dCons (dVar 6) dNil)) (dVar 1)))))
    dNext)
    q__law_take_6)
def q__law_take_4 : DS := (dSeq (dIfS (dTest (dOp ltD (dVar 2) (dFn lenD (dCons (dPenK "cells" (dVar 0)) dNil))))
    (dSet 3 (dOp ixA (dPenK "cells" (dVar 0)) (dVar 2)))
    dNext)
    q__law_take_5)
def q__law_take_3 : DS := (dSeq (dSet 3 (dC (.int 0)))
    q__law_take_4)
def q__law_take_2 : DS := (dSeq (dPutAt 0 (dOp addD (dVar 2) (dC (.int 1))))
    q__law_take_3)
def q__law_take_1 : DS := (dSeq (dSet 2 (dPenK "at" (dVar 0)))
    q__law_take_2)
def q__law_take_0 : DS := (dSeq (dIfS (dTest (dOp gtD (dPenK "rest" (dVar 0)) (dC (.int 0))))
    (dSeq (dSet 5 (dOp modD (dFn intD (dCons (dPenK "rest" (dVar 0)) dNil)) (dVar 1)))
    (dSeq (dPutRest 0 (dOp fdivD (dFn intD (dCons (dPenK "rest" (dVar 0)) dNil)) (dVar 1)))
    (dRet (dVar 5))))
    dNext)
    q__law_take_1)
def t__law_take : DS := q__law_take_0
def S__law_take : DSp := specOf ["_law_pen_here", "_law_many", "_law_at", "_law_cell", "_law_mixed", "_law_digit", "_law_great"] t__law_take
theorem ok__law_take {f : Addr} {fd : FuncData} (F : Fun K "_law_take" "_law_take" s__law_take f fd) (T : TbD B) (M : Mg B P w K mg base)  : FnG P w K mg base 1 f fd ["_law_pen_here", "_law_many"] (spOf B K 2 S__law_take) :=
  def_ok F sc__law_take (fun cdv A outer s H E C => (wb_cons (ws_if (t_cmp o_gt (we_penK T C.u1 (by decide) (wv 0)) we_int)
    (wb_cons (ws_set sc__law_take.nd rfl (by first | exact .inl rfl | exact .inr rfl) (e_mod (e_int rfl M.b_int (we_penK T C.u1 (by decide) (wv 0))) (wv 1)))
    (wb_cons (ws_penRest T C.u1 (pv 0) (e_fdiv (e_int rfl M.b_int (we_penK T C.u1 (by decide) (wv 0))) (wv 1)))
    (wb_one (ws_ret (wv 5)))))
    wb_nil)
    (wb_cons (ws_set sc__law_take.nd rfl (by first | exact .inl rfl | exact .inr rfl) (we_penK T C.u1 (by decide) (wv 0)))
    (wb_cons (ws_penAt T C.u1 (pv 0) (e_add (wv 2) we_int))
    (wb_cons (ws_set sc__law_take.nd rfl (by first | exact .inl rfl | exact .inr rfl) we_int)
    (wb_cons (ws_if (t_cmp o_lt (wv 2) (e_len rfl M.b_len (we_penK T C.u1 (by decide) (wv 0))))
    (wb_one (ws_set sc__law_take.nd rfl (by first | exact .inl rfl | exact .inr rfl) (e_ix C (we_penK T C.u1 (by decide) (wv 0)) (wv 2))))
    wb_nil)
    (wb_cons (ws_if (t_cmp o_ge (e_abs rfl M.b_abs (wv 3)) (e_pow we_int we_int))
    (wb_cons (ws_set sc__law_take.nd rfl (by first | exact .inl rfl | exact .inr rfl) (e_add (e_mul we_int (e_abs rfl M.b_abs (wv 3))) (e_int rfl M.b_int (e_cmp o_lt (wv 3) we_int))))
    (wb_cons (ws_penRest T C.u1 (pv 0) (e_fdiv (e_int rfl M.b_int (wv 6)) (wv 1)))
    (wb_one (ws_ret (e_mod (e_int rfl M.b_int (wv 6)) (wv 1))))))
    wb_nil)
    (wb_cons (ws_set sc__law_take.nd rfl (by first | exact .inl rfl | exact .inr rfl) (e_mod (e_int rfl M.b_int (e_pow (e_add (e_add (e_mod (e_int rfl M.b_int (wv 3)) we_int) (e_int rfl M.b_int (we_penK T C.u1 (by decide) (wv 0)))) (e_mul we_int (wv 2))) we_int)) we_int))
    (wb_cons (ws_set sc__law_take.nd rfl (by first | exact .inl rfl | exact .inr rfl) (e_mod (e_int rfl M.b_int (e_pow (e_add (e_add (wv 4) (e_mul (e_mul we_int (wv 2)) (wv 2))) (e_fdiv (e_int rfl M.b_int (we_penK T C.u1 (by decide) (wv 0))) we_int)) we_int)) we_int))
    (wb_one (ws_ret (e_mod (e_int rfl M.b_int (e_fdiv (wv 4) we_int)) (wv 1))))))))))))) keeps_self
def f_q__law_take_8 : SEnv → Fl := (fRet (fOp modD (fFn intD (fCons (fOp fdivD (fVar 4) (fC (.int 64))) (fun _ => .ok []))) (fVar 1)))
theorem pq_q__law_take_8 : PuS q__law_take_8 f_q__law_take_8 := show PuS (dRet (dOp modD (dFn intD (dCons (dOp fdivD (dVar 4) (dC (.int 64))) dNil)) (dVar 1))) f_q__law_take_8 from (pu_ret (pu_op (pu_fn (pu_cons (pu_op pu_var pu_c) pu_nil)) pu_var))
/-! _law_made -/
abbrev s__law_made : Stmt := top 40
theorem sc__law_made : FnScope ["_law_one", "_law_two", "_law_three", "_law_found"] ["_law_one", "_law_two", "_law_three"] (defScope s__law_made) := ⟨rfl, rfl, rfl, by decide +kernel, rfl, by decide +kernel, by decide +kernel⟩
def q__law_made_9 : DS := (dRet (dVar 3))
def q__law_made_8 : DS := (dSeq (dSet 3 (dOp addD (dVar 3) (dLst (dCons (dExc 33 fn_NoMark (dCons (dVar 0) dNil)) (dCons (dExc 34 fn_BadText (dCons (dVar 0) (dCons (dVar 1) dNil))) (dCons (dC (.exc 35 [])) dNil))))))
    q__law_made_9)
def q__law_made_7 : DS := (dSeq (dSet 3 (dOp addD (dVar 3) (dLst (dCons (dExc 29 fn_NotEvents (dCons (dVar 0) dNil)) (dCons (dExc 30 fn_NoRight (dCons (dVar 0) dNil)) (dCons (dExc 31 fn_NotForced (dCons (dVar 0) (dCons (dVar 1) (dCons (dVar 2) dNil)))) (dCons (dExc 32 fn_BadStep (dCons (dVar 0) dNil)) dNil)))))))
    q__law_made_8)
def q__law_made_6 : DS := (dSeq (dSet 3 (dOp addD (dVar 3) (dLst (dCons (dExc 25 fn_NoReading (dCons (dVar 0) dNil)) (dCons (dC (.exc 26 [])) (dCons (dExc 27 fn_NotSeen (dCons (dVar 0) (dCons (dVar 1) dNil))) (dCons (dExc 28 fn_NotMoments (dCons (dVar 0) dNil)) dNil)))))))
    q__law_made_7)
def q__law_made_5 : DS := (dSeq (dSet 3 (dOp addD (dVar 3) (dLst (dCons (dC (.exc 21 [])) (dCons (dExc 22 fn_BadRun (dCons (dVar 0) (dCons (dVar 1) dNil))) (dCons (dC (.exc 23 [])) (dCons (dExc 24 fn_Unheard (dCons (dVar 0) dNil)) dNil)))))))
    q__law_made_6)
def q__law_made_4 : DS := (dSeq (dSet 3 (dOp addD (dVar 3) (dLst (dCons (dC (.exc 17 [])) (dCons (dC (.exc 18 [])) (dCons (dC (.exc 19 [])) (dCons (dC (.exc 20 [])) dNil)))))))
    q__law_made_5)
def q__law_made_3 : DS := (dSeq (dSet 3 (dOp addD (dVar 3) (dLst (dCons (dC (.exc 13 [])) (dCons (dExc 14 fn_NoBases (dCons (dVar 0) dNil)) (dCons (dExc 15 fn_NoVersion (dCons (dVar 0) dNil)) (dCons (dExc 16 fn_Fallen (dCons (dVar 0) (dCons (dVar 1) dNil))) dNil)))))))
    q__law_made_4)
def q__law_made_2 : DS := (dSeq (dSet 3 (dOp addD (dVar 3) (dLst (dCons (dExc 9 fn_NoScheme (dCons (dVar 0) (dCons (dVar 1) dNil))) (dCons (dExc 10 fn_NoPlan (dCons (dVar 0) (dCons (dVar 1) dNil))) (dCons (dExc 11 fn_NoPromise (dCons (dVar 0) dNil)) (dCons (dExc 12 fn_NoName (dCons (dVar 0) dNil)) dNil)))))))
    q__law_made_3)
def q__law_made_1 : DS := (dSeq (dSet 3 (dOp addD (dVar 3) (dLst (dCons (dC (.exc 5 [])) (dCons (dExc 6 fn_NoText (dCons (dVar 0) dNil)) (dCons (dC (.exc 7 [])) (dCons (dExc 8 fn_TooMany (dCons (dVar 0) dNil)) dNil)))))))
    q__law_made_2)
def q__law_made_0 : DS := (dSeq (dSet 3 (dLst (dCons (dExc 1 fn_NoNumeral (dCons (dVar 0) dNil)) (dCons (dExc 2 fn_NoPlace (dCons (dVar 0) dNil)) (dCons (dExc 3 fn_Overflow (dCons (dVar 0) dNil)) (dCons (dC (.exc 4 [])) dNil))))))
    q__law_made_1)
def t__law_made : DS := q__law_made_0
def S__law_made : DSp := specOf ["_law_one", "_law_two", "_law_three", "_law_found"] t__law_made
theorem ok__law_made {f : Addr} {fd : FuncData} (F : Fun K "_law_made" "_law_made" s__law_made f fd) (M : Mg B P w K mg base)  : FnG P w K mg base 3 f fd ["_law_one", "_law_two", "_law_three"] (spOf B K 3 S__law_made) :=
  def_ok F sc__law_made (fun cdv A outer s H E C => (wb_cons (ws_set sc__law_made.nd rfl (by first | exact .inl rfl | exact .inr rfl) (we_lst (wa_cons (we_exc M.x_NoNumeral C (by decide) rfl (wa_cons (wv 0) wa_nil)) (wa_cons (we_exc M.x_NoPlace C (by decide) rfl (wa_cons (wv 0) wa_nil)) (wa_cons (we_exc M.x_Overflow C (by decide) rfl (wa_cons (wv 0) wa_nil)) (wa_cons (we_exc0 M.x_Unlike rfl) wa_nil))))))
    (wb_cons (ws_set sc__law_made.nd rfl (by first | exact .inl rfl | exact .inr rfl) (e_add (wv 3) (we_lst (wa_cons (we_exc0 M.x_NoDivisor rfl) (wa_cons (we_exc M.x_NoText C (by decide) rfl (wa_cons (wv 0) wa_nil)) (wa_cons (we_exc0 M.x_NoOrder rfl) (wa_cons (we_exc M.x_TooMany C (by decide) rfl (wa_cons (wv 0) wa_nil)) wa_nil)))))))
    (wb_cons (ws_set sc__law_made.nd rfl (by first | exact .inl rfl | exact .inr rfl) (e_add (wv 3) (we_lst (wa_cons (we_exc M.x_NoScheme C (by decide) rfl (wa_cons (wv 0) (wa_cons (wv 1) wa_nil))) (wa_cons (we_exc M.x_NoPlan C (by decide) rfl (wa_cons (wv 0) (wa_cons (wv 1) wa_nil))) (wa_cons (we_exc M.x_NoPromise C (by decide) rfl (wa_cons (wv 0) wa_nil)) (wa_cons (we_exc M.x_NoName C (by decide) rfl (wa_cons (wv 0) wa_nil)) wa_nil)))))))
    (wb_cons (ws_set sc__law_made.nd rfl (by first | exact .inl rfl | exact .inr rfl) (e_add (wv 3) (we_lst (wa_cons (we_exc0 M.x_NoLook rfl) (wa_cons (we_exc M.x_NoBases C (by decide) rfl (wa_cons (wv 0) wa_nil)) (wa_cons (we_exc M.x_NoVersion C (by decide) rfl (wa_cons (wv 0) wa_nil)) (wa_cons (we_exc M.x_Fallen C (by decide) rfl (wa_cons (wv 0) (wa_cons (wv 1) wa_nil))) wa_nil)))))))
    (wb_cons (ws_set sc__law_made.nd rfl (by first | exact .inl rfl | exact .inr rfl) (e_add (wv 3) (we_lst (wa_cons (we_exc0 M.x_Busy rfl) (wa_cons (we_exc0 M.x_Idle rfl) (wa_cons (we_exc0 M.x_Held rfl) (wa_cons (we_exc0 M.x_NoCells rfl) wa_nil)))))))
    (wb_cons (ws_set sc__law_made.nd rfl (by first | exact .inl rfl | exact .inr rfl) (e_add (wv 3) (we_lst (wa_cons (we_exc0 M.x_NoCell rfl) (wa_cons (we_exc M.x_BadRun C (by decide) rfl (wa_cons (wv 0) (wa_cons (wv 1) wa_nil))) (wa_cons (we_exc0 M.x_Spent rfl) (wa_cons (we_exc M.x_Unheard C (by decide) rfl (wa_cons (wv 0) wa_nil)) wa_nil)))))))
    (wb_cons (ws_set sc__law_made.nd rfl (by first | exact .inl rfl | exact .inr rfl) (e_add (wv 3) (we_lst (wa_cons (we_exc M.x_NoReading C (by decide) rfl (wa_cons (wv 0) wa_nil)) (wa_cons (we_exc0 M.x_NotPattern rfl) (wa_cons (we_exc M.x_NotSeen C (by decide) rfl (wa_cons (wv 0) (wa_cons (wv 1) wa_nil))) (wa_cons (we_exc M.x_NotMoments C (by decide) rfl (wa_cons (wv 0) wa_nil)) wa_nil)))))))
    (wb_cons (ws_set sc__law_made.nd rfl (by first | exact .inl rfl | exact .inr rfl) (e_add (wv 3) (we_lst (wa_cons (we_exc M.x_NotEvents C (by decide) rfl (wa_cons (wv 0) wa_nil)) (wa_cons (we_exc M.x_NoRight C (by decide) rfl (wa_cons (wv 0) wa_nil)) (wa_cons (we_exc M.x_NotForced C (by decide) rfl (wa_cons (wv 0) (wa_cons (wv 1) (wa_cons (wv 2) wa_nil)))) (wa_cons (we_exc M.x_BadStep C (by decide) rfl (wa_cons (wv 0) wa_nil)) wa_nil)))))))
    (wb_cons (ws_set sc__law_made.nd rfl (by first | exact .inl rfl | exact .inr rfl) (e_add (wv 3) (we_lst (wa_cons (we_exc M.x_NoMark C (by decide) rfl (wa_cons (wv 0) wa_nil)) (wa_cons (we_exc M.x_BadText C (by decide) rfl (wa_cons (wv 0) (wa_cons (wv 1) wa_nil))) (wa_cons (we_exc0 M.x_NoLine rfl) wa_nil))))))
    (wb_one (ws_ret (wv 3))))))))))))) keeps_self
def f_q__law_made_9 : SEnv → Fl := (fRet (fVar 3))
theorem pq_q__law_made_9 : PuS q__law_made_9 f_q__law_made_9 := show PuS (dRet (dVar 3)) f_q__law_made_9 from (pu_ret pu_var)
def f_q__law_made_8 : SEnv → Fl := (fSeq (fSet 3 (fOp addD (fVar 3) (fLst (fCons (fExc 33 fn_NoMark (fCons (fVar 0) (fun _ => .ok []))) (fCons (fExc 34 fn_BadText (fCons (fVar 0) (fCons (fVar 1) (fun _ => .ok [])))) (fCons (fC (.exc 35 [])) (fun _ => .ok []))))))) f_q__law_made_9)
theorem pq_q__law_made_8 : PuS q__law_made_8 f_q__law_made_8 := show PuS (dSeq (dSet 3 (dOp addD (dVar 3) (dLst (dCons (dExc 33 fn_NoMark (dCons (dVar 0) dNil)) (dCons (dExc 34 fn_BadText (dCons (dVar 0) (dCons (dVar 1) dNil))) (dCons (dC (.exc 35 [])) dNil))))))
    q__law_made_9) f_q__law_made_8 from (pu_seq (pu_set (pu_op pu_var (pu_lst (pu_cons (pu_exc (pu_cons pu_var pu_nil)) (pu_cons (pu_exc (pu_cons pu_var (pu_cons pu_var pu_nil))) (pu_cons pu_c pu_nil)))))) pq_q__law_made_9)
def f_q__law_made_7 : SEnv → Fl := (fSeq (fSet 3 (fOp addD (fVar 3) (fLst (fCons (fExc 29 fn_NotEvents (fCons (fVar 0) (fun _ => .ok []))) (fCons (fExc 30 fn_NoRight (fCons (fVar 0) (fun _ => .ok []))) (fCons (fExc 31 fn_NotForced (fCons (fVar 0) (fCons (fVar 1) (fCons (fVar 2) (fun _ => .ok []))))) (fCons (fExc 32 fn_BadStep (fCons (fVar 0) (fun _ => .ok []))) (fun _ => .ok [])))))))) f_q__law_made_8)
theorem pq_q__law_made_7 : PuS q__law_made_7 f_q__law_made_7 := show PuS (dSeq (dSet 3 (dOp addD (dVar 3) (dLst (dCons (dExc 29 fn_NotEvents (dCons (dVar 0) dNil)) (dCons (dExc 30 fn_NoRight (dCons (dVar 0) dNil)) (dCons (dExc 31 fn_NotForced (dCons (dVar 0) (dCons (dVar 1) (dCons (dVar 2) dNil)))) (dCons (dExc 32 fn_BadStep (dCons (dVar 0) dNil)) dNil)))))))
    q__law_made_8) f_q__law_made_7 from (pu_seq (pu_set (pu_op pu_var (pu_lst (pu_cons (pu_exc (pu_cons pu_var pu_nil)) (pu_cons (pu_exc (pu_cons pu_var pu_nil)) (pu_cons (pu_exc (pu_cons pu_var (pu_cons pu_var (pu_cons pu_var pu_nil)))) (pu_cons (pu_exc (pu_cons pu_var pu_nil)) pu_nil))))))) pq_q__law_made_8)
def f_q__law_made_6 : SEnv → Fl := (fSeq (fSet 3 (fOp addD (fVar 3) (fLst (fCons (fExc 25 fn_NoReading (fCons (fVar 0) (fun _ => .ok []))) (fCons (fC (.exc 26 [])) (fCons (fExc 27 fn_NotSeen (fCons (fVar 0) (fCons (fVar 1) (fun _ => .ok [])))) (fCons (fExc 28 fn_NotMoments (fCons (fVar 0) (fun _ => .ok []))) (fun _ => .ok [])))))))) f_q__law_made_7)
theorem pq_q__law_made_6 : PuS q__law_made_6 f_q__law_made_6 := show PuS (dSeq (dSet 3 (dOp addD (dVar 3) (dLst (dCons (dExc 25 fn_NoReading (dCons (dVar 0) dNil)) (dCons (dC (.exc 26 [])) (dCons (dExc 27 fn_NotSeen (dCons (dVar 0) (dCons (dVar 1) dNil))) (dCons (dExc 28 fn_NotMoments (dCons (dVar 0) dNil)) dNil)))))))
    q__law_made_7) f_q__law_made_6 from (pu_seq (pu_set (pu_op pu_var (pu_lst (pu_cons (pu_exc (pu_cons pu_var pu_nil)) (pu_cons pu_c (pu_cons (pu_exc (pu_cons pu_var (pu_cons pu_var pu_nil))) (pu_cons (pu_exc (pu_cons pu_var pu_nil)) pu_nil))))))) pq_q__law_made_7)
def f_q__law_made_5 : SEnv → Fl := (fSeq (fSet 3 (fOp addD (fVar 3) (fLst (fCons (fC (.exc 21 [])) (fCons (fExc 22 fn_BadRun (fCons (fVar 0) (fCons (fVar 1) (fun _ => .ok [])))) (fCons (fC (.exc 23 [])) (fCons (fExc 24 fn_Unheard (fCons (fVar 0) (fun _ => .ok []))) (fun _ => .ok [])))))))) f_q__law_made_6)
theorem pq_q__law_made_5 : PuS q__law_made_5 f_q__law_made_5 := show PuS (dSeq (dSet 3 (dOp addD (dVar 3) (dLst (dCons (dC (.exc 21 [])) (dCons (dExc 22 fn_BadRun (dCons (dVar 0) (dCons (dVar 1) dNil))) (dCons (dC (.exc 23 [])) (dCons (dExc 24 fn_Unheard (dCons (dVar 0) dNil)) dNil)))))))
    q__law_made_6) f_q__law_made_5 from (pu_seq (pu_set (pu_op pu_var (pu_lst (pu_cons pu_c (pu_cons (pu_exc (pu_cons pu_var (pu_cons pu_var pu_nil))) (pu_cons pu_c (pu_cons (pu_exc (pu_cons pu_var pu_nil)) pu_nil))))))) pq_q__law_made_6)
def f_q__law_made_4 : SEnv → Fl := (fSeq (fSet 3 (fOp addD (fVar 3) (fLst (fCons (fC (.exc 17 [])) (fCons (fC (.exc 18 [])) (fCons (fC (.exc 19 [])) (fCons (fC (.exc 20 [])) (fun _ => .ok [])))))))) f_q__law_made_5)
theorem pq_q__law_made_4 : PuS q__law_made_4 f_q__law_made_4 := show PuS (dSeq (dSet 3 (dOp addD (dVar 3) (dLst (dCons (dC (.exc 17 [])) (dCons (dC (.exc 18 [])) (dCons (dC (.exc 19 [])) (dCons (dC (.exc 20 [])) dNil)))))))
    q__law_made_5) f_q__law_made_4 from (pu_seq (pu_set (pu_op pu_var (pu_lst (pu_cons pu_c (pu_cons pu_c (pu_cons pu_c (pu_cons pu_c pu_nil))))))) pq_q__law_made_5)
def f_q__law_made_3 : SEnv → Fl := (fSeq (fSet 3 (fOp addD (fVar 3) (fLst (fCons (fC (.exc 13 [])) (fCons (fExc 14 fn_NoBases (fCons (fVar 0) (fun _ => .ok []))) (fCons (fExc 15 fn_NoVersion (fCons (fVar 0) (fun _ => .ok []))) (fCons (fExc 16 fn_Fallen (fCons (fVar 0) (fCons (fVar 1) (fun _ => .ok [])))) (fun _ => .ok [])))))))) f_q__law_made_4)
theorem pq_q__law_made_3 : PuS q__law_made_3 f_q__law_made_3 := show PuS (dSeq (dSet 3 (dOp addD (dVar 3) (dLst (dCons (dC (.exc 13 [])) (dCons (dExc 14 fn_NoBases (dCons (dVar 0) dNil)) (dCons (dExc 15 fn_NoVersion (dCons (dVar 0) dNil)) (dCons (dExc 16 fn_Fallen (dCons (dVar 0) (dCons (dVar 1) dNil))) dNil)))))))
    q__law_made_4) f_q__law_made_3 from (pu_seq (pu_set (pu_op pu_var (pu_lst (pu_cons pu_c (pu_cons (pu_exc (pu_cons pu_var pu_nil)) (pu_cons (pu_exc (pu_cons pu_var pu_nil)) (pu_cons (pu_exc (pu_cons pu_var (pu_cons pu_var pu_nil))) pu_nil))))))) pq_q__law_made_4)
def f_q__law_made_2 : SEnv → Fl := (fSeq (fSet 3 (fOp addD (fVar 3) (fLst (fCons (fExc 9 fn_NoScheme (fCons (fVar 0) (fCons (fVar 1) (fun _ => .ok [])))) (fCons (fExc 10 fn_NoPlan (fCons (fVar 0) (fCons (fVar 1) (fun _ => .ok [])))) (fCons (fExc 11 fn_NoPromise (fCons (fVar 0) (fun _ => .ok []))) (fCons (fExc 12 fn_NoName (fCons (fVar 0) (fun _ => .ok []))) (fun _ => .ok [])))))))) f_q__law_made_3)
theorem pq_q__law_made_2 : PuS q__law_made_2 f_q__law_made_2 := show PuS (dSeq (dSet 3 (dOp addD (dVar 3) (dLst (dCons (dExc 9 fn_NoScheme (dCons (dVar 0) (dCons (dVar 1) dNil))) (dCons (dExc 10 fn_NoPlan (dCons (dVar 0) (dCons (dVar 1) dNil))) (dCons (dExc 11 fn_NoPromise (dCons (dVar 0) dNil)) (dCons (dExc 12 fn_NoName (dCons (dVar 0) dNil)) dNil)))))))
    q__law_made_3) f_q__law_made_2 from (pu_seq (pu_set (pu_op pu_var (pu_lst (pu_cons (pu_exc (pu_cons pu_var (pu_cons pu_var pu_nil))) (pu_cons (pu_exc (pu_cons pu_var (pu_cons pu_var pu_nil))) (pu_cons (pu_exc (pu_cons pu_var pu_nil)) (pu_cons (pu_exc (pu_cons pu_var pu_nil)) pu_nil))))))) pq_q__law_made_3)
def f_q__law_made_1 : SEnv → Fl := (fSeq (fSet 3 (fOp addD (fVar 3) (fLst (fCons (fC (.exc 5 [])) (fCons (fExc 6 fn_NoText (fCons (fVar 0) (fun _ => .ok []))) (fCons (fC (.exc 7 [])) (fCons (fExc 8 fn_TooMany (fCons (fVar 0) (fun _ => .ok []))) (fun _ => .ok [])))))))) f_q__law_made_2)
theorem pq_q__law_made_1 : PuS q__law_made_1 f_q__law_made_1 := show PuS (dSeq (dSet 3 (dOp addD (dVar 3) (dLst (dCons (dC (.exc 5 [])) (dCons (dExc 6 fn_NoText (dCons (dVar 0) dNil)) (dCons (dC (.exc 7 [])) (dCons (dExc 8 fn_TooMany (dCons (dVar 0) dNil)) dNil)))))))
    q__law_made_2) f_q__law_made_1 from (pu_seq (pu_set (pu_op pu_var (pu_lst (pu_cons pu_c (pu_cons (pu_exc (pu_cons pu_var pu_nil)) (pu_cons pu_c (pu_cons (pu_exc (pu_cons pu_var pu_nil)) pu_nil))))))) pq_q__law_made_2)
def f_q__law_made_0 : SEnv → Fl := (fSeq (fSet 3 (fLst (fCons (fExc 1 fn_NoNumeral (fCons (fVar 0) (fun _ => .ok []))) (fCons (fExc 2 fn_NoPlace (fCons (fVar 0) (fun _ => .ok []))) (fCons (fExc 3 fn_Overflow (fCons (fVar 0) (fun _ => .ok []))) (fCons (fC (.exc 4 [])) (fun _ => .ok []))))))) f_q__law_made_1)
theorem pq_q__law_made_0 : PuS q__law_made_0 f_q__law_made_0 := show PuS (dSeq (dSet 3 (dLst (dCons (dExc 1 fn_NoNumeral (dCons (dVar 0) dNil)) (dCons (dExc 2 fn_NoPlace (dCons (dVar 0) dNil)) (dCons (dExc 3 fn_Overflow (dCons (dVar 0) dNil)) (dCons (dC (.exc 4 [])) dNil))))))
    q__law_made_1) f_q__law_made_0 from (pu_seq (pu_set (pu_lst (pu_cons (pu_exc (pu_cons pu_var pu_nil)) (pu_cons (pu_exc (pu_cons pu_var pu_nil)) (pu_cons (pu_exc (pu_cons pu_var pu_nil)) (pu_cons pu_c pu_nil)))))) pq_q__law_made_1)
def F__law_made : List D → R D := runF ["_law_one", "_law_two", "_law_three", "_law_found"] f_q__law_made_0
theorem pf__law_made : PuF S__law_made F__law_made := pu_def (t := q__law_made_0) pq_q__law_made_0
/-! _law_kinds -/
abbrev s__law_kinds : Stmt := top 41
theorem sc__law_kinds : FnScope ["_law_thing", "_law_found"] ["_law_thing"] (defScope s__law_kinds) := ⟨rfl, rfl, rfl, by decide +kernel, rfl, by decide +kernel, by decide +kernel⟩
def q__law_kinds_18 : DS := (dRet (dVar 1))
def q__law_kinds_17 : DS := (dSeq (dSet 1 (dOp addD (dVar 1) (dLst (dCons (dU (isiD (isTab tb_NoLine)) (dVar 0)) dNil))))
    q__law_kinds_18)
def q__law_kinds_16 : DS := (dSeq (dSet 1 (dOp addD (dVar 1) (dLst (dCons (dU (isiD (isTab tb_NoMark)) (dVar 0)) (dCons (dU (isiD (isTab tb_BadText)) (dVar 0)) dNil)))))
    q__law_kinds_17)
def q__law_kinds_15 : DS := (dSeq (dSet 1 (dOp addD (dVar 1) (dLst (dCons (dU (isiD (isTab tb_NotForced)) (dVar 0)) (dCons (dU (isiD (isTab tb_BadStep)) (dVar 0)) dNil)))))
    q__law_kinds_16)
def q__law_kinds_14 : DS := (dSeq (dSet 1 (dOp addD (dVar 1) (dLst (dCons (dU (isiD (isTab tb_NotEvents)) (dVar 0)) (dCons (dU (isiD (isTab tb_NoRight)) (dVar 0)) dNil)))))
    q__law_kinds_15)
def q__law_kinds_13 : DS := (dSeq (dSet 1 (dOp addD (dVar 1) (dLst (dCons (dU (isiD (isTab tb_NotSeen)) (dVar 0)) (dCons (dU (isiD (isTab tb_NotMoments)) (dVar 0)) dNil)))))
    q__law_kinds_14)
def q__law_kinds_12 : DS := (dSeq (dSet 1 (dOp addD (dVar 1) (dLst (dCons (dU (isiD (isTab tb_NoReading)) (dVar 0)) (dCons (dU (isiD (isTab tb_NotPattern)) (dVar 0)) dNil)))))
    q__law_kinds_13)
def q__law_kinds_11 : DS := (dSeq (dSet 1 (dOp addD (dVar 1) (dLst (dCons (dU (isiD (isTab tb_Spent)) (dVar 0)) (dCons (dU (isiD (isTab tb_Unheard)) (dVar 0)) dNil)))))
    q__law_kinds_12)
def q__law_kinds_10 : DS := (dSeq (dSet 1 (dOp addD (dVar 1) (dLst (dCons (dU (isiD (isTab tb_NoCell)) (dVar 0)) (dCons (dU (isiD (isTab tb_BadRun)) (dVar 0)) dNil)))))
    q__law_kinds_11)
def q__law_kinds_9 : DS := (dSeq (dSet 1 (dOp addD (dVar 1) (dLst (dCons (dU (isiD (isTab tb_Held)) (dVar 0)) (dCons (dU (isiD (isTab tb_NoCells)) (dVar 0)) dNil)))))
    q__law_kinds_10)
def q__law_kinds_8 : DS := (dSeq (dSet 1 (dOp addD (dVar 1) (dLst (dCons (dU (isiD (isTab tb_Busy)) (dVar 0)) (dCons (dU (isiD (isTab tb_Idle)) (dVar 0)) dNil)))))
    q__law_kinds_9)
def q__law_kinds_7 : DS := (dSeq (dSet 1 (dOp addD (dVar 1) (dLst (dCons (dU (isiD (isTab tb_NoVersion)) (dVar 0)) (dCons (dU (isiD (isTab tb_Fallen)) (dVar 0)) dNil)))))
    q__law_kinds_8)
def q__law_kinds_6 : DS := (dSeq (dSet 1 (dOp addD (dVar 1) (dLst (dCons (dU (isiD (isTab tb_NoLook)) (dVar 0)) (dCons (dU (isiD (isTab tb_NoBases)) (dVar 0)) dNil)))))
    q__law_kinds_7)
def q__law_kinds_5 : DS := (dSeq (dSet 1 (dOp addD (dVar 1) (dLst (dCons (dU (isiD (isTab tb_NoPromise)) (dVar 0)) (dCons (dU (isiD (isTab tb_NoName)) (dVar 0)) dNil)))))
    q__law_kinds_6)
def q__law_kinds_4 : DS := (dSeq (dSet 1 (dOp addD (dVar 1) (dLst (dCons (dU (isiD (isTab tb_NoScheme)) (dVar 0)) (dCons (dU (isiD (isTab tb_NoPlan)) (dVar 0)) dNil)))))
    q__law_kinds_5)
def q__law_kinds_3 : DS := (dSeq (dSet 1 (dOp addD (dVar 1) (dLst (dCons (dU (isiD (isTab tb_NoOrder)) (dVar 0)) (dCons (dU (isiD (isTab tb_TooMany)) (dVar 0)) dNil)))))
    q__law_kinds_4)
def q__law_kinds_2 : DS := (dSeq (dSet 1 (dOp addD (dVar 1) (dLst (dCons (dU (isiD (isTab tb_NoDivisor)) (dVar 0)) (dCons (dU (isiD (isTab tb_NoText)) (dVar 0)) dNil)))))
    q__law_kinds_3)
def q__law_kinds_1 : DS := (dSeq (dSet 1 (dOp addD (dVar 1) (dLst (dCons (dU (isiD (isTab tb_Overflow)) (dVar 0)) (dCons (dU (isiD (isTab tb_Unlike)) (dVar 0)) dNil)))))
    q__law_kinds_2)
def q__law_kinds_0 : DS := (dSeq (dSet 1 (dLst (dCons (dU (isiD (isTab tb_NoNumeral)) (dVar 0)) (dCons (dU (isiD (isTab tb_NoPlace)) (dVar 0)) dNil))))
    q__law_kinds_1)
def t__law_kinds : DS := q__law_kinds_0
def S__law_kinds : DSp := specOf ["_law_thing", "_law_found"] t__law_kinds
theorem ok__law_kinds {f : Addr} {fd : FuncData} (F : Fun K "_law_kinds" "_law_kinds" s__law_kinds f fd) (M : Mg B P w K mg base)  : FnG P w K mg base 1 f fd ["_law_thing"] (spOf B K 1 S__law_kinds) :=
  def_ok F sc__law_kinds (fun cdv A outer s H E C => (wb_cons (ws_set sc__law_kinds.nd rfl (by first | exact .inl rfl | exact .inr rfl) (we_lst (wa_cons (we_isC M.is_NoNumeral rfl M.n_NoNumeral rfl M.b_isinstance (wv 0)) (wa_cons (we_isC M.is_NoPlace rfl M.n_NoPlace rfl M.b_isinstance (wv 0)) wa_nil))))
    (wb_cons (ws_set sc__law_kinds.nd rfl (by first | exact .inl rfl | exact .inr rfl) (e_add (wv 1) (we_lst (wa_cons (we_isC M.is_Overflow rfl M.n_Overflow rfl M.b_isinstance (wv 0)) (wa_cons (we_isC M.is_Unlike rfl M.n_Unlike rfl M.b_isinstance (wv 0)) wa_nil)))))
    (wb_cons (ws_set sc__law_kinds.nd rfl (by first | exact .inl rfl | exact .inr rfl) (e_add (wv 1) (we_lst (wa_cons (we_isC M.is_NoDivisor rfl M.n_NoDivisor rfl M.b_isinstance (wv 0)) (wa_cons (we_isC M.is_NoText rfl M.n_NoText rfl M.b_isinstance (wv 0)) wa_nil)))))
    (wb_cons (ws_set sc__law_kinds.nd rfl (by first | exact .inl rfl | exact .inr rfl) (e_add (wv 1) (we_lst (wa_cons (we_isC M.is_NoOrder rfl M.n_NoOrder rfl M.b_isinstance (wv 0)) (wa_cons (we_isC M.is_TooMany rfl M.n_TooMany rfl M.b_isinstance (wv 0)) wa_nil)))))
    (wb_cons (ws_set sc__law_kinds.nd rfl (by first | exact .inl rfl | exact .inr rfl) (e_add (wv 1) (we_lst (wa_cons (we_isC M.is_NoScheme rfl M.n_NoScheme rfl M.b_isinstance (wv 0)) (wa_cons (we_isC M.is_NoPlan rfl M.n_NoPlan rfl M.b_isinstance (wv 0)) wa_nil)))))
    (wb_cons (ws_set sc__law_kinds.nd rfl (by first | exact .inl rfl | exact .inr rfl) (e_add (wv 1) (we_lst (wa_cons (we_isC M.is_NoPromise rfl M.n_NoPromise rfl M.b_isinstance (wv 0)) (wa_cons (we_isC M.is_NoName rfl M.n_NoName rfl M.b_isinstance (wv 0)) wa_nil)))))
    (wb_cons (ws_set sc__law_kinds.nd rfl (by first | exact .inl rfl | exact .inr rfl) (e_add (wv 1) (we_lst (wa_cons (we_isC M.is_NoLook rfl M.n_NoLook rfl M.b_isinstance (wv 0)) (wa_cons (we_isC M.is_NoBases rfl M.n_NoBases rfl M.b_isinstance (wv 0)) wa_nil)))))
    (wb_cons (ws_set sc__law_kinds.nd rfl (by first | exact .inl rfl | exact .inr rfl) (e_add (wv 1) (we_lst (wa_cons (we_isC M.is_NoVersion rfl M.n_NoVersion rfl M.b_isinstance (wv 0)) (wa_cons (we_isC M.is_Fallen rfl M.n_Fallen rfl M.b_isinstance (wv 0)) wa_nil)))))
    (wb_cons (ws_set sc__law_kinds.nd rfl (by first | exact .inl rfl | exact .inr rfl) (e_add (wv 1) (we_lst (wa_cons (we_isC M.is_Busy rfl M.n_Busy rfl M.b_isinstance (wv 0)) (wa_cons (we_isC M.is_Idle rfl M.n_Idle rfl M.b_isinstance (wv 0)) wa_nil)))))
    (wb_cons (ws_set sc__law_kinds.nd rfl (by first | exact .inl rfl | exact .inr rfl) (e_add (wv 1) (we_lst (wa_cons (we_isC M.is_Held rfl M.n_Held rfl M.b_isinstance (wv 0)) (wa_cons (we_isC M.is_NoCells rfl M.n_NoCells rfl M.b_isinstance (wv 0)) wa_nil)))))
    (wb_cons (ws_set sc__law_kinds.nd rfl (by first | exact .inl rfl | exact .inr rfl) (e_add (wv 1) (we_lst (wa_cons (we_isC M.is_NoCell rfl M.n_NoCell rfl M.b_isinstance (wv 0)) (wa_cons (we_isC M.is_BadRun rfl M.n_BadRun rfl M.b_isinstance (wv 0)) wa_nil)))))
    (wb_cons (ws_set sc__law_kinds.nd rfl (by first | exact .inl rfl | exact .inr rfl) (e_add (wv 1) (we_lst (wa_cons (we_isC M.is_Spent rfl M.n_Spent rfl M.b_isinstance (wv 0)) (wa_cons (we_isC M.is_Unheard rfl M.n_Unheard rfl M.b_isinstance (wv 0)) wa_nil)))))
    (wb_cons (ws_set sc__law_kinds.nd rfl (by first | exact .inl rfl | exact .inr rfl) (e_add (wv 1) (we_lst (wa_cons (we_isC M.is_NoReading rfl M.n_NoReading rfl M.b_isinstance (wv 0)) (wa_cons (we_isC M.is_NotPattern rfl M.n_NotPattern rfl M.b_isinstance (wv 0)) wa_nil)))))
    (wb_cons (ws_set sc__law_kinds.nd rfl (by first | exact .inl rfl | exact .inr rfl) (e_add (wv 1) (we_lst (wa_cons (we_isC M.is_NotSeen rfl M.n_NotSeen rfl M.b_isinstance (wv 0)) (wa_cons (we_isC M.is_NotMoments rfl M.n_NotMoments rfl M.b_isinstance (wv 0)) wa_nil)))))
    (wb_cons (ws_set sc__law_kinds.nd rfl (by first | exact .inl rfl | exact .inr rfl) (e_add (wv 1) (we_lst (wa_cons (we_isC M.is_NotEvents rfl M.n_NotEvents rfl M.b_isinstance (wv 0)) (wa_cons (we_isC M.is_NoRight rfl M.n_NoRight rfl M.b_isinstance (wv 0)) wa_nil)))))
    (wb_cons (ws_set sc__law_kinds.nd rfl (by first | exact .inl rfl | exact .inr rfl) (e_add (wv 1) (we_lst (wa_cons (we_isC M.is_NotForced rfl M.n_NotForced rfl M.b_isinstance (wv 0)) (wa_cons (we_isC M.is_BadStep rfl M.n_BadStep rfl M.b_isinstance (wv 0)) wa_nil)))))
    (wb_cons (ws_set sc__law_kinds.nd rfl (by first | exact .inl rfl | exact .inr rfl) (e_add (wv 1) (we_lst (wa_cons (we_isC M.is_NoMark rfl M.n_NoMark rfl M.b_isinstance (wv 0)) (wa_cons (we_isC M.is_BadText rfl M.n_BadText rfl M.b_isinstance (wv 0)) wa_nil)))))
    (wb_cons (ws_set sc__law_kinds.nd rfl (by first | exact .inl rfl | exact .inr rfl) (e_add (wv 1) (we_lst (wa_cons (we_isC M.is_NoLine rfl M.n_NoLine rfl M.b_isinstance (wv 0)) wa_nil))))
    (wb_one (ws_ret (wv 1)))))))))))))))))))))) keeps_self
def f_q__law_kinds_18 : SEnv → Fl := (fRet (fVar 1))
theorem pq_q__law_kinds_18 : PuS q__law_kinds_18 f_q__law_kinds_18 := show PuS (dRet (dVar 1)) f_q__law_kinds_18 from (pu_ret pu_var)
def f_q__law_kinds_17 : SEnv → Fl := (fSeq (fSet 1 (fOp addD (fVar 1) (fLst (fCons (fU (isiD (isTab tb_NoLine)) (fVar 0)) (fun _ => .ok []))))) f_q__law_kinds_18)
theorem pq_q__law_kinds_17 : PuS q__law_kinds_17 f_q__law_kinds_17 := show PuS (dSeq (dSet 1 (dOp addD (dVar 1) (dLst (dCons (dU (isiD (isTab tb_NoLine)) (dVar 0)) dNil))))
    q__law_kinds_18) f_q__law_kinds_17 from (pu_seq (pu_set (pu_op pu_var (pu_lst (pu_cons (pu_u pu_var) pu_nil)))) pq_q__law_kinds_18)
def f_q__law_kinds_16 : SEnv → Fl := (fSeq (fSet 1 (fOp addD (fVar 1) (fLst (fCons (fU (isiD (isTab tb_NoMark)) (fVar 0)) (fCons (fU (isiD (isTab tb_BadText)) (fVar 0)) (fun _ => .ok [])))))) f_q__law_kinds_17)
theorem pq_q__law_kinds_16 : PuS q__law_kinds_16 f_q__law_kinds_16 := show PuS (dSeq (dSet 1 (dOp addD (dVar 1) (dLst (dCons (dU (isiD (isTab tb_NoMark)) (dVar 0)) (dCons (dU (isiD (isTab tb_BadText)) (dVar 0)) dNil)))))
    q__law_kinds_17) f_q__law_kinds_16 from (pu_seq (pu_set (pu_op pu_var (pu_lst (pu_cons (pu_u pu_var) (pu_cons (pu_u pu_var) pu_nil))))) pq_q__law_kinds_17)
def f_q__law_kinds_15 : SEnv → Fl := (fSeq (fSet 1 (fOp addD (fVar 1) (fLst (fCons (fU (isiD (isTab tb_NotForced)) (fVar 0)) (fCons (fU (isiD (isTab tb_BadStep)) (fVar 0)) (fun _ => .ok [])))))) f_q__law_kinds_16)
theorem pq_q__law_kinds_15 : PuS q__law_kinds_15 f_q__law_kinds_15 := show PuS (dSeq (dSet 1 (dOp addD (dVar 1) (dLst (dCons (dU (isiD (isTab tb_NotForced)) (dVar 0)) (dCons (dU (isiD (isTab tb_BadStep)) (dVar 0)) dNil)))))
    q__law_kinds_16) f_q__law_kinds_15 from (pu_seq (pu_set (pu_op pu_var (pu_lst (pu_cons (pu_u pu_var) (pu_cons (pu_u pu_var) pu_nil))))) pq_q__law_kinds_16)
def f_q__law_kinds_14 : SEnv → Fl := (fSeq (fSet 1 (fOp addD (fVar 1) (fLst (fCons (fU (isiD (isTab tb_NotEvents)) (fVar 0)) (fCons (fU (isiD (isTab tb_NoRight)) (fVar 0)) (fun _ => .ok [])))))) f_q__law_kinds_15)
theorem pq_q__law_kinds_14 : PuS q__law_kinds_14 f_q__law_kinds_14 := show PuS (dSeq (dSet 1 (dOp addD (dVar 1) (dLst (dCons (dU (isiD (isTab tb_NotEvents)) (dVar 0)) (dCons (dU (isiD (isTab tb_NoRight)) (dVar 0)) dNil)))))
    q__law_kinds_15) f_q__law_kinds_14 from (pu_seq (pu_set (pu_op pu_var (pu_lst (pu_cons (pu_u pu_var) (pu_cons (pu_u pu_var) pu_nil))))) pq_q__law_kinds_15)
def f_q__law_kinds_13 : SEnv → Fl := (fSeq (fSet 1 (fOp addD (fVar 1) (fLst (fCons (fU (isiD (isTab tb_NotSeen)) (fVar 0)) (fCons (fU (isiD (isTab tb_NotMoments)) (fVar 0)) (fun _ => .ok [])))))) f_q__law_kinds_14)
theorem pq_q__law_kinds_13 : PuS q__law_kinds_13 f_q__law_kinds_13 := show PuS (dSeq (dSet 1 (dOp addD (dVar 1) (dLst (dCons (dU (isiD (isTab tb_NotSeen)) (dVar 0)) (dCons (dU (isiD (isTab tb_NotMoments)) (dVar 0)) dNil)))))
    q__law_kinds_14) f_q__law_kinds_13 from (pu_seq (pu_set (pu_op pu_var (pu_lst (pu_cons (pu_u pu_var) (pu_cons (pu_u pu_var) pu_nil))))) pq_q__law_kinds_14)
def f_q__law_kinds_12 : SEnv → Fl := (fSeq (fSet 1 (fOp addD (fVar 1) (fLst (fCons (fU (isiD (isTab tb_NoReading)) (fVar 0)) (fCons (fU (isiD (isTab tb_NotPattern)) (fVar 0)) (fun _ => .ok [])))))) f_q__law_kinds_13)
theorem pq_q__law_kinds_12 : PuS q__law_kinds_12 f_q__law_kinds_12 := show PuS (dSeq (dSet 1 (dOp addD (dVar 1) (dLst (dCons (dU (isiD (isTab tb_NoReading)) (dVar 0)) (dCons (dU (isiD (isTab tb_NotPattern)) (dVar 0)) dNil)))))
    q__law_kinds_13) f_q__law_kinds_12 from (pu_seq (pu_set (pu_op pu_var (pu_lst (pu_cons (pu_u pu_var) (pu_cons (pu_u pu_var) pu_nil))))) pq_q__law_kinds_13)
def f_q__law_kinds_11 : SEnv → Fl := (fSeq (fSet 1 (fOp addD (fVar 1) (fLst (fCons (fU (isiD (isTab tb_Spent)) (fVar 0)) (fCons (fU (isiD (isTab tb_Unheard)) (fVar 0)) (fun _ => .ok [])))))) f_q__law_kinds_12)
theorem pq_q__law_kinds_11 : PuS q__law_kinds_11 f_q__law_kinds_11 := show PuS (dSeq (dSet 1 (dOp addD (dVar 1) (dLst (dCons (dU (isiD (isTab tb_Spent)) (dVar 0)) (dCons (dU (isiD (isTab tb_Unheard)) (dVar 0)) dNil)))))
    q__law_kinds_12) f_q__law_kinds_11 from (pu_seq (pu_set (pu_op pu_var (pu_lst (pu_cons (pu_u pu_var) (pu_cons (pu_u pu_var) pu_nil))))) pq_q__law_kinds_12)
def f_q__law_kinds_10 : SEnv → Fl := (fSeq (fSet 1 (fOp addD (fVar 1) (fLst (fCons (fU (isiD (isTab tb_NoCell)) (fVar 0)) (fCons (fU (isiD (isTab tb_BadRun)) (fVar 0)) (fun _ => .ok [])))))) f_q__law_kinds_11)
theorem pq_q__law_kinds_10 : PuS q__law_kinds_10 f_q__law_kinds_10 := show PuS (dSeq (dSet 1 (dOp addD (dVar 1) (dLst (dCons (dU (isiD (isTab tb_NoCell)) (dVar 0)) (dCons (dU (isiD (isTab tb_BadRun)) (dVar 0)) dNil)))))
    q__law_kinds_11) f_q__law_kinds_10 from (pu_seq (pu_set (pu_op pu_var (pu_lst (pu_cons (pu_u pu_var) (pu_cons (pu_u pu_var) pu_nil))))) pq_q__law_kinds_11)
def f_q__law_kinds_9 : SEnv → Fl := (fSeq (fSet 1 (fOp addD (fVar 1) (fLst (fCons (fU (isiD (isTab tb_Held)) (fVar 0)) (fCons (fU (isiD (isTab tb_NoCells)) (fVar 0)) (fun _ => .ok [])))))) f_q__law_kinds_10)
theorem pq_q__law_kinds_9 : PuS q__law_kinds_9 f_q__law_kinds_9 := show PuS (dSeq (dSet 1 (dOp addD (dVar 1) (dLst (dCons (dU (isiD (isTab tb_Held)) (dVar 0)) (dCons (dU (isiD (isTab tb_NoCells)) (dVar 0)) dNil)))))
    q__law_kinds_10) f_q__law_kinds_9 from (pu_seq (pu_set (pu_op pu_var (pu_lst (pu_cons (pu_u pu_var) (pu_cons (pu_u pu_var) pu_nil))))) pq_q__law_kinds_10)
def f_q__law_kinds_8 : SEnv → Fl := (fSeq (fSet 1 (fOp addD (fVar 1) (fLst (fCons (fU (isiD (isTab tb_Busy)) (fVar 0)) (fCons (fU (isiD (isTab tb_Idle)) (fVar 0)) (fun _ => .ok [])))))) f_q__law_kinds_9)
theorem pq_q__law_kinds_8 : PuS q__law_kinds_8 f_q__law_kinds_8 := show PuS (dSeq (dSet 1 (dOp addD (dVar 1) (dLst (dCons (dU (isiD (isTab tb_Busy)) (dVar 0)) (dCons (dU (isiD (isTab tb_Idle)) (dVar 0)) dNil)))))
    q__law_kinds_9) f_q__law_kinds_8 from (pu_seq (pu_set (pu_op pu_var (pu_lst (pu_cons (pu_u pu_var) (pu_cons (pu_u pu_var) pu_nil))))) pq_q__law_kinds_9)
def f_q__law_kinds_7 : SEnv → Fl := (fSeq (fSet 1 (fOp addD (fVar 1) (fLst (fCons (fU (isiD (isTab tb_NoVersion)) (fVar 0)) (fCons (fU (isiD (isTab tb_Fallen)) (fVar 0)) (fun _ => .ok [])))))) f_q__law_kinds_8)
theorem pq_q__law_kinds_7 : PuS q__law_kinds_7 f_q__law_kinds_7 := show PuS (dSeq (dSet 1 (dOp addD (dVar 1) (dLst (dCons (dU (isiD (isTab tb_NoVersion)) (dVar 0)) (dCons (dU (isiD (isTab tb_Fallen)) (dVar 0)) dNil)))))
    q__law_kinds_8) f_q__law_kinds_7 from (pu_seq (pu_set (pu_op pu_var (pu_lst (pu_cons (pu_u pu_var) (pu_cons (pu_u pu_var) pu_nil))))) pq_q__law_kinds_8)
def f_q__law_kinds_6 : SEnv → Fl := (fSeq (fSet 1 (fOp addD (fVar 1) (fLst (fCons (fU (isiD (isTab tb_NoLook)) (fVar 0)) (fCons (fU (isiD (isTab tb_NoBases)) (fVar 0)) (fun _ => .ok [])))))) f_q__law_kinds_7)
theorem pq_q__law_kinds_6 : PuS q__law_kinds_6 f_q__law_kinds_6 := show PuS (dSeq (dSet 1 (dOp addD (dVar 1) (dLst (dCons (dU (isiD (isTab tb_NoLook)) (dVar 0)) (dCons (dU (isiD (isTab tb_NoBases)) (dVar 0)) dNil)))))
    q__law_kinds_7) f_q__law_kinds_6 from (pu_seq (pu_set (pu_op pu_var (pu_lst (pu_cons (pu_u pu_var) (pu_cons (pu_u pu_var) pu_nil))))) pq_q__law_kinds_7)
def f_q__law_kinds_5 : SEnv → Fl := (fSeq (fSet 1 (fOp addD (fVar 1) (fLst (fCons (fU (isiD (isTab tb_NoPromise)) (fVar 0)) (fCons (fU (isiD (isTab tb_NoName)) (fVar 0)) (fun _ => .ok [])))))) f_q__law_kinds_6)
theorem pq_q__law_kinds_5 : PuS q__law_kinds_5 f_q__law_kinds_5 := show PuS (dSeq (dSet 1 (dOp addD (dVar 1) (dLst (dCons (dU (isiD (isTab tb_NoPromise)) (dVar 0)) (dCons (dU (isiD (isTab tb_NoName)) (dVar 0)) dNil)))))
    q__law_kinds_6) f_q__law_kinds_5 from (pu_seq (pu_set (pu_op pu_var (pu_lst (pu_cons (pu_u pu_var) (pu_cons (pu_u pu_var) pu_nil))))) pq_q__law_kinds_6)
def f_q__law_kinds_4 : SEnv → Fl := (fSeq (fSet 1 (fOp addD (fVar 1) (fLst (fCons (fU (isiD (isTab tb_NoScheme)) (fVar 0)) (fCons (fU (isiD (isTab tb_NoPlan)) (fVar 0)) (fun _ => .ok [])))))) f_q__law_kinds_5)
theorem pq_q__law_kinds_4 : PuS q__law_kinds_4 f_q__law_kinds_4 := show PuS (dSeq (dSet 1 (dOp addD (dVar 1) (dLst (dCons (dU (isiD (isTab tb_NoScheme)) (dVar 0)) (dCons (dU (isiD (isTab tb_NoPlan)) (dVar 0)) dNil)))))
    q__law_kinds_5) f_q__law_kinds_4 from (pu_seq (pu_set (pu_op pu_var (pu_lst (pu_cons (pu_u pu_var) (pu_cons (pu_u pu_var) pu_nil))))) pq_q__law_kinds_5)
def f_q__law_kinds_3 : SEnv → Fl := (fSeq (fSet 1 (fOp addD (fVar 1) (fLst (fCons (fU (isiD (isTab tb_NoOrder)) (fVar 0)) (fCons (fU (isiD (isTab tb_TooMany)) (fVar 0)) (fun _ => .ok [])))))) f_q__law_kinds_4)
theorem pq_q__law_kinds_3 : PuS q__law_kinds_3 f_q__law_kinds_3 := show PuS (dSeq (dSet 1 (dOp addD (dVar 1) (dLst (dCons (dU (isiD (isTab tb_NoOrder)) (dVar 0)) (dCons (dU (isiD (isTab tb_TooMany)) (dVar 0)) dNil)))))
    q__law_kinds_4) f_q__law_kinds_3 from (pu_seq (pu_set (pu_op pu_var (pu_lst (pu_cons (pu_u pu_var) (pu_cons (pu_u pu_var) pu_nil))))) pq_q__law_kinds_4)
def f_q__law_kinds_2 : SEnv → Fl := (fSeq (fSet 1 (fOp addD (fVar 1) (fLst (fCons (fU (isiD (isTab tb_NoDivisor)) (fVar 0)) (fCons (fU (isiD (isTab tb_NoText)) (fVar 0)) (fun _ => .ok [])))))) f_q__law_kinds_3)
theorem pq_q__law_kinds_2 : PuS q__law_kinds_2 f_q__law_kinds_2 := show PuS (dSeq (dSet 1 (dOp addD (dVar 1) (dLst (dCons (dU (isiD (isTab tb_NoDivisor)) (dVar 0)) (dCons (dU (isiD (isTab tb_NoText)) (dVar 0)) dNil)))))
    q__law_kinds_3) f_q__law_kinds_2 from (pu_seq (pu_set (pu_op pu_var (pu_lst (pu_cons (pu_u pu_var) (pu_cons (pu_u pu_var) pu_nil))))) pq_q__law_kinds_3)
def f_q__law_kinds_1 : SEnv → Fl := (fSeq (fSet 1 (fOp addD (fVar 1) (fLst (fCons (fU (isiD (isTab tb_Overflow)) (fVar 0)) (fCons (fU (isiD (isTab tb_Unlike)) (fVar 0)) (fun _ => .ok [])))))) f_q__law_kinds_2)
theorem pq_q__law_kinds_1 : PuS q__law_kinds_1 f_q__law_kinds_1 := show PuS (dSeq (dSet 1 (dOp addD (dVar 1) (dLst (dCons (dU (isiD (isTab tb_Overflow)) (dVar 0)) (dCons (dU (isiD (isTab tb_Unlike)) (dVar 0)) dNil)))))
    q__law_kinds_2) f_q__law_kinds_1 from (pu_seq (pu_set (pu_op pu_var (pu_lst (pu_cons (pu_u pu_var) (pu_cons (pu_u pu_var) pu_nil))))) pq_q__law_kinds_2)
def f_q__law_kinds_0 : SEnv → Fl := (fSeq (fSet 1 (fLst (fCons (fU (isiD (isTab tb_NoNumeral)) (fVar 0)) (fCons (fU (isiD (isTab tb_NoPlace)) (fVar 0)) (fun _ => .ok []))))) f_q__law_kinds_1)
theorem pq_q__law_kinds_0 : PuS q__law_kinds_0 f_q__law_kinds_0 := show PuS (dSeq (dSet 1 (dLst (dCons (dU (isiD (isTab tb_NoNumeral)) (dVar 0)) (dCons (dU (isiD (isTab tb_NoPlace)) (dVar 0)) dNil))))
    q__law_kinds_1) f_q__law_kinds_0 from (pu_seq (pu_set (pu_lst (pu_cons (pu_u pu_var) (pu_cons (pu_u pu_var) pu_nil)))) pq_q__law_kinds_1)
def F__law_kinds : List D → R D := runF ["_law_thing", "_law_found"] f_q__law_kinds_0
theorem pf__law_kinds : PuF S__law_kinds F__law_kinds := pu_def (t := q__law_kinds_0) pq_q__law_kinds_0
/-! _law_fields -/
abbrev s__law_fields : Stmt := top 42
theorem sc__law_fields : FnScope ["_law_made_so", "_law_found"] ["_law_made_so"] (defScope s__law_fields) := ⟨rfl, rfl, rfl, by decide +kernel, rfl, by decide +kernel, by decide +kernel⟩
def q__law_fields_24 : DS := (dRet (dVar 1))
def q__law_fields_23 : DS := (dSeq (dSet 1 (dOp addD (dVar 1) (dLst (dCons (dU (attrD "line" [] [34]) (dOp ixA (dVar 0) (dC (.int 33)))) (dCons (dU (attrD "word" [] [34]) (dOp ixA (dVar 0) (dC (.int 33)))) dNil)))))
    q__law_fields_24)
def q__law_fields_22 : DS := (dSeq (dSet 1 (dOp addD (dVar 1) (dLst (dCons (dU (attrD "name" [] [12, 14, 15, 16, 33]) (dOp ixA (dVar 0) (dC (.int 32)))) dNil))))
    q__law_fields_23)
def q__law_fields_21 : DS := (dSeq (dSet 1 (dOp addD (dVar 1) (dLst (dCons (dU (attrD "at" [] [1, 6, 9, 10, 22, 28, 29, 30, 32]) (dOp ixA (dVar 0) (dC (.int 31)))) dNil))))
    q__law_fields_22)
def q__law_fields_20 : DS := (dSeq (dSet 1 (dOp addD (dVar 1) (dLst (dCons (dU (attrD "place" [] [2, 16, 31]) (dOp ixA (dVar 0) (dC (.int 30)))) (dCons (dU (attrD "x" [] [31]) (dOp ixA (dVar 0) (dC (.int 30)))) (dCons (dU (attrD "y" [] [31]) (dOp ixA (dVar 0) (dC (.int 30)))) dNil))))))
    q__law_fields_21)
def q__law_fields_19 : DS := (dSeq (dSet 1 (dOp addD (dVar 1) (dLst (dCons (dU (attrD "at" [] [1, 6, 9, 10, 22, 28, 29, 30, 32]) (dOp ixA (dVar 0) (dC (.int 29)))) dNil))))
    q__law_fields_20)
def q__law_fields_18 : DS := (dSeq (dSet 1 (dOp addD (dVar 1) (dLst (dCons (dU (attrD "at" [] [1, 6, 9, 10, 22, 28, 29, 30, 32]) (dOp ixA (dVar 0) (dC (.int 28)))) dNil))))
    q__law_fields_19)
def q__law_fields_17 : DS := (dSeq (dSet 1 (dOp addD (dVar 1) (dLst (dCons (dU (attrD "at" [] [1, 6, 9, 10, 22, 28, 29, 30, 32]) (dOp ixA (dVar 0) (dC (.int 27)))) dNil))))
    q__law_fields_18)
def q__law_fields_16 : DS := (dSeq (dSet 1 (dOp addD (dVar 1) (dLst (dCons (dU (attrD "one" [] [27]) (dOp ixA (dVar 0) (dC (.int 26)))) (dCons (dU (attrD "other" [] [27]) (dOp ixA (dVar 0) (dC (.int 26)))) dNil)))))
    q__law_fields_17)
def q__law_fields_15 : DS := (dSeq (dSet 1 (dOp addD (dVar 1) (dLst (dCons (dU (attrD "reading" [] [25]) (dOp ixA (dVar 0) (dC (.int 24)))) dNil))))
    q__law_fields_16)
def q__law_fields_14 : DS := (dSeq (dSet 1 (dOp addD (dVar 1) (dLst (dCons (dU (attrD "missing" [] [24]) (dOp ixA (dVar 0) (dC (.int 23)))) dNil))))
    q__law_fields_15)
def q__law_fields_13 : DS := (dSeq (dSet 1 (dOp addD (dVar 1) (dLst (dCons (dU (attrD "part" [] [9, 10, 22]) (dOp ixA (dVar 0) (dC (.int 21)))) (dCons (dU (attrD "at" [] [1, 6, 9, 10, 22, 28, 29, 30, 32]) (dOp ixA (dVar 0) (dC (.int 21)))) dNil)))))
    q__law_fields_14)
def q__law_fields_12 : DS := (dSeq (dSet 1 (dOp addD (dVar 1) (dLst (dCons (dU (attrD "name" [] [12, 14, 15, 16, 33]) (dOp ixA (dVar 0) (dC (.int 15)))) (dCons (dU (attrD "place" [] [2, 16, 31]) (dOp ixA (dVar 0) (dC (.int 15)))) dNil)))))
    q__law_fields_13)
def q__law_fields_11 : DS := (dSeq (dSet 1 (dOp addD (dVar 1) (dLst (dCons (dU (attrD "name" [] [12, 14, 15, 16, 33]) (dOp ixA (dVar 0) (dC (.int 14)))) dNil))))
    q__law_fields_12)
def q__law_fields_10 : DS := (dSeq (dSet 1 (dOp addD (dVar 1) (dLst (dCons (dU (attrD "name" [] [12, 14, 15, 16, 33]) (dOp ixA (dVar 0) (dC (.int 13)))) dNil))))
    q__law_fields_11)
def q__law_fields_9 : DS := (dSeq (dSet 1 (dOp addD (dVar 1) (dLst (dCons (dU (attrD "name" [] [12, 14, 15, 16, 33]) (dOp ixA (dVar 0) (dC (.int 11)))) dNil))))
    q__law_fields_10)
def q__law_fields_8 : DS := (dSeq (dSet 1 (dOp addD (dVar 1) (dLst (dCons (dU (attrD "promise" [] [11]) (dOp ixA (dVar 0) (dC (.int 10)))) dNil))))
    q__law_fields_9)
def q__law_fields_7 : DS := (dSeq (dSet 1 (dOp addD (dVar 1) (dLst (dCons (dU (attrD "part" [] [9, 10, 22]) (dOp ixA (dVar 0) (dC (.int 9)))) (dCons (dU (attrD "at" [] [1, 6, 9, 10, 22, 28, 29, 30, 32]) (dOp ixA (dVar 0) (dC (.int 9)))) dNil)))))
    q__law_fields_8)
def q__law_fields_6 : DS := (dSeq (dSet 1 (dOp addD (dVar 1) (dLst (dCons (dU (attrD "part" [] [9, 10, 22]) (dOp ixA (dVar 0) (dC (.int 8)))) (dCons (dU (attrD "at" [] [1, 6, 9, 10, 22, 28, 29, 30, 32]) (dOp ixA (dVar 0) (dC (.int 8)))) dNil)))))
    q__law_fields_7)
def q__law_fields_5 : DS := (dSeq (dSet 1 (dOp addD (dVar 1) (dLst (dCons (dU (attrD "most" [] [8]) (dOp ixA (dVar 0) (dC (.int 7)))) dNil))))
    q__law_fields_6)
def q__law_fields_4 : DS := (dSeq (dSet 1 (dOp addD (dVar 1) (dLst (dCons (dU (attrD "at" [] [1, 6, 9, 10, 22, 28, 29, 30, 32]) (dOp ixA (dVar 0) (dC (.int 5)))) dNil))))
    q__law_fields_5)
def q__law_fields_3 : DS := (dSeq (dSet 1 (dOp addD (dVar 1) (dLst (dCons (dU (attrD "value" [] [3]) (dOp ixA (dVar 0) (dC (.int 2)))) dNil))))
    q__law_fields_4)
def q__law_fields_2 : DS := (dSeq (dSet 1 (dOp addD (dVar 1) (dLst (dCons (dU (attrD "place" [] [2, 16, 31]) (dOp ixA (dVar 0) (dC (.int 1)))) dNil))))
    q__law_fields_3)
def q__law_fields_1 : DS := (dSeq (dSet 1 (dOp addD (dVar 1) (dLst (dCons (dU (attrD "at" [] [1, 6, 9, 10, 22, 28, 29, 30, 32]) (dOp ixA (dVar 0) (dC (.int 0)))) dNil))))
    q__law_fields_2)
def q__law_fields_0 : DS := (dSeq (dSet 1 (dLst dNil))
    q__law_fields_1)
def t__law_fields : DS := q__law_fields_0
def S__law_fields : DSp := specOf ["_law_made_so", "_law_found"] t__law_fields
theorem ok__law_fields {f : Addr} {fd : FuncData} (F : Fun K "_law_fields" "_law_fields" s__law_fields f fd) (M : Mg B P w K mg base)  : FnG P w K mg base 1 f fd ["_law_made_so"] (spOf B K 1 S__law_fields) :=
  def_ok F sc__law_fields (fun cdv A outer s H E C => (wb_cons (ws_set sc__law_fields.nd rfl (by first | exact .inl rfl | exact .inr rfl) (we_lst wa_nil))
    (wb_cons (ws_set sc__law_fields.nd rfl (by first | exact .inl rfl | exact .inr rfl) (e_add (wv 1) (we_lst (wa_cons (we_attr M.at_at (e_ix C (wv 0) we_int)) wa_nil))))
    (wb_cons (ws_set sc__law_fields.nd rfl (by first | exact .inl rfl | exact .inr rfl) (e_add (wv 1) (we_lst (wa_cons (we_attr M.at_place (e_ix C (wv 0) we_int)) wa_nil))))
    (wb_cons (ws_set sc__law_fields.nd rfl (by first | exact .inl rfl | exact .inr rfl) (e_add (wv 1) (we_lst (wa_cons (we_attr M.at_value (e_ix C (wv 0) we_int)) wa_nil))))
    (wb_cons (ws_set sc__law_fields.nd rfl (by first | exact .inl rfl | exact .inr rfl) (e_add (wv 1) (we_lst (wa_cons (we_attr M.at_at (e_ix C (wv 0) we_int)) wa_nil))))
    (wb_cons (ws_set sc__law_fields.nd rfl (by first | exact .inl rfl | exact .inr rfl) (e_add (wv 1) (we_lst (wa_cons (we_attr M.at_most (e_ix C (wv 0) we_int)) wa_nil))))
    (wb_cons (ws_set sc__law_fields.nd rfl (by first | exact .inl rfl | exact .inr rfl) (e_add (wv 1) (we_lst (wa_cons (we_attr M.at_part (e_ix C (wv 0) we_int)) (wa_cons (we_attr M.at_at (e_ix C (wv 0) we_int)) wa_nil)))))
    (wb_cons (ws_set sc__law_fields.nd rfl (by first | exact .inl rfl | exact .inr rfl) (e_add (wv 1) (we_lst (wa_cons (we_attr M.at_part (e_ix C (wv 0) we_int)) (wa_cons (we_attr M.at_at (e_ix C (wv 0) we_int)) wa_nil)))))
    (wb_cons (ws_set sc__law_fields.nd rfl (by first | exact .inl rfl | exact .inr rfl) (e_add (wv 1) (we_lst (wa_cons (we_attr M.at_promise (e_ix C (wv 0) we_int)) wa_nil))))
    (wb_cons (ws_set sc__law_fields.nd rfl (by first | exact .inl rfl | exact .inr rfl) (e_add (wv 1) (we_lst (wa_cons (we_attr M.at_name (e_ix C (wv 0) we_int)) wa_nil))))
    (wb_cons (ws_set sc__law_fields.nd rfl (by first | exact .inl rfl | exact .inr rfl) (e_add (wv 1) (we_lst (wa_cons (we_attr M.at_name (e_ix C (wv 0) we_int)) wa_nil))))
    (wb_cons (ws_set sc__law_fields.nd rfl (by first | exact .inl rfl | exact .inr rfl) (e_add (wv 1) (we_lst (wa_cons (we_attr M.at_name (e_ix C (wv 0) we_int)) wa_nil))))
    (wb_cons (ws_set sc__law_fields.nd rfl (by first | exact .inl rfl | exact .inr rfl) (e_add (wv 1) (we_lst (wa_cons (we_attr M.at_name (e_ix C (wv 0) we_int)) (wa_cons (we_attr M.at_place (e_ix C (wv 0) we_int)) wa_nil)))))
    (wb_cons (ws_set sc__law_fields.nd rfl (by first | exact .inl rfl | exact .inr rfl) (e_add (wv 1) (we_lst (wa_cons (we_attr M.at_part (e_ix C (wv 0) we_int)) (wa_cons (we_attr M.at_at (e_ix C (wv 0) we_int)) wa_nil)))))
    (wb_cons (ws_set sc__law_fields.nd rfl (by first | exact .inl rfl | exact .inr rfl) (e_add (wv 1) (we_lst (wa_cons (we_attr M.at_missing (e_ix C (wv 0) we_int)) wa_nil))))
    (wb_cons (ws_set sc__law_fields.nd rfl (by first | exact .inl rfl | exact .inr rfl) (e_add (wv 1) (we_lst (wa_cons (we_attr M.at_reading (e_ix C (wv 0) we_int)) wa_nil))))
    (wb_cons (ws_set sc__law_fields.nd rfl (by first | exact .inl rfl | exact .inr rfl) (e_add (wv 1) (we_lst (wa_cons (we_attr M.at_one (e_ix C (wv 0) we_int)) (wa_cons (we_attr M.at_other (e_ix C (wv 0) we_int)) wa_nil)))))
    (wb_cons (ws_set sc__law_fields.nd rfl (by first | exact .inl rfl | exact .inr rfl) (e_add (wv 1) (we_lst (wa_cons (we_attr M.at_at (e_ix C (wv 0) we_int)) wa_nil))))
    (wb_cons (ws_set sc__law_fields.nd rfl (by first | exact .inl rfl | exact .inr rfl) (e_add (wv 1) (we_lst (wa_cons (we_attr M.at_at (e_ix C (wv 0) we_int)) wa_nil))))
    (wb_cons (ws_set sc__law_fields.nd rfl (by first | exact .inl rfl | exact .inr rfl) (e_add (wv 1) (we_lst (wa_cons (we_attr M.at_at (e_ix C (wv 0) we_int)) wa_nil))))
    (wb_cons (ws_set sc__law_fields.nd rfl (by first | exact .inl rfl | exact .inr rfl) (e_add (wv 1) (we_lst (wa_cons (we_attr M.at_place (e_ix C (wv 0) we_int)) (wa_cons (we_attr M.at_x (e_ix C (wv 0) we_int)) (wa_cons (we_attr M.at_y (e_ix C (wv 0) we_int)) wa_nil))))))
    (wb_cons (ws_set sc__law_fields.nd rfl (by first | exact .inl rfl | exact .inr rfl) (e_add (wv 1) (we_lst (wa_cons (we_attr M.at_at (e_ix C (wv 0) we_int)) wa_nil))))
    (wb_cons (ws_set sc__law_fields.nd rfl (by first | exact .inl rfl | exact .inr rfl) (e_add (wv 1) (we_lst (wa_cons (we_attr M.at_name (e_ix C (wv 0) we_int)) wa_nil))))
    (wb_cons (ws_set sc__law_fields.nd rfl (by first | exact .inl rfl | exact .inr rfl) (e_add (wv 1) (we_lst (wa_cons (we_attr M.at_line (e_ix C (wv 0) we_int)) (wa_cons (we_attr M.at_word (e_ix C (wv 0) we_int)) wa_nil)))))
    (wb_one (ws_ret (wv 1)))))))))))))))))))))))))))) keeps_self
def f_q__law_fields_24 : SEnv → Fl := (fRet (fVar 1))
theorem pq_q__law_fields_24 : PuS q__law_fields_24 f_q__law_fields_24 := show PuS (dRet (dVar 1)) f_q__law_fields_24 from (pu_ret pu_var)
def f_q__law_fields_23 : SEnv → Fl := (fSeq (fSet 1 (fOp addD (fVar 1) (fLst (fCons (fU (attrD "line" [] [34]) (fOp ixA (fVar 0) (fC (.int 33)))) (fCons (fU (attrD "word" [] [34]) (fOp ixA (fVar 0) (fC (.int 33)))) (fun _ => .ok [])))))) f_q__law_fields_24)
theorem pq_q__law_fields_23 : PuS q__law_fields_23 f_q__law_fields_23 := show PuS (dSeq (dSet 1 (dOp addD (dVar 1) (dLst (dCons (dU (attrD "line" [] [34]) (dOp ixA (dVar 0) (dC (.int 33)))) (dCons (dU (attrD "word" [] [34]) (dOp ixA (dVar 0) (dC (.int 33)))) dNil)))))
    q__law_fields_24) f_q__law_fields_23 from (pu_seq (pu_set (pu_op pu_var (pu_lst (pu_cons (pu_u (pu_op pu_var pu_c)) (pu_cons (pu_u (pu_op pu_var pu_c)) pu_nil))))) pq_q__law_fields_24)
def f_q__law_fields_22 : SEnv → Fl := (fSeq (fSet 1 (fOp addD (fVar 1) (fLst (fCons (fU (attrD "name" [] [12, 14, 15, 16, 33]) (fOp ixA (fVar 0) (fC (.int 32)))) (fun _ => .ok []))))) f_q__law_fields_23)
theorem pq_q__law_fields_22 : PuS q__law_fields_22 f_q__law_fields_22 := show PuS (dSeq (dSet 1 (dOp addD (dVar 1) (dLst (dCons (dU (attrD "name" [] [12, 14, 15, 16, 33]) (dOp ixA (dVar 0) (dC (.int 32)))) dNil))))
    q__law_fields_23) f_q__law_fields_22 from (pu_seq (pu_set (pu_op pu_var (pu_lst (pu_cons (pu_u (pu_op pu_var pu_c)) pu_nil)))) pq_q__law_fields_23)
def f_q__law_fields_21 : SEnv → Fl := (fSeq (fSet 1 (fOp addD (fVar 1) (fLst (fCons (fU (attrD "at" [] [1, 6, 9, 10, 22, 28, 29, 30, 32]) (fOp ixA (fVar 0) (fC (.int 31)))) (fun _ => .ok []))))) f_q__law_fields_22)
theorem pq_q__law_fields_21 : PuS q__law_fields_21 f_q__law_fields_21 := show PuS (dSeq (dSet 1 (dOp addD (dVar 1) (dLst (dCons (dU (attrD "at" [] [1, 6, 9, 10, 22, 28, 29, 30, 32]) (dOp ixA (dVar 0) (dC (.int 31)))) dNil))))
    q__law_fields_22) f_q__law_fields_21 from (pu_seq (pu_set (pu_op pu_var (pu_lst (pu_cons (pu_u (pu_op pu_var pu_c)) pu_nil)))) pq_q__law_fields_22)
def f_q__law_fields_20 : SEnv → Fl := (fSeq (fSet 1 (fOp addD (fVar 1) (fLst (fCons (fU (attrD "place" [] [2, 16, 31]) (fOp ixA (fVar 0) (fC (.int 30)))) (fCons (fU (attrD "x" [] [31]) (fOp ixA (fVar 0) (fC (.int 30)))) (fCons (fU (attrD "y" [] [31]) (fOp ixA (fVar 0) (fC (.int 30)))) (fun _ => .ok []))))))) f_q__law_fields_21)
theorem pq_q__law_fields_20 : PuS q__law_fields_20 f_q__law_fields_20 := show PuS (dSeq (dSet 1 (dOp addD (dVar 1) (dLst (dCons (dU (attrD "place" [] [2, 16, 31]) (dOp ixA (dVar 0) (dC (.int 30)))) (dCons (dU (attrD "x" [] [31]) (dOp ixA (dVar 0) (dC (.int 30)))) (dCons (dU (attrD "y" [] [31]) (dOp ixA (dVar 0) (dC (.int 30)))) dNil))))))
    q__law_fields_21) f_q__law_fields_20 from (pu_seq (pu_set (pu_op pu_var (pu_lst (pu_cons (pu_u (pu_op pu_var pu_c)) (pu_cons (pu_u (pu_op pu_var pu_c)) (pu_cons (pu_u (pu_op pu_var pu_c)) pu_nil)))))) pq_q__law_fields_21)
def f_q__law_fields_19 : SEnv → Fl := (fSeq (fSet 1 (fOp addD (fVar 1) (fLst (fCons (fU (attrD "at" [] [1, 6, 9, 10, 22, 28, 29, 30, 32]) (fOp ixA (fVar 0) (fC (.int 29)))) (fun _ => .ok []))))) f_q__law_fields_20)
theorem pq_q__law_fields_19 : PuS q__law_fields_19 f_q__law_fields_19 := show PuS (dSeq (dSet 1 (dOp addD (dVar 1) (dLst (dCons (dU (attrD "at" [] [1, 6, 9, 10, 22, 28, 29, 30, 32]) (dOp ixA (dVar 0) (dC (.int 29)))) dNil))))
    q__law_fields_20) f_q__law_fields_19 from (pu_seq (pu_set (pu_op pu_var (pu_lst (pu_cons (pu_u (pu_op pu_var pu_c)) pu_nil)))) pq_q__law_fields_20)
def f_q__law_fields_18 : SEnv → Fl := (fSeq (fSet 1 (fOp addD (fVar 1) (fLst (fCons (fU (attrD "at" [] [1, 6, 9, 10, 22, 28, 29, 30, 32]) (fOp ixA (fVar 0) (fC (.int 28)))) (fun _ => .ok []))))) f_q__law_fields_19)
theorem pq_q__law_fields_18 : PuS q__law_fields_18 f_q__law_fields_18 := show PuS (dSeq (dSet 1 (dOp addD (dVar 1) (dLst (dCons (dU (attrD "at" [] [1, 6, 9, 10, 22, 28, 29, 30, 32]) (dOp ixA (dVar 0) (dC (.int 28)))) dNil))))
    q__law_fields_19) f_q__law_fields_18 from (pu_seq (pu_set (pu_op pu_var (pu_lst (pu_cons (pu_u (pu_op pu_var pu_c)) pu_nil)))) pq_q__law_fields_19)
def f_q__law_fields_17 : SEnv → Fl := (fSeq (fSet 1 (fOp addD (fVar 1) (fLst (fCons (fU (attrD "at" [] [1, 6, 9, 10, 22, 28, 29, 30, 32]) (fOp ixA (fVar 0) (fC (.int 27)))) (fun _ => .ok []))))) f_q__law_fields_18)
theorem pq_q__law_fields_17 : PuS q__law_fields_17 f_q__law_fields_17 := show PuS (dSeq (dSet 1 (dOp addD (dVar 1) (dLst (dCons (dU (attrD "at" [] [1, 6, 9, 10, 22, 28, 29, 30, 32]) (dOp ixA (dVar 0) (dC (.int 27)))) dNil))))
    q__law_fields_18) f_q__law_fields_17 from (pu_seq (pu_set (pu_op pu_var (pu_lst (pu_cons (pu_u (pu_op pu_var pu_c)) pu_nil)))) pq_q__law_fields_18)
def f_q__law_fields_16 : SEnv → Fl := (fSeq (fSet 1 (fOp addD (fVar 1) (fLst (fCons (fU (attrD "one" [] [27]) (fOp ixA (fVar 0) (fC (.int 26)))) (fCons (fU (attrD "other" [] [27]) (fOp ixA (fVar 0) (fC (.int 26)))) (fun _ => .ok [])))))) f_q__law_fields_17)
theorem pq_q__law_fields_16 : PuS q__law_fields_16 f_q__law_fields_16 := show PuS (dSeq (dSet 1 (dOp addD (dVar 1) (dLst (dCons (dU (attrD "one" [] [27]) (dOp ixA (dVar 0) (dC (.int 26)))) (dCons (dU (attrD "other" [] [27]) (dOp ixA (dVar 0) (dC (.int 26)))) dNil)))))
    q__law_fields_17) f_q__law_fields_16 from (pu_seq (pu_set (pu_op pu_var (pu_lst (pu_cons (pu_u (pu_op pu_var pu_c)) (pu_cons (pu_u (pu_op pu_var pu_c)) pu_nil))))) pq_q__law_fields_17)
def f_q__law_fields_15 : SEnv → Fl := (fSeq (fSet 1 (fOp addD (fVar 1) (fLst (fCons (fU (attrD "reading" [] [25]) (fOp ixA (fVar 0) (fC (.int 24)))) (fun _ => .ok []))))) f_q__law_fields_16)
theorem pq_q__law_fields_15 : PuS q__law_fields_15 f_q__law_fields_15 := show PuS (dSeq (dSet 1 (dOp addD (dVar 1) (dLst (dCons (dU (attrD "reading" [] [25]) (dOp ixA (dVar 0) (dC (.int 24)))) dNil))))
    q__law_fields_16) f_q__law_fields_15 from (pu_seq (pu_set (pu_op pu_var (pu_lst (pu_cons (pu_u (pu_op pu_var pu_c)) pu_nil)))) pq_q__law_fields_16)
def f_q__law_fields_14 : SEnv → Fl := (fSeq (fSet 1 (fOp addD (fVar 1) (fLst (fCons (fU (attrD "missing" [] [24]) (fOp ixA (fVar 0) (fC (.int 23)))) (fun _ => .ok []))))) f_q__law_fields_15)
theorem pq_q__law_fields_14 : PuS q__law_fields_14 f_q__law_fields_14 := show PuS (dSeq (dSet 1 (dOp addD (dVar 1) (dLst (dCons (dU (attrD "missing" [] [24]) (dOp ixA (dVar 0) (dC (.int 23)))) dNil))))
    q__law_fields_15) f_q__law_fields_14 from (pu_seq (pu_set (pu_op pu_var (pu_lst (pu_cons (pu_u (pu_op pu_var pu_c)) pu_nil)))) pq_q__law_fields_15)
def f_q__law_fields_13 : SEnv → Fl := (fSeq (fSet 1 (fOp addD (fVar 1) (fLst (fCons (fU (attrD "part" [] [9, 10, 22]) (fOp ixA (fVar 0) (fC (.int 21)))) (fCons (fU (attrD "at" [] [1, 6, 9, 10, 22, 28, 29, 30, 32]) (fOp ixA (fVar 0) (fC (.int 21)))) (fun _ => .ok [])))))) f_q__law_fields_14)
theorem pq_q__law_fields_13 : PuS q__law_fields_13 f_q__law_fields_13 := show PuS (dSeq (dSet 1 (dOp addD (dVar 1) (dLst (dCons (dU (attrD "part" [] [9, 10, 22]) (dOp ixA (dVar 0) (dC (.int 21)))) (dCons (dU (attrD "at" [] [1, 6, 9, 10, 22, 28, 29, 30, 32]) (dOp ixA (dVar 0) (dC (.int 21)))) dNil)))))
    q__law_fields_14) f_q__law_fields_13 from (pu_seq (pu_set (pu_op pu_var (pu_lst (pu_cons (pu_u (pu_op pu_var pu_c)) (pu_cons (pu_u (pu_op pu_var pu_c)) pu_nil))))) pq_q__law_fields_14)
def f_q__law_fields_12 : SEnv → Fl := (fSeq (fSet 1 (fOp addD (fVar 1) (fLst (fCons (fU (attrD "name" [] [12, 14, 15, 16, 33]) (fOp ixA (fVar 0) (fC (.int 15)))) (fCons (fU (attrD "place" [] [2, 16, 31]) (fOp ixA (fVar 0) (fC (.int 15)))) (fun _ => .ok [])))))) f_q__law_fields_13)
theorem pq_q__law_fields_12 : PuS q__law_fields_12 f_q__law_fields_12 := show PuS (dSeq (dSet 1 (dOp addD (dVar 1) (dLst (dCons (dU (attrD "name" [] [12, 14, 15, 16, 33]) (dOp ixA (dVar 0) (dC (.int 15)))) (dCons (dU (attrD "place" [] [2, 16, 31]) (dOp ixA (dVar 0) (dC (.int 15)))) dNil)))))
    q__law_fields_13) f_q__law_fields_12 from (pu_seq (pu_set (pu_op pu_var (pu_lst (pu_cons (pu_u (pu_op pu_var pu_c)) (pu_cons (pu_u (pu_op pu_var pu_c)) pu_nil))))) pq_q__law_fields_13)
def f_q__law_fields_11 : SEnv → Fl := (fSeq (fSet 1 (fOp addD (fVar 1) (fLst (fCons (fU (attrD "name" [] [12, 14, 15, 16, 33]) (fOp ixA (fVar 0) (fC (.int 14)))) (fun _ => .ok []))))) f_q__law_fields_12)
theorem pq_q__law_fields_11 : PuS q__law_fields_11 f_q__law_fields_11 := show PuS (dSeq (dSet 1 (dOp addD (dVar 1) (dLst (dCons (dU (attrD "name" [] [12, 14, 15, 16, 33]) (dOp ixA (dVar 0) (dC (.int 14)))) dNil))))
    q__law_fields_12) f_q__law_fields_11 from (pu_seq (pu_set (pu_op pu_var (pu_lst (pu_cons (pu_u (pu_op pu_var pu_c)) pu_nil)))) pq_q__law_fields_12)
def f_q__law_fields_10 : SEnv → Fl := (fSeq (fSet 1 (fOp addD (fVar 1) (fLst (fCons (fU (attrD "name" [] [12, 14, 15, 16, 33]) (fOp ixA (fVar 0) (fC (.int 13)))) (fun _ => .ok []))))) f_q__law_fields_11)
theorem pq_q__law_fields_10 : PuS q__law_fields_10 f_q__law_fields_10 := show PuS (dSeq (dSet 1 (dOp addD (dVar 1) (dLst (dCons (dU (attrD "name" [] [12, 14, 15, 16, 33]) (dOp ixA (dVar 0) (dC (.int 13)))) dNil))))
    q__law_fields_11) f_q__law_fields_10 from (pu_seq (pu_set (pu_op pu_var (pu_lst (pu_cons (pu_u (pu_op pu_var pu_c)) pu_nil)))) pq_q__law_fields_11)
def f_q__law_fields_9 : SEnv → Fl := (fSeq (fSet 1 (fOp addD (fVar 1) (fLst (fCons (fU (attrD "name" [] [12, 14, 15, 16, 33]) (fOp ixA (fVar 0) (fC (.int 11)))) (fun _ => .ok []))))) f_q__law_fields_10)
theorem pq_q__law_fields_9 : PuS q__law_fields_9 f_q__law_fields_9 := show PuS (dSeq (dSet 1 (dOp addD (dVar 1) (dLst (dCons (dU (attrD "name" [] [12, 14, 15, 16, 33]) (dOp ixA (dVar 0) (dC (.int 11)))) dNil))))
    q__law_fields_10) f_q__law_fields_9 from (pu_seq (pu_set (pu_op pu_var (pu_lst (pu_cons (pu_u (pu_op pu_var pu_c)) pu_nil)))) pq_q__law_fields_10)
def f_q__law_fields_8 : SEnv → Fl := (fSeq (fSet 1 (fOp addD (fVar 1) (fLst (fCons (fU (attrD "promise" [] [11]) (fOp ixA (fVar 0) (fC (.int 10)))) (fun _ => .ok []))))) f_q__law_fields_9)
theorem pq_q__law_fields_8 : PuS q__law_fields_8 f_q__law_fields_8 := show PuS (dSeq (dSet 1 (dOp addD (dVar 1) (dLst (dCons (dU (attrD "promise" [] [11]) (dOp ixA (dVar 0) (dC (.int 10)))) dNil))))
    q__law_fields_9) f_q__law_fields_8 from (pu_seq (pu_set (pu_op pu_var (pu_lst (pu_cons (pu_u (pu_op pu_var pu_c)) pu_nil)))) pq_q__law_fields_9)
def f_q__law_fields_7 : SEnv → Fl := (fSeq (fSet 1 (fOp addD (fVar 1) (fLst (fCons (fU (attrD "part" [] [9, 10, 22]) (fOp ixA (fVar 0) (fC (.int 9)))) (fCons (fU (attrD "at" [] [1, 6, 9, 10, 22, 28, 29, 30, 32]) (fOp ixA (fVar 0) (fC (.int 9)))) (fun _ => .ok [])))))) f_q__law_fields_8)
theorem pq_q__law_fields_7 : PuS q__law_fields_7 f_q__law_fields_7 := show PuS (dSeq (dSet 1 (dOp addD (dVar 1) (dLst (dCons (dU (attrD "part" [] [9, 10, 22]) (dOp ixA (dVar 0) (dC (.int 9)))) (dCons (dU (attrD "at" [] [1, 6, 9, 10, 22, 28, 29, 30, 32]) (dOp ixA (dVar 0) (dC (.int 9)))) dNil)))))
    q__law_fields_8) f_q__law_fields_7 from (pu_seq (pu_set (pu_op pu_var (pu_lst (pu_cons (pu_u (pu_op pu_var pu_c)) (pu_cons (pu_u (pu_op pu_var pu_c)) pu_nil))))) pq_q__law_fields_8)
def f_q__law_fields_6 : SEnv → Fl := (fSeq (fSet 1 (fOp addD (fVar 1) (fLst (fCons (fU (attrD "part" [] [9, 10, 22]) (fOp ixA (fVar 0) (fC (.int 8)))) (fCons (fU (attrD "at" [] [1, 6, 9, 10, 22, 28, 29, 30, 32]) (fOp ixA (fVar 0) (fC (.int 8)))) (fun _ => .ok [])))))) f_q__law_fields_7)
theorem pq_q__law_fields_6 : PuS q__law_fields_6 f_q__law_fields_6 := show PuS (dSeq (dSet 1 (dOp addD (dVar 1) (dLst (dCons (dU (attrD "part" [] [9, 10, 22]) (dOp ixA (dVar 0) (dC (.int 8)))) (dCons (dU (attrD "at" [] [1, 6, 9, 10, 22, 28, 29, 30, 32]) (dOp ixA (dVar 0) (dC (.int 8)))) dNil)))))
    q__law_fields_7) f_q__law_fields_6 from (pu_seq (pu_set (pu_op pu_var (pu_lst (pu_cons (pu_u (pu_op pu_var pu_c)) (pu_cons (pu_u (pu_op pu_var pu_c)) pu_nil))))) pq_q__law_fields_7)
def f_q__law_fields_5 : SEnv → Fl := (fSeq (fSet 1 (fOp addD (fVar 1) (fLst (fCons (fU (attrD "most" [] [8]) (fOp ixA (fVar 0) (fC (.int 7)))) (fun _ => .ok []))))) f_q__law_fields_6)
theorem pq_q__law_fields_5 : PuS q__law_fields_5 f_q__law_fields_5 := show PuS (dSeq (dSet 1 (dOp addD (dVar 1) (dLst (dCons (dU (attrD "most" [] [8]) (dOp ixA (dVar 0) (dC (.int 7)))) dNil))))
    q__law_fields_6) f_q__law_fields_5 from (pu_seq (pu_set (pu_op pu_var (pu_lst (pu_cons (pu_u (pu_op pu_var pu_c)) pu_nil)))) pq_q__law_fields_6)
def f_q__law_fields_4 : SEnv → Fl := (fSeq (fSet 1 (fOp addD (fVar 1) (fLst (fCons (fU (attrD "at" [] [1, 6, 9, 10, 22, 28, 29, 30, 32]) (fOp ixA (fVar 0) (fC (.int 5)))) (fun _ => .ok []))))) f_q__law_fields_5)
theorem pq_q__law_fields_4 : PuS q__law_fields_4 f_q__law_fields_4 := show PuS (dSeq (dSet 1 (dOp addD (dVar 1) (dLst (dCons (dU (attrD "at" [] [1, 6, 9, 10, 22, 28, 29, 30, 32]) (dOp ixA (dVar 0) (dC (.int 5)))) dNil))))
    q__law_fields_5) f_q__law_fields_4 from (pu_seq (pu_set (pu_op pu_var (pu_lst (pu_cons (pu_u (pu_op pu_var pu_c)) pu_nil)))) pq_q__law_fields_5)
def f_q__law_fields_3 : SEnv → Fl := (fSeq (fSet 1 (fOp addD (fVar 1) (fLst (fCons (fU (attrD "value" [] [3]) (fOp ixA (fVar 0) (fC (.int 2)))) (fun _ => .ok []))))) f_q__law_fields_4)
theorem pq_q__law_fields_3 : PuS q__law_fields_3 f_q__law_fields_3 := show PuS (dSeq (dSet 1 (dOp addD (dVar 1) (dLst (dCons (dU (attrD "value" [] [3]) (dOp ixA (dVar 0) (dC (.int 2)))) dNil))))
    q__law_fields_4) f_q__law_fields_3 from (pu_seq (pu_set (pu_op pu_var (pu_lst (pu_cons (pu_u (pu_op pu_var pu_c)) pu_nil)))) pq_q__law_fields_4)
def f_q__law_fields_2 : SEnv → Fl := (fSeq (fSet 1 (fOp addD (fVar 1) (fLst (fCons (fU (attrD "place" [] [2, 16, 31]) (fOp ixA (fVar 0) (fC (.int 1)))) (fun _ => .ok []))))) f_q__law_fields_3)
theorem pq_q__law_fields_2 : PuS q__law_fields_2 f_q__law_fields_2 := show PuS (dSeq (dSet 1 (dOp addD (dVar 1) (dLst (dCons (dU (attrD "place" [] [2, 16, 31]) (dOp ixA (dVar 0) (dC (.int 1)))) dNil))))
    q__law_fields_3) f_q__law_fields_2 from (pu_seq (pu_set (pu_op pu_var (pu_lst (pu_cons (pu_u (pu_op pu_var pu_c)) pu_nil)))) pq_q__law_fields_3)
def f_q__law_fields_1 : SEnv → Fl := (fSeq (fSet 1 (fOp addD (fVar 1) (fLst (fCons (fU (attrD "at" [] [1, 6, 9, 10, 22, 28, 29, 30, 32]) (fOp ixA (fVar 0) (fC (.int 0)))) (fun _ => .ok []))))) f_q__law_fields_2)
theorem pq_q__law_fields_1 : PuS q__law_fields_1 f_q__law_fields_1 := show PuS (dSeq (dSet 1 (dOp addD (dVar 1) (dLst (dCons (dU (attrD "at" [] [1, 6, 9, 10, 22, 28, 29, 30, 32]) (dOp ixA (dVar 0) (dC (.int 0)))) dNil))))
    q__law_fields_2) f_q__law_fields_1 from (pu_seq (pu_set (pu_op pu_var (pu_lst (pu_cons (pu_u (pu_op pu_var pu_c)) pu_nil)))) pq_q__law_fields_2)
def f_q__law_fields_0 : SEnv → Fl := (fSeq (fSet 1 (fLst (fun _ => .ok []))) f_q__law_fields_1)
theorem pq_q__law_fields_0 : PuS q__law_fields_0 f_q__law_fields_0 := show PuS (dSeq (dSet 1 (dLst dNil))
    q__law_fields_1) f_q__law_fields_0 from (pu_seq (pu_set (pu_lst pu_nil)) pq_q__law_fields_1)
def F__law_fields : List D → R D := runF ["_law_made_so", "_law_found"] f_q__law_fields_0
theorem pf__law_fields : PuF S__law_fields F__law_fields := pu_def (t := q__law_fields_0) pq_q__law_fields_0
/-! law -/
abbrev s_law : Stmt := top 43
theorem sc_law : FnScope ["_law_script", "_law_pen_here", "_law_values", "_law_turn", "_law_some", "_law_made_so", "_law_k", "_law_due", "_law_count", "_law_kinds_here"] ["_law_script"] (defScope s_law) := ⟨rfl, rfl, rfl, by decide +kernel, rfl, by decide +kernel, by decide +kernel⟩
def lb2_law_2 : DS := (dIfS (dNotT (dTest (dU (isiD (isTab tb_ValueError)) (dOp ixA (dVar 5) (dVar 6)))))
    (dRet (dC (.bl false)))
    dNext)
def lb2_law_1 : DS := (dSeq (dIfS (dOrT (dTest (dOp (eqA true) (dM isLst countD (dVar 9) (dC (.bl true))) (dC (.int 1)))) (dOrT (dNotT (dTest (dOp ixA (dVar 9) (dVar 6)))) (dNotT (dTest (dU (isiD (isTab tb_RisingError)) (dOp ixA (dVar 5) (dVar 6)))))))
    (dRet (dC (.bl false)))
    dNext)
    lb2_law_2)
def lb2_law_0 : DS := (dSeq (dSet 9 (dCall S__law_kinds (dCons (dOp ixA (dVar 5) (dVar 6)) dNil)))
    lb2_law_1)
def lb3_law_0 : DS := (dSet 7 (dOp addD (dVar 7) (dSl (dVar 4) dNoPart (dPart (dVar 8)))))
def lb1_law_5 : DS := (dIfS (dTest (dOp (eqA true) (dFn reprD (dCons (dCall S__law_fields (dCons (dVar 5) dNil)) dNil)) (dFn reprD (dCons (dVar 7) dNil))))
    (dRet (dC (.bl false)))
    dNext)
def lb1_law_4 : DS := (dSeq (dFor (dList (dLst (dCons (dC (.int 1)) (dCons (dC (.int 1)) (dCons (dC (.int 1)) (dCons (dC (.int 1)) (dCons (dC (.int 1)) (dCons (dC (.int 2)) (dCons (dC (.int 2)) (dCons (dC (.int 1)) (dCons (dC (.int 1)) (dCons (dC (.int 1)) (dCons (dC (.int 1)) (dCons (dC (.int 2)) (dCons (dC (.int 2)) (dCons (dC (.int 1)) (dCons (dC (.int 1)) (dCons (dC (.int 2)) (dCons (dC (.int 1)) (dCons (dC (.int 1)) (dCons (dC (.int 1)) (dCons (dC (.int 3)) (dCons (dC (.int 1)) (dCons (dC (.int 1)) (dCons (dC (.int 2)) dNil))))))))))))))))))))))))) (gN 8)
    lb3_law_0)
    lb1_law_5)
def lb1_law_3 : DS := (dSeq (dSet 7 (dLst dNil))
    lb1_law_4)
def lb1_law_2 : DS := (dSeq (dFor (dRange1 (dC (.int 35))) (gN 6)
    lb2_law_0)
    lb1_law_3)
def lb1_law_1 : DS := (dSeq (dSet 5 (dCall S__law_made (dCons (dOp ixA (dVar 4) (dC (.int 0))) (dCons (dOp ixA (dVar 4) (dC (.int 1))) (dCons (dOp ixA (dVar 4) (dC (.int 2))) dNil)))))
    lb1_law_2)
def lb1_law_0 : DS := (dSeq (dSet 4 (dLst (dCons (dOp ixA (dVar 2) (dCall S__law_take (dCons (dVar 1) (dCons (dC (.int 8)) dNil)))) (dCons (dOp ixA (dVar 2) (dCall S__law_take (dCons (dVar 1) (dCons (dC (.int 8)) dNil)))) (dCons (dOp ixA (dVar 2) (dCall S__law_take (dCons (dVar 1) (dCons (dC (.int 8)) dNil)))) dNil)))))
    lb1_law_1)
def q_law_3 : DS := (dRet (dOp (inA true) (dC (.bl true)) (dCall S__law_kinds (dCons (dC (.exc 0 [])) dNil))))
def q_law_2 : DS := (dSeq (dFor (dRange1 (dC (.int 4))) (gN 3)
    lb1_law_0)
    q_law_3)
def q_law_1 : DS := (dSeq (dSet 2 (dLst (dCons (dC .non) (dCons (dC (.int 0)) (dCons (dC (.int 5)) (dCons (dC (.str "")) (dCons (dC (.str "cells")) (dCons (dLst (dCons (dC (.str "a")) dNil)) (dCons (dTup (dCons (dC (.str "n")) (dCons (dC (.int 1)) dNil))) (dCons (dC (.bl true)) dNil))))))))))
    q_law_2)
def q_law_0 : DS := (dSeq (dSet 1 (dCall S__law_pen (dCons (dVar 0) dNil)))
    q_law_1)
def t_law : DS := q_law_0
def S_law : DSp := specOf ["_law_script", "_law_pen_here", "_law_values", "_law_turn", "_law_some", "_law_made_so", "_law_k", "_law_due", "_law_count", "_law_kinds_here"] t_law
theorem ok_law {f : Addr} {fd : FuncData} (F : Fun K "law" "law" s_law f fd) (M : Mg B P w K mg base) (hk : Keeps ["_law_script", "_law_pen_here", "_law_values", "_law_turn", "_law_some", "_law_made_so", "_law_k", "_law_due", "_law_count", "_law_kinds_here"] 1 DL.S_law t_law) (h__law_fields : Fn B P w K mg base 1 "_law_fields" 1 S__law_fields) (h__law_kinds : Fn B P w K mg base 1 "_law_kinds" 1 S__law_kinds) (h__law_made : Fn B P w K mg base 3 "_law_made" 3 S__law_made) (h__law_pen : Fn B P w K mg base 1 "_law_pen" 1 S__law_pen) (h__law_take : Fn B P w K mg base 1 "_law_take" 2 S__law_take) : FnG P w K mg base 4 f fd ["_law_script"] (spOf B K 1 DL.S_law) :=
  def_ok F sc_law (fun cdv A outer s H E C => (wb_cons (ws_set sc_law.nd rfl (by first | exact .inl rfl | exact .inr rfl) (we_call (h__law_pen.mono (by decide)) C rfl (wa_cons (wv 0) wa_nil)))
    (wb_cons (ws_set sc_law.nd rfl (by first | exact .inl rfl | exact .inr rfl) (we_lst (wa_cons we_non (wa_cons we_int (wa_cons we_int (wa_cons we_str (wa_cons we_str (wa_cons (we_lst (wa_cons we_str wa_nil)) (wa_cons (we_tup (wa_cons we_str (wa_cons we_int wa_nil))) (wa_cons we_bl wa_nil))))))))))
    (wb_cons (ws_for (passes_of rfl) C.calm (wi_range1 rfl M.b_range we_int) (wg_name sc_law.nd rfl (by first | exact .inl rfl | exact .inr rfl))
    (wb_cons (ws_set sc_law.nd rfl (by first | exact .inl rfl | exact .inr rfl) (we_lst (wa_cons (e_ix C (wv 2) (we_call (h__law_take.mono (by decide)) C rfl (wa_cons (wv 1) (wa_cons we_int wa_nil)))) (wa_cons (e_ix C (wv 2) (we_call (h__law_take.mono (by decide)) C rfl (wa_cons (wv 1) (wa_cons we_int wa_nil)))) (wa_cons (e_ix C (wv 2) (we_call (h__law_take.mono (by decide)) C rfl (wa_cons (wv 1) (wa_cons we_int wa_nil)))) wa_nil)))))
    (wb_cons (ws_set sc_law.nd rfl (by first | exact .inl rfl | exact .inr rfl) (we_call (h__law_made.mono (by decide)) C rfl (wa_cons (e_ix C (wv 4) we_int) (wa_cons (e_ix C (wv 4) we_int) (wa_cons (e_ix C (wv 4) we_int) wa_nil)))))
    (wb_cons (ws_for (passes_of rfl) C.calm (wi_range1 rfl M.b_range we_int) (wg_name sc_law.nd rfl (by first | exact .inl rfl | exact .inr rfl))
    (wb_cons (ws_set sc_law.nd rfl (by first | exact .inl rfl | exact .inr rfl) (we_call (h__law_kinds.mono (by decide)) C rfl (wa_cons (e_ix C (wv 5) (wv 6)) wa_nil)))
    (wb_cons (ws_if (WW.wt (ww_or (t_cmp (o_ne C) (e_count C (wv 9) we_bl) we_int) (ww_or (wt_not (wt_val (e_ix C (wv 9) (wv 6)))) (ww_or1 (wt_not (wt_val (we_isC M.is_RisingError rfl M.n_RisingError rfl M.b_isinstance (e_ix C (wv 5) (wv 6)))))))))
    (wb_one (ws_ret we_bl))
    wb_nil)
    (wb_one (ws_if (wt_not (wt_val (we_isT M.is_ValueError rfl M.b_ValueError Boot.«ValueError» rfl M.b_isinstance (e_ix C (wv 5) (wv 6)))))
    (wb_one (ws_ret we_bl))
    wb_nil)))))
    (wb_cons (ws_set sc_law.nd rfl (by first | exact .inl rfl | exact .inr rfl) (we_lst wa_nil))
    (wb_cons (ws_for (passes_of rfl) C.calm (wi_list (we_lst (wa_cons we_int (wa_cons we_int (wa_cons we_int (wa_cons we_int (wa_cons we_int (wa_cons we_int (wa_cons we_int (wa_cons we_int (wa_cons we_int (wa_cons we_int (wa_cons we_int (wa_cons we_int (wa_cons we_int (wa_cons we_int (wa_cons we_int (wa_cons we_int (wa_cons we_int (wa_cons we_int (wa_cons we_int (wa_cons we_int (wa_cons we_int (wa_cons we_int (wa_cons we_int wa_nil))))))))))))))))))))))))) (wg_name sc_law.nd rfl (by first | exact .inl rfl | exact .inr rfl))
    (wb_one (ws_set sc_law.nd rfl (by first | exact .inl rfl | exact .inr rfl) (e_add (wv 7) (we_sl (wv 4) wo_none (wo_some (wv 8)))))))
    (wb_one (ws_if (t_cmp (o_ne C) (e_repr C rfl M.b_repr (we_call (h__law_fields.mono (by decide)) C rfl (wa_cons (wv 5) wa_nil))) (e_repr C rfl M.b_repr (wv 7)))
    (wb_one (ws_ret we_bl))
    wb_nil))))))))
    (wb_one (ws_ret (e_cmp (o_notin C) we_bl (we_call (h__law_kinds.mono (by decide)) C rfl (wa_cons (we_exc0 M.x_RisingError rfl) wa_nil))))))))) hk
def f_lb2_law_2 : SEnv → Fl := (fIfF (fNotT (fTest (fU (isiD (isTab tb_ValueError)) (fOp ixA (fVar 5) (fVar 6))))) (fRet (fC (.bl false))) Fl.nx)
theorem pq_lb2_law_2 : PuS lb2_law_2 f_lb2_law_2 := show PuS (dIfS (dNotT (dTest (dU (isiD (isTab tb_ValueError)) (dOp ixA (dVar 5) (dVar 6)))))
    (dRet (dC (.bl false)))
    dNext) f_lb2_law_2 from (pu_ifS (pu_notT (pu_test (pu_u (pu_op pu_var pu_var)))) (pu_ret pu_c) pu_next)
def f_lb2_law_1 : SEnv → Fl := (fSeq (fIfF (fOrT (fTest (fOp (eqA true) (fM isLst countD (fVar 9) (fC (.bl true))) (fC (.int 1)))) (fOrT (fNotT (fTest (fOp ixA (fVar 9) (fVar 6)))) (fNotT (fTest (fU (isiD (isTab tb_RisingError)) (fOp ixA (fVar 5) (fVar 6))))))) (fRet (fC (.bl false))) Fl.nx) f_lb2_law_2)
theorem pq_lb2_law_1 : PuS lb2_law_1 f_lb2_law_1 := show PuS (dSeq (dIfS (dOrT (dTest (dOp (eqA true) (dM isLst countD (dVar 9) (dC (.bl true))) (dC (.int 1)))) (dOrT (dNotT (dTest (dOp ixA (dVar 9) (dVar 6)))) (dNotT (dTest (dU (isiD (isTab tb_RisingError)) (dOp ixA (dVar 5) (dVar 6)))))))
    (dRet (dC (.bl false)))
    dNext)
    lb2_law_2) f_lb2_law_1 from (pu_seq (pu_ifS (pu_orT (pu_test (pu_op (pu_m pu_var pu_c) pu_c)) (pu_orT (pu_notT (pu_test (pu_op pu_var pu_var))) (pu_notT (pu_test (pu_u (pu_op pu_var pu_var)))))) (pu_ret pu_c) pu_next) pq_lb2_law_2)
def f_lb2_law_0 : SEnv → Fl := (fSeq (fSet 9 (fCall F__law_kinds (fCons (fOp ixA (fVar 5) (fVar 6)) (fun _ => .ok [])))) f_lb2_law_1)
theorem pq_lb2_law_0 : PuS lb2_law_0 f_lb2_law_0 := show PuS (dSeq (dSet 9 (dCall S__law_kinds (dCons (dOp ixA (dVar 5) (dVar 6)) dNil)))
    lb2_law_1) f_lb2_law_0 from (pu_seq (pu_set (pu_call pf__law_kinds (pu_cons (pu_op pu_var pu_var) pu_nil))) pq_lb2_law_1)
def f_lb3_law_0 : SEnv → Fl := (fSet 7 (fOp addD (fVar 7) (fSl (fVar 4) (fun _ => .ok none) (fPart (fVar 8)))))
theorem pq_lb3_law_0 : PuS lb3_law_0 f_lb3_law_0 := show PuS (dSet 7 (dOp addD (dVar 7) (dSl (dVar 4) dNoPart (dPart (dVar 8))))) f_lb3_law_0 from (pu_set (pu_op pu_var (pu_sl pu_var pu_noPart (pu_part pu_var))))
def f_lb1_law_5 : SEnv → Fl := (fIfF (fTest (fOp (eqA true) (fFn reprD (fCons (fCall F__law_fields (fCons (fVar 5) (fun _ => .ok []))) (fun _ => .ok []))) (fFn reprD (fCons (fVar 7) (fun _ => .ok []))))) (fRet (fC (.bl false))) Fl.nx)
theorem pq_lb1_law_5 : PuS lb1_law_5 f_lb1_law_5 := show PuS (dIfS (dTest (dOp (eqA true) (dFn reprD (dCons (dCall S__law_fields (dCons (dVar 5) dNil)) dNil)) (dFn reprD (dCons (dVar 7) dNil))))
    (dRet (dC (.bl false)))
    dNext) f_lb1_law_5 from (pu_ifS (pu_test (pu_op (pu_fn (pu_cons (pu_call pf__law_fields (pu_cons pu_var pu_nil)) pu_nil)) (pu_fn (pu_cons pu_var pu_nil)))) (pu_ret pu_c) pu_next)
def f_lb1_law_4 : SEnv → Fl := (fSeq (fFor (fList (fLst (fCons (fC (.int 1)) (fCons (fC (.int 1)) (fCons (fC (.int 1)) (fCons (fC (.int 1)) (fCons (fC (.int 1)) (fCons (fC (.int 2)) (fCons (fC (.int 2)) (fCons (fC (.int 1)) (fCons (fC (.int 1)) (fCons (fC (.int 1)) (fCons (fC (.int 1)) (fCons (fC (.int 2)) (fCons (fC (.int 2)) (fCons (fC (.int 1)) (fCons (fC (.int 1)) (fCons (fC (.int 2)) (fCons (fC (.int 1)) (fCons (fC (.int 1)) (fCons (fC (.int 1)) (fCons (fC (.int 3)) (fCons (fC (.int 1)) (fCons (fC (.int 1)) (fCons (fC (.int 2)) (fun _ => .ok [])))))))))))))))))))))))))) (gN 8) f_lb3_law_0) f_lb1_law_5)
theorem pq_lb1_law_4 : PuS lb1_law_4 f_lb1_law_4 := show PuS (dSeq (dFor (dList (dLst (dCons (dC (.int 1)) (dCons (dC (.int 1)) (dCons (dC (.int 1)) (dCons (dC (.int 1)) (dCons (dC (.int 1)) (dCons (dC (.int 2)) (dCons (dC (.int 2)) (dCons (dC (.int 1)) (dCons (dC (.int 1)) (dCons (dC (.int 1)) (dCons (dC (.int 1)) (dCons (dC (.int 2)) (dCons (dC (.int 2)) (dCons (dC (.int 1)) (dCons (dC (.int 1)) (dCons (dC (.int 2)) (dCons (dC (.int 1)) (dCons (dC (.int 1)) (dCons (dC (.int 1)) (dCons (dC (.int 3)) (dCons (dC (.int 1)) (dCons (dC (.int 1)) (dCons (dC (.int 2)) dNil))))))))))))))))))))))))) (gN 8)
    lb3_law_0)
    lb1_law_5) f_lb1_law_4 from (pu_seq (pu_for (pu_list (pu_lst (pu_cons pu_c (pu_cons pu_c (pu_cons pu_c (pu_cons pu_c (pu_cons pu_c (pu_cons pu_c (pu_cons pu_c (pu_cons pu_c (pu_cons pu_c (pu_cons pu_c (pu_cons pu_c (pu_cons pu_c (pu_cons pu_c (pu_cons pu_c (pu_cons pu_c (pu_cons pu_c (pu_cons pu_c (pu_cons pu_c (pu_cons pu_c (pu_cons pu_c (pu_cons pu_c (pu_cons pu_c (pu_cons pu_c pu_nil))))))))))))))))))))))))) pq_lb3_law_0) pq_lb1_law_5)
def f_lb1_law_3 : SEnv → Fl := (fSeq (fSet 7 (fLst (fun _ => .ok []))) f_lb1_law_4)
theorem pq_lb1_law_3 : PuS lb1_law_3 f_lb1_law_3 := show PuS (dSeq (dSet 7 (dLst dNil))
    lb1_law_4) f_lb1_law_3 from (pu_seq (pu_set (pu_lst pu_nil)) pq_lb1_law_4)
def f_lb1_law_2 : SEnv → Fl := (fSeq (fFor (fRange1 (fC (.int 35))) (gN 6) f_lb2_law_0) f_lb1_law_3)
theorem pq_lb1_law_2 : PuS lb1_law_2 f_lb1_law_2 := show PuS (dSeq (dFor (dRange1 (dC (.int 35))) (gN 6)
    lb2_law_0)
    lb1_law_3) f_lb1_law_2 from (pu_seq (pu_for (pu_range1 pu_c) pq_lb2_law_0) pq_lb1_law_3)
def f_lb1_law_1 : SEnv → Fl := (fSeq (fSet 5 (fCall F__law_made (fCons (fOp ixA (fVar 4) (fC (.int 0))) (fCons (fOp ixA (fVar 4) (fC (.int 1))) (fCons (fOp ixA (fVar 4) (fC (.int 2))) (fun _ => .ok [])))))) f_lb1_law_2)
theorem pq_lb1_law_1 : PuS lb1_law_1 f_lb1_law_1 := show PuS (dSeq (dSet 5 (dCall S__law_made (dCons (dOp ixA (dVar 4) (dC (.int 0))) (dCons (dOp ixA (dVar 4) (dC (.int 1))) (dCons (dOp ixA (dVar 4) (dC (.int 2))) dNil)))))
    lb1_law_2) f_lb1_law_1 from (pu_seq (pu_set (pu_call pf__law_made (pu_cons (pu_op pu_var pu_c) (pu_cons (pu_op pu_var pu_c) (pu_cons (pu_op pu_var pu_c) pu_nil))))) pq_lb1_law_2)
def f_q_law_3 : SEnv → Fl := (fRet (fOp (inA true) (fC (.bl true)) (fCall F__law_kinds (fCons (fC (.exc 0 [])) (fun _ => .ok [])))))
theorem pq_q_law_3 : PuS q_law_3 f_q_law_3 := show PuS (dRet (dOp (inA true) (dC (.bl true)) (dCall S__law_kinds (dCons (dC (.exc 0 [])) dNil)))) f_q_law_3 from (pu_ret (pu_op pu_c (pu_call pf__law_kinds (pu_cons pu_c pu_nil))))
end
end K97

namespace K97
open PySem L2 DL PyProof.Rows
theorem ite_b {b : Bool} {X Y : Prop} (h1 : b = true → X) (h2 : b = false → Y) : if b = true then X else Y := by
  cases b
  · exact h2 rfl
  · exact h1 rfl
theorem sm {i : Int} (h0 : 0 ≤ i) (h1 : i < 2 ^ 64) : small i = true := by
  unfold small
  rw [Bool.and_eq_true, decide_eq_true_eq, decide_eq_true_eq]
  constructor <;> omega
theorem take_tail {m a k : Int} {g : Gh} {Φ : DQ} {En : DEnds} (hm : 0 < m) (hm2 : m < 1073741824) (a0 : 0 ≤ a) (a1 : a < 1000000) (fin : ∀ i : Int, Φ (.int (i % m)) g) (hE : En.rt = Φ) : q__law_take_5 En [.fz .pen, .fz (.int m), .fz (.int a), .fz (.int k), .un, .un, .un] g := by
  subst hE
  unfold q__law_take_5 q__law_take_6 q__law_take_7 q__law_take_8
  simp only [dSeq, dIfS, dTest, dOp, dPenK, dVar, dC, dSet, dFn, dCons, dNil, dPutRest, dPutAt, dRet, dNext, mask]
  refine ⟨_, rfl, _, rfl, _, pow_i (by decide), _, rfl, _, rfl, ite_b (fun hb => ?_) (fun hb => ?_)⟩
  · exact ⟨_, rfl, _, rfl, _, mul_i (by rw [Bool.or_eq_true]; exact .inl (by decide)), _, rfl, _, rfl, _, rfl, _, rfl, _, rfl, _, rfl, _, rfl, _, fdiv_i hm hm2, rfl, _, g.n, rfl, Nat.le_refl _, _, rfl, _, rfl, _, rfl, _, mod_i hm, fin _⟩
  · refine ⟨_, rfl, _, rfl, _, mod_i (by decide), .pen, rfl, rfl, fun d hd => ?_⟩
    obtain ⟨f, rfl, f0, f1⟩ := penV_fold hd
    have m0 := Int.emod_nonneg k (show (2147483563 : Int) ≠ 0 by decide)
    have m1 := Int.emod_lt_of_pos k (show (0 : Int) < 2147483563 by decide)
    refine ⟨_, rfl, _, rfl, _, rfl, _, mul_i (by rw [Bool.or_eq_true]; exact .inl (by decide)), _, rfl, _, pow_i ⟨by decide, by decide, by omega⟩, _, rfl, _, mod_i (by decide), ?_⟩
    generalize hx : ((k % 2147483563 + f + 70001 * a) ^ Int.toNat 3 : Int) = x
    have x0 := Int.emod_nonneg x (show (2147483647 : Int) ≠ 0 by decide)
    have x1 := Int.emod_lt_of_pos x (show (0 : Int) < 2147483647 by decide)
    refine ⟨_, rfl, _, rfl, _, mul_i (by rw [Bool.or_eq_true]; exact .inl (by decide)), _, rfl, _, mul_i (by rw [Bool.or_eq_true]; exact .inr (sm a0 (by omega))), _, rfl, .pen, rfl, rfl, fun d hd => ?_⟩
    obtain ⟨f', rfl, f0', f1'⟩ := penV_fold hd
    have q1 : 30011 * a * a ≤ 30011 * 1000000 * 1000000 := Int.mul_le_mul (by omega) (by omega) a0 (by omega)
    have q0 : 0 ≤ 30011 * a * a := Int.mul_nonneg (by omega) a0
    refine ⟨_, rfl, _, fdiv_i (by decide) (by decide), _, rfl, _, pow_i ⟨by decide, by decide, ?_⟩, _, rfl, _, mod_i (by decide), ?_⟩
    · generalize 30011 * a * a = y at q0 q1
      omega
    · exact ⟨_, rfl, _, fdiv_i (by decide) (by decide), _, rfl, _, rfl, _, mod_i hm, fin _⟩
theorem take_ok {m : Int} {g : Gh} {Φ : DQ} {Ψ : DZ} (hm : 0 < m) (hm2 : m < 1073741824) (hn : g.n < 900000) (h : ∀ i : Int, 0 ≤ i → i < m → Φ (.int i) { g with n := g.n + 1 }) : S__law_take [.pen, .int m] g Φ Ψ := by
  have fin : ∀ i : Int, Φ (.int (i % m)) { g with n := g.n + 1 } := fun i => h _ (Int.emod_nonneg _ (by omega)) (Int.emod_lt_of_pos _ hm)
  show q__law_take_0 _ _ _
  unfold q__law_take_0 q__law_take_1 q__law_take_2 q__law_take_3 q__law_take_4
  simp only [dSeq, dIfS, dTest, dOp, dPenK, dVar, dC, dSet, dFn, dCons, dNil, dPutRest, dPutAt, dRet, dNext, mask]
  refine ⟨.pen, rfl, rfl, fun d hd => ?_⟩
  obtain ⟨r, rfl⟩ := penV_rest hd
  refine ⟨_, rfl, _, rfl, ite_b (fun hr => ?_) (fun hr => ?_)⟩
  · refine ⟨.pen, rfl, rfl, fun d hd => ?_⟩
    obtain ⟨r1, rfl⟩ := penV_rest hd
    refine ⟨_, rfl, _, rfl, _, mod_i hm, .pen, rfl, rfl, fun d hd => ?_⟩
    obtain ⟨r2, rfl⟩ := penV_rest hd
    exact ⟨_, rfl, _, rfl, _, fdiv_i hm hm2, rfl, _, g.n + 1, rfl, by omega, _, rfl, fin r1⟩
  · refine ⟨.pen, rfl, rfl, fun d hd => ?_⟩
    obtain ⟨a, rfl, a0, a1⟩ := penV_at hd
    refine ⟨_, rfl, _, rfl, rfl, _, g.n + 1, rfl, by omega, by omega, ?_⟩
    refine ⟨_, rfl, .pen, rfl, rfl, fun d hd => ?_⟩
    obtain ⟨ns, rfl, hns, hcl⟩ := penV_cells hd
    refine ⟨_, rfl, _, rfl, _, rfl, ite_b (fun hb => ?_) (fun hb => ?_)⟩
    · refine ⟨.pen, rfl, rfl, fun d hd => ?_⟩
      obtain ⟨ns', rfl, hns', hcl'⟩ := penV_cells hd
      have hlt : a < (ns'.length : Int) := by
        have := of_decide_eq_true hb
        simp only [List.length_map] at this

        omega
      obtain ⟨k, hk⟩ := ix_ints a0 hlt
      exact ⟨_, rfl, _, hk, take_tail hm hm2 a0 (by omega) fin rfl⟩
    · exact take_tail (k := 0) hm hm2 a0 (by omega) fin rfl
theorem cut63 {xs : List D} (h : xs.length ≤ 63) : cutL xs none (some 63) = xs := by
  have e : HT.sIx xs.length xs.length (some 63) = xs.length := by
    unfold HT.sIx
    simp only [show ¬ ((63 : Int) < 0) by decide, if_false]
    show min 63 xs.length = _
    omega
  unfold cutL
  rw [e]
  simp [HT.sIx]
theorem pen_loop {En : DEnds} {g : Gh} {ns0 : List Int} (hE : ∀ f y : D, (∃ i : Int, f = .int i ∧ 0 ≤ i ∧ i < 2147483629) → En.nx [.fz (.scr ns0), .fz f, .fz y] g) (hE0 : ∀ f : D, (∃ i : Int, f = .int i ∧ 0 ≤ i ∧ i < 2147483629) → En.nx [.fz (.scr ns0), .fz f, .un] g) :
    ∀ (ns : List Int) (f : Int) (y : SV), 0 ≤ f → f < 2147483629 → (y = .un ∨ ∃ d, y = .fz d) → forD (gN 2) lb1__law_pen_0 En (ns.map D.int) [.fz (.scr ns0), .fz (.int f), y] g
  | [], f, y, h0, h1, hy => by
    rcases hy with rfl | ⟨d, rfl⟩
    · exact hE0 _ ⟨f, rfl, h0, h1⟩
    · exact hE _ _ ⟨f, rfl, h0, h1⟩
  | k :: ns, f, y, h0, h1, hy => by
    refine ⟨_, rfl, ?_⟩
    unfold lb1__law_pen_0
    simp only [dSet, dOp, dFn, dCons, dNil, dVar, dC, mask]
    refine ⟨_, rfl, _, mul_i (by rw [Bool.or_eq_true]; exact .inr (by decide)), _, rfl, _, rfl, _, mod_i (by decide), _, rfl, _, rfl, _, rfl, _, mod_i (by decide), ?_⟩
    exact pen_loop hE hE0 ns _ _ (Int.emod_nonneg _ (by decide)) (Int.emod_lt_of_pos _ (by decide)) (.inr ⟨_, rfl⟩)
theorem pen_ok {ns : List Int} {Φ : DQ} {Ψ : DZ} (hl : ns.length ≤ 63) (h : Φ .pen ⟨true, 0, [], ns.length⟩) : S__law_pen [.scr ns] ⟨false, 0, [], 0⟩ Φ Ψ := by
  have hc : slD (.scr ns) none (some 63) = some (.lst (ns.map D.int)) := by
    show some (D.lst (cutL (ns.map D.int) none (some 63))) = _
    rw [cut63 (by rw [List.length_map]; exact hl)]
  have fin : ∀ (f : D) (y : SV), (∃ i : Int, f = .int i ∧ 0 ≤ i ∧ i < 2147483629) → q__law_pen_2 { nx := fun _ g' => Φ .non g', rt := Φ, xz := fun ex _ g' => Ψ ex g' } [.fz (.scr ns), .fz f, y] ⟨false, 0, [], 0⟩ := by
    rintro f y ⟨i, rfl, h0, h1⟩
    unfold q__law_pen_2
    simp only [dRet, dPenNew, dPCons, dPNil, dFn, dCons, dNil, dSl, dVar, dC, dNoPart, dPart, mask]
    exact ⟨_, rfl, _, rfl, _, rfl, _, hc, _, rfl, _, rfl, _, rfl, _, rfl, _, rfl, ns, 0, 0, i, rfl, hl, h0, h1, by decide, by decide, trivial, h⟩
  show q__law_pen_0 _ _ _
  unfold q__law_pen_0 q__law_pen_1
  simp only [dSeq, dSet, dC, dFor, dList, dSl, dVar, dNoPart, dPart, mask]
  exact ⟨_, rfl, _, rfl, _, hc, _, rfl, pen_loop (fun f y hf => fin f _ hf) (fun f hf => fin f _ hf) ns 97 .un (by decide) (by decide) (.inl rfl)⟩
end K97

namespace K97
open PySem L2 DL PyProof.Rows
def vals : List D := [.non, .int 0, .int 5, .str "", .str "cells", .lst [.str "a"], .tup [.str "n", .int 1], .bl true]
def due (a b c : D) : List D := [a, a, a, a, a, a, b, a, b, a, a, a, a, a, b, a, b, a, a, a, b, a, a, a, a, b, c, a, a, a, b]
def made (a b c : D) : List D := [.exc 1 [("at", a)], .exc 2 [("place", a)], .exc 3 [("value", a)], .exc 4 [], .exc 5 [], .exc 6 [("at", a)], .exc 7 [], .exc 8 [("most", a)], .exc 9 [("at", b), ("part", a)], .exc 10 [("at", b), ("part", a)], .exc 11 [("promise", a)], .exc 12 [("name", a)], .exc 13 [], .exc 14 [("name", a)], .exc 15 [("name", a)], .exc 16 [("place", b), ("name", a)], .exc 17 [], .exc 18 [], .exc 19 [], .exc 20 [], .exc 21 [], .exc 22 [("at", b), ("part", a)], .exc 23 [], .exc 24 [("missing", a)], .exc 25 [("reading", a)], .exc 26 [], .exc 27 [("other", b), ("one", a)], .exc 28 [("at", a)], .exc 29 [("at", a)], .exc 30 [("at", a)], .exc 31 [("y", c), ("x", b), ("place", a)], .exc 32 [("at", a)], .exc 33 [("name", a)], .exc 34 [("word", b), ("line", a)], .exc 35 []]
theorem made_ok (a b c : D) : F__law_made [a, b, c] = .ok (.lst (made a b c)) := by kernel_rfl
theorem fields_ok (a b c : D) : F__law_fields [.lst (made a b c)] = .ok (.lst (due a b c)) := by kernel_rfl
def kin : List D := [.bl false, .bl false, .bl false, .bl false, .bl false, .bl false, .bl false, .bl false, .bl false, .bl false, .bl false, .bl false, .bl false, .bl false, .bl false, .bl false, .bl false, .bl false, .bl false, .bl false, .bl false, .bl false, .bl false, .bl false, .bl false, .bl false, .bl false, .bl false, .bl false, .bl false, .bl false, .bl false, .bl false, .bl false, .bl true]
def r5 (s0 s1 s2 s3 : SV) (a b c : D) : SEnv := [s0, s1, s2, s3, .fz (.lst [a, b, c]), .fz (.lst (made a b c)), .fz (.int 34), .fz (.lst (due a b c)), .fz (.int 2), .fz (.lst kin)]
theorem turn4 (s0 s1 s2 s3 x5 x6 x7 x8 x9 : SV) (a b c : D) : f_lb1_law_1 [s0, s1, s2, s3, .fz (.lst [a, b, c]), x5, x6, x7, x8, x9] = f_lb1_law_5 (r5 s0 s1 s2 s3 a b c) := by kernel_rfl
theorem vals_shw : ∀ v ∈ vals, ∃ p, Shw 12 v p := by
  intro v hv
  simp only [vals, List.mem_cons, List.not_mem_nil, or_false] at hv
  rcases hv with rfl | rfl | rfl | rfl | rfl | rfl | rfl | rfl
  all_goals exact ⟨_, rfl, by decide +kernel, by decide +kernel, by decide +kernel, by decide +kernel⟩
theorem repr_due {a b c : D} (ha : a ∈ vals) (hb : b ∈ vals) (hc : c ∈ vals) : ∃ s, reprD [.lst (due a b c)] = some (.str s) := by
  refine repr_lst (m := 12) (fun v hv => vals_shw v ?_) (show 12 * 31 + 2 * 31 + 3 ≤ sizeLine by decide)
  simp only [due, List.mem_cons, List.not_mem_nil, or_false] at hv
  rcases hv with rfl | rfl | rfl | rfl | rfl | rfl | rfl | rfl | rfl | rfl | rfl | rfl | rfl | rfl | rfl | rfl | rfl | rfl | rfl | rfl | rfl | rfl | rfl | rfl | rfl | rfl | rfl | rfl | rfl | rfl | rfl <;> assumption
theorem last_ok {s0 s1 s2 s3 : SV} {a b c : D} (ha : a ∈ vals) (hb : b ∈ vals) (hc : c ∈ vals) : f_lb1_law_5 (r5 s0 s1 s2 s3 a b c) = .nx (r5 s0 s1 s2 s3 a b c) := by
  obtain ⟨s, hs⟩ := repr_due ha hb hc
  have e1 : (fFn reprD (fCons (fCall F__law_fields (fCons (fVar 5) (fun _ => .ok []))) (fun _ => .ok []))) (mask (r5 s0 s1 s2 s3 a b c)) = ofO (reprD [.lst (due a b c)]) := by kernel_rfl
  have e2 : (fFn reprD (fCons (fVar 7) (fun _ => .ok []))) (mask (r5 s0 s1 s2 s3 a b c)) = ofO (reprD [.lst (due a b c)]) := by kernel_rfl
  unfold f_lb1_law_5 fIfF fTest fOp
  rw [e1, e2, hs]
  simp only [ofO, R.bind, DL.eq_str, bl?, R.fl, Bool.not_true, Bool.false_eq_true, if_false]
theorem turn_ok {s0 s1 s2 s3 x5 x6 x7 x8 x9 : SV} {a b c : D} {En : DEnds} {g : Gh} (ha : a ∈ vals) (hb : b ∈ vals) (hc : c ∈ vals) (hg : memNl g = true) (h : En.nx (r5 s0 s1 s2 s3 a b c) g) : lb1_law_1 En [s0, s1, s2, s3, .fz (.lst [a, b, c]), x5, x6, x7, x8, x9] g := by
  refine pq_lb1_law_1 En _ g hg ?_
  rw [turn4, last_ok ha hb hc]
  exact h
theorem ix_vals {i : Int} (h0 : 0 ≤ i) (h1 : i < 8) : ∃ v, ixA (.lst vals) (.int i) = some v ∧ v ∈ vals := by
  obtain ⟨d, e1, e2⟩ := at_get (xs := vals) h0 h1
  exact ⟨d, e2, List.mem_of_getElem? e1⟩
theorem loop_ok {s0 : SV} {En : DEnds} {cl : Nat} (h : ∀ x3 x4 x5 x6 x7 x8 x9 n, En.nx [s0, .fz .pen, .fz (.lst vals), x3, x4, x5, x6, x7, x8, x9] ⟨true, n, [], cl⟩) :
    ∀ (ds : List D) (x3 x4 x5 x6 x7 x8 x9 : SV) (n : Nat), n + 3 * ds.length ≤ 1000 → forD (gN 3) lb1_law_0 En ds [s0, .fz .pen, .fz (.lst vals), x3, x4, x5, x6, x7, x8, x9] ⟨true, n, [], cl⟩
  | [], x3, x4, x5, x6, x7, x8, x9, n, _ => h x3 x4 x5 x6 x7 x8 x9 n
  | d :: ds, x3, x4, x5, x6, x7, x8, x9, n, hn => by
    rw [List.length_cons] at hn
    refine ⟨_, rfl, ?_⟩
    unfold lb1_law_0
    simp only [dSeq, dSet, dLst, dCons, dNil, dOp, dVar, dCall, dC, mask]
    refine ⟨_, rfl, _, rfl, take_ok (by decide) (by decide) (by simp only; omega) fun i h0 h1 => ?_⟩
    obtain ⟨a, ea, ha⟩ := ix_vals h0 h1
    refine ⟨_, ea, _, rfl, _, rfl, take_ok (by decide) (by decide) (by simp only; omega) fun i h0 h1 => ?_⟩
    obtain ⟨b, eb, hb⟩ := ix_vals h0 h1
    refine ⟨_, eb, _, rfl, _, rfl, take_ok (by decide) (by decide) (by simp only; omega) fun i h0 h1 => ?_⟩
    obtain ⟨c, ec, hc⟩ := ix_vals h0 h1
    refine ⟨_, ec, (show 3 ≤ sizeLine by decide), ?_⟩
    refine turn_ok ha hb hc rfl ?_
    exact loop_ok h ds _ _ _ _ _ _ _ (n + 3) (by omega)
theorem end_ok : F__law_kinds [.exc 0 []] = .ok (.lst (List.replicate 35 (.bl false))) := by kernel_rfl
theorem k_law : Keeps ["_law_script", "_law_pen_here", "_law_values", "_law_turn", "_law_some", "_law_made_so", "_law_k", "_law_due", "_law_count", "_law_kinds_here"] 1 DL.S_law t_law := by
  rintro ds g Φ Ψ _ ⟨ns, rfl, hl, rfl, hq⟩
  show q_law_0 _ _ _
  unfold q_law_0 q_law_1 q_law_2
  simp only [dSeq, dSet, dCall, dCons, dNil, dVar, dC, dLst, dTup, dFor, dRange1, mask]
  refine ⟨_, rfl, pen_ok hl ?_⟩
  refine ⟨by decide, by decide, by decide, _, rfl, by decide, ?_⟩
  refine loop_ok (fun x3 x4 x5 x6 x7 x8 x9 n => ?_) _ _ _ _ _ _ _ _ 0 (by decide)
  unfold q_law_3
  simp only [dRet, dOp, dC, dCall, dCons, dNil]
  refine pf__law_kinds _ _ _ _ rfl ?_
  rw [end_ok]
  exact ⟨.bl true, by kernel_rfl, hq _⟩
end K97

namespace K97
open PySem L2 DL PyProof.Rows
def cls0 : List Str := ["RisingError", "NoNumeral", "NoPlace", "Overflow", "Unlike", "NoDivisor", "NoText", "NoOrder", "TooMany", "NoScheme", "NoPlan", "NoPromise", "NoName", "NoLook", "NoBases", "NoVersion", "Fallen", "Busy", "Idle", "Held", "NoCells", "NoCell", "BadRun", "Spent", "Unheard", "NoReading", "NotPattern", "NotSeen", "NotMoments", "NotEvents"]
def cls1 : List Str := ["NoRight", "NotForced", "BadStep", "NoMark", "BadText", "NoLine"]
def clsN : List Str := cls0 ++ cls1
def mkB (K : PySem.W.Frag) : Tb := ⟨fun i => (clsN.map (He.ga K)).getD i 0, pnD, cokP⟩
abbrev s_BadRun_init : Stmt := meth (top 23) 0
theorem sc_BadRun_init : FnScope ["self", "part", "at"] ["self", "part", "at"] (defScope s_BadRun_init) := ⟨rfl, rfl, rfl, by decide +kernel, rfl, by decide +kernel, by decide +kernel⟩
theorem in_BadRun_init : isInit fn_BadRun (defBody s_BadRun_init) = true := by decide +kernel
abbrev s_BadStep_init : Stmt := meth (top 33) 0
theorem sc_BadStep_init : FnScope ["self", "at"] ["self", "at"] (defScope s_BadStep_init) := ⟨rfl, rfl, rfl, by decide +kernel, rfl, by decide +kernel, by decide +kernel⟩
theorem in_BadStep_init : isInit fn_BadStep (defBody s_BadStep_init) = true := by decide +kernel
abbrev s_BadText_init : Stmt := meth (top 35) 0
theorem sc_BadText_init : FnScope ["self", "line", "word"] ["self", "line", "word"] (defScope s_BadText_init) := ⟨rfl, rfl, rfl, by decide +kernel, rfl, by decide +kernel, by decide +kernel⟩
theorem in_BadText_init : isInit fn_BadText (defBody s_BadText_init) = true := by decide +kernel
abbrev s_Fallen_init : Stmt := meth (top 17) 0
theorem sc_Fallen_init : FnScope ["self", "name", "place"] ["self", "name", "place"] (defScope s_Fallen_init) := ⟨rfl, rfl, rfl, by decide +kernel, rfl, by decide +kernel, by decide +kernel⟩
theorem in_Fallen_init : isInit fn_Fallen (defBody s_Fallen_init) = true := by decide +kernel
abbrev s_NoBases_init : Stmt := meth (top 15) 0
theorem sc_NoBases_init : FnScope ["self", "name"] ["self", "name"] (defScope s_NoBases_init) := ⟨rfl, rfl, rfl, by decide +kernel, rfl, by decide +kernel, by decide +kernel⟩
theorem in_NoBases_init : isInit fn_NoBases (defBody s_NoBases_init) = true := by decide +kernel
abbrev s_NoMark_init : Stmt := meth (top 34) 0
theorem sc_NoMark_init : FnScope ["self", "name"] ["self", "name"] (defScope s_NoMark_init) := ⟨rfl, rfl, rfl, by decide +kernel, rfl, by decide +kernel, by decide +kernel⟩
theorem in_NoMark_init : isInit fn_NoMark (defBody s_NoMark_init) = true := by decide +kernel
abbrev s_NoName_init : Stmt := meth (top 13) 0
theorem sc_NoName_init : FnScope ["self", "name"] ["self", "name"] (defScope s_NoName_init) := ⟨rfl, rfl, rfl, by decide +kernel, rfl, by decide +kernel, by decide +kernel⟩
theorem in_NoName_init : isInit fn_NoName (defBody s_NoName_init) = true := by decide +kernel
abbrev s_NoNumeral_init : Stmt := meth (top 2) 0
theorem sc_NoNumeral_init : FnScope ["self", "at"] ["self", "at"] (defScope s_NoNumeral_init) := ⟨rfl, rfl, rfl, by decide +kernel, rfl, by decide +kernel, by decide +kernel⟩
theorem in_NoNumeral_init : isInit fn_NoNumeral (defBody s_NoNumeral_init) = true := by decide +kernel
abbrev s_NoPlace_init : Stmt := meth (top 3) 0
theorem sc_NoPlace_init : FnScope ["self", "place"] ["self", "place"] (defScope s_NoPlace_init) := ⟨rfl, rfl, rfl, by decide +kernel, rfl, by decide +kernel, by decide +kernel⟩
theorem in_NoPlace_init : isInit fn_NoPlace (defBody s_NoPlace_init) = true := by decide +kernel
abbrev s_NoPlan_init : Stmt := meth (top 11) 0
theorem sc_NoPlan_init : FnScope ["self", "part", "at"] ["self", "part", "at"] (defScope s_NoPlan_init) := ⟨rfl, rfl, rfl, by decide +kernel, rfl, by decide +kernel, by decide +kernel⟩
theorem in_NoPlan_init : isInit fn_NoPlan (defBody s_NoPlan_init) = true := by decide +kernel
abbrev s_NoPromise_init : Stmt := meth (top 12) 0
theorem sc_NoPromise_init : FnScope ["self", "promise"] ["self", "promise"] (defScope s_NoPromise_init) := ⟨rfl, rfl, rfl, by decide +kernel, rfl, by decide +kernel, by decide +kernel⟩
theorem in_NoPromise_init : isInit fn_NoPromise (defBody s_NoPromise_init) = true := by decide +kernel
abbrev s_NoReading_init : Stmt := meth (top 26) 0
theorem sc_NoReading_init : FnScope ["self", "reading"] ["self", "reading"] (defScope s_NoReading_init) := ⟨rfl, rfl, rfl, by decide +kernel, rfl, by decide +kernel, by decide +kernel⟩
theorem in_NoReading_init : isInit fn_NoReading (defBody s_NoReading_init) = true := by decide +kernel
abbrev s_NoRight_init : Stmt := meth (top 31) 0
theorem sc_NoRight_init : FnScope ["self", "at"] ["self", "at"] (defScope s_NoRight_init) := ⟨rfl, rfl, rfl, by decide +kernel, rfl, by decide +kernel, by decide +kernel⟩
theorem in_NoRight_init : isInit fn_NoRight (defBody s_NoRight_init) = true := by decide +kernel
abbrev s_NoScheme_init : Stmt := meth (top 10) 0
theorem sc_NoScheme_init : FnScope ["self", "part", "at"] ["self", "part", "at"] (defScope s_NoScheme_init) := ⟨rfl, rfl, rfl, by decide +kernel, rfl, by decide +kernel, by decide +kernel⟩
theorem in_NoScheme_init : isInit fn_NoScheme (defBody s_NoScheme_init) = true := by decide +kernel
abbrev s_NoText_init : Stmt := meth (top 7) 0
theorem sc_NoText_init : FnScope ["self", "at"] ["self", "at"] (defScope s_NoText_init) := ⟨rfl, rfl, rfl, by decide +kernel, rfl, by decide +kernel, by decide +kernel⟩
theorem in_NoText_init : isInit fn_NoText (defBody s_NoText_init) = true := by decide +kernel
abbrev s_NoVersion_init : Stmt := meth (top 16) 0
theorem sc_NoVersion_init : FnScope ["self", "name"] ["self", "name"] (defScope s_NoVersion_init) := ⟨rfl, rfl, rfl, by decide +kernel, rfl, by decide +kernel, by decide +kernel⟩
theorem in_NoVersion_init : isInit fn_NoVersion (defBody s_NoVersion_init) = true := by decide +kernel
abbrev s_NotEvents_init : Stmt := meth (top 30) 0
theorem sc_NotEvents_init : FnScope ["self", "at"] ["self", "at"] (defScope s_NotEvents_init) := ⟨rfl, rfl, rfl, by decide +kernel, rfl, by decide +kernel, by decide +kernel⟩
theorem in_NotEvents_init : isInit fn_NotEvents (defBody s_NotEvents_init) = true := by decide +kernel
abbrev s_NotForced_init : Stmt := meth (top 32) 0
theorem sc_NotForced_init : FnScope ["self", "place", "x", "y"] ["self", "place", "x", "y"] (defScope s_NotForced_init) := ⟨rfl, rfl, rfl, by decide +kernel, rfl, by decide +kernel, by decide +kernel⟩
theorem in_NotForced_init : isInit fn_NotForced (defBody s_NotForced_init) = true := by decide +kernel
abbrev s_NotMoments_init : Stmt := meth (top 29) 0
theorem sc_NotMoments_init : FnScope ["self", "at"] ["self", "at"] (defScope s_NotMoments_init) := ⟨rfl, rfl, rfl, by decide +kernel, rfl, by decide +kernel, by decide +kernel⟩
theorem in_NotMoments_init : isInit fn_NotMoments (defBody s_NotMoments_init) = true := by decide +kernel
abbrev s_NotSeen_init : Stmt := meth (top 28) 0
theorem sc_NotSeen_init : FnScope ["self", "one", "other"] ["self", "one", "other"] (defScope s_NotSeen_init) := ⟨rfl, rfl, rfl, by decide +kernel, rfl, by decide +kernel, by decide +kernel⟩
theorem in_NotSeen_init : isInit fn_NotSeen (defBody s_NotSeen_init) = true := by decide +kernel
abbrev s_Overflow_init : Stmt := meth (top 4) 0
theorem sc_Overflow_init : FnScope ["self", "value"] ["self", "value"] (defScope s_Overflow_init) := ⟨rfl, rfl, rfl, by decide +kernel, rfl, by decide +kernel, by decide +kernel⟩
theorem in_Overflow_init : isInit fn_Overflow (defBody s_Overflow_init) = true := by decide +kernel
abbrev s_TooMany_init : Stmt := meth (top 9) 0
theorem sc_TooMany_init : FnScope ["self", "most"] ["self", "most"] (defScope s_TooMany_init) := ⟨rfl, rfl, rfl, by decide +kernel, rfl, by decide +kernel, by decide +kernel⟩
theorem in_TooMany_init : isInit fn_TooMany (defBody s_TooMany_init) = true := by decide +kernel
abbrev s_Unheard_init : Stmt := meth (top 25) 0
theorem sc_Unheard_init : FnScope ["self", "missing"] ["self", "missing"] (defScope s_Unheard_init) := ⟨rfl, rfl, rfl, by decide +kernel, rfl, by decide +kernel, by decide +kernel⟩
theorem in_Unheard_init : isInit fn_Unheard (defBody s_Unheard_init) = true := by decide +kernel
def fb0 (K : PySem.W.Frag) : Bool := (He.Fa.glo "BadRun").ok K && ((He.Fa.glo "BadStep").ok K && ((He.Fa.glo "BadText").ok K && ((He.Fa.glo "Busy").ok K && ((He.Fa.glo "Fallen").ok K && ((He.Fa.glo "Held").ok K && ((He.Fa.glo "Idle").ok K && ((He.Fa.glo "NoBases").ok K && ((He.Fa.glo "NoCell").ok K && ((He.Fa.glo "NoCells").ok K && ((He.Fa.glo "NoDivisor").ok K && ((He.Fa.glo "NoLine").ok K && ((He.Fa.glo "NoLook").ok K && ((He.Fa.glo "NoMark").ok K && ((He.Fa.glo "NoName").ok K && ((He.Fa.glo "NoNumeral").ok K && ((He.Fa.glo "NoOrder").ok K && ((He.Fa.glo "NoPlace").ok K && ((He.Fa.glo "NoPlan").ok K && ((He.Fa.glo "NoPromise").ok K && ((He.Fa.glo "NoReading").ok K && ((He.Fa.glo "NoRight").ok K && ((He.Fa.glo "NoScheme").ok K && ((He.Fa.glo "NoText").ok K && ((He.Fa.glo "NoVersion").ok K))))))))))))))))))))))))
def fb1 (K : PySem.W.Frag) : Bool := (He.Fa.glo "NotEvents").ok K && ((He.Fa.glo "NotForced").ok K && ((He.Fa.glo "NotMoments").ok K && ((He.Fa.glo "NotPattern").ok K && ((He.Fa.glo "NotSeen").ok K && ((He.Fa.glo "Overflow").ok K && ((He.Fa.glo "RisingError").ok K && ((He.Fa.glo "Spent").ok K && ((He.Fa.glo "TooMany").ok K && ((He.Fa.glo "Unheard").ok K && ((He.Fa.glo "Unlike").ok K && ((He.Fa.glo "_law_pen").ok K && ((He.Fa.glo "_law_take").ok K && ((He.Fa.glo "_law_made").ok K && ((He.Fa.glo "_law_kinds").ok K && ((He.Fa.glo "_law_fields").ok K && ((He.Fa.glo "law").ok K && ((He.Fa.free "ValueError").ok K && ((He.Fa.free "abs").ok K && ((He.Fa.free "int").ok K && ((He.Fa.free "isinstance").ok K && ((He.Fa.free "len").ok K && ((He.Fa.free "list").ok K && ((He.Fa.free "range").ok K && ((He.Fa.free "repr").ok K))))))))))))))))))))))))
def fb2 (K : PySem.W.Frag) : Bool := xcB K (He.ga K "BadRun") (He.ma K (He.ga K "BadRun") "__init__") fn_BadRun && (xcB K (He.ga K "BadStep") (He.ma K (He.ga K "BadStep") "__init__") fn_BadStep && (xcB K (He.ga K "BadText") (He.ma K (He.ga K "BadText") "__init__") fn_BadText && (xc0B K (He.ga K "Busy") && (xcB K (He.ga K "Fallen") (He.ma K (He.ga K "Fallen") "__init__") fn_Fallen && (xc0B K (He.ga K "Held") && (xc0B K (He.ga K "Idle") && (xcB K (He.ga K "NoBases") (He.ma K (He.ga K "NoBases") "__init__") fn_NoBases && (xc0B K (He.ga K "NoCell") && (xc0B K (He.ga K "NoCells") && (xc0B K (He.ga K "NoDivisor") && (xc0B K (He.ga K "NoLine") && (xc0B K (He.ga K "NoLook") && (xcB K (He.ga K "NoMark") (He.ma K (He.ga K "NoMark") "__init__") fn_NoMark && (xcB K (He.ga K "NoName") (He.ma K (He.ga K "NoName") "__init__") fn_NoName && (xcB K (He.ga K "NoNumeral") (He.ma K (He.ga K "NoNumeral") "__init__") fn_NoNumeral && (xc0B K (He.ga K "NoOrder") && (xcB K (He.ga K "NoPlace") (He.ma K (He.ga K "NoPlace") "__init__") fn_NoPlace && (xcB K (He.ga K "NoPlan") (He.ma K (He.ga K "NoPlan") "__init__") fn_NoPlan && (xcB K (He.ga K "NoPromise") (He.ma K (He.ga K "NoPromise") "__init__") fn_NoPromise && (xcB K (He.ga K "NoReading") (He.ma K (He.ga K "NoReading") "__init__") fn_NoReading && (xcB K (He.ga K "NoRight") (He.ma K (He.ga K "NoRight") "__init__") fn_NoRight && (xcB K (He.ga K "NoScheme") (He.ma K (He.ga K "NoScheme") "__init__") fn_NoScheme && (xcB K (He.ga K "NoText") (He.ma K (He.ga K "NoText") "__init__") fn_NoText && (xcB K (He.ga K "NoVersion") (He.ma K (He.ga K "NoVersion") "__init__") fn_NoVersion))))))))))))))))))))))))
def fb3 (K : PySem.W.Frag) : Bool := xcB K (He.ga K "NotEvents") (He.ma K (He.ga K "NotEvents") "__init__") fn_NotEvents && (xcB K (He.ga K "NotForced") (He.ma K (He.ga K "NotForced") "__init__") fn_NotForced && (xcB K (He.ga K "NotMoments") (He.ma K (He.ga K "NotMoments") "__init__") fn_NotMoments && (xc0B K (He.ga K "NotPattern") && (xcB K (He.ga K "NotSeen") (He.ma K (He.ga K "NotSeen") "__init__") fn_NotSeen && (xcB K (He.ga K "Overflow") (He.ma K (He.ga K "Overflow") "__init__") fn_Overflow && (xc0B K (He.ga K "RisingError") && (xc0B K (He.ga K "Spent") && (xcB K (He.ga K "TooMany") (He.ma K (He.ga K "TooMany") "__init__") fn_TooMany && (xcB K (He.ga K "Unheard") (He.ma K (He.ga K "Unheard") "__init__") fn_Unheard && (xc0B K (He.ga K "Unlike") && (isTabB (mkB K) K tb_BadRun (.ref (He.ga K "BadRun")) && (isTabB (mkB K) K tb_BadStep (.ref (He.ga K "BadStep")) && (isTabB (mkB K) K tb_BadText (.ref (He.ga K "BadText")) && (isTabB (mkB K) K tb_Busy (.ref (He.ga K "Busy")) && (isTabB (mkB K) K tb_Fallen (.ref (He.ga K "Fallen")) && (isTabB (mkB K) K tb_Held (.ref (He.ga K "Held")) && (isTabB (mkB K) K tb_Idle (.ref (He.ga K "Idle")) && (isTabB (mkB K) K tb_NoBases (.ref (He.ga K "NoBases")) && (isTabB (mkB K) K tb_NoCell (.ref (He.ga K "NoCell")) && (isTabB (mkB K) K tb_NoCells (.ref (He.ga K "NoCells")) && (isTabB (mkB K) K tb_NoDivisor (.ref (He.ga K "NoDivisor")) && (isTabB (mkB K) K tb_NoLine (.ref (He.ga K "NoLine")) && (isTabB (mkB K) K tb_NoLook (.ref (He.ga K "NoLook")) && (isTabB (mkB K) K tb_NoMark (.ref (He.ga K "NoMark"))))))))))))))))))))))))))
def fb4 (K : PySem.W.Frag) : Bool := isTabB (mkB K) K tb_NoName (.ref (He.ga K "NoName")) && (isTabB (mkB K) K tb_NoNumeral (.ref (He.ga K "NoNumeral")) && (isTabB (mkB K) K tb_NoOrder (.ref (He.ga K "NoOrder")) && (isTabB (mkB K) K tb_NoPlace (.ref (He.ga K "NoPlace")) && (isTabB (mkB K) K tb_NoPlan (.ref (He.ga K "NoPlan")) && (isTabB (mkB K) K tb_NoPromise (.ref (He.ga K "NoPromise")) && (isTabB (mkB K) K tb_NoReading (.ref (He.ga K "NoReading")) && (isTabB (mkB K) K tb_NoRight (.ref (He.ga K "NoRight")) && (isTabB (mkB K) K tb_NoScheme (.ref (He.ga K "NoScheme")) && (isTabB (mkB K) K tb_NoText (.ref (He.ga K "NoText")) && (isTabB (mkB K) K tb_NoVersion (.ref (He.ga K "NoVersion")) && (isTabB (mkB K) K tb_NotEvents (.ref (He.ga K "NotEvents")) && (isTabB (mkB K) K tb_NotForced (.ref (He.ga K "NotForced")) && (isTabB (mkB K) K tb_NotMoments (.ref (He.ga K "NotMoments")) && (isTabB (mkB K) K tb_NotPattern (.ref (He.ga K "NotPattern")) && (isTabB (mkB K) K tb_NotSeen (.ref (He.ga K "NotSeen")) && (isTabB (mkB K) K tb_Overflow (.ref (He.ga K "Overflow")) && (isTabB (mkB K) K tb_RisingError (.ref (He.ga K "RisingError")) && (isTabB (mkB K) K tb_Spent (.ref (He.ga K "Spent")) && (isTabB (mkB K) K tb_TooMany (.ref (He.ga K "TooMany")) && (isTabB (mkB K) K tb_Unheard (.ref (He.ga K "Unheard")) && (isTabB (mkB K) K tb_Unlike (.ref (He.ga K "Unlike")) && (isTabB (mkB K) K tb_ValueError (.type "ValueError") && (atB (mkB K) K "at" [] [1, 6, 9, 10, 22, 28, 29, 30, 32] && (atB (mkB K) K "line" [] [34]))))))))))))))))))))))))
def fb5 (K : PySem.W.Frag) : Bool := atB (mkB K) K "missing" [] [24] && (atB (mkB K) K "most" [] [8] && (atB (mkB K) K "name" [] [12, 14, 15, 16, 33] && (atB (mkB K) K "one" [] [27] && (atB (mkB K) K "other" [] [27] && (atB (mkB K) K "part" [] [9, 10, 22] && (atB (mkB K) K "place" [] [2, 16, 31] && (atB (mkB K) K "promise" [] [11] && (atB (mkB K) K "reading" [] [25] && (atB (mkB K) K "value" [] [3] && (atB (mkB K) K "word" [] [34] && (atB (mkB K) K "x" [] [31] && (atB (mkB K) K "y" [] [31]))))))))))))
def fb (K : PySem.W.Frag) : Bool := fb0 K && (fb1 K && (fb2 K && (fb3 K && (fb4 K && (fb5 K)))))
def fn0 : List He.FnD := [fnS ("_law_pen", none) "_law_pen" "_law_pen" s__law_pen, fnS ("_law_take", none) "_law_take" "_law_take" s__law_take, fnS ("_law_made", none) "_law_made" "_law_made" s__law_made, fnS ("_law_kinds", none) "_law_kinds" "_law_kinds" s__law_kinds, fnS ("_law_fields", none) "_law_fields" "_law_fields" s__law_fields, fnS ("law", none) "law" "law" s_law, fnS ("BadRun", some "__init__") "__init__" "BadRun.__init__" s_BadRun_init, fnS ("BadStep", some "__init__") "__init__" "BadStep.__init__" s_BadStep_init, fnS ("BadText", some "__init__") "__init__" "BadText.__init__" s_BadText_init, fnS ("Fallen", some "__init__") "__init__" "Fallen.__init__" s_Fallen_init, fnS ("NoBases", some "__init__") "__init__" "NoBases.__init__" s_NoBases_init, fnS ("NoMark", some "__init__") "__init__" "NoMark.__init__" s_NoMark_init, fnS ("NoName", some "__init__") "__init__" "NoName.__init__" s_NoName_init, fnS ("NoNumeral", some "__init__") "__init__" "NoNumeral.__init__" s_NoNumeral_init, fnS ("NoPlace", some "__init__") "__init__" "NoPlace.__init__" s_NoPlace_init, fnS ("NoPlan", some "__init__") "__init__" "NoPlan.__init__" s_NoPlan_init, fnS ("NoPromise", some "__init__") "__init__" "NoPromise.__init__" s_NoPromise_init, fnS ("NoReading", some "__init__") "__init__" "NoReading.__init__" s_NoReading_init, fnS ("NoRight", some "__init__") "__init__" "NoRight.__init__" s_NoRight_init, fnS ("NoScheme", some "__init__") "__init__" "NoScheme.__init__" s_NoScheme_init, fnS ("NoText", some "__init__") "__init__" "NoText.__init__" s_NoText_init, fnS ("NoVersion", some "__init__") "__init__" "NoVersion.__init__" s_NoVersion_init, fnS ("NotEvents", some "__init__") "__init__" "NotEvents.__init__" s_NotEvents_init, fnS ("NotForced", some "__init__") "__init__" "NotForced.__init__" s_NotForced_init, fnS ("NotMoments", some "__init__") "__init__" "NotMoments.__init__" s_NotMoments_init]
def fn1 : List He.FnD := [fnS ("NotSeen", some "__init__") "__init__" "NotSeen.__init__" s_NotSeen_init, fnS ("Overflow", some "__init__") "__init__" "Overflow.__init__" s_Overflow_init, fnS ("TooMany", some "__init__") "__init__" "TooMany.__init__" s_TooMany_init, fnS ("Unheard", some "__init__") "__init__" "Unheard.__init__" s_Unheard_init]
def fnL : List He.FnD := fn0 ++ fn1
theorem all_mk {l : PySem.W.OpenLaw} {w : World} {K : PySem.W.Frag} {h : Heap} {mg : Str → Option Value} {fa : Addr} (hk : Keeps ["_law_script", "_law_pen_here", "_law_values", "_law_turn", "_law_some", "_law_made_so", "_law_k", "_law_due", "_law_count", "_law_kinds_here"] 1 DL.S_law t_law) (X : K.In h) (G : h.Ns mainGlobals mg) (hfa : mg "law" = some (.ref fa)) (c : SaysM fb fnL K) :
    ∃ (B : Tb) (fd : FuncData), (∀ (s : Shared) (u : Value), BindsTo s fd ⟨[u], []⟩ [("_law_script", u)]) ∧ ∀ base : Heap, FnG l.prog w K mg base 4 fa fd ["_law_script"] (spOf B K 1 DL.S_law) := by
  have ca := c.all
  obtain ⟨cg0, ca⟩ := Bool.and_eq_true_iff.mp ca
  obtain ⟨g_BadRun, cg0⟩ := Bool.and_eq_true_iff.mp cg0
  obtain ⟨g_BadStep, cg0⟩ := Bool.and_eq_true_iff.mp cg0
  obtain ⟨g_BadText, cg0⟩ := Bool.and_eq_true_iff.mp cg0
  obtain ⟨g_Busy, cg0⟩ := Bool.and_eq_true_iff.mp cg0
  obtain ⟨g_Fallen, cg0⟩ := Bool.and_eq_true_iff.mp cg0
  obtain ⟨g_Held, cg0⟩ := Bool.and_eq_true_iff.mp cg0
  obtain ⟨g_Idle, cg0⟩ := Bool.and_eq_true_iff.mp cg0
  obtain ⟨g_NoBases, cg0⟩ := Bool.and_eq_true_iff.mp cg0
  obtain ⟨g_NoCell, cg0⟩ := Bool.and_eq_true_iff.mp cg0
  obtain ⟨g_NoCells, cg0⟩ := Bool.and_eq_true_iff.mp cg0
  obtain ⟨g_NoDivisor, cg0⟩ := Bool.and_eq_true_iff.mp cg0
  obtain ⟨g_NoLine, cg0⟩ := Bool.and_eq_true_iff.mp cg0
  obtain ⟨g_NoLook, cg0⟩ := Bool.and_eq_true_iff.mp cg0
  obtain ⟨g_NoMark, cg0⟩ := Bool.and_eq_true_iff.mp cg0
  obtain ⟨g_NoName, cg0⟩ := Bool.and_eq_true_iff.mp cg0
  obtain ⟨g_NoNumeral, cg0⟩ := Bool.and_eq_true_iff.mp cg0
  obtain ⟨g_NoOrder, cg0⟩ := Bool.and_eq_true_iff.mp cg0
  obtain ⟨g_NoPlace, cg0⟩ := Bool.and_eq_true_iff.mp cg0
  obtain ⟨g_NoPlan, cg0⟩ := Bool.and_eq_true_iff.mp cg0
  obtain ⟨g_NoPromise, cg0⟩ := Bool.and_eq_true_iff.mp cg0
  obtain ⟨g_NoReading, cg0⟩ := Bool.and_eq_true_iff.mp cg0
  obtain ⟨g_NoRight, cg0⟩ := Bool.and_eq_true_iff.mp cg0
  obtain ⟨g_NoScheme, cg0⟩ := Bool.and_eq_true_iff.mp cg0
  obtain ⟨g_NoText, cg0⟩ := Bool.and_eq_true_iff.mp cg0
  have g_NoVersion := cg0
  obtain ⟨cg1, ca⟩ := Bool.and_eq_true_iff.mp ca
  obtain ⟨g_NotEvents, cg1⟩ := Bool.and_eq_true_iff.mp cg1
  obtain ⟨g_NotForced, cg1⟩ := Bool.and_eq_true_iff.mp cg1
  obtain ⟨g_NotMoments, cg1⟩ := Bool.and_eq_true_iff.mp cg1
  obtain ⟨g_NotPattern, cg1⟩ := Bool.and_eq_true_iff.mp cg1
  obtain ⟨g_NotSeen, cg1⟩ := Bool.and_eq_true_iff.mp cg1
  obtain ⟨g_Overflow, cg1⟩ := Bool.and_eq_true_iff.mp cg1
  obtain ⟨g_RisingError, cg1⟩ := Bool.and_eq_true_iff.mp cg1
  obtain ⟨g_Spent, cg1⟩ := Bool.and_eq_true_iff.mp cg1
  obtain ⟨g_TooMany, cg1⟩ := Bool.and_eq_true_iff.mp cg1
  obtain ⟨g_Unheard, cg1⟩ := Bool.and_eq_true_iff.mp cg1
  obtain ⟨g_Unlike, cg1⟩ := Bool.and_eq_true_iff.mp cg1
  obtain ⟨g__law_pen, cg1⟩ := Bool.and_eq_true_iff.mp cg1
  obtain ⟨g__law_take, cg1⟩ := Bool.and_eq_true_iff.mp cg1
  obtain ⟨g__law_made, cg1⟩ := Bool.and_eq_true_iff.mp cg1
  obtain ⟨g__law_kinds, cg1⟩ := Bool.and_eq_true_iff.mp cg1
  obtain ⟨g__law_fields, cg1⟩ := Bool.and_eq_true_iff.mp cg1
  obtain ⟨g_law, cg1⟩ := Bool.and_eq_true_iff.mp cg1
  obtain ⟨z_ValueError, cg1⟩ := Bool.and_eq_true_iff.mp cg1
  obtain ⟨z_abs, cg1⟩ := Bool.and_eq_true_iff.mp cg1
  obtain ⟨z_int, cg1⟩ := Bool.and_eq_true_iff.mp cg1
  obtain ⟨z_isinstance, cg1⟩ := Bool.and_eq_true_iff.mp cg1
  obtain ⟨z_len, cg1⟩ := Bool.and_eq_true_iff.mp cg1
  obtain ⟨z_list, cg1⟩ := Bool.and_eq_true_iff.mp cg1
  obtain ⟨z_range, cg1⟩ := Bool.and_eq_true_iff.mp cg1
  have z_repr := cg1
  obtain ⟨cg2, ca⟩ := Bool.and_eq_true_iff.mp ca
  obtain ⟨q_BadRun, cg2⟩ := Bool.and_eq_true_iff.mp cg2
  obtain ⟨q_BadStep, cg2⟩ := Bool.and_eq_true_iff.mp cg2
  obtain ⟨q_BadText, cg2⟩ := Bool.and_eq_true_iff.mp cg2
  obtain ⟨q_Busy, cg2⟩ := Bool.and_eq_true_iff.mp cg2
  obtain ⟨q_Fallen, cg2⟩ := Bool.and_eq_true_iff.mp cg2
  obtain ⟨q_Held, cg2⟩ := Bool.and_eq_true_iff.mp cg2
  obtain ⟨q_Idle, cg2⟩ := Bool.and_eq_true_iff.mp cg2
  obtain ⟨q_NoBases, cg2⟩ := Bool.and_eq_true_iff.mp cg2
  obtain ⟨q_NoCell, cg2⟩ := Bool.and_eq_true_iff.mp cg2
  obtain ⟨q_NoCells, cg2⟩ := Bool.and_eq_true_iff.mp cg2
  obtain ⟨q_NoDivisor, cg2⟩ := Bool.and_eq_true_iff.mp cg2
  obtain ⟨q_NoLine, cg2⟩ := Bool.and_eq_true_iff.mp cg2
  obtain ⟨q_NoLook, cg2⟩ := Bool.and_eq_true_iff.mp cg2
  obtain ⟨q_NoMark, cg2⟩ := Bool.and_eq_true_iff.mp cg2
  obtain ⟨q_NoName, cg2⟩ := Bool.and_eq_true_iff.mp cg2
  obtain ⟨q_NoNumeral, cg2⟩ := Bool.and_eq_true_iff.mp cg2
  obtain ⟨q_NoOrder, cg2⟩ := Bool.and_eq_true_iff.mp cg2
  obtain ⟨q_NoPlace, cg2⟩ := Bool.and_eq_true_iff.mp cg2
  obtain ⟨q_NoPlan, cg2⟩ := Bool.and_eq_true_iff.mp cg2
  obtain ⟨q_NoPromise, cg2⟩ := Bool.and_eq_true_iff.mp cg2
  obtain ⟨q_NoReading, cg2⟩ := Bool.and_eq_true_iff.mp cg2
  obtain ⟨q_NoRight, cg2⟩ := Bool.and_eq_true_iff.mp cg2
  obtain ⟨q_NoScheme, cg2⟩ := Bool.and_eq_true_iff.mp cg2
  obtain ⟨q_NoText, cg2⟩ := Bool.and_eq_true_iff.mp cg2
  have q_NoVersion := cg2
  obtain ⟨cg3, ca⟩ := Bool.and_eq_true_iff.mp ca
  obtain ⟨q_NotEvents, cg3⟩ := Bool.and_eq_true_iff.mp cg3
  obtain ⟨q_NotForced, cg3⟩ := Bool.and_eq_true_iff.mp cg3
  obtain ⟨q_NotMoments, cg3⟩ := Bool.and_eq_true_iff.mp cg3
  obtain ⟨q_NotPattern, cg3⟩ := Bool.and_eq_true_iff.mp cg3
  obtain ⟨q_NotSeen, cg3⟩ := Bool.and_eq_true_iff.mp cg3
  obtain ⟨q_Overflow, cg3⟩ := Bool.and_eq_true_iff.mp cg3
  obtain ⟨q_RisingError, cg3⟩ := Bool.and_eq_true_iff.mp cg3
  obtain ⟨q_Spent, cg3⟩ := Bool.and_eq_true_iff.mp cg3
  obtain ⟨q_TooMany, cg3⟩ := Bool.and_eq_true_iff.mp cg3
  obtain ⟨q_Unheard, cg3⟩ := Bool.and_eq_true_iff.mp cg3
  obtain ⟨q_Unlike, cg3⟩ := Bool.and_eq_true_iff.mp cg3
  obtain ⟨q_is_BadRun, cg3⟩ := Bool.and_eq_true_iff.mp cg3
  obtain ⟨q_is_BadStep, cg3⟩ := Bool.and_eq_true_iff.mp cg3
  obtain ⟨q_is_BadText, cg3⟩ := Bool.and_eq_true_iff.mp cg3
  obtain ⟨q_is_Busy, cg3⟩ := Bool.and_eq_true_iff.mp cg3
  obtain ⟨q_is_Fallen, cg3⟩ := Bool.and_eq_true_iff.mp cg3
  obtain ⟨q_is_Held, cg3⟩ := Bool.and_eq_true_iff.mp cg3
  obtain ⟨q_is_Idle, cg3⟩ := Bool.and_eq_true_iff.mp cg3
  obtain ⟨q_is_NoBases, cg3⟩ := Bool.and_eq_true_iff.mp cg3
  obtain ⟨q_is_NoCell, cg3⟩ := Bool.and_eq_true_iff.mp cg3
  obtain ⟨q_is_NoCells, cg3⟩ := Bool.and_eq_true_iff.mp cg3
  obtain ⟨q_is_NoDivisor, cg3⟩ := Bool.and_eq_true_iff.mp cg3
  obtain ⟨q_is_NoLine, cg3⟩ := Bool.and_eq_true_iff.mp cg3
  obtain ⟨q_is_NoLook, cg3⟩ := Bool.and_eq_true_iff.mp cg3
  have q_is_NoMark := cg3
  obtain ⟨cg4, ca⟩ := Bool.and_eq_true_iff.mp ca
  obtain ⟨q_is_NoName, cg4⟩ := Bool.and_eq_true_iff.mp cg4
  obtain ⟨q_is_NoNumeral, cg4⟩ := Bool.and_eq_true_iff.mp cg4
  obtain ⟨q_is_NoOrder, cg4⟩ := Bool.and_eq_true_iff.mp cg4
  obtain ⟨q_is_NoPlace, cg4⟩ := Bool.and_eq_true_iff.mp cg4
  obtain ⟨q_is_NoPlan, cg4⟩ := Bool.and_eq_true_iff.mp cg4
  obtain ⟨q_is_NoPromise, cg4⟩ := Bool.and_eq_true_iff.mp cg4
  obtain ⟨q_is_NoReading, cg4⟩ := Bool.and_eq_true_iff.mp cg4
  obtain ⟨q_is_NoRight, cg4⟩ := Bool.and_eq_true_iff.mp cg4
  obtain ⟨q_is_NoScheme, cg4⟩ := Bool.and_eq_true_iff.mp cg4
  obtain ⟨q_is_NoText, cg4⟩ := Bool.and_eq_true_iff.mp cg4
  obtain ⟨q_is_NoVersion, cg4⟩ := Bool.and_eq_true_iff.mp cg4
  obtain ⟨q_is_NotEvents, cg4⟩ := Bool.and_eq_true_iff.mp cg4
  obtain ⟨q_is_NotForced, cg4⟩ := Bool.and_eq_true_iff.mp cg4
  obtain ⟨q_is_NotMoments, cg4⟩ := Bool.and_eq_true_iff.mp cg4
  obtain ⟨q_is_NotPattern, cg4⟩ := Bool.and_eq_true_iff.mp cg4
  obtain ⟨q_is_NotSeen, cg4⟩ := Bool.and_eq_true_iff.mp cg4
  obtain ⟨q_is_Overflow, cg4⟩ := Bool.and_eq_true_iff.mp cg4
  obtain ⟨q_is_RisingError, cg4⟩ := Bool.and_eq_true_iff.mp cg4
  obtain ⟨q_is_Spent, cg4⟩ := Bool.and_eq_true_iff.mp cg4
  obtain ⟨q_is_TooMany, cg4⟩ := Bool.and_eq_true_iff.mp cg4
  obtain ⟨q_is_Unheard, cg4⟩ := Bool.and_eq_true_iff.mp cg4
  obtain ⟨q_is_Unlike, cg4⟩ := Bool.and_eq_true_iff.mp cg4
  obtain ⟨q_is_ValueError, cg4⟩ := Bool.and_eq_true_iff.mp cg4
  obtain ⟨q_at_at, cg4⟩ := Bool.and_eq_true_iff.mp cg4
  have q_at_line := cg4
  have cg5 := ca
  obtain ⟨q_at_missing, cg5⟩ := Bool.and_eq_true_iff.mp cg5
  obtain ⟨q_at_most, cg5⟩ := Bool.and_eq_true_iff.mp cg5
  obtain ⟨q_at_name, cg5⟩ := Bool.and_eq_true_iff.mp cg5
  obtain ⟨q_at_one, cg5⟩ := Bool.and_eq_true_iff.mp cg5
  obtain ⟨q_at_other, cg5⟩ := Bool.and_eq_true_iff.mp cg5
  obtain ⟨q_at_part, cg5⟩ := Bool.and_eq_true_iff.mp cg5
  obtain ⟨q_at_place, cg5⟩ := Bool.and_eq_true_iff.mp cg5
  obtain ⟨q_at_promise, cg5⟩ := Bool.and_eq_true_iff.mp cg5
  obtain ⟨q_at_reading, cg5⟩ := Bool.and_eq_true_iff.mp cg5
  obtain ⟨q_at_value, cg5⟩ := Bool.and_eq_true_iff.mp cg5
  obtain ⟨q_at_word, cg5⟩ := Bool.and_eq_true_iff.mp cg5
  obtain ⟨q_at_x, cg5⟩ := Bool.and_eq_true_iff.mp cg5
  have q_at_y := cg5
  obtain ⟨fd__law_pen, F__law_pen⟩ := c.fun_ 0 (st := s__law_pen) rfl
  obtain ⟨fd__law_take, F__law_take⟩ := c.fun_ 1 (st := s__law_take) rfl
  obtain ⟨fd__law_made, F__law_made⟩ := c.fun_ 2 (st := s__law_made) rfl
  obtain ⟨fd__law_kinds, F__law_kinds⟩ := c.fun_ 3 (st := s__law_kinds) rfl
  obtain ⟨fd__law_fields, F__law_fields⟩ := c.fun_ 4 (st := s__law_fields) rfl
  obtain ⟨fd_law, F_law⟩ := c.fun_ 5 (st := s_law) rfl
  obtain ⟨fd_BadRun_init, F_BadRun_init⟩ := c.fun_ 6 (st := s_BadRun_init) rfl
  obtain ⟨fd_BadStep_init, F_BadStep_init⟩ := c.fun_ 7 (st := s_BadStep_init) rfl
  obtain ⟨fd_BadText_init, F_BadText_init⟩ := c.fun_ 8 (st := s_BadText_init) rfl
  obtain ⟨fd_Fallen_init, F_Fallen_init⟩ := c.fun_ 9 (st := s_Fallen_init) rfl
  obtain ⟨fd_NoBases_init, F_NoBases_init⟩ := c.fun_ 10 (st := s_NoBases_init) rfl
  obtain ⟨fd_NoMark_init, F_NoMark_init⟩ := c.fun_ 11 (st := s_NoMark_init) rfl
  obtain ⟨fd_NoName_init, F_NoName_init⟩ := c.fun_ 12 (st := s_NoName_init) rfl
  obtain ⟨fd_NoNumeral_init, F_NoNumeral_init⟩ := c.fun_ 13 (st := s_NoNumeral_init) rfl
  obtain ⟨fd_NoPlace_init, F_NoPlace_init⟩ := c.fun_ 14 (st := s_NoPlace_init) rfl
  obtain ⟨fd_NoPlan_init, F_NoPlan_init⟩ := c.fun_ 15 (st := s_NoPlan_init) rfl
  obtain ⟨fd_NoPromise_init, F_NoPromise_init⟩ := c.fun_ 16 (st := s_NoPromise_init) rfl
  obtain ⟨fd_NoReading_init, F_NoReading_init⟩ := c.fun_ 17 (st := s_NoReading_init) rfl
  obtain ⟨fd_NoRight_init, F_NoRight_init⟩ := c.fun_ 18 (st := s_NoRight_init) rfl
  obtain ⟨fd_NoScheme_init, F_NoScheme_init⟩ := c.fun_ 19 (st := s_NoScheme_init) rfl
  obtain ⟨fd_NoText_init, F_NoText_init⟩ := c.fun_ 20 (st := s_NoText_init) rfl
  obtain ⟨fd_NoVersion_init, F_NoVersion_init⟩ := c.fun_ 21 (st := s_NoVersion_init) rfl
  obtain ⟨fd_NotEvents_init, F_NotEvents_init⟩ := c.fun_ 22 (st := s_NotEvents_init) rfl
  obtain ⟨fd_NotForced_init, F_NotForced_init⟩ := c.fun_ 23 (st := s_NotForced_init) rfl
  obtain ⟨fd_NotMoments_init, F_NotMoments_init⟩ := c.fun_ 24 (st := s_NotMoments_init) rfl
  obtain ⟨fd_NotSeen_init, F_NotSeen_init⟩ := c.fun_ 25 (st := s_NotSeen_init) rfl
  obtain ⟨fd_Overflow_init, F_Overflow_init⟩ := c.fun_ 26 (st := s_Overflow_init) rfl
  obtain ⟨fd_TooMany_init, F_TooMany_init⟩ := c.fun_ 27 (st := s_TooMany_init) rfl
  obtain ⟨fd_Unheard_init, F_Unheard_init⟩ := c.fun_ 28 (st := s_Unheard_init) rfl
  have e := hfa.symm.trans (He.glo_ok X G g_law)
  cases e
  have b_BadRun_init := F_BadRun_init.binds (ps := ["self", "part", "at"]) fun _ _ _ _ _ _ us hl => match us, hl with | [_, _, _], _ => rfl
  have b_BadStep_init := F_BadStep_init.binds (ps := ["self", "at"]) fun _ _ _ _ _ _ us hl => match us, hl with | [_, _], _ => rfl
  have b_BadText_init := F_BadText_init.binds (ps := ["self", "line", "word"]) fun _ _ _ _ _ _ us hl => match us, hl with | [_, _, _], _ => rfl
  have b_Fallen_init := F_Fallen_init.binds (ps := ["self", "name", "place"]) fun _ _ _ _ _ _ us hl => match us, hl with | [_, _, _], _ => rfl
  have b_NoBases_init := F_NoBases_init.binds (ps := ["self", "name"]) fun _ _ _ _ _ _ us hl => match us, hl with | [_, _], _ => rfl
  have b_NoMark_init := F_NoMark_init.binds (ps := ["self", "name"]) fun _ _ _ _ _ _ us hl => match us, hl with | [_, _], _ => rfl
  have b_NoName_init := F_NoName_init.binds (ps := ["self", "name"]) fun _ _ _ _ _ _ us hl => match us, hl with | [_, _], _ => rfl
  have b_NoNumeral_init := F_NoNumeral_init.binds (ps := ["self", "at"]) fun _ _ _ _ _ _ us hl => match us, hl with | [_, _], _ => rfl
  have b_NoPlace_init := F_NoPlace_init.binds (ps := ["self", "place"]) fun _ _ _ _ _ _ us hl => match us, hl with | [_, _], _ => rfl
  have b_NoPlan_init := F_NoPlan_init.binds (ps := ["self", "part", "at"]) fun _ _ _ _ _ _ us hl => match us, hl with | [_, _, _], _ => rfl
  have b_NoPromise_init := F_NoPromise_init.binds (ps := ["self", "promise"]) fun _ _ _ _ _ _ us hl => match us, hl with | [_, _], _ => rfl
  have b_NoReading_init := F_NoReading_init.binds (ps := ["self", "reading"]) fun _ _ _ _ _ _ us hl => match us, hl with | [_, _], _ => rfl
  have b_NoRight_init := F_NoRight_init.binds (ps := ["self", "at"]) fun _ _ _ _ _ _ us hl => match us, hl with | [_, _], _ => rfl
  have b_NoScheme_init := F_NoScheme_init.binds (ps := ["self", "part", "at"]) fun _ _ _ _ _ _ us hl => match us, hl with | [_, _, _], _ => rfl
  have b_NoText_init := F_NoText_init.binds (ps := ["self", "at"]) fun _ _ _ _ _ _ us hl => match us, hl with | [_, _], _ => rfl
  have b_NoVersion_init := F_NoVersion_init.binds (ps := ["self", "name"]) fun _ _ _ _ _ _ us hl => match us, hl with | [_, _], _ => rfl
  have b_NotEvents_init := F_NotEvents_init.binds (ps := ["self", "at"]) fun _ _ _ _ _ _ us hl => match us, hl with | [_, _], _ => rfl
  have b_NotForced_init := F_NotForced_init.binds (ps := ["self", "place", "x", "y"]) fun _ _ _ _ _ _ us hl => match us, hl with | [_, _, _, _], _ => rfl
  have b_NotMoments_init := F_NotMoments_init.binds (ps := ["self", "at"]) fun _ _ _ _ _ _ us hl => match us, hl with | [_, _], _ => rfl
  have b_NotSeen_init := F_NotSeen_init.binds (ps := ["self", "one", "other"]) fun _ _ _ _ _ _ us hl => match us, hl with | [_, _, _], _ => rfl
  have b_Overflow_init := F_Overflow_init.binds (ps := ["self", "value"]) fun _ _ _ _ _ _ us hl => match us, hl with | [_, _], _ => rfl
  have b_TooMany_init := F_TooMany_init.binds (ps := ["self", "most"]) fun _ _ _ _ _ _ us hl => match us, hl with | [_, _], _ => rfl
  have b_Unheard_init := F_Unheard_init.binds (ps := ["self", "missing"]) fun _ _ _ _ _ _ us hl => match us, hl with | [_, _], _ => rfl
  have b__law_pen := F__law_pen.binds (ps := ["_law_script"]) fun _ _ _ _ _ _ us hl => match us, hl with | [_], _ => rfl
  have b__law_take := F__law_take.binds (ps := ["_law_pen_here", "_law_many"]) fun _ _ _ _ _ _ us hl => match us, hl with | [_, _], _ => rfl
  have b__law_made := F__law_made.binds (ps := ["_law_one", "_law_two", "_law_three"]) fun _ _ _ _ _ _ us hl => match us, hl with | [_, _, _], _ => rfl
  have b__law_kinds := F__law_kinds.binds (ps := ["_law_thing"]) fun _ _ _ _ _ _ us hl => match us, hl with | [_], _ => rfl
  have b__law_fields := F__law_fields.binds (ps := ["_law_made_so"]) fun _ _ _ _ _ _ us hl => match us, hl with | [_], _ => rfl
  have b_law := F_law.binds (ps := ["_law_script"]) fun _ _ _ _ _ _ us hl => match us, hl with | [_], _ => rfl
  refine ⟨mkB K, fd_law, fun s v => ?bind, fun base => ?_⟩
  case bind =>
    obtain ⟨oc, od, kV, doc, pm, an, cdv, ct, osl, rfl, _⟩ := F_law.ex
    exact .of_eq rfl
  have T : TbD (mkB K) := ⟨rfl, rfl⟩
  have M : Mg (mkB K) l.prog w K mg base := { b_ValueError := He.free_ok X G z_ValueError, b_abs := He.free_ok X G z_abs, b_int := He.free_ok X G z_int, b_isinstance := He.free_ok X G z_isinstance, b_len := He.free_ok X G z_len, b_list := He.free_ok X G z_list, b_range := He.free_ok X G z_range, b_repr := He.free_ok X G z_repr, x_BadRun := xc_mk (He.glo_ok X G g_BadRun) q_BadRun F_BadRun_init sc_BadRun_init in_BadRun_init b_BadRun_init, x_BadStep := xc_mk (He.glo_ok X G g_BadStep) q_BadStep F_BadStep_init sc_BadStep_init in_BadStep_init b_BadStep_init, x_BadText := xc_mk (He.glo_ok X G g_BadText) q_BadText F_BadText_init sc_BadText_init in_BadText_init b_BadText_init, x_Busy := xc0_mk (He.glo_ok X G g_Busy) q_Busy, x_Fallen := xc_mk (He.glo_ok X G g_Fallen) q_Fallen F_Fallen_init sc_Fallen_init in_Fallen_init b_Fallen_init, x_Held := xc0_mk (He.glo_ok X G g_Held) q_Held, x_Idle := xc0_mk (He.glo_ok X G g_Idle) q_Idle, x_NoBases := xc_mk (He.glo_ok X G g_NoBases) q_NoBases F_NoBases_init sc_NoBases_init in_NoBases_init b_NoBases_init, x_NoCell := xc0_mk (He.glo_ok X G g_NoCell) q_NoCell, x_NoCells := xc0_mk (He.glo_ok X G g_NoCells) q_NoCells, x_NoDivisor := xc0_mk (He.glo_ok X G g_NoDivisor) q_NoDivisor, x_NoLine := xc0_mk (He.glo_ok X G g_NoLine) q_NoLine, x_NoLook := xc0_mk (He.glo_ok X G g_NoLook) q_NoLook, x_NoMark := xc_mk (He.glo_ok X G g_NoMark) q_NoMark F_NoMark_init sc_NoMark_init in_NoMark_init b_NoMark_init, x_NoName := xc_mk (He.glo_ok X G g_NoName) q_NoName F_NoName_init sc_NoName_init in_NoName_init b_NoName_init, x_NoNumeral := xc_mk (He.glo_ok X G g_NoNumeral) q_NoNumeral F_NoNumeral_init sc_NoNumeral_init in_NoNumeral_init b_NoNumeral_init, x_NoOrder := xc0_mk (He.glo_ok X G g_NoOrder) q_NoOrder, x_NoPlace := xc_mk (He.glo_ok X G g_NoPlace) q_NoPlace F_NoPlace_init sc_NoPlace_init in_NoPlace_init b_NoPlace_init, x_NoPlan := xc_mk (He.glo_ok X G g_NoPlan) q_NoPlan F_NoPlan_init sc_NoPlan_init in_NoPlan_init b_NoPlan_init, x_NoPromise := xc_mk (He.glo_ok X G g_NoPromise) q_NoPromise F_NoPromise_init sc_NoPromise_init in_NoPromise_init b_NoPromise_init, x_NoReading := xc_mk (He.glo_ok X G g_NoReading) q_NoReading F_NoReading_init sc_NoReading_init in_NoReading_init b_NoReading_init, x_NoRight := xc_mk (He.glo_ok X G g_NoRight) q_NoRight F_NoRight_init sc_NoRight_init in_NoRight_init b_NoRight_init, x_NoScheme := xc_mk (He.glo_ok X G g_NoScheme) q_NoScheme F_NoScheme_init sc_NoScheme_init in_NoScheme_init b_NoScheme_init, x_NoText := xc_mk (He.glo_ok X G g_NoText) q_NoText F_NoText_init sc_NoText_init in_NoText_init b_NoText_init, x_NoVersion := xc_mk (He.glo_ok X G g_NoVersion) q_NoVersion F_NoVersion_init sc_NoVersion_init in_NoVersion_init b_NoVersion_init, x_NotEvents := xc_mk (He.glo_ok X G g_NotEvents) q_NotEvents F_NotEvents_init sc_NotEvents_init in_NotEvents_init b_NotEvents_init, x_NotForced := xc_mk (He.glo_ok X G g_NotForced) q_NotForced F_NotForced_init sc_NotForced_init in_NotForced_init b_NotForced_init, x_NotMoments := xc_mk (He.glo_ok X G g_NotMoments) q_NotMoments F_NotMoments_init sc_NotMoments_init in_NotMoments_init b_NotMoments_init, x_NotPattern := xc0_mk (He.glo_ok X G g_NotPattern) q_NotPattern, x_NotSeen := xc_mk (He.glo_ok X G g_NotSeen) q_NotSeen F_NotSeen_init sc_NotSeen_init in_NotSeen_init b_NotSeen_init, x_Overflow := xc_mk (He.glo_ok X G g_Overflow) q_Overflow F_Overflow_init sc_Overflow_init in_Overflow_init b_Overflow_init, x_RisingError := xc0_mk (He.glo_ok X G g_RisingError) q_RisingError, x_Spent := xc0_mk (He.glo_ok X G g_Spent) q_Spent, x_TooMany := xc_mk (He.glo_ok X G g_TooMany) q_TooMany F_TooMany_init sc_TooMany_init in_TooMany_init b_TooMany_init, x_Unheard := xc_mk (He.glo_ok X G g_Unheard) q_Unheard F_Unheard_init sc_Unheard_init in_Unheard_init b_Unheard_init, x_Unlike := xc0_mk (He.glo_ok X G g_Unlike) q_Unlike, n_BadRun := He.glo_ok X G g_BadRun, n_BadStep := He.glo_ok X G g_BadStep, n_BadText := He.glo_ok X G g_BadText, n_Busy := He.glo_ok X G g_Busy, n_Fallen := He.glo_ok X G g_Fallen, n_Held := He.glo_ok X G g_Held, n_Idle := He.glo_ok X G g_Idle, n_NoBases := He.glo_ok X G g_NoBases, n_NoCell := He.glo_ok X G g_NoCell, n_NoCells := He.glo_ok X G g_NoCells, n_NoDivisor := He.glo_ok X G g_NoDivisor, n_NoLine := He.glo_ok X G g_NoLine, n_NoLook := He.glo_ok X G g_NoLook, n_NoMark := He.glo_ok X G g_NoMark, n_NoName := He.glo_ok X G g_NoName, n_NoNumeral := He.glo_ok X G g_NoNumeral, n_NoOrder := He.glo_ok X G g_NoOrder, n_NoPlace := He.glo_ok X G g_NoPlace, n_NoPlan := He.glo_ok X G g_NoPlan, n_NoPromise := He.glo_ok X G g_NoPromise, n_NoReading := He.glo_ok X G g_NoReading, n_NoRight := He.glo_ok X G g_NoRight, n_NoScheme := He.glo_ok X G g_NoScheme, n_NoText := He.glo_ok X G g_NoText, n_NoVersion := He.glo_ok X G g_NoVersion, n_NotEvents := He.glo_ok X G g_NotEvents, n_NotForced := He.glo_ok X G g_NotForced, n_NotMoments := He.glo_ok X G g_NotMoments, n_NotPattern := He.glo_ok X G g_NotPattern, n_NotSeen := He.glo_ok X G g_NotSeen, n_Overflow := He.glo_ok X G g_Overflow, n_RisingError := He.glo_ok X G g_RisingError, n_Spent := He.glo_ok X G g_Spent, n_TooMany := He.glo_ok X G g_TooMany, n_Unheard := He.glo_ok X G g_Unheard, n_Unlike := He.glo_ok X G g_Unlike, is_BadRun := isTab_ok q_is_BadRun, is_BadStep := isTab_ok q_is_BadStep, is_BadText := isTab_ok q_is_BadText, is_Busy := isTab_ok q_is_Busy, is_Fallen := isTab_ok q_is_Fallen, is_Held := isTab_ok q_is_Held, is_Idle := isTab_ok q_is_Idle, is_NoBases := isTab_ok q_is_NoBases, is_NoCell := isTab_ok q_is_NoCell, is_NoCells := isTab_ok q_is_NoCells, is_NoDivisor := isTab_ok q_is_NoDivisor, is_NoLine := isTab_ok q_is_NoLine, is_NoLook := isTab_ok q_is_NoLook, is_NoMark := isTab_ok q_is_NoMark, is_NoName := isTab_ok q_is_NoName, is_NoNumeral := isTab_ok q_is_NoNumeral, is_NoOrder := isTab_ok q_is_NoOrder, is_NoPlace := isTab_ok q_is_NoPlace, is_NoPlan := isTab_ok q_is_NoPlan, is_NoPromise := isTab_ok q_is_NoPromise, is_NoReading := isTab_ok q_is_NoReading, is_NoRight := isTab_ok q_is_NoRight, is_NoScheme := isTab_ok q_is_NoScheme, is_NoText := isTab_ok q_is_NoText, is_NoVersion := isTab_ok q_is_NoVersion, is_NotEvents := isTab_ok q_is_NotEvents, is_NotForced := isTab_ok q_is_NotForced, is_NotMoments := isTab_ok q_is_NotMoments, is_NotPattern := isTab_ok q_is_NotPattern, is_NotSeen := isTab_ok q_is_NotSeen, is_Overflow := isTab_ok q_is_Overflow, is_RisingError := isTab_ok q_is_RisingError, is_Spent := isTab_ok q_is_Spent, is_TooMany := isTab_ok q_is_TooMany, is_Unheard := isTab_ok q_is_Unheard, is_Unlike := isTab_ok q_is_Unlike, is_ValueError := isTab_ok q_is_ValueError, at_at := atB_ok q_at_at, at_line := atB_ok q_at_line, at_missing := atB_ok q_at_missing, at_most := atB_ok q_at_most, at_name := atB_ok q_at_name, at_one := atB_ok q_at_one, at_other := atB_ok q_at_other, at_part := atB_ok q_at_part, at_place := atB_ok q_at_place, at_promise := atB_ok q_at_promise, at_reading := atB_ok q_at_reading, at_value := atB_ok q_at_value, at_word := atB_ok q_at_word, at_x := atB_ok q_at_x, at_y := atB_ok q_at_y }
  have h__law_pen : Fn (mkB K) l.prog w K mg base 1 "_law_pen" 1 S__law_pen := fn_mk (ok__law_pen F__law_pen T M ) (He.glo_ok X G g__law_pen) F__law_pen.kp b__law_pen
  have h__law_take : Fn (mkB K) l.prog w K mg base 1 "_law_take" 2 S__law_take := fn_mk (ok__law_take F__law_take T M ) (He.glo_ok X G g__law_take) F__law_take.kp b__law_take
  have h__law_made : Fn (mkB K) l.prog w K mg base 3 "_law_made" 3 S__law_made := fn_mk (ok__law_made F__law_made M ) (He.glo_ok X G g__law_made) F__law_made.kp b__law_made
  have h__law_kinds : Fn (mkB K) l.prog w K mg base 1 "_law_kinds" 1 S__law_kinds := fn_mk (ok__law_kinds F__law_kinds M ) (He.glo_ok X G g__law_kinds) F__law_kinds.kp b__law_kinds
  have h__law_fields : Fn (mkB K) l.prog w K mg base 1 "_law_fields" 1 S__law_fields := fn_mk (ok__law_fields F__law_fields M ) (He.glo_ok X G g__law_fields) F__law_fields.kp b__law_fields
  exact ok_law F_law M hk h__law_fields h__law_kinds h__law_made h__law_pen h__law_take
def loose0 : List Str := ["RisingError", "NoNumeral", "NoPlace", "Overflow", "Unlike", "NoDivisor", "NoText", "NoOrder", "TooMany", "NoScheme", "NoPlan", "NoPromise", "NoName", "NoLook", "NoBases", "NoVersion", "Fallen", "Busy", "Idle", "Held", "NoCells", "NoCell", "BadRun", "Spent", "Unheard", "NoReading", "NotPattern", "NotSeen", "NotMoments", "NotEvents"]
def loose1 : List Str := ["NoRight", "NotForced", "BadStep", "NoMark", "BadText", "NoLine", "_law_pen", "_law_take", "_law_made", "_law_kinds", "_law_fields"]
def loose : List Str := loose0 ++ loose1
abbrev Rw : PySem.W.OpenRow := PySem.W.OpenLaw.row PySem.Challenge.rw_risingread_k97_errors
abbrev hk : PySem.W.Hook := hookM 5 fb fnL
def ob (s : PySem.W.SharedT) : AlM := obsMG 5 fb fnL (HandSHeadRun.getT s)
theorem ob_eq (s : PySem.W.SharedT) : ob s = hk.obs s.abs := obsMG_eq s
theorem run (w : World) : HandSHeadRun.RunEq Rw (PySem.W.view Rw.prog [43]) hk ob 20000 loose w := by
  intro os
  kernel_rfl
end K97
open PySem PySem.W PySem.Calls PyProof.Rows
set_option maxRecDepth 100000 in
set_option maxHeartbeats 0 in
theorem PySem.Challenge.cw_risingread_k97_errors_holds : PySem.Challenge.rw_risingread_k97_errors.Holds := by
  w_on; o_law
  refine HandSHeadRun.head_any (r := OpenLaw.row PySem.Challenge.rw_risingread_k97_errors) (q := view (OpenLaw.row PySem.Challenge.rw_risingread_k97_errors).prog [43]) (H := K97.hk) (ob := K97.ob) (M := 20000) (loose := K97.loose) (d := HandSHeadRun.topDef (OpenLaw.row PySem.Challenge.rw_risingread_k97_errors).prog 43) (kwd := []) K97.ob_eq (by kernel_rfl) (fun s => by kernel_rfl)
    K97.run (by kernel_rfl) (by kernel_rfl) (by kernel_rfl) (by rfl) (by first | assumption | decide +kernel) (by decide +kernel) ⟨rfl, rfl, rfl, rfl, rfl, by decide +kernel⟩ ?hw ?hc
  case hw => w_witness2
  case hc =>
    refine DL.law_walkE (l := PySem.Challenge.rw_risingread_k97_errors) (L := 4) (x := "_law_script") rfl (by kernel_rfl) ⟨rfl, by decide, by decide⟩ ?F
    intro w mg fa h Y G hmg0
    obtain ⟨K, KX, c⟩ := Y
    have hmg : mg ("law" : PySem.Str) = some (.ref fa) := by
      have e : (HandSHeadRun.topDef (OpenLaw.row PySem.Challenge.rw_risingread_k97_errors).prog 43).name = ("law" : PySem.Str) := by kernel_rfl
      rw [← e]
      exact hmg0
    obtain ⟨B, fd, hb, hF⟩ := K97.all_mk (l := PySem.Challenge.rw_risingread_k97_errors) (w := w) K97.k_law KX G hmg c
    exact ⟨K, B, fd, KX, hb, hF⟩
#print axioms PySem.Challenge.cw_risingread_k97_errors_holds

