import PyProof.Rows.All
import Wide.All
import OpenK.AllK
import Wide.FinOn
import PyProof.StrBlock2
import HandS.ForMost
import HandS.Exc
import HandS.TryOnly
import HandS.IsInst
import HandS.Wide
import HandS.TupSets
import HandS.Walk
import HandS.WordsExc
import PySem.Challenge.RW_drovegrounds_k47_whole_rows_by_nights
set_option Elab.async false
set_option linter.all false
set_option maxRecDepth 100000
set_option maxHeartbeats 4000000
/-! The text by places; callees as one hypothesis each; worlds (what is known of the heap besides what changes). -/
namespace DG
open PySem L2
open PyProof.Rows (envOfC)
def top (i : Nat) : Stmt := PySem.Challenge.pw_drovegrounds_k47_whole_rows_by_nights.main.body.getD i (.Pass ⟨0, 0, 0, 0⟩)

/-! ### a def of the text, its promise proved -/
/-- where the def x of the text stands -/
structure Def (K : PySem.W.Frag) (mg : Str → Option Value) (x : Str) (st : Stmt) (ps : List Str) : Prop where
  ex : ∃ (f : Addr) (fd : FuncData), Fun K x x st f fd ∧ mg x = some (.ref f) ∧ Binds K fd ps []
/-- the def x keeps the promise sp -/
structure Cal (P : Program) (w : World) (K : PySem.W.Frag) (mg : Str → Option Value) (base : Heap) (k : Nat) (x : Str) (ps : List Str) (sp : Sp) : Prop where
  ex : ∃ (f : Addr) (fd : FuncData), FnOk P w K mg base CX0 k f fd ps sp ∧ mg x = some (.ref f) ∧ PySem.W.keepIn K (.ref f) = true ∧ Binds K fd ps []
/-- a method m of the class at C -/
structure MDef (K : PySem.W.Frag) (C : Addr) (q m : Str) (st : Stmt) (ps : List Str) : Prop where
  ex : ∃ (f : Addr) (fd : FuncData), Fun K m q st f fd ∧ Meth K C m f ∧ Binds K fd ps []
structure MCal (P : Program) (w : World) (K : PySem.W.Frag) (mg : Str → Option Value) (base : Heap) (k : Nat) (C : Addr) (m : Str) (ps : List Str) (sp : Sp) : Prop where
  ex : ∃ (f : Addr) (fd : FuncData), FnOk P w K mg base CX0 k f fd ps sp ∧ Meth K C m f ∧ Binds K fd ps []
/-- the class x at C, its __init__ -/
structure IDef (K : PySem.W.Frag) (mg : Str → Option Value) (x : Str) (C : Addr) (q : Str) (st : Stmt) (ps : List Str) : Prop where
  ex : ∃ (f : Addr) (fd : FuncData), Fun K "__init__" q st f fd ∧ Mk K C f ∧ Binds K fd ps []
  mg : mg x = some (.ref C)
structure ICal (P : Program) (w : World) (K : PySem.W.Frag) (mg : Str → Option Value) (base : Heap) (k : Nat) (x : Str) (C : Addr) (ps : List Str) (sp : Sp) : Prop where
  ex : ∃ (f : Addr) (fd : FuncData), FnOk P w K mg base CX0 k f fd ps sp ∧ Mk K C f ∧ Binds K fd ps []
  mg : mg x = some (.ref C)
section
variable {P : Program} {w : World} {K : PySem.W.Frag} {mg : Str → Option Value} {base : Heap}
theorem Def.cal {x : Str} {st : Stmt} {N ps : List Str} {k : Nat} {sp : Sp} (D : Def K mg x st ps) (S : FnScope N ps (defScope st)) (len : ∀ vs H Q E, sp vs H Q E → vs.length = ps.length)
    (hbody : ∀ (f : Addr) (cdv : Value) (A : Around) (outer : List Env) (s : Shared) (H : Hp) (vs : List V) (Q : VK) (E : XK), Room k (A.deeper (envOfC x (defScope st) s.heap.objs.size f cdv)) → sp vs H Q E →
      ∃ t, PSs (cxOf CX0 P w K mg base N x (defScope st) f cdv A outer s H E).nox (defBody st) t ∧ t { nx := fun _ H' => Q .non H', rt := Q } (start N vs) H) :
    Cal P w K mg base (k + 1) x ps sp := by
  obtain ⟨f, fd, F, g, b⟩ := D.ex
  exact ⟨f, fd, F.ok S len (fun cdv A outer s H vs Q E hr h => hbody f cdv A outer s H vs Q E hr h), g, F.kp, b⟩
theorem MDef.cal {C : Addr} {q m : Str} {st : Stmt} {N ps : List Str} {k : Nat} {sp : Sp} (D : MDef K C q m st ps) (S : FnScope N ps (defScope st)) (len : ∀ vs H Q E, sp vs H Q E → vs.length = ps.length)
    (hbody : ∀ (f : Addr) (cdv : Value) (A : Around) (outer : List Env) (s : Shared) (H : Hp) (vs : List V) (Q : VK) (E : XK), Room k (A.deeper (envOfC q (defScope st) s.heap.objs.size f cdv)) → sp vs H Q E →
      ∃ t, PSs (cxOf CX0 P w K mg base N q (defScope st) f cdv A outer s H E).nox (defBody st) t ∧ t { nx := fun _ H' => Q .non H', rt := Q } (start N vs) H) :
    MCal P w K mg base (k + 1) C m ps sp := by
  obtain ⟨f, fd, F, g, b⟩ := D.ex
  exact ⟨f, fd, F.ok S len (fun cdv A outer s H vs Q E hr h => hbody f cdv A outer s H vs Q E hr h), g, b⟩
theorem IDef.cal {x : Str} {C : Addr} {q : Str} {st : Stmt} {N ps : List Str} {k : Nat} {sp : Sp} (D : IDef K mg x C q st ps) (S : FnScope N ps (defScope st)) (len : ∀ vs H Q E, sp vs H Q E → vs.length = ps.length)
    (hbody : ∀ (f : Addr) (cdv : Value) (A : Around) (outer : List Env) (s : Shared) (H : Hp) (vs : List V) (Q : VK) (E : XK), Room k (A.deeper (envOfC q (defScope st) s.heap.objs.size f cdv)) → sp vs H Q E →
      ∃ t, PSs (cxOf CX0 P w K mg base N q (defScope st) f cdv A outer s H E).nox (defBody st) t ∧ t { nx := fun _ H' => Q .non H', rt := Q } (start N vs) H) :
    ICal P w K mg base (k + 1) x C ps sp := by
  obtain ⟨f, fd, F, g, b⟩ := D.ex
  exact ⟨⟨f, fd, F.ok S len (fun cdv A outer s H vs Q E hr h => hbody f cdv A outer s H vs Q E hr h), g, b⟩, D.mg⟩
end
section
variable {X : Cx} {x m : Str} {p pos apos : Pos} {e o : Expr} {es : List Expr} {t : TA} {ta : TE} {j k : Nat} {ps : List Str} {sp : Sp} {C : Addr}
/-- f(e, ..) -/
theorem pe_cal (c : Cal X.prog X.w X.K X.mg X.base j x ps sp) (hr : Room k X.A) (ha : PA X (e :: es) t) (hj : j ≤ k := by decide) (hg : Gl X x := by rfl) (hdb : (x == ("__debug__" : Str)) = false := by decide)
    (he : starEach (e :: es) X.env = (false, eval e X.env) :: starEach es X.env := by rfl) (hpl : (backTo pos (starEach es X.env)).any (·.1) = false := by rfl) :
    PE X (.Call (.Name x p) (e :: es) [] pos) (tCall sp [] E0 t) := by
  obtain ⟨f, fd, F, g, kp, b⟩ := c.ex
  exact pe_call F (hr.mono hj) hg g kp b .nil pass0 ha hdb he hpl
/-- o.m(e, ..) -/
theorem pe_mcal {pl : Sem Bool} (he : PE X o ta) (cl : Cls X.K C) (c : MCal X.prog X.w X.K X.mg X.base j C m ps sp) (hr : Room k X.A) (ha : PA X (e :: es) t) (hj : j ≤ k := by decide)
    (hst : starEach (e :: es) X.env = (false, eval e X.env) :: starEach es X.env := by rfl) (hpl : (backTo pos (starEach es X.env)).any (·.1) = false := by rfl)
    (ht : eval (.Call (.Attribute o m apos) (e :: es) [] pos) X.env = (do
      let ov ← eval o X.env
      standAt apos.atName
      let (f, first) ← holding [ov] (getMethod ov m pl)
      callWith pos f first (backTo pos (starEach (e :: es) X.env)) (backToKw pos (keywordEach [] X.env))) := by rfl) :
    PE X (.Call (.Attribute o m apos) (e :: es) [] pos) (tMeth C m sp [] E0 ta t) := by
  obtain ⟨f, fd, F, g, b⟩ := c.ex
  exact pe_meth he cl g F (hr.mono hj) b .nil pass0 ha hst hpl ht
/-- C(e, ..) -/
theorem pe_ical (c : ICal X.prog X.w X.K X.mg X.base j x C ps sp) (hr : Room k X.A) (ha : PA X (e :: es) t) (hj : j + 1 ≤ k := by decide) (hg : Gl X x := by rfl) (hdb : (x == ("__debug__" : Str)) = false := by decide)
    (he : starEach (e :: es) X.env = (false, eval e X.env) :: starEach es X.env := by rfl) (hpl : (backTo pos (starEach es X.env)).any (·.1) = false := by rfl) :
    PE X (.Call (.Name x p) (e :: es) [] pos) (tMake C sp [] E0 t) := by
  obtain ⟨⟨f, fd, F, M, b⟩, g⟩ := c
  exact pe_make M F (hr.mono hj) hg g b .nil pass0 ha hdb he hpl
/-- a built-in function by its name, a built-in class by its name -/
theorem pe_bf {id : String} {r : List V → Hp → VK → Prop} (hc : CallR X (.builtin id) r) (hm : X.mg x = none) (ha : PA X (e :: es) t) (hv : bootBuiltins x = some (.builtin id) := by decide +kernel) (hg : Gl X x := by rfl) (hn : x ≠ "__name__" := by decide) (hdb : (x == ("__debug__" : Str)) = false := by decide)
    (he : starEach (e :: es) X.env = (false, eval e X.env) :: starEach es X.env := by rfl) (hpl : (backTo pos (starEach es X.env)).any (·.1) = false := by rfl) : PE X (.Call (.Name x p) (e :: es) [] pos) (tCB r t) :=
  pe_callB hc hg hm hv ha hn hdb he hpl
theorem pe_bc {T : String} {r : List V → Hp → VK → Prop} (hc : CallR X (.type T) r) (hm : X.mg x = none) (ha : PA X (e :: es) t) (hv : bootBuiltins x = some (.type T) := by decide +kernel) (hg : Gl X x := by rfl) (hn : x ≠ "__name__" := by decide) (hdb : (x == ("__debug__" : Str)) = false := by decide)
    (he : starEach (e :: es) X.env = (false, eval e X.env) :: starEach es X.env := by rfl) (hpl : (backTo pos (starEach es X.env)).any (·.1) = false := by rfl) : PE X (.Call (.Name x p) (e :: es) [] pos) (tCB r t) :=
  pe_callTy hc hg hm hv ha hn hdb he hpl
/-- a built-in class as a value -/
theorem pe_ty {T : String} (hm : X.mg x = none) (hv : bootBuiltins x = some (.type T) := by decide +kernel) (hg : Gl X x := by rfl) (hn : x ≠ "__name__" := by decide) (hdb : (x == ("__debug__" : Str)) = false := by decide) : PE X (.Name x p) (tC (.ty T)) :=
  pe_bltn hg hm hv rfl hn hdb
end
/-! ### isinstance(x, T), T a built-in class -/
/-- the answer by the value's kind -/
inductive Is (K : PySem.W.Frag) (H : Hp) : V → String → Bool → Prop where
  | intInt (i : Int) : Is K H (.int i) "int" true
  | intBool (i : Int) : Is K H (.int i) "bool" false
  | intStr (i : Int) : Is K H (.int i) "str" false
  | strStr (z : Str) : Is K H (.str z) "str" true
  | tupTup {a : Addr} {xs : List V} (h : H a = some (.tup xs)) : Is K H (.ref a) "tuple" true
def rIs (K : PySem.W.Frag) : List V → Hp → VK → Prop := fun xs H Q => ∃ (x : V) (T : String) (b : Bool), xs = [x, .ty T] ∧ Is K H x T b ∧ Q (.bl b) H
theorem call_is {X : Cx} : CallR X (.builtin "isinstance") (rIs X.K) := by
  intro pins s σ H xs us Q I r h
  obtain ⟨x, T, b, rfl, is, q⟩ := h
  refine call_isi pins s σ H _ us Q I r ?_
  cases is with
  | intInt i => exact ⟨_, _, _, _, _, rfl, .ty _, .base (.int i), kit_ty (by decide +kernel), q⟩
  | intBool i => exact ⟨_, _, _, _, _, rfl, .ty _, .base (.int i), kit_ty (by decide +kernel), q⟩
  | intStr i => exact ⟨_, _, _, _, _, rfl, .ty _, .base (.int i), kit_ty (by decide +kernel), q⟩
  | strStr z => exact ⟨_, _, _, _, _, rfl, .ty _, .base (.str z), kit_ty (by decide +kernel), q⟩
  | tupTup h => exact ⟨_, _, _, _, _, rfl, .ty _, .base (.tup h), kit_ty (by decide +kernel), q⟩
/-! ### xs[i] op= e; text * int -/
theorem get_list {X : Cx} : PGet X (rIxL X.K) := by
  rintro pins s0 σ H _ _ ov iv Q I ro ri ⟨p, xs, z, item, rfl, rfl, sq, at0, wish⟩
  cases ro
  obtain ⟨tk, rfl⟩ := ri
  obtain ⟨us, rel, plain, small⟩ := I.list sq
  obtain ⟨n, at1, at2, at3, at4, at5⟩ := atI_get at0
  obtain ⟨u, at6, relu⟩ := rel.get at2
  have len := rel.length
  have line := line63
  have done : EP X pins σ Q u s0 := ⟨item, H, I, relu, wish⟩
  rcases Int.lt_or_le z 0 with neg | nn
  · rw [seqIndex_neg neg at4] at at1
    have e := Option.some.inj at1
    refine wpAny_getItem_list_neg plain.isList neg ?_ ?_ ?_ done
    · rw [List.size_toArray] <;> omega
    · omega
    · rw [List.size_toArray, ← len, e]
      simpa using at6
  · rw [seqIndex_of nn at5] at at1
    refine wpAny_getItem_list plain.isList nn (by omega) ?_ done
    rw [Option.some.inj at1]
    simpa using at6
def rMulS : R2 := fun x y H Q => ∃ z k, x = .str z ∧ y = .int k ∧ (k = 0 ∨ k = 1) ∧ Q (.str (if k = 0 then Str.empty else z)) H
theorem op_mul_str {X : Cx} : OpR X (binaryOp .Mult) rMulS := by
  intro pins s σ H x y v u Q I rx ry h
  obtain ⟨z, k, rfl, rfl, hk, q⟩ := h
  obtain ⟨t, rfl⟩ := rx
  obtain ⟨t', rfl⟩ := ry
  rcases hk with rfl | rfl
  · refine SB.mul ⟨by decide, fun h => absurd (by decide) h, fun h => absurd (by decide) h⟩ fun t2 k2 => ?_
    exact ⟨.str Str.empty, H, I.tok _, ⟨_, rfl⟩, q⟩
  · refine SB.mul ⟨by decide, fun _ h => ?_, fun _ h => ?_⟩ fun t2 k2 => ?_
    · exact absurd h (by simp)
    · exact absurd h (by simp)
    · exact ⟨.str z, H, I.tok _, ⟨_, rfl⟩, q⟩
/-! ### readings: a statement, then what is wanted of the state behind it -/
theorem seq_mid {t1 t2 : TS} {D : Ends} {σ : St} {H : Hp} (M : St → Hp → Prop) (h2 : ∀ σ' H', M σ' H' → t2 D σ' H') (h1 : ∀ N : St → Hp → Prop, (∀ σ' H', M σ' H' → N σ' H') → t1 { D with nx := N } σ H) : tSeq t1 t2 D σ H :=
  h1 (t2 D) h2
/-! ### heaps -/
/-- H without what stands at l -/
def del (l : Addr) (H : Hp) : Hp := fun b => if b = l then none else H b
theorem del_same {l : Addr} {H : Hp} : del l H l = none := if_pos rfl
theorem del_ne {l b : Addr} {H : Hp} (h : b ≠ l) : del l H b = H b := if_neg h
end DG
namespace L2
open PySem DG
theorem Same.tup {H H' : Hp} {a : Addr} {xs : List V} {K : PySem.W.Frag} (e : Same H H') (h : SqT K H a xs) : SqT K H' a xs := by
  rcases h with (h | ⟨o, h⟩) | h
  · exact .inl (.inl (e _ _ h))
  · exact .inl (.inr ⟨o, e _ _ h⟩)
  · exact .inr h
theorem Same.new {H : Hp} {p : Addr} {o : HO} (h : H p = none) : Same H (upd H p o) := fun b u e => by
  rw [upd_ne (ne_of_none e h)]
  exact e
/-- what H0 does not know may change -/
theorem Same.mut {H0 H : Hp} {p : Addr} {o : HO} (e : Same H0 H) (h : H0 p = none) : Same H0 (upd H p o) := fun b u q => by
  rw [upd_ne (ne_of_none q h)]
  exact e _ _ q
theorem Same.del_l {H : Hp} {l : Addr} : Same (del l H) H := fun b o e => by
  by_cases h : b = l
  · rw [h, del_same] at e; cases e
  · rwa [del_ne h] at e
theorem Same.del_r {H0 H : Hp} {l : Addr} (e : Same H0 H) (h : H0 l = none) : Same H0 (del l H) := fun b o q => by
  rw [del_ne (ne_of_none q h)]
  exact e _ _ q
/-- a place that is taken in H' and what H0 knows -/
theorem Same.upd_both {H0 H : Hp} {l : Addr} {o : HO} (e : Same H0 H) (h : H l = some o) : Same (upd H0 l o) H := fun b u q => by
  by_cases hb : b = l
  · subst hb
    rw [upd_same] at q
    rw [← q]
    exact h
  · rw [upd_ne hb] at q
    exact e _ _ q
theorem Same.none {H0 H : Hp} {l : Addr} (e : Same H0 H) (h : H l = none) : H0 l = none := by
  cases q : H0 l with
  | none => rfl
  | some o => rw [e _ _ q] at h; cases h
end L2

/-! The mirrors (plain Lean), how data stand in the heap, the promise of each def. -/
namespace DG
open PySem L2
open PyProof.Rows (envOfC)
/-! ### plain Lean: names, steps, rows -/
def letters : Str := "abcdefghijklmnopqrstuvwxyz"
def NameOk (x : Str) : Prop := 1 ≤ x.length ∧ x.length ≤ 8 ∧ ∀ c ∈ x.cps.toList, c ∈ letters.cps.toList
structure Gnd where
  name : Str
  hgt : Int
  has : Int
  full : Int
  grows : Int
  keep : Int
structure Way where
  name : Str
  tp : Str
  ft : Str
  toll : Int
structure GOk (g : Gnd) : Prop where
  name : NameOk g.name
  h0 : 0 ≤ g.hgt
  h1 : g.hgt ≤ 1000
  has0 : 0 ≤ g.has
  has1 : g.has ≤ g.full
  full1 : g.full ≤ 1000000000000
  grows0 : 0 ≤ g.grows
  grows1 : g.grows ≤ 1000000000000
  keep0 : 0 ≤ g.keep
  keep1 : g.keep ≤ g.full
def GsOk (G : List Gnd) : Prop := (G.map (·.name)).Nodup ∧ ∀ g ∈ G, GOk g
def gndOf (G : List Gnd) (x : Str) : Option Gnd := G.find? fun g => decide (g.name = x)
def wayOf (W : List Way) (x : Str) : Option Way := W.find? fun y => decide (y.name = x)
structure WOk (G : List Gnd) (y : Way) : Prop where
  name : NameOk y.name
  tp : ∃ g, gndOf G y.tp = some g ∧ ∃ f, gndOf G y.ft = some f ∧ f.hgt < g.hgt
  nt : NameOk y.tp
  nf : NameOk y.ft
  t0 : 0 ≤ y.toll
  t1 : y.toll ≤ 1000000000
def WsOk (G : List Gnd) (W : List Way) : Prop := (W.map (·.name)).Nodup ∧ ∀ y ∈ W, WOk G y
/-- a step: so many days, or a way -/
abbrev Stp := Key
def stepDays : Stp → Int
  | .inl n => n
  | .inr _ => 1
def daysOf (ks : List Stp) : Int := (ks.map stepDays).sum
def StepOk : Stp → Prop
  | .inl n => 1 ≤ n ∧ n ≤ 1000000
  | .inr _ => True
/-- at least one day each -/
def Pos1 (ks : List Stp) : Prop := ∀ k ∈ ks, 1 ≤ stepDays k
/-- the last item two numbers: added; else put behind -/
def push (acc : List Stp) (k : Stp) : List Stp :=
  match acc.getLast?, k with
  | some (.inl a), .inl b => acc.dropLast ++ [.inl (a + b)]
  | _, _ => acc ++ [k]
def plain (ks : List Stp) : List Stp := ks.foldl push []
/-- min as the built-in of two gives it -/
def minI (i j : Int) : Int := if j < i then j else i
def cutOne (d : Int) : Stp → Stp
  | .inr x => .inr x
  | .inl n => .inl (minI n d)
def cutTurn (s : List Stp × Int) (k : Stp) : List Stp × Int := ((if 0 < s.2 then s.1 ++ [cutOne s.2 k] else s.1), s.2 - minI s.2 (stepDays k))
def cutFold (ks : List Stp) (d : Int) : List Stp × Int := ks.foldl cutTurn ([], d)
def cutK (ks : List Stp) (d : Int) : List Stp := plain (cutFold ks d).1
def joinK (a b : List Stp) : List Stp := plain (a ++ b)
/-- a turn taken: the steps cut behind d days, and its own -/
def takeOn (S : List Stp) (d : Int) (own : List Stp) : List Stp := joinK (cutK S d) own
abbrev Turn' := Int × List Stp
def foldT (day : Int) (T : List Turn') : List Stp := T.foldl (fun S t => takeOn S (t.1 - day - 1) t.2) []
/-- turns that all stand, in the order in which they are taken -/
structure Chain (day : Int) (T : List Turn') : Prop where
  at_ : ∀ (i : Nat) (s : Int) (own : List Stp), T[i]? = some (s, own) → day < s ∧ s - day - 1 ≤ daysOf (foldT day (T.take i)) ∧ (∀ k ∈ own, StepOk k) ∧ own.length ≤ 5
  up : ∀ (i j : Nat) (s : Int) (own : List Stp) (s' : Int) (own' : List Stp), i ≤ j → T[i]? = some (s, own) → T[j]? = some (s', own') → s ≤ s'
  len : T.length ≤ 5
abbrev Rest := Str × Int × Int
abbrev Walk := Int × Str
abbrev Laid := List Rest × List Walk × Option Walk
/-- the foot of the way x, where it leads from the ground here -/
def lead (W : List Way) (x here : Str) : Option Str := (W.find? fun y => decide (y.name = x) && decide (y.tp = here)).map (·.ft)
def lay (W : List Way) (here : Str) (first last : Int) : List Stp → Laid
  | [] => ([(here, first, last)], [], none)
  | .inl n :: r => lay W here first (last + n) r
  | .inr x :: r => match lead W x here with
    | none => ([(here, first, last)], [], some (last + 1, x))
    | some f => ((here, first, last) :: (lay W f (last + 1) (last + 1) r).1, (last + 1, x) :: (lay W f (last + 1) (last + 1) r).2.1, (lay W f (last + 1) (last + 1) r).2.2)
/-- rests end to end from the night n on, up to ahead of m -/
inductive Contig : Int → List Rest → Int → Prop
  | nil (n : Int) : Contig n [] n
  | cons {g : Str} {f l m : Int} {r : List Rest} : f ≤ l → Contig (l + 1) r m → Contig f ((g, f, l) :: r) m
/-! ### how data stand in the heap -/
/-- a tuple of these values -/
def TupAt (H : Hp) (d : List V) (x : V) : Prop := ∃ t, x = .ref t ∧ H t = some (.tup d)
/-- a list of tuples -/
def TL (H : Hp) (a : Addr) (ds : List (List V)) : Prop := ∃ xs, H a = some (.lst xs) ∧ Paired (TupAt H) ds xs
def gV (g : Gnd) : List V := [.str g.name, .int g.hgt, .int g.has, .int g.full, .int g.grows, .int g.keep]
def wV (y : Way) : List V := [.str y.name, .str y.tp, .str y.ft, .int y.toll]
def restV (r : Rest) : List V := [.str r.1, .int r.2.1, .int r.2.2]
def walkV (r : Walk) : List V := [.int r.1, .str r.2]
def AstV (H : Hp) : Option Walk → V → Prop
  | none, v => v = .non
  | some r, v => TupAt H (walkV r) v
def LaidAt (H : Hp) (t : Addr) (L : Laid) : Prop := ∃ a b v, H t = some (.tup [.ref a, .ref b, v]) ∧ TL H a (L.1.map restV) ∧ TL H b (L.2.1.map walkV) ∧ AstV H L.2.2 v
def StepsAt (H : Hp) (a : Addr) (ks : List Stp) : Prop := H a = some (.lst (ks.map kV))
/-- the i-th turn -/
def turnV (i : Nat) (s : Int) (o : Addr) : List V := [.str "turn", .int ((i : Int) + 1), .str "a", .int s, .ref o]
def TurnAt (H : Hp) (i : Nat) (t : Turn') (x : V) : Prop := ∃ o, TupAt H (turnV i t.1 o) x ∧ StepsAt H o t.2
def TurnsAt (H : Hp) (a : Addr) (T : List Turn') : Prop := ∃ xs, H a = some (.lst xs) ∧ xs.length = T.length ∧ ∀ i t x, T[i]? = some t → xs[i]? = some x → TurnAt H i t x
section
variable {H H' : Hp}
theorem TupAt.mono (e : Same H H') {d : List V} {x : V} : TupAt H d x → TupAt H' d x := fun ⟨t, q, h⟩ => ⟨t, q, e _ _ h⟩
theorem tups_mono (e : Same H H') : ∀ {ds : List (List V)} {xs : List V}, Paired (TupAt H) ds xs → Paired (TupAt H') ds xs
  | _, _, .nil => .nil
  | _, _, .cons h t => .cons (h.mono e) (tups_mono e t)
theorem TL.mono (e : Same H H') {a : Addr} {ds : List (List V)} : TL H a ds → TL H' a ds := fun ⟨xs, h, p⟩ => ⟨xs, e _ _ h, tups_mono e p⟩
theorem AstV.mono (e : Same H H') : ∀ {o : Option Walk} {v : V}, AstV H o v → AstV H' o v
  | none, _, h => h
  | some _, _, h => TupAt.mono e h
theorem LaidAt.mono (e : Same H H') {t : Addr} {L : Laid} : LaidAt H t L → LaidAt H' t L := fun ⟨a, b, v, h, h1, h2, h3⟩ => ⟨a, b, v, e _ _ h, h1.mono e, h2.mono e, h3.mono e⟩
theorem StepsAt.mono (e : Same H H') {a : Addr} {ks : List Stp} : StepsAt H a ks → StepsAt H' a ks := fun h => e _ _ h
theorem TurnAt.mono (e : Same H H') {i : Nat} {t : Turn'} {x : V} : TurnAt H i t x → TurnAt H' i t x := fun ⟨o, h1, h2⟩ => ⟨o, h1.mono e, h2.mono e⟩
theorem TurnsAt.mono (e : Same H H') {a : Addr} {T : List Turn'} : TurnsAt H a T → TurnsAt H' a T := fun ⟨xs, h, l, p⟩ => ⟨xs, e _ _ h, l, fun i t x h1 h2 => (p i t x h1 h2).mono e⟩
theorem paired_len {α β : Type} {F : α → β → Prop} : ∀ {l : List α} {m : List β}, Paired F l m → l.length = m.length
  | _, _, .nil => rfl
  | _, _, .cons _ t => congrArg (· + 1) (paired_len t)
theorem paired_snoc {α β : Type} {F : α → β → Prop} {a : α} {b : β} (h : F a b) : ∀ {l : List α} {m : List β}, Paired F l m → Paired F (l ++ [a]) (m ++ [b])
  | _, _, .nil => .cons h .nil
  | _, _, .cons q t => .cons q (paired_snoc h t)
theorem paired_at {α β : Type} {F : α → β → Prop} : ∀ {l : List α} {m : List β} {i : Nat} {b : β}, Paired F l m → m[i]? = some b → ∃ a, l[i]? = some a ∧ F a b
  | _, _, _, _, .nil, e => by simp at e
  | _, _, 0, _, .cons q _, e => by simp at e; subst e; exact ⟨_, rfl, q⟩
  | _, _, i + 1, _, .cons _ t, e => by
    have e' := e
    simp at e'
    obtain ⟨a, h1, h2⟩ := paired_at t e'
    exact ⟨a, by simpa using h1, h2⟩
theorem paired_get {α β : Type} {F : α → β → Prop} : ∀ {l : List α} {m : List β} {i : Nat} {a : α}, Paired F l m → l[i]? = some a → ∃ b, m[i]? = some b ∧ F a b
  | _, _, _, _, .nil, e => by simp at e
  | _, _, 0, _, .cons q _, e => by simp at e; subst e; exact ⟨_, rfl, q⟩
  | _, _, i + 1, _, .cons _ t, e => by
    have e' := e
    simp at e'
    obtain ⟨a, h1, h2⟩ := paired_get t e'
    exact ⟨a, by simpa using h1, h2⟩
end
/-! ### the bag -/
/-- what stands at the bag: three numbers, the cells' list -/
def BagO (q : Addr) (o : HO) : Prop := ∃ b0 b1 b2 : Int, o = .lst [.int b0, .int b1, .int b2, .ref q] ∧ 0 ≤ b0 ∧ 0 ≤ b1 ∧ b1 < 2147483647 ∧ 0 ≤ b2
/-- the world H0 (which the draws leave) and the bag at p within the heap H -/
structure Wd (p q : Addr) (cs : List Int) (H0 H : Hp) : Prop where
  ext : Same H0 H
  np : H0 p = none
  bag : ∃ o, H p = some o ∧ BagO q o
  cells : H0 q = some (.lst (cs.map V.int))
  pos : ∀ c ∈ cs, 0 ≤ c
theorem Wd.put {p q : Addr} {cs : List Int} {H0 H : Hp} {o : HO} (h : Wd p q cs H0 H) (b : BagO q o) : Wd p q cs H0 (upd H p o) :=
  ⟨h.ext.mut h.np, h.np, ⟨o, upd_same, b⟩, h.cells, h.pos⟩
/-- the heap grows, the bag stays: the world is all but the bag -/
theorem Wd.grow {p q : Addr} {cs : List Int} {H0 H H' : Hp} (h : Wd p q cs H0 H) (e : Same H H') : Wd p q cs (del p H') H' := by
  obtain ⟨o, h1, h2⟩ := h.bag
  exact ⟨Same.del_l, del_same, ⟨o, e _ _ h1, h2⟩, by rw [del_ne (ne_of_none h.cells h.np)]; exact e _ _ (h.ext _ _ h.cells), h.pos⟩
theorem Wd.sub {p q : Addr} {cs : List Int} {H0 H H' : Hp} (h : Wd p q cs H0 H) (e : Same H H') : Wd p q cs H0 H' := by
  obtain ⟨o, h1, h2⟩ := h.bag
  exact ⟨h.ext.trans e, h.np, ⟨o, e _ _ h1, h2⟩, h.cells, h.pos⟩
theorem Wd.up {p q : Addr} {cs : List Int} {H0 H H' : Hp} (h : Wd p q cs H0 H) (e : Same H H') : Same H0 (del p H') := (h.ext.trans e).del_r h.np
/-- a larger world -/
theorem Wd.more {p q : Addr} {cs : List Int} {H0 H1 H : Hp} (h : Wd p q cs H0 H) (e : Same H0 H1) (e1 : Same H1 H) (n : H1 p = none) : Wd p q cs H1 H :=
  ⟨e1, n, h.bag, e _ _ h.cells, h.pos⟩
/-- a smaller one -/
theorem Wd.less {p q : Addr} {cs : List Int} {H0 H1 H : Hp} (h : Wd p q cs H1 H) (e : Same H0 H1) (c : H0 q = some (.lst (cs.map V.int))) : Wd p q cs H0 H :=
  ⟨e.trans h.ext, e.none h.np, h.bag, c, h.pos⟩
/-! ### what the text's top has written -/
structure Txt (K : PySem.W.Frag) (mg : Str → Option Value) (CS CC CW : Addr) : Prop where
  len : mg "len" = none
  isinstance : mg "isinstance" = none
  int : mg "int" = none
  str : mg "str" = none
  bool : mg "bool" = none
  tuple : mg "tuple" = none
  all : mg "all" = none
  sum : mg "sum" = none
  min : mg "min" = none
  abs : mg "abs" = none
  range : mg "range" = none
  enumerate : mg "enumerate" = none
  sorted : mg "sorted" = none
  list : mg "list" = none
  dict : mg "dict" = none
  c_MOST_AMOUNT : ∃ u, mg "MOST_AMOUNT" = some u ∧ RelV (.int 1000000000000) u
  c_MOST_DAY : ∃ u, mg "MOST_DAY" = some u ∧ RelV (.int 1000000000) u
  c_LONGEST : ∃ u, mg "LONGEST" = some u ∧ RelV (.int 8) u
  c_LETTERS : ∃ u, mg "LETTERS" = some u ∧ RelV (.str letters) u
  c_MOST_GROUNDS : ∃ u, mg "MOST_GROUNDS" = some u ∧ RelV (.int 12) u
  c_MOST_WAYS : ∃ u, mg "MOST_WAYS" = some u ∧ RelV (.int 30) u
  c_MOST_HEIGHT : ∃ u, mg "MOST_HEIGHT" = some u ∧ RelV (.int 1000) u
  c_MOST_TOLL : ∃ u, mg "MOST_TOLL" = some u ∧ RelV (.int 1000000000) u
  clS : Cls K CS
  clC : Cls K CC
  n_has : NoAttr K CS "has"
  n_full : NoAttr K CS "full"
  n_grows : NoAttr K CS "grows"
  n_keep : NoAttr K CS "keep"
  n_by_ground : NoAttr K CC "by_ground"
  n_by_way : NoAttr K CC "by_way"
  gW : mg "Wrong" = some (.ref CW)
theorem pe_const {X : Cx} {x : Str} {v : V} {pos : Pos} (h : ∃ u, X.mg x = some u ∧ RelV v u) (hg : Gl X x := by rfl) (hd : (x == ("__debug__" : Str)) = false := by decide) : PE X (.Name x pos) (tC v) := by
  obtain ⟨u, h1, h2⟩ := h
  exact pe_glob hg h1 h2 hd
/-! ### the promises: small defs -/
def sp_is_whole : Sp := fun vs H Q _ => ∃ i : Int, vs = [.int i] ∧ Q (.bl true) H
def sp_is_from_to : Sp := fun vs H Q _ => ∃ i a b : Int, vs = [.int i, .int a, .int b] ∧ a ≤ i ∧ i ≤ b ∧ Q (.bl true) H
def sp_is_amount : Sp := fun vs H Q _ => ∃ i : Int, vs = [.int i] ∧ 0 ≤ i ∧ i ≤ 1000000000000 ∧ Q (.bl true) H
def sp_is_day : Sp := fun vs H Q _ => ∃ i : Int, vs = [.int i] ∧ 0 ≤ i ∧ i ≤ 1000000000 ∧ Q (.bl true) H
def sp_is_name : Sp := fun vs H Q _ => ∃ x : Str, vs = [.str x] ∧ NameOk x ∧ ∀ H', Same H H' → Q (.bl true) H'
def sp_step_days : Sp := fun vs H Q _ => ∃ k : Stp, vs = [kV k] ∧ Q (.int (stepDays k)) H
def sp_days_of (K : PySem.W.Frag) : Sp := fun vs H Q _ => ∃ (a : Addr) (ks : List Stp), vs = [.ref a] ∧ StepsAt H a ks ∧ ks.length ≤ 10000 ∧ ∀ H', Same H H' → Q (.int (daysOf ks)) H'
/-- a new list of these steps -/
def NewSteps (H : Hp) (Q : VK) (ks : List Stp) : Prop := ∀ (l : Addr) (H' : Hp), Same H H' → H l = none → StepsAt H' l ks → Q (.ref l) H'
def sp_plain : Sp := fun vs H Q _ => ∃ (a : Addr) (ks : List Stp), vs = [.ref a] ∧ StepsAt H a ks ∧ ks.length ≤ 10000 ∧ NewSteps H Q (plain ks)
def sp_cut : Sp := fun vs H Q _ => ∃ (a : Addr) (ks : List Stp) (d : Int), vs = [.ref a, .int d] ∧ StepsAt H a ks ∧ ks.length ≤ 10000 ∧ Pos1 ks ∧ 0 ≤ d ∧ d ≤ daysOf ks ∧ NewSteps H Q (cutK ks d)
def sp_joined : Sp := fun vs H Q _ => ∃ (a b : Addr) (ks ms : List Stp), vs = [.ref a, .ref b] ∧ StepsAt H a ks ∧ StepsAt H b ms ∧ ks.length ≤ 1000 ∧ ms.length ≤ 1000 ∧ NewSteps H Q (joinK ks ms)
def sp_taken_on : Sp := fun vs H Q _ => ∃ (day : Int) (a t o : Addr) (i : Nat) (ks : List Stp) (s : Int) (own : List Stp), vs = [.int day, .ref a, .ref t] ∧ StepsAt H a ks ∧ H t = some (.tup (turnV i s o)) ∧ StepsAt H o own ∧ ks.length ≤ 900 ∧ own.length ≤ 900 ∧ Pos1 ks ∧
  day < s ∧ s - day - 1 ≤ daysOf ks ∧ 0 ≤ day + daysOf (takeOn ks (s - day - 1) own) ∧ day + daysOf (takeOn ks (s - day - 1) own) ≤ 1000000000 ∧ NewSteps H Q (takeOn ks (s - day - 1) own)
def wordV (i : Nat) : List V := [.int ((i : Int) + 1), .str "stands"]
def sp_folded : Sp := fun vs H Q _ => ∃ (day : Int) (a : Addr) (T : List Turn'), vs = [.int day, .ref a] ∧ TurnsAt H a T ∧ Chain day T ∧ 0 ≤ day ∧ day ≤ 900000000 ∧
  ∀ (t s b : Addr) (H' : Hp), Same H H' → H' t = some (.tup [.ref s, .ref b]) → StepsAt H' s (foldT day T) → TL H' b ((List.range T.length).map wordV) → Q (.ref t) H'
/-! ### grounds, ways, the country -/
def sp_S_init (CS : Addr) : Sp := fun vs H Q _ => ∃ (x dx : Addr) (g : Gnd), vs = [.ref x, .int g.has, .int g.full, .int g.grows, .int g.keep] ∧ H x = some (.ins CS dx []) ∧ GOk g ∧ ∀ H', Same (del x H) H' → Q .non H'
def sp_sward_of : Sp := fun vs H Q _ => ∃ (t : Addr) (g : Gnd), vs = [.ref t] ∧ H t = some (.tup (gV g)) ∧ GOk g ∧ ∀ s H', Same H H' → Q (.ref s) H'
def sp_is_ground : Sp := fun vs H Q _ => ∃ (t : Addr) (g : Gnd), vs = [.ref t] ∧ H t = some (.tup (gV g)) ∧ GOk g ∧ ∀ H', Same H H' → Q (.bl true) H'
def sp_is_way : Sp := fun vs H Q _ => ∃ (t : Addr) (G : List Gnd) (y : Way), vs = [.ref t] ∧ H t = some (.tup (wV y)) ∧ WOk G y ∧ ∀ H', Same H H' → Q (.bl true) H'
/-- the entry of a ground, of a way -/
def GEnt (H : Hp) (g : Gnd) (kv : Key × V) : Prop := kv.1 = .inr g.name ∧ ∃ s, TupAt H [.int g.hgt, .ref s] kv.2
def WEnt (H : Hp) (y : Way) (kv : Key × V) : Prop := kv.1 = .inr y.name ∧ TupAt H [.str y.tp, .str y.ft, .int y.toll] kv.2
def flds (d1 d2 : Addr) : List (Str × V) := putF "by_way" (.ref d2) (putF "by_ground" (.ref d1) [])
structure CtyAt (CC : Addr) (H : Hp) (c : Addr) (G : List Gnd) (W : List Way) (dx d1 d2 : Addr) (kg kw : List (Key × V)) : Prop where
  obj : H c = some (.ins CC dx (flds d1 d2))
  gs : H d1 = some (.dK kg)
  ws : H d2 = some (.dK kw)
  pg : Paired (GEnt H) G kg
  pw : Paired (WEnt H) W kw
  ne : d1 ≠ d2
def Cty (CC : Addr) (H : Hp) (c : Addr) (G : List Gnd) (W : List Way) : Prop := ∃ dx d1 d2 kg kw, CtyAt CC H c G W dx d1 d2 kg kw
theorem GEnt.mono {H H' : Hp} (e : Same H H') {g : Gnd} {kv : Key × V} : GEnt H g kv → GEnt H' g kv := fun ⟨h, s, t⟩ => ⟨h, s, t.mono e⟩
theorem WEnt.mono {H H' : Hp} (e : Same H H') {g : Way} {kv : Key × V} : WEnt H g kv → WEnt H' g kv := fun ⟨h, t⟩ => ⟨h, t.mono e⟩
theorem gents_mono {H H' : Hp} (e : Same H H') : ∀ {G : List Gnd} {kg : List (Key × V)}, Paired (GEnt H) G kg → Paired (GEnt H') G kg
  | _, _, .nil => .nil
  | _, _, .cons h t => .cons (h.mono e) (gents_mono e t)
theorem wents_mono {H H' : Hp} (e : Same H H') : ∀ {G : List Way} {kg : List (Key × V)}, Paired (WEnt H) G kg → Paired (WEnt H') G kg
  | _, _, .nil => .nil
  | _, _, .cons h t => .cons (h.mono e) (wents_mono e t)
theorem CtyAt.mono {CC : Addr} {H H' : Hp} (e : Same H H') {c : Addr} {G : List Gnd} {W : List Way} {dx d1 d2 : Addr} {kg kw : List (Key × V)} (h : CtyAt CC H c G W dx d1 d2 kg kw) : CtyAt CC H' c G W dx d1 d2 kg kw :=
  ⟨e _ _ h.obj, e _ _ h.gs, e _ _ h.ws, gents_mono e h.pg, wents_mono e h.pw, h.ne⟩
theorem Cty.mono {CC : Addr} {H H' : Hp} (e : Same H H') {c : Addr} {G : List Gnd} {W : List Way} : Cty CC H c G W → Cty CC H' c G W :=
  fun ⟨dx, d1, d2, kg, kw, h⟩ => ⟨dx, d1, d2, kg, kw, h.mono e⟩
def sp_ground_row (CC : Addr) : Sp := fun vs H Q _ => ∃ (c : Addr) (G : List Gnd) (W : List Way) (g : Gnd), vs = [.ref c, .str g.name] ∧ Cty CC H c G W ∧ gndOf G g.name = some g ∧ ∀ t s, H t = some (.tup [.int g.hgt, .ref s]) → Q (.ref t) H
def sp_way_row (CC : Addr) : Sp := fun vs H Q _ => ∃ (c : Addr) (G : List Gnd) (W : List Way) (y : Way), vs = [.ref c, .str y.name] ∧ Cty CC H c G W ∧ wayOf W y.name = some y ∧ ∀ t, H t = some (.tup [.str y.tp, .str y.ft, .int y.toll]) → Q (.ref t) H
def sp_height (CC : Addr) : Sp := fun vs H Q _ => ∃ (c : Addr) (G : List Gnd) (W : List Way) (g : Gnd), vs = [.ref c, .str g.name] ∧ Cty CC H c G W ∧ gndOf G g.name = some g ∧ Q (.int g.hgt) H
def sp_sward (CC : Addr) : Sp := fun vs H Q _ => ∃ (c : Addr) (G : List Gnd) (W : List Way) (g : Gnd), vs = [.ref c, .str g.name] ∧ Cty CC H c G W ∧ gndOf G g.name = some g ∧ ∀ s, Q (.ref s) H
def sp_ends (CC : Addr) : Sp := fun vs H Q _ => ∃ (c : Addr) (G : List Gnd) (W : List Way) (y : Way), vs = [.ref c, .str y.name] ∧ Cty CC H c G W ∧ wayOf W y.name = some y ∧ ∀ t H', Same H H' → H' t = some (.tup [.str y.tp, .str y.ft]) → Q (.ref t) H'
def sp_ways_from (CC : Addr) : Sp := fun vs H Q _ => ∃ (c : Addr) (G : List Gnd) (W : List Way) (g : Gnd), vs = [.ref c, .str g.name] ∧ Cty CC H c G W ∧ gndOf G g.name = some g ∧ (W.map (·.name)).Nodup ∧ W.length ≤ 30 ∧
  ∀ l H', Same H H' → H' l = some (.lst (((W.filter fun y => decide (y.tp = g.name)).map (·.name)).map V.str)) → Q (.ref l) H'
def sp_leads_from (CC : Addr) : Sp := fun vs H Q _ => ∃ (c : Addr) (G : List Gnd) (W : List Way) (x : Str) (g : Gnd), vs = [.ref c, .str x, .str g.name] ∧ Cty CC H c G W ∧ gndOf G g.name = some g ∧ (W.map (·.name)).Nodup ∧ W.length ≤ 30 ∧
  ∀ H', Same H H' → Q (.bl (lead W x g.name).isSome) H'
/-- Country(..), a way more: kw is what stands there so far -/
def sp_add_way (CC : Addr) : Sp := fun vs H Q _ => ∃ (c t : Addr) (G : List Gnd) (W : List Way) (y : Way) (dx d1 d2 : Addr) (kg kw : List (Key × V)), vs = [.ref c, .ref t] ∧ CtyAt CC H c G W dx d1 d2 kg kw ∧ H t = some (.tup (wV y)) ∧ WOk G y ∧ W.length ≤ 30 ∧
  y.name ∉ W.map (·.name) ∧ ∀ kw' H', Same (del d2 H) H' → CtyAt CC H' c G (W ++ [y]) dx d1 d2 kg kw' → Q .non H'
def sp_C_init (CC : Addr) : Sp := fun vs H Q _ => ∃ (c ag aw dx : Addr) (G : List Gnd) (W : List Way), vs = [.ref c, .ref ag, .ref aw] ∧ H c = some (.ins CC dx []) ∧ TL H ag (G.map gV) ∧ TL H aw (W.map wV) ∧ GsOk G ∧ WsOk G W ∧ G.length ≤ 12 ∧ W.length ≤ 30 ∧
  ∀ H', Same (del c H) H' → Cty CC H' c G W → Q .non H'
def sp_laid (CC : Addr) : Sp := fun vs H Q _ => ∃ (c a : Addr) (G : List Gnd) (W : List Way) (g : Gnd) (day : Int) (ks : List Stp), vs = [.ref c, .str g.name, .int day, .ref a] ∧ Cty CC H c G W ∧ gndOf G g.name = some g ∧ WsOk G W ∧ W.length ≤ 30 ∧ StepsAt H a ks ∧ ks.length ≤ 1000 ∧
  ∀ t H', Same H H' → LaidAt H' t (lay W g.name day day ks) → Q (.ref t) H'
/-! ### the law's own defs -/
def sp_law_bag (K : PySem.W.Frag) : Sp := fun vs H Q _ => ∃ (a : Addr) (ns : List Int), vs = [.ref a] ∧ SqL K H a (ns.map V.int) ∧ ns.length ≤ 63 ∧ ∀ p q cs H0 H', Same H H0 → Wd p q cs H0 H' → Q (.ref p) H'
def sp_law_take : Sp := fun vs H Q _ => ∃ (p q : Addr) (cs : List Int) (H0 : Hp) (m : Int), vs = [.ref p, .int m] ∧ Wd p q cs H0 H ∧ 0 < m ∧ m ≤ 1099511627776 ∧ ∀ v o, 0 ≤ v → v < m → BagO q o → Q (.int v) (upd H p o)
def NamesOk (ns : List Str) : Prop := ns.Nodup ∧ ∀ x ∈ ns, NameOk x
def sp_law_names : Sp := fun vs H Q _ => ∃ (p q : Addr) (cs : List Int) (H0 : Hp), vs = [.ref p, .int 26] ∧ Wd p q cs H0 H ∧
  ∀ l ns H0' H', Same H0 H0' → Wd p q cs H0' H' → H0' l = some (.lst (ns.map V.str)) → ns.length = 26 → NamesOk ns → Q (.ref l) H'
def sp_law_country : Sp := fun vs H Q _ => ∃ (p q : Addr) (cs : List Int) (H0 : Hp) (l : Addr) (ns : List Str) (m : Nat), vs = [.ref p, .ref l, .int m] ∧ Wd p q cs H0 H ∧ H0 l = some (.lst (ns.map V.str)) ∧ NamesOk ns ∧ ns.length = 26 ∧ m ≤ 12 ∧
  ∀ (t ag : Addr) (u : Int) (G : List Gnd) H0' H', Same H0 H0' → Wd p q cs H0' H' → H0' t = some (.tup [.ref ag, .int u]) → TL H0' ag (G.map gV) → GsOk G → G.length = m → Q (.ref t) H'
def sp_law_ways : Sp := fun vs H Q _ => ∃ (p q : Addr) (cs : List Int) (H0 : Hp) (l ag : Addr) (ns : List Str) (G : List Gnd) (m : Nat), vs = [.ref p, .ref l, .ref ag, .int m] ∧ Wd p q cs H0 H ∧ H0 l = some (.lst (ns.map V.str)) ∧ NamesOk ns ∧ ns.length = 26 ∧
  TL H0 ag (G.map gV) ∧ GsOk G ∧ 1 ≤ G.length ∧ G.length ≤ 12 ∧ m ≤ 26 ∧
  ∀ (aw : Addr) (W : List Way) H0' H', Same H0 H0' → Wd p q cs H0' H' → TL H0' aw (W.map wV) → WsOk G W → W.length ≤ 26 → Q (.ref aw) H'
def sp_law_from : Sp := fun vs H Q _ => ∃ (aw : Addr) (W : List Way) (x : Str), vs = [.ref aw, .str x] ∧ TL H aw (W.map wV) ∧ W.length ≤ 30 ∧ ∀ l H', Same H H' → H l = none → TL H' l ((W.filter fun y => decide (y.tp = x)).map wV) → Q (.ref l) H'
def sp_law_steps : Sp := fun vs H Q _ => ∃ (p q : Addr) (cs : List Int) (H0 : Hp) (aw : Addr) (W : List Way) (x : Str) (m : Nat), vs = [.ref p, .ref aw, .str x, .int m] ∧ Wd p q cs H0 H ∧ TL H0 aw (W.map wV) ∧ W.length ≤ 26 ∧ m ≤ 5 ∧
  ∀ (t s : Addr) (ks : List Stp) (y : Str) H0' H', Same H0 H0' → Wd p q cs H0' H' → H0' t = some (.tup [.ref s, .str y]) → StepsAt H0' s ks → ks.length ≤ 5 → (∀ k ∈ ks, StepOk k) → Q (.ref t) H'
def sp_law_world : Sp := fun vs H Q _ => ∃ (p q : Addr) (cs : List Int) (H0 : Hp), vs = [.ref p] ∧ Wd p q cs H0 H ∧
  ∀ (t ag aw : Addr) (G : List Gnd) (W : List Way) H0' H', Same H0 H0' → Wd p q cs H0' H' → H0' t = some (.tup [.ref ag, .ref aw]) → TL H0' ag (G.map gV) → TL H0' aw (W.map wV) → GsOk G → WsOk G W → 1 ≤ G.length → G.length ≤ 12 → W.length ≤ 26 → Q (.ref t) H'
def sp_law_days : Sp := fun vs H Q _ => ∃ (a : Addr) (ks : List Stp), vs = [.ref a] ∧ StepsAt H a ks ∧ ks.length ≤ 10000 ∧ ∀ H', Same H H' → Q (.int (daysOf ks)) H'
def sp_law_laid : Sp := fun vs H Q _ => ∃ (aw a : Addr) (W : List Way) (x : Str) (day : Int) (ks : List Stp), vs = [.ref aw, .str x, .int day, .ref a] ∧ TL H aw (W.map wV) ∧ W.length ≤ 30 ∧ StepsAt H a ks ∧ ks.length ≤ 1000 ∧
  ∀ t H', Same H H' → LaidAt H' t (lay W x day day ks) → Q (.ref t) H'
def sp_law_turns : Sp := fun vs H Q _ => ∃ (p q : Addr) (cs : List Int) (H0 : Hp) (aw : Addr) (W : List Way) (x : Str) (day : Int), vs = [.ref p, .ref aw, .str x, .int day] ∧ Wd p q cs H0 H ∧ TL H0 aw (W.map wV) ∧ W.length ≤ 26 ∧ 0 ≤ day ∧ day ≤ 900000000 ∧
  ∀ (l : Addr) (T : List Turn') H0' H', Same H0 H0' → Wd p q cs H0' H' → TurnsAt H0' l T → Chain day T → Q (.ref l) H'
def sp_law_end_to_end : Sp := fun vs H Q _ => ∃ (a : Addr) (R : List Rest) (day n : Int), vs = [.ref a, .int day] ∧ TL H a (R.map restV) ∧ R.length ≤ 10000 ∧ Contig day R n ∧ Q (.int n) H
def sp_law_walks_right : Sp := fun vs H Q _ => ∃ (t ag aw a b s : Addr) (G : List Gnd) (W : List Way) (x : Str) (day : Int) (ks : List Stp), vs = [.ref t, .ref a, .ref b, .ref s, .int day] ∧ H t = some (.tup [.ref ag, .ref aw]) ∧ TL H ag (G.map gV) ∧ TL H aw (W.map wV) ∧ GsOk G ∧ WsOk G W ∧ G.length ≤ 12 ∧ W.length ≤ 26 ∧
  TL H a ((lay W x day day ks).1.map restV) ∧ TL H b ((lay W x day day ks).2.1.map walkV) ∧ StepsAt H s ks ∧ Pos1 ks ∧ ks.length ≤ 1000 ∧ ∀ H', Same H H' → Q (.bl true) H'
def sp_law (K : PySem.W.Frag) : Sp := fun vs H Q _ => ∃ (a : Addr) (ns : List Int), vs = [.ref a] ∧ SqL K H a (ns.map V.int) ∧ ns.length ≤ 63 ∧ ∀ H', Q (.bl true) H'
end DG

/-! Small lemmas: lists, sizes, tuples in the heap. -/
namespace DG
open PySem L2
theorem szl {n : Nat} (h : n ≤ 100000) : n < sizeLine := by
  rw [sizeLine_eq]
  omega
theorem szle {n : Nat} (h : n ≤ 100000) : n ≤ sizeLine := Nat.le_of_lt (szl h)
section
variable {α β : Type}
theorem map_at {f : α → β} {l : List α} {i : Nat} {x : β} (h : (l.map f)[i]? = some x) : ∃ k, l[i]? = some k ∧ x = f k := by
  rw [List.getElem?_map] at h
  cases e : l[i]? with
  | none => rw [e] at h; cases h
  | some k => rw [e] at h; exact ⟨k, rfl, (Option.some.inj h).symm⟩
theorem take_snoc {l : List α} {i : Nat} {k : α} (h : l[i]? = some k) : l.take (i + 1) = l.take i ++ [k] := by
  rw [List.take_succ, h]
  rfl
theorem map_snoc {f : α → β} {l : List α} {i : Nat} {k : α} (h : l[i]? = some k) : (l.take (i + 1)).map f = (l.take i).map f ++ [f k] := by
  rw [take_snoc h, List.map_append]
  rfl
theorem at_lt {l : List α} {i : Nat} {k : α} (h : l[i]? = some k) : i < l.length := (List.getElem?_eq_some_iff.mp h).1
theorem at_mem {l : List α} {i : Nat} {k : α} (h : l[i]? = some k) : k ∈ l := List.mem_of_getElem? h
theorem take_le (l : List α) (i : Nat) : (l.take i).length ≤ l.length := by
  rw [List.length_take]
  omega
theorem foldl_snoc {f : β → α → β} {b : β} {l : List α} {i : Nat} {k : α} (h : l[i]? = some k) : (l.take (i + 1)).foldl f b = f ((l.take i).foldl f b) k := by
  rw [take_snoc h, List.foldl_append]
  rfl
theorem last_of {l : List α} {x : α} (h : l.getLast? = some x) : l = l.dropLast ++ [x] := by
  cases l with
  | nil => cases h
  | cons a r =>
    rw [List.getLast?_eq_some_getLast (by simp)] at h
    have e := Option.some.inj h
    rw [← e]
    exact (List.dropLast_concat_getLast (by simp)).symm
theorem set_last {l : List α} {x y : α} : (l ++ [x]).set l.length y = l ++ [y] := by
  induction l with
  | nil => rfl
  | cons a r ih => simp
theorem snoc_ne {l : List α} {x : α} : l ++ [x] ≠ [] := by simp
end
theorem SqL_len {K : PySem.W.Frag} {H : Hp} {a : Addr} {xs : List V} (h : H a = some (.lst xs)) : ∃ ys, SqL K H a ys := ⟨xs, SqL.of h⟩
/-- a place counted from behind: the last -/
theorem atI_m1 {α : Type} {l : List α} {x : α} (h : l.getLast? = some x) : atI l (-1) = some x := by
  rw [last_of h]
  exact atI_last _ _
theorem ixN_m1 {α : Type} (l : List α) (x : α) : ixN (l ++ [x]).length (-1) = some l.length := by
  unfold ixN
  rw [if_neg (by decide), if_pos (by rw [List.length_append]; simp; omega)]
  rw [List.length_append]
  simp
  omega
/-- an item of a list of tuples -/
theorem TL.item {H : Hp} {a : Addr} {ds : List (List V)} {xs : List V} (p : Paired (TupAt H) ds xs) {i : Nat} {x : V} (h : xs[i]? = some x) : ∃ t d, x = .ref t ∧ H t = some (.tup d) ∧ ds[i]? = some d := by
  obtain ⟨d, h1, t, h2, h3⟩ := paired_at p h
  exact ⟨t, d, h2, h3, h1⟩
theorem tups_del {H : Hp} {c : Addr} {o : HO} (hc : H c = some o) (no : ∀ d, o ≠ .tup d) {ds : List (List V)} {xs : List V} (h : Paired (TupAt H) ds xs) : Paired (TupAt (del c H)) ds xs :=
  Paired.mapP h fun _ _ ⟨t, h2, h3⟩ => ⟨t, h2, by rw [del_ne (ne_of h3 hc fun z => no _ z.symm)]; exact h3⟩
theorem Same.del_trans {d : Addr} {A B C : Hp} (h1 : Same (del d A) B) (h2 : Same (del d B) C) : Same (del d A) C := fun b o e => by
  have hb : b ≠ d := fun z => by rw [z, del_same] at e; cases e
  exact h2 b o (by rw [del_ne hb]; exact h1 b o e)
theorem not_in_take {α : Type} : ∀ {l : List α} {i : Nat} {x : α}, l.Nodup → l[i]? = some x → x ∉ l.take i
  | [], _, _, _, h => by simp at h
  | a :: r, 0, _, _, _ => by simp
  | a :: r, i + 1, x, n, h => by
    rw [List.nodup_cons] at n
    rw [List.take_succ_cons, List.mem_cons, not_or]
    have h' : r[i]? = some x := by simpa using h
    exact ⟨fun e => n.1 (e ▸ at_mem h'), not_in_take n.2 h'⟩
/-! ### a list beside the empty list -/
def rEqE (K : PySem.W.Frag) (neg : Bool) : R2 := fun x y H Q => ∃ a b xs, x = .ref a ∧ y = .ref b ∧ SqL K H a xs ∧ SqL K H b [] ∧ Q (.bl (if neg then !xs.isEmpty else xs.isEmpty)) H
theorem op_eqE {X : Cx} (hu : X.A.units < cLine) : OpR X (compareOp .Eq) (rEqE X.K false) := by
  rintro pins s0 σ H _ _ v u Q I rx ry ⟨a, b, xs, rfl, rfl, ha, hb, wish⟩
  cases rx
  cases ry
  obtain ⟨us, ra, pa, _⟩ := I.list ha
  obtain ⟨ws, rb, pb, _⟩ := I.list hb
  cases rb
  cases ra with
  | nil => exact SeqAt.eq_listAt (e := fun _ => true) pa.isList pb.isList rfl hu (fun j h1 _ => absurd h1 (Nat.not_lt_zero _)) ⟨.bl true, H, I, rfl, wish⟩
  | cons r t => exact SeqAt.eq_list_lengthsAt pa.isList pb.isList rfl hu ⟨.bl false, H, I, rfl, wish⟩
theorem op_neE {X : Cx} (hu : X.A.units < cLine) : OpR X (compareOp .NotEq) (rEqE X.K true) := by
  rintro pins s0 σ H _ _ v u Q I rx ry ⟨a, b, xs, rfl, rfl, ha, hb, wish⟩
  cases rx
  cases ry
  obtain ⟨us, ra, pa, _⟩ := I.list ha
  obtain ⟨ws, rb, pb, _⟩ := I.list hb
  cases rb
  cases ra with
  | nil => exact SeqAt.RcNeAt.lists (e := fun _ => true) pa.isList pb.isList rfl hu (fun j h1 _ => absurd h1 (Nat.not_lt_zero _)) _ _ _ _ ⟨.bl false, H, I, rfl, wish⟩
  | cons r t => exact SeqAt.RcNeAt.lists_lengths pa.isList pb.isList rfl hu _ _ _ _ ⟨.bl true, H, I, rfl, wish⟩
/-! ### plain, step by step -/
theorem push_nil (k : Stp) : push [] k = [k] := rfl
theorem push_str (acc : List Stp) (x : Str) : push acc (.inr x) = acc ++ [.inr x] := by
  unfold push
  split
  · rename_i h; cases h
  · rfl
theorem push_last {acc : List Stp} {x : Str} (h : acc.getLast? = some (.inr x)) (k : Stp) : push acc k = acc ++ [k] := by
  unfold push
  rw [h]
theorem push_add {acc : List Stp} {a : Int} (h : acc.getLast? = some (.inl a)) (b : Int) : push acc (.inl b) = acc.dropLast ++ [.inl (a + b)] := by
  unfold push
  rw [h]
theorem push_len (acc : List Stp) (k : Stp) : (push acc k).length ≤ acc.length + 1 := by
  unfold push
  split
  · rename_i a b h
    have e := congrArg List.length (last_of h)
    rw [List.length_append] at e ⊢
    simp only [List.length_singleton] at e ⊢
    omega
  · rw [List.length_append]; simp
theorem plain_len (ks : List Stp) (acc : List Stp) : (ks.foldl push acc).length ≤ acc.length + ks.length := by
  induction ks generalizing acc with
  | nil => simp
  | cons k r ih =>
    have h1 := ih (push acc k)
    have h2 := push_len acc k
    simp only [List.foldl_cons, List.length_cons]
    omega
end DG
namespace DG
open PySem L2
/-! ### two lists that change -/
def del2 (l m : Addr) (H : Hp) : Hp := del m (del l H)
section
variable {l m b : Addr} {A B C H H' : Hp}
theorem del2_l : del2 l m H l = none := by
  unfold del2
  by_cases h : l = m
  · rw [h, del_same]
  · rw [del_ne h, del_same]
theorem del2_m : del2 l m H m = none := del_same
theorem del2_ne (h1 : b ≠ l) (h2 : b ≠ m) : del2 l m H b = H b := by
  unfold del2
  rw [del_ne h2, del_ne h1]
theorem Same.del2_l : Same (del2 l m H) H := Same.del_l.trans Same.del_l
theorem Same.del2_r (e : Same A B) (h1 : A l = none) (h2 : A m = none) : Same A (del2 l m B) := (e.del_r h1).del_r h2
theorem Same.del2_trans (h1 : Same (del2 l m A) B) (h2 : Same (del2 l m B) C) : Same (del2 l m A) C := by
  intro x o e
  have n1 : x ≠ l := fun z => by rw [z, DG.del2_l] at e; cases e
  have n2 : x ≠ m := fun z => by rw [z, del2_m] at e; cases e
  exact h2 x o (by rw [del2_ne n1 n2]; exact h1 x o e)
theorem tups_del2 {xs ys : List V} (h1 : H l = some (.lst xs)) (h2 : H m = some (.lst ys)) {ds : List (List V)} {zs : List V} (h : Paired (TupAt H) ds zs) : Paired (TupAt (del2 l m H)) ds zs :=
  Paired.mapP h fun _ _ ⟨t, q1, q2⟩ => ⟨t, q1, by rw [del2_ne (ne_of q2 h1 (by intro z; cases z)) (ne_of q2 h2 (by intro z; cases z))]; exact q2⟩
end
theorem drop_cons {α : Type} {l : List α} {i : Nat} {k : α} (h : l[i]? = some k) : l.drop i = k :: l.drop (i + 1) := by
  obtain ⟨hi, e⟩ := List.getElem?_eq_some_iff.mp h
  rw [← e]
  exact List.drop_eq_getElem_cons hi
theorem lay_inl (W : List Way) (here : Str) (first last n : Int) (r : List Stp) : lay W here first last (.inl n :: r) = lay W here first (last + n) r := rfl
theorem lay_none {W : List Way} {here x : Str} (h : lead W x here = none) (first last : Int) (r : List Stp) : lay W here first last (.inr x :: r) = ([(here, first, last)], [], some (last + 1, x)) := by
  show (match lead W x here with | none => _ | some f => _) = _
  rw [h]
theorem lay_some {W : List Way} {here x f : Str} (h : lead W x here = some f) (first last : Int) (r : List Stp) : lay W here first last (.inr x :: r) =
    ((here, first, last) :: (lay W f (last + 1) (last + 1) r).1, (last + 1, x) :: (lay W f (last + 1) (last + 1) r).2.1, (lay W f (last + 1) (last + 1) r).2.2) := by
  show (match lead W x here with | none => _ | some f => _) = _
  rw [h]
theorem lead_some {W : List Way} {x here f : Str} (h : lead W x here = some f) : ∃ y ∈ W, y.name = x ∧ y.tp = here ∧ y.ft = f := by
  unfold lead at h
  rw [Option.map_eq_some_iff] at h
  obtain ⟨y, h1, h2⟩ := h
  have h3 := List.find?_some h1
  rw [Bool.and_eq_true] at h3
  exact ⟨y, List.mem_of_find?_eq_some h1, of_decide_eq_true h3.1, of_decide_eq_true h3.2, h2⟩
end DG

/-! The country's dicts. -/
namespace DG
open PySem L2
theorem gw_ne : ¬ (("by_ground" : Str) = "by_way") := by decide +kernel
theorem flds_w (d1 d2 : Addr) : (flds d1 d2).lookup ("by_way" : Str) = some (.ref d2) := by
  unfold flds
  rw [lookup_putF, if_pos rfl]
theorem flds_g (d1 d2 : Addr) : (flds d1 d2).lookup ("by_ground" : Str) = some (.ref d1) := by
  unfold flds
  rw [lookup_putF, if_neg gw_ne, lookup_putF, if_pos rfl]
theorem flds_no (d1 d2 : Addr) {m : Str} (h1 : ¬ m = "by_way") (h2 : ¬ m = "by_ground") : (flds d1 d2).lookup m = none := by
  unfold flds
  rw [lookup_putF, if_neg h1, lookup_putF, if_neg h2]
  rfl
theorem gndOf_cons (g : Gnd) (r : List Gnd) (x : Str) : gndOf (g :: r) x = if g.name = x then some g else gndOf r x := by
  unfold gndOf
  rw [List.find?_cons]
  by_cases h : g.name = x
  · rw [if_pos h, decide_eq_true h]
  · rw [if_neg h, decide_eq_false h]
theorem wayOf_cons (g : Way) (r : List Way) (x : Str) : wayOf (g :: r) x = if g.name = x then some g else wayOf r x := by
  unfold wayOf
  rw [List.find?_cons]
  by_cases h : g.name = x
  · rw [if_pos h, decide_eq_true h]
  · rw [if_neg h, decide_eq_false h]
theorem gnd_val {H : Hp} {x : Str} {g : Gnd} : ∀ {G : List Gnd} {kg : List (Key × V)}, Paired (GEnt H) G kg → gndOf G x = some g → ∃ t s, valV kg (.inr x) = some (.ref t) ∧ H t = some (.tup [.int g.hgt, .ref s])
  | _, _, .nil, h => by cases h
  | g0 :: G, kv :: kg, .cons p t, h => by
    rw [gndOf_cons] at h
    obtain ⟨p1, s, c, p2, p3⟩ := p
    by_cases e : g0.name = x
    · rw [if_pos e] at h
      cases h
      refine ⟨c, s, ?_, p3⟩
      rw [valV_pos (by rw [p1, e]), p2]
    · rw [if_neg e] at h
      rw [valV_neg (by rw [p1]; intro q; exact e (Sum.inr.inj q))]
      exact gnd_val t h
theorem way_val {H : Hp} {x : Str} {g : Way} : ∀ {G : List Way} {kg : List (Key × V)}, Paired (WEnt H) G kg → wayOf G x = some g → ∃ t, valV kg (.inr x) = some (.ref t) ∧ H t = some (.tup [.str g.tp, .str g.ft, .int g.toll])
  | _, _, .nil, h => by cases h
  | g0 :: G, kv :: kg, .cons p t, h => by
    rw [wayOf_cons] at h
    obtain ⟨p1, c, p2, p3⟩ := p
    by_cases e : g0.name = x
    · rw [if_pos e] at h
      cases h
      refine ⟨c, ?_, p3⟩
      rw [valV_pos (by rw [p1, e]), p2]
    · rw [if_neg e] at h
      rw [valV_neg (by rw [p1]; intro q; exact e (Sum.inr.inj q))]
      exact way_val t h
theorem gnd_new {H : Hp} {x : Str} : ∀ {G : List Gnd} {kg : List (Key × V)}, Paired (GEnt H) G kg → x ∉ G.map (·.name) → valV kg (.inr x) = none
  | _, _, .nil, _ => rfl
  | g0 :: G, kv :: kg, .cons p t, h => by
    rw [List.map_cons, List.mem_cons, not_or] at h
    rw [valV_neg (by rw [p.1]; intro q; exact h.1 (Sum.inr.inj q).symm)]
    exact gnd_new t h.2
theorem way_new {H : Hp} {x : Str} : ∀ {G : List Way} {kg : List (Key × V)}, Paired (WEnt H) G kg → x ∉ G.map (·.name) → valV kg (.inr x) = none
  | _, _, .nil, _ => rfl
  | g0 :: G, kv :: kg, .cons p t, h => by
    rw [List.map_cons, List.mem_cons, not_or] at h
    rw [valV_neg (by rw [p.1]; intro q; exact h.1 (Sum.inr.inj q).symm)]
    exact way_new t h.2
theorem gndOf_name {G : List Gnd} {x : Str} {g : Gnd} (h : gndOf G x = some g) : g.name = x ∧ g ∈ G := by
  unfold gndOf at h
  have h1 := List.find?_some h
  exact ⟨of_decide_eq_true h1, List.mem_of_find?_eq_some h⟩
theorem wayOf_name {G : List Way} {x : Str} {g : Way} (h : wayOf G x = some g) : g.name = x ∧ g ∈ G := by
  unfold wayOf at h
  have h1 := List.find?_some h
  exact ⟨of_decide_eq_true h1, List.mem_of_find?_eq_some h⟩
theorem gndOf_mem : ∀ {G : List Gnd} {g : Gnd}, (G.map (·.name)).Nodup → g ∈ G → gndOf G g.name = some g
  | [], _, _, h => by cases h
  | g0 :: G, g, n, h => by
    rw [List.map_cons, List.nodup_cons] at n
    rw [gndOf_cons]
    rcases List.mem_cons.mp h with e | h'
    · rw [e, if_pos rfl]
    · rw [if_neg (fun e : g0.name = g.name => n.1 (by rw [e]; exact List.mem_map_of_mem h'))]
      exact gndOf_mem n.2 h'
theorem wayOf_mem : ∀ {G : List Way} {g : Way}, (G.map (·.name)).Nodup → g ∈ G → wayOf G g.name = some g
  | [], _, _, h => by cases h
  | g0 :: G, g, n, h => by
    rw [List.map_cons, List.nodup_cons] at n
    rw [wayOf_cons]
    rcases List.mem_cons.mp h with e | h'
    · rw [e, if_pos rfl]
    · rw [if_neg (fun e : g0.name = g.name => n.1 (by rw [e]; exact List.mem_map_of_mem h'))]
      exact wayOf_mem n.2 h'
end DG
namespace DG
open PySem L2
theorem gents_del {H : Hp} {d : Addr} {k : List (Key × V)} (hd : H d = some (.dK k)) {G : List Gnd} {kg : List (Key × V)} (h : Paired (GEnt H) G kg) : Paired (GEnt (del d H)) G kg :=
  Paired.mapP h fun _ _ ⟨h1, s, t, h2, h3⟩ => ⟨h1, s, t, h2, by rw [del_ne (ne_of h3 hd (by intro z; cases z))]; exact h3⟩
theorem wents_del {H : Hp} {d : Addr} {k : List (Key × V)} (hd : H d = some (.dK k)) {G : List Way} {kg : List (Key × V)} (h : Paired (WEnt H) G kg) : Paired (WEnt (del d H)) G kg :=
  Paired.mapP h fun _ _ ⟨h1, t, h2, h3⟩ => ⟨h1, t, h2, by rw [del_ne (ne_of h3 hd (by intro z; cases z))]; exact h3⟩
theorem str_eqV (a b : Str) : eqV (.str a) (.str b) = decide (a = b) := by
  show (a == b) = _
  by_cases h : a = b
  · rw [h]; simp
  · simp [h]
/-- the ways from a ground hold a name: the way leads from there -/
theorem lead_in (x g : Str) : ∀ W : List Way, inV (.str x) (((W.filter fun y => decide (y.tp = g)).map (·.name)).map V.str) = (lead W x g).isSome
  | [] => rfl
  | y :: W => by
    have ih := lead_in x g W
    have e : lead (y :: W) x g = if (decide (y.name = x) && decide (y.tp = g)) = true then some y.ft else lead W x g := by
      unfold lead
      rw [List.find?_cons]
      cases decide (y.name = x) && decide (y.tp = g) <;> rfl
    rw [e, List.filter_cons]
    by_cases h1 : y.tp = g
    · rw [if_pos (decide_eq_true h1), List.map_cons, List.map_cons]
      show (eqV (.str y.name) (.str x) || inV (.str x) _) = _
      rw [str_eqV, ih, decide_eq_true h1, Bool.and_true]
      by_cases h2 : y.name = x
      · rw [if_pos (decide_eq_true h2), decide_eq_true h2]; rfl
      · rw [if_neg (by simp [h2]), decide_eq_false h2]; rfl
    · rw [if_neg (by simp [h1]), ih, decide_eq_false h1, Bool.and_false, if_neg (by simp)]
theorem flat_strs (l : List Str) : (l.map V.str).all flatV = true := by
  rw [List.all_eq_true]
  intro x hx
  obtain ⟨z, _, rfl⟩ := List.mem_map.mp hx
  rfl
theorem filter_take {α : Type} {p : α → Bool} {l : List α} {i : Nat} {k : α} (h : l[i]? = some k) : (l.take (i + 1)).filter p = (l.take i).filter p ++ (if p k = true then [k] else []) := by
  rw [take_snoc h, List.filter_append, List.filter_cons]
  rfl
end DG

/-! Mathematics of steps: cut, join, turns. -/
namespace DG
open PySem L2
theorem cut_len (ks : List Stp) (s : List Stp × Int) : (ks.foldl cutTurn s).1.length ≤ s.1.length + ks.length := by
  induction ks generalizing s with
  | nil => simp
  | cons k r ih =>
    have h1 := ih (cutTurn s k)
    have h2 : (cutTurn s k).1.length ≤ s.1.length + 1 := by
      unfold cutTurn
      dsimp only
      split
      · rw [List.length_append]; simp
      · omega
    simp only [List.foldl_cons, List.length_cons]
    omega
theorem daysOf_cons (k : Stp) (r : List Stp) : daysOf (k :: r) = stepDays k + daysOf r := by
  unfold daysOf
  rw [List.map_cons, List.sum_cons]
theorem daysOf_append (a b : List Stp) : daysOf (a ++ b) = daysOf a + daysOf b := by
  unfold daysOf
  rw [List.map_append, List.sum_append]
theorem daysOf_nil : daysOf [] = 0 := rfl
theorem daysOf_one (k : Stp) : daysOf [k] = stepDays k := by
  rw [daysOf_cons, daysOf_nil]; omega
theorem Pos1.tail {k : Stp} {r : List Stp} (h : Pos1 (k :: r)) : Pos1 r := fun x hx => h x (List.mem_cons_of_mem _ hx)
theorem Pos1.head {k : Stp} {r : List Stp} (h : Pos1 (k :: r)) : 1 ≤ stepDays k := h k (List.mem_cons_self ..)
theorem Pos1.nonneg {ks : List Stp} (h : Pos1 ks) : 0 ≤ daysOf ks := by
  induction ks with
  | nil => exact Int.le_refl 0
  | cons k r ih =>
    have := ih h.tail
    have := h.head
    rw [daysOf_cons]
    omega
theorem Pos1.append {a b : List Stp} (ha : Pos1 a) (hb : Pos1 b) : Pos1 (a ++ b) := fun k hk => (List.mem_append.mp hk).elim (ha k) (hb k)
theorem Pos1.one {k : Stp} (h : 1 ≤ stepDays k) : Pos1 [k] := fun x hx => by
  rw [List.mem_singleton.mp hx]; exact h
/-- what is left of d days behind the steps -/
theorem cut_rest (ks : List Stp) (h : Pos1 ks) (s : List Stp × Int) (h0 : 0 ≤ s.2) : (ks.foldl cutTurn s).2 = if s.2 ≤ daysOf ks then 0 else s.2 - daysOf ks := by
  induction ks generalizing s with
  | nil =>
    rw [daysOf_nil]
    show s.2 = _
    split <;> omega
  | cons k r ih =>
    have hk := h.head
    have hr := h.tail.nonneg
    have e2 : (cutTurn s k).2 = s.2 - minI s.2 (stepDays k) := rfl
    have hm : minI s.2 (stepDays k) = if stepDays k < s.2 then stepDays k else s.2 := rfl
    have h1 := ih h.tail (cutTurn s k) (by rw [e2, hm]; split <;> omega)
    rw [List.foldl_cons, h1, e2, hm, daysOf_cons]
    split <;> split <;> split <;> omega
theorem cut_zero {ks : List Stp} {d : Int} (h : Pos1 ks) (h0 : 0 ≤ d) (h1 : d ≤ daysOf ks) : (cutFold ks d).2 = 0 := by
  unfold cutFold
  rw [cut_rest ks h _ h0, if_pos h1]
/-- the days of what is cut -/
theorem cut_days (ks : List Stp) (h : Pos1 ks) (s : List Stp × Int) (h0 : 0 ≤ s.2) : Pos1 s.1 → Pos1 (ks.foldl cutTurn s).1 ∧ daysOf (ks.foldl cutTurn s).1 + (ks.foldl cutTurn s).2 = daysOf s.1 + s.2 := by
  induction ks generalizing s with
  | nil => exact fun hs => ⟨hs, rfl⟩
  | cons k r ih =>
    intro hs
    have hk := h.head
    have e2 : (cutTurn s k).2 = s.2 - minI s.2 (stepDays k) := rfl
    have hm : minI s.2 (stepDays k) = if stepDays k < s.2 then stepDays k else s.2 := rfl
    have e1 : (cutTurn s k).1 = (if 0 < s.2 then s.1 ++ [cutOne s.2 k] else s.1) := rfl
    have h0' : 0 ≤ (cutTurn s k).2 := by rw [e2, hm]; split <;> omega
    have h1 : Pos1 (cutTurn s k).1 ∧ daysOf (cutTurn s k).1 + (cutTurn s k).2 = daysOf s.1 + s.2 := by
      rw [e1, e2, hm]
      by_cases hd : 0 < s.2
      · rw [if_pos hd]
        cases k with
        | inr x =>
          refine ⟨hs.append (.one hk), ?_⟩
          rw [daysOf_append, daysOf_one]
          have e : stepDays (Sum.inr x : Stp) = 1 := rfl
          have e3 : stepDays (cutOne s.2 (Sum.inr x : Stp)) = 1 := rfl
          rw [e, e3]
          split <;> omega
        | inl n =>
          have e : stepDays (Sum.inl n : Stp) = n := rfl
          have e' : ∀ m : Int, stepDays (Sum.inl m : Stp) = m := fun _ => rfl
          rw [e] at hk ⊢
          have hmn : minI n s.2 = if s.2 < n then s.2 else n := rfl
          refine ⟨hs.append (.one ?_), ?_⟩
          · show 1 ≤ minI n s.2
            rw [hmn]; split <;> omega
          · rw [daysOf_append, daysOf_one]
            show daysOf s.1 + minI n s.2 + _ = _
            rw [hmn]
            split <;> split <;> omega
      · rw [if_neg hd]
        refine ⟨hs, ?_⟩
        split <;> omega
    obtain ⟨p, q⟩ := ih h.tail (cutTurn s k) h0' h1.1
    exact ⟨p, by rw [List.foldl_cons, q, h1.2]⟩
theorem push_days {acc : List Stp} {k : Stp} (h : Pos1 acc) (hk : 1 ≤ stepDays k) : Pos1 (push acc k) ∧ daysOf (push acc k) = daysOf acc + stepDays k := by
  have app : push acc k = acc ++ [k] → Pos1 (push acc k) ∧ daysOf (push acc k) = daysOf acc + stepDays k := fun e => by
    rw [e, daysOf_append, daysOf_one]
    exact ⟨h.append (.one hk), rfl⟩
  cases e : acc.getLast? with
  | none =>
    have e0 : acc = [] := List.getLast?_eq_none_iff.mp e
    subst e0
    exact app rfl
  | some y =>
    cases y with
    | inr x => exact app (push_last e k)
    | inl a =>
      cases k with
      | inr x => exact app (push_str acc x)
      | inl b =>
        have e0 := last_of e
        rw [push_add e]
        rw [e0] at h
        have ha : 1 ≤ a := h (.inl a) (List.mem_append_right _ (List.mem_singleton.mpr rfl))
        have hb : 1 ≤ b := hk
        have hd : Pos1 acc.dropLast := fun x hx => h x (List.mem_append_left _ hx)
        refine ⟨hd.append (.one (show 1 ≤ a + b by omega)), ?_⟩
        conv => rhs; rw [e0]
        rw [daysOf_append, daysOf_append, daysOf_one, daysOf_one]
        show _ + (a + b) = _ + a + b
        omega
theorem plain_days (ks acc : List Stp) (h : Pos1 acc) (hk : Pos1 ks) : Pos1 (ks.foldl push acc) ∧ daysOf (ks.foldl push acc) = daysOf acc + daysOf ks := by
  induction ks generalizing acc with
  | nil => exact ⟨h, by rw [daysOf_nil, Int.add_zero]; rfl⟩
  | cons k r ih =>
    obtain ⟨p, q⟩ := push_days h hk.head
    obtain ⟨p', q'⟩ := ih (push acc k) p hk.tail
    refine ⟨p', ?_⟩
    rw [List.foldl_cons, q', q, daysOf_cons]
    omega
theorem plain_ok {ks : List Stp} (h : Pos1 ks) : Pos1 (plain ks) ∧ daysOf (plain ks) = daysOf ks := by
  obtain ⟨p, q⟩ := plain_days ks [] (fun k hk => by cases hk) h
  exact ⟨p, by unfold plain; rw [q, daysOf_nil]; omega⟩
theorem plainK_len (ks : List Stp) : (plain ks).length ≤ ks.length := by
  have := plain_len ks []
  unfold plain
  simpa using this
theorem cutK_ok {ks : List Stp} {d : Int} (h : Pos1 ks) (h0 : 0 ≤ d) (h1 : d ≤ daysOf ks) : Pos1 (cutK ks d) ∧ daysOf (cutK ks d) = d := by
  obtain ⟨p, q⟩ := cut_days ks h ([], d) h0 (fun k hk => by cases hk)
  have z := cut_zero h h0 h1
  unfold cutFold at z
  obtain ⟨p', q'⟩ := plain_ok p
  refine ⟨p', ?_⟩
  unfold cutK cutFold
  rw [q']
  rw [z, daysOf_nil] at q
  have q2 : daysOf (List.foldl cutTurn ([], d) ks).1 + 0 = 0 + d := q
  omega
theorem cutK_len (ks : List Stp) (d : Int) : (cutK ks d).length ≤ ks.length := by
  have h1 := plainK_len (cutFold ks d).1
  have h2 := cut_len ks ([], d)
  unfold cutK
  unfold cutFold at h1 ⊢
  simp at h2
  omega
theorem takeOn_ok {S own : List Stp} {d : Int} (h : Pos1 S) (ho : Pos1 own) (h0 : 0 ≤ d) (h1 : d ≤ daysOf S) : Pos1 (takeOn S d own) ∧ daysOf (takeOn S d own) = d + daysOf own := by
  obtain ⟨p, q⟩ := cutK_ok h h0 h1
  obtain ⟨p', q'⟩ := plain_ok (p.append ho)
  refine ⟨p', ?_⟩
  unfold takeOn joinK
  rw [q', daysOf_append, q]
theorem takeOn_len (S own : List Stp) (d : Int) : (takeOn S d own).length ≤ S.length + own.length := by
  have h1 := plainK_len (cutK S d ++ own)
  have h2 := cutK_len S d
  rw [List.length_append] at h1
  unfold takeOn joinK
  omega
theorem StepOk.days {k : Stp} (h : StepOk k) : 1 ≤ stepDays k ∧ stepDays k ≤ 1000000 := by
  cases k with
  | inl n => exact h
  | inr x => exact ⟨by show (1 : Int) ≤ 1; decide, by show (1 : Int) ≤ 1000000; decide⟩
theorem own_days {own : List Stp} (h : ∀ k ∈ own, StepOk k) : Pos1 own ∧ daysOf own ≤ 1000000 * (own.length : Int) := by
  refine ⟨fun k hk => (h k hk).days.1, ?_⟩
  induction own with
  | nil => simp [daysOf_nil]
  | cons k r ih =>
    have h1 := ih fun x hx => h x (List.mem_cons_of_mem _ hx)
    have h2 := (h k (List.mem_cons_self ..)).days.2
    rw [daysOf_cons, List.length_cons]
    omega
theorem foldT_snoc {day : Int} {T : List Turn'} {i : Nat} {s : Int} {own : List Stp} (h : T[i]? = some (s, own)) : foldT day (T.take (i + 1)) = takeOn (foldT day (T.take i)) (s - day - 1) own := by
  unfold foldT
  rw [foldl_snoc h]
/-- what a chain of turns tells -/
theorem chain_ok {day : Int} {T : List Turn'} (c : Chain day T) : ∀ i, i ≤ T.length → Pos1 (foldT day (T.take i)) ∧ daysOf (foldT day (T.take i)) ≤ 5000000 * (i : Int) ∧ (foldT day (T.take i)).length ≤ 5 * i := by
  intro i
  induction i with
  | zero =>
    intro _
    refine ⟨fun k hk => ?_, ?_, ?_⟩
    · have : k ∈ ([] : List Stp) := hk
      cases this
    · show (0 : Int) ≤ _; omega
    · show 0 ≤ _; omega
  | succ i ih =>
    intro hi
    obtain ⟨h1, h2, h3⟩ := ih (by omega)
    have hlt : i < T.length := by omega
    obtain ⟨⟨s, own⟩, ht⟩ : ∃ t, T[i]? = some t := ⟨_, List.getElem?_eq_getElem hlt⟩
    obtain ⟨a1, a2, a3, a4⟩ := c.at_ i s own ht
    obtain ⟨o1, o2⟩ := own_days a3
    obtain ⟨t1, t2⟩ := takeOn_ok h1 o1 (by omega) a2
    have t3 := takeOn_len (foldT day (T.take i)) own (s - day - 1)
    rw [foldT_snoc ht]
    refine ⟨t1, ?_, ?_⟩
    · rw [t2]
      omega
    · omega
end DG
namespace DG
open PySem L2
/-- rows that stand in their order are what sorting gives -/
theorem sorted_same {α : Type} {R : α → α → Prop} : ∀ {xs ys : List α}, ys.Perm xs → xs.Pairwise (fun x y => ¬ R y x) → ys.Pairwise R → ys = xs
  | [], ys, hp, _, _ => List.perm_nil.mp hp
  | x :: r, [], hp, _, _ => by cases (List.perm_nil.mp hp.symm)
  | x :: r, y :: s, hp, hx, hy => by
    obtain ⟨hx1, hx2⟩ := List.pairwise_cons.mp hx
    obtain ⟨hy1, hy2⟩ := List.pairwise_cons.mp hy
    have e : y = x := by
      rcases Classical.em (y = x) with e | ne
      · exact e
      · have h1 : y ∈ r := by
          rcases List.mem_cons.mp (hp.mem_iff.mp (List.mem_cons_self ..)) with e | h
          · exact absurd e ne
          · exact h
        have h2 : x ∈ s := by
          rcases List.mem_cons.mp (hp.mem_iff.mpr (List.mem_cons_self ..)) with e | h
          · exact absurd e.symm ne
          · exact h
        exact absurd (hy1 x h2) (hx1 y h1)
    subst e
    rw [sorted_same (List.perm_cons y |>.mp hp) hx2 hy2]
def tB : Int := 10000000000
def tri (i : Nat) (s : Int) : List Int := [s, (i : Int) + 1, (i : Int)]
theorem tri_code (i : Nat) (s : Int) : TS.code tB (tri i s) = s * 100000000000000000000 + (((i : Int) + 1) * 10000000000 + (i : Int)) := by
  have h0 : tB ^ 0 = 1 := rfl
  have h1 : tB ^ 1 = 10000000000 := rfl
  have h2 : tB ^ 2 = 100000000000000000000 := rfl
  show s * tB ^ 2 + (((i : Int) + 1) * tB ^ 1 + ((i : Int) * tB ^ 0 + 0)) = _
  rw [h0, h1, h2]
  omega
theorem tri_bd {i : Nat} {s : Int} (hs : 0 ≤ s) (h1 : s < 10000000000) (hi : i < 1000) : TS.Bd tB (tri i s) := fun m hm => by
  have e : tB = 10000000000 := rfl
  rw [e]
  rcases List.mem_cons.mp hm with rfl | hm
  · exact ⟨hs, h1⟩
  · rcases List.mem_cons.mp hm with rfl | hm
    · omega
    · rw [List.mem_singleton.mp hm]; omega
theorem tri_lt {i j : Nat} {s z : Int} (h : i < j) (hs : s ≤ z) : TS.code tB (tri i s) < TS.code tB (tri j z) := by
  rw [tri_code, tri_code]
  omega
end DG

/-! Names: letters, words, what the law makes of draws. -/
namespace DG
open PySem L2
theorem letters_list : letters.cps.toList = List.range' 97 26 := by decide +kernel
theorem letters_len : letters.length = 26 := by decide +kernel
/-- the sign of a letter's number -/
def ltr (c : Int) : Nat := 97 + c.toNat
theorem ltr_mem {c : Int} (h0 : 0 ≤ c) (h1 : c < 26) : ltr c ∈ letters.cps.toList := by
  rw [letters_list, List.mem_range']
  exact ⟨c.toNat, by omega, by unfold ltr; omega⟩
theorem ltr_at {c : Int} (h0 : 0 ≤ c) (h1 : c < 26) : atI letters.cps.toList c = some (ltr c) := by
  have h : letters.cps.toList[c.toNat]? = some (ltr c) := by
    rw [letters_list, List.getElem?_range' (by omega)]
    unfold ltr
    simp
  have := atI_nat h
  rwa [Int.toNat_of_nonneg h0] at this
theorem ltr_inj {a b : Int} (ha : 0 ≤ a) (hb : 0 ≤ b) (h : ltr a = ltr b) : a = b := by
  unfold ltr at h
  omega
/-- the letters' numbers of the word, the k-th of its kind -/
def sgn (at_ turn : Int) (bs : List Int) (k j : Nat) : Int := if (j : Int) = at_ then (turn + (k : Int)) % 26 else bs.getD j 0
def wordL (sz : Nat) (at_ turn : Int) (bs : List Int) (k : Nat) : List Nat := (List.range sz).map fun j => ltr (sgn at_ turn bs k j)
def nmL (sz : Nat) (at_ turn : Int) (bs : List Int) (k : Nat) : List Nat := wordL sz at_ turn bs k ++ (if ((k : Int) % 2) = 0 then [] else [ltr (bs.getD 0 0)])
def nm (sz : Nat) (at_ turn : Int) (bs : List Int) (k : Nat) : Str := ⟨(nmL sz at_ turn bs k).toArray⟩
section
variable {sz : Nat} {at_ turn : Int} {bs : List Int}
theorem getD_ok {j : Nat} (hb : ∀ b ∈ bs, 0 ≤ b ∧ b < 26) : 0 ≤ bs.getD j 0 ∧ bs.getD j 0 < 26 := by
  rw [List.getD_eq_getElem?_getD]
  cases h : bs[j]? with
  | none => exact ⟨by decide, by decide⟩
  | some b => exact hb b (at_mem h)
theorem sgn_ok (hb : ∀ b ∈ bs, 0 ≤ b ∧ b < 26) (k j : Nat) : 0 ≤ sgn at_ turn bs k j ∧ sgn at_ turn bs k j < 26 := by
  unfold sgn
  split
  · exact ⟨Int.emod_nonneg _ (by decide), Int.emod_lt_of_pos _ (by decide)⟩
  · exact getD_ok hb
theorem nmL_len (k : Nat) : (nmL sz at_ turn bs k).length = sz + (if ((k : Int) % 2) = 0 then 0 else 1) := by
  unfold nmL wordL
  rw [List.length_append, List.length_map, List.length_range]
  split <;> simp
theorem nm_ok (h1 : 1 ≤ sz) (h7 : sz ≤ 7) (hb : ∀ b ∈ bs, 0 ≤ b ∧ b < 26) (k : Nat) : NameOk (nm sz at_ turn bs k) := by
  have hl : (nm sz at_ turn bs k).length = sz + (if ((k : Int) % 2) = 0 then 0 else 1) := nmL_len k
  refine ⟨by rw [hl]; omega, by rw [hl]; split <;> omega, fun c hc => ?_⟩
  have hc' : c ∈ nmL sz at_ turn bs k := by
    have e : (nm sz at_ turn bs k).cps.toList = nmL sz at_ turn bs k := by unfold nm; simp
    rwa [e] at hc
  unfold nmL at hc'
  rcases List.mem_append.mp hc' with h | h
  · obtain ⟨j, _, rfl⟩ := List.mem_map.mp h
    obtain ⟨a, b⟩ := sgn_ok (at_ := at_) (turn := turn) hb k j
    exact ltr_mem a b
  · split at h
    · cases h
    · rw [List.mem_singleton.mp h]
      obtain ⟨a, b⟩ := getD_ok (j := 0) hb
      exact ltr_mem a b
theorem nm_ne (h0 : 0 ≤ at_) (h1 : at_ < (sz : Int)) {k k' : Nat} (hk : k < 26) (hk' : k' < 26) (h : nm sz at_ turn bs k = nm sz at_ turn bs k') : k = k' := by
  have e : nmL sz at_ turn bs k = nmL sz at_ turn bs k' := by
    have := congrArg (fun z : Str => z.cps.toList) h
    unfold nm at this
    simpa using this
  have e1 : (nmL sz at_ turn bs k)[at_.toNat]? = (nmL sz at_ turn bs k')[at_.toNat]? := by rw [e]
  have hlt : at_.toNat < sz := by omega
  have g : ∀ n : Nat, (nmL sz at_ turn bs n)[at_.toNat]? = some (ltr ((turn + (n : Int)) % 26)) := fun n => by
    unfold nmL wordL
    rw [List.getElem?_append_left (by rw [List.length_map, List.length_range]; exact hlt), List.getElem?_map, List.getElem?_range hlt]
    show some (ltr (sgn at_ turn bs n at_.toNat)) = _
    unfold sgn
    rw [if_pos (Int.toNat_of_nonneg h0)]
  rw [g, g] at e1
  have e2 := ltr_inj (Int.emod_nonneg _ (by decide)) (Int.emod_nonneg _ (by decide)) (Option.some.inj e1)
  omega
theorem nms_ok (h1 : 1 ≤ sz) (h7 : sz ≤ 7) (a0 : 0 ≤ at_) (a1 : at_ < (sz : Int)) (hb : ∀ b ∈ bs, 0 ≤ b ∧ b < 26) : NamesOk ((List.range 26).map (nm sz at_ turn bs)) := by
  refine ⟨?_, fun x hx => ?_⟩
  · rw [List.nodup_iff_pairwise_ne, List.pairwise_map]
    refine List.Pairwise.imp_of_mem ?_ (List.nodup_iff_pairwise_ne.mp List.nodup_range)
    intro a b ha hb' hne he
    rw [List.mem_range] at ha hb'
    exact hne (nm_ne a0 a1 ha hb' he)
  · obtain ⟨k, _, rfl⟩ := List.mem_map.mp hx
    exact nm_ok h1 h7 hb k
end
/-! ### the law's words -/
def wordsA : List Str := ["herd", "turn", "shut", "foes", "goes", "held", "none", "way", "ground", "begin", "back", "state"]
def wordsB : List Str := ["nights", "lies", "grass", "words", "march", "last", "best", "ok", "gone", "strike", "astray"]
def wordsC : List Str := ["full", "bare", "late"]
def words26 : List Str := (wordsA ++ wordsB) ++ wordsC
def nameB (x : Str) : Bool := decide (1 ≤ x.length) && decide (x.length ≤ 8) && x.cps.toList.all fun c => decide (c ∈ letters.cps.toList)
theorem nameB_ok {x : Str} (h : nameB x = true) : NameOk x := by
  unfold nameB at h
  rw [Bool.and_eq_true, Bool.and_eq_true, List.all_eq_true] at h
  exact ⟨of_decide_eq_true h.1.1, of_decide_eq_true h.1.2, fun c hc => of_decide_eq_true (h.2 c hc)⟩
theorem words26_all : words26.all nameB = true := by decide +kernel
theorem words26_nodup : words26.Nodup := by decide +kernel
theorem words26_len : words26.length = 26 := rfl
theorem rot_ok (n : Nat) : NamesOk (words26.drop n ++ words26.take n) := by
  have hp : (words26.drop n ++ words26.take n).Perm words26 := by
    have h1 : (words26.drop n ++ words26.take n).Perm (words26.take n ++ words26.drop n) := List.perm_append_comm
    rwa [List.take_append_drop] at h1
  refine ⟨hp.nodup_iff.mpr words26_nodup, fun x hx => nameB_ok ?_⟩
  exact (List.all_eq_true.mp words26_all) x (hp.mem_iff.mp hx)
theorem rot_len (n : Nat) : (words26.drop n ++ words26.take n).length = 26 := by
  have h1 : (words26.drop n ++ words26.take n).Perm (words26.take n ++ words26.drop n) := List.perm_append_comm
  rw [List.take_append_drop] at h1
  rw [h1.length_eq]; rfl
/-- the slices that the law takes of the words -/
theorem cut_rot {t : Int} (h0 : 0 ≤ t) (h1 : t < 26) : cutV (cutV (words26.map V.str) (some t) none ++ cutV (words26.map V.str) none (some t)) none (some 26) = (words26.drop t.toNat ++ words26.take t.toNat).map V.str := by
  have hl : (words26.map V.str).length = 26 := rfl
  have e1 : cutV (words26.map V.str) (some t) none = (words26.drop t.toNat).map V.str := by
    unfold cutV
    rw [hl, HT.sIx_none]
    have : HT.sIx 26 0 (some t) = t.toNat := by
      unfold HT.sIx
      dsimp only
      rw [if_neg (by omega)]
      omega
    rw [this, List.take_of_length_le (by rw [List.length_drop, hl]; omega), List.map_drop]
  have e2 : cutV (words26.map V.str) none (some t) = (words26.take t.toNat).map V.str := by
    unfold cutV
    rw [hl, HT.sIx_none]
    have : HT.sIx 26 26 (some t) = t.toNat := by
      unfold HT.sIx
      dsimp only
      rw [if_neg (by omega)]
      omega
    rw [this, List.drop_zero, Nat.sub_zero, List.map_take]
  rw [e1, e2, ← List.map_append]
  have hl2 : ((words26.drop t.toNat ++ words26.take t.toNat).map V.str).length = 26 := by rw [List.length_map, rot_len]
  unfold cutV
  rw [hl2, HT.sIx_none]
  have : HT.sIx 26 26 (some 26) = 26 := by
    unfold HT.sIx
    dsimp only
    rw [if_neg (by omega)]
    omega
  rw [this, List.drop_zero, List.take_of_length_le (by rw [hl2]; omega)]
/-! ### joined signs -/
theorem joinL_nil : ∀ ls : List (List Nat), TL.joinL [] ls = ls.flatten
  | [] => rfl
  | [p] => by simp [TL.joinL]
  | p :: q :: r => by
    show p ++ ([] ++ TL.joinL [] (q :: r)) = _
    rw [joinL_nil (q :: r)]
    simp
theorem join_signs (ls : List Nat) : Txt.join "" (ls.map fun c => (⟨#[c]⟩ : Str)) = ⟨ls.toArray⟩ := by
  refine _root_.TL.ext_tl ?_
  rw [_root_.TL.join_eq, _root_.TL.tl_join, List.map_map]
  have e0 : _root_.TL.tl (("" : Str)) = [] := by decide +kernel
  rw [e0, joinL_nil, _root_.TL.tl_mk]
  induction ls with
  | nil => rfl
  | cons c r ih =>
    rw [List.map_cons, List.flatten_cons, ih]
    rfl
end DG
namespace DG
open PySem L2
/-! ### worlds: what grows beside the bag -/
section
variable {p q l : Addr} {cs : List Int} {W H H' : Hp} {o : HO}
theorem Wd.mut (h : Wd p q cs W H) (hl : W l = none) (hp : l ≠ p) : Wd p q cs W (upd H l o) := by
  obtain ⟨b, h1, h2⟩ := h.bag
  exact ⟨Same.mut h.ext hl, h.np, ⟨b, by rw [upd_ne hp.symm]; exact h1, h2⟩, h.cells, h.pos⟩
theorem Wd.add (h : Wd p q cs W H) (hl : W l = none) (hp : l ≠ p) (ho : H l = some o) : Wd p q cs (upd W l o) H :=
  ⟨Same.upd_both h.ext ho, by rw [upd_ne hp.symm]; exact h.np, h.bag, Same.new hl _ _ h.cells, h.pos⟩
/-- l has changed, all else stands -/
theorem Wd.subdel (h : Wd p q cs W H) (hl : W l = none) (hp : l ≠ p) (e : Same (del l H) H') : Wd p q cs W H' := by
  obtain ⟨b, h1, h2⟩ := h.bag
  exact ⟨(h.ext.del_r hl).trans e, h.np, ⟨b, e _ _ (by rw [del_ne hp.symm]; exact h1), h2⟩, h.cells, h.pos⟩
/-- what is free is not the bag -/
theorem Wd.ne (h : Wd p q cs W H) (hl : H l = none) : l ≠ p := fun z => by
  obtain ⟨b, h1, _⟩ := h.bag
  rw [z, h1] at hl
  cases hl
theorem Wd.out (h : Wd p q cs W H) (hl : H l = none) : W l = none := h.ext.none hl
end
end DG
namespace DG
open PySem L2
theorem signs_sum (l : List Nat) : ((l.map fun c => (⟨#[c]⟩ : Str)).map (·.length)).sum = l.length := by
  induction l with
  | nil => rfl
  | cons c r ih =>
    rw [List.map_cons, List.map_cons, List.sum_cons, ih, List.length_cons]
    show 1 + _ = _
    omega
theorem empty_len : (("" : Str)).length = 0 := by decide +kernel
theorem str_app (a b : List Nat) : (⟨a.toArray⟩ : Str) ++ (⟨b.toArray⟩ : Str) = ⟨(a ++ b).toArray⟩ := by
  refine _root_.TL.ext_tl ?_
  rw [_root_.TL.tl_append, _root_.TL.tl_mk, _root_.TL.tl_mk, _root_.TL.tl_mk]
theorem range_snoc {α : Type} (g : Nat → α) (i : Nat) : (List.range (i + 1)).map g = (List.range i).map g ++ [g i] := by
  rw [List.range_succ, List.map_append]
  rfl
end DG
namespace DG
open PySem L2
theorem pickI {xs : List Int} {v : Int} (h0 : 0 ≤ v) (h1 : v < (xs.length : Int)) : ∃ u ∈ xs, atI (xs.map V.int) v = some (.int u) := by
  have hi : v.toNat < xs.length := by omega
  refine ⟨xs[v.toNat], List.getElem_mem hi, ?_⟩
  have h : (xs.map V.int)[v.toNat]? = some (.int xs[v.toNat]) := by rw [List.getElem?_map, List.getElem?_eq_getElem hi]; rfl
  have := atI_nat h
  rwa [Int.toNat_of_nonneg h0] at this
theorem cpow_ok {a : Int} {b : Int} (h : b = 9 ∨ b = 6) (ha : a = 10) : CPow a b := by
  subst ha
  rcases h with rfl | rfl
  · exact ⟨by decide, by decide, by decide⟩
  · exact ⟨by decide, by decide, by decide⟩
theorem p9 : (10 : Int) ^ (9 : Int).toNat = 1000000000 := by decide
theorem p6 : (10 : Int) ^ (6 : Int).toNat = 1000000 := by decide
theorem cmul_r {i j : Int} (h0 : 0 ≤ j) (h : j ≤ 1000000000000) : CMul i j := .inr ⟨by omega, by omega⟩
theorem cmul_l {i j : Int} (h0 : 0 ≤ i) (h : i ≤ 1000000000000) : CMul i j := .inl ⟨by omega, by omega⟩
theorem nodup_take {α : Type} {l : List α} (n : Nat) (h : l.Nodup) : (l.take n).Nodup := h.sublist (List.take_sublist n l)
end DG
namespace DG
open PySem L2
theorem pickT {α : Type} {f : α → List V} {W : Hp} {G : List α} {xg : List V} (p : Paired (TupAt W) (G.map f) xg) {v : Int} (h0 : 0 ≤ v) (h1 : v < (xg.length : Int)) : ∃ g ∈ G, ∃ t, atI xg v = some (.ref t) ∧ W t = some (.tup (f g)) := by
  have hi : v.toNat < xg.length := by omega
  obtain ⟨d, hd, t, ht, hT⟩ := paired_at p (List.getElem?_eq_getElem hi)
  obtain ⟨g, hg, rfl⟩ := map_at hd
  refine ⟨g, at_mem hg, t, ?_, hT⟩
  have := atI_nat (List.getElem?_eq_getElem hi)
  rw [Int.toNat_of_nonneg h0, ht] at this
  exact this
end DG
namespace DG
open PySem L2
/-- the world: all but the bag and a list that changes -/
theorem Wd.grow2 {p q m : Addr} {cs : List Int} {W H H1 : Hp} (h : Wd p q cs W H) (e : Same H H1) (hm : W m = none) : Wd p q cs (del m (del p H1)) H1 ∧ Same W (del m (del p H1)) := by
  have g := h.grow e
  have u := (h.up e).del_r hm
  refine ⟨⟨Same.del_l.trans g.ext, ?_, g.bag, ?_, g.pos⟩, u⟩
  · by_cases hb : p = m
    · rw [hb, del_same]
    · rw [del_ne hb, del_same]
  · rw [del_ne (ne_of_none h.cells hm)]
    exact g.cells
theorem TL_del {H : Hp} {m a : Addr} {xs : List V} (hm : H m = some (.lst xs)) (ha : a ≠ m) {ds : List (List V)} (h : TL H a ds) : TL (del m H) a ds := by
  obtain ⟨ys, h1, h2⟩ := h
  exact ⟨ys, by rw [del_ne ha]; exact h1, tups_del hm (by intro d z; cases z) h2⟩
end DG

/-! Mathematics of rows: what a lay of steps tells. -/
namespace DG
open PySem L2
variable {W : List Way}
theorem lay_len (ks : List Stp) : ∀ (here : Str) (first last : Int), (lay W here first last ks).1.length = (lay W here first last ks).2.1.length + 1 := by
  induction ks with
  | nil => intro here first last; rfl
  | cons k r ih =>
    intro here first last
    cases k with
    | inl n => rw [lay_inl]; exact ih _ _ _
    | inr x =>
      cases h : lead W x here with
      | none => rw [lay_none h]; rfl
      | some f =>
        rw [lay_some h]
        dsimp only
        rw [List.length_cons, List.length_cons, ih]
theorem lay_head (ks : List Stp) : ∀ (here : Str) (first last : Int), Pos1 ks → ∃ l, (lay W here first last ks).1[0]? = some (here, first, l) ∧ last ≤ l := by
  induction ks with
  | nil => intro here first last _; exact ⟨last, rfl, Int.le_refl _⟩
  | cons k r ih =>
    intro here first last hp
    cases k with
    | inl n =>
      rw [lay_inl]
      obtain ⟨l, h1, h2⟩ := ih here first (last + n) hp.tail
      have h3 : 1 ≤ n := hp.head
      exact ⟨l, h1, by omega⟩
    | inr x =>
      cases h : lead W x here with
      | none => rw [lay_none h]; exact ⟨last, rfl, Int.le_refl _⟩
      | some f => rw [lay_some h]; exact ⟨last, rfl, Int.le_refl _⟩
/-- the night behind the last rest -/
def layEnd (L : Laid) (n : Int) : Int := match L.2.2 with
  | none => n
  | some w => w.1
theorem lay_contig (ks : List Stp) : ∀ (here : Str) (first last : Int), Pos1 ks → first ≤ last → Contig first (lay W here first last ks).1 (layEnd (lay W here first last ks) (last + 1 + daysOf ks)) ∧ last + 1 ≤ layEnd (lay W here first last ks) (last + 1 + daysOf ks) := by
  induction ks with
  | nil =>
    intro here first last _ h
    have e : layEnd (lay W here first last []) (last + 1 + daysOf []) = last + 1 := by
      show last + 1 + 0 = last + 1
      omega
    rw [e]
    exact ⟨.cons h (.nil _), Int.le_refl _⟩
  | cons k r ih =>
    intro here first last hp h
    have hr := hp.tail.nonneg
    cases k with
    | inl n =>
      have h3 : 1 ≤ n := hp.head
      rw [lay_inl, daysOf_cons]
      obtain ⟨h1, h2⟩ := ih here first (last + n) hp.tail (by omega)
      have e : last + 1 + (stepDays (Sum.inl n : Stp) + daysOf r) = last + n + 1 + daysOf r := by
        show last + 1 + (n + daysOf r) = _
        omega
      rw [e]
      exact ⟨h1, by omega⟩
    | inr x =>
      cases hl : lead W x here with
      | none =>
        rw [lay_none hl]
        exact ⟨.cons h (.nil _), Int.le_refl _⟩
      | some f =>
        rw [lay_some hl, daysOf_cons]
        obtain ⟨h1, h2⟩ := ih f (last + 1) (last + 1) hp.tail (Int.le_refl _)
        have e : last + 1 + (stepDays (Sum.inr x : Stp) + daysOf r) = last + 1 + 1 + daysOf r := by
          show last + 1 + (1 + daysOf r) = _
          omega
        have e2 : layEnd ((here, first, last) :: (lay W f (last + 1) (last + 1) r).1, (last + 1, x) :: (lay W f (last + 1) (last + 1) r).2.1, (lay W f (last + 1) (last + 1) r).2.2) (last + 1 + 1 + daysOf r) = layEnd (lay W f (last + 1) (last + 1) r) (last + 1 + 1 + daysOf r) := rfl
        rw [e, e2]
        exact ⟨.cons h h1, by omega⟩
theorem lay_at (ks : List Stp) : ∀ (here : Str) (first last : Int), Pos1 ks → ∀ (k : Nat) (s : Int) (x : Str), (lay W here first last ks).2.1[k]? = some (s, x) →
    ∃ r1 r2 y, (lay W here first last ks).1[k]? = some r1 ∧ (lay W here first last ks).1[k + 1]? = some r2 ∧ y ∈ W ∧ y.name = x ∧ y.tp = r1.1 ∧ y.ft = r2.1 ∧ s = r1.2.2 + 1 ∧ s = r2.2.1 := by
  induction ks with
  | nil => intro here first last _ k s x h; simp [lay] at h
  | cons k r ih =>
    intro here first last hp j s x h
    cases k with
    | inl n => rw [lay_inl] at h ⊢; exact ih _ _ _ hp.tail j s x h
    | inr z =>
      cases hl : lead W z here with
      | none => rw [lay_none hl] at h; simp at h
      | some f =>
        rw [lay_some hl] at h ⊢
        dsimp only at h ⊢
        cases j with
        | zero =>
          rw [List.getElem?_cons_zero] at h
          cases h
          obtain ⟨y, y1, y2, y3, y4⟩ := lead_some hl
          obtain ⟨l, h1, h2⟩ := lay_head (W := W) r f (last + 1) (last + 1) hp.tail
          exact ⟨(here, first, last), (f, last + 1, l), y, rfl, by rw [List.getElem?_cons_succ]; exact h1, y1, y2, y3, y4, rfl, rfl⟩
        | succ j =>
          rw [List.getElem?_cons_succ] at h
          obtain ⟨r1, r2, y, a1, a2, a3⟩ := ih f (last + 1) (last + 1) hp.tail j s x h
          exact ⟨r1, r2, y, by rw [List.getElem?_cons_succ]; exact a1, by rw [List.getElem?_cons_succ]; exact a2, a3⟩
/-- the ways of the steps with their days -/
def daysL (day : Int) : List Stp → List (Int × Str)
  | [] => []
  | .inl n :: r => daysL (day + n) r
  | .inr x :: r => (day + 1, x) :: daysL (day + 1) r
theorem lay_days (ks : List Stp) : ∀ (here : Str) (first last : Int), ∀ w ∈ (lay W here first last ks).2.1, w ∈ daysL last ks := by
  induction ks with
  | nil => intro here first last w h; cases h
  | cons k r ih =>
    intro here first last w h
    cases k with
    | inl n => rw [lay_inl] at h; exact ih _ _ _ w h
    | inr z =>
      cases hl : lead W z here with
      | none => rw [lay_none hl] at h; cases h
      | some f =>
        rw [lay_some hl] at h
        show w ∈ (last + 1, z) :: daysL (last + 1) r
        rcases List.mem_cons.mp h with e | h
        · rw [e]; exact List.mem_cons_self ..
        · exact List.mem_cons_of_mem _ (ih _ _ _ w h)
theorem daysL_append (a b : List Stp) : ∀ day : Int, daysL day (a ++ b) = daysL day a ++ daysL (day + daysOf a) b := by
  induction a with
  | nil => intro day; rw [daysOf_nil, Int.add_zero]; rfl
  | cons k r ih =>
    intro day
    rw [daysOf_cons]
    cases k with
    | inl n =>
      show daysL (day + n) (r ++ b) = daysL (day + n) r ++ daysL (day + (n + daysOf r)) b
      rw [ih, Int.add_assoc]
    | inr x =>
      show (day + 1, x) :: daysL (day + 1) (r ++ b) = (day + 1, x) :: daysL (day + 1) r ++ daysL (day + (1 + daysOf r)) b
      rw [ih, Int.add_assoc]
      rfl
theorem daysL_le (ks : List Stp) : ∀ day : Int, Pos1 ks → ∀ w ∈ daysL day ks, day < w.1 ∧ w.1 ≤ day + daysOf ks := by
  induction ks with
  | nil => intro day _ w h; cases h
  | cons k r ih =>
    intro day hp w h
    have h0 := hp.tail.nonneg
    have h1 := hp.head
    rw [daysOf_cons]
    cases k with
    | inl n =>
      obtain ⟨a, b⟩ := ih (day + n) hp.tail w h
      have e : stepDays (Sum.inl n : Stp) = n := rfl
      rw [e] at h1 ⊢
      omega
    | inr x =>
      have e : stepDays (Sum.inr x : Stp) = 1 := rfl
      rw [e]
      rcases List.mem_cons.mp h with e | h
      · rw [e]; exact ⟨by show day < day + 1; omega, by show day + 1 ≤ _; omega⟩
      · obtain ⟨a, b⟩ := ih (day + 1) hp.tail w h
        omega
/-- the entries of the law's dict of days -/
def dEnt (w : Int × Str) : Key × V := (Sum.inl w.1, .str w.2)
theorem daysL_nodup (ks : List Stp) : ∀ day : Int, Pos1 ks → ((daysL day ks).map (·.1)).Nodup := by
  induction ks with
  | nil => intro day _; exact List.nodup_nil
  | cons k r ih =>
    intro day hp
    cases k with
    | inl n => exact ih _ hp.tail
    | inr x =>
      show ((day + 1) :: (daysL (day + 1) r).map (·.1)).Nodup
      rw [List.nodup_cons]
      refine ⟨fun h => ?_, ih _ hp.tail⟩
      obtain ⟨w, hw, e⟩ := List.mem_map.mp h
      have := (daysL_le r (day + 1) hp.tail w hw).1
      omega
/-- a table of unlike keys gives what stands in it -/
theorem val_mem {κ : Type} [DecidableEq κ] : ∀ {kvs : List (κ × V)} {k : κ} {v : V}, (kvs.map (·.1)).Nodup → (k, v) ∈ kvs → valV kvs k = some v
  | [], _, _, _, h => by cases h
  | p :: r, k, v, n, h => by
    rw [List.map_cons, List.nodup_cons] at n
    rcases List.mem_cons.mp h with e | h'
    · rw [← e]; exact valV_pos rfl
    · rw [valV_neg (fun e => n.1 (e ▸ List.mem_map_of_mem h'))]
      exact val_mem n.2 h'
theorem val_out {κ : Type} [DecidableEq κ] : ∀ {kvs : List (κ × V)} {k : κ}, k ∉ kvs.map (·.1) → valV kvs k = none
  | [], _, _ => rfl
  | p :: r, k, h => by
    rw [List.map_cons, List.mem_cons, not_or] at h
    rw [valV_neg (fun e => h.1 e.symm)]
    exact val_out h.2
theorem days_val {day : Int} {ks : List Stp} (hp : Pos1 ks) {s : Int} {x : Str} (h : (s, x) ∈ daysL day ks) : valV ((daysL day ks).map dEnt) (Sum.inl s : Key) = some (.str x) := by
  refine val_mem ?_ (List.mem_map_of_mem (f := dEnt) h)
  have n := daysL_nodup ks day hp
  rw [List.map_map]
  have e : ((fun p : Key × V => p.1) ∘ dEnt) = (Sum.inl : Int → Key) ∘ (fun w : Int × Str => w.1) := rfl
  rw [e, ← List.map_map]
  rw [List.nodup_iff_pairwise_ne, List.pairwise_map]
  exact (List.nodup_iff_pairwise_ne.mp n).imp fun h e => h (Sum.inl.inj e)
theorem days_new {day : Int} {ks : List Stp} (hp : Pos1 ks) {n : Int} (hn : day + daysOf ks < n) : valV ((daysL day ks).map dEnt) (Sum.inl n : Key) = none := by
  refine val_out fun h => ?_
  rw [List.map_map] at h
  obtain ⟨w, hw, e⟩ := List.mem_map.mp h
  have e' : w.1 = n := Sum.inl.inj e
  have := (daysL_le ks day hp w hw).2
  omega
/-- putting unlike keys one by one leaves them as they are -/
theorem merge_new : ∀ {kvs acc : List (Key × V)}, (kvs.map (·.1)).Nodup → (∀ k ∈ kvs.map (·.1), k ∉ acc.map (·.1)) → mergeK acc kvs = acc ++ kvs
  | [], acc, _, _ => by show acc = _; rw [List.append_nil]
  | p :: r, acc, n, h => by
    rw [List.map_cons, List.nodup_cons] at n
    show mergeK (putK acc p.1 p.2) r = _
    have h1 : p.1 ∉ acc.map (·.1) := h p.1 (List.mem_cons_self ..)
    rw [putK_new p.2 (val_out h1), merge_new n.2]
    · rw [List.append_assoc]; rfl
    · intro k hk hm
      rw [List.map_append] at hm
      rcases List.mem_append.mp hm with a | a
      · exact h k (List.mem_cons_of_mem _ hk) a
      · have e : k = p.1 := List.mem_singleton.mp a
        rw [e] at hk
        exact n.1 hk
theorem merge_nil {kvs : List (Key × V)} (n : (kvs.map (·.1)).Nodup) : mergeK [] kvs = kvs := by
  have h := merge_new (acc := []) n (fun _ _ h => by cases h)
  rw [h]; rfl
/-! ### where one lies in a night -/
theorem contig_ge {n m : Int} {R : List Rest} (h : Contig n R m) : n ≤ m := by
  induction h with
  | nil n => exact Int.le_refl _
  | cons h1 _ ih => omega
def inR (n : Int) (r : Rest) : Bool := decide (r.2.1 ≤ n) && decide (n ≤ r.2.2)
theorem contig_none {f m n : Int} {R : List Rest} (h : Contig f R m) (hn : n < f) : R.filter (inR n) = [] := by
  induction h with
  | nil n => rfl
  | @cons g f l m r h1 h2 ih =>
    have e : inR n (g, f, l) = false := by
      unfold inR
      rw [decide_eq_false (show ¬ f ≤ n by omega)]
      rfl
    rw [List.filter_cons, if_neg (by rw [e]; simp)]
    exact ih (by omega)
theorem contig_one {f m n : Int} {R : List Rest} (h : Contig f R m) (h0 : f ≤ n) (h1 : n < m) : ∃ r ∈ R, R.filter (inR n) = [r] := by
  induction h with
  | nil n => omega
  | @cons g f l m r a1 a2 ih =>
    by_cases hl : n ≤ l
    · have e : inR n (g, f, l) = true := by
        unfold inR
        rw [decide_eq_true (show f ≤ n from h0), decide_eq_true (show n ≤ l from hl)]
        rfl
      refine ⟨(g, f, l), List.mem_cons_self .., ?_⟩
      rw [List.filter_cons, if_pos e, contig_none a2 (by omega)]
    · have e : inR n (g, f, l) = false := by
        unfold inR
        rw [decide_eq_false (show ¬ n ≤ l from hl), Bool.and_false]
      obtain ⟨r', hr', h'⟩ := ih (by omega) h1
      refine ⟨r', List.mem_cons_of_mem _ hr', ?_⟩
      rw [List.filter_cons, if_neg (by rw [e]; simp), h']
/-- the names of a row's grounds -/
theorem lay_names {G : List Gnd} (okW : ∀ y ∈ W, WOk G y) (ks : List Stp) : ∀ (here : Str) (first last : Int), NameOk here → ∀ r ∈ (lay W here first last ks).1, NameOk r.1 := by
  induction ks with
  | nil => intro here first last h r hr; rw [List.mem_singleton.mp hr]; exact h
  | cons k s ih =>
    intro here first last h r hr
    cases k with
    | inl n => rw [lay_inl] at hr; exact ih _ _ _ h r hr
    | inr x =>
      cases hl : lead W x here with
      | none => rw [lay_none hl] at hr; rw [List.mem_singleton.mp hr]; exact h
      | some f =>
        rw [lay_some hl] at hr
        rcases List.mem_cons.mp hr with e | hr
        · rw [e]; exact h
        · obtain ⟨y, y1, _, _, y4⟩ := lead_some hl
          exact ih f _ _ (by rw [← y4]; exact (okW y y1).nf) r hr
theorem name_str {x : Str} (h : NameOk x) : PyData.strOk x = true := by
  unfold PyData.strOk
  rw [Array.all_eq_true_iff_forall_mem]
  intro c hc
  have h1 := h.2.2 c (Array.mem_toList_iff.mpr hc)
  have h2 : letters.cps.toList = List.range' 97 26 := by decide +kernel
  rw [h2, List.mem_range'] at h1
  obtain ⟨i, h3, h4⟩ := h1
  simp only [decide_eq_true_eq]
  omega
end DG
namespace DG
open PySem L2
/-! ### pairs for a dict -/
def PK (H : Hp) (p : Addr) (kv : Key × V) : Prop := H p = some (.tup [kV kv.1, kv.2])
theorem pk_mono {H H' : Hp} {D : Addr} {xs : List V} (e : Same (del D H) H') (hD : H D = some (.lst xs)) {ts : List Addr} {kvs : List (Key × V)} (h : Paired (PK H) ts kvs) : Paired (PK H') ts kvs :=
  Paired.mapP h fun p kv (hp : H p = some (.tup [kV kv.1, kv.2])) => e _ _ (by rw [del_ne (ne_of hp hD (by intro z; cases z))]; exact hp)
theorem pk_same {H H' : Hp} (e : Same H H') {ts : List Addr} {kvs : List (Key × V)} (h : Paired (PK H) ts kvs) : Paired (PK H') ts kvs :=
  Paired.mapP h fun p kv (hp : H p = some (.tup [kV kv.1, kv.2])) => e _ _ hp
def gE (g : Gnd) : Key × V := (Sum.inr g.name, .int g.hgt)
/-- the entry of a way's ends -/
def EK (H : Hp) (y : Way) (kv : Key × V) : Prop := kv.1 = .inr y.name ∧ TupAt H [.str y.tp, .str y.ft] kv.2
theorem ek_mono {H H' : Hp} (e : Same H H') {ts : List Way} {kvs : List (Key × V)} (h : Paired (EK H) ts kvs) : Paired (EK H') ts kvs :=
  Paired.mapP h fun _ _ hp => ⟨hp.1, hp.2.mono e⟩
theorem ek_del {H : Hp} {D : Addr} {xs : List V} (hD : H D = some (.lst xs)) {ts : List Way} {kvs : List (Key × V)} (h : Paired (EK H) ts kvs) : Paired (EK (del D H)) ts kvs :=
  Paired.mapP h fun _ _ hp => by
    obtain ⟨h1, t, h2, h3⟩ := hp
    exact ⟨h1, t, h2, by rw [del_ne (ne_of h3 hD (by intro z; cases z))]; exact h3⟩
theorem ek_keys {H : Hp} : ∀ {ts : List Way} {kvs : List (Key × V)}, Paired (EK H) ts kvs → kvs.map (·.1) = ts.map fun y => (Sum.inr y.name : Key)
  | _, _, .nil => rfl
  | _, _, .cons h t => by rw [List.map_cons, List.map_cons, h.1, ek_keys t]
theorem ek_val {H : Hp} {y : Way} : ∀ {ts : List Way} {kvs : List (Key × V)}, Paired (EK H) ts kvs → (ts.map (·.name)).Nodup → y ∈ ts → ∃ t, valV kvs (Sum.inr y.name : Key) = some (.ref t) ∧ H t = some (.tup [.str y.tp, .str y.ft])
  | _, _, .nil, _, h => by cases h
  | y0 :: ts, kv :: kvs, .cons p t, n, h => by
    rw [List.map_cons, List.nodup_cons] at n
    obtain ⟨p1, c, p2, p3⟩ := p
    rcases List.mem_cons.mp h with e | h'
    · subst e
      exact ⟨c, by rw [valV_pos p1, p2], p3⟩
    · rw [valV_neg (by rw [p1]; intro q; exact n.1 (by rw [Sum.inr.inj q]; exact List.mem_map_of_mem h'))]
      exact ek_val t n.2 h'
theorem names_inr {α : Type} (f : α → Str) (l : List α) (n : (l.map f).Nodup) : (l.map fun x => (Sum.inr (f x) : Key)).Nodup := by
  have e : (l.map fun x => (Sum.inr (f x) : Key)) = (l.map f).map Sum.inr := by rw [List.map_map]; rfl
  rw [e, List.nodup_iff_pairwise_ne, List.pairwise_map]
  exact (List.nodup_iff_pairwise_ne.mp n).imp fun h e => h (Sum.inr.inj e)
theorem gE_keys (G : List Gnd) : (G.map gE).map (·.1) = G.map fun g => (Sum.inr g.name : Key) := by rw [List.map_map]; rfl
theorem gE_val {G : List Gnd} {g : Gnd} (n : (G.map (·.name)).Nodup) (h : g ∈ G) : valV (G.map gE) (Sum.inr g.name : Key) = some (.int g.hgt) := by
  refine val_mem ?_ (List.mem_map_of_mem (f := gE) h)
  rw [gE_keys]
  exact names_inr (·.name) G n
end DG

/-! Mathematics of turns: one more. -/
namespace DG
open PySem L2
/-- a world without a list that is to change -/
theorem Wd.cut {p q l : Addr} {cs : List Int} {W H : Hp} (h : Wd p q cs W H) (hq : q ≠ l) : Wd p q cs (del l W) H := by
  refine ⟨Same.del_l.trans h.ext, ?_, h.bag, by rw [del_ne hq]; exact h.cells, h.pos⟩
  by_cases hb : p = l
  · rw [hb, del_same]
  · rw [del_ne hb]; exact h.np
def aheadOf (day : Int) (T : List Turn') : Int := ((day + 1) :: T.map (·.1)).getLast (by simp)
theorem chain_all {day : Int} {T : List Turn'} (c : Chain day T) : Pos1 (foldT day T) ∧ daysOf (foldT day T) ≤ 25000000 ∧ (foldT day T).length ≤ 25 := by
  obtain ⟨h1, h2, h3⟩ := chain_ok c T.length (Nat.le_refl _)
  have h4 := c.len
  rw [List.take_length] at h1 h2 h3
  exact ⟨h1, by omega, by omega⟩
theorem chain_ahead {day : Int} {T : List Turn'} (c : Chain day T) : day < aheadOf day T ∧ aheadOf day T ≤ day + 1 + daysOf (foldT day T) ∧ ∀ (j : Nat) (s : Int) (o : List Stp), T[j]? = some (s, o) → s ≤ aheadOf day T := by
  have hp := (chain_all c).1.nonneg
  rcases List.eq_nil_or_concat T with rfl | ⟨T', t, rfl⟩
  · have e : aheadOf day [] = day + 1 := rfl
    rw [e]
    exact ⟨by omega, by omega, fun j s o h => by simp at h⟩
  · rw [List.concat_eq_append] at c hp ⊢
    have e : aheadOf day (T' ++ [t]) = t.1 := by
      have h1 : (((day + 1) :: T'.map (·.1)) ++ [t.1]).getLast? = some t.1 := List.getLast?_concat ..
      have h2 : ((day + 1) :: (T' ++ [t]).map (·.1)).getLast? = some t.1 := by rw [List.map_append]; exact h1
      rw [List.getLast?_eq_some_getLast (by simp)] at h2
      exact Option.some.inj h2
    have ht : (T' ++ [t])[T'.length]? = some t := by simp
    obtain ⟨s, o⟩ := t
    obtain ⟨a1, a2, a3, a4⟩ := c.at_ T'.length s o ht
    obtain ⟨c1, c2, c3⟩ := chain_ok c T'.length (by simp)
    obtain ⟨o1, o2⟩ := own_days a3
    obtain ⟨t1, t2⟩ := takeOn_ok c1 o1 (by omega) a2
    have f := foldT_snoc (day := day) ht
    have e2 : (T' ++ [(s, o)]).take (T'.length + 1) = T' ++ [(s, o)] := List.take_of_length_le (by simp)
    rw [e2] at f
    have on := o1.nonneg
    rw [e, f, t2]
    refine ⟨a1, by show s ≤ _; omega, fun j s' o' h => ?_⟩
    have hj := at_lt h
    rw [List.length_append] at hj
    exact c.up j T'.length s' o' s o (by simp at hj; omega) h ht
theorem chain_snoc {day : Int} {T : List Turn'} (c : Chain day T) {s : Int} {own : List Stp} (h1 : day < s) (h2 : s - day - 1 ≤ daysOf (foldT day T)) (h3 : ∀ k ∈ own, StepOk k) (h4 : own.length ≤ 5)
    (h5 : ∀ (j : Nat) (s' : Int) (o' : List Stp), T[j]? = some (s', o') → s' ≤ s) (h6 : T.length < 5) : Chain day (T ++ [(s, own)]) := by
  have at1 : ∀ (i : Nat) (t : Turn'), (T ++ [(s, own)])[i]? = some t → (T[i]? = some t ∧ i < T.length) ∨ (t = (s, own) ∧ i = T.length) := fun i t h => by
    by_cases hi : i < T.length
    · rw [List.getElem?_append_left hi] at h
      exact .inl ⟨h, hi⟩
    · rw [List.getElem?_append_right (by omega)] at h
      have hj := at_lt h
      simp at hj
      have e : i - T.length = 0 := by omega
      rw [e] at h
      exact .inr ⟨(Option.some.inj h).symm, by omega⟩
  refine ⟨fun i s' o' h => ?_, fun i j s1 o1 s2 o2 hij g1 g2 => ?_, by rw [List.length_append]; simp; omega⟩
  · rcases at1 i _ h with ⟨k, hi⟩ | ⟨k, ei⟩
    · rw [List.take_append_of_le_length (by omega)]
      exact c.at_ i s' o' k
    · cases k
      rw [ei]
      rw [List.take_append_of_le_length (by omega), List.take_length]
      exact ⟨h1, h2, h3, h4⟩
  · rcases at1 j _ g2 with ⟨k2, hj⟩ | ⟨k2, rfl⟩
    · rcases at1 i _ g1 with ⟨k1, hi⟩ | ⟨_, rfl⟩
      · exact c.up i j s1 o1 s2 o2 hij k1 k2
      · omega
    · cases k2
      rcases at1 i _ g1 with ⟨k1, hi⟩ | ⟨k1, _⟩
      · exact h5 i s1 o1 k1
      · cases k1; exact Int.le_refl _
theorem chain_nil (day : Int) : Chain day [] := ⟨fun i s o h => by simp at h, fun i j s1 o1 s2 o2 _ h => by simp at h, Nat.zero_le _⟩
theorem ahead_at (day : Int) (T : List Turn') : atI ([V.int (day + 1)] ++ (T.map (·.1)).map V.int) (-1) = some (.int (aheadOf day T)) := by
  refine atI_m1 ?_
  have e : [V.int (day + 1)] ++ (T.map (·.1)).map V.int = ((day + 1) :: T.map (·.1)).map V.int := rfl
  rw [e, List.getLast?_map, List.getLast?_eq_some_getLast (by simp)]
  rfl
theorem lastT {α : Type} {f : α → List V} {W : Hp} {G : List α} {xg : List V} (p : Paired (TupAt W) (G.map f) xg) (h0 : G ≠ []) : ∃ g ∈ G, ∃ t, atI xg (-1) = some (.ref t) ∧ W t = some (.tup (f g)) := by
  have hl := paired_len p
  rw [List.length_map] at hl
  have hp : 0 < G.length := List.length_pos_iff.mpr h0
  have hi : xg.length - 1 < xg.length := by omega
  obtain ⟨d, hd, t, ht, hT⟩ := paired_at p (List.getElem?_eq_getElem hi)
  obtain ⟨g, hg, rfl⟩ := map_at hd
  refine ⟨g, at_mem hg, t, ?_, hT⟩
  refine atI_m1 ?_
  rw [List.getLast?_eq_getElem?, List.getElem?_eq_getElem hi, ht]
theorem lay_bound {W : List Way} (ks : List Stp) : ∀ (here : Str) (first last : Int), (lay W here first last ks).1.length ≤ ks.length + 1 := by
  induction ks with
  | nil => intro here first last; exact Nat.le_refl _
  | cons k r ih =>
    intro here first last
    rw [List.length_cons]
    cases k with
    | inl n =>
      rw [lay_inl]
      exact Nat.le_succ_of_le (ih _ _ _)
    | inr x =>
      cases h : lead W x here with
      | none => rw [lay_none h]; simp
      | some f =>
        rw [lay_some h]
        dsimp only
        rw [List.length_cons]
        exact Nat.succ_le_succ (ih _ _ _)
/-- a turn more -/
theorem turns_snoc {W W' : Hp} {T : List Turn'} {xs : List V} (hl : xs.length = T.length) (e : Same W W') (h : ∀ (i : Nat) (t : Turn') (x : V), T[i]? = some t → xs[i]? = some x → TurnAt W i t x) {t : Turn'} {x : V} (hx : TurnAt W' T.length t x) :
    ∀ (i : Nat) (t' : Turn') (x' : V), (T ++ [t])[i]? = some t' → (xs ++ [x])[i]? = some x' → TurnAt W' i t' x' := by
  intro i t' x' h1 h2
  by_cases hi : i < T.length
  · rw [List.getElem?_append_left hi] at h1
    rw [List.getElem?_append_left (by omega)] at h2
    exact (h i t' x' h1 h2).mono e
  · rw [List.getElem?_append_right (by omega)] at h1 h2
    have hj := at_lt h1
    simp at hj
    have e0 : i - T.length = 0 := by omega
    have e1 : i - xs.length = 0 := by omega
    have e2 : i = T.length := by omega
    rw [e0] at h1
    rw [e1] at h2
    cases h1
    cases h2
    rw [e2]
    exact hx
/-- the heap's own list of steps is not the bag -/
theorem steps_ne {p q : Addr} {cs : List Int} {W H : Hp} (h : Wd p q cs W H) {s : Addr} {ks : List Stp} (hs : StepsAt H s ks) : s ≠ p := fun z => by
  obtain ⟨o, h1, b0, b1, b2, rfl, _⟩ := h.bag
  unfold StepsAt at hs
  rw [z, h1] at hs
  have e := HO.lst.inj (Option.some.inj hs)
  have h3 : (ks.map kV)[3]? = some (.ref q) := by rw [← e]; rfl
  obtain ⟨k, _, hk⟩ := map_at h3
  cases k <;> cases hk
end DG

/-! For the law's own walk. -/
namespace DG
open PySem L2
theorem gents_lst {H : Hp} {p : Addr} {xs : List V} (hp : H p = some (.lst xs)) {G : List Gnd} {kg : List (Key × V)} (h : Paired (GEnt H) G kg) : Paired (GEnt (del p H)) G kg :=
  Paired.mapP h fun _ _ ⟨h1, s, t, h2, h3⟩ => ⟨h1, s, t, h2, by rw [del_ne (ne_of h3 hp (by intro z; cases z))]; exact h3⟩
theorem wents_lst {H : Hp} {p : Addr} {xs : List V} (hp : H p = some (.lst xs)) {G : List Way} {kg : List (Key × V)} (h : Paired (WEnt H) G kg) : Paired (WEnt (del p H)) G kg :=
  Paired.mapP h fun _ _ ⟨h1, t, h2, h3⟩ => ⟨h1, t, h2, by rw [del_ne (ne_of h3 hp (by intro z; cases z))]; exact h3⟩
theorem cty_lst {H : Hp} {p CC c : Addr} {xs : List V} (hp : H p = some (.lst xs)) {G : List Gnd} {W : List Way} (h : Cty CC H c G W) : Cty CC (del p H) c G W := by
  obtain ⟨dx, d1, d2, kg, kw, k⟩ := h
  refine ⟨dx, d1, d2, kg, kw, ?_, ?_, ?_, gents_lst hp k.pg, wents_lst hp k.pw, k.ne⟩
  · rw [del_ne (ne_of k.obj hp (by intro z; cases z))]; exact k.obj
  · rw [del_ne (ne_of k.gs hp (by intro z; cases z))]; exact k.gs
  · rw [del_ne (ne_of k.ws hp (by intro z; cases z))]; exact k.ws
/-- a list of tuples is not the bag -/
theorem TL_bag {p q a : Addr} {cs : List Int} {W H : Hp} (h : Wd p q cs W H) {ds : List (List V)} (t : TL H a ds) : a ≠ p ∧ TL (del p H) a ds := by
  obtain ⟨o, h1, b0, b1, b2, rfl, _⟩ := h.bag
  obtain ⟨xs, h2, h3⟩ := t
  have ne : a ≠ p := fun z => by
    rw [z, h1] at h2
    have e := HO.lst.inj (Option.some.inj h2)
    have h4 : xs[0]? = some (.int b0) := by rw [← e]; rfl
    obtain ⟨d, _, t, ht, _⟩ := paired_at h3 h4
    cases ht
  exact ⟨ne, TL_del h1 ne ⟨xs, h2, h3⟩⟩
theorem lay_end_le {W : List Way} (ks : List Stp) : ∀ (here : Str) (first last : Int), Pos1 ks → layEnd (lay W here first last ks) (last + 1 + daysOf ks) ≤ last + 1 + daysOf ks := by
  induction ks with
  | nil => intro here first last _; exact Int.le_refl _
  | cons k r ih =>
    intro here first last hp
    have hr := hp.tail.nonneg
    cases k with
    | inl n =>
      rw [lay_inl, daysOf_cons]
      have e : last + 1 + (stepDays (Sum.inl n : Stp) + daysOf r) = last + n + 1 + daysOf r := by
        show last + 1 + (n + daysOf r) = _
        omega
      rw [e]
      exact ih here first (last + n) hp.tail
    | inr x =>
      rw [daysOf_cons]
      have e : last + 1 + (stepDays (Sum.inr x : Stp) + daysOf r) = last + 1 + 1 + daysOf r := by
        show last + 1 + (1 + daysOf r) = _
        omega
      cases hl : lead W x here with
      | none =>
        rw [lay_none hl, e]
        show last + 1 ≤ _
        omega
      | some f =>
        rw [lay_some hl, e]
        exact ih f (last + 1) (last + 1) hp.tail
theorem p8 : (10 : Int) ^ (8 : Int).toNat = 100000000 := by decide
theorem filter_take1 {α : Type} {p : α → Bool} {l : List α} {i : Nat} {k : α} (h : l[i]? = some k) (hp : p k = true) : (l.take (i + 1)).filter p = (l.take i).filter p ++ [k] := by
  rw [filter_take h, if_pos hp]
theorem filter_take0 {α : Type} {p : α → Bool} {l : List α} {i : Nat} {k : α} (h : l[i]? = some k) (hp : p k = false) : (l.take (i + 1)).filter p = (l.take i).filter p := by
  rw [filter_take h, if_neg (by rw [hp]; simp), List.append_nil]
end DG

namespace DG
open PySem L2
open PyProof.Rows (envOfC)
section
variable {P : Program} {w : World} {K : PySem.W.Frag} {mg : Str → Option Value} {base : Heap} {CS CC CW : Addr}
abbrev s_is_whole : Stmt := top 6
abbrev n_is_whole : List Str := ["thing"]
theorem sc_is_whole : FnScope n_is_whole ["thing"] (defScope s_is_whole) := ⟨rfl, rfl, rfl, by decide +kernel, rfl, by decide +kernel, by decide +kernel⟩

theorem ok_is_whole (D : Def K mg "is_whole" s_is_whole ["thing"]) (T : Txt K mg CS CC CW) : Cal P w K mg base 1 "is_whole" ["thing"] sp_is_whole := by
  refine D.cal sc_is_whole (fun vs H Q E h => ?_) (fun f cdv A outer s H vs Q E hr h => ?_)
  · obtain ⟨i, rfl, _⟩ := h; rfl
  · obtain ⟨i, rfl, q⟩ := h
    refine ⟨_, (pss_one (ps_ret (pe_and (pe_bf call_is T.isinstance (pa_cons (pv 0) (pa_cons (pe_ty (T := "int") T.int) pa_nil))) (pe_one (pe_not (pe_bf call_is T.isinstance (pa_cons (pv 0) (pa_cons (pe_ty (T := "bool") T.bool) pa_nil)))))))), ?_⟩
    refine ⟨_, rfl, _, _, _, rfl, .intInt i, true, rfl, iteT ?_⟩
    exact ⟨_, rfl, _, _, _, rfl, .intBool i, _, rfl, q⟩
abbrev s_is_from_to : Stmt := top 7
abbrev n_is_from_to : List Str := ["thing", "least", "most"]
theorem sc_is_from_to : FnScope n_is_from_to ["thing", "least", "most"] (defScope s_is_from_to) := ⟨rfl, rfl, rfl, by decide +kernel, rfl, by decide +kernel, by decide +kernel⟩

theorem ok_is_from_to (D : Def K mg "is_from_to" s_is_from_to ["thing", "least", "most"]) (c_is_whole : Cal P w K mg base 1 "is_whole" ["thing"] sp_is_whole) : Cal P w K mg base 2 "is_from_to" ["thing", "least", "most"] sp_is_from_to := by
  refine D.cal sc_is_from_to (fun vs H Q E h => ?_) (fun f cdv A outer s H vs Q E hr h => ?_)
  · obtain ⟨i, a, b, rfl, _⟩ := h; rfl
  · obtain ⟨i, a, b, rfl, ha, hb, q⟩ := h
    refine ⟨_, (pss_one (ps_ret (pe_and (pe_cal c_is_whole hr (pa_cons (pv 0) pa_nil)) (pe_one (pe_chain op_le op_le (pv 1) (pv 0) (pv 2)))))), ?_⟩
    refine ⟨_, rfl, _, rfl, true, rfl, iteT ?_⟩
    refine ⟨_, rfl, _, rfl, _, _, rfl, rfl, _, rfl, ?_⟩
    rw [decide_eq_true ha]
    refine iteT ⟨_, rfl, _, _, rfl, rfl, ?_⟩
    show Q (V.bl (decide (i ≤ b))) H
    rw [decide_eq_true hb]
    exact q
abbrev s_is_amount : Stmt := top 9
abbrev n_is_amount : List Str := ["thing"]
theorem sc_is_amount : FnScope n_is_amount ["thing"] (defScope s_is_amount) := ⟨rfl, rfl, rfl, by decide +kernel, rfl, by decide +kernel, by decide +kernel⟩

theorem ok_is_amount (D : Def K mg "is_amount" s_is_amount ["thing"]) (T : Txt K mg CS CC CW) (c_is_from_to : Cal P w K mg base 2 "is_from_to" ["thing", "least", "most"] sp_is_from_to) : Cal P w K mg base 3 "is_amount" ["thing"] sp_is_amount := by
  refine D.cal sc_is_amount (fun vs H Q E h => ?_) (fun f cdv A outer s H vs Q E hr h => ?_)
  · obtain ⟨i, rfl, _⟩ := h; rfl
  · obtain ⟨i, rfl, h0, h1, q⟩ := h
    refine ⟨_, (pss_one (ps_ret (pe_cal c_is_from_to hr (pa_cons (pv 0) (pa_cons pe_int (pa_cons (pe_const T.c_MOST_AMOUNT) pa_nil)))))), ?_⟩
    exact ⟨_, rfl, i, 0, 1000000000000, rfl, h0, h1, q⟩
abbrev s_is_day : Stmt := top 10
abbrev n_is_day : List Str := ["thing"]
theorem sc_is_day : FnScope n_is_day ["thing"] (defScope s_is_day) := ⟨rfl, rfl, rfl, by decide +kernel, rfl, by decide +kernel, by decide +kernel⟩

theorem ok_is_day (D : Def K mg "is_day" s_is_day ["thing"]) (T : Txt K mg CS CC CW) (c_is_from_to : Cal P w K mg base 2 "is_from_to" ["thing", "least", "most"] sp_is_from_to) : Cal P w K mg base 3 "is_day" ["thing"] sp_is_day := by
  refine D.cal sc_is_day (fun vs H Q E h => ?_) (fun f cdv A outer s H vs Q E hr h => ?_)
  · obtain ⟨i, rfl, _⟩ := h; rfl
  · obtain ⟨i, rfl, h0, h1, q⟩ := h
    refine ⟨_, (pss_one (ps_ret (pe_cal c_is_from_to hr (pa_cons (pv 0) (pa_cons pe_int (pa_cons (pe_const T.c_MOST_DAY) pa_nil)))))), ?_⟩
    exact ⟨_, rfl, i, 0, 1000000000, rfl, h0, h1, q⟩
abbrev s_step_days : Stmt := top 12
abbrev n_step_days : List Str := ["step"]
theorem sc_step_days : FnScope n_step_days ["step"] (defScope s_step_days) := ⟨rfl, rfl, rfl, by decide +kernel, rfl, by decide +kernel, by decide +kernel⟩

theorem ok_step_days (D : Def K mg "step_days" s_step_days ["step"]) (T : Txt K mg CS CC CW) : Cal P w K mg base 1 "step_days" ["step"] sp_step_days := by
  refine D.cal sc_step_days (fun vs H Q E h => ?_) (fun f cdv A outer s H vs Q E hr h => ?_)
  · obtain ⟨i, rfl, _⟩ := h; rfl
  · obtain ⟨k, rfl, q⟩ := h
    refine ⟨_, (pss_cons (ps_if (pt_val (pe_bf call_is T.isinstance (pa_cons (pv 0) (pa_cons (pe_ty (T := "str") T.str) pa_nil)))) (pss_one (ps_ret pe_int)) pss_nil)
      (pss_one (ps_ret (pv 0)))), ?_⟩
    cases k with
    | inl i => exact ⟨_, rfl, _, _, _, rfl, .intStr i, _, rfl, iteF ⟨_, rfl, q⟩⟩
    | inr x => exact ⟨_, rfl, _, _, _, rfl, .strStr x, _, rfl, iteT q⟩
end
end DG

namespace DG
open PySem L2
open PyProof.Rows (envOfC)
section
variable {P : Program} {w : World} {K : PySem.W.Frag} {mg : Str → Option Value} {base : Heap} {CS CC CW : Addr}
abbrev s_days_of : Stmt := top 13
abbrev n_days_of : List Str := ["steps", "step"]
theorem sc_days_of : FnScope n_days_of ["steps"] (defScope s_days_of) := ⟨rfl, rfl, rfl, by decide +kernel, rfl, by decide +kernel, by decide +kernel⟩

theorem ok_days_of (D : Def K mg "days_of" s_days_of ["steps"]) (T : Txt K mg CS CC CW) (c_step_days : Cal P w K mg base 1 "step_days" ["step"] sp_step_days) : Cal P w K mg base 2 "days_of" ["steps"] (sp_days_of K) := by
  refine D.cal sc_days_of (fun vs H Q E h => ?_) (fun f cdv A outer s H vs Q E hr h => ?_)
  · obtain ⟨a, ks, rfl, _⟩ := h; rfl
  · obtain ⟨a, ks, rfl, hS, hlen, q⟩ := h
    refine ⟨_, (pss_one (ps_ret (pe_bf (cr_sum rfl) T.sum (pa_cons (pe_lc (own := [("step", 1)]) (tt := tYes) rfl sc_days_of.nd (pi_list (pv 0)) (blkOk_by (N := n_days_of) (sc := defScope s_days_of) (by decide +kernel)) (fun _ _ _ _ _ => (pg_name (i := 1) sc_days_of.nd rfl (Or.inl rfl))) (fun _ _ _ _ _ => pts_nil) (fun _ _ _ _ _ => (pe_cal c_step_days hr (pa_cons (pv 1) pa_nil)))) pa_nil)))), ?_⟩
    refine ⟨_, rfl, a, rfl, ⟨_, SqL.of hS⟩, fun D hD => lc_list (K := K) (a := a) (xs := ks.map kV) (fun i H' => Same H H' ∧ H' D = some (.lst (((ks.take i).map stepDays).map V.int))) ⟨Same.new hD, upd_same⟩ (fun i H' _ h => SqL.of (h.1 _ _ hS)) ?_ ?_⟩
    · rintro i x H' hx ⟨e, hd⟩
      obtain ⟨k, hk, rfl⟩ := map_at hx
      refine ⟨rfl, _, rfl, k, rfl, _, hd, ?_, e.mut hD, ?_⟩
      · rw [List.length_map, List.length_map]
        have := take_le ks i
        exact szl (by omega)
      · rw [upd_same, map_snoc hk, List.map_append]
        rfl
    · rintro H' ⟨e, hd⟩
      rw [List.length_map, List.take_length] at hd
      exact ⟨D, ks.map stepDays, rfl, SqL.of hd, q _ e⟩
abbrev s_plain : Stmt := top 14
abbrev n_plain : List Str := ["steps", "found", "step"]
theorem sc_plain : FnScope n_plain ["steps"] (defScope s_plain) := ⟨rfl, rfl, rfl, by decide +kernel, rfl, by decide +kernel, by decide +kernel⟩

theorem ok_plain (D : Def K mg "plain" s_plain ["steps"]) (T : Txt K mg CS CC CW) : Cal P w K mg base 1 "plain" ["steps"] sp_plain := by
  refine D.cal sc_plain (fun vs H Q E h => ?_) (fun f cdv A outer s H vs Q E hr h => ?_)
  · obtain ⟨a, ks, rfl, _⟩ := h; rfl
  · obtain ⟨a, ks, rfl, hS, hlen, q⟩ := h
    refine ⟨_, (pss_cons (ps_set (i := 1) sc_plain.nd rfl (Or.inl rfl) (pe_lst pa_nil))
      (pss_cons (ps_for PassesOwn.never rfl (pi_list (pv 0)) (pg_name (i := 2) sc_plain.nd rfl (Or.inl rfl))
        (pss_one (ps_if (PW.pt (pw_and (pt_cmpR (op_neE hr.units0) (pv 1) (pe_lst pa_nil) (nomark _)) (pw_and (pt_not (pt_val (pe_bf call_is T.isinstance (pa_cons (pv 2) (pa_cons (pe_ty (T := "str") T.str) pa_nil))))) (pw_and1 (pt_not (pt_val (pe_bf call_is T.isinstance (pa_cons (pe_ix ix_list (pv 1) (pe_un un_neg pe_int) (fun _ _ => rfl)) (pa_cons (pe_ty (T := "str") T.str) pa_nil))))))))) (pss_one (ps_asg (pe_op op_add (pe_ix ix_list (pv 1) (pe_un un_neg pe_int) (fun _ _ => rfl)) (pv 2)) (pg_sub (pv 1) (pe_un un_neg pe_int) set_list))) (pss_one (ps_expr (pe_bm PySem.F.plainAttrs_list PySem.F.slot_list_append PySem.F.type_list_append mt_append (pv 1) (pa_cons (pv 2) pa_nil)))))))
      (pss_one (ps_ret (pv 1))))), ?_⟩
    refine ⟨Nat.zero_le _, fun l hl => ?_⟩
    refine ⟨_, rfl, a, rfl, ⟨_, SqL.of (Same.new hl _ _ hS)⟩, for_list (K := K) (a := a) (xs := ks.map kV) (fun i σ H' => ∃ v, σ = [some (.ref a), some (.ref l), v] ∧ Same H H' ∧ H' l = some (.lst (((ks.take i).foldl push []).map kV)))
      ⟨_, rfl, Same.new hl, upd_same⟩ (fun i σ H' _ ⟨_, _, e, _⟩ => SqL.of (e _ _ hS)) ?_ ?_⟩
    · rintro i x σ H' hx ⟨v, rfl, e, hd⟩
      obtain ⟨k, hk, rfl⟩ := map_at hx
      have hlen2 : ((ks.take i).foldl push []).length < 100000 := by
        have h1 := plain_len (ks.take i) []
        have h2 := take_le ks i
        simp at h1
        omega
      rw [foldl_snoc hk]
      generalize (ks.take i).foldl push [] = acc at hd hlen2 ⊢
      -- the item put behind
      have app : ∀ H1 : Hp, Same H' H1 → push acc k = acc ++ [k] → tDrop (tBM K "list" rAppend (tVar 1) (tCons (tVar 2) tNil)) { nx := fun σ H' => ∃ v, σ = [some (.ref a), some (.ref l), v] ∧ Same H H' ∧ H' l = some (.lst ((push acc k).map kV)), rt := Q, bk := fun _ _ => False, ct := fun _ _ => False } [some (.ref a), some (.ref l), some (kV k)] H1 := by
        intro H1 e1 ep
        refine ⟨_, rfl, .inl ⟨rfl, _, SqL.of (e1 _ _ hd)⟩, _, rfl, l, _, _, rfl, rfl, e1 _ _ hd, ?_, ?_⟩
        · rw [List.length_map]; exact szl (by omega)
        · exact ⟨_, rfl, (e.trans e1).mut hl, by rw [upd_same, ep, List.map_append]; rfl⟩
      refine ⟨_, rfl, Nat.zero_le _, fun z hz => ⟨l, z, acc.map kV, rfl, rfl, SqL.of (Same.new hz _ _ hd), SqL.of upd_same, _, rfl, ?_⟩⟩
      have ez : Same H' (upd H' z (.lst [])) := Same.new hz
      cases hl2 : acc.getLast? with
      | none =>
        have e0 : acc = [] := List.getLast?_eq_none_iff.mp hl2
        subst e0
        exact app _ ez rfl
      | some y =>
        have e0 := last_of hl2
        have hne : (!(acc.map kV).isEmpty) = true := by rw [e0]; simp
        show if (!(acc.map kV).isEmpty) = true then _ else _
        rw [if_pos hne]
        have hat : atI (acc.map kV) (-1) = some (kV y) := atI_m1 (by rw [List.getLast?_map, hl2]; rfl)
        have hd1 := ez _ _ hd
        cases k with
        | inr x => exact ⟨_, rfl, _, _, _, rfl, .strStr x, _, rfl, app _ ez (push_str acc x)⟩
        | inl b =>
          refine ⟨_, rfl, _, _, _, rfl, .intStr b, _, rfl, ?_⟩
          cases y with
          | inr x => exact ⟨_, rfl, _, rfl, l, _, _, _, rfl, rfl, SqL.of hd1, hat, _, _, _, rfl, .strStr x, _, rfl, app _ ez (push_last hl2 _)⟩
          | inl a0 =>
            refine ⟨_, rfl, _, rfl, l, _, _, _, rfl, rfl, SqL.of hd1, hat, _, _, _, rfl, .intStr a0, _, rfl, ?_⟩
            refine ⟨_, rfl, _, rfl, l, _, _, _, rfl, rfl, SqL.of hd1, hat, _, rfl, a0, b, rfl, rfl, _, rfl, _, rfl, l, _, _, (acc.dropLast.map kV).length, rfl, rfl, hd1, ?_, ?_⟩
            · rw [e0, List.map_append, List.dropLast_concat]
              exact ixN_m1 _ _
            · refine ⟨_, rfl, (e.trans ez).mut hl, ?_⟩
              rw [upd_same, push_add hl2]
              rw [e0, List.map_append, List.dropLast_concat, List.map_append]
              exact congrArg (fun z => some (HO.lst z)) set_last
    · rintro σ H' ⟨v, rfl, e, hd⟩
      rw [List.length_map, List.take_length] at hd
      exact ⟨_, rfl, q _ _ e hl hd⟩
end
end DG

namespace DG
open PySem L2
open PyProof.Rows (envOfC)
section
variable {P : Program} {w : World} {K : PySem.W.Frag} {mg : Str → Option Value} {base : Heap} {CS CC CW : Addr}
abbrev s_cut : Stmt := top 15
abbrev n_cut : List Str := ["steps", "days", "found", "rest", "step"]
theorem sc_cut : FnScope n_cut ["steps", "days"] (defScope s_cut) := ⟨rfl, rfl, rfl, by decide +kernel, rfl, by decide +kernel, by decide +kernel⟩

theorem ok_cut (D : Def K mg "cut" s_cut ["steps", "days"]) (T : Txt K mg CS CC CW) (c_step_days : Cal P w K mg base 1 "step_days" ["step"] sp_step_days) (c_plain : Cal P w K mg base 1 "plain" ["steps"] sp_plain) : Cal P w K mg base 2 "cut" ["steps", "days"] sp_cut := by
  refine D.cal sc_cut (fun vs H Q E h => ?_) (fun f cdv A outer s H vs Q E hr h => ?_)
  · obtain ⟨a, ks, d, rfl, _⟩ := h; rfl
  · obtain ⟨a, ks, d, rfl, hS, hlen, h1, d0, d1, q⟩ := h
    refine ⟨_, (pss_cons (ps_set (i := 2) sc_cut.nd rfl (Or.inl rfl) (pe_lst pa_nil))
      (pss_cons (ps_set (i := 3) sc_cut.nd rfl (Or.inl rfl) (pv 1))
      (pss_cons (ps_for PassesOwn.never rfl (pi_list (pv 0)) (pg_name (i := 4) sc_cut.nd rfl (Or.inl rfl))
        (pss_cons (ps_if (PW.pt (pw_and (pt_cmpR op_gt (pv 3) pe_int (nomark _)) (pw_and1 (pt_val (pe_bf call_is T.isinstance (pa_cons (pv 4) (pa_cons (pe_ty (T := "str") T.str) pa_nil))))))) (pss_one (ps_expr (pe_bm PySem.F.plainAttrs_list PySem.F.slot_list_append PySem.F.type_list_append mt_append (pv 2) (pa_cons (pv 4) pa_nil)))) (pss_one (ps_if (pt_cmpR op_gt (pv 3) pe_int (nomark _)) (pss_one (ps_expr (pe_bm PySem.F.plainAttrs_list PySem.F.slot_list_append PySem.F.type_list_append mt_append (pv 2) (pa_cons (pe_bf (call_min2 rfl) T.min (pa_cons (pv 4) (pa_cons (pv 3) pa_nil))) pa_nil)))) pss_nil)))
      (pss_one (ps_set (i := 3) sc_cut.nd rfl (Or.inl rfl) (pe_op op_sub (pv 3) (pe_bf (call_min2 rfl) T.min (pa_cons (pv 3) (pa_cons (pe_cal c_step_days hr (pa_cons (pv 4) pa_nil)) pa_nil))))))))
      (pss_cons (ps_if (pt_cmpR op_gt (pv 3) pe_int (nomark _)) (pss_one (ps_ret pe_non)) pss_nil)
      (pss_one (ps_ret (pe_cal c_plain hr (pa_cons (pv 2) pa_nil)))))))), ?_⟩
    refine ⟨Nat.zero_le _, fun l hl => ?_⟩
    refine ⟨_, rfl, _, rfl, a, rfl, ⟨_, SqL.of (Same.new hl _ _ hS)⟩, for_list (K := K) (a := a) (xs := ks.map kV) (fun i σ H' => ∃ v, σ = [some (.ref a), some (.int d), some (.ref l), some (.int ((ks.take i).foldl cutTurn ([], d)).2), v] ∧ Same H H' ∧ H' l = some (.lst (((ks.take i).foldl cutTurn ([], d)).1.map kV)))
      ⟨_, rfl, Same.new hl, upd_same⟩ (fun i σ H' _ ⟨_, _, e, _⟩ => SqL.of (e _ _ hS)) ?_ ?_⟩
    · rintro i x σ H' hx ⟨v, rfl, e, hd⟩
      obtain ⟨k, hk, rfl⟩ := map_at hx
      have hlen2 : ((ks.take i).foldl cutTurn ([], d)).1.length < 100000 := by
        have h1 := cut_len (ks.take i) ([], d)
        have h2 := take_le ks i
        simp at h1
        omega
      rw [foldl_snoc hk]
      generalize (ks.take i).foldl cutTurn ([], d) = st at hd hlen2 ⊢
      obtain ⟨acc, r⟩ := st
      dsimp only at hd hlen2 ⊢
      refine seq_mid (fun σ' H1 => σ' = [some (.ref a), some (.int d), some (.ref l), some (.int r), some (kV k)] ∧ Same H H1 ∧ H1 l = some (.lst ((cutTurn (acc, r) k).1.map kV))) ?_ fun N hN => ?_
      · rintro σ' H1 ⟨rfl, e1, hd1⟩
        exact ⟨_, rfl, _, rfl, _, rfl, k, rfl, _, _, rfl, _, _, rfl, rfl, _, rfl, e1, hd1⟩
      · have e1 : (cutTurn (acc, r) k).1 = if 0 < r then acc ++ [cutOne r k] else acc := rfl
        refine ⟨_, rfl, _, _, rfl, rfl, _, rfl, ?_⟩
        by_cases hr0 : 0 < r
        · rw [decide_eq_true hr0]
          rw [if_pos hr0] at e1
          cases k with
          | inr x =>
            refine ⟨_, rfl, _, _, _, rfl, .strStr x, _, rfl, ?_⟩
            refine ⟨_, rfl, .inl ⟨rfl, _, SqL.of hd⟩, _, rfl, l, _, _, rfl, rfl, hd, ?_, hN _ _ ⟨rfl, e.mut hl, ?_⟩⟩
            · rw [List.length_map]; exact szl (by omega)
            · rw [upd_same, e1, List.map_append]; rfl
          | inl n =>
            refine ⟨_, rfl, _, _, _, rfl, .intStr n, _, rfl, ?_⟩
            refine ⟨_, rfl, _, _, rfl, rfl, _, rfl, ?_⟩
            rw [decide_eq_true hr0]
            refine iteT ⟨_, rfl, .inl ⟨rfl, _, SqL.of hd⟩, _, rfl, _, rfl, _, _, rfl, l, _, _, rfl, rfl, hd, ?_, hN _ _ ⟨rfl, e.mut hl, ?_⟩⟩
            · rw [List.length_map]; exact szl (by omega)
            · rw [upd_same, e1, List.map_append]; rfl
        · rw [decide_eq_false hr0]
          rw [if_neg hr0] at e1
          refine ⟨_, rfl, _, _, rfl, rfl, _, rfl, ?_⟩
          rw [decide_eq_false hr0]
          exact hN _ _ ⟨rfl, e, by rw [e1]; exact hd⟩
    · rintro σ H' ⟨v, rfl, e, hd⟩
      have ez := cut_zero h1 d0 d1
      have hl2 := cut_len ks ([], d)
      rw [List.length_map, List.take_length] at hd ⊢
      unfold cutFold at ez
      refine ⟨_, rfl, _, _, rfl, rfl, _, rfl, ?_⟩
      rw [ez]
      refine ⟨_, rfl, l, _, rfl, hd, by simp at hl2; omega, fun l2 H2 e2 n2 s2 => q l2 H2 (e.trans e2) (e.none n2) s2⟩
abbrev s_joined : Stmt := top 16
abbrev n_joined : List Str := ["one", "other"]
theorem sc_joined : FnScope n_joined ["one", "other"] (defScope s_joined) := ⟨rfl, rfl, rfl, by decide +kernel, rfl, by decide +kernel, by decide +kernel⟩

theorem ok_joined (D : Def K mg "joined" s_joined ["one", "other"]) (T : Txt K mg CS CC CW) (c_plain : Cal P w K mg base 1 "plain" ["steps"] sp_plain) : Cal P w K mg base 2 "joined" ["one", "other"] sp_joined := by
  refine D.cal sc_joined (fun vs H Q E h => ?_) (fun f cdv A outer s H vs Q E hr h => ?_)
  · obtain ⟨a, b, ks, ms, rfl, _⟩ := h; rfl
  · obtain ⟨a, b, ks, ms, rfl, ha, hb, h1, h2, q⟩ := h
    refine ⟨_, (pss_one (ps_ret (pe_cal c_plain hr (pa_cons (pe_op op_cat (pe_bc call_list_of T.list (pa_cons (pv 0) pa_nil)) (pe_bc call_list_of T.list (pa_cons (pv 1) pa_nil))) pa_nil)))), ?_⟩
    refine ⟨_, rfl, a, _, rfl, .inl (SqL.of ha), fun x hx => ?_⟩
    refine ⟨_, rfl, b, _, rfl, .inl (SqL.of (Same.new hx _ _ hb)), fun y hy => ?_⟩
    have e1 : Same H (upd H x (.lst (ks.map kV))) := Same.new hx
    have e2 := Same.trans e1 (Same.new (o := .lst (ms.map kV)) hy)
    refine ⟨x, y, _, _, rfl, rfl, Same.new hy _ _ upd_same, upd_same, ?_, fun z hz => ?_⟩
    · rw [List.length_map, List.length_map]; exact szle (by omega)
    · refine ⟨z, ks ++ ms, rfl, ?_, by rw [List.length_append]; omega, fun l2 H2 e3 n2 s2 => q l2 H2 ((e2.trans (Same.new hz)).trans e3) ((e2.trans (Same.new hz)).none n2) s2⟩
      show upd _ z _ z = _
      rw [upd_same, List.map_append]
end
end DG

namespace DG
open PySem L2
open PyProof.Rows (envOfC)
section
variable {P : Program} {w : World} {K : PySem.W.Frag} {mg : Str → Option Value} {base : Heap} {CS CC CW : Addr}
abbrev s_taken_on : Stmt := top 20
abbrev n_taken_on : List Str := ["day", "steps", "turn", "ahead", "found"]
theorem sc_taken_on : FnScope n_taken_on ["day", "steps", "turn"] (defScope s_taken_on) := ⟨rfl, rfl, rfl, by decide +kernel, rfl, by decide +kernel, by decide +kernel⟩

theorem ok_taken_on (D : Def K mg "taken_on" s_taken_on ["day", "steps", "turn"]) (T : Txt K mg CS CC CW) (c_cut : Cal P w K mg base 2 "cut" ["steps", "days"] sp_cut) (c_joined : Cal P w K mg base 2 "joined" ["one", "other"] sp_joined) (c_is_day : Cal P w K mg base 3 "is_day" ["thing"] sp_is_day) (c_days_of : Cal P w K mg base 2 "days_of" ["steps"] (sp_days_of K)) : Cal P w K mg base 4 "taken_on" ["day", "steps", "turn"] sp_taken_on := by
  refine D.cal sc_taken_on (fun vs H Q E h => ?_) (fun f cdv A outer s H vs Q E hr h => ?_)
  · obtain ⟨day, a, t, o, i, ks, z, own, rfl, _⟩ := h; rfl
  · obtain ⟨day, a, t, o, i, ks, z, own, rfl, hS, ht, ho, hl1, hl2, p1, hz, hd, b0, b1, q⟩ := h
    refine ⟨_, (pss_cons (ps_if (pt_cmpR op_le (pe_ix ix_tup (pv 2) pe_int (fun _ _ => rfl)) (pv 0) (nomark _)) (pss_one (ps_ret pe_non)) pss_nil)
      (pss_cons (ps_set (i := 3) sc_taken_on.nd rfl (Or.inl rfl) (pe_cal c_cut hr (pa_cons (pv 1) (pa_cons (pe_op op_sub (pe_op op_sub (pe_ix ix_tup (pv 2) pe_int (fun _ _ => rfl)) (pv 0)) pe_int) pa_nil))))
      (pss_cons (ps_if (pt_cmpR op_isN (pv 3) pe_non (nomark _)) (pss_one (ps_ret pe_non)) pss_nil)
      (pss_cons (ps_set (i := 4) sc_taken_on.nd rfl (Or.inl rfl) (pe_cal c_joined hr (pa_cons (pv 3) (pa_cons (pe_ix ix_tup (pv 2) pe_int (fun _ _ => rfl)) pa_nil))))
      (pss_cons (ps_if (pt_not (pt_val (pe_cal c_is_day hr (pa_cons (pe_op op_add (pv 0) (pe_cal c_days_of hr (pa_cons (pv 4) pa_nil))) pa_nil)))) (pss_one (ps_ret pe_non)) pss_nil)
      (pss_one (ps_ret (pv 4)))))))), ?_⟩
    refine ⟨_, rfl, t, _, _, _, rfl, rfl, SqT.of ht, rfl, _, rfl, _, _, rfl, rfl, _, rfl, ?_⟩
    rw [decide_eq_false (by omega)]
    refine iteF ?_
    refine ⟨_, rfl, _, rfl, t, _, _, _, rfl, rfl, SqT.of ht, rfl, _, rfl, _, _, rfl, rfl, _, _, rfl, rfl, a, ks, _, rfl, hS, by omega, p1, by omega, hd, fun l1 H1 e1 n1 s1 => ?_⟩
    refine ⟨_, rfl, rfl, _, rfl, ite2 (fun c => absurd c (by simp)) fun _ => ?_⟩
    have hc := cutK_len ks (z - day - 1)
    refine ⟨_, rfl, _, rfl, t, _, _, _, rfl, rfl, SqT.of (e1 _ _ ht), rfl, l1, o, _, _, rfl, s1, ho.mono e1, by omega, by omega, fun l2 H2 e2 n2 s2 => ?_⟩
    have ht2 := takeOn_len ks own (z - day - 1)
    refine ⟨_, rfl, _, rfl, l2, _, rfl, s2, ?_, fun H3 e3 => ?_⟩
    · unfold takeOn at ht2
      omega
    · refine ⟨_, _, rfl, rfl, _, rfl, b0, b1, true, rfl, ?_⟩
      exact ⟨_, rfl, q l2 H3 ((e1.trans e2).trans e3) (e1.none n2) (s2.mono e3)⟩
end
end DG

namespace DG
open PySem L2
open PyProof.Rows (envOfC)
section
variable {P : Program} {w : World} {K : PySem.W.Frag} {mg : Str → Option Value} {base : Heap} {CS CC CW : Addr}
abbrev s_folded : Stmt := top 21
abbrev n_folded : List Str := ["day", "turns", "steps", "words", "start", "key", "at", "turn", "found"]
theorem sc_folded : FnScope n_folded ["day", "turns"] (defScope s_folded) := ⟨rfl, rfl, rfl, by decide +kernel, rfl, by decide +kernel, by decide +kernel⟩

theorem ok_folded (D : Def K mg "folded" s_folded ["day", "turns"]) (T : Txt K mg CS CC CW) (c_taken_on : Cal P w K mg base 4 "taken_on" ["day", "steps", "turn"] sp_taken_on) : Cal P w K mg base 5 "folded" ["day", "turns"] sp_folded := by
  refine D.cal sc_folded (fun vs H Q E h => ?_) (fun f cdv A outer s H vs Q E hr h => ?_)
  · obtain ⟨day, a, Ts, rfl, _⟩ := h; rfl
  · obtain ⟨day, a, Ts, rfl, hT, ch, d0, d1, q⟩ := h
    refine ⟨_, (pss_cons (ps_set (i := 2) sc_folded.nd rfl (Or.inl rfl) (pe_lst pa_nil))
      (pss_cons (ps_set (i := 3) sc_folded.nd rfl (Or.inl rfl) (pe_lst pa_nil))
      (pss_cons (ps_for PassesOwn.never rfl (pi_list (pe_bf (cr_sortT (d := 3) (B := tB) (by decide)) T.sorted (pa_cons (pe_lc (own := [("at", 6), ("turn", 7)]) (g := (gTup K 2 (gCons (gName 6) (gCons (gName 7) gNil)))) (te := (tTup (tCons (tOp (rIxT K) _ _) (tCons (tOp (rIxT K) _ _) (tCons _ tNil))))) (tt := tYes) rfl sc_folded.nd (pi_enum (by rfl) T.enumerate (pa_cons (pv 1) pa_nil)) (blkOk_by (N := n_folded) (sc := defScope s_folded) (by decide +kernel)) (fun _ _ _ _ _ => (pg_tup rfl (pgs_cons (pg_name (i := 6) sc_folded.nd rfl (Or.inl rfl)) (pgs_cons (pg_name (i := 7) sc_folded.nd rfl (Or.inl rfl)) pgs_nil)))) (fun _ _ _ _ _ => pts_nil) (fun _ _ _ _ _ => (pe_tup (pa_cons (pe_ix ix_tup (pv 7) pe_int (fun _ _ => rfl)) (pa_cons (pe_ix ix_tup (pv 7) pe_int (fun _ _ => rfl)) (pa_cons (pv 6) pa_nil)))))) pa_nil))) (pg_tup rfl (pgs_cons (pg_name (i := 4) sc_folded.nd rfl (Or.inl rfl)) (pgs_cons (pg_name (i := 5) sc_folded.nd rfl (Or.inl rfl)) (pgs_cons (pg_name (i := 6) sc_folded.nd rfl (Or.inl rfl)) pgs_nil))))
        (pss_cons (ps_set (i := 8) sc_folded.nd rfl (Or.inl rfl) (pe_cal c_taken_on hr (pa_cons (pv 0) (pa_cons (pv 2) (pa_cons (pe_ix ix_list (pv 1) (pv 6) (fun _ _ => rfl)) pa_nil)))))
      (pss_one (ps_if (pt_cmpR op_isN (pv 8) pe_non (nomark _)) (pss_one (ps_expr (pe_bm PySem.F.plainAttrs_list PySem.F.slot_list_append PySem.F.type_list_append mt_append (pv 3) (pa_cons (pe_tup (pa_cons (pv 5) (pa_cons pe_str pa_nil))) pa_nil)))) (pss_cons (ps_set (i := 2) sc_folded.nd rfl (Or.inl rfl) (pv 8))
      (pss_one (ps_expr (pe_bm PySem.F.plainAttrs_list PySem.F.slot_list_append PySem.F.type_list_append mt_append (pv 3) (pa_cons (pe_tup (pa_cons (pv 5) (pa_cons pe_str pa_nil))) pa_nil)))))))))
      (pss_one (ps_ret (pe_tup (pa_cons (pv 2) (pa_cons (pv 3) pa_nil)))))))), ?_⟩
    obtain ⟨xs, ha, hxl, hx⟩ := hT
    have hT5 := ch.len
    refine ⟨Nat.zero_le _, fun l0 hl0 => ⟨Nat.zero_le _, fun lw hlw => ?_⟩⟩
    have e1 : Same H (upd H l0 (.lst [])) := Same.new hl0
    have e2 := Same.new (o := .lst []) hlw
    generalize hH2 : upd (upd H l0 (.lst [])) lw (.lst []) = H2 at e2 ⊢
    have e02 : Same H H2 := e1.trans e2
    have hlw0 : H lw = none := e1.none hlw
    have hsl : H2 l0 = some (.lst []) := e2 _ _ upd_same
    have hlw2 : H2 lw = some (.lst []) := by rw [← hH2, upd_same]
    have hne : l0 ≠ lw := ne_of_none upd_same hlw
    -- the triples
    refine ⟨_, rfl, a, xs, rfl, SqL.of (e02 _ _ ha), fun D hD => lc_it (walk_enum (K := K) (a := a) (xs := xs)) (fun i H' => Same H2 H' ∧ ∃ ts, H' D = some (.lst ts) ∧ ts.length = i ∧ ∀ j t x, Ts[j]? = some t → ts[j]? = some x → TupAt H' ((tri j t.1).map V.int) x)
      ⟨Same.new hD, [], upd_same, rfl, fun j t x _ h => by simp at h⟩ (fun i H' _ h => SqL.of (h.1 _ _ (e02 _ _ ha))) ?_ ?_⟩
    · rintro i x H' H'' hi ⟨e, ts, hd, hl, ht⟩ ⟨tt, y, z, rfl, hnt, rfl, hy, hz⟩
      cases hy
      obtain ⟨t, hti⟩ : ∃ t, Ts[i]? = some t := ⟨Ts[i]'(by omega), List.getElem?_eq_getElem _⟩
      obtain ⟨o, ⟨c, rfl, hc⟩, ho⟩ := hx i t z hti hz
      have e' : Same H' (upd H' tt (.tup [.int (i : Int), .ref c])) := Same.new hnt
      have hc' := (e02.trans (e.trans e')) _ _ hc
      refine ⟨tt, _, rfl, SqT.of upd_same, rfl, _, _, rfl, _, _, rfl, rfl, rfl, ?_⟩
      refine ⟨_, rfl, c, _, _, _, rfl, rfl, SqT.of hc', rfl, _, rfl, c, _, _, _, rfl, rfl, SqT.of hc', rfl, _, rfl, szle (by simp), fun p hp => ?_⟩
      have hd' : (upd (upd H' tt (.tup [.int (i : Int), .ref c])) p (.tup [.int t.1, .int ((i : Int) + 1), .int (i : Int)])) D = some (.lst ts) := Same.new hp _ _ (e' _ _ hd)
      have e'' := e'.trans (Same.new (o := .tup [.int t.1, .int ((i : Int) + 1), .int (i : Int)]) hp)
      refine ⟨ts, hd', szl (by omega), (e.trans e'').mut hD, ts ++ [.ref p], upd_same, by rw [List.length_append]; simp [hl], fun j t2 x h1 h2 => ?_⟩
      have npD : p ≠ D := fun h => by rw [h, e' _ _ hd] at hp; cases hp
      by_cases hj : j < ts.length
      · rw [List.getElem?_append_left hj] at h2
        obtain ⟨u, hu, hu2⟩ := ht j t2 x h1 h2
        refine ⟨u, hu, ?_⟩
        rw [upd_ne (ne_of hu2 hd (by intro z; cases z))]
        exact e'' _ _ hu2
      · rw [List.getElem?_append_right (by omega)] at h2
        have hj2 := at_lt h2
        simp at hj2
        have hji : j = i := by omega
        subst hji
        rw [hti] at h1
        cases h1
        have h3 : [V.ref p][j - ts.length]? = some x := h2
        rw [show j - ts.length = 0 by omega] at h3
        cases h3
        exact ⟨p, rfl, by rw [upd_ne npD]; exact upd_same⟩
    · rintro H4 ⟨e4, ts, hd, hl, ht⟩
      have hst : ∀ (j : Nat) (t : Turn'), Ts[j]? = some t → 0 ≤ t.1 ∧ t.1 < 10000000000 := fun j t h => by
        obtain ⟨t1, t2⟩ := t
        obtain ⟨h1, h2, _⟩ := ch.at_ j t1 t2 h
        have hj := at_lt h
        obtain ⟨_, h4, _⟩ := chain_ok ch j (by omega)
        refine ⟨by show 0 ≤ t1; omega, by show t1 < _; omega⟩
      have at_ : ∀ (j : Nat) (x : V), ts[j]? = some x → ∃ t, Ts[j]? = some t ∧ TupAt H4 ((tri j t.1).map V.int) x := fun j x h => by
        have hj := at_lt h
        obtain ⟨t, hti⟩ : ∃ t, Ts[j]? = some t := ⟨Ts[j]'(by omega), List.getElem?_eq_getElem _⟩
        exact ⟨t, hti, ht j t x hti h⟩
      refine ⟨D, ts, rfl, SqL.of hd, by omega, fun x hx2 => ?_, fun ys p hperm hpw hp => ?_⟩
      · obtain ⟨j, hj⟩ := List.getElem?_of_mem hx2
        obtain ⟨t, hti, u, hu, hu2⟩ := at_ j x hj
        obtain ⟨b0, b1⟩ := hst j t hti
        have := at_lt hti
        exact ⟨tri j t.1, ⟨u, hu, SqT.of hu2⟩, rfl, tri_bd b0 b1 (by omega)⟩
      · have hys : ys = ts := by
          refine sorted_same hperm ?_ hpw
          rw [List.pairwise_iff_getElem]
          intro i j hi hj hij hR
          obtain ⟨t, h1, u, hu, hu2⟩ := at_ i _ (List.getElem?_eq_getElem hi)
          obtain ⟨t', h1', u', hu', hu2'⟩ := at_ j _ (List.getElem?_eq_getElem hj)
          have h3 := hR _ _ ⟨u', hu', SqT.of hu2'⟩ ⟨u, hu, SqT.of hu2⟩
          have h4 := tri_lt hij (ch.up i j t.1 t.2 t'.1 t'.2 (Nat.le_of_lt hij) h1 h1')
          omega
        subst hys
        -- the walk over them
        have e5 := Same.new (o := .lst ys) hp
        generalize hH5 : upd H4 p (.lst ys) = H5 at e5 ⊢
        have hp5 : H5 p = some (.lst ys) := by rw [← hH5, upd_same]
        have e25 : Same H2 H5 := e4.trans e5
        have e05 : Same H (del lw H5) := (e02.trans e25).del_r hlw0
        have hnp : p ≠ lw := fun h => by
          have := e4 _ _ hlw2
          rw [← h, hp] at this
          cases this
        refine ⟨p, rfl, ⟨ys, SqL.of hp5⟩, for_list (K := K) (a := p) (xs := ys) (fun i σ H' => ∃ v4 v5 v6 v7 v8 sl ws, σ = [some (.int day), some (.ref a), some (.ref sl), some (.ref lw), v4, v5, v6, v7, v8] ∧ Same (del lw H5) H' ∧ StepsAt H' sl (foldT day (Ts.take i)) ∧ sl ≠ lw ∧ H' lw = some (.lst ws) ∧ Paired (TupAt H') ((List.range i).map wordV) ws)
          ⟨_, _, _, _, _, l0, [], rfl, Same.del_l, e25 _ _ hsl, hne, e25 _ _ hlw2, .nil⟩ (fun i σ H' _ ⟨_, _, _, _, _, _, _, _, e, _⟩ => SqL.of (e _ _ (by rw [del_ne hnp]; exact hp5))) ?_ ?_⟩
        · rintro i x σ H' hx2 ⟨v4, v5, v6, v7, v8, sl, ws, rfl, e, hS, hne2, hw, hpw2⟩
          obtain ⟨t, hti, u, rfl, hu2⟩ := at_ i x hx2
          obtain ⟨z, own⟩ := t
          have hi := at_lt hti
          have hu3 : H' u = some (.tup ((tri i z).map V.int)) := e _ _ (by rw [del_ne (ne_of hu2 (e4 _ _ hlw2) (by intro q; cases q))]; exact e5 _ _ hu2)
          have he0 : Same H H' := e05.trans e
          obtain ⟨c, hci⟩ : ∃ c, xs[i]? = some c := ⟨xs[i]'(by omega), List.getElem?_eq_getElem _⟩
          obtain ⟨o, ⟨tt, rfl, htt⟩, hO⟩ := hx i (z, own) c hti hci
          obtain ⟨a1, a2, a3, a4⟩ := ch.at_ i z own hti
          obtain ⟨c1, c2, c3⟩ := chain_ok ch i (by omega)
          obtain ⟨o1, o2⟩ := own_days a3
          obtain ⟨n1, n2, n3⟩ := chain_ok ch (i + 1) (by omega)
          rw [foldT_snoc hti] at n1 n2 n3
          have nn := n1.nonneg
          refine ⟨u, _, rfl, SqT.of hu3, rfl, _, _, rfl, _, _, rfl, _, _, rfl, rfl, ?_⟩
          refine ⟨_, rfl, _, rfl, _, rfl, _, rfl, a, xs, _, _, rfl, rfl, SqL.of (he0 _ _ ha), atI_nat hci, day, sl, tt, o, i, _, z, own, rfl, hS, he0 _ _ htt, hO.mono he0, by omega, by omega, c1, a1, a2, by omega, by omega, fun l2 H6 e6 l2n s6 => ?_⟩
          refine ⟨_, rfl, rfl, _, rfl, ite2 (fun c => absurd c (by simp)) fun _ => ?_⟩
          have hw6 := e6 _ _ hw
          refine ⟨_, rfl, _, rfl, .inl ⟨rfl, _, SqL.of hw6⟩, _, rfl, szle (by simp), fun y hy => ?_⟩
          have ey := Same.new (o := .tup [.int ((i : Int) + 1), .str "stands"]) hy
          have hlw6 : lw ≠ y := ne_of_none hw6 hy
          have hwl := paired_len hpw2
          rw [List.length_map, List.length_range] at hwl
          refine ⟨lw, ws, _, rfl, rfl, ey _ _ hw6, szl (by omega), ?_⟩
          have hl2 : l2 ≠ lw := fun h => by rw [h, hw] at l2n; cases l2n
          have e7 : Same (del lw H5) (upd (upd H6 y (.tup [.int ((i : Int) + 1), .str "stands"])) lw (.lst (ws ++ [.ref y]))) := ((e.trans e6).trans ey).mut del_same
          have e8 : Same (del lw (upd H6 y (.tup [.int ((i : Int) + 1), .str "stands"]))) (upd (upd H6 y (.tup [.int ((i : Int) + 1), .str "stands"])) lw (.lst (ws ++ [.ref y]))) := Same.del_l.mut del_same
          refine ⟨_, _, _, _, _, l2, ws ++ [.ref y], rfl, e7, ?_, hl2, upd_same, ?_⟩
          · rw [foldT_snoc hti]
            exact StepsAt.mono e8 (by unfold StepsAt; rw [del_ne hl2]; exact ey _ _ s6)
          · rw [List.range_succ, List.map_append]
            have e9 : Same (del lw H') (upd (upd H6 y (.tup [.int ((i : Int) + 1), .str "stands"])) lw (.lst (ws ++ [.ref y]))) := (Same.del_l.trans (e6.trans ey)).mut del_same
            have p9 : Paired (TupAt (del lw H')) ((List.range i).map wordV) ws := Paired.mapP hpw2 fun d v ⟨t, h1, h2⟩ => ⟨t, h1, by rw [del_ne (ne_of h2 hw (by intro q; cases q))]; exact h2⟩
            exact paired_snoc ⟨y, rfl, by rw [upd_ne hlw6.symm]; exact upd_same⟩ (tups_mono e9 p9)
        · rintro σ H' ⟨v4, v5, v6, v7, v8, sl, ws, rfl, e, hS, hne2, hw, hpw2⟩
          rw [hl] at hS hpw2
          refine ⟨_, rfl, _, rfl, szle (by simp), fun y hy => ?_⟩
          have ey := Same.new (o := .tup [.ref sl, .ref lw]) hy
          refine q y sl lw _ ((e05.trans e).trans ey) upd_same ?_ ⟨ws, ey _ _ hw, ?_⟩
          · rw [List.take_of_length_le (by omega)] at hS
            exact hS.mono ey
          · rw [← hxl]
            exact tups_mono ey hpw2
end
end DG

namespace DG
open PySem L2
open PyProof.Rows (envOfC)
section
variable {P : Program} {w : World} {K : PySem.W.Frag} {mg : Str → Option Value} {base : Heap} {CS CC CW : Addr}
abbrev s_is_name : Stmt := top 8
abbrev n_is_name : List Str := ["thing", "sign"]
theorem sc_is_name : FnScope n_is_name ["thing"] (defScope s_is_name) := ⟨rfl, rfl, rfl, by decide +kernel, rfl, by decide +kernel, by decide +kernel⟩

theorem ok_is_name (D : Def K mg "is_name" s_is_name ["thing"]) (T : Txt K mg CS CC CW) : Cal P w K mg base 1 "is_name" ["thing"] sp_is_name := by
  refine D.cal sc_is_name (fun vs H Q E h => ?_) (fun f cdv A outer s H vs Q E hr h => ?_)
  · obtain ⟨x, rfl, _⟩ := h; rfl
  · obtain ⟨x, rfl, ⟨h1, h2, h3⟩, q⟩ := h
    refine ⟨_, (pss_cons (ps_if (PW.pt (pw_or (pt_not (pt_val (pe_bf call_is T.isinstance (pa_cons (pv 0) (pa_cons (pe_ty (T := "str") T.str) pa_nil))))) (pw_or1 (pt_not (pt_chain op_le op_le pe_int (pe_bf call_len_str T.len (pa_cons (pv 0) pa_nil)) (pe_const T.c_LONGEST)))))) (pss_one (ps_ret pe_bl)) pss_nil)
      (pss_one (ps_ret (pe_bf (cr_all rfl) T.all (pa_cons (pe_lc (own := [("sign", 1)]) (tt := tYes) rfl sc_is_name.nd (pi_str (pv 0)) (blkOk_by (N := n_is_name) (sc := defScope s_is_name) (by decide +kernel)) (fun _ _ _ _ _ => (pg_name (i := 1) sc_is_name.nd rfl (Or.inl rfl))) (fun _ _ _ _ _ => pts_nil) (fun _ _ _ _ _ => (pe_cmpR op_in_sign (pv 1) (pe_const T.c_LETTERS) rfl))) pa_nil))))), ?_⟩
    refine ⟨_, rfl, _, _, _, rfl, .strStr x, _, rfl, ?_⟩
    refine ⟨_, rfl, x, rfl, szle (by omega), _, _, rfl, rfl, _, rfl, ?_⟩
    rw [decide_eq_true (show (1 : Int) ≤ (x.length : Int) by omega)]
    refine ⟨_, _, rfl, rfl, _, rfl, ?_⟩
    rw [decide_eq_true (show (x.length : Int) ≤ 8 by omega)]
    refine ⟨_, rfl, x, rfl, fun D hD => lc_it walk_str (fun i H' => Same H H' ∧ H' D = some (.lst ((List.replicate i true).map V.bl))) ⟨Same.new hD, upd_same⟩ (fun _ _ _ _ => trivial) ?_ ?_⟩
    · rintro i v H' H'' hi ⟨e, hd⟩ ⟨rfl, c, hc, rfl⟩
      have hc2 : c ∈ letters.cps.toList := h3 c (Array.mem_toList_iff.mpr (Array.mem_of_getElem? hc))
      refine ⟨rfl, _, rfl, c, letters, rfl, rfl, ?_⟩
      rw [decide_eq_true hc2]
      refine ⟨_, hd, ?_, e.mut hD, ?_⟩
      · rw [List.length_map, List.length_replicate]
        have : x.length = x.cps.size := rfl
        exact szl (by omega)
      · rw [upd_same, List.replicate_succ', List.map_append]
        rfl
    · rintro H' ⟨e, hd⟩
      refine ⟨D, List.replicate x.cps.size true, rfl, SqL.of hd, ?_⟩
      rw [show (List.replicate x.cps.size true).all id = true by simp]
      exact q _ e
end
end DG

namespace DG
open PySem L2
open PyProof.Rows (envOfC)
section
variable {P : Program} {w : World} {K : PySem.W.Frag} {mg : Str → Option Value} {base : Heap} {CS CC CW : Addr}
abbrev s_S_init : Stmt := inClass (top 32) 0
abbrev n_S_init : List Str := ["self", "has", "full", "grows", "keep", "at", "amount"]
theorem sc_S_init : FnScope n_S_init ["self", "has", "full", "grows", "keep"] (defScope s_S_init) := ⟨rfl, rfl, rfl, by decide +kernel, rfl, by decide +kernel, by decide +kernel⟩

theorem ok_S_init (D : IDef K mg "Sward" CS "Sward.__init__" s_S_init ["self", "has", "full", "grows", "keep"]) (T : Txt K mg CS CC CW) (c_is_amount : Cal P w K mg base 3 "is_amount" ["thing"] sp_is_amount) : ICal P w K mg base 4 "Sward" CS ["self", "has", "full", "grows", "keep"] (sp_S_init CS) := by
  refine D.cal sc_S_init (fun vs H Q E h => ?_) (fun f cdv A outer s H vs Q E hr h => ?_)
  · obtain ⟨x, dx, g, rfl, _⟩ := h; rfl
  · obtain ⟨x, dx, g, rfl, hx, ok, q⟩ := h
    refine ⟨_, (pss_cons (ps_for PassesOwn.never rfl (pi_enum (by rfl) T.enumerate (pa_cons (pe_lst (pa_cons (pv 1) (pa_cons (pv 2) (pa_cons (pv 3) (pa_cons (pv 4) pa_nil))))) pa_nil)) (pg_tup rfl (pgs_cons (pg_name (i := 5) sc_S_init.nd rfl (Or.inl rfl)) (pgs_cons (pg_name (i := 6) sc_S_init.nd rfl (Or.inl rfl)) pgs_nil)))
        (pss_one (ps_if (pt_not (pt_val (pe_cal c_is_amount hr (pa_cons (pv 6) pa_nil)))) (pss_one ps_never) pss_nil)))
      (pss_cons (ps_if (pt_cmpR op_gt (pv 1) (pv 2) (nomark _)) (pss_one ps_never) pss_nil)
      (pss_cons (ps_if (pt_cmpR op_gt (pv 4) (pv 2) (nomark _)) (pss_one ps_never) pss_nil)
      (pss_cons (ps_fld (pv 0) (pv 1) rfl)
      (pss_cons (ps_fld (pv 0) (pv 2) rfl)
      (pss_cons (ps_fld (pv 0) (pv 3) rfl)
      (pss_one (ps_fld (pv 0) (pv 4) rfl)))))))), ?_⟩
    refine ⟨_, rfl, _, rfl, _, rfl, _, rfl, szle (by simp), fun l hl => ⟨l, _, rfl, SqL.of upd_same, ?_⟩⟩
    have e0 := Same.new (o := .lst [.int g.has, .int g.full, .int g.grows, .int g.keep]) hl
    generalize hH1 : upd H l (.lst [.int g.has, .int g.full, .int g.grows, .int g.keep]) = H1 at e0 ⊢
    have hl1 : H1 l = some (.lst [.int g.has, .int g.full, .int g.grows, .int g.keep]) := by rw [← hH1, upd_same]
    refine for_it (walk_enum (K := K) (a := l) (xs := [.int g.has, .int g.full, .int g.grows, .int g.keep])) (fun i σ H' => ∃ v5 v6, σ = [some (.ref x), some (.int g.has), some (.int g.full), some (.int g.grows), some (.int g.keep), v5, v6] ∧ Same H1 H')
      ⟨_, _, rfl, Same.refl _⟩ (fun i σ H' _ ⟨_, _, _, e⟩ => SqL.of (e _ _ hl1)) ?_ ?_
    · rintro i v σ H' H'' hi ⟨v5, v6, rfl, e⟩ ⟨tt, y, z, rfl, hnt, rfl, hy, hz⟩
      obtain ⟨m, rfl, m0, m1⟩ : ∃ m : Int, z = .int m ∧ 0 ≤ m ∧ m ≤ 1000000000000 := by
        have h1 := ok.has0
        have h2 := ok.has1
        have h3 := ok.full1
        have h4 := ok.grows0
        have h5 := ok.grows1
        have h6 := ok.keep0
        have h7 := ok.keep1
        have hm := at_mem hz
        simp only [List.mem_cons, List.not_mem_nil, or_false] at hm
        rcases hm with e | e | e | e
        · exact ⟨_, e, h1, by omega⟩
        · exact ⟨_, e, by omega, h3⟩
        · exact ⟨_, e, h4, h5⟩
        · exact ⟨_, e, h6, by omega⟩
      refine ⟨tt, _, rfl, SqT.of upd_same, rfl, _, _, rfl, _, _, rfl, rfl, ?_⟩
      exact ⟨_, rfl, m, rfl, m0, m1, true, rfl, _, _, rfl, e.trans (Same.new hnt)⟩
    · rintro σ H' ⟨v5, v6, rfl, e⟩
      have hx' := (e0.trans e) _ _ hx
      refine ⟨_, rfl, _, rfl, _, _, rfl, rfl, _, rfl, ?_⟩
      rw [decide_eq_false (show ¬ g.full < g.has by have := ok.has1; omega)]
      refine ⟨_, rfl, _, rfl, _, _, rfl, rfl, _, rfl, ?_⟩
      rw [decide_eq_false (show ¬ g.full < g.keep by have := ok.keep1; omega)]
      refine ⟨_, rfl, _, rfl, x, CS, dx, _, rfl, hx', T.clS, T.n_has, (by show 0 < 1000; decide), ?_⟩
      have l1 := length_putF "has" (.int g.has) []
      have l2 := length_putF "full" (.int g.full) (putF "has" (.int g.has) [])
      have l3 := length_putF "grows" (.int g.grows) (putF "full" (.int g.full) (putF "has" (.int g.has) []))
      simp only [List.length_nil] at l1
      refine ⟨_, rfl, _, rfl, x, CS, dx, _, rfl, upd_same, T.clS, T.n_full, by omega, ?_⟩
      refine ⟨_, rfl, _, rfl, x, CS, dx, _, rfl, upd_same, T.clS, T.n_grows, by omega, ?_⟩
      refine ⟨_, rfl, _, rfl, x, CS, dx, _, rfl, upd_same, T.clS, T.n_keep, by omega, ?_⟩
      exact q _ (((((Same.del_l.trans (e0.trans e)).mut del_same).mut del_same).mut del_same).mut del_same)
abbrev s_sward_of : Stmt := top 38
abbrev n_sward_of : List Str := ["row"]
theorem sc_sward_of : FnScope n_sward_of ["row"] (defScope s_sward_of) := ⟨rfl, rfl, rfl, by decide +kernel, rfl, by decide +kernel, by decide +kernel⟩

theorem ok_sward_of (D : Def K mg "sward_of" s_sward_of ["row"]) (T : Txt K mg CS CC CW) (c_Sward : ICal P w K mg base 4 "Sward" CS ["self", "has", "full", "grows", "keep"] (sp_S_init CS)) : Cal P w K mg base 6 "sward_of" ["row"] sp_sward_of := by
  refine D.cal sc_sward_of (fun vs H Q E h => ?_) (fun f cdv A outer s H vs Q E hr h => ?_)
  · obtain ⟨t, g, rfl, _⟩ := h; rfl
  · obtain ⟨t, g, rfl, ht, ok, q⟩ := h
    refine ⟨_, (pss_one (ps_try_only (tb := fun _ => tRet (tMake CS (sp_S_init CS) [] E0 (tCons (tOp (rIxT K) (tVar 0) (tC (.int 2))) (tCons (tOp (rIxT K) (tVar 0) (tC (.int 3))) (tCons (tOp (rIxT K) (tVar 0) (tC (.int 4))) (tCons (tOp (rIxT K) (tVar 0) (tC (.int 5))) tNil)))))) (ts := fun _ _ _ => tNever) rfl rfl ⟨rfl, by decide, .inl T.gW⟩ takes0 (fun W pn xe tk _ => (pss_one (ps_ret (pe_ical c_Sward hr (pa_cons (pe_ix ix_tup (pv 0) pe_int (fun _ _ => rfl)) (pa_cons (pe_ix ix_tup (pv 0) pe_int (fun _ _ => rfl)) (pa_cons (pe_ix ix_tup (pv 0) pe_int (fun _ _ => rfl)) (pa_cons (pe_ix ix_tup (pv 0) pe_int (fun _ _ => rfl)) pa_nil)))))))) (fun a oe cls d pn _ _ => pss_never))), ?_⟩
    refine ⟨_, rfl, t, _, _, _, rfl, rfl, SqT.of ht, rfl, _, rfl, t, _, _, _, rfl, rfl, SqT.of ht, rfl, _, rfl, t, _, _, _, rfl, rfl, SqT.of ht, rfl, _, rfl, t, _, _, _, rfl, rfl, SqT.of ht, rfl, ?_⟩
    intro x dx nx ndx nex
    exact ⟨x, dx, g, rfl, upd_same, ok, fun H' e => ⟨rfl, q x H' ((((Same.new ndx).mut nx).del_r nx).trans e)⟩⟩
abbrev s_is_ground : Stmt := top 39
abbrev n_is_ground : List Str := ["row"]
theorem sc_is_ground : FnScope n_is_ground ["row"] (defScope s_is_ground) := ⟨rfl, rfl, rfl, by decide +kernel, rfl, by decide +kernel, by decide +kernel⟩

theorem ok_is_ground (D : Def K mg "is_ground" s_is_ground ["row"]) (T : Txt K mg CS CC CW) (c_is_name : Cal P w K mg base 1 "is_name" ["thing"] sp_is_name) (c_is_from_to : Cal P w K mg base 2 "is_from_to" ["thing", "least", "most"] sp_is_from_to) (c_sward_of : Cal P w K mg base 6 "sward_of" ["row"] sp_sward_of) : Cal P w K mg base 7 "is_ground" ["row"] sp_is_ground := by
  refine D.cal sc_is_ground (fun vs H Q E h => ?_) (fun f cdv A outer s H vs Q E hr h => ?_)
  · obtain ⟨t, g, rfl, _⟩ := h; rfl
  · obtain ⟨t, g, rfl, ht, ok, q⟩ := h
    refine ⟨_, (pss_cons (ps_if (PW.pt (pw_or (pt_not (pt_val (pe_bf call_is T.isinstance (pa_cons (pv 0) (pa_cons (pe_ty (T := "tuple") T.tuple) pa_nil))))) (pw_or1 (pt_cmpR op_ne (pe_bf call_len_seq T.len (pa_cons (pv 0) pa_nil)) pe_int (nomark _))))) (pss_one (ps_ret pe_bl)) pss_nil)
      (pss_one (ps_ret (pe_and (pe_cal c_is_name hr (pa_cons (pe_ix ix_tup (pv 0) pe_int (fun _ _ => rfl)) pa_nil)) (pe_and (pe_cal c_is_from_to hr (pa_cons (pe_ix ix_tup (pv 0) pe_int (fun _ _ => rfl)) (pa_cons pe_int (pa_cons (pe_const T.c_MOST_HEIGHT) pa_nil)))) (pe_one (pe_cmpR op_notN (pe_cal c_sward_of hr (pa_cons (pv 0) pa_nil)) pe_non (nomark _)))))))), ?_⟩
    refine ⟨_, rfl, _, _, _, rfl, .tupTup ht, _, rfl, ?_⟩
    refine ⟨_, rfl, t, _, rfl, .inr (SqT.of ht), rfl, _, rfl, iteNS rfl ?_⟩
    refine ⟨_, rfl, t, _, _, _, rfl, rfl, SqT.of ht, rfl, g.name, rfl, ok.name, fun H1 e1 => ⟨true, rfl, iteT ?_⟩⟩
    have ht1 := e1 _ _ ht
    refine ⟨_, rfl, t, _, _, _, rfl, rfl, SqT.of ht1, rfl, _, _, _, rfl, ok.h0, ok.h1, true, rfl, iteT ?_⟩
    exact ⟨_, rfl, t, g, rfl, ht1, ok, fun s H2 e2 => ⟨rfl, q _ (e1.trans e2)⟩⟩
abbrev s_is_way : Stmt := top 40
abbrev n_is_way : List Str := ["row", "name"]
theorem sc_is_way : FnScope n_is_way ["row"] (defScope s_is_way) := ⟨rfl, rfl, rfl, by decide +kernel, rfl, by decide +kernel, by decide +kernel⟩

theorem ok_is_way (D : Def K mg "is_way" s_is_way ["row"]) (T : Txt K mg CS CC CW) (c_is_name : Cal P w K mg base 1 "is_name" ["thing"] sp_is_name) (c_is_from_to : Cal P w K mg base 2 "is_from_to" ["thing", "least", "most"] sp_is_from_to) : Cal P w K mg base 3 "is_way" ["row"] sp_is_way := by
  refine D.cal sc_is_way (fun vs H Q E h => ?_) (fun f cdv A outer s H vs Q E hr h => ?_)
  · obtain ⟨t, G, y, rfl, _⟩ := h; rfl
  · obtain ⟨t, G, y, rfl, ht, ok, q⟩ := h
    refine ⟨_, (pss_cons (ps_if (PW.pt (pw_or (pt_not (pt_val (pe_bf call_is T.isinstance (pa_cons (pv 0) (pa_cons (pe_ty (T := "tuple") T.tuple) pa_nil))))) (pw_or1 (pt_cmpR op_ne (pe_bf call_len_seq T.len (pa_cons (pv 0) pa_nil)) pe_int (nomark _))))) (pss_one (ps_ret pe_bl)) pss_nil)
      (pss_one (ps_ret (pe_and (pe_bf (cr_all rfl) T.all (pa_cons (pe_lc (own := [("name", 1)]) (tt := tYes) rfl sc_is_way.nd (pi_tup (pe_slice sl_tup (pv 0) po_none (po_some pe_int))) (blkOk_by (N := n_is_way) (sc := defScope s_is_way) (by decide +kernel)) (fun _ _ _ _ _ => (pg_name (i := 1) sc_is_way.nd rfl (Or.inl rfl))) (fun _ _ _ _ _ => pts_nil) (fun _ _ _ _ _ => (pe_cal c_is_name hr (pa_cons (pv 1) pa_nil)))) pa_nil)) (pe_one (pe_cal c_is_from_to hr (pa_cons (pe_ix ix_tup (pv 0) pe_int (fun _ _ => rfl)) (pa_cons pe_int (pa_cons (pe_const T.c_MOST_TOLL) pa_nil))))))))), ?_⟩
    refine ⟨_, rfl, _, _, _, rfl, .tupTup ht, _, rfl, ?_⟩
    refine ⟨_, rfl, t, _, rfl, .inr (SqT.of ht), rfl, _, rfl, iteNS rfl ?_⟩
    refine ⟨_, rfl, _, rfl, t, _, rfl, SqT.of ht, (by show ¬ ((0 : Nat) = 0 ∧ (3 : Nat) = 4); omega), fun p hp => ?_⟩
    have e1 := Same.new (o := .tup [.str y.name, .str y.tp, .str y.ft]) hp
    refine ⟨p, rfl, ⟨_, SqT.of upd_same⟩, fun D hD => lc_tup (K := K) (a := p) (xs := [.str y.name, .str y.tp, .str y.ft]) (fun i H' => Same (upd H p (.tup [.str y.name, .str y.tp, .str y.ft])) H' ∧ H' D = some (.lst ((List.replicate i true).map V.bl))) ⟨Same.new hD, upd_same⟩ (fun i H' _ h => SqT.of (h.1 _ _ upd_same)) ?_ ?_⟩
    · rintro i v H' hv ⟨e, hd⟩
      obtain ⟨z, rfl, hz⟩ : ∃ z : Str, v = .str z ∧ NameOk z := by
        have hm := at_mem hv
        simp only [List.mem_cons, List.not_mem_nil, or_false] at hm
        rcases hm with e | e | e
        · exact ⟨_, e, ok.name⟩
        · exact ⟨_, e, ok.nt⟩
        · exact ⟨_, e, ok.nf⟩
      have hi := at_lt hv
      refine ⟨rfl, _, rfl, z, rfl, hz, fun H2 e2 => ⟨_, e2 _ _ hd, ?_, (e.trans e2).mut hD, ?_⟩⟩
      · rw [List.length_map, List.length_replicate]
        have : i < 3 := hi
        exact szl (by omega)
      · rw [upd_same, List.replicate_succ', List.map_append]
        rfl
    · rintro H' ⟨e, hd⟩
      refine ⟨D, List.replicate 3 true, rfl, SqL.of hd, true, rfl, iteT ?_⟩
      exact ⟨_, rfl, t, _, _, _, rfl, rfl, SqT.of ((e1.trans e) _ _ ht), rfl, _, _, _, rfl, ok.t0, ok.t1, q _ (e1.trans e)⟩
end
end DG

namespace DG
open PySem L2
open PyProof.Rows (envOfC)
section
variable {P : Program} {w : World} {K : PySem.W.Frag} {mg : Str → Option Value} {base : Heap} {CS CC CW : Addr}
abbrev s_ground_row : Stmt := inClass (top 41) 2
abbrev n_ground_row : List Str := ["self", "ground"]
theorem sc_ground_row : FnScope n_ground_row ["self", "ground"] (defScope s_ground_row) := ⟨rfl, rfl, rfl, by decide +kernel, rfl, by decide +kernel, by decide +kernel⟩

theorem ok_ground_row (D : MDef K CC "Country.ground_row" "ground_row" s_ground_row ["self", "ground"]) (T : Txt K mg CS CC CW) : MCal P w K mg base 1 CC "ground_row" ["self", "ground"] (sp_ground_row CC) := by
  refine D.cal sc_ground_row (fun vs H Q E h => ?_) (fun f cdv A outer s H vs Q E hr h => ?_)
  · obtain ⟨c, G, W, g, rfl, _⟩ := h; rfl
  · obtain ⟨c, G, W, g, rfl, ⟨dx, d1, d2, kg, kw, hC⟩, hg, q⟩ := h
    have hu := hu_of hr
    obtain ⟨t, z, hv, ht⟩ := gnd_val hC.pg hg
    have hD : DGet H d1 (.str g.name) (some (.ref t)) := by rw [← hv]; exact DGet.k (k := Sum.inr g.name) hC.gs
    refine ⟨_, (pss_cons (ps_if (PW.pt (pw_or (pt_not (pt_val (pe_bf call_is T.isinstance (pa_cons (pv 1) (pa_cons (pe_ty (T := "str") T.str) pa_nil))))) (pw_or1 (pt_cmp (pc_dnotin hu (pv 1) (pe_fld (pv 0) rfl)))))) (pss_one ps_never) pss_nil)
      (pss_one (ps_ret (pe_dget hu (pe_fld (pv 0) rfl) (pv 1) (fun _ _ => rfl))))), ?_⟩
    refine ⟨_, rfl, _, _, _, rfl, .strStr _, _, rfl, ?_⟩
    refine ⟨_, rfl, _, rfl, c, CC, dx, _, _, rfl, hC.obj, T.clC, T.n_by_ground, flds_g d1 d2, d1, _, rfl, hD, _, rfl, ?_⟩
    exact ⟨_, rfl, c, CC, dx, _, _, rfl, hC.obj, T.clC, T.n_by_ground, flds_g d1 d2, _, rfl, d1, _, rfl, hD, q t z ht⟩
abbrev s_way_row : Stmt := inClass (top 41) 3
abbrev n_way_row : List Str := ["self", "way"]
theorem sc_way_row : FnScope n_way_row ["self", "way"] (defScope s_way_row) := ⟨rfl, rfl, rfl, by decide +kernel, rfl, by decide +kernel, by decide +kernel⟩

theorem ok_way_row (D : MDef K CC "Country.way_row" "way_row" s_way_row ["self", "way"]) (T : Txt K mg CS CC CW) : MCal P w K mg base 1 CC "way_row" ["self", "way"] (sp_way_row CC) := by
  refine D.cal sc_way_row (fun vs H Q E h => ?_) (fun f cdv A outer s H vs Q E hr h => ?_)
  · obtain ⟨c, G, W, g, rfl, _⟩ := h; rfl
  · obtain ⟨c, G, W, g, rfl, ⟨dx, d1, d2, kg, kw, hC⟩, hg, q⟩ := h
    have hu := hu_of hr
    obtain ⟨t, hv, ht⟩ := way_val hC.pw hg
    have hD : DGet H d2 (.str g.name) (some (.ref t)) := by rw [← hv]; exact DGet.k (k := Sum.inr g.name) hC.ws
    refine ⟨_, (pss_cons (ps_if (PW.pt (pw_or (pt_not (pt_val (pe_bf call_is T.isinstance (pa_cons (pv 1) (pa_cons (pe_ty (T := "str") T.str) pa_nil))))) (pw_or1 (pt_cmp (pc_dnotin hu (pv 1) (pe_fld (pv 0) rfl)))))) (pss_one ps_never) pss_nil)
      (pss_one (ps_ret (pe_dget hu (pe_fld (pv 0) rfl) (pv 1) (fun _ _ => rfl))))), ?_⟩
    refine ⟨_, rfl, _, _, _, rfl, .strStr _, _, rfl, ?_⟩
    refine ⟨_, rfl, _, rfl, c, CC, dx, _, _, rfl, hC.obj, T.clC, T.n_by_way, flds_w d1 d2, d2, _, rfl, hD, _, rfl, ?_⟩
    exact ⟨_, rfl, c, CC, dx, _, _, rfl, hC.obj, T.clC, T.n_by_way, flds_w d1 d2, _, rfl, d2, _, rfl, hD, q t ht⟩
abbrev s_height : Stmt := inClass (top 41) 6
abbrev n_height : List Str := ["self", "ground"]
theorem sc_height : FnScope n_height ["self", "ground"] (defScope s_height) := ⟨rfl, rfl, rfl, by decide +kernel, rfl, by decide +kernel, by decide +kernel⟩

theorem ok_height (D : MDef K CC "Country.height" "height" s_height ["self", "ground"]) (T : Txt K mg CS CC CW) (c_ground_row : MCal P w K mg base 1 CC "ground_row" ["self", "ground"] (sp_ground_row CC)) : MCal P w K mg base 2 CC "height" ["self", "ground"] (sp_height CC) := by
  refine D.cal sc_height (fun vs H Q E h => ?_) (fun f cdv A outer s H vs Q E hr h => ?_)
  · obtain ⟨c, G, W, g, rfl, _⟩ := h; rfl
  · obtain ⟨c, G, W, g, rfl, hC, hg, q⟩ := h
    obtain ⟨dx, d1, d2, kg, kw, hK⟩ := id hC
    refine ⟨_, (pss_one (ps_ret (pe_ix ix_tup (pe_mcal (pv 0) T.clC c_ground_row hr (pa_cons (pv 1) pa_nil)) pe_int (fun _ _ => rfl)))), ?_⟩
    exact ⟨_, rfl, c, dx, _, rfl, hK.obj, flds_no d1 d2 (by decide +kernel) (by decide +kernel), _, rfl, c, G, W, g, rfl, hC, hg, fun t z ht => ⟨t, _, _, _, rfl, rfl, SqT.of ht, rfl, q⟩⟩
abbrev s_sward : Stmt := inClass (top 41) 7
abbrev n_sward : List Str := ["self", "ground"]
theorem sc_sward : FnScope n_sward ["self", "ground"] (defScope s_sward) := ⟨rfl, rfl, rfl, by decide +kernel, rfl, by decide +kernel, by decide +kernel⟩

theorem ok_sward (D : MDef K CC "Country.sward" "sward" s_sward ["self", "ground"]) (T : Txt K mg CS CC CW) (c_ground_row : MCal P w K mg base 1 CC "ground_row" ["self", "ground"] (sp_ground_row CC)) : MCal P w K mg base 2 CC "sward" ["self", "ground"] (sp_sward CC) := by
  refine D.cal sc_sward (fun vs H Q E h => ?_) (fun f cdv A outer s H vs Q E hr h => ?_)
  · obtain ⟨c, G, W, g, rfl, _⟩ := h; rfl
  · obtain ⟨c, G, W, g, rfl, hC, hg, q⟩ := h
    obtain ⟨dx, d1, d2, kg, kw, hK⟩ := id hC
    refine ⟨_, (pss_one (ps_ret (pe_ix ix_tup (pe_mcal (pv 0) T.clC c_ground_row hr (pa_cons (pv 1) pa_nil)) pe_int (fun _ _ => rfl)))), ?_⟩
    exact ⟨_, rfl, c, dx, _, rfl, hK.obj, flds_no d1 d2 (by decide +kernel) (by decide +kernel), _, rfl, c, G, W, g, rfl, hC, hg, fun t z ht => ⟨t, _, _, _, rfl, rfl, SqT.of ht, rfl, q z⟩⟩
abbrev s_ends : Stmt := inClass (top 41) 10
abbrev n_ends : List Str := ["self", "way"]
theorem sc_ends : FnScope n_ends ["self", "way"] (defScope s_ends) := ⟨rfl, rfl, rfl, by decide +kernel, rfl, by decide +kernel, by decide +kernel⟩

theorem ok_ends (D : MDef K CC "Country.ends" "ends" s_ends ["self", "way"]) (T : Txt K mg CS CC CW) (c_way_row : MCal P w K mg base 1 CC "way_row" ["self", "way"] (sp_way_row CC)) : MCal P w K mg base 2 CC "ends" ["self", "way"] (sp_ends CC) := by
  refine D.cal sc_ends (fun vs H Q E h => ?_) (fun f cdv A outer s H vs Q E hr h => ?_)
  · obtain ⟨c, G, W, g, rfl, _⟩ := h; rfl
  · obtain ⟨c, G, W, g, rfl, hC, hg, q⟩ := h
    obtain ⟨dx, d1, d2, kg, kw, hK⟩ := id hC
    refine ⟨_, (pss_one (ps_ret (pe_slice sl_tup (pe_mcal (pv 0) T.clC c_way_row hr (pa_cons (pv 1) pa_nil)) po_none (po_some pe_int)))), ?_⟩
    exact ⟨_, rfl, c, dx, _, rfl, hK.obj, flds_no d1 d2 (by decide +kernel) (by decide +kernel), _, rfl, c, G, W, g, rfl, hC, hg, fun t ht => ⟨_, rfl, t, _, rfl, SqT.of ht, (by show ¬ ((0 : Nat) = 0 ∧ (2 : Nat) = 3); omega), fun p hp => q p _ (Same.new hp) upd_same⟩⟩
abbrev s_ways_from : Stmt := inClass (top 41) 9
abbrev n_ways_from : List Str := ["self", "ground", "way"]
theorem sc_ways_from : FnScope n_ways_from ["self", "ground"] (defScope s_ways_from) := ⟨rfl, rfl, rfl, by decide +kernel, rfl, by decide +kernel, by decide +kernel⟩

theorem ok_ways_from (D : MDef K CC "Country.ways_from" "ways_from" s_ways_from ["self", "ground"]) (T : Txt K mg CS CC CW) (c_ground_row : MCal P w K mg base 1 CC "ground_row" ["self", "ground"] (sp_ground_row CC)) : MCal P w K mg base 2 CC "ways_from" ["self", "ground"] (sp_ways_from CC) := by
  refine D.cal sc_ways_from (fun vs H Q E h => ?_) (fun f cdv A outer s H vs Q E hr h => ?_)
  · obtain ⟨c, G, W, g, rfl, _⟩ := h; rfl
  · obtain ⟨c, G, W, g, rfl, hC, hg, nd, len, q⟩ := h
    have hu := hu_of hr
    obtain ⟨dx, d1, d2, kg, kw, hK⟩ := id hC
    refine ⟨_, (pss_cons (ps_expr (pe_mcal (pv 0) T.clC c_ground_row hr (pa_cons (pv 1) pa_nil)))
      (pss_one (ps_ret (pe_lock (pe_lc (own := [("way", 2)]) (tt := (tTest (tOp _ (tOp (rIxT K) (tDGet (tFld K _ "by_way") _) _) _))) rfl sc_ways_from.nd (pi_keys (pe_fld (pv 0) rfl)) (blkOk_by (N := n_ways_from) (sc := defScope s_ways_from) (by decide +kernel)) (fun _ _ _ _ _ => (pg_name (i := 2) sc_ways_from.nd rfl (Or.inl rfl))) (fun _ _ _ _ _ => (pts_one (pt_cmpR op_eq (pe_ix ix_tup (pe_dget hu (pe_fld (pv 0) rfl) (pv 2) (fun _ _ => rfl)) pe_int (fun _ _ => rfl)) (pv 1) (nomark _)))) (fun _ _ _ _ _ => (pv 2))))))), ?_⟩
    refine ⟨_, rfl, c, dx, _, rfl, hK.obj, flds_no d1 d2 (by decide +kernel) (by decide +kernel), _, rfl, c, G, W, g, rfl, hC, hg, fun t z ht => ?_⟩
    refine ⟨d2, .dK kw, hK.ws, trivial, fun od => ?_⟩
    have hcd : c ≠ d2 := ne_of hK.obj hK.ws (by intro z; cases z)
    have hobj : (upd H d2 (.frz od (.dK kw))) c = some (.ins CC dx (flds d1 d2)) := by rw [upd_ne hcd]; exact hK.obj
    refine ⟨_, rfl, c, CC, dx, _, _, rfl, hobj, T.clC, T.n_by_way, flds_w d1 d2, d2, od, rfl, .inl ⟨kw, upd_same, fun D hD => ?_⟩⟩
    have hDd : D ≠ d2 := fun z => by rw [z, upd_same] at hD; cases hD
    have hDH : H D = none := by rw [upd_ne hDd] at hD; exact hD
    have hlen := paired_len hK.pw
    refine lc_it walk_keys (fun i H' => Same (upd H d2 (.frz od (.dK kw))) H' ∧ H' D = some (.lst ((((W.take i).filter fun y => decide (y.tp = g.name)).map (·.name)).map V.str)))
      ⟨Same.new hD, upd_same⟩ (fun i H' _ h => h.1 _ _ upd_same) ?_ ?_
    · rintro i x H' H'' hi ⟨e, hd⟩ ⟨rfl, k, v, hk, rfl⟩
      obtain ⟨y, hy, h1, _⟩ := paired_at hK.pw hk
      have h1' : k = .inr y.name := h1
      subst h1'
      obtain ⟨u, hu1, hu2⟩ := way_val hK.pw (wayOf_mem nd (at_mem hy))
      have hDG : DGet H'' d2 (.str y.name) (some (.ref u)) := .inl ⟨kw, .inr y.name, .inr ⟨od, e _ _ upd_same⟩, rfl, hu1.symm⟩
      have hu3 : H'' u = some (.tup [.str y.tp, .str y.ft, .int y.toll]) := e _ _ (by rw [upd_ne (ne_of hu2 hK.ws (by intro z; cases z))]; exact hu2)
      refine ⟨rfl, _, rfl, c, CC, dx, _, _, rfl, e _ _ hobj, T.clC, T.n_by_way, flds_w d1 d2, _, rfl, d2, _, rfl, hDG, u, _, _, _, rfl, rfl, SqT.of hu3, rfl, _, rfl, rfl, _, rfl, ?_⟩
      rw [filter_take hy]
      by_cases ht : y.tp = g.name
      · rw [decide_eq_true (congrArg V.str ht), if_pos (decide_eq_true ht)]
        refine ⟨_, rfl, _, hd, ?_, e.mut hD, ?_⟩
        · rw [List.length_map, List.length_map]
          have h1 := List.length_filter_le (fun y => decide (y.tp = g.name)) (W.take i)
          have h2 := take_le W i
          exact szl (by omega)
        · rw [upd_same, List.map_append, List.map_append]
          rfl
      · rw [decide_eq_false (show ¬ V.str y.tp = V.str g.name by intro z; exact ht (V.str.inj z)), if_neg (by simp [ht]), List.append_nil]
        exact ⟨e, hd⟩
    · rintro H' ⟨e, hd⟩
      refine ⟨e _ _ upd_same, q D _ (fun b o hb => ?_) ?_⟩
      · by_cases hbd : b = d2
        · subst hbd
          rw [upd_same, ← hb, hK.ws]
        · rw [upd_ne hbd]
          exact e _ _ (by rw [upd_ne hbd]; exact hb)
      · rw [upd_ne hDd, hd, ← hlen, List.take_length]
abbrev s_leads_from : Stmt := top 18
abbrev n_leads_from : List Str := ["country", "way", "ground"]
theorem sc_leads_from : FnScope n_leads_from ["country", "way", "ground"] (defScope s_leads_from) := ⟨rfl, rfl, rfl, by decide +kernel, rfl, by decide +kernel, by decide +kernel⟩

theorem ok_leads_from (D : Def K mg "leads_from" s_leads_from ["country", "way", "ground"]) (T : Txt K mg CS CC CW) (c_ways_from : MCal P w K mg base 2 CC "ways_from" ["self", "ground"] (sp_ways_from CC)) : Cal P w K mg base 3 "leads_from" ["country", "way", "ground"] (sp_leads_from CC) := by
  refine D.cal sc_leads_from (fun vs H Q E h => ?_) (fun f cdv A outer s H vs Q E hr h => ?_)
  · obtain ⟨c, G, W, x, g, rfl, _⟩ := h; rfl
  · obtain ⟨c, G, W, x, g, rfl, hC, hg, nd, len, q⟩ := h
    obtain ⟨dx, d1, d2, kg, kw, hK⟩ := id hC
    refine ⟨_, (pss_one (ps_ret (pe_cmpR op_in_seq (pv 1) (pe_mcal (pv 0) T.clC c_ways_from hr (pa_cons (pv 2) pa_nil)) rfl))), ?_⟩
    refine ⟨_, rfl, _, rfl, c, dx, _, rfl, hK.obj, flds_no d1 d2 (by decide +kernel) (by decide +kernel), _, rfl, c, G, W, g, rfl, hC, hg, nd, len, fun l H' e hl => ⟨l, _, rfl, .inl (SqL.of hl), rfl, flat_strs _, ?_⟩⟩
    have := q H' e
    rw [← lead_in] at this
    exact this
end
end DG

namespace DG
open PySem L2
open PyProof.Rows (envOfC)
section
variable {P : Program} {w : World} {K : PySem.W.Frag} {mg : Str → Option Value} {base : Heap} {CS CC CW : Addr}
abbrev s_add_way : Stmt := inClass (top 41) 1
abbrev n_add_way : List Str := ["self", "row", "name", "top", "foot", "toll", "height"]
theorem sc_add_way : FnScope n_add_way ["self", "row"] (defScope s_add_way) := ⟨rfl, rfl, rfl, by decide +kernel, rfl, by decide +kernel, by decide +kernel⟩

theorem ok_add_way (D : MDef K CC "Country.add_way" "add_way" s_add_way ["self", "row"]) (T : Txt K mg CS CC CW) (c_height : MCal P w K mg base 2 CC "height" ["self", "ground"] (sp_height CC)) : MCal P w K mg base 3 CC "add_way" ["self", "row"] (sp_add_way CC) := by
  refine D.cal sc_add_way (fun vs H Q E h => ?_) (fun f cdv A outer s H vs Q E hr h => ?_)
  · obtain ⟨c, t, G, W, y, dx, d1, d2, kg, kw, rfl, _⟩ := h; rfl
  · obtain ⟨c, t, G, W, y, dx, d1, d2, kg, kw, rfl, hK, ht, ok, len, new, q⟩ := h
    have hu := hu_of hr
    have hC : Cty CC H c G W := ⟨dx, d1, d2, kg, kw, hK⟩
    obtain ⟨gt, hgt, gf, hgf, hlt⟩ := ok.tp
    have e1 := (gndOf_name hgt).1
    have e2 := (gndOf_name hgf).1
    have hn := way_new hK.pw new
    have hD : DGet H d2 (.str y.name) none := by rw [← hn]; exact DGet.k (k := Sum.inr y.name) hK.ws
    refine ⟨_, (pss_cons (ps_asg (pv 1) (pg_tup rfl (pgs_cons (pg_name (i := 2) sc_add_way.nd rfl (Or.inl rfl)) (pgs_cons (pg_name (i := 3) sc_add_way.nd rfl (Or.inl rfl)) (pgs_cons (pg_name (i := 4) sc_add_way.nd rfl (Or.inl rfl)) (pgs_cons (pg_name (i := 5) sc_add_way.nd rfl (Or.inl rfl)) pgs_nil))))))
      (pss_cons (ps_if (pt_cmp (pc_din hu (pv 2) (pe_fld (pv 0) rfl))) (pss_one ps_never) pss_nil)
      (pss_cons (ps_set (i := 6) sc_add_way.nd rfl (Or.inl rfl) (pe_mcal (pv 0) T.clC c_height hr (pa_cons (pv 3) pa_nil)))
      (pss_cons (ps_if (pt_cmpR op_ge (pe_mcal (pv 0) T.clC c_height hr (pa_cons (pv 4) pa_nil)) (pv 6) (nomark _)) (pss_one ps_never) pss_nil)
      (pss_one (ps_dput hu (pe_fld (pv 0) rfl) (pv 2) (pe_tup (pa_cons (pv 3) (pa_cons (pv 4) (pa_cons (pv 5) pa_nil)))) rfl)))))), ?_⟩
    refine ⟨_, rfl, t, _, rfl, SqT.of ht, rfl, _, _, rfl, _, _, rfl, _, _, rfl, _, _, rfl, rfl, ?_⟩
    refine ⟨_, rfl, _, rfl, c, CC, dx, _, _, rfl, hK.obj, T.clC, T.n_by_way, flds_w d1 d2, d2, _, rfl, hD, _, rfl, ?_⟩
    refine ⟨_, rfl, c, dx, _, rfl, hK.obj, flds_no d1 d2 (by decide +kernel) (by decide +kernel), _, rfl, c, G, W, gt, by rw [e1]; rfl, hC, by rw [e1]; exact hgt, ?_⟩
    refine ⟨_, rfl, c, dx, _, rfl, hK.obj, flds_no d1 d2 (by decide +kernel) (by decide +kernel), _, rfl, c, G, W, gf, by rw [e2]; rfl, hC, by rw [e2]; exact hgf, ?_⟩
    refine ⟨_, rfl, _, _, rfl, rfl, _, rfl, ?_⟩
    rw [decide_eq_false (show ¬ gt.hgt ≤ gf.hgt by omega)]
    refine ⟨_, rfl, _, rfl, _, rfl, szle (by simp), fun p hp => ?_⟩
    have ep := Same.new (o := .tup [.str y.tp, .str y.ft, .int y.toll]) hp
    have hlk := paired_len hK.pw
    refine ⟨_, rfl, c, CC, dx, _, _, rfl, ep _ _ hK.obj, T.clC, T.n_by_way, flds_w d1 d2, _, rfl, d2, _, rfl, DPut.k (k := Sum.inr y.name) (ep _ _ hK.ws) (szl (by omega)), ?_⟩
    have hcd : c ≠ d2 := ne_of hK.obj hK.ws (by intro z; cases z)
    have hpd : p ≠ d2 := fun z => by rw [z, hK.ws] at hp; cases hp
    have e3 : Same (del d2 H) (upd (upd H p (.tup [.str y.tp, .str y.ft, .int y.toll])) d2 (.dK (putK kw (Sum.inr y.name) (.ref p)))) := (Same.del_l.trans ep).mut del_same
    refine q (kw ++ [(Sum.inr y.name, .ref p)]) _ e3 ⟨?_, ?_, ?_, ?_, ?_, hK.ne⟩
    · exact e3 _ _ (by rw [del_ne hcd]; exact hK.obj)
    · exact e3 _ _ (by rw [del_ne hK.ne]; exact hK.gs)
    · rw [putK_new _ hn, upd_same]
    · exact gents_mono e3 (gents_del hK.ws hK.pg)
    · refine paired_snoc ⟨rfl, p, rfl, ?_⟩ (wents_mono e3 (wents_del hK.ws hK.pw))
      rw [upd_ne hpd, upd_same]
abbrev s_C_init : Stmt := inClass (top 41) 0
abbrev n_C_init : List Str := ["self", "grounds", "ways", "at", "row"]
theorem sc_C_init : FnScope n_C_init ["self", "grounds", "ways"] (defScope s_C_init) := ⟨rfl, rfl, rfl, by decide +kernel, rfl, by decide +kernel, by decide +kernel⟩

theorem ok_C_init (D : IDef K mg "Country" CC "Country.__init__" s_C_init ["self", "grounds", "ways"]) (T : Txt K mg CS CC CW) (c_is_ground : Cal P w K mg base 7 "is_ground" ["row"] sp_is_ground) (c_sward_of : Cal P w K mg base 6 "sward_of" ["row"] sp_sward_of)
    (c_is_way : Cal P w K mg base 3 "is_way" ["row"] sp_is_way) (c_add_way : MCal P w K mg base 3 CC "add_way" ["self", "row"] (sp_add_way CC)) : ICal P w K mg base 8 "Country" CC ["self", "grounds", "ways"] (sp_C_init CC) := by
  refine D.cal sc_C_init (fun vs H Q E h => ?_) (fun f cdv A outer s H vs Q E hr h => ?_)
  · obtain ⟨c, ag, aw, dx, G, W, rfl, _⟩ := h; rfl
  · obtain ⟨c, ag, aw, dx, G, W, rfl, hc, ⟨xg, hag, pg⟩, ⟨xw, haw, pw⟩, okG, okW, lenG, lenW, q⟩ := h
    have hu := hu_of hr
    refine ⟨_, (pss_cons (ps_fld (pv 0) pe_dnewK rfl)
      (pss_cons (ps_fld (pv 0) pe_dnewK rfl)
      (pss_cons (ps_for PassesOwn.never rfl (pi_enum (by rfl) T.enumerate (pa_cons (pv 1) pa_nil)) (pg_tup rfl (pgs_cons (pg_name (i := 3) sc_C_init.nd rfl (Or.inl rfl)) (pgs_cons (pg_name (i := 4) sc_C_init.nd rfl (Or.inl rfl)) pgs_nil)))
        (pss_cons (ps_if (PW.pt (pw_or (pt_cmpR op_ge (pv 3) (pe_const T.c_MOST_GROUNDS) (nomark _)) (pw_or1 (pt_not (pt_val (pe_cal c_is_ground hr (pa_cons (pv 4) pa_nil))))))) (pss_one ps_never) pss_nil)
      (pss_cons (ps_if (pt_cmp (pc_din hu (pe_ix ix_tup (pv 4) pe_int (fun _ _ => rfl)) (pe_fld (pv 0) rfl))) (pss_one ps_never) pss_nil)
      (pss_one (ps_dput hu (pe_fld (pv 0) rfl) (pe_ix ix_tup (pv 4) pe_int (fun _ _ => rfl)) (pe_tup (pa_cons (pe_ix ix_tup (pv 4) pe_int (fun _ _ => rfl)) (pa_cons (pe_cal c_sward_of hr (pa_cons (pv 4) pa_nil)) pa_nil))) rfl)))))
      (pss_one (ps_for PassesOwn.never rfl (pi_enum (by rfl) T.enumerate (pa_cons (pv 2) pa_nil)) (pg_tup rfl (pgs_cons (pg_name (i := 3) sc_C_init.nd rfl (Or.inl rfl)) (pgs_cons (pg_name (i := 4) sc_C_init.nd rfl (Or.inl rfl)) pgs_nil)))
        (pss_cons (ps_if (PW.pt (pw_or (pt_cmpR op_ge (pv 3) (pe_const T.c_MOST_WAYS) (nomark _)) (pw_or1 (pt_not (pt_val (pe_cal c_is_way hr (pa_cons (pv 4) pa_nil))))))) (pss_one ps_never) pss_nil)
      (pss_one (ps_expr (pe_mcal (pv 0) T.clC c_add_way hr (pa_cons (pv 4) pa_nil)))))))))), ?_⟩
    intro d1 hd1
    have hcd1 : c ≠ d1 := ne_of_none hc hd1
    refine ⟨_, rfl, c, CC, dx, _, rfl, (by rw [upd_ne hcd1]; exact hc), T.clC, T.n_by_ground, (by show 0 < 1000; decide), ?_⟩
    intro d2 hd2
    have hcd2 : c ≠ d2 := ne_of_none upd_same hd2
    have hd12 : d1 ≠ d2 := fun z => by rw [← z, upd_ne hcd1.symm, upd_same] at hd2; cases hd2
    have hd2H : H d2 = none := by rw [upd_ne hcd2.symm, upd_ne hd12.symm] at hd2; exact hd2
    have hlf := length_putF "by_ground" (.ref d1) []
    simp only [List.length_nil] at hlf
    refine ⟨_, rfl, c, CC, dx, _, rfl, (by rw [upd_ne hcd2]; exact upd_same), T.clC, T.n_by_way, by omega, ?_⟩
    generalize hHb : upd (upd (upd (upd H d1 (.dK [])) c (.ins CC dx (putF "by_ground" (.ref d1) []))) d2 (.dK [])) c (.ins CC dx (putF "by_way" (.ref d2) (putF "by_ground" (.ref d1) []))) = Hb
    have eb : Same (del c H) Hb := by
      rw [← hHb]
      refine Same.mut (Same.mut (Same.mut (Same.mut Same.del_l ?_) del_same) ?_) del_same
      · rw [del_ne hcd1.symm]; exact hd1
      · rw [del_ne hcd2.symm]; exact hd2H
    have bc : Hb c = some (.ins CC dx (flds d1 d2)) := by rw [← hHb]; exact upd_same
    have b1 : Hb d1 = some (.dK []) := by rw [← hHb, upd_ne hcd1.symm, upd_ne hd12, upd_ne hcd1.symm, upd_same]
    have b2 : Hb d2 = some (.dK []) := by rw [← hHb, upd_ne hcd2.symm, upd_same]
    have hagc : ag ≠ c := ne_of hag hc (by intro z; cases z)
    have hawc : aw ≠ c := ne_of haw hc (by intro z; cases z)
    have bag : Hb ag = some (.lst xg) := eb _ _ (by rw [del_ne hagc]; exact hag)
    have baw : Hb aw = some (.lst xw) := eb _ _ (by rw [del_ne hawc]; exact haw)
    have bpg := tups_mono eb (tups_del hc (by intro d z; cases z) pg)
    have bpw := tups_mono eb (tups_del hc (by intro d z; cases z) pw)
    have bpg1 := tups_del b1 (by intro d z; cases z) bpg
    have hlg := paired_len pg
    have hlw := paired_len pw
    rw [List.length_map] at hlg hlw
    refine ⟨_, rfl, ag, xg, rfl, SqL.of bag, for_it (walk_enum (K := K) (a := ag) (xs := xg)) (fun i σ H' => ∃ v3 v4 kg, σ = [some (.ref c), some (.ref ag), some (.ref aw), v3, v4] ∧ Same (del d1 Hb) H' ∧ H' d1 = some (.dK kg) ∧ Paired (GEnt H') (G.take i) kg)
      ⟨_, _, [], rfl, Same.del_l, b1, .nil⟩ (fun i σ H' _ ⟨_, _, _, _, e, _⟩ => SqL.of (e _ _ (by rw [del_ne (ne_of bag b1 (by intro z; cases z))]; exact bag))) ?_ ?_⟩
    · rintro i v σ H' H'' hi ⟨v3, v4, kg, rfl, e, h1, hpg⟩ ⟨tt, y, z, rfl, hnt, rfl, hy, hz⟩
      cases hy
      obtain ⟨d, hd, t, rfl, ht⟩ := paired_at (tups_mono e bpg1) hz
      obtain ⟨g, hg, rfl⟩ := map_at hd
      have gok := okG.2 g (at_mem hg)
      have e1 := Same.new (o := .tup [.int (i : Int), .ref t]) hnt
      refine ⟨tt, _, rfl, SqT.of upd_same, rfl, _, _, rfl, _, _, rfl, rfl, ?_⟩
      refine ⟨_, rfl, _, _, rfl, rfl, _, rfl, ?_⟩
      rw [decide_eq_false (show ¬ (12 : Int) ≤ (i : Int) by omega)]
      refine ⟨_, rfl, t, g, rfl, e1 _ _ ht, gok, fun H1 e2 => ⟨true, rfl, ?_⟩⟩
      have e3 := e1.trans e2
      have hc1 : H1 c = some (.ins CC dx (flds d1 d2)) := (e.trans e3) _ _ (by rw [del_ne hcd1]; exact bc)
      have hnew : valV kg (Sum.inr g.name : Key) = none := by
        refine gnd_new hpg ?_
        have hm : (G.map (·.name))[i]? = some g.name := by rw [List.getElem?_map, hg]; rfl
        rw [List.map_take]
        exact not_in_take okG.1 hm
      have hDG : DGet H1 d1 (.str g.name) none := by rw [← hnew]; exact DGet.k (k := Sum.inr g.name) (e3 _ _ h1)
      refine ⟨_, rfl, t, _, _, _, rfl, rfl, SqT.of (e3 _ _ ht), rfl, _, rfl, c, CC, dx, _, _, rfl, hc1, T.clC, T.n_by_ground, flds_g d1 d2, d1, _, rfl, hDG, _, rfl, ?_⟩
      refine ⟨_, rfl, t, _, _, _, rfl, rfl, SqT.of (e3 _ _ ht), rfl, _, rfl, t, g, rfl, e3 _ _ ht, gok, fun sw H2 e4 => ⟨szle (by simp), fun p hp => ?_⟩⟩
      have e5 := Same.new (o := .tup [.int g.hgt, .ref sw]) hp
      have e6 := (e3.trans e4).trans e5
      have hlk := paired_len hpg
      have hpd : p ≠ d1 := fun z => by rw [z, (e3.trans e4) _ _ h1] at hp; cases hp
      rw [List.length_take] at hlk
      refine ⟨_, rfl, c, CC, dx, _, _, rfl, (e4.trans e5) _ _ hc1, T.clC, T.n_by_ground, flds_g d1 d2, _, rfl, t, _, _, _, rfl, rfl, SqT.of (e6 _ _ ht), rfl, d1, _, rfl, DPut.k (k := Sum.inr g.name) (e6 _ _ h1) (szl (by omega)), ?_⟩
      have e7 : Same (del d1 H') (upd (upd H2 p (.tup [.int g.hgt, .ref sw])) d1 (.dK (putK kg (Sum.inr g.name) (.ref p)))) := (Same.del_l.trans e6).mut del_same
      refine ⟨_, _, kg ++ [(Sum.inr g.name, .ref p)], rfl, (e.trans e6).mut del_same, by rw [putK_new _ hnew, upd_same], ?_⟩
      rw [take_snoc hg]
      refine paired_snoc ⟨rfl, sw, p, rfl, ?_⟩ (gents_mono e7 (gents_del h1 hpg))
      rw [upd_ne hpd, upd_same]
    · rintro σ H3 ⟨v3, v4, kg, rfl, e, h1, hpg⟩
      have f2 : H3 d2 = some (.dK []) := e _ _ (by rw [del_ne hd12.symm]; exact b2)
      have fc : H3 c = some (.ins CC dx (flds d1 d2)) := e _ _ (by rw [del_ne hcd1]; exact bc)
      have faw : H3 aw = some (.lst xw) := e _ _ (by rw [del_ne (ne_of baw b1 (by intro z; cases z))]; exact baw)
      have fpw := tups_del f2 (by intro d z; cases z) (tups_mono e (tups_del b1 (by intro d z; cases z) bpw))
      rw [← hlg, List.take_length] at hpg
      refine ⟨_, rfl, aw, xw, rfl, SqL.of faw, for_it (walk_enum (K := K) (a := aw) (xs := xw)) (fun i σ H' => ∃ v3 v4 kw, σ = [some (.ref c), some (.ref ag), some (.ref aw), v3, v4] ∧ Same (del d2 H3) H' ∧ CtyAt CC H' c G (W.take i) dx d1 d2 kg kw)
        ⟨_, _, [], rfl, Same.del_l, fc, h1, f2, hpg, .nil, hd12⟩ (fun i σ H' _ ⟨_, _, _, _, e, _⟩ => SqL.of (e _ _ (by rw [del_ne (ne_of faw f2 (by intro z; cases z))]; exact faw))) ?_ ?_⟩
      · rintro i v σ H' H'' hi ⟨v3, v4, kw, rfl, e', hK⟩ ⟨tt, y, z, rfl, hnt, rfl, hy, hz⟩
        cases hy
        obtain ⟨d, hd, t, rfl, ht⟩ := paired_at (tups_mono e' fpw) hz
        obtain ⟨y, hg, rfl⟩ := map_at hd
        have yok := okW.2 y (at_mem hg)
        have e1 := Same.new (o := .tup [.int (i : Int), .ref t]) hnt
        refine ⟨tt, _, rfl, SqT.of upd_same, rfl, _, _, rfl, _, _, rfl, rfl, ?_⟩
        refine ⟨_, rfl, _, _, rfl, rfl, _, rfl, ?_⟩
        rw [decide_eq_false (show ¬ (30 : Int) ≤ (i : Int) by omega)]
        refine ⟨_, rfl, t, G, y, rfl, e1 _ _ ht, yok, fun H1 e2 => ⟨true, rfl, ?_⟩⟩
        have e3 := e1.trans e2
        have hK1 := hK.mono e3
        refine ⟨_, rfl, c, dx, _, rfl, hK1.obj, flds_no d1 d2 (by decide +kernel) (by decide +kernel), _, rfl, c, t, G, W.take i, y, dx, d1, d2, kg, kw, rfl, hK1, e3 _ _ ht, yok, ?_, ?_, fun kw' H2 e4 hK2 => ?_⟩
        · have := take_le W i
          omega
        · have hm : (W.map (·.name))[i]? = some y.name := by rw [List.getElem?_map, hg]; rfl
          rw [List.map_take]
          exact not_in_take okW.1 hm
        · refine ⟨_, _, kw', rfl, Same.del_trans (e'.trans e3) e4, ?_⟩
          rw [take_snoc hg]
          exact hK2
      · rintro σ H' ⟨v3, v4, kw, rfl, e', hK⟩
        rw [← hlw, List.take_length] at hK
        refine q H' ?_ ⟨dx, d1, d2, kg, kw, hK⟩
        have n1 : (del c H) d1 = none := by rw [del_ne hcd1.symm]; exact hd1
        have n2 : (del c H) d2 = none := by rw [del_ne hcd2.symm]; exact hd2H
        exact (((eb.del_r n1).trans e).del_r n2).trans e'
end
end DG

namespace DG
open PySem L2
open PyProof.Rows (envOfC)
section
variable {P : Program} {w : World} {K : PySem.W.Frag} {mg : Str → Option Value} {base : Heap} {CS CC CW : Addr}
abbrev s_laid : Stmt := top 19
abbrev n_laid : List Str := ["country", "ground", "day", "steps", "rests", "walks", "here", "first", "last", "step"]
theorem sc_laid : FnScope n_laid ["country", "ground", "day", "steps"] (defScope s_laid) := ⟨rfl, rfl, rfl, by decide +kernel, rfl, by decide +kernel, by decide +kernel⟩

theorem ok_laid (D : Def K mg "laid" s_laid ["country", "ground", "day", "steps"]) (T : Txt K mg CS CC CW) (c_sward : MCal P w K mg base 2 CC "sward" ["self", "ground"] (sp_sward CC)) (c_ends : MCal P w K mg base 2 CC "ends" ["self", "way"] (sp_ends CC))
    (c_leads_from : Cal P w K mg base 3 "leads_from" ["country", "way", "ground"] (sp_leads_from CC)) : Cal P w K mg base 4 "laid" ["country", "ground", "day", "steps"] (sp_laid CC) := by
  refine D.cal sc_laid (fun vs H Q E h => ?_) (fun f cdv A outer s H vs Q E hr h => ?_)
  · obtain ⟨c, a, G, W, g, day, ks, rfl, _⟩ := h; rfl
  · obtain ⟨c, a, G, W, g, day, ks, rfl, hC, hg, okW, lenW, hS, lenK, q⟩ := h
    obtain ⟨dx, d1, d2, kg, kw, hK⟩ := id hC
    refine ⟨_, (pss_cons (ps_expr (pe_mcal (pv 0) T.clC c_sward hr (pa_cons (pv 1) pa_nil)))
      (pss_cons (ps_set (i := 4) sc_laid.nd rfl (Or.inl rfl) (pe_lst pa_nil))
      (pss_cons (ps_set (i := 5) sc_laid.nd rfl (Or.inl rfl) (pe_lst pa_nil))
      (pss_cons (ps_set (i := 6) sc_laid.nd rfl (Or.inl rfl) (pv 1))
      (pss_cons (ps_set (i := 7) sc_laid.nd rfl (Or.inl rfl) (pv 2))
      (pss_cons (ps_set (i := 8) sc_laid.nd rfl (Or.inl rfl) (pv 2))
      (pss_cons (ps_for PassesOwn.never rfl (pi_list (pv 3)) (pg_name (i := 9) sc_laid.nd rfl (Or.inl rfl))
        (pss_cons (ps_if (pt_not (pt_val (pe_bf call_is T.isinstance (pa_cons (pv 9) (pa_cons (pe_ty (T := "str") T.str) pa_nil))))) (pss_cons (ps_set (i := 8) sc_laid.nd rfl (Or.inl rfl) (pe_op op_add (pv 8) (pv 9)))
      (pss_one ps_continue)) pss_nil)
      (pss_cons (ps_expr (pe_bm PySem.F.plainAttrs_list PySem.F.slot_list_append PySem.F.type_list_append mt_append (pv 4) (pa_cons (pe_tup (pa_cons (pv 6) (pa_cons (pv 7) (pa_cons (pv 8) pa_nil)))) pa_nil)))
      (pss_cons (ps_if (pt_not (pt_val (pe_cal c_leads_from hr (pa_cons (pv 0) (pa_cons (pv 9) (pa_cons (pv 6) pa_nil)))))) (pss_one (ps_ret (pe_tup (pa_cons (pv 4) (pa_cons (pv 5) (pa_cons (pe_tup (pa_cons (pe_op op_add (pv 8) pe_int) (pa_cons (pv 9) pa_nil))) pa_nil)))))) pss_nil)
      (pss_cons (ps_set (i := 8) sc_laid.nd rfl (Or.inl rfl) (pe_op op_add (pv 8) pe_int))
      (pss_cons (ps_set (i := 7) sc_laid.nd rfl (Or.inl rfl) (pv 8))
      (pss_cons (ps_expr (pe_bm PySem.F.plainAttrs_list PySem.F.slot_list_append PySem.F.type_list_append mt_append (pv 5) (pa_cons (pe_tup (pa_cons (pv 8) (pa_cons (pv 9) pa_nil))) pa_nil)))
      (pss_one (ps_set (i := 6) sc_laid.nd rfl (Or.inl rfl) (pe_ix ix_tup (pe_mcal (pv 0) T.clC c_ends hr (pa_cons (pv 9) pa_nil)) pe_int (fun _ _ => rfl)))))))))))
      (pss_cons (ps_expr (pe_bm PySem.F.plainAttrs_list PySem.F.slot_list_append PySem.F.type_list_append mt_append (pv 4) (pa_cons (pe_tup (pa_cons (pv 6) (pa_cons (pv 7) (pa_cons (pv 8) pa_nil)))) pa_nil)))
      (pss_one (ps_ret (pe_tup (pa_cons (pv 4) (pa_cons (pv 5) (pa_cons pe_non pa_nil)))))))))))))), ?_⟩
    refine ⟨_, rfl, c, dx, _, rfl, hK.obj, flds_no d1 d2 (by decide +kernel) (by decide +kernel), _, rfl, c, G, W, g, rfl, hC, hg, fun _ => ?_⟩
    refine ⟨Nat.zero_le _, fun lr hlr => ⟨Nat.zero_le _, fun lw hlw => ?_⟩⟩
    have e1 : Same H (upd H lr (.lst [])) := Same.new hlr
    have e2 := Same.new (o := .lst []) hlw
    have hlw0 : H lw = none := e1.none hlw
    have hne : lr ≠ lw := ne_of_none upd_same hlw
    have h1r := e2 _ _ (upd_same (H := H) (a := lr) (o := .lst []))
    have h1w : (upd (upd H lr (.lst [])) lw (.lst [])) lw = some (.lst []) := upd_same
    generalize upd (upd H lr (.lst [])) lw (.lst []) = H1 at e2 h1r h1w ⊢
    have e0 : Same H (del2 lr lw H1) := Same.del2_r (e1.trans e2) hlr hlw0
    refine ⟨_, rfl, _, rfl, _, rfl, _, rfl, a, rfl, ⟨_, SqL.of ((e1.trans e2) _ _ hS)⟩, for_list (K := K) (a := a) (xs := ks.map kV)
      (fun i σ H' => ∃ (R : List Rest) (M : List Walk) (gh : Gnd) (first last : Int) (v9 : Option V) (xr xw : List V), σ = [some (.ref c), some (.str g.name), some (.int day), some (.ref a), some (.ref lr), some (.ref lw), some (.str gh.name), some (.int first), some (.int last), v9] ∧
        Same (del2 lr lw H1) H' ∧ H' lr = some (.lst xr) ∧ Paired (TupAt H') (R.map restV) xr ∧ H' lw = some (.lst xw) ∧ Paired (TupAt H') (M.map walkV) xw ∧ gndOf G gh.name = some gh ∧ R.length ≤ i ∧ M.length ≤ i ∧
        lay W g.name day day ks = (R ++ (lay W gh.name first last (ks.drop i)).1, M ++ (lay W gh.name first last (ks.drop i)).2.1, (lay W gh.name first last (ks.drop i)).2.2))
      ⟨[], [], g, day, day, none, [], [], rfl, Same.del2_l, h1r, .nil, h1w, .nil, hg, Nat.le_refl _, Nat.le_refl _, rfl⟩ (fun i σ H' _ ⟨_, _, _, _, _, _, _, _, _, e, _⟩ => SqL.of ((e0.trans e) _ _ hS)) ?_ ?_⟩
    · rintro i x σ H' hx ⟨R, M, gh, first, last, v9, xr, xw, rfl, e, hr1, pr, hw1, pw, hgh, lR, lM, hlay⟩
      obtain ⟨k, hk, rfl⟩ := map_at hx
      have hi := at_lt hk
      rw [drop_cons hk] at hlay
      cases k with
      | inl n =>
        refine ⟨_, rfl, _, _, _, rfl, .intStr n, _, rfl, ?_⟩
        refine ⟨_, rfl, _, rfl, last, n, rfl, rfl, ?_⟩
        exact ⟨R, M, gh, first, last + n, _, xr, xw, rfl, e, hr1, pr, hw1, pw, hgh, by omega, by omega, hlay⟩
      | inr x =>
        refine ⟨_, rfl, _, _, _, rfl, .strStr x, _, rfl, ?_⟩
        have lxr := paired_len pr
        have lxw := paired_len pw
        rw [List.length_map] at lxr lxw
        refine ⟨_, rfl, .inl ⟨rfl, _, SqL.of hr1⟩, _, rfl, _, rfl, _, rfl, szle (by simp), fun p hp => ?_⟩
        have ep := Same.new (o := .tup [.str gh.name, .int first, .int last]) hp
        refine ⟨lr, xr, _, rfl, rfl, ep _ _ hr1, szl (by omega), ?_⟩
        have hpr : p ≠ lr := fun z => by rw [z, hr1] at hp; cases hp
        have e3 : Same (del2 lr lw H') (upd (upd H' p (.tup [.str gh.name, .int first, .int last])) lr (.lst (xr ++ [.ref p]))) := (Same.del2_l.trans ep).mut del2_l
        have hr2 : (upd (upd H' p (.tup [.str gh.name, .int first, .int last])) lr (.lst (xr ++ [.ref p]))) lr = some (.lst (xr ++ [.ref p])) := upd_same
        have hp2 : (upd (upd H' p (.tup [.str gh.name, .int first, .int last])) lr (.lst (xr ++ [.ref p]))) p = some (.tup [.str gh.name, .int first, .int last]) := by rw [upd_ne hpr, upd_same]
        have hw2 : (upd (upd H' p (.tup [.str gh.name, .int first, .int last])) lr (.lst (xr ++ [.ref p]))) lw = some (.lst xw) := by rw [upd_ne hne.symm]; exact ep _ _ hw1
        have pr2 := paired_snoc (F := TupAt (upd (upd H' p (.tup [.str gh.name, .int first, .int last])) lr (.lst (xr ++ [.ref p])))) (a := restV (gh.name, first, last)) ⟨p, rfl, hp2⟩ (tups_mono e3 (tups_del2 hr1 hw1 pr))
        have pw2 := tups_mono e3 (tups_del2 hr1 hw1 pw)
        generalize upd (upd H' p (.tup [.str gh.name, .int first, .int last])) lr (.lst (xr ++ [.ref p])) = H2 at e3 hr2 hp2 hw2 pr2 pw2 ⊢
        have e02 := e0.trans (Same.del2_trans e e3)
        refine ⟨_, rfl, _, rfl, _, rfl, c, G, W, x, gh, rfl, hC.mono e02, hgh, okW.1, lenW, fun H3 e4 => ⟨_, rfl, ?_⟩⟩
        cases hl : lead W x gh.name with
        | none =>
          rw [lay_none hl] at hlay
          refine ⟨_, rfl, _, rfl, _, rfl, last, 1, rfl, rfl, _, rfl, szle (by simp), fun p2 hp2 => ⟨szle (by simp), fun p3 hp3 => ?_⟩⟩
          have e5 := Same.new (o := .tup [.int (last + 1), .str x]) hp2
          have e6 := Same.new (o := .tup [.ref lr, .ref lw, .ref p2]) hp3
          have e7 := (e4.trans e5).trans e6
          refine q p3 _ (e02.trans e7) ?_
          rw [hlay]
          refine ⟨lr, lw, .ref p2, upd_same, ⟨_, e7 _ _ hr2, ?_⟩, ⟨_, e7 _ _ hw2, ?_⟩, p2, rfl, e6 _ _ upd_same⟩
          · show Paired _ (List.map restV (R ++ [(gh.name, first, last)])) _
            rw [List.map_append]
            exact tups_mono e7 pr2
          · show Paired _ (List.map walkV (M ++ [])) _
            rw [List.append_nil]
            exact tups_mono e7 pw2
        | some f =>
          rw [lay_some hl] at hlay
          obtain ⟨y, hy, rfl, hyt, rfl⟩ := lead_some hl
          obtain ⟨gt, _, gf, hgf, _⟩ := (okW.2 y hy).tp
          have hgn := (gndOf_name hgf).1
          refine ⟨_, rfl, last, 1, rfl, rfl, _, rfl, _, rfl, .inl ⟨rfl, _, SqL.of (e4 _ _ hw2)⟩, _, rfl, _, rfl, szle (by simp), fun p2 hp2 => ?_⟩
          have e5 := Same.new (o := .tup [.int (last + 1), .str y.name]) hp2
          refine ⟨lw, xw, _, rfl, rfl, (e4.trans e5) _ _ hw2, szl (by omega), ?_⟩
          have hpw : p2 ≠ lw := fun z => by rw [z, e4 _ _ hw2] at hp2; cases hp2
          have e6 : Same (del2 lr lw H2) (upd (upd H3 p2 (.tup [.int (last + 1), .str y.name])) lw (.lst (xw ++ [.ref p2]))) := (Same.del2_l.trans (e4.trans e5)).mut del2_m
          have e06 := e0.trans (Same.del2_trans (Same.del2_trans e e3) e6)
          have hr3 : (upd (upd H3 p2 (.tup [.int (last + 1), .str y.name])) lw (.lst (xw ++ [.ref p2]))) lr = some (.lst (xr ++ [.ref p])) := by rw [upd_ne hne]; exact (e4.trans e5) _ _ hr2
          have hw3 : (upd (upd H3 p2 (.tup [.int (last + 1), .str y.name])) lw (.lst (xw ++ [.ref p2]))) lw = some (.lst (xw ++ [.ref p2])) := upd_same
          have hp3 : (upd (upd H3 p2 (.tup [.int (last + 1), .str y.name])) lw (.lst (xw ++ [.ref p2]))) p2 = some (.tup [.int (last + 1), .str y.name]) := by rw [upd_ne hpw, upd_same]
          have pr3 := tups_mono e6 (tups_del2 hr2 hw2 pr2)
          have pw3 := paired_snoc (F := TupAt (upd (upd H3 p2 (.tup [.int (last + 1), .str y.name])) lw (.lst (xw ++ [.ref p2])))) (a := walkV (last + 1, y.name)) ⟨p2, rfl, hp3⟩ (tups_mono e6 (tups_del2 hr2 hw2 pw2))
          refine ⟨_, rfl, c, dx, _, rfl, e06 _ _ hK.obj, flds_no d1 d2 (by decide +kernel) (by decide +kernel), _, rfl, c, G, W, y, rfl, hC.mono e06, wayOf_mem okW.1 hy, fun t H5 e8' ht => ?_⟩
          have e8 : Same (upd (upd H3 p2 (.tup [.int (last + 1), .str y.name])) lw (.lst (xw ++ [.ref p2]))) H5 := e8'
          refine ⟨t, _, _, .str y.ft, rfl, rfl, SqT.of ht, rfl, ?_⟩
          have e9 : Same (del2 lr lw H1) H5 := (Same.del2_trans (Same.del2_trans e e3) e6).trans e8
          refine ⟨R ++ [(gh.name, first, last)], M ++ [(last + 1, y.name)], gf, last + 1, last + 1, _, xr ++ [.ref p], xw ++ [.ref p2], by rw [hgn]; rfl, e9, e8 _ _ hr3, ?_, e8 _ _ hw3, ?_, by rw [hgn]; exact hgf, ?_, ?_, ?_⟩
          · rw [List.map_append]
            exact tups_mono e8 pr3
          · rw [List.map_append]
            exact tups_mono e8 pw3
          · rw [List.length_append]; simp; omega
          · rw [List.length_append]; simp; omega
          · rw [hlay, hgn]
            simp only [List.append_assoc, List.singleton_append]
    · rintro σ H' ⟨R, M, gh, first, last, v9, xr, xw, rfl, e, hr1, pr, hw1, pw, hgh, lR, lM, hlay⟩
      rw [List.length_map] at lR lM hlay
      rw [List.drop_length] at hlay
      have lxr := paired_len pr
      rw [List.length_map] at lxr
      refine ⟨_, rfl, .inl ⟨rfl, _, SqL.of hr1⟩, _, rfl, _, rfl, _, rfl, szle (by simp), fun p hp => ?_⟩
      have ep := Same.new (o := .tup [.str gh.name, .int first, .int last]) hp
      refine ⟨lr, xr, _, rfl, rfl, ep _ _ hr1, szl (by omega), ?_⟩
      have hpr : p ≠ lr := fun z => by rw [z, hr1] at hp; cases hp
      have e3 : Same (del2 lr lw H') (upd (upd H' p (.tup [.str gh.name, .int first, .int last])) lr (.lst (xr ++ [.ref p]))) := (Same.del2_l.trans ep).mut del2_l
      refine ⟨_, rfl, _, rfl, szle (by simp), fun p2 hp2 => ?_⟩
      have e4 := Same.new (o := .tup [.ref lr, .ref lw, .non]) hp2
      refine q p2 _ ((e0.trans (Same.del2_trans e e3)).trans e4) ?_
      rw [hlay]
      refine ⟨lr, lw, .non, upd_same, ⟨_, e4 _ _ upd_same, ?_⟩, ⟨_, e4 _ _ (by rw [upd_ne hne.symm]; exact ep _ _ hw1), ?_⟩, rfl⟩
      · show Paired _ (List.map restV (R ++ [(gh.name, first, last)])) _
        rw [List.map_append]
        exact tups_mono e4 (paired_snoc ⟨p, rfl, by rw [upd_ne hpr, upd_same]; rfl⟩ (tups_mono e3 (tups_del2 hr1 hw1 pr)))
      · show Paired _ (List.map walkV (M ++ [])) _
        rw [List.append_nil]
        exact tups_mono e4 (tups_mono e3 (tups_del2 hr1 hw1 pw))
end
end DG

namespace DG
open PySem L2
open PyProof.Rows (envOfC)
section
variable {P : Program} {w : World} {K : PySem.W.Frag} {mg : Str → Option Value} {base : Heap} {CS CC CW : Addr}
abbrev s_law_bag : Stmt := top 43
abbrev n_law_bag : List Str := ["_law_script", "_law_cell"]
theorem sc_law_bag : FnScope n_law_bag ["_law_script"] (defScope s_law_bag) := ⟨rfl, rfl, rfl, by decide +kernel, rfl, by decide +kernel, by decide +kernel⟩

theorem slice_ints (ns : List Int) (hi : Option Int) : ∃ k, cutV (ns.map V.int) none hi = (ns.take k).map V.int := by
  refine ⟨HT.sIx (ns.map V.int).length (ns.map V.int).length hi - 0, ?_⟩
  unfold cutV
  rw [HT.sIx_none, List.drop_zero, List.map_take]
def absI (i : Int) : Int := if i < 0 then -i else i
theorem absI_nn (i : Int) : 0 ≤ absI i := by
  unfold absI
  split <;> omega
theorem ok_law_bag (D : Def K mg "_law_bag" s_law_bag ["_law_script"]) (T : Txt K mg CS CC CW) : Cal P w K mg base 1 "_law_bag" ["_law_script"] (sp_law_bag K) := by
  refine D.cal sc_law_bag (fun vs H Q E h => ?_) (fun f cdv A outer s H vs Q E hr h => ?_)
  · obtain ⟨a, ns, rfl, _⟩ := h; rfl
  · obtain ⟨a, ns, rfl, hS, hlen, q⟩ := h
    refine ⟨_, (pss_one (ps_ret (pe_lst (pa_cons pe_int (pa_cons pe_int (pa_cons pe_int (pa_cons (pe_lc (own := [("_law_cell", 1)]) (tt := tYes) rfl sc_law_bag.nd (pi_list (pe_slice sl_list (pv 0) po_none (po_some pe_int))) (blkOk_by (N := n_law_bag) (sc := defScope s_law_bag) (by decide +kernel)) (fun _ _ _ _ _ => (pg_name (i := 1) sc_law_bag.nd rfl (Or.inl rfl))) (fun _ _ _ _ _ => pts_nil) (fun _ _ _ _ _ => (pe_bf call_abs T.abs (pa_cons (pv 1) pa_nil)))) pa_nil))))))), ?_⟩
    obtain ⟨k, hk⟩ := slice_ints ns (some 63)
    refine ⟨_, rfl, _, rfl, a, _, rfl, hS, fun l hl => ?_⟩
    have hl1 : (upd H l (.lst (cutV (ns.map V.int) none (some 63)))) l = some (.lst ((ns.take k).map V.int)) := by rw [upd_same, hk]
    have e0 := Same.new (o := .lst (cutV (ns.map V.int) none (some 63))) hl
    generalize upd H l (.lst (cutV (ns.map V.int) none (some 63))) = H1 at hl1 e0 ⊢
    have hk2 := take_le ns k
    generalize ns.take k = zs at hl1 hk2
    have hz : zs.length ≤ 63 := by omega
    refine ⟨l, rfl, ⟨_, SqL.of hl1⟩, fun D hD => lc_list (K := K) (a := l) (xs := zs.map V.int) (fun i H' => Same H1 H' ∧ H' D = some (.lst (((zs.take i).map absI).map V.int))) ⟨Same.new hD, upd_same⟩ (fun i H' _ h => SqL.of (h.1 _ _ hl1)) ?_ ?_⟩
    · rintro i x H' hx ⟨e, hd⟩
      obtain ⟨n, hn, rfl⟩ := map_at hx
      refine ⟨rfl, _, rfl, n, rfl, _, hd, ?_, e.mut hD, ?_⟩
      · rw [List.length_map, List.length_map]
        have := take_le zs i
        exact szl (by omega)
      · rw [upd_same, map_snoc hn, List.map_append]
        rfl
    · rintro H' ⟨e, hd⟩
      rw [List.length_map, List.take_length] at hd
      refine ⟨szle (by simp), fun p hp => ?_⟩
      refine q p D (zs.map absI) H' _ (e0.trans e) ⟨Same.new hp, hp, ⟨_, upd_same, 0, 1234567891, 0, rfl, by decide, by decide, by decide, by decide⟩, hd, fun c hc => ?_⟩
      obtain ⟨z, _, rfl⟩ := List.mem_map.mp hc
      exact absI_nn z
abbrev s_law_take : Stmt := top 44
abbrev n_law_take : List Str := ["_law_bag_here", "_law_many", "_law_cell", "_law_value", "_law_first", "_law_second"]
theorem sc_law_take : FnScope n_law_take ["_law_bag_here", "_law_many"] (defScope s_law_take) := ⟨rfl, rfl, rfl, by decide +kernel, rfl, by decide +kernel, by decide +kernel⟩

theorem asg_c {i : Nat} {v : V} {t : TS} {D : Ends} {σ : L2.St} {H : Hp} (h : t D (σ.set i (some v)) H) : tSeq (tAsg (tC v) (gName i)) t D σ H := h
/-- the bag's list -/
def bo (q : Addr) (b0 b1 b2 : Int) : HO := .lst [.int b0, .int b1, .int b2, .ref q]
theorem upd_self {H : Hp} {p : Addr} {o : HO} (h : H p = some o) : upd H p o = H := by
  funext b
  by_cases hb : b = p
  · rw [hb, upd_same, h]
  · rw [upd_ne hb]
theorem ok_law_take (D : Def K mg "_law_take" s_law_take ["_law_bag_here", "_law_many"]) (T : Txt K mg CS CC CW) : Cal P w K mg base 1 "_law_take" ["_law_bag_here", "_law_many"] sp_law_take := by
  refine D.cal sc_law_take (fun vs H Q E h => ?_) (fun f cdv A outer s H vs Q E hr h => ?_)
  · obtain ⟨p, q0, cs, H0, m, rfl, _⟩ := h; rfl
  · obtain ⟨p, q0, cs, H0, m, rfl, hW, m0, m1, q⟩ := h
    obtain ⟨o, hp, b0, b1, b2, rfl, n0, n1, n1', n2⟩ := hW.bag
    have hq := hW.ext _ _ hW.cells
    refine ⟨_, (pss_cons (ps_if (pt_cmpR op_eq (pe_ix ix_list (pv 0) pe_int (fun _ _ => rfl)) pe_int (nomark _)) (pss_cons (ps_set (i := 2) sc_law_take.nd rfl (Or.inl rfl) pe_int)
      (pss_cons (ps_if (pt_cmpR op_lt (pe_ix ix_list (pv 0) pe_int (fun _ _ => rfl)) (pe_bf call_len_seq T.len (pa_cons (pe_ix ix_list (pv 0) pe_int (fun _ _ => rfl)) pa_nil)) (nomark _)) (pss_one (ps_set (i := 2) sc_law_take.nd rfl (Or.inl rfl) (pe_ix ix_list (pe_ix ix_list (pv 0) pe_int (fun _ _ => rfl)) (pe_ix ix_list (pv 0) pe_int (fun _ _ => rfl)) (fun _ _ => rfl)))) pss_nil)
      (pss_cons (ps_augS (pv 0) pe_int get_list pe_int ip_add set_list)
      (pss_cons (ps_if (pt_cmpR op_ge (pv 2) pe_int (nomark _)) (pss_one (ps_asg (pv 2) (pg_sub (pv 0) pe_int set_list))) pss_nil)
      (pss_one (ps_asg (pe_op op_mod (pe_op op_add (pe_op op_add (pe_op op_mul (pe_ix ix_list (pv 0) pe_int (fun _ _ => rfl)) pe_int) (pe_op op_mod (pv 2) pe_int)) (pe_op op_mul pe_int (pe_ix ix_list (pv 0) pe_int (fun _ _ => rfl)))) pe_int) (pg_sub (pv 0) pe_int set_list))))))) pss_nil)
      (pss_cons (ps_if (pt_cmpR op_gt (pe_ix ix_list (pv 0) pe_int (fun _ _ => rfl)) pe_int (nomark _)) (pss_cons (ps_set (i := 3) sc_law_take.nd rfl (Or.inl rfl) (pe_op op_mod (pe_ix ix_list (pv 0) pe_int (fun _ _ => rfl)) (pv 1)))
      (pss_cons (ps_asg (pe_op op_fdivW (pe_ix ix_list (pv 0) pe_int (fun _ _ => rfl)) (pv 1)) (pg_sub (pv 0) pe_int set_list))
      (pss_one (ps_ret (pv 3))))) pss_nil)
      (pss_cons (ps_set (i := 4) sc_law_take.nd rfl (Or.inl rfl) (pe_op op_mod (pe_op op_mul (pe_op op_add (pe_ix ix_list (pv 0) pe_int (fun _ _ => rfl)) pe_int) pe_int) pe_int))
      (pss_cons (ps_set (i := 5) sc_law_take.nd rfl (Or.inl rfl) (pe_op op_mod (pe_op op_mul (pe_op op_mod (pe_op op_mul (pv 4) (pv 4)) pe_int) pe_int) pe_int))
      (pss_cons (ps_if (pt_cmpR op_gt (pv 1) pe_int (nomark _)) (pss_one (ps_ret (pe_op op_mod (pe_op op_add (pe_op op_mul (pv 5) pe_int) (pv 4)) (pv 1)))) pss_nil)
      (pss_one (ps_ret (pe_op op_mod (pe_op op_fdivW (pv 5) pe_int) (pv 1))))))))), ?_⟩
    refine seq_mid (fun σ' H' => ∃ (c0 c1 c2 : Int) (v : Option V), σ' = [some (.ref p), some (.int m), v, none, none, none] ∧ H' = upd H p (bo q0 c0 c1 c2) ∧ 0 ≤ c0 ∧ 0 ≤ c1 ∧ c1 < 2147483647 ∧ 0 ≤ c2) ?_ fun N hN => ?_
    · rintro σ' H' ⟨c0, c1, c2, v, rfl, rfl, k0, k1, k1', k2⟩
      have hb : SqL K (upd H p (bo q0 c0 c1 c2)) p [.int c0, .int c1, .int c2, .ref q0] := SqL.of upd_same
      refine ⟨_, rfl, p, _, _, _, rfl, rfl, hb, rfl, _, _, rfl, rfl, _, rfl, ?_⟩
      by_cases hc : 0 < c0
      · rw [decide_eq_true hc]
        refine ⟨_, rfl, p, _, _, _, rfl, rfl, hb, rfl, _, rfl, _, _, rfl, rfl, m0, ?_⟩
        refine ⟨_, rfl, p, _, _, _, rfl, rfl, hb, rfl, _, rfl, _, _, rfl, rfl, wide_div (b := 41) m0 (by omega) (by decide) (by decide), _, rfl, p, _, _, 0, rfl, rfl, upd_same, rfl, ?_⟩
        refine ⟨_, rfl, ?_⟩
        rw [upd_upd]
        exact q (c0 % m) (bo q0 (c0 / m) c1 c2) (Int.emod_nonneg _ (by omega)) (Int.emod_lt_of_pos _ m0) ⟨_, _, _, rfl, Int.ediv_nonneg k0 (by omega), k1, k1', k2⟩
      · rw [decide_eq_false hc]
        refine ⟨_, rfl, p, _, _, _, rfl, rfl, hb, rfl, _, _, rfl, rfl, _, _, rfl, rfl, .inr ⟨by decide, by decide⟩, _, _, rfl, rfl, (by show (0 : Int) < 1000000007; decide), ?_⟩
        have f0 : 0 ≤ (c1 + 1) * 39373 % 1000000007 := Int.emod_nonneg _ (by decide)
        have f1 : (c1 + 1) * 39373 % 1000000007 < 1000000007 := Int.emod_lt_of_pos _ (by decide)
        generalize (c1 + 1) * 39373 % 1000000007 = first at f0 f1 ⊢
        refine ⟨_, rfl, _, rfl, _, _, rfl, rfl, .inl ⟨by omega, by omega⟩, _, _, rfl, rfl, (by show (0 : Int) < 998244353; decide), _, _, rfl, rfl, .inr ⟨by decide, by decide⟩, _, _, rfl, rfl, (by show (0 : Int) < 998244353; decide), ?_⟩
        generalize first * first % 998244353 * 30011 % 998244353 = second
        have bo_ : BagO q0 (bo q0 c0 c1 c2) := ⟨_, _, _, rfl, k0, k1, k1', k2⟩
        refine ⟨_, rfl, _, _, rfl, rfl, _, rfl, ?_⟩
        by_cases hm : 1000000 < m
        · rw [decide_eq_true hm]
          refine ⟨_, rfl, _, _, rfl, rfl, .inr ⟨by decide, by decide⟩, _, rfl, _, _, rfl, rfl, _, rfl, _, _, rfl, rfl, m0, ?_⟩
          exact q _ _ (Int.emod_nonneg _ (by omega)) (Int.emod_lt_of_pos _ m0) bo_
        · rw [decide_eq_false hm]
          refine ⟨_, rfl, _, _, rfl, rfl, ⟨by decide, by decide⟩, _, rfl, _, _, rfl, rfl, m0, ?_⟩
          exact q _ _ (Int.emod_nonneg _ (by omega)) (Int.emod_lt_of_pos _ m0) bo_
    · have hb : SqL K H p [.int b0, .int b1, .int b2, .ref q0] := SqL.of hp
      refine ⟨_, rfl, p, _, _, _, rfl, rfl, hb, rfl, rfl, _, rfl, ?_⟩
      by_cases hc : b0 = 0
      · rw [decide_eq_true (congrArg V.int hc)]
        refine iteT (asg_c ?_)
        refine seq_mid (fun σ' H' => ∃ c : Int, σ' = [some (.ref p), some (.int m), some (.int c), none, none, none] ∧ H' = H ∧ 0 ≤ c) ?_ fun N2 hN2 => ?_
        · rintro σ' H' ⟨c, rfl, rfl, hc0⟩
          refine ⟨_, rfl, p, _, _, _, rfl, rfl, hb, rfl, _, _, rfl, rfl, p, _, _, 2, rfl, rfl, hp, rfl, ?_⟩
          dsimp only
          refine seq_mid (fun σ' H2 => ∃ d0 : Int, σ' = [some (.ref p), some (.int m), some (.int c), none, none, none] ∧ H2 = upd H' p (bo q0 d0 b1 (b2 + 1)) ∧ 0 ≤ d0) ?_ fun N3 hN3 => ?_
          · rintro σ' H2 ⟨d0, rfl, rfl, hd0⟩
            have hb2 : SqL K (upd H' p (bo q0 d0 b1 (b2 + 1))) p [.int d0, .int b1, .int (b2 + 1), .ref q0] := SqL.of upd_same
            refine ⟨_, rfl, p, _, _, _, rfl, rfl, hb2, rfl, _, _, rfl, rfl, .inr ⟨by decide, by decide⟩, _, rfl, _, _, rfl, rfl, (by show (0 : Int) < 2147483647; decide), _, _, rfl, rfl, _, rfl, p, _, _, _, rfl, rfl, hb2, rfl, _, _, rfl, rfl, .inl ⟨by decide, by decide⟩, _, _, rfl, rfl, _, _, rfl, rfl, (by show (0 : Int) < 2147483647; decide), _, rfl, p, _, _, 1, rfl, rfl, upd_same, rfl, ?_⟩
            rw [upd_upd]
            exact hN _ _ ⟨d0, _, b2 + 1, _, rfl, rfl, hd0, Int.emod_nonneg _ (by decide), Int.emod_lt_of_pos _ (by decide), by omega⟩
          · refine ⟨_, rfl, _, _, rfl, rfl, _, rfl, ?_⟩
            by_cases hbig : (1000000000000000000 : Int) ≤ c
            · rw [decide_eq_true hbig]
              refine ⟨_, rfl, _, rfl, p, _, _, 0, rfl, rfl, upd_same, rfl, ?_⟩
              rw [upd_upd]
              exact hN3 _ _ ⟨c, rfl, rfl, hc0⟩
            · rw [decide_eq_false hbig]
              exact hN3 _ _ ⟨b0, rfl, rfl, n0⟩
        · refine ⟨_, rfl, p, _, _, _, rfl, rfl, hb, rfl, _, rfl, p, _, _, _, rfl, rfl, hb, rfl, q0, _, rfl, .inl (SqL.of hq), _, _, rfl, rfl, _, rfl, ?_⟩
          by_cases hlt : b2 < ((cs.map V.int).length : Int)
          · rw [decide_eq_true hlt]
            rw [List.length_map] at hlt
            have hi : b2.toNat < cs.length := by omega
            have hg : (cs.map V.int)[b2.toNat]? = some (.int cs[b2.toNat]) := by rw [List.getElem?_map, List.getElem?_eq_getElem hi]; rfl
            have hat : atI (cs.map V.int) b2 = some (.int cs[b2.toNat]) := by
              have := atI_nat hg
              rwa [Int.toNat_of_nonneg n2] at this
            refine ⟨_, rfl, p, _, _, _, rfl, rfl, hb, rfl, _, rfl, p, _, _, _, rfl, rfl, hb, rfl, q0, _, b2, _, rfl, rfl, SqL.of hq, hat, ?_⟩
            exact hN2 _ _ ⟨_, rfl, rfl, hW.pos _ (List.getElem_mem hi)⟩
          · rw [decide_eq_false hlt]
            exact hN2 _ _ ⟨0, rfl, rfl, Int.le_refl 0⟩
      · rw [decide_eq_false (fun z => hc (V.int.inj z))]
        exact hN _ _ ⟨b0, b1, b2, _, rfl, (upd_self hp).symm, n0, n1, n1', n2⟩
end
end DG

namespace DG
open PySem L2
open PyProof.Rows (envOfC)
section
variable {P : Program} {w : World} {K : PySem.W.Frag} {mg : Str → Option Value} {base : Heap} {CS CC CW : Addr}
abbrev s_law_names : Stmt := top 45
abbrev n_law_names : List Str := ["_law_bag_here", "_law_many", "_law_letters", "_law_words", "_law_way", "_law_size", "_law_at", "_law_turn", "_law_base", "_law_k", "_law_names_here", "_law_word", "_law_j"]
theorem sc_law_names : FnScope n_law_names ["_law_bag_here", "_law_many"] (defScope s_law_names) := ⟨rfl, rfl, rfl, by decide +kernel, rfl, by decide +kernel, by decide +kernel⟩

theorem ok_law_names (D : Def K mg "_law_names" s_law_names ["_law_bag_here", "_law_many"]) (T : Txt K mg CS CC CW) (c_law_take : Cal P w K mg base 1 "_law_take" ["_law_bag_here", "_law_many"] sp_law_take) : Cal P w K mg base 2 "_law_names" ["_law_bag_here", "_law_many"] sp_law_names := by
  refine D.cal sc_law_names (fun vs H Q E h => ?_) (fun f cdv A outer s H vs Q E hr h => ?_)
  · obtain ⟨p, q0, cs, H0, rfl, _⟩ := h; rfl
  · obtain ⟨p, q0, cs, H0, rfl, hW, q⟩ := h
    refine ⟨_, (pss_cons (ps_set (i := 2) sc_law_names.nd rfl (Or.inr rfl) pe_str)
      (pss_cons (ps_set (i := 3) sc_law_names.nd rfl (Or.inl rfl) (pe_lst (pa_cons pe_str (pa_cons pe_str (pa_cons pe_str (pa_cons pe_str (pa_cons pe_str (pa_cons pe_str (pa_cons pe_str (pa_cons pe_str (pa_cons pe_str (pa_cons pe_str (pa_cons pe_str (pa_cons pe_str pa_nil))))))))))))))
      (pss_cons (ps_set (i := 3) sc_law_names.nd rfl (Or.inl rfl) (pe_op op_cat (pv 3) (pe_lst (pa_cons pe_str (pa_cons pe_str (pa_cons pe_str (pa_cons pe_str (pa_cons pe_str (pa_cons pe_str (pa_cons pe_str (pa_cons pe_str (pa_cons pe_str (pa_cons pe_str (pa_cons pe_str pa_nil))))))))))))))
      (pss_cons (ps_set (i := 3) sc_law_names.nd rfl (Or.inl rfl) (pe_op op_cat (pv 3) (pe_lst (pa_cons pe_str (pa_cons pe_str (pa_cons pe_str pa_nil))))))
      (pss_cons (ps_set (i := 4) sc_law_names.nd rfl (Or.inl rfl) (pe_cal c_law_take hr (pa_cons (pv 0) (pa_cons pe_int pa_nil))))
      (pss_cons (ps_set (i := 5) sc_law_names.nd rfl (Or.inl rfl) (pe_op op_add pe_int (pe_cal c_law_take hr (pa_cons (pv 0) (pa_cons pe_int pa_nil)))))
      (pss_cons (ps_set (i := 6) sc_law_names.nd rfl (Or.inr rfl) (pe_cal c_law_take hr (pa_cons (pv 0) (pa_cons (pv 5) pa_nil))))
      (pss_cons (ps_set (i := 7) sc_law_names.nd rfl (Or.inr rfl) (pe_cal c_law_take hr (pa_cons (pv 0) (pa_cons pe_int pa_nil))))
      (pss_cons (ps_set (i := 8) sc_law_names.nd rfl (Or.inr rfl) (pe_lc (own := [("_law_k", 9)]) (tt := tYes) rfl sc_law_names.nd (pi_range1 (by rfl) T.range (pa_cons (pv 5) pa_nil)) (blkOk_by (N := n_law_names) (sc := defScope s_law_names) (by decide +kernel)) (fun _ _ _ _ _ => (pg_name (i := 9) sc_law_names.nd rfl (Or.inl rfl))) (fun _ _ _ _ _ => pts_nil) (fun _ _ _ _ _ => (pe_cal c_law_take hr (pa_cons (pv 0) (pa_cons pe_int pa_nil))))))
      (pss_cons (ps_if (pt_cmpR op_eq (pv 4) pe_int (nomark _)) (pss_one (ps_ret (pe_slice sl_list (pe_op op_cat (pe_slice sl_list (pv 3) (po_some (pv 7)) po_none) (pe_slice sl_list (pv 3) po_none (po_some (pv 7)))) po_none (po_some (pv 1))))) pss_nil)
      (pss_cons (ps_set (i := 10) sc_law_names.nd rfl (Or.inl rfl) (pe_lst pa_nil))
      (pss_cons (ps_for PassesOwn.never rfl (pi_range1 (by rfl) T.range (pa_cons (pv 1) pa_nil)) (pg_name (i := 9) sc_law_names.nd rfl (Or.inr rfl))
        (pss_cons (ps_set (i := 11) sc_law_names.nd rfl (Or.inl rfl) (pe_join pe_str (pe_lc (own := [("_law_j", 12)]) (te := (tOp rIxS _ (tOp (rIxL K) (tLst (tCons (tOp (rIxL K) _ _) (tCons _ tNil))) _))) (tt := tYes) rfl sc_law_names.nd (pi_range1 (by rfl) T.range (pa_cons (pv 5) pa_nil)) (blkOk_by (N := n_law_names) (sc := defScope s_law_names) (by decide +kernel)) (fun _ _ _ _ _ => (pg_name (i := 12) sc_law_names.nd rfl (Or.inl rfl))) (fun _ _ _ _ _ => pts_nil) (fun _ _ _ _ _ => (pe_ix ix_str (pv 2) (pe_ix ix_list (pe_lst (pa_cons (pe_ix ix_list (pv 8) (pv 12) (fun _ _ => rfl)) (pa_cons (pe_op op_mod (pe_op op_add (pv 7) (pv 9)) pe_int) pa_nil))) (pe_bc call_int1 T.int (pa_cons (pe_cmpR op_eq (pv 12) (pv 6) (nomark _)) pa_nil)) (fun _ _ => rfl)) (fun _ _ => rfl))))))
      (pss_one (ps_expr (pe_bm PySem.F.plainAttrs_list PySem.F.slot_list_append PySem.F.type_list_append mt_append (pv 10) (pa_cons (pe_op op_add_str (pv 11) (pe_op op_mul_str (pe_ix ix_str (pv 2) (pe_ix ix_list (pv 8) pe_int (fun _ _ => rfl)) (fun _ _ => rfl)) (pe_op op_mod (pv 9) pe_int))) pa_nil))))))
      (pss_one (ps_ret (pv 10))))))))))))))), ?_⟩
    refine ⟨szle (by simp), fun w1 hw1 => ?_⟩
    refine ⟨_, rfl, szle (by simp), fun w2 hw2 => ⟨w1, w2, wordsA.map V.str, wordsB.map V.str, rfl, rfl, Same.new hw2 _ _ upd_same, upd_same, szle (by decide), fun w3 hw3 => ?_⟩⟩
    dsimp only
    refine seq_mid (fun σ' H' => ∃ w5, σ' = [some (.ref p), some (.int 26), some (.str letters), some (.ref w5), none, none, none, none, none, none, none, none, none] ∧ Same H H' ∧ H' w5 = some (.lst (words26.map V.str)) ∧ H w5 = none) ?_ fun N hN => ?_
    rotate_left
    · have e0 := ((Same.new (o := .lst (wordsA.map V.str)) hw1).trans (Same.new (o := .lst (wordsB.map V.str)) hw2)).trans (Same.new (o := .lst (wordsA.map V.str ++ wordsB.map V.str)) hw3)
      refine ⟨_, rfl, szle (by simp), fun w4 hw4 => ⟨w3, w4, (wordsA ++ wordsB).map V.str, wordsC.map V.str, rfl, rfl, Same.new hw4 _ _ upd_same, upd_same, szle (by decide), fun w5 hw5 => ?_⟩⟩
      have e1 := e0.trans (Same.new (o := .lst (wordsC.map V.str)) hw4)
      exact hN _ _ ⟨w5, rfl, e1.trans (Same.new hw5), upd_same, e1.none hw5⟩
    rintro σ' H1 ⟨w5, rfl, e1, hw5, hwn⟩
    have hw5p : w5 ≠ p := hW.ne hwn
    have hWd : Wd p q0 cs (del p H1) H1 := hW.grow e1
    have hup : Same H0 (del p H1) := hW.up e1
    have hw5W : (del p H1) w5 = some (.lst (words26.map V.str)) := by rw [del_ne hw5p]; exact hw5
    generalize del p H1 = W at hWd hup hw5W
    refine ⟨_, rfl, p, q0, cs, W, 5, rfl, hWd, by decide, by decide, fun v1 o1 v10 v11 bo1 => ?_⟩
    have hW1 := hWd.put bo1
    refine ⟨_, rfl, p, q0, cs, W, 7, rfl, hW1, by decide, by decide, fun v2 o2 v20 v21 bo2 => ⟨_, _, rfl, rfl, ?_⟩⟩
    have hW2 := hW1.put bo2
    refine ⟨_, rfl, _, rfl, p, q0, cs, W, 1 + v2, rfl, hW2, by omega, by omega, fun v3 o3 v30 v31 bo3 => ?_⟩
    have hW3 := hW2.put bo3
    refine ⟨_, rfl, p, q0, cs, W, 26, rfl, hW3, by decide, by decide, fun v4 o4 v40 v41 bo4 => ?_⟩
    have hW4 := hW3.put bo4
    -- the base
    refine ⟨_, rfl, 1 + v2, rfl, by omega, by omega, fun D hD => lc_range (lo := 0) (n := (1 + v2).toNat) (fun i H' => ∃ bs : List Int, Wd p q0 cs W H' ∧ H' D = some (.lst (bs.map V.int)) ∧ bs.length = i ∧ ∀ b ∈ bs, 0 ≤ b ∧ b < 26) ?_ ?_ ?_⟩
    · exact ⟨[], hW4.sub (Same.new hD), upd_same, rfl, fun b hb => by cases hb⟩
    · rintro i H' hi ⟨bs, hWi, hd, hl, hb⟩
      have hDW : W D = none := hW4.out hD
      have hDp : D ≠ p := hW4.ne hD
      refine ⟨rfl, _, rfl, p, q0, cs, W, 26, rfl, hWi, by decide, by decide, fun v o v0 v1' bo => ⟨bs.map V.int, by rw [upd_ne hDp]; exact hd, ?_, bs ++ [v], (hWi.put bo).mut hDW hDp, by rw [upd_same, List.map_append]; rfl, by rw [List.length_append, hl]; rfl, fun b hb2 => ?_⟩⟩
      · rw [List.length_map]; exact szl (by omega)
      · rcases List.mem_append.mp hb2 with h | h
        · exact hb b h
        · rw [List.mem_singleton.mp h]; exact ⟨v0, v1'⟩
    rintro H' ⟨bs, hWi, hd, hl, hb⟩
    have hDW : W D = none := hW4.out hD
    have hDp : D ≠ p := hW4.ne hD
    have hw5' := hWi.ext _ _ hw5W
    refine ⟨_, rfl, rfl, _, rfl, ?_⟩
    by_cases hv1 : v1 = 0
    · rw [decide_eq_true (congrArg V.int hv1)]
      refine ⟨_, rfl, _, rfl, _, rfl, w5, _, rfl, SqL.of hw5', fun s1 hs1 => ?_⟩
      have f1 := Same.new (o := .lst (cutV (words26.map V.str) (some v4) none)) hs1
      refine ⟨_, rfl, _, rfl, _, rfl, w5, _, rfl, SqL.of (f1 _ _ hw5'), fun s2 hs2 => ?_⟩
      have f2 := Same.new (o := .lst (cutV (words26.map V.str) none (some v4))) hs2
      refine ⟨s1, s2, _, _, rfl, rfl, f2 _ _ upd_same, upd_same, ?_, fun s3 hs3 => ?_⟩
      · have h1 := cutV_length (words26.map V.str) (some v4) none
        have h2 := cutV_length (words26.map V.str) none (some v4)
        have h3 : (words26.map V.str).length = 26 := rfl
        exact szle (by omega)
      have f3 := Same.new (o := .lst (cutV (words26.map V.str) (some v4) none ++ cutV (words26.map V.str) none (some v4))) hs3
      refine ⟨_, rfl, _, rfl, s3, _, rfl, SqL.of upd_same, fun s4 hs4 => ?_⟩
      have f4 := Same.new (o := .lst (cutV (cutV (words26.map V.str) (some v4) none ++ cutV (words26.map V.str) none (some v4)) none (some 26))) hs4
      have f := ((f1.trans f2).trans f3).trans f4
      have hs4p : s4 ≠ p := (hWi.sub ((f1.trans f2).trans f3)).ne hs4
      refine q s4 (words26.drop v4.toNat ++ words26.take v4.toNat) _ _ (hup.trans (hWi.up f)) (hWi.grow f) ?_ (rot_len _) (rot_ok _)
      rw [del_ne hs4p, upd_same, cut_rot v40 v41]
    · rw [decide_eq_false (fun z => hv1 (V.int.inj z))]
      refine ⟨szle (by simp), fun l hl0 => ?_⟩
      have hlp : l ≠ p := hWi.ne hl0
      have hlW : W l = none := hWi.out hl0
      have g0 := Same.new (o := .lst []) hl0
      have hd3 := g0 _ _ hd
      have hl3 : (upd H' l (.lst [])) l = some (.lst []) := upd_same
      have hW5 := hWi.sub g0
      have hDl : D ≠ l := ne_of_none hd hl0
      generalize upd H' l (.lst []) = H3 at hd3 hl3 hW5 ⊢
      have hsz : ((1 + v2).toNat : Int) = 1 + v2 := Int.toNat_of_nonneg (by omega)
      generalize hszn : (1 + v2).toNat = sz at hl hsz
      have s1 : 1 ≤ sz := by omega
      have s7 : sz ≤ 7 := by omega
      refine ⟨_, rfl, 26, rfl, by decide, by decide, for_range (lo := 0) (n := 26) (fun i σ H'' => ∃ v9 v11, σ = [some (.ref p), some (.int 26), some (.str letters), some (.ref w5), some (.int v1), some (.int (1 + v2)), some (.int v3), some (.int v4), some (.ref D), v9, some (.ref l), v11, none] ∧ Same (del l H3) H'' ∧ H'' l = some (.lst ((List.range i).map fun k => V.str (nm sz v3 v4 bs k))))
        ⟨_, _, rfl, Same.del_l, hl3⟩ ?_ ?_⟩
      · rintro i σ H4 hi ⟨v9, v11, rfl, e4, hl4⟩
        have hd4 := e4 _ _ (show del l H3 D = _ by rw [del_ne hDl]; exact hd3)
        refine ⟨⟨_, rfl⟩, _, rfl, 1 + v2, rfl, by omega, by omega, fun E' hE => ?_⟩
        rw [hszn]
        refine lc_range (lo := 0) (n := sz) (fun j Hc => Same H4 Hc ∧ Hc E' = some (.lst ((List.range j).map fun j => V.str ⟨#[ltr (sgn v3 v4 bs i j)]⟩))) ⟨Same.new hE, upd_same⟩ ?_ ?_
        · rintro j Hc hj ⟨e, he⟩
          have hjb : j < bs.length := by omega
          have hbj : (bs.map V.int)[j]? = some (.int (bs.getD j 0)) := by
            rw [List.getElem?_map, List.getElem?_eq_getElem hjb, List.getD_eq_getElem?_getD, List.getElem?_eq_getElem hjb]
            rfl
          have hz : (0 : Int) + (j : Int) = (j : Int) := Int.zero_add _
          refine ⟨rfl, _, rfl, _, rfl, _, rfl, D, _, _, _, rfl, rfl, SqL.of (e _ _ hd4), at_of hz hbj, _, rfl, _, rfl, _, _, rfl, rfl, _, _, rfl, rfl, (by show (0 : Int) < 26; decide), szle (by simp), fun x hx => ?_⟩
          have ex := Same.new (o := .lst [.int (bs.getD j 0), .int ((v4 + (0 + (i : Int))) % 26)]) hx
          refine ⟨_, rfl, _, rfl, rfl, .inr ⟨_, rfl, ?_⟩⟩
          obtain ⟨g1, g2⟩ := sgn_ok (at_ := v3) (turn := v4) hb i j
          have hat : atI [V.int (bs.getD j 0), V.int ((v4 + (0 + (i : Int))) % 26)] (if decide (V.int (0 + (j : Int)) = V.int v3) = true then 1 else 0) = some (.int (sgn v3 v4 bs i j)) := by
            unfold sgn
            rw [hz, Int.zero_add]
            by_cases hja : (j : Int) = v3
            · rw [if_pos hja, decide_eq_true (congrArg V.int hja)]
              rfl
            · rw [if_neg hja, decide_eq_false (fun z => hja (V.int.inj z))]
              rfl
          refine ⟨x, _, _, _, rfl, rfl, SqL.of upd_same, hat, letters, _, _, rfl, rfl, szle (by rw [letters_len]; decide), ltr_at g1 g2, _, ex _ _ he, ?_, (e.trans ex).mut hE, ?_⟩
          · rw [List.length_map, List.length_range]; exact szl (by omega)
          · rw [upd_same, range_snoc]
        · rintro Hc ⟨e, he⟩
          have hys : ((List.range sz).map fun j => V.str ⟨#[ltr (sgn v3 v4 bs i j)]⟩) = ((wordL sz v3 v4 bs i).map fun c => (⟨#[c]⟩ : Str)).map V.str := by
            unfold wordL
            rw [List.map_map, List.map_map]
            rfl
          rw [hys] at he
          have hwl : (wordL sz v3 v4 bs i).length = sz := by unfold wordL; rw [List.length_map, List.length_range]
          refine ⟨"", E', _, rfl, rfl, .inl (SqL.of he), ?_, ?_⟩
          · rw [signs_sum, hwl, List.length_map, hwl, empty_len]; omega
          rw [join_signs]
          have hd5 := e _ _ hd4
          have hl5 := e _ _ hl4
          have hb0 : (bs.map V.int)[0]? = some (.int (bs.getD 0 0)) := by
            have h0 : 0 < bs.length := by omega
            rw [List.getElem?_map, List.getElem?_eq_getElem h0, List.getD_eq_getElem?_getD, List.getElem?_eq_getElem h0]
            rfl
          obtain ⟨g1, g2⟩ := getD_ok (j := 0) hb
          have hm : (0 + (i : Int)) % 2 = 0 ∨ (0 + (i : Int)) % 2 = 1 := by omega
          refine ⟨_, rfl, .inl ⟨rfl, _, SqL.of hl5⟩, _, rfl, _, rfl, _, rfl, D, _, _, _, rfl, rfl, SqL.of hd5, at_of rfl hb0, letters, _, _, rfl, rfl, szle (by rw [letters_len]; decide), ltr_at g1 g2, _, rfl, _, _, rfl, rfl, (by show (0 : Int) < 2; decide), _, _, rfl, rfl, hm, _, _, rfl, rfl, ?_, l, _, _, rfl, rfl, hl5, ?_, ?_⟩
          · have h1 : (⟨(wordL sz v3 v4 bs i).toArray⟩ : Str).length = sz := hwl
            have h2 : (⟨#[ltr (bs.getD 0 0)]⟩ : Str).length = 1 := rfl
            rw [h1]
            split
            · have : (Str.empty).length = 0 := rfl
              rw [this]; exact szle (by omega)
            · rw [h2]; exact szle (by omega)
          · rw [List.length_map, List.length_range]; exact szl (by omega)
          · refine ⟨_, _, rfl, ((e4.trans e).mut del_same), ?_⟩
            rw [upd_same, range_snoc]
            have hnm : (⟨(wordL sz v3 v4 bs i).toArray⟩ : Str) ++ (if (0 + (i : Int)) % 2 = 0 then Str.empty else ⟨#[ltr (bs.getD 0 0)]⟩) = nm sz v3 v4 bs i := by
              unfold nm nmL
              rw [Int.zero_add]
              split
              · exact str_app _ []
              · exact str_app _ [_]
            rw [← hnm]
      · rintro σ H4 ⟨v9, v11, rfl, e4, hl4⟩
        have hW6 := hW5.subdel hlW hlp e4
        refine ⟨_, rfl, ?_⟩
        refine q l ((List.range 26).map (nm sz v3 v4 bs)) _ _ (hup.trans (hW6.up (Same.refl _))) (hW6.grow (Same.refl _)) ?_ rfl (nms_ok s1 s7 v30 (by omega) hb)
        rw [del_ne hlp, hl4, List.map_map]
        rfl
end
end DG

namespace DG
open PySem L2
open PyProof.Rows (envOfC)
section
variable {P : Program} {w : World} {K : PySem.W.Frag} {mg : Str → Option Value} {base : Heap} {CS CC CW : Addr}
abbrev s_law_country : Stmt := top 46
abbrev n_law_country : List Str := ["_law_bag_here", "_law_names_here", "_law_many", "_law_unit", "_law_grounds", "_law_k", "_law_full", "_law_keep", "_law_has", "_law_grows", "_law_height"]
theorem sc_law_country : FnScope n_law_country ["_law_bag_here", "_law_names_here", "_law_many"] (defScope s_law_country) := ⟨rfl, rfl, rfl, by decide +kernel, rfl, by decide +kernel, by decide +kernel⟩

theorem ok_law_country (D : Def K mg "_law_country" s_law_country ["_law_bag_here", "_law_names_here", "_law_many"]) (T : Txt K mg CS CC CW) (c_law_take : Cal P w K mg base 1 "_law_take" ["_law_bag_here", "_law_many"] sp_law_take) : Cal P w K mg base 2 "_law_country" ["_law_bag_here", "_law_names_here", "_law_many"] sp_law_country := by
  refine D.cal sc_law_country (fun vs H Q E h => ?_) (fun f cdv A outer s H vs Q E hr h => ?_)
  · obtain ⟨p, q0, cs, H0, l, ns, m, rfl, _⟩ := h; rfl
  · obtain ⟨p, q0, cs, H0, l, ns, m, rfl, hW, hl, okN, len26, m12, q⟩ := h
    refine ⟨_, (pss_cons (ps_set (i := 3) sc_law_country.nd rfl (Or.inl rfl) (pe_ix ix_list (pe_lst (pa_cons pe_int (pa_cons pe_int (pa_cons pe_int (pa_cons (pe_op op_pow pe_int pe_int) pa_nil))))) (pe_cal c_law_take hr (pa_cons (pv 0) (pa_cons pe_int pa_nil))) (fun _ _ => rfl)))
      (pss_cons (ps_set (i := 4) sc_law_country.nd rfl (Or.inl rfl) (pe_lst pa_nil))
      (pss_cons (ps_for PassesOwn.never rfl (pi_range1 (by rfl) T.range (pa_cons (pv 2) pa_nil)) (pg_name (i := 5) sc_law_country.nd rfl (Or.inl rfl))
        (pss_cons (ps_set (i := 6) sc_law_country.nd rfl (Or.inl rfl) (pe_cal c_law_take hr (pa_cons (pv 0) (pa_cons (pe_ix ix_list (pe_lst (pa_cons pe_int (pa_cons pe_int (pa_cons pe_int pa_nil)))) (pe_cal c_law_take hr (pa_cons (pv 0) (pa_cons pe_int pa_nil))) (fun _ _ => rfl)) pa_nil))))
      (pss_cons (ps_set (i := 7) sc_law_country.nd rfl (Or.inl rfl) (pe_cal c_law_take hr (pa_cons (pv 0) (pa_cons (pe_op op_add (pe_op op_fdivW (pv 6) pe_int) pe_int) pa_nil))))
      (pss_cons (ps_set (i := 8) sc_law_country.nd rfl (Or.inl rfl) (pe_ix ix_list (pe_lst (pa_cons (pv 6) (pa_cons (pe_cal c_law_take hr (pa_cons (pv 0) (pa_cons (pe_op op_add (pv 6) pe_int) pa_nil))) pa_nil))) (pe_cal c_law_take hr (pa_cons (pv 0) (pa_cons pe_int pa_nil))) (fun _ _ => rfl)))
      (pss_cons (ps_set (i := 9) sc_law_country.nd rfl (Or.inl rfl) (pe_cal c_law_take hr (pa_cons (pv 0) (pa_cons (pe_ix ix_list (pe_lst (pa_cons pe_int (pa_cons pe_int pa_nil))) (pe_cal c_law_take hr (pa_cons (pv 0) (pa_cons pe_int pa_nil))) (fun _ _ => rfl)) pa_nil))))
      (pss_cons (ps_set (i := 10) sc_law_country.nd rfl (Or.inl rfl) (pe_ix ix_list (pe_lst (pa_cons (pe_op op_sub pe_int (pe_op op_mul pe_int (pv 5))) (pa_cons (pe_cal c_law_take hr (pa_cons (pv 0) (pa_cons pe_int pa_nil))) pa_nil))) (pe_bc call_int1 T.int (pa_cons (pe_cmpR op_eq (pe_cal c_law_take hr (pa_cons (pv 0) (pa_cons pe_int pa_nil))) pe_int (nomark _)) pa_nil)) (fun _ _ => rfl)))
      (pss_one (ps_expr (pe_bm PySem.F.plainAttrs_list PySem.F.slot_list_append PySem.F.type_list_append mt_append (pv 4) (pa_cons (pe_tup (pa_cons (pe_ix ix_list (pv 1) (pv 5) (fun _ _ => rfl)) (pa_cons (pv 10) (pa_cons (pe_op op_mul (pv 8) (pv 3)) (pa_cons (pe_op op_mul (pv 6) (pv 3)) (pa_cons (pe_op op_mul (pv 9) (pv 3)) (pa_cons (pe_op op_mul (pv 7) (pv 3)) pa_nil))))))) pa_nil))))))))))
      (pss_one (ps_ret (pe_tup (pa_cons (pv 4) (pa_cons (pv 3) pa_nil)))))))), ?_⟩
    refine ⟨_, _, rfl, rfl, cpow_ok (.inl rfl) rfl, szle (by simp), fun x hx => ?_⟩
    have hW1 := hW.sub (Same.new (o := .lst ([1, 1, 7, (10 : Int) ^ (9 : Int).toNat].map V.int)) hx)
    refine ⟨_, rfl, p, q0, cs, H0, 4, rfl, hW1, by decide, by decide, fun v o v0 v1 bo => ?_⟩
    obtain ⟨u, hu, hat⟩ := pickI (xs := [1, 1, 7, (10 : Int) ^ (9 : Int).toNat]) v0 v1
    have u1 : 1 ≤ u ∧ u ≤ 1000000000 := by
      simp only [List.mem_cons, List.not_mem_nil, or_false, p9] at hu
      omega
    refine ⟨x, _, v, _, rfl, rfl, SqL.of (by rw [upd_ne (hW.ne hx)]; exact upd_same), hat, ?_⟩
    have hW2 := hW1.put bo
    refine ⟨Nat.zero_le _, fun lg hlg => ?_⟩
    have hlgp : lg ≠ p := hW2.ne hlg
    have hlg0 : H0 lg = none := hW2.out hlg
    refine ⟨_, rfl, m, rfl, by omega, by omega, for_range (lo := 0) (n := (m : Int).toNat) (fun i σ H' => ∃ v5 v6 v7 v8 v9 v10 W xs G, σ = [some (.ref p), some (.ref l), some (.int m), some (.int u), some (.ref lg), v5, v6, v7, v8, v9, v10] ∧
        Same H0 W ∧ Wd p q0 cs W H' ∧ W lg = none ∧ H' lg = some (.lst xs) ∧ Paired (TupAt W) (G.map gV) xs ∧ G.map (·.name) = ns.take i ∧ ∀ g ∈ G, GOk g)
      ⟨_, _, _, _, _, _, H0, [], [], rfl, Same.refl _, hW2.sub (Same.new hlg), hlg0, upd_same, .nil, rfl, fun g hg => by cases hg⟩ ?_ ?_⟩
    · rintro i σ H' hi ⟨v5, v6, v7, v8, v9, v10, W, xs, G, rfl, hup, hWi, hlgW, hlg', hp, hnm, hG⟩
      -- full
      refine ⟨_, rfl, szle (by simp), fun x1 hx1 => ?_⟩
      have g1 := Same.new (o := .lst ([10, 30, 60].map V.int)) hx1
      have hWa := hWi.sub g1
      refine ⟨_, rfl, p, q0, cs, W, 3, rfl, hWa, by decide, by decide, fun a1 o1 a10 a11 bo1 => ?_⟩
      obtain ⟨c1, hc1, hat1⟩ := pickI (xs := [10, 30, 60]) a10 a11
      have c1b : 1 ≤ c1 ∧ c1 ≤ 60 := by
        simp only [List.mem_cons, List.not_mem_nil, or_false] at hc1
        omega
      refine ⟨x1, _, a1, _, rfl, rfl, SqL.of (by rw [upd_ne (hWi.ne hx1)]; exact upd_same), hat1, p, q0, cs, W, c1, rfl, hWa.put bo1, by omega, by omega, fun full o2 full0 full1 bo2 => ?_⟩
      have hWb := (hWa.put bo1).put bo2
      have hb : (upd (upd (upd H' x1 (.lst ([10, 30, 60].map V.int))) p o1) p o2) lg = some (.lst xs) := by rw [upd_ne hlgp, upd_ne hlgp]; exact g1 _ _ hlg'
      -- keep
      refine ⟨_, rfl, _, rfl, _, _, rfl, rfl, ⟨by decide, by decide⟩, _, _, rfl, rfl, p, q0, cs, W, full / 2 + 1, rfl, hWb, by omega, by omega, fun keep o3 keep0 keep1 bo3 => ?_⟩
      have hWc := hWb.put bo3
      have hc : (upd (upd (upd (upd H' x1 (.lst ([10, 30, 60].map V.int))) p o1) p o2) p o3) lg = some (.lst xs) := by rw [upd_ne hlgp]; exact hb
      -- has
      refine ⟨_, rfl, _, rfl, _, rfl, _, _, rfl, rfl, p, q0, cs, W, full + 1, rfl, hWc, by omega, by omega, fun h1 o4 h10 h11 bo4 => ⟨szle (by simp), fun x2 hx2 => ?_⟩⟩
      have hWd := hWc.put bo4
      have g2 := Same.new (o := .lst ([full, h1].map V.int)) hx2
      have hWe := hWd.sub g2
      have hx2p := hWd.ne hx2
      refine ⟨_, rfl, p, q0, cs, W, 2, rfl, hWe, by decide, by decide, fun a2 o5 a20 a21 bo5 => ?_⟩
      obtain ⟨has, hhas, hat2⟩ := pickI (xs := [full, h1]) a20 a21
      have hasb : 0 ≤ has ∧ has ≤ full := by
        simp only [List.mem_cons, List.not_mem_nil, or_false] at hhas
        omega
      refine ⟨x2, _, a2, _, rfl, rfl, SqL.of (by rw [upd_ne hx2p]; exact upd_same), hat2, ?_⟩
      have hWf := hWe.put bo5
      have hf := (show _ = some (HO.lst xs) from (upd_ne (o := o5) hlgp).trans (g2 _ _ ((upd_ne (o := o4) hlgp).trans hc)))
      -- grows
      refine ⟨_, rfl, szle (by simp), fun x3 hx3 => ?_⟩
      have g3 := Same.new (o := .lst ([3, 8].map V.int)) hx3
      have hWg := hWf.sub g3
      have hx3p := hWf.ne hx3
      refine ⟨_, rfl, p, q0, cs, W, 2, rfl, hWg, by decide, by decide, fun a3 o6 a30 a31 bo6 => ?_⟩
      obtain ⟨c3, hc3, hat3⟩ := pickI (xs := [3, 8]) a30 a31
      have c3b : 1 ≤ c3 ∧ c3 ≤ 8 := by
        simp only [List.mem_cons, List.not_mem_nil, or_false] at hc3
        omega
      refine ⟨x3, _, a3, _, rfl, rfl, SqL.of (by rw [upd_ne hx3p]; exact upd_same), hat3, p, q0, cs, W, c3, rfl, hWg.put bo6, by omega, by omega, fun grows o7 grows0 grows1 bo7 => ?_⟩
      have hWh := (hWg.put bo6).put bo7
      have hh := (upd_ne (o := o7) hlgp).trans ((upd_ne (o := o6) hlgp).trans (g3 _ _ hf))
      -- height
      refine ⟨_, rfl, _, _, rfl, rfl, cmul_l (by decide) (by decide), _, _, rfl, rfl, _, rfl, p, q0, cs, W, 1001, rfl, hWh, by decide, by decide, fun h2 o8 h20 h21 bo8 => ⟨szle (by simp), fun x4 hx4 => ?_⟩⟩
      have hWj := hWh.put bo8
      have g4 := Same.new (o := .lst ([1000 - 70 * (0 + (i : Int)), h2].map V.int)) hx4
      have hWk := hWj.sub g4
      have hx4p := hWj.ne hx4
      refine ⟨_, rfl, p, q0, cs, W, 4, rfl, hWk, by decide, by decide, fun a4 o9 a40 a41 bo9 => ⟨rfl, .inr ⟨_, rfl, ?_⟩⟩⟩
      have hWl := hWk.put bo9
      have hk := (upd_ne (o := o9) hlgp).trans (g4 _ _ ((upd_ne (o := o8) hlgp).trans hh))
      obtain ⟨hgt, hgtm, hat4⟩ : ∃ hgt : Int, (0 ≤ hgt ∧ hgt ≤ 1000) ∧ atI ([1000 - 70 * (0 + (i : Int)), h2].map V.int) (if decide (V.int a4 = V.int 0) = true then 1 else 0) = some (.int hgt) := by
        by_cases ha4 : decide (V.int a4 = V.int 0) = true
        · rw [if_pos ha4]
          exact ⟨h2, ⟨h20, by omega⟩, rfl⟩
        · rw [if_neg ha4]
          exact ⟨1000 - 70 * (0 + (i : Int)), ⟨by omega, by omega⟩, rfl⟩
      refine ⟨x4, _, _, _, rfl, rfl, SqL.of (by rw [upd_ne hx4p]; exact upd_same), hat4, ?_⟩
      -- the ground
      have hni : i < ns.length := by omega
      have hnat : atI (ns.map V.str) (0 + (i : Int)) = some (.str ns[i]) := by
        rw [Int.zero_add]
        exact atI_nat (by rw [List.getElem?_map, List.getElem?_eq_getElem hni]; rfl)
      have hlW : W l = some (.lst (ns.map V.str)) := hup _ _ hl
      have hGl := paired_len hp
      have hGl2 := congrArg List.length hnm
      rw [List.length_map] at hGl
      rw [List.length_map, List.length_take] at hGl2
      refine ⟨_, rfl, .inl ⟨rfl, _, SqL.of hk⟩, _, rfl, _, rfl, l, _, _, _, rfl, rfl, SqL.of (hWl.ext _ _ hlW), hnat, _, rfl, _, rfl, _, rfl, _, _, rfl, rfl, cmul_r (by omega) (by omega), _, rfl, _, rfl, _, _, rfl, rfl, cmul_r (by omega) (by omega), _, rfl, _, rfl, _, _, rfl, rfl, cmul_r (by omega) (by omega), _, rfl, _, rfl, _, _, rfl, rfl, cmul_r (by omega) (by omega), szle (by simp), fun t ht => ?_⟩
      have g5 := Same.new (o := .tup (gV ⟨ns[i], hgt, has * u, full * u, grows * u, keep * u⟩)) ht
      refine ⟨lg, xs, _, rfl, rfl, g5 _ _ hk, szl (by omega), ?_⟩
      have htp := hWl.ne ht
      have htW := hWl.out ht
      have htlg : t ≠ lg := (ne_of_none hk ht).symm
      have hWm := ((hWl.sub g5).add htW htp upd_same).mut (l := lg) (o := .lst (xs ++ [.ref t])) (by rw [upd_ne htlg.symm]; exact hlgW) hlgp
      refine ⟨_, _, _, _, _, _, _, xs ++ [.ref t], G ++ [⟨ns[i], hgt, has * u, full * u, grows * u, keep * u⟩], rfl, hup.trans (Same.new htW), hWm, by rw [upd_ne htlg.symm]; exact hlgW, upd_same, ?_, ?_, ?_⟩
      · rw [List.map_append]
        exact paired_snoc ⟨t, rfl, upd_same⟩ (tups_mono (Same.new htW) hp)
      · rw [List.map_append, hnm, take_snoc (List.getElem?_eq_getElem hni)]
        rfl
      · intro g hg
        rcases List.mem_append.mp hg with h | h
        · exact hG g h
        · rw [List.mem_singleton.mp h]
          have e1 : has * u ≤ full * u := Int.mul_le_mul_of_nonneg_right (by omega) (by omega)
          have e2 : full * u ≤ 60 * u := Int.mul_le_mul_of_nonneg_right (by omega) (by omega)
          have e3 : grows * u ≤ 8 * u := Int.mul_le_mul_of_nonneg_right (by omega) (by omega)
          have e4 : keep * u ≤ full * u := Int.mul_le_mul_of_nonneg_right (by omega) (by omega)
          have z1 : 0 ≤ has * u := Int.mul_nonneg (by omega) (by omega)
          have z2 : 0 ≤ grows * u := Int.mul_nonneg (by omega) (by omega)
          have z3 : 0 ≤ keep * u := Int.mul_nonneg (by omega) (by omega)
          exact ⟨okN.2 _ (List.getElem_mem hni), hgtm.1, hgtm.2, z1, e1, by show full * u ≤ _; omega, z2, by show grows * u ≤ _; omega, z3, e4⟩
    · rintro σ H' ⟨v5, v6, v7, v8, v9, v10, W, xs, G, rfl, hup, hWi, hlgW, hlg', hp, hnm, hG⟩
      refine ⟨_, rfl, _, rfl, szle (by simp), fun t ht => ?_⟩
      have htp := hWi.ne ht
      have htW := hWi.out ht
      have g5 := Same.new (o := .tup [.ref lg, .int u]) ht
      have hWj := (hWi.sub g5).add htW htp upd_same
      have htlg : t ≠ lg := (ne_of_none hlg' ht).symm
      have hWk := hWj.add (l := lg) (o := .lst xs) (by rw [upd_ne htlg.symm]; exact hlgW) hlgp (g5 _ _ hlg')
      have up2 : Same W (upd (upd W t (.tup [.ref lg, .int u])) lg (.lst xs)) := (Same.new htW).trans (Same.new (by rw [upd_ne htlg.symm]; exact hlgW))
      refine q t lg u G _ _ (hup.trans up2) hWk ?_ ⟨xs, upd_same, tups_mono up2 hp⟩ ⟨?_, hG⟩ ?_
      · rw [upd_ne htlg, upd_same]
      · rw [hnm]
        exact nodup_take _ okN.1
      · have := congrArg List.length hnm
        rw [List.length_map, List.length_take] at this
        omega
end
end DG

namespace DG
open PySem L2
open PyProof.Rows (envOfC)
section
variable {P : Program} {w : World} {K : PySem.W.Frag} {mg : Str → Option Value} {base : Heap} {CS CC CW : Addr}
abbrev s_law_ways : Stmt := top 47
abbrev n_law_ways : List Str := ["_law_bag_here", "_law_names_here", "_law_grounds", "_law_many", "_law_ways_here", "_law_most", "_law_k", "_law_one", "_law_other", "_law_toll"]
theorem sc_law_ways : FnScope n_law_ways ["_law_bag_here", "_law_names_here", "_law_grounds", "_law_many"] (defScope s_law_ways) := ⟨rfl, rfl, rfl, by decide +kernel, rfl, by decide +kernel, by decide +kernel⟩

theorem ok_law_ways (D : Def K mg "_law_ways" s_law_ways ["_law_bag_here", "_law_names_here", "_law_grounds", "_law_many"]) (T : Txt K mg CS CC CW) (c_law_take : Cal P w K mg base 1 "_law_take" ["_law_bag_here", "_law_many"] sp_law_take) : Cal P w K mg base 2 "_law_ways" ["_law_bag_here", "_law_names_here", "_law_grounds", "_law_many"] sp_law_ways := by
  refine D.cal sc_law_ways (fun vs H Q E h => ?_) (fun f cdv A outer s H vs Q E hr h => ?_)
  · obtain ⟨p, q0, cs, H0, l, ag, ns, G, m, rfl, _⟩ := h; rfl
  · obtain ⟨p, q0, cs, H0, l, ag, ns, G, m, rfl, hW, hl, okN, len26, ⟨xg, hag, pg⟩, okG, G1, G12, m26, q⟩ := h
    have hgl := paired_len pg
    rw [List.length_map] at hgl
    refine ⟨_, (pss_cons (ps_set (i := 4) sc_law_ways.nd rfl (Or.inl rfl) (pe_lst pa_nil))
      (pss_cons (ps_set (i := 5) sc_law_ways.nd rfl (Or.inl rfl) (pe_ix ix_list (pe_lst (pa_cons pe_int (pa_cons pe_int (pa_cons (pe_op op_add (pe_op op_pow pe_int pe_int) pe_int) pa_nil)))) (pe_cal c_law_take hr (pa_cons (pv 0) (pa_cons pe_int pa_nil))) (fun _ _ => rfl)))
      (pss_cons (ps_for PassesOwn.never rfl (pi_range1 (by rfl) T.range (pa_cons (pv 3) pa_nil)) (pg_name (i := 6) sc_law_ways.nd rfl (Or.inl rfl))
        (pss_cons (ps_set (i := 7) sc_law_ways.nd rfl (Or.inl rfl) (pe_ix ix_list (pv 2) (pe_cal c_law_take hr (pa_cons (pv 0) (pa_cons (pe_bf call_len_seq T.len (pa_cons (pv 2) pa_nil)) pa_nil))) (fun _ _ => rfl)))
      (pss_cons (ps_set (i := 8) sc_law_ways.nd rfl (Or.inl rfl) (pe_ix ix_list (pv 2) (pe_cal c_law_take hr (pa_cons (pv 0) (pa_cons (pe_bf call_len_seq T.len (pa_cons (pv 2) pa_nil)) pa_nil))) (fun _ _ => rfl)))
      (pss_cons (ps_set (i := 9) sc_law_ways.nd rfl (Or.inl rfl) (pe_cal c_law_take hr (pa_cons (pv 0) (pa_cons (pv 5) pa_nil))))
      (pss_cons (ps_if (pt_cmpR op_gt (pe_ix ix_tup (pv 7) pe_int (fun _ _ => rfl)) (pe_ix ix_tup (pv 8) pe_int (fun _ _ => rfl)) (nomark _)) (pss_one (ps_expr (pe_bm PySem.F.plainAttrs_list PySem.F.slot_list_append PySem.F.type_list_append mt_append (pv 4) (pa_cons (pe_tup (pa_cons (pe_ix ix_list (pv 1) (pv 6) (fun _ _ => rfl)) (pa_cons (pe_ix ix_tup (pv 7) pe_int (fun _ _ => rfl)) (pa_cons (pe_ix ix_tup (pv 8) pe_int (fun _ _ => rfl)) (pa_cons (pv 9) pa_nil))))) pa_nil)))) pss_nil)
      (pss_one (ps_if (pt_cmpR op_lt (pe_ix ix_tup (pv 7) pe_int (fun _ _ => rfl)) (pe_ix ix_tup (pv 8) pe_int (fun _ _ => rfl)) (nomark _)) (pss_one (ps_expr (pe_bm PySem.F.plainAttrs_list PySem.F.slot_list_append PySem.F.type_list_append mt_append (pv 4) (pa_cons (pe_tup (pa_cons (pe_ix ix_list (pv 1) (pv 6) (fun _ _ => rfl)) (pa_cons (pe_ix ix_tup (pv 8) pe_int (fun _ _ => rfl)) (pa_cons (pe_ix ix_tup (pv 7) pe_int (fun _ _ => rfl)) (pa_cons (pv 9) pa_nil))))) pa_nil)))) pss_nil)))))))
      (pss_one (ps_ret (pv 4)))))), ?_⟩
    refine ⟨Nat.zero_le _, fun lw hlw => ?_⟩
    have hlwp : lw ≠ p := hW.ne hlw
    have hlw0 : H0 lw = none := hW.out hlw
    have hWa := hW.sub (Same.new (o := .lst []) hlw)
    refine ⟨_, _, rfl, rfl, cpow_ok (.inl rfl) rfl, _, _, rfl, rfl, szle (by simp), fun x hx => ?_⟩
    have g1 := Same.new (o := .lst ([3, 10, (10 : Int) ^ (9 : Int).toNat + 1].map V.int)) hx
    have hWb := hWa.sub g1
    refine ⟨_, rfl, p, q0, cs, H0, 3, rfl, hWb, by decide, by decide, fun v o v0 v1 bo => ?_⟩
    obtain ⟨u, hu, hat⟩ := pickI (xs := [3, 10, (10 : Int) ^ (9 : Int).toNat + 1]) v0 v1
    have u1 : 1 ≤ u ∧ u ≤ 1000000001 := by
      simp only [List.mem_cons, List.not_mem_nil, or_false, p9] at hu
      omega
    refine ⟨x, _, v, _, rfl, rfl, SqL.of (by rw [upd_ne (hWa.ne hx)]; exact upd_same), hat, ?_⟩
    have hlw1 := (upd_ne (o := o) hlwp).trans (g1 _ _ (upd_same (H := H) (a := lw) (o := .lst [])))
    refine ⟨_, rfl, m, rfl, by omega, by omega, for_range (lo := 0) (n := (m : Int).toNat) (fun i σ H' => ∃ (v6 v7 v8 v9 : Option V) (W : Hp) (xs : List V) (Ws : List Way), σ = [some (.ref p), some (.ref l), some (.ref ag), some (.int m), some (.ref lw), some (.int u), v6, v7, v8, v9] ∧
        Same H0 W ∧ Wd p q0 cs W H' ∧ W lw = none ∧ H' lw = some (.lst xs) ∧ Paired (TupAt W) (Ws.map wV) xs ∧ (Ws.map (·.name)).Sublist (ns.take i) ∧ ∀ y ∈ Ws, WOk G y)
      ⟨_, _, _, _, H0, [], [], rfl, Same.refl _, hWb.put bo, hlw0, hlw1, .nil, List.Sublist.refl _, fun g hg => by cases hg⟩ ?_ ?_⟩
    · rintro i σ H' hi ⟨v6, v7, v8, v9, W, xs, Ws, rfl, hup, hWi, hlwW, hlw', hp, hsub, hok⟩
      have hagW := hup _ _ hag
      have pgW := tups_mono hup pg
      -- one, other, the toll
      refine ⟨_, rfl, _, rfl, _, rfl, ag, xg, rfl, .inl (SqL.of (hWi.ext _ _ hagW)), p, q0, cs, W, _, rfl, hWi, by omega, by omega, fun a1 o1 a10 a11 bo1 => ?_⟩
      obtain ⟨ga, hga, ta, hta, hTa⟩ := pickT pgW a10 a11
      have hWa := hWi.put bo1
      refine ⟨ag, xg, a1, _, rfl, rfl, SqL.of (hWa.ext _ _ hagW), hta, ?_⟩
      refine ⟨_, rfl, _, rfl, _, rfl, ag, xg, rfl, .inl (SqL.of (hWa.ext _ _ hagW)), p, q0, cs, W, _, rfl, hWa, by omega, by omega, fun a2 o2 a20 a21 bo2 => ?_⟩
      obtain ⟨gb, hgb, tb, htb, hTb⟩ := pickT pgW a20 a21
      have hWb := hWa.put bo2
      refine ⟨ag, xg, a2, _, rfl, rfl, SqL.of (hWb.ext _ _ hagW), htb, ?_⟩
      refine ⟨_, rfl, _, rfl, p, q0, cs, W, u, rfl, hWb, by omega, by omega, fun toll o3 toll0 toll1 bo3 => ?_⟩
      have hWc := hWb.put bo3
      have hc := (upd_ne (o := o3) hlwp).trans ((upd_ne (o := o2) hlwp).trans ((upd_ne (o := o1) hlwp).trans hlw'))
      generalize upd (upd (upd H' p o1) p o2) p o3 = H2 at hWc hc ⊢
      have hTa2 := hWc.ext _ _ hTa
      have hTb2 := hWc.ext _ _ hTb
      have hni : i < ns.length := by omega
      have hnat : atI (ns.map V.str) (0 + (i : Int)) = some (.str ns[i]) := by
        rw [Int.zero_add]
        exact atI_nat (by rw [List.getElem?_map, List.getElem?_eq_getElem hni]; rfl)
      have hlW : W l = some (.lst (ns.map V.str)) := hup _ _ hl
      have hGl := paired_len hp
      have hGl2 := hsub.length_le
      rw [List.length_map] at hGl
      rw [List.length_map, List.length_take] at hGl2
      have hoka := okG.2 ga hga
      have hokb := okG.2 gb hgb
      have hsub0 : (Ws.map (·.name)).Sublist (ns.take (i + 1)) := by
        rw [take_snoc (List.getElem?_eq_getElem hni)]
        exact hsub.trans (List.sublist_append_left _ _)
      -- a way more
      have more : ∀ (y : Way), y.name = ns[i] → WOk G y → ∀ (t : Addr), H2 t = none → ∃ (W' : Hp) (xs' : List V) (Ws' : List Way), Same H0 W' ∧ Wd p q0 cs W' (upd (upd H2 t (.tup (wV y))) lw (.lst (xs ++ [.ref t]))) ∧ W' lw = none ∧ (upd (upd H2 t (.tup (wV y))) lw (.lst (xs ++ [.ref t]))) lw = some (.lst xs') ∧ Paired (TupAt W') (Ws'.map wV) xs' ∧ (Ws'.map (·.name)).Sublist (ns.take (i + 1)) ∧ ∀ y ∈ Ws', WOk G y := by
        intro y hyn hy t ht
        have htp := hWc.ne ht
        have htW := hWc.out ht
        have htlw : t ≠ lw := (ne_of_none hc ht).symm
        have hWm := ((hWc.sub (Same.new (o := .tup (wV y)) ht)).add htW htp upd_same).mut (l := lw) (o := .lst (xs ++ [.ref t])) (by rw [upd_ne htlw.symm]; exact hlwW) hlwp
        refine ⟨_, xs ++ [.ref t], Ws ++ [y], hup.trans (Same.new (o := .tup (wV y)) htW), hWm, by rw [upd_ne htlw.symm]; exact hlwW, upd_same, ?_, ?_, ?_⟩
        · rw [List.map_append]
          exact paired_snoc ⟨t, rfl, upd_same⟩ (tups_mono (Same.new htW) hp)
        · rw [List.map_append, take_snoc (List.getElem?_eq_getElem hni), ← hyn]
          exact List.Sublist.append hsub (List.Sublist.refl _)
        · intro z hz
          rcases List.mem_append.mp hz with h | h
          · exact hok z h
          · rw [List.mem_singleton.mp h]; exact hy
      refine ⟨_, rfl, ta, _, _, _, rfl, rfl, SqT.of hTa2, rfl, _, rfl, tb, _, _, _, rfl, rfl, SqT.of hTb2, rfl, _, _, rfl, rfl, _, rfl, ?_⟩
      by_cases h1 : gb.hgt < ga.hgt
      · rw [decide_eq_true h1]
        refine ⟨_, rfl, .inl ⟨rfl, _, SqL.of hc⟩, _, rfl, _, rfl, l, _, _, _, rfl, rfl, SqL.of (hWc.ext _ _ hlW), hnat, _, rfl, ta, _, _, _, rfl, rfl, SqT.of hTa2, rfl, _, rfl, tb, _, _, _, rfl, rfl, SqT.of hTb2, rfl, _, rfl, szle (by simp), fun t ht => ?_⟩
        have e5 := Same.new (o := .tup (wV ⟨ns[i], ga.name, gb.name, toll⟩)) ht
        refine ⟨lw, xs, _, rfl, rfl, e5 _ _ hc, szl (by omega), ?_⟩
        have htlw : t ≠ lw := (ne_of_none hc ht).symm
        have e6 : ∀ {b : Addr} {d : List V}, H2 b = some (.tup d) → (upd (upd H2 t (.tup (wV ⟨ns[i], ga.name, gb.name, toll⟩))) lw (.lst (xs ++ [.ref t]))) b = some (.tup d) := fun hb => by
          rw [upd_ne (ne_of hb hc (by intro z; cases z))]
          exact e5 _ _ hb
        refine ⟨_, rfl, ta, _, _, _, rfl, rfl, SqT.of (e6 hTa2), rfl, _, rfl, tb, _, _, _, rfl, rfl, SqT.of (e6 hTb2), rfl, _, _, rfl, rfl, _, rfl, ?_⟩
        rw [decide_eq_false (show ¬ ga.hgt < gb.hgt by omega)]
        obtain ⟨W', xs', Ws', m1, m2, m3, m4, m5, m6, m7⟩ := more ⟨ns[i], ga.name, gb.name, toll⟩ rfl ⟨okN.2 _ (List.getElem_mem hni), ⟨ga, gndOf_mem okG.1 hga, gb, gndOf_mem okG.1 hgb, h1⟩, hoka.name, hokb.name, toll0, by show toll ≤ _; omega⟩ t ht
        exact ⟨_, _, _, _, W', xs', Ws', rfl, m1, m2, m3, m4, m5, m6, m7⟩
      · rw [decide_eq_false h1]
        refine ⟨_, rfl, ta, _, _, _, rfl, rfl, SqT.of hTa2, rfl, _, rfl, tb, _, _, _, rfl, rfl, SqT.of hTb2, rfl, _, _, rfl, rfl, _, rfl, ?_⟩
        by_cases h2 : ga.hgt < gb.hgt
        · rw [decide_eq_true h2]
          refine ⟨_, rfl, .inl ⟨rfl, _, SqL.of hc⟩, _, rfl, _, rfl, l, _, _, _, rfl, rfl, SqL.of (hWc.ext _ _ hlW), hnat, _, rfl, tb, _, _, _, rfl, rfl, SqT.of hTb2, rfl, _, rfl, ta, _, _, _, rfl, rfl, SqT.of hTa2, rfl, _, rfl, szle (by simp), fun t ht => ?_⟩
          have e5 := Same.new (o := .tup (wV ⟨ns[i], gb.name, ga.name, toll⟩)) ht
          refine ⟨lw, xs, _, rfl, rfl, e5 _ _ hc, szl (by omega), ?_⟩
          obtain ⟨W', xs', Ws', m1, m2, m3, m4, m5, m6, m7⟩ := more ⟨ns[i], gb.name, ga.name, toll⟩ rfl ⟨okN.2 _ (List.getElem_mem hni), ⟨gb, gndOf_mem okG.1 hgb, ga, gndOf_mem okG.1 hga, h2⟩, hokb.name, hoka.name, toll0, by show toll ≤ _; omega⟩ t ht
          exact ⟨_, _, _, _, W', xs', Ws', rfl, m1, m2, m3, m4, m5, m6, m7⟩
        · rw [decide_eq_false h2]
          exact ⟨_, _, _, _, W, xs, Ws, rfl, hup, hWc, hlwW, hc, hp, hsub0, hok⟩
    · rintro σ H' ⟨v6, v7, v8, v9, W, xs, Ws, rfl, hup, hWi, hlwW, hlw', hp, hsub, hok⟩
      refine ⟨_, rfl, ?_⟩
      have hWj := hWi.add hlwW hlwp hlw'
      have hGl2 := hsub.length_le
      rw [List.length_map, List.length_take] at hGl2
      refine q lw Ws _ _ (hup.trans (Same.new hlwW)) hWj ⟨xs, upd_same, tups_mono (Same.new hlwW) hp⟩ ⟨(nodup_take _ okN.1).sublist hsub, hok⟩ (by omega)
end
end DG

namespace DG
open PySem L2
open PyProof.Rows (envOfC)
section
variable {P : Program} {w : World} {K : PySem.W.Frag} {mg : Str → Option Value} {base : Heap} {CS CC CW : Addr}
abbrev s_law_from : Stmt := top 48
abbrev n_law_from : List Str := ["_law_ways_here", "_law_ground", "_law_way"]
theorem sc_law_from : FnScope n_law_from ["_law_ways_here", "_law_ground"] (defScope s_law_from) := ⟨rfl, rfl, rfl, by decide +kernel, rfl, by decide +kernel, by decide +kernel⟩

theorem ok_law_from (D : Def K mg "_law_from" s_law_from ["_law_ways_here", "_law_ground"]) (T : Txt K mg CS CC CW) : Cal P w K mg base 1 "_law_from" ["_law_ways_here", "_law_ground"] sp_law_from := by
  refine D.cal sc_law_from (fun vs H Q E h => ?_) (fun f cdv A outer s H vs Q E hr h => ?_)
  · obtain ⟨aw, W, x, rfl, _⟩ := h; rfl
  · obtain ⟨aw, W, x, rfl, ⟨xw, haw, pw⟩, lenW, q⟩ := h
    refine ⟨_, (pss_one (ps_ret (pe_lc (own := [("_law_way", 2)]) (tt := (tTest (tOp _ (tOp (rIxT K) _ _) _))) rfl sc_law_from.nd (pi_list (pv 0)) (blkOk_by (N := n_law_from) (sc := defScope s_law_from) (by decide +kernel)) (fun _ _ _ _ _ => (pg_name (i := 2) sc_law_from.nd rfl (Or.inl rfl))) (fun _ _ _ _ _ => (pts_one (pt_cmpR op_eq (pe_ix ix_tup (pv 2) pe_int (fun _ _ => rfl)) (pv 1) (nomark _)))) (fun _ _ _ _ _ => (pv 2))))), ?_⟩
    have hl := paired_len pw
    rw [List.length_map] at hl
    refine ⟨_, rfl, aw, rfl, ⟨_, SqL.of haw⟩, fun D hD => lc_list (K := K) (a := aw) (xs := xw) (fun i H' => Same H H' ∧ ∃ ys, H' D = some (.lst ys) ∧ Paired (TupAt H) (((W.take i).filter fun y => decide (y.tp = x)).map wV) ys) ⟨Same.new hD, [], upd_same, .nil⟩ (fun i H' _ h => SqL.of (h.1 _ _ haw)) ?_ ?_⟩
    · rintro i v H' hv ⟨e, ys, hd, hp⟩
      obtain ⟨d, hd2, t, rfl, ht⟩ := paired_at pw hv
      obtain ⟨y, hy, rfl⟩ := map_at hd2
      have hys := paired_len hp
      rw [List.length_map] at hys
      have hyl := List.length_filter_le (fun y => decide (y.tp = x)) (W.take i)
      have hyl2 := take_le W i
      refine ⟨rfl, _, rfl, t, _, _, _, rfl, rfl, SqT.of (e _ _ ht), rfl, _, rfl, rfl, _, rfl, ?_⟩
      rw [filter_take hy]
      by_cases h1 : y.tp = x
      · rw [decide_eq_true (congrArg V.str h1), if_pos (decide_eq_true h1)]
        refine ⟨_, rfl, ys, hd, szl (by omega), e.mut hD, ys ++ [.ref t], upd_same, ?_⟩
        rw [List.map_append]
        exact paired_snoc ⟨t, rfl, ht⟩ hp
      · rw [decide_eq_false (show ¬ V.str y.tp = V.str x by intro z; exact h1 (V.str.inj z)), if_neg (by simp [h1]), List.append_nil]
        exact ⟨e, ys, hd, hp⟩
    · rintro H' ⟨e, ys, hd, hp⟩
      rw [← hl, List.take_length] at hp
      exact q D H' e hD ⟨ys, hd, tups_mono e hp⟩
abbrev s_law_days : Stmt := top 51
abbrev n_law_days : List Str := ["_law_steps_here", "_law_step"]
theorem sc_law_days : FnScope n_law_days ["_law_steps_here"] (defScope s_law_days) := ⟨rfl, rfl, rfl, by decide +kernel, rfl, by decide +kernel, by decide +kernel⟩

theorem ok_law_days (D : Def K mg "_law_days" s_law_days ["_law_steps_here"]) (T : Txt K mg CS CC CW) : Cal P w K mg base 1 "_law_days" ["_law_steps_here"] sp_law_days := by
  refine D.cal sc_law_days (fun vs H Q E h => ?_) (fun f cdv A outer s H vs Q E hr h => ?_)
  · obtain ⟨a, ks, rfl, _⟩ := h; rfl
  · obtain ⟨a, ks, rfl, hS, hlen, q⟩ := h
    refine ⟨_, (pss_one (ps_ret (pe_bf (cr_sum rfl) T.sum (pa_cons (pe_lc (own := [("_law_step", 1)]) (te := (tOp (rIxL K) _ (tCB _ (tCons (tCB (rIs K) _) tNil)))) (tt := tYes) rfl sc_law_days.nd (pi_list (pv 0)) (blkOk_by (N := n_law_days) (sc := defScope s_law_days) (by decide +kernel)) (fun _ _ _ _ _ => (pg_name (i := 1) sc_law_days.nd rfl (Or.inl rfl))) (fun _ _ _ _ _ => pts_nil) (fun _ _ _ _ _ => (pe_ix ix_list (pe_lst (pa_cons (pv 1) (pa_cons pe_int pa_nil))) (pe_bc call_int1 T.int (pa_cons (pe_bf call_is T.isinstance (pa_cons (pv 1) (pa_cons (pe_ty (T := "str") T.str) pa_nil))) pa_nil)) (fun _ _ => rfl)))) pa_nil)))), ?_⟩
    refine ⟨_, rfl, a, rfl, ⟨_, SqL.of hS⟩, fun D hD => lc_list (K := K) (a := a) (xs := ks.map kV) (fun i H' => Same H H' ∧ H' D = some (.lst (((ks.take i).map stepDays).map V.int))) ⟨Same.new hD, upd_same⟩ (fun i H' _ h => SqL.of (h.1 _ _ hS)) ?_ ?_⟩
    · rintro i v H' hv ⟨e, hd⟩
      obtain ⟨k, hk, rfl⟩ := map_at hv
      refine ⟨rfl, _, rfl, szle (by simp), fun x hx => ?_⟩
      have ex := Same.new (o := .lst [kV k, .int 1]) hx
      have fin : ∀ n : Int, n = stepDays k → ∃ acc, (upd H' x (.lst [kV k, .int 1])) D = some (.lst acc) ∧ acc.length < sizeLine ∧ Same H (upd (upd H' x (.lst [kV k, .int 1])) D (.lst (acc ++ [.int n]))) ∧ (upd (upd H' x (.lst [kV k, .int 1])) D (.lst (acc ++ [.int n]))) D = some (.lst (((ks.take (i + 1)).map stepDays).map V.int)) := by
        rintro n rfl
        refine ⟨_, ex _ _ hd, ?_, (e.trans ex).mut hD, ?_⟩
        · rw [List.length_map, List.length_map]
          have := take_le ks i
          exact szl (by omega)
        · rw [upd_same, map_snoc hk, List.map_append]
          rfl
      cases k with
      | inl n => exact ⟨_, rfl, _, _, _, rfl, .intStr n, .inr ⟨_, rfl, x, _, _, _, rfl, rfl, SqL.of upd_same, rfl, fin n rfl⟩⟩
      | inr z => exact ⟨_, rfl, _, _, _, rfl, .strStr z, .inr ⟨_, rfl, x, _, _, _, rfl, rfl, SqL.of upd_same, rfl, fin 1 rfl⟩⟩
    · rintro H' ⟨e, hd⟩
      rw [List.length_map, List.take_length] at hd
      exact ⟨D, ks.map stepDays, rfl, SqL.of hd, q _ e⟩
end
end DG

namespace DG
open PySem L2
open PyProof.Rows (envOfC)
section
variable {P : Program} {w : World} {K : PySem.W.Frag} {mg : Str → Option Value} {base : Heap} {CS CC CW : Addr}
abbrev s_law_steps : Stmt := top 49
abbrev n_law_steps : List Str := ["_law_bag_here", "_law_ways_here", "_law_ground", "_law_many", "_law_steps_here", "_law_k", "_law_some", "_law_kind", "_law_way"]
theorem sc_law_steps : FnScope n_law_steps ["_law_bag_here", "_law_ways_here", "_law_ground", "_law_many"] (defScope s_law_steps) := ⟨rfl, rfl, rfl, by decide +kernel, rfl, by decide +kernel, by decide +kernel⟩

/-- what the law's steps promise: the list is new -/
def sp_law_stepsN : Sp := fun vs H Q _ => ∃ (p q : Addr) (cs : List Int) (H0 : Hp) (aw : Addr) (W : List Way) (x : Str) (m : Nat), vs = [.ref p, .ref aw, .str x, .int m] ∧ Wd p q cs H0 H ∧ TL H0 aw (W.map wV) ∧ W.length ≤ 26 ∧ m ≤ 5 ∧
  ∀ (t s : Addr) (ks : List Stp) (y : Str) H0' H', Same H0 H0' → Wd p q cs H0' H' → H0' t = some (.tup [.ref s, .str y]) → StepsAt H0' s ks → ks.length ≤ 5 → (∀ k ∈ ks, StepOk k) → H s = none → Q (.ref t) H'
theorem ok_law_steps (D : Def K mg "_law_steps" s_law_steps ["_law_bag_here", "_law_ways_here", "_law_ground", "_law_many"]) (T : Txt K mg CS CC CW) (c_law_from : Cal P w K mg base 1 "_law_from" ["_law_ways_here", "_law_ground"] sp_law_from) (c_law_take : Cal P w K mg base 1 "_law_take" ["_law_bag_here", "_law_many"] sp_law_take) :
    Cal P w K mg base 2 "_law_steps" ["_law_bag_here", "_law_ways_here", "_law_ground", "_law_many"] sp_law_stepsN := by
  refine D.cal sc_law_steps (fun vs H Q E h => ?_) (fun f cdv A outer s H vs Q E hr h => ?_)
  · obtain ⟨p, q0, cs, H0, aw, W, g, m, rfl, _⟩ := h; rfl
  · obtain ⟨p, q0, cs, H0, aw, Ws, g0, m, rfl, hW, ⟨xw, haw, pw⟩, lenW, m5, q⟩ := h
    have hxl := paired_len pw
    rw [List.length_map] at hxl
    refine ⟨_, (pss_cons (ps_set (i := 4) sc_law_steps.nd rfl (Or.inl rfl) (pe_lst pa_nil))
      (pss_cons (ps_for PassesOwn.never rfl (pi_range1 (by rfl) T.range (pa_cons (pv 3) pa_nil)) (pg_name (i := 5) sc_law_steps.nd rfl (Or.inl rfl))
        (pss_cons (ps_set (i := 6) sc_law_steps.nd rfl (Or.inl rfl) (pe_cal c_law_from hr (pa_cons (pv 1) (pa_cons (pv 2) pa_nil))))
      (pss_cons (ps_set (i := 7) sc_law_steps.nd rfl (Or.inl rfl) (pe_cal c_law_take hr (pa_cons (pv 0) (pa_cons pe_int pa_nil))))
      (pss_one (ps_if (PW.pt (pw_or (pt_cmpR (op_eqE hr.units0) (pv 6) (pe_lst pa_nil) (nomark _)) (pw_or1 (pt_cmpR op_eq (pv 7) pe_int (nomark _))))) (pss_one (ps_expr (pe_bm PySem.F.plainAttrs_list PySem.F.slot_list_append PySem.F.type_list_append mt_append (pv 4) (pa_cons (pe_op op_add pe_int (pe_cal c_law_take hr (pa_cons (pv 0) (pa_cons (pe_ix ix_list (pe_lst (pa_cons pe_int (pa_cons pe_int pa_nil))) (pe_cal c_law_take hr (pa_cons (pv 0) (pa_cons pe_int pa_nil))) (fun _ _ => rfl)) pa_nil)))) pa_nil)))) (pss_one (ps_if (PW.pt (pw_and (pt_cmpR op_eq (pv 7) pe_int (nomark _)) (pw_and (pt_cmpR (op_neE hr.units0) (pv 1) (pe_lst pa_nil) (nomark _)) (pw_and1 (pt_cmpR op_eq (pe_cal c_law_take hr (pa_cons (pv 0) (pa_cons pe_int pa_nil))) pe_int (nomark _)))))) (pss_one (ps_expr (pe_bm PySem.F.plainAttrs_list PySem.F.slot_list_append PySem.F.type_list_append mt_append (pv 4) (pa_cons (pe_ix ix_tup (pe_ix ix_list (pv 1) (pe_cal c_law_take hr (pa_cons (pv 0) (pa_cons (pe_bf call_len_seq T.len (pa_cons (pv 1) pa_nil)) pa_nil))) (fun _ _ => rfl)) pe_int (fun _ _ => rfl)) pa_nil)))) (pss_cons (ps_set (i := 8) sc_law_steps.nd rfl (Or.inl rfl) (pe_ix ix_list (pv 6) (pe_cal c_law_take hr (pa_cons (pv 0) (pa_cons (pe_bf call_len_seq T.len (pa_cons (pv 6) pa_nil)) pa_nil))) (fun _ _ => rfl)))
      (pss_cons (ps_expr (pe_bm PySem.F.plainAttrs_list PySem.F.slot_list_append PySem.F.type_list_append mt_append (pv 4) (pa_cons (pe_ix ix_tup (pv 8) pe_int (fun _ _ => rfl)) pa_nil)))
      (pss_one (ps_set (i := 2) sc_law_steps.nd rfl (Or.inl rfl) (pe_ix ix_tup (pv 8) pe_int (fun _ _ => rfl)))))))))))))
      (pss_one (ps_ret (pe_tup (pa_cons (pv 4) (pa_cons (pv 2) pa_nil))))))), ?_⟩
    refine ⟨Nat.zero_le _, fun ls hls => ?_⟩
    have hlsp : ls ≠ p := hW.ne hls
    have hls0 : H0 ls = none := hW.out hls
    refine ⟨_, rfl, m, rfl, by omega, by omega, for_range (lo := 0) (n := (m : Int).toNat) (fun i σ H' => ∃ (v5 v6 v7 v8 : Option V) (W : Hp) (g : Str) (ks : List Stp), σ = [some (.ref p), some (.ref aw), some (.str g), some (.int m), some (.ref ls), v5, v6, v7, v8] ∧
        Same H0 W ∧ Wd p q0 cs W H' ∧ W ls = none ∧ H' ls = some (.lst (ks.map kV)) ∧ ks.length = i ∧ ∀ k ∈ ks, StepOk k)
      ⟨_, _, _, _, H0, g0, [], rfl, Same.refl _, hW.sub (Same.new hls), hls0, upd_same, rfl, fun k hk => by cases hk⟩ ?_ ?_⟩
    · rintro i σ H' hi ⟨v5, v6, v7, v8, W0, g, ks, rfl, hup0, hWi, hlsW0, hls', hkl, hok⟩
      have haw0 := hWi.ext _ _ (hup0 _ _ haw)
      have pw0 := tups_mono hWi.ext (tups_mono hup0 pw)
      refine ⟨_, rfl, _, rfl, aw, Ws, g, rfl, ⟨xw, haw0, pw0⟩, by omega, fun l H1 e1 hln hl1 => ?_⟩
      obtain ⟨hW1, hup1⟩ := hWi.grow2 e1 hlsW0
      have hlp : l ≠ p := hWi.ne hln
      have hlls : l ≠ ls := (ne_of_none hls' hln).symm
      have hls1 := e1 _ _ hls'
      obtain ⟨bo, hbo, b0, b1, b2, rfl, _⟩ := hWi.bag
      obtain ⟨ys, hl2, pl2⟩ := TL_del (show (del p H1) ls = _ by rw [del_ne hlsp]; exact hls1) hlls (TL_del (e1 _ _ hbo) hlp hl1)
      have hWls : (del ls (del p H1)) ls = none := del_same
      have hup := hup0.trans hup1
      generalize del ls (del p H1) = W at hW1 hup hl2 pl2 hWls
      have hyl := paired_len pl2
      rw [List.length_map] at hyl
      have hyl2 := List.length_filter_le (fun y => decide (y.tp = g)) Ws
      -- the kind
      refine ⟨_, rfl, p, q0, cs, W, 4, rfl, hW1, by decide, by decide, fun kind o1 kind0 kind1 bo1 => ?_⟩
      have hW2 := hW1.put bo1
      have hls2 := (upd_ne (o := o1) hlsp).trans hls1
      generalize upd H1 p o1 = H2 at hW2 hls2 ⊢
      refine ⟨_, rfl, Nat.zero_le _, fun z hz => ⟨l, z, ys, rfl, rfl, SqL.of (Same.new hz _ _ (hW2.ext _ _ hl2)), SqL.of upd_same, _, rfl, ?_⟩⟩
      have hW3 := hW2.sub (Same.new (o := .lst []) hz)
      have hls3 := Same.new (o := .lst []) hz _ _ hls2
      generalize upd H2 z (.lst []) = H3 at hW3 hls3 ⊢
      by_cases hA : ys.isEmpty = true ∨ kind = 0
      · -- days of staying
        show if ys.isEmpty = true then _ else _
        cases hb : ys.isEmpty
        case' true => refine iteT ?_
        case' false =>
          have hk0 : kind = 0 := by
            rcases hA with h | h
            · rw [hb] at h; cases h
            · exact h
          refine iteF ⟨_, rfl, rfl, _, rfl, ?_⟩
          rw [decide_eq_true (congrArg V.int hk0)]
          refine iteT ?_
        all_goals
          refine ⟨_, rfl, .inl ⟨rfl, _, SqL.of hls3⟩, _, rfl, szle (by simp), fun x hx => ?_⟩
          have gx := Same.new (o := .lst ([2, 5].map V.int)) hx
          have hW4 := hW3.sub gx
          refine ⟨_, rfl, p, q0, cs, W, 2, rfl, hW4, by decide, by decide, fun a o2 a0 a1 bo2 => ?_⟩
          obtain ⟨c, hc, hat⟩ := pickI (xs := [2, 5]) a0 a1
          have cb : 1 ≤ c ∧ c ≤ 5 := by
            simp only [List.mem_cons, List.not_mem_nil, or_false] at hc
            omega
          refine ⟨x, _, a, _, rfl, rfl, SqL.of (by rw [upd_ne (hW3.ne hx)]; exact upd_same), hat, p, q0, cs, W, c, rfl, hW4.put bo2, by omega, by omega, fun v o3 v0 v1 bo3 => ⟨_, _, rfl, rfl, ?_⟩⟩
          refine ⟨ls, _, _, rfl, rfl, (upd_ne hlsp).trans ((upd_ne hlsp).trans (gx _ _ hls3)), by rw [List.length_map]; exact szl (by omega), ?_⟩
          refine ⟨_, _, _, _, W, g, ks ++ [.inl (1 + v)], rfl, hup, ((hW4.put bo2).put bo3).mut hWls hlsp, hWls, ?_, by rw [List.length_append, hkl]; rfl, fun k hk => ?_⟩
          · rw [upd_same, List.map_append]; rfl
          · rcases List.mem_append.mp hk with h | h
            · exact hok k h
            · rw [List.mem_singleton.mp h]; exact ⟨by omega, by omega⟩
      · have hE : ys.isEmpty = false := by
          cases h : ys.isEmpty
          · rfl
          · exact absurd (.inl h) hA
        have hk0 : ¬ kind = 0 := fun h => hA (.inr h)
        show if ys.isEmpty = true then _ else _
        rw [hE]
        refine iteF ⟨_, rfl, rfl, _, rfl, ?_⟩
        rw [decide_eq_false (fun z => hk0 (V.int.inj z))]
        refine iteF ?_
        have hyne : ys ≠ [] := fun h => by rw [h] at hE; cases hE
        have hypos : 0 < ys.length := List.length_pos_iff.mpr hyne
        -- a way that leads on
        by_cases hk1 : kind = 1
        · refine ⟨_, rfl, rfl, _, rfl, ?_⟩
          rw [decide_eq_true (congrArg V.int hk1)]
          refine iteT ⟨_, rfl, Nat.zero_le _, fun z2 hz2 => ⟨aw, z2, xw, rfl, rfl, SqL.of (Same.new hz2 _ _ (hW3.ext _ _ (hup _ _ haw))), SqL.of upd_same, _, rfl, ?_⟩⟩
          have hxne : xw.isEmpty = false := by
            cases h : xw
            · rw [h] at hxl
              simp only [List.length_nil] at hxl
              omega
            · rfl
          show if (!xw.isEmpty) = true then _ else _
          rw [hxne]
          have hW4 := hW3.sub (Same.new (o := .lst []) hz2)
          have hls4 := Same.new (o := .lst []) hz2 _ _ hls3
          generalize upd H3 z2 (.lst []) = H4 at hW4 hls4 ⊢
          refine iteT ⟨_, rfl, p, q0, cs, W, 6, rfl, hW4, by decide, by decide, fun a o2 a0 a1 bo2 => ⟨rfl, _, rfl, ?_⟩⟩
          have hW5 := hW4.put bo2
          have hls5 := (upd_ne (o := o2) hlsp).trans hls4
          generalize upd H4 p o2 = H5 at hW5 hls5 ⊢
          by_cases ha : a = 0
          · rw [decide_eq_true (congrArg V.int ha)]
            refine iteT ⟨_, rfl, .inl ⟨rfl, _, SqL.of hls5⟩, _, rfl, _, rfl, _, rfl, aw, xw, rfl, .inl (SqL.of (hW5.ext _ _ (hup _ _ haw))), p, q0, cs, W, _, rfl, hW5, by omega, by omega, fun v o3 v0 v1 bo3 => ?_⟩
            obtain ⟨y, hy, t, hat, ht⟩ := pickT (tups_mono hup pw) v0 v1
            have hW6 := hW5.put bo3
            refine ⟨aw, xw, v, _, rfl, rfl, SqL.of (hW6.ext _ _ (hup _ _ haw)), hat, t, _, _, _, rfl, rfl, SqT.of (hW6.ext _ _ ht), rfl, ?_⟩
            refine ⟨ls, _, _, rfl, rfl, (upd_ne hlsp).trans hls5, by rw [List.length_map]; exact szl (by omega), ?_⟩
            refine ⟨_, _, _, _, W, g, ks ++ [.inr y.name], rfl, hup, hW6.mut hWls hlsp, hWls, ?_, by rw [List.length_append, hkl]; rfl, fun k hk => ?_⟩
            · rw [upd_same, List.map_append]; rfl
            · rcases List.mem_append.mp hk with h | h
              · exact hok k h
              · rw [List.mem_singleton.mp h]; trivial
          · rw [decide_eq_false (fun z => ha (V.int.inj z))]
            refine iteF ⟨_, rfl, _, rfl, _, rfl, l, ys, rfl, .inl (SqL.of (hW5.ext _ _ hl2)), p, q0, cs, W, _, rfl, hW5, by omega, by omega, fun v o3 v0 v1 bo3 => ?_⟩
            obtain ⟨y, hy, t, hat, ht⟩ := pickT pl2 v0 v1
            have hW6 := hW5.put bo3
            have ht6 := hW6.ext _ _ ht
            have hls6 := (upd_ne (o := o3) hlsp).trans hls5
            refine ⟨l, ys, v, _, rfl, rfl, SqL.of (hW6.ext _ _ hl2), hat, ?_⟩
            refine ⟨_, rfl, .inl ⟨rfl, _, SqL.of hls6⟩, _, rfl, t, _, _, _, rfl, rfl, SqT.of ht6, rfl, ls, _, _, rfl, rfl, hls6, by rw [List.length_map]; exact szl (by omega), ?_⟩
            have hW7 := hW6.mut (l := ls) (o := .lst (ks.map kV ++ [.str y.name])) hWls hlsp
            refine ⟨_, rfl, t, _, _, .str y.ft, rfl, rfl, SqT.of (hW7.ext _ _ ht), rfl, ?_⟩
            refine ⟨_, _, _, _, W, y.ft, ks ++ [.inr y.name], rfl, hup, hW7, hWls, ?_, by rw [List.length_append, hkl]; rfl, fun k hk => ?_⟩
            · rw [upd_same, List.map_append]; rfl
            · rcases List.mem_append.mp hk with h | h
              · exact hok k h
              · rw [List.mem_singleton.mp h]; trivial
        · refine ⟨_, rfl, rfl, _, rfl, ?_⟩
          rw [decide_eq_false (fun z => hk1 (V.int.inj z))]
          refine iteF ⟨_, rfl, _, rfl, _, rfl, l, ys, rfl, .inl (SqL.of (hW3.ext _ _ hl2)), p, q0, cs, W, _, rfl, hW3, by omega, by omega, fun v o3 v0 v1 bo3 => ?_⟩
          obtain ⟨y, hy, t, hat, ht⟩ := pickT pl2 v0 v1
          have hW6 := hW3.put bo3
          have ht6 := hW6.ext _ _ ht
          have hls6 := (upd_ne (o := o3) hlsp).trans hls3
          refine ⟨l, ys, v, _, rfl, rfl, SqL.of (hW6.ext _ _ hl2), hat, ?_⟩
          refine ⟨_, rfl, .inl ⟨rfl, _, SqL.of hls6⟩, _, rfl, t, _, _, _, rfl, rfl, SqT.of ht6, rfl, ls, _, _, rfl, rfl, hls6, by rw [List.length_map]; exact szl (by omega), ?_⟩
          have hW7 := hW6.mut (l := ls) (o := .lst (ks.map kV ++ [.str y.name])) hWls hlsp
          refine ⟨_, rfl, t, _, _, .str y.ft, rfl, rfl, SqT.of (hW7.ext _ _ ht), rfl, ?_⟩
          refine ⟨_, _, _, _, W, y.ft, ks ++ [.inr y.name], rfl, hup, hW7, hWls, ?_, by rw [List.length_append, hkl]; rfl, fun k hk => ?_⟩
          · rw [upd_same, List.map_append]; rfl
          · rcases List.mem_append.mp hk with h | h
            · exact hok k h
            · rw [List.mem_singleton.mp h]; trivial
    · rintro σ H' ⟨v5, v6, v7, v8, W, g, ks, rfl, hup, hWi, hlsW, hls', hkl, hok⟩
      refine ⟨_, rfl, _, rfl, szle (by simp), fun t ht => ?_⟩
      have htp := hWi.ne ht
      have htW := hWi.out ht
      have htls : t ≠ ls := (ne_of_none hls' ht).symm
      have g5 := Same.new (o := .tup [.ref ls, .str g]) ht
      have hWj := (hWi.sub g5).add htW htp upd_same
      have hWk := hWj.add (l := ls) (o := .lst (ks.map kV)) (by rw [upd_ne htls.symm]; exact hlsW) hlsp (g5 _ _ hls')
      have up2 : Same W (upd (upd W t (.tup [.ref ls, .str g])) ls (.lst (ks.map kV))) := (Same.new htW).trans (Same.new (by rw [upd_ne htls.symm]; exact hlsW))
      exact q t ls ks g _ _ (hup.trans up2) hWk (by rw [upd_ne htls, upd_same]) upd_same (by omega) hok hls
end
end DG

namespace DG
open PySem L2
open PyProof.Rows (envOfC)
section
variable {P : Program} {w : World} {K : PySem.W.Frag} {mg : Str → Option Value} {base : Heap} {CS CC CW : Addr}
abbrev s_law_world : Stmt := top 50
abbrev n_law_world : List Str := ["_law_bag_here", "_law_pool", "_law_many", "_law_more", "_law_names_here", "_law_others", "_law_grounds", "_law_unit"]
theorem sc_law_world : FnScope n_law_world ["_law_bag_here"] (defScope s_law_world) := ⟨rfl, rfl, rfl, by decide +kernel, rfl, by decide +kernel, by decide +kernel⟩

theorem ok_law_world (D : Def K mg "_law_world" s_law_world ["_law_bag_here"]) (T : Txt K mg CS CC CW) (c_law_take : Cal P w K mg base 1 "_law_take" ["_law_bag_here", "_law_many"] sp_law_take) (c_law_names : Cal P w K mg base 2 "_law_names" ["_law_bag_here", "_law_many"] sp_law_names)
    (c_law_country : Cal P w K mg base 2 "_law_country" ["_law_bag_here", "_law_names_here", "_law_many"] sp_law_country) (c_law_ways : Cal P w K mg base 2 "_law_ways" ["_law_bag_here", "_law_names_here", "_law_grounds", "_law_many"] sp_law_ways) : Cal P w K mg base 3 "_law_world" ["_law_bag_here"] sp_law_world := by
  refine D.cal sc_law_world (fun vs H Q E h => ?_) (fun f cdv A outer s H vs Q E hr h => ?_)
  · obtain ⟨p, q0, cs, H0, rfl, _⟩ := h; rfl
  · obtain ⟨p, q0, cs, W, rfl, hW, q⟩ := h
    refine ⟨_, (pss_cons (ps_set (i := 1) sc_law_world.nd rfl (Or.inl rfl) (pe_cal c_law_take hr (pa_cons (pv 0) (pa_cons pe_int pa_nil))))
      (pss_cons (ps_set (i := 2) sc_law_world.nd rfl (Or.inl rfl) (pe_ix ix_list (pe_lst (pa_cons (pe_op op_add pe_int (pe_cal c_law_take hr (pa_cons (pv 0) (pa_cons pe_int pa_nil)))) (pa_cons pe_int pa_nil))) (pe_bc call_int1 T.int (pa_cons (pe_cmpR op_eq (pe_cal c_law_take hr (pa_cons (pv 0) (pa_cons pe_int pa_nil))) pe_int (nomark _)) pa_nil)) (fun _ _ => rfl)))
      (pss_cons (ps_set (i := 3) sc_law_world.nd rfl (Or.inl rfl) (pe_ix ix_list (pe_lst (pa_cons (pe_cal c_law_take hr (pa_cons (pv 0) (pa_cons pe_int pa_nil))) (pa_cons pe_int pa_nil))) (pe_bc call_int1 T.int (pa_cons (pe_cmpR op_eq (pe_cal c_law_take hr (pa_cons (pv 0) (pa_cons pe_int pa_nil))) pe_int (nomark _)) pa_nil)) (fun _ _ => rfl)))
      (pss_cons (ps_set (i := 4) sc_law_world.nd rfl (Or.inl rfl) (pe_cal c_law_names hr (pa_cons (pv 0) (pa_cons pe_int pa_nil))))
      (pss_cons (ps_set (i := 5) sc_law_world.nd rfl (Or.inl rfl) (pe_ix ix_list (pe_lst (pa_cons (pe_cal c_law_names hr (pa_cons (pv 0) (pa_cons pe_int pa_nil))) (pa_cons (pv 4) pa_nil))) (pv 1) (fun _ _ => rfl)))
      (pss_cons (ps_asg (pe_cal c_law_country hr (pa_cons (pv 0) (pa_cons (pv 4) (pa_cons (pv 2) pa_nil)))) (pg_tup rfl (pgs_cons (pg_name (i := 6) sc_law_world.nd rfl (Or.inl rfl)) (pgs_cons (pg_name (i := 7) sc_law_world.nd rfl (Or.inl rfl)) pgs_nil))))
      (pss_one (ps_ret (pe_tup (pa_cons (pv 6) (pa_cons (pe_cal c_law_ways hr (pa_cons (pv 0) (pa_cons (pv 5) (pa_cons (pv 6) (pa_cons (pv 3) pa_nil))))) pa_nil))))))))))), ?_⟩
    refine ⟨_, rfl, p, q0, cs, W, 2, rfl, hW, by decide, by decide, fun pool o1 pool0 pool1 bo1 => ?_⟩
    have hW1 := hW.put bo1
    generalize upd H p o1 = H1 at hW1 ⊢
    -- many
    refine ⟨_, rfl, p, q0, cs, W, 5, rfl, hW1, by decide, by decide, fun a o2 a0 a1 bo2 => ⟨_, _, rfl, rfl, szle (by simp), fun x hx => ?_⟩⟩
    have hW2 := hW1.put bo2
    have gx := Same.new (o := .lst ([2 + a, 12].map V.int)) hx
    have hW3 := hW2.sub gx
    refine ⟨_, rfl, p, q0, cs, W, 8, rfl, hW3, by decide, by decide, fun b o3 b0 b1 bo3 => ⟨rfl, .inr ⟨_, rfl, ?_⟩⟩⟩
    have hW4 := hW3.put bo3
    obtain ⟨n, hn, hat⟩ : ∃ n : Nat, (2 ≤ n ∧ n ≤ 12) ∧ atI ([2 + a, 12].map V.int) (if decide (V.int b = V.int 0) = true then 1 else 0) = some (.int (n : Int)) := by
      by_cases hb : decide (V.int b = V.int 0) = true
      · rw [if_pos hb]
        exact ⟨12, ⟨by decide, by decide⟩, rfl⟩
      · rw [if_neg hb]
        refine ⟨(2 + a).toNat, ⟨by omega, by omega⟩, ?_⟩
        rw [Int.toNat_of_nonneg (by omega)]
        rfl
    refine ⟨x, _, _, _, rfl, rfl, SqL.of (by rw [upd_ne (hW2.ne hx)]; exact upd_same), hat, ?_⟩
    -- more
    refine ⟨_, rfl, p, q0, cs, W, 10, rfl, hW4, by decide, by decide, fun a2 o4 a20 a21 bo4 => ⟨szle (by simp), fun y hy => ?_⟩⟩
    have hW5 := hW4.put bo4
    have gy := Same.new (o := .lst ([a2, 26].map V.int)) hy
    have hW6 := hW5.sub gy
    refine ⟨_, rfl, p, q0, cs, W, 8, rfl, hW6, by decide, by decide, fun b2 o5 b20 b21 bo5 => ⟨rfl, .inr ⟨_, rfl, ?_⟩⟩⟩
    have hW7 := hW6.put bo5
    obtain ⟨n2, hn2, hat2⟩ : ∃ n2 : Nat, n2 ≤ 26 ∧ atI ([a2, 26].map V.int) (if decide (V.int b2 = V.int 0) = true then 1 else 0) = some (.int (n2 : Int)) := by
      by_cases hb : decide (V.int b2 = V.int 0) = true
      · rw [if_pos hb]
        exact ⟨26, by decide, rfl⟩
      · rw [if_neg hb]
        refine ⟨a2.toNat, by omega, ?_⟩
        rw [Int.toNat_of_nonneg (by omega)]
        rfl
    refine ⟨y, _, _, _, rfl, rfl, SqL.of (by rw [upd_ne (hW5.ne hy)]; exact upd_same), hat2, ?_⟩
    -- names
    refine ⟨_, rfl, p, q0, cs, W, rfl, hW7, fun l ns W1 H2 up1 hWa hl len1 ok1 => ?_⟩
    refine ⟨_, rfl, p, q0, cs, W1, rfl, hWa, fun l2 ns2 W2 H3 up2 hWb hl2 len2 ok2 => ⟨_, rfl, szle (by simp), fun z hz => ?_⟩⟩
    have hWc := hWb.sub (Same.new (o := .lst [.ref l2, .ref l]) hz)
    obtain ⟨lo, nso, hlo, leno, oko, hato⟩ : ∃ lo nso, W2 lo = some (.lst (nso.map V.str)) ∧ nso.length = 26 ∧ NamesOk nso ∧ atI [V.ref l2, V.ref l] pool = some (.ref lo) := by
      have hp : pool = 0 ∨ pool = 1 := by omega
      rcases hp with rfl | rfl
      · exact ⟨l2, ns2, hl2, len2, ok2, rfl⟩
      · exact ⟨l, ns, up2 _ _ hl, len1, ok1, rfl⟩
    refine ⟨_, rfl, z, _, _, _, rfl, rfl, SqL.of upd_same, hato, ?_⟩
    -- the country
    refine ⟨_, rfl, _, rfl, _, rfl, p, q0, cs, W2, l, ns, n, rfl, hWc, up2 _ _ hl, ok1, len1, hn.2, fun t ag u G W3 H4 up3 hWd ht hG okG hGn => ?_⟩
    refine ⟨t, _, rfl, SqT.of (hWd.ext _ _ ht), rfl, _, _, rfl, _, _, rfl, rfl, ?_⟩
    refine ⟨_, rfl, _, rfl, _, rfl, _, rfl, _, rfl, p, q0, cs, W3, lo, ag, nso, G, n2, rfl, hWd, up3 _ _ hlo, oko, leno, hG, okG, by omega, by omega, hn2, fun aw Ws W4 H5 up4 hWe haw okW lenW => ?_⟩
    refine ⟨szle (by simp), fun t2 ht2 => ?_⟩
    have hW9 := (hWe.sub (Same.new (o := .tup [.ref ag, .ref aw]) ht2)).add (hWe.out ht2) (hWe.ne ht2) upd_same
    have up5 := Same.new (o := .tup [.ref ag, .ref aw]) (hWe.out ht2)
    exact q t2 ag aw G Ws _ _ ((((up1.trans up2).trans up3).trans up4).trans up5) hW9 upd_same (hG.mono (up4.trans up5)) (haw.mono up5) okG okW (by omega) (by omega) lenW
end
end DG

namespace DG
open PySem L2
open PyProof.Rows (envOfC)
section
variable {P : Program} {w : World} {K : PySem.W.Frag} {mg : Str → Option Value} {base : Heap} {CS CC CW : Addr}
abbrev s_law_laid : Stmt := top 52
abbrev n_law_laid : List Str := ["_law_ways_here", "_law_ground", "_law_day", "_law_steps_here", "_law_rests", "_law_walks", "_law_step", "_law_here", "_law_first", "_law_last", "_law_some", "_law_way"]
theorem sc_law_laid : FnScope n_law_laid ["_law_ways_here", "_law_ground", "_law_day", "_law_steps_here"] (defScope s_law_laid) := ⟨rfl, rfl, rfl, by decide +kernel, rfl, by decide +kernel, by decide +kernel⟩

theorem ok_law_laid (D : Def K mg "_law_laid" s_law_laid ["_law_ways_here", "_law_ground", "_law_day", "_law_steps_here"]) (T : Txt K mg CS CC CW) : Cal P w K mg base 1 "_law_laid" ["_law_ways_here", "_law_ground", "_law_day", "_law_steps_here"] sp_law_laid := by
  refine D.cal sc_law_laid (fun vs H Q E h => ?_) (fun f cdv A outer s H vs Q E hr h => ?_)
  · obtain ⟨aw, a, W, g, day, ks, rfl, _⟩ := h; rfl
  · obtain ⟨aw, a, W, g, day, ks, rfl, ⟨xg, haw, pg⟩, lenW, hS, lenK, q⟩ := h
    have hgl := paired_len pg
    rw [List.length_map] at hgl
    refine ⟨_, (pss_cons (ps_set (i := 4) sc_law_laid.nd rfl (Or.inl rfl) (pe_lst (pa_cons (pe_tup (pa_cons (pv 1) (pa_cons (pv 2) (pa_cons (pv 2) pa_nil)))) pa_nil)))
      (pss_cons (ps_set (i := 5) sc_law_laid.nd rfl (Or.inl rfl) (pe_lst pa_nil))
      (pss_cons (ps_for PassesOwn.never rfl (pi_list (pv 3)) (pg_name (i := 6) sc_law_laid.nd rfl (Or.inr rfl))
        (pss_cons (ps_asg (pe_ix ix_list (pv 4) (pe_un un_neg pe_int) (fun _ _ => rfl)) (pg_tup rfl (pgs_cons (pg_name (i := 7) sc_law_laid.nd rfl (Or.inr rfl)) (pgs_cons (pg_name (i := 8) sc_law_laid.nd rfl (Or.inl rfl)) (pgs_cons (pg_name (i := 9) sc_law_laid.nd rfl (Or.inl rfl)) pgs_nil)))))
      (pss_one (ps_if (pt_not (pt_val (pe_bf call_is T.isinstance (pa_cons (pv 6) (pa_cons (pe_ty (T := "str") T.str) pa_nil))))) (pss_one (ps_asg (pe_tup (pa_cons (pv 7) (pa_cons (pv 8) (pa_cons (pe_op op_add (pv 9) (pv 6)) pa_nil)))) (pg_sub (pv 4) (pe_un un_neg pe_int) set_list))) (pss_cons (ps_setLc (i := 10) (own := [("_law_way", 11)]) (tt := (tAnd (tTest (tOp _ (tOp (rIxT K) _ _) _)) (tTest (tOp _ (tOp (rIxT K) _ _) _)))) rfl sc_law_laid.nd rfl rfl (sw_true rfl rfl rfl (by decide +kernel)) (pi_list (pv 0)) (blkOk_by (N := n_law_laid) (sc := defScope s_law_laid) (by decide +kernel)) (fun _ _ _ _ _ => (pg_name (i := 11) sc_law_laid.nd rfl (Or.inl rfl))) (fun _ _ _ _ _ => (pts_one (PW.pt (pw_and (pt_cmpR op_eq (pe_ix ix_tup (pv 11) pe_int (fun _ _ => rfl)) (pv 6) (nomark _)) (pw_and1 (pt_cmpR op_eq (pe_ix ix_tup (pv 11) pe_int (fun _ _ => rfl)) (pv 7) (nomark _))))))) (fun _ _ _ _ _ => (pv 11)))
      (pss_cons (ps_if (pt_cmpR (op_eqE hr.units0) (pv 10) (pe_lst pa_nil) (nomark _)) (pss_one (ps_ret (pe_tup (pa_cons (pv 4) (pa_cons (pv 5) (pa_cons (pe_tup (pa_cons (pe_op op_add (pv 9) pe_int) (pa_cons (pv 6) pa_nil))) pa_nil)))))) pss_nil)
      (pss_cons (ps_expr (pe_bm PySem.F.plainAttrs_list PySem.F.slot_list_append PySem.F.type_list_append mt_append (pv 4) (pa_cons (pe_tup (pa_cons (pe_ix ix_tup (pe_ix ix_list (pv 10) pe_int (fun _ _ => rfl)) pe_int (fun _ _ => rfl)) (pa_cons (pe_op op_add (pv 9) pe_int) (pa_cons (pe_op op_add (pv 9) pe_int) pa_nil)))) pa_nil)))
      (pss_one (ps_expr (pe_bm PySem.F.plainAttrs_list PySem.F.slot_list_append PySem.F.type_list_append mt_append (pv 5) (pa_cons (pe_tup (pa_cons (pe_op op_add (pv 9) pe_int) (pa_cons (pv 6) pa_nil))) pa_nil)))))))))))
      (pss_one (ps_ret (pe_tup (pa_cons (pv 4) (pa_cons (pv 5) (pa_cons pe_non pa_nil))))))))), ?_⟩
    refine ⟨_, rfl, _, rfl, _, rfl, szle (by simp), fun t0 ht0 => ⟨szle (by simp), fun lr hlr => ⟨Nat.zero_le _, fun lw hlw => ?_⟩⟩⟩
    have e1 := Same.new (o := .tup (restV (g, day, day))) ht0
    have e2 := Same.new (o := .lst [.ref t0]) hlr
    have e3 := Same.new (o := .lst []) hlw
    have hlr0 : H lr = none := e1.none hlr
    have hlw0 : H lw = none := (e1.trans e2).none hlw
    have hne : lr ≠ lw := ne_of_none upd_same hlw
    have h1r := e3 _ _ (upd_same (H := upd H t0 (.tup (restV (g, day, day)))) (a := lr) (o := .lst [.ref t0]))
    have h1t := e3 _ _ (e2 _ _ (upd_same (H := H) (a := t0) (o := .tup (restV (g, day, day)))))
    have h1w : (upd (upd (upd H t0 (.tup (restV (g, day, day)))) lr (.lst [.ref t0])) lw (.lst [])) lw = some (.lst []) := upd_same
    have e03 := (e1.trans e2).trans e3
    have e0 : Same H (del2 lr lw (upd (upd (upd H t0 (.tup (restV (g, day, day)))) lr (.lst [.ref t0])) lw (.lst []))) := Same.del2_r e03 hlr0 hlw0
    refine ⟨_, rfl, a, rfl, ⟨_, SqL.of (e03 _ _ hS)⟩, ?_⟩
    generalize hH1 : (upd (upd (upd H t0 (.tup (restV (g, day, day)))) lr (.lst [.ref t0])) lw (.lst [])) = H1 at e0 e03 h1r h1t h1w
    refine for_list (K := K) (a := a) (xs := ks.map kV) (fun i σ H' => ∃ (R : List Rest) (M : List Walk) (here : Str) (first last : Int) (v6 v7 v8 v9 v10 : Option V) (xr xw : List V) (tl : Addr), σ = [some (.ref aw), some (.str g), some (.int day), some (.ref a), some (.ref lr), some (.ref lw), v6, v7, v8, v9, v10, none] ∧
        Same (del2 lr lw H1) H' ∧ H' lr = some (.lst (xr ++ [.ref tl])) ∧ Paired (TupAt H') (R.map restV) xr ∧ H' tl = some (.tup (restV (here, first, last))) ∧ H' lw = some (.lst xw) ∧ Paired (TupAt H') (M.map walkV) xw ∧ R.length ≤ i ∧ M.length ≤ i ∧
        lay W g day day ks = (R ++ (lay W here first last (ks.drop i)).1, M ++ (lay W here first last (ks.drop i)).2.1, (lay W here first last (ks.drop i)).2.2)) ?_ (fun i σ H' _ ⟨_, _, _, _, _, _, _, _, _, _, _, _, _, _, e, _⟩ => SqL.of ((e0.trans e) _ _ hS)) ?_ ?_
    · refine ⟨[], [], g, day, day, none, none, none, none, none, [], [], t0, rfl, ?_, ?_, .nil, ?_, ?_, .nil, Nat.le_refl _, Nat.le_refl _, rfl⟩
      · rw [← hH1]; exact Same.del2_l
      · exact h1r
      · exact h1t
      · rw [← hH1] at h1w; exact h1w
    · rintro i x σ H' hx ⟨R, M, here, first, last, v6, v7, v8, v9, v10, xr, xw, tl, rfl, e, hr1, pr, ht1, hw1, pw, lR, lM, hlay⟩
      obtain ⟨k, hk, rfl⟩ := map_at hx
      have hi := at_lt hk
      rw [drop_cons hk] at hlay
      have lxr := paired_len pr
      have lxw := paired_len pw
      rw [List.length_map] at lxr lxw
      refine ⟨_, rfl, _, rfl, lr, _, _, _, rfl, rfl, SqL.of hr1, atI_last _ _, tl, _, rfl, SqT.of ht1, rfl, _, _, rfl, _, _, rfl, _, _, rfl, rfl, ?_⟩
      cases k with
      | inl n =>
        refine ⟨_, rfl, _, _, _, rfl, .intStr n, _, rfl, ?_⟩
        refine ⟨_, rfl, _, rfl, _, rfl, _, rfl, last, n, rfl, rfl, szle (by simp), fun t ht => ?_⟩
        have et := Same.new (o := .tup (restV (here, first, last + n))) ht
        have htr : t ≠ lr := (ne_of_none hr1 ht).symm
        have htw : t ≠ lw := (ne_of_none hw1 ht).symm
        refine ⟨_, rfl, _, rfl, lr, _, _, xr.length, rfl, rfl, et _ _ hr1, ixN_m1 _ _, ?_⟩
        have e5 : Same (del2 lr lw H') (upd (upd H' t (.tup (restV (here, first, last + n)))) lr (.lst ((xr ++ [V.ref tl]).set xr.length (V.ref t)))) := (Same.del2_l.trans et).mut del2_l
        refine ⟨R, M, here, first, last + n, _, _, _, _, _, xr, xw, t, rfl, Same.del2_trans e e5, by rw [upd_same, set_last], tups_mono e5 (tups_del2 hr1 hw1 pr), by rw [upd_ne htr]; exact upd_same, by rw [upd_ne hne.symm]; exact et _ _ hw1, tups_mono e5 (tups_del2 hr1 hw1 pw), by omega, by omega, hlay⟩
      | inr x =>
        refine ⟨_, rfl, _, _, _, rfl, .strStr x, _, rfl, ?_⟩
        have hawH := (e0.trans e) _ _ haw
        have pgH := tups_mono (e0.trans e) pg
        refine ⟨_, rfl, aw, rfl, ⟨_, SqL.of hawH⟩, fun D hD => lc_list (K := K) (a := aw) (xs := xg) (fun j Hc => Same H' Hc ∧ ∃ ys, Hc D = some (.lst ys) ∧ Paired (TupAt H') (((W.take j).filter fun y => decide (y.name = x) && decide (y.tp = here)).map wV) ys) ⟨Same.new hD, [], upd_same, .nil⟩ (fun j Hc _ h => SqL.of (h.1 _ _ hawH)) ?_ ?_⟩
        · rintro j v Hc hv ⟨ec, ys, hd, hp⟩
          obtain ⟨d, hd2, t, rfl, ht⟩ := paired_at pgH hv
          obtain ⟨y, hy, rfl⟩ := map_at hd2
          have hys := paired_len hp
          rw [List.length_map] at hys
          have hyl := List.length_filter_le (fun y => decide (y.name = x) && decide (y.tp = here)) (W.take j)
          have hyl2 := take_le W j
          refine ⟨rfl, _, rfl, t, _, _, _, rfl, rfl, SqT.of (ec _ _ ht), rfl, _, rfl, rfl, _, rfl, ?_⟩
          rw [filter_take hy]
          by_cases h1 : y.name = x
          · rw [decide_eq_true (show V.str y.name = kV (Sum.inr x) from congrArg V.str h1)]
            refine ⟨_, rfl, t, _, _, _, rfl, rfl, SqT.of (ec _ _ ht), rfl, _, rfl, rfl, _, rfl, ?_⟩
            by_cases h2 : y.tp = here
            · rw [decide_eq_true (congrArg V.str h2), if_pos (by simp [h1, h2])]
              refine ⟨_, rfl, ys, hd, szl (by omega), ec.mut hD, ys ++ [.ref t], upd_same, ?_⟩
              rw [List.map_append]
              exact paired_snoc ⟨t, rfl, ht⟩ hp
            · rw [decide_eq_false (show ¬ V.str y.tp = V.str here by intro z; exact h2 (V.str.inj z)), if_neg (by simp [h2]), List.append_nil]
              exact ⟨ec, ys, hd, hp⟩
          · rw [decide_eq_false (show ¬ V.str y.name = kV (Sum.inr x) by intro z; exact h1 (V.str.inj z)), if_neg (by simp [h1]), List.append_nil]
            exact ⟨ec, ys, hd, hp⟩
        · rintro Hc ⟨ec, ys, hd, hp⟩
          rw [← hgl, List.take_length] at hp
          have hfind : (W.filter fun y => decide (y.name = x) && decide (y.tp = here)).head? = W.find? fun y => decide (y.name = x) && decide (y.tp = here) := List.head?_filter
          refine ⟨_, rfl, Nat.zero_le _, fun z hz => ⟨D, z, ys, rfl, rfl, SqL.of (Same.new hz _ _ hd), SqL.of upd_same, _, rfl, ?_⟩⟩
          have ez := ec.trans (Same.new (o := .lst []) hz)
          have hdz := Same.new (o := .lst []) hz _ _ hd
          have hr2 := ez _ _ hr1
          have hw2 := ez _ _ hw1
          have ht2 := ez _ _ ht1
          generalize upd Hc z (.lst []) = H2 at ez hdz hr2 hw2 ht2 ⊢
          show if ys.isEmpty = true then _ else _
          cases hl : lead W x here with
          | none =>
            have hf : (W.filter fun y => decide (y.name = x) && decide (y.tp = here)) = [] := by
              unfold lead at hl
              rw [Option.map_eq_none_iff] at hl
              rw [hl] at hfind
              exact List.head?_eq_none_iff.mp hfind
            rw [hf] at hp
            cases hp
            rw [lay_none hl] at hlay
            refine iteT ⟨_, rfl, _, rfl, _, rfl, last, 1, rfl, rfl, _, rfl, szle (by simp), fun p2 hp2 => ⟨szle (by simp), fun p3 hp3 => ?_⟩⟩
            have e5 := Same.new (o := .tup [.int (last + 1), .str x]) hp2
            have e6 := Same.new (o := .tup [.ref lr, .ref lw, .ref p2]) hp3
            have e7 := (ez.trans e5).trans e6
            refine q p3 _ ((e0.trans e).trans e7) ?_
            rw [hlay]
            refine ⟨lr, lw, .ref p2, upd_same, ⟨_, e7 _ _ hr1, ?_⟩, ⟨_, e7 _ _ hw1, ?_⟩, p2, rfl, e6 _ _ upd_same⟩
            · show Paired _ (List.map restV (R ++ [(here, first, last)])) _
              rw [List.map_append]
              exact tups_mono e7 (paired_snoc (F := TupAt H') ⟨tl, rfl, ht1⟩ pr)
            · show Paired _ (List.map walkV (M ++ [])) _
              rw [List.append_nil]
              exact tups_mono e7 pw
          | some f =>
            obtain ⟨y, hy1, hy2⟩ : ∃ y, (W.filter fun y => decide (y.name = x) && decide (y.tp = here)).head? = some y ∧ y.ft = f := by
              unfold lead at hl
              rw [Option.map_eq_some_iff] at hl
              obtain ⟨y, h1, h2⟩ := hl
              exact ⟨y, by rw [hfind, h1], h2⟩
            subst hy2
            rw [lay_some hl] at hlay
            generalize (W.filter fun y => decide (y.name = x) && decide (y.tp = here)) = ws at hp hy1
            cases ws with
            | nil => cases hy1
            | cons y' r =>
              cases hy1
              cases hp with
              | cons hp1 hp2 =>
                rename_i c ys
                obtain ⟨t, rfl, ht⟩ := hp1
                have htz := ez _ _ ht
                refine iteF ⟨_, rfl, .inl ⟨rfl, _, SqL.of hr2⟩, _, rfl, D, _, _, _, rfl, rfl, SqL.of hdz, at_of (j := 0) rfl rfl, t, _, _, .str y.ft, rfl, rfl, SqT.of htz, rfl, _, rfl, last, 1, rfl, rfl, _, rfl, last, 1, rfl, rfl, szle (by simp), fun p hp => ?_⟩
                have ep := Same.new (o := .tup (restV (y.ft, last + 1, last + 1))) hp
                refine ⟨lr, _, _, rfl, rfl, ep _ _ hr2, by rw [List.length_append]; exact szl (by simp; omega), ?_⟩
                have hpr : p ≠ lr := (ne_of_none hr2 hp).symm
                have hpw : p ≠ lw := (ne_of_none hw2 hp).symm
                have e5 : Same (del2 lr lw H') (upd (upd H2 p (.tup (restV (y.ft, last + 1, last + 1)))) lr (.lst ((xr ++ [.ref tl]) ++ [.ref p]))) := (Same.del2_l.trans (ez.trans ep)).mut del2_l
                have hr3 : (upd (upd H2 p (.tup (restV (y.ft, last + 1, last + 1)))) lr (.lst ((xr ++ [.ref tl]) ++ [.ref p]))) lr = some (.lst ((xr ++ [.ref tl]) ++ [.ref p])) := upd_same
                have hw3 : (upd (upd H2 p (.tup (restV (y.ft, last + 1, last + 1)))) lr (.lst ((xr ++ [.ref tl]) ++ [.ref p]))) lw = some (.lst xw) := by rw [upd_ne hne.symm]; exact ep _ _ hw2
                have hp3 : (upd (upd H2 p (.tup (restV (y.ft, last + 1, last + 1)))) lr (.lst ((xr ++ [.ref tl]) ++ [.ref p]))) p = some (.tup (restV (y.ft, last + 1, last + 1))) := by rw [upd_ne hpr]; exact upd_same
                refine ⟨_, rfl, .inl ⟨rfl, _, SqL.of hw3⟩, _, rfl, last, 1, rfl, rfl, _, rfl, szle (by simp), fun p2 hp2 => ?_⟩
                have ep2 := Same.new (o := .tup [.int (last + 1), .str x]) hp2
                have hp2w : p2 ≠ lw := (ne_of_none hw3 hp2).symm
                refine ⟨lw, xw, _, rfl, rfl, ep2 _ _ hw3, szl (by omega), ?_⟩
                have e6 : Same (del2 lr lw (upd (upd H2 p (.tup (restV (y.ft, last + 1, last + 1)))) lr (.lst ((xr ++ [.ref tl]) ++ [.ref p])))) (upd (upd (upd (upd H2 p (.tup (restV (y.ft, last + 1, last + 1)))) lr (.lst ((xr ++ [.ref tl]) ++ [.ref p]))) p2 (.tup [.int (last + 1), .str x])) lw (.lst (xw ++ [.ref p2]))) := (Same.del2_l.trans ep2).mut del2_m
                have e7 := Same.del2_trans e5 e6
                have prl := tups_del2 hr1 hw1 (paired_snoc (F := TupAt H') (a := restV (here, first, last)) ⟨tl, rfl, ht1⟩ pr)
                refine ⟨R ++ [(here, first, last)], M ++ [(last + 1, x)], y.ft, last + 1, last + 1, _, _, _, _, _, xr ++ [.ref tl], xw ++ [.ref p2], p, rfl, Same.del2_trans e e7, ?_, ?_, ?_, upd_same, ?_, ?_, ?_, ?_⟩
                · rw [upd_ne hne]; exact ep2 _ _ hr3
                · rw [List.map_append]
                  exact tups_mono e7 prl
                · rw [upd_ne hpw]; exact ep2 _ _ hp3
                · rw [List.map_append]
                  exact paired_snoc ⟨p2, rfl, by rw [upd_ne hp2w]; exact upd_same⟩ (tups_mono e7 (tups_del2 hr1 hw1 pw))
                · rw [List.length_append]; simp; omega
                · rw [List.length_append]; simp; omega
                · rw [hlay]
                  simp only [List.append_assoc, List.singleton_append]
    · rintro σ H' ⟨R, M, here, first, last, v6, v7, v8, v9, v10, xr, xw, tl, rfl, e, hr1, pr, ht1, hw1, pw, lR, lM, hlay⟩
      rw [List.length_map, List.drop_length] at hlay
      refine ⟨_, rfl, _, rfl, szle (by simp), fun p2 hp2 => ?_⟩
      have e4 := Same.new (o := .tup [.ref lr, .ref lw, .non]) hp2
      refine q p2 _ ((e0.trans e).trans e4) ?_
      rw [hlay]
      refine ⟨lr, lw, .non, upd_same, ⟨_, e4 _ _ hr1, ?_⟩, ⟨_, e4 _ _ hw1, ?_⟩, rfl⟩
      · show Paired _ (List.map restV (R ++ [(here, first, last)])) _
        rw [List.map_append]
        exact tups_mono e4 (paired_snoc (F := TupAt H') ⟨tl, rfl, ht1⟩ pr)
      · show Paired _ (List.map walkV (M ++ [])) _
        rw [List.append_nil]
        exact tups_mono e4 pw
end
end DG

namespace DG
open PySem L2
open PyProof.Rows (envOfC)
section
variable {P : Program} {w : World} {K : PySem.W.Frag} {mg : Str → Option Value} {base : Heap} {CS CC CW : Addr}
abbrev s_law_end_to_end : Stmt := top 54
abbrev n_law_end_to_end : List Str := ["_law_rests", "_law_day", "_law_night", "_law_ground", "_law_first", "_law_last"]
theorem sc_law_end_to_end : FnScope n_law_end_to_end ["_law_rests", "_law_day"] (defScope s_law_end_to_end) := ⟨rfl, rfl, rfl, by decide +kernel, rfl, by decide +kernel, by decide +kernel⟩

theorem contig_cons {n m f l : Int} {g : Str} {r : List Rest} (h : Contig n ((g, f, l) :: r) m) : n = f ∧ f ≤ l ∧ Contig (l + 1) r m := by
  cases h with
  | cons h1 h2 => exact ⟨rfl, h1, h2⟩
theorem contig_nil {n m : Int} (h : Contig n [] m) : n = m := by
  cases h
  rfl
theorem ok_law_end_to_end (D : Def K mg "_law_end_to_end" s_law_end_to_end ["_law_rests", "_law_day"]) : Cal P w K mg base 1 "_law_end_to_end" ["_law_rests", "_law_day"] sp_law_end_to_end := by
  refine D.cal sc_law_end_to_end (fun vs H Q E h => ?_) (fun f cdv A outer s H vs Q E hr h => ?_)
  · obtain ⟨a, R, day, n, rfl, _⟩ := h; rfl
  · obtain ⟨a, R, day, n, rfl, ⟨xr, ha, pr⟩, len, hc, q⟩ := h
    refine ⟨_, (pss_cons (ps_set (i := 2) sc_law_end_to_end.nd rfl (Or.inl rfl) (pv 1))
      (pss_cons (ps_for PassesOwn.never rfl (pi_list (pv 0)) (pg_tup rfl (pgs_cons (pg_name (i := 3) sc_law_end_to_end.nd rfl (Or.inl rfl)) (pgs_cons (pg_name (i := 4) sc_law_end_to_end.nd rfl (Or.inl rfl)) (pgs_cons (pg_name (i := 5) sc_law_end_to_end.nd rfl (Or.inl rfl)) pgs_nil))))
        (pss_cons (ps_if (PW.pt (pw_or (pt_cmpR op_ne (pv 4) (pv 2) (nomark _)) (pw_or1 (pt_cmpR op_lt (pv 5) (pv 4) (nomark _))))) (pss_one (ps_ret (pe_un un_neg pe_int))) pss_nil)
      (pss_one (ps_set (i := 2) sc_law_end_to_end.nd rfl (Or.inl rfl) (pe_op op_add (pv 5) pe_int)))))
      (pss_one (ps_ret (pv 2))))), ?_⟩
    have hxl := paired_len pr
    rw [List.length_map] at hxl
    refine ⟨_, rfl, _, rfl, a, rfl, ⟨_, SqL.of ha⟩, for_list (K := K) (a := a) (xs := xr) (fun i σ H' => ∃ (v3 v4 v5 : Option V) (z : Int), σ = [some (.ref a), some (.int day), some (.int z), v3, v4, v5] ∧ H' = H ∧ Contig z (R.drop i) n)
      ⟨_, _, _, day, rfl, rfl, hc⟩ (fun i σ H' _ ⟨_, _, _, _, _, e, _⟩ => SqL.of (by rw [e]; exact ha)) ?_ ?_⟩
    · rintro i x σ H' hx ⟨v3, v4, v5, z, rfl, rfl, hz⟩
      obtain ⟨d, hd, t, rfl, ht⟩ := paired_at pr hx
      obtain ⟨⟨g, f, l⟩, hr2, rfl⟩ := map_at hd
      rw [drop_cons hr2] at hz
      obtain ⟨rfl, hfl, hz2⟩ := contig_cons hz
      refine ⟨t, _, rfl, SqT.of ht, rfl, _, _, rfl, _, _, rfl, _, _, rfl, rfl, ?_⟩
      refine ⟨_, rfl, _, rfl, rfl, _, rfl, iteNS rfl ?_⟩
      refine ⟨_, rfl, _, rfl, _, _, rfl, rfl, _, rfl, ?_⟩
      rw [decide_eq_false (show ¬ l < z by omega)]
      exact ⟨_, rfl, _, _, rfl, rfl, _, _, _, l + 1, rfl, rfl, hz2⟩
    · rintro σ H' ⟨v3, v4, v5, z, rfl, rfl, hz⟩
      rw [← hxl, List.drop_length] at hz
      have e := contig_nil hz
      subst e
      exact ⟨_, rfl, q⟩
end
end DG

namespace DG
open PySem L2
open PyProof.Rows (envOfC)
section
variable {P : Program} {w : World} {K : PySem.W.Frag} {mg : Str → Option Value} {base : Heap} {CS CC CW : Addr}
abbrev s_law_walks_right : Stmt := top 55
abbrev n_law_walks_right : List Str := ["_law_world_here", "_law_rests", "_law_walks", "_law_steps_here", "_law_day", "_law_grounds", "_law_ways_here", "_law_heights", "_law_ground", "_law_ends", "_law_way", "_law_days_here", "_law_step", "_law_k", "_law_start", "_law_here", "_law_there"]
theorem sc_law_walks_right : FnScope n_law_walks_right ["_law_world_here", "_law_rests", "_law_walks", "_law_steps_here", "_law_day"] (defScope s_law_walks_right) := ⟨rfl, rfl, rfl, by decide +kernel, rfl, by decide +kernel, by decide +kernel⟩

theorem ok_law_walks_right (D : Def K mg "_law_walks_right" s_law_walks_right ["_law_world_here", "_law_rests", "_law_walks", "_law_steps_here", "_law_day"]) (T : Txt K mg CS CC CW) (c_law_days : Cal P w K mg base 1 "_law_days" ["_law_steps_here"] sp_law_days) :
    Cal P w K mg base 2 "_law_walks_right" ["_law_world_here", "_law_rests", "_law_walks", "_law_steps_here", "_law_day"] sp_law_walks_right := by
  refine D.cal sc_law_walks_right (fun vs H Q E h => ?_) (fun f cdv A outer s H vs Q E hr h => ?_)
  · obtain ⟨t, ag, aw, a, b, s, G, W, x, day, ks, rfl, _⟩ := h; rfl
  · obtain ⟨t, ag, aw, a, b, s0, G, W, x, day, ks, rfl, ht, ⟨xg, hag, pg⟩, ⟨xw, haw, pw⟩, okG, okW, lenG, lenW, ⟨xr, ha, pr⟩, ⟨xm, hb, pm⟩, hS, p1, lenK, q⟩ := h
    have hu := hu_of hr
    have hgl := paired_len pg
    have hwl := paired_len pw
    have hml := paired_len pm
    rw [List.length_map] at hgl hwl hml
    refine ⟨_, (pss_cons (ps_asg (pv 0) (pg_tup rfl (pgs_cons (pg_name (i := 5) sc_law_walks_right.nd rfl (Or.inl rfl)) (pgs_cons (pg_name (i := 6) sc_law_walks_right.nd rfl (Or.inl rfl)) pgs_nil))))
      (pss_cons (ps_set (i := 7) sc_law_walks_right.nd rfl (Or.inl rfl) (pe_bc (call_dictP rfl) T.dict (pa_cons (pe_lc (own := [("_law_ground", 8)]) (te := (tTup (tCons (tOp (rIxT K) _ _) (tCons (tOp (rIxT K) _ _) tNil)))) (tt := tYes) rfl sc_law_walks_right.nd (pi_list (pv 5)) (blkOk_by (N := n_law_walks_right) (sc := defScope s_law_walks_right) (by decide +kernel)) (fun _ _ _ _ _ => (pg_name (i := 8) sc_law_walks_right.nd rfl (Or.inl rfl))) (fun _ _ _ _ _ => pts_nil) (fun _ _ _ _ _ => (pe_tup (pa_cons (pe_ix ix_tup (pv 8) pe_int (fun _ _ => rfl)) (pa_cons (pe_ix ix_tup (pv 8) pe_int (fun _ _ => rfl)) pa_nil))))) pa_nil)))
      (pss_cons (ps_set (i := 9) sc_law_walks_right.nd rfl (Or.inl rfl) (pe_bc (call_dictP rfl) T.dict (pa_cons (pe_lc (own := [("_law_way", 10)]) (te := (tTup (tCons (tOp (rIxT K) _ _) (tCons (tSl (rSlT K) _ _ _) tNil)))) (tt := tYes) rfl sc_law_walks_right.nd (pi_list (pv 6)) (blkOk_by (N := n_law_walks_right) (sc := defScope s_law_walks_right) (by decide +kernel)) (fun _ _ _ _ _ => (pg_name (i := 10) sc_law_walks_right.nd rfl (Or.inl rfl))) (fun _ _ _ _ _ => pts_nil) (fun _ _ _ _ _ => (pe_tup (pa_cons (pe_ix ix_tup (pv 10) pe_int (fun _ _ => rfl)) (pa_cons (pe_slice sl_tup (pv 10) (po_some pe_int) (po_some pe_int)) pa_nil))))) pa_nil)))
      (pss_cons (ps_set (i := 11) sc_law_walks_right.nd rfl (Or.inl rfl) pe_dnewK)
      (pss_cons (ps_for PassesOwn.never rfl (pi_list (pv 3)) (pg_name (i := 12) sc_law_walks_right.nd rfl (Or.inl rfl))
        (pss_cons (ps_set (i := 4) sc_law_walks_right.nd rfl (Or.inl rfl) (pe_op op_add (pv 4) (pe_cal c_law_days hr (pa_cons (pe_lst (pa_cons (pv 12) pa_nil)) pa_nil))))
      (pss_one (ps_if (pt_val (pe_bf call_is T.isinstance (pa_cons (pv 12) (pa_cons (pe_ty (T := "str") T.str) pa_nil)))) (pss_one (ps_dput hu (pv 11) (pv 4) (pv 12) rfl)) pss_nil))))
      (pss_cons (ps_for PassesOwn.never rfl (pi_enum (by rfl) T.enumerate (pa_cons (pv 2) pa_nil)) (pg_tup rfl (pgs_cons (pg_name (i := 13) sc_law_walks_right.nd rfl (Or.inl rfl)) (pgs_cons (pg_tup rfl (pgs_cons (pg_name (i := 14) sc_law_walks_right.nd rfl (Or.inl rfl)) (pgs_cons (pg_name (i := 10) sc_law_walks_right.nd rfl (Or.inl rfl)) pgs_nil))) pgs_nil)))
        (pss_cons (ps_par (i := 15) (j := 16) (by rfl) sc_law_walks_right.nd rfl rfl (by decide) rfl rfl (pa_cons (pe_ix ix_list (pv 1) (pv 13) (fun _ _ => rfl)) (pa_cons (pe_ix ix_list (pv 1) (pe_op op_add (pv 13) pe_int) (fun _ _ => rfl)) pa_nil)) (by rfl))
      (pss_cons (ps_if (PW.pt (pw_or (pt_cmpR op_ne (pe_dget1 hu (pv 11) (pv 14) ⟨rfl, rfl, rfl, rfl⟩) (pv 10) (nomark _)) (pw_or (pt_cmpR (op_neD hr.units) (pe_dget hu (pv 9) (pv 10) (fun _ _ => rfl)) (pe_tup (pa_cons (pe_ix ix_tup (pv 15) pe_int (fun _ _ => rfl)) (pa_cons (pe_ix ix_tup (pv 16) pe_int (fun _ _ => rfl)) pa_nil))) (nomark _)) (pw_or (pt_cmpR op_ne (pv 14) (pe_op op_add (pe_ix ix_tup (pv 15) pe_int (fun _ _ => rfl)) pe_int) (nomark _)) (pw_or1 (pt_cmpR op_ne (pv 14) (pe_ix ix_tup (pv 16) pe_int (fun _ _ => rfl)) (nomark _))))))) (pss_one (ps_ret pe_bl)) pss_nil)
      (pss_one (ps_if (pt_cmpR op_ge (pe_dget hu (pv 7) (pe_ix ix_tup (pv 16) pe_int (fun _ _ => rfl)) (fun _ _ => rfl)) (pe_dget hu (pv 7) (pe_ix ix_tup (pv 15) pe_int (fun _ _ => rfl)) (fun _ _ => rfl)) (nomark _)) (pss_one (ps_ret pe_bl)) pss_nil)))))
      (pss_one (ps_ret pe_bl)))))))), ?_⟩
    refine ⟨_, rfl, t, _, rfl, SqT.of ht, rfl, _, _, rfl, _, _, rfl, rfl, ?_⟩
    -- the heights
    refine ⟨_, rfl, ag, rfl, ⟨_, SqL.of hag⟩, fun D1 hD1 => lc_list (K := K) (a := ag) (xs := xg) (fun i H' => Same H H' ∧ ∃ ts : List Addr, H' D1 = some (.lst (ts.map V.ref)) ∧ Paired (PK H') ts ((G.take i).map gE)) ⟨Same.new hD1, [], upd_same, .nil⟩ (fun i H' _ h => SqL.of (h.1 _ _ hag)) ?_ ?_⟩
    · rintro i v H' hv ⟨e, ts, hd, hp⟩
      obtain ⟨d, hd2, u, rfl, hu2⟩ := paired_at pg hv
      obtain ⟨g, hg, rfl⟩ := map_at hd2
      have hl := paired_len hp
      rw [List.length_map] at hl
      have hl2 := take_le G i
      refine ⟨rfl, _, rfl, u, _, _, _, rfl, rfl, SqT.of (e _ _ hu2), rfl, _, rfl, u, _, _, _, rfl, rfl, SqT.of (e _ _ hu2), rfl, szle (by simp), fun z hz => ?_⟩
      have ez := Same.new (o := .tup [.str g.name, .int g.hgt]) hz
      have hzD : z ≠ D1 := (ne_of_none hd hz).symm
      have e5 : Same (del D1 H') (upd (upd H' z (.tup [.str g.name, .int g.hgt])) D1 (.lst (ts.map V.ref ++ [.ref z]))) := (Same.del_l.trans ez).mut del_same
      refine ⟨_, ez _ _ hd, by rw [List.length_map]; exact szl (by omega), (e.trans ez).mut hD1, ts ++ [z], by rw [upd_same, List.map_append]; rfl, ?_⟩
      rw [take_snoc hg, List.map_append]
      exact paired_snoc (by show (upd _ D1 _) z = _; rw [upd_ne hzD]; exact upd_same) (pk_mono e5 hd hp)
    rintro H1 ⟨e1, ts, hd, hp⟩
    rw [← hgl, List.take_length] at hp
    have nG : ((G.map gE).map (·.1)).Nodup := by rw [gE_keys]; exact names_inr (·.name) G okG.1
    refine ⟨D1, ts, G.map gE, rfl, SqL.of hd, Paired.mapP hp fun _ _ h => SqT.of h, fun d1 hd1 => ?_⟩
    rw [merge_nil nG]
    have e2 := e1.trans (Same.new (o := .dK (G.map gE)) hd1)
    have h1d : (upd H1 d1 (.dK (G.map gE))) d1 = some (.dK (G.map gE)) := upd_same
    generalize upd H1 d1 (.dK (G.map gE)) = H2 at e2 h1d ⊢
    -- the ends
    refine ⟨_, rfl, aw, rfl, ⟨_, SqL.of (e2 _ _ haw)⟩, fun D2 hD2 => lc_list (K := K) (a := aw) (xs := xw) (fun i H' => Same H2 H' ∧ ∃ (ts : List Addr) (kvs : List (Key × V)), H' D2 = some (.lst (ts.map V.ref)) ∧ Paired (PK H') ts kvs ∧ Paired (EK H') (W.take i) kvs) ⟨Same.new hD2, [], [], upd_same, .nil, .nil⟩ (fun i H' _ h => SqL.of (h.1 _ _ (e2 _ _ haw))) ?_ ?_⟩
    · rintro i v H' hv ⟨e, ts, kvs, hd, hp, hk⟩
      obtain ⟨d, hd2, u, rfl, hu2⟩ := paired_at (tups_mono (e2.trans e) pw) hv
      obtain ⟨y, hy, rfl⟩ := map_at hd2
      have hl := paired_len hp
      have hl1 := paired_len hk
      have hl2 := take_le W i
      refine ⟨rfl, _, rfl, u, _, _, _, rfl, rfl, SqT.of hu2, rfl, _, rfl, _, rfl, _, rfl, u, _, rfl, SqT.of hu2, (by show ¬ ((1 : Nat) = 0 ∧ (3 : Nat) = 4); omega), fun z2 hz2 => ⟨szle (by simp), fun z hz => ?_⟩⟩
      have ez2 := Same.new (o := .tup [.str y.tp, .str y.ft]) hz2
      have ez := Same.new (o := .tup [.str y.name, .ref z2]) hz
      have hd' := (ez2.trans ez) _ _ hd
      have hzD : z ≠ D2 := (ne_of_none (ez2 _ _ hd) hz).symm
      have hz2D : z2 ≠ D2 := (ne_of_none hd hz2).symm
      have e5 : Same (del D2 H') (upd (upd (upd H' z2 (.tup [.str y.tp, .str y.ft])) z (.tup [.str y.name, .ref z2])) D2 (.lst (ts.map V.ref ++ [.ref z]))) := (Same.del_l.trans (ez2.trans ez)).mut del_same
      refine ⟨_, hd', by rw [List.length_map]; exact szl (by omega), (e.trans (ez2.trans ez)).mut hD2, ts ++ [z], kvs ++ [(Sum.inr y.name, .ref z2)], by rw [upd_same, List.map_append]; rfl, ?_, ?_⟩
      · exact paired_snoc (by show (upd _ D2 _) z = _; rw [upd_ne hzD]; exact upd_same) (pk_mono e5 hd hp)
      · rw [take_snoc hy]
        exact paired_snoc ⟨rfl, z2, rfl, by rw [upd_ne hz2D]; exact ez _ _ upd_same⟩ (ek_mono e5 (ek_del hd hk))
    rintro H3 ⟨e3, ts2, kvs, hdb, hpb, hek⟩
    rw [← hwl, List.take_length] at hek
    have nW : (kvs.map (·.1)).Nodup := by rw [ek_keys hek]; exact names_inr (·.name) W okW.1
    refine ⟨D2, ts2, kvs, rfl, SqL.of hdb, Paired.mapP hpb fun _ _ h => SqT.of h, fun d2 hd2 => ?_⟩
    rw [merge_nil nW]
    have g4 := Same.new (o := .dK kvs) hd2
    have e4 := (e2.trans e3).trans g4
    have h1d2 := (e3.trans g4) _ _ h1d
    have h2d : (upd H3 d2 (.dK kvs)) d2 = some (.dK kvs) := upd_same
    have hek4 := ek_mono g4 hek
    generalize upd H3 d2 (.dK kvs) = H4 at e4 h1d2 h2d hek4 ⊢
    -- the days
    intro d3 hd3
    have g5 := Same.new (o := .dK []) hd3
    have e5 := e4.trans g5
    have h3d : (upd H4 d3 (.dK [])) d3 = some (.dK []) := upd_same
    have h1d3 := g5 _ _ h1d2
    have h2d3 := g5 _ _ h2d
    have hek5 := ek_mono g5 hek4
    have hn3 : H d3 = none := e4.none hd3
    have h31 : d1 ≠ d3 := ne_of_none h1d2 hd3
    have h32 : d2 ≠ d3 := ne_of_none h2d hd3
    have hek6 : Paired (EK (del d3 (upd H4 d3 (.dK [])))) W kvs := ek_mono ((Same.refl H4).del_r hd3 |>.trans (fun b o h => by
      by_cases hb : b = d3
      · rw [hb, del_same] at h; cases h
      · rw [del_ne hb] at h ⊢; rw [upd_ne hb]; exact h)) hek4
    generalize upd H4 d3 (.dK []) = H5 at e5 h3d h1d3 h2d3 hek6 ⊢
    have e05 : Same H (del d3 H5) := e5.del_r hn3
    refine ⟨_, rfl, s0, rfl, ⟨_, SqL.of (e5 _ _ hS)⟩, for_list (K := K) (a := s0) (xs := ks.map kV) (fun i σ H' => ∃ v12 : Option V, σ = [some (.ref t), some (.ref a), some (.ref b), some (.ref s0), some (.int (day + daysOf (ks.take i))), some (.ref ag), some (.ref aw), some (.ref d1), none, some (.ref d2), none, some (.ref d3), v12, none, none, none, none] ∧
        Same (del d3 H5) H' ∧ H' d3 = some (.dK ((daysL day (ks.take i)).map dEnt))) ⟨none, by rw [List.take_zero, daysOf_nil, Int.add_zero]; rfl, Same.del_l, h3d⟩ (fun i σ H' _ ⟨_, _, e, _⟩ => SqL.of ((e05.trans e) _ _ hS)) ?_ ?_⟩
    · rintro i v σ H' hv ⟨v12, rfl, e, h3⟩
      obtain ⟨k, hk, rfl⟩ := map_at hv
      have hp1 : Pos1 (ks.take i) := fun z hz => p1 z (List.mem_of_mem_take hz)
      have hdn : daysOf (ks.take (i + 1)) = daysOf (ks.take i) + stepDays k := by rw [take_snoc hk, daysOf_append, daysOf_one]
      have hdl : daysL day (ks.take (i + 1)) = daysL day (ks.take i) ++ daysL (day + daysOf (ks.take i)) [k] := by rw [take_snoc hk, daysL_append]
      refine ⟨_, rfl, _, rfl, szle (by simp), fun z hz => ⟨z, [k], rfl, upd_same, by simp, fun H6 e6 => ⟨_, _, rfl, rfl, ?_⟩⟩⟩
      have ez := (Same.new (o := .lst [kV k]) hz).trans e6
      have h36 := ez _ _ h3
      have hkp := p1 k (at_mem hk)
      have hlen : (daysL day (ks.take i)).length ≤ 1000 := by
        have : ∀ (l : List Stp) (d : Int), (daysL d l).length ≤ l.length := by
          intro l
          induction l with
          | nil => intro d; exact Nat.le_refl _
          | cons k r ih =>
            intro d
            cases k with
            | inl n => exact Nat.le_trans (ih (d + n)) (Nat.le_succ _)
            | inr x => exact Nat.succ_le_succ (ih (d + 1))
        have h1 := this (ks.take i) day
        have h2 := take_le ks i
        omega
      cases k with
      | inl n =>
        refine ⟨_, rfl, _, _, _, rfl, .intStr n, _, rfl, ?_⟩
        refine ⟨some (kV (Sum.inl n)), ?_, e.trans ez, ?_⟩
        · rw [hdn, daysOf_one]
          rw [← Int.add_assoc]
          rfl
        · rw [hdl]
          show _ = some (HO.dK ((daysL day (ks.take i) ++ []).map dEnt))
          rw [List.append_nil]
          exact h36
      | inr z2 =>
        refine ⟨_, rfl, _, _, _, rfl, .strStr z2, _, rfl, ?_⟩
        have hnew : valV ((daysL day (ks.take i)).map dEnt) (Sum.inl (day + daysOf (ks.take i) + daysOf [Sum.inr z2]) : Key) = none := days_new hp1 (by rw [daysOf_one]; omega)
        refine ⟨_, rfl, _, rfl, _, rfl, d3, _, rfl, DPut.k (k := Sum.inl (day + daysOf (ks.take i) + daysOf [Sum.inr z2])) h36 (by rw [List.length_map]; exact szl (by omega)), ?_⟩
        refine ⟨some (kV (Sum.inr z2)), ?_, (e.trans ez).mut del_same, ?_⟩
        · rw [hdn, daysOf_one]
          rw [← Int.add_assoc]
          rfl
        · rw [upd_same, putK_new _ hnew, hdl, List.map_append, daysOf_one]
          rfl
    rintro σ H6 ⟨v12, rfl, e6, h36⟩
    rw [List.length_map, List.take_length] at h36
    have e06 := e05.trans e6
    have h16 : H6 d1 = some (.dK (G.map gE)) := e6 _ _ (by rw [del_ne h31]; exact h1d3)
    have h26 : H6 d2 = some (.dK kvs) := e6 _ _ (by rw [del_ne h32]; exact h2d3)
    have hek7 := ek_mono e6 hek6
    generalize day + daysOf (List.take (List.map kV ks).length ks) = dayE
    refine ⟨_, rfl, b, xm, rfl, SqL.of (e06 _ _ hb), for_it (walk_enum (K := K) (a := b) (xs := xm)) (fun i σ H' => ∃ v8 v10 v12 v13 v14 v15 v16 : Option V, σ = [some (.ref t), some (.ref a), some (.ref b), some (.ref s0), some (.int dayE), some (.ref ag), some (.ref aw), some (.ref d1), v8, some (.ref d2), v10, some (.ref d3), v12, v13, v14, v15, v16] ∧ Same H6 H')
      ⟨_, _, _, _, _, _, _, rfl, Same.refl _⟩ (fun i σ H' _ ⟨_, _, _, _, _, _, _, _, e⟩ => SqL.of ((e06.trans e) _ _ hb)) ?_ ?_⟩
    · rintro i v σ H' H'' hi ⟨v8, v10, v12, v13, v14, v15, v16, rfl, e⟩ ⟨tt, y, z, rfl, hnt, rfl, hy, hz⟩
      cases hy
      obtain ⟨d, hd9, u, rfl, hu9⟩ := paired_at (tups_mono (e06.trans e) pm) hz
      obtain ⟨⟨st, wy⟩, hwk, rfl⟩ := map_at hd9
      obtain ⟨r1, r2, y, hr1, hr2, hyW, rfl, hyt, hyf, hs1, hs2⟩ := lay_at ks x day day p1 i st wy hwk
      have et := Same.new (o := .tup [.int (i : Int), .ref u]) hnt
      have eT := e.trans et
      have e0T := e06.trans eT
      obtain ⟨c1, hc1, t1, rfl, ht1⟩ := paired_get (tups_mono e0T pr) (show (((lay W x day day ks).1.map restV)[i]?) = some (restV r1) by rw [List.getElem?_map, hr1]; rfl)
      obtain ⟨c2, hc2, t2, rfl, ht2⟩ := paired_get (tups_mono e0T pr) (show (((lay W x day day ks).1.map restV)[i + 1]?) = some (restV r2) by rw [List.getElem?_map, hr2]; rfl)
      have hyok := okW.2 y hyW
      obtain ⟨gt, hgt, gf, hgf, hlt⟩ := hyok.tp
      obtain ⟨gtn, gtm⟩ := gndOf_name hgt
      obtain ⟨gfn, gfm⟩ := gndOf_name hgf
      obtain ⟨pe, hpe1, hpe2⟩ := ek_val (ek_mono eT hek7) okW.1 hyW
      have hdv := days_val p1 (lay_days ks x day day (st, y.name) (at_mem hwk))
      refine ⟨tt, _, rfl, SqT.of upd_same, rfl, _, _, rfl, _, _, rfl, ⟨u, _, rfl, SqT.of (et _ _ hu9), rfl, _, _, rfl, _, _, rfl, rfl, rfl, ?_⟩⟩
      have hra := e0T _ _ ha
      refine ⟨_, rfl, _, rfl, a, xr, _, _, rfl, rfl, SqL.of hra, atI_nat hc1, _, rfl, _, rfl, _, _, rfl, rfl, a, xr, _, _, rfl, rfl, SqL.of hra, at_of (show (i : Int) + 1 = ((i + 1 : Nat) : Int) by omega) hc2, _, _, rfl, ?_⟩
      have hD3 : DGet (upd H' tt (.tup [.int (i : Int), .ref u])) d3 (.int st) (some (.str y.name)) := by rw [← hdv]; exact DGet.k (k := Sum.inl st) (eT _ _ h36)
      have hD2 : DGet (upd H' tt (.tup [.int (i : Int), .ref u])) d2 (.str y.name) (some (.ref pe)) := by rw [← hpe1]; exact DGet.k (k := Sum.inr y.name) (eT _ _ h26)
      refine ⟨_, rfl, d3, rfl, .inl ⟨_, Rd.of (eT _ _ h36)⟩, _, rfl, _, hD3, _, rfl, rfl, _, rfl, iteNS rfl ?_⟩
      refine ⟨_, rfl, _, rfl, d2, _, rfl, hD2, _, rfl, t1, _, _, _, rfl, rfl, SqT.of ht1, rfl, _, rfl, t2, _, _, _, rfl, rfl, SqT.of ht2, rfl, szle (by simp), fun q1 hq1 => ?_⟩
      have eq1 := Same.new (o := .tup [.str r1.1, .str r2.1]) hq1
      have hcan : PyData.canLay0 (.tuple [.str y.tp, .str y.ft]) = true := by
        show (PyData.strOk y.tp && (PyData.strOk y.ft && true)) = true
        rw [name_str hyok.nt, name_str hyok.nf]
        rfl
      have hsh : SeqAt.shaped (.tuple [.str y.tp, .str y.ft]) = true := by
        unfold SeqAt.shaped
        rw [hcan]
        rfl
      refine ⟨.tuple [.str y.tp, .str y.ft], .tuple [.str y.tp, .str y.ft], .tup (SqT.of (eq1 _ _ hpe2)) (.cons (.str _) (.cons (.str _) .nil)), .tup (SqT.of (by rw [hyt, hyf]; exact upd_same)) (.cons (.str _) (.cons (.str _) .nil)), hsh, hsh, _, rfl, ?_⟩
      rw [SeqAt.eqv_refl _ hcan]
      refine ⟨_, rfl, _, rfl, t1, _, _, _, rfl, rfl, SqT.of (eq1 _ _ ht1), rfl, _, _, rfl, rfl, rfl, _, rfl, iteNS (congrArg V.int hs1) ?_⟩
      refine ⟨_, rfl, _, rfl, t2, _, _, _, rfl, rfl, SqT.of (eq1 _ _ ht2), rfl, rfl, _, rfl, iteNS (congrArg V.int hs2) ?_⟩
      have hH2 : DGet (upd (upd H' tt (.tup [.int (i : Int), .ref u])) q1 (.tup [.str r1.1, .str r2.1])) d1 (.str r2.1) (some (.int gf.hgt)) := by
        have hv : valV (G.map gE) (Sum.inr r2.1 : Key) = some (.int gf.hgt) := by
          rw [← hyf, ← gfn]
          exact gE_val okG.1 gfm
        rw [← hv]
        exact DGet.k (k := Sum.inr r2.1) ((eT.trans eq1) _ _ h16)
      have hH1 : DGet (upd (upd H' tt (.tup [.int (i : Int), .ref u])) q1 (.tup [.str r1.1, .str r2.1])) d1 (.str r1.1) (some (.int gt.hgt)) := by
        have hv : valV (G.map gE) (Sum.inr r1.1 : Key) = some (.int gt.hgt) := by
          rw [← hyt, ← gtn]
          exact gE_val okG.1 gtm
        rw [← hv]
        exact DGet.k (k := Sum.inr r1.1) ((eT.trans eq1) _ _ h16)
      refine ⟨_, rfl, _, rfl, t2, _, _, _, rfl, rfl, SqT.of (eq1 _ _ ht2), rfl, d1, _, rfl, hH2, _, rfl, _, rfl, t1, _, _, _, rfl, rfl, SqT.of (eq1 _ _ ht1), rfl, d1, _, rfl, hH1, _, _, rfl, rfl, _, rfl, ?_⟩
      rw [decide_eq_false (show ¬ gt.hgt ≤ gf.hgt by omega)]
      exact ⟨_, _, _, _, _, _, _, rfl, eT.trans eq1⟩
    · rintro σ H' ⟨v8, v10, v12, v13, v14, v15, v16, rfl, e⟩
      exact q _ (e06.trans e)
end
end DG

namespace DG
open PySem L2
open PyProof.Rows (envOfC)
section
variable {P : Program} {w : World} {K : PySem.W.Frag} {mg : Str → Option Value} {base : Heap} {CS CC CW : Addr}
abbrev s_law_turns : Stmt := top 53
abbrev n_law_turns : List Str := ["_law_bag_here", "_law_ways_here", "_law_ground", "_law_day", "_law_turns_here", "_law_k", "_law_steps_here", "_law_ends", "_law_start", "_law_ahead", "_law_turn", "_law_nights", "_law_rest", "_law_own", "_law_step"]
theorem sc_law_turns : FnScope n_law_turns ["_law_bag_here", "_law_ways_here", "_law_ground", "_law_day"] (defScope s_law_turns) := ⟨rfl, rfl, rfl, by decide +kernel, rfl, by decide +kernel, by decide +kernel⟩

theorem ok_law_turns (D : Def K mg "_law_turns" s_law_turns ["_law_bag_here", "_law_ways_here", "_law_ground", "_law_day"]) (T : Txt K mg CS CC CW) (c_law_take : Cal P w K mg base 1 "_law_take" ["_law_bag_here", "_law_many"] sp_law_take) (c_folded : Cal P w K mg base 5 "folded" ["day", "turns"] sp_folded)
    (c_law_days : Cal P w K mg base 1 "_law_days" ["_law_steps_here"] sp_law_days) (c_law_laid : Cal P w K mg base 1 "_law_laid" ["_law_ways_here", "_law_ground", "_law_day", "_law_steps_here"] sp_law_laid) (c_law_steps : Cal P w K mg base 2 "_law_steps" ["_law_bag_here", "_law_ways_here", "_law_ground", "_law_many"] sp_law_stepsN) :
    Cal P w K mg base 6 "_law_turns" ["_law_bag_here", "_law_ways_here", "_law_ground", "_law_day"] sp_law_turns := by
  refine D.cal sc_law_turns (fun vs H Q E h => ?_) (fun f cdv A outer s H vs Q E hr h => ?_)
  · obtain ⟨p, q0, cs, H0, aw, W, x, day, rfl, _⟩ := h; rfl
  · obtain ⟨p, q0, cs, H0, aw, Ws, x, day, rfl, hW, hTL, lenW, d0, d1, q⟩ := h
    refine ⟨_, (pss_cons (ps_set (i := 4) sc_law_turns.nd rfl (Or.inl rfl) (pe_lst pa_nil))
      (pss_cons (ps_for PassesOwn.never rfl (pi_range1 (by rfl) T.range (pa_cons (pe_op op_add pe_int (pe_cal c_law_take hr (pa_cons (pv 0) (pa_cons pe_int pa_nil)))) pa_nil)) (pg_name (i := 5) sc_law_turns.nd rfl (Or.inl rfl))
        (pss_cons (ps_set (i := 6) sc_law_turns.nd rfl (Or.inl rfl) (pe_ix ix_tup (pe_cal c_folded hr (pa_cons (pv 3) (pa_cons (pv 4) pa_nil))) pe_int (fun _ _ => rfl)))
      (pss_cons (ps_set (i := 7) sc_law_turns.nd rfl (Or.inl rfl) (pe_op op_add (pe_op op_add (pv 3) pe_int) (pe_cal c_law_days hr (pa_cons (pv 6) pa_nil))))
      (pss_cons (ps_set (i := 8) sc_law_turns.nd rfl (Or.inr rfl) (pv 7))
      (pss_cons (ps_if (pt_cmpR op_eq (pe_cal c_law_take hr (pa_cons (pv 0) (pa_cons pe_int pa_nil))) pe_int (nomark _)) (pss_cons (ps_set (i := 9) sc_law_turns.nd rfl (Or.inl rfl) (pe_ix ix_list (pe_op op_cat (pe_lst (pa_cons (pe_op op_add (pv 3) pe_int) pa_nil)) (pe_lc (own := [("_law_turn", 10)]) (te := (tOp (rIxT K) _ _)) (tt := tYes) rfl sc_law_turns.nd (pi_list (pv 4)) (blkOk_by (N := n_law_turns) (sc := defScope s_law_turns) (by decide +kernel)) (fun _ _ _ _ _ => (pg_name (i := 10) sc_law_turns.nd rfl (Or.inl rfl))) (fun _ _ _ _ _ => pts_nil) (fun _ _ _ _ _ => (pe_ix ix_tup (pv 10) pe_int (fun _ _ => rfl))))) (pe_un un_neg pe_int) (fun _ _ => rfl)))
      (pss_one (ps_set (i := 8) sc_law_turns.nd rfl (Or.inr rfl) (pe_op op_add (pv 9) (pe_cal c_law_take hr (pa_cons (pv 0) (pa_cons (pe_op op_add (pe_op op_sub (pv 7) (pv 9)) pe_int) pa_nil))))))) pss_nil)
      (pss_cons (ps_setLc (i := 11) (own := [("_law_rest", 12)]) (tt := (tTest (tOp _ (tOp (rIxT K) _ _) _))) rfl sc_law_turns.nd rfl rfl (sw_true rfl rfl rfl (by decide +kernel)) (pi_list (pe_ix ix_tup (pe_cal c_law_laid hr (pa_cons (pv 1) (pa_cons (pv 2) (pa_cons (pv 3) (pa_cons (pv 6) pa_nil))))) pe_int (fun _ _ => rfl))) (blkOk_by (N := n_law_turns) (sc := defScope s_law_turns) (by decide +kernel)) (fun _ _ _ _ _ => (pg_name (i := 12) sc_law_turns.nd rfl (Or.inl rfl))) (fun _ _ _ _ _ => (pts_one (pt_cmpR op_lt (pe_ix ix_tup (pv 12) pe_int (fun _ _ => rfl)) (pv 8) (nomark _)))) (fun _ _ _ _ _ => (pv 12)))
      (pss_cons (ps_set (i := 13) sc_law_turns.nd rfl (Or.inl rfl) (pe_ix ix_tup (pe_cal c_law_steps hr (pa_cons (pv 0) (pa_cons (pv 1) (pa_cons (pe_ix ix_tup (pe_ix ix_list (pv 11) (pe_un un_neg pe_int) (fun _ _ => rfl)) pe_int (fun _ _ => rfl)) (pa_cons (pe_cal c_law_take hr (pa_cons (pv 0) (pa_cons pe_int pa_nil))) pa_nil))))) pe_int (fun _ _ => rfl)))
      (pss_cons (ps_if (pt_cmpR op_eq (pe_cal c_law_take hr (pa_cons (pv 0) (pa_cons pe_int pa_nil))) pe_int (nomark _)) (pss_one (ps_setLc (i := 13) (own := [("_law_step", 14)]) (te := (tOp (rIxL K) _ (tCB _ (tCons (tNotV (tCB (rIs K) _)) tNil)))) (tt := tYes) rfl sc_law_turns.nd rfl rfl (sw_true rfl rfl rfl (by decide +kernel)) (pi_list (pv 13)) (blkOk_by (N := n_law_turns) (sc := defScope s_law_turns) (by decide +kernel)) (fun _ _ _ _ _ => (pg_name (i := 14) sc_law_turns.nd rfl (Or.inl rfl))) (fun _ _ _ _ _ => pts_nil) (fun _ _ _ _ _ => (pe_ix ix_list (pe_lst (pa_cons (pv 14) (pa_cons (pe_op op_add pe_int (pe_cal c_law_take hr (pa_cons (pv 0) (pa_cons (pe_op op_pow pe_int pe_int) pa_nil)))) pa_nil))) (pe_bc call_int1 T.int (pa_cons (pe_not (pe_bf call_is T.isinstance (pa_cons (pv 14) (pa_cons (pe_ty (T := "str") T.str) pa_nil)))) pa_nil)) (fun _ _ => rfl))))) pss_nil)
      (pss_one (ps_expr (pe_bm PySem.F.plainAttrs_list PySem.F.slot_list_append PySem.F.type_list_append mt_append (pv 4) (pa_cons (pe_tup (pa_cons pe_str (pa_cons (pe_op op_add (pv 5) pe_int) (pa_cons pe_str (pa_cons (pv 8) (pa_cons (pv 13) pa_nil)))))) pa_nil))))))))))))
      (pss_one (ps_ret (pv 4))))), ?_⟩
    refine ⟨Nat.zero_le _, fun lt hlt => ?_⟩
    have hltp : lt ≠ p := hW.ne hlt
    have hlt0 : H0 lt = none := hW.out hlt
    have hqlt : q0 ≠ lt := ne_of_none hW.cells hlt0
    have hW1 := hW.sub (Same.new (o := .lst []) hlt)
    have hlt1 : (upd H lt (.lst [])) lt = some (.lst []) := upd_same
    generalize upd H lt (.lst []) = H1 at hW1 hlt1 ⊢
    refine ⟨_, rfl, p, q0, cs, H0, 5, rfl, hW1, by decide, by decide, fun n o1 n0 n1 bo1 => ⟨_, _, rfl, rfl, ?_⟩⟩
    have hW2 := hW1.put bo1
    have hlt2 := (upd_ne (o := o1) hltp).trans hlt1
    generalize upd H1 p o1 = H2 at hW2 hlt2 ⊢
    refine ⟨1 + n, rfl, by omega, by omega, for_range (lo := 0) (n := (1 + n).toNat) (fun i σ H' => ∃ (v5 v6 v7 v8 v9 v10 v11 v12 v13 v14 : Option V) (W : Hp) (xs : List V) (Ts : List Turn'), σ = [some (.ref p), some (.ref aw), some (.str x), some (.int day), some (.ref lt), v5, v6, v7, v8, v9, v10, v11, v12, v13, v14] ∧
        Same H0 W ∧ Wd p q0 cs W H' ∧ W lt = none ∧ H' lt = some (.lst xs) ∧ xs.length = Ts.length ∧ (∀ (i : Nat) (t : Turn') (x : V), Ts[i]? = some t → xs[i]? = some x → TurnAt W i t x) ∧ Ts.length = i ∧ Chain day Ts)
      ⟨_, _, _, _, _, _, _, _, _, _, H0, [], [], rfl, Same.refl _, hW2, hlt0, hlt2, rfl, fun i t x h => by simp at h, rfl, chain_nil day⟩ ?_ ?_⟩
    · rintro i σ H' hi ⟨v5, v6, v7, v8, v9, v10, v11, v12, v13, v14, W0, xs, Ts, rfl, hup0, hWi, hltW0, hlt', hxl, hxs, hTl, ch⟩
      have hT5 : Ts.length < 5 := by omega
      obtain ⟨sp1, sp2, sp3⟩ := chain_all ch
      have sp0 := sp1.nonneg
      obtain ⟨ah1, ah2, ah3⟩ := chain_ahead ch
      generalize hS : foldT day Ts = S at sp1 sp2 sp3 sp0 ah2
      -- the steps so far
      refine ⟨_, rfl, _, rfl, day, lt, Ts, rfl, ⟨xs, hlt', hxl, fun i t x h1 h2 => (hxs i t x h1 h2).mono hWi.ext⟩, ch, d0, d1, fun tf sf bf H3 e3 htf hsf hbf => ⟨tf, _, _, _, rfl, rfl, SqT.of htf, rfl, ?_⟩⟩
      rw [hS] at hsf
      have hup1 := hup0.trans (hWi.up e3)
      have hupA : Same W0 (del lt (del p H3)) := (hWi.up e3).del_r hltW0
      have hW3 := hWi.grow e3
      have hsp := steps_ne hW3 hsf
      have hltA : (del p H3) lt = some (.lst xs) := by rw [del_ne hltp]; exact e3 _ _ hlt'
      have hsA : StepsAt (del p H3) sf S := by unfold StepsAt; rw [del_ne hsp]; exact hsf
      generalize del p H3 = W1 at hup1 hupA hW3 hltA hsA
      -- ends, start
      refine ⟨_, rfl, _, _, rfl, rfl, _, rfl, sf, S, rfl, hsA.mono hW3.ext, by omega, fun H4 e4 => ⟨_, _, rfl, rfl, _, rfl, ?_⟩⟩
      have hW4 := hW3.sub e4
      dsimp only
      refine seq_mid (fun σ' H' => ∃ (v7 v9 v10 : Option V) (st : Int), σ' = [some (.ref p), some (.ref aw), some (.str x), some (.int day), some (.ref lt), some (.int (0 + (i : Int))), some (.ref sf), v7, some (.int st), v9, v10, v11, v12, v13, v14] ∧ Wd p q0 cs W1 H' ∧ day < st ∧ st - day - 1 ≤ daysOf S ∧ ∀ (j : Nat) (s : Int) (o : List Stp), Ts[j]? = some (s, o) → s ≤ st) ?_ fun N hN => ?_
      rotate_left
      · refine ⟨_, rfl, p, q0, cs, W1, 3, rfl, hW4, by decide, by decide, fun c o2 c0 c1 bo2 => ⟨rfl, _, rfl, ?_⟩⟩
        have hW5 := hW4.put bo2
        generalize upd H4 p o2 = H5 at hW5 ⊢
        by_cases hc : c = 0
        · rw [decide_eq_true (congrArg V.int hc)]
          refine iteT ?_
          refine ⟨_, rfl, _, _, rfl, rfl, szle (by simp), fun y hy => ?_⟩
          have gy := Same.new (o := .lst [.int (day + 1)]) hy
          have hW6 := hW5.sub gy
          have hy1 : (upd H5 y (.lst [.int (day + 1)])) y = some (.lst [.int (day + 1)]) := upd_same
          generalize upd H5 y (.lst [.int (day + 1)]) = H6 at hW6 hy1 ⊢
          refine ⟨_, rfl, lt, rfl, ⟨_, SqL.of (hW6.ext _ _ hltA)⟩, fun D hD => lc_list (K := K) (a := lt) (xs := xs) (fun i H' => Same H6 H' ∧ H' D = some (.lst (((Ts.take i).map (·.1)).map V.int))) ⟨Same.new hD, upd_same⟩ (fun i H' _ h => SqL.of (h.1 _ _ (hW6.ext _ _ hltA))) ?_ ?_⟩
          · rintro j v H' hv ⟨e, hd⟩
            have hj := at_lt hv
            obtain ⟨t, ht⟩ : ∃ t, Ts[j]? = some t := ⟨Ts[j]'(by omega), List.getElem?_eq_getElem _⟩
            obtain ⟨o, ⟨u, rfl, hu⟩, ho⟩ := hxs j t v ht hv
            have hu2 := e _ _ (hW6.ext _ _ (hupA.trans Same.del_l _ _ hu))
            refine ⟨rfl, _, rfl, u, _, _, _, rfl, rfl, SqT.of hu2, rfl, _, hd, by rw [List.length_map, List.length_map]; have := take_le Ts j; exact szl (by omega), e.mut hD, ?_⟩
            rw [upd_same, map_snoc ht, List.map_append]
            rfl
          · rintro H7 ⟨e7, hd⟩
            rw [hxl, List.take_length] at hd
            have hW7 := hW6.sub e7
            refine ⟨y, D, _, _, rfl, rfl, e7 _ _ hy1, hd, by rw [List.length_map, List.length_map]; exact szle (by simp; omega), fun z hz => ?_⟩
            have hW8 := hW7.sub (Same.new (o := .lst ([.int (day + 1)] ++ (Ts.map (·.1)).map V.int)) hz)
            refine ⟨_, rfl, z, _, _, _, rfl, rfl, SqL.of upd_same, ahead_at day Ts, ?_⟩
            refine ⟨_, rfl, _, rfl, _, rfl, _, rfl, _, _, rfl, rfl, _, _, rfl, rfl, p, q0, cs, W1, _, rfl, hW8, ?_, ?_, fun v o3 v0 v1 bo3 => ⟨_, _, rfl, rfl, ?_⟩⟩
            · omega
            · omega
            · refine hN _ _ ⟨_, _, _, _, rfl, hW8.put bo3, ?_, ?_, fun j s o h => ?_⟩
              · omega
              · omega
              · have := ah3 j s o h; omega
        · rw [decide_eq_false (fun z => hc (V.int.inj z))]
          refine iteF (hN _ _ ⟨_, _, _, _, rfl, hW5, ?_, ?_, fun j s o h => ?_⟩)
          · omega
          · omega
          · have := ah3 j s o h; omega
      · rintro σ' H5 ⟨v7, v9, v10, st, rfl, hW5, st1, st2, st3⟩
        -- the nights
        refine ⟨_, rfl, _, rfl, _, rfl, _, rfl, aw, sf, Ws, x, day, S, rfl, (hTL.mono hup1).mono hW5.ext, by omega, hsA.mono hW5.ext, by omega, fun tl H6 e6 hla => ?_⟩
        obtain ⟨la, lb, lv, htl, hra, hwa, hva⟩ := hla
        refine ⟨tl, _, _, _, rfl, rfl, SqT.of htl, rfl, la, rfl, ?_⟩
        obtain ⟨ys, hla, pla⟩ := hra
        have hyl := paired_len pla
        rw [List.length_map] at hyl
        have hll := lay_bound (W := Ws) S x day day
        refine ⟨⟨_, SqL.of hla⟩, fun D hD => lc_list (K := K) (a := la) (xs := ys) (fun i H' => Same H6 H' ∧ ∃ zs, H' D = some (.lst zs) ∧ Paired (TupAt H6) ((((lay Ws x day day S).1.take i).filter fun r => decide (r.2.1 < st)).map restV) zs) ⟨Same.new hD, [], upd_same, .nil⟩ (fun i H' _ h => SqL.of (h.1 _ _ hla)) ?_ ?_⟩
        · rintro j v H' hv ⟨e, zs, hd, hp⟩
          obtain ⟨d, hd2, u, rfl, hu⟩ := paired_at pla hv
          obtain ⟨r, hr2, rfl⟩ := map_at hd2
          have hzl := paired_len hp
          rw [List.length_map] at hzl
          have hzl1 := List.length_filter_le (fun r : Rest => decide (r.2.1 < st)) ((lay Ws x day day S).1.take j)
          have hzl2 := take_le (lay Ws x day day S).1 j
          refine ⟨rfl, _, rfl, u, _, _, _, rfl, rfl, SqT.of (e _ _ hu), rfl, _, rfl, _, _, rfl, rfl, _, rfl, ?_⟩
          rw [filter_take hr2]
          by_cases h1 : r.2.1 < st
          · rw [decide_eq_true h1, if_pos rfl]
            refine ⟨_, rfl, zs, hd, szl (by omega), e.mut hD, zs ++ [.ref u], upd_same, ?_⟩
            rw [List.map_append]
            exact paired_snoc ⟨u, rfl, hu⟩ hp
          · rw [decide_eq_false h1, if_neg (by simp), List.append_nil]
            exact ⟨e, zs, hd, hp⟩
        rintro H7 ⟨e7, zs, hd, hp⟩
        rw [← hyl, List.take_length] at hp
        obtain ⟨l0, hl0, _⟩ := lay_head (W := Ws) S x day day sp1
        have hne : ((lay Ws x day day S).1.filter fun r => decide (r.2.1 < st)) ≠ [] := fun h => by
          have hm : (x, day, l0) ∈ ((lay Ws x day day S).1.filter fun r => decide (r.2.1 < st)) := List.mem_filter.mpr ⟨at_mem hl0, decide_eq_true st1⟩
          rw [h] at hm
          cases hm
        generalize ((lay Ws x day day S).1.filter fun r => decide (r.2.1 < st)) = G at hp hne
        have hW6 := hW5.sub e6
        have hDp := hW6.ne hD
        have hup2 := hup1.trans (hW5.up (e6.trans e7))
        have hup12 := hW5.up (e6.trans e7)
        have hW7 := hW5.grow (e6.trans e7)
        obtain ⟨r, hr, u, hat, hu⟩ := lastT hp hne
        have hup' : u ≠ p := fun z => by
          obtain ⟨o, h1, b0, b1, b2, rfl, _⟩ := hW6.bag
          rw [← z, hu] at h1
          cases h1
        have hD2 : (del p H7) D = some (.lst zs) := by rw [del_ne hDp]; exact hd
        have hu2 : (del p H7) u = some (.tup (restV r)) := by rw [del_ne hup']; exact e7 _ _ hu
        have hlt2' := hup12 _ _ hltA
        generalize del p H7 = W2 at hup2 hup12 hW7 hD2 hu2 hlt2'
        refine ⟨_, rfl, _, rfl, _, rfl, _, rfl, D, zs, _, _, rfl, rfl, SqL.of (hW7.ext _ _ hD2), hat, u, _, _, .str r.1, rfl, rfl, SqT.of (hW7.ext _ _ hu2), rfl, _, rfl, p, q0, cs, W2, 6, rfl, hW7, by decide, by decide, fun m o3 m0 m1 bo3 => ?_⟩
        obtain ⟨k, rfl⟩ : ∃ k : Nat, m = (k : Int) := ⟨m.toNat, (Int.toNat_of_nonneg m0).symm⟩
        have hW8 := hW7.put bo3
        generalize upd H7 p o3 = H8 at hW8 ⊢
        refine ⟨p, q0, cs, W2, aw, Ws, r.1, k, rfl, hW8, hTL.mono hup2, lenW, by omega, fun t so ks y W3 H9 up3 hW9 ht hS2 hk5 hok hnew => ⟨t, _, _, _, rfl, rfl, SqT.of (hW9.ext _ _ ht), rfl, ?_⟩⟩
        have hlt3 := up3 _ _ hlt2'
        have hsolt : so ≠ lt := fun z => by
          rw [z, hW8.ext _ _ hlt2'] at hnew
          cases hnew
        dsimp only
        refine seq_mid (fun σ' H' => ∃ (v7 v9 v10 v11 v12 v14 : Option V) (W4 : Hp) (so : Addr) (own : List Stp), σ' = [some (.ref p), some (.ref aw), some (.str x), some (.int day), some (.ref lt), some (.int (0 + (i : Int))), some (.ref sf), v7, some (.int st), v9, v10, v11, v12, some (.ref so), v14] ∧ Same W3 W4 ∧ Wd p q0 cs W4 H' ∧ StepsAt W4 so own ∧ own.length ≤ 5 ∧ (∀ k ∈ own, StepOk k) ∧ so ≠ lt) ?_ fun N hN => ?_
        rotate_left
        · refine ⟨_, rfl, p, q0, cs, W3, 3, rfl, hW9, by decide, by decide, fun c o4 c0 c1 bo4 => ⟨rfl, _, rfl, ?_⟩⟩
          have hWa := hW9.put bo4
          generalize upd H9 p o4 = Ha at hWa ⊢
          by_cases hc : c = 0
          · rw [decide_eq_true (congrArg V.int hc)]
            refine iteT ?_
            refine ⟨_, rfl, so, rfl, ⟨_, SqL.of (hWa.ext _ _ hS2)⟩, fun D2 hD2 => ?_⟩
            have hD2p := hWa.ne hD2
            have hD2W := hWa.out hD2
            refine lc_list (K := K) (a := so) (xs := ks.map kV) (fun i H' => Wd p q0 cs W3 H' ∧ ∃ ms : List Stp, H' D2 = some (.lst (ms.map kV)) ∧ ms.length = i ∧ ∀ k ∈ ms, StepOk k) ⟨hWa.sub (Same.new hD2), [], upd_same, rfl, fun k hk => by cases hk⟩ (fun i H' _ h => SqL.of (h.1.ext _ _ hS2)) ?_ ?_
            · rintro j v H' hv ⟨hWb, ms, hd, hml, hmok⟩
              obtain ⟨kk, hkk, rfl⟩ := map_at hv
              have hjl := at_lt hkk
              refine ⟨rfl, _, rfl, _, rfl, _, _, rfl, rfl, cpow_ok (.inr rfl) rfl, p, q0, cs, W3, (10 : Int) ^ (6 : Int).toNat, rfl, hWb, by decide, by decide, fun v o5 v0 v1 bo5 => ⟨_, _, rfl, rfl, szle (by simp), fun z hz => ?_⟩⟩
              rw [p6] at v1
              have hWc := hWb.put bo5
              have hdc := (upd_ne (o := o5) hD2p).trans hd
              generalize upd H' p o5 = Hc at hWc hdc hz ⊢
              have gz := Same.new (o := .lst [kV kk, .int (1 + v)]) hz
              have hWd := hWc.sub gz
              have hdd := gz _ _ hdc
              have hz1 : (upd Hc z (.lst [kV kk, .int (1 + v)])) z = some (.lst [kV kk, .int (1 + v)]) := upd_same
              generalize upd Hc z (.lst [kV kk, .int (1 + v)]) = Hd at hWd hdd hz1 ⊢
              have fin : ∀ k2 : Stp, StepOk k2 → ∃ acc, Hd D2 = some (.lst acc) ∧ acc.length < sizeLine ∧ Wd p q0 cs W3 (upd Hd D2 (.lst (acc ++ [kV k2]))) ∧ ∃ ms : List Stp, (upd Hd D2 (.lst (acc ++ [kV k2]))) D2 = some (.lst (ms.map kV)) ∧ ms.length = j + 1 ∧ ∀ k ∈ ms, StepOk k := by
                intro k2 ok2
                refine ⟨_, hdd, by rw [List.length_map]; exact szl (by omega), hWd.mut hD2W hD2p, ms ++ [k2], ?_, by rw [List.length_append, hml]; rfl, fun k hk => ?_⟩
                · rw [upd_same, List.map_append]; rfl
                · rcases List.mem_append.mp hk with h | h
                  · exact hmok k h
                  · rw [List.mem_singleton.mp h]; exact ok2
              cases kk with
              | inl n => exact ⟨_, rfl, _, _, _, rfl, .intStr n, _, rfl, .inr ⟨_, rfl, z, _, _, _, rfl, rfl, SqL.of hz1, rfl, fin (.inl (1 + v)) ⟨by omega, by omega⟩⟩⟩
              | inr y => exact ⟨_, rfl, _, _, _, rfl, .strStr y, _, rfl, .inr ⟨_, rfl, z, _, _, _, rfl, rfl, SqL.of hz1, rfl, fin (.inr y) trivial⟩⟩
            · rintro H' ⟨hWb, ms, hd, hml, hmok⟩
              rw [List.length_map] at hml
              exact hN _ _ ⟨_, _, _, _, _, _, upd W3 D2 (.lst (ms.map kV)), D2, ms, rfl, Same.new hD2W, hWb.add hD2W hD2p hd, upd_same, by omega, hmok, fun z => by rw [z, hlt3] at hD2W; cases hD2W⟩
          · rw [decide_eq_false (fun z => hc (V.int.inj z))]
            exact iteF (hN _ _ ⟨_, _, _, _, _, _, W3, so, ks, rfl, Same.refl _, hWa, hS2, hk5, hok, hsolt⟩)
        · rintro σ' Hb ⟨v7, v9, v10, v11, v12, v14, W4, so2, own, rfl, up4, hWb, hS4, ho5, hook, hso4⟩
          have hlt4 := up4 _ _ hlt3
          have hltb := hWb.ext _ _ hlt4
          refine ⟨_, rfl, .inl ⟨rfl, _, SqL.of hltb⟩, _, rfl, _, _, rfl, rfl, _, rfl, _, rfl, szle (by simp), fun tt htt => ?_⟩
          have gt := Same.new (o := .tup [.str "turn", .int (0 + (i : Int) + 1), .str "a", .int st, .ref so2]) htt
          refine ⟨lt, xs, _, rfl, rfl, gt _ _ hltb, szl (by omega), ?_⟩
          have http := hWb.ne htt
          have httW := hWb.out htt
          have httlt : tt ≠ lt := (ne_of_none hltb htt).symm
          have hWc := (hWb.sub gt).add httW http upd_same
          have hWd := hWc.cut hqlt
          have upE : Same W0 (del lt (upd W4 tt (.tup [.str "turn", .int (0 + (i : Int) + 1), .str "a", .int st, .ref so2]))) := by
            have u1 : Same W0 (upd W4 tt (.tup [.str "turn", .int (0 + (i : Int) + 1), .str "a", .int st, .ref so2])) := (((hupA.trans Same.del_l).trans hup12).trans up3).trans (up4.trans (Same.new httW))
            exact u1.del_r hltW0
          refine ⟨_, _, _, _, _, _, _, _, _, _, _, xs ++ [.ref tt], Ts ++ [(st, own)], rfl, hup0.trans upE, hWd.mut del_same hltp, del_same, upd_same, by rw [List.length_append, List.length_append, hxl]; rfl, turns_snoc hxl upE hxs ?_, by rw [List.length_append, hTl]; rfl, chain_snoc ch st1 (by rw [hS]; exact st2) hook ho5 st3 hT5⟩
          refine ⟨so2, ⟨tt, rfl, ?_⟩, ?_⟩
          · rw [del_ne httlt, upd_same, hTl, Int.zero_add]; rfl
          · unfold StepsAt
            rw [del_ne hso4, upd_ne (ne_of_none hS4 httW)]
            exact hS4
    · rintro σ H' ⟨v5, v6, v7, v8, v9, v10, v11, v12, v13, v14, W, xs, Ts, rfl, hup, hWi, hltW, hlt', hxl, hxs, hTl, ch⟩
      have up2 : Same W (upd W lt (.lst xs)) := Same.new hltW
      exact ⟨_, rfl, q lt Ts _ _ (hup.trans up2) (hWi.add hltW hltp hlt') ⟨xs, upd_same, hxl, fun i t x h1 h2 => (hxs i t x h1 h2).mono up2⟩ ch⟩
end
end DG

namespace DG
open PySem L2
open PyProof.Rows (envOfC)
section
variable {P : Program} {w : World} {K : PySem.W.Frag} {mg : Str → Option Value} {base : Heap} {CS CC CW : Addr}
abbrev s_law : Stmt := top 56
abbrev n_law : List Str := ["_law_script", "_law_bag_here", "_law_grounds", "_law_ways_here", "_law_made", "_law_k", "_law_ground", "_law_day", "_law_turns_here", "_law_steps_here", "_law_words", "_law_key", "_law_word", "_law_rests", "_law_walks", "_law_astray", "_law_night", "_law_ends", "_law_due", "_law_turn", "_law_places", "_law_rest", "_law_some"]
theorem sc_law : FnScope n_law ["_law_script"] (defScope s_law) := ⟨rfl, rfl, rfl, by decide +kernel, rfl, by decide +kernel, by decide +kernel⟩

theorem ok_law {f : Addr} {fd : FuncData} (F : Fun K "law" "law" s_law f fd) (T : Txt K mg CS CC CW) (c_law_bag : Cal P w K mg base 1 "_law_bag" ["_law_script"] (sp_law_bag K)) (c_law_world : Cal P w K mg base 3 "_law_world" ["_law_bag_here"] sp_law_world) (c_Country : ICal P w K mg base 8 "Country" CC ["self", "grounds", "ways"] (sp_C_init CC))
    (c_law_take : Cal P w K mg base 1 "_law_take" ["_law_bag_here", "_law_many"] sp_law_take) (c_law_turns : Cal P w K mg base 6 "_law_turns" ["_law_bag_here", "_law_ways_here", "_law_ground", "_law_day"] sp_law_turns) (c_folded : Cal P w K mg base 5 "folded" ["day", "turns"] sp_folded)
    (c_laid : Cal P w K mg base 4 "laid" ["country", "ground", "day", "steps"] (sp_laid CC)) (c_law_end_to_end : Cal P w K mg base 1 "_law_end_to_end" ["_law_rests", "_law_day"] sp_law_end_to_end) (c_law_days : Cal P w K mg base 1 "_law_days" ["_law_steps_here"] sp_law_days)
    (c_law_walks_right : Cal P w K mg base 2 "_law_walks_right" ["_law_world_here", "_law_rests", "_law_walks", "_law_steps_here", "_law_day"] sp_law_walks_right) (c_law_laid : Cal P w K mg base 1 "_law_laid" ["_law_ways_here", "_law_ground", "_law_day", "_law_steps_here"] sp_law_laid) :
    FnOk P w K mg base CX0 10 f fd ["_law_script"] (sp_law K) := by
  refine F.ok sc_law (fun vs H Q E h => ?_) (fun cdv A outer s H vs Q E hr h => ?_)
  · obtain ⟨a, ns, rfl, _⟩ := h; rfl
  · obtain ⟨a, ns, rfl, hS, hlen, q⟩ := h
    refine ⟨_, (pss_cons (ps_set (i := 1) sc_law.nd rfl (Or.inl rfl) (pe_cal c_law_bag hr (pa_cons (pv 0) pa_nil)))
      (pss_cons (ps_asg (pe_cal c_law_world hr (pa_cons (pv 1) pa_nil)) (pg_tup rfl (pgs_cons (pg_name (i := 2) sc_law.nd rfl (Or.inl rfl)) (pgs_cons (pg_name (i := 3) sc_law.nd rfl (Or.inl rfl)) pgs_nil))))
      (pss_cons (ps_set (i := 4) sc_law.nd rfl (Or.inl rfl) (pe_ical c_Country hr (pa_cons (pe_bc call_list_of T.list (pa_cons (pv 2) pa_nil)) (pa_cons (pe_bc call_list_of T.list (pa_cons (pv 3) pa_nil)) pa_nil))))
      (pss_cons (ps_for PassesOwn.never rfl (pi_range1 (by rfl) T.range (pa_cons pe_int pa_nil)) (pg_name (i := 5) sc_law.nd rfl (Or.inl rfl))
        (pss_cons (ps_set (i := 6) sc_law.nd rfl (Or.inl rfl) (pe_ix ix_tup (pe_ix ix_list (pv 2) (pe_cal c_law_take hr (pa_cons (pv 1) (pa_cons (pe_bf call_len_seq T.len (pa_cons (pv 2) pa_nil)) pa_nil))) (fun _ _ => rfl)) pe_int (fun _ _ => rfl)))
      (pss_cons (ps_set (i := 7) sc_law.nd rfl (Or.inl rfl) (pe_ix ix_list (pe_lst (pa_cons pe_int (pa_cons (pe_cal c_law_take hr (pa_cons (pv 1) (pa_cons (pe_op op_pow pe_int pe_int) pa_nil))) (pa_cons (pe_op op_mul pe_int (pe_op op_pow pe_int pe_int)) pa_nil)))) (pe_cal c_law_take hr (pa_cons (pv 1) (pa_cons pe_int pa_nil))) (fun _ _ => rfl)))
      (pss_cons (ps_set (i := 8) sc_law.nd rfl (Or.inl rfl) (pe_cal c_law_turns hr (pa_cons (pv 1) (pa_cons (pv 3) (pa_cons (pv 6) (pa_cons (pv 7) pa_nil))))))
      (pss_cons (ps_asg (pe_cal c_folded hr (pa_cons (pv 7) (pa_cons (pv 8) pa_nil))) (pg_tup rfl (pgs_cons (pg_name (i := 9) sc_law.nd rfl (Or.inl rfl)) (pgs_cons (pg_name (i := 10) sc_law.nd rfl (Or.inl rfl)) pgs_nil))))
      (pss_cons (ps_if (PW.pt (pw_or (pt_cmpR (op_neE hr.units0) (pe_lc (own := [("_law_key", 11), ("_law_word", 12)]) (g := (gTup K 2 (gCons (gName 11) (gCons (gName 12) gNil)))) rfl sc_law.nd (pi_list (pv 10)) (blkOk_by (N := n_law) (sc := defScope s_law) (by decide +kernel)) (fun _ _ _ _ _ => (pg_tup rfl (pgs_cons (pg_name (i := 11) sc_law.nd rfl (Or.inl rfl)) (pgs_cons (pg_name (i := 12) sc_law.nd rfl (Or.inl rfl)) pgs_nil)))) (fun _ _ _ _ _ => (pts_one (pt_cmpR op_ne (pv 12) pe_str (nomark _)))) (fun _ _ _ _ _ => (pv 12))) (pe_lst pa_nil) (nomark _)) (pw_or1 (pt_cmpR op_ne (pe_bf call_len_seq T.len (pa_cons (pv 10) pa_nil)) (pe_bf call_len_seq T.len (pa_cons (pv 8) pa_nil)) (nomark _))))) (pss_one (ps_ret pe_bl)) pss_nil)
      (pss_cons (ps_asg (pe_cal c_laid hr (pa_cons (pv 4) (pa_cons (pv 6) (pa_cons (pv 7) (pa_cons (pe_bc call_list_of T.list (pa_cons (pv 9) pa_nil)) pa_nil))))) (pg_tup rfl (pgs_cons (pg_name (i := 13) sc_law.nd rfl (Or.inl rfl)) (pgs_cons (pg_name (i := 14) sc_law.nd rfl (Or.inl rfl)) (pgs_cons (pg_name (i := 15) sc_law.nd rfl (Or.inl rfl)) pgs_nil)))))
      (pss_cons (ps_set (i := 16) sc_law.nd rfl (Or.inr rfl) (pe_cal c_law_end_to_end hr (pa_cons (pv 13) (pa_cons (pv 7) pa_nil))))
      (pss_cons (ps_set (i := 17) sc_law.nd rfl (Or.inl rfl) (pe_op op_add (pe_op op_add (pv 7) pe_int) (pe_cal c_law_days hr (pa_cons (pv 9) pa_nil))))
      (pss_cons (ps_if (pt_cmpR op_notN (pv 15) pe_non (nomark _)) (pss_one (ps_set (i := 17) sc_law.nd rfl (Or.inl rfl) (pe_ix ix_tup (pv 15) pe_int (fun _ _ => rfl)))) pss_nil)
      (pss_cons (ps_if (PW.pt (pw_or (pt_cmpR op_ne (pv 16) (pv 17) (nomark _)) (pw_or (pt_cmpR op_ne (pe_ix ix_tup (pe_ix ix_list (pv 13) pe_int (fun _ _ => rfl)) pe_int (fun _ _ => rfl)) (pv 6) (nomark _)) (pw_or1 (pt_cmpR op_ne (pe_bf call_len_seq T.len (pa_cons (pv 13) pa_nil)) (pe_op op_add (pe_bf call_len_seq T.len (pa_cons (pv 14) pa_nil)) pe_int) (nomark _)))))) (pss_one (ps_ret pe_bl)) pss_nil)
      (pss_cons (ps_if (pt_not (pt_val (pe_cal c_law_walks_right hr (pa_cons (pe_tup (pa_cons (pv 2) (pa_cons (pv 3) pa_nil))) (pa_cons (pv 13) (pa_cons (pv 14) (pa_cons (pv 9) (pa_cons (pv 7) pa_nil)))))))) (pss_one (ps_ret pe_bl)) pss_nil)
      (pss_cons (ps_set (i := 18) sc_law.nd rfl (Or.inl rfl) (pe_cal c_law_laid hr (pa_cons (pv 3) (pa_cons (pv 6) (pa_cons (pv 7) (pa_cons (pv 9) pa_nil))))))
      (pss_one (ps_for PassesOwn.never rfl (pi_range1 (by rfl) T.range (pa_cons pe_int pa_nil)) (pg_name (i := 19) sc_law.nd rfl (Or.inl rfl))
        (pss_cons (ps_set (i := 16) sc_law.nd rfl (Or.inr rfl) (pe_op op_add (pv 7) (pe_cal c_law_take hr (pa_cons (pv 1) (pa_cons (pe_op op_sub (pv 17) (pv 7)) pa_nil)))))
      (pss_cons (ps_setLc (i := 20) (own := [("_law_some", 22)]) (te := (tLc (iList K _) (gName 21) (tTest (tChain _ _ (tOp (rIxT K) _ _) _ (tOp (rIxT K) _ _))) (tOp (rIxT K) _ _) [21])) (tt := tYes) rfl sc_law.nd rfl rfl (sw_true rfl rfl rfl (by decide +kernel)) (pi_tup (pe_tup (pa_cons (pv 13) (pa_cons (pe_ix ix_tup (pv 18) pe_int (fun _ _ => rfl)) pa_nil)))) (blkOk_by (N := n_law) (sc := defScope s_law) (by decide +kernel)) (fun _ _ _ _ _ => (pg_name (i := 22) sc_law.nd rfl (Or.inl rfl))) (fun _ _ _ _ _ => pts_nil) (fun _ _ _ _ _ => (pe_lc (own := [("_law_rest", 21)]) (te := (tOp (rIxT K) _ _)) (tt := (tTest (tChain _ _ (tOp (rIxT K) _ _) _ (tOp (rIxT K) _ _)))) rfl sc_law.nd (pi_list (pv 22)) (blkOk_by (N := n_law) (sc := { kind := .function, names := [(".0", .local), ("_law_some", .local), ("_law_night", .cell)], isGenerator := false, isCoroutine := false }) (by decide +kernel)) (fun _ _ _ _ _ => (pg_name (i := 21) sc_law.nd rfl (Or.inl rfl))) (fun _ _ _ _ _ => (pts_one (pt_chain op_le op_le (pe_ix ix_tup (pv 21) pe_int (fun _ _ => rfl)) (pv 16) (pe_ix ix_tup (pv 21) pe_int (fun _ _ => rfl))))) (fun _ _ _ _ _ => (pe_ix ix_tup (pv 21) pe_int (fun _ _ => rfl))))))
      (pss_one (ps_if (PW.pt (pw_or (pt_cmpR (op_neD hr.units) (pe_ix ix_list (pv 20) pe_int (fun _ _ => rfl)) (pe_ix ix_list (pv 20) pe_int (fun _ _ => rfl)) (nomark _)) (pw_or1 (pt_cmpR op_ne (pe_bf call_len_seq T.len (pa_cons (pe_ix ix_list (pv 20) pe_int (fun _ _ => rfl)) pa_nil)) pe_int (nomark _))))) (pss_one (ps_ret pe_bl)) pss_nil)))))))))))))))))))
      (pss_one (ps_ret pe_bl)))))), ?_⟩
    refine ⟨_, rfl, a, ns, rfl, hS, hlen, fun p q0 cs H0 H1 e0 hW => ?_⟩
    refine ⟨_, rfl, p, q0, cs, H0, rfl, hW, fun t ag aw G W W1 H2 up1 hW1 ht hTG hTW okG okW g1 g12 w26 => ⟨t, _, rfl, SqT.of (hW1.ext _ _ ht), rfl, _, _, rfl, _, _, rfl, rfl, ?_⟩⟩
    obtain ⟨xg, hag, pg⟩ := hTG
    obtain ⟨xw, haw, pw⟩ := hTW
    have hgl := paired_len pg
    have hwl := paired_len pw
    rw [List.length_map] at hgl hwl
    -- the country
    refine ⟨_, rfl, ag, xg, rfl, .inl (SqL.of (hW1.ext _ _ hag)), fun lg hlg => ?_⟩
    have eg := Same.new (o := .lst xg) hlg
    refine ⟨_, rfl, aw, xw, rfl, .inl (SqL.of ((hW1.ext.trans eg) _ _ haw)), fun lw hlw => ?_⟩
    have ew := Same.new (o := .lst xw) hlw
    have hlg2 := ew _ _ (show (upd H2 lg (.lst xg)) lg = some (.lst xg) from upd_same)
    have hlw2 : (upd (upd H2 lg (.lst xg)) lw (.lst xw)) lw = some (.lst xw) := upd_same
    have egw := eg.trans ew
    generalize upd (upd H2 lg (.lst xg)) lw (.lst xw) = H3 at hlg2 hlw2 egw ⊢
    intro c dx hc hdx hne
    have em : Same H3 (upd (upd H3 dx (.own c)) c (.ins CC dx [])) := (Same.new hdx).trans (Same.new (by rw [upd_ne hne.symm]; exact hc))
    have emd : Same H3 (del c (upd (upd H3 dx (.own c)) c (.ins CC dx []))) := em.del_r hc
    have pgm := tups_mono (hW1.ext.trans (egw.trans em)) pg
    have pwm := tups_mono (hW1.ext.trans (egw.trans em)) pw
    refine ⟨c, lg, lw, dx, G, W, rfl, upd_same, ⟨xg, em _ _ hlg2, pgm⟩, ⟨xw, em _ _ hlw2, pwm⟩, okG, okW, g12, by omega, fun H4 e4 hC => ⟨rfl, ?_⟩⟩
    have e24 := egw.trans (emd.trans e4)
    have hW2 := hW1.grow e24
    have upA := hW1.up e24
    have hC2 : Cty CC (del p H4) c G W := by
      obtain ⟨o, b1, b2⟩ := hW1.bag
      obtain ⟨_, _, _, rfl, _⟩ := b2
      exact cty_lst (e24 _ _ b1) hC
    have hag2 := upA _ _ hag
    have haw2 := upA _ _ haw
    have pg2 := tups_mono upA pg
    have pw2 := tups_mono upA pw
    generalize del p H4 = W2 at hW2 hC2 hag2 haw2 pg2 pw2
    refine ⟨3, rfl, by decide, by decide, for_range (lo := 0) (n := (3 : Int).toNat) (fun i σ H' => ∃ (v5 v6 v7 v8 v9 v10 v11 v12 v13 v14 v15 v16 v17 v18 v19 v20 v21 v22 : Option V), σ = [some (.ref a), some (.ref p), some (.ref ag), some (.ref aw), some (.ref c), v5, v6, v7, v8, v9, v10, v11, v12, v13, v14, v15, v16, v17, v18, v19, v20, v21, v22] ∧ Wd p q0 cs W2 H')
      ⟨_, _, _, _, _, _, _, _, _, _, _, _, _, _, _, _, _, _, rfl, hW2⟩ ?_ ?_⟩
    · rintro i σ H' hi ⟨v5, v6, v7, v8, v9, v10, v11, v12, v13, v14, v15, v16, v17, v18, v19, v20, v21, v22, rfl, hWi⟩
      -- the ground
      refine ⟨_, rfl, _, rfl, _, rfl, ag, xg, rfl, .inl (SqL.of (hWi.ext _ _ hag2)), p, q0, cs, W2, _, rfl, hWi, by omega, by omega, fun v o1 v0 v1 bo1 => ?_⟩
      have hWa := hWi.put bo1
      generalize upd H' p o1 = Ha at hWa ⊢
      obtain ⟨g, hg, tg, hat, htg⟩ := pickT pg2 v0 v1
      refine ⟨ag, xg, v, _, rfl, rfl, SqL.of (hWa.ext _ _ hag2), hat, tg, _, _, .str g.name, rfl, rfl, SqT.of (hWa.ext _ _ htg), rfl, ?_⟩
      -- the day
      refine ⟨_, rfl, _, _, rfl, rfl, cpow_ok (.inr rfl) rfl, p, q0, cs, W2, (10 : Int) ^ (6 : Int).toNat, rfl, hWa, by decide, by decide, fun d o2 dd0 dd1 bo2 => ?_⟩
      rw [p6] at dd1
      have hWb := hWa.put bo2
      generalize upd Ha p o2 = Hb at hWb ⊢
      refine ⟨_, _, rfl, rfl, ⟨by decide, by decide, by decide⟩, _, _, rfl, rfl, .inl ⟨by decide, by decide⟩, szle (by simp), fun z hz => ?_⟩
      have gz := Same.new (o := .lst ([0, d, 9 * (10 : Int) ^ (8 : Int).toNat].map V.int)) hz
      have hWc := hWb.sub gz
      refine ⟨_, rfl, p, q0, cs, W2, 3, rfl, hWc, by decide, by decide, fun b o3 b0 b1 bo3 => ?_⟩
      obtain ⟨day, hday, hatd⟩ := pickI (xs := [0, d, 9 * (10 : Int) ^ (8 : Int).toNat]) b0 b1
      have db : 0 ≤ day ∧ day ≤ 900000000 := by
        simp only [List.mem_cons, List.not_mem_nil, or_false, p8] at hday
        omega
      obtain ⟨d0, d1⟩ := db
      refine ⟨z, _, b, _, rfl, rfl, SqL.of (by rw [upd_ne (hWb.ne hz)]; exact upd_same), hatd, ?_⟩
      have hWd := hWc.put bo3
      have hdl : NameOk g.name := (okG.2 g hg).name
      -- the turns
      refine ⟨_, rfl, _, rfl, _, rfl, _, rfl, p, q0, cs, W2, aw, W, g.name, day, rfl, hWd, ⟨xw, haw2, pw2⟩, w26, d0, d1, fun lt Ts W3 H5 up3 hW3 hT ch => ?_⟩
      obtain ⟨sp1, sp2, sp3⟩ := chain_all ch
      have sp0 := sp1.nonneg
      -- folded
      refine ⟨_, rfl, _, rfl, day, lt, Ts, rfl, hT.mono hW3.ext, ch, d0, d1, fun tf sf bf H6 e6 htf hsf hbf => ⟨tf, _, rfl, SqT.of htf, rfl, _, _, rfl, _, _, rfl, rfl, ?_⟩⟩
      generalize foldT day Ts = S at sp1 sp2 sp3 sp0 hsf
      obtain ⟨xt, hlt, hxt, _⟩ := hT
      obtain ⟨xb, hbf, pb⟩ := hbf
      have hbl := paired_len pb
      rw [List.length_map, List.length_range] at hbl
      have e36 := hW3.ext.trans e6
      have hlt6 := e36 _ _ hlt
      -- no words but stands
      refine ⟨_, rfl, bf, rfl, ⟨_, SqL.of hbf⟩, fun D hD => lc_list (K := K) (a := bf) (xs := xb) (fun i H' => Same H6 H' ∧ H' D = some (.lst [])) ⟨Same.new hD, upd_same⟩ (fun i H' _ h => SqL.of (h.1 _ _ hbf)) ?_ ?_⟩
      · rintro j v H' hv ⟨e, hd⟩
        obtain ⟨dd, hd2, u, rfl, hu⟩ := paired_at pb hv
        obtain ⟨m, _, rfl⟩ := map_at hd2
        refine ⟨u, _, rfl, SqT.of (e _ _ hu), rfl, _, _, rfl, _, _, rfl, rfl, rfl, ?_⟩
        exact ⟨_, rfl, rfl, _, rfl, iteNS rfl ⟨e, hd⟩⟩
      rintro H7 ⟨e7, hdD⟩
      refine ⟨Nat.zero_le _, fun z2 hz2 => ⟨D, z2, [], rfl, rfl, SqL.of (Same.new hz2 _ _ hdD), SqL.of upd_same, _, rfl, ?_⟩⟩
      have e68 := e7.trans (Same.new (o := .lst []) hz2)
      generalize upd H7 z2 (.lst []) = H8 at e68 ⊢
      refine iteF ⟨_, rfl, bf, xb, rfl, .inl (SqL.of (e68 _ _ hbf)), _, rfl, lt, xt, rfl, .inl (SqL.of (e68 _ _ hlt6)), rfl, _, rfl, iteNS (congrArg (fun n : Nat => V.int (n : Int)) (by omega)) ?_⟩
      have e38 := e36.trans e68
      have hsf8 : H8 sf = some (.lst (S.map kV)) := e68 _ _ hsf
      -- laid
      refine ⟨_, rfl, _, rfl, _, rfl, _, rfl, sf, _, rfl, .inl (SqL.of hsf8), fun l5 hl5 => ?_⟩
      have e5 := Same.new (o := .lst (S.map kV)) hl5
      have up3e := up3.trans (e38.trans e5)
      refine ⟨c, l5, G, W, g, day, S, rfl, hC2.mono up3e, gndOf_mem okG.1 hg, okW, by omega, upd_same, by omega, fun tl H9 e9 hLa => ?_⟩
      obtain ⟨la, lb, lv, htl, hra, hwa, hva⟩ := hLa
      refine ⟨tl, _, rfl, SqT.of htl, rfl, _, _, rfl, _, _, rfl, _, _, rfl, rfl, ?_⟩
      have e39 := e38.trans (e5.trans e9)
      have hsf9 := (e5.trans e9) _ _ hsf8
      have hnm := lay_names okW.2 S g.name day day hdl
      obtain ⟨hct, hge⟩ := lay_contig (W := W) S g.name day day sp1 (Int.le_refl _)
      have hle := lay_end_le (W := W) S g.name day day sp1
      have hll := lay_len (W := W) S g.name day day
      have hlb := lay_bound (W := W) S g.name day day
      obtain ⟨l0, hl0, _⟩ := lay_head (W := W) S g.name day day sp1
      have f59 := (e6.trans e68).trans (e5.trans e9)
      -- the nights, end to end
      refine ⟨_, rfl, _, rfl, la, (lay W g.name day day S).1, day, _, rfl, hra, by omega, hct, ?_⟩
      refine ⟨_, rfl, _, _, rfl, rfl, _, rfl, sf, S, rfl, hsf9, by omega, fun Hx ex => ⟨_, _, rfl, rfl, ?_⟩⟩
      have f5x := f59.trans ex
      have e3x := e39.trans ex
      have hrx := hra.mono ex
      have hwx := hwa.mono ex
      have hvx := AstV.mono ex hva
      have hsx := ex _ _ hsf9
      generalize hN0 : layEnd (lay W g.name day day S) (day + 1 + daysOf S) = n at hct hge hle ⊢
      dsimp only
      refine seq_mid (fun σ' H' => H' = Hx ∧ ∃ (v5 v8 v10 v11 v12 v15 v18 v19 v20 v21 v22 : Option V), σ' = [some (.ref a), some (.ref p), some (.ref ag), some (.ref aw), some (.ref c), v5, some (.str g.name), some (.int day), v8, some (.ref sf), v10, v11, v12, some (.ref la), some (.ref lb), v15, some (.int n), some (.int n), v18, v19, v20, v21, v22]) ?_ fun N hN => ?_
      rotate_left
      · refine ⟨_, rfl, rfl, _, rfl, ?_⟩
        cases hA : (lay W g.name day day S).2.2 with
        | none =>
          rw [hA] at hvx
          have hv : lv = .non := hvx
          subst hv
          have hn : day + 1 + daysOf S = n := by rw [← hN0]; unfold layEnd; rw [hA]
          rw [hn]
          exact iteNS rfl (hN _ _ ⟨rfl, _, _, _, _, _, _, _, _, _, _, _, rfl⟩)
        | some w =>
          rw [hA] at hvx
          obtain ⟨ta, rfl, hta⟩ := hvx
          have hn : w.1 = n := by rw [← hN0]; unfold layEnd; rw [hA]
          rw [decide_eq_false (show ¬ V.ref ta = V.non by intro z; cases z)]
          refine iteT ⟨_, rfl, ta, _, _, .int w.1, rfl, rfl, SqT.of hta, rfl, ?_⟩
          rw [hn]
          exact hN _ _ ⟨rfl, _, _, _, _, _, _, _, _, _, _, _, rfl⟩
      rintro σ' H' ⟨rfl, w5, w8, w10, w11, w12, w15, w18, w19, w20, w21, w22, rfl⟩
      obtain ⟨yr, hlr, pr⟩ := hrx
      obtain ⟨yw, hlw', pw'⟩ := hwx
      have hyr := paired_len pr
      have hyw := paired_len pw'
      rw [List.length_map] at hyr hyw
      obtain ⟨b0', hb0, u0, rfl, hu0⟩ := paired_get pr (show (((lay W g.name day day S).1.map restV)[0]?) = some (restV (g.name, day, l0)) by rw [List.getElem?_map, hl0]; rfl)
      refine ⟨_, rfl, _, rfl, rfl, _, rfl, iteNS rfl ?_⟩
      refine ⟨_, rfl, la, yr, _, .ref u0, rfl, rfl, SqL.of hlr, at_of (j := 0) rfl hb0, u0, _, _, .str g.name, rfl, rfl, SqT.of hu0, rfl, _, rfl, rfl, _, rfl, iteNS rfl ?_⟩
      refine ⟨_, rfl, la, yr, rfl, .inl (SqL.of hlr), _, rfl, lb, yw, rfl, .inl (SqL.of hlw'), _, _, rfl, rfl, rfl, _, rfl, iteNS (congrArg V.int (show (yr.length : Int) = (yw.length : Int) + 1 by omega)) ?_⟩
      -- the walks
      refine ⟨_, rfl, _, rfl, szle (by simp), fun tw htw => ?_⟩
      have ew' := Same.new (o := .tup [.ref ag, .ref aw]) htw
      have up3x := up3.trans (e3x.trans ew')
      refine ⟨_, rfl, _, rfl, _, rfl, _, rfl, tw, ag, aw, la, lb, sf, G, W, g.name, day, S, rfl, upd_same, ⟨xg, up3x _ _ hag2, tups_mono up3x pg2⟩, ⟨xw, up3x _ _ haw2, tups_mono up3x pw2⟩, okG, okW, g12, w26, ⟨yr, ew' _ _ hlr, tups_mono ew' pr⟩, ⟨yw, ew' _ _ hlw', tups_mono ew' pw'⟩, ew' _ _ hsx, sp1, by omega, fun Hy ey => ⟨true, rfl, ?_⟩⟩
      have exy := ew'.trans ey
      have up3y := up3.trans (e3x.trans exy)
      -- what is due
      refine ⟨_, rfl, _, rfl, _, rfl, _, rfl, aw, sf, W, g.name, day, S, rfl, ⟨xw, up3y _ _ haw2, tups_mono up3y pw2⟩, by omega, exy _ _ hsx, by omega, fun t2 Hz ez hL2 => ?_⟩
      obtain ⟨la2, lb2, lv2, ht2, hra2, _, _⟩ := hL2
      have exz := exy.trans ez
      have f5z := f5x.trans exz
      have hWz := hW3.sub f5z
      have hW5 := hW3.grow f5z
      have up5 := up3.trans (hW3.up f5z)
      have hB1 := (TL_bag hWz ⟨yr, exz _ _ hlr, tups_mono exz pr⟩).2
      have hB2 := (TL_bag hWz hra2).2
      have hB3 : (del p Hz) t2 = some (.tup [.ref la2, .ref lb2, lv2]) := by
        obtain ⟨o, c1, c2⟩ := hWz.bag
        obtain ⟨_, _, _, rfl, _⟩ := c2
        rw [del_ne (ne_of ht2 c1 (by intro z; cases z))]
        exact ht2
      generalize del p Hz = W5 at hW5 up5 hB1 hB2 hB3
      refine ⟨6, rfl, by decide, by decide, for_range (lo := 0) (n := (6 : Int).toNat) (fun i σ H' => ∃ (v5 v6 v8 v9 v10 v11 v12 v14 v15 v16 v19 v20 v21 v22 : Option V), σ = [some (.ref a), some (.ref p), some (.ref ag), some (.ref aw), some (.ref c), v5, v6, some (.int day), v8, v9, v10, v11, v12, some (.ref la), v14, v15, v16, some (.int n), some (.ref t2), v19, v20, v21, v22] ∧ Wd p q0 cs W5 H')
        ⟨_, _, _, _, _, _, _, _, _, _, _, _, _, _, rfl, hW5⟩ ?_ ?_⟩
      · rintro k σ H' hk ⟨v5, v6, v8, v9, v10, v11, v12, v14, v15, v16, v19, v20, v21, v22, rfl, hWk⟩
        refine ⟨_, rfl, _, rfl, _, rfl, _, rfl, _, _, rfl, rfl, p, q0, cs, W5, _, rfl, hWk, by omega, by omega, fun v o6 v0 v1 bo6 => ⟨_, _, rfl, rfl, ?_⟩⟩
        have hWl := hWk.put bo6
        generalize upd H' p o6 = Hl at hWl ⊢
        obtain ⟨r, hr, hfil⟩ := contig_one hct (n := day + v) (by omega) (by omega)
        have hrn := hnm r hr
        generalize hnt : day + v = nt at hfil
        refine ⟨_, rfl, _, rfl, t2, _, _, .ref la2, rfl, rfl, SqT.of (hWl.ext _ _ hB3), rfl, szle (by simp), fun tz htz => ?_⟩
        have gz' := Same.new (o := .tup [.ref la, .ref la2]) htz
        have hWm := hWl.sub gz'
        have htz1 : (upd Hl tz (.tup [.ref la, .ref la2])) tz = some (.tup [.ref la, .ref la2]) := upd_same
        generalize upd Hl tz (.tup [.ref la, .ref la2]) = Hm at hWm htz1 ⊢
        refine ⟨tz, rfl, ⟨_, SqT.of htz1⟩, fun D hD => lc_tup (K := K) (a := tz) (xs := [.ref la, .ref la2]) (fun i H' => Same Hm H' ∧ ∃ rs : List V, H' D = some (.lst rs) ∧ rs.length = i ∧ ∀ (j : Nat) (x : V), rs[j]? = some x → ∃ l, x = .ref l ∧ l ≠ D ∧ H' l = some (.lst [.str r.1])) ⟨Same.new hD, [], upd_same, rfl, fun j x h => by simp at h⟩ (fun i H' _ h => SqT.of (h.1 _ _ htz1)) ?_ ?_⟩
        · rintro m x H2 hx ⟨e, rs, hd, hrl, hrs⟩
          obtain ⟨lx, rfl, ys, hlx, py⟩ : ∃ lx, x = .ref lx ∧ TL H2 lx ((lay W g.name day day S).1.map restV) := by
            match m, hx with
            | 0, hx => cases hx; exact ⟨la, rfl, hB1.mono (hWm.ext.trans e)⟩
            | 1, hx => cases hx; exact ⟨la2, rfl, hB2.mono (hWm.ext.trans e)⟩
            | m + 2, hx => simp at hx
          have hml : m < 2 := at_lt hx
          have hyl := paired_len py
          rw [List.length_map] at hyl
          refine ⟨rfl, _, rfl, lx, rfl, ⟨_, SqL.of hlx⟩, fun D2 hD2 => lc_list (K := K) (a := lx) (xs := ys) (fun m H3 => Same H2 H3 ∧ H3 D2 = some (.lst ((((lay W g.name day day S).1.take m).filter (inR nt)).map fun r => V.str r.1))) ⟨Same.new hD2, upd_same⟩ (fun i H' _ h => SqL.of (h.1 _ _ hlx)) ?_ ?_⟩
          · rintro j v' H3 hv' ⟨e3, hd2⟩
            obtain ⟨dd, hdd, u, rfl, hu⟩ := paired_at py hv'
            obtain ⟨rr, hrr, rfl⟩ := map_at hdd
            have hu3 := e3 _ _ hu
            refine ⟨rfl, _, rfl, u, _, _, .int rr.2.1, rfl, rfl, SqT.of hu3, rfl, _, rfl, _, _, rfl, rfl, _, rfl, ?_⟩
            rw [hnt]
            have hlen2 : ((((lay W g.name day day S).1.take j).filter (inR nt)).map fun r => V.str r.1).length < sizeLine := by
              rw [List.length_map]
              have h1 := List.length_filter_le (inR nt) ((lay W g.name day day S).1.take j)
              have h2 := take_le (lay W g.name day day S).1 j
              exact szl (by omega)
            by_cases h1 : rr.2.1 ≤ nt
            · rw [decide_eq_true h1]
              refine iteT ⟨_, rfl, u, _, _, .int rr.2.2, rfl, rfl, SqT.of hu3, rfl, _, _, rfl, rfl, _, rfl, ?_⟩
              by_cases h2 : nt ≤ rr.2.2
              · rw [hnt, decide_eq_true h2]
                have hin : inR nt rr = true := by unfold inR; rw [decide_eq_true h1, decide_eq_true h2]; rfl
                rw [filter_take1 hrr hin]
                refine iteT ⟨_, rfl, u, _, _, .str rr.1, rfl, rfl, SqT.of hu3, rfl, _, hd2, hlen2, e3.mut hD2, ?_⟩
                rw [upd_same, List.map_append]
                rfl
              · rw [hnt, decide_eq_false h2]
                have hin : inR nt rr = false := by unfold inR; rw [decide_eq_false h2, Bool.and_false]
                rw [filter_take0 hrr hin]
                exact iteF ⟨e3, hd2⟩
            · rw [decide_eq_false h1]
              have hin : inR nt rr = false := by unfold inR; rw [decide_eq_false h1]; rfl
              rw [filter_take0 hrr hin]
              exact iteF ⟨_, rfl, iteF ⟨e3, hd2⟩⟩
          · rintro H3 ⟨e3, hd2⟩
            rw [← hyl, List.take_length, hfil] at hd2
            have hD2D : D2 ≠ D := (ne_of_none hd hD2).symm
            refine ⟨rs, e3 _ _ hd, szl (by omega), (e.trans e3).mut hD, rs ++ [.ref D2], upd_same, by rw [List.length_append, hrl]; rfl, fun j x h => ?_⟩
            by_cases hj : j < rs.length
            · rw [List.getElem?_append_left hj] at h
              obtain ⟨l, rfl, h1, h2⟩ := hrs j x h
              exact ⟨l, rfl, h1, by rw [upd_ne h1]; exact e3 _ _ h2⟩
            · rw [List.getElem?_append_right (by omega)] at h
              have hj2 := at_lt h
              simp at hj2
              have ej : j - rs.length = 0 := by omega
              rw [ej] at h
              cases h
              exact ⟨D2, rfl, hD2D, by rw [upd_ne hD2D]; exact hd2⟩
        · rintro H4 ⟨e4', rs, hd, hrl, hrs⟩
          have hrl2 : rs.length = 2 := hrl
          obtain ⟨x0, hx0⟩ : ∃ x, rs[0]? = some x := ⟨_, List.getElem?_eq_getElem (by omega)⟩
          obtain ⟨x1, hx1⟩ : ∃ x, rs[1]? = some x := ⟨_, List.getElem?_eq_getElem (by omega)⟩
          obtain ⟨q1, rfl, _, hq1⟩ := hrs 0 x0 hx0
          obtain ⟨q2, rfl, _, hq2⟩ := hrs 1 x1 hx1
          have hcan : PyData.canLay0 (.list [.str r.1]) = true := by
            show (PyData.strOk r.1 && true) = true
            rw [name_str hrn]
            rfl
          have hsh : SeqAt.shaped (.list [.str r.1]) = true := by
            unfold SeqAt.shaped
            rw [hcan]
            rfl
          refine ⟨_, rfl, D, rs, _, .ref q1, rfl, rfl, SqL.of hd, at_of (j := 0) rfl hx0, _, rfl, D, rs, _, .ref q2, rfl, rfl, SqL.of hd, at_of (j := 1) rfl hx1, .list [.str r.1], .list [.str r.1], .lst (SqL.of hq1) (.cons (.str _) .nil), .lst (SqL.of hq2) (.cons (.str _) .nil), hsh, hsh, _, rfl, ?_⟩
          rw [SeqAt.eqv_refl _ hcan]
          refine ⟨_, rfl, D, rs, _, .ref q1, rfl, rfl, SqL.of hd, at_of (j := 0) rfl hx0, q1, [.str r.1], rfl, .inl (SqL.of hq1), rfl, _, rfl, iteNS rfl ?_⟩
          exact ⟨_, _, _, _, _, _, _, _, _, _, _, _, _, _, rfl, hWm.sub e4'⟩
      · rintro σ H' ⟨v5, v6, v8, v9, v10, v11, v12, v14, v15, v16, v19, v20, v21, v22, rfl, hWk⟩
        exact ⟨_, _, _, _, _, _, _, _, _, _, _, _, _, _, _, _, _, _, rfl, hWk.less up5 hW2.cells⟩
    · rintro σ H' ⟨v5, v6, v7, v8, v9, v10, v11, v12, v13, v14, v15, v16, v17, v18, v19, v20, v21, v22, rfl, hWi⟩
      exact q _
end
end DG

/-! All joined: what the top has written, each def where it stands. -/
namespace DG
open PySem L2 PySem.W PyProof.Rows
def BindOk (x q : Str) (st : Stmt) (ps : List Str) : Prop := ∀ (kV dc pm : Value) (an : Option Addr) (cd ct : Value) (us : List Value), us.length = ps.length →
  bindArgs (PySem.W.fnOf x q (defArgs st) (defBody st) (defScope st) .none kV dc pm an cd ct) ⟨us, []⟩ = pure (ps.zip us)
theorem bk_is_whole : BindOk "is_whole" "is_whole" s_is_whole ["thing"] := fun _ _ _ _ _ _ us hl => match us, hl with | [_], _ => rfl
theorem bk_is_from_to : BindOk "is_from_to" "is_from_to" s_is_from_to ["thing", "least", "most"] := fun _ _ _ _ _ _ us hl => match us, hl with | [_, _, _], _ => rfl
theorem bk_is_amount : BindOk "is_amount" "is_amount" s_is_amount ["thing"] := fun _ _ _ _ _ _ us hl => match us, hl with | [_], _ => rfl
theorem bk_is_day : BindOk "is_day" "is_day" s_is_day ["thing"] := fun _ _ _ _ _ _ us hl => match us, hl with | [_], _ => rfl
theorem bk_step_days : BindOk "step_days" "step_days" s_step_days ["step"] := fun _ _ _ _ _ _ us hl => match us, hl with | [_], _ => rfl
theorem bk_days_of : BindOk "days_of" "days_of" s_days_of ["steps"] := fun _ _ _ _ _ _ us hl => match us, hl with | [_], _ => rfl
theorem bk_plain : BindOk "plain" "plain" s_plain ["steps"] := fun _ _ _ _ _ _ us hl => match us, hl with | [_], _ => rfl
theorem bk_cut : BindOk "cut" "cut" s_cut ["steps", "days"] := fun _ _ _ _ _ _ us hl => match us, hl with | [_, _], _ => rfl
theorem bk_joined : BindOk "joined" "joined" s_joined ["one", "other"] := fun _ _ _ _ _ _ us hl => match us, hl with | [_, _], _ => rfl
theorem bk_taken_on : BindOk "taken_on" "taken_on" s_taken_on ["day", "steps", "turn"] := fun _ _ _ _ _ _ us hl => match us, hl with | [_, _, _], _ => rfl
theorem bk_folded : BindOk "folded" "folded" s_folded ["day", "turns"] := fun _ _ _ _ _ _ us hl => match us, hl with | [_, _], _ => rfl
theorem bk_is_name : BindOk "is_name" "is_name" s_is_name ["thing"] := fun _ _ _ _ _ _ us hl => match us, hl with | [_], _ => rfl
theorem bk_S_init : BindOk "__init__" "Sward.__init__" s_S_init ["self", "has", "full", "grows", "keep"] := fun _ _ _ _ _ _ us hl => match us, hl with | [_, _, _, _, _], _ => rfl
theorem bk_sward_of : BindOk "sward_of" "sward_of" s_sward_of ["row"] := fun _ _ _ _ _ _ us hl => match us, hl with | [_], _ => rfl
theorem bk_is_ground : BindOk "is_ground" "is_ground" s_is_ground ["row"] := fun _ _ _ _ _ _ us hl => match us, hl with | [_], _ => rfl
theorem bk_is_way : BindOk "is_way" "is_way" s_is_way ["row"] := fun _ _ _ _ _ _ us hl => match us, hl with | [_], _ => rfl
theorem bk_ground_row : BindOk "ground_row" "Country.ground_row" s_ground_row ["self", "ground"] := fun _ _ _ _ _ _ us hl => match us, hl with | [_, _], _ => rfl
theorem bk_way_row : BindOk "way_row" "Country.way_row" s_way_row ["self", "way"] := fun _ _ _ _ _ _ us hl => match us, hl with | [_, _], _ => rfl
theorem bk_height : BindOk "height" "Country.height" s_height ["self", "ground"] := fun _ _ _ _ _ _ us hl => match us, hl with | [_, _], _ => rfl
theorem bk_sward : BindOk "sward" "Country.sward" s_sward ["self", "ground"] := fun _ _ _ _ _ _ us hl => match us, hl with | [_, _], _ => rfl
theorem bk_ends : BindOk "ends" "Country.ends" s_ends ["self", "way"] := fun _ _ _ _ _ _ us hl => match us, hl with | [_, _], _ => rfl
theorem bk_ways_from : BindOk "ways_from" "Country.ways_from" s_ways_from ["self", "ground"] := fun _ _ _ _ _ _ us hl => match us, hl with | [_, _], _ => rfl
theorem bk_leads_from : BindOk "leads_from" "leads_from" s_leads_from ["country", "way", "ground"] := fun _ _ _ _ _ _ us hl => match us, hl with | [_, _, _], _ => rfl
theorem bk_add_way : BindOk "add_way" "Country.add_way" s_add_way ["self", "row"] := fun _ _ _ _ _ _ us hl => match us, hl with | [_, _], _ => rfl
theorem bk_C_init : BindOk "__init__" "Country.__init__" s_C_init ["self", "grounds", "ways"] := fun _ _ _ _ _ _ us hl => match us, hl with | [_, _, _], _ => rfl
theorem bk_laid : BindOk "laid" "laid" s_laid ["country", "ground", "day", "steps"] := fun _ _ _ _ _ _ us hl => match us, hl with | [_, _, _, _], _ => rfl
theorem bk_law_bag : BindOk "_law_bag" "_law_bag" s_law_bag ["_law_script"] := fun _ _ _ _ _ _ us hl => match us, hl with | [_], _ => rfl
theorem bk_law_take : BindOk "_law_take" "_law_take" s_law_take ["_law_bag_here", "_law_many"] := fun _ _ _ _ _ _ us hl => match us, hl with | [_, _], _ => rfl
theorem bk_law_names : BindOk "_law_names" "_law_names" s_law_names ["_law_bag_here", "_law_many"] := fun _ _ _ _ _ _ us hl => match us, hl with | [_, _], _ => rfl
theorem bk_law_country : BindOk "_law_country" "_law_country" s_law_country ["_law_bag_here", "_law_names_here", "_law_many"] := fun _ _ _ _ _ _ us hl => match us, hl with | [_, _, _], _ => rfl
theorem bk_law_ways : BindOk "_law_ways" "_law_ways" s_law_ways ["_law_bag_here", "_law_names_here", "_law_grounds", "_law_many"] := fun _ _ _ _ _ _ us hl => match us, hl with | [_, _, _, _], _ => rfl
theorem bk_law_from : BindOk "_law_from" "_law_from" s_law_from ["_law_ways_here", "_law_ground"] := fun _ _ _ _ _ _ us hl => match us, hl with | [_, _], _ => rfl
theorem bk_law_days : BindOk "_law_days" "_law_days" s_law_days ["_law_steps_here"] := fun _ _ _ _ _ _ us hl => match us, hl with | [_], _ => rfl
theorem bk_law_steps : BindOk "_law_steps" "_law_steps" s_law_steps ["_law_bag_here", "_law_ways_here", "_law_ground", "_law_many"] := fun _ _ _ _ _ _ us hl => match us, hl with | [_, _, _, _], _ => rfl
theorem bk_law_world : BindOk "_law_world" "_law_world" s_law_world ["_law_bag_here"] := fun _ _ _ _ _ _ us hl => match us, hl with | [_], _ => rfl
theorem bk_law_laid : BindOk "_law_laid" "_law_laid" s_law_laid ["_law_ways_here", "_law_ground", "_law_day", "_law_steps_here"] := fun _ _ _ _ _ _ us hl => match us, hl with | [_, _, _, _], _ => rfl
theorem bk_law_end_to_end : BindOk "_law_end_to_end" "_law_end_to_end" s_law_end_to_end ["_law_rests", "_law_day"] := fun _ _ _ _ _ _ us hl => match us, hl with | [_, _], _ => rfl
theorem bk_law_walks_right : BindOk "_law_walks_right" "_law_walks_right" s_law_walks_right ["_law_world_here", "_law_rests", "_law_walks", "_law_steps_here", "_law_day"] := fun _ _ _ _ _ _ us hl => match us, hl with | [_, _, _, _, _], _ => rfl
theorem bk_law_turns : BindOk "_law_turns" "_law_turns" s_law_turns ["_law_bag_here", "_law_ways_here", "_law_ground", "_law_day"] := fun _ _ _ _ _ _ us hl => match us, hl with | [_, _, _, _], _ => rfl
section
variable {P : Program} {w : World} {K : PySem.W.Frag} {mg : Str → Option Value} {base h : Heap} {CS CC CW : Addr}
theorem all_ok (T : Txt K mg CS CC CW)
    (D_is_whole : Def K mg "is_whole" s_is_whole ["thing"])
    (D_is_from_to : Def K mg "is_from_to" s_is_from_to ["thing", "least", "most"])
    (D_is_amount : Def K mg "is_amount" s_is_amount ["thing"])
    (D_is_day : Def K mg "is_day" s_is_day ["thing"])
    (D_step_days : Def K mg "step_days" s_step_days ["step"])
    (D_days_of : Def K mg "days_of" s_days_of ["steps"])
    (D_plain : Def K mg "plain" s_plain ["steps"])
    (D_cut : Def K mg "cut" s_cut ["steps", "days"])
    (D_joined : Def K mg "joined" s_joined ["one", "other"])
    (D_taken_on : Def K mg "taken_on" s_taken_on ["day", "steps", "turn"])
    (D_folded : Def K mg "folded" s_folded ["day", "turns"])
    (D_is_name : Def K mg "is_name" s_is_name ["thing"])
    (D_S_init : IDef K mg "Sward" CS "Sward.__init__" s_S_init ["self", "has", "full", "grows", "keep"])
    (D_sward_of : Def K mg "sward_of" s_sward_of ["row"])
    (D_is_ground : Def K mg "is_ground" s_is_ground ["row"])
    (D_is_way : Def K mg "is_way" s_is_way ["row"])
    (D_ground_row : MDef K CC "Country.ground_row" "ground_row" s_ground_row ["self", "ground"])
    (D_way_row : MDef K CC "Country.way_row" "way_row" s_way_row ["self", "way"])
    (D_height : MDef K CC "Country.height" "height" s_height ["self", "ground"])
    (D_sward : MDef K CC "Country.sward" "sward" s_sward ["self", "ground"])
    (D_ends : MDef K CC "Country.ends" "ends" s_ends ["self", "way"])
    (D_ways_from : MDef K CC "Country.ways_from" "ways_from" s_ways_from ["self", "ground"])
    (D_leads_from : Def K mg "leads_from" s_leads_from ["country", "way", "ground"])
    (D_add_way : MDef K CC "Country.add_way" "add_way" s_add_way ["self", "row"])
    (D_C_init : IDef K mg "Country" CC "Country.__init__" s_C_init ["self", "grounds", "ways"])
    (D_laid : Def K mg "laid" s_laid ["country", "ground", "day", "steps"])
    (D_law_bag : Def K mg "_law_bag" s_law_bag ["_law_script"])
    (D_law_take : Def K mg "_law_take" s_law_take ["_law_bag_here", "_law_many"])
    (D_law_names : Def K mg "_law_names" s_law_names ["_law_bag_here", "_law_many"])
    (D_law_country : Def K mg "_law_country" s_law_country ["_law_bag_here", "_law_names_here", "_law_many"])
    (D_law_ways : Def K mg "_law_ways" s_law_ways ["_law_bag_here", "_law_names_here", "_law_grounds", "_law_many"])
    (D_law_from : Def K mg "_law_from" s_law_from ["_law_ways_here", "_law_ground"])
    (D_law_days : Def K mg "_law_days" s_law_days ["_law_steps_here"])
    (D_law_steps : Def K mg "_law_steps" s_law_steps ["_law_bag_here", "_law_ways_here", "_law_ground", "_law_many"])
    (D_law_world : Def K mg "_law_world" s_law_world ["_law_bag_here"])
    (D_law_laid : Def K mg "_law_laid" s_law_laid ["_law_ways_here", "_law_ground", "_law_day", "_law_steps_here"])
    (D_law_end_to_end : Def K mg "_law_end_to_end" s_law_end_to_end ["_law_rests", "_law_day"])
    (D_law_walks_right : Def K mg "_law_walks_right" s_law_walks_right ["_law_world_here", "_law_rests", "_law_walks", "_law_steps_here", "_law_day"])
    (D_law_turns : Def K mg "_law_turns" s_law_turns ["_law_bag_here", "_law_ways_here", "_law_ground", "_law_day"])
    {f : Addr} {fd : FuncData} (F : Fun K "law" "law" s_law f fd) : FnOk P w K mg base CX0 10 f fd ["_law_script"] (sp_law K) := by
  have r_is_whole := ok_is_whole (P := P) (w := w) (base := base) D_is_whole T 
  have r_is_from_to := ok_is_from_to (P := P) (w := w) (base := base) D_is_from_to r_is_whole
  have r_is_amount := ok_is_amount (P := P) (w := w) (base := base) D_is_amount T r_is_from_to
  have r_is_day := ok_is_day (P := P) (w := w) (base := base) D_is_day T r_is_from_to
  have r_step_days := ok_step_days (P := P) (w := w) (base := base) D_step_days T 
  have r_days_of := ok_days_of (P := P) (w := w) (base := base) D_days_of T r_step_days
  have r_plain := ok_plain (P := P) (w := w) (base := base) D_plain T 
  have r_cut := ok_cut (P := P) (w := w) (base := base) D_cut T r_step_days r_plain
  have r_joined := ok_joined (P := P) (w := w) (base := base) D_joined T r_plain
  have r_taken_on := ok_taken_on (P := P) (w := w) (base := base) D_taken_on T r_cut r_joined r_is_day r_days_of
  have r_folded := ok_folded (P := P) (w := w) (base := base) D_folded T r_taken_on
  have r_is_name := ok_is_name (P := P) (w := w) (base := base) D_is_name T 
  have r_S_init := ok_S_init (P := P) (w := w) (base := base) D_S_init T r_is_amount
  have r_sward_of := ok_sward_of (P := P) (w := w) (base := base) D_sward_of T r_S_init
  have r_is_ground := ok_is_ground (P := P) (w := w) (base := base) D_is_ground T r_is_name r_is_from_to r_sward_of
  have r_is_way := ok_is_way (P := P) (w := w) (base := base) D_is_way T r_is_name r_is_from_to
  have r_ground_row := ok_ground_row (P := P) (w := w) (base := base) D_ground_row T 
  have r_way_row := ok_way_row (P := P) (w := w) (base := base) D_way_row T 
  have r_height := ok_height (P := P) (w := w) (base := base) D_height T r_ground_row
  have r_sward := ok_sward (P := P) (w := w) (base := base) D_sward T r_ground_row
  have r_ends := ok_ends (P := P) (w := w) (base := base) D_ends T r_way_row
  have r_ways_from := ok_ways_from (P := P) (w := w) (base := base) D_ways_from T r_ground_row
  have r_leads_from := ok_leads_from (P := P) (w := w) (base := base) D_leads_from T r_ways_from
  have r_add_way := ok_add_way (P := P) (w := w) (base := base) D_add_way T r_height
  have r_C_init := ok_C_init (P := P) (w := w) (base := base) D_C_init T r_is_ground r_sward_of r_is_way r_add_way
  have r_laid := ok_laid (P := P) (w := w) (base := base) D_laid T r_sward r_ends r_leads_from
  have r_law_bag := ok_law_bag (P := P) (w := w) (base := base) D_law_bag T 
  have r_law_take := ok_law_take (P := P) (w := w) (base := base) D_law_take T 
  have r_law_names := ok_law_names (P := P) (w := w) (base := base) D_law_names T r_law_take
  have r_law_country := ok_law_country (P := P) (w := w) (base := base) D_law_country T r_law_take
  have r_law_ways := ok_law_ways (P := P) (w := w) (base := base) D_law_ways T r_law_take
  have r_law_from := ok_law_from (P := P) (w := w) (base := base) D_law_from T 
  have r_law_days := ok_law_days (P := P) (w := w) (base := base) D_law_days T 
  have r_law_steps := ok_law_steps (P := P) (w := w) (base := base) D_law_steps T r_law_from r_law_take
  have r_law_world := ok_law_world (P := P) (w := w) (base := base) D_law_world T r_law_take r_law_names r_law_country r_law_ways
  have r_law_laid := ok_law_laid (P := P) (w := w) (base := base) D_law_laid T 
  have r_law_end_to_end := ok_law_end_to_end (P := P) (w := w) (base := base) D_law_end_to_end 
  have r_law_walks_right := ok_law_walks_right (P := P) (w := w) (base := base) D_law_walks_right T r_law_days
  have r_law_turns := ok_law_turns (P := P) (w := w) (base := base) D_law_turns T r_law_take r_folded r_law_days r_law_laid r_law_steps
  exact ok_law F T r_law_bag r_law_world r_C_init r_law_take r_law_turns r_folded r_laid r_law_end_to_end r_law_days r_law_walks_right r_law_laid
theorem cps_def {x : Str} {st : Stmt} {ps : List Str} {R : Prop} {f : Addr} {oc kV dc pm cd ct : Value} {od an : Option Addr} {sl : Array (Option Value)} (b : BindOk x x st ps) (X : K.In h) (G : h.Ns mainGlobals mg) (a : nsIn K mainGlobals x = some (some (.ref f))) (l : K.lookup f = some ⟨oc, od, .func (PySem.W.fnOf x x (defArgs st) (defBody st) (defScope st) .none kV dc pm an cd ct), sl⟩) (c : codeIn K cd x = true) (k : keepIn K (.ref f) = true)
    (n : Def K mg x st ps → R) : R := n ⟨f, _, fun_mk l c k, PySem.W.mg_of X G a, (fun_mk l c k).binds b⟩
theorem cps_m {C : Addr} {x q : Str} {st : Stmt} {ps : List Str} {R : Prop} {f : Addr} {oc kV dc pm cd ct : Value} {od an : Option Addr} {sl : Array (Option Value)} (b : BindOk x q st ps) (_ : Txt K mg CS C CW) (a : findIn K (.ref C) x = some (some (.ref f))) (i : isFn K (.ref f) = true) (l : K.lookup f = some ⟨oc, od, .func (PySem.W.fnOf x q (defArgs st) (defBody st) (defScope st) .none kV dc pm an cd ct), sl⟩) (c : codeIn K cd q = true) (k : keepIn K (.ref f) = true)
    (n : MDef K C q x st ps → R) : R := n ⟨f, _, fun_mk l c k, ⟨a, i, k⟩, (fun_mk l c k).binds b⟩
theorem cps_i {C : Addr} {x q : Str} {st : Stmt} {ps : List Str} {R : Prop} {f : Addr} {oc kV dc pm cd ct : Value} {od an : Option Addr} {sl : Array (Option Value)} (b : BindOk "__init__" q st ps) (X : K.In h) (g : mg x = some (.ref C)) (m : makesIn K C = true) (a : findIn K (.ref C) "__init__" = some (some (.ref f))) (i : isFn K (.ref f) = true) (j : keepIn K (.ref C) = true) (l : K.lookup f = some ⟨oc, od, .func (PySem.W.fnOf "__init__" q (defArgs st) (defBody st) (defScope st) .none kV dc pm an cd ct), sl⟩) (c : codeIn K cd q = true) (k : keepIn K (.ref f) = true)
    (n : IDef K mg x C q st ps → R) : R := n ⟨⟨f, _, fun_mk l c k, ⟨m, a, i, j⟩, (fun_mk l c k).binds b⟩, g⟩
def LV : List (Str × WData) := [("MOST_AMOUNT", WData.int 1000000000000), ("MOST_DAY", WData.int 1000000000), ("MOST_TOLL", WData.int 1000000000)]
theorem loose_int {lv : List (Str × WData)} (z : LooseAre lv mg h) {x : Str} {n : Int} (m : (x, WData.int n) ∈ lv) : ∃ u, mg x = some u ∧ RelV (.int n) u := by
  obtain ⟨v, a, r⟩ := z.val _ m
  obtain ⟨t, e, _⟩ := readsW_int_inv r
  exact ⟨v, a, t, e⟩
theorem cps_t {R : Prop} (X : K.In h) (G : h.Ns mainGlobals mg) (z : LooseAre LV mg h)
    (aS : nsIn K mainGlobals "Sward" = some (some (.ref CS)))
    (aC : nsIn K mainGlobals "Country" = some (some (.ref CC)))
    (aW : nsIn K mainGlobals "Wrong" = some (some (.ref CW)))
    (z_len : nsIn K mainGlobals "len" = some none) (z_isinstance : nsIn K mainGlobals "isinstance" = some none) (z_int : nsIn K mainGlobals "int" = some none) (z_str : nsIn K mainGlobals "str" = some none) (z_bool : nsIn K mainGlobals "bool" = some none) (z_tuple : nsIn K mainGlobals "tuple" = some none) (z_all : nsIn K mainGlobals "all" = some none) (z_sum : nsIn K mainGlobals "sum" = some none) (z_min : nsIn K mainGlobals "min" = some none) (z_abs : nsIn K mainGlobals "abs" = some none) (z_range : nsIn K mainGlobals "range" = some none) (z_enumerate : nsIn K mainGlobals "enumerate" = some none) (z_sorted : nsIn K mainGlobals "sorted" = some none) (z_list : nsIn K mainGlobals "list" = some none) (z_dict : nsIn K mainGlobals "dict" = some none)
    {t_LONGEST t_MOST_GROUNDS t_MOST_WAYS t_MOST_HEIGHT} {t_L} {zL : Str}
    (k_LONGEST : nsIn K mainGlobals "LONGEST" = some (some (.int 8 t_LONGEST)))
    (k_MOST_GROUNDS : nsIn K mainGlobals "MOST_GROUNDS" = some (some (.int 12 t_MOST_GROUNDS)))
    (k_MOST_WAYS : nsIn K mainGlobals "MOST_WAYS" = some (some (.int 30 t_MOST_WAYS)))
    (k_MOST_HEIGHT : nsIn K mainGlobals "MOST_HEIGHT" = some (some (.int 1000 t_MOST_HEIGHT)))
    (k_LETTERS : nsIn K mainGlobals "LETTERS" = some (some (.str zL t_L))) (e_L : zL = letters)
    (pgS : plainGet K CS Str.empty = true) (hdS : hasDictIn K CS = true) (poS : plainOver K CS = true) (saS : findIn K (.ref CS) "__setattr__" = some (some (.builtin "object.__setattr__")))
    (pgC : plainGet K CC Str.empty = true) (hdC : hasDictIn K CC = true) (poC : plainOver K CC = true) (saC : findIn K (.ref CC) "__setattr__" = some (some (.builtin "object.__setattr__")))
    (n_has : findIn K (.ref CS) "has" = some none)
    (n_full : findIn K (.ref CS) "full" = some none)
    (n_grows : findIn K (.ref CS) "grows" = some none)
    (n_keep : findIn K (.ref CS) "keep" = some none)
    (n_by_ground : findIn K (.ref CC) "by_ground" = some none)
    (n_by_way : findIn K (.ref CC) "by_way" = some none)
    (n : Txt K mg CS CC CW → mg "Sward" = some (.ref CS) → mg "Country" = some (.ref CC) → R) : R := by
  subst e_L
  refine n ⟨PySem.W.mg_none_of X G z_len, PySem.W.mg_none_of X G z_isinstance, PySem.W.mg_none_of X G z_int, PySem.W.mg_none_of X G z_str, PySem.W.mg_none_of X G z_bool, PySem.W.mg_none_of X G z_tuple, PySem.W.mg_none_of X G z_all, PySem.W.mg_none_of X G z_sum, PySem.W.mg_none_of X G z_min, PySem.W.mg_none_of X G z_abs, PySem.W.mg_none_of X G z_range, PySem.W.mg_none_of X G z_enumerate, PySem.W.mg_none_of X G z_sorted, PySem.W.mg_none_of X G z_list, PySem.W.mg_none_of X G z_dict,
    loose_int z (List.Mem.head _), loose_int z (List.Mem.tail _ (List.Mem.head _)), ⟨_, PySem.W.mg_of X G k_LONGEST, _, rfl⟩, ⟨_, PySem.W.mg_of X G k_LETTERS, _, rfl⟩, ⟨_, PySem.W.mg_of X G k_MOST_GROUNDS, _, rfl⟩, ⟨_, PySem.W.mg_of X G k_MOST_WAYS, _, rfl⟩, ⟨_, PySem.W.mg_of X G k_MOST_HEIGHT, _, rfl⟩, loose_int z (List.Mem.tail _ (List.Mem.tail _ (List.Mem.head _))),
    ⟨pgS, hdS, poS, saS⟩, ⟨pgC, hdC, poC, saC⟩, n_has, n_full, n_grows, n_keep, n_by_ground, n_by_way, PySem.W.mg_of X G aW⟩ (PySem.W.mg_of X G aS) (PySem.W.mg_of X G aC)
theorem fin {l : PySem.W.OpenLaw} {fa : Addr} {f : Addr} {oc kV dc pm cd ct : Value} {od an : Option Addr} {sl : Array (Option Value)} (X : K.In h) (G : h.Ns mainGlobals mg) (hfa : mg "law" = some (.ref fa)) (a : nsIn K mainGlobals "law" = some (some (.ref f)))
    (lk : K.lookup f = some ⟨oc, od, .func (PySem.W.fnOf "law" "law" (defArgs s_law) (defBody s_law) (defScope s_law) .none kV dc pm an cd ct), sl⟩) (c : codeIn K cd "law" = true) (k : keepIn K (.ref f) = true) (T : Txt K mg CS CC CW)
    (D_is_whole : Def K mg "is_whole" s_is_whole ["thing"])
    (D_is_from_to : Def K mg "is_from_to" s_is_from_to ["thing", "least", "most"])
    (D_is_amount : Def K mg "is_amount" s_is_amount ["thing"])
    (D_is_day : Def K mg "is_day" s_is_day ["thing"])
    (D_step_days : Def K mg "step_days" s_step_days ["step"])
    (D_days_of : Def K mg "days_of" s_days_of ["steps"])
    (D_plain : Def K mg "plain" s_plain ["steps"])
    (D_cut : Def K mg "cut" s_cut ["steps", "days"])
    (D_joined : Def K mg "joined" s_joined ["one", "other"])
    (D_taken_on : Def K mg "taken_on" s_taken_on ["day", "steps", "turn"])
    (D_folded : Def K mg "folded" s_folded ["day", "turns"])
    (D_is_name : Def K mg "is_name" s_is_name ["thing"])
    (D_S_init : IDef K mg "Sward" CS "Sward.__init__" s_S_init ["self", "has", "full", "grows", "keep"])
    (D_sward_of : Def K mg "sward_of" s_sward_of ["row"])
    (D_is_ground : Def K mg "is_ground" s_is_ground ["row"])
    (D_is_way : Def K mg "is_way" s_is_way ["row"])
    (D_ground_row : MDef K CC "Country.ground_row" "ground_row" s_ground_row ["self", "ground"])
    (D_way_row : MDef K CC "Country.way_row" "way_row" s_way_row ["self", "way"])
    (D_height : MDef K CC "Country.height" "height" s_height ["self", "ground"])
    (D_sward : MDef K CC "Country.sward" "sward" s_sward ["self", "ground"])
    (D_ends : MDef K CC "Country.ends" "ends" s_ends ["self", "way"])
    (D_ways_from : MDef K CC "Country.ways_from" "ways_from" s_ways_from ["self", "ground"])
    (D_leads_from : Def K mg "leads_from" s_leads_from ["country", "way", "ground"])
    (D_add_way : MDef K CC "Country.add_way" "add_way" s_add_way ["self", "row"])
    (D_C_init : IDef K mg "Country" CC "Country.__init__" s_C_init ["self", "grounds", "ways"])
    (D_laid : Def K mg "laid" s_laid ["country", "ground", "day", "steps"])
    (D_law_bag : Def K mg "_law_bag" s_law_bag ["_law_script"])
    (D_law_take : Def K mg "_law_take" s_law_take ["_law_bag_here", "_law_many"])
    (D_law_names : Def K mg "_law_names" s_law_names ["_law_bag_here", "_law_many"])
    (D_law_country : Def K mg "_law_country" s_law_country ["_law_bag_here", "_law_names_here", "_law_many"])
    (D_law_ways : Def K mg "_law_ways" s_law_ways ["_law_bag_here", "_law_names_here", "_law_grounds", "_law_many"])
    (D_law_from : Def K mg "_law_from" s_law_from ["_law_ways_here", "_law_ground"])
    (D_law_days : Def K mg "_law_days" s_law_days ["_law_steps_here"])
    (D_law_steps : Def K mg "_law_steps" s_law_steps ["_law_bag_here", "_law_ways_here", "_law_ground", "_law_many"])
    (D_law_world : Def K mg "_law_world" s_law_world ["_law_bag_here"])
    (D_law_laid : Def K mg "_law_laid" s_law_laid ["_law_ways_here", "_law_ground", "_law_day", "_law_steps_here"])
    (D_law_end_to_end : Def K mg "_law_end_to_end" s_law_end_to_end ["_law_rests", "_law_day"])
    (D_law_walks_right : Def K mg "_law_walks_right" s_law_walks_right ["_law_world_here", "_law_rests", "_law_walks", "_law_steps_here", "_law_day"])
    (D_law_turns : Def K mg "_law_turns" s_law_turns ["_law_bag_here", "_law_ways_here", "_law_ground", "_law_day"])
    : ∃ fd : FuncData, (∀ (s : Shared) (v : Value), BindsTo s fd ⟨[v], []⟩ [("_law_script", v)]) ∧ ∀ base : Heap, K.In base → base.Ns mainGlobals mg → FnOk l.prog w K mg base CX0 10 fa fd ["_law_script"] (sp_law K) := by
  have e := hfa.symm.trans (PySem.W.mg_of X G a)
  cases e
  exact ⟨_, fun s v => .of_eq rfl, fun base _ _ => all_ok T D_is_whole D_is_from_to D_is_amount D_is_day D_step_days D_days_of D_plain D_cut D_joined D_taken_on D_folded D_is_name D_S_init D_sward_of D_is_ground D_is_way D_ground_row D_way_row D_height D_sward D_ends D_ways_from D_leads_from D_add_way D_C_init D_laid D_law_bag D_law_take D_law_names D_law_country D_law_ways D_law_from D_law_days D_law_steps D_law_world D_law_laid D_law_end_to_end D_law_walks_right D_law_turns (fun_mk (st := s_law) lk c k)⟩
end
/-- the call of the law, the names that the top leaves aside known by their numbers -/
theorem walk_x {l : PySem.W.OpenLaw} {p q : Program} {loose : List Str} {YP : World → Heap → Prop} {d : DefRec} {K : Params → PySem.W.Frag} (m63 : l.most = some 63) (noD : d.params.defaults = [])
    (inY : ∀ (w : World) (h : Heap), YP w h → (K w.params).In h)
    (F : ∀ (w : World) (mg : Str → Option Value) (fa : Addr) (h : Heap), (K w.params).In h → h.Ns mainGlobals mg → LooseAre LV mg h → mg d.name = some (.ref fa) →
      ∃ fd : FuncData, (∀ (s : Shared) (v : Value), BindsTo s fd ⟨[v], []⟩ [("_law_script", v)]) ∧
        ∀ base : Heap, (K w.params).In base → base.Ns mainGlobals mg → FnOk l.prog w (K w.params) mg base CX0 10 fa fd ["_law_script"] (sp_law (K w.params))) :
    PySem.W.WalkO q loose (XL p LV) YP l.row.toRowW d [] (fun f vs => PySem.call f vs) := by
  refine Att.attach_call m63 noD fun w sA sB mg mb fa ob prm cdv dcv a us ns Gr Yh _ _ _ named atA areI lenI noGen => ?_
  have inK := inY w _ Yh
  obtain ⟨fd, bnd, Fd⟩ := F w mg fa _ inK Gr.T.g Gr.X.2 named
  exact law_call inK Gr.T.g Gr.T.b Gr.T.builtins Gr.T.nolimit noGen atA areI (Nat.le_trans lenI (by decide)) ⟨rfl, by decide, by decide⟩ Fd bnd (fun H _ sq => ⟨a, ns, rfl, sq, lenI, fun _ => rfl⟩) fun _ _ _ z => z
end DG

open PySem PySem.W PyProof.Rows in
set_option maxRecDepth 100000 in
set_option maxHeartbeats 0 in
theorem PySem.Challenge.cw_drovegrounds_k47_whole_rows_by_nights_holds : PySem.Challenge.rw_drovegrounds_k47_whole_rows_by_nights.Holds := by
  w_on; o_law; k_head; (case hw => w_witness2)
  k_fill
  refine DG.walk_x (l := PySem.Challenge.rw_drovegrounds_k47_whole_rows_by_nights) rfl rfl (fun w h Y => PySem.W.kIn_of Y) ?F
  case F =>
    intro w mg fa h KX G LX named
    refine' DG.cps_t KX G LX ?aS_T ?aC_T ?aW_T ?z_len_T ?z_isinstance_T ?z_int_T ?z_str_T ?z_bool_T ?z_tuple_T ?z_all_T ?z_sum_T ?z_min_T ?z_abs_T ?z_range_T ?z_enumerate_T ?z_sorted_T ?z_list_T ?z_dict_T ?k_LONGEST_T ?k_MOST_GROUNDS_T ?k_MOST_WAYS_T ?k_MOST_HEIGHT_T ?k_LETTERS_T ?e_L_T ?pgS_T ?hdS_T ?poS_T ?saS_T ?pgC_T ?hdC_T ?poC_T ?saC_T ?n_has_T ?n_full_T ?n_grows_T ?n_keep_T ?n_by_ground_T ?n_by_way_T ?nx_T
    (case aS_T => k_is)
    (case aC_T => k_is)
    (case aW_T => k_is)
    (case z_len_T => k_is)
    (case z_isinstance_T => k_is)
    (case z_int_T => k_is)
    (case z_str_T => k_is)
    (case z_bool_T => k_is)
    (case z_tuple_T => k_is)
    (case z_all_T => k_is)
    (case z_sum_T => k_is)
    (case z_min_T => k_is)
    (case z_abs_T => k_is)
    (case z_range_T => k_is)
    (case z_enumerate_T => k_is)
    (case z_sorted_T => k_is)
    (case z_list_T => k_is)
    (case z_dict_T => k_is)
    (case k_LONGEST_T => k_is)
    (case k_MOST_GROUNDS_T => k_is)
    (case k_MOST_WAYS_T => k_is)
    (case k_MOST_HEIGHT_T => k_is)
    (case k_LETTERS_T => k_is)
    (case e_L_T => decide +kernel)
    (case pgS_T => k_is)
    (case hdS_T => k_is)
    (case poS_T => k_is)
    (case saS_T => k_is)
    (case pgC_T => k_is)
    (case hdC_T => k_is)
    (case poC_T => k_is)
    (case saC_T => k_is)
    (case n_has_T => k_is)
    (case n_full_T => k_is)
    (case n_grows_T => k_is)
    (case n_keep_T => k_is)
    (case n_by_ground_T => k_is)
    (case n_by_way_T => k_is)
    intro T gS gC
    refine' DG.cps_def DG.bk_is_whole KX G ?a_D_is_whole ?l_D_is_whole ?c_D_is_whole ?k_D_is_whole ?nx_D_is_whole
    (case a_D_is_whole => k_is)
    (case l_D_is_whole => k_is)
    (case c_D_is_whole => k_is)
    (case k_D_is_whole => k_is)
    intro D_is_whole
    refine' DG.cps_def DG.bk_is_from_to KX G ?a_D_is_from_to ?l_D_is_from_to ?c_D_is_from_to ?k_D_is_from_to ?nx_D_is_from_to
    (case a_D_is_from_to => k_is)
    (case l_D_is_from_to => k_is)
    (case c_D_is_from_to => k_is)
    (case k_D_is_from_to => k_is)
    intro D_is_from_to
    refine' DG.cps_def DG.bk_is_amount KX G ?a_D_is_amount ?l_D_is_amount ?c_D_is_amount ?k_D_is_amount ?nx_D_is_amount
    (case a_D_is_amount => k_is)
    (case l_D_is_amount => k_is)
    (case c_D_is_amount => k_is)
    (case k_D_is_amount => k_is)
    intro D_is_amount
    refine' DG.cps_def DG.bk_is_day KX G ?a_D_is_day ?l_D_is_day ?c_D_is_day ?k_D_is_day ?nx_D_is_day
    (case a_D_is_day => k_is)
    (case l_D_is_day => k_is)
    (case c_D_is_day => k_is)
    (case k_D_is_day => k_is)
    intro D_is_day
    refine' DG.cps_def DG.bk_step_days KX G ?a_D_step_days ?l_D_step_days ?c_D_step_days ?k_D_step_days ?nx_D_step_days
    (case a_D_step_days => k_is)
    (case l_D_step_days => k_is)
    (case c_D_step_days => k_is)
    (case k_D_step_days => k_is)
    intro D_step_days
    refine' DG.cps_def DG.bk_days_of KX G ?a_D_days_of ?l_D_days_of ?c_D_days_of ?k_D_days_of ?nx_D_days_of
    (case a_D_days_of => k_is)
    (case l_D_days_of => k_is)
    (case c_D_days_of => k_is)
    (case k_D_days_of => k_is)
    intro D_days_of
    refine' DG.cps_def DG.bk_plain KX G ?a_D_plain ?l_D_plain ?c_D_plain ?k_D_plain ?nx_D_plain
    (case a_D_plain => k_is)
    (case l_D_plain => k_is)
    (case c_D_plain => k_is)
    (case k_D_plain => k_is)
    intro D_plain
    refine' DG.cps_def DG.bk_cut KX G ?a_D_cut ?l_D_cut ?c_D_cut ?k_D_cut ?nx_D_cut
    (case a_D_cut => k_is)
    (case l_D_cut => k_is)
    (case c_D_cut => k_is)
    (case k_D_cut => k_is)
    intro D_cut
    refine' DG.cps_def DG.bk_joined KX G ?a_D_joined ?l_D_joined ?c_D_joined ?k_D_joined ?nx_D_joined
    (case a_D_joined => k_is)
    (case l_D_joined => k_is)
    (case c_D_joined => k_is)
    (case k_D_joined => k_is)
    intro D_joined
    refine' DG.cps_def DG.bk_taken_on KX G ?a_D_taken_on ?l_D_taken_on ?c_D_taken_on ?k_D_taken_on ?nx_D_taken_on
    (case a_D_taken_on => k_is)
    (case l_D_taken_on => k_is)
    (case c_D_taken_on => k_is)
    (case k_D_taken_on => k_is)
    intro D_taken_on
    refine' DG.cps_def DG.bk_folded KX G ?a_D_folded ?l_D_folded ?c_D_folded ?k_D_folded ?nx_D_folded
    (case a_D_folded => k_is)
    (case l_D_folded => k_is)
    (case c_D_folded => k_is)
    (case k_D_folded => k_is)
    intro D_folded
    refine' DG.cps_def DG.bk_is_name KX G ?a_D_is_name ?l_D_is_name ?c_D_is_name ?k_D_is_name ?nx_D_is_name
    (case a_D_is_name => k_is)
    (case l_D_is_name => k_is)
    (case c_D_is_name => k_is)
    (case k_D_is_name => k_is)
    intro D_is_name
    refine' DG.cps_i DG.bk_S_init KX gS ?m_D_S_init ?a_D_S_init ?i_D_S_init ?j_D_S_init ?l_D_S_init ?c_D_S_init ?k_D_S_init ?nx_D_S_init
    (case m_D_S_init => k_is)
    (case a_D_S_init => k_is)
    (case i_D_S_init => k_is)
    (case j_D_S_init => k_is)
    (case l_D_S_init => k_is)
    (case c_D_S_init => k_is)
    (case k_D_S_init => k_is)
    intro D_S_init
    refine' DG.cps_def DG.bk_sward_of KX G ?a_D_sward_of ?l_D_sward_of ?c_D_sward_of ?k_D_sward_of ?nx_D_sward_of
    (case a_D_sward_of => k_is)
    (case l_D_sward_of => k_is)
    (case c_D_sward_of => k_is)
    (case k_D_sward_of => k_is)
    intro D_sward_of
    refine' DG.cps_def DG.bk_is_ground KX G ?a_D_is_ground ?l_D_is_ground ?c_D_is_ground ?k_D_is_ground ?nx_D_is_ground
    (case a_D_is_ground => k_is)
    (case l_D_is_ground => k_is)
    (case c_D_is_ground => k_is)
    (case k_D_is_ground => k_is)
    intro D_is_ground
    refine' DG.cps_def DG.bk_is_way KX G ?a_D_is_way ?l_D_is_way ?c_D_is_way ?k_D_is_way ?nx_D_is_way
    (case a_D_is_way => k_is)
    (case l_D_is_way => k_is)
    (case c_D_is_way => k_is)
    (case k_D_is_way => k_is)
    intro D_is_way
    refine' DG.cps_m DG.bk_ground_row T ?a_D_ground_row ?i_D_ground_row ?l_D_ground_row ?c_D_ground_row ?k_D_ground_row ?nx_D_ground_row
    (case a_D_ground_row => k_is)
    (case i_D_ground_row => k_is)
    (case l_D_ground_row => k_is)
    (case c_D_ground_row => k_is)
    (case k_D_ground_row => k_is)
    intro D_ground_row
    refine' DG.cps_m DG.bk_way_row T ?a_D_way_row ?i_D_way_row ?l_D_way_row ?c_D_way_row ?k_D_way_row ?nx_D_way_row
    (case a_D_way_row => k_is)
    (case i_D_way_row => k_is)
    (case l_D_way_row => k_is)
    (case c_D_way_row => k_is)
    (case k_D_way_row => k_is)
    intro D_way_row
    refine' DG.cps_m DG.bk_height T ?a_D_height ?i_D_height ?l_D_height ?c_D_height ?k_D_height ?nx_D_height
    (case a_D_height => k_is)
    (case i_D_height => k_is)
    (case l_D_height => k_is)
    (case c_D_height => k_is)
    (case k_D_height => k_is)
    intro D_height
    refine' DG.cps_m DG.bk_sward T ?a_D_sward ?i_D_sward ?l_D_sward ?c_D_sward ?k_D_sward ?nx_D_sward
    (case a_D_sward => k_is)
    (case i_D_sward => k_is)
    (case l_D_sward => k_is)
    (case c_D_sward => k_is)
    (case k_D_sward => k_is)
    intro D_sward
    refine' DG.cps_m DG.bk_ends T ?a_D_ends ?i_D_ends ?l_D_ends ?c_D_ends ?k_D_ends ?nx_D_ends
    (case a_D_ends => k_is)
    (case i_D_ends => k_is)
    (case l_D_ends => k_is)
    (case c_D_ends => k_is)
    (case k_D_ends => k_is)
    intro D_ends
    refine' DG.cps_m DG.bk_ways_from T ?a_D_ways_from ?i_D_ways_from ?l_D_ways_from ?c_D_ways_from ?k_D_ways_from ?nx_D_ways_from
    (case a_D_ways_from => k_is)
    (case i_D_ways_from => k_is)
    (case l_D_ways_from => k_is)
    (case c_D_ways_from => k_is)
    (case k_D_ways_from => k_is)
    intro D_ways_from
    refine' DG.cps_def DG.bk_leads_from KX G ?a_D_leads_from ?l_D_leads_from ?c_D_leads_from ?k_D_leads_from ?nx_D_leads_from
    (case a_D_leads_from => k_is)
    (case l_D_leads_from => k_is)
    (case c_D_leads_from => k_is)
    (case k_D_leads_from => k_is)
    intro D_leads_from
    refine' DG.cps_m DG.bk_add_way T ?a_D_add_way ?i_D_add_way ?l_D_add_way ?c_D_add_way ?k_D_add_way ?nx_D_add_way
    (case a_D_add_way => k_is)
    (case i_D_add_way => k_is)
    (case l_D_add_way => k_is)
    (case c_D_add_way => k_is)
    (case k_D_add_way => k_is)
    intro D_add_way
    refine' DG.cps_i DG.bk_C_init KX gC ?m_D_C_init ?a_D_C_init ?i_D_C_init ?j_D_C_init ?l_D_C_init ?c_D_C_init ?k_D_C_init ?nx_D_C_init
    (case m_D_C_init => k_is)
    (case a_D_C_init => k_is)
    (case i_D_C_init => k_is)
    (case j_D_C_init => k_is)
    (case l_D_C_init => k_is)
    (case c_D_C_init => k_is)
    (case k_D_C_init => k_is)
    intro D_C_init
    refine' DG.cps_def DG.bk_laid KX G ?a_D_laid ?l_D_laid ?c_D_laid ?k_D_laid ?nx_D_laid
    (case a_D_laid => k_is)
    (case l_D_laid => k_is)
    (case c_D_laid => k_is)
    (case k_D_laid => k_is)
    intro D_laid
    refine' DG.cps_def DG.bk_law_bag KX G ?a_D_law_bag ?l_D_law_bag ?c_D_law_bag ?k_D_law_bag ?nx_D_law_bag
    (case a_D_law_bag => k_is)
    (case l_D_law_bag => k_is)
    (case c_D_law_bag => k_is)
    (case k_D_law_bag => k_is)
    intro D_law_bag
    refine' DG.cps_def DG.bk_law_take KX G ?a_D_law_take ?l_D_law_take ?c_D_law_take ?k_D_law_take ?nx_D_law_take
    (case a_D_law_take => k_is)
    (case l_D_law_take => k_is)
    (case c_D_law_take => k_is)
    (case k_D_law_take => k_is)
    intro D_law_take
    refine' DG.cps_def DG.bk_law_names KX G ?a_D_law_names ?l_D_law_names ?c_D_law_names ?k_D_law_names ?nx_D_law_names
    (case a_D_law_names => k_is)
    (case l_D_law_names => k_is)
    (case c_D_law_names => k_is)
    (case k_D_law_names => k_is)
    intro D_law_names
    refine' DG.cps_def DG.bk_law_country KX G ?a_D_law_country ?l_D_law_country ?c_D_law_country ?k_D_law_country ?nx_D_law_country
    (case a_D_law_country => k_is)
    (case l_D_law_country => k_is)
    (case c_D_law_country => k_is)
    (case k_D_law_country => k_is)
    intro D_law_country
    refine' DG.cps_def DG.bk_law_ways KX G ?a_D_law_ways ?l_D_law_ways ?c_D_law_ways ?k_D_law_ways ?nx_D_law_ways
    (case a_D_law_ways => k_is)
    (case l_D_law_ways => k_is)
    (case c_D_law_ways => k_is)
    (case k_D_law_ways => k_is)
    intro D_law_ways
    refine' DG.cps_def DG.bk_law_from KX G ?a_D_law_from ?l_D_law_from ?c_D_law_from ?k_D_law_from ?nx_D_law_from
    (case a_D_law_from => k_is)
    (case l_D_law_from => k_is)
    (case c_D_law_from => k_is)
    (case k_D_law_from => k_is)
    intro D_law_from
    refine' DG.cps_def DG.bk_law_days KX G ?a_D_law_days ?l_D_law_days ?c_D_law_days ?k_D_law_days ?nx_D_law_days
    (case a_D_law_days => k_is)
    (case l_D_law_days => k_is)
    (case c_D_law_days => k_is)
    (case k_D_law_days => k_is)
    intro D_law_days
    refine' DG.cps_def DG.bk_law_steps KX G ?a_D_law_steps ?l_D_law_steps ?c_D_law_steps ?k_D_law_steps ?nx_D_law_steps
    (case a_D_law_steps => k_is)
    (case l_D_law_steps => k_is)
    (case c_D_law_steps => k_is)
    (case k_D_law_steps => k_is)
    intro D_law_steps
    refine' DG.cps_def DG.bk_law_world KX G ?a_D_law_world ?l_D_law_world ?c_D_law_world ?k_D_law_world ?nx_D_law_world
    (case a_D_law_world => k_is)
    (case l_D_law_world => k_is)
    (case c_D_law_world => k_is)
    (case k_D_law_world => k_is)
    intro D_law_world
    refine' DG.cps_def DG.bk_law_laid KX G ?a_D_law_laid ?l_D_law_laid ?c_D_law_laid ?k_D_law_laid ?nx_D_law_laid
    (case a_D_law_laid => k_is)
    (case l_D_law_laid => k_is)
    (case c_D_law_laid => k_is)
    (case k_D_law_laid => k_is)
    intro D_law_laid
    refine' DG.cps_def DG.bk_law_end_to_end KX G ?a_D_law_end_to_end ?l_D_law_end_to_end ?c_D_law_end_to_end ?k_D_law_end_to_end ?nx_D_law_end_to_end
    (case a_D_law_end_to_end => k_is)
    (case l_D_law_end_to_end => k_is)
    (case c_D_law_end_to_end => k_is)
    (case k_D_law_end_to_end => k_is)
    intro D_law_end_to_end
    refine' DG.cps_def DG.bk_law_walks_right KX G ?a_D_law_walks_right ?l_D_law_walks_right ?c_D_law_walks_right ?k_D_law_walks_right ?nx_D_law_walks_right
    (case a_D_law_walks_right => k_is)
    (case l_D_law_walks_right => k_is)
    (case c_D_law_walks_right => k_is)
    (case k_D_law_walks_right => k_is)
    intro D_law_walks_right
    refine' DG.cps_def DG.bk_law_turns KX G ?a_D_law_turns ?l_D_law_turns ?c_D_law_turns ?k_D_law_turns ?nx_D_law_turns
    (case a_D_law_turns => k_is)
    (case l_D_law_turns => k_is)
    (case c_D_law_turns => k_is)
    (case k_D_law_turns => k_is)
    intro D_law_turns
    refine' DG.fin KX G named ?a ?l ?c ?k T D_is_whole D_is_from_to D_is_amount D_is_day D_step_days D_days_of D_plain D_cut D_joined D_taken_on D_folded D_is_name D_S_init D_sward_of D_is_ground D_is_way D_ground_row D_way_row D_height D_sward D_ends D_ways_from D_leads_from D_add_way D_C_init D_laid D_law_bag D_law_take D_law_names D_law_country D_law_ways D_law_from D_law_days D_law_steps D_law_world D_law_laid D_law_end_to_end D_law_walks_right D_law_turns
    (case a => k_is)
    (case l => k_is)
    (case c => k_is)
    (case k => k_is)
