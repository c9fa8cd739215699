import PyProof.Rows.All
import Wide.All
import OpenK.AllK
import Wide.FinOn
import HandS.Text
import HandS.Words
import HandS.Defaults
import HandS.WordsList
import HandS.Comp
import HandS.Iter
import HandS.Dict
import PySem.Challenge.RW_deltawires_k37_whole_texts_there_and_bac
import HandS.ForMost
import HandS.IsInst
import HandS.FStr
import HandS.Style
import HandS.NoneIn
import PyProof.CollectIter
import HandS.StrMore
import HandS.TryOnly
import HandS.Exc
import HandS.More
import HandS.Head0
import HandS.Head1
import HandS.Head2
import HandS.HeadHook4
import HandS.DictComp
import HandS.Conv
import HandS.OwnEq
import HandS.Rev
import HandS.Ends
import PyProof.ReprRoads
import PyProof.StrLawsRepr
import HandS.HeadEnd
set_option Elab.async false
set_option linter.all false
set_option maxRecDepth 100000
set_option maxHeartbeats 4000000
/-! K37A: the mirror: terms, signals, bodies, blocks as plain data; their texts; what is valid -/
namespace K37
open PySem L2 TL

/-! ### words -/
def wordsL : List Str := ["not", "and", "or", "xor", "plus", "same", "less", "any", "all", "pick", "join", "part"]
def otherL : List Str := ["is", "of", "at", "filters", "later"]
def isLet (c : Nat) : Prop := 97 ≤ c ∧ c ≤ 122
def isFig (c : Nat) : Prop := 48 ≤ c ∧ c ≤ 57
structure NameOk (n : Str) : Prop where
  l1 : 1 ≤ (tl n).length
  l8 : (tl n).length ≤ 8
  hd : ∃ c r, tl n = c :: r ∧ isLet c
  al : ∀ c ∈ tl n, isLet c ∨ isFig c
  nw : n ∉ wordsL
  no : n ∉ otherL
structure ValOk (v : Str) (k : Nat) : Prop where
  len : (tl v).length = k
  l1 : 1 ≤ k
  l8 : k ≤ 8
  al : ∀ c ∈ tl v, c = 48 ∨ c = 49 ∨ c = 120

/-! ### terms -/
inductive Tm where
  | is (v : Str)
  | of (n : Str)
  | u (w : Str) (a : Tm)
  | b (w : Str) (a b : Tm)
  | p (a b c : Tm)
  | t (a : Tm) (hi lo : Nat)
def subs : Tm → List Tm
  | .is _ => []
  | .of _ => []
  | .u _ a => [a]
  | .b _ a b => [a, b]
  | .p a b c => [a, b, c]
  | .t a _ _ => [a]
def deep : Tm → Nat
  | .is _ => 1
  | .of _ => 1
  | .u _ a => deep a + 1
  | .b _ a b => max (deep a) (deep b) + 1
  | .p a b c => max (deep a) (max (deep b) (deep c)) + 1
  | .t a _ _ => deep a + 1
def wt : Tm → Nat
  | .is _ => 1
  | .of _ => 1
  | .u _ a => 1 + wt a
  | .b _ a b => 1 + (wt a + wt b)
  | .p a b c => 1 + (wt a + (wt b + wt c))
  | .t a _ _ => 1 + wt a
def nms : Tm → List Str
  | .is _ => []
  | .of n => [n]
  | .u _ a => nms a
  | .b _ a b => nms a ++ nms b
  | .p a b c => nms a ++ (nms b ++ nms c)
  | .t a _ _ => nms a
/-- the sign of a figure -/
def figS (n : Nat) : Str := ⟨#[48 + n]⟩
def tx : Tm → Str
  | .is v => ("'" : Str) ++ v
  | .of n => n
  | .u w a => w ++ ("(" : Str) ++ tx a ++ (")" : Str)
  | .b w a b => w ++ ("(" : Str) ++ (tx a ++ (", " : Str) ++ tx b) ++ (")" : Str)
  | .p a b c => ("pick" : Str) ++ ("(" : Str) ++ (tx a ++ (", " : Str) ++ (tx b ++ (", " : Str) ++ tx c)) ++ (")" : Str)
  | .t a hi lo => ("part" : Str) ++ ("(" : Str) ++ (tx a ++ (", " : Str) ++ (figS hi ++ (", " : Str) ++ figS lo)) ++ (")" : Str)
def isBin (w : Str) : Prop := w = "and" ∨ w = "or" ∨ w = "xor" ∨ w = "plus"
def isCmp (w : Str) : Prop := w = "same" ∨ w = "less"
def isAny (w : Str) : Prop := w = "any" ∨ w = "all"
/-- a term fits, with that width, by the names' widths -/
def Fit (G : Str → Nat → Prop) : Tm → Nat → Prop
  | .is v, k => ValOk v k
  | .of n, k => NameOk n ∧ G n k
  | .u w a, k => (w = "not" ∧ Fit G a k) ∨ (isAny w ∧ k = 1 ∧ ∃ j, Fit G a j)
  | .b w a b, k => (isBin w ∧ Fit G a k ∧ Fit G b k) ∨ (isCmp w ∧ k = 1 ∧ ∃ j, Fit G a j ∧ Fit G b j) ∨ (w = "join" ∧ ∃ i j, k = i + j ∧ k ≤ 8 ∧ Fit G a i ∧ Fit G b j)
  | .p a b c, k => Fit G a 1 ∧ Fit G b k ∧ Fit G c k
  | .t a hi lo, k => ∃ j, Fit G a j ∧ hi < j ∧ lo ≤ hi ∧ k = hi - lo + 1
theorem Fit.mono {G G' : Str → Nat → Prop} (h : ∀ n k, G n k → G' n k) : ∀ (t : Tm) (k : Nat), Fit G t k → Fit G' t k
  | .is _, _, q => q
  | .of _, _, q => ⟨q.1, h _ _ q.2⟩
  | .u _ a, k, q => by
    rcases q with ⟨e, q⟩ | ⟨e, ek, j, q⟩
    · exact .inl ⟨e, Fit.mono h a k q⟩
    · exact .inr ⟨e, ek, j, Fit.mono h a j q⟩
  | .b _ a b, k, q => by
    rcases q with ⟨e, q, q'⟩ | ⟨e, ek, j, q, q'⟩ | ⟨e, i, j, ek, hk, q, q'⟩
    · exact .inl ⟨e, Fit.mono h a k q, Fit.mono h b k q'⟩
    · exact .inr (.inl ⟨e, ek, j, Fit.mono h a j q, Fit.mono h b j q'⟩)
    · exact .inr (.inr ⟨e, i, j, ek, hk, Fit.mono h a i q, Fit.mono h b j q'⟩)
  | .p a b c, k, q => ⟨Fit.mono h a 1 q.1, Fit.mono h b k q.2.1, Fit.mono h c k q.2.2⟩
  | .t a _ _, _, q => by
    obtain ⟨j, q, r⟩ := q
    exact ⟨j, Fit.mono h a j q, r⟩
theorem Fit.range {G : Str → Nat → Prop} (h : ∀ n k, G n k → 1 ≤ k ∧ k ≤ 8) : ∀ (t : Tm) (k : Nat), Fit G t k → 1 ≤ k ∧ k ≤ 8
  | .is _, _, q => ⟨ValOk.l1 q, ValOk.l8 q⟩
  | .of _, _, q => h _ _ q.2
  | .u _ a, k, q => by
    rcases q with ⟨e, q⟩ | ⟨e, ek, j, q⟩
    · exact Fit.range h a k q
    · omega
  | .b _ a b, k, q => by
    rcases q with ⟨e, q, q'⟩ | ⟨e, ek, j, q, q'⟩ | ⟨e, i, j, ek, hk, q, q'⟩
    · exact Fit.range h a k q
    · omega
    · have := Fit.range h a i q
      omega
  | .p a b c, k, q => Fit.range h b k q.2.1
  | .t a hi lo, k, q => by
    obtain ⟨j, q, r1, r2, r3⟩ := q
    have := Fit.range h a j q
    omega
/-- a term's names have widths -/
theorem Fit.nms {G : Str → Nat → Prop} : ∀ (t : Tm) (k : Nat), Fit G t k → ∀ n ∈ nms t, NameOk n ∧ ∃ j, G n j
  | .is _, _, q, n, h => by simp [K37.nms] at h
  | .of m, k, q, n, h => by
    simp [K37.nms] at h
    subst h
    exact ⟨q.1, k, q.2⟩
  | .u _ a, k, q, n, h => by
    rcases q with ⟨e, q⟩ | ⟨e, ek, j, q⟩
    · exact Fit.nms a k q n h
    · exact Fit.nms a j q n h
  | .b _ a b, k, q, n, h => by
    have h := List.mem_append.mp h
    rcases q with ⟨e, q, q'⟩ | ⟨e, ek, j, q, q'⟩ | ⟨e, i, j, ek, hk, q, q'⟩ <;> rcases h with h | h
    · exact Fit.nms a k q n h
    · exact Fit.nms b k q' n h
    · exact Fit.nms a j q n h
    · exact Fit.nms b j q' n h
    · exact Fit.nms a i q n h
    · exact Fit.nms b j q' n h
  | .p a b c, k, q, n, h => by
    rcases List.mem_append.mp h with h | h
    · exact Fit.nms a 1 q.1 n h
    · rcases List.mem_append.mp h with h | h
      · exact Fit.nms b k q.2.1 n h
      · exact Fit.nms c k q.2.2 n h
  | .t a _ _, _, q, n, h => by
    obtain ⟨j, q, r⟩ := q
    exact Fit.nms a j q n h
theorem wt_pos : ∀ t : Tm, 1 ≤ wt t
  | .is _ => Nat.le_refl _
  | .of _ => Nat.le_refl _
  | .u _ _ => Nat.le_add_right _ _
  | .b _ _ _ => Nat.le_add_right _ _
  | .p _ _ _ => Nat.le_add_right _ _
  | .t _ _ _ => Nat.le_add_right _ _
theorem deep_pos : ∀ t : Tm, 1 ≤ deep t
  | .is _ => Nat.le_refl _
  | .of _ => Nat.le_refl _
  | .u _ _ => Nat.le_add_left _ _
  | .b _ _ _ => Nat.le_add_left _ _
  | .p _ _ _ => Nat.le_add_left _ _
  | .t _ _ _ => Nat.le_add_left _ _
theorem deep_le_wt : ∀ t : Tm, deep t ≤ wt t
  | .is _ => Nat.le_refl _
  | .of _ => Nat.le_refl _
  | .u _ a => by
    have := deep_le_wt a
    simp only [deep, wt]
    omega
  | .b _ a b => by
    have := deep_le_wt a
    have := deep_le_wt b
    simp only [deep, wt]
    omega
  | .p a b c => by
    have := deep_le_wt a
    have := deep_le_wt b
    have := deep_le_wt c
    simp only [deep, wt]
    omega
  | .t a _ _ => by
    have := deep_le_wt a
    simp only [deep, wt]
    omega

/-! ### bodies -/
inductive Bd where
  | nil
  | set (w n : Str) (t : Tm) (r : Bd)
  | ite (c : Tm) (a b r : Bd)
def bdeep : Bd → Nat
  | .nil => 0
  | .set _ _ _ r => max 1 (bdeep r)
  | .ite _ a b r => max (max (bdeep a) (bdeep b) + 1) (bdeep r)
def bwt : Bd → Nat
  | .nil => 0
  | .set _ _ _ r => 1 + bwt r
  | .ite _ a b r => (1 + (bwt a + bwt b)) + bwt r
def setBy (w : Str) : Bd → List Str
  | .nil => []
  | .set v n _ r => (if v = w then [n] else []) ++ setBy w r
  | .ite _ a b r => (setBy w a ++ setBy w b) ++ setBy w r
def TermOk (G : Str → Nat → Prop) (t : Tm) (k : Nat) : Prop := Fit G t k ∧ deep t ≤ 10 ∧ wt t ≤ 60
/-- f: the word by which a kept signal is set; Kp: the kept signals with their widths -/
def BdOk (G Kp : Str → Nat → Prop) (f : Str → Str) : Bd → Prop
  | .nil => True
  | .set w n t r => (w = "now" ∨ w = "later") ∧ f n = w ∧ (∃ k, Kp n k ∧ TermOk G t k) ∧ BdOk G Kp f r
  | .ite c a b r => TermOk G c 1 ∧ BdOk G Kp f a ∧ BdOk G Kp f b ∧ BdOk G Kp f r
theorem BdOk.set_by {G Kp : Str → Nat → Prop} {f : Str → Str} {w : Str} : ∀ {b : Bd}, BdOk G Kp f b → ∀ n ∈ setBy w b, f n = w
  | .nil, _, n, h => by simp [setBy] at h
  | .set v m t r, q, n, h => by
    rcases List.mem_append.mp h with h | h
    · by_cases e : v = w
      · rw [if_pos e] at h
        simp at h
        subst h
        exact q.2.1.trans e
      · rw [if_neg e] at h
        cases h
    · exact BdOk.set_by q.2.2.2 n h
  | .ite c a b r, q, n, h => by
    rcases List.mem_append.mp h with h | h
    · rcases List.mem_append.mp h with h | h
      · exact BdOk.set_by q.2.1 n h
      · exact BdOk.set_by q.2.2.1 n h
    · exact BdOk.set_by q.2.2.2 n h
def blines (ah : Str) : Bd → List Str
  | .nil => []
  | .set w n t r => (ah ++ w ++ (" " : Str) ++ n ++ (" " : Str) ++ tx t) :: blines ah r
  | .ite c a b r => (ah ++ ("if " : Str) ++ tx c) :: (blines (ah ++ ("  " : Str)) a ++ ((ah ++ ("else" : Str)) :: (blines (ah ++ ("  " : Str)) b ++ blines ah r)))

/-! ### signals, blocks -/
inductive Sg where
  | inp (n : Str) (k : Nat)
  | kept (n : Str) (k : Nat) (v : Str)
  | wire (n : Str) (k : Nat) (t : Tm)
  | filt (n : Str) (k : Nat) (t : Tm)
  | bus (n : Str) (k : Nat) (ds : List (Tm × Tm))
def Sg.name : Sg → Str
  | .inp n _ => n
  | .kept n _ _ => n
  | .wire n _ _ => n
  | .filt n _ _ => n
  | .bus n _ _ => n
def Sg.wd : Sg → Nat
  | .inp _ k => k
  | .kept _ k _ => k
  | .wire _ k _ => k
  | .filt _ k _ => k
  | .bus _ k _ => k
def Sg.sort : Sg → Str
  | .inp _ _ => "input"
  | .kept _ _ _ => "kept"
  | .wire _ _ _ => "wire"
  | .filt _ _ _ => "filter"
  | .bus _ _ _ => "bus"
def Sg.terms : Sg → List Tm
  | .inp _ _ => []
  | .kept _ _ _ => []
  | .wire _ _ t => [t]
  | .filt _ _ t => [t]
  | .bus _ _ ds => ds.flatMap fun d => [d.1, d.2]
def Sg.nms (s : Sg) : List Str := s.terms.flatMap K37.nms
structure Bk where
  name : Str
  edge : Str
  trig : Str
  body : Bd
/-- what the names of a design's signals have as widths -/
def GW (sg : List Sg) (n : Str) (k : Nat) : Prop := ∃ s ∈ sg, s.name = n ∧ s.wd = k
def GK (sg : List Sg) (n : Str) (k : Nat) : Prop := ∃ v, Sg.kept n k v ∈ sg
def WhatOk (G : Str → Nat → Prop) : Sg → Prop
  | .inp _ _ => True
  | .kept _ k v => ValOk v k
  | .wire _ k t => TermOk G t k
  | .filt _ k t => TermOk G t k
  | .bus _ k ds => 2 ≤ ds.length ∧ ds.length ≤ 4 ∧ ∀ d ∈ ds, TermOk G d.1 1 ∧ TermOk G d.2 k
def isFilt : Sg → Bool
  | .filt _ _ _ => true
  | _ => false
def isLed : Sg → Bool
  | .wire _ _ _ => true
  | .bus _ _ _ => true
  | _ => false
structure BkOk (sg : List Sg) (f : Str → Str) (k : Bk) : Prop where
  nm : NameOk k.name
  ed : k.edge = "rise" ∨ k.edge = "fall"
  tr : GW sg k.trig 1
  bd : BdOk (GW sg) (GK sg) f k.body
  dp : bdeep k.body ≤ 4
  wt : bwt k.body ≤ 20
structure Valid (sg : List Sg) (bl : List Bk) : Prop where
  nm : ∀ s ∈ sg, NameOk s.name ∧ 1 ≤ s.wd ∧ s.wd ≤ 8
  nd : (sg.map Sg.name ++ bl.map Bk.name).Nodup
  ls : sg.length ≤ 24
  lw : (sg.filter isLed).length ≤ 8
  lb : bl.length ≤ 6
  wh : ∀ s ∈ sg, WhatOk (GW sg) s
  bk : ∃ f : Str → Str, ∀ k ∈ bl, BkOk sg f k
  rank : ∃ r : Str → Nat, ∀ s ∈ sg, ∀ n ∈ s.nms, r n < r s.name
  plain : ∃ P : Str → Prop, (∀ s ∈ sg, P s.name → ∀ n ∈ s.nms, P n) ∧ ∀ s ∈ sg, isFilt s = true → (∀ n ∈ s.nms, P n) ∧ ¬ P s.name

/-! ### a design's text -/
def drvTx (d : Tm × Tm) : Str := tx d.1 ++ (": " : Str) ++ tx d.2
def whatTx : Sg → Str
  | .inp _ _ => Str.empty
  | .kept _ _ v => (" " : Str) ++ v
  | .wire _ _ t => (" " : Str) ++ tx t
  | .filt _ _ t => (" " : Str) ++ tx t
  | .bus _ _ ds => (" " : Str) ++ Txt.join ("; " : Str) (ds.map drvTx)
def sline (s : Sg) : Str := s.sort ++ (" " : Str) ++ s.name ++ (" " : Str) ++ figS s.wd ++ whatTx s
def khead (k : Bk) : Str := ("block " : Str) ++ k.name ++ (" " : Str) ++ k.edge ++ (" " : Str) ++ k.trig
def klines (k : Bk) : List Str := khead k :: blines ("  " : Str) k.body
def dlines (sg : List Sg) (bl : List Bk) : List Str := sg.map sline ++ bl.flatMap klines
def dtext (sg : List Sg) (bl : List Bk) : Str := Txt.join Str.empty ((dlines sg bl).map fun l => l ++ ("\n" : Str))
end K37
set_option maxHeartbeats 4000000
/-! K37B: the walk's own words: defs by name, module's values, heaps, what stands for a term, a signal, a body, a block; comprehensions and loops in short -/
namespace K37
open PySem L2 TL
open PyProof.Rows hiding St

theorem seq_i {t u : TS} {D : Ends} {σ : St} {H : Hp} (h : ∀ M : St → Hp → Prop, u D = M → t { D with nx := M } σ H) : tSeq t u D σ H := h _ rfl
/-! ### the text by places -/
def topS (i : Nat) : Stmt := PySem.Challenge.pw_deltawires_k37_whole_texts_there_and_bac.main.body.getD i (.Pass ⟨0, 0, 0, 0⟩)

/-! ### what a module's name holds -/
structure GV (mg : Str → Option Value) (x : Str) (v : V) : Prop where
  ex : ∃ u, mg x = some u ∧ RelV v u
theorem pe_gv {X : Cx} {x : Str} {v : V} {pos : Pos} (h : GV X.mg x v) (hg : Gl X x := by rfl) (hd : (x == ("__debug__" : Str)) = false := by decide) : PE X (.Name x pos) (tC v) := by
  obtain ⟨u, h1, h2⟩ := h.ex
  exact pe_glob hg h1 h2 hd
/-- a written tuple -/
def TupK (K : PySem.W.Frag) (a : Addr) (xs : List V) : Prop := ∀ H : Hp, SqT K H a xs

/-! ### defs by their names -/
/-- the def x keeps its promise; dvs: what its last parameters have by default -/
structure FO (P : Program) (w : World) (K : PySem.W.Frag) (mg : Str → Option Value) (base : Heap) (x : Str) (k : Nat) (ps : List Str) (dvs : List V) (sp : Sp) : Prop where
  ex : ∃ (f : Addr) (fd : FuncData) (ds : List Value), mg x = some (.ref f) ∧ PySem.W.keepIn K (.ref f) = true ∧ Binds K fd ps ds ∧ Vals dvs ds ∧ FnOk P w K mg base CX0 k f fd ps sp
structure DF (K : PySem.W.Frag) (mg : Str → Option Value) (x : Str) (st : Stmt) (ps : List Str) (dvs : List V) : Prop where
  ex : ∃ (f : Addr) (fd : FuncData) (ds : List Value) (d0 : List V) (k0 : List (Str × V)), FunD K x x (defArgs st) (defBody st) (defScope st) d0 k0 f fd ∧ mg x = some (.ref f) ∧ Binds K fd ps ds ∧ Vals dvs ds
section
variable {P : Program} {w : World} {K : PySem.W.Frag} {mg : Str → Option Value} {base : Heap} {x : Str} {st : Stmt} {N ps : List Str} {dvs : List V} {k : Nat} {sp sp' : Sp}
theorem FO.up {j : Nat} (F : FO P w K mg base x k ps dvs sp) (h : k ≤ j) : FO P w K mg base x j ps dvs sp := by
  obtain ⟨f, fd, ds, a, b, c, d, e⟩ := F.ex
  exact ⟨f, fd, ds, a, b, c, d, e.mono h⟩
theorem FO.imp (F : FO P w K mg base x k ps dvs sp) (h : ∀ vs H Q E, sp' vs H Q E → sp vs H Q E) : FO P w K mg base x k ps dvs sp' := by
  obtain ⟨f, fd, ds, a, b, c, d, e⟩ := F.ex
  exact ⟨f, fd, ds, a, b, c, d, e.imp h⟩
theorem DF.ok (D : DF K mg x st ps dvs) (S : FnScope N ps (defScope st)) (len : ∀ vs H Q E, sp vs H Q E → vs.length = ps.length)
    (hbody : ∀ (f : Addr) (cdv : Value) (A : Around) (outer : List Env) (s : Shared) (H : Hp) (vs : List V) (Q : VK) (E : XK), Room k (A.deeper (envOfC x (defScope st) s.heap.objs.size f cdv)) → sp vs H Q E →
      ∃ t, PSs (cxOf CX0 P w K mg base N x (defScope st) f cdv A outer s H E).nox (defBody st) t ∧ t { nx := fun _ H' => Q .non H', rt := Q } (start N vs) H) : FO P w K mg base x (k + 1) ps dvs sp := by
  obtain ⟨f, fd, ds, d0, k0, a, b, c, d⟩ := D.ex
  refine ⟨f, fd, ds, b, a.kp, c, d, a.ok S len fun cdv A outer s H vs Q E hr h => ?_⟩
  obtain ⟨t, h1, h2⟩ := hbody f cdv A outer s H vs Q E hr h
  exact ⟨t, h1.nox, h2⟩
/-- at no level: where nothing can be asked -/
theorem DF.zero (D : DF K mg x st ps dvs) (no : ∀ vs H Q E, ¬ sp vs H Q E) : FO P w K mg base x 0 ps dvs sp := by
  obtain ⟨f, fd, ds, d0, k0, a, b, c, d⟩ := D.ex
  exact ⟨f, fd, ds, b, a.kp, c, d, fun vs H Q E h => absurd h (no vs H Q E), fun A outer s H args us vs Q E _ _ _ _ h => absurd h (no vs H Q E)⟩
end
section
variable {X : Cx} {x : Str} {k : Nat} {ps : List Str} {dvs : List V} {sp : Sp} {p pos : Pos} {e : Expr} {es : List Expr} {t : TA}
theorem pe_fo (F : FO X.prog X.w X.K X.mg X.base x k ps dvs sp) (hr : Room k X.A) (ha : PA X (e :: es) t) (hg : Gl X x := by rfl) (hdb : (x == ("__debug__" : Str)) = false := by decide)
    (he : starEach (e :: es) X.env = (false, eval e X.env) :: starEach es X.env := by rfl) (hpl : (backTo pos (starEach es X.env)).any (·.1) = false := by rfl) :
    PE X (.Call (.Name x p) (e :: es) [] pos) (tCall sp dvs E0 t) := by
  obtain ⟨f, fd, ds, a, b, c, d, F'⟩ := F.ex
  exact pe_call F' hr hg a b c d pass0 ha hdb he hpl
end

/-! ### heaps -/
theorem same_new {H : Hp} {p : Addr} {o : HO} (h : H p = none) : Same H (upd H p o) := fun b u q => by rw [upd_ne (ne_of_none q h)]; exact q
theorem same_grow {H H' : Hp} {p : Addr} {o : HO} (s : Same H H') (h : H' p = none) : Same H (upd H' p o) := s.trans (same_new h)
theorem same_mut {H H' : Hp} {p : Addr} {o : HO} (s : Same H H') (h : H p = none) : Same H (upd H' p o) := fun b u q => by rw [upd_ne (ne_of_none q h)]; exact s b u q
theorem same_seqT {K : PySem.W.Frag} {H H' : Hp} {a : Addr} {xs : List V} (e : Same H H') (h : SqT K H a xs) : SqT K H' a xs := by
  rcases h with (h | ⟨o, h⟩) | h
  · exact .inl (.inl (e _ _ h))
  · exact .inl (.inr ⟨o, e _ _ h⟩)
  · exact .inr h
/-- what was tracked stands, but what is at a -/
def But (a : Addr) (H H' : Hp) : Prop := ∀ b o, b ≠ a → H b = some o → H' b = some o
theorem But.refl (a : Addr) (H : Hp) : But a H H := fun _ _ _ h => h
theorem But.trans {a : Addr} {H H1 H2 : Hp} (x : But a H H1) (y : But a H1 H2) : But a H H2 := fun c o n h => y c o n (x c o n h)
theorem But.of {a : Addr} {H H' : Hp} (s : Same H H') : But a H H' := fun b o _ h => s b o h
theorem But.same {a : Addr} {H H1 H2 : Hp} (x : But a H H1) (y : Same H1 H2) : But a H H2 := fun c o n h => y c o (x c o n h)
theorem But.upd {a : Addr} {H H' : Hp} {o : HO} (x : But a H H') : But a H (upd H' a o) := fun b u n h => by rw [upd_ne n]; exact x b u n h
theorem But.new {a p : Addr} {H H' : Hp} {o : HO} (x : But a H H') (h : H p = none) : But a H (L2.upd H' p o) := fun b u n q => by rw [upd_ne (ne_of_none q h)]; exact x b u n q
/-- the tuples stand -/
def Tk (H H' : Hp) : Prop := ∀ b xs, H b = some (.tup xs) → H' b = some (.tup xs)
theorem Tk.refl (H : Hp) : Tk H H := fun _ _ h => h
theorem Tk.trans {H H1 H2 : Hp} (x : Tk H H1) (y : Tk H1 H2) : Tk H H2 := fun b xs h => y b xs (x b xs h)
theorem same_tk {H H' : Hp} (s : Same H H') : Tk H H' := fun b xs h => s b _ h
theorem But.tk {a : Addr} {H H' : Hp} {l : List V} (s : But a H H') (h : H a = some (.lst l)) : Tk H H' := fun b xs q => s b _ (ne_of q h (by intro z; cases z)) q
theorem tk_upd {H : Hp} {a : Addr} {l : List V} {o : HO} (h : H a = some (.lst l)) : Tk H (L2.upd H a o) := fun b xs q => by rw [upd_ne (ne_of q h (by intro z; cases z))]; exact q

/-! ### pairs of lists -/
abbrev All2 {α : Type} (F : α → V → Prop) : List α → List V → Prop := Paired F
section
variable {α : Type} {F G : α → V → Prop}
theorem all2_len {l : List α} {xs : List V} (h : All2 F l xs) : l.length = xs.length := Paired.length h
theorem all2_mono (h : ∀ a x, F a x → G a x) : ∀ {l : List α} {xs : List V}, All2 F l xs → All2 G l xs
  | _, _, .nil => .nil
  | _, _, .cons r t => .cons (h _ _ r) (all2_mono h t)
theorem all2_at : ∀ {l : List α} {xs : List V} {i : Nat} {x : V}, All2 F l xs → xs[i]? = some x → ∃ a, l[i]? = some a ∧ F a x
  | _, _, _, _, .nil, e => by simp at e
  | _, _, 0, _, .cons r _, e => by simp at e; subst e; exact ⟨_, rfl, r⟩
  | _, _, i + 1, x, .cons _ t, e => by
    obtain ⟨a, h1, h2⟩ := all2_at (i := i) (x := x) t (by simpa using e)
    exact ⟨a, by simpa using h1, h2⟩
theorem all2_get : ∀ {l : List α} {xs : List V} {i : Nat} {a : α}, All2 F l xs → l[i]? = some a → ∃ x, xs[i]? = some x ∧ F a x
  | _, _, _, _, .nil, e => by simp at e
  | _, _, 0, _, .cons r _, e => by simp at e; subst e; exact ⟨_, rfl, r⟩
  | _, _, i + 1, x, .cons _ t, e => by
    obtain ⟨a, h1, h2⟩ := all2_get (i := i) (a := x) t (by simpa using e)
    exact ⟨a, by simpa using h1, h2⟩
theorem all2_append : ∀ {l m : List α} {xs ys : List V}, All2 F l xs → All2 F m ys → All2 F (l ++ m) (xs ++ ys)
  | _, _, _, _, .nil, s => s
  | _, _, _, _, .cons r t, s => .cons r (all2_append t s)
theorem all2_snoc {l : List α} {xs : List V} {a : α} {x : V} (h : All2 F l xs) (r : F a x) : All2 F (l ++ [a]) (xs ++ [x]) := all2_append h (.cons r .nil)
theorem all2_drop : ∀ {l : List α} {xs : List V} (n : Nat), All2 F l xs → All2 F (l.drop n) (xs.drop n)
  | _, _, 0, r => r
  | _, _, _ + 1, .nil => .nil
  | _, _, n + 1, .cons _ t => all2_drop n t
theorem all2_take : ∀ {l : List α} {xs : List V} (n : Nat), All2 F l xs → All2 F (l.take n) (xs.take n)
  | _, _, 0, _ => .nil
  | _, _, _ + 1, .nil => .nil
  | _, _, n + 1, .cons r t => .cons r (all2_take n t)
theorem all2_erase : ∀ {l : List α} {xs : List V} (n : Nat), All2 F l xs → All2 F (l.eraseIdx n) (xs.eraseIdx n)
  | _, _, _, .nil => .nil
  | _, _, 0, .cons _ t => t
  | _, _, n + 1, .cons r t => .cons r (all2_erase n t)
theorem all2_map (f : α → V) (h : ∀ a, F a (f a)) : ∀ l : List α, All2 F l (l.map f)
  | [] => .nil
  | a :: r => .cons (h a) (all2_map f h r)
end

/-! ### what stands for what -/
def RT (H : Hp) : Tm → V → Prop
  | .is v, x => ∃ a, x = .ref a ∧ H a = some (.tup [.str ("is" : Str), .str v])
  | .of n, x => ∃ a, x = .ref a ∧ H a = some (.tup [.str ("of" : Str), .str n])
  | .u w s, x => ∃ a v, x = .ref a ∧ H a = some (.tup [.str w, v]) ∧ RT H s v
  | .b w s t, x => ∃ a v u, x = .ref a ∧ H a = some (.tup [.str w, v, u]) ∧ RT H s v ∧ RT H t u
  | .p r s t, x => ∃ a z v u, x = .ref a ∧ H a = some (.tup [.str ("pick" : Str), z, v, u]) ∧ RT H r z ∧ RT H s v ∧ RT H t u
  | .t s hi lo, x => ∃ a v, x = .ref a ∧ H a = some (.tup [.str ("part" : Str), v, .int (hi : Int), .int (lo : Int)]) ∧ RT H s v
theorem RT.tk {H H' : Hp} (k : Tk H H') : ∀ (t : Tm) (x : V), RT H t x → RT H' t x
  | .is _, _, ⟨a, e, h⟩ => ⟨a, e, k _ _ h⟩
  | .of _, _, ⟨a, e, h⟩ => ⟨a, e, k _ _ h⟩
  | .u _ s, _, ⟨a, v, e, h, q⟩ => ⟨a, v, e, k _ _ h, RT.tk k s v q⟩
  | .b _ s t, _, ⟨a, v, u, e, h, q, q'⟩ => ⟨a, v, u, e, k _ _ h, RT.tk k s v q, RT.tk k t u q'⟩
  | .p r s t, _, ⟨a, z, v, u, e, h, q, q', q''⟩ => ⟨a, z, v, u, e, k _ _ h, RT.tk k r z q, RT.tk k s v q', RT.tk k t u q''⟩
  | .t s _ _, _, ⟨a, v, e, h, q⟩ => ⟨a, v, e, k _ _ h, RT.tk k s v q⟩
/-- a term's word and what stands behind it -/
def wordOf : Tm → Str
  | .is _ => "is"
  | .of _ => "of"
  | .u w _ => w
  | .b w _ _ => w
  | .p _ _ _ => "pick"
  | .t _ _ _ => "part"
/-- a body's statements, one behind the other -/
def RBl (H : Hp) : Bd → List V → Prop
  | .nil, xs => xs = []
  | .set w n t r, xs => ∃ a v ys, xs = .ref a :: ys ∧ H a = some (.tup [.str w, .str n, v]) ∧ RT H t v ∧ RBl H r ys
  | .ite c s t r, xs => ∃ a v p q ps qs ys, xs = .ref a :: ys ∧ H a = some (.tup [.str ("if" : Str), v, .ref p, .ref q]) ∧ RT H c v ∧ H p = some (.tup ps) ∧ RBl H s ps ∧ H q = some (.tup qs) ∧ RBl H t qs ∧ RBl H r ys
def RB (H : Hp) (b : Bd) (x : V) : Prop := ∃ a xs, x = .ref a ∧ H a = some (.tup xs) ∧ RBl H b xs
theorem RBl.tk {H H' : Hp} (k : Tk H H') : ∀ (b : Bd) (xs : List V), RBl H b xs → RBl H' b xs
  | .nil, _, h => h
  | .set _ _ t r, _, ⟨a, v, ys, e, h, q, q'⟩ => ⟨a, v, ys, e, k _ _ h, RT.tk k t v q, RBl.tk k r ys q'⟩
  | .ite c s t r, _, ⟨a, v, p, q, ps, qs, ys, e, h, h1, h2, h3, h4, h5, h6⟩ => ⟨a, v, p, q, ps, qs, ys, e, k _ _ h, RT.tk k c v h1, k _ _ h2, RBl.tk k s ps h3, k _ _ h4, RBl.tk k t qs h5, RBl.tk k r ys h6⟩
theorem RB.tk {H H' : Hp} (k : Tk H H') {b : Bd} {x : V} : RB H b x → RB H' b x := fun ⟨a, xs, e, h, q⟩ => ⟨a, xs, e, k _ _ h, RBl.tk k b xs q⟩
/-- a driver -/
def RD (H : Hp) (d : Tm × Tm) (x : V) : Prop := ∃ a v u, x = .ref a ∧ H a = some (.tup [v, u]) ∧ RT H d.1 v ∧ RT H d.2 u
theorem RD.tk {H H' : Hp} (k : Tk H H') {d : Tm × Tm} {x : V} : RD H d x → RD H' d x := fun ⟨a, v, u, e, h, q, q'⟩ => ⟨a, v, u, e, k _ _ h, RT.tk k _ _ q, RT.tk k _ _ q'⟩
def RW (H : Hp) : Sg → V → Prop
  | .inp _ _, x => x = .non
  | .kept _ _ v, x => x = .str v
  | .wire _ _ t, x => RT H t x
  | .filt _ _ t, x => RT H t x
  | .bus _ _ ds, x => ∃ a xs, x = .ref a ∧ H a = some (.tup xs) ∧ All2 (RD H) ds xs
theorem RW.tk {H H' : Hp} (k : Tk H H') : ∀ {s : Sg} {x : V}, RW H s x → RW H' s x
  | .inp _ _, _, h => h
  | .kept _ _ _, _, h => h
  | .wire _ _ t, x, h => RT.tk k t x h
  | .filt _ _ t, x, h => RT.tk k t x h
  | .bus _ _ _, _, ⟨a, xs, e, h, q⟩ => ⟨a, xs, e, k _ _ h, all2_mono (fun _ _ z => z.tk k) q⟩
def RS (H : Hp) (s : Sg) (x : V) : Prop := ∃ a v, x = .ref a ∧ H a = some (.tup [.str s.sort, .str s.name, .int (s.wd : Int), v]) ∧ RW H s v
theorem RS.tk {H H' : Hp} (k : Tk H H') {s : Sg} {x : V} : RS H s x → RS H' s x := fun ⟨a, v, e, h, q⟩ => ⟨a, v, e, k _ _ h, q.tk k⟩
def RK (H : Hp) (b : Bk) (x : V) : Prop := ∃ a v, x = .ref a ∧ H a = some (.tup [.str b.name, .str b.edge, .str b.trig, v]) ∧ RB H b.body v
theorem RK.tk {H H' : Hp} (k : Tk H H') {b : Bk} {x : V} : RK H b x → RK H' b x := fun ⟨a, v, e, h, q⟩ => ⟨a, v, e, k _ _ h, q.tk k⟩
/-- a list of signals, of blocks, of texts -/
def LS (H : Hp) (a : Addr) (sg : List Sg) : Prop := ∃ xs, H a = some (.lst xs) ∧ All2 (RS H) sg xs
def LK (H : Hp) (a : Addr) (bl : List Bk) : Prop := ∃ xs, H a = some (.lst xs) ∧ All2 (RK H) bl xs
theorem LS.same {H H' : Hp} (k : Same H H') {a : Addr} {sg : List Sg} : LS H a sg → LS H' a sg := fun ⟨xs, h, q⟩ => ⟨xs, k _ _ h, all2_mono (fun _ _ z => RS.tk (same_tk k) z) q⟩
theorem LK.same {H H' : Hp} (k : Same H H') {a : Addr} {bl : List Bk} : LK H a bl → LK H' a bl := fun ⟨xs, h, q⟩ => ⟨xs, k _ _ h, all2_mono (fun _ _ z => RK.tk (same_tk k) z) q⟩

/-! ### what is walked, each turn leaving the heap -/
structure Wk (J : It) (n : Nat) (f : Nat → V) (S : Hp → Prop) : Prop where
  go : ∀ i H, i < n → S H → J.go i H
  st : ∀ H, S H → J.stop n H
  yl : ∀ i H x H', i < n → S H → J.yld i H x H' → H' = H ∧ x = f i
theorem wk_list {K : PySem.W.Frag} {a : Addr} {xs : List V} : Wk (Itl K a) xs.length (fun i => xs.getD i .non) (fun H => SqL K H a xs) where
  go := fun i H h s => ⟨xs, xs[i], s, by simp [h]⟩
  st := fun H s => ⟨xs, s, Nat.le_refl _⟩
  yl := fun i H x H' h s y => ⟨y.1, by
    have q := y.2 xs s
    simp [h] at q
    simp [h, q]⟩
theorem wk_tup {K : PySem.W.Frag} {a : Addr} {xs : List V} : Wk (Itt K a) xs.length (fun i => xs.getD i .non) (fun H => SqT K H a xs) where
  go := fun i H h s => ⟨xs, xs[i], s, by simp [h]⟩
  st := fun H s => ⟨xs, s, Nat.le_refl _⟩
  yl := fun i H x H' h s y => ⟨y.1, by
    have q := y.2 xs s
    simp [h] at q
    simp [h, q]⟩
theorem wk_str {x : Str} : Wk (Its x) x.cps.size (fun i => .str ⟨#[x.cps.getD i 0]⟩) (fun _ => True) where
  go := fun i H h _ => h
  st := fun H _ => Nat.le_refl _
  yl := fun i H v H' h _ y => by
    obtain ⟨e, c, h1, h2⟩ := y
    refine ⟨e, h2.trans ?_⟩
    have : x.cps.getD i 0 = c := by simp [Array.getD, h1, h]; rw [Array.getElem?_eq_getElem h] at h1; exact Option.some.inj h1
    rw [this]
theorem wk_rng {lo : Int} {n : Nat} : Wk (Itr lo n) n (fun i => .int (lo + i)) (fun _ => True) where
  go := fun i H h _ => h
  st := fun H _ => Nat.le_refl _
  yl := fun i H v H' h _ y => y
/-- a comprehension's turns over J, a loop's -/
def LcOk (J : It) (g : TG) (tt : TT) (te : TE) (vs : List Nat) (σ : St) (H1 : Hp) (Q : VK) : Prop := ∀ D, H1 D = none → ∃ W : Nat → Nat → Hp → Prop, (∃ m, W 0 m (upd H1 D (.lst []))) ∧ ∀ i m H, W i m H →
  (J.stop i H ∧ Q (.ref D) H) ∨ (J.go i H ∧ ∃ Nx : Hp → Prop, (∀ H', Nx H' → ∃ m', m' < m ∧ W (i + 1) m' H') ∧ ∀ x H', J.yld i H x H' → g x (wipe σ vs) H' fun σ2 H2 => wipe σ2 vs = wipe σ vs ∧ tt σ2 H2 fun b H3 =>
    if b = true then te σ2 H3 fun y H4 => ∃ acc, H4 D = some (.lst acc) ∧ acc.length < sizeLine ∧ Nx (upd H4 D (.lst (acc ++ [y]))) else Nx H3)
theorem tLc_eq (wi : TI) (g : TG) (tt : TT) (te : TE) (vs : List Nat) : tLc wi g tt te vs = fun σ H Q => wi σ H fun J H1 => LcOk J g tt te vs σ H1 Q := rfl
def ForOk (J : It) (g : TG) (tb : TS) (D : Ends) (σ : St) (H1 : Hp) : Prop := ∃ W : Nat → Nat → St → Hp → Prop, (∃ m, W 0 m σ H1) ∧ ∀ i m σ H, W i m σ H →
  (J.stop i H ∧ D.nx σ H) ∨ (J.go i H ∧ ∃ N : St → Hp → Prop, (∀ σ' H', N σ' H' → ∃ m', m' < m ∧ W (i + 1) m' σ' H') ∧ ∀ x H', J.yld i H x H' → g x σ H' fun σ2 H2 => tb { D with nx := N, ct := N, bk := D.nx } σ2 H2)
theorem tFor_eq (wi : TI) (g : TG) (tb : TS) : tFor wi g tb = fun D σ H => wi σ H fun J H1 => ForOk J g tb D σ H1 := rfl
section
variable {J : It} {n : Nat} {f : Nat → V} {S : Hp → Prop} {g : TG} {tt : TT} {te : TE} {vs : List Nat} {σ : St} {H1 : Hp} {Q : VK}
/-- a comprehension whose block leaves what is tracked: U the items made so far -/
theorem lc_gen (wk : Wk J n f S) (hS : ∀ H, Same H1 H → S H) (U : Nat → List V → Hp → Prop) (hz : n ≤ 1000000) (hl : ∀ i acc H, i ≤ n → U i acc H → acc.length ≤ i)
    (mono : ∀ i acc H H', U i acc H → Tk H H' → U i acc H') (h0 : ∀ H, Same H1 H → U 0 [] H)
    (hs : ∀ i acc H (Ky : VK) (Kn : Hp → Prop), i < n → Same H1 H → U i acc H → (∀ y H', Same H H' → U (i + 1) (acc ++ [y]) H' → Ky y H') → (∀ H', Same H H' → U (i + 1) acc H' → Kn H') →
      g (f i) (wipe σ vs) H fun σ2 H2 => wipe σ2 vs = wipe σ vs ∧ tt σ2 H2 fun b H3 => if b = true then te σ2 H3 Ky else Kn H3)
    (hd : ∀ D acc H, Same H1 H → H1 D = none → H D = some (.lst acc) → U n acc H → Q (.ref D) H) :
    LcOk J g tt te vs σ H1 Q := by
  intro D hD
  refine ⟨fun i m H => m = n - i ∧ i ≤ n ∧ Same H1 H ∧ ∃ acc, H D = some (.lst acc) ∧ U i acc H, ⟨n, rfl, Nat.zero_le _, same_new hD, [], upd_same, h0 _ (same_new hD)⟩, ?_⟩
  rintro i m H ⟨rfl, hi, hs1, acc, hDa, u⟩
  by_cases hlt : i < n
  · refine .inr ⟨wk.go i H hlt (hS H hs1), fun H' => Same H1 H' ∧ ∃ acc, H' D = some (.lst acc) ∧ U (i + 1) acc H', fun H' q => ⟨n - (i + 1), by omega, rfl, hlt, q⟩, fun x H' y => ?_⟩
    obtain ⟨e, ex⟩ := wk.yl i H x H' hlt (hS H hs1) y
    subst e ex
    refine hs i acc _ (fun y H4 => ∃ acc, H4 D = some (.lst acc) ∧ acc.length < sizeLine ∧ (Same H1 (upd H4 D (.lst (acc ++ [y]))) ∧ ∃ acc2, (upd H4 D (.lst (acc ++ [y]))) D = some (.lst acc2) ∧ U (i + 1) acc2 (upd H4 D (.lst (acc ++ [y]))))) (fun H' => Same H1 H' ∧ ∃ acc, H' D = some (.lst acc) ∧ U (i + 1) acc H') hlt hs1 u (fun y H4 s4 u4 => ?_) fun H4 s4 u4 => ⟨hs1.trans s4, acc, s4 _ _ hDa, u4⟩
    refine ⟨acc, s4 _ _ hDa, ?_, same_mut (hs1.trans s4) hD, _, upd_same, mono _ _ _ _ u4 (tk_upd (s4 _ _ hDa))⟩
    have := hl i acc _ hi u
    rw [sizeLine_eq]
    omega
  · have e : i = n := by omega
    subst e
    exact .inl ⟨wk.st H (hS H hs1), hd D acc H hs1 hD hDa u⟩
/-- no test, an item each turn, R says what it is -/
theorem lc_map (wk : Wk J n f S) (hS : ∀ H, Same H1 H → S H) (R : Nat → V → Hp → Prop) (hz : n ≤ 1000000) (mono : ∀ i y H H', R i y H → Tk H H' → R i y H')
    (hs : ∀ i H (Ky : VK), i < n → Same H1 H → (∀ y H', Same H H' → R i y H' → Ky y H') → g (f i) (wipe σ vs) H fun σ2 H2 => wipe σ2 vs = wipe σ vs ∧ tYes σ2 H2 fun b H3 => if b = true then te σ2 H3 Ky else False)
    (hd : ∀ D ys H, Same H1 H → H1 D = none → H D = some (.lst ys) → ys.length = n → (∀ i y, ys[i]? = some y → R i y H) → Q (.ref D) H)
    (mg : ∀ (x : V) (σ : St) (H : Hp) (Q Q' : St → Hp → Prop), (∀ σ' H', Q σ' H' → Q' σ' H') → g x σ H Q → g x σ H Q') :
    LcOk J g tYes te vs σ H1 Q := by
  refine lc_gen (tt := tYes) wk hS (fun i acc H => acc.length = i ∧ ∀ j y, acc[j]? = some y → R j y H) hz (fun i acc H _ u => Nat.le_of_eq u.1)
    (fun i acc H H' u k => ⟨u.1, fun j y e => mono j y H H' (u.2 j y e) k⟩) (fun _ _ => ⟨rfl, fun j y e => by simp at e⟩) (fun i acc H Ky Kn hi h1 u ky _ => ?_) (fun D acc H s1 hD hDa u => hd D acc H s1 hD hDa u.1 u.2)
  refine mg _ _ _ _ _ (fun σ2 H2 q => ⟨q.1, ?_⟩) (hs i H Ky hi h1 fun y H' s' r => ky y H' s' ⟨by rw [List.length_append, u.1]; rfl, fun j z e => ?_⟩)
  · have q2 : (if true = true then te σ2 H2 Ky else False) := q.2
    rw [if_pos rfl] at q2
    show (if true = true then te σ2 H2 Ky else Kn H2)
    rw [if_pos rfl]
    exact q2
  · by_cases hj : j < acc.length
    · rw [List.getElem?_append_left hj] at e
      exact mono j z H H' (u.2 j z e) (same_tk s')
    · rw [List.getElem?_append_right (by omega)] at e
      have hji : j - acc.length = 0 := by
        by_cases h0 : j - acc.length = 0
        · exact h0
        · rw [List.getElem?_eq_none (by simp; omega)] at e
          cases e
      rw [hji] at e
      have ez : y = z := by simpa using e
      have ej : j = i := by omega
      rw [ej, ← ez]
      exact r
end
section
variable {J : It} {n : Nat} {f : Nat → V} {S : Hp → Prop} {g : TG} {tb : TS} {D : Ends} {σ : St} {H1 : Hp}
theorem for_gen (wk : Wk J n f S) (Pv : Nat → St → Hp → Prop) (h0 : Pv 0 σ H1) (hS : ∀ i σ H, i ≤ n → Pv i σ H → S H)
    (hs : ∀ i σ H, i < n → Pv i σ H → g (f i) σ H fun σ2 H2 => tb { D with nx := Pv (i + 1), ct := Pv (i + 1), bk := D.nx } σ2 H2) (hd : ∀ σ H, Pv n σ H → D.nx σ H) : ForOk J g tb D σ H1 := by
  refine ⟨fun i m σ H => m = n - i ∧ i ≤ n ∧ Pv i σ H, ⟨n, by simp, Nat.zero_le _, h0⟩, ?_⟩
  rintro i m σ H ⟨rfl, hi, p⟩
  by_cases hlt : i < n
  · refine .inr ⟨wk.go i H hlt (hS i σ H hi p), Pv (i + 1), fun σ' H' p' => ⟨n - (i + 1), by omega, rfl, hlt, p'⟩, fun x H' y => ?_⟩
    obtain ⟨e, ex⟩ := wk.yl i H x H' hlt (hS i σ H hi p) y
    subst e ex
    exact hs i σ _ hlt p
  · have e : i = n := by omega
    subst e
    exact .inl ⟨wk.st H (hS _ σ H hi p), hd σ H p⟩
end
theorem mg_name {i : Nat} (x : V) (σ : St) (H : Hp) (Q Q' : St → Hp → Prop) (h : ∀ σ' H', Q σ' H' → Q' σ' H') (q : gName i x σ H Q) : gName i x σ H Q' := h _ _ q
end K37
set_option maxHeartbeats 4000000
/-! K37R: the layer's rules once more, told by the values' kinds; the word that unfolds a reading -/
namespace K37
open PySem L2 TL
open PyProof.Rows hiding St

section
variable {X : Cx}
theorem PE.imp {e : Expr} {t t' : TE} (h : PE X e t) (k : ∀ σ H Q, t' σ H Q → t σ H Q) : PE X e t' := ⟨fun pins s σ H Q I q => h.run pins s σ H Q I (k _ _ _ q)⟩
theorem OpR.imp {f : Value → Value → Sem Value} {r r' : R2} (h : OpR X f r) (k : ∀ x y H Q, r' x y H Q → r x y H Q) : OpR X f r' := fun pins s σ H x y v u Q I rx ry q => h pins s σ H x y v u Q I rx ry (k _ _ _ _ q)
theorem CallR.imp {f : Value} {r r' : List V → Hp → VK → Prop} (h : CallR X f r) (k : ∀ xs H Q, r' xs H Q → r xs H Q) : CallR X f r' := fun pins s σ H xs us Q I r q => h pins s σ H xs us Q I r (k _ _ _ q)
theorem MtR.imp {id : String} {r r' : V → List V → Hp → VK → Prop} (h : MtR X id r) (k : ∀ x xs H Q, r' x xs H Q → r x xs H Q) : MtR X id r' := fun pins s σ H x xs v us Q I r rr q => h pins s σ H x xs v us Q I r rr (k _ _ _ _ q)
theorem SlR.imp {r r' : V → Option Int → Option Int → Hp → VK → Prop} (h : SlR X r) (k : ∀ x lo hi H Q, r' x lo hi H Q → r x lo hi H Q) : SlR X r' := fun pins s σ H x v vl vu lo hi sl Q I rx hs pl pu q => h pins s σ H x v vl vu lo hi sl Q I rx hs pl pu (k _ _ _ _ _ q)

/-! ### isinstance, len -/
/-- x is a text, a number, a truth, a tuple, a list: by its class's name -/
def KindV (H : Hp) (x : V) (n : String) : Prop :=
  match x with
  | .str _ => n = "str"
  | .int _ => n = "int"
  | .bl _ => n = "bool"
  | .non => n = "NoneType"
  | .ref a => (∃ xs, H a = some (.tup xs)) ∧ n = "tuple" ∨ (∃ xs, H a = some (.lst xs)) ∧ n = "list"
  | _ => False
theorem KindV.tyX {K : PySem.W.Frag} {H : Hp} {x : V} {n : String} (h : KindV H x n) : TyX K H x (.type n) := by
  cases x with
  | str z => cases (show n = _ from h); exact .base (.str z)
  | int z => cases (show n = _ from h); exact .base (.int z)
  | bl z => cases (show n = _ from h); exact .base (.bl z)
  | non => cases (show n = _ from h); exact .base .non
  | ref a =>
    rcases h with ⟨⟨xs, e⟩, rfl⟩ | ⟨⟨xs, e⟩, rfl⟩
    · exact .base (.tup e)
    · exact .base (.lst e)
  | byt _ => exact h.elim
  | flt _ => exact h.elim
  | ty _ => exact h.elim
def isiB : String → String → Option Bool
  | "str", "str" => some true
  | "int", "int" => some true
  | "tuple", "tuple" => some true
  | "list", "list" => some true
  | "int", "bool" => some false
  | "int", "tuple" => some false
  | "tuple", "int" => some false
  | "list", "tuple" => some false
  | _, _ => none
theorem isiB_kit {a b : String} {r : Bool} (h : isiB a b = some r) : kitB a b = some r := by
  unfold isiB at h
  split at h <;> first | (cases h; decide +kernel) | cases h
/-- isinstance(x, T), T a built-in class -/
def rIsK (n m : String) (b : Bool) : List V → Hp → VK → Prop := fun xs H Q => ∃ x, xs = [x, .ty m] ∧ KindV H x n ∧ Q (.bl b) H
theorem call_is {n m : String} {b : Bool} (h : isiB n m = some b) : CallR X (.builtin "isinstance") (rIsK n m b) := CallR.imp call_isi fun xs H Q q => by
  obtain ⟨x, e, k, q⟩ := q
  exact ⟨x, .ty m, .type n, .type m, b, e, .ty m, k.tyX, kit_ty (isiB_kit h), q⟩
def rLenS : List V → Hp → VK → Prop := fun xs H Q => ∃ z, xs = [.str z] ∧ z.length ≤ sizeLine ∧ Q (.int (z.length : Int)) H
def rLenL : List V → Hp → VK → Prop := fun xs H Q => ∃ a ys, xs = [.ref a] ∧ H a = some (.lst ys) ∧ Q (.int (ys.length : Int)) H
def rLenT : List V → Hp → VK → Prop := fun xs H Q => ∃ a ys, xs = [.ref a] ∧ H a = some (.tup ys) ∧ Q (.int (ys.length : Int)) H
theorem call_lenS : CallR X (.builtin "len") rLenS := CallR.imp call_len fun xs H Q q => by
  obtain ⟨z, e, h, q⟩ := q
  exact ⟨.str z, z.length, e, ⟨h, rfl⟩, q⟩
theorem call_lenL : CallR X (.builtin "len") rLenL := CallR.imp call_len fun xs H Q q => by
  obtain ⟨a, ys, e, h, q⟩ := q
  exact ⟨.ref a, ys.length, e, .inl ⟨ys, SqL.of h, rfl⟩, q⟩
theorem call_lenT : CallR X (.builtin "len") rLenT := CallR.imp call_len fun xs H Q q => by
  obtain ⟨a, ys, e, h, q⟩ := q
  exact ⟨.ref a, ys.length, e, .inr ⟨ys, SqT.of h, rfl⟩, q⟩
/-- all(..), any(..) of a list all of whose items are alike -/
def rAllT : List V → Hp → VK → Prop := fun xs H Q => ∃ a ys, xs = [.ref a] ∧ H a = some (.lst ys) ∧ (∀ y ∈ ys, y = .bl true) ∧ Q (.bl true) H
theorem map_rep : ∀ {ys : List V} {b : Bool}, (∀ y ∈ ys, y = .bl b) → ys = (List.replicate ys.length b).map V.bl
  | [], _, _ => rfl
  | y :: r, b, h => by
    have h1 := h y List.mem_cons_self
    have h2 := map_rep (ys := r) (b := b) fun z hz => h z (List.mem_cons_of_mem _ hz)
    rw [List.length_cons, List.replicate_succ, List.map_cons, ← h2, ← h1]
theorem call_allT (hc : X.calm = true) : CallR X (.builtin "all") rAllT := CallR.imp (cr_all hc) fun xs H Q q => by
  obtain ⟨a, ys, e, h, hy, q⟩ := q
  refine ⟨a, List.replicate ys.length true, e, ?_, ?_⟩
  · rw [← map_rep hy]
    exact SqL.of h
  · rw [List.all_eq_true.mpr fun x hx => ?_]
    · exact q
    · exact (List.mem_replicate.mp hx).2
def rAnyF : List V → Hp → VK → Prop := fun xs H Q => ∃ a ys, xs = [.ref a] ∧ H a = some (.lst ys) ∧ (∀ y ∈ ys, y = .bl false) ∧ Q (.bl false) H
theorem call_anyF (hc : X.calm = true) : CallR X (.builtin "any") rAnyF := CallR.imp (cr_any hc) fun xs H Q q => by
  obtain ⟨a, ys, e, h, hy, q⟩ := q
  refine ⟨a, List.replicate ys.length false, e, ?_, ?_⟩
  · rw [← map_rep hy]
    exact SqL.of h
  · rw [List.any_eq_false.mpr fun x hx => ?_]
    · exact q
    · rw [(List.mem_replicate.mp hx).2]
      decide

/-! ### in: a written tuple, a tuple made there -/
theorem inV_nil {x : V} : inV x [] = false := rfl
theorem inV_cons {x y : V} {ys : List V} : inV x (y :: ys) = (eqV y x || inV x ys) := rfl
theorem eqV_ss {x y : Str} : eqV (.str x) (.str y) = decide (x = y) := by
  show (x == y) = _
  exact Bool.beq_eq_decide_eq x y
theorem eqV_ii {x y : Int} : eqV (.int x) (.int y) = decide (x = y) := by
  show (x == y) = _
  exact Bool.beq_eq_decide_eq x y
theorem inV_strs {x : Str} : ∀ l : List Str, inV (.str x) (l.map V.str) = decide (x ∈ l)
  | [] => by simp [inV]
  | y :: r => by
    rw [List.map_cons, inV_cons, eqV_ss, inV_strs r]
    by_cases h : y = x
    · simp [h]
    · by_cases h2 : x ∈ r
      · simp [h, h2]
      · simp [h, h2, Ne.symm h]
theorem flat_strs : ∀ l : List Str, (l.map V.str).all flatV = true
  | [] => rfl
  | y :: r => by
    rw [List.map_cons, List.all_cons, flat_strs r]
    rfl
def rInK (neg : Bool) (a : Addr) (l : List Str) : R2 := fun x y H Q => ∃ z, x = .str z ∧ y = .ref a ∧ Q (.bl (if neg then !decide (z ∈ l) else decide (z ∈ l))) H
theorem op_inK {a : Addr} {l : List Str} (h : TupK X.K a (l.map V.str)) : OpR X (compareOp .In) (rInK false a l) := OpR.imp op_in_seq fun x y H Q q => by
  obtain ⟨z, rfl, rfl, q⟩ := q
  refine ⟨a, l.map V.str, rfl, .inr (h H), rfl, flat_strs l, ?_⟩
  rw [inV_strs]
  exact q
theorem op_ninK {a : Addr} {l : List Str} (h : TupK X.K a (l.map V.str)) : OpR X (compareOp .NotIn) (rInK true a l) := OpR.imp op_notIn_seq fun x y H Q q => by
  obtain ⟨z, rfl, rfl, q⟩ := q
  refine ⟨a, l.map V.str, rfl, .inr (h H), rfl, flat_strs l, ?_⟩
  rw [inV_strs]
  exact q
/-- in a list -/
def rInL (neg : Bool) : R2 := fun x y H Q => ∃ a xs, y = .ref a ∧ H a = some (.lst xs) ∧ flatV x = true ∧ xs.all flatV = true ∧ Q (.bl (if neg then !inV x xs else inV x xs)) H
theorem op_inL : OpR X (compareOp .In) (rInL false) := OpR.imp op_in_seq fun x y H Q q => by
  obtain ⟨a, xs, e, h, f, g, q⟩ := q
  exact ⟨a, xs, e, .inl (SqL.of h), f, g, q⟩
theorem op_ninL : OpR X (compareOp .NotIn) (rInL true) := OpR.imp op_notIn_seq fun x y H Q q => by
  obtain ⟨a, xs, e, h, f, g, q⟩ := q
  exact ⟨a, xs, e, .inl (SqL.of h), f, g, q⟩
/-! ### the same with the heap behind it told by what it keeps -/
def tUpA (t : TA) : TA := fun σ H Q => ∃ Q0 : List V → Hp → Prop, (∀ xs H1, Q0 xs H1 → Q xs H1) ∧ t σ H Q0
def tUp (t : TE) : TE := fun σ H Q => ∃ Q0 : VK, (∀ x H1, Q0 x H1 → Q x H1) ∧ t σ H Q0
theorem pa_up {es : List Expr} {t : TA} (h : PA X es t) : PA X es (tUpA t) := ⟨fun pos pins s σ H Q I q => by
  obtain ⟨Q0, k, q⟩ := q
  exact thn (h.run pos pins s σ H Q0 I q) fun us s1 hu => by
    obtain ⟨vs, H1, I1, r, q⟩ := hu
    exact ⟨vs, H1, I1, r, k _ _ q⟩⟩
theorem pe_up {e : Expr} {t : TE} (h : PE X e t) : PE X e (tUp t) := ⟨fun pins s σ H Q I q => by
  obtain ⟨Q0, k, q⟩ := q
  exact thn (h.run pins s σ H Q0 I q) fun u s1 hu => by
    obtain ⟨v, H1, I1, r, q⟩ := hu
    exact ⟨v, H1, I1, r, k _ _ q⟩⟩
/-- a new object -/
def New (o : HO) (H : Hp) (Q : VK) : Prop := ∀ p H', H p = none → Same H H' → H' p = some o → Q (.ref p) H'
theorem New.at {o : HO} {H : Hp} {Q : VK} (h : New o H Q) : ∀ p, H p = none → Q (.ref p) (upd H p o) := fun p n => h p _ n (same_new n) upd_same
section
variable {es : List Expr} {e a b : Expr} {te ta tb : TE} {t : TA} {pos : Pos}
/-- (a, b, ..), [a, b, ..] -/
def tTupD (t : TA) : TE := fun σ H Q => t σ H fun xs H1 => xs.length ≤ 1000 ∧ New (.tup xs) H1 Q
def tLstD (t : TA) : TE := fun σ H Q => t σ H fun xs H1 => xs.length ≤ 1000 ∧ New (.lst xs) H1 Q
theorem pe_tupD {x1} (h : PA X es t) : PE X (.Tuple es x1 pos) (tTupD t) := PE.imp (pe_tup (pa_up h)) fun σ H Q q =>
  ⟨_, fun xs H1 z => ⟨Nat.le_of_lt (small1000 z.1), z.2.at⟩, q⟩
theorem pe_lstD (h : PA X es t) : PE X (.List es pos) (tLstD t) := PE.imp (pe_lst (pa_up h)) fun σ H Q q =>
  ⟨_, fun xs H1 z => ⟨Nat.le_of_lt (small1000 z.1), z.2.at⟩, q⟩
/-- x in (a, b, ..) -/
def tInD (neg : Bool) (te : TE) (t : TA) : TE := fun σ H Q => te σ H fun x H1 => t σ H1 fun vs H2 => flatV x = true ∧ vs.all flatV = true ∧ vs.length ≤ 1000 ∧ ∀ H3, Same H2 H3 → Q (.bl (if neg then !inV x vs else inV x vs)) H3
theorem tInD_to {K : PySem.W.Frag} {neg : Bool} {te : TE} {t : TA} {r : R2} (hr : ∀ x y H Q, rIn K neg x y H Q → r x y H Q) (σ : St) (H : Hp) (Q : VK) (q : tInD neg te t σ H Q) : tOp r (tUp te) (tTup (tUpA t)) σ H Q := by
  refine ⟨_, fun x H1 z => ?_, q⟩
  refine ⟨_, fun vs H2 z2 => ?_, z⟩
  obtain ⟨h1, h2, h3, h4⟩ := z2
  exact ⟨Nat.le_of_lt (small1000 h3), fun p hp => hr _ _ _ _ ⟨p, vs, rfl, .inr (.inl (.inl upd_same)), h1, h2, h4 _ (same_new hp)⟩⟩
theorem pe_inD {x1} {p2 : Pos} (he : PE X e te) (h : PA X es t) (hm : behindInMarks .In (.Tuple es x1 p2) = false := by rfl) : PE X (.Compare e [.In] [.Tuple es x1 p2] pos) (tInD false te t) :=
  PE.imp (pe_cmpR op_in_seq (pe_up he) (pe_tup (pa_up h)) hm) (tInD_to (K := X.K) fun _ _ _ _ q => q)
theorem pe_ninD {x1} {p2 : Pos} (he : PE X e te) (h : PA X es t) (hm : behindInMarks .NotIn (.Tuple es x1 p2) = false := by rfl) : PE X (.Compare e [.NotIn] [.Tuple es x1 p2] pos) (tInD true te t) :=
  PE.imp (pe_cmpR op_notIn_seq (pe_up he) (pe_tup (pa_up h)) hm) (tInD_to (K := X.K) fun _ _ _ _ q => q)
/-- a test of an expression that gives True or False -/
theorem pt_e (h : PE X e te) (he : ∀ whole, isTrue e X.env whole = (do let v ← whole; standAt e.pos; holding [v] (truthy v)) := by intro _; rfl) : PT X e (tB te) := pt_val h he
end
/-! slices, sums of sequences -/
def rSlLD : V → Option Int → Option Int → Hp → VK → Prop := fun x lo hi H Q => ∃ a xs, x = .ref a ∧ H a = some (.lst xs) ∧ New (.lst (cutV xs lo hi)) H Q
theorem sl_listD : SlR X rSlLD := SlR.imp sl_list fun x lo hi H Q q => by
  obtain ⟨a, xs, e, h, q⟩ := q
  exact ⟨a, xs, e, SqL.of h, q.at⟩
def rSlTD : V → Option Int → Option Int → Hp → VK → Prop := fun x lo hi H Q => ∃ a xs, x = .ref a ∧ H a = some (.tup xs) ∧ (cutV xs lo hi).length < xs.length ∧ New (.tup (cutV xs lo hi)) H Q
theorem sl_tupD : SlR X rSlTD := SlR.imp sl_tup fun x lo hi H Q q => by
  obtain ⟨a, xs, e, h, hl, q⟩ := q
  refine ⟨a, xs, e, SqT.of h, fun z => ?_, q.at⟩
  unfold cutV at hl
  rw [z.1, z.2, List.drop_zero, Nat.sub_zero, List.take_length] at hl
  exact Nat.lt_irrefl _ hl
def rCatD : R2 := fun x y H Q => ∃ l b xs zs, x = .ref l ∧ y = .ref b ∧ H l = some (.lst xs) ∧ H b = some (.lst zs) ∧ xs.length + zs.length ≤ 1000000 ∧ New (.lst (xs ++ zs)) H Q
theorem size_of {n : Nat} (h : n ≤ 1000000) : n ≤ sizeLine := by rw [sizeLine_eq]; omega
theorem size_lt {n : Nat} (h : n ≤ 1000000) : n < sizeLine := by rw [sizeLine_eq]; omega
theorem op_catD : OpR X (binaryOp .Add) rCatD := OpR.imp op_cat fun x y H Q q => by
  obtain ⟨l, b, xs, zs, e1, e2, h1, h2, hz, q⟩ := q
  exact ⟨l, b, xs, zs, e1, e2, h1, h2, size_of hz, q.at⟩
def rCatTD : R2 := fun x y H Q => ∃ a b xs ys, x = .ref a ∧ y = .ref b ∧ H a = some (.tup xs) ∧ H b = some (.tup ys) ∧ xs ≠ [] ∧ ys ≠ [] ∧ xs.length + ys.length ≤ 1000000 ∧ New (.tup (xs ++ ys)) H Q
theorem op_catTD : OpR X (binaryOp .Add) rCatTD := OpR.imp op_catT fun x y H Q q => by
  obtain ⟨a, b, xs, ys, e1, e2, h1, h2, n1, n2, hz, q⟩ := q
  exact ⟨a, b, xs, ys, e1, e2, SqT.of h1, SqT.of h2, n1, size_of hz, fun z => absurd z n2, fun _ => q.at⟩
def rIxLH : R2 := fun x y H Q => ∃ p xs i v, x = .ref p ∧ y = .int i ∧ H p = some (.lst xs) ∧ atI xs i = some v ∧ Q v H
def rIxTH : R2 := fun x y H Q => ∃ p xs i v, x = .ref p ∧ y = .int i ∧ H p = some (.tup xs) ∧ atI xs i = some v ∧ Q v H
theorem IxR.imp {r r' : R2} (h : IxR X r) (k : ∀ x y H Q, r' x y H Q → r x y H Q) : IxR X r' := fun a b pins s σ H x y v u Q I rx ry q => h a b pins s σ H x y v u Q I rx ry (k _ _ _ _ q)
theorem ix_lst : IxR X rIxLH := IxR.imp ix_list fun x y H Q q => by
  obtain ⟨p, xs, i, v, e1, e2, h, hv, q⟩ := q
  exact ⟨p, xs, i, v, e1, e2, SqL.of h, hv, q⟩
theorem ix_tpl : IxR X rIxTH := IxR.imp ix_tup fun x y H Q q => by
  obtain ⟨p, xs, i, v, e1, e2, h, hv, q⟩ := q
  exact ⟨p, xs, i, v, e1, e2, SqT.of h, hv, q⟩
theorem PG.imp {e : Expr} {t t' : TG} (h : PG X e t) (k : ∀ v σ H Q, t' v σ H Q → t v σ H Q) : PG X e t' := ⟨fun pins s σ H v u Q I r q => h.run pins s σ H v u Q I r (k _ _ _ _ q)⟩
def gTupH (n : Nat) (t : TGs) : TG := fun v σ H Q => ∃ a xs, v = .ref a ∧ H a = some (.tup xs) ∧ xs.length = n ∧ t xs σ H Q
def gLstH (n : Nat) (t : TGs) : TG := fun v σ H Q => ∃ a xs, v = .ref a ∧ H a = some (.lst xs) ∧ xs.length = n ∧ t xs σ H Q
theorem pg_tpl {es : List Expr} {k : Nat} {t : TGs} (n : Nat) {pos : Pos} (hc : X.calm = true) (h : PGs X es t) (hn : (assignEach es X.env).length = n := by rfl) (hst : (assignEach es X.env).findIdx? (·.1) = none := by rfl) : PG X (.Tuple es k pos) (gTupH n t) :=
  PG.imp (pg_tup hc h hn hst) fun v σ H Q q => by
    obtain ⟨a, xs, e, h, q⟩ := q
    exact ⟨a, xs, e, SqT.of h, q⟩
theorem pg_lst {es : List Expr} {k : Nat} {t : TGs} (n : Nat) {pos : Pos} (hc : X.calm = true) (h : PGs X es t) (hn : (assignEach es X.env).length = n := by rfl) (hst : (assignEach es X.env).findIdx? (·.1) = none := by rfl) : PG X (.Tuple es k pos) (gLstH n t) :=
  PG.imp (pg_unl hc h hn hst) fun v σ H Q q => by
    obtain ⟨a, xs, e, h, q⟩ := q
    exact ⟨a, xs, e, SqL.of h, q⟩
theorem PI.imp {tg e : Expr} {t t' : TI} (h : PI X tg e t) (k : ∀ σ H R, t' σ H R → t σ H R) : PI X tg e t' := ⟨fun pins s σ H R I q => h.run pins s σ H R I (k _ _ _ q)⟩
theorem PI.up {e : Expr} {te : TE} (h : PE X e te) : PE X e (tUp te) := pe_up h
def iLst (K : PySem.W.Frag) (tl : TE) : TI := fun σ H R => tl σ H fun x H1 => ∃ a xs, x = .ref a ∧ H1 a = some (.lst xs) ∧ R (Itl K a) H1
def iTpl (K : PySem.W.Frag) (tl : TE) : TI := fun σ H R => tl σ H fun x H1 => ∃ a xs, x = .ref a ∧ H1 a = some (.tup xs) ∧ R (Itt K a) H1
theorem pi_lst {tg e : Expr} {te : TE} (h : PE X e te) : PI X tg e (iLst X.K te) := PI.imp (pi_list (pe_up h)) fun σ H R q => ⟨_, fun x H1 z => by
  obtain ⟨a, xs, e, h, r⟩ := z
  exact ⟨a, e, ⟨xs, SqL.of h⟩, r⟩, q⟩
theorem pi_tpl {tg e : Expr} {te : TE} (h : PE X e te) : PI X tg e (iTpl X.K te) := PI.imp (pi_tup (pe_up h)) fun σ H R q => ⟨_, fun x H1 z => by
  obtain ⟨a, xs, e, h, r⟩ := z
  exact ⟨a, e, ⟨xs, SqT.of h⟩, r⟩, q⟩
theorem wk_lst {K : PySem.W.Frag} {a : Addr} {xs : List V} : Wk (Itl K a) xs.length (fun i => xs.getD i .non) (fun H => H a = some (.lst xs)) := ⟨fun i H h s => wk_list.go i H h (SqL.of s), fun H s => wk_list.st H (SqL.of s), fun i H x H' h s y => wk_list.yl i H x H' h (SqL.of s) y⟩
theorem wk_tpl {K : PySem.W.Frag} {a : Addr} {xs : List V} : Wk (Itt K a) xs.length (fun i => xs.getD i .non) (fun H => H a = some (.tup xs)) := ⟨fun i H h s => wk_tup.go i H h (SqT.of s), fun H s => wk_tup.st H (SqT.of s), fun i H x H' h s y => wk_tup.yl i H x H' h (SqT.of s) y⟩
theorem atI_0 {α : Type} {x : α} {xs : List α} : atI (x :: xs) 0 = some x := atI_nat (xs := x :: xs) (j := 0) rfl
theorem atI_1 {α : Type} {x y : α} {xs : List α} : atI (x :: y :: xs) 1 = some y := atI_nat (xs := x :: y :: xs) (j := 1) rfl
theorem atI_2 {α : Type} {x y z : α} {xs : List α} : atI (x :: y :: z :: xs) 2 = some z := atI_nat (xs := x :: y :: z :: xs) (j := 2) rfl
theorem atI_3 {α : Type} {x y z u : α} {xs : List α} : atI (x :: y :: z :: u :: xs) 3 = some u := atI_nat (xs := x :: y :: z :: u :: xs) (j := 3) rfl
/-! lists that change -/
def Chg (l : Addr) (xs : List V) (H : Hp) (Q : Hp → Prop) : Prop := ∀ H', But l H H' → H' l = some (.lst xs) → Q H'
theorem Chg.at {l : Addr} {xs : List V} {H : Hp} {Q : Hp → Prop} (h : Chg l xs H Q) : Q (upd H l (.lst xs)) := h _ (But.upd (But.refl l H)) upd_same
def rAppD : V → List V → Hp → VK → Prop := fun x vs H Q => ∃ l xs y, x = .ref l ∧ vs = [y] ∧ H l = some (.lst xs) ∧ xs.length ≤ 1000000 ∧ Chg l (xs ++ [y]) H (Q .non)
theorem mt_appD : MtR X "list.append" rAppD := MtR.imp mt_append fun x vs H Q q => by
  obtain ⟨l, xs, y, e1, e2, h, hz, q⟩ := q
  exact ⟨l, xs, y, e1, e2, h, size_lt hz, q.at⟩
def rExtD : V → List V → Hp → VK → Prop := fun x vs H Q => ∃ l b xs zs, x = .ref l ∧ vs = [.ref b] ∧ H l = some (.lst xs) ∧ H b = some (.lst zs) ∧ xs.length + zs.length ≤ 1000000 ∧ Chg l (xs ++ zs) H (Q .non)
theorem mt_extD : MtR X "list.extend" rExtD := MtR.imp mt_extend fun x vs H Q q => by
  obtain ⟨l, b, xs, zs, e1, e2, h1, h2, hz, q⟩ := q
  exact ⟨l, b, xs, zs, e1, e2, h1, h2, size_of hz, q.at⟩
/-- the last one is taken off -/
def rPopD : V → List V → Hp → VK → Prop := fun x vs H Q => ∃ l xs y, x = .ref l ∧ vs = [] ∧ H l = some (.lst (xs ++ [y])) ∧ Chg l xs H (Q y)
theorem mt_popD : MtR X "list.pop" rPopD := MtR.imp mt_pop fun x vs H Q q => by
  obtain ⟨l, xs, y, e1, e2, h, q⟩ := q
  refine ⟨l, xs ++ [y], y, e1, e2, h, by simp, ?_⟩
  rw [List.dropLast_concat]
  exact q.at
def rPopAtD : V → List V → Hp → VK → Prop := fun x vs H Q => ∃ l xs k y, x = .ref l ∧ vs = [.int ((k : Nat) : Int)] ∧ H l = some (.lst xs) ∧ k < 1000000 ∧ xs[k]? = some y ∧ Chg l (xs.eraseIdx k) H (Q y)
theorem mt_popAtD : MtR X "list.pop" rPopAtD := MtR.imp mt_popAt fun x vs H Q q => by
  obtain ⟨l, xs, k, y, e1, e2, h, hk, hy, q⟩ := q
  have hlt : k < xs.length := (List.getElem?_eq_some_iff.mp hy).1
  refine ⟨l, xs, (k : Int), k, y, e1, e2, h, by omega, by omega, ?_, hy, q.at⟩
  simp only [seqIndex?]
  split <;> first | omega | (simp; omega) | simp_all
def rListD : List V → Hp → VK → Prop := fun xs H Q => ∃ p ys, xs = [.ref p] ∧ H p = some (.lst ys) ∧ New (.lst ys) H Q
theorem call_listD : CallR X (.type "list") rListD := CallR.imp call_list_of fun xs H Q q => by
  obtain ⟨p, ys, e, h, q⟩ := q
  exact ⟨p, ys, e, .inl (SqL.of h), q.at⟩
def rListTD : List V → Hp → VK → Prop := fun xs H Q => ∃ p ys, xs = [.ref p] ∧ H p = some (.tup ys) ∧ New (.lst ys) H Q
theorem call_listTD : CallR X (.type "list") rListTD := CallR.imp call_list_of fun xs H Q q => by
  obtain ⟨p, ys, e, h, q⟩ := q
  exact ⟨p, ys, e, .inr (SqT.of h), q.at⟩
def rTupleD : List V → Hp → VK → Prop := fun xs H Q => ∃ p ys, xs = [.ref p] ∧ H p = some (.lst ys) ∧ New (.tup ys) H Q
theorem call_tupleD : CallR X (.type "tuple") rTupleD := CallR.imp call_tuple_of fun xs H Q q => by
  obtain ⟨p, ys, e, h, q⟩ := q
  exact ⟨p, ys, e, .inl ⟨SqL.of h, q.at⟩⟩
theorem same_but {a : Addr} {H0 H H' : Hp} (s : Same H0 H) (n : H0 a = none) (b : But a H H') : Same H0 H' := fun c o q => b c o (ne_of_none q n) (s c o q)
end

/-! ### texts -/
theorem ofString_inj {a b : String} : (Str.ofString a = Str.ofString b) = (a = b) := by
  apply propext
  constructor
  · intro h
    have h1 : tl (Str.ofString a) = tl (Str.ofString b) := by rw [h]
    rw [tl_ofString, tl_ofString] at h1
    have h2 : a.toList = b.toList := by
      refine List.map_inj_right (f := Char.toNat) (fun x y e => ?_) |>.mp h1
      exact Char.ext (UInt32.toNat_inj.mp e)
    exact String.toList_inj.mp h2
  · intro h
    rw [h]
end K37
set_option maxHeartbeats 4000000
/-! K37S: a starred name among the targets: (a, .., *r) = a tuple or a list, the star at the place k, m names behind it -/
namespace K37
open PySem L2 TL
open PyProof.Rows hiding St

section
variable {prog : Program} {w : World} {A : Around} {I ax : Addr} {items : Array Value}
/-- a list's, a tuple's iterator that stands at k already -/
theorem ws_list (hh : A.handled = none) (hne : ax ≠ I) (k : Nat) (hk : k ≤ items.size) :
    WalksS prog w A I [I, ax] [I] (fun a b => b = a) (items.size - k) (fun i v => items[k + i]? = some v) (fun i s => s.heap.IsListIter I ax (k + i) ∧ s.heap.IsList ax items) where
  sub := fun b hb => by simp at hb; simp [hb]
  grefl := fun _ => rfl
  gtrans := fun _ _ _ h1 h2 => h2.trans h1
  frame := fun _ s h' tk st _ q => ⟨st.1.at fun o e => q I (by simp) o e, st.2.at fun o e => q ax (by simp) o e⟩
  item := fun i s Q E hi st hQ => by
    have hlt : k + i < items.size := by omega
    refine wpAny_pyNext_list_item st.1 st.2 (x := items[k + i]) (by simp [hlt]) fun h' hit' hs' => ?_
    exact hQ _ { s with heap := h' } (by simp [hlt]) ⟨hit', st.2.extBut hs'.extBut hne⟩ ⟨fun b o hb e => hs'.extBut b o (fun h => hb (by simp [h])) e, rfl, rfl, rfl, Nat.le_refl _⟩
  done := fun s Q E st hQ => by
    refine wpAny_pyNext_list_end hh st.1 st.2 (by have : k + (items.size - k) = items.size := by omega
                                                  rw [this]; simp) fun h' he' => ?_
    exact hQ { s with heap := h' } ⟨fun b o hb e => he' b o (fun h => hb (by simp [h])) e, rfl, rfl, rfl, Nat.le_refl _⟩
  self := fun _ _ _ _ st hQ => wpAny_pyIter_listiter st.1 hQ
theorem ws_tuple (hh : A.handled = none) (hne : ax ≠ I) (k : Nat) (hk : k ≤ items.size) :
    WalksS prog w A I [I, ax] [I] (fun a b => b = a) (items.size - k) (fun i v => items[k + i]? = some v) (fun i s => s.heap.IsTupleIter I ax (k + i) ∧ s.heap.IsTuple ax items) where
  sub := fun b hb => by simp at hb; simp [hb]
  grefl := fun _ => rfl
  gtrans := fun _ _ _ h1 h2 => h2.trans h1
  frame := fun _ s h' tk st _ q => ⟨st.1.at fun o e => q I (by simp) o e, st.2.at fun o e => q ax (by simp) o e⟩
  item := fun i s Q E hi st hQ => by
    have hlt : k + i < items.size := by omega
    refine wpAny_pyNext_tuple_item st.1 st.2 (x := items[k + i]) (by simp [hlt]) fun h' hit' hs' => ?_
    exact hQ _ { s with heap := h' } (by simp [hlt]) ⟨hit', st.2.extBut hs'.extBut hne⟩ ⟨fun b o hb e => hs'.extBut b o (fun h => hb (by simp [h])) e, rfl, rfl, rfl, Nat.le_refl _⟩
  done := fun s Q E st hQ => by
    refine wpAny_pyNext_tuple_end hh st.1 st.2 (by have : k + (items.size - k) = items.size := by omega
                                                   rw [this]; simp) fun h' he' => ?_
    exact hQ { s with heap := h' } ⟨fun b o hb e => he' b o (fun h => hb (by simp [h])) e, rfl, rfl, rfl, Nat.le_refl _⟩
  self := fun _ _ _ _ st hQ => wpAny_pyIter_tupleiter st.1 hQ
/-- m items are drawn -/
theorem draw_ws {fp wr : List Addr} {n : Nat} {f : Nat → Value} {St : Nat → Shared → Prop} (W : WalksS prog w A I fp wr (fun a b => b = a) n (fun i v => v = f i) St) :
    ∀ (m i : Nat) (s : Shared) (Q : List Value → Shared → Prop) (E : Value → Shared → Prop), i + m ≤ n → St i s → (∀ s', St (i + m) s' → Moved wr (fun a b => b = a) s s' → Q ((List.range m).map fun j => f (i + j)) s') → wpAny (model prog w) A (draw (.ref I) m) Q E s
  | 0, i, s, Q, E, _, st, hQ => by
    show wpAny _ _ (pure []) Q E s
    exact wpAny_pure (hQ s st ⟨fun _ _ _ e => e, rfl, rfl, rfl, Nat.le_refl _⟩)
  | m + 1, i, s, Q, E, h, st, hQ => by
    show wpAny _ _ (pyNext (.ref I) >>= _) Q E s
    refine wpAny_bind (W.item i s _ E (by omega) st fun v s1 hv st1 mv1 => ?_)
    subst hv
    refine wpAny_bind (wpAny_holding (draw_ws W m (i + 1) s1 _ E (by omega) st1 fun s2 st2 mv2 => wpAny_pure ?_))
    have e : (List.range (m + 1)).map (fun j => f (i + j)) = f i :: (List.range m).map fun j => f (i + 1 + j) := by
      rw [List.range_succ_eq_map, List.map_cons, List.map_map, Nat.add_zero]
      congr 1
      refine List.map_congr_left fun j _ => ?_
      show f (i + (j + 1)) = f (i + 1 + j)
      congr 1
      omega
    have q := hQ s2 (by rw [show i + (m + 1) = i + 1 + m by omega]; exact st2) ⟨fun b o hb e => mv2.heap b o hb (mv1.heap b o hb e), mv2.gens.trans mv1.gens, mv2.drawn.trans mv1.drawn, mv2.os.trans mv1.os, Nat.le_trans mv1.toks mv2.toks⟩
    rw [e] at q
    exact q
end

section
variable {prog : Program} {w : World} {A : Around} {E : Value → Shared → Prop} {s : Shared}
theorem range_items (items : Array Value) (i m : Nat) (h : i + m ≤ items.size) : ((List.range m).map fun j => items.getD (i + j) .none) = (items.toList.drop i).take m := by
  refine List.ext_getElem? fun j => ?_
  by_cases hj : j < m
  · have h1 : i + j < items.size := by omega
    simp [hj, h1, List.getElem?_take, List.getElem?_drop]
  · simp [hj, List.getElem?_take]
theorem items_of {items acc : Array Value} {k : Nat} (hk : k ≤ items.size) (h : ItemsOf (fun i v => items[k + i]? = some v) acc (items.size - k)) : acc.toList = items.toList.drop k := by
  refine List.ext_getElem? fun j => ?_
  rw [List.getElem?_drop]
  by_cases hj : j < items.size - k
  · have h1 : j < acc.size := by rw [h.1]; exact hj
    have h2 := h.2 j acc[j] (by simp [h1])
    simp [h1, h2]
  · have h1 : ¬ j < acc.size := by rw [h.1]; exact hj
    have h2 : ¬ k + j < items.size := by omega
    simp [h1, h2]
/-- what is drawn, what is collected, the star's new list -/
theorem star_tail {I ax : Addr} {T : String} {items : Array Value} {k n : Nat} {Q : List Value → Shared → Prop} {St : Nat → Shared → Prop}
    (hT : T = "str_ascii_iterator" ∨ T = "str_iterator" ∨ T = "list_iterator" ∨ T = "tuple_iterator")
    (W : WalksS prog w A I [I, ax] [I] (fun a b => b = a) items.size (fun i v => items[0 + i]? = some v) St)
    (Wk : WalksS prog w A.in1 I [I, ax] [I] (fun a b => b = a) (items.size - k) (fun i v => items[k + i]? = some v) fun i => St (k + i))
    (ty : ∀ i s, St i s → s.TypeIs (.ref I) T) (hlt : ∀ i s, St i s → ∀ b ∈ [I, ax], b < s.heap.objs.size)
    (hn : n ≤ items.size + 1) (hk : k < n) (hz : items.size ≤ sizeLine) (st : St 0 s)
    (hQ : ∀ s2 : Shared, (∀ b o, b ≠ I → s.heap.get? b = some o → s2.heap.get? b = some o) → s2.gens = s.gens → s2.os = s.os →
      Q (items.toList.take k ++ [.ref s2.heap.objs.size] ++ items.toList.drop (items.size - (n - 1 - k))) { s2 with heap := s2.heap.push { cls := .type "list", data := .seq ((items.toList.drop k).take (items.size - (n - 1))).toArray } }) :
    wpAny (model prog w) A (do
      let first ← holding [.ref I] (draw (.ref I) k)
      if first.length < k then
        rule "unpack.star.too-few-before"
        raiseError "ValueError" s!"not enough values to unpack (expected at least {n - 1}, got {first.length})"
      let rest ← holding first (collect (.ref I))
      let after := n - 1 - k
      if rest.length < after then
        rule "unpack.star.too-few"
        raiseError "ValueError" s!"not enough values to unpack (expected at least {n - 1}, got {k + rest.length})"
      let mid := rest.length - after
      return first ++ [← newList (rest.take mid)] ++ rest.drop mid) Q E s := by
  have W' : WalksS prog w A I [I, ax] [I] (fun a b => b = a) items.size (fun i v => v = items.getD i .none) St :=
    ⟨W.sub, W.grefl, W.gtrans, W.frame, fun i s Q E hi st hq => W.item i s Q E hi st fun v s' hv st' mv => hq v s' (by
      rw [Nat.zero_add] at hv
      simp [hi] at hv
      simp [hi, hv]) st' mv, W.done, W.self⟩
  refine wpAny_bind (wpAny_holding (draw_ws W' k 0 s _ E (by omega) st fun s1 st1 mv1 => ?_))
  rw [range_items items 0 k (by omega), List.drop_zero]
  have hl1 : (items.toList.take k).length = k := by
    rw [List.length_take]
    simp
    omega
  rw [if_neg (by rw [hl1]; exact Nat.lt_irrefl _)]
  rw [Nat.zero_add] at st1
  refine wpAny_bind (wpAny_holding (wpAny_collect_iter hT Wk (fun i s h => ty _ s h) (by rw [Nat.add_zero]; exact st1) (hlt _ _ st1) (by simp) (fun s2 acc mv2 hacc => ?_) (Nat.le_trans (Nat.sub_le _ _) hz)))
  rw [items_of (by omega) hacc]
  have hl2 : (items.toList.drop k).length = items.size - k := by
    rw [List.length_drop]
    simp
  rw [if_neg (by rw [hl2]; omega)]
  refine wpAny_bind (wpAny_newObj_type ?_ (by
    show ((items.toList.drop k).take _).length ≤ sizeLine
    rw [List.length_take, hl2]
    omega))
  have e1 : (items.toList.drop k).length - (n - 1 - k) = items.size - (n - 1) := by rw [hl2]; omega
  have e2 : (items.toList.drop k).drop (items.size - (n - 1)) = items.toList.drop (items.size - (n - 1 - k)) := by
    rw [List.drop_drop]
    congr 1
    omega
  rw [e1, e2]
  exact wpAny_pure (hQ s2 (fun b o hb e => mv2.heap b o (by simp [hb]) (mv1.heap b o (by simp [hb]) e)) (mv2.gens.trans mv1.gens) (mv2.os.trans mv1.os))
end
section
variable {X : Cx} {pos : Pos}
/-- a, .., *r, .. = a tuple or a list: n targets, the star the one with the number k -/
def gStar (K : PySem.W.Frag) (n k : Nat) (t : TGs) : TG := fun v σ H Q => ∃ a xs, v = .ref a ∧ (SqT K H a xs ∨ SqL K H a xs) ∧ n ≤ xs.length + 1 ∧ k < n ∧
  ∀ p H', H p = none → Same H H' → H' p = some (.lst ((xs.drop k).take (xs.length - (n - 1)))) → t (xs.take k ++ [.ref p] ++ xs.drop (xs.length - (n - 1 - k))) σ H' Q
theorem pg_star {es es' : List Expr} {kk k : Nat} {t : TGs} {n : Nat} (hc : X.calm = true) (h : PGs X es' t) (he : (assignEach es X.env).map (·.2) = (assignEach es' X.env).map (·.2) := by rfl)
    (hn : (assignEach es X.env).length = n := by rfl) (hst : (assignEach es X.env).findIdx? (·.1) = some k := by rfl) : PG X (.Tuple es kk pos) (gStar X.K n k t) := by
  refine ⟨fun pins s σ H v u Q I r hw => ?_⟩
  obtain ⟨a, xs, e1, hq, hl, hk, hw⟩ := hw
  subst e1
  cases r
  rw [PyProof.Rows.assign_Tuple]
  refine wpAny_bind (wpAny_standAt ?_)
  unfold unpack
  rw [hn, hst, he]
  have hh := I.ok.hd hc
  have fin : ∀ (its : List Value) (rv : Vals xs its) (s2 : Shared), (∀ b o, s.heap.get? b = some o → s2.heap.get? b = some o) → s2.gens = s.gens → s2.os = s.os →
      wpAny (model X.prog X.w) X.A (assignInOrder ((assignEach es' X.env).map (·.2)) (its.take k ++ [.ref s2.heap.objs.size] ++ its.drop (its.length - (n - 1 - k)))) (fun _ s' => ∃ σ' H', Inv X pins σ' H' s' ∧ Q σ' H') X.xe
        { s2 with heap := s2.heap.push { cls := .type "list", data := .seq ((its.drop k).take (its.length - (n - 1))).toArray } } := by
    intro its rv s2 k2 g2 o2
    obtain ⟨h2, g', d2, t2, os2⟩ := s2
    have g2' : g' = s.gens := g2
    have o2' : os2 = s.os := o2
    subst g2' o2'
    have I2 : Inv X pins σ H ⟨h2, s.gens, d2, t2, s.os⟩ := I.call' (ch := []) rfl (Un.kept k2) (I.hok.kept k2) I.bare (fun b hb => absurd hb (by simp))
    have hf : H h2.objs.size = none := I2.hok.fresh (Nat.le_refl _)
    have hlen := rv.length
    have rm : Vals ((xs.drop k).take (xs.length - (n - 1))) ((its.drop k).take (its.length - (n - 1))) := by
      rw [← hlen]
      exact (rv.drop k).take _
    have I3 : Inv X pins σ (upd H h2.objs.size (.lst ((xs.drop k).take (xs.length - (n - 1))))) ⟨h2.push { cls := .type "list", data := .seq ((its.drop k).take (its.length - (n - 1))).toArray }, s.gens, d2, t2, s.os⟩ := by
      refine I2.laid (t' := t2) (fun b o e => Heap.get?_push_of_some _ e) (Nat.le_refl _) ⟨?_, _, 0, rm, Heap.get?_push_size _ rfl⟩
      have hz : xs.length ≤ sizeLine := by
        rcases hq with hq | hq
        · obtain ⟨_, _, _, z⟩ := I.tuple hq
          exact z
        · obtain ⟨_, _, _, z⟩ := I.list hq
          exact z
      rw [List.length_take, List.length_drop]
      omega
    refine h.run pins _ σ _ _ _ Q I3 ?_ (hw _ _ hf (same_new hf) upd_same)
    rw [← hlen]
    exact ((rv.take k).append (.cons (show RelV (.ref h2.objs.size) (.ref h2.objs.size) from rfl) .nil)).append (rv.drop _)
  rcases hq with hq | hq
  · obtain ⟨its, rv, ht, hz⟩ := I.tuple hq
    have hlt : a ≠ s.heap.objs.size := by obtain ⟨o, ho, _⟩ := ht; exact Nat.ne_of_lt (Heap.lt_size ho)
    have hlen := rv.length
    have hsz : its.toArray.size = xs.length := by rw [List.size_toArray, hlen]
    refine wpAny_bind (wpAny_holding ?_)
    unfold unpackItems
    refine wpAny_bind ?_
    unfold notIterableAtAll
    refine wpAny_bind (wpAny_specialOf ht.typeIs PySem.F.slot_tuple_iter.lookup (wpAny_pure ?_))
    simp only [Bool.false_eq_true, if_false]
    refine wpAny_bind (wpAny_holding (wpAny_pyIter_tuple (show s.heap.IsTuple a its.toArray from ht) ?_))
    refine star_tail (ax := a) (items := its.toArray) (St := fun i s' => s'.heap.IsTupleIter s.heap.objs.size a i ∧ s'.heap.IsTuple a its.toArray) (.inr (.inr (.inr rfl))) (by
        have z := ws_tuple (prog := X.prog) (w := X.w) (items := its.toArray) hh hlt 0 (Nat.zero_le _)
        simp only [Nat.zero_add, Nat.sub_zero] at z ⊢
        exact z) (ws_tuple (A := X.A.in1) (items := its.toArray) hh hlt k (by omega)) (fun i s' st => st.1.typeIs) (fun i s' st b hb => ?_) (by omega) hk (by omega) ⟨⟨_, Heap.get?_push_size _ rfl, rfl, rfl⟩, ?_⟩ fun s2 k2 g2 o2 => ?_
    · simp at hb
      rcases hb with e | e
      · obtain ⟨o, ho, _⟩ := st.1
        rw [e]
        exact Heap.lt_size ho
      · obtain ⟨o, ho, _⟩ := st.2
        rw [e]
        exact Heap.lt_size ho
    · obtain ⟨o, ho, q⟩ := ht
      exact ⟨o, Heap.get?_push_of_some _ ho, q⟩
    · have q := fin its rv s2 (fun b o e => k2 b o (Nat.ne_of_lt (Heap.lt_size e)) (Heap.get?_push_of_some _ e)) g2 o2
      rw [hsz, ← hlen] at *
      simpa using q
  · obtain ⟨its, rv, pl, hz⟩ := I.list hq
    have ht : s.heap.IsList a its.toArray := by
      obtain ⟨o, m, e, c, d, q⟩ := pl
      exact ⟨o, e, c, m, q⟩
    have hlt : a ≠ s.heap.objs.size := by obtain ⟨o, ho, _⟩ := ht; exact Nat.ne_of_lt (Heap.lt_size ho)
    have hlen := rv.length
    have hsz : its.toArray.size = xs.length := by rw [List.size_toArray, hlen]
    have hty : s.TypeIs (.ref a) "list" := by obtain ⟨o, ho, c, _⟩ := ht; exact ⟨o, ho, c⟩
    refine wpAny_bind (wpAny_holding ?_)
    unfold unpackItems
    refine wpAny_bind ?_
    unfold notIterableAtAll
    refine wpAny_bind (wpAny_specialOf hty PySem.F.slot_list_iter.lookup (wpAny_pure ?_))
    simp only [Bool.false_eq_true, if_false]
    refine wpAny_bind (wpAny_holding (wpAny_pyIter_list ht ?_))
    refine star_tail (ax := a) (items := its.toArray) (St := fun i s' => s'.heap.IsListIter s.heap.objs.size a i ∧ s'.heap.IsList a its.toArray) (.inr (.inr (.inl rfl))) (by
        have z := ws_list (prog := X.prog) (w := X.w) (items := its.toArray) hh hlt 0 (Nat.zero_le _)
        simp only [Nat.zero_add, Nat.sub_zero] at z ⊢
        exact z) (ws_list (A := X.A.in1) (items := its.toArray) hh hlt k (by omega)) (fun i s' st => st.1.typeIs) (fun i s' st b hb => ?_) (by omega) hk (by omega) ⟨⟨_, Heap.get?_push_size _ rfl, rfl, rfl⟩, ?_⟩ fun s2 k2 g2 o2 => ?_
    · simp at hb
      rcases hb with e | e
      · obtain ⟨o, ho, _⟩ := st.1
        rw [e]
        exact Heap.lt_size ho
      · obtain ⟨o, ho, _⟩ := st.2
        rw [e]
        exact Heap.lt_size ho
    · obtain ⟨o, ho, q⟩ := ht
      exact ⟨o, Heap.get?_push_of_some _ ho, q⟩
    · have q := fin its rv s2 (fun b o e => k2 b o (Nat.ne_of_lt (Heap.lt_size e)) (Heap.get?_push_of_some _ e)) g2 o2
      rw [hsz, ← hlen] at *
      simpa using q
/-- the same over what is tracked -/
def gStarH (n k : Nat) (t : TGs) : TG := fun v σ H Q => ∃ a xs, v = .ref a ∧ (H a = some (.tup xs) ∨ H a = some (.lst xs)) ∧ n ≤ xs.length + 1 ∧ k < n ∧
  ∀ p H', H p = none → Same H H' → H' p = some (.lst ((xs.drop k).take (xs.length - (n - 1)))) → t (xs.take k ++ [.ref p] ++ xs.drop (xs.length - (n - 1 - k))) σ H' Q
theorem pg_str {es es' : List Expr} {kk : Nat} {t : TGs} (n k : Nat) (hc : X.calm = true) (h : PGs X es' t) (he : (assignEach es X.env).map (·.2) = (assignEach es' X.env).map (·.2) := by rfl)
    (hn : (assignEach es X.env).length = n := by rfl) (hst : (assignEach es X.env).findIdx? (·.1) = some k := by rfl) : PG X (.Tuple es kk pos) (gStarH n k t) :=
  PG.imp (pg_star hc h he hn hst) fun v σ H Q q => by
    obtain ⟨a, xs, e, h, q⟩ := q
    exact ⟨a, xs, e, h.elim (fun z => .inl (SqT.of z)) (fun z => .inr (SqL.of z)), q⟩
/-- a, *r; a, b, *r; *r, a -/
def gStar1 (t : TGs) : TG := fun v σ H Q => ∃ a x xs, v = .ref a ∧ (H a = some (.tup (x :: xs)) ∨ H a = some (.lst (x :: xs))) ∧ ∀ p H', H p = none → Same H H' → H' p = some (.lst xs) → t [x, .ref p] σ H' Q
def gStar2 (t : TGs) : TG := fun v σ H Q => ∃ a x y xs, v = .ref a ∧ (H a = some (.tup (x :: y :: xs)) ∨ H a = some (.lst (x :: y :: xs))) ∧ ∀ p H', H p = none → Same H H' → H' p = some (.lst xs) → t [x, y, .ref p] σ H' Q
def gStar0 (t : TGs) : TG := fun v σ H Q => ∃ a x xs, v = .ref a ∧ (H a = some (.tup (xs ++ [x])) ∨ H a = some (.lst (xs ++ [x]))) ∧ ∀ p H', H p = none → Same H H' → H' p = some (.lst xs) → t [.ref p, x] σ H' Q
theorem pg_str1 {es es' : List Expr} {kk : Nat} {t : TGs} (hc : X.calm = true) (h : PGs X es' t) (he : (assignEach es X.env).map (·.2) = (assignEach es' X.env).map (·.2) := by rfl)
    (hn : (assignEach es X.env).length = 2 := by rfl) (hst : (assignEach es X.env).findIdx? (·.1) = some 1 := by rfl) : PG X (.Tuple es kk pos) (gStar1 t) :=
  PG.imp (pg_str 2 1 hc h he hn hst) fun v σ H Q q => by
    obtain ⟨a, x, xs, e, h, q⟩ := q
    refine ⟨a, x :: xs, e, h, by simp, by decide, fun p H' n s l => ?_⟩
    have z := q p H' n s (by simpa using l)
    simpa using z
theorem pg_str2 {es es' : List Expr} {kk : Nat} {t : TGs} (hc : X.calm = true) (h : PGs X es' t) (he : (assignEach es X.env).map (·.2) = (assignEach es' X.env).map (·.2) := by rfl)
    (hn : (assignEach es X.env).length = 3 := by rfl) (hst : (assignEach es X.env).findIdx? (·.1) = some 2 := by rfl) : PG X (.Tuple es kk pos) (gStar2 t) :=
  PG.imp (pg_str 3 2 hc h he hn hst) fun v σ H Q q => by
    obtain ⟨a, x, y, xs, e, h, q⟩ := q
    refine ⟨a, x :: y :: xs, e, h, by simp, by decide, fun p H' n s l => ?_⟩
    have z := q p H' n s (by simpa using l)
    simpa using z
theorem pg_str0 {es es' : List Expr} {kk : Nat} {t : TGs} (hc : X.calm = true) (h : PGs X es' t) (he : (assignEach es X.env).map (·.2) = (assignEach es' X.env).map (·.2) := by rfl)
    (hn : (assignEach es X.env).length = 2 := by rfl) (hst : (assignEach es X.env).findIdx? (·.1) = some 0 := by rfl) : PG X (.Tuple es kk pos) (gStar0 t) :=
  PG.imp (pg_str 2 0 hc h he hn hst) fun v σ H Q q => by
    obtain ⟨a, x, xs, e, h, q⟩ := q
    refine ⟨a, xs ++ [x], e, h, by simp, by decide, fun p H' n s l => ?_⟩
    have z := q p H' n s (by simpa using l)
    simpa using z
end
end K37
set_option maxHeartbeats 4000000
/-! K37T: what the module's names hold; more rules by kinds; texts by their signs -/
namespace K37
open PySem L2 TL
open PyProof.Rows hiding St

def sortsL : List Str := ["input", "wire", "filter", "bus", "kept"]
def edgesL : List Str := ["rise", "fall"]
structure TX (K : PySem.W.Frag) (mg : Str → Option Value) : Prop where
  len : mg "len" = none
  isinstance : mg "isinstance" = none
  all : mg "all" = none
  any : mg "any" = none
  sum : mg "sum" = none
  int : mg "int" = none
  str : mg "str" = none
  list : mg "list" = none
  tuple : mg "tuple" = none
  bool : mg "bool" = none
  range : mg "range" = none
  zip : mg "zip" = none
  enumerate : mg "enumerate" = none
  reversed : mg "reversed" = none
  repr : mg "repr" = none
  max : mg "max" = none
  min : mg "min" = none
  c_WIDEST : GV mg "WIDEST" (.int 8)
  c_MOST_TUPLES : GV mg "MOST_TUPLES" (.int 60)
  c_DEEPEST_terms : GV mg "DEEPEST_terms" (.int 10)
  c_LONGEST_NAME : GV mg "LONGEST_NAME" (.int 8)
  c_FIELDS : GV mg "FIELDS" (.int 4)
  c_MOST_SIGNALS : GV mg "MOST_SIGNALS" (.int 24)
  c_MOST_WIRES : GV mg "MOST_WIRES" (.int 8)
  c_MOST_BLOCKS : GV mg "MOST_BLOCKS" (.int 6)
  c_MOST_STATEMENTS : GV mg "MOST_STATEMENTS" (.int 20)
  c_DEEPEST_clashes : GV mg "DEEPEST_clashes" (.int 4)
  c_LEAST_DRIVERS : GV mg "LEAST_DRIVERS" (.int 2)
  c_MOST_DRIVERS : GV mg "MOST_DRIVERS" (.int 4)
  c_SIGNS : GV mg "SIGNS" (.str "01xz")
  c_LETTERS : GV mg "LETTERS" (.str "abcdefghijklmnopqrstuvwxyz")
  c_FIGURES : GV mg "FIGURES" (.str "0123456789")
  c_MARK : GV mg "MARK" (.str "'")
  c_BETWEEN : GV mg "BETWEEN" (.str ", ")
  c_STEP : GV mg "STEP" (.str "  ")
  c_WIDTHS : GV mg "WIDTHS" (.str "12345678")
  k_WORDS : ∃ a, GV mg "WORDS" (.ref a) ∧ TupK K a (wordsL.map V.str)
  k_OTHER_WORDS : ∃ a, GV mg "OTHER_WORDS" (.ref a) ∧ TupK K a (otherL.map V.str)
  k_SORTS : ∃ a, GV mg "SORTS" (.ref a) ∧ TupK K a (sortsL.map V.str)
  k_EDGES : ∃ a, GV mg "EDGES" (.ref a) ∧ TupK K a (edgesL.map V.str)

section
variable {X : Cx} {e a b c d : Expr} {es : List Expr} {te ta tb tc td : TE} {t : TA} {pos : Pos}
theorem PT.imp {e : Expr} {t t' : TT} (h : PT X e t) (k : ∀ σ H Q, t' σ H Q → t σ H Q) : PT X e t' := ⟨fun pins s σ H Q I q => h.run pins s σ H Q I (k _ _ _ q)⟩
theorem pt_inD {x1} {p2 : Pos} (he : PE X e te) (h : PA X es t) (hm : behindInMarks .In (.Tuple es x1 p2) = false := by rfl) : PT X (.Compare e [.In] [.Tuple es x1 p2] pos) (tTest (tInD false te t)) :=
  PT.imp (pt_cmpR op_in_seq (pe_up he) (pe_tup (pa_up h)) hm) fun σ H Q q => tInD_to (K := X.K) (fun _ _ _ _ q => q) σ H _ q
theorem pt_ninD {x1} {p2 : Pos} (he : PE X e te) (h : PA X es t) (hm : behindInMarks .NotIn (.Tuple es x1 p2) = false := by rfl) : PT X (.Compare e [.NotIn] [.Tuple es x1 p2] pos) (tTest (tInD true te t)) :=
  PT.imp (pt_cmpR op_notIn_seq (pe_up he) (pe_tup (pa_up h)) hm) fun σ H Q q => tInD_to (K := X.K) (fun _ _ _ _ q => q) σ H _ q
/-- a < b <= c < d -/
def tChain3 (r r' r'' : R2) (ta tb tc td : TE) : TE := fun σ H Q => ta σ H fun x H1 => tb σ H1 fun y H2 => r x y H2 fun z H3 => ∃ k, z = .bl k ∧
  (if k = true then tc σ H3 fun w' H4 => r' y w' H4 fun z' H5 => ∃ k', z' = .bl k' ∧ (if k' = true then td σ H5 fun v' H6 => r'' w' v' H6 Q else Q (.bl false) H5) else Q (.bl false) H3)
theorem pe_chain3 {op op' op'' : CmpOp} {r r' r'' : R2} (ho : OpR X (compareOp op) r) (ho' : OpR X (compareOp op') r') (ho'' : OpR X (compareOp op'') r'') (ha : PE X a ta) (hb : PE X b tb) (hc : PE X c tc) (hd : PE X d td)
    (hm : lastMarks [op, op', op''] [b, c, d] = false := by with_unfolding_all rfl) : PE X (.Compare a [op, op', op''] [b, c, d] pos) (tChain3 r r' r'' ta tb tc td) := by
  refine ⟨fun pins s σ H Q I h => ?_⟩
  refine Compare_chain (thn (ha.run pins s σ H _ I h) fun v s1 h1 => ?_) hm
  obtain ⟨x, H1, I1, r1, q1⟩ := h1
  refine chain_link (thn (hb.run pins s1 σ H1 _ I1 q1) fun u s2 h2 => ?_)
  obtain ⟨y, H2, I2, r2, q2⟩ := h2
  refine thn (ho pins s2 σ H2 x y v u _ I2 r1 r2 q2) fun d3 s3 h3 => ?_
  obtain ⟨z, H3, I3, r3, k, e, q3⟩ := h3
  subst e
  cases r3
  refine wpAny_truthy_bool ?_
  cases k with
  | false => exact ite_ff ⟨.bl false, H3, I3, rfl, q3⟩
  | true =>
    refine ite_tt (chain_link (thn (hc.run pins s3 σ H3 _ I3 q3) fun w' s4 h4 => ?_))
    obtain ⟨z', H4, I4, r4, q4⟩ := h4
    refine thn (ho' pins s4 σ H4 y z' u w' _ I4 r2 r4 q4) fun d5 s5 h5 => ?_
    obtain ⟨z5, H5, I5, r5, k', e', q5⟩ := h5
    subst e'
    cases r5
    refine wpAny_truthy_bool ?_
    cases k' with
    | false => exact ite_ff ⟨.bl false, H5, I5, rfl, q5⟩
    | true =>
      refine ite_tt (chain_last (thn (hd.run pins s5 σ H5 _ I5 q5) fun v6 s6 h6 => ?_))
      obtain ⟨z6, H6, I6, r6, q6⟩ := h6
      exact ho'' pins s6 σ H6 z' z6 w' v6 Q I6 r4 r6 q6
theorem len_ne {v : Str} (h : v ≠ Str.empty) : (v.length == 0) = false := by
  cases e : (v.length == 0) with
  | false => rfl
  | true =>
    have e1 : v.length = 0 := by simpa using e
    exact absurd (ext_tl (List.eq_nil_of_length_eq_zero (by rw [← len_tl]; exact e1))) h
/-- s.partition(sep), s.split(sep): new ones -/
def tPartD (to te : TE) : TE := fun σ H Q => to σ H fun x H1 => ∃ u, x = .str u ∧ te σ H1 fun y H2 => ∃ v, y = .str v ∧ v ≠ Str.empty ∧ u.length ≤ 1000000 ∧ New (.tup [.str (Txt.partition u v).1, .str (Txt.partition u v).2.1, .str (Txt.partition u v).2.2]) H2 Q
def tSplitD (to te : TE) : TE := fun σ H Q => to σ H fun x H1 => ∃ u, x = .str u ∧ te σ H1 fun y H2 => ∃ v, y = .str v ∧ v ≠ Str.empty ∧ u.length ≤ 1000000 ∧ New (.lst ((Txt.split u v).map V.str)) H2 Q
def tM1' (r : V → List V → Hp → VK → Prop) (to te : TE) : TE := fun σ H Q => to σ H fun x H1 => ∃ u, x = .str u ∧ te σ H1 fun y H2 => r x [y] H2 Q
theorem pe_partD {o : Expr} {to : TE} {apos : Pos} (ho : PE X o to) (he : PE X e te) (hs : starEach [e] X.env = [(false, eval e X.env)] := by rfl) (hbase : attributeBase o "partition" X.env (eval o X.env) = eval o X.env := by rfl) (hline : (apos.endLine == pos.line) = true := by rfl) :
    PE X (.Call (.Attribute o "partition" apos) [e] [] pos) (tPartD to te) :=
  PE.imp (pe_partition (pe_up ho) (pe_up he) hs hbase hline) fun σ H Q q => by
    refine ⟨_, fun x H1 z => ?_, q⟩
    obtain ⟨u, rfl, z⟩ := z
    refine ⟨⟨u, rfl⟩, _, fun y H2 z2 => ?_, z⟩
    obtain ⟨v, rfl, h1, h2, h3⟩ := z2
    exact ⟨u, v, rfl, rfl, len_ne h1, size_of h2, h3.at⟩
theorem pe_splitD {o : Expr} {to : TE} {apos : Pos} (ho : PE X o to) (he : PE X e te) (hs : starEach [e] X.env = [(false, eval e X.env)] := by rfl) (hbase : attributeBase o "split" X.env (eval o X.env) = eval o X.env := by rfl) (hline : (apos.endLine == pos.line) = true := by rfl) :
    PE X (.Call (.Attribute o "split" apos) [e] [] pos) (tSplitD to te) :=
  PE.imp (pe_split (pe_up ho) (pe_up he) hs hbase hline) fun σ H Q q => by
    refine ⟨_, fun x H1 z => ?_, q⟩
    obtain ⟨u, rfl, z⟩ := z
    refine ⟨⟨u, rfl⟩, _, fun y H2 z2 => ?_, z⟩
    obtain ⟨v, rfl, h1, h2, h3⟩ := z2
    exact ⟨u, v, rfl, rfl, len_ne h1, by rw [sizeLine_eq]; omega, h3.at⟩
end

def rSumH : List V → Hp → VK → Prop := fun xs H Q => ∃ (a : Addr) (ns : List Int), xs = [.ref a] ∧ H a = some (.lst (ns.map V.int)) ∧ Q (.int ns.sum) H
theorem call_sumH {X : Cx} (hc : X.calm = true) : CallR X (.builtin "sum") rSumH := CallR.imp (cr_sum hc) fun xs H Q q => by
  obtain ⟨a, ns, e, h, q⟩ := q
  exact ⟨a, ns, e, SqL.of h, q⟩
theorem map_of {α : Type} {f : α → V} {l : List α} {ys : List V} (hl : ys.length = l.length) (h : ∀ (i : Nat) (y : V), ys[i]? = some y → ∃ s, l[i]? = some s ∧ y = f s) : ys = l.map f := by
  refine List.ext_getElem? fun i => ?_
  rw [List.getElem?_map]
  cases e : ys[i]? with
  | none =>
    rw [List.getElem?_eq_none_iff] at e
    rw [List.getElem?_eq_none (by omega)]
    rfl
  | some y =>
    obtain ⟨s, h1, h2⟩ := h i y e
    rw [h1, h2]
    rfl
theorem flat_ints : ∀ l : List Int, (l.map V.int).all flatV = true
  | [] => rfl
  | y :: r => by
    rw [List.map_cons, List.all_cons, flat_ints r]
    rfl
theorem inV_ints {x : Int} : ∀ l : List Int, inV (.int x) (l.map V.int) = decide (x ∈ l)
  | [] => by simp [inV]
  | y :: r => by
    rw [List.map_cons, inV_cons, eqV_ii, inV_ints r]
    by_cases h : y = x
    · simp [h]
    · by_cases h2 : x ∈ r
      · simp [h, h2]
      · simp [h, h2, Ne.symm h]
theorem cut_head {x : V} {xs : List V} : cutV (x :: xs) none (some 1) = [x] := by
  have e : HT.sIx (x :: xs).length (x :: xs).length (some 1) = 1 := by
    have z := HT.sIx_nat (x :: xs).length (x :: xs).length 1
    rw [show (((1 : Nat) : Int)) = 1 from rfl] at z
    rw [z, List.length_cons]
    omega
  unfold cutV
  rw [e, HT.sIx_none]
  rfl
theorem cut_tail {x : V} {xs : List V} : cutV (x :: xs) (some 1) none = xs := by
  have e : HT.sIx (x :: xs).length 0 (some 1) = 1 := by
    have z := HT.sIx_nat (x :: xs).length 0 1
    rw [show (((1 : Nat) : Int)) = 1 from rfl] at z
    rw [z, List.length_cons]
    omega
  unfold cutV
  rw [e, HT.sIx_none]
  show xs.take (xs.length + 1 - 1) = xs
  rw [Nat.add_sub_cancel, List.take_length]
theorem cut_mid {a b c d : V} : cutV [a, b, c, d] (some 1) (some 3) = [b, c] := rfl
theorem cut_three {a b c d : V} : cutV [a, b, c, d] none (some 3) = [a, b, c] := rfl
/-! ### one sign in a text -/
theorem lets_mem (c : Nat) : c ∈ (Str.ofString "abcdefghijklmnopqrstuvwxyz").cps.toList ↔ isLet c := by
  have e : (Str.ofString "abcdefghijklmnopqrstuvwxyz").cps.toList = [97, 98, 99, 100, 101, 102, 103, 104, 105, 106, 107, 108, 109, 110, 111, 112, 113, 114, 115, 116, 117, 118, 119, 120, 121, 122] := by decide +kernel
  rw [e]
  simp only [List.mem_cons, List.not_mem_nil, or_false, isLet]
  omega
theorem figs_mem (c : Nat) : c ∈ (Str.ofString "0123456789").cps.toList ↔ isFig c := by
  have e : (Str.ofString "0123456789").cps.toList = [48, 49, 50, 51, 52, 53, 54, 55, 56, 57] := by decide +kernel
  rw [e]
  simp only [List.mem_cons, List.not_mem_nil, or_false, isFig]
  omega
theorem signs_mem (c : Nat) : c ∈ (Str.ofString "01xz").cps.toList ↔ (c = 48 ∨ c = 49 ∨ c = 120 ∨ c = 122) := by
  have e : (Str.ofString "01xz").cps.toList = [48, 49, 120, 122] := by decide +kernel
  rw [e]
  simp only [List.mem_cons, List.not_mem_nil, or_false]
theorem wids_mem (c : Nat) : c ∈ (Str.ofString "12345678").cps.toList ↔ (49 ≤ c ∧ c ≤ 56) := by
  have e : (Str.ofString "12345678").cps.toList = [49, 50, 51, 52, 53, 54, 55, 56] := by decide +kernel
  rw [e]
  simp only [List.mem_cons, List.not_mem_nil, or_false]
  omega
theorem c_cast0 : ((0 : Nat) : Int) = 0 := rfl
theorem c_cast1 : ((1 : Nat) : Int) = 1 := rfl
theorem c_cast2 : ((2 : Nat) : Int) = 2 := rfl
theorem c_cast3 : ((3 : Nat) : Int) = 3 := rfl
theorem c_cast4 : ((4 : Nat) : Int) = 4 := rfl
theorem z_lit {c : Nat} : ((Str.ofString "z" : Str) = { cps := #[c] }) = (122 = c) := by
  have e : (Str.ofString "z" : Str) = ⟨#[122]⟩ := by decide +kernel
  rw [e]
  apply propext
  constructor
  · intro h
    have h1 := congrArg TL.tl h
    simpa [TL.tl] using h1
  · intro h
    rw [h]
theorem sz_of {v : Str} {m : Nat} (h : v.length = m) (h2 : m ≤ 1000000) : v.cps.size ≤ 1000000 := by
  have z : v.cps.size = m := h
  omega
theorem of_getElem {ys : List V} {P : V → Prop} (h : ∀ (i : Nat) (y : V), ys[i]? = some y → P y) : ∀ y ∈ ys, P y := fun y hy => by
  obtain ⟨j, hj⟩ := List.mem_iff_getElem?.mp hy
  exact h j y hj
theorem tl_cps (x : Str) : x.cps.toList = tl x := rfl
theorem sign_inj {c d : Nat} : (({ cps := #[c] } : Str) = { cps := #[d] }) = (c = d) := by
  apply propext
  constructor
  · intro h
    have h1 := congrArg tl h
    simpa [tl] using h1
  · intro h
    rw [h]
end K37
namespace K37
open PySem L2 TL
open PyProof.Rows hiding St
/-! ### a written dict asked with a default -/
def argsOf (w : Str) : Nat := if w = "pick" then 3 else if w = "not" ∨ w = "any" ∨ w = "all" then 1 else 2
def argO (w : Str) : Option V := if w = "pick" then some (.int 3) else if w = "not" ∨ w = "any" ∨ w = "all" then some (.int 1) else none
structure KA (K : PySem.W.Frag) (w : World) (mg : Str → Option Value) (d : Addr) : Prop where
  gv : GV mg "ARGUMENTS" (.ref d)
  kd : ∃ es n, KDict K w d es n
  at_ : ∀ s ∈ wordsL, ∃ u, PySem.W.nsIn K d s = some u ∧ RelO (argO s) u
theorem RelO.getD' {o : Option V} {u : Option Value} {z : V} {v : Value} (r : RelO o u) (rz : RelV z v) : RelV (o.getD z) (u.getD v) := by
  cases o with
  | none => cases u with
    | none => exact rz
    | some _ => exact r.elim
  | some x => cases u with
    | none => exact r.elim
    | some _ => exact r
section
variable {X : Cx} {e f : Expr} {ty tx : TE} {p apos cpos : Pos} {d : Addr}
def tKGet (ty tx : TE) : TE := fun σ H Q => ty σ H fun y H2 => tx σ H2 fun z H3 => ∃ s, y = .str s ∧ s ∈ wordsL ∧ Q ((argO s).getD z) H3
theorem pe_kget (A : KA X.K X.w X.mg d) (he : PE X e ty) (hf : PE X f tx) (m : M2 X (.Name "ARGUMENTS" p) "get" apos e f cpos) (hg : Gl X "ARGUMENTS" := by rfl) : PE X (.Call (.Attribute (.Name "ARGUMENTS" p) "get" apos) [e, f] [] cpos) (tKGet ty tx) := by
  refine ⟨fun pins s σ H Q I h => ?_⟩
  obtain ⟨es, n, D⟩ := A.kd
  refine wpAny_Call_method m.base m.few m.line PySem.F.plainAttrs_dict PySem.F.slot_dict_get PySem.F.type_dict_get (thn ((pe_gv A.gv hg).run pins s σ H (fun v H1 => v = .ref d ∧ H1 = H) I ⟨rfl, rfl⟩) fun u s1 hu => ?_)
  obtain ⟨x, H1, I1, rx, e1, e2⟩ := hu
  subst e1 e2
  obtain rfl : u = Value.ref d := rx
  have ty1 := kd_type D I1
  refine ⟨ty1, fun b q => ?_, ?_⟩
  · cases q
    exact ⟨_, I1.kIn _ _ D.at_, rfl⟩
  rw [m.trees]
  refine Calls.callWith_builtin rfl (Calls.evalArgs_plain (Calls.spliced_cons (thn (he.run pins s1 σ _ _ I1 h) fun iv s2 h2 => ?_)))
  obtain ⟨y, H2, I2, ry, q2⟩ := h2
  refine Calls.spliced_cons (thn (hf.run pins s2 σ H2 _ I2 q2) fun fv s3 h3 => Calls.spliced_nil ?_)
  obtain ⟨z, H3, I3, rz, sx, ey, hm, q3⟩ := h3
  subst ey
  obtain ⟨t, rfl⟩ := ry
  obtain ⟨u0, hn, hr⟩ := A.at_ sx hm
  have mp := PySem.W.mapOf_K (prog := X.prog) I3.kIn D.at_ D.lit
  refine call_meetsIn PySem.F.slot_dict_get mp.typeIs PySem.F.entry_dict_get (PySem.F.args_dict_get_3 _ _ _) (meets_dict_get_default (PySem.strKind X.prog X.w) d (PySem.strKind_is X.prog X.w sx t) D.low fv) ⟨_, mp, ⟨_, H3, I3.tok _, ?_, q3⟩⟩
  rw [PySem.W.find_K D.at_ hn]
  exact RelO.getD' hr rz
end
end K37
set_option maxHeartbeats 4000000
namespace K37
open PySem L2 TL
open PyProof.Rows hiding St
/-! the defs by their places -/
abbrev s_is_value : Stmt := topS 9
abbrev s_is_name : Stmt := topS 20
abbrev s_is_whole : Stmt := topS 21
abbrev s_are_bounds : Stmt := topS 22
abbrev s_leaf_weight : Stmt := topS 23
abbrev s_arguments_of : Stmt := topS 19
abbrev s_term_weight : Stmt := topS 24
abbrev s_terms_in : Stmt := topS 26
abbrev s_is_term : Stmt := topS 25
abbrev s_operated_width : Stmt := topS 27
abbrev s_fitting_width : Stmt := topS 28
abbrev s_width_of : Stmt := topS 29
abbrev s_names_along : Stmt := topS 30
abbrev s_names_in : Stmt := topS 31
abbrev s_has_width : Stmt := topS 43
abbrev s_name_wrong : Stmt := topS 44
abbrev s_is_width : Stmt := topS 45
abbrev s_is_row : Stmt := topS 46
abbrev s_signal_wrong : Stmt := topS 47
abbrev s_signals_wrong : Stmt := topS 48
abbrev s_many_wrong : Stmt := topS 49
abbrev s_is_driver : Stmt := topS 50
abbrev s_are_drivers : Stmt := topS 51
abbrev s_is_what : Stmt := topS 52
abbrev s_widths_of : Stmt := topS 53
abbrev s_what_wrong : Stmt := topS 54
abbrev s_statement_weight : Stmt := topS 55
abbrev s_body_weight : Stmt := topS 56
abbrev s_block_wrong : Stmt := topS 57
abbrev s_blocks_wrong : Stmt := topS 58
abbrev s_set_by : Stmt := topS 59
abbrev s_terms_of : Stmt := topS 61
abbrev s_both_wrong : Stmt := topS 60
abbrev s_names_beside : Stmt := topS 62
abbrev s_hangs_on : Stmt := topS 63
abbrev s_ring_wrong : Stmt := topS 64
abbrev s_first_clash : Stmt := topS 65
abbrev s_Design___init__ : Stmt := inClass (topS 67) 0
abbrev s_Design_signals : Stmt := inClass (topS 67) 1
abbrev s_Design_blocks : Stmt := inClass (topS 67) 2
abbrev s_Design___eq__ : Stmt := inClass (topS 67) 10
abbrev s_Design___len__ : Stmt := inClass (topS 67) 11
abbrev s_term_text : Stmt := topS 71
abbrev s_driver_text : Stmt := topS 81
abbrev s_what_text : Stmt := topS 82
abbrev s_body_lines : Stmt := topS 83
abbrev s_design_text : Stmt := topS 84
abbrev s_run_end : Stmt := topS 72
abbrev s_past : Stmt := topS 73
abbrev s_read_number : Stmt := topS 74
abbrev s_read_operator : Stmt := topS 75
abbrev s_read_at : Stmt := topS 76
abbrev s_read_term : Stmt := topS 77
abbrev s_driver_in : Stmt := topS 85
abbrev s_what_in : Stmt := topS 86
abbrev s_signal_in : Stmt := topS 87
abbrev s_Lines___init__ : Stmt := inClass (topS 88) 0
abbrev s_Lines_is_over : Stmt := inClass (topS 88) 1
abbrev s_Lines_begins : Stmt := inClass (topS 88) 2
abbrev s_Lines_taken : Stmt := inClass (topS 88) 3
abbrev s_statement_in : Stmt := topS 89
abbrev s_body_in : Stmt := topS 90
abbrev s_block_in : Stmt := topS 91
abbrev s_design_in : Stmt := topS 92
abbrev s_read_design : Stmt := topS 93
abbrev s__law_pot : Stmt := topS 95
abbrev s__law_digit : Stmt := topS 96
abbrev s__law_value : Stmt := topS 98
abbrev s__law_width : Stmt := topS 101
abbrev s__law_name : Stmt := topS 97
abbrev s__law_leaf : Stmt := topS 99
abbrev s__law_term : Stmt := topS 100
abbrev s__law_sources : Stmt := topS 102
abbrev s__law_led : Stmt := topS 103
abbrev s__law_body : Stmt := topS 104
abbrev s__law_blocks : Stmt := topS 105
abbrev s__law_design : Stmt := topS 106
abbrev s__law_term_text : Stmt := topS 107
abbrev s__law_what_text : Stmt := topS 108
abbrev s__law_body_lines : Stmt := topS 109
abbrev s__law_lines : Stmt := topS 110
abbrev s__law_design_text : Stmt := topS 111
abbrev s__law_right : Stmt := topS 112
abbrev s__law_deep : Stmt := topS 113
abbrev s_law : Stmt := topS 114
end K37
set_option maxHeartbeats 0
namespace K37
open PySem L2 TL
open PyProof.Rows hiding St
/-! the head: what the top leaves, by names -/
abbrev R : PySem.W.OpenRow := PySem.W.OpenLaw.row PySem.Challenge.rw_deltawires_k37_whole_texts_there_and_bac
def dD0 : He.DefD := ⟨("is_value", none), "is_value", "is_value", defArgs s_is_value, defBody s_is_value, defScope s_is_value, [], [("width", .int 0)]⟩
def dD1 : He.DefD := ⟨("is_name", none), "is_name", "is_name", defArgs s_is_name, defBody s_is_name, defScope s_is_name, [], []⟩
def dD2 : He.DefD := ⟨("is_whole", none), "is_whole", "is_whole", defArgs s_is_whole, defBody s_is_whole, defScope s_is_whole, [], []⟩
def dD3 : He.DefD := ⟨("are_bounds", none), "are_bounds", "are_bounds", defArgs s_are_bounds, defBody s_are_bounds, defScope s_are_bounds, [], []⟩
def dD4 : He.DefD := ⟨("leaf_weight", none), "leaf_weight", "leaf_weight", defArgs s_leaf_weight, defBody s_leaf_weight, defScope s_leaf_weight, [], []⟩
def dD5 : He.DefD := ⟨("arguments_of", none), "arguments_of", "arguments_of", defArgs s_arguments_of, defBody s_arguments_of, defScope s_arguments_of, [], []⟩
def dD6 : He.DefD := ⟨("term_weight", none), "term_weight", "term_weight", defArgs s_term_weight, defBody s_term_weight, defScope s_term_weight, [.int 10], []⟩
def dD7 : He.DefD := ⟨("is_term", none), "is_term", "is_term", defArgs s_is_term, defBody s_is_term, defScope s_is_term, [], []⟩
def dD8 : He.DefD := ⟨("terms_in", none), "terms_in", "terms_in", defArgs s_terms_in, defBody s_terms_in, defScope s_terms_in, [], []⟩
def dD9 : He.DefD := ⟨("operated_width", none), "operated_width", "operated_width", defArgs s_operated_width, defBody s_operated_width, defScope s_operated_width, [], []⟩
def dD10 : He.DefD := ⟨("fitting_width", none), "fitting_width", "fitting_width", defArgs s_fitting_width, defBody s_fitting_width, defScope s_fitting_width, [], []⟩
def dD11 : He.DefD := ⟨("width_of", none), "width_of", "width_of", defArgs s_width_of, defBody s_width_of, defScope s_width_of, [], []⟩
def dD12 : He.DefD := ⟨("names_along", none), "names_along", "names_along", defArgs s_names_along, defBody s_names_along, defScope s_names_along, [], []⟩
def dD13 : He.DefD := ⟨("names_in", none), "names_in", "names_in", defArgs s_names_in, defBody s_names_in, defScope s_names_in, [], []⟩
def dD14 : He.DefD := ⟨("has_width", none), "has_width", "has_width", defArgs s_has_width, defBody s_has_width, defScope s_has_width, [], []⟩
def dD15 : He.DefD := ⟨("name_wrong", none), "name_wrong", "name_wrong", defArgs s_name_wrong, defBody s_name_wrong, defScope s_name_wrong, [], []⟩
def dD16 : He.DefD := ⟨("is_width", none), "is_width", "is_width", defArgs s_is_width, defBody s_is_width, defScope s_is_width, [], []⟩
def dD17 : He.DefD := ⟨("is_row", none), "is_row", "is_row", defArgs s_is_row, defBody s_is_row, defScope s_is_row, [], []⟩
def dD18 : He.DefD := ⟨("signal_wrong", none), "signal_wrong", "signal_wrong", defArgs s_signal_wrong, defBody s_signal_wrong, defScope s_signal_wrong, [], []⟩
def dD19 : He.DefD := ⟨("signals_wrong", none), "signals_wrong", "signals_wrong", defArgs s_signals_wrong, defBody s_signals_wrong, defScope s_signals_wrong, [], []⟩
def dD20 : He.DefD := ⟨("many_wrong", none), "many_wrong", "many_wrong", defArgs s_many_wrong, defBody s_many_wrong, defScope s_many_wrong, [], []⟩
def dD21 : He.DefD := ⟨("is_driver", none), "is_driver", "is_driver", defArgs s_is_driver, defBody s_is_driver, defScope s_is_driver, [], []⟩
def dD22 : He.DefD := ⟨("are_drivers", none), "are_drivers", "are_drivers", defArgs s_are_drivers, defBody s_are_drivers, defScope s_are_drivers, [], []⟩
def dD23 : He.DefD := ⟨("is_what", none), "is_what", "is_what", defArgs s_is_what, defBody s_is_what, defScope s_is_what, [], []⟩
def dD24 : He.DefD := ⟨("widths_of", none), "widths_of", "widths_of", defArgs s_widths_of, defBody s_widths_of, defScope s_widths_of, [], []⟩
def dD25 : He.DefD := ⟨("what_wrong", none), "what_wrong", "what_wrong", defArgs s_what_wrong, defBody s_what_wrong, defScope s_what_wrong, [], []⟩
def dD26 : He.DefD := ⟨("body_weight", none), "body_weight", "body_weight", defArgs s_body_weight, defBody s_body_weight, defScope s_body_weight, [], []⟩
def dD27 : He.DefD := ⟨("statement_weight", none), "statement_weight", "statement_weight", defArgs s_statement_weight, defBody s_statement_weight, defScope s_statement_weight, [], []⟩
def dD28 : He.DefD := ⟨("block_wrong", none), "block_wrong", "block_wrong", defArgs s_block_wrong, defBody s_block_wrong, defScope s_block_wrong, [], []⟩
def dD29 : He.DefD := ⟨("blocks_wrong", none), "blocks_wrong", "blocks_wrong", defArgs s_blocks_wrong, defBody s_blocks_wrong, defScope s_blocks_wrong, [], []⟩
def dD30 : He.DefD := ⟨("set_by", none), "set_by", "set_by", defArgs s_set_by, defBody s_set_by, defScope s_set_by, [], []⟩
def dD31 : He.DefD := ⟨("terms_of", none), "terms_of", "terms_of", defArgs s_terms_of, defBody s_terms_of, defScope s_terms_of, [], []⟩
def dD32 : He.DefD := ⟨("both_wrong", none), "both_wrong", "both_wrong", defArgs s_both_wrong, defBody s_both_wrong, defScope s_both_wrong, [], []⟩
def dD33 : He.DefD := ⟨("names_beside", none), "names_beside", "names_beside", defArgs s_names_beside, defBody s_names_beside, defScope s_names_beside, [], []⟩
def dD34 : He.DefD := ⟨("hangs_on", none), "hangs_on", "hangs_on", defArgs s_hangs_on, defBody s_hangs_on, defScope s_hangs_on, [], []⟩
def dD35 : He.DefD := ⟨("ring_wrong", none), "ring_wrong", "ring_wrong", defArgs s_ring_wrong, defBody s_ring_wrong, defScope s_ring_wrong, [], []⟩
def dD36 : He.DefD := ⟨("first_clash", none), "first_clash", "first_clash", defArgs s_first_clash, defBody s_first_clash, defScope s_first_clash, [], []⟩
def dD37 : He.DefD := ⟨("Design", some "__init__"), "__init__", "Design.__init__", defArgs s_Design___init__, defBody s_Design___init__, defScope s_Design___init__, [.adr (He.dflAt ("Design", some "__init__") 0)], []⟩
def dD38 : He.DefD := ⟨("Design", some "signals"), "signals", "Design.signals", defArgs s_Design_signals, defBody s_Design_signals, defScope s_Design_signals, [], []⟩
def dD39 : He.DefD := ⟨("Design", some "blocks"), "blocks", "Design.blocks", defArgs s_Design_blocks, defBody s_Design_blocks, defScope s_Design_blocks, [], []⟩
def dD40 : He.DefD := ⟨("Design", some "__len__"), "__len__", "Design.__len__", defArgs s_Design___len__, defBody s_Design___len__, defScope s_Design___len__, [], []⟩
def dD41 : He.DefD := ⟨("Design", some "__eq__"), "__eq__", "Design.__eq__", defArgs s_Design___eq__, defBody s_Design___eq__, defScope s_Design___eq__, [], []⟩
def dD42 : He.DefD := ⟨("term_text", none), "term_text", "term_text", defArgs s_term_text, defBody s_term_text, defScope s_term_text, [], []⟩
def dD43 : He.DefD := ⟨("driver_text", none), "driver_text", "driver_text", defArgs s_driver_text, defBody s_driver_text, defScope s_driver_text, [], []⟩
def dD44 : He.DefD := ⟨("what_text", none), "what_text", "what_text", defArgs s_what_text, defBody s_what_text, defScope s_what_text, [], []⟩
def dD45 : He.DefD := ⟨("body_lines", none), "body_lines", "body_lines", defArgs s_body_lines, defBody s_body_lines, defScope s_body_lines, [], []⟩
def dD46 : He.DefD := ⟨("design_text", none), "design_text", "design_text", defArgs s_design_text, defBody s_design_text, defScope s_design_text, [], []⟩
def dD47 : He.DefD := ⟨("run_end", none), "run_end", "run_end", defArgs s_run_end, defBody s_run_end, defScope s_run_end, [], []⟩
def dD48 : He.DefD := ⟨("past", none), "past", "past", defArgs s_past, defBody s_past, defScope s_past, [], []⟩
def dD49 : He.DefD := ⟨("read_number", none), "read_number", "read_number", defArgs s_read_number, defBody s_read_number, defScope s_read_number, [], []⟩
def dD50 : He.DefD := ⟨("read_operator", none), "read_operator", "read_operator", defArgs s_read_operator, defBody s_read_operator, defScope s_read_operator, [], []⟩
def dD51 : He.DefD := ⟨("read_at", none), "read_at", "read_at", defArgs s_read_at, defBody s_read_at, defScope s_read_at, [], []⟩
def dD52 : He.DefD := ⟨("read_term", none), "read_term", "read_term", defArgs s_read_term, defBody s_read_term, defScope s_read_term, [], []⟩
def dD53 : He.DefD := ⟨("driver_in", none), "driver_in", "driver_in", defArgs s_driver_in, defBody s_driver_in, defScope s_driver_in, [], []⟩
def dD54 : He.DefD := ⟨("what_in", none), "what_in", "what_in", defArgs s_what_in, defBody s_what_in, defScope s_what_in, [], []⟩
def dD55 : He.DefD := ⟨("signal_in", none), "signal_in", "signal_in", defArgs s_signal_in, defBody s_signal_in, defScope s_signal_in, [], []⟩
def dD56 : He.DefD := ⟨("Lines", some "__init__"), "__init__", "Lines.__init__", defArgs s_Lines___init__, defBody s_Lines___init__, defScope s_Lines___init__, [], []⟩
def dD57 : He.DefD := ⟨("Lines", some "is_over"), "is_over", "Lines.is_over", defArgs s_Lines_is_over, defBody s_Lines_is_over, defScope s_Lines_is_over, [], []⟩
def dD58 : He.DefD := ⟨("Lines", some "begins"), "begins", "Lines.begins", defArgs s_Lines_begins, defBody s_Lines_begins, defScope s_Lines_begins, [], []⟩
def dD59 : He.DefD := ⟨("Lines", some "taken"), "taken", "Lines.taken", defArgs s_Lines_taken, defBody s_Lines_taken, defScope s_Lines_taken, [], []⟩
def dD60 : He.DefD := ⟨("body_in", none), "body_in", "body_in", defArgs s_body_in, defBody s_body_in, defScope s_body_in, [], []⟩
def dD61 : He.DefD := ⟨("statement_in", none), "statement_in", "statement_in", defArgs s_statement_in, defBody s_statement_in, defScope s_statement_in, [], []⟩
def dD62 : He.DefD := ⟨("block_in", none), "block_in", "block_in", defArgs s_block_in, defBody s_block_in, defScope s_block_in, [], []⟩
def dD63 : He.DefD := ⟨("design_in", none), "design_in", "design_in", defArgs s_design_in, defBody s_design_in, defScope s_design_in, [], []⟩
def dD64 : He.DefD := ⟨("read_design", none), "read_design", "read_design", defArgs s_read_design, defBody s_read_design, defScope s_read_design, [], []⟩
def dD65 : He.DefD := ⟨("_law_pot", none), "_law_pot", "_law_pot", defArgs s__law_pot, defBody s__law_pot, defScope s__law_pot, [], []⟩
def dD66 : He.DefD := ⟨("_law_digit", none), "_law_digit", "_law_digit", defArgs s__law_digit, defBody s__law_digit, defScope s__law_digit, [], []⟩
def dD67 : He.DefD := ⟨("_law_width", none), "_law_width", "_law_width", defArgs s__law_width, defBody s__law_width, defScope s__law_width, [], []⟩
def dD68 : He.DefD := ⟨("_law_value", none), "_law_value", "_law_value", defArgs s__law_value, defBody s__law_value, defScope s__law_value, [], []⟩
def dD69 : He.DefD := ⟨("_law_name", none), "_law_name", "_law_name", defArgs s__law_name, defBody s__law_name, defScope s__law_name, [], []⟩
def dD70 : He.DefD := ⟨("_law_leaf", none), "_law_leaf", "_law_leaf", defArgs s__law_leaf, defBody s__law_leaf, defScope s__law_leaf, [], []⟩
def dD71 : He.DefD := ⟨("_law_term", none), "_law_term", "_law_term", defArgs s__law_term, defBody s__law_term, defScope s__law_term, [], []⟩
def dD72 : He.DefD := ⟨("_law_sources", none), "_law_sources", "_law_sources", defArgs s__law_sources, defBody s__law_sources, defScope s__law_sources, [], []⟩
def dD73 : He.DefD := ⟨("_law_led", none), "_law_led", "_law_led", defArgs s__law_led, defBody s__law_led, defScope s__law_led, [], []⟩
def dD74 : He.DefD := ⟨("_law_body", none), "_law_body", "_law_body", defArgs s__law_body, defBody s__law_body, defScope s__law_body, [], []⟩
def dD75 : He.DefD := ⟨("_law_blocks", none), "_law_blocks", "_law_blocks", defArgs s__law_blocks, defBody s__law_blocks, defScope s__law_blocks, [], []⟩
def dD76 : He.DefD := ⟨("_law_design", none), "_law_design", "_law_design", defArgs s__law_design, defBody s__law_design, defScope s__law_design, [], []⟩
def dD77 : He.DefD := ⟨("_law_term_text", none), "_law_term_text", "_law_term_text", defArgs s__law_term_text, defBody s__law_term_text, defScope s__law_term_text, [], []⟩
def dD78 : He.DefD := ⟨("_law_what_text", none), "_law_what_text", "_law_what_text", defArgs s__law_what_text, defBody s__law_what_text, defScope s__law_what_text, [], []⟩
def dD79 : He.DefD := ⟨("_law_body_lines", none), "_law_body_lines", "_law_body_lines", defArgs s__law_body_lines, defBody s__law_body_lines, defScope s__law_body_lines, [], []⟩
def dD80 : He.DefD := ⟨("_law_lines", none), "_law_lines", "_law_lines", defArgs s__law_lines, defBody s__law_lines, defScope s__law_lines, [], []⟩
def dD81 : He.DefD := ⟨("_law_design_text", none), "_law_design_text", "_law_design_text", defArgs s__law_design_text, defBody s__law_design_text, defScope s__law_design_text, [], []⟩
def dD82 : He.DefD := ⟨("_law_right", none), "_law_right", "_law_right", defArgs s__law_right, defBody s__law_right, defScope s__law_right, [], []⟩
def dD83 : He.DefD := ⟨("_law_deep", none), "_law_deep", "_law_deep", defArgs s__law_deep, defBody s__law_deep, defScope s__law_deep, [], []⟩
def dD84 : He.DefD := ⟨("law", none), "law", "law", defArgs s_law, defBody s_law, defScope s_law, [], []⟩
def fn0 : List He.DefD := [dD0, dD1, dD2, dD3, dD4, dD5, dD6, dD7, dD8, dD9, dD10, dD11, dD12, dD13, dD14, dD15, dD16, dD17, dD18, dD19, dD20, dD21, dD22, dD23, dD24, dD25, dD26, dD27, dD28, dD29, dD30, dD31, dD32, dD33, dD34]
def fn1 : List He.DefD := [dD35, dD36, dD37, dD38, dD39, dD40, dD41, dD42, dD43, dD44, dD45, dD46, dD47, dD48, dD49, dD50, dD51, dD52, dD53, dD54, dD55, dD56, dD57, dD58, dD59, dD60, dD61, dD62, dD63, dD64, dD65, dD66, dD67, dD68, dD69]
def fn2 : List He.DefD := [dD70, dD71, dD72, dD73, dD74, dD75, dD76, dD77, dD78, dD79, dD80, dD81, dD82, dD83, dD84]
def fn : List He.DefD := fn0 ++ fn1 ++ fn2
def fa0 : List He.Fa := [.glo "is_value", .glo "is_name", .glo "is_whole", .glo "are_bounds", .glo "leaf_weight", .glo "arguments_of", .glo "term_weight", .glo "is_term", .glo "terms_in", .glo "operated_width", .glo "fitting_width", .glo "width_of", .glo "names_along", .glo "names_in", .glo "has_width", .glo "name_wrong", .glo "is_width", .glo "is_row", .glo "signal_wrong", .glo "signals_wrong", .glo "many_wrong", .glo "is_driver", .glo "are_drivers", .glo "is_what", .glo "widths_of", .glo "what_wrong", .glo "body_weight", .glo "statement_weight", .glo "block_wrong", .glo "blocks_wrong", .glo "set_by", .glo "terms_of", .glo "both_wrong", .glo "names_beside", .glo "hangs_on"]
def fa1 : List He.Fa := [.glo "ring_wrong", .glo "first_clash", .glo "term_text", .glo "driver_text", .glo "what_text", .glo "body_lines", .glo "design_text", .glo "run_end", .glo "past", .glo "read_number", .glo "read_operator", .glo "read_at", .glo "read_term", .glo "driver_in", .glo "what_in", .glo "signal_in", .glo "body_in", .glo "statement_in", .glo "block_in", .glo "design_in", .glo "read_design", .glo "_law_pot", .glo "_law_digit", .glo "_law_width", .glo "_law_value", .glo "_law_name", .glo "_law_leaf", .glo "_law_term", .glo "_law_sources", .glo "_law_led", .glo "_law_body", .glo "_law_blocks", .glo "_law_design", .glo "_law_term_text", .glo "_law_what_text"]
def fa2 : List He.Fa := [.glo "_law_body_lines", .glo "_law_lines", .glo "_law_design_text", .glo "_law_right", .glo "_law_deep", .glo "law", .glo "WORDS", .glo "OTHER_WORDS", .glo "SORTS", .glo "EDGES", .glo "ARGUMENTS", .free "len", .free "isinstance", .free "all", .free "any", .free "sum", .free "int", .free "str", .free "list", .free "tuple", .free "bool", .free "range", .free "zip", .free "enumerate", .free "reversed", .free "repr", .free "max", .free "min", .int "WIDEST" 8, .int "MOST_TUPLES" 60, .int "DEEPEST_terms" 10, .int "LONGEST_NAME" 8, .int "FIELDS" 4, .int "MOST_SIGNALS" 24, .int "MOST_WIRES" 8]
def fa3 : List He.Fa := [.int "MOST_BLOCKS" 6, .int "MOST_STATEMENTS" 20, .int "DEEPEST_clashes" 4, .int "LEAST_DRIVERS" 2, .int "MOST_DRIVERS" 4, .str "SIGNS" "01xz", .str "LETTERS" "abcdefghijklmnopqrstuvwxyz", .str "FIGURES" "0123456789", .str "MARK" "'", .str "BETWEEN" ", ", .str "STEP" "  ", .str "WIDTHS" "12345678", .glo "Design", .cls "Design", .mkr "Design", .glo "Lines", .cls "Lines", .mkr "Lines", .noat "Design" "rows", .noat "Design" "parts", .noat "Design" "by_names", .noat "Design" "beside", .meth "Design" "signals", .meth "Design" "blocks", .meth "Design" "__len__", .meth "Design" "__eq__", .noat "Lines" "left", .meth "Lines" "is_over", .meth "Lines" "begins", .meth "Lines" "taken"]
def fa : List He.Fa := fa0 ++ fa1 ++ fa2 ++ fa3
def ts : List He.Tab := [(fun K => He.ga K "ARGUMENTS", ["not", "any", "all", "pick"])]
def argB (K : PySem.W.Frag) (s : Str) : Bool := match argO s, PySem.W.nsIn K (He.ga K "ARGUMENTS") s with
  | some v, some (some u) => He.relB v u
  | none, some none => true
  | _, _ => false
def clsB (K : PySem.W.Frag) (x : Str) : Bool := He.eqO (PySem.W.findIn K (.ref (He.ga K x)) "__class__") (some (some (.builtin "object.__class__"))) && (decide (PySem.W.mroIn K (He.ga K x) (.type "object") = some true) &&
  (He.eqO (PySem.W.specialIn K (.builtin "object.__class__") "__get__") (some (some (.builtin "getset_descriptor.__get__"))) && decide (PySem.W.takesIn K (.builtin "object.__class__") = some true)))
def ex (K : PySem.W.Frag) : Bool := He.tupB K "WORDS" (wordsL.map He.Dv.str) && (He.tupB K "OTHER_WORDS" (otherL.map He.Dv.str) && (He.tupB K "SORTS" (sortsL.map He.Dv.str) && (He.tupB K "EDGES" (edgesL.map He.Dv.str) && (wordsL.all (argB K) && (clsB K "Design" && (clsB K "Lines"))))))
/-- what the names of the top reach: two steps, and the methods of a class -/
def refsAt (g : Addr → Option Obj) (a : Addr) : List Addr := match g a with
  | some o => (He.refsD o).filter fun b => !(b == mainGlobals)
  | none => []
def clsAt (g : Addr → Option Obj) (a : Addr) : List Addr := match g a with
  | some ⟨_, _, .cls cd, _⟩ => (refsAt g cd.ns).flatMap fun m => m :: refsAt g m
  | _ => []
def asW (g : Addr → Option Obj) (o1 : List Addr) : List Addr := mainGlobals :: (o1 ++ ((o1.flatMap fun a => refsAt g a) ++ o1.flatMap fun a => clsAt g a))
def frW (g : Addr → Option Obj) : PySem.W.Frag := He.frT g (asW g (refsAt g mainGlobals))
def obsY (g : Addr → Option Obj) : He.AlX := (He.obsT fa fn ts (frW g), ex (frW g))
theorem saysY_of {w : World} {h : Heap} (e : obsY h.get? = He.valX fn ts w) : He.SaysX fa fn ts [] ex w h (frW h.get?) :=
  ⟨congrArg (fun z : He.AlX => z.1) e, congrArg (fun z : He.AlX => z.2) e, nofun, nofun, nofun⟩
def hk : PySem.W.Hook where
  α := He.AlX
  obs := fun s => obsY s.heap.get?
  val := fun w => He.valX fn ts w
  says := fun w h => ∃ K : PySem.W.Frag, K.In h ∧ He.SaysX fa fn ts [] ex w h K
  of := fun _ _ e => ⟨_, He.frT_in, saysY_of e⟩
  keeps := fun _ _ _ ⟨K, hK, c⟩ k => ⟨K, PySem.W.Frag.In.keeps hK k, ⟨c.t, c.more, c.hd, c.out, fun p hp => k _ _ (c.empty p hp)⟩⟩
def ob (s : PySem.W.SharedT) : He.AlX := obsY (HandSHeadRun.getT s)
theorem obsY_eq {g : Addr → Option Obj} {s : Shared} (h : ∀ a, g a = s.heap.get? a) : obsY g = hk.obs s := by
  have e : g = s.heap.get? := funext h
  rw [e] <;> rfl
theorem ob_eq (s : PySem.W.SharedT) : ob s = hk.obs s.abs := obsY_eq (HandSHeadRun.getT_eq s)
def loose0 : List Str := ["_wall", "__name__", "WireError", "NoTerm", "NoText", "Clash", "WIDEST", "SIGNS", "is_value", "WORDS", "MOST_TUPLES", "DEEPEST_terms"]
def loose1 : List Str := ["LONGEST_NAME", "LETTERS", "FIGURES", "OTHER_WORDS", "ARGUMENTS", "arguments_of", "is_name", "is_whole", "are_bounds", "leaf_weight", "term_weight", "is_term"]
def loose2 : List Str := ["terms_in", "operated_width", "fitting_width", "width_of", "names_along", "names_in", "SORTS", "EDGES", "FIELDS", "MOST_SIGNALS", "MOST_WIRES", "MOST_BLOCKS"]
def loose3 : List Str := ["MOST_STATEMENTS", "DEEPEST_clashes", "LEAST_DRIVERS", "MOST_DRIVERS", "has_width", "name_wrong", "is_width", "is_row", "signal_wrong", "signals_wrong", "many_wrong", "is_driver"]
def loose4 : List Str := ["are_drivers", "is_what", "widths_of", "what_wrong", "statement_weight", "body_weight", "block_wrong", "blocks_wrong", "set_by", "both_wrong", "terms_of", "names_beside"]
def loose5 : List Str := ["hangs_on", "ring_wrong", "first_clash", "Design", "MARK", "BETWEEN", "term_text", "run_end", "past", "read_number", "read_operator", "read_at"]
def loose6 : List Str := ["read_term", "STEP", "WIDTHS", "driver_text", "what_text", "body_lines", "design_text", "driver_in", "what_in", "signal_in", "Lines", "statement_in"]
def loose7 : List Str := ["body_in", "block_in", "design_in", "read_design", "_law_pot", "_law_digit", "_law_name", "_law_value", "_law_leaf", "_law_term", "_law_width", "_law_sources"]
def loose8 : List Str := ["_law_led", "_law_body", "_law_blocks", "_law_design", "_law_term_text", "_law_what_text", "_law_body_lines", "_law_lines", "_law_design_text", "_law_right", "_law_deep"]
def loose : List Str := loose0 ++ loose1 ++ loose2 ++ loose3 ++ loose4 ++ loose5 ++ loose6 ++ loose7 ++ loose8
theorem joinR {σ α β γ : Type} {o : Option σ} {f : σ → α} {g : σ → β} {k : σ → γ} {a : α} {b : β} {c : γ} (h1 : o.map (fun s => (f s, g s)) = some (a, b)) (h2 : o.map k = some c) : o.map (fun s => (f s, g s, k s)) = some (a, b, c) := by
  cases o with
  | none => cases h1
  | some s =>
    injection h1 with h1
    injection h1 with h3 h4
    injection h2 with h2
    subst h3 h4 h2
    rfl
section
open PySem.W HandSHeadRun
def RunA (r : OpenRow) (q : Program) (M : Nat) (loose : List Str) (w : World) : Prop := ∀ os : OsState, (endF (stepQ (denQ tabQ) r.prog w) M r.prog w os).map (fun s => (looksF r.prog (boot_heap w.params) s.abs, seenQ q loose (importedModules r.prog.main.body) (fun s => xlAt q [] s && recOk r.toRowW.records s) s.abs)) = some (true, openGood q loose)
def RunB (r : OpenRow) (H : Hook) (ob : SharedT → H.α) (M : Nat) (w : World) : Prop := ∀ os : OsState, (endF (stepQ (denQ tabQ) r.prog w) M r.prog w os).map (fun s => ob s) = some (H.val w)
theorem runAB {r : OpenRow} {q : Program} {H : Hook} {ob : SharedT → H.α} {M : Nat} {loose : List Str} {w : World} (a : RunA r q M loose w) (b : RunB r H ob M w) : RunEq r q H ob M loose w := fun os => joinR (a os) (b os)
end
abbrev qv : Program := PySem.W.view R.prog [114]
theorem run_false_a (w : World) : RunA R qv 30000 loose (w.withFollow "special-get-raises" false) := by
  intro os
  kernel_rfl
theorem run_false_b (w : World) : RunB R hk ob 30000 (w.withFollow "special-get-raises" false) := by
  intro os
  kernel_rfl
theorem run_true_a (w : World) : RunA R qv 30000 loose (w.withFollow "special-get-raises" true) := by
  intro os
  kernel_rfl
theorem run_true_b (w : World) : RunB R hk ob 30000 (w.withFollow "special-get-raises" true) := by
  intro os
  kernel_rfl
def RunP (w : World) : Prop := HandSHeadRun.RunEq R qv hk ob 30000 loose w
theorem run_false (w : World) : RunP (w.withFollow "special-get-raises" false) := runAB (run_false_a w) (run_false_b w)
theorem run_true (w : World) : RunP (w.withFollow "special-get-raises" true) := runAB (run_true_a w) (run_true_b w)
theorem run (w : World) : HandSHeadRun.RunEq R qv hk ob 30000 loose w := PySem.W.byRow2 "special-get-raises" (P := RunP) run_false run_true w
end K37
set_option maxHeartbeats 0
namespace K37
section
open PySem PySem.W PySem.Calls PyProof.Rows
/-- the head: the law holds, if its call is walked -/
theorem head_k (hc : WalkO (view (OpenLaw.row PySem.Challenge.rw_deltawires_k37_whole_texts_there_and_bac).prog [114]) K37.loose (XL (view (OpenLaw.row PySem.Challenge.rw_deltawires_k37_whole_texts_there_and_bac).prog [114]) []) K37.hk.says (OpenLaw.row PySem.Challenge.rw_deltawires_k37_whole_texts_there_and_bac).toRowW (HandSHeadRun.topDef (OpenLaw.row PySem.Challenge.rw_deltawires_k37_whole_texts_there_and_bac).prog 114) [] fun f vs => PySem.call f vs) : PySem.Challenge.rw_deltawires_k37_whole_texts_there_and_bac.Holds := by
  w_on; o_law
  refine HandSHeadRun.head_any (r := OpenLaw.row PySem.Challenge.rw_deltawires_k37_whole_texts_there_and_bac) (q := view (OpenLaw.row PySem.Challenge.rw_deltawires_k37_whole_texts_there_and_bac).prog [114]) (H := K37.hk) (ob := K37.ob) (M := 30000) (loose := K37.loose) (d := HandSHeadRun.topDef (OpenLaw.row PySem.Challenge.rw_deltawires_k37_whole_texts_there_and_bac).prog 114) (kwd := []) K37.ob_eq
    (by kernel_rfl) (fun s => by kernel_rfl) K37.run (by kernel_rfl) (by kernel_rfl) (by kernel_rfl) (by rfl) (by first | assumption | decide +kernel) (by decide +kernel) ⟨rfl, rfl, rfl, rfl, rfl, by decide +kernel⟩ ?hw hc
  case hw => w_witness2
theorem law_name : (HandSHeadRun.topDef (OpenLaw.row PySem.Challenge.rw_deltawires_k37_whole_texts_there_and_bac).prog 114).name = ("law" : PySem.Str) := by kernel_rfl
theorem law_def : (HandSHeadRun.topDef (OpenLaw.row PySem.Challenge.rw_deltawires_k37_whole_texts_there_and_bac).prog 114).params.defaults = [] := by kernel_rfl
end
end K37
set_option maxHeartbeats 4000000
/-! K37C: dicts, dict comprehensions, comprehensions with two sources -/
namespace K37
open PySem L2 TL
open PyProof.Rows hiding St

/-- tuples and lists stand -/
def Lk (H H' : Hp) : Prop := (∀ b xs, H b = some (.tup xs) → H' b = some (.tup xs)) ∧ ∀ b xs, H b = some (.lst xs) → H' b = some (.lst xs)
theorem same_lk {H H' : Hp} (s : Same H H') : Lk H H' := ⟨fun b xs h => s b _ h, fun b xs h => s b _ h⟩
theorem Lk.trans {H H1 H2 : Hp} (x : Lk H H1) (y : Lk H1 H2) : Lk H H2 := ⟨fun b xs h => y.1 b xs (x.1 b xs h), fun b xs h => y.2 b xs (x.2 b xs h)⟩
theorem lk_upd {H : Hp} {a : Addr} {l : List (Key × V)} {o : HO} (h : H a = some (.dK l)) : Lk H (L2.upd H a o) :=
  ⟨fun b xs q => by rw [upd_ne (ne_of q h (by intro z; cases z))]; exact q, fun b xs q => by rw [upd_ne (ne_of q h (by intro z; cases z))]; exact q⟩
/-- a dict comprehension's turns over J -/
def DcOk (J : It) (g : TG) (tt : TT) (tk tv : TE) (vs : List Nat) (σ : St) (H1 : Hp) (Q : VK) : Prop := ∀ D, H1 D = none → ∃ W : Nat → Nat → Hp → Prop, (∃ m, W 0 m (upd H1 D (.dK []))) ∧ ∀ i m H, W i m H →
  (J.stop i H ∧ Q (.ref D) H) ∨ (J.go i H ∧ ∃ Nx : Hp → Prop, (∀ H', Nx H' → ∃ m', m' < m ∧ W (i + 1) m' H') ∧ ∀ x H', J.yld i H x H' → g x (wipe σ vs) H' fun σ2 H2 => wipe σ2 vs = wipe σ vs ∧ tt σ2 H2 fun b H3 =>
    if b = true then tk σ2 H3 fun y H4 => tv σ2 H4 fun z H5 => ∃ kvs k, y = kV k ∧ H5 D = some (.dK kvs) ∧ kvs.length < sizeLine ∧ Nx (upd H5 D (.dK (putK kvs k z))) else Nx H3)
theorem tDc_eq (wi : TI) (g : TG) (tt : TT) (tk tv : TE) (vs : List Nat) : tDc wi g tt tk tv vs = fun σ H Q => wi σ H fun J H1 => DcOk J g tt tk tv vs σ H1 Q := rfl
section
variable {J : It} {n : Nat} {f : Nat → V} {S : Hp → Prop} {g : TG} {tk tv : TE} {vs : List Nat} {σ : St} {H1 : Hp} {Q : VK}
theorem dc_text (wk : Wk J n f S) (hS : ∀ H, Same H1 H → S H) (U : Nat → List (Key × V) → Hp → Prop) (hz : n ≤ 1000000)
    (mono : ∀ i kvs H H', U i kvs H → Lk H H' → U i kvs H') (h0 : ∀ H, Same H1 H → U 0 [] H)
    (hs : ∀ i kvs H (Ky : V → V → Hp → Prop) (Kn : Hp → Prop), i < n → Same H1 H → U i kvs H → (∀ k z H', Same H H' → U (i + 1) (putK kvs (.inr k) z) H' → Ky (.str k) z H') →
      g (f i) (wipe σ vs) H fun σ2 H2 => wipe σ2 vs = wipe σ vs ∧ tYes σ2 H2 fun b H3 => if b = true then tk σ2 H3 fun y H4 => tv σ2 H4 fun z H5 => Ky y z H5 else Kn H3)
    (hd : ∀ D kvs H, Same H1 H → H1 D = none → H D = some (.dK kvs) → U n kvs H → Q (.ref D) H) :
    DcOk J g tYes tk tv vs σ H1 Q := by
  intro D hD
  refine ⟨fun i m H => i + m = n ∧ Same H1 H ∧ ∃ kvs, kvs.length ≤ i ∧ H D = some (.dK kvs) ∧ U i kvs H, ⟨n, Nat.zero_add n, same_new hD, [], Nat.le_refl 0, upd_same, h0 _ (same_new hD)⟩, ?_⟩
  rintro i m H ⟨hm, hs1, kvs, hlen, hDa, u⟩
  by_cases hlt : i < n
  · refine .inr ⟨wk.go i H hlt (hS H hs1), fun H' => Same H1 H' ∧ ∃ kvs, kvs.length ≤ i + 1 ∧ H' D = some (.dK kvs) ∧ U (i + 1) kvs H', fun H' q => ⟨n - (i + 1), by omega, by omega, q⟩, fun x H' y => ?_⟩
    obtain ⟨e, ex⟩ := wk.yl i H x H' hlt (hS H hs1) y
    subst e ex
    have z := hs i kvs _ (fun y z H5 => ∃ kvs k, y = kV k ∧ H5 D = some (.dK kvs) ∧ kvs.length < sizeLine ∧ (Same H1 (upd H5 D (.dK (putK kvs k z))) ∧ ∃ kvs2, kvs2.length ≤ i + 1 ∧ (upd H5 D (.dK (putK kvs k z))) D = some (.dK kvs2) ∧ U (i + 1) kvs2 (upd H5 D (.dK (putK kvs k z)))))
      (fun H' => Same H1 H' ∧ ∃ kvs, kvs.length ≤ i + 1 ∧ H' D = some (.dK kvs) ∧ U (i + 1) kvs H') hlt hs1 u fun k z H5 s5 u5 => ?_
    · exact z
    · refine ⟨kvs, .inr k, rfl, s5 _ _ hDa, by rw [sizeLine_eq]; omega, same_mut (hs1.trans s5) hD, _, ?_, upd_same, mono _ _ _ _ u5 (lk_upd (s5 _ _ hDa))⟩
      have := length_putK kvs (.inr k) z
      omega
  · have e : i = n := by omega
    subst e
    exact .inl ⟨wk.st H (hS H hs1), hd D kvs H hs1 hD hDa u⟩
end
/-! ### two sources -/
def Lc2Ok (J : It) (g : TG) (tt : TT) (wi1 : TI) (g1 : TG) (tt1 : TT) (te : TE) (vs vs1 : List Nat) (σ : St) (H1 : Hp) (Q : VK) : Prop := ∀ D, H1 D = none → ∃ W : Nat → Nat → Hp → Prop, (∃ m, W 0 m (upd H1 D (.lst []))) ∧ ∀ i m H, W i m H →
  (J.stop i H ∧ Q (.ref D) H) ∨ (J.go i H ∧ ∃ Nx : Hp → Prop, (∀ H', Nx H' → ∃ m', m' < m ∧ W (i + 1) m' H') ∧ ∀ x H', J.yld i H x H' → g x (wipe σ vs) H' fun σ2 H2 => wipe σ2 vs = wipe σ vs ∧ tt σ2 H2 fun b H3 =>
    if b = true then wi1 σ2 H3 fun J1 H4 => ∃ W1 : Nat → Nat → Hp → Prop, (∃ m, W1 0 m H4) ∧ ∀ j k H, W1 j k H →
      (J1.stop j H ∧ Nx H) ∨ (J1.go j H ∧ ∃ Nx1 : Hp → Prop, (∀ H', Nx1 H' → ∃ k', k' < k ∧ W1 (j + 1) k' H') ∧ ∀ x H', J1.yld j H x H' → g1 x (wipe σ2 vs1) H' fun σ3 H5 => wipe σ3 vs1 = wipe σ2 vs1 ∧ tt1 σ3 H5 fun b H6 =>
        if b = true then te σ3 H6 fun y H7 => ∃ acc, H7 D = some (.lst acc) ∧ acc.length < sizeLine ∧ Nx1 (upd H7 D (.lst (acc ++ [y]))) else Nx1 H6)
    else Nx H3)
theorem tLc2_eq (wi : TI) (g : TG) (tt : TT) (wi1 : TI) (g1 : TG) (tt1 : TT) (te : TE) (vs vs1 : List Nat) : tLc2 wi g tt wi1 g1 tt1 te vs vs1 = fun σ H Q => wi σ H fun J H1 => Lc2Ok J g tt wi1 g1 tt1 te vs vs1 σ H1 Q := rfl
/-- the inner source: a list made there, or a tuple -/
def Inn (K : PySem.W.Frag) (H : Hp) (J1 : It) (ys : List V) (H4 : Hp) : Prop := ∃ b, (J1 = Itl K b ∧ H b = none ∧ H4 b = some (.lst ys)) ∨ (J1 = Itt K b ∧ H4 b = some (.tup ys))
def flatN (F : Nat → List V) (i : Nat) : List V := (List.range i).flatMap F
theorem flatN_succ {F : Nat → List V} {i : Nat} : flatN F (i + 1) = flatN F i ++ F i := by
  unfold flatN
  rw [List.range_succ, List.flatMap_append]
  simp
theorem flatN_len {F : Nat → List V} (h : ∀ i, (F i).length ≤ 1000) : ∀ i, (flatN F i).length ≤ 1000 * i
  | 0 => by simp [flatN]
  | i + 1 => by
    have := flatN_len h i
    have := h i
    rw [flatN_succ, List.length_append]
    omega
theorem flatN_of {α : Type} {F : Nat → List V} {l : List α} {G : α → List V} (h : ∀ i a, l[i]? = some a → F i = G a) : flatN F l.length = l.flatMap G := by
  induction l generalizing F with
  | nil => rfl
  | cons a r ih =>
    have e := ih (F := fun i => F (i + 1)) fun i x hx => h (i + 1) x (by simpa using hx)
    rw [List.flatMap_cons, ← e, ← h 0 a rfl, List.length_cons]
    unfold flatN
    rw [List.range_succ_eq_map, List.flatMap_cons, List.flatMap_map]
section
variable {K : PySem.W.Frag} {J : It} {n : Nat} {f : Nat → V} {S : Hp → Prop} {g g1 : TG} {te : TE} {wi1 : TI} {vs vs1 : List Nat} {σ : St} {H1 : Hp} {Q : VK}
theorem lc2_flat (wk : Wk J n f S) (hS : ∀ H, Same H1 H → S H) (F : Nat → List V) (hz : n ≤ 1000) (hF : ∀ i, (F i).length ≤ 1000)
    (hs : ∀ i H (R : St → It → Hp → Prop) (Kn : Hp → Prop), i < n → Same H1 H →
      (∀ σ2 J1 H4, Same H H4 → Inn K H J1 (F i) H4 → (∀ x H5 (Ky : VK) (Kn' : Hp → Prop), Ky x H5 → g1 x (wipe σ2 vs1) H5 fun σ3 H6 => wipe σ3 vs1 = wipe σ2 vs1 ∧ tYes σ3 H6 fun b H7 => if b = true then te σ3 H7 Ky else Kn' H7) → R σ2 J1 H4) →
      g (f i) (wipe σ vs) H fun σ2 H2 => wipe σ2 vs = wipe σ vs ∧ tYes σ2 H2 fun b H3 => if b = true then wi1 σ2 H3 (R σ2) else Kn H3)
    (hd : ∀ D H, Same H1 H → H1 D = none → H D = some (.lst (flatN F n)) → Q (.ref D) H) :
    Lc2Ok J g tYes wi1 g1 tYes te vs vs1 σ H1 Q := by
  intro D hD
  refine ⟨fun i m H => i + m = n ∧ Same H1 H ∧ H D = some (.lst (flatN F i)), ⟨n, Nat.zero_add n, same_new hD, upd_same⟩, ?_⟩
  rintro i m H ⟨hm, hs1, hDa⟩
  by_cases hlt : i < n
  · refine .inr ⟨wk.go i H hlt (hS H hs1), fun H' => Same H1 H' ∧ H' D = some (.lst (flatN F (i + 1))), fun H' q => ⟨n - (i + 1), by omega, by omega, q⟩, fun x H' y => ?_⟩
    obtain ⟨e, ex⟩ := wk.yl i H x H' hlt (hS H hs1) y
    subst e ex
    refine hs i _ (fun σ2 J1 H4 => ∃ W1 : Nat → Nat → Hp → Prop, (∃ m, W1 0 m H4) ∧ ∀ j k H, W1 j k H →
      (J1.stop j H ∧ (Same H1 H ∧ H D = some (.lst (flatN F (i + 1))))) ∨ (J1.go j H ∧ ∃ Nx1 : Hp → Prop, (∀ H', Nx1 H' → ∃ k', k' < k ∧ W1 (j + 1) k' H') ∧ ∀ x H', J1.yld j H x H' → g1 x (wipe σ2 vs1) H' fun σ3 H5 => wipe σ3 vs1 = wipe σ2 vs1 ∧ tYes σ3 H5 fun b H6 =>
        if b = true then te σ3 H6 fun y H7 => ∃ acc, H7 D = some (.lst acc) ∧ acc.length < sizeLine ∧ Nx1 (upd H7 D (.lst (acc ++ [y]))) else Nx1 H6)) _ hlt hs1 fun σ2 J1 H4 s4 inn req => ?_
    have hlen := flatN_len hF i
    have hlen1 := hF i
    have key : ∃ S1 : Hp → Prop, Wk J1 (F i).length (fun j => (F i).getD j .non) S1 ∧ S1 H4 ∧ ∀ H5 l, S1 H5 → H5 D = some (.lst l) → ∀ l', S1 (upd H5 D (.lst l')) := by
      obtain ⟨b, ⟨rfl, hb, h4⟩ | ⟨rfl, h4⟩⟩ := inn
      · refine ⟨_, wk_lst, h4, fun H5 l h5 _ l' => ?_⟩
        have hne : b ≠ D := fun z => by rw [z, hDa] at hb; cases hb
        rw [upd_ne hne]
        exact h5
      · refine ⟨_, wk_tpl, h4, fun H5 l h5 hd5 l' => ?_⟩
        rw [upd_ne (ne_of h5 hd5 (by intro z; cases z))]
        exact h5
    obtain ⟨S1, wk1, h1, keep⟩ := key
    refine ⟨fun j k H => j + k = (F i).length ∧ Same H1 H ∧ S1 H ∧ H D = some (.lst (flatN F i ++ (F i).take j)), ⟨(F i).length, Nat.zero_add _, hs1.trans s4, h1, ?_⟩, ?_⟩
    · rw [List.take_zero, List.append_nil]
      exact s4 _ _ hDa
    rintro j k H ⟨hjk, sH, sS, hDj⟩
    by_cases hj : j < (F i).length
    · refine .inr ⟨wk1.go j H hj sS, fun H => Same H1 H ∧ S1 H ∧ H D = some (.lst (flatN F i ++ (F i).take (j + 1))), fun H' q => ⟨(F i).length - (j + 1), by omega, by omega, q⟩, fun x H' y => ?_⟩
      obtain ⟨e, ex⟩ := wk1.yl j H x H' hj sS y
      subst e ex
      refine req _ _ _ _ ?_
      refine ⟨_, hDj, ?_, same_mut sH hD, keep _ _ sS hDj _, ?_⟩
      · rw [sizeLine_eq, List.length_append, List.length_take]
        omega
      · rw [upd_same, List.append_assoc]
        have : (F i).take j ++ [(F i).getD j .non] = (F i).take (j + 1) := by
          rw [List.take_succ, List.getD_eq_getElem?_getD]
          simp [hj]
        rw [this]
    · have e : j = (F i).length := by omega
      subst e
      rw [List.take_length, ← flatN_succ] at hDj
      exact .inl ⟨wk1.st H sS, sH, hDj⟩
  · have e : i = n := by omega
    subst e
    exact .inl ⟨wk.st H (hS H hs1), hd D H hs1 hD hDa⟩
end
/-! ### dicts of texts -/
section
variable {X : Cx} {o i e f : Expr} {td ty tx : TE} {p pos apos cpos : Pos}
def rListKD : List V → Hp → VK → Prop := fun xs H Q => ∃ p kvs, xs = [.ref p] ∧ H p = some (.dK kvs) ∧ New (.lst (kvs.map fun kv => kV kv.1)) H Q
theorem call_listK (hc : X.calm = true) : CallR X (.type "list") rListKD := CallR.imp (call_list_dK hc) fun xs H Q q => by
  obtain ⟨p, kvs, e, h, q⟩ := q
  exact ⟨p, kvs, e, h, q.at⟩
def tGetS (td ty : TE) : TE := fun σ H Q => td σ H fun x H1 => ty σ H1 fun y H2 => ∃ a kvs s v, x = .ref a ∧ H2 a = some (.dK kvs) ∧ y = .str s ∧ valV kvs (.inr s) = some v ∧ Q v H2
def tGet1S (td ty : TE) : TE := fun σ H Q => td σ H fun x H1 => ∃ a kvs, x = .ref a ∧ H1 a = some (.dK kvs) ∧ ty σ H1 fun y H2 => ∃ kvs s, H2 a = some (.dK kvs) ∧ y = .str s ∧ Q ((valV kvs (.inr s)).getD .non) H2
def tGet2S (td ty tx : TE) : TE := fun σ H Q => td σ H fun x H1 => ∃ a kvs, x = .ref a ∧ H1 a = some (.dK kvs) ∧ ty σ H1 fun y H2 => tx σ H2 fun z H3 => ∃ kvs s, H3 a = some (.dK kvs) ∧ y = .str s ∧ Q ((valV kvs (.inr s)).getD z) H3
theorem pe_getS (hu : X.A.units + 1 < cLine) (ho : PE X o td) (hi : PE X i ty) (hs : NoSl i) : PE X (.Subscript o i pos) (tGetS td ty) :=
  PE.imp (pe_dget hu (pe_up ho) (pe_up hi) hs) fun σ H Q q => by
    refine ⟨_, fun x H1 z => ?_, q⟩
    refine ⟨_, fun y H2 z2 => ?_, z⟩
    obtain ⟨a, kvs, s, v, rfl, h, rfl, hv, q⟩ := z2
    exact ⟨a, v, rfl, hv ▸ DGet.k (k := .inr s) h, q⟩
theorem pe_get1S (hu : X.A.units + 1 < cLine) (ho : PE X o td) (he : PE X e ty) (m : M1 X o "get" apos e cpos) : PE X (.Call (.Attribute o "get" apos) [e] [] cpos) (tGet1S td ty) :=
  PE.imp (pe_dget1 hu (pe_up ho) (pe_up he) m) fun σ H Q q => by
    refine ⟨_, fun x H1 z => ?_, q⟩
    obtain ⟨a, kvs, rfl, h, z⟩ := z
    refine ⟨a, rfl, .inl ⟨kvs, .inl h⟩, _, fun y H2 z2 => ?_, z⟩
    obtain ⟨kvs, s, h2, rfl, q⟩ := z2
    exact ⟨_, DGet.k (k := .inr s) h2, q⟩
theorem pe_get2S (hu : X.A.units + 1 < cLine) (ho : PE X o td) (he : PE X e ty) (hf : PE X f tx) (m : M2 X o "get" apos e f cpos) : PE X (.Call (.Attribute o "get" apos) [e, f] [] cpos) (tGet2S td ty tx) :=
  PE.imp (pe_dget2 hu (pe_up ho) (pe_up he) (pe_up hf) m) fun σ H Q q => by
    refine ⟨_, fun x H1 z => ?_, q⟩
    obtain ⟨a, kvs, rfl, h, z⟩ := z
    refine ⟨a, rfl, .inl ⟨kvs, .inl h⟩, _, fun y H2 z2 => ?_, z⟩
    refine ⟨_, fun w H3 z3 => ?_, z2⟩
    obtain ⟨kvs, s, h3, rfl, q⟩ := z3
    exact ⟨_, DGet.k (k := .inr s) h3, q⟩
end
theorem valV_inr {kvs : List (Key × V)} {k s : Str} {v : V} : valV (putK kvs (.inr k) v) (.inr s) = if s = k then some v else valV kvs (.inr s) := by
  rw [valV_put]
  by_cases h : s = k
  · rw [if_pos h, if_pos (by rw [h])]
  · rw [if_neg h, if_neg (fun z => h (by injection z))]
/-- the keys of a dict are texts of l -/
def KeysIn (l : List Str) (i : Nat) (kvs : List (Key × V)) : Prop := ∃ ns : List Str, kvs.map (·.1) = ns.map Sum.inr ∧ (∀ x ∈ ns, x ∈ l) ∧ ns.length ≤ i
theorem KeysIn.put {l : List Str} {i : Nat} {kvs : List (Key × V)} {k : Str} {z : V} (h : KeysIn l i kvs) (hk : k ∈ l) : KeysIn l (i + 1) (putK kvs (.inr k) z) := by
  obtain ⟨ns, e, h1, h2⟩ := h
  unfold putK
  split
  · refine ⟨ns, ?_, h1, by omega⟩
    rw [List.map_map, ← e]
    refine List.map_congr_left fun x _ => ?_
    show (if x.1 = Sum.inr k then (x.1, z) else x).1 = x.1
    split <;> rfl
  · refine ⟨ns ++ [k], by rw [List.map_append, List.map_append, e]; rfl, fun x hx => ?_, by rw [List.length_append]; simp; omega⟩
    rcases List.mem_append.mp hx with hx | hx
    · exact h1 x hx
    · simp at hx
      rw [hx]
      exact hk
/-- each once, in the order of the first -/
def uniq (l : List Str) : List Str := l.foldl (fun acc x => if x ∈ acc then acc else acc ++ [x]) []
theorem uniq_snoc (l : List Str) (x : Str) : uniq (l ++ [x]) = if x ∈ uniq l then uniq l else uniq l ++ [x] := by
  unfold uniq
  rw [List.foldl_append]
  rfl
theorem snoc_ind {α : Type} {P : List α → Prop} (h0 : P []) (h1 : ∀ l x, P l → P (l ++ [x])) (l : List α) : P l := by
  have : ∀ m : List α, P m.reverse := fun m => by
    induction m with
    | nil => exact h0
    | cons a r ih => rw [List.reverse_cons]; exact h1 _ _ ih
  have z := this l.reverse
  rwa [List.reverse_reverse] at z
theorem uniq_sub (l : List Str) : (∀ x ∈ uniq l, x ∈ l) ∧ (uniq l).length ≤ l.length := by
  induction l using snoc_ind with
  | h0 => exact ⟨fun x h => (by cases h), Nat.le_refl _⟩
  | h1 l y ih =>
    rw [uniq_snoc]
    split
    · exact ⟨fun x h => List.mem_append_left _ (ih.1 x h), by rw [List.length_append]; have := ih.2; omega⟩
    · refine ⟨fun x h => ?_, by rw [List.length_append, List.length_append]; have := ih.2; simp; omega⟩
      rcases List.mem_append.mp h with h | h
      · exact List.mem_append_left _ (ih.1 x h)
      · exact List.mem_append_right _ h
theorem keys_put {kvs : List (Key × V)} {ns : List Str} {k : Str} {z : V} (h : kvs.map (·.1) = ns.map Sum.inr) : (putK kvs (.inr k) z).map (·.1) = (if k ∈ ns then ns else ns ++ [k]).map Sum.inr := by
  have hany : (kvs.any fun kv => decide (kv.1 = (Sum.inr k : Key))) = decide (k ∈ ns) := by
    rw [Bool.eq_iff_iff, List.any_eq_true, decide_eq_true_eq]
    constructor
    · rintro ⟨kv, hm, e⟩
      have : kv.1 ∈ ns.map (Sum.inr : Str → Key) := by rw [← h]; exact List.mem_map_of_mem hm
      obtain ⟨x, hx, ex⟩ := List.mem_map.mp this
      have e2 : kv.1 = Sum.inr k := by simpa using e
      rw [e2] at ex
      cases ex
      exact hx
    · intro hk
      have : (Sum.inr k : Key) ∈ kvs.map (·.1) := by rw [h]; exact List.mem_map_of_mem hk
      obtain ⟨kv, hm, e⟩ := List.mem_map.mp this
      exact ⟨kv, hm, by simpa using e⟩
  unfold putK
  rw [hany]
  by_cases hk : k ∈ ns
  · rw [if_pos (by simpa using hk), if_pos hk, List.map_map, ← h]
    refine List.map_congr_left fun x _ => ?_
    show (if x.1 = Sum.inr k then (x.1, z) else x).1 = x.1
    split <;> rfl
  · rw [if_neg (by simpa using hk), if_neg hk, List.map_append, List.map_append, h]
    rfl
theorem keys_str {kvs : List (Key × V)} {ns : List Str} (h : kvs.map (·.1) = ns.map Sum.inr) : (kvs.map fun kv => kV kv.1) = ns.map V.str := by
  have e : (kvs.map fun kv => kV kv.1) = (kvs.map (·.1)).map kV := by rw [List.map_map]; rfl
  rw [e, h, List.map_map]
  rfl
end K37
set_option maxHeartbeats 4000000
/-! K37E: calls with keywords, enumerate, while in short -/
namespace K37
open PySem L2 TL
open PyProof.Rows hiding St

/-- the def x, called by n values and keywords ks, keeps its promise -/
structure FK (P : Program) (w : World) (K : PySem.W.Frag) (mg : Str → Option Value) (base : Heap) (x : Str) (k : Nat) (ps : List Str) (n : Nat) (ks : List Str) (gV : List V → List V → List V) (sp : Sp) : Prop where
  ex : ∃ (f : Addr) (fd : FuncData) (g : List Value → List Value → List Value), mg x = some (.ref f) ∧ PySem.W.keepIn K (.ref f) = true ∧ KBn K fd ps n ks g gV ∧ FnOk P w K mg base CX0 k f fd ps sp
structure DFK (K : PySem.W.Frag) (mg : Str → Option Value) (x : Str) (st : Stmt) (ps : List Str) (n : Nat) (ks : List Str) (gV : List V → List V → List V) : Prop where
  ex : ∃ (f : Addr) (fd : FuncData) (d0 : List V) (k0 : List (Str × V)) (g : List Value → List Value → List Value), FunD K x x (defArgs st) (defBody st) (defScope st) d0 k0 f fd ∧ mg x = some (.ref f) ∧ KBn K fd ps n ks g gV
section
variable {P : Program} {w : World} {K : PySem.W.Frag} {mg : Str → Option Value} {base : Heap} {x : Str} {st : Stmt} {N ps ks : List Str} {k n : Nat} {sp : Sp} {gV : List V → List V → List V}
theorem FK.up {j : Nat} (F : FK P w K mg base x k ps n ks gV sp) (h : k ≤ j) : FK P w K mg base x j ps n ks gV sp := by
  obtain ⟨f, fd, g, a, b, c, e⟩ := F.ex
  exact ⟨f, fd, g, a, b, c, e.mono h⟩
theorem DFK.ok (D : DFK K mg x st ps n ks gV) (S : FnScope N ps (defScope st)) (len : ∀ vs H Q E, sp vs H Q E → vs.length = ps.length)
    (hbody : ∀ (f : Addr) (cdv : Value) (A : Around) (outer : List Env) (s : Shared) (H : Hp) (vs : List V) (Q : VK) (E : XK), Room k (A.deeper (envOfC x (defScope st) s.heap.objs.size f cdv)) → sp vs H Q E →
      ∃ t, PSs (cxOf CX0 P w K mg base N x (defScope st) f cdv A outer s H E).nox (defBody st) t ∧ t { nx := fun _ H' => Q .non H', rt := Q } (start N vs) H) : FK P w K mg base x (k + 1) ps n ks gV sp := by
  obtain ⟨f, fd, d0, k0, g, a, b, c⟩ := D.ex
  refine ⟨f, fd, g, b, a.kp, c, a.ok S len fun cdv A outer s H vs Q E hr h => ?_⟩
  obtain ⟨t, h1, h2⟩ := hbody f cdv A outer s H vs Q E hr h
  exact ⟨t, h1.nox, h2⟩
end
/-- a def's body keeps a promise -/
def Bod (P : Program) (w : World) (K : PySem.W.Frag) (mg : Str → Option Value) (base : Heap) (x : Str) (st : Stmt) (N : List Str) (k : Nat) (sp : Sp) : Prop :=
  ∀ (f : Addr) (cdv : Value) (A : Around) (outer : List Env) (s : Shared) (H : Hp) (vs : List V) (Q : VK) (E : XK), Room k (A.deeper (envOfC x (defScope st) s.heap.objs.size f cdv)) → sp vs H Q E →
    ∃ t, PSs (cxOf CX0 P w K mg base N x (defScope st) f cdv A outer s H E).nox (defBody st) t ∧ t { nx := fun _ H' => Q .non H', rt := Q } (start N vs) H
section
variable {X : Cx} {x : Str} {k n : Nat} {ps ks : List Str} {sp : Sp} {p pos : Pos} {e : Expr} {es : List Expr} {kws : List Keyword} {t tk : TA} {gV : List V → List V → List V}
def tCallK (sp : Sp) (gV : List V → List V → List V) (n m : Nat) (E : XK) (t tk : TA) : TE := fun σ H Q => t σ H fun vs H1 => tk σ H1 fun zs H2 => vs.length = n ∧ zs.length = m ∧ sp (gV vs zs) H2 Q E
theorem pe_fk (F : FK X.prog X.w X.K X.mg X.base x k ps n ks gV sp) (hr : Room k X.A) (ha : PA X (e :: es) t) (hkw : PK X kws tk) (hg : Gl X x := by rfl) (hall : (backToKw pos (keywordEach kws X.env)).all (·.1.isSome) = true := by rfl)
    (hks : (backToKw pos (keywordEach kws X.env)).filterMap (·.1) = ks := by rfl) (hdb : (x == ("__debug__" : Str)) = false := by decide) (he : starEach (e :: es) X.env = (false, eval e X.env) :: starEach es X.env := by rfl)
    (hpl : ((backTo pos (starEach (e :: es) X.env)).any (·.1) || (backToKw pos (keywordEach kws X.env)).any (·.1.isNone)) = false := by rfl) :
    PE X (.Call (.Name x p) (e :: es) kws pos) (tCallK sp gV n ks.length E0 t tk) := by
  obtain ⟨f, fd, g, a, b, c, F'⟩ := F.ex
  exact pe_callN F' hr hg a b c pass0 ha hkw hall hks hdb he hpl
end
/-! ### enumerate -/
def iEnumH (K : PySem.W.Frag) (ta : TA) : TI := fun σ H R => ta σ H fun vs H1 => ∃ a xs, vs = [.ref a] ∧ H1 a = some (.lst xs) ∧ R (Ite K a) H1
section
variable {X : Cx} {e : Expr} {ta : TA} {p pos tpos : Pos} {elts : List Expr} {kk : Nat}
theorem pi_enumD (hg : Gl X "enumerate") (hm : X.mg "enumerate" = none) (ha : PA X [e] ta) (hs : starEach [e] X.env = [(false, eval e X.env)] := by rfl) :
    PI X (.Tuple elts kk tpos) (.Call (.Name "enumerate" p) [e] [] pos) (iEnumH X.K ta) := PI.imp (pi_enum hg hm (pa_up ha) hs) fun σ H R q => ⟨_, fun vs H1 z => by
  obtain ⟨a, xs, e, h, r⟩ := z
  exact ⟨a, xs, e, SqL.of h, r⟩, q⟩
end
section
variable {K : PySem.W.Frag} {a : Addr} {xs : List V} {g : TG} {tb : TS} {D : Ends} {σ : St} {H1 : Hp}
theorem for_enum (Pv : Nat → St → Hp → Prop) (h0 : Pv 0 σ H1) (hS : ∀ i σ H, Pv i σ H → H a = some (.lst xs))
    (hs : ∀ i σ H x T H', xs[i]? = some x → Pv i σ H → H T = none → Same H H' → H' T = some (.tup [.int (i : Nat), x]) → g (.ref T) σ H' fun σ2 H2 => tb { D with nx := Pv (i + 1), ct := Pv (i + 1), bk := D.nx } σ2 H2)
    (hd : ∀ σ H, Pv xs.length σ H → D.nx σ H) : ForOk (Ite K a) g tb D σ H1 := by
  refine ⟨fun i m σ H => i + m = xs.length ∧ Pv i σ H, ⟨xs.length, Nat.zero_add _, h0⟩, ?_⟩
  rintro i m σ H ⟨hm, p⟩
  have hl := SqL.of (K := K) (hS i σ H p)
  by_cases hlt : i < xs.length
  · refine .inr ⟨⟨xs, xs[i], hl, by simp [hlt]⟩, Pv (i + 1), fun σ' H' p' => ⟨xs.length - (i + 1), by omega, by omega, p'⟩, fun x H' y => ?_⟩
    obtain ⟨T, x, rfl, hT, rfl, hx⟩ := y
    exact hs i σ H x T _ (hx xs hl) p hT (same_new hT) upd_same
  · have e : i = xs.length := by omega
    subst e
    exact .inl ⟨⟨xs, hl, Nat.le_refl _⟩, hd σ H p⟩
end
/-! ### methods -/
def tML (r : V → List V → Hp → VK → Prop) (to : TE) (t : TA) : TE := fun σ H Q => to σ H fun x H1 => ∃ a, x = .ref a ∧ (∃ xs, H1 a = some (.lst xs)) ∧ t σ H1 fun ys H2 => r (.ref a) ys H2 Q
def tML0 (r : V → List V → Hp → VK → Prop) (to : TE) : TE := fun σ H Q => to σ H fun x H1 => ∃ a, x = .ref a ∧ (∃ xs, H1 a = some (.lst xs)) ∧ r (.ref a) [] H1 Q
def tMS (r : V → List V → Hp → VK → Prop) (to : TE) (t : TA) : TE := fun σ H Q => to σ H fun x H1 => ∃ s, x = .str s ∧ t σ H1 fun ys H2 => r (.str s) ys H2 Q
section
variable {X : Cx} {o e : Expr} {es : List Expr} {to : TE} {t : TA} {name : Str} {apos cpos : Pos} {id : String} {r : V → List V → Hp → VK → Prop}
theorem pe_bmL (slot : Slot "list" name id) (hty : typeOf (.builtin id) = pure (.type "method_descriptor")) (hm : MtR X id r) (ho : PE X o to) (ha : PA X (e :: es) t)
    (hbase : attributeBase o name X.env (eval o X.env) = eval o X.env := by rfl)
    (hfew : ((backTo cpos (starEach (e :: es) X.env)).all (fun x => !x.1) && (backToKw cpos (keywordEach [] X.env)).all (fun x => x.1.isSome) && decide ((e :: es).length + ([] : List Keyword).length + (if ([] : List Keyword).isEmpty then 0 else 1) < 30)) = true := by rfl)
    (he : starEach (e :: es) X.env = (false, eval e X.env) :: starEach es X.env := by rfl) (hpl : (backTo cpos (starEach es X.env)).any (·.1) = false := by rfl)
    (hline : (apos.endLine == cpos.line) = true := by rfl) : PE X (.Call (.Attribute o name apos) (e :: es) [] cpos) (tML r to t) :=
  PE.imp (pe_bm PySem.F.plainAttrs_list slot hty hm (pe_up ho) (pa_up ha) hbase hfew hline he hpl) fun σ H Q q => by
    refine ⟨_, fun x H1 z => ?_, q⟩
    obtain ⟨a, rfl, ⟨xs, h⟩, z⟩ := z
    exact ⟨.inl ⟨rfl, xs, SqL.of h⟩, _, fun ys H2 z2 => z2, z⟩
theorem pe_bmL0 (slot : Slot "list" name id) (hty : typeOf (.builtin id) = pure (.type "method_descriptor")) (hm : MtR X id r) (ho : PE X o to)
    (hbase : attributeBase o name X.env (eval o X.env) = eval o X.env := by rfl) (hline : (apos.endLine == cpos.line) = true := by rfl) : PE X (.Call (.Attribute o name apos) [] [] cpos) (tML0 r to) :=
  PE.imp (pe_bm0 PySem.F.plainAttrs_list slot hty hm (pe_up ho) hbase hline) fun σ H Q q => by
    refine ⟨_, fun x H1 z => ?_, q⟩
    obtain ⟨a, rfl, ⟨xs, h⟩, z⟩ := z
    exact ⟨.inl ⟨rfl, xs, SqL.of h⟩, z⟩
theorem pe_bmS (slot : Slot "str" name id) (hty : typeOf (.builtin id) = pure (.type "method_descriptor")) (hm : MtR X id r) (ho : PE X o to) (ha : PA X (e :: es) t)
    (hbase : attributeBase o name X.env (eval o X.env) = eval o X.env := by rfl)
    (hfew : ((backTo cpos (starEach (e :: es) X.env)).all (fun x => !x.1) && (backToKw cpos (keywordEach [] X.env)).all (fun x => x.1.isSome) && decide ((e :: es).length + ([] : List Keyword).length + (if ([] : List Keyword).isEmpty then 0 else 1) < 30)) = true := by rfl)
    (he : starEach (e :: es) X.env = (false, eval e X.env) :: starEach es X.env := by rfl) (hpl : (backTo cpos (starEach es X.env)).any (·.1) = false := by rfl)
    (hline : (apos.endLine == cpos.line) = true := by rfl) : PE X (.Call (.Attribute o name apos) (e :: es) [] cpos) (tMS r to t) :=
  PE.imp (pe_bm PySem.F.plainAttrs_str slot hty hm (pe_up ho) (pa_up ha) hbase hfew hline he hpl) fun σ H Q q => by
    refine ⟨_, fun x H1 z => ?_, q⟩
    obtain ⟨s, rfl, z⟩ := z
    exact ⟨rfl, _, fun ys H2 z2 => z2, z⟩
end
def rStrI : List V → Hp → VK → Prop := fun xs H Q => ∃ i : Int, xs = [.int i] ∧ i.natAbs ≤ 1000000 ∧ Q (.str (toString i)) H
theorem log_small {n : Nat} (h : n ≤ 1000000) : n.log2 < 1920 := by
  by_cases h0 : n = 0
  · subst h0
    decide
  · have := (Nat.log2_lt (n := n) (k := 1920) h0).mpr (Nat.lt_of_le_of_lt h (by decide +kernel))
    exact this
theorem call_strI {X : Cx} : CallR X (.type "str") rStrI := CallR.imp call_str_int fun xs H Q q => by
  obtain ⟨i, e, h, q⟩ := q
  exact ⟨i, e, log_small h, q⟩
end K37
set_option maxHeartbeats 4000000
/-! K37D: terms, bodies, signals, blocks as data; what stands for one reads as its data -/
namespace K37
open PySem L2 TL
open PyProof.Rows hiding St

def tD : Tm → PyData
  | .is v => .tuple [.str ("is" : Str), .str v]
  | .of n => .tuple [.str ("of" : Str), .str n]
  | .u w a => .tuple [.str w, tD a]
  | .b w a b => .tuple [.str w, tD a, tD b]
  | .p a b c => .tuple [.str ("pick" : Str), tD a, tD b, tD c]
  | .t a hi lo => .tuple [.str ("part" : Str), tD a, .int (hi : Int), .int (lo : Int)]
theorem RT.dp {K : PySem.W.Frag} {H : Hp} : ∀ (t : Tm) (x : V), RT H t x → Dp K H x (tD t)
  | .is v, _, ⟨a, e, h⟩ => e ▸ .tup (SqT.of h) (.cons (.str _) (.cons (.str _) .nil))
  | .of v, _, ⟨a, e, h⟩ => e ▸ .tup (SqT.of h) (.cons (.str _) (.cons (.str _) .nil))
  | .u w s, _, ⟨a, v, e, h, q⟩ => e ▸ .tup (SqT.of h) (.cons (.str _) (.cons (RT.dp s v q) .nil))
  | .b w s t, _, ⟨a, v, u, e, h, q, q'⟩ => e ▸ .tup (SqT.of h) (.cons (.str _) (.cons (RT.dp s v q) (.cons (RT.dp t u q') .nil)))
  | .p r s t, _, ⟨a, z, v, u, e, h, q, q', q''⟩ => e ▸ .tup (SqT.of h) (.cons (.str _) (.cons (RT.dp r z q) (.cons (RT.dp s v q') (.cons (RT.dp t u q'') .nil))))
  | .t s hi lo, _, ⟨a, v, e, h, q⟩ => e ▸ .tup (SqT.of h) (.cons (.str _) (.cons (RT.dp s v q) (.cons (.int _) (.cons (.int _) .nil))))
def asc (x : Str) : Prop := ∀ c ∈ tl x, c < 128
theorem lay_str {x : Str} (h : asc x) : PyData.canLay0 (.str x) = true := by
  simp only [PyData.canLay0, PyData.strOk, Array.all_eq_true, decide_eq_true_eq]
  intro i hi
  have := h x.cps[i] (by show x.cps[i] ∈ x.cps.toList; simp)
  omega
theorem asc_name {n : Str} (h : NameOk n) : asc n := fun c hc => by
  have := h.al c hc
  unfold isLet isFig at this
  omega
theorem asc_val {v : Str} {k : Nat} (h : ValOk v k) : asc v := fun c hc => by
  have := h.al c hc
  omega
theorem asc_lit (l : List Nat) {s : Str} (e : tl s = l) (h : l.all (· < 128) = true) : asc s := fun c hc => by
  rw [e] at hc
  have := List.all_eq_true.mp h c hc
  simpa using this
theorem asc_words : ∀ w ∈ (["is", "of", "not", "and", "or", "xor", "plus", "same", "less", "any", "all", "pick", "join", "part", "if", "now", "later", "rise", "fall", "input", "kept", "wire", "filter", "bus"] : List Str), asc w := by
  have h : ∀ w ∈ (["is", "of", "not", "and", "or", "xor", "plus", "same", "less", "any", "all", "pick", "join", "part", "if", "now", "later", "rise", "fall", "input", "kept", "wire", "filter", "bus"] : List Str), (tl w).all (· < 128) = true := by decide +kernel
  exact fun w hw => asc_lit _ rfl (h w hw)
theorem lay_tup {l : List PyData} (h : ∀ d ∈ l, PyData.canLay0 d = true) : PyData.canLayAll0 l = true := by
  induction l with
  | nil => simp only [PyData.canLayAll0]
  | cons a r ih =>
    simp only [PyData.canLayAll0, Bool.and_eq_true]
    exact ⟨h a List.mem_cons_self, ih fun d hd => h d (List.mem_cons_of_mem _ hd)⟩
theorem Fit.word {G : Str → Nat → Prop} {w : Str} {a b : Tm} {k : Nat} (h : Fit G (.b w a b) k) : w ∈ (["and", "or", "xor", "plus", "same", "less", "join"] : List Str) := by
  rcases h with ⟨e, _⟩ | ⟨e, _⟩ | ⟨e, _⟩
  · rcases e with rfl | rfl | rfl | rfl <;> simp
  · rcases e with rfl | rfl <;> simp
  · subst e
    simp
theorem Fit.wordu {G : Str → Nat → Prop} {w : Str} {a : Tm} {k : Nat} (h : Fit G (.u w a) k) : w ∈ (["not", "any", "all"] : List Str) := by
  rcases h with ⟨e, _⟩ | ⟨e, _⟩
  · subst e
    simp
  · rcases e with rfl | rfl <;> simp
/-- the terms within a fitting term fit -/
theorem Fit.subs {G : Str → Nat → Prop} : ∀ {t : Tm} {k : Nat}, Fit G t k → ∀ s ∈ subs t, ∃ j, Fit G s j
  | .is _, _, _, s, h => by cases h
  | .of _, _, _, s, h => by cases h
  | .u _ a, k, q, s, h => by
    simp [K37.subs] at h
    subst h
    rcases q with ⟨_, q⟩ | ⟨_, _, j, q⟩
    · exact ⟨k, q⟩
    · exact ⟨j, q⟩
  | .b _ a b, k, q, s, h => by
    simp [K37.subs] at h
    rcases q with ⟨_, q, q'⟩ | ⟨_, _, j, q, q'⟩ | ⟨_, i, j, _, _, q, q'⟩ <;> rcases h with rfl | rfl
    · exact ⟨_, q⟩
    · exact ⟨_, q'⟩
    · exact ⟨_, q⟩
    · exact ⟨_, q'⟩
    · exact ⟨_, q⟩
    · exact ⟨_, q'⟩
  | .p a b c, k, q, s, h => by
    simp [K37.subs] at h
    rcases h with rfl | rfl | rfl
    · exact ⟨_, q.1⟩
    · exact ⟨_, q.2.1⟩
    · exact ⟨_, q.2.2⟩
  | .t a _ _, k, q, s, h => by
    simp [K37.subs] at h
    subst h
    obtain ⟨j, q, _⟩ := q
    exact ⟨j, q⟩
theorem lay_w {w : Str} (h : w ∈ (["is", "of", "not", "and", "or", "xor", "plus", "same", "less", "any", "all", "pick", "join", "part", "if", "now", "later", "rise", "fall", "input", "kept", "wire", "filter", "bus"] : List Str)) : PyData.canLay0 (.str w) = true := lay_str (asc_words w h)
theorem tD_lay {G : Str → Nat → Prop} : ∀ (t : Tm) (k : Nat), Fit G t k → PyData.canLay0 (tD t) = true
  | .is v, k, q => by
    simp only [tD, PyData.canLay0, PyData.canLayAll0, Bool.and_true, Bool.and_eq_true]
    exact ⟨lay_w (by simp), lay_str (asc_val q)⟩
  | .of v, k, q => by
    simp only [tD, PyData.canLay0, PyData.canLayAll0, Bool.and_true, Bool.and_eq_true]
    exact ⟨lay_w (by simp), lay_str (asc_name q.1)⟩
  | .u w a, k, q => by
    obtain ⟨j, ha⟩ := Fit.subs q a (by simp [subs])
    have hw := Fit.wordu q
    simp only [tD, PyData.canLay0, PyData.canLayAll0, Bool.and_true, Bool.and_eq_true]
    exact ⟨lay_w (by simp at hw; rcases hw with rfl | rfl | rfl <;> simp), tD_lay a j ha⟩
  | .b w a b, k, q => by
    obtain ⟨j, ha⟩ := Fit.subs q a (by simp [subs])
    obtain ⟨j', hb⟩ := Fit.subs q b (by simp [subs])
    have hw := Fit.word q
    simp only [tD, PyData.canLay0, PyData.canLayAll0, Bool.and_true, Bool.and_eq_true]
    exact ⟨lay_w (by simp at hw; rcases hw with rfl | rfl | rfl | rfl | rfl | rfl | rfl <;> simp), tD_lay a j ha, tD_lay b j' hb⟩
  | .p a b c, k, q => by
    simp only [tD, PyData.canLay0, PyData.canLayAll0, Bool.and_true, Bool.and_eq_true]
    exact ⟨lay_w (by simp), tD_lay a 1 q.1, tD_lay b k q.2.1, tD_lay c k q.2.2⟩
  | .t a hi lo, k, q => by
    obtain ⟨j, ha⟩ := Fit.subs q a (by simp [subs])
    simp only [tD, PyData.canLay0, PyData.canLayAll0, Bool.and_true, Bool.and_eq_true]
    exact ⟨lay_w (by simp), tD_lay a j ha⟩
theorem tD_depth : ∀ t : Tm, PyData.depth (tD t) ≤ deep t
  | .is v => by simp only [tD, PyData.depth, PyData.depthAll, deep]; omega
  | .of v => by simp only [tD, PyData.depth, PyData.depthAll, deep]; omega
  | .u w a => by
    have := tD_depth a
    simp only [tD, PyData.depth, PyData.depthAll, deep]
    omega
  | .b w a b => by
    have := tD_depth a
    have := tD_depth b
    simp only [tD, PyData.depth, PyData.depthAll, deep]
    omega
  | .p a b c => by
    have := tD_depth a
    have := tD_depth b
    have := tD_depth c
    simp only [tD, PyData.depth, PyData.depthAll, deep]
    omega
  | .t a hi lo => by
    have := tD_depth a
    simp only [tD, PyData.depth, PyData.depthAll, deep]
    omega
theorem shaped_of {d : PyData} (h : PyData.canLay0 d = true) (h2 : PyData.depth d ≤ 64) : SeqAt.shaped d = true := by
  unfold SeqAt.shaped
  rw [h, decide_eq_true h2]
  rfl
theorem tD_shaped {G : Str → Nat → Prop} {t : Tm} {k : Nat} (h : Fit G t k) (hd : deep t ≤ 10) : SeqAt.shaped (tD t) = true := shaped_of (tD_lay t k h) (by have := tD_depth t; omega)
theorem tD_ne (t : Tm) : PyData.eqv (tD t) (.tuple []) = false := by
  cases t <;> simp only [tD, PyData.eqv, PyData.eqvAll]

/-! ### bodies, signals, blocks -/
def bD : Bd → List PyData
  | .nil => []
  | .set w n t r => .tuple [.str w, .str n, tD t] :: bD r
  | .ite c a b r => .tuple [.str ("if" : Str), tD c, .tuple (bD a), .tuple (bD b)] :: bD r
theorem RBl.dp {K : PySem.W.Frag} {H : Hp} : ∀ (b : Bd) (xs : List V), RBl H b xs → DpAll K H xs (bD b)
  | .nil, _, h => by
    have e : _ = [] := h
    subst e
    exact .nil
  | .set w n t r, _, ⟨a, v, ys, e, h, q, q'⟩ => by
    subst e
    exact .cons (.tup (SqT.of h) (.cons (.str _) (.cons (.str _) (.cons (RT.dp t v q) .nil)))) (RBl.dp r ys q')
  | .ite c s t r, _, ⟨a, v, p, q, ps, qs, ys, e, h, h1, h2, h3, h4, h5, h6⟩ => by
    subst e
    exact .cons (.tup (SqT.of h) (.cons (.str _) (.cons (RT.dp c v h1) (.cons (.tup (SqT.of h2) (RBl.dp s ps h3)) (.cons (.tup (SqT.of h4) (RBl.dp t qs h5)) .nil))))) (RBl.dp r ys h6)
theorem bD_lay {sg : List Sg} {f : Str → Str} : ∀ b : Bd, (∀ s ∈ sg, NameOk s.name) → BdOk (GW sg) (GK sg) f b → ∀ d ∈ bD b, PyData.canLay0 d = true
  | .nil, _, _, d, h => by cases h
  | .set w n t r, hn, q, d, h => by
    rcases List.mem_cons.mp h with rfl | h
    · obtain ⟨hw, _, ⟨k, ⟨v, hk⟩, ht⟩, _⟩ := q
      simp only [PyData.canLay0, PyData.canLayAll0, Bool.and_true, Bool.and_eq_true]
      exact ⟨lay_w (by rcases hw with rfl | rfl <;> simp), lay_str (asc_name (hn _ hk)), tD_lay t k ht.1⟩
    · exact bD_lay r hn q.2.2.2 d h
  | .ite c a b r, hn, q, d, h => by
    rcases List.mem_cons.mp h with rfl | h
    · simp only [PyData.canLay0, PyData.canLayAll0, Bool.and_true, Bool.and_eq_true]
      exact ⟨lay_w (by simp), tD_lay c 1 q.1.1, lay_tup (bD_lay a hn q.2.1), lay_tup (bD_lay b hn q.2.2.1)⟩
    · exact bD_lay r hn q.2.2.2 d h
theorem bD_depth {G Kp : Str → Nat → Prop} {f : Str → Str} : ∀ b : Bd, BdOk G Kp f b → PyData.depthAll (bD b) ≤ 2 * bdeep b + 10
  | .nil, _ => by simp only [bD, PyData.depthAll]; omega
  | .set w n t r, q => by
    have h1 := bD_depth r q.2.2.2
    obtain ⟨_, _, ⟨k, _, ht⟩, _⟩ := q
    have h2 := tD_depth t
    have h3 := ht.2.1
    simp only [bD, PyData.depthAll, PyData.depth, bdeep]
    omega
  | .ite c a b r, q => by
    have h1 := bD_depth r q.2.2.2
    have h2 := bD_depth a q.2.1
    have h3 := bD_depth b q.2.2.1
    have h4 := tD_depth c
    have h5 := q.1.2.1
    simp only [bD, PyData.depthAll, PyData.depth, bdeep]
    omega
def wD : Sg → PyData
  | .inp _ _ => .none
  | .kept _ _ v => .str v
  | .wire _ _ t => tD t
  | .filt _ _ t => tD t
  | .bus _ _ ds => .tuple (ds.map fun d => .tuple [tD d.1, tD d.2])
def sD (s : Sg) : PyData := .tuple [.str s.sort, .str s.name, .int (s.wd : Int), wD s]
def kD (k : Bk) : PyData := .tuple [.str k.name, .str k.edge, .str k.trig, .tuple (bD k.body)]
theorem all2_dp {α : Type} {K : PySem.W.Frag} {H : Hp} {R : α → V → Prop} {f : α → PyData} (h : ∀ a x, R a x → Dp K H x (f a)) : ∀ {l : List α} {xs : List V}, All2 R l xs → DpAll K H xs (l.map f)
  | _, _, .nil => .nil
  | _, _, .cons r t => .cons (h _ _ r) (all2_dp h t)
theorem RW.dp {K : PySem.W.Frag} {H : Hp} : ∀ {s : Sg} {x : V}, RW H s x → Dp K H x (wD s)
  | .inp _ _, x, h => by
    have e : x = .non := h
    subst e
    exact .non
  | .kept _ _ v, x, h => by
    have e : x = .str v := h
    subst e
    exact .str v
  | .wire _ _ t, x, h => RT.dp t x h
  | .filt _ _ t, x, h => RT.dp t x h
  | .bus _ _ ds, x, ⟨a, xs, e, h, q⟩ => by
    subst e
    refine .tup (SqT.of h) (all2_dp (fun d y z => ?_) q)
    obtain ⟨b, v, u, e, h, q, q'⟩ := z
    subst e
    exact .tup (SqT.of h) (.cons (RT.dp _ _ q) (.cons (RT.dp _ _ q') .nil))
theorem RS.dp {K : PySem.W.Frag} {H : Hp} {s : Sg} {x : V} : RS H s x → Dp K H x (sD s) := fun ⟨a, v, e, h, q⟩ => e ▸ .tup (SqT.of h) (.cons (.str _) (.cons (.str _) (.cons (.int _) (.cons q.dp .nil))))
theorem RK.dp {K : PySem.W.Frag} {H : Hp} {b : Bk} {x : V} : RK H b x → Dp K H x (kD b) := fun ⟨a, v, e, h, b, xs, e2, h2, q⟩ => by
  subst e e2
  exact .tup (SqT.of h) (.cons (.str _) (.cons (.str _) (.cons (.str _) (.cons (.tup (SqT.of h2) (RBl.dp _ _ q)) .nil))))
def sgD (sg : List Sg) : PyData := .list (sg.map sD)
def blD (bl : List Bk) : PyData := .list (bl.map kD)
theorem LS.dp {K : PySem.W.Frag} {H : Hp} {a : Addr} {sg : List Sg} : LS H a sg → Dp K H (.ref a) (sgD sg) := fun ⟨xs, h, q⟩ => .lst (SqL.of h) (all2_dp (fun _ _ z => z.dp) q)
theorem LK.dp {K : PySem.W.Frag} {H : Hp} {a : Addr} {bl : List Bk} : LK H a bl → Dp K H (.ref a) (blD bl) := fun ⟨xs, h, q⟩ => .lst (SqL.of h) (all2_dp (fun _ _ z => z.dp) q)
theorem depth_all {l : List PyData} {n : Nat} (h : ∀ d ∈ l, PyData.depth d ≤ n) : PyData.depthAll l ≤ n := by
  induction l with
  | nil => simp only [PyData.depthAll]; omega
  | cons a r ih =>
    have h1 := h a List.mem_cons_self
    have h2 := ih fun d hd => h d (List.mem_cons_of_mem _ hd)
    simp only [PyData.depthAll]
    omega
theorem sgD_shaped {sg : List Sg} {bl : List Bk} (V : Valid sg bl) : SeqAt.shaped (sgD sg) = true := by
  have hs : ∀ s ∈ sg, PyData.canLay0 (wD s) = true ∧ PyData.depth (wD s) ≤ 12 := fun s hs => by
    have q := V.wh s hs
    cases s with
    | inp n k => exact ⟨by simp only [wD, PyData.canLay0], by simp only [wD, PyData.depth]; omega⟩
    | kept n k v => exact ⟨lay_str (asc_val q), by simp only [wD, PyData.depth]; omega⟩
    | wire n k t => exact ⟨tD_lay t k q.1, by have := tD_depth t; have := q.2.1; simp only [wD]; omega⟩
    | filt n k t => exact ⟨tD_lay t k q.1, by have := tD_depth t; have := q.2.1; simp only [wD]; omega⟩
    | bus n k ds =>
      obtain ⟨_, _, q⟩ := q
      refine ⟨?_, ?_⟩
      · simp only [wD, PyData.canLay0]
        refine lay_tup fun d hd => ?_
        obtain ⟨e, he, rfl⟩ := List.mem_map.mp hd
        simp only [PyData.canLay0, PyData.canLayAll0, Bool.and_true, Bool.and_eq_true]
        exact ⟨tD_lay _ _ (q e he).1.1, tD_lay _ _ (q e he).2.1⟩
      · simp only [wD, PyData.depth]
        refine Nat.succ_le_succ (depth_all (n := 11) fun d hd => ?_)
        obtain ⟨e, he, rfl⟩ := List.mem_map.mp hd
        have h1 := tD_depth e.1
        have h2 := tD_depth e.2
        have h3 := (q e he).1.2.1
        have h4 := (q e he).2.2.1
        simp only [PyData.depth, PyData.depthAll]
        omega
  refine shaped_of ?_ ?_
  · simp only [sgD, PyData.canLay0]
    refine lay_tup fun d hd => ?_
    obtain ⟨s, h, rfl⟩ := List.mem_map.mp hd
    simp only [sD, PyData.canLay0, PyData.canLayAll0, Bool.and_true, Bool.and_eq_true, true_and]
    exact ⟨lay_w (by cases s <;> simp [Sg.sort]), lay_str (asc_name (V.nm s h).1), (hs s h).1⟩
  · simp only [sgD, PyData.depth]
    have := depth_all (l := sg.map sD) (n := 13) fun d hd => by
      obtain ⟨s, h, rfl⟩ := List.mem_map.mp hd
      have := (hs s h).2
      simp only [sD, PyData.depth, PyData.depthAll]
      omega
    omega
theorem blD_shaped {sg : List Sg} {bl : List Bk} (V : Valid sg bl) : SeqAt.shaped (blD bl) = true := by
  obtain ⟨f, hk⟩ := V.bk
  refine shaped_of ?_ ?_
  · simp only [blD, PyData.canLay0]
    refine lay_tup fun d hd => ?_
    obtain ⟨k, h, rfl⟩ := List.mem_map.mp hd
    have q := hk k h
    obtain ⟨s, hs, e, _⟩ := q.tr
    simp only [kD, PyData.canLay0, PyData.canLayAll0, Bool.and_true, Bool.and_eq_true]
    refine ⟨lay_str (asc_name q.nm), lay_w (by rcases q.ed with e | e <;> rw [e] <;> simp), lay_str (by rw [← e]; exact asc_name (V.nm s hs).1), lay_tup (bD_lay k.body (fun s hs => (V.nm s hs).1) q.bd)⟩
  · simp only [blD, PyData.depth]
    have := depth_all (l := bl.map kD) (n := 20) fun d hd => by
      obtain ⟨k, h, rfl⟩ := List.mem_map.mp hd
      have q := hk k h
      have h1 := bD_depth k.body q.bd
      have h2 := q.dp
      simp only [kD, PyData.depth, PyData.depthAll]
      omega
    omega
end K37
set_option maxHeartbeats 4000000
/-! K37F: lists asked for emptiness; a comprehension that makes lists; scopes within scopes -/
namespace K37
open PySem L2 TL
open PyProof.Rows hiding St
theorem dp_strs {K : PySem.W.Frag} {H : Hp} : ∀ ns : List Str, DpAll K H (ns.map V.str) (ns.map PyData.str)
  | [] => .nil
  | n :: r => .cons (.str n) (dp_strs r)
theorem shaped_strs {ns : List Str} (h : ∀ n ∈ ns, asc n) : SeqAt.shaped (.list (ns.map PyData.str)) = true := by
  refine shaped_of ?_ ?_
  · simp only [PyData.canLay0]
    refine lay_tup fun d hd => ?_
    obtain ⟨n, hn, rfl⟩ := List.mem_map.mp hd
    exact lay_str (h n hn)
  · simp only [PyData.depth]
    have := depth_all (l := ns.map PyData.str) (n := 1) fun d hd => by
      obtain ⟨n, hn, rfl⟩ := List.mem_map.mp hd
      simp only [PyData.depth]
      omega
    omega
theorem eqv_nil {ds : List PyData} : PyData.eqv (.list ds) (.list []) = ds.isEmpty := by
  cases ds <;> simp only [PyData.eqv, PyData.eqvAll, List.isEmpty]
theorem dpAll_len {K : PySem.W.Frag} {H : Hp} : ∀ {xs : List V} {ds : List PyData}, DpAll K H xs ds → xs.isEmpty = ds.isEmpty
  | _, _, .nil => rfl
  | _, _, .cons _ _ => rfl
def tNilL (K : PySem.W.Frag) (neg : Bool) (te : TE) : TE := fun σ H Q => te σ H fun x H1 => ∃ a xs ds, x = .ref a ∧ H1 a = some (.lst xs) ∧ (∀ H2, Same H1 H2 → DpAll K H2 xs ds) ∧ SeqAt.shaped (.list ds) = true ∧ ∀ H2, Same H1 H2 → Q (.bl (if neg then !xs.isEmpty else xs.isEmpty)) H2
section
variable {X : Cx} {e : Expr} {te : TE} {p2 pos : Pos}
theorem nilL_eq {σ : St} {H : Hp} {Q : VK} (q : tNilL X.K false te σ H Q) : tOp (rEqD X.K) (tUp te) (tLst tNil) σ H Q := by
  refine ⟨_, fun x H1 z => ?_, q⟩
  obtain ⟨a, xs, ds, rfl, h, hd, hs, q⟩ := z
  refine ⟨Nat.zero_le _, fun p hp => ⟨_, _, .lst (SqL.of (same_new hp _ _ h)) (hd _ (same_new hp)), .lst (SqL.of upd_same) .nil, hs, by decide, ?_⟩⟩
  have z := q _ (same_new (o := .lst []) hp)
  rw [dpAll_len (hd _ (same_new (o := .lst []) hp))] at z
  rw [eqv_nil]
  exact z
theorem nilL_ne {σ : St} {H : Hp} {Q : VK} (q : tNilL X.K true te σ H Q) : tOp (rNeD X.K) (tUp te) (tLst tNil) σ H Q := by
  refine ⟨_, fun x H1 z => ?_, q⟩
  obtain ⟨a, xs, ds, rfl, h, hd, hs, q⟩ := z
  refine ⟨Nat.zero_le _, fun p hp => ⟨_, _, .lst (SqL.of (same_new hp _ _ h)) (hd _ (same_new hp)), .lst (SqL.of upd_same) .nil, hs, by decide, ?_⟩⟩
  have z := q _ (same_new (o := .lst []) hp)
  rw [dpAll_len (hd _ (same_new (o := .lst []) hp))] at z
  rw [eqv_nil]
  exact z
theorem pe_eqNilL (hu : X.A.units + 64 < cLine) (he : PE X e te) : PE X (.Compare e [.Eq] [.List [] p2] pos) (tNilL X.K false te) := PE.imp (pe_cmpR (op_eqD hu) (pe_up he) (pe_lst pa_nil) (nomark _)) fun σ H Q q => nilL_eq q
theorem pe_neNilL (hu : X.A.units + 64 < cLine) (he : PE X e te) : PE X (.Compare e [.NotEq] [.List [] p2] pos) (tNilL X.K true te) := PE.imp (pe_cmpR (op_neD hu) (pe_up he) (pe_lst pa_nil) (nomark _)) fun σ H Q q => nilL_ne q
theorem pt_eqNilL (hu : X.A.units + 64 < cLine) (he : PE X e te) : PT X (.Compare e [.Eq] [.List [] p2] pos) (tTest (tNilL X.K false te)) := PT.imp (pt_cmpR (op_eqD hu) (pe_up he) (pe_lst pa_nil) (nomark _)) fun σ H Q q => nilL_eq q
theorem pt_neNilL (hu : X.A.units + 64 < cLine) (he : PE X e te) : PT X (.Compare e [.NotEq] [.List [] p2] pos) (tTest (tNilL X.K true te)) := PT.imp (pt_cmpR (op_neD hu) (pe_up he) (pe_lst pa_nil) (nomark _)) fun σ H Q q => nilL_ne q
end
/-! ### a list of new lists -/
section
variable {J : It} {n : Nat} {f : Nat → V} {S : Hp → Prop} {g : TG} {te : TE} {vs : List Nat} {σ : St} {H1 : Hp} {Q : VK}
theorem lc_lists (wk : Wk J n f S) (hS : ∀ H, Same H1 H → S H) (L : Nat → List V) (hz : n ≤ 1000000)
    (hs : ∀ i H (Ky : VK) (Kn : Hp → Prop), i < n → Same H1 H → (∀ b H', H b = none → Same H H' → H' b = some (.lst (L i)) → Ky (.ref b) H') → g (f i) (wipe σ vs) H fun σ2 H2 => wipe σ2 vs = wipe σ vs ∧ tYes σ2 H2 fun b H3 => if b = true then te σ2 H3 Ky else Kn H3)
    (hd : ∀ D (bs : List Addr) H, Same H1 H → H1 D = none → H D = some (.lst (bs.map V.ref)) → bs.length = n → (∀ (i : Nat) (b : Addr), bs[i]? = some b → H b = some (.lst (L i))) → (∀ (i : Nat) (b : Addr), bs[i]? = some b → H1 b = none) → Q (.ref D) H) :
    LcOk J g tYes te vs σ H1 Q := by
  intro D hD
  refine ⟨fun i m H => i + m = n ∧ Same H1 H ∧ ∃ bs : List Addr, bs.length = i ∧ H D = some (.lst (bs.map V.ref)) ∧ ∀ (j : Nat) (b : Addr), bs[j]? = some b → (b ≠ D ∧ H1 b = none) ∧ H b = some (.lst (L j)), ⟨n, Nat.zero_add n, same_new hD, [], rfl, upd_same, fun j b z => by simp at z⟩, ?_⟩
  rintro i m H ⟨hm, hs1, bs, hlen, hDa, hb⟩
  by_cases hlt : i < n
  · refine .inr ⟨wk.go i H hlt (hS H hs1), fun H => Same H1 H ∧ ∃ bs : List Addr, bs.length = i + 1 ∧ H D = some (.lst (bs.map V.ref)) ∧ ∀ (j : Nat) (b : Addr), bs[j]? = some b → (b ≠ D ∧ H1 b = none) ∧ H b = some (.lst (L j)), fun H' q => ⟨n - (i + 1), by omega, by omega, q⟩, fun x H' y => ?_⟩
    obtain ⟨e, ex⟩ := wk.yl i H x H' hlt (hS H hs1) y
    subst e ex
    refine hs i _ _ _ hlt hs1 fun b H4 hb4 s4 hl4 => ?_
    have hD4 := s4 _ _ hDa
    have hne : b ≠ D := fun z => by rw [z, hDa] at hb4; cases hb4
    refine ⟨_, hD4, ?_, same_mut (hs1.trans s4) hD, bs ++ [b], by simp [hlen], by rw [upd_same]; simp, fun j b' hj => ?_⟩
    · rw [sizeLine_eq, List.length_map]
      omega
    · by_cases hjl : j < bs.length
      · rw [List.getElem?_append_left hjl] at hj
        obtain ⟨h1, h2⟩ := hb j b' hj
        exact ⟨h1, by rw [upd_ne h1.1]; exact s4 _ _ h2⟩
      · have hj2 := hj
        rw [List.getElem?_append_right (by omega)] at hj
        have h0 : j - bs.length = 0 := by
          by_cases h0 : j - bs.length = 0
          · exact h0
          · rw [List.getElem?_eq_none (by simp; omega)] at hj
            cases hj
        rw [h0] at hj
        have e : b = b' := by simpa using hj
        have ej : j = i := by omega
        subst e ej
        exact ⟨⟨hne, hs1.free hb4⟩, by rw [upd_ne hne]; exact hl4⟩
  · have e : i = n := by omega
    subst e
    exact .inl ⟨wk.st H (hS H hs1), hd D bs H hs1 hD hDa hlen (fun j b hj => (hb j b hj).2) fun j b hj => (hb j b hj).1.2⟩
end
/-! ### the scope of a comprehension within a def -/
def cScope : Expr → Scope
  | .ListComp _ _ s _ => s
  | .DictComp _ _ _ s _ => s
  | _ => default
def stE : Stmt → Expr
  | .Return (some e) _ => e
  | .Assign _ e _ => e
  | _ => .Constant .none 0 ⟨0, 0, 0, 0⟩
def stN (st : Stmt) (i : Nat) : Stmt := (defBody st).getD i (.Pass ⟨0, 0, 0, 0⟩)
end K37
set_option maxHeartbeats 4000000
/-! K37G: classes: instances made, fields, methods, len, == -/
namespace K37
open PySem L2 TL
open PyProof.Rows hiding St

structure KCls (K : PySem.W.Frag) (mg : Str → Option Value) (x : Str) (C : Addr) : Prop where
  at_ : mg x = some (.ref C)
  c : Cls K C
  ty : ∀ (H : Hp) (a dx : Addr) (fs : List (Str × V)), H a = some (.ins C dx fs) → TyOf K H (.ref a) (.ref C)
/-- a method's promise -/
structure FM (P : Program) (w : World) (K : PySem.W.Frag) (mg : Str → Option Value) (base : Heap) (C : Addr) (m : Str) (k : Nat) (ps : List Str) (dvs : List V) (sp : Sp) : Prop where
  ex : ∃ (f : Addr) (fd : FuncData) (ds : List Value), Meth K C m f ∧ Binds K fd ps ds ∧ Vals dvs ds ∧ FnOk P w K mg base CX0 k f fd ps sp
structure DM (K : PySem.W.Frag) (C : Addr) (m qual : Str) (st : Stmt) (ps : List Str) (dvs : List V) : Prop where
  ex : ∃ (f : Addr) (fd : FuncData) (ds : List Value) (d0 : List V) (k0 : List (Str × V)), FunD K m qual (defArgs st) (defBody st) (defScope st) d0 k0 f fd ∧ Meth K C m f ∧ Binds K fd ps ds ∧ Vals dvs ds
/-- an instance made -/
structure FC (P : Program) (w : World) (K : PySem.W.Frag) (mg : Str → Option Value) (base : Heap) (C : Addr) (k : Nat) (ps : List Str) (dvs : List V) (sp : Sp) : Prop where
  ex : ∃ (j : Nat) (f : Addr) (fd : FuncData) (ds : List Value), k = j + 1 ∧ Mk K C f ∧ Binds K fd ps ds ∧ Vals dvs ds ∧ FnOk P w K mg base CX0 j f fd ps sp
structure DC (K : PySem.W.Frag) (C : Addr) (qual : Str) (st : Stmt) (ps : List Str) (dvs : List V) : Prop where
  ex : ∃ (f : Addr) (fd : FuncData) (ds : List Value) (d0 : List V) (k0 : List (Str × V)), FunD K "__init__" qual (defArgs st) (defBody st) (defScope st) d0 k0 f fd ∧ Mk K C f ∧ Binds K fd ps ds ∧ Vals dvs ds
section
variable {P : Program} {w : World} {K : PySem.W.Frag} {mg : Str → Option Value} {base : Heap} {C : Addr} {m qual : Str} {st : Stmt} {N ps : List Str} {dvs : List V} {k : Nat} {sp : Sp}
theorem FM.up {j : Nat} (F : FM P w K mg base C m k ps dvs sp) (h : k ≤ j) : FM P w K mg base C m j ps dvs sp := by
  obtain ⟨f, fd, ds, b, c, d, e⟩ := F.ex
  exact ⟨f, fd, ds, b, c, d, e.mono h⟩
theorem FC.up {j : Nat} (F : FC P w K mg base C k ps dvs sp) (h : k ≤ j) : FC P w K mg base C j ps dvs sp := by
  obtain ⟨i, f, fd, ds, a, b, c, d, e⟩ := F.ex
  exact ⟨j - 1, f, fd, ds, by omega, b, c, d, e.mono (by omega)⟩
/-- a method's body -/
def BodM (P : Program) (w : World) (K : PySem.W.Frag) (mg : Str → Option Value) (base : Heap) (qual : Str) (st : Stmt) (N : List Str) (k : Nat) (sp : Sp) : Prop :=
  ∀ (f : Addr) (cdv : Value) (A : Around) (outer : List Env) (s : Shared) (H : Hp) (vs : List V) (Q : VK) (E : XK), Room k (A.deeper (envOfC qual (defScope st) s.heap.objs.size f cdv)) → sp vs H Q E →
    ∃ t, PSs (cxOf CX0 P w K mg base N qual (defScope st) f cdv A outer s H E).nox (defBody st) t ∧ t { nx := fun _ H' => Q .non H', rt := Q } (start N vs) H
theorem DM.ok (D : DM K C m qual st ps dvs) (S : FnScope N ps (defScope st)) (len : ∀ vs H Q E, sp vs H Q E → vs.length = ps.length) (hbody : BodM P w K mg base qual st N k sp) : FM P w K mg base C m (k + 1) ps dvs sp := by
  obtain ⟨f, fd, ds, d0, k0, a, b, c, d⟩ := D.ex
  refine ⟨f, fd, ds, b, c, d, a.ok S len fun cdv A outer s H vs Q E hr h => ?_⟩
  obtain ⟨t, h1, h2⟩ := hbody f cdv A outer s H vs Q E hr h
  exact ⟨t, h1.nox, h2⟩
theorem DC.ok (D : DC K C qual st ps dvs) (S : FnScope N ps (defScope st)) (len : ∀ vs H Q E, sp vs H Q E → vs.length = ps.length) (hbody : BodM P w K mg base qual st N k sp) : FC P w K mg base C (k + 2) ps dvs sp := by
  obtain ⟨f, fd, ds, d0, k0, a, b, c, d⟩ := D.ex
  refine ⟨k + 1, f, fd, ds, rfl, b, c, d, a.ok S len fun cdv A outer s H vs Q E hr h => ?_⟩
  obtain ⟨t, h1, h2⟩ := hbody f cdv A outer s H vs Q E hr h
  exact ⟨t, h1.nox, h2⟩
end
/-! ### readings -/
def tFldD (C : Addr) (f : Str) (ta : TE) : TE := fun σ H Q => ta σ H fun x H1 => ∃ a dx fs v, x = .ref a ∧ H1 a = some (.ins C dx fs) ∧ fs.lookup f = some v ∧ Q v H1
def sFldD (C : Addr) (f : Str) (ta tv : TE) : TS := fun D σ H => tv σ H fun y H1 => ta σ H1 fun x H2 => ∃ a dx fs, x = .ref a ∧ H2 a = some (.ins C dx fs) ∧ fs.length < 1000 ∧ ∀ H3, But a H2 H3 → H3 a = some (.ins C dx (putF f y fs)) → D.nx σ H3
def tMkD (C : Addr) (sp : Sp) (dvs : List V) (t : TA) : TE := fun σ H Q => t σ H fun vs H1 => ∀ x H2, H1 x = none → Same H1 H2 → (∃ dx, H2 x = some (.ins C dx [])) → sp (.ref x :: (vs ++ dvs)) H2 (fun v H3 => v = .non ∧ Q (.ref x) H3) E0
def tMoD (C : Addr) (m : Str) (sp : Sp) (dvs : List V) (ta : TE) (t : TA) : TE := fun σ H Q => ta σ H fun x H1 => ∃ a dx fs, x = .ref a ∧ H1 a = some (.ins C dx fs) ∧ fs.lookup m = none ∧ t σ H1 fun vs H2 => sp (.ref a :: (vs ++ dvs)) H2 Q E0
section
variable {X : Cx} {x m : Str} {C : Addr} {k : Nat} {ps : List Str} {dvs : List V} {sp : Sp} {p pos pos' apos : Pos} {o e value : Expr} {es : List Expr} {t : TA} {ta tv : TE}
theorem pe_fldD {f : Str} (c : KCls X.K X.mg x C) (n : NoAttr X.K C f) (he : PE X e ta) (hb : attributeBase e f X.env (eval e X.env) = eval e X.env := by rfl) : PE X (.Attribute e f pos) (tFldD C f ta) :=
  PE.imp (pe_fld (pe_up he) hb) fun σ H Q q => ⟨_, fun y H1 z => by
    obtain ⟨a, dx, fs, v, e, h, l, q⟩ := z
    exact ⟨a, C, dx, fs, v, e, h, c.c, n, l, q⟩, q⟩
theorem PS.imp {st : Stmt} {t t' : TS} (h : PS X st t) (k : ∀ D σ H, t' D σ H → t D σ H) : PS X st t' := ⟨fun pins s σ H D I q => h.run pins s σ H D I (k _ _ _ q)⟩
theorem ps_fldD {f : Str} (c : KCls X.K X.mg x C) (n : NoAttr X.K C f) (ha : PE X o ta) (hv : PE X value tv) (hs : swapsWith value (some (.Attribute o f pos')) pos.line X.env = pure false := by rfl) : PS X (.Assign [.Attribute o f pos'] value pos) (sFldD C f ta tv) :=
  PS.imp (ps_fld (pe_up ha) (pe_up hv) hs) fun D σ H q => ⟨_, fun y H1 z => ⟨_, fun x' H2 z2 => by
    obtain ⟨a, dx, fs, e, h, l, q⟩ := z2
    exact ⟨a, C, dx, fs, e, h, c.c, n, l, q _ (But.upd (But.refl a H2)) upd_same⟩, z⟩, q⟩
theorem pe_mkD (c : KCls X.K X.mg x C) (F : FC X.prog X.w X.K X.mg X.base C k ps dvs sp) (hr : Room k X.A) (ha : PA X (e :: es) t) (hg : Gl X x := by rfl) (hdb : (x == ("__debug__" : Str)) = false := by decide)
    (he : starEach (e :: es) X.env = (false, eval e X.env) :: starEach es X.env := by rfl) (hpl : (backTo pos (starEach es X.env)).any (·.1) = false := by rfl) : PE X (.Call (.Name x p) (e :: es) [] pos) (tMkD C sp dvs t) := by
  obtain ⟨j, f, fd, ds, rfl, M, b, d, F'⟩ := F.ex
  refine PE.imp (pe_make M F' hr hg c.at_ b d pass0 (pa_up ha) hdb he hpl) fun σ H Q q => ⟨_, fun vs H1 z => fun x dx h1 h2 h3 => ?_, q⟩
  exact z x _ h1 ((same_new h2).trans (same_new (by rw [upd_ne (Ne.symm h3)]; exact h1))) ⟨dx, upd_same⟩
theorem pe_mo (c : Cls X.K C) (F : FM X.prog X.w X.K X.mg X.base C m k ps dvs sp) (hr : Room k X.A) (ho : PE X o ta) (ha : PA X (e :: es) t) {pl : Sem Bool}
    (hst : starEach (e :: es) X.env = (false, eval e X.env) :: starEach es X.env := by rfl) (hpl : (backTo pos (starEach es X.env)).any (·.1) = false := by rfl)
    (ht : eval (.Call (.Attribute o m apos) (e :: es) [] pos) X.env = (do
      let ov ← eval o X.env
      standAt apos.atName
      let (f, first) ← holding [ov] (getMethod ov m pl)
      callWith pos f first (backTo pos (starEach (e :: es) X.env)) (backToKw pos (keywordEach [] X.env))) := by rfl) : PE X (.Call (.Attribute o m apos) (e :: es) [] pos) (tMoD C m sp dvs ta t) := by
  obtain ⟨f, fd, ds, M, b, d, F'⟩ := F.ex
  refine PE.imp (pe_meth (pl := pl) (pe_up ho) c M F' hr b d pass0 (pa_up ha) hst hpl ht) fun σ H Q q => ⟨_, fun y H1 z => ?_, q⟩
  obtain ⟨a, dx, fs, rfl, h1, h2, z⟩ := z
  exact ⟨a, dx, fs, rfl, h1, h2, _, fun vs H2 z2 => z2, z⟩
theorem pe_mo0 (c : Cls X.K C) (F : FM X.prog X.w X.K X.mg X.base C m k ps dvs sp) (hr : Room k X.A) (ho : PE X o ta) {pl : Sem Bool}
    (ht : eval (.Call (.Attribute o m apos) [] [] pos) X.env = (do
      let ov ← eval o X.env
      standAt apos.atName
      let (f, first) ← holding [ov] (getMethod ov m pl)
      callWith pos f first (backTo pos (starEach [] X.env)) (backToKw pos (keywordEach [] X.env))) := by rfl) : PE X (.Call (.Attribute o m apos) [] [] pos) (tMoD C m sp dvs ta tNil) := by
  obtain ⟨f, fd, ds, M, b, d, F'⟩ := F.ex
  refine PE.imp (pe_meth0 (pl := pl) (pe_up ho) c M F' hr b d pass0 ht) fun σ H Q q => ⟨_, fun y H1 z => ?_, q⟩
  obtain ⟨a, dx, fs, rfl, h1, h2, z⟩ := z
  exact ⟨a, dx, fs, rfl, h1, h2, z⟩
/-- isinstance(x, C), x an instance of C -/
def rIsC (C : Addr) : List V → Hp → VK → Prop := fun xs H Q => ∃ a dx fs, xs = [.ref a, .ref C] ∧ H a = some (.ins C dx fs) ∧ Q (.bl true) H
theorem call_isC (c : KCls X.K X.mg x C) : CallR X (.builtin "isinstance") (rIsC C) := CallR.imp call_isi fun xs H Q q => by
  obtain ⟨a, dx, fs, e, h, q⟩ := q
  refine ⟨.ref a, .ref C, .ref C, .ref C, true, e, .own C, .base (c.ty H a dx fs h), ?_, q⟩
  unfold PySem.W.kitOne
  rw [if_pos (by simp)]
theorem pe_cls (c : KCls X.K X.mg x C) (hg : Gl X x := by rfl) (hd : (x == ("__debug__" : Str)) = false := by decide) : PE X (.Name x pos) (tC (.ref C)) := pe_glob hg c.at_ rfl hd
/-- len(x), the text's own -/
def rLenO (C : Addr) (sp : Sp) : List V → Hp → VK → Prop := fun xs H Q => ∃ a dx fs, xs = [.ref a] ∧ H a = some (.ins C dx fs) ∧ sp [.ref a] H (fun v H' => ∃ n : Int, v = .int n ∧ 0 ≤ n ∧ n < 2 ^ 63 ∧ Q (.int n) H') E0
theorem call_lenO (F : FM X.prog X.w X.K X.mg X.base C "__len__" k ps [] sp) (hr : Room (k + 1) X.A) : CallR X (.builtin "len") (rLenO C sp) := by
  intro pins s σ H xs us Q I r h
  obtain ⟨a, dx, fs, rfl, ha, h⟩ := h
  obtain ⟨u, rfl, ru⟩ := vals1 r
  cases ru
  obtain ⟨f, fd, ds, M, b, d, F'⟩ := F.ex
  cases d
  obtain ⟨mA, J, _⟩ := ins_get I.hok ha
  obtain ⟨od, J, _⟩ := J.look
  obtain ⟨m, hF⟩ := I.fr
  refine PySem.W.len_K hF I.ok.mod.kin J M.at_ M.fn ?_
  have e0 : Env0 X.prog X.w X.K X.mg X.base X.A.in1 X.stack s H := by
    have e := I.env0
    exact ⟨e.frames, e.mod, e.bs, e.bsz, e.funs, e.frf, e.hok, e.bare⟩
  have hl := F'.len _ _ _ _ h
  have r2 : Vals [V.ref a] [Value.ref a] := .cons rfl .nil
  refine wpAny_call (codeAny_mono (F'.run X.A.in1 X.stack s H ⟨[.ref a], []⟩ [.ref a] [.ref a] _ E0 hr.in1 e0 (by
    have := b s [.ref a] I.kIn (by simpa using hl)
    simpa using this) r2 h) fun r s' hq => ?_)
  cases r with
  | error e => exact pass0 pins σ H s e s' I hq
  | ok fl =>
    cases fl with
    | ret w =>
      obtain ⟨z, H', I', rz, n, ez, n0, n1, q⟩ := I.after hq
      subst ez
      obtain ⟨t, rfl⟩ := rz
      exact ⟨⟨n0, n1⟩, .int n, H', I'.tok _, ⟨_, rfl⟩, q⟩
    | next => exact False.elim hq
    | brk => exact False.elim hq
    | cont => exact False.elim hq
/-- x == y, the text's own -/
def rEqO (C : Addr) (R : Addr → Addr → Hp → Prop) : R2 := fun x y H Q => (∃ a b dx dy fs gs, x = .ref a ∧ y = .ref b ∧ H a = some (.ins C dx fs) ∧ H b = some (.ins C dy gs) ∧ R a b H) ∧ ∀ H', Same H H' → Q (.bl true) H'
theorem op_eqO {R : Addr → Addr → Hp → Prop} (F : FM X.prog X.w X.K X.mg X.base C "__eq__" k ps [] (spEq R)) (hr : Room k X.A) : OpR X (compareOp .Eq) (rEqO C R) := by
  obtain ⟨f, fd, ds, M, b, d, F'⟩ := F.ex
  cases d
  exact OpR.imp (op_eqG (rcG_ins F' M.at_ M.fn b (pass0 (X := X))) hr) fun x y H Q q => q
end
end K37
set_option maxHeartbeats 4000000
/-! K37H: texts put together: rules with room told, lengths, how a term's text is made -/
namespace K37
open PySem L2 TL
open PyProof.Rows hiding St
theorem slen_app (a b : Str) : (a ++ b).length = a.length + b.length := by rw [len_tl, tl_append, List.length_append, ← len_tl, ← len_tl]
theorem slen_lit (s : String) : (Str.ofString s).length = s.toList.length := by rw [len_tl, tl_ofString, List.length_map]
theorem app_empty (a : Str) : Str.empty ++ a = a := ext_tl (by rw [tl_append]; rfl)
theorem empty_app (a : Str) : a ++ Str.empty = a := ext_tl (by rw [tl_append]; show tl a ++ [] = tl a; rw [List.append_nil])
theorem app_assoc (a b c : Str) : (a ++ b) ++ c = a ++ (b ++ c) := ext_tl (by simp only [tl_append, List.append_assoc])
theorem slen_fig (n : Nat) : (figS n).length = 1 := rfl
theorem slen_empty : (Str.empty).length = 0 := rfl
section
variable {X : Cx} {o e : Expr} {to te : TE} {p pos apos : Pos}
def rAddS2 : R2 := fun x y H Q => ∃ i j, x = .str i ∧ y = .str j ∧ i.length + j.length ≤ 1000000 ∧ Q (.str (i ++ j)) H
theorem op_addS2 : OpR X (binaryOp .Add) rAddS2 := OpR.imp op_add_str fun x y H Q q => by
  obtain ⟨i, j, e1, e2, h, q⟩ := q
  exact ⟨i, j, e1, e2, size_of h, q⟩
def tJoinS (to te : TE) : TE := fun σ H Q => to σ H fun x H1 => ∃ a, x = .str a ∧ te σ H1 fun y H2 => ∃ (p : Addr) (ys : List Str), y = .ref p ∧ H2 p = some (.lst (ys.map V.str)) ∧ (ys.map (·.length)).sum + ys.length * a.length ≤ 16000000 ∧ Q (.str (Str.join a ys)) H2
theorem pe_joinS (ho : PE X o to) (he : PE X e te) (hs : starEach [e] X.env = [(false, eval e X.env)] := by rfl) (hbase : attributeBase o "join" X.env (eval o X.env) = eval o X.env := by rfl) (hline : (apos.endLine == pos.line) = true := by rfl) :
    PE X (.Call (.Attribute o "join" apos) [e] [] pos) (tJoinS to te) := PE.imp (pe_join (pe_up ho) (pe_up he) hs hbase hline) fun σ H Q q => by
  refine ⟨_, fun x H1 z => ?_, q⟩
  obtain ⟨a, rfl, z⟩ := z
  refine ⟨⟨a, rfl⟩, _, fun y H2 z2 => ?_, z⟩
  obtain ⟨p, ys, rfl, h, hz, q⟩ := z2
  refine ⟨a, p, ys, rfl, rfl, .inl (SqL.of h), by omega, ?_⟩
  rw [join_eq]
  exact q
def tFmtS (te : TE) : TE := fun σ H Q => te σ H fun x H1 => ∃ y : Str, x = .str y ∧ y.length ≤ 1000000 ∧ Q (.str y) H1
def tFmtI (te : TE) : TE := fun σ H Q => te σ H fun x H1 => ∃ i : Int, x = .int i ∧ i.natAbs ≤ 1000000 ∧ Q (.str (toString i)) H1
theorem pe_fmtS (he : PE X e te) : PE X (.FormattedValue e (-1) none pos) (tFmtS te) := PE.imp (pe_fmt (pe_up he)) fun σ H Q q => ⟨_, fun x H1 z => by
  obtain ⟨y, e, h, q⟩ := z
  exact .inl ⟨y, e, size_of h, q⟩, q⟩
theorem pe_fmtI (he : PE X e te) : PE X (.FormattedValue e (-1) none pos) (tFmtI te) := PE.imp (pe_fmt (pe_up he)) fun σ H Q q => ⟨_, fun x H1 z => by
  obtain ⟨y, e, h, q⟩ := z
  exact .inr ⟨y, e, log_small h, q⟩, q⟩
inductive PJ2 (X : Cx) : List Expr → List TE → Prop where
  | nil : PJ2 X [] []
  | cons {e : Expr} {t : TE} {es : List Expr} {ts : List TE} (h : PE X e t) (r : PJ2 X es ts) : PJ2 X (e :: es) (t :: ts)
def tJ2 : List TE → Str → St → Hp → (Str → Hp → Prop) → Prop
  | [], acc, _, H, Q => Q acc H
  | t :: ts, acc, σ, H, Q => t σ H fun x H1 => ∃ y : Str, x = .str y ∧ (acc ++ y).length ≤ 1000000 ∧ tJ2 ts (acc ++ y) σ H1 Q
theorem PJ2.up {es : List Expr} {ts : List TE} (h : PJ2 X es ts) : PJ X es (ts.map tUp) := by
  induction h with
  | nil => exact .nil
  | cons h _ ih => exact .cons (pe_up h) ih
theorem tJ2_to : ∀ (ts : List TE) (acc : Str) (σ : St) (H : Hp) (Q : Str → Hp → Prop), tJ2 ts acc σ H Q → tJs (ts.map tUp) acc σ H Q
  | [], _, _, _, _, q => q
  | t :: ts, acc, σ, H, Q, q => ⟨_, fun x H1 z => by
    obtain ⟨y, e, h, q⟩ := z
    exact ⟨y, e, size_of h, tJ2_to ts _ _ _ _ q⟩, q⟩
def tJoined (ts : List TE) : TE := fun σ H Q => tJ2 ts Str.empty σ H fun out H1 => Q (.str out) H1
theorem pe_joined2 {v1 v2 : Expr} {rest : List Expr} {ts : List TE} (h : PJ2 X (v1 :: v2 :: rest) ts) : PE X (.JoinedStr (v1 :: v2 :: rest) pos) (tJoined ts) :=
  PE.imp (pe_joined h.up) fun σ H Q q => tJ2_to ts _ _ _ _ q
theorem tJoined_nil {acc : Str} {σ : St} {H : Hp} {Q : Str → Hp → Prop} : tJ2 [] acc σ H Q = Q acc H := rfl
theorem tJoined_cons {t : TE} {ts : List TE} {acc : Str} {σ : St} {H : Hp} {Q : Str → Hp → Prop} : tJ2 (t :: ts) acc σ H Q = t σ H fun x H1 => ∃ y : Str, x = .str y ∧ (acc ++ y).length ≤ 1000000 ∧ tJ2 ts (acc ++ y) σ H1 Q := rfl
/-- isinstance(x, T), whatever x is -/
def rIsG (m : String) : List V → Hp → VK → Prop := fun xs H Q => ∃ x n b, xs = [x, .ty m] ∧ KindV H x n ∧ isiB n m = some b ∧ Q (.bl b) H
theorem call_isG {m : String} : CallR X (.builtin "isinstance") (rIsG m) := CallR.imp call_isi fun xs H Q q => by
  obtain ⟨x, n, b, e, k, h, q⟩ := q
  exact ⟨x, .ty m, .type n, .type m, b, e, .ty m, k.tyX, kit_ty (isiB_kit h), q⟩
end
theorem str_fig {n : Nat} (h : n < 10) : (Str.ofString (toString ((n : Nat) : Int))) = figS n := ext_tl (by rw [tl_num, numL_lt h]; rfl)
theorem sum_len {ys : List Str} {m : Nat} (h : ∀ y ∈ ys, y.length ≤ m) : (ys.map (·.length)).sum ≤ ys.length * m := by
  induction ys with
  | nil => exact Nat.zero_le _
  | cons a r ih =>
    have h1 := h a List.mem_cons_self
    have h2 := ih fun y hy => h y (List.mem_cons_of_mem _ hy)
    rw [List.map_cons, List.sum_cons, List.length_cons, Nat.add_mul]
    omega
theorem join_len {y : Str} : ∀ ys : List Str, (Str.join y ys).length ≤ (ys.map (·.length)).sum + ys.length * y.length
  | [] => Nat.zero_le _
  | [a] => by
    show a.length ≤ _
    simp only [List.map_cons, List.map_nil, List.sum_cons, List.sum_nil, List.length_cons, List.length_nil]
    omega
  | a :: b :: r => by
    have ih := join_len (y := y) (b :: r)
    show (a ++ y ++ Str.join y (b :: r)).length ≤ _
    rw [slen_app, slen_app, List.map_cons, List.sum_cons, List.length_cons (a := a), Nat.add_mul]
    omega
/-! ### a term's text -/
/-- what stands between the brackets -/
def argTx : Tm → List Str
  | .t a hi lo => [tx a, figS hi, figS lo]
  | t => (subs t).map tx
theorem tx_op {t : Tm} (h2 : ∀ v, t ≠ .is v) (h3 : ∀ v, t ≠ .of v) : tx t = (wordOf t ++ ("(" : Str)) ++ Str.join (", " : Str) (argTx t) ++ (")" : Str) := by
  cases t with
  | is v => exact absurd rfl (h2 v)
  | of v => exact absurd rfl (h3 v)
  | _ => refine ext_tl ?_; simp only [tx, tl_append, argTx, subs, List.map_cons, List.map_nil, tl_join, joinL, wordOf, List.append_assoc]
theorem words_len : ∀ w ∈ (["not", "any", "all", "and", "or", "xor", "plus", "same", "less", "join", "pick", "part", "is", "of"] : List Str), w.length ≤ 4 := by decide +kernel
theorem tx_len {G : Str → Nat → Prop} : ∀ (t : Tm) (k : Nat), Fit G t k → (tx t).length ≤ 16 * wt t
  | .is v, k, q => by
    have h1 := ValOk.len q
    have h2 := ValOk.l8 q
    simp only [tx, slen_app, slen_lit, wt, len_tl v]
    show 1 + _ ≤ _
    omega
  | .of v, k, q => by
    have h1 := q.1.l8
    simp only [tx, wt, len_tl v]
    omega
  | .u w a, k, q => by
    obtain ⟨j, ha⟩ := Fit.subs q a (by simp [subs])
    have h1 := tx_len a j ha
    have hw := Fit.wordu q
    have h2 := words_len w (by simp only [List.mem_cons, List.not_mem_nil, or_false] at hw ⊢; rcases hw with h | h | h <;> simp [h])
    simp only [tx, slen_app, slen_lit, wt]
    show w.length + 1 + _ + 1 ≤ _
    omega
  | .b w a b, k, q => by
    obtain ⟨j, ha⟩ := Fit.subs q a (by simp [subs])
    obtain ⟨j', hb⟩ := Fit.subs q b (by simp [subs])
    have h1 := tx_len a j ha
    have h1' := tx_len b j' hb
    have hw := Fit.word q
    have h2 := words_len w (by simp only [List.mem_cons, List.not_mem_nil, or_false] at hw ⊢; rcases hw with h | h | h | h | h | h | h <;> simp [h])
    simp only [tx, slen_app, slen_lit, wt]
    show w.length + 1 + (_ + 2 + _) + 1 ≤ _
    omega
  | .p a b c, k, q => by
    have h1 := tx_len a 1 q.1
    have h2 := tx_len b k q.2.1
    have h3 := tx_len c k q.2.2
    simp only [tx, slen_app, slen_lit, wt]
    show 4 + 1 + (_ + 2 + (_ + 2 + _)) + 1 ≤ _
    omega
  | .t a hi lo, k, q => by
    obtain ⟨j, ha, _⟩ := q
    have h1 := tx_len a j ha
    simp only [tx, slen_app, slen_lit, wt, slen_fig]
    show 4 + 1 + (_ + 2 + (1 + 2 + 1)) + 1 ≤ _
    omega
end K37
set_option maxHeartbeats 4000000
/-! K37I: texts read by their places -/
namespace K37
open PySem L2 TL
open PyProof.Rows hiding St
def chrs (x : Str) : List Str := (tl x).map fun c => (⟨#[c]⟩ : Str)
section
variable {X : Cx}
def rListStr : List V → Hp → VK → Prop := fun xs H Q => ∃ z, xs = [.str z] ∧ z.length ≤ 1000000 ∧ New (.lst ((chrs z).map V.str)) H Q
theorem call_listStr (hc : X.calm = true) : CallR X (.type "list") rListStr := by
  intro pins s σ H xs us Q I r h
  obtain ⟨z, rfl, hz, q⟩ := h
  obtain ⟨u, rfl, rx⟩ := vals1 r
  obtain ⟨t, rfl⟩ := rx
  have hz' : z.cps.size ≤ sizeLine := size_of hz
  refine call_list_str (I.ok.hd hc) z t (fun h' tk acc c' hk e hi => ?_) hz'
  refine ⟨.ref s.heap.objs.size, upd H s.heap.objs.size (.lst ((chrs z).map V.str)), I.laid hk (Nat.le_refl _) ⟨by rw [List.length_map]; show ((tl z).map _).length ≤ _; rw [List.length_map, ← len_tl]; exact size_of hz, acc.toList, c', ?_, by rw [Array.toArray_toList]; exact e⟩, rfl, q.at _ (I.hok.fresh (Nat.le_refl _))⟩
  have hl : ((chrs z).map V.str).length = z.cps.size := by rw [List.length_map]; show ((tl z).map _).length = _; rw [List.length_map, ← len_tl]; rfl
  refine vals_of_idx _ _ (by rw [hl, Array.length_toList]; exact hi.1) fun j u hj => ?_
  obtain ⟨c, t', hc, rfl⟩ := hi.2 j u (by rw [← Array.getElem?_toList]; exact hj)
  refine ⟨.str ⟨#[c]⟩, ?_, ⟨_, rfl⟩⟩
  have hc' : (tl z)[j]? = some c := by rw [← hc]; exact Array.getElem?_toList
  simp [chrs, hc']
def rIntStr : List V → Hp → VK → Prop := fun xs H Q => ∃ n : Nat, xs = [.str (figS n)] ∧ n < 10 ∧ Q (.int (n : Int)) H
theorem call_intFig : CallR X (.type "int") rIntStr := CallR.imp call_int_str fun xs H Q q => by
  obtain ⟨n, e, h, q⟩ := q
  refine ⟨figS n, n, e, ?_, by rw [slen_fig]; omega, q⟩
  rw [← str_fig h]
  exact int_num (by rw [numL_lt h]; simp)
def rSwAt : V → List V → Hp → VK → Prop := fun x xs H Q => ∃ (a b : Str) (pre rest : List Nat), x = .str a ∧ xs = [.str b, .int (pre.length : Int)] ∧ tl a = pre ++ rest ∧ Q (.bl (rest.take b.length == tl b)) H
theorem sw3_eq {x y : Str} {pre rest : List Nat} (h : tl x = pre ++ rest) : Txt.startswith3 x y (pre.length : Int) = (rest.take y.length == tl y) := by
  have hx : x.length = pre.length + rest.length := by rw [len_tl, h, List.length_append]
  have hf : fromIndex x.length (pre.length : Int) = pre.length := by
    unfold fromIndex
    rw [if_neg (by omega)]
    omega
  unfold Txt.startswith3
  rw [hf, PySem.StrLaws.subAt_eq]
  have e : x.cps.toList.drop pre.length = rest := by
    show (tl x).drop pre.length = rest
    rw [h, List.drop_left]
  rw [e]
  show (decide (pre.length + y.length ≤ x.length) && (rest.take y.length == tl y)) = _
  by_cases hle : pre.length + y.length ≤ x.length
  · rw [decide_eq_true hle, Bool.true_and]
  · rw [decide_eq_false hle, Bool.false_and]
    symm
    rw [beq_eq_false_iff_ne]
    intro z
    have := congrArg List.length z
    rw [List.length_take, ← len_tl] at this
    omega
theorem mt_swAt : MtR X "str.startswith" rSwAt := MtR.imp mt_startswith3 fun x xs H Q q => by
  obtain ⟨a, b, pre, rest, e1, e2, h, q⟩ := q
  refine ⟨a, b, _, e1, e2, ?_⟩
  rw [sw3_eq h]
  exact q
def rSwith : V → List V → Hp → VK → Prop := fun x xs H Q => ∃ a b : Str, x = .str a ∧ xs = [.str b] ∧ Q (.bl ((tl a).take b.length == tl b)) H
theorem mt_swith : MtR X "str.startswith" rSwith := MtR.imp mt_startswith fun x xs H Q q => by
  obtain ⟨a, b, e1, e2, q⟩ := q
  refine ⟨a, b, e1, e2, ?_⟩
  have z := sw3_eq (x := a) (y := b) (pre := []) (rest := tl a) rfl
  have e : Txt.startswith a b = Txt.startswith3 a b (([] : List Nat).length : Int) := by
    unfold Txt.startswith Txt.startswith3
    have : fromIndex a.length ((([] : List Nat).length : Nat) : Int) = 0 := by
      unfold fromIndex
      simp
    rw [this]
  rw [e, z]
  exact q
end
/-- the sign at a place -/
theorem at_pre {x : Str} {pre rest : List Nat} {c : Nat} (h : tl x = pre ++ c :: rest) : atI x.cps.toList (pre.length : Int) = some c := by
  show atI (tl x) _ = _
  refine atI_nat ?_
  rw [h]
  simp
theorem sIx_ok {n d i : Nat} (h : i ≤ n) : HT.sIx n d (some (i : Int)) = i := by rw [HT.sIx_nat]; omega
/-- a text's piece -/
theorem cut_pre {x : Str} {pre mid post : List Nat} (h : tl x = pre ++ (mid ++ post)) : cutS x (some (pre.length : Int)) (some ((pre.length + mid.length : Nat) : Int)) = ⟨mid.toArray⟩ := by
  have hx : x.length = pre.length + (mid.length + post.length) := by rw [len_tl, h, List.length_append, List.length_append]
  unfold cutS
  rw [sIx_ok (by omega), sIx_ok (by omega)]
  show (⟨(((tl x).drop pre.length).take (pre.length + mid.length - pre.length)).toArray⟩ : Str) = _
  rw [h, List.drop_left, Nat.add_sub_cancel_left, List.take_left]
theorem cut_from {x : Str} {pre post : List Nat} (h : tl x = pre ++ post) : cutS x (some (pre.length : Int)) none = ⟨post.toArray⟩ := by
  have hx : x.length = pre.length + post.length := by rw [len_tl, h, List.length_append]
  unfold cutS
  rw [sIx_ok (by omega), HT.sIx_none]
  show (⟨(((tl x).drop pre.length).take (x.length - pre.length)).toArray⟩ : Str) = _
  rw [h, List.drop_left, hx, Nat.add_sub_cancel_left, List.take_length]
theorem mk_eq {x : Str} {l : List Nat} (h : tl x = l) : (⟨l.toArray⟩ : Str) = x := by rw [← h, mk_tl]
end K37
set_option maxHeartbeats 4000000
/-! K37J: list(reversed(xs)) -/
namespace K37
open PySem
section
variable {pr : Program} {wl : World} {Ar : Around} {Ex : Value → Shared → Prop} {sh : Shared}
theorem rv_extend {Rs : Result → Shared → Prop} {ri la : Addr} {its : Array Value} (hq : Ar.handled = none) (hri : sh.heap.IsRevIter ri la ((its.size : Int) - 1)) (hla : sh.heap.IsList la its) (hd : la ≠ ri) (hsz : its.size ≤ sizeLine)
    (Sd : Addr) (c0 : Nat) (hSd : sh.heap.get? Sd = some { cls := .type "list", data := .seq #[] c0 }) (d1 : Sd ≠ ri) (d2 : Sd ≠ la)
    (fin : ∀ h2 k2 ac c2, (∀ b o, b ≠ Sd → b ≠ ri → sh.heap.get? b = some o → h2.get? b = some o) → h2.get? Sd = some { cls := .type "list", dict := none, data := .seq ac c2, slots := #[] } →
      ItemsOf (fun i v => its[its.size - 1 - i]? = some v) ac its.size → Rs (.ok (.ret .none)) { sh with heap := h2, toks := k2 }) :
    wpAny (model pr wl) Ar.in1 (Builtin.List.listExtendWith (.ref Sd) (.ref ri) .none)
      (fun fn s2 => match fn with | .done f => Rs (.ok f) s2 | .again c' => c'.quiet = true ∧ codeAny (model pr wl) Ar c' Rs s2) (fun e s2 => Rs (.error e) s2) sh := by
  have WW := (Walks.listRev (prog := pr) (w := wl) (A := Ar.in1) hq ri la hd its).toS
  have hout : Sd ∉ [ri, la] := by simp [d1, d2]
  have hty : sh.TypeIs (.ref ri) "list_reverseiterator" := hri.typeIs
  have hns : Builtin.List.listSameRef (.ref Sd) (.ref ri) = false := by simp [Builtin.List.listSameRef, d1]
  unfold Builtin.List.listExtendWith
  refine wpAny_bind (wpAny_typeOf hty ?_)
  rw [if_neg (by rw [hns]; decide)]
  refine wpAny_bind (wpAny_pyIter_revIter hri ?_)
  refine wpAny_bind (wpAny_holding ?_)
  unfold Builtin.List.listLengthHint
  refine wpAny_bind (wpAny_specialOf hty RT.nolen_lri ?_)
  show wpAny _ Ar.in1 (specialOf (Value.ref ri) (Str.ofString "__length_hint__") >>= _) _ _ _
  refine wpAny_bind (wpAny_specialOf hty RT.hint_lri ?_)
  generalize hnm : ("list_reverseiterator.__length_hint__" : String) = nm
  wp_delta
  rw [show splitId nm = some ("list_reverseiterator", "__length_hint__") from by subst hnm; decide +kernel]
  subst hnm
  refine wpAny_bind (wpAny_isInstance (b := true) hty (by rw [isSubtype_type]; kernel_rfl) ?_)
  refine wpAny_pure ?_
  rw [if_neg (by decide)]
  have ez : ((its.size : Nat) : Int) - 1 - ((0 : Nat) : Int) = (its.size : Int) - 1 := by omega
  refine wpAny_pure ⟨plainId_quiet F.plain_extend_loop _, codeAny_extend_loopS WW hsz _ hout _ its.size 0 _ _ _ rfl (Nat.zero_le _) ⟨Nat.zero_le _, by rw [ez]; exact hri, hla⟩ hSd (ItemsOf.nil _) fun s3 ac c3 mv e3 hac => ?_⟩
  rw [Moved.eq_with mv]
  refine fin s3.heap s3.toks ac c3 (fun b o nb nr e => mv.heap b o (fun hm => ?_) e) e3 hac
  rcases List.mem_cons.mp hm with z | hm
  · exact nb z
  · exact nr (List.mem_singleton.mp hm)
theorem rv_list {ri la : Addr} {its : Array Value} {Qv : Value → Shared → Prop} (hq : Ar.handled = none) (hri : sh.heap.IsRevIter ri la ((its.size : Int) - 1)) (hla : sh.heap.IsList la its) (hd : la ≠ ri) (hsz : its.size ≤ sizeLine)
    (fin : ∀ h2 k2 ac c2, (∀ b o, b ≠ ri → sh.heap.get? b = some o → h2.get? b = some o) → h2.get? sh.heap.objs.size = some { cls := .type "list", dict := none, data := .seq ac c2, slots := #[] } →
      ItemsOf (fun i v => its[its.size - 1 - i]? = some v) ac its.size → Qv (.ref sh.heap.objs.size) { sh with heap := h2, toks := k2 }) :
    wpAny (model pr wl) Ar (call (.type "list") [.ref ri]) Qv Ex sh := by
  obtain ⟨oi, hoi, _⟩ := id hri
  obtain ⟨ol, hol, _⟩ := id hla
  have dr : sh.heap.objs.size ≠ ri := Nat.ne_of_gt (Heap.lt_size hoi)
  have dl : sh.heap.objs.size ≠ la := Nat.ne_of_gt (Heap.lt_size hol)
  refine callType_codes (Q₁ := fun ob s1 => ob = .ref sh.heap.objs.size ∧ s1 = { sh with heap := sh.heap.push { cls := .type "list", data := .seq #[] } }) F.called_list (F.typeCall_list_1 _) F.entry_list_init (code_list_new _ ⟨rfl, rfl⟩) fun ob s1 h1 => ?_
  obtain ⟨rfl, rfl⟩ := h1
  have g1 : (sh.heap.push { cls := .type "list", data := .seq #[] }).get? sh.heap.objs.size = some { cls := .type "list", data := .seq #[] } := Heap.get?_push_size _ rfl
  refine ⟨⟨_, g1, rfl⟩, F.args_list_init_2 _ _, ?_⟩
  show wpAny _ _ (do let old ← Builtin.List.listItems (.ref sh.heap.objs.size); Builtin.List.listUpdate (.ref sh.heap.objs.size) (fun _ => #[]); letGo old.toList.reverse; Builtin.List.listExtendWith (.ref sh.heap.objs.size) (.ref ri) .none) _ _ _
  refine wpAny_bind ?_
  unfold Builtin.List.listItems
  refine wpAny_bind (wpAny_seqItems g1 rfl (wpAny_pure ?_))
  show wpAny _ _ (updateSeq sh.heap.objs.size (fun _ => #[]) >>= fun _ => letGo (#[] : Array Value).toList.reverse >>= fun _ => Builtin.List.listExtendWith (.ref sh.heap.objs.size) (.ref ri) .none) _ _ _
  refine wpAny_bind (wpAny_updateSeq g1 rfl ?_)
  have g2 := Heap.get?_update_self (Obj.mapSeq (fun _ => (#[] : Array Value))) g1 rfl
  have oth : ∀ b o, b ≠ sh.heap.objs.size → sh.heap.get? b = some o → ((sh.heap.push { cls := .type "list", data := .seq #[] }).update sh.heap.objs.size (Obj.mapSeq (fun _ => (#[] : Array Value)))).get? b = some o :=
    fun b o nb e => (Heap.get?_update_other _ _ (Ne.symm nb)).trans (Heap.get?_push_of_some _ e)
  refine wpAny_bind (wpAny_letGo ?_)
  refine rv_extend (sh := { sh with heap := (sh.heap.push { cls := .type "list", data := .seq #[] }).update sh.heap.objs.size (Obj.mapSeq (fun _ => (#[] : Array Value))) }) (by first | exact hq | rfl) (hri.at fun o e => oth _ _ (Ne.symm dr) e) ?_ hd hsz _ _ g2 dr dl fun h2 k2 ac c2 kp e2 hac => ?_
  · exact hla.at fun o e => oth _ _ (Ne.symm dl) e
  · exact ⟨rfl, fin h2 k2 ac c2 (fun b o nr e => kp b o (Nat.ne_of_lt (Heap.lt_size e)) nr (oth _ _ (Nat.ne_of_lt (Heap.lt_size e)) e)) e2 hac⟩
end
end K37
namespace K37
open PySem L2 TL
open PyProof.Rows hiding St
section
variable {X : Cx}
/-- list(reversed(x)), x a list -/
def tListRev (te : TE) : TE := fun σ H Q => te σ H fun v H1 => ∃ (a : Addr) (xs : List V), v = .ref a ∧ H1 a = some (.lst xs) ∧ New (.lst xs.reverse) H1 Q
theorem pe_listRev {e : Expr} {te : TE} {p p2 pos pos2 : Pos} (hc : X.calm = true) (m1 : X.mg "list" = none) (m2 : X.mg "reversed" = none) (he : PE X e te) (g1 : Gl X "list" := by rfl) (g2 : Gl X "reversed" := by rfl)
    (st1 : starEach [e] X.env = (false, eval e X.env) :: starEach [] X.env := by rfl) (st2 : starEach [.Call (.Name "reversed" p2) [e] [] pos2] X.env = (false, eval (.Call (.Name "reversed" p2) [e] [] pos2) X.env) :: starEach [] X.env := by rfl) :
    PE X (.Call (.Name "list" p) [.Call (.Name "reversed" p2) [e] [] pos2] [] pos) (tListRev te) := by
  refine ⟨fun pins s σ H Q I h => ?_⟩
  refine Call_ (ld_blt I g1 m1 (show bootBuiltins "list" = some (.type "list") by decide +kernel) (PyProof.Rows.callWith_type1 (args_cons (Call_ (ld_blt I g2 m2 PyProof.Rows.boot_reversed (PyProof.Rows.callWith_type1 (args_cons (thn (he.run pins s σ H _ I h) fun u s1 ⟨v, H1, I1, r1, q1⟩ => args_nil ?_) st1) st1 rfl))) st2) st2 rfl))
  obtain ⟨la, xs, ev, hl1, q⟩ := q1
  subst ev
  obtain rfl : u = Value.ref la := r1
  obtain ⟨its, rv, pl, hz⟩ := I1.list (SqL.of hl1)
  refine call_reversed_list pl.isList (args_nil ?_)
  have J2 : Inv X pins σ H1 { s1 with heap := s1.heap.push (revObj la ((its.toArray.size : Int) - 1)) } := I1.kept (t' := s1.toks) fun b o e => Heap.get?_push_of_some _ e
  have isl := pl.isList
  obtain ⟨ol, hol, _⟩ := id isl
  have dn : la ≠ s1.heap.objs.size := Nat.ne_of_lt (Heap.lt_size hol)
  have hn : its.toArray.size ≤ sizeLine := by rw [List.size_toArray, ← rv.length]; exact hz
  obtain ⟨f0, f1, f2, f3, f4, f5⟩ := I1.fpOk (H' := H1) (b := s1.heap.objs.size) (Nat.le_refl _) (I1.hok.fresh (Nat.le_refl _))
  refine K37.rv_list (sh := { s1 with heap := s1.heap.push (revObj la ((its.toArray.size : Int) - 1)) }) (I1.ok.hd hc) ⟨_, Heap.get?_push_size _ rfl, rfl, rfl⟩ (isl.push _) dn hn fun h2 k2 ac c2 kp e2 hac => ?_
  have hsz : s1.heap.objs.size ≤ (s1.heap.push (revObj la ((its.toArray.size : Int) - 1))).objs.size := by rw [Heap.size_push]; exact Nat.le_succ _
  refine ⟨.ref _, upd H1 _ (.lst xs.reverse), I1.laid (t' := k2) (fun b o e => kp b o (Nat.ne_of_lt (Heap.lt_size e)) (Heap.get?_push_of_some _ e)) hsz ⟨by rw [List.length_reverse]; exact hz, ac.toList, c2, RT.vals_rev rv hac, by rw [Array.toArray_toList]; exact e2⟩, rfl, q.at _ (I1.hok.fresh hsz)⟩
end
end K37
set_option maxHeartbeats 4000000
/-! K37K: several lists that change; a comprehension whose items change them; the law's pot -/
namespace K37
open PySem L2 TL
open PyProof.Rows hiding St
/-- what was tracked stands, but what is at S's places -/
def Buts (S : List Addr) (H H' : Hp) : Prop := ∀ b o, b ∉ S → H b = some o → H' b = some o
section
variable {S S' : List Addr} {H H1 H2 : Hp} {p : Addr}
theorem Buts.refl (S : List Addr) (H : Hp) : Buts S H H := fun _ _ _ h => h
theorem Buts.trans (x : Buts S H H1) (y : Buts S H1 H2) : Buts S H H2 := fun b o n h => y b o n (x b o n h)
theorem Buts.of (s : Same H H1) : Buts S H H1 := fun b o _ h => s b o h
theorem Buts.same (x : Buts S H H1) (s : Same H1 H2) : Buts S H H2 := fun b o n h => s b o (x b o n h)
theorem Buts.mono (x : Buts S H H1) (h : ∀ a ∈ S, a ∈ S') : Buts S' H H1 := fun b o n => x b o fun z => n (h b z)
theorem But.buts {a : Addr} (x : But a H H1) (h : a ∈ S) : Buts S H H1 := fun b o n => x b o fun z => n (z ▸ h)
theorem Buts.but {a : Addr} (x : Buts [a] H H1) : But a H H1 := fun b o n => x b o (by simpa using n)
theorem Buts.fresh (x : Buts (p :: S) H H1) (h : H p = none) : Buts S H H1 := fun b o n q => x b o (by
  intro z
  rcases List.mem_cons.mp z with z | z
  · rw [z, h] at q
    cases q
  · exact n z) q
theorem Buts.tk (x : Buts S H H1) (h : ∀ a ∈ S, ∃ l, H a = some (.lst l)) : Tk H H1 := fun b xs q => x b _ (fun z => by
  obtain ⟨l, e⟩ := h b z
  rw [q] at e
  cases e) q
theorem Buts.free (x : Buts S H H1) (hS : ∀ a ∈ S, H1 a ≠ none) (h : H1 p = none) : H p = none := by
  cases e : H p with
  | none => rfl
  | some o =>
    have z := x p o (fun z => hS p z h) e
    rw [h] at z
    cases z
theorem but_new {a : Addr} (b : But a H H1) (h : ∃ o, H1 a = some o) (hp : H1 p = none) : H p = none := by
  cases e : H p with
  | none => rfl
  | some o =>
    have hne : p ≠ a := fun z => by
      obtain ⟨o', h⟩ := h
      rw [← z, hp] at h
      cases h
    have z := b p o hne e
    rw [hp] at z
    cases z
end
theorem But.buts1 {a : Addr} {H H1 : Hp} (x : But a H H1) : Buts [a] H H1 := x.buts List.mem_cons_self
theorem But.buts1' {a b : Addr} {H H1 : Hp} (x : But a H H1) : Buts [a, b] H H1 := x.buts List.mem_cons_self
/-- a sign as a text -/
def sgn (c : Nat) : Str := ⟨#[c]⟩
theorem sgn_sum : ∀ cs : List Nat, ((cs.map sgn).map fun x => x.length).sum = cs.length
  | [] => rfl
  | c :: r => by
    rw [List.map_cons, List.map_cons, List.sum_cons, sgn_sum r, List.length_cons]
    show 1 + _ = _
    omega
theorem joinL_nil : ∀ l : List (List Nat), joinL [] l = l.flatten
  | [] => rfl
  | [a] => by simp [joinL]
  | a :: b :: r => by
    show a ++ ([] ++ joinL [] (b :: r)) = _
    rw [joinL_nil (b :: r)]
    simp
theorem sgn_join (cs : List Nat) : Str.join (Str.ofString "") (cs.map sgn) = ⟨cs.toArray⟩ := by
  refine ext_tl ?_
  rw [tl_join, show tl (Str.ofString "") = [] from by decide +kernel, joinL_nil, List.map_map]
  show (cs.map (tl ∘ sgn)).flatten = cs
  induction cs with
  | nil => rfl
  | cons c r ih =>
    rw [List.map_cons, List.flatten_cons, ih]
    rfl
/-- the pot: three ints, the third at most n -/
def Pot (H : Hp) (p : Addr) (n : Nat) : Prop := ∃ a b c : Int, H p = some (.lst [.int a, .int b, .int c]) ∧ 0 ≤ a ∧ 0 ≤ b ∧ b < 2147483647 ∧ 0 ≤ c ∧ c ≤ (n : Int)
section
variable {H H' : Hp} {p t : Addr} {n m : Nat}
theorem Pot.up (h : Pot H p n) (k : n ≤ m) : Pot H p m := by
  obtain ⟨a, b, c, h1, h2, h3, h4, h5, h6⟩ := h
  exact ⟨a, b, c, h1, h2, h3, h4, h5, by omega⟩
theorem Pot.keep (h : Pot H p n) (k : ∀ o, H p = some o → H' p = some o) : Pot H' p n := by
  obtain ⟨a, b, c, h1, h⟩ := h
  exact ⟨a, b, c, k _ h1, h⟩
theorem Pot.same (h : Pot H p n) (s : Same H H') : Pot H' p n := h.keep fun o q => s _ _ q
theorem Pot.lst (h : Pot H p n) : ∃ l, H p = some (.lst l) := by
  obtain ⟨a, b, c, h1, _⟩ := h
  exact ⟨_, h1⟩
theorem Pot.ne_strs {ns : List Str} (h : Pot H p n) (ht : H t = some (.lst (ns.map V.str))) : p ≠ t := fun z => by
  obtain ⟨a, b, c, h1, _⟩ := h
  rw [z, ht] at h1
  have e := HO.lst.inj (Option.some.inj h1)
  cases ns with
  | nil => cases e
  | cons x r => cases (List.cons.inj e).1
theorem Pot.ne_lst {l : List V} (h : Pot H p n) (ht : H t = some (.lst l)) (hl : ∀ a b c : Int, l ≠ [.int a, .int b, .int c]) : p ≠ t := fun z => by
  obtain ⟨a, b, c, h1, _⟩ := h
  rw [z, ht] at h1
  exact hl _ _ _ (HO.lst.inj (Option.some.inj h1))
end
section
variable {J : It} {n : Nat} {f : Nat → V} {S : Hp → Prop} {g : TG} {tt : TT} {te : TE} {vs : List Nat} {σ : St} {H1 : Hp} {Q : VK}
/-- a comprehension whose block changes the lists at A -/
theorem lc_but (wk : Wk J n f S) (A : List Addr) (hA : ∀ a ∈ A, H1 a ≠ none) (U : Nat → List V → Hp → Prop) (hS : ∀ i acc H, i ≤ n → Buts A H1 H → U i acc H → S H) (hz : n ≤ 1000000) (hl : ∀ i acc H, i ≤ n → U i acc H → acc.length ≤ i)
    (mono : ∀ i acc H D l l', H1 D = none → H D = some (.lst l) → U i acc H → U i acc (upd H D (.lst l'))) (h0 : ∀ D l, H1 D = none → U 0 [] (upd H1 D (.lst l)))
    (hs : ∀ i acc H (Ky : VK) (Kn : Hp → Prop), i < n → Buts A H1 H → U i acc H → (∀ y H', Buts A H H' → U (i + 1) (acc ++ [y]) H' → Ky y H') → (∀ H', Buts A H H' → U (i + 1) acc H' → Kn H') →
      g (f i) (wipe σ vs) H fun σ2 H2 => wipe σ2 vs = wipe σ vs ∧ tt σ2 H2 fun b H3 => if b = true then te σ2 H3 Ky else Kn H3)
    (hd : ∀ D acc H, Buts A H1 H → H1 D = none → H D = some (.lst acc) → U n acc H → Q (.ref D) H) :
    LcOk J g tt te vs σ H1 Q := by
  intro D hD
  have hDA : D ∉ A := fun z => hA D z hD
  have bm : ∀ {H : Hp} {o : HO}, Buts A H1 H → Buts A H1 (upd H D o) := fun {H o} b c u n q => by
    rw [upd_ne (ne_of_none q hD)]
    exact b c u n q
  refine ⟨fun i m H => m = n - i ∧ i ≤ n ∧ Buts A H1 H ∧ ∃ acc, H D = some (.lst acc) ∧ U i acc H, ⟨n, rfl, Nat.zero_le _, bm (Buts.refl A H1), [], upd_same, h0 D [] hD⟩, ?_⟩
  rintro i m H ⟨rfl, hi, hb1, acc, hDa, u⟩
  by_cases hlt : i < n
  · refine .inr ⟨wk.go i H hlt (hS i acc H hi hb1 u), fun H' => Buts A H1 H' ∧ ∃ acc, H' D = some (.lst acc) ∧ U (i + 1) acc H', fun H' q => ⟨n - (i + 1), by omega, rfl, hlt, q⟩, fun x H' y => ?_⟩
    obtain ⟨e, ex⟩ := wk.yl i H x H' hlt (hS i acc H hi hb1 u) y
    subst e ex
    refine hs i acc _ (fun y H4 => ∃ acc, H4 D = some (.lst acc) ∧ acc.length < sizeLine ∧ (Buts A H1 (upd H4 D (.lst (acc ++ [y]))) ∧ ∃ acc2, (upd H4 D (.lst (acc ++ [y]))) D = some (.lst acc2) ∧ U (i + 1) acc2 (upd H4 D (.lst (acc ++ [y]))))) (fun H' => Buts A H1 H' ∧ ∃ acc, H' D = some (.lst acc) ∧ U (i + 1) acc H') hlt hb1 u (fun y H4 b4 u4 => ?_) fun H4 b4 u4 => ⟨hb1.trans b4, acc, b4 _ _ hDA hDa, u4⟩
    refine ⟨acc, b4 _ _ hDA hDa, ?_, bm (hb1.trans b4), _, upd_same, mono _ _ _ _ _ _ hD (b4 _ _ hDA hDa) u4⟩
    have := hl i acc _ hi u
    rw [sizeLine_eq]
    omega
  · have e : i = n := by omega
    subst e
    exact .inl ⟨wk.st H (hS _ acc H hi hb1 u), hd D acc H hb1 hD hDa u⟩
end
section
variable {X : Cx}
theorem PSet.imp {t t' : V → V → V → Hp → (Hp → Prop) → Prop} (h : PSet X t) (k : ∀ o i v H Q, t' o i v H Q → t o i v H Q) : PSet X t' := fun pins s σ H o i v ov iv u Q I ro ri rv q => h pins s σ H o i v ov iv u Q I ro ri rv (k _ _ _ _ _ q)
def rSetLD : V → V → V → Hp → (Hp → Prop) → Prop := fun o i v H Q => ∃ p xs k j, o = .ref p ∧ i = .int k ∧ H p = some (.lst xs) ∧ ixN xs.length k = some j ∧ Chg p (xs.set j v) H Q
theorem set_lstD : PSet X rSetLD := PSet.imp set_list fun o i v H Q q => by
  obtain ⟨p, xs, k, j, e1, e2, h, hj, q⟩ := q
  exact ⟨p, xs, k, j, e1, e2, h, hj, q.at⟩
def rLenQ (K : PySem.W.Frag) : List V → Hp → VK → Prop := fun xs H Q => ∃ a ys, xs = [.ref a] ∧ SqL K H a ys ∧ Q (.int (ys.length : Int)) H
theorem call_lenQ : CallR X (.builtin "len") (rLenQ X.K) := CallR.imp call_len fun xs H Q q => by
  obtain ⟨a, ys, e, h, q⟩ := q
  exact ⟨.ref a, ys.length, e, .inl ⟨ys, h, rfl⟩, q⟩
end
end K37
set_option maxHeartbeats 4000000
namespace K37
open PySem L2 TL
open PyProof.Rows hiding St
def spIsValue : Sp := fun vs H Q _ => ∃ (v : Str) (k : Nat) (m : Int), vs = [.str v, .int m] ∧ ValOk v k ∧ (m = 0 ∨ m = (k : Int)) ∧ ∀ H', Same H H' → Q (.bl true) H'
def spIsName : Sp := fun vs H Q _ => ∃ n, vs = [.str n] ∧ NameOk n ∧ ∀ H', Same H H' → Q (.bl true) H'
def spIsWhole : Sp := fun vs H Q _ => ∃ n, vs = [.int n] ∧ Q (.bl true) H
def spAreBounds : Sp := fun vs H Q _ => ∃ (a : Addr) (hi lo : Int), vs = [.ref a] ∧ H a = some (.lst [.int hi, .int lo]) ∧ 0 ≤ lo ∧ lo ≤ hi ∧ hi < 8 ∧ ∀ H', Same H H' → Q (.bl true) H'
def spLeafWeight : Sp := fun vs H Q _ => ∃ (w x : Str) (a : Addr), vs = [.str w, .ref a] ∧ H a = some (.lst [.str x]) ∧ ((w = "of" ∧ NameOk x) ∨ (w = "is" ∧ ∃ k, ValOk x k)) ∧ ∀ H', Same H H' → Q (.int 1) H'
local macro_rules | `(tactic| walk_at "rd") => `(tactic| simp only [tYes, wipe, HO.lst.injEq, HO.tup.injEq, HO.dK.injEq, Nat.reduceAdd, Nat.reduceLeDiff, Nat.reduceSub, Int.reduceLE, Int.reduceLT, Int.reduceNeg, Nat.zero_add, Int.reduceEq, cut_head, cut_tail, cut_mid, cut_three, c_cast0, c_cast1, c_cast2, c_cast3, c_cast4, z_lit, List.getD_eq_getElem?_getD, Option.getD_some, tLc_eq, tFor_eq, cxOf, Cx.nox, Cx.wish, tSeq, tIfS, tOr, tAnd, tNot, tB, tCB, tCons, tVar, tC, tNil, tTest, tChain, rI0, rI, tOp, rIxS, rIxL, rIxT, tRet, tNext, tAsg, gName, tAndV, tOrV, tNotV, tIf, tIsN, tNotN, tCall, tDrop, tBM, tBM0, rEq, rNe, tRetN, tSl, tNoPart, tPart, tTupD, tLstD, tInD, rIsK, rLenS, rLenL, rLenT, rAllT, rAnyF, rInK, rInL, rSlLD, rSlTD, rSlS, rCatD, rCatTD, rAppD, rExtD, rPopD, rPopAtD, rListD, rTupleD, iLst, iTpl, iStr, rIxLH, rIxTH, gTupH, gLstH, gStar0, gStar1, gStar2, rSumH, rAddS2, tJoinS, tFmtS, tFmtI, tJoined, tJoined_nil, tJoined_cons, rIsG, app_empty, tFldD, sFldD, tMkD, tMoD, rIsC, rLenO, rEqO, HO.ins.injEq, exists_eq, tNilL, tML, tML0, tMS, iEnumH, tCallK, rStrI, tGetS, tGet1S, tGet2S, rListKD, tDc_eq, tLc2_eq, tKGet, gCons, gNil, tChain3, tPartD, tSplitD, tPar, New, Chg, rListTD, atI_0, atI_1, atI_2, atI_3, sign_inj, and_false, false_and, or_false, false_or, or_true, true_or, List.take_succ_cons, List.take_zero, List.drop_succ_cons, List.drop_zero, forall_const, exists_false, not_false_eq_true, not_true_eq_false, if_true, if_false, iRng1, KindV,
  L2.start, List.map_cons, List.map_nil, List.length_cons, List.length_nil, List.replicate, List.cons_append, List.nil_append, List.append_nil, List.set_cons_zero, List.set_cons_succ, List.getElem?_cons_zero, List.getElem?_cons_succ, Option.some.injEq, exists_eq_left', exists_eq_left, V.int.injEq, V.str.injEq, V.bl.injEq, V.ref.injEq, V.ty.injEq, true_and, and_true, List.cons.injEq, exists_and_left, exists_eq', and_assoc, scal, ofString_inj, String.reduceEq, reduceIte, decide_eq_true_eq, decide_eq_false_iff_not, Bool.not_true, Bool.not_false, Bool.not_eq_true', inV_cons, inV_nil, eqV_ss, eqV_ii, flatV, List.all_cons, List.all_nil, Bool.and_true, Bool.or_false, Bool.true_and, Bool.false_or, decide_true, decide_false, Bool.true_or, Bool.false_eq_true, reduceCtorEq, spIsName, spIsValue, spIsWhole])
local macro_rules | `(tactic| walk_at "ra") => `(tactic| simp only [tYes, wipe, HO.lst.injEq, HO.tup.injEq, HO.dK.injEq, Nat.reduceAdd, Nat.reduceLeDiff, Nat.reduceSub, Int.reduceLE, Int.reduceLT, Int.reduceNeg, Nat.zero_add, Int.reduceEq, cut_head, cut_tail, cut_mid, cut_three, c_cast0, c_cast1, c_cast2, c_cast3, c_cast4, z_lit, List.getD_eq_getElem?_getD, Option.getD_some, tLc_eq, tFor_eq, cxOf, Cx.nox, Cx.wish, tSeq, tIfS, tOr, tAnd, tNot, tB, tCB, tCons, tVar, tC, tNil, tTest, tChain, rI0, rI, tOp, rIxS, rIxL, rIxT, tRet, tNext, tAsg, gName, tAndV, tOrV, tNotV, tIf, tIsN, tNotN, tCall, tDrop, tBM, tBM0, rEq, rNe, tRetN, tSl, tNoPart, tPart, tTupD, tLstD, tInD, rIsK, rLenS, rLenL, rLenT, rAllT, rAnyF, rInK, rInL, rSlLD, rSlTD, rSlS, rCatD, rCatTD, rAppD, rExtD, rPopD, rPopAtD, rListD, rTupleD, iLst, iTpl, iStr, rIxLH, rIxTH, gTupH, gLstH, gStar0, gStar1, gStar2, rSumH, rAddS2, tJoinS, tFmtS, tFmtI, tJoined, tJoined_nil, tJoined_cons, rIsG, app_empty, tFldD, sFldD, tMkD, tMoD, rIsC, rLenO, rEqO, HO.ins.injEq, exists_eq, tNilL, tML, tML0, tMS, iEnumH, tCallK, rStrI, tGetS, tGet1S, tGet2S, rListKD, tDc_eq, tLc2_eq, tKGet, gCons, gNil, tChain3, tPartD, tSplitD, tPar, New, Chg, rListTD, atI_0, atI_1, atI_2, atI_3, sign_inj, and_false, false_and, or_false, false_or, or_true, true_or, List.take_succ_cons, List.take_zero, List.drop_succ_cons, List.drop_zero, forall_const, exists_false, not_false_eq_true, not_true_eq_false, if_true, if_false, iRng1, KindV,
  L2.start, List.map_cons, List.map_nil, List.length_cons, List.length_nil, List.replicate, List.cons_append, List.nil_append, List.append_nil, List.set_cons_zero, List.set_cons_succ, List.getElem?_cons_zero, List.getElem?_cons_succ, Option.some.injEq, exists_eq_left', exists_eq_left, V.int.injEq, V.str.injEq, V.bl.injEq, V.ref.injEq, V.ty.injEq, true_and, and_true, List.cons.injEq, exists_and_left, exists_eq', and_assoc, scal, ofString_inj, String.reduceEq, reduceIte, decide_eq_true_eq, decide_eq_false_iff_not, Bool.not_true, Bool.not_false, Bool.not_eq_true', inV_cons, inV_nil, eqV_ss, eqV_ii, flatV, List.all_cons, List.all_nil, Bool.and_true, Bool.or_false, Bool.true_and, Bool.false_or, decide_true, decide_false, Bool.true_or, Bool.false_eq_true, reduceCtorEq, spIsName, spIsValue, spIsWhole, *])

theorem sc_is_value : FnScope ["thing", "width", "sign"] ["thing", "width"] (defScope s_is_value) := ⟨rfl, rfl, rfl, by decide +kernel, rfl, by decide +kernel, by decide +kernel⟩

theorem sc_is_name : FnScope ["thing", "is_free", "sign"] ["thing"] (defScope s_is_name) := ⟨rfl, rfl, rfl, by decide +kernel, rfl, by decide +kernel, by decide +kernel⟩

theorem sc_is_whole : FnScope ["thing"] ["thing"] (defScope s_is_whole) := ⟨rfl, rfl, rfl, by decide +kernel, rfl, by decide +kernel, by decide +kernel⟩

theorem sc_are_bounds : FnScope ["things", "high", "low", "thing"] ["things"] (defScope s_are_bounds) := ⟨rfl, rfl, rfl, by decide +kernel, rfl, by decide +kernel, by decide +kernel⟩

theorem sc_leaf_weight : FnScope ["word", "things", "is_right"] ["word", "things"] (defScope s_leaf_weight) := ⟨rfl, rfl, rfl, by decide +kernel, rfl, by decide +kernel, by decide +kernel⟩

theorem small8 {n : Nat} (h : n ≤ 8) : n ≤ sizeLine := by rw [sizeLine_eq]; omega
section
variable {P : Program} {w : World} {K : PySem.W.Frag} {mg : Str → Option Value} {base : Heap} {k : Nat}
theorem bod_is_value (T : TX K mg) : Bod P w K mg base "is_value" s_is_value ["thing", "width", "sign"] k spIsValue := by
  intro fa cdv A outer s H vs Q E hr h
  obtain ⟨v, kk, m, rfl, ok, hm, q⟩ := h
  refine ⟨_, (pss_cons (ps_if (PW.pt (pw_or (pt_not (pt_val (pe_callB (call_is (n := "str") (m := "str") (b := true) rfl) rfl T.isinstance (by decide +kernel) (pa_cons (pv 0) (pa_cons (pe_bltn (v := .ty "str") rfl T.str (by decide +kernel) rfl) pa_nil))))) (pw_or1 (pt_not (pt_chain op_le op_le pe_int (pe_callB call_lenS rfl T.len PySem.boot_len (pa_cons (pv 0) pa_nil)) (pe_gv T.c_WIDEST))))))
      (pss_one (ps_ret pe_bl))
      pss_nil)
    (pss_one (ps_ret (pe_and (pe_callB (call_allT rfl) rfl T.all (by decide +kernel) (pa_cons (pe_lc (own := [("sign", 2)]) (tt := tYes) rfl sc_is_value.nd (pi_str (pv 0)) (blkOk_by (N := ["thing", "width", "sign"]) (sc := defScope s_is_value) (by decide +kernel)) (fun _ _ _ _ _ => (pg_name (i := 2) sc_is_value.nd rfl (Or.inl rfl))) (fun _ _ _ _ _ => pts_nil) (fun _ _ _ _ _ => (pe_cmpR op_in_sign (pv 2) (pe_gv T.c_SIGNS) (by rfl)))) pa_nil)) (pe_one (pe_inD (pv 1) (pa_cons pe_int (pa_cons (pe_callB call_lenS rfl T.len PySem.boot_len (pa_cons (pv 0) pa_nil)) pa_nil)))))))), ?_⟩
  have hl : v.length = kk := by rw [len_tl]; exact ok.len
  have h1 := ok.l1
  have h8 := ok.l8
  walk_at "rd"
  simp only [hl, small8 h8, show (1 : Int) ≤ (kk : Int) by omega, show ((kk : Int) ≤ 8) by omega, true_and, if_true, not_true_eq_false, if_false]
  refine lc_map wk_str (fun _ _ => trivial) (fun i y H => y = .bl true) (sz_of hl (by omega)) (fun _ _ _ _ r _ => r) (fun i H1 Ky hi s1 ky => ?_) (fun Dl ys H1 s1 hD hl1 hlen hy => ?_) mg_name
  · walk_at "rd"
    refine ky _ _ (Same.refl _) ?_
    have hc : v.cps.getD i 0 ∈ tl v := by
      show v.cps.getD i 0 ∈ v.cps.toList
      simp [hi]
    have := ok.al _ hc
    rw [decide_eq_true ((signs_mem _).mpr (by omega))]
  · refine ⟨Dl, rfl, ys, hl1, of_getElem hy, ?_⟩
    · intro H3 s3
      have e : (decide ((0 : Int) = m) || decide ((kk : Int) = m)) = true := by
        rcases hm with e | e <;> simp [e]
      rw [e]
      exact q _ (s1.trans s3)
theorem ok_is_value (T : TX K mg) {dvs : List V} (D : DF K mg "is_value" s_is_value ["thing", "width"] dvs) : FO P w K mg base "is_value" (k + 1) ["thing", "width"] dvs spIsValue :=
  D.ok sc_is_value (fun vs H Q E h => by obtain ⟨n, _, _, rfl, _⟩ := h; rfl) (bod_is_value T)
theorem okk_is_value (T : TX K mg) (D : DFK K mg "is_value" s_is_value ["thing", "width"] 1 ["width"] fun vs zs => vs ++ zs) : FK P w K mg base "is_value" (k + 1) ["thing", "width"] 1 ["width"] (fun vs zs => vs ++ zs) spIsValue :=
  D.ok sc_is_value (fun vs H Q E h => by obtain ⟨n, _, _, rfl, _⟩ := h; rfl) (bod_is_value T)
theorem ok_is_name (T : TX K mg) (D : DF K mg "is_name" s_is_name ["thing"] []) : FO P w K mg base "is_name" (k + 1) ["thing"] [] spIsName := by
  obtain ⟨_, c_WORDS⟩ := T.k_WORDS
  obtain ⟨_, c_OTHER_WORDS⟩ := T.k_OTHER_WORDS
  refine D.ok sc_is_name (fun vs H Q E h => ?_) (fun fa cdv A outer s H vs Q E hr h => ?_)
  · obtain ⟨n, rfl, _⟩ := h
    rfl
  obtain ⟨n, rfl, ok, q⟩ := h
  refine ⟨_, (pss_cons (ps_if (PW.pt (pw_or (pt_not (pt_val (pe_callB (call_is (n := "str") (m := "str") (b := true) rfl) rfl T.isinstance (by decide +kernel) (pa_cons (pv 0) (pa_cons (pe_bltn (v := .ty "str") rfl T.str (by decide +kernel) rfl) pa_nil))))) (pw_or (pt_not (pt_chain op_le op_le pe_int (pe_callB call_lenS rfl T.len PySem.boot_len (pa_cons (pv 0) pa_nil)) (pe_gv T.c_LONGEST_NAME))) (pw_or1 (pt_cmpR op_notIn_sign (pe_ix ix_str (pv 0) pe_int (fun _ _ => rfl)) (pe_gv T.c_LETTERS) (by rfl))))))
      (pss_one (ps_ret pe_bl))
      pss_nil)
    (pss_cons (ps_set (i := 1) sc_is_name.nd rfl (Or.inl rfl) (pe_and (pe_cmpR (op_ninK c_WORDS.2) (pv 0) (pe_gv c_WORDS.1) (by rfl)) (pe_one (pe_cmpR (op_ninK c_OTHER_WORDS.2) (pv 0) (pe_gv c_OTHER_WORDS.1) (by rfl)))))
    (pss_one (ps_ret (pe_and (pv 1) (pe_one (pe_callB (call_allT rfl) rfl T.all (by decide +kernel) (pa_cons (pe_lc (own := [("sign", 2)]) (tt := tYes) rfl sc_is_name.nd (pi_str (pv 0)) (blkOk_by (N := ["thing", "is_free", "sign"]) (sc := defScope s_is_name) (by decide +kernel)) (fun _ _ _ _ _ => (pg_name (i := 2) sc_is_name.nd rfl (Or.inl rfl))) (fun _ _ _ _ _ => pts_nil) (fun _ _ _ _ _ => (pe_or (pe_cmpR op_in_sign (pv 2) (pe_gv T.c_LETTERS) (by rfl)) (pe_one (pe_cmpR op_in_sign (pv 2) (pe_gv T.c_FIGURES) (by rfl)))))) pa_nil)))))))), ?_⟩
  have hl := len_tl n
  have h1 := ok.l1
  have h8 := ok.l8
  obtain ⟨c, r, e0, hc⟩ := ok.hd
  have hat : atI n.cps.toList 0 = some c := by
    show atI (tl n) ((0 : Nat) : Int) = _
    exact atI_nat (by rw [e0]; rfl)
  walk_at "rd"
  simp only [show n.length ≤ sizeLine from small8 (by omega), show (1 : Int) ≤ (n.length : Int) by omega, show ((n.length : Int) ≤ 8) by omega, hat, true_and, if_true, not_true_eq_false, if_false, ok.nw, ok.no, not_false_eq_true, Option.some.injEq, exists_eq_left', sign_inj, (lets_mem c).mpr hc]
  refine lc_map wk_str (fun _ _ => trivial) (fun i y H => y = .bl true) (sz_of hl (by omega)) (fun _ _ _ _ r _ => r) (fun i H1 Ky hi s1 ky => ?_) (fun Dl ys H1 s1 hD hl1 hlen hy => ?_) mg_name
  · walk_at "rd"
    have hm : n.cps.getD i 0 ∈ tl n := by
      show n.cps.getD i 0 ∈ n.cps.toList
      simp [hi]
    refine ite2 (fun z => ky _ _ (Same.refl _) rfl) fun z => ky _ _ (Same.refl _) ?_
    have := ok.al _ hm
    rw [lets_mem] at z
    rw [decide_eq_true ((figs_mem _).mpr (this.resolve_left z))]
  · refine ⟨Dl, rfl, ys, hl1, of_getElem hy, q _ s1⟩
theorem ok_is_whole (T : TX K mg) (D : DF K mg "is_whole" s_is_whole ["thing"] []) : FO P w K mg base "is_whole" (k + 1) ["thing"] [] spIsWhole := by
  refine D.ok sc_is_whole (fun vs H Q E h => ?_) (fun fa cdv A outer s H vs Q E hr h => ?_)
  · obtain ⟨n, rfl, _⟩ := h
    rfl
  obtain ⟨n, rfl, q⟩ := h
  refine ⟨_, (pss_one (ps_ret (pe_and (pe_callB (call_is (n := "int") (m := "int") (b := true) rfl) rfl T.isinstance (by decide +kernel) (pa_cons (pv 0) (pa_cons (pe_bltn (v := .ty "int") rfl T.int (by decide +kernel) rfl) pa_nil))) (pe_one (pe_not (pe_callB (call_is (n := "int") (m := "bool") (b := false) rfl) rfl T.isinstance (by decide +kernel) (pa_cons (pv 0) (pa_cons (pe_bltn (v := .ty "bool") rfl T.bool (by decide +kernel) rfl) pa_nil)))))))), ?_⟩
  walk_at "rd"
  exact q
theorem ok_are_bounds (T : TX K mg) (D : DF K mg "are_bounds" s_are_bounds ["things"] []) (G_is_whole : FO P w K mg base "is_whole" k ["thing"] [] spIsWhole) : FO P w K mg base "are_bounds" (k + 1) ["things"] [] spAreBounds := by
  refine D.ok sc_are_bounds (fun vs H Q E h => ?_) (fun fa cdv A outer s H vs Q E hr h => ?_)
  · obtain ⟨n, _, _, rfl, _⟩ := h
    rfl
  obtain ⟨a, hi, lo, rfl, hS, h1, h2, h3, q⟩ := h
  refine ⟨_, (pss_cons (ps_if (PW.pt (pw_or (pt_cmpR op_ne (pe_callB call_lenL rfl T.len PySem.boot_len (pa_cons (pv 0) pa_nil)) pe_int (nomark _)) (pw_or1 (pt_not (pt_val (pe_callB (call_allT rfl) rfl T.all (by decide +kernel) (pa_cons (pe_lc (own := [("thing", 3)]) (tt := tYes) rfl sc_are_bounds.nd (pi_lst (pv 0)) (blkOk_by (N := ["things", "high", "low", "thing"]) (sc := defScope s_are_bounds) (by decide +kernel)) (fun _ _ _ _ _ => (pg_name (i := 3) sc_are_bounds.nd rfl (Or.inl rfl))) (fun _ _ _ _ _ => pts_nil) (fun _ _ _ _ _ => (pe_fo G_is_whole hr (pa_cons (pv 3) pa_nil)))) pa_nil)))))))
      (pss_one (ps_ret pe_bl))
      pss_nil)
    (pss_cons (ps_asg (pv 0) (pg_lst 2 rfl (pgs_cons (pg_name (i := 1) sc_are_bounds.nd rfl (Or.inl rfl)) (pgs_cons (pg_name (i := 2) sc_are_bounds.nd rfl (Or.inl rfl)) pgs_nil))))
    (pss_one (ps_ret (pe_chain3 op_le op_le op_lt pe_int (pv 2) (pv 1) (pe_gv T.c_WIDEST)))))), ?_⟩
  walk_at "ra"
  refine lc_map wk_lst (fun H1 s => s _ _ hS) (fun i y H => y = .bl true) (by show 2 ≤ _; decide) (fun _ _ _ _ r _ => r) (fun i H1 Ky hi s1 ky => ?_) (fun Dl ys H1 s1 hD hl1 hlen hy => ?_) mg_name
  · walk_at "rd"
    have : i = 0 ∨ i = 1 := by
      have : i < 2 := hi
      omega
    rcases this with rfl | rfl
    · exact ⟨_, rfl, ky _ _ (Same.refl _) rfl⟩
    · exact ⟨_, rfl, ky _ _ (Same.refl _) rfl⟩
  · have hS1 := s1 _ _ hS
    refine ⟨Dl, rfl, ys, hl1, of_getElem hy, ?_⟩
    walk_at "ra"
theorem ok_leaf_weight (T : TX K mg) (D : DF K mg "leaf_weight" s_leaf_weight ["word", "things"] []) (G_is_name : FO P w K mg base "is_name" k ["thing"] [] spIsName) (G_is_value : FO P w K mg base "is_value" k ["thing", "width"] [.int 0] spIsValue) :
    FO P w K mg base "leaf_weight" (k + 1) ["word", "things"] [] spLeafWeight := by
  refine D.ok sc_leaf_weight (fun vs H Q E h => ?_) (fun fa cdv A outer s H vs Q E hr h => ?_)
  · obtain ⟨n, _, _, rfl, _⟩ := h
    rfl
  obtain ⟨wd, x, a, rfl, hS, hw, q⟩ := h
  refine ⟨_, (pss_cons (ps_set (i := 2) sc_leaf_weight.nd rfl (Or.inl rfl) (pe_and (pe_cmpR op_eq (pe_callB call_lenL rfl T.len PySem.boot_len (pa_cons (pv 1) pa_nil)) pe_int (nomark _)) (pe_one (pe_ifExp (pt_cmpR op_eq (pv 0) pe_str (nomark _)) (pe_fo G_is_name hr (pa_cons (pe_ix ix_lst (pv 1) pe_int (fun _ _ => rfl)) pa_nil)) (pe_fo G_is_value hr (pa_cons (pe_ix ix_lst (pv 1) pe_int (fun _ _ => rfl)) pa_nil))))))
    (pss_one (ps_ret (pe_callTy call_int1 rfl T.int (by decide +kernel) (pa_cons (pe_and (pv 2) (pe_one (pe_or (pe_cmpR op_eq (pv 0) pe_str (nomark _)) (pe_one (pe_cmpR op_notIn_sign pe_str (pe_ix ix_lst (pv 1) pe_int (fun _ _ => rfl)) (by rfl)))))) pa_nil))))), ?_⟩
  rcases hw with ⟨rfl, hx⟩ | ⟨rfl, kk, hx⟩
  · walk_at "ra"
    exact q
  · walk_at "ra"
    refine ⟨kk, hx, fun H1 s1 => ?_⟩
    have hS1 := s1 _ _ hS
    walk_at "ra"
    have : ¬ 122 ∈ x.cps.toList := fun z => by
      have := hx.al 122 z
      omega
    rw [if_pos this]
    exact q _ s1
end
end K37
set_option maxHeartbeats 4000000
namespace K37
open PySem L2 TL
open PyProof.Rows hiding St
theorem sc_arguments_of : FnScope ["word"] ["word"] (defScope s_arguments_of) := ⟨rfl, rfl, rfl, by decide +kernel, rfl, by decide +kernel, by decide +kernel⟩

theorem sc_term_weight : FnScope ["thing", "deep", "weights", "word", "things", "terms", "is_right", "term"] ["thing", "deep"] (defScope s_term_weight) := ⟨rfl, rfl, rfl, by decide +kernel, rfl, by decide +kernel, by decide +kernel⟩

theorem sc_terms_in : FnScope ["term", "word", "things"] ["term"] (defScope s_terms_in) := ⟨rfl, rfl, rfl, by decide +kernel, rfl, by decide +kernel, by decide +kernel⟩

theorem sc_is_term : FnScope ["thing"] ["thing"] (defScope s_is_term) := ⟨rfl, rfl, rfl, by decide +kernel, rfl, by decide +kernel, by decide +kernel⟩

def spArgsOf : Sp := fun vs H Q _ => ∃ w, vs = [.str w] ∧ w ∈ wordsL ∧ Q (.int (argsOf w : Int)) H
def Fits (t : Tm) : Prop := ∃ (G : Str → Nat → Prop) (k : Nat), (∀ n k, G n k → 1 ≤ k ∧ k ≤ 8) ∧ Fit G t k
def spTermWeight (n : Nat) : Sp := fun vs H Q _ => ∃ (t : Tm) (v : V) (d : Int), vs = [v, .int d] ∧ RT H t v ∧ Fits t ∧ deep t ≤ n ∧ n ≤ 10 ∧ (deep t : Int) ≤ d ∧ ∀ H', Same H H' → Q (.int (wt t : Int)) H'
def spTermsIn : Sp := fun vs H Q _ => ∃ (t : Tm) (v : V), vs = [v] ∧ RT H t v ∧ Fits t ∧ ∀ p xs H', H p = none → Same H H' → H' p = some (.lst xs) → All2 (RT H') (subs t) xs → Q (.ref p) H'
def spIsTerm : Sp := fun vs H Q _ => ∃ (t : Tm) (v : V), vs = [v] ∧ RT H t v ∧ Fits t ∧ deep t ≤ 10 ∧ wt t ≤ 60 ∧ ∀ H', Same H H' → Q (.bl true) H'
section
variable {X : Cx} {e : Expr} {te : TE} {x1 : Nat} {p2 pos : Pos}
/-- thing == (), of a term -/
def tEqNil (te : TE) : TT := fun σ H Q => te σ H fun x H1 => ∃ t, RT H1 t x ∧ Fits t ∧ deep t ≤ 10 ∧ ∀ H2, Same H1 H2 → Q false H2
theorem pt_eqNil (hu : X.A.units + 64 < cLine) (he : PE X e te) : PT X (.Compare e [.Eq] [.Tuple [] x1 p2] pos) (tEqNil te) :=
  PT.imp (pt_cmpR (op_eqD hu) (pe_up he) (pe_tup pa_nil) (nomark _)) fun σ H Q q => by
    refine ⟨_, fun x H1 z => ?_, q⟩
    obtain ⟨t, ht, ⟨G, k, hG, hf⟩, hd, q⟩ := z
    refine ⟨Nat.zero_le _, fun p hp => ⟨tD t, .tuple [], RT.dp t x (RT.tk (same_tk (same_new hp)) t x ht), .tup (SqT.of upd_same) .nil, tD_shaped hf hd, by decide, false, ?_, q _ (same_new hp)⟩⟩
    rw [tD_ne]
end
local macro_rules | `(tactic| walk_at "rd") => `(tactic| simp only [tYes, wipe, HO.lst.injEq, HO.tup.injEq, HO.dK.injEq, Nat.reduceAdd, Nat.reduceLeDiff, Nat.reduceSub, Int.reduceLE, Int.reduceLT, Int.reduceNeg, Nat.zero_add, Int.reduceEq, cut_head, cut_tail, cut_mid, cut_three, c_cast0, c_cast1, c_cast2, c_cast3, c_cast4, z_lit, List.getD_eq_getElem?_getD, Option.getD_some, tLc_eq, tFor_eq, cxOf, Cx.nox, Cx.wish, tSeq, tIfS, tOr, tAnd, tNot, tB, tCB, tCons, tVar, tC, tNil, tTest, tChain, rI0, rI, tOp, rIxS, rIxL, rIxT, tRet, tNext, tAsg, gName, tAndV, tOrV, tNotV, tIf, tIsN, tNotN, tCall, tDrop, tBM, tBM0, rEq, rNe, tRetN, tSl, tNoPart, tPart, tTupD, tLstD, tInD, rIsK, rLenS, rLenL, rLenT, rAllT, rAnyF, rInK, rInL, rSlLD, rSlTD, rSlS, rCatD, rCatTD, rAppD, rExtD, rPopD, rPopAtD, rListD, rTupleD, iLst, iTpl, iStr, rIxLH, rIxTH, gTupH, gLstH, gStar0, gStar1, gStar2, rSumH, rAddS2, tJoinS, tFmtS, tFmtI, tJoined, tJoined_nil, tJoined_cons, rIsG, app_empty, tFldD, sFldD, tMkD, tMoD, rIsC, rLenO, rEqO, HO.ins.injEq, exists_eq, tNilL, tML, tML0, tMS, iEnumH, tCallK, rStrI, tGetS, tGet1S, tGet2S, rListKD, tDc_eq, tLc2_eq, tKGet, gCons, gNil, tChain3, tPartD, tSplitD, tPar, New, Chg, rListTD, atI_0, atI_1, atI_2, atI_3, sign_inj, and_false, false_and, or_false, false_or, or_true, true_or, List.take_succ_cons, List.take_zero, List.drop_succ_cons, List.drop_zero, forall_const, exists_false, not_false_eq_true, not_true_eq_false, if_true, if_false, iRng1, KindV,
  L2.start, List.map_cons, List.map_nil, List.length_cons, List.length_nil, List.replicate, List.cons_append, List.nil_append, List.append_nil, List.set_cons_zero, List.set_cons_succ, List.getElem?_cons_zero, List.getElem?_cons_succ, Option.some.injEq, exists_eq_left', exists_eq_left, V.int.injEq, V.str.injEq, V.bl.injEq, V.ref.injEq, V.ty.injEq, true_and, and_true, List.cons.injEq, exists_and_left, exists_eq', and_assoc, scal, ofString_inj, String.reduceEq, reduceIte, decide_eq_true_eq, decide_eq_false_iff_not, Bool.not_true, Bool.not_false, Bool.not_eq_true', inV_cons, inV_nil, eqV_ss, eqV_ii, flatV, List.all_cons, List.all_nil, Bool.and_true, Bool.or_false, Bool.true_and, Bool.false_or, decide_true, decide_false, Bool.true_or, Bool.false_eq_true, reduceCtorEq, spIsName, spIsValue, spIsWhole, spAreBounds, spLeafWeight, spArgsOf, spTermsIn, tEqNil, Sg.sort, Sg.name, Sg.wd])
local macro_rules | `(tactic| walk_at "ra") => `(tactic| simp only [tYes, wipe, HO.lst.injEq, HO.tup.injEq, HO.dK.injEq, Nat.reduceAdd, Nat.reduceLeDiff, Nat.reduceSub, Int.reduceLE, Int.reduceLT, Int.reduceNeg, Nat.zero_add, Int.reduceEq, cut_head, cut_tail, cut_mid, cut_three, c_cast0, c_cast1, c_cast2, c_cast3, c_cast4, z_lit, List.getD_eq_getElem?_getD, Option.getD_some, tLc_eq, tFor_eq, cxOf, Cx.nox, Cx.wish, tSeq, tIfS, tOr, tAnd, tNot, tB, tCB, tCons, tVar, tC, tNil, tTest, tChain, rI0, rI, tOp, rIxS, rIxL, rIxT, tRet, tNext, tAsg, gName, tAndV, tOrV, tNotV, tIf, tIsN, tNotN, tCall, tDrop, tBM, tBM0, rEq, rNe, tRetN, tSl, tNoPart, tPart, tTupD, tLstD, tInD, rIsK, rLenS, rLenL, rLenT, rAllT, rAnyF, rInK, rInL, rSlLD, rSlTD, rSlS, rCatD, rCatTD, rAppD, rExtD, rPopD, rPopAtD, rListD, rTupleD, iLst, iTpl, iStr, rIxLH, rIxTH, gTupH, gLstH, gStar0, gStar1, gStar2, rSumH, rAddS2, tJoinS, tFmtS, tFmtI, tJoined, tJoined_nil, tJoined_cons, rIsG, app_empty, tFldD, sFldD, tMkD, tMoD, rIsC, rLenO, rEqO, HO.ins.injEq, exists_eq, tNilL, tML, tML0, tMS, iEnumH, tCallK, rStrI, tGetS, tGet1S, tGet2S, rListKD, tDc_eq, tLc2_eq, tKGet, gCons, gNil, tChain3, tPartD, tSplitD, tPar, New, Chg, rListTD, atI_0, atI_1, atI_2, atI_3, sign_inj, and_false, false_and, or_false, false_or, or_true, true_or, List.take_succ_cons, List.take_zero, List.drop_succ_cons, List.drop_zero, forall_const, exists_false, not_false_eq_true, not_true_eq_false, if_true, if_false, iRng1, KindV,
  L2.start, List.map_cons, List.map_nil, List.length_cons, List.length_nil, List.replicate, List.cons_append, List.nil_append, List.append_nil, List.set_cons_zero, List.set_cons_succ, List.getElem?_cons_zero, List.getElem?_cons_succ, Option.some.injEq, exists_eq_left', exists_eq_left, V.int.injEq, V.str.injEq, V.bl.injEq, V.ref.injEq, V.ty.injEq, true_and, and_true, List.cons.injEq, exists_and_left, exists_eq', and_assoc, scal, ofString_inj, String.reduceEq, reduceIte, decide_eq_true_eq, decide_eq_false_iff_not, Bool.not_true, Bool.not_false, Bool.not_eq_true', inV_cons, inV_nil, eqV_ss, eqV_ii, flatV, List.all_cons, List.all_nil, Bool.and_true, Bool.or_false, Bool.true_and, Bool.false_or, decide_true, decide_false, Bool.true_or, Bool.false_eq_true, reduceCtorEq, spIsName, spIsValue, spIsWhole, spAreBounds, spLeafWeight, spArgsOf, spTermsIn, tEqNil, Sg.sort, Sg.name, Sg.wd, *])

/-- what an operator's tuple holds -/
theorem RT.cell {H : Hp} {t : Tm} {x : V} (h : RT H t x) : ∃ a args, x = .ref a ∧ H a = some (.tup (.str (wordOf t) :: args)) ∧
    ((∃ v, t = .is v ∧ args = [.str v]) ∨ (∃ n, t = .of n ∧ args = [.str n]) ∨ (∃ s hi lo v, t = .t s hi lo ∧ args = [v, .int (hi : Int), .int (lo : Int)] ∧ RT H s v) ∨
      ((∀ s hi lo, t ≠ .t s hi lo) ∧ (∀ v, t ≠ .is v) ∧ (∀ v, t ≠ .of v) ∧ All2 (RT H) (subs t) args)) := by
  cases t with
  | is v => obtain ⟨a, e, h⟩ := h; exact ⟨a, _, e, h, .inl ⟨v, rfl, rfl⟩⟩
  | of v => obtain ⟨a, e, h⟩ := h; exact ⟨a, _, e, h, .inr (.inl ⟨v, rfl, rfl⟩)⟩
  | t s hi lo => obtain ⟨a, v, e, h, q⟩ := h; exact ⟨a, _, e, h, .inr (.inr (.inl ⟨s, hi, lo, v, rfl, rfl, q⟩))⟩
  | u w s => obtain ⟨a, v, e, h, q⟩ := h; exact ⟨a, _, e, h, .inr (.inr (.inr ⟨fun _ _ _ z => (by cases z), fun _ z => (by cases z), fun _ z => (by cases z), .cons q .nil⟩))⟩
  | b w s t => obtain ⟨a, v, u, e, h, q, q'⟩ := h; exact ⟨a, _, e, h, .inr (.inr (.inr ⟨fun _ _ _ z => (by cases z), fun _ z => (by cases z), fun _ z => (by cases z), .cons q (.cons q' .nil)⟩))⟩
  | p r s t => obtain ⟨a, z, v, u, e, h, q, q', q''⟩ := h; exact ⟨a, _, e, h, .inr (.inr (.inr ⟨fun _ _ _ z => (by cases z), fun _ z => (by cases z), fun _ z => (by cases z), .cons q (.cons q' (.cons q'' .nil))⟩))⟩
theorem words_all : ∀ w ∈ (["not", "any", "all", "and", "or", "xor", "plus", "same", "less", "join", "pick"] : List Str), w ∈ wordsL ∧ w ≠ "part" ∧ w ≠ "is" ∧ w ≠ "of" := by decide +kernel
theorem words_1 : ∀ w ∈ (["not", "any", "all"] : List Str), argsOf w = 1 := by decide +kernel
theorem words_2 : ∀ w ∈ (["and", "or", "xor", "plus", "same", "less", "join"] : List Str), argsOf w = 2 := by decide +kernel
theorem words_3 : argsOf "pick" = 3 := by decide +kernel
/-- an operator's word -/
theorem Fits.word {t : Tm} (h : Fits t) (h1 : ∀ s hi lo, t ≠ .t s hi lo) (h2 : ∀ v, t ≠ .is v) (h3 : ∀ v, t ≠ .of v) : wordOf t ∈ wordsL ∧ wordOf t ≠ "part" ∧ wordOf t ≠ "is" ∧ wordOf t ≠ "of" ∧ (subs t).length = argsOf (wordOf t) := by
  obtain ⟨G, k, hG, h⟩ := h
  cases t with
  | is v => exact absurd rfl (h2 v)
  | of v => exact absurd rfl (h3 v)
  | t s hi lo => exact absurd rfl (h1 s hi lo)
  | u w s =>
    have hw := Fit.wordu h
    have e := words_1 w hw
    obtain ⟨a, b, c, d⟩ := words_all w (by simp only [List.mem_cons, List.not_mem_nil, or_false] at hw ⊢; rcases hw with h | h | h <;> simp [h])
    exact ⟨a, b, c, d, e.symm⟩
  | b w s t =>
    have hw := Fit.word h
    have e := words_2 w hw
    obtain ⟨a, b, c, d⟩ := words_all w (by simp only [List.mem_cons, List.not_mem_nil, or_false] at hw ⊢; rcases hw with h | h | h | h | h | h | h <;> simp [h])
    exact ⟨a, b, c, d, e.symm⟩
  | p r s t =>
    obtain ⟨a, b, c, d⟩ := words_all "pick" (by simp)
    exact ⟨a, b, c, d, words_3.symm⟩
theorem Fits.sub {t s : Tm} (h : Fits t) (hs : s ∈ subs t) : Fits s := by
  obtain ⟨G, k, hG, h⟩ := h
  obtain ⟨j, q⟩ := Fit.subs h s hs
  exact ⟨G, j, hG, q⟩
theorem subs_deep {t s : Tm} (hs : s ∈ subs t) : deep s + 1 ≤ deep t := by
  cases t <;> simp [subs] at hs
  · subst hs; simp only [deep]; omega
  · rcases hs with rfl | rfl <;> simp only [deep] <;> omega
  · rcases hs with rfl | rfl | rfl <;> simp only [deep] <;> omega
  · subst hs; simp only [deep]; omega
theorem subs_wt {t : Tm} (h2 : ∀ v, t ≠ .is v) (h3 : ∀ v, t ≠ .of v) : 1 + (((subs t).map fun s => (wt s : Int)).sum) = (wt t : Int) := by
  cases t with
  | is v => exact absurd rfl (h2 v)
  | of v => exact absurd rfl (h3 v)
  | u w s => simp only [subs, wt, List.map_cons, List.map_nil, List.sum_cons, List.sum_nil]; omega
  | b w s t => simp only [subs, wt, List.map_cons, List.map_nil, List.sum_cons, List.sum_nil]; omega
  | p r s t => simp only [subs, wt, List.map_cons, List.map_nil, List.sum_cons, List.sum_nil]; omega
  | t s hi lo => simp only [subs, wt, List.map_cons, List.map_nil, List.sum_cons, List.sum_nil]; omega
section
variable {P : Program} {w : World} {K : PySem.W.Frag} {mg : Str → Option Value} {base : Heap} {k : Nat}
theorem ok_arguments_of {d : Addr} (kA : KA K w mg d) (D : DF K mg "arguments_of" s_arguments_of ["word"] []) : FO P w K mg base "arguments_of" (k + 1) ["word"] [] spArgsOf := by
  refine D.ok sc_arguments_of (fun vs H Q E h => ?_) (fun fa cdv A outer s H vs Q E hr h => ?_)
  · obtain ⟨n, rfl, _⟩ := h
    rfl
  obtain ⟨wd, rfl, hw, q⟩ := h
  refine ⟨_, (pss_one (ps_ret (pe_kget kA (pv 0) pe_int ⟨rfl, rfl, rfl, rfl⟩))), ?_⟩
  walk_at "ra"
  have e : (argO wd).getD (.int 2) = .int (argsOf wd : Int) := by
    unfold argO argsOf
    split
    · rfl
    · split <;> rfl
  show Q ((argO wd).getD (.int 2)) H
  rw [e]
  exact q
theorem ok_term_weight {n : Nat} (T : TX K mg) {dvs : List V} (D : DF K mg "term_weight" s_term_weight ["thing", "deep"] dvs) (G_term_weight : FO P w K mg base "term_weight" k ["thing", "deep"] [] (spTermWeight n))
    (G_leaf_weight : FO P w K mg base "leaf_weight" k ["word", "things"] [] spLeafWeight) (G_are_bounds : FO P w K mg base "are_bounds" k ["things"] [] spAreBounds) (G_arguments_of : FO P w K mg base "arguments_of" k ["word"] [] spArgsOf) :
    FO P w K mg base "term_weight" (k + 1) ["thing", "deep"] dvs (spTermWeight (n + 1)) := by
  obtain ⟨_, c_WORDS⟩ := T.k_WORDS
  refine D.ok sc_term_weight (fun vs H Q E h => ?_) (fun fa cdv A outer s H vs Q E hr h => ?_)
  · obtain ⟨_, _, _, rfl, _⟩ := h
    rfl
  obtain ⟨t, v, d, rfl, ht, hf, hn, h10, hd, q⟩ := h
  refine ⟨_, (pss_cons (ps_if (PW.pt (pw_or (pt_cmpR op_eq (pv 1) pe_int (nomark _)) (pw_or (pt_not (pt_val (pe_callB (call_is (n := "tuple") (m := "tuple") (b := true) rfl) rfl T.isinstance (by decide +kernel) (pa_cons (pv 0) (pa_cons (pe_bltn (v := .ty "tuple") rfl T.tuple (by decide +kernel) rfl) pa_nil))))) (pw_or (pt_eqNil hr.units (pv 0)) (pw_or1 (pt_not (pt_val (pe_callB (call_is (n := "str") (m := "str") (b := true) rfl) rfl T.isinstance (by decide +kernel) (pa_cons (pe_ix ix_tpl (pv 0) pe_int (fun _ _ => rfl)) (pa_cons (pe_bltn (v := .ty "str") rfl T.str (by decide +kernel) rfl) pa_nil))))))))))
      (pss_one (ps_ret pe_int))
      pss_nil)
    (pss_cons (ps_asg (pv 0) (pg_str1 rfl (pgs_cons (pg_name (i := 3) sc_term_weight.nd rfl (Or.inl rfl)) (pgs_cons (pg_name (i := 4) sc_term_weight.nd rfl (Or.inl rfl)) pgs_nil))))
    (pss_cons (ps_if (pt_inD (pv 3) (pa_cons pe_str (pa_cons pe_str pa_nil)))
      (pss_one (ps_ret (pe_fo G_leaf_weight hr (pa_cons (pv 3) (pa_cons (pv 4) pa_nil)))))
      pss_nil)
    (pss_cons (ps_if (pt_cmpR op_eq (pv 3) pe_str (nomark _))
      (pss_one (ps_par (i := 5) (j := 6) rfl sc_term_weight.nd rfl rfl (by decide) rfl rfl (pa_cons (pe_slice sl_listD (pv 4) po_none (po_some pe_int)) (pa_cons (pe_fo G_are_bounds hr (pa_cons (pe_slice sl_listD (pv 4) (po_some pe_int) po_none) pa_nil)) pa_nil)) (by rfl)))
      (pss_one (ps_par (i := 5) (j := 6) rfl sc_term_weight.nd rfl rfl (by decide) rfl rfl (pa_cons (pv 4) (pa_cons (pe_and (pe_cmpR (op_inK c_WORDS.2) (pv 3) (pe_gv c_WORDS.1) (by rfl)) (pe_one (pe_cmpR op_eq (pe_callB call_lenL rfl T.len PySem.boot_len (pa_cons (pv 4) pa_nil)) (pe_fo G_arguments_of hr (pa_cons (pv 3) pa_nil)) (nomark _)))) pa_nil)) (by rfl))))
    (pss_cons (ps_set (i := 2) sc_term_weight.nd rfl (Or.inl rfl) (pe_ifExp (pt_val (pv 6)) (pe_lc (own := [("term", 7)]) (tt := tYes) rfl sc_term_weight.nd (pi_lst (pv 5)) (blkOk_by (N := ["thing", "deep", "weights", "word", "things", "terms", "is_right", "term"]) (sc := defScope s_term_weight) (by decide +kernel)) (fun _ _ _ _ _ => (pg_name (i := 7) sc_term_weight.nd rfl (Or.inl rfl))) (fun _ _ _ _ _ => pts_nil) (fun _ _ _ _ _ => (pe_fo G_term_weight hr (pa_cons (pv 7) (pa_cons (pe_op op_sub (pv 1) pe_int) pa_nil))))) (pe_lstD (pa_cons pe_int pa_nil))))
    (pss_one (ps_ret (pe_ifExp (pt_cmpR op_inL pe_int (pv 2) (by rfl)) pe_int (pe_op op_add pe_int (pe_callB (call_sumH rfl) rfl T.sum (by decide +kernel) (pa_cons (pv 2) pa_nil))))))))))), ?_⟩
  have hd0 : d ≠ 0 := by have := deep_pos t; omega
  obtain ⟨a, args, rfl, ha, hc⟩ := RT.cell ht
  refine seq_i fun M hM => ?_
  walk_at "ra"
  refine ⟨t, ht, hf, by omega, fun H1 s1 => ?_⟩
  have ha1 := s1 _ _ ha
  walk_at "ra"
  subst hM
  refine seq_i fun M hM => ?_
  walk_at "ra"
  intro p H2 hp s2 hl
  subst hM
  have s02 : Same H H2 := s1.trans s2
  refine seq_i fun M hM => ?_
  have wd : (∃ x, args = [.str x] ∧ ((wordOf t = "of" ∧ NameOk x) ∨ (wordOf t = "is" ∧ ∃ k, ValOk x k))) ∨
      ((∀ v, t ≠ .is v) ∧ (∀ v, t ≠ .of v) ∧ wordOf t ≠ "is" ∧ wordOf t ≠ "of") := by
    rcases hc with ⟨v, rfl, rfl⟩ | ⟨v, rfl, rfl⟩ | ⟨t', hi, lo, v, rfl, rfl, ht'⟩ | ⟨n1, n2, n3, hal⟩
    · obtain ⟨G, kk, hG, hok⟩ := hf
      exact .inl ⟨v, rfl, .inr ⟨rfl, kk, hok⟩⟩
    · obtain ⟨G, kk, hG, hok⟩ := hf
      exact .inl ⟨v, rfl, .inl ⟨rfl, hok.1⟩⟩
    · exact .inr ⟨fun _ z => (by cases z), fun _ z => (by cases z), show (Str.ofString "part" : Str) ≠ Str.ofString "is" by decide +kernel, show (Str.ofString "part" : Str) ≠ Str.ofString "of" by decide +kernel⟩
    · obtain ⟨w1, w2, w3, w4, w5⟩ := hf.word n1 n2 n3
      exact .inr ⟨n2, n3, w3, w4⟩
  rcases wd with ⟨x, rfl, hx⟩ | ⟨n2, n3, w3, w4⟩
  · walk_at "ra"
    intro H3 s3
    have hl3 := s3 _ _ hl
    have ew : (decide (Str.ofString "is" = wordOf t) || decide (Str.ofString "of" = wordOf t)) = true := by
      rcases hx with ⟨e, _⟩ | ⟨e, _⟩ <;> rw [e] <;> decide +kernel
    have e1 : wt t = 1 := by
      rcases hc with ⟨v, rfl, _⟩ | ⟨v, rfl, _⟩ | ⟨t', hi, lo, v, rfl, e, _⟩ | ⟨n1, n2, n3, _⟩
      · rfl
      · rfl
      · cases e
      · obtain ⟨_, _, w3, w4, _⟩ := hf.word n1 n2 n3
        rcases hx with ⟨e, _⟩ | ⟨e, _⟩
        · exact absurd e w4
        · exact absurd e w3
    rw [if_pos ew]
    refine ⟨x, hl3, hx, fun H4 s4 => ?_⟩
    have z := q _ ((s02.trans s3).trans s4)
    rw [e1] at z
    exact z
  have w3' := Ne.symm w3
  have w4' := Ne.symm w4
  walk_at "ra"
  intro H3 s3
  subst hM
  have hl3 := s3 _ _ hl
  have s03 : Same H H3 := s02.trans s3
  refine seq_i fun M hM => ?_
  have fin : ∀ (p5 : Addr) (args' : List V) (H4 : Hp), Same H H4 → H4 p5 = some (.lst args') → All2 (RT H4) (subs t) args' →
      M [some (V.ref a), some (V.int d), none, some (V.str (wordOf t)), some (V.ref p), some (V.ref p5), some (V.bl true), none] H4 := by
    intro p5 args' H4 s04 hl4 hal
    subst hM
    refine seq_i fun M hM => ?_
    walk_at "ra"
    have hle : args'.length ≤ 3 := by
      rw [← all2_len hal]
      cases t <;> simp [subs]
    refine lc_map wk_lst (fun H s => s _ _ hl4) (fun i y H => ∃ s, (subs t)[i]? = some s ∧ y = .int (wt s : Int)) (by omega) (fun _ _ _ _ r _ => r) (fun i H5 Ky hi s5 ky => ?_) (fun Dl ys H5 s5 hD hl5 hlen hy => ?_) mg_name
    · have hget : args'[i]? = some (args'.getD i .non) := by simp [hi]
      obtain ⟨s', hs', hr'⟩ := all2_at hal hget
      have hmem := List.mem_of_getElem? hs'
      have hdp := subs_deep hmem
      walk_at "rd"
      exact ⟨s', _, d - 1, rfl, RT.tk (same_tk s5) _ _ hr', hf.sub hmem, by omega, by omega, by omega, fun H6 s6 => ky _ _ s6 ⟨s', hs', rfl⟩⟩
    · subst hM
      have ey := map_of (f := fun s => V.int (wt s : Int)) (hlen.trans (all2_len hal).symm) hy
      have em : (subs t).map (fun s => V.int (wt s : Int)) = ((subs t).map fun s => (wt s : Int)).map V.int := by
        rw [List.map_map]
        rfl
      rw [em] at ey
      subst ey
      walk_at "ra"
      have h0 : ¬ (0 : Int) ∈ (subs t).map fun s => (wt s : Int) := fun z => by
        obtain ⟨s', _, e⟩ := List.mem_map.mp z
        have := wt_pos s'
        omega
      refine ⟨flat_ints _, ?_⟩
      rw [inV_ints, decide_eq_false h0, if_neg Bool.false_ne_true]
      refine ⟨_, rfl, ?_⟩
      rw [subs_wt n2 n3]
      exact q _ (s04.trans s5)
  rcases hc with ⟨v, rfl, rfl⟩ | ⟨v, rfl, rfl⟩ | ⟨t', hi, lo, v, rfl, rfl, ht'⟩ | ⟨n1, n2, n3, hal⟩
  · exact absurd rfl (n2 v)
  · exact absurd rfl (n3 v)
  · simp only [wordOf] at *
    obtain ⟨G, kk, hG, j, hfa, hj, hlo, hk⟩ := hf
    walk_at "ra"
    intro p4 H4 hp4 s4 hl4
    have hl34 := s4 _ _ hl3
    refine ⟨_, hl34, fun p5 H5 hp5 s5 hl5 => ?_⟩
    walk_at "ra"
    have := Fit.range hG _ _ hfa
    exact ⟨by omega, by omega, by omega, fun H6 s6 => fin _ _ _ (((s03.trans s4).trans s5).trans s6) (s6 _ _ (s5 _ _ hl4)) (.cons (RT.tk (same_tk (((s03.trans s4).trans s5).trans s6)) _ _ ht') .nil)⟩
  · obtain ⟨w1, w2, w3, w4, w5⟩ := hf.word n1 n2 n3
    walk_at "ra"
    have el : ((args.length : Nat) : Int) = (argsOf (wordOf t) : Int) := by rw [← w5, all2_len hal]
    rw [decide_eq_true el]
    exact fin _ _ _ s03 hl3 (all2_mono (fun _ _ z => RT.tk (same_tk s03) _ _ z) hal)
theorem ok_is_term (T : TX K mg) (D : DF K mg "is_term" s_is_term ["thing"] []) (G_term_weight : FO P w K mg base "term_weight" k ["thing", "deep"] [.int 10] (spTermWeight 10)) : FO P w K mg base "is_term" (k + 1) ["thing"] [] spIsTerm := by
  refine D.ok sc_is_term (fun vs H Q E h => ?_) (fun fa cdv A outer s H vs Q E hr h => ?_)
  · obtain ⟨_, _, rfl, _⟩ := h
    rfl
  obtain ⟨t, v, rfl, ht, hf, hd, hw, q⟩ := h
  refine ⟨_, (pss_one (ps_ret (pe_chain op_lt op_le pe_int (pe_fo G_term_weight hr (pa_cons (pv 0) pa_nil)) (pe_gv T.c_MOST_TUPLES)))), ?_⟩
  walk_at "rd"
  refine ⟨t, v, 10, rfl, ht, hf, hd, by omega, by omega, fun H1 s1 => ?_⟩
  have := wt_pos t
  have h0 : (0 : Int) < (wt t : Int) := by omega
  have h6 : (wt t : Int) ≤ 60 := by omega
  walk_at "ra"
theorem ok_terms_in (T : TX K mg) (D : DF K mg "terms_in" s_terms_in ["term"] []) : FO P w K mg base "terms_in" (k + 1) ["term"] [] spTermsIn := by
  refine D.ok sc_terms_in (fun vs H Q E h => ?_) (fun fa cdv A outer s H vs Q E hr h => ?_)
  · obtain ⟨_, _, rfl, _⟩ := h
    rfl
  obtain ⟨t, v, rfl, ht, hf, q⟩ := h
  refine ⟨_, (pss_cons (ps_asg (pv 0) (pg_str1 rfl (pgs_cons (pg_name (i := 1) sc_terms_in.nd rfl (Or.inl rfl)) (pgs_cons (pg_name (i := 2) sc_terms_in.nd rfl (Or.inl rfl)) pgs_nil))))
    (pss_cons (ps_if (pt_inD (pv 1) (pa_cons pe_str (pa_cons pe_str pa_nil)))
      (pss_one (ps_ret (pe_lstD pa_nil)))
      pss_nil)
    (pss_one (ps_ret (pe_ifExp (pt_cmpR op_eq (pv 1) pe_str (nomark _)) (pe_slice sl_listD (pv 2) po_none (po_some pe_int)) (pv 2)))))), ?_⟩
  obtain ⟨a, args, rfl, ha, hc⟩ := RT.cell ht
  refine seq_i fun M hM => ?_
  walk_at "ra"
  intro p H2 hp s2 hl
  subst hM
  walk_at "ra"
  intro H3 s3
  have hl3 := s3 _ _ hl
  have s03 := s2.trans s3
  rcases hc with ⟨v, rfl, rfl⟩ | ⟨v, rfl, rfl⟩ | ⟨t', hi, lo, v, rfl, rfl, ht'⟩ | ⟨n1, n2, n3, hal⟩
  · simp only [wordOf]
    walk_at "ra"
    exact fun p4 H4 hp4 s4 hl4 => q _ _ _ ((s03.free hp4)) (s03.trans s4) hl4 .nil
  · simp only [wordOf]
    walk_at "ra"
    exact fun p4 H4 hp4 s4 hl4 => q _ _ _ ((s03.free hp4)) (s03.trans s4) hl4 .nil
  · simp only [wordOf]
    walk_at "ra"
    exact fun p4 H4 hp4 s4 hl4 => q _ _ _ ((s03.free hp4)) (s03.trans s4) hl4 (.cons (RT.tk (same_tk (s03.trans s4)) _ _ ht') .nil)
  · obtain ⟨w1, w2, w3, w4, w5⟩ := hf.word n1 n2 n3
    have w3' := Ne.symm w3
    have w4' := Ne.symm w4
    walk_at "ra"
    exact q _ _ _ hp s03 hl3 (all2_mono (fun _ _ z => RT.tk (same_tk s03) _ _ z) hal)
end
end K37
set_option maxHeartbeats 4000000
namespace K37
open PySem L2 TL
open PyProof.Rows hiding St
theorem sc_operated_width : FnScope ["word", "widths", "first", "others"] ["word", "widths"] (defScope s_operated_width) := ⟨rfl, rfl, rfl, by decide +kernel, rfl, by decide +kernel, by decide +kernel⟩

/-- what an operator's width is of its arguments' -/
def OW (w : Str) (ks : List Nat) (r : Nat) : Prop :=
  (w = "not" ∧ ks = [r]) ∨ (isAny w ∧ r = 1 ∧ ∃ j, ks = [j]) ∨ (isBin w ∧ ks = [r, r]) ∨ (isCmp w ∧ r = 1 ∧ ∃ j, ks = [j, j]) ∨ (w = "join" ∧ ∃ i j, ks = [i, j] ∧ r = i + j ∧ r ≤ 8) ∨ (w = "pick" ∧ ks = [1, r, r])
def intV (ks : List Nat) : List V := ks.map fun (j : Nat) => V.int (j : Int)
def spOperatedWidth : Sp := fun vs H Q _ => ∃ (w : Str) (a : Addr) (ks : List Nat) (r : Nat), vs = [.str w, .ref a] ∧ H a = some (.lst (intV ks)) ∧ OW w ks r ∧ ∀ H', Same H H' → Q (.int (r : Int)) H'
section
variable {X : Cx} {e f : Expr} {te tf : TE} {x1 : Nat} {p1 p2 p3 pos : Pos}
def rNotInTD (K : PySem.W.Frag) : R2 := fun x y H Q => ∃ d ds, Dp K H x d ∧ Dp K H y (.tuple ds) ∧ SeqAt.shaped d = true ∧ SeqAt.shaped (.tuple ds) = true ∧ Q (.bl (!ds.any fun z => PyData.eqv z d)) H
theorem op_notInTD (hu : X.A.units + 65 < cLine) : OpR X (compareOp .NotIn) (rNotInTD X.K) := by
  intro pins s σ H x y v u Q I rx ry h
  obtain ⟨d, ds, hd, he, sd, se, q⟩ := h
  obtain ⟨as, r1⟩ := Dp.reads I d x v hd rx
  obtain ⟨bs, r2⟩ := Dp.reads I (.tuple ds) y u he ry
  exact SeqAt.notIn_tuple_reads r2 r1 (SeqAt.canLay_of_shaped se) (SeqAt.canLay_of_shaped sd) (room_in_shaped sd hu) ⟨.bl _, H, I, rfl, q⟩
/-- others not in ([], [first]): two short lists of numbers, first in the slot i -/
def tTwo (te : TE) (i : Nat) : TT := fun σ H Q => te σ H fun x H1 => ∃ j a, σ[i]? = some (some (.int j)) ∧ x = .ref a ∧ (H1 a = some (.lst []) ∨ H1 a = some (.lst [.int j])) ∧ ∀ H3, Same H1 H3 → Q false H3
theorem pt_two {i : Nat} (hu : X.A.units + 65 < cLine) (he : PE X e te) (hf : PE X f (tVar i)) (hm : behindInMarks .NotIn (.Tuple [.List [] p1, .List [f] p2] x1 p3) = false := by rfl)
    (hs1 : starEach [.List [] p1, .List [f] p2] X.env = (false, eval (.List [] p1) X.env) :: starEach [.List [f] p2] X.env := by rfl) (hs2 : starEach [.List [f] p2] X.env = (false, eval (.List [f] p2) X.env) :: starEach [] X.env := by rfl) (hs3 : starEach [f] X.env = (false, eval f X.env) :: starEach [] X.env := by rfl) :
    PT X (.Compare e [.NotIn] [.Tuple [.List [] p1, .List [f] p2] x1 p3] pos) (tTwo te i) :=
  PT.imp (pt_cmpR (op_notInTD hu) (pe_up he) (pe_tup (pa_cons (pe_lst pa_nil) (pa_cons (pe_lst (pa_cons hf pa_nil hs3)) pa_nil hs2) hs1)) hm) fun σ H Q q => by
    refine ⟨_, fun x H1 z => ?_, q⟩
    obtain ⟨j, a, hi, rfl, ha, q⟩ := z
    refine ⟨Nat.zero_le _, fun p hp => ?_⟩
    refine ⟨_, hi, by show 1 ≤ sizeLine; decide, fun p' hp' => ?_⟩
    refine ⟨by show 2 ≤ sizeLine; decide, fun p'' hp'' => ?_⟩
    have g1 : Same H1 (upd H1 p (.lst [])) := same_new hp
    have g2 : Same (upd H1 p (.lst [])) (upd (upd H1 p (.lst [])) p' (.lst [.int j])) := same_new hp'
    have g3 := (g1.trans g2).trans (same_new (o := .tup [.ref p, .ref p']) hp'')
    have l1 : (upd (upd (upd H1 p (.lst [])) p' (.lst [.int j])) p'' (.tup [.ref p, .ref p'])) p = some (.lst []) := (g2.trans (same_new hp'')) _ _ upd_same
    have l2 : (upd (upd (upd H1 p (.lst [])) p' (.lst [.int j])) p'' (.tup [.ref p, .ref p'])) p' = some (.lst [.int j]) := (same_new hp'') _ _ upd_same
    have dy : Dp X.K (upd (upd (upd H1 p (.lst [])) p' (.lst [.int j])) p'' (.tup [.ref p, .ref p'])) (.ref p'') (.tuple [.list [], .list [.int j]]) :=
      .tup (SqT.of upd_same) (.cons (.lst (SqL.of l1) .nil) (.cons (.lst (SqL.of l2) (.cons (.int j) .nil)) .nil))
    have sy : SeqAt.shaped (.tuple [.list [], .list [.int j]]) = true := shaped_of (by simp only [PyData.canLay0, PyData.canLayAll0, Bool.and_self]) (by simp only [PyData.depth, PyData.depthAll]; decide)
    rcases ha with ha | ha
    · refine ⟨.list [], _, .lst (SqL.of (g3 _ _ ha)) .nil, dy, by decide, sy, false, ?_, q _ g3⟩
      simp only [List.any_cons, PyData.eqv, PyData.eqvAll, Bool.true_or, Bool.not_true]
    · refine ⟨.list [.int j], _, .lst (SqL.of (g3 _ _ ha)) (.cons (.int j) .nil), dy, shaped_of (by simp only [PyData.canLay0, PyData.canLayAll0, Bool.and_self]) (by simp only [PyData.depth, PyData.depthAll]; decide), sy, false, ?_, q _ g3⟩
      simp [PyData.eqv, PyData.eqvAll]
end
local macro_rules | `(tactic| walk_at "rd") => `(tactic| simp only [tYes, wipe, HO.lst.injEq, HO.tup.injEq, HO.dK.injEq, Nat.reduceAdd, Nat.reduceLeDiff, Nat.reduceSub, Int.reduceLE, Int.reduceLT, Int.reduceNeg, Nat.zero_add, Int.reduceEq, cut_head, cut_tail, cut_mid, cut_three, c_cast0, c_cast1, c_cast2, c_cast3, c_cast4, z_lit, List.getD_eq_getElem?_getD, Option.getD_some, tLc_eq, tFor_eq, cxOf, Cx.nox, Cx.wish, tSeq, tIfS, tOr, tAnd, tNot, tB, tCB, tCons, tVar, tC, tNil, tTest, tChain, rI0, rI, tOp, rIxS, rIxL, rIxT, tRet, tNext, tAsg, gName, tAndV, tOrV, tNotV, tIf, tIsN, tNotN, tCall, tDrop, tBM, tBM0, rEq, rNe, tRetN, tSl, tNoPart, tPart, tTupD, tLstD, tInD, rIsK, rLenS, rLenL, rLenT, rAllT, rAnyF, rInK, rInL, rSlLD, rSlTD, rSlS, rCatD, rCatTD, rAppD, rExtD, rPopD, rPopAtD, rListD, rTupleD, iLst, iTpl, iStr, rIxLH, rIxTH, gTupH, gLstH, gStar0, gStar1, gStar2, rSumH, rAddS2, tJoinS, tFmtS, tFmtI, tJoined, tJoined_nil, tJoined_cons, rIsG, app_empty, tFldD, sFldD, tMkD, tMoD, rIsC, rLenO, rEqO, HO.ins.injEq, exists_eq, tNilL, tML, tML0, tMS, iEnumH, tCallK, rStrI, tGetS, tGet1S, tGet2S, rListKD, tDc_eq, tLc2_eq, tKGet, gCons, gNil, tChain3, tPartD, tSplitD, tPar, New, Chg, rListTD, atI_0, atI_1, atI_2, atI_3, sign_inj, and_false, false_and, or_false, false_or, or_true, true_or, List.take_succ_cons, List.take_zero, List.drop_succ_cons, List.drop_zero, forall_const, exists_false, not_false_eq_true, not_true_eq_false, if_true, if_false, iRng1, KindV,
  L2.start, List.map_cons, List.map_nil, List.length_cons, List.length_nil, List.replicate, List.cons_append, List.nil_append, List.append_nil, List.set_cons_zero, List.set_cons_succ, List.getElem?_cons_zero, List.getElem?_cons_succ, Option.some.injEq, exists_eq_left', exists_eq_left, V.int.injEq, V.str.injEq, V.bl.injEq, V.ref.injEq, V.ty.injEq, true_and, and_true, List.cons.injEq, exists_and_left, exists_eq', and_assoc, scal, ofString_inj, String.reduceEq, reduceIte, decide_eq_true_eq, decide_eq_false_iff_not, Bool.not_true, Bool.not_false, Bool.not_eq_true', inV_cons, inV_nil, eqV_ss, eqV_ii, flatV, List.all_cons, List.all_nil, Bool.and_true, Bool.or_false, Bool.true_and, Bool.false_or, decide_true, decide_false, Bool.true_or, Bool.false_eq_true, reduceCtorEq, spOperatedWidth, tTwo, isAny, isBin, isCmp])
local macro_rules | `(tactic| walk_at "ra") => `(tactic| simp only [tYes, wipe, HO.lst.injEq, HO.tup.injEq, HO.dK.injEq, Nat.reduceAdd, Nat.reduceLeDiff, Nat.reduceSub, Int.reduceLE, Int.reduceLT, Int.reduceNeg, Nat.zero_add, Int.reduceEq, cut_head, cut_tail, cut_mid, cut_three, c_cast0, c_cast1, c_cast2, c_cast3, c_cast4, z_lit, List.getD_eq_getElem?_getD, Option.getD_some, tLc_eq, tFor_eq, cxOf, Cx.nox, Cx.wish, tSeq, tIfS, tOr, tAnd, tNot, tB, tCB, tCons, tVar, tC, tNil, tTest, tChain, rI0, rI, tOp, rIxS, rIxL, rIxT, tRet, tNext, tAsg, gName, tAndV, tOrV, tNotV, tIf, tIsN, tNotN, tCall, tDrop, tBM, tBM0, rEq, rNe, tRetN, tSl, tNoPart, tPart, tTupD, tLstD, tInD, rIsK, rLenS, rLenL, rLenT, rAllT, rAnyF, rInK, rInL, rSlLD, rSlTD, rSlS, rCatD, rCatTD, rAppD, rExtD, rPopD, rPopAtD, rListD, rTupleD, iLst, iTpl, iStr, rIxLH, rIxTH, gTupH, gLstH, gStar0, gStar1, gStar2, rSumH, rAddS2, tJoinS, tFmtS, tFmtI, tJoined, tJoined_nil, tJoined_cons, rIsG, app_empty, tFldD, sFldD, tMkD, tMoD, rIsC, rLenO, rEqO, HO.ins.injEq, exists_eq, tNilL, tML, tML0, tMS, iEnumH, tCallK, rStrI, tGetS, tGet1S, tGet2S, rListKD, tDc_eq, tLc2_eq, tKGet, gCons, gNil, tChain3, tPartD, tSplitD, tPar, New, Chg, rListTD, atI_0, atI_1, atI_2, atI_3, sign_inj, and_false, false_and, or_false, false_or, or_true, true_or, List.take_succ_cons, List.take_zero, List.drop_succ_cons, List.drop_zero, forall_const, exists_false, not_false_eq_true, not_true_eq_false, if_true, if_false, iRng1, KindV,
  L2.start, List.map_cons, List.map_nil, List.length_cons, List.length_nil, List.replicate, List.cons_append, List.nil_append, List.append_nil, List.set_cons_zero, List.set_cons_succ, List.getElem?_cons_zero, List.getElem?_cons_succ, Option.some.injEq, exists_eq_left', exists_eq_left, V.int.injEq, V.str.injEq, V.bl.injEq, V.ref.injEq, V.ty.injEq, true_and, and_true, List.cons.injEq, exists_and_left, exists_eq', and_assoc, scal, ofString_inj, String.reduceEq, reduceIte, decide_eq_true_eq, decide_eq_false_iff_not, Bool.not_true, Bool.not_false, Bool.not_eq_true', inV_cons, inV_nil, eqV_ss, eqV_ii, flatV, List.all_cons, List.all_nil, Bool.and_true, Bool.or_false, Bool.true_and, Bool.false_or, decide_true, decide_false, Bool.true_or, Bool.false_eq_true, reduceCtorEq, spOperatedWidth, tTwo, isAny, isBin, isCmp, *])

theorem inV_none {x : V} : inV x [] = false := rfl
section
variable {P : Program} {w : World} {K : PySem.W.Frag} {mg : Str → Option Value} {base : Heap} {k : Nat}
theorem ok_operated_width (T : TX K mg) (D : DF K mg "operated_width" s_operated_width ["word", "widths"] []) : FO P w K mg base "operated_width" (k + 1) ["word", "widths"] [] spOperatedWidth := by
  refine D.ok sc_operated_width (fun vs H Q E h => ?_) (fun fa cdv A outer s H vs Q E hr h => ?_)
  · obtain ⟨_, _, _, _, rfl, _⟩ := h
    rfl
  obtain ⟨wd, a, ks, r, rfl, ha, hw, q⟩ := h
  have hu : A.units + 3 + 65 < cLine := by have := hr.un; show A.units + 3 + 65 < _; have e : (A.deeper (envOfC "operated_width" (defScope s_operated_width) s.heap.objs.size fa cdv)).units = A.units + 3 := rfl; omega
  refine ⟨_, (pss_cons (ps_asg (pv 1) (pg_str1 rfl (pgs_cons (pg_name (i := 2) sc_operated_width.nd rfl (Or.inl rfl)) (pgs_cons (pg_name (i := 3) sc_operated_width.nd rfl (Or.inl rfl)) pgs_nil))))
    (pss_cons (ps_if (pt_inD (pv 0) (pa_cons pe_str (pa_cons pe_str pa_nil)))
      (pss_one (ps_ret pe_int))
      pss_nil)
    (pss_cons (ps_if (pt_cmpR op_eq (pv 0) pe_str (nomark _))
      (pss_one (ps_ret (pe_ifExp (pt_cmpR op_le (pe_callB (call_sumH rfl) rfl T.sum (by decide +kernel) (pa_cons (pv 1) pa_nil)) (pe_gv T.c_WIDEST) (nomark _)) (pe_callB (call_sumH rfl) rfl T.sum (by decide +kernel) (pa_cons (pv 1) pa_nil)) pe_int)))
      pss_nil)
    (pss_cons (ps_if (pt_cmpR op_eq (pv 0) pe_str (nomark _))
      (pss_one (ps_ret (pe_ifExp (PW.pt (pw_and (pt_cmpR op_eq (pv 2) pe_int (nomark _)) (pw_and1 (pt_cmpR op_eq (pe_ix ix_lst (pv 3) pe_int (fun _ _ => rfl)) (pe_ix ix_lst (pv 3) pe_int (fun _ _ => rfl)) (nomark _))))) (pe_ix ix_lst (pv 3) pe_int (fun _ _ => rfl)) pe_int)))
      pss_nil)
    (pss_cons (ps_if (pt_two (i := 2) hu (pv 3) (pv 2))
      (pss_one (ps_ret pe_int))
      pss_nil)
    (pss_one (ps_ret (pe_ifExp (pt_inD (pv 0) (pa_cons pe_str (pa_cons pe_str pa_nil))) pe_int (pv 2))))))))), ?_⟩
  unfold OW at hw
  rcases hw with ⟨rfl, rfl⟩ | ⟨rfl | rfl, rfl, j, rfl⟩ | ⟨rfl | rfl | rfl | rfl, rfl⟩ | ⟨rfl | rfl, rfl, j, rfl⟩ | ⟨rfl, i, j, rfl, rfl, h8⟩ | ⟨rfl, rfl⟩ <;> simp only [intV, List.map_cons, List.map_nil] at ha
  all_goals walk_at "ra"
  all_goals (
    intro p H1 hp s1 hl1 H2 s2
    have hl2 := s2 _ _ hl1
    have s02 := s1.trans s2
    have ha2 := s02 _ _ ha
    have q2 := fun H3 (s3 : Same H2 H3) => q H3 (s02.trans s3)
    first | walk_at "ra" | skip)
  all_goals first
    | exact fun H3 s3 H4 s4 => q2 _ (s3.trans s4)
    | exact q2 _ (Same.refl _)
    | skip
  refine ⟨[(i : Int), (j : Int)], rfl, ?_⟩
  have e : ([(i : Int), (j : Int)]).sum = ((i + j : Nat) : Int) := by simp
  rw [e, if_pos (by omega)]
  refine ⟨[(i : Int), (j : Int)], rfl, ?_⟩
  rw [e]
  exact q2 _ (Same.refl _)
end
end K37
set_option maxHeartbeats 4000000
namespace K37
open PySem L2 TL
open PyProof.Rows hiding St
theorem sc_fitting_width : FnScope ["term", "widths", "inner", "word", "first", "rest", "one", "high", "low"] ["term", "widths"] (defScope s_fitting_width) := ⟨rfl, rfl, rfl, by decide +kernel, rfl, by decide +kernel, by decide +kernel⟩

theorem sc_width_of : FnScope ["term", "widths", "found"] ["term", "widths"] (defScope s_width_of) := ⟨rfl, rfl, rfl, by decide +kernel, rfl, by decide +kernel, by decide +kernel⟩

theorem sc_names_along : FnScope ["term", "one", "name"] ["term"] (defScope s_names_along) := ⟨rfl, rfl, rfl, by decide +kernel, rfl, by decide +kernel, by decide +kernel⟩

theorem sc_names_in : FnScope ["term", "name"] ["term"] (defScope s_names_in) := ⟨rfl, rfl, rfl, by decide +kernel, rfl, by decide +kernel, by decide +kernel⟩

/-- the dict at a has what G says -/
def WDs (H : Hp) (a : Addr) (G : Str → Nat → Prop) : Prop := ∃ kvs, H a = some (.dK kvs) ∧ ∀ n k, G n k → valV kvs (.inr n) = some (.int (k : Int))
theorem WDs.same {H H' : Hp} {a : Addr} {G : Str → Nat → Prop} (h : WDs H a G) (s : Same H H') : WDs H' a G := by
  obtain ⟨kvs, h, q⟩ := h
  exact ⟨kvs, s _ _ h, q⟩
def Rng (G : Str → Nat → Prop) : Prop := ∀ n k, G n k → 1 ≤ k ∧ k ≤ 8
def spFitting (n : Nat) : Sp := fun vs H Q _ => ∃ (G : Str → Nat → Prop) (t : Tm) (v : V) (a : Addr) (k : Nat), vs = [v, .ref a] ∧ RT H t v ∧ Rng G ∧ WDs H a G ∧ Fit G t k ∧ deep t ≤ n ∧ ∀ H', Same H H' → Q (.int (k : Int)) H'
def spWidthOf : Sp := fun vs H Q _ => ∃ (G : Str → Nat → Prop) (t : Tm) (v : V) (a : Addr) (k : Nat), vs = [v, .ref a] ∧ RT H t v ∧ Rng G ∧ WDs H a G ∧ TermOk G t k ∧ ∀ H', Same H H' → Q (.int (k : Int)) H'
def spNamesAlong (n : Nat) : Sp := fun vs H Q _ => ∃ (t : Tm) (v : V), vs = [v] ∧ RT H t v ∧ Fits t ∧ wt t ≤ 60 ∧ deep t ≤ n ∧ ∀ p H', H p = none → Same H H' → H' p = some (.lst ((nms t).map V.str)) → Q (.ref p) H'
def spNamesIn : Sp := fun vs H Q _ => ∃ (t : Tm) (v : V), vs = [v] ∧ RT H t v ∧ Fits t ∧ wt t ≤ 60 ∧ deep t ≤ 10 ∧ ∀ p H', H p = none → Same H H' → H' p = some (.lst ((uniq (nms t)).map V.str)) → Q (.ref p) H'
local macro_rules | `(tactic| walk_at "rd") => `(tactic| simp only [tYes, wipe, HO.lst.injEq, HO.tup.injEq, HO.dK.injEq, Nat.reduceAdd, Nat.reduceLeDiff, Nat.reduceSub, Int.reduceLE, Int.reduceLT, Int.reduceNeg, Nat.zero_add, Int.reduceEq, cut_head, cut_tail, cut_mid, cut_three, c_cast0, c_cast1, c_cast2, c_cast3, c_cast4, z_lit, List.getD_eq_getElem?_getD, Option.getD_some, tLc_eq, tFor_eq, cxOf, Cx.nox, Cx.wish, tSeq, tIfS, tOr, tAnd, tNot, tB, tCB, tCons, tVar, tC, tNil, tTest, tChain, rI0, rI, tOp, rIxS, rIxL, rIxT, tRet, tNext, tAsg, gName, tAndV, tOrV, tNotV, tIf, tIsN, tNotN, tCall, tDrop, tBM, tBM0, rEq, rNe, tRetN, tSl, tNoPart, tPart, tTupD, tLstD, tInD, rIsK, rLenS, rLenL, rLenT, rAllT, rAnyF, rInK, rInL, rSlLD, rSlTD, rSlS, rCatD, rCatTD, rAppD, rExtD, rPopD, rPopAtD, rListD, rTupleD, iLst, iTpl, iStr, rIxLH, rIxTH, gTupH, gLstH, gStar0, gStar1, gStar2, rSumH, rAddS2, tJoinS, tFmtS, tFmtI, tJoined, tJoined_nil, tJoined_cons, rIsG, app_empty, tFldD, sFldD, tMkD, tMoD, rIsC, rLenO, rEqO, HO.ins.injEq, exists_eq, tNilL, tML, tML0, tMS, iEnumH, tCallK, rStrI, tGetS, tGet1S, tGet2S, rListKD, tDc_eq, tLc2_eq, tKGet, gCons, gNil, tChain3, tPartD, tSplitD, tPar, New, Chg, rListTD, atI_0, atI_1, atI_2, atI_3, sign_inj, and_false, false_and, or_false, false_or, or_true, true_or, List.take_succ_cons, List.take_zero, List.drop_succ_cons, List.drop_zero, forall_const, exists_false, not_false_eq_true, not_true_eq_false, if_true, if_false, iRng1, KindV,
  L2.start, List.map_cons, List.map_nil, List.length_cons, List.length_nil, List.replicate, List.cons_append, List.nil_append, List.append_nil, List.set_cons_zero, List.set_cons_succ, List.getElem?_cons_zero, List.getElem?_cons_succ, Option.some.injEq, exists_eq_left', exists_eq_left, V.int.injEq, V.str.injEq, V.bl.injEq, V.ref.injEq, V.ty.injEq, true_and, and_true, List.cons.injEq, exists_and_left, exists_eq', and_assoc, scal, ofString_inj, String.reduceEq, reduceIte, decide_eq_true_eq, decide_eq_false_iff_not, Bool.not_true, Bool.not_false, Bool.not_eq_true', inV_cons, inV_nil, eqV_ss, eqV_ii, flatV, List.all_cons, List.all_nil, Bool.and_true, Bool.or_false, Bool.true_and, Bool.false_or, decide_true, decide_false, Bool.true_or, Bool.false_eq_true, reduceCtorEq, spIsName, spIsValue, spIsWhole, spAreBounds, spLeafWeight, spArgsOf, spTermsIn, spIsTerm, spOperatedWidth, Sg.sort, Sg.name, Sg.wd])
local macro_rules | `(tactic| walk_at "ra") => `(tactic| simp only [tYes, wipe, HO.lst.injEq, HO.tup.injEq, HO.dK.injEq, Nat.reduceAdd, Nat.reduceLeDiff, Nat.reduceSub, Int.reduceLE, Int.reduceLT, Int.reduceNeg, Nat.zero_add, Int.reduceEq, cut_head, cut_tail, cut_mid, cut_three, c_cast0, c_cast1, c_cast2, c_cast3, c_cast4, z_lit, List.getD_eq_getElem?_getD, Option.getD_some, tLc_eq, tFor_eq, cxOf, Cx.nox, Cx.wish, tSeq, tIfS, tOr, tAnd, tNot, tB, tCB, tCons, tVar, tC, tNil, tTest, tChain, rI0, rI, tOp, rIxS, rIxL, rIxT, tRet, tNext, tAsg, gName, tAndV, tOrV, tNotV, tIf, tIsN, tNotN, tCall, tDrop, tBM, tBM0, rEq, rNe, tRetN, tSl, tNoPart, tPart, tTupD, tLstD, tInD, rIsK, rLenS, rLenL, rLenT, rAllT, rAnyF, rInK, rInL, rSlLD, rSlTD, rSlS, rCatD, rCatTD, rAppD, rExtD, rPopD, rPopAtD, rListD, rTupleD, iLst, iTpl, iStr, rIxLH, rIxTH, gTupH, gLstH, gStar0, gStar1, gStar2, rSumH, rAddS2, tJoinS, tFmtS, tFmtI, tJoined, tJoined_nil, tJoined_cons, rIsG, app_empty, tFldD, sFldD, tMkD, tMoD, rIsC, rLenO, rEqO, HO.ins.injEq, exists_eq, tNilL, tML, tML0, tMS, iEnumH, tCallK, rStrI, tGetS, tGet1S, tGet2S, rListKD, tDc_eq, tLc2_eq, tKGet, gCons, gNil, tChain3, tPartD, tSplitD, tPar, New, Chg, rListTD, atI_0, atI_1, atI_2, atI_3, sign_inj, and_false, false_and, or_false, false_or, or_true, true_or, List.take_succ_cons, List.take_zero, List.drop_succ_cons, List.drop_zero, forall_const, exists_false, not_false_eq_true, not_true_eq_false, if_true, if_false, iRng1, KindV,
  L2.start, List.map_cons, List.map_nil, List.length_cons, List.length_nil, List.replicate, List.cons_append, List.nil_append, List.append_nil, List.set_cons_zero, List.set_cons_succ, List.getElem?_cons_zero, List.getElem?_cons_succ, Option.some.injEq, exists_eq_left', exists_eq_left, V.int.injEq, V.str.injEq, V.bl.injEq, V.ref.injEq, V.ty.injEq, true_and, and_true, List.cons.injEq, exists_and_left, exists_eq', and_assoc, scal, ofString_inj, String.reduceEq, reduceIte, decide_eq_true_eq, decide_eq_false_iff_not, Bool.not_true, Bool.not_false, Bool.not_eq_true', inV_cons, inV_nil, eqV_ss, eqV_ii, flatV, List.all_cons, List.all_nil, Bool.and_true, Bool.or_false, Bool.true_and, Bool.false_or, decide_true, decide_false, Bool.true_or, Bool.false_eq_true, reduceCtorEq, spIsName, spIsValue, spIsWhole, spAreBounds, spLeafWeight, spArgsOf, spTermsIn, spIsTerm, spOperatedWidth, Sg.sort, Sg.name, Sg.wd, *])

/-- the widths of what is within a term -/
theorem fit_inner {G : Str → Nat → Prop} {t : Tm} {k : Nat} (h : Fit G t k) (h2 : ∀ v, t ≠ .is v) (h3 : ∀ v, t ≠ .of v) : ∃ ks : List Nat, ks.length = (subs t).length ∧ (∀ (i : Nat) (s : Tm), (subs t)[i]? = some s → ∃ j, ks[i]? = some j ∧ Fit G s j) ∧
    ((∀ s hi lo, t ≠ .t s hi lo) → OW (wordOf t) ks k) ∧ ∀ s hi lo, t = .t s hi lo → ∃ j, ks = [j] ∧ hi < j ∧ lo ≤ hi ∧ k = hi - lo + 1 := by
  cases t with
  | is v => exact absurd rfl (h2 v)
  | of v => exact absurd rfl (h3 v)
  | u w a =>
    rcases h with ⟨e, q⟩ | ⟨e, ek, j, q⟩
    · exact ⟨[k], rfl, fun i s hs => (by rcases i with _ | i <;> simp [subs] at hs ⊢; subst hs; exact q), fun _ => .inl ⟨e, rfl⟩, fun _ _ _ z => by cases z⟩
    · exact ⟨[j], rfl, fun i s hs => (by rcases i with _ | i <;> simp [subs] at hs ⊢; subst hs; exact q), fun _ => .inr (.inl ⟨e, ek, j, rfl⟩), fun _ _ _ z => by cases z⟩
  | b w a b =>
    have two : ∀ i j, Fit G a i → Fit G b j → ∀ (l : Nat) (s : Tm), (subs (.b w a b))[l]? = some s → ∃ m, [i, j][l]? = some m ∧ Fit G s m := fun i j q q' l s hs => by
      rcases l with _ | _ | l <;> simp [subs] at hs ⊢ <;> subst hs <;> assumption
    rcases h with ⟨e, q, q'⟩ | ⟨e, ek, j, q, q'⟩ | ⟨e, i, j, ek, hk, q, q'⟩
    · exact ⟨[k, k], rfl, two _ _ q q', fun _ => .inr (.inr (.inl ⟨e, rfl⟩)), fun _ _ _ z => by cases z⟩
    · exact ⟨[j, j], rfl, two _ _ q q', fun _ => .inr (.inr (.inr (.inl ⟨e, ek, j, rfl⟩))), fun _ _ _ z => by cases z⟩
    · exact ⟨[i, j], rfl, two _ _ q q', fun _ => .inr (.inr (.inr (.inr (.inl ⟨e, i, j, rfl, ek, hk⟩)))), fun _ _ _ z => by cases z⟩
  | p a b c =>
    refine ⟨[1, k, k], rfl, fun l s hs => ?_, fun _ => .inr (.inr (.inr (.inr (.inr ⟨rfl, rfl⟩)))), fun _ _ _ z => by cases z⟩
    obtain ⟨q1, q2, q3⟩ := h
    rcases l with _ | _ | _ | l <;> simp [subs] at hs ⊢ <;> subst hs <;> assumption
  | t a hi lo =>
    obtain ⟨j, q, r1, r2, r3⟩ := h
    refine ⟨[j], rfl, fun l s hs => ?_, fun z => absurd rfl (z a hi lo), fun s hi' lo' z => ?_⟩
    · rcases l with _ | l <;> simp [subs] at hs ⊢
      subst hs
      exact q
    · cases z
      exact ⟨j, rfl, r1, r2, r3⟩
theorem tm_leaf (t : Tm) : (∃ x, t = .is x) ∨ (∃ x, t = .of x) ∨ ((∀ v, t ≠ .is v) ∧ ∀ v, t ≠ .of v) := by
  cases t <;> simp
section
variable {P : Program} {w : World} {K : PySem.W.Frag} {mg : Str → Option Value} {base : Heap} {k : Nat}
theorem ok_fitting_width {n : Nat} (T : TX K mg) (D : DF K mg "fitting_width" s_fitting_width ["term", "widths"] []) (G_fitting_width : FO P w K mg base "fitting_width" k ["term", "widths"] [] (spFitting n))
    (G_terms_in : FO P w K mg base "terms_in" k ["term"] [] spTermsIn) (G_operated_width : FO P w K mg base "operated_width" k ["word", "widths"] [] spOperatedWidth) :
    FO P w K mg base "fitting_width" (k + 1) ["term", "widths"] [] (spFitting (n + 1)) := by
  refine D.ok sc_fitting_width (fun vs H Q E h => ?_) (fun fa cdv A outer s H vs Q E hr h => ?_)
  · obtain ⟨_, _, _, _, _, rfl, _⟩ := h
    rfl
  obtain ⟨G, t, v, d, kk, rfl, ht, hG, ⟨kvs, hd, hkv⟩, hf, hn, q⟩ := h
  refine ⟨_, (pss_cons (ps_asg (pv 0) (pg_str2 rfl (pgs_cons (pg_name (i := 3) sc_fitting_width.nd rfl (Or.inl rfl)) (pgs_cons (pg_name (i := 4) sc_fitting_width.nd rfl (Or.inl rfl)) (pgs_cons (pg_name (i := 5) sc_fitting_width.nd rfl (Or.inl rfl)) pgs_nil)))))
    (pss_cons (ps_if (pt_cmpR op_eq (pv 3) pe_str (nomark _))
      (pss_one (ps_ret (pe_callB call_lenS rfl T.len PySem.boot_len (pa_cons (pv 4) pa_nil))))
      pss_nil)
    (pss_cons (ps_if (pt_cmpR op_eq (pv 3) pe_str (nomark _))
      (pss_one (ps_ret (pe_get2S (hu_of hr) (pv 1) (pv 4) pe_int ⟨rfl, rfl, rfl, rfl⟩)))
      pss_nil)
    (pss_cons (ps_setLc (i := 2) (own := [("one", 6)]) (tt := tYes) rfl sc_fitting_width.nd rfl rfl (sw_true rfl rfl rfl (by decide +kernel)) (pi_lst (pe_fo G_terms_in hr (pa_cons (pv 0) pa_nil))) (blkOk_by (N := ["term", "widths", "inner", "word", "first", "rest", "one", "high", "low"]) (sc := defScope s_fitting_width) (by decide +kernel)) (fun _ _ _ _ _ => (pg_name (i := 6) sc_fitting_width.nd rfl (Or.inl rfl))) (fun _ _ _ _ _ => pts_nil) (fun _ _ _ _ _ => (pe_fo G_fitting_width hr (pa_cons (pv 6) (pa_cons (pv 1) pa_nil)))))
    (pss_cons (ps_if (pt_cmpR op_inL pe_int (pv 2) (by rfl))
      (pss_one (ps_ret pe_int))
      pss_nil)
    (pss_cons (ps_if (pt_cmpR op_eq (pv 3) pe_str (nomark _))
      (pss_cons (ps_asg (pv 5) (pg_lst 2 rfl (pgs_cons (pg_name (i := 7) sc_fitting_width.nd rfl (Or.inl rfl)) (pgs_cons (pg_name (i := 8) sc_fitting_width.nd rfl (Or.inl rfl)) pgs_nil))))
    (pss_one (ps_ret (pe_ifExp (pt_cmpR op_lt (pv 7) (pe_ix ix_lst (pv 2) pe_int (fun _ _ => rfl)) (nomark _)) (pe_op op_add (pe_op op_sub (pv 7) (pv 8)) pe_int) pe_int))))
      pss_nil)
    (pss_one (ps_ret (pe_fo G_operated_width hr (pa_cons (pv 3) (pa_cons (pv 2) pa_nil))))))))))), ?_⟩
  have hfs : Fits t := ⟨G, kk, hG, hf⟩
  refine seq_i fun M hM => ?_
  rcases tm_leaf t with ⟨x, rfl⟩ | ⟨x, rfl⟩ | ⟨n2, n3⟩
  · obtain ⟨a, rfl, ha⟩ := ht
    have hl : x.length = kk := by rw [len_tl]; exact ValOk.len hf
    have h8 := ValOk.l8 hf
    walk_at "ra"
    intro p H' hp s1 hl1
    subst hM
    walk_at "ra"
    exact small8 h8
  · obtain ⟨a, rfl, ha⟩ := ht
    have hg := hkv _ _ hf.2
    walk_at "ra"
    intro p H' hp s1 hl1
    subst hM
    have hd1 := s1 _ _ hd
    walk_at "ra"
  · obtain ⟨ks, hks, hsub, how, hpart⟩ := fit_inner hf n2 n3
    obtain ⟨a, args, rfl, ha, hc⟩ := RT.cell ht
    have hargs : ∃ x rest, args = x :: rest ∧ wordOf t ≠ "is" ∧ wordOf t ≠ "of" ∧ ((∃ s hi lo, t = .t s hi lo ∧ rest = [.int (hi : Int), .int (lo : Int)]) ∨ (∀ s hi lo, t ≠ .t s hi lo) ∧ wordOf t ≠ "part") := by
      rcases hc with ⟨v, rfl, _⟩ | ⟨v, rfl, _⟩ | ⟨t', hi, lo, v, rfl, rfl, ht'⟩ | ⟨n1, n2, n3, hal⟩
      · exact absurd rfl (n2 v)
      · exact absurd rfl (n3 v)
      · exact ⟨_, _, rfl, show (Str.ofString "part" : Str) ≠ Str.ofString "is" by decide +kernel, show (Str.ofString "part" : Str) ≠ Str.ofString "of" by decide +kernel, .inl ⟨t', hi, lo, rfl, rfl⟩⟩
      · obtain ⟨w1, w2, w3, w4, w5⟩ := hfs.word n1 n2 n3
        have := all2_len hal
        cases args with
        | nil =>
          exfalso
          cases t <;> simp [subs] at this <;> first | exact n2 _ rfl | exact n3 _ rfl
        | cons x rest => exact ⟨x, rest, rfl, w3, w4, .inr ⟨n1, w2⟩⟩
    obtain ⟨x, rest, rfl, w3, w4, hw⟩ := hargs
    have hks3 : ks.length ≤ 3 := by
      rw [hks]
      cases t <;> simp [subs]
    walk_at "ra"
    intro p H1 hp s1 hl1
    subst hM
    refine seq_i fun M hM => ?_
    walk_at "ra"
    subst hM
    refine seq_i fun M hM => ?_
    walk_at "ra"
    subst hM
    have ht1 := RT.tk (same_tk s1) _ _ ht
    refine seq_i fun M hM => ?_
    walk_at "rd"
    refine ⟨t, ht1, hfs, fun p2 xs H2 hp2 s2 hl2 hal => ?_⟩
    have s02 := s1.trans s2
    have hlx := all2_len hal
    walk_at "ra"
    refine lc_map wk_lst (fun H s => s _ _ hl2) (fun i y H => ∃ j, ks[i]? = some j ∧ y = .int (j : Int)) (by omega) (fun _ _ _ _ r _ => r) (fun i H5 Ky hi s5 ky => ?_) (fun Dl ys H5 s5 hD hl5 hlen hy => ?_) mg_name
    · have hget : xs[i]? = some (xs.getD i .non) := by simp [hi]
      obtain ⟨s', hs', hr'⟩ := all2_at hal hget
      have hmem := List.mem_of_getElem? hs'
      have hdp := subs_deep hmem
      obtain ⟨j, hj, hfj⟩ := hsub i s' hs'
      walk_at "rd"
      exact ⟨G, s', _, _, j, rfl, RT.tk (same_tk s5) _ _ hr', hG, ⟨kvs, (s02.trans s5) _ _ hd, hkv⟩, hfj, by omega, fun H6 s6 => ky _ _ s6 ⟨j, hj, rfl⟩⟩
    · subst hM
      have s05 := s02.trans s5
      have ey := map_of (f := fun (j : Nat) => V.int (j : Int)) (hlen.trans (hlx.symm.trans hks.symm)) hy
      have em : (ks.map fun (j : Nat) => V.int (j : Int)) = (ks.map fun (j : Nat) => (j : Int)).map V.int := by
        rw [List.map_map]
        rfl
      have h0 : ¬ (0 : Int) ∈ ks.map fun (j : Nat) => (j : Int) := fun z => by
        obtain ⟨j, hj, e⟩ := List.mem_map.mp z
        obtain ⟨i, hi⟩ := List.mem_iff_getElem?.mp hj
        have hi2 : i < (subs t).length := by rw [← hks]; exact (List.getElem?_eq_some_iff.mp hi).1
        obtain ⟨j', hj', hf'⟩ := hsub i _ (List.getElem?_eq_getElem hi2)
        rw [hi] at hj'
        cases hj'
        have := Fit.range hG _ _ hf'
        omega
      subst ey
      refine seq_i fun M hM => ?_
      walk_at "ra"
      refine ⟨flat_ints _, ?_⟩
      rw [inV_ints, decide_eq_false h0, if_neg Bool.false_ne_true]
      subst hM
      rcases hw with ⟨s', hi, lo, rfl, rfl⟩ | ⟨n1, w2⟩
      · have hl15 := s5 _ _ (s2 _ _ hl1)
        obtain ⟨j, rfl, r1, r2, r3⟩ := hpart _ _ _ rfl
        simp only [List.map_cons, List.map_nil] at hl5
        walk_at "ra"
        have e : (hi : Int) - (lo : Int) + 1 = (kk : Int) := by omega
        rw [if_pos (show wordOf (s'.t hi lo) = Str.ofString "part" from rfl), if_pos (by omega), e]
        exact q _ s05
      · refine seq_i fun M hM => ?_
        walk_at "ra"
        subst hM
        walk_at "ra"
        refine ⟨ks, em.symm, kk, how n1, fun H6 s6 => q _ (s05.trans s6)⟩
theorem ok_width_of (T : TX K mg) (D : DF K mg "width_of" s_width_of ["term", "widths"] []) (G_is_term : FO P w K mg base "is_term" k ["thing"] [] spIsTerm) (G_fitting_width : FO P w K mg base "fitting_width" k ["term", "widths"] [] (spFitting 10)) :
    FO P w K mg base "width_of" (k + 1) ["term", "widths"] [] spWidthOf := by
  refine D.ok sc_width_of (fun vs H Q E h => ?_) (fun fa cdv A outer s H vs Q E hr h => ?_)
  · obtain ⟨_, _, _, _, _, rfl, _⟩ := h
    rfl
  obtain ⟨G, t, v, d, kk, rfl, ht, hG, hd, ⟨hf, hdp, hw⟩, q⟩ := h
  refine ⟨_, (pss_cons (ps_set (i := 2) sc_width_of.nd rfl (Or.inl rfl) (pe_ifExp (pt_val (pe_fo G_is_term hr (pa_cons (pv 0) pa_nil))) (pe_fo G_fitting_width hr (pa_cons (pv 0) (pa_cons (pv 1) pa_nil))) pe_int))
    (pss_cons (ps_if (pt_cmpR op_eq (pv 2) pe_int (nomark _))
      (pss_one ps_never)
      pss_nil)
    (pss_one (ps_ret (pv 2))))), ?_⟩
  have := Fit.range hG _ _ hf
  walk_at "rd"
  refine ⟨t, ht, ⟨G, kk, hG, hf⟩, hdp, hw, fun H1 s1 => ?_⟩
  refine ⟨G, t, v, d, kk, rfl, RT.tk (same_tk s1) _ _ ht, hG, hd.same s1, hf, hdp, fun H2 s2 => ?_⟩
  have e : ¬ (kk : Int) = 0 := by omega
  have q2 := q _ (s1.trans s2)
  walk_at "ra"
theorem nms_subs {t : Tm} (h3 : ∀ v, t ≠ .of v) : (subs t).flatMap nms = nms t := by
  cases t with
  | of v => exact absurd rfl (h3 v)
  | _ => simp [subs, nms]
theorem nms_len : ∀ t : Tm, (nms t).length ≤ wt t
  | .is v => by simp [nms, wt]
  | .of v => by simp [nms, wt]
  | .u _ a => by
    have := nms_len a
    simp only [nms, wt]
    omega
  | .b _ a b => by
    have := nms_len a
    have := nms_len b
    simp only [nms, wt, List.length_append]
    omega
  | .p a b c => by
    have := nms_len a
    have := nms_len b
    have := nms_len c
    simp only [nms, wt, List.length_append]
    omega
  | .t a _ _ => by
    have := nms_len a
    simp only [nms, wt]
    omega
theorem subs_wt_le {t s : Tm} (hs : s ∈ subs t) : wt s ≤ wt t := by
  cases t <;> simp [subs] at hs
  · subst hs; simp only [wt]; omega
  · rcases hs with rfl | rfl <;> simp only [wt] <;> omega
  · rcases hs with rfl | rfl | rfl <;> simp only [wt] <;> omega
  · subst hs; simp only [wt]; omega
theorem ok_names_along {n : Nat} (T : TX K mg) (D : DF K mg "names_along" s_names_along ["term"] []) (G_names_along : FO P w K mg base "names_along" k ["term"] [] (spNamesAlong n)) (G_terms_in : FO P w K mg base "terms_in" k ["term"] [] spTermsIn) :
    FO P w K mg base "names_along" (k + 1) ["term"] [] (spNamesAlong (n + 1)) := by
  refine D.ok sc_names_along (fun vs H Q E h => ?_) (fun fa cdv A outer s H vs Q E hr h => ?_)
  · obtain ⟨_, _, rfl, _⟩ := h
    rfl
  obtain ⟨t, v, rfl, ht, hf, hw, hn, q⟩ := h
  refine ⟨_, (pss_cons (ps_if (pt_cmpR op_eq (pe_ix ix_tpl (pv 0) pe_int (fun _ _ => rfl)) pe_str (nomark _))
      (pss_one (ps_ret (pe_lstD (pa_cons (pe_ix ix_tpl (pv 0) pe_int (fun _ _ => rfl)) pa_nil))))
      pss_nil)
    (pss_one (ps_ret (pe_lc2 (own := [("one", 1), ("name", 2)]) (vs1 := [2]) (wi1 := iLst K _) (tt := tYes) (tt1 := tYes) rfl sc_names_along.nd (pi_lst (pe_fo G_terms_in hr (pa_cons (pv 0) pa_nil))) (blkOk_by (N := ["term", "one", "name"]) (sc := defScope s_names_along) (by decide +kernel)) (by decide) (fun _ _ _ _ _ => (pg_name (i := 1) sc_names_along.nd rfl (Or.inl rfl))) (fun _ _ _ _ _ => pts_nil) (fun _ _ _ _ _ => (pi_lst (pe_fo G_names_along hr (pa_cons (pv 1) pa_nil)))) (fun _ _ _ _ _ => (pg_name (i := 2) sc_names_along.nd rfl (Or.inl rfl))) (fun _ _ _ _ _ => pts_nil) (fun _ _ _ _ _ => (pv 2)))))), ?_⟩
  refine seq_i fun M hM => ?_
  obtain ⟨a, args, rfl, ha, hc⟩ := RT.cell ht
  have hcase : (∃ v, t = .of v ∧ args = [.str v]) ∨ (wordOf t ≠ "of" ∧ ∀ v, t ≠ .of v) := by
    rcases hc with ⟨v, rfl, rfl⟩ | ⟨v, rfl, rfl⟩ | ⟨t', hi, lo, v, rfl, rfl, ht'⟩ | ⟨n1, n2, n3, hal⟩
    · exact .inr ⟨show (Str.ofString "is" : Str) ≠ Str.ofString "of" by decide +kernel, fun _ z => by cases z⟩
    · exact .inl ⟨v, rfl, rfl⟩
    · exact .inr ⟨show (Str.ofString "part" : Str) ≠ Str.ofString "of" by decide +kernel, fun _ z => by cases z⟩
    · exact .inr ⟨(hf.word n1 n2 n3).2.2.2.1, n3⟩
  rcases hcase with ⟨v, rfl, rfl⟩ | ⟨w4, n3⟩
  · walk_at "ra"
    rw [if_pos (show wordOf (.of v) = Str.ofString "of" from rfl)]
    exact q
  · walk_at "ra"
    subst hM
    walk_at "rd"
    refine ⟨t, ht, hf, fun p xs H1 hp s1 hl1 hal => ?_⟩
    have hlx := all2_len hal
    have hlt : xs.length ≤ 3 := by
      rw [← hlx]
      cases t <;> simp [subs]
    walk_at "ra"
    refine lc2_flat (K := K) wk_lst (fun H s => s _ _ hl1) (fun i => (((subs t)[i]?.map nms).getD []).map V.str) (by omega) (fun i => ?_) (fun i H5 R Kn hi s5 kr => ?_) (fun Dl H5 s5 hD hl5 => ?_)
    · rw [List.length_map]
      cases e : (subs t)[i]? with
      | none => simp
      | some s' =>
        have h1 := nms_len s'
        have h2 := subs_wt_le (List.mem_of_getElem? e)
        show (nms s').length ≤ 1000
        omega
    · have hget : xs[i]? = some (xs.getD i .non) := by simp [hi]
      obtain ⟨s', hs', hr'⟩ := all2_at hal hget
      have hmem := List.mem_of_getElem? hs'
      have hdp := subs_deep hmem
      have hwl := subs_wt_le hmem
      walk_at "rd"
      refine ⟨s', _, rfl, RT.tk (same_tk s5) _ _ hr', hf.sub hmem, by omega, by omega, fun p6 H6 hp6 s6 hl6 => ?_⟩
      refine ⟨p6, rfl, _, hl6, kr _ _ _ s6 ⟨p6, .inl ⟨rfl, hp6, ?_⟩⟩ fun x H7 Ky Kn' ky => ?_⟩
      · rw [hs']
        exact hl6
      · walk_at "rd"
        exact ky
    · have e := flatN_of (l := subs t) (F := fun i => (((subs t)[i]?.map nms).getD []).map V.str) (G := fun s => (nms s).map V.str) fun i a ha => by
        show (((subs t)[i]?.map nms).getD []).map V.str = _
        rw [ha]
        rfl
      rw [← hlx, e] at hl5
      have e2 : ((subs t).flatMap fun s => (nms s).map V.str) = (nms t).map V.str := by
        rw [← nms_subs n3, List.map_flatMap]
      rw [e2] at hl5
      exact q _ _ (s1.free hD) (s1.trans s5) hl5
theorem ok_names_in (T : TX K mg) (D : DF K mg "names_in" s_names_in ["term"] []) (G_names_along : FO P w K mg base "names_along" k ["term"] [] (spNamesAlong 10)) :
    FO P w K mg base "names_in" (k + 1) ["term"] [] spNamesIn := by
  refine D.ok sc_names_in (fun vs H Q E h => ?_) (fun fa cdv A outer s H vs Q E hr h => ?_)
  · obtain ⟨_, _, rfl, _⟩ := h
    rfl
  obtain ⟨t, v, rfl, ht, hf, hw, hn, q⟩ := h
  refine ⟨_, (pss_one (ps_ret (pe_callTy (call_listK rfl) rfl T.list (by decide +kernel) (pa_cons (pe_dc (own := [("name", 1)]) (tt := tYes) rfl sc_names_in.nd (pi_lst (pe_fo G_names_along hr (pa_cons (pv 0) pa_nil))) (blkOk_by (N := ["term", "name"]) (sc := defScope s_names_in) (by decide +kernel)) (fun _ _ _ _ _ => (pg_name (i := 1) sc_names_in.nd rfl (Or.inl rfl))) (fun _ _ _ _ _ => pts_nil) (fun _ _ _ _ _ => (pv 1)) (fun _ _ _ _ _ => pe_bl)) pa_nil)))), ?_⟩
  have hlen := nms_len t
  walk_at "rd"
  refine ⟨t, _, rfl, ht, hf, hw, hn, fun p H1 hp s1 hl1 => ⟨p, rfl, _, hl1, ?_⟩⟩
  refine dc_text wk_lst (fun H s => s _ _ hl1) (fun i kvs H => kvs.map (·.1) = (uniq ((nms t).take i)).map Sum.inr) (by rw [List.length_map]; omega) (fun _ _ _ _ u _ => u) (fun _ _ => rfl) (fun i kvs H5 Ky Kn hi s5 u ky => ?_) (fun Dl kvs H5 s5 hD hl5 u => ?_)
  · rw [List.length_map] at hi
    have hget : ((nms t).map V.str).getD i .non = .str ((nms t)[i]'hi) := by simp [hi]
    rw [hget]
    walk_at "rd"
    refine ky _ _ _ (Same.refl _) ?_
    rw [List.take_succ_eq_append_getElem hi, uniq_snoc]
    exact keys_put u
  · refine ⟨Dl, rfl, kvs, hl5, fun p6 H6 hp6 s6 hl6 => ?_⟩
    rw [keys_str u, List.length_map, List.take_length] at hl6
    have s06 := (s1.trans s5)
    exact q _ _ (s06.free hp6) (s06.trans s6) hl6
end
end K37
set_option maxHeartbeats 4000000
namespace K37
open PySem L2 TL
open PyProof.Rows hiding St
theorem sc_has_width : FnScope ["term", "width", "widths", "found"] ["term", "width", "widths"] (defScope s_has_width) := ⟨rfl, rfl, rfl, by decide +kernel, rfl, by decide +kernel, by decide +kernel⟩

theorem sc_name_wrong : FnScope ["name", "at", "taken", "who"] ["name", "at", "taken"] (defScope s_name_wrong) := ⟨rfl, rfl, rfl, by decide +kernel, rfl, by decide +kernel, by decide +kernel⟩

theorem sc_is_width : FnScope ["thing"] ["thing"] (defScope s_is_width) := ⟨rfl, rfl, rfl, by decide +kernel, rfl, by decide +kernel, by decide +kernel⟩

theorem sc_is_row : FnScope ["thing"] ["thing"] (defScope s_is_row) := ⟨rfl, rfl, rfl, by decide +kernel, rfl, by decide +kernel, by decide +kernel⟩

theorem sc_signal_wrong : FnScope ["row", "at", "taken", "wrong"] ["row", "at", "taken"] (defScope s_signal_wrong) := ⟨rfl, rfl, rfl, by decide +kernel, rfl, by decide +kernel, by decide +kernel⟩

theorem sc_signals_wrong : FnScope ["signals", "taken", "at", "row", "wrong"] ["signals"] (defScope s_signals_wrong) := ⟨rfl, rfl, rfl, by decide +kernel, rfl, by decide +kernel, by decide +kernel⟩

theorem sc_many_wrong : FnScope ["signals", "blocks", "row"] ["signals", "blocks"] (defScope s_many_wrong) := ⟨rfl, rfl, rfl, by decide +kernel, rfl, by decide +kernel, by decide +kernel⟩

theorem sc_is_driver : FnScope ["thing", "width", "widths", "when", "term"] ["thing", "width", "widths"] (defScope s_is_driver) := ⟨rfl, rfl, rfl, by decide +kernel, rfl, by decide +kernel, by decide +kernel⟩

theorem sc_are_drivers : FnScope ["thing", "width", "widths", "one"] ["thing", "width", "widths"] (defScope s_are_drivers) := ⟨rfl, rfl, rfl, by decide +kernel, rfl, by decide +kernel, by decide +kernel⟩

theorem sc_is_what : FnScope ["row", "widths", "sort", "name", "width", "what"] ["row", "widths"] (defScope s_is_what) := ⟨rfl, rfl, rfl, by decide +kernel, rfl, by decide +kernel, by decide +kernel⟩

theorem sc_widths_of : FnScope ["signals", "sort", "name", "width", "what"] ["signals"] (defScope s_widths_of) := ⟨rfl, rfl, rfl, by decide +kernel, rfl, by decide +kernel, by decide +kernel⟩

theorem sc_what_wrong : FnScope ["signals", "widths", "row"] ["signals"] (defScope s_what_wrong) := ⟨rfl, rfl, rfl, by decide +kernel, rfl, by decide +kernel, by decide +kernel⟩

def spHasWidth : Sp := fun vs H Q _ => ∃ (G : Str → Nat → Prop) (t : Tm) (v : V) (a : Addr) (k : Nat), vs = [v, .int (k : Int), .ref a] ∧ RT H t v ∧ Rng G ∧ WDs H a G ∧ TermOk G t k ∧ ∀ H', Same H H' → Q (.bl true) H'
def spNameWrong : Sp := fun vs H Q _ => ∃ (n : Str) (i : Int) (a : Addr) (tk : List Str), vs = [.str n, .int i, .ref a] ∧ H a = some (.lst (tk.map V.str)) ∧ NameOk n ∧ n ∉ tk ∧ ∀ H', Same H H' → Q .non H'
def spIsWidth : Sp := fun vs H Q _ => ∃ k : Int, vs = [.int k] ∧ 1 ≤ k ∧ k ≤ 8 ∧ Q (.bl true) H
def spIsRow : Sp := fun vs H Q _ => ∃ (a : Addr) (x y z u : V), vs = [.ref a] ∧ H a = some (.tup [x, y, z, u]) ∧ Q (.bl true) H
def spSignalWrong : Sp := fun vs H Q _ => ∃ (s : Sg) (x : V) (i : Int) (a : Addr) (tk : List Str), vs = [x, .int i, .ref a] ∧ RS H s x ∧ H a = some (.lst (tk.map V.str)) ∧ NameOk s.name ∧ 1 ≤ s.wd ∧ s.wd ≤ 8 ∧ s.name ∉ tk ∧ ∀ H', Same H H' → Q .non H'
def spSignalsWrong : Sp := fun vs H Q _ => ∃ (sg : List Sg) (bl : List Bk) (a : Addr), vs = [.ref a] ∧ LS H a sg ∧ Valid sg bl ∧ ∀ H', Same H H' → Q .non H'
def spManyWrong : Sp := fun vs H Q _ => ∃ (sg : List Sg) (bl : List Bk) (a b : Addr), vs = [.ref a, .ref b] ∧ LS H a sg ∧ LK H b bl ∧ Valid sg bl ∧ ∀ H', Same H H' → Q .non H'
def spIsDriver : Sp := fun vs H Q _ => ∃ (G : Str → Nat → Prop) (d : Tm × Tm) (v : V) (a : Addr) (k : Nat), vs = [v, .int (k : Int), .ref a] ∧ RD H d v ∧ Rng G ∧ WDs H a G ∧ TermOk G d.1 1 ∧ TermOk G d.2 k ∧ ∀ H', Same H H' → Q (.bl true) H'
def spAreDrivers : Sp := fun vs H Q _ => ∃ (G : Str → Nat → Prop) (ds : List (Tm × Tm)) (p : Addr) (xs : List V) (a : Addr) (k : Nat), vs = [.ref p, .int (k : Int), .ref a] ∧ H p = some (.tup xs) ∧ All2 (RD H) ds xs ∧ 2 ≤ ds.length ∧ ds.length ≤ 4 ∧ Rng G ∧ WDs H a G ∧ (∀ d ∈ ds, TermOk G d.1 1 ∧ TermOk G d.2 k) ∧ ∀ H', Same H H' → Q (.bl true) H'
def spIsWhat : Sp := fun vs H Q _ => ∃ (G : Str → Nat → Prop) (s : Sg) (x : V) (a : Addr), vs = [x, .ref a] ∧ RS H s x ∧ Rng G ∧ WDs H a G ∧ WhatOk G s ∧ ∀ H', Same H H' → Q (.bl true) H'
def spWidthsOf : Sp := fun vs H Q _ => ∃ (sg : List Sg) (a : Addr), vs = [.ref a] ∧ LS H a sg ∧ (sg.map Sg.name).Nodup ∧ sg.length ≤ 24 ∧ ∀ p H', H p = none → Same H H' → WDs H' p (GW sg) → Q (.ref p) H'
def spWhatWrong : Sp := fun vs H Q _ => ∃ (sg : List Sg) (bl : List Bk) (a : Addr), vs = [.ref a] ∧ LS H a sg ∧ Valid sg bl ∧ ∀ H', Same H H' → Q .non H'
local macro_rules | `(tactic| walk_at "rd") => `(tactic| simp only [tYes, wipe, HO.lst.injEq, HO.tup.injEq, HO.dK.injEq, Nat.reduceAdd, Nat.reduceLeDiff, Nat.reduceSub, Int.reduceLE, Int.reduceLT, Int.reduceNeg, Nat.zero_add, Int.reduceEq, cut_head, cut_tail, cut_mid, cut_three, c_cast0, c_cast1, c_cast2, c_cast3, c_cast4, z_lit, List.getD_eq_getElem?_getD, Option.getD_some, tLc_eq, tFor_eq, cxOf, Cx.nox, Cx.wish, tSeq, tIfS, tOr, tAnd, tNot, tB, tCB, tCons, tVar, tC, tNil, tTest, tChain, rI0, rI, tOp, rIxS, rIxL, rIxT, tRet, tNext, tAsg, gName, tAndV, tOrV, tNotV, tIf, tIsN, tNotN, tCall, tDrop, tBM, tBM0, rEq, rNe, tRetN, tSl, tNoPart, tPart, tTupD, tLstD, tInD, rIsK, rLenS, rLenL, rLenT, rAllT, rAnyF, rInK, rInL, rSlLD, rSlTD, rSlS, rCatD, rCatTD, rAppD, rExtD, rPopD, rPopAtD, rListD, rTupleD, iLst, iTpl, iStr, rIxLH, rIxTH, gTupH, gLstH, gStar0, gStar1, gStar2, rSumH, rAddS2, tJoinS, tFmtS, tFmtI, tJoined, tJoined_nil, tJoined_cons, rIsG, app_empty, tFldD, sFldD, tMkD, tMoD, rIsC, rLenO, rEqO, HO.ins.injEq, exists_eq, tNilL, tML, tML0, tMS, iEnumH, tCallK, rStrI, tGetS, tGet1S, tGet2S, rListKD, tDc_eq, tLc2_eq, tKGet, gCons, gNil, tChain3, tPartD, tSplitD, tPar, New, Chg, rListTD, atI_0, atI_1, atI_2, atI_3, sign_inj, and_false, false_and, or_false, false_or, or_true, true_or, List.take_succ_cons, List.take_zero, List.drop_succ_cons, List.drop_zero, forall_const, exists_false, not_false_eq_true, not_true_eq_false, if_true, if_false, iRng1, KindV,
  L2.start, List.map_cons, List.map_nil, List.length_cons, List.length_nil, List.replicate, List.cons_append, List.nil_append, List.append_nil, List.set_cons_zero, List.set_cons_succ, List.getElem?_cons_zero, List.getElem?_cons_succ, Option.some.injEq, exists_eq_left', exists_eq_left, V.int.injEq, V.str.injEq, V.bl.injEq, V.ref.injEq, V.ty.injEq, true_and, and_true, List.cons.injEq, exists_and_left, exists_eq', and_assoc, scal, ofString_inj, String.reduceEq, reduceIte, decide_eq_true_eq, decide_eq_false_iff_not, Bool.not_true, Bool.not_false, Bool.not_eq_true', inV_cons, inV_nil, eqV_ss, eqV_ii, flatV, List.all_cons, List.all_nil, Bool.and_true, Bool.or_false, Bool.true_and, Bool.false_or, decide_true, decide_false, Bool.true_or, Bool.false_eq_true, reduceCtorEq, spIsName, spIsValue, spIsTerm, spWidthOf, spHasWidth, spNameWrong, spIsWidth, spIsRow, spIsDriver, spAreDrivers, spIsWhat, spWidthsOf, spSignalWrong])
local macro_rules | `(tactic| walk_at "ra") => `(tactic| simp only [tYes, wipe, HO.lst.injEq, HO.tup.injEq, HO.dK.injEq, Nat.reduceAdd, Nat.reduceLeDiff, Nat.reduceSub, Int.reduceLE, Int.reduceLT, Int.reduceNeg, Nat.zero_add, Int.reduceEq, cut_head, cut_tail, cut_mid, cut_three, c_cast0, c_cast1, c_cast2, c_cast3, c_cast4, z_lit, List.getD_eq_getElem?_getD, Option.getD_some, tLc_eq, tFor_eq, cxOf, Cx.nox, Cx.wish, tSeq, tIfS, tOr, tAnd, tNot, tB, tCB, tCons, tVar, tC, tNil, tTest, tChain, rI0, rI, tOp, rIxS, rIxL, rIxT, tRet, tNext, tAsg, gName, tAndV, tOrV, tNotV, tIf, tIsN, tNotN, tCall, tDrop, tBM, tBM0, rEq, rNe, tRetN, tSl, tNoPart, tPart, tTupD, tLstD, tInD, rIsK, rLenS, rLenL, rLenT, rAllT, rAnyF, rInK, rInL, rSlLD, rSlTD, rSlS, rCatD, rCatTD, rAppD, rExtD, rPopD, rPopAtD, rListD, rTupleD, iLst, iTpl, iStr, rIxLH, rIxTH, gTupH, gLstH, gStar0, gStar1, gStar2, rSumH, rAddS2, tJoinS, tFmtS, tFmtI, tJoined, tJoined_nil, tJoined_cons, rIsG, app_empty, tFldD, sFldD, tMkD, tMoD, rIsC, rLenO, rEqO, HO.ins.injEq, exists_eq, tNilL, tML, tML0, tMS, iEnumH, tCallK, rStrI, tGetS, tGet1S, tGet2S, rListKD, tDc_eq, tLc2_eq, tKGet, gCons, gNil, tChain3, tPartD, tSplitD, tPar, New, Chg, rListTD, atI_0, atI_1, atI_2, atI_3, sign_inj, and_false, false_and, or_false, false_or, or_true, true_or, List.take_succ_cons, List.take_zero, List.drop_succ_cons, List.drop_zero, forall_const, exists_false, not_false_eq_true, not_true_eq_false, if_true, if_false, iRng1, KindV,
  L2.start, List.map_cons, List.map_nil, List.length_cons, List.length_nil, List.replicate, List.cons_append, List.nil_append, List.append_nil, List.set_cons_zero, List.set_cons_succ, List.getElem?_cons_zero, List.getElem?_cons_succ, Option.some.injEq, exists_eq_left', exists_eq_left, V.int.injEq, V.str.injEq, V.bl.injEq, V.ref.injEq, V.ty.injEq, true_and, and_true, List.cons.injEq, exists_and_left, exists_eq', and_assoc, scal, ofString_inj, String.reduceEq, reduceIte, decide_eq_true_eq, decide_eq_false_iff_not, Bool.not_true, Bool.not_false, Bool.not_eq_true', inV_cons, inV_nil, eqV_ss, eqV_ii, flatV, List.all_cons, List.all_nil, Bool.and_true, Bool.or_false, Bool.true_and, Bool.false_or, decide_true, decide_false, Bool.true_or, Bool.false_eq_true, reduceCtorEq, spIsName, spIsValue, spIsTerm, spWidthOf, spHasWidth, spNameWrong, spIsWidth, spIsRow, spIsDriver, spAreDrivers, spIsWhat, spWidthsOf, spSignalWrong, *])

theorem nodup_take {α : Type} : ∀ {l : List α} {i : Nat} {x : α}, l.Nodup → l[i]? = some x → x ∉ l.take i
  | [], _, _, _, h => by simp at h
  | a :: r, 0, x, _, h => by simp
  | a :: r, i + 1, x, hn, h => by
    have h' : r[i]? = some x := by simpa using h
    obtain ⟨h1, h2⟩ := List.nodup_cons.mp hn
    rw [List.take_succ_cons, List.mem_cons, not_or]
    exact ⟨fun e => h1 (e ▸ List.mem_of_getElem? h'), nodup_take h2 h'⟩
theorem take_snoc {α : Type} {l : List α} {i : Nat} {x : α} (h : l[i]? = some x) : l.take (i + 1) = l.take i ++ [x] := by
  rw [List.take_succ, h]
  rfl
theorem Valid.rng {sg : List Sg} {bl : List Bk} (V : Valid sg bl) : Rng (GW sg) := by
  rintro n k ⟨s, hs, _, rfl⟩
  exact (V.nm s hs).2
section
variable {P : Program} {w : World} {K : PySem.W.Frag} {mg : Str → Option Value} {base : Heap} {k : Nat}
theorem ok_has_width (T : TX K mg) (D : DF K mg "has_width" s_has_width ["term", "width", "widths"] []) (G_width_of : FO P w K mg base "width_of" k ["term", "widths"] [] spWidthOf) :
    FO P w K mg base "has_width" (k + 1) ["term", "width", "widths"] [] spHasWidth := by
  refine D.ok sc_has_width (fun vs H Q E h => ?_) (fun fa cdv A outer s H vs Q E hr h => ?_)
  · obtain ⟨_, _, _, _, _, rfl, _⟩ := h
    rfl
  obtain ⟨G, t, v, d, kk, rfl, ht, hG, hd, hok, q⟩ := h
  refine ⟨_, (pss_cons (ps_try_thru0 (pss_one (ps_set (i := 3) sc_has_width.nd rfl (Or.inl rfl) (pe_fo G_width_of hr (pa_cons (pv 0) (pa_cons (pv 2) pa_nil))))))
    (pss_one (ps_ret (pe_cmpR op_eq (pv 3) (pv 1) (nomark _))))), ?_⟩
  walk_at "rd"
  refine ⟨G, t, ht, hG, hd, kk, hok, fun H1 s1 => ?_⟩
  have q1 := q _ s1
  walk_at "ra"
theorem ok_name_wrong (T : TX K mg) (D : DF K mg "name_wrong" s_name_wrong ["name", "at", "taken"] []) (G_is_name : FO P w K mg base "is_name" k ["thing"] [] spIsName) :
    FO P w K mg base "name_wrong" (k + 1) ["name", "at", "taken"] [] spNameWrong := by
  refine D.ok sc_name_wrong (fun vs H Q E h => ?_) (fun fa cdv A outer s H vs Q E hr h => ?_)
  · obtain ⟨_, _, _, _, rfl, _⟩ := h
    rfl
  obtain ⟨n, i, a, tk, rfl, ha, hn, hnt, q⟩ := h
  refine ⟨_, (pss_cons (ps_set (i := 3) sc_name_wrong.nd rfl (Or.inl rfl) (pe_ifExp (pt_val (pe_callB (call_is (n := "str") (m := "str") (b := true) rfl) rfl T.isinstance (by decide +kernel) (pa_cons (pv 0) (pa_cons (pe_bltn (v := .ty "str") rfl T.str (by decide +kernel) rfl) pa_nil)))) (pv 0) (pe_callTy call_strI rfl T.str (by decide +kernel) (pa_cons (pv 1) pa_nil))))
    (pss_cons (ps_if (pt_not (pt_val (pe_fo G_is_name hr (pa_cons (pv 0) pa_nil))))
      (pss_one (ps_ret (pe_tupD (pa_cons pe_str (pa_cons (pv 3) pa_nil)))))
      pss_nil)
    (pss_cons (ps_if (pt_cmpR op_inL (pv 0) (pv 2) (by rfl))
      (pss_one (ps_ret (pe_tupD (pa_cons pe_str (pa_cons (pv 3) pa_nil)))))
      pss_nil)
    (pss_one (ps_ret pe_non))))), ?_⟩
  walk_at "ra"
  intro H1 s1
  have ha1 := s1 _ _ ha
  have q1 := q _ s1
  walk_at "ra"
  refine ⟨flat_strs _, ?_⟩
  rw [inV_strs, decide_eq_false hnt, if_neg Bool.false_ne_true]
  first | exact q1 | trivial
theorem ok_is_width (T : TX K mg) (D : DF K mg "is_width" s_is_width ["thing"] []) : FO P w K mg base "is_width" (k + 1) ["thing"] [] spIsWidth := by
  refine D.ok sc_is_width (fun vs H Q E h => ?_) (fun fa cdv A outer s H vs Q E hr h => ?_)
  · obtain ⟨_, rfl, _⟩ := h
    rfl
  obtain ⟨i, rfl, h1, h8, q⟩ := h
  refine ⟨_, (pss_one (ps_ret (pe_and (pe_callB (call_is (n := "int") (m := "int") (b := true) rfl) rfl T.isinstance (by decide +kernel) (pa_cons (pv 0) (pa_cons (pe_bltn (v := .ty "int") rfl T.int (by decide +kernel) rfl) pa_nil))) (pe_and (pe_not (pe_callB (call_is (n := "int") (m := "bool") (b := false) rfl) rfl T.isinstance (by decide +kernel) (pa_cons (pv 0) (pa_cons (pe_bltn (v := .ty "bool") rfl T.bool (by decide +kernel) rfl) pa_nil)))) (pe_one (pe_chain op_le op_le pe_int (pv 0) (pe_gv T.c_WIDEST))))))), ?_⟩
  walk_at "ra"
theorem ok_is_row (T : TX K mg) (D : DF K mg "is_row" s_is_row ["thing"] []) : FO P w K mg base "is_row" (k + 1) ["thing"] [] spIsRow := by
  refine D.ok sc_is_row (fun vs H Q E h => ?_) (fun fa cdv A outer s H vs Q E hr h => ?_)
  · obtain ⟨_, _, _, _, _, rfl, _⟩ := h
    rfl
  obtain ⟨a, x, y, z, u, rfl, ha, q⟩ := h
  refine ⟨_, (pss_one (ps_ret (pe_and (pe_callB (call_is (n := "tuple") (m := "tuple") (b := true) rfl) rfl T.isinstance (by decide +kernel) (pa_cons (pv 0) (pa_cons (pe_bltn (v := .ty "tuple") rfl T.tuple (by decide +kernel) rfl) pa_nil))) (pe_one (pe_cmpR op_eq (pe_callB call_lenT rfl T.len PySem.boot_len (pa_cons (pv 0) pa_nil)) (pe_gv T.c_FIELDS) (nomark _)))))), ?_⟩
  walk_at "ra"
theorem sort_in (s : Sg) : s.sort ∈ sortsL := by
  cases s <;> simp [Sg.sort, sortsL]
theorem ok_signal_wrong (T : TX K mg) (D : DF K mg "signal_wrong" s_signal_wrong ["row", "at", "taken"] []) (G_name_wrong : FO P w K mg base "name_wrong" k ["name", "at", "taken"] [] spNameWrong)
    (G_is_row : FO P w K mg base "is_row" k ["thing"] [] spIsRow) (G_is_width : FO P w K mg base "is_width" k ["thing"] [] spIsWidth) :
    FO P w K mg base "signal_wrong" (k + 1) ["row", "at", "taken"] [] spSignalWrong := by
  obtain ⟨_, c_SORTS⟩ := T.k_SORTS
  refine D.ok sc_signal_wrong (fun vs H Q E h => ?_) (fun fa cdv A outer s H vs Q E hr h => ?_)
  · obtain ⟨_, _, _, _, _, rfl, _⟩ := h
    rfl
  obtain ⟨sg, x, i, a, tk, rfl, ⟨b, v, rfl, hb, hv⟩, ha, hn, h1, h8, hnt, q⟩ := h
  refine ⟨_, (pss_cons (ps_if (PW.pt (pw_or (pt_not (pt_val (pe_fo G_is_row hr (pa_cons (pv 0) pa_nil)))) (pw_or1 (pt_cmpR (op_ninK c_SORTS.2) (pe_ix ix_tpl (pv 0) pe_int (fun _ _ => rfl)) (pe_gv c_SORTS.1) (by rfl)))))
      (pss_one (ps_ret (pe_tupD (pa_cons pe_str (pa_cons (pe_callTy call_strI rfl T.str (by decide +kernel) (pa_cons (pv 1) pa_nil)) pa_nil)))))
      pss_nil)
    (pss_cons (ps_set (i := 3) sc_signal_wrong.nd rfl (Or.inl rfl) (pe_fo G_name_wrong hr (pa_cons (pe_ix ix_tpl (pv 0) pe_int (fun _ _ => rfl)) (pa_cons (pv 1) (pa_cons (pv 2) pa_nil)))))
    (pss_cons (ps_if (PW.pt (pw_and (pt_cmpR op_isN (pv 3) pe_non (nomark _)) (pw_and1 (pt_not (pt_val (pe_fo G_is_width hr (pa_cons (pe_ix ix_tpl (pv 0) pe_int (fun _ _ => rfl)) pa_nil)))))))
      (pss_one (ps_set (i := 3) sc_signal_wrong.nd rfl (Or.inl rfl) (pe_tupD (pa_cons pe_str (pa_cons (pe_ix ix_tpl (pv 0) pe_int (fun _ _ => rfl)) pa_nil)))))
      pss_nil)
    (pss_one (ps_ret (pv 3)))))), ?_⟩
  walk_at "ra"
  rw [if_neg (fun z => z (sort_in sg))]
  refine ⟨tk, rfl, hnt, fun H1 s1 => ?_⟩
  have hb1 := s1 _ _ hb
  refine ⟨_, hb1, _, rfl, _, rfl, by omega, by omega, q _ s1⟩
theorem ok_signals_wrong (T : TX K mg) (D : DF K mg "signals_wrong" s_signals_wrong ["signals"] []) (G_signal_wrong : FO P w K mg base "signal_wrong" k ["row", "at", "taken"] [] spSignalWrong) :
    FO P w K mg base "signals_wrong" (k + 1) ["signals"] [] spSignalsWrong := by
  refine D.ok sc_signals_wrong (fun vs H Q E h => ?_) (fun fa cdv A outer s H vs Q E hr h => ?_)
  · obtain ⟨_, _, _, rfl, _⟩ := h
    rfl
  obtain ⟨sg, bl, a, rfl, ⟨xs, ha, hal⟩, hv, q⟩ := h
  refine ⟨_, (pss_cons (ps_set (i := 1) sc_signals_wrong.nd rfl (Or.inl rfl) (pe_lstD pa_nil))
    (pss_cons (ps_for PassesOwn.never rfl (pi_enumD (by rfl) T.enumerate (pa_cons (pv 0) pa_nil)) (pg_tpl 2 rfl (pgs_cons (pg_name (i := 2) sc_signals_wrong.nd rfl (Or.inl rfl)) (pgs_cons (pg_name (i := 3) sc_signals_wrong.nd rfl (Or.inl rfl)) pgs_nil)))
      (pss_cons (ps_set (i := 4) sc_signals_wrong.nd rfl (Or.inl rfl) (pe_fo G_signal_wrong hr (pa_cons (pv 3) (pa_cons (pv 2) (pa_cons (pv 1) pa_nil)))))
    (pss_cons (ps_if (pt_cmpR op_notN (pv 4) pe_non (nomark _))
      (pss_one (ps_ret (pv 4)))
      pss_nil)
    (pss_one (ps_expr (pe_bmL PySem.F.slot_list_append PySem.F.type_list_append mt_appD (pv 1) (pa_cons (pe_ix ix_tpl (pv 3) pe_int (fun _ _ => rfl)) pa_nil)))))))
    (pss_one (ps_ret pe_non)))), ?_⟩
  walk_at "ra"
  intro p H1 hp s1 hl1
  have hn1 : sg.length ≤ 24 := hv.ls
  have hlen := all2_len hal
  refine ⟨xs, s1 _ _ ha, ?_⟩
  refine for_enum (xs := xs) (fun i σ H2 => ∃ o1 o2 o3, σ = [some (V.ref a), some (V.ref p), o1, o2, o3] ∧ Same H H2 ∧ H2 p = some (.lst (((sg.map Sg.name).take i).map V.str))) ⟨none, none, none, rfl, s1, hl1⟩ (fun i σ H2 z => ?_) (fun i σ H2 x T H3 hx z hT s3 hT3 => ?_) (fun σ H2 z => ?_)
  · obtain ⟨_, _, _, _, s2, _⟩ := z
    exact s2 _ _ ha
  · obtain ⟨o1, o2, o3, rfl, s2, hp2⟩ := z
    obtain ⟨s', hs', hr'⟩ := all2_at hal hx
    have hmem := List.mem_of_getElem? hs'
    have hp3 := s3 _ _ hp2
    have s03 := s2.trans s3
    obtain ⟨n1, n2, n3⟩ := hv.nm s' hmem
    have hnot : s'.name ∉ (sg.map Sg.name).take i := nodup_take (List.nodup_append.mp hv.nd).1 (by rw [List.getElem?_map, hs']; rfl)
    walk_at "ra"
    refine ⟨s', RS.tk (same_tk s03) hr', _, rfl, n1, n2, n3, hnot, fun H4 s4 => ?_⟩
    obtain ⟨b, v, rfl, hb, hw⟩ := hr'
    have hb4 := s4 _ _ (s03 _ _ hb)
    have hp4 := s4 _ _ hp3
    walk_at "ra"
    refine ⟨by rw [List.length_map, List.length_take, List.length_map]; omega, fun H5 b5 hp5 => ⟨same_but (s03.trans s4) hp b5, ?_⟩⟩
    rw [hp5, take_snoc (l := sg.map Sg.name) (i := i) (x := s'.name) (by rw [List.getElem?_map, hs']; rfl), List.map_append]
    rfl
  · obtain ⟨o1, o2, o3, rfl, s2, hp2⟩ := z
    walk_at "rd"
    exact q _ s2
theorem ok_many_wrong (T : TX K mg) (D : DF K mg "many_wrong" s_many_wrong ["signals", "blocks"] []) :
    FO P w K mg base "many_wrong" (k + 1) ["signals", "blocks"] [] spManyWrong := by
  refine D.ok sc_many_wrong (fun vs H Q E h => ?_) (fun fa cdv A outer s H vs Q E hr h => ?_)
  · obtain ⟨_, _, _, _, rfl, _⟩ := h
    rfl
  obtain ⟨sg, bl, a, b, rfl, ⟨xs, ha, hal⟩, ⟨ys, hb, hbl⟩, hv, q⟩ := h
  refine ⟨_, (pss_cons (ps_if (pt_cmpR op_gt (pe_callB call_lenL rfl T.len PySem.boot_len (pa_cons (pv 0) pa_nil)) (pe_gv T.c_MOST_SIGNALS) (nomark _))
      (pss_one (ps_ret (pe_tupD (pa_cons pe_str (pa_cons pe_str pa_nil)))))
      pss_nil)
    (pss_cons (ps_if (pt_cmpR op_gt (pe_callB call_lenL rfl T.len PySem.boot_len (pa_cons (pe_lc (own := [("row", 2)]) (tt := _) rfl sc_many_wrong.nd (pi_lst (pv 0)) (blkOk_by (N := ["signals", "blocks", "row"]) (sc := defScope s_many_wrong) (by decide +kernel)) (fun _ _ _ _ _ => (pg_name (i := 2) sc_many_wrong.nd rfl (Or.inl rfl))) (fun _ _ _ _ _ => (pts_one (pt_inD (pe_ix ix_tpl (pv 2) pe_int (fun _ _ => rfl)) (pa_cons pe_str (pa_cons pe_str pa_nil))))) (fun _ _ _ _ _ => (pv 2))) pa_nil)) (pe_gv T.c_MOST_WIRES) (nomark _))
      (pss_one (ps_ret (pe_tupD (pa_cons pe_str (pa_cons pe_str pa_nil)))))
      pss_nil)
    (pss_cons (ps_if (PW.pt (pw_and (pt_val (pe_callB (call_is (n := "list") (m := "list") (b := true) rfl) rfl T.isinstance (by decide +kernel) (pa_cons (pv 1) (pa_cons (pe_bltn (v := .ty "list") rfl T.list (by decide +kernel) rfl) pa_nil)))) (pw_and1 (pt_cmpR op_gt (pe_callB call_lenL rfl T.len PySem.boot_len (pa_cons (pv 1) pa_nil)) (pe_gv T.c_MOST_BLOCKS) (nomark _)))))
      (pss_one (ps_ret (pe_tupD (pa_cons pe_str (pa_cons pe_str pa_nil)))))
      pss_nil)
    (pss_one (ps_ret pe_non))))), ?_⟩
  walk_at "ra"
  have hlen := all2_len hal
  have hlenb := all2_len hbl
  have h1 := hv.ls
  have h2 := hv.lw
  have h3 := hv.lb
  rw [if_neg (by omega)]
  refine lc_gen (tt := _) wk_lst (fun H1 s => s _ _ ha) (fun i acc H => acc.length = ((sg.take i).filter isLed).length) (by omega) (fun i acc H hi u => ?_) (fun _ _ _ _ u _ => u) (fun _ _ => rfl) (fun i acc H1 Ky Kn hi s1 u ky kn => ?_) (fun Dl acc H1 s1 hD hl1 u => ?_)
  · rw [u]
    refine Nat.le_trans (List.length_filter_le _ _) ?_
    rw [List.length_take]
    omega
  · have hget : xs[i]? = some (xs.getD i .non) := by simp [hi]
    obtain ⟨s', hs', b', v', e, hb', hw'⟩ := all2_at hal hget
    rw [e]
    have hb1 := s1 _ _ hb'
    walk_at "ra"
    intro H2 s2
    have hflt : ((sg.take (i + 1)).filter isLed).length = ((sg.take i).filter isLed).length + (if isLed s' then 1 else 0) := by
      rw [take_snoc hs', List.filter_append, List.length_append]
      cases h : isLed s' <;> simp [h]
    cases s' with
    | wire n k t =>
      simp only [Sg.sort]
      walk_at "rd"
      refine ky _ _ s2 ?_
      rw [hflt, List.length_append, u]
      rfl
    | bus n k t =>
      simp only [Sg.sort]
      walk_at "rd"
      refine ky _ _ s2 ?_
      rw [hflt, List.length_append, u]
      rfl
    | inp n k =>
      simp only [Sg.sort]
      walk_at "rd"
      refine kn _ s2 ?_
      rw [hflt, u]
      rfl
    | filt n k t =>
      simp only [Sg.sort]
      walk_at "rd"
      refine kn _ s2 ?_
      rw [hflt, u]
      rfl
    | kept n k v =>
      simp only [Sg.sort]
      walk_at "rd"
      refine kn _ s2 ?_
      rw [hflt, u]
      rfl
  · have hb1 := s1 _ _ hb
    have hle : acc.length ≤ 8 := by
      rw [u, ← hlen, List.take_length]
      exact h2
    refine ⟨Dl, rfl, acc, hl1, ?_⟩
    rw [if_neg (by omega)]
    refine ⟨⟨_, hb1⟩, ys, hb1, ?_⟩
    rw [if_neg (by omega)]
    exact q _ s1
theorem ok_is_driver (T : TX K mg) (D : DF K mg "is_driver" s_is_driver ["thing", "width", "widths"] []) (G_has_width : FO P w K mg base "has_width" k ["term", "width", "widths"] [] spHasWidth) :
    FO P w K mg base "is_driver" (k + 1) ["thing", "width", "widths"] [] spIsDriver := by
  refine D.ok sc_is_driver (fun vs H Q E h => ?_) (fun fa cdv A outer s H vs Q E hr h => ?_)
  · obtain ⟨_, _, _, _, _, rfl, _⟩ := h
    rfl
  obtain ⟨G, d, v, a, kk, rfl, ⟨b, v1, v2, rfl, hb, r1, r2⟩, hG, hd, t1, t2, q⟩ := h
  refine ⟨_, (pss_cons (ps_if (PW.pt (pw_or (pt_not (pt_val (pe_callB (call_is (n := "tuple") (m := "tuple") (b := true) rfl) rfl T.isinstance (by decide +kernel) (pa_cons (pv 0) (pa_cons (pe_bltn (v := .ty "tuple") rfl T.tuple (by decide +kernel) rfl) pa_nil))))) (pw_or1 (pt_cmpR op_ne (pe_callB call_lenT rfl T.len PySem.boot_len (pa_cons (pv 0) pa_nil)) pe_int (nomark _)))))
      (pss_one (ps_ret pe_bl))
      pss_nil)
    (pss_cons (ps_asg (pv 0) (pg_tpl 2 rfl (pgs_cons (pg_name (i := 3) sc_is_driver.nd rfl (Or.inl rfl)) (pgs_cons (pg_name (i := 4) sc_is_driver.nd rfl (Or.inl rfl)) pgs_nil))))
    (pss_one (ps_ret (pe_and (pe_fo G_has_width hr (pa_cons (pv 3) (pa_cons pe_int (pa_cons (pv 2) pa_nil)))) (pe_one (pe_fo G_has_width hr (pa_cons (pv 4) (pa_cons (pv 1) (pa_cons (pv 2) pa_nil)))))))))), ?_⟩
  walk_at "ra"
  refine ⟨G, d.1, a, 1, rfl, rfl, r1, hG, hd, t1, fun H1 s1 => ?_⟩
  exact ⟨G, d.2, a, kk, rfl, rfl, RT.tk (same_tk s1) _ _ r2, hG, hd.same s1, t2, fun H2 s2 => q _ (s1.trans s2)⟩
theorem ok_are_drivers (T : TX K mg) (D : DF K mg "are_drivers" s_are_drivers ["thing", "width", "widths"] []) (G_is_driver : FO P w K mg base "is_driver" k ["thing", "width", "widths"] [] spIsDriver) :
    FO P w K mg base "are_drivers" (k + 1) ["thing", "width", "widths"] [] spAreDrivers := by
  refine D.ok sc_are_drivers (fun vs H Q E h => ?_) (fun fa cdv A outer s H vs Q E hr h => ?_)
  · obtain ⟨_, _, _, _, _, _, rfl, _⟩ := h
    rfl
  obtain ⟨G, ds, p, xs, a, kk, rfl, hp, hal, l2, l4, hG, hd, hok, q⟩ := h
  have hlen := all2_len hal
  refine ⟨_, (pss_cons (ps_if (PW.pt (pw_or (pt_not (pt_val (pe_callB (call_is (n := "tuple") (m := "tuple") (b := true) rfl) rfl T.isinstance (by decide +kernel) (pa_cons (pv 0) (pa_cons (pe_bltn (v := .ty "tuple") rfl T.tuple (by decide +kernel) rfl) pa_nil))))) (pw_or1 (pt_not (pt_chain op_le op_le (pe_gv T.c_LEAST_DRIVERS) (pe_callB call_lenT rfl T.len PySem.boot_len (pa_cons (pv 0) pa_nil)) (pe_gv T.c_MOST_DRIVERS))))))
      (pss_one (ps_ret pe_bl))
      pss_nil)
    (pss_one (ps_ret (pe_callB (call_allT rfl) rfl T.all (by decide +kernel) (pa_cons (pe_lc (own := [("one", 3)]) (tt := tYes) rfl sc_are_drivers.nd (pi_tpl (pv 0)) (blkOk_by (N := ["thing", "width", "widths", "one"]) (sc := defScope s_are_drivers) (by decide +kernel)) (fun _ _ _ _ _ => (pg_name (i := 3) sc_are_drivers.nd rfl (Or.inl rfl))) (fun _ _ _ _ _ => pts_nil) (fun _ _ _ _ _ => (pe_fo G_is_driver hr (pa_cons (pv 3) (pa_cons (pv 1) (pa_cons (pv 2) pa_nil)))))) pa_nil))))), ?_⟩
  walk_at "ra"
  rw [if_pos (by omega), if_neg (by omega)]
  refine lc_map wk_tpl (fun H1 s => s _ _ hp) (fun i y H => y = .bl true) (by omega) (fun _ _ _ _ r _ => r) (fun i H1 Ky hi s1 ky => ?_) (fun Dl ys H1 s1 hD hl1 hlen hy => ?_) mg_name
  · have hget : xs[i]? = some (xs.getD i .non) := by simp [hi]
    obtain ⟨d', hd', hr'⟩ := all2_at hal hget
    have hmem := List.mem_of_getElem? hd'
    walk_at "rd"
    exact ⟨G, d', a, kk, rfl, rfl, hr'.tk (same_tk s1), hG, hd.same s1, (hok d' hmem).1, (hok d' hmem).2, fun H2 s2 => ky _ _ s2 rfl⟩
  · exact ⟨Dl, rfl, ys, hl1, of_getElem hy, q _ s1⟩
theorem ok_is_what (T : TX K mg) (D : DF K mg "is_what" s_is_what ["row", "widths"] []) (G_are_drivers : FO P w K mg base "are_drivers" k ["thing", "width", "widths"] [] spAreDrivers)
    (G_has_width : FO P w K mg base "has_width" k ["term", "width", "widths"] [] spHasWidth) (GK_is_value : FK P w K mg base "is_value" k ["thing", "width"] 1 ["width"] (fun vs zs => vs ++ zs) spIsValue) :
    FO P w K mg base "is_what" (k + 1) ["row", "widths"] [] spIsWhat := by
  refine D.ok sc_is_what (fun vs H Q E h => ?_) (fun fa cdv A outer s H vs Q E hr h => ?_)
  · obtain ⟨_, _, _, _, rfl, _⟩ := h
    rfl
  obtain ⟨G, sg, x, a, rfl, ⟨b, v, rfl, hb, hv⟩, hG, hd, hok, q⟩ := h
  refine ⟨_, (pss_cons (ps_asg (pv 0) (pg_tpl 4 rfl (pgs_cons (pg_name (i := 2) sc_is_what.nd rfl (Or.inl rfl)) (pgs_cons (pg_name (i := 3) sc_is_what.nd rfl (Or.inl rfl)) (pgs_cons (pg_name (i := 4) sc_is_what.nd rfl (Or.inl rfl)) (pgs_cons (pg_name (i := 5) sc_is_what.nd rfl (Or.inl rfl)) pgs_nil))))))
    (pss_cons (ps_if (pt_cmpR op_eq (pv 2) pe_str (nomark _))
      (pss_one (ps_ret (pe_cmpR op_isN (pv 5) pe_non (nomark _))))
      pss_nil)
    (pss_cons (ps_if (pt_cmpR op_eq (pv 2) pe_str (nomark _))
      (pss_one (ps_ret (pe_and (pe_fk GK_is_value hr (pa_cons (pv 5) pa_nil) (pk_cons (pv 4) pk_nil)) (pe_one (pe_cmpR op_notIn_sign pe_str (pv 5) (by rfl))))))
      pss_nil)
    (pss_cons (ps_if (pt_cmpR op_eq (pv 2) pe_str (nomark _))
      (pss_one (ps_ret (pe_fo G_are_drivers hr (pa_cons (pv 5) (pa_cons (pv 4) (pa_cons (pv 1) pa_nil))))))
      pss_nil)
    (pss_one (ps_ret (pe_fo G_has_width hr (pa_cons (pv 5) (pa_cons (pv 4) (pa_cons (pv 1) pa_nil)))))))))), ?_⟩
  cases sg <;> simp only [Sg.sort, Sg.name, Sg.wd] at hb
  all_goals walk_at "ra"
  · have e : v = .non := hv
    subst e
    exact q _ (Same.refl _)
  · rename_i n kk val
    have e : v = .str val := hv
    have hval : ValOk val kk := hok
    subst e
    refine ⟨val, rfl, kk, hval, .inr rfl, fun H1 s1 => ⟨val, rfl, ?_⟩⟩
    rw [decide_eq_false fun z => by have := hval.al 122 z; omega]
    exact q _ s1
  · rename_i n kk t
    exact ⟨G, t, a, kk, rfl, rfl, hv, hG, hd, hok, q⟩
  · rename_i n kk t
    exact ⟨G, t, a, kk, rfl, rfl, hv, hG, hd, hok, q⟩
  · rename_i n kk ds
    obtain ⟨p, xs, rfl, hp, hal⟩ := hv
    obtain ⟨l2, l4, hok⟩ := hok
    exact ⟨G, ds, p, rfl, xs, a, kk, rfl, rfl, hp, hal, l2, l4, hG, hd, hok, q⟩
theorem ok_widths_of (T : TX K mg) (D : DF K mg "widths_of" s_widths_of ["signals"] []) : FO P w K mg base "widths_of" (k + 1) ["signals"] [] spWidthsOf := by
  refine D.ok sc_widths_of (fun vs H Q E h => ?_) (fun fa cdv A outer s H vs Q E hr h => ?_)
  · obtain ⟨_, _, rfl, _⟩ := h
    rfl
  obtain ⟨sg, a, rfl, ⟨xs, ha, hal⟩, hnd, hlen, q⟩ := h
  refine ⟨_, (pss_one (ps_ret (pe_dc (own := [("sort", 1), ("name", 2), ("width", 3), ("what", 4)]) (tt := tYes) rfl sc_widths_of.nd (pi_lst (pv 0)) (blkOk_by (N := ["signals", "sort", "name", "width", "what"]) (sc := defScope s_widths_of) (by decide +kernel)) (fun _ _ _ _ _ => (pg_tpl 4 rfl (pgs_cons (pg_name (i := 1) sc_widths_of.nd rfl (Or.inl rfl)) (pgs_cons (pg_name (i := 2) sc_widths_of.nd rfl (Or.inl rfl)) (pgs_cons (pg_name (i := 3) sc_widths_of.nd rfl (Or.inl rfl)) (pgs_cons (pg_name (i := 4) sc_widths_of.nd rfl (Or.inl rfl)) pgs_nil)))))) (fun _ _ _ _ _ => pts_nil) (fun _ _ _ _ _ => (pv 2)) (fun _ _ _ _ _ => (pv 3))))), ?_⟩
  walk_at "ra"
  have hlen := all2_len hal
  refine dc_text wk_lst (fun H s => s _ _ ha) (fun i kvs H => ∀ s ∈ sg.take i, valV kvs (.inr s.name) = some (.int (s.wd : Int))) (by omega) (fun _ _ _ _ u _ => u) (fun _ _ s z => (by cases z)) (fun i kvs H5 Ky Kn hi s5 u ky => ?_) (fun Dl kvs H5 s5 hD hl5 u => ?_)
  · have hget : xs[i]? = some (xs.getD i .non) := by simp [hi]
    obtain ⟨s', hs', b', v', e, hb', hw'⟩ := all2_at hal hget
    rw [e]
    have hb1 := s5 _ _ hb'
    walk_at "ra"
    refine ky _ _ _ (Same.refl _) fun s hs => ?_
    rw [take_snoc hs'] at hs
    rw [valV_inr]
    rcases List.mem_append.mp hs with hs | hs
    · rw [if_neg]
      · exact u s hs
      · intro e2
        have hm : s'.name ∈ (sg.map Sg.name).take i := by
          rw [← List.map_take, ← e2]
          exact List.mem_map_of_mem hs
        exact nodup_take hnd (by rw [List.getElem?_map, hs']; rfl) hm
    · simp at hs
      rw [hs, if_pos rfl]
  · refine q _ _ hD s5 ⟨kvs, hl5, ?_⟩
    rintro n k ⟨s, hs, rfl, rfl⟩
    exact u s (by rw [← hlen, List.take_length]; exact hs)
theorem ok_what_wrong (T : TX K mg) (D : DF K mg "what_wrong" s_what_wrong ["signals"] []) (G_widths_of : FO P w K mg base "widths_of" k ["signals"] [] spWidthsOf) (G_is_what : FO P w K mg base "is_what" k ["row", "widths"] [] spIsWhat) :
    FO P w K mg base "what_wrong" (k + 1) ["signals"] [] spWhatWrong := by
  refine D.ok sc_what_wrong (fun vs H Q E h => ?_) (fun fa cdv A outer s H vs Q E hr h => ?_)
  · obtain ⟨_, _, _, rfl, _⟩ := h
    rfl
  obtain ⟨sg, bl, a, rfl, ⟨xs, ha, hal⟩, hv, q⟩ := h
  refine ⟨_, (pss_cons (ps_set (i := 1) sc_what_wrong.nd rfl (Or.inl rfl) (pe_fo G_widths_of hr (pa_cons (pv 0) pa_nil)))
    (pss_cons (ps_for PassesOwn.never rfl (pi_lst (pv 0)) (pg_name (i := 2) sc_what_wrong.nd rfl (Or.inl rfl))
      (pss_one (ps_if (pt_not (pt_val (pe_fo G_is_what hr (pa_cons (pv 2) (pa_cons (pv 1) pa_nil)))))
      (pss_one (ps_ret (pe_tupD (pa_cons pe_str (pa_cons (pe_ix ix_tpl (pv 2) pe_int (fun _ _ => rfl)) pa_nil)))))
      pss_nil)))
    (pss_one (ps_ret pe_non)))), ?_⟩
  walk_at "rd"
  have hlen := all2_len hal
  have h1 := hv.ls
  have hnd := (List.nodup_append.mp hv.nd).1
  refine ⟨sg, ⟨xs, ha, hal⟩, hnd, h1, fun p H1 hp s1 hw => ⟨xs, s1 _ _ ha, ?_⟩⟩
  refine for_gen (wk_lst (xs := xs)) (fun i σ H2 => ∃ o, σ = [some (V.ref a), some (V.ref p), o] ∧ Same H1 H2) ⟨none, rfl, Same.refl _⟩ (fun i σ H2 _ z => ?_) (fun i σ H2 hi z => ?_) (fun σ H2 z => ?_)
  · obtain ⟨_, _, s2⟩ := z
    exact s2 _ _ (s1 _ _ ha)
  · obtain ⟨o, rfl, s2⟩ := z
    have hget : xs[i]? = some (xs.getD i .non) := by simp [hi]
    obtain ⟨s', hs', hr'⟩ := all2_at hal hget
    have hmem := List.mem_of_getElem? hs'
    walk_at "rd"
    exact ⟨GW sg, s', RS.tk (same_tk (s1.trans s2)) hr', hv.rng, hw.same s2, hv.wh s' hmem, fun H3 s3 => s2.trans s3⟩
  · obtain ⟨o, rfl, s2⟩ := z
    walk_at "rd"
    exact q _ (s1.trans s2)
end
end K37
set_option maxHeartbeats 4000000
namespace K37
open PySem L2 TL
open PyProof.Rows hiding St
theorem sc_statement_weight : FnScope ["statement", "widths", "kept", "deep", "is_kept", "word", "what", "weights", "rest", "body"] ["statement", "widths", "kept", "deep"] (defScope s_statement_weight) := ⟨rfl, rfl, rfl, by decide +kernel, rfl, by decide +kernel, by decide +kernel⟩

theorem sc_body_weight : FnScope ["body", "widths", "kept", "deep", "weights", "statement"] ["body", "widths", "kept", "deep"] (defScope s_body_weight) := ⟨rfl, rfl, rfl, by decide +kernel, rfl, by decide +kernel, by decide +kernel⟩

theorem sc_block_wrong : FnScope ["row", "at", "taken", "signals", "wrong", "widths", "weight", "name", "edge", "trigger", "body", "one"] ["row", "at", "taken", "signals"] (defScope s_block_wrong) := ⟨rfl, rfl, rfl, by decide +kernel, rfl, by decide +kernel, by decide +kernel⟩

theorem sc_blocks_wrong : FnScope ["signals", "blocks", "taken", "at", "row", "wrong"] ["signals", "blocks"] (defScope s_blocks_wrong) := ⟨rfl, rfl, rfl, by decide +kernel, rfl, by decide +kernel, by decide +kernel⟩

/-- a body's statements, each a body of its own -/
def heads : Bd → List Bd
  | .nil => []
  | .set w n t r => .set w n t .nil :: heads r
  | .ite c a b r => .ite c a b .nil :: heads r
def isHead : Bd → Prop
  | .nil => False
  | .set _ _ _ r => r = .nil
  | .ite _ _ _ r => r = .nil
theorem heads_is : ∀ {b h : Bd}, h ∈ heads b → isHead h
  | .nil, _, h => by cases h
  | .set _ _ _ r, _, h => by
    rcases List.mem_cons.mp h with rfl | h
    · exact rfl
    · exact heads_is h
  | .ite _ _ _ r, _, h => by
    rcases List.mem_cons.mp h with rfl | h
    · exact rfl
    · exact heads_is h
theorem heads_all {H : Hp} : ∀ {b : Bd} {xs : List V}, RBl H b xs → All2 (fun h x => RBl H h [x]) (heads b) xs
  | .nil, _, h => by
    have e : _ = [] := h
    subst e
    exact .nil
  | .set w n t r, _, ⟨a, v, ys, e, h, q, q'⟩ => by
    subst e
    exact .cons ⟨a, v, [], rfl, h, q, rfl⟩ (heads_all q')
  | .ite c s t r, _, ⟨a, v, p, q, ps, qs, ys, e, h, h1, h2, h3, h4, h5, h6⟩ => by
    subst e
    exact .cons ⟨a, v, p, q, ps, qs, [], rfl, h, h1, h2, h3, h4, h5, rfl⟩ (heads_all h6)
theorem heads_wt : ∀ b : Bd, ((heads b).map fun h => (bwt h : Int)).sum = (bwt b : Int)
  | .nil => rfl
  | .set w n t r => by
    have := heads_wt r
    simp only [heads, List.map_cons, List.sum_cons, bwt, this]
    omega
  | .ite c a b r => by
    have := heads_wt r
    simp only [heads, List.map_cons, List.sum_cons, bwt, this]
    omega
theorem heads_ok {G Kp : Str → Nat → Prop} {f : Str → Str} : ∀ {b h : Bd}, BdOk G Kp f b → h ∈ heads b → BdOk G Kp f h
  | .nil, _, _, h => by cases h
  | .set _ _ _ r, _, q, h => by
    rcases List.mem_cons.mp h with rfl | h
    · exact ⟨q.1, q.2.1, q.2.2.1, trivial⟩
    · exact heads_ok q.2.2.2 h
  | .ite _ _ _ r, _, q, h => by
    rcases List.mem_cons.mp h with rfl | h
    · exact ⟨q.1, q.2.1, q.2.2.1, trivial⟩
    · exact heads_ok q.2.2.2 h
theorem heads_deep : ∀ {b h : Bd}, h ∈ heads b → bdeep h ≤ bdeep b
  | .nil, _, h => by cases h
  | .set _ _ _ r, _, h => by
    rcases List.mem_cons.mp h with rfl | h
    · simp only [bdeep]; omega
    · have := heads_deep h
      simp only [bdeep]; omega
  | .ite _ _ _ r, _, h => by
    rcases List.mem_cons.mp h with rfl | h
    · simp only [bdeep]; omega
    · have := heads_deep h
      simp only [bdeep]; omega
theorem heads_pos {h : Bd} (hh : isHead h) : 1 ≤ bdeep h := by
  cases h with
  | nil => exact hh.elim
  | set => simp only [bdeep]; omega
  | ite => simp only [bdeep]; omega
theorem heads_len : ∀ b : Bd, (heads b).length ≤ bwt b
  | .nil => Nat.le_refl _
  | .set w n t r => by
    have := heads_len r
    simp only [heads, List.length_cons, bwt]
    omega
  | .ite c a b r => by
    have := heads_len r
    simp only [heads, List.length_cons, bwt]
    omega
theorem heads_wt_le {h : Bd} : ∀ {b : Bd}, h ∈ heads b → bwt h ≤ bwt b
  | .nil, h => by cases h
  | .set w n t r, hm => by
    rcases List.mem_cons.mp hm with rfl | hm
    · simp only [bwt]; omega
    · have := heads_wt_le hm
      simp only [bwt]; omega
  | .ite c a b r, hm => by
    rcases List.mem_cons.mp hm with rfl | hm
    · simp only [bwt]; omega
    · have := heads_wt_le hm
      simp only [bwt]; omega
/-- what a walk over bodies needs: widths at a, kept names at kp -/
structure BEnv (H : Hp) (G Kp : Str → Nat → Prop) (a kp : Addr) (tk : List Str) : Prop where
  rng : Rng G
  wd : WDs H a G
  kl : H kp = some (.lst (tk.map V.str))
  kin : ∀ n k, Kp n k → n ∈ tk ∧ G n k
theorem BEnv.same {H H' : Hp} {G Kp : Str → Nat → Prop} {a kp : Addr} {tk : List Str} (h : BEnv H G Kp a kp tk) (s : Same H H') : BEnv H' G Kp a kp tk := ⟨h.rng, h.wd.same s, s _ _ h.kl, h.kin⟩
def spStW (n : Nat) : Sp := fun vs H Q _ => ∃ (G Kp : Str → Nat → Prop) (f : Str → Str) (b : Bd) (x : V) (a kp : Addr) (tk : List Str) (d : Int), vs = [x, .ref a, .ref kp, .int d] ∧ RBl H b [x] ∧ isHead b ∧ BdOk G Kp f b ∧ BEnv H G Kp a kp tk ∧ bdeep b ≤ n ∧ (bdeep b : Int) ≤ d ∧ bwt b ≤ 1000 ∧ ∀ H', Same H H' → Q (.int (bwt b : Int)) H'
def spBodyW (n : Nat) : Sp := fun vs H Q _ => ∃ (G Kp : Str → Nat → Prop) (f : Str → Str) (b : Bd) (p : Addr) (xs : List V) (a kp : Addr) (tk : List Str) (d : Int), vs = [.ref p, .ref a, .ref kp, .int d] ∧ H p = some (.tup xs) ∧ RBl H b xs ∧ BdOk G Kp f b ∧ BEnv H G Kp a kp tk ∧ bdeep b ≤ n ∧ (bdeep b : Int) ≤ d ∧ bwt b ≤ 1000 ∧ ∀ H', Same H H' → Q (.int (bwt b : Int)) H'
def spBlockWrong : Sp := fun vs H Q _ => ∃ (sg : List Sg) (bl : List Bk) (f : Str → Str) (b : Bk) (x : V) (i : Int) (t a : Addr) (tk : List Str), vs = [x, .int i, .ref t, .ref a] ∧ RK H b x ∧ H t = some (.lst (tk.map V.str)) ∧ LS H a sg ∧ Valid sg bl ∧ BkOk sg f b ∧ b.name ∉ tk ∧ ∀ H', Same H H' → Q .non H'
def spBlocksWrong : Sp := fun vs H Q _ => ∃ (sg : List Sg) (bl : List Bk) (a b : Addr), vs = [.ref a, .ref b] ∧ LS H a sg ∧ LK H b bl ∧ Valid sg bl ∧ ∀ H', Same H H' → Q .non H'
local macro_rules | `(tactic| walk_at "rd") => `(tactic| simp only [tYes, wipe, HO.lst.injEq, HO.tup.injEq, HO.dK.injEq, Nat.reduceAdd, Nat.reduceLeDiff, Nat.reduceSub, Int.reduceLE, Int.reduceLT, Int.reduceNeg, Nat.zero_add, Int.reduceEq, cut_head, cut_tail, cut_mid, cut_three, c_cast0, c_cast1, c_cast2, c_cast3, c_cast4, z_lit, List.getD_eq_getElem?_getD, Option.getD_some, tLc_eq, tFor_eq, cxOf, Cx.nox, Cx.wish, tSeq, tIfS, tOr, tAnd, tNot, tB, tCB, tCons, tVar, tC, tNil, tTest, tChain, rI0, rI, tOp, rIxS, rIxL, rIxT, tRet, tNext, tAsg, gName, tAndV, tOrV, tNotV, tIf, tIsN, tNotN, tCall, tDrop, tBM, tBM0, rEq, rNe, tRetN, tSl, tNoPart, tPart, tTupD, tLstD, tInD, rIsK, rLenS, rLenL, rLenT, rAllT, rAnyF, rInK, rInL, rSlLD, rSlTD, rSlS, rCatD, rCatTD, rAppD, rExtD, rPopD, rPopAtD, rListD, rTupleD, iLst, iTpl, iStr, rIxLH, rIxTH, gTupH, gLstH, gStar0, gStar1, gStar2, rSumH, rAddS2, tJoinS, tFmtS, tFmtI, tJoined, tJoined_nil, tJoined_cons, rIsG, app_empty, tFldD, sFldD, tMkD, tMoD, rIsC, rLenO, rEqO, HO.ins.injEq, exists_eq, tNilL, tML, tML0, tMS, iEnumH, tCallK, rStrI, tGetS, tGet1S, tGet2S, rListKD, tDc_eq, tLc2_eq, tKGet, gCons, gNil, tChain3, tPartD, tSplitD, tPar, New, Chg, rListTD, atI_0, atI_1, atI_2, atI_3, sign_inj, and_false, false_and, or_false, false_or, or_true, true_or, List.take_succ_cons, List.take_zero, List.drop_succ_cons, List.drop_zero, forall_const, exists_false, not_false_eq_true, not_true_eq_false, if_true, if_false, iRng1, KindV,
  L2.start, List.map_cons, List.map_nil, List.length_cons, List.length_nil, List.replicate, List.cons_append, List.nil_append, List.append_nil, List.set_cons_zero, List.set_cons_succ, List.getElem?_cons_zero, List.getElem?_cons_succ, Option.some.injEq, exists_eq_left', exists_eq_left, V.int.injEq, V.str.injEq, V.bl.injEq, V.ref.injEq, V.ty.injEq, true_and, and_true, List.cons.injEq, exists_and_left, exists_eq', and_assoc, scal, ofString_inj, String.reduceEq, reduceIte, decide_eq_true_eq, decide_eq_false_iff_not, Bool.not_true, Bool.not_false, Bool.not_eq_true', inV_cons, inV_nil, eqV_ss, eqV_ii, flatV, List.all_cons, List.all_nil, Bool.and_true, Bool.or_false, Bool.true_and, Bool.false_or, decide_true, decide_false, Bool.true_or, Bool.false_eq_true, reduceCtorEq, spIsName, spIsRow, spHasWidth, spNameWrong, spWidthsOf, spStW, spBodyW, spBlockWrong])
local macro_rules | `(tactic| walk_at "ra") => `(tactic| simp only [tYes, wipe, HO.lst.injEq, HO.tup.injEq, HO.dK.injEq, Nat.reduceAdd, Nat.reduceLeDiff, Nat.reduceSub, Int.reduceLE, Int.reduceLT, Int.reduceNeg, Nat.zero_add, Int.reduceEq, cut_head, cut_tail, cut_mid, cut_three, c_cast0, c_cast1, c_cast2, c_cast3, c_cast4, z_lit, List.getD_eq_getElem?_getD, Option.getD_some, tLc_eq, tFor_eq, cxOf, Cx.nox, Cx.wish, tSeq, tIfS, tOr, tAnd, tNot, tB, tCB, tCons, tVar, tC, tNil, tTest, tChain, rI0, rI, tOp, rIxS, rIxL, rIxT, tRet, tNext, tAsg, gName, tAndV, tOrV, tNotV, tIf, tIsN, tNotN, tCall, tDrop, tBM, tBM0, rEq, rNe, tRetN, tSl, tNoPart, tPart, tTupD, tLstD, tInD, rIsK, rLenS, rLenL, rLenT, rAllT, rAnyF, rInK, rInL, rSlLD, rSlTD, rSlS, rCatD, rCatTD, rAppD, rExtD, rPopD, rPopAtD, rListD, rTupleD, iLst, iTpl, iStr, rIxLH, rIxTH, gTupH, gLstH, gStar0, gStar1, gStar2, rSumH, rAddS2, tJoinS, tFmtS, tFmtI, tJoined, tJoined_nil, tJoined_cons, rIsG, app_empty, tFldD, sFldD, tMkD, tMoD, rIsC, rLenO, rEqO, HO.ins.injEq, exists_eq, tNilL, tML, tML0, tMS, iEnumH, tCallK, rStrI, tGetS, tGet1S, tGet2S, rListKD, tDc_eq, tLc2_eq, tKGet, gCons, gNil, tChain3, tPartD, tSplitD, tPar, New, Chg, rListTD, atI_0, atI_1, atI_2, atI_3, sign_inj, and_false, false_and, or_false, false_or, or_true, true_or, List.take_succ_cons, List.take_zero, List.drop_succ_cons, List.drop_zero, forall_const, exists_false, not_false_eq_true, not_true_eq_false, if_true, if_false, iRng1, KindV,
  L2.start, List.map_cons, List.map_nil, List.length_cons, List.length_nil, List.replicate, List.cons_append, List.nil_append, List.append_nil, List.set_cons_zero, List.set_cons_succ, List.getElem?_cons_zero, List.getElem?_cons_succ, Option.some.injEq, exists_eq_left', exists_eq_left, V.int.injEq, V.str.injEq, V.bl.injEq, V.ref.injEq, V.ty.injEq, true_and, and_true, List.cons.injEq, exists_and_left, exists_eq', and_assoc, scal, ofString_inj, String.reduceEq, reduceIte, decide_eq_true_eq, decide_eq_false_iff_not, Bool.not_true, Bool.not_false, Bool.not_eq_true', inV_cons, inV_nil, eqV_ss, eqV_ii, flatV, List.all_cons, List.all_nil, Bool.and_true, Bool.or_false, Bool.true_and, Bool.false_or, decide_true, decide_false, Bool.true_or, Bool.false_eq_true, reduceCtorEq, spIsName, spIsRow, spHasWidth, spNameWrong, spWidthsOf, spStW, spBodyW, spBlockWrong, *])

theorem inV_non_ints : ∀ l : List Int, inV .non (l.map V.int) = false
  | [] => rfl
  | y :: r => by
    rw [List.map_cons, inV_cons, inV_non_ints r]
    rfl
section
variable {P : Program} {w : World} {K : PySem.W.Frag} {mg : Str → Option Value} {base : Heap} {k : Nat}
theorem ok_body_weight {n : Nat} (T : TX K mg) (D : DF K mg "body_weight" s_body_weight ["body", "widths", "kept", "deep"] []) (G_statement_weight : FO P w K mg base "statement_weight" k ["statement", "widths", "kept", "deep"] [] (spStW n)) :
    FO P w K mg base "body_weight" (k + 1) ["body", "widths", "kept", "deep"] [] (spBodyW n) := by
  refine D.ok sc_body_weight (fun vs H Q E h => ?_) (fun fa cdv A outer s H vs Q E hr h => ?_)
  · obtain ⟨_, _, _, _, _, _, _, _, _, _, rfl, _⟩ := h
    rfl
  obtain ⟨G, Kp, f, b, p, xs, a, kp, tk, d, rfl, hp, hb, hok, he, hn, hd, hw, q⟩ := h
  refine ⟨_, (pss_cons (ps_if (pt_not (pt_val (pe_callB (call_is (n := "tuple") (m := "tuple") (b := true) rfl) rfl T.isinstance (by decide +kernel) (pa_cons (pv 0) (pa_cons (pe_bltn (v := .ty "tuple") rfl T.tuple (by decide +kernel) rfl) pa_nil)))))
      (pss_one (ps_ret pe_non))
      pss_nil)
    (pss_cons (ps_setLc (i := 4) (own := [("statement", 5)]) (tt := tYes) rfl sc_body_weight.nd rfl rfl (sw_true rfl rfl rfl (by decide +kernel)) (pi_tpl (pv 0)) (blkOk_by (N := ["body", "widths", "kept", "deep", "weights", "statement"]) (sc := defScope s_body_weight) (by decide +kernel)) (fun _ _ _ _ _ => (pg_name (i := 5) sc_body_weight.nd rfl (Or.inl rfl))) (fun _ _ _ _ _ => pts_nil) (fun _ _ _ _ _ => (pe_fo G_statement_weight hr (pa_cons (pv 5) (pa_cons (pv 1) (pa_cons (pv 2) (pa_cons (pv 3) pa_nil)))))))
    (pss_one (ps_ret (pe_ifExp (pt_cmpR op_inL pe_non (pv 4) (by rfl)) pe_non (pe_callB (call_sumH rfl) rfl T.sum (by decide +kernel) (pa_cons (pv 4) pa_nil))))))), ?_⟩
  have hal := heads_all hb
  have hlen := all2_len hal
  have hhl := heads_len b
  refine seq_i fun M hM => ?_
  walk_at "ra"
  subst hM
  refine seq_i fun M hM => ?_
  walk_at "ra"
  refine lc_map wk_tpl (fun H1 s => s _ _ hp) (fun i y H => ∃ h, (heads b)[i]? = some h ∧ y = .int (bwt h : Int)) (by omega) (fun _ _ _ _ r _ => r) (fun i H1 Ky hi s1 ky => ?_) (fun Dl ys H1 s1 hD hl1 hly hy => ?_) mg_name
  · have hget : xs[i]? = some (xs.getD i .non) := by simp [hi]
    obtain ⟨h, hh, hr'⟩ := all2_at hal hget
    have hmem := List.mem_of_getElem? hh
    have := heads_deep hmem
    have := heads_wt_le hmem
    walk_at "rd"
    exact ⟨G, Kp, f, h, RBl.tk (same_tk s1) _ _ hr', heads_is hmem, heads_ok hok hmem, tk, he.same s1, by omega, by omega, by omega, fun H2 s2 => ky _ _ s2 ⟨h, hh, rfl⟩⟩
  · subst hM
    have ey := map_of (f := fun h => V.int (bwt h : Int)) (hly.trans hlen.symm) hy
    have em : ((heads b).map fun h => V.int (bwt h : Int)) = ((heads b).map fun h => (bwt h : Int)).map V.int := by
      rw [List.map_map]
      rfl
    rw [em] at ey
    subst ey
    walk_at "ra"
    refine ⟨flat_ints _, ?_⟩
    rw [inV_non_ints, if_neg Bool.false_ne_true]
    refine ⟨_, rfl, ?_⟩
    rw [heads_wt]
    exact q _ s1
theorem ok_statement_weight {n : Nat} (T : TX K mg) (D : DF K mg "statement_weight" s_statement_weight ["statement", "widths", "kept", "deep"] []) (G_body_weight : FO P w K mg base "body_weight" k ["body", "widths", "kept", "deep"] [] (spBodyW n))
    (G_has_width : FO P w K mg base "has_width" k ["term", "width", "widths"] [] spHasWidth) :
    FO P w K mg base "statement_weight" (k + 1) ["statement", "widths", "kept", "deep"] [] (spStW (n + 1)) := by
  refine D.ok sc_statement_weight (fun vs H Q E h => ?_) (fun fa cdv A outer s H vs Q E hr h => ?_)
  · obtain ⟨_, _, _, _, _, _, _, _, _, rfl, _⟩ := h
    rfl
  obtain ⟨G, Kp, f, b, x, a, kp, tk, d, rfl, hb, hh, hok, he, hn, hd, hw, q⟩ := h
  have hpos := heads_pos hh
  have hd0 : ¬ d = 0 := by omega
  refine ⟨_, (pss_cons (ps_if (PW.pt (pw_or (pt_cmpR op_eq (pv 3) pe_int (nomark _)) (pw_or (pt_not (pt_val (pe_callB (call_is (n := "tuple") (m := "tuple") (b := true) rfl) rfl T.isinstance (by decide +kernel) (pa_cons (pv 0) (pa_cons (pe_bltn (v := .ty "tuple") rfl T.tuple (by decide +kernel) rfl) pa_nil))))) (pw_or1 (pt_ninD (pe_callB call_lenT rfl T.len PySem.boot_len (pa_cons (pv 0) pa_nil)) (pa_cons pe_int (pa_cons pe_int pa_nil)))))))
      (pss_one (ps_ret pe_non))
      pss_nil)
    (pss_cons (ps_asg (pv 0) (pg_str2 rfl (pgs_cons (pg_name (i := 5) sc_statement_weight.nd rfl (Or.inl rfl)) (pgs_cons (pg_name (i := 6) sc_statement_weight.nd rfl (Or.inl rfl)) (pgs_cons (pg_name (i := 8) sc_statement_weight.nd rfl (Or.inl rfl)) pgs_nil)))))
    (pss_cons (ps_if (PW.pt (pw_and (pt_cmpR op_eq (pv 5) pe_str (nomark _)) (pw_and (pt_cmpR op_eq (pe_callB call_lenL rfl T.len PySem.boot_len (pa_cons (pv 8) pa_nil)) pe_int (nomark _)) (pw_and1 (pt_val (pe_fo G_has_width hr (pa_cons (pv 6) (pa_cons pe_int (pa_cons (pv 1) pa_nil)))))))))
      (pss_cons (ps_setLc (i := 7) (own := [("body", 9)]) (tt := tYes) rfl sc_statement_weight.nd rfl rfl (sw_true rfl rfl rfl (by decide +kernel)) (pi_lst (pv 8)) (blkOk_by (N := ["statement", "widths", "kept", "deep", "is_kept", "word", "what", "weights", "rest", "body"]) (sc := defScope s_statement_weight) (by decide +kernel)) (fun _ _ _ _ _ => (pg_name (i := 9) sc_statement_weight.nd rfl (Or.inl rfl))) (fun _ _ _ _ _ => pts_nil) (fun _ _ _ _ _ => (pe_fo G_body_weight hr (pa_cons (pv 9) (pa_cons (pv 1) (pa_cons (pv 2) (pa_cons (pe_op op_sub (pv 3) pe_int) pa_nil)))))))
    (pss_one (ps_ret (pe_ifExp (pt_cmpR op_inL pe_non (pv 7) (by rfl)) pe_non (pe_op op_add pe_int (pe_callB (call_sumH rfl) rfl T.sum (by decide +kernel) (pa_cons (pv 7) pa_nil)))))))
      pss_nil)
    (pss_cons (ps_set (i := 4) sc_statement_weight.nd rfl (Or.inl rfl) (pe_and (pe_inD (pv 5) (pa_cons pe_str (pa_cons pe_str pa_nil))) (pe_and (pe_cmpR op_eq (pe_callB call_lenL rfl T.len PySem.boot_len (pa_cons (pv 8) pa_nil)) pe_int (nomark _)) (pe_and (pe_callB (call_is (n := "str") (m := "str") (b := true) rfl) rfl T.isinstance (by decide +kernel) (pa_cons (pv 6) (pa_cons (pe_bltn (v := .ty "str") rfl T.str (by decide +kernel) rfl) pa_nil))) (pe_one (pe_cmpR op_inL (pv 6) (pv 2) (by rfl)))))))
    (pss_one (ps_ret (pe_ifExp (PW.pt (pw_and (pt_val (pv 4)) (pw_and1 (pt_val (pe_fo G_has_width hr (pa_cons (pe_ix ix_lst (pv 8) pe_int (fun _ _ => rfl)) (pa_cons (pe_getS (hu_of hr) (pv 1) (pv 6) (fun _ _ => rfl)) (pa_cons (pv 1) pa_nil)))))))) pe_int pe_non))))))), ?_⟩
  cases b with
  | nil => exact hh.elim
  | set wd nm t r =>
    have e : r = .nil := hh
    subst e
    obtain ⟨b, v, ys, e, hb, ht, _⟩ := hb
    obtain ⟨rfl, rfl⟩ := List.cons.inj e
    obtain ⟨hwd, _, ⟨kk, hkp, hok⟩, _⟩ := hok
    have hkl := he.kl
    obtain ⟨hin, hg⟩ := he.kin _ _ hkp
    obtain ⟨kvs, hdk, hkv⟩ := he.wd
    have hval := hkv _ _ hg
    have hrange := he.rng _ _ hg
    refine seq_i fun M hM => ?_
    walk_at "ra"
    intro H1 s1
    have hb1 := s1 _ _ hb
    subst hM
    refine seq_i fun M hM => ?_
    walk_at "ra"
    intro p2 H2 hp2 s2 hl2
    have s02 := s1.trans s2
    have hkl2 := s02 _ _ hkl
    have hdk2 := s02 _ _ hdk
    have nif : ¬ wd = Str.ofString "if" := by rcases hwd with rfl | rfl <;> decide +kernel
    subst hM
    refine seq_i fun M hM => ?_
    walk_at "ra"
    subst hM
    refine seq_i fun M hM => ?_
    rcases hwd with rfl | rfl
    · walk_at "ra"
      intro H3 s3
      have hl23 := s3 _ _ hl2
      have hkl3 := s3 _ _ hkl2
      have hdk3 := s3 _ _ hdk2
      have s03 := s02.trans s3
      walk_at "ra"
      refine ⟨flat_strs _, ?_⟩
      rw [inV_strs, decide_eq_true hin]
      subst hM
      walk_at "ra"
      exact ⟨G, t, a, kk, rfl, rfl, RT.tk (same_tk s03) _ _ ht, he.rng, (he.same s03).wd, hok, fun H4 s4 => q _ (s03.trans s4)⟩
    · walk_at "ra"
      intro H3 s3
      have hl23 := s3 _ _ hl2
      have hkl3 := s3 _ _ hkl2
      have hdk3 := s3 _ _ hdk2
      have s03 := s02.trans s3
      walk_at "ra"
      refine ⟨flat_strs _, ?_⟩
      rw [inV_strs, decide_eq_true hin]
      subst hM
      walk_at "ra"
      exact ⟨G, t, a, kk, rfl, rfl, RT.tk (same_tk s03) _ _ ht, he.rng, (he.same s03).wd, hok, fun H4 s4 => q _ (s03.trans s4)⟩
  | ite c s t r =>
    have e : r = .nil := hh
    subst e
    obtain ⟨b, v, p, q', ps, qs, ys, e, hb, hc, hp, hps, hq, hqs, _⟩ := hb
    obtain ⟨rfl, rfl⟩ := List.cons.inj e
    refine seq_i fun M hM => ?_
    walk_at "ra"
    intro H1 s1
    have hb1 := s1 _ _ hb
    subst hM
    refine seq_i fun M hM => ?_
    walk_at "ra"
    intro p2 H2 hp2 s2 hl2
    subst hM
    refine seq_i fun M hM => ?_
    have s02 := s1.trans s2
    have hd3 : d - 1 ≥ (bdeep s : Int) ∧ d - 1 ≥ (bdeep t : Int) ∧ bdeep s ≤ n ∧ bdeep t ≤ n := by
      simp only [bdeep] at hn hd
      omega
    have hw3 : bwt s ≤ 1000 ∧ bwt t ≤ 1000 := by
      simp only [bwt] at hw
      omega
    walk_at "ra"
    refine ⟨G, c, a, 1, rfl, rfl, RT.tk (same_tk s02) _ _ hc, he.rng, (he.same s02).wd, hok.1, fun H3 s3 => ⟨_, s3 _ _ hl2, ?_⟩⟩
    have s03 := s02.trans s3
    refine lc_map (wk_lst (xs := [V.ref p, V.ref q'])) (fun H1 s => s _ _ (s3 _ _ hl2)) (fun i y H => y = .int (([bwt s, bwt t].getD i 0 : Nat) : Int)) (by show 2 ≤ _; decide) (fun _ _ _ _ r _ => r) (fun i H4 Ky hi s4 ky => ?_) (fun Dl ys H4 s4 hD hl4 hly hy => ?_) mg_name
    · have s04 := s03.trans s4
      have : i = 0 ∨ i = 1 := by
        have : i < 2 := hi
        omega
      rcases this with rfl | rfl
      · walk_at "rd"
        exact ⟨G, Kp, f, s, ps, s04 _ _ hp, RBl.tk (same_tk s04) _ _ hps, hok.2.1, tk, he.same s04, by omega, by omega, by omega, fun H5 s5 => ky _ _ s5 rfl⟩
      · walk_at "rd"
        exact ⟨G, Kp, f, t, qs, s04 _ _ hq, RBl.tk (same_tk s04) _ _ hqs, hok.2.2.1, tk, he.same s04, by omega, by omega, by omega, fun H5 s5 => ky _ _ s5 rfl⟩
    · have ey : ys = [(bwt s : Int), (bwt t : Int)].map V.int := by
        match ys, hly with
        | [y1, y2], _ => rw [hy 0 y1 rfl, hy 1 y2 rfl]; rfl
      subst ey
      refine ⟨Dl, rfl, _, hl4, flat_ints _, ?_⟩
      rw [inV_non_ints, if_neg Bool.false_ne_true]
      refine ⟨Dl, rfl, _, hl4, ?_⟩
      have e : 1 + ([(bwt s : Int), (bwt t : Int)]).sum = ((bwt (.ite c s t .nil) : Nat) : Int) := by
        simp only [bwt, List.sum_cons, List.sum_nil]
        omega
      rw [e]
      exact q _ (s03.trans s4)
theorem ok_block_wrong (T : TX K mg) (D : DF K mg "block_wrong" s_block_wrong ["row", "at", "taken", "signals"] []) (G_body_weight : FO P w K mg base "body_weight" k ["body", "widths", "kept", "deep"] [] (spBodyW 4)) (G_is_row : FO P w K mg base "is_row" k ["thing"] [] spIsRow)
    (G_name_wrong : FO P w K mg base "name_wrong" k ["name", "at", "taken"] [] spNameWrong) (G_widths_of : FO P w K mg base "widths_of" k ["signals"] [] spWidthsOf) :
    FO P w K mg base "block_wrong" (k + 1) ["row", "at", "taken", "signals"] [] spBlockWrong := by
  obtain ⟨_, c_EDGES⟩ := T.k_EDGES
  refine D.ok sc_block_wrong (fun vs H Q E h => ?_) (fun fa cdv A outer s H vs Q E hr h => ?_)
  · obtain ⟨_, _, _, _, _, _, _, _, _, rfl, _⟩ := h
    rfl
  obtain ⟨sg, bl, f, b, x, i, t, a, tk, rfl, ⟨r, v, rfl, hr1, hb⟩, ht, ⟨xs, ha, hal⟩, hV, hok, hnt, q⟩ := h
  have hnd := (List.nodup_append.mp hV.nd).1
  refine ⟨_, (pss_cons (ps_if (pt_not (pt_val (pe_fo G_is_row hr (pa_cons (pv 0) pa_nil))))
      (pss_one (ps_ret (pe_tupD (pa_cons pe_str (pa_cons (pe_callTy call_strI rfl T.str (by decide +kernel) (pa_cons (pv 1) pa_nil)) pa_nil)))))
      pss_nil)
    (pss_cons (ps_asg (pv 0) (pg_tpl 4 rfl (pgs_cons (pg_name (i := 7) sc_block_wrong.nd rfl (Or.inl rfl)) (pgs_cons (pg_name (i := 8) sc_block_wrong.nd rfl (Or.inl rfl)) (pgs_cons (pg_name (i := 9) sc_block_wrong.nd rfl (Or.inl rfl)) (pgs_cons (pg_name (i := 10) sc_block_wrong.nd rfl (Or.inl rfl)) pgs_nil))))))
    (pss_cons (ps_set (i := 4) sc_block_wrong.nd rfl (Or.inl rfl) (pe_fo G_name_wrong hr (pa_cons (pv 7) (pa_cons (pv 1) (pa_cons (pv 2) pa_nil)))))
    (pss_cons (ps_if (pt_cmpR op_notN (pv 4) pe_non (nomark _))
      (pss_one (ps_ret (pv 4)))
      pss_nil)
    (pss_cons (ps_if (pt_cmpR (op_ninK c_EDGES.2) (pv 8) (pe_gv c_EDGES.1) (by rfl))
      (pss_one (ps_ret (pe_tupD (pa_cons pe_str (pa_cons (pv 7) pa_nil)))))
      pss_nil)
    (pss_cons (ps_set (i := 5) sc_block_wrong.nd rfl (Or.inl rfl) (pe_fo G_widths_of hr (pa_cons (pv 3) pa_nil)))
    (pss_cons (ps_if (PW.pt (pw_or (pt_not (pt_val (pe_callB (call_is (n := "str") (m := "str") (b := true) rfl) rfl T.isinstance (by decide +kernel) (pa_cons (pv 9) (pa_cons (pe_bltn (v := .ty "str") rfl T.str (by decide +kernel) rfl) pa_nil))))) (pw_or1 (pt_cmpR op_ne (pe_get1S (hu_of hr) (pv 5) (pv 9) ⟨rfl, rfl, rfl, rfl⟩) pe_int (nomark _)))))
      (pss_one (ps_ret (pe_tupD (pa_cons pe_str (pa_cons (pv 7) pa_nil)))))
      pss_nil)
    (pss_cons (ps_set (i := 6) sc_block_wrong.nd rfl (Or.inl rfl) (pe_fo G_body_weight hr (pa_cons (pv 10) (pa_cons (pv 5) (pa_cons (pe_lc (own := [("one", 11)]) (tt := _) rfl sc_block_wrong.nd (pi_lst (pv 3)) (blkOk_by (N := ["row", "at", "taken", "signals", "wrong", "widths", "weight", "name", "edge", "trigger", "body", "one"]) (sc := defScope s_block_wrong) (by decide +kernel)) (fun _ _ _ _ _ => (pg_name (i := 11) sc_block_wrong.nd rfl (Or.inl rfl))) (fun _ _ _ _ _ => (pts_one (pt_cmpR op_eq (pe_ix ix_tpl (pv 11) pe_int (fun _ _ => rfl)) pe_str (nomark _)))) (fun _ _ _ _ _ => (pe_ix ix_tpl (pv 11) pe_int (fun _ _ => rfl)))) (pa_cons (pe_gv T.c_DEEPEST_clashes) pa_nil))))))
    (pss_cons (ps_if (PW.pt (pw_or (pt_cmpR op_isN (pv 6) pe_non (nomark _)) (pw_or1 (pt_cmpR op_gt (pv 6) (pe_gv T.c_MOST_STATEMENTS) (nomark _)))))
      (pss_one (ps_ret (pe_tupD (pa_cons pe_str (pa_cons (pv 7) pa_nil)))))
      pss_nil)
    (pss_one (ps_ret pe_non))))))))))), ?_⟩
  refine seq_i fun M hM => ?_
  walk_at "ra"
  subst hM
  refine seq_i fun M hM => ?_
  walk_at "ra"
  subst hM
  refine seq_i fun M hM => ?_
  walk_at "ra"
  refine ⟨tk, rfl, hok.nm, hnt, fun H1 s1 => ?_⟩
  subst hM
  refine seq_i fun M hM => ?_
  have hed : b.edge ∈ edgesL := by rcases hok.ed with e | e <;> rw [e] <;> simp [edgesL]
  walk_at "ra"
  subst hM
  refine seq_i fun M hM => ?_
  walk_at "ra"
  subst hM
  refine seq_i fun M hM => ?_
  walk_at "ra"
  refine ⟨sg, LS.same s1 ⟨xs, ha, hal⟩, hnd, hV.ls, fun p H2 hp s2 hwd => ?_⟩
  subst hM
  obtain ⟨kvs, hk, hkv⟩ := hwd
  have hval := hkv _ _ hok.tr
  refine seq_i fun M hM => ?_
  walk_at "ra"
  subst hM
  have s02 := s1.trans s2
  refine seq_i fun M hM => ?_
  have ha2 := s02 _ _ ha
  have hlen := all2_len hal
  have hls := hV.ls
  walk_at "ra"
  refine lc_gen (wk_lst (xs := xs)) (fun H3 s => s _ _ ha2) (fun i acc H => acc.length ≤ i ∧ ∃ ns : List Str, acc = ns.map V.str ∧ ∀ n k v, Sg.kept n k v ∈ sg.take i → n ∈ ns) (by omega) (fun i acc H hi u => u.1) (fun _ _ _ _ u _ => u) (fun _ _ => ⟨Nat.le_refl _, [], rfl, fun _ _ _ z => by cases z⟩) (fun i acc H3 Ky Kn hi s3 u ky kn => ?_) (fun Dl acc H3 s3 hD hl3 u => ?_)
  · have hget : xs[i]? = some (xs.getD i .non) := by simp [hi]
    obtain ⟨s', hs', b', v', e, hb', hw'⟩ := all2_at hal hget
    obtain ⟨hacc, ns, rfl, hns⟩ := u
    rw [e]
    have hb3 := (s02.trans s3) _ _ hb'
    walk_at "ra"
    rw [take_snoc hs'] at ky kn
    have hle : (ns.map V.str).length ≤ i + 1 := by omega
    by_cases hk' : s'.sort = Str.ofString "kept"
    · rw [if_pos hk']
      refine ky _ _ (Same.refl _) ⟨by simpa using hacc, ns ++ [s'.name], by simp, fun n k v hm => ?_⟩
      rcases List.mem_append.mp hm with hm | hm
      · exact List.mem_append_left _ (hns n k v hm)
      · simp at hm
        subst hm
        exact List.mem_append_right _ (by simp [Sg.name])
    · rw [if_neg hk']
      refine kn _ (Same.refl _) ⟨hle, ns, rfl, fun n k v hm => ?_⟩
      rcases List.mem_append.mp hm with hm | hm
      · exact hns n k v hm
      · simp at hm
        subst hm
        exact absurd rfl hk'
  · obtain ⟨hacc, ns, rfl, hns⟩ := u
    rw [← hlen, List.take_length] at hns
    obtain ⟨p', ys, rfl, hp', hys⟩ := RB.tk (same_tk (s02.trans s3)) hb
    have henv : BEnv H3 (GW sg) (GK sg) p Dl ns := ⟨hV.rng, ⟨kvs, s3 _ _ hk, hkv⟩, hl3, fun n k hg => by
      obtain ⟨v, hv⟩ := hg
      exact ⟨hns n k v hv, _, hv, rfl, rfl⟩⟩
    have hd := hok.dp
    have hw := hok.wt
    refine ⟨_, _, f, b.body, p', rfl, ys, Dl, rfl, hp', hys, hok.bd, ns, henv, hd, by omega, by omega, fun H4 s4 => ?_⟩
    subst hM
    walk_at "rd"
    rw [if_neg (by omega)]
    exact q _ ((s02.trans s3).trans s4)
theorem ok_blocks_wrong (T : TX K mg) (D : DF K mg "blocks_wrong" s_blocks_wrong ["signals", "blocks"] []) (G_block_wrong : FO P w K mg base "block_wrong" k ["row", "at", "taken", "signals"] [] spBlockWrong) :
    FO P w K mg base "blocks_wrong" (k + 1) ["signals", "blocks"] [] spBlocksWrong := by
  refine D.ok sc_blocks_wrong (fun vs H Q E h => ?_) (fun fa cdv A outer s H vs Q E hr h => ?_)
  · obtain ⟨_, _, _, _, rfl, _⟩ := h
    rfl
  obtain ⟨sg, bl, a, b, rfl, ⟨xs, ha, hal⟩, ⟨ys, hb, hbl⟩, hv, q⟩ := h
  refine ⟨_, (pss_cons (ps_if (PW.pt (pw_and (pt_not (pt_val (pe_callB (call_is (n := "list") (m := "list") (b := true) rfl) rfl T.isinstance (by decide +kernel) (pa_cons (pv 1) (pa_cons (pe_bltn (v := .ty "list") rfl T.list (by decide +kernel) rfl) pa_nil))))) (pw_and1 (PW.pt (pw_or (pt_not (pt_val (pe_callB (call_is (n := "list") (m := "tuple") (b := false) rfl) rfl T.isinstance (by decide +kernel) (pa_cons (pv 1) (pa_cons (pe_bltn (v := .ty "tuple") rfl T.tuple (by decide +kernel) rfl) pa_nil))))) (pw_or1 (pt_cmpR op_gt (pe_callB call_lenL rfl T.len PySem.boot_len (pa_cons (pv 1) pa_nil)) pe_int (nomark _))))))))
      (pss_one (ps_ret (pe_tupD (pa_cons pe_str (pa_cons pe_str pa_nil)))))
      pss_nil)
    (pss_cons (ps_setLc (i := 2) (own := [("row", 4)]) (tt := tYes) rfl sc_blocks_wrong.nd rfl rfl (sw_true rfl rfl rfl (by decide +kernel)) (pi_lst (pv 0)) (blkOk_by (N := ["signals", "blocks", "taken", "at", "row", "wrong"]) (sc := defScope s_blocks_wrong) (by decide +kernel)) (fun _ _ _ _ _ => (pg_name (i := 4) sc_blocks_wrong.nd rfl (Or.inl rfl))) (fun _ _ _ _ _ => pts_nil) (fun _ _ _ _ _ => (pe_ix ix_tpl (pv 4) pe_int (fun _ _ => rfl))))
    (pss_cons (ps_for PassesOwn.never rfl (pi_enumD (by rfl) T.enumerate (pa_cons (pv 1) pa_nil)) (pg_tpl 2 rfl (pgs_cons (pg_name (i := 3) sc_blocks_wrong.nd rfl (Or.inl rfl)) (pgs_cons (pg_name (i := 4) sc_blocks_wrong.nd rfl (Or.inl rfl)) pgs_nil)))
      (pss_cons (ps_set (i := 5) sc_blocks_wrong.nd rfl (Or.inl rfl) (pe_fo G_block_wrong hr (pa_cons (pv 4) (pa_cons (pv 3) (pa_cons (pv 2) (pa_cons (pv 0) pa_nil))))))
    (pss_cons (ps_if (pt_cmpR op_notN (pv 5) pe_non (nomark _))
      (pss_one (ps_ret (pv 5)))
      pss_nil)
    (pss_one (ps_expr (pe_bmL PySem.F.slot_list_append PySem.F.type_list_append mt_appD (pv 2) (pa_cons (pe_ix ix_tpl (pv 4) pe_int (fun _ _ => rfl)) pa_nil)))))))
    (pss_one (ps_ret pe_non))))), ?_⟩
  have hlen := all2_len hal
  have hls := hv.ls
  have hlb := hv.lb
  have hlenb := all2_len hbl
  obtain ⟨f, hbk⟩ := hv.bk
  refine seq_i fun M hM => ?_
  walk_at "ra"
  subst hM
  refine seq_i fun M hM => ?_
  walk_at "ra"
  refine lc_map (wk_lst (xs := xs)) (fun H s => s _ _ ha) (fun i y H => ∃ s, sg[i]? = some s ∧ y = .str s.name) (by omega) (fun _ _ _ _ r _ => r) (fun i H1 Ky hi s1 ky => ?_) (fun Dl zs H1 s1 hD hl1 hly hy => ?_) mg_name
  · have hget : xs[i]? = some (xs.getD i .non) := by simp [hi]
    obtain ⟨s', hs', b', v', e, hb', hw'⟩ := all2_at hal hget
    rw [e]
    have hb1 := s1 _ _ hb'
    walk_at "ra"
    exact ky _ _ (Same.refl _) ⟨s', hs', rfl⟩
  · have ey := map_of (f := fun (s : Sg) => V.str s.name) (hly.trans hlen.symm) hy
    subst ey
    subst hM
    have hb1 := s1 _ _ hb
    walk_at "ra"
    have hnames : (sg.map fun (s : Sg) => V.str s.name) = (sg.map Sg.name ++ (bl.map Bk.name).take 0).map V.str := by
      rw [List.take_zero, List.append_nil, List.map_map]
      rfl
    rw [hnames] at hl1
    refine for_enum (xs := ys) (fun i σ H2 => ∃ o1 o2 o3, σ = [some (V.ref a), some (V.ref b), some (V.ref Dl), o1, o2, o3] ∧ Same H H2 ∧ H2 Dl = some (.lst ((sg.map Sg.name ++ (bl.map Bk.name).take i).map V.str))) ⟨none, none, none, rfl, s1, hl1⟩ (fun i σ H2 z => ?_) (fun i σ H2 x T H3 hx z hT s3 hT3 => ?_) (fun σ H2 z => ?_)
    · obtain ⟨_, _, _, _, s2, _⟩ := z
      exact s2 _ _ hb
    · obtain ⟨o1, o2, o3, rfl, s2, hp2⟩ := z
      obtain ⟨k', hk', hr'⟩ := all2_at hbl hx
      have hmem := List.mem_of_getElem? hk'
      have hp3 := s3 _ _ hp2
      have s03 := s2.trans s3
      obtain ⟨nd1, nd2, nd3⟩ := List.nodup_append.mp hv.nd
      have hget : (bl.map Bk.name)[i]? = some k'.name := by rw [List.getElem?_map, hk']; rfl
      have hnot : k'.name ∉ sg.map Sg.name ++ (bl.map Bk.name).take i := by
        rw [List.mem_append, not_or]
        exact ⟨fun z => nd3 _ z _ (List.mem_of_getElem? hget) rfl, nodup_take nd2 hget⟩
      walk_at "ra"
      refine ⟨sg, bl, f, k', RK.tk (same_tk s03) hr', _, rfl, LS.same s03 ⟨xs, ha, hal⟩, hv, hbk k' hmem, by simpa using hnot, fun H4 s4 => ?_⟩
      obtain ⟨b', v, rfl, hb', hw⟩ := hr'
      have hb4 := s4 _ _ (s03 _ _ hb')
      have hp4 := s4 _ _ hp3
      walk_at "ra"
      refine ⟨by rw [List.length_map, List.length_append, List.length_take, List.length_map, List.length_map]; omega, fun H5 b5 hp5 => ⟨same_but (s03.trans s4) hD b5, ?_⟩⟩
      rw [hp5, take_snoc hget]
      simp only [List.map_append, List.append_assoc, List.map_cons, List.map_nil]
    · obtain ⟨o1, o2, o3, rfl, s2, hp2⟩ := z
      walk_at "rd"
      exact q _ s2
end
end K37
set_option maxHeartbeats 4000000
namespace K37
open PySem L2 TL
open PyProof.Rows hiding St
theorem sc_set_by : FnScope ["body", "word", "found", "first", "what", "rest", "inner", "name"] ["body", "word"] (defScope s_set_by) := ⟨rfl, rfl, rfl, by decide +kernel, rfl, by decide +kernel, by decide +kernel⟩

theorem sc_terms_of : FnScope ["row", "sort", "name", "width", "what", "driver", "term"] ["row"] (defScope s_terms_of) := ⟨rfl, rfl, rfl, by decide +kernel, rfl, by decide +kernel, by decide +kernel⟩

theorem sc_both_wrong : FnScope ["signals", "blocks", "row", "now", "later", "word", "name"] ["signals", "blocks"] (defScope s_both_wrong) := ⟨rfl, rfl, rfl, by decide +kernel, rfl, by decide +kernel, by decide +kernel⟩

theorem sc_names_beside : FnScope ["signals", "row", "term", "name"] ["signals"] (defScope s_names_beside) := ⟨rfl, rfl, rfl, by decide +kernel, rfl, by decide +kernel, by decide +kernel⟩

theorem sc_hangs_on : FnScope ["name", "beside", "found", "left", "one"] ["name", "beside"] (defScope s_hangs_on) := ⟨rfl, rfl, rfl, by decide +kernel, rfl, by decide +kernel, by decide +kernel⟩

theorem sc_ring_wrong : FnScope ["signals", "beside", "row", "filters", "name", "other"] ["signals"] (defScope s_ring_wrong) := ⟨rfl, rfl, rfl, by decide +kernel, rfl, by decide +kernel, by decide +kernel⟩

theorem sc_first_clash : FnScope ["signals", "blocks", "wrong"] ["signals", "blocks"] (defScope s_first_clash) := ⟨rfl, rfl, rfl, by decide +kernel, rfl, by decide +kernel, by decide +kernel⟩

def spSetBy (n : Nat) : Sp := fun vs H Q _ => ∃ (G Kp : Str → Nat → Prop) (f : Str → Str) (b : Bd) (p : Addr) (xs : List V) (w : Str), vs = [.ref p, .str w] ∧ H p = some (.tup xs) ∧ RBl H b xs ∧ BdOk G Kp f b ∧ w ≠ "if" ∧ bdeep b < n ∧ bwt b ≤ 1000 ∧ ∀ p H', H p = none → Same H H' → H' p = some (.lst ((setBy w b).map V.str)) → Q (.ref p) H'
def spTermsOf : Sp := fun vs H Q _ => ∃ (G : Str → Nat → Prop) (s : Sg) (x : V), vs = [x] ∧ RS H s x ∧ WhatOk G s ∧ ∀ p xs H', H p = none → Same H H' → H' p = some (.lst xs) → All2 (RT H') s.terms xs → Q (.ref p) H'
def spBothWrong : Sp := fun vs H Q _ => ∃ (sg : List Sg) (bl : List Bk) (a b : Addr), vs = [.ref a, .ref b] ∧ LS H a sg ∧ LK H b bl ∧ Valid sg bl ∧ ∀ H', Same H H' → Q .non H'
/-- the dict of what stands beside each name -/
def BSd (H : Hp) (d : Addr) (sg : List Sg) : Prop := ∃ kvs, H d = some (.dK kvs) ∧ ∀ s ∈ sg, ∃ (b : Addr) (ns : List Str), valV kvs (.inr s.name) = some (.ref b) ∧ H b = some (.lst (ns.map V.str)) ∧ (∀ x ∈ ns, x ∈ s.nms) ∧ ns.length ≤ 1000
theorem BSd.same {H H' : Hp} {d : Addr} {sg : List Sg} (h : BSd H d sg) (s : Same H H') : BSd H' d sg := by
  obtain ⟨kvs, h1, h2⟩ := h
  refine ⟨kvs, s _ _ h1, fun u hu => ?_⟩
  obtain ⟨b, ns, e1, e2, e3⟩ := h2 u hu
  exact ⟨b, ns, e1, s _ _ e2, e3⟩
def spNamesBeside : Sp := fun vs H Q _ => ∃ (sg : List Sg) (bl : List Bk) (a : Addr), vs = [.ref a] ∧ LS H a sg ∧ Valid sg bl ∧ ∀ d H', H d = none → Same H H' → BSd H' d sg → Q (.ref d) H'
def spHangsOn : Sp := fun vs H Q _ => ∃ (sg : List Sg) (bl : List Bk) (n : Str) (d : Addr) (S : Str → Prop), vs = [.str n, .ref d] ∧ BSd H d sg ∧ Valid sg bl ∧ (∃ s ∈ sg, s.name = n ∧ ∀ x ∈ s.nms, S x) ∧ (∀ s ∈ sg, S s.name → ∀ x ∈ s.nms, S x) ∧
  ∀ p H' (ns : List Str), H p = none → Same H H' → H' p = some (.lst (ns.map V.str)) → (∀ x ∈ ns, S x) → ns.length ≤ 100000 → Q (.ref p) H'
def spRingWrong : Sp := fun vs H Q _ => ∃ (sg : List Sg) (bl : List Bk) (a : Addr), vs = [.ref a] ∧ LS H a sg ∧ Valid sg bl ∧ ∀ H', Same H H' → Q .non H'
def spFirstClash : Sp := fun vs H Q _ => ∃ (sg : List Sg) (bl : List Bk) (a b : Addr), vs = [.ref a, .ref b] ∧ LS H a sg ∧ LK H b bl ∧ Valid sg bl ∧ ∀ H', Same H H' → Q .non H'
local macro_rules | `(tactic| walk_at "rd") => `(tactic| simp only [tYes, wipe, HO.lst.injEq, HO.tup.injEq, HO.dK.injEq, Nat.reduceAdd, Nat.reduceLeDiff, Nat.reduceSub, Int.reduceLE, Int.reduceLT, Int.reduceNeg, Nat.zero_add, Int.reduceEq, cut_head, cut_tail, cut_mid, cut_three, c_cast0, c_cast1, c_cast2, c_cast3, c_cast4, z_lit, List.getD_eq_getElem?_getD, Option.getD_some, tLc_eq, tFor_eq, cxOf, Cx.nox, Cx.wish, tSeq, tIfS, tOr, tAnd, tNot, tB, tCB, tCons, tVar, tC, tNil, tTest, tChain, rI0, rI, tOp, rIxS, rIxL, rIxT, tRet, tNext, tAsg, gName, tAndV, tOrV, tNotV, tIf, tIsN, tNotN, tCall, tDrop, tBM, tBM0, rEq, rNe, tRetN, tSl, tNoPart, tPart, tTupD, tLstD, tInD, rIsK, rLenS, rLenL, rLenT, rAllT, rAnyF, rInK, rInL, rSlLD, rSlTD, rSlS, rCatD, rCatTD, rAppD, rExtD, rPopD, rPopAtD, rListD, rTupleD, iLst, iTpl, iStr, rIxLH, rIxTH, gTupH, gLstH, gStar0, gStar1, gStar2, rSumH, rAddS2, tJoinS, tFmtS, tFmtI, tJoined, tJoined_nil, tJoined_cons, rIsG, app_empty, tFldD, sFldD, tMkD, tMoD, rIsC, rLenO, rEqO, HO.ins.injEq, exists_eq, tNilL, tML, tML0, tMS, iEnumH, tCallK, rStrI, tGetS, tGet1S, tGet2S, rListKD, tDc_eq, tLc2_eq, tKGet, gCons, gNil, tChain3, tPartD, tSplitD, tPar, New, Chg, rListTD, atI_0, atI_1, atI_2, atI_3, sign_inj, and_false, false_and, or_false, false_or, or_true, true_or, List.take_succ_cons, List.take_zero, List.drop_succ_cons, List.drop_zero, forall_const, exists_false, not_false_eq_true, not_true_eq_false, if_true, if_false, iRng1, KindV,
  L2.start, List.map_cons, List.map_nil, List.length_cons, List.length_nil, List.replicate, List.cons_append, List.nil_append, List.append_nil, List.set_cons_zero, List.set_cons_succ, List.getElem?_cons_zero, List.getElem?_cons_succ, Option.some.injEq, exists_eq_left', exists_eq_left, V.int.injEq, V.str.injEq, V.bl.injEq, V.ref.injEq, V.ty.injEq, true_and, and_true, List.cons.injEq, exists_and_left, exists_eq', and_assoc, scal, ofString_inj, String.reduceEq, reduceIte, decide_eq_true_eq, decide_eq_false_iff_not, Bool.not_true, Bool.not_false, Bool.not_eq_true', inV_cons, inV_nil, eqV_ss, eqV_ii, flatV, List.all_cons, List.all_nil, Bool.and_true, Bool.or_false, Bool.true_and, Bool.false_or, decide_true, decide_false, Bool.true_or, Bool.false_eq_true, reduceCtorEq, spSetBy, spTermsOf, spBothWrong, spNamesBeside, spNamesIn, spHangsOn, spRingWrong, spSignalsWrong, spManyWrong, spWhatWrong, spBlocksWrong])
local macro_rules | `(tactic| walk_at "ra") => `(tactic| simp only [tYes, wipe, HO.lst.injEq, HO.tup.injEq, HO.dK.injEq, Nat.reduceAdd, Nat.reduceLeDiff, Nat.reduceSub, Int.reduceLE, Int.reduceLT, Int.reduceNeg, Nat.zero_add, Int.reduceEq, cut_head, cut_tail, cut_mid, cut_three, c_cast0, c_cast1, c_cast2, c_cast3, c_cast4, z_lit, List.getD_eq_getElem?_getD, Option.getD_some, tLc_eq, tFor_eq, cxOf, Cx.nox, Cx.wish, tSeq, tIfS, tOr, tAnd, tNot, tB, tCB, tCons, tVar, tC, tNil, tTest, tChain, rI0, rI, tOp, rIxS, rIxL, rIxT, tRet, tNext, tAsg, gName, tAndV, tOrV, tNotV, tIf, tIsN, tNotN, tCall, tDrop, tBM, tBM0, rEq, rNe, tRetN, tSl, tNoPart, tPart, tTupD, tLstD, tInD, rIsK, rLenS, rLenL, rLenT, rAllT, rAnyF, rInK, rInL, rSlLD, rSlTD, rSlS, rCatD, rCatTD, rAppD, rExtD, rPopD, rPopAtD, rListD, rTupleD, iLst, iTpl, iStr, rIxLH, rIxTH, gTupH, gLstH, gStar0, gStar1, gStar2, rSumH, rAddS2, tJoinS, tFmtS, tFmtI, tJoined, tJoined_nil, tJoined_cons, rIsG, app_empty, tFldD, sFldD, tMkD, tMoD, rIsC, rLenO, rEqO, HO.ins.injEq, exists_eq, tNilL, tML, tML0, tMS, iEnumH, tCallK, rStrI, tGetS, tGet1S, tGet2S, rListKD, tDc_eq, tLc2_eq, tKGet, gCons, gNil, tChain3, tPartD, tSplitD, tPar, New, Chg, rListTD, atI_0, atI_1, atI_2, atI_3, sign_inj, and_false, false_and, or_false, false_or, or_true, true_or, List.take_succ_cons, List.take_zero, List.drop_succ_cons, List.drop_zero, forall_const, exists_false, not_false_eq_true, not_true_eq_false, if_true, if_false, iRng1, KindV,
  L2.start, List.map_cons, List.map_nil, List.length_cons, List.length_nil, List.replicate, List.cons_append, List.nil_append, List.append_nil, List.set_cons_zero, List.set_cons_succ, List.getElem?_cons_zero, List.getElem?_cons_succ, Option.some.injEq, exists_eq_left', exists_eq_left, V.int.injEq, V.str.injEq, V.bl.injEq, V.ref.injEq, V.ty.injEq, true_and, and_true, List.cons.injEq, exists_and_left, exists_eq', and_assoc, scal, ofString_inj, String.reduceEq, reduceIte, decide_eq_true_eq, decide_eq_false_iff_not, Bool.not_true, Bool.not_false, Bool.not_eq_true', inV_cons, inV_nil, eqV_ss, eqV_ii, flatV, List.all_cons, List.all_nil, Bool.and_true, Bool.or_false, Bool.true_and, Bool.false_or, decide_true, decide_false, Bool.true_or, Bool.false_eq_true, reduceCtorEq, spSetBy, spTermsOf, spBothWrong, spNamesBeside, spNamesIn, spHangsOn, spRingWrong, spSignalsWrong, spManyWrong, spWhatWrong, spBlocksWrong, *])

/-- S.terms fit -/
theorem WhatOk.terms {G : Str → Nat → Prop} {s : Sg} (h : WhatOk G s) : ∀ t ∈ s.terms, ∃ k, TermOk G t k := by
  cases s with
  | inp n k => intro t z; cases z
  | kept n k v => intro t z; cases z
  | wire n k u => intro t z; simp [Sg.terms] at z; subst z; exact ⟨_, h⟩
  | filt n k u => intro t z; simp [Sg.terms] at z; subst z; exact ⟨_, h⟩
  | bus n k ds =>
    intro t z
    obtain ⟨d, hd, z⟩ := List.mem_flatMap.mp z
    simp at z
    rcases z with rfl | rfl
    · exact ⟨_, (h.2.2 d hd).1⟩
    · exact ⟨_, (h.2.2 d hd).2⟩
/-- the names beside are names of signals -/
theorem Valid.known {sg : List Sg} {bl : List Bk} (V : Valid sg bl) {s : Sg} (hs : s ∈ sg) : ∀ x ∈ s.nms, NameOk x ∧ ∃ u ∈ sg, u.name = x := fun x hx => by
  obtain ⟨t, ht, hx⟩ := List.mem_flatMap.mp hx
  obtain ⟨k, hk⟩ := (V.wh s hs).terms t ht
  obtain ⟨h1, j, u, hu, e, _⟩ := Fit.nms t k hk.1 x hx
  exact ⟨h1, u, hu, e⟩
def restOf (B : Str → Nat) (fs : List Str) (sg : List Sg) : Nat := (sg.map fun s => if s.name ∈ fs then 0 else B s.name).sum
theorem rest_mono (B : Str → Nat) (fs : List Str) (n : Str) : ∀ sg : List Sg, restOf B (fs ++ [n]) sg ≤ restOf B fs sg
  | [] => Nat.le_refl _
  | s :: r => by
    have ih := rest_mono B fs n r
    unfold restOf at ih ⊢
    rw [List.map_cons, List.sum_cons, List.map_cons, List.sum_cons]
    have : (if s.name ∈ fs ++ [n] then 0 else B s.name) ≤ (if s.name ∈ fs then 0 else B s.name) := by
      by_cases h : s.name ∈ fs
      · rw [if_pos h, if_pos (List.mem_append_left _ h)]
        exact Nat.le_refl _
      · rw [if_neg h]
        split
        · exact Nat.zero_le _
        · exact Nat.le_refl _
    omega
theorem rest_add (B : Str → Nat) (fs : List Str) (n : Str) (hn : n ∉ fs) : ∀ sg : List Sg, (∃ s ∈ sg, s.name = n) → restOf B (fs ++ [n]) sg + B n ≤ restOf B fs sg
  | [], h => by obtain ⟨s, h, _⟩ := h; cases h
  | s :: r, h => by
    have ih := rest_mono B fs n r
    by_cases e : s.name = n
    · unfold restOf at ih ⊢
      rw [List.map_cons, List.sum_cons, List.map_cons, List.sum_cons, e, if_pos (by simp), if_neg hn]
      omega
    · have h' : ∃ s ∈ r, s.name = n := by
        obtain ⟨u, hu, eu⟩ := h
        rcases List.mem_cons.mp hu with rfl | hu
        · exact absurd eu e
        · exact ⟨u, hu, eu⟩
      have ih2 := rest_add B fs n hn r h'
      unfold restOf at ih2 ⊢
      rw [List.map_cons, List.sum_cons, List.map_cons, List.sum_cons]
      have : (if s.name ∈ fs ++ [n] then 0 else B s.name) ≤ (if s.name ∈ fs then 0 else B s.name) := by
        by_cases h : s.name ∈ fs
        · rw [if_pos h, if_pos (List.mem_append_left _ h)]
          exact Nat.le_refl _
        · rw [if_neg h]
          split
          · exact Nat.zero_le _
          · exact Nat.le_refl _
      omega
theorem rest_le (B : Str → Nat) : ∀ sg : List Sg, (∀ s ∈ sg, B s.name ≤ 1000) → restOf B [] sg ≤ 1000 * sg.length
  | [], _ => Nat.le_refl _
  | s :: r, hB => by
    have ih := rest_le B r fun u hu => hB u (List.mem_cons_of_mem _ hu)
    have := hB s List.mem_cons_self
    unfold restOf at ih ⊢
    rw [List.map_cons, List.sum_cons, List.length_cons, if_neg (by simp)]
    omega
theorem heads_setBy (w : Str) : ∀ b : Bd, (heads b).flatMap (setBy w) = setBy w b
  | .nil => rfl
  | .set v n t r => by
    rw [heads, List.flatMap_cons, heads_setBy w r]
    simp [setBy]
  | .ite c a b r => by
    rw [heads, List.flatMap_cons, heads_setBy w r]
    simp [setBy]
theorem setBy_len (w : Str) : ∀ b : Bd, (setBy w b).length ≤ bwt b
  | .nil => Nat.le_refl _
  | .set v n t r => by
    have := setBy_len w r
    simp only [setBy, bwt, List.length_append]
    split <;> simp <;> omega
  | .ite c a b r => by
    have := setBy_len w r
    have := setBy_len w a
    have := setBy_len w b
    simp only [setBy, bwt, List.length_append]
    omega
theorem snoc_or {α : Type} (l : List α) : l = [] ∨ ∃ (m : List α) (x : α), l = m ++ [x] := by
  rcases l.eq_nil_or_concat with h | ⟨m, x, h⟩
  · exact .inl h
  · exact .inr ⟨m, x, by rw [h, List.concat_eq_append]⟩
/-- what the drivers' tuples hold -/
theorem drv_items {H : Hp} : ∀ {ds : List (Tm × Tm)} {xs : List V}, All2 (RD H) ds xs → ∃ yss : List (List V), yss.length = xs.length ∧ (∀ (i : Nat) (ys : List V), yss[i]? = some ys → ∃ a, xs[i]? = some (.ref a) ∧ H a = some (.tup ys)) ∧ (∀ ys ∈ yss, ys.length = 2) ∧ All2 (RT H) (ds.flatMap fun d => [d.1, d.2]) (yss.flatMap fun ys => ys)
  | _, _, .nil => ⟨[], rfl, fun i ys z => (by simp at z), fun ys z => (by cases z), .nil⟩
  | _, _, .cons (a := d) (b := x) r t => by
    obtain ⟨yss, h1, h2, h3, h4⟩ := drv_items t
    obtain ⟨a, v, u, rfl, h, q1, q2⟩ := r
    refine ⟨[v, u] :: yss, by simp [h1], fun i ys z => ?_, fun ys z => ?_, .cons q1 (.cons q2 h4)⟩
    · cases i with
      | zero =>
        simp at z
        subst z
        exact ⟨a, rfl, h⟩
      | succ i => exact h2 i ys (by simpa using z)
    · rcases List.mem_cons.mp z with rfl | z
      · rfl
      · exact h3 ys z
section
variable {P : Program} {w : World} {K : PySem.W.Frag} {mg : Str → Option Value} {base : Heap} {k : Nat}
theorem ok_set_by {n : Nat} (T : TX K mg) (D : DF K mg "set_by" s_set_by ["body", "word"] []) (G_set_by : FO P w K mg base "set_by" k ["body", "word"] [] (spSetBy n)) :
    FO P w K mg base "set_by" (k + 1) ["body", "word"] [] (spSetBy (n + 1)) := by
  refine D.ok sc_set_by (fun vs H Q E h => ?_) (fun fa cdv A outer s H vs Q E hr h => ?_)
  · obtain ⟨_, _, _, _, _, _, _, rfl, _⟩ := h
    rfl
  obtain ⟨G, Kp, f, b, p, xs, wd, rfl, hp, hb, hok, hwd, hn, hw, q⟩ := h
  refine ⟨_, (pss_cons (ps_set (i := 2) sc_set_by.nd rfl (Or.inl rfl) (pe_lstD pa_nil))
    (pss_cons (ps_for PassesOwn.never rfl (pi_tpl (pv 0)) (pg_str2 rfl (pgs_cons (pg_name (i := 3) sc_set_by.nd rfl (Or.inl rfl)) (pgs_cons (pg_name (i := 4) sc_set_by.nd rfl (Or.inl rfl)) (pgs_cons (pg_name (i := 5) sc_set_by.nd rfl (Or.inl rfl)) pgs_nil))))
      (pss_one (ps_if (pt_cmpR op_eq (pv 3) pe_str (nomark _))
      (pss_one (ps_expr (pe_bmL PySem.F.slot_list_extend PySem.F.type_list_extend mt_extD (pv 2) (pa_cons (pe_lc2 (own := [("inner", 6), ("name", 7)]) (vs1 := [7]) (wi1 := iLst K _) (tt := tYes) (tt1 := tYes) rfl sc_set_by.nd (pi_lst (pv 5)) (blkOk_by (N := ["body", "word", "found", "first", "what", "rest", "inner", "name"]) (sc := defScope s_set_by) (by decide +kernel)) (by decide) (fun _ _ _ _ _ => (pg_name (i := 6) sc_set_by.nd rfl (Or.inl rfl))) (fun _ _ _ _ _ => pts_nil) (fun _ _ _ _ _ => (pi_lst (pe_fo G_set_by hr (pa_cons (pv 6) (pa_cons (pv 1) pa_nil))))) (fun _ _ _ _ _ => (pg_name (i := 7) sc_set_by.nd rfl (Or.inl rfl))) (fun _ _ _ _ _ => pts_nil) (fun _ _ _ _ _ => (pv 7))) pa_nil))))
      (pss_one (ps_if (pt_cmpR op_eq (pv 3) (pv 1) (nomark _))
      (pss_one (ps_expr (pe_bmL PySem.F.slot_list_append PySem.F.type_list_append mt_appD (pv 2) (pa_cons (pv 4) pa_nil))))
      pss_nil)))))
    (pss_one (ps_ret (pv 2))))), ?_⟩
  have hal := heads_all hb
  have hlen := all2_len hal
  have hhl := heads_len b
  walk_at "ra"
  intro p1 H1 hp1 s1 hl1
  refine ⟨xs, s1 _ _ hp, ?_⟩
  refine for_gen (wk_tpl (xs := xs)) (fun i σ H2 => ∃ o1 o2 o3 o4 o5, σ = [some (V.ref p), some (V.str wd), some (V.ref p1), o1, o2, o3, o4, o5] ∧ Same H H2 ∧ H2 p1 = some (.lst ((((heads b).take i).flatMap (setBy wd)).map V.str))) ⟨none, none, none, none, none, rfl, s1, hl1⟩ (fun i σ H2 _ z => ?_) (fun i σ H2 hi z => ?_) (fun σ H2 z => ?_)
  · obtain ⟨_, _, _, _, _, _, s2, _⟩ := z
    exact s2 _ _ hp
  · obtain ⟨o1, o2, o3, o4, o5, rfl, s2, hp2⟩ := z
    have hget : xs[i]? = some (xs.getD i .non) := by simp [hi]
    obtain ⟨h, hh, hr'⟩ := all2_at hal hget
    have hmem := List.mem_of_getElem? hh
    have hhd := heads_is hmem
    have hhok := heads_ok hok hmem
    have hhdp := heads_deep hmem
    have hhw := heads_wt_le hmem
    have hx : xs[i]? = some xs[i] := by simp [hi]
    have hflen : (((heads b).take i).flatMap (setBy wd)).length + (setBy wd h).length ≤ 1000 := by
      have e := setBy_len wd b
      rw [← heads_setBy wd b, ← List.take_append_drop (i + 1) (heads b), take_snoc hh] at e
      simp only [List.flatMap_append, List.length_append, List.flatMap_cons, List.flatMap_nil, List.append_nil] at e
      omega
    have hs1 : (((heads b).take (i + 1)).flatMap (setBy wd)) = ((heads b).take i).flatMap (setBy wd) ++ setBy wd h := by
      rw [take_snoc hh]
      simp
    cases h with
    | nil => exact hhd.elim
    | set v nm t r =>
      have e : r = .nil := hhd
      subst e
      obtain ⟨b', v', ys, e, hb', ht', _⟩ := hr'
      have e := (List.cons.inj e).1
      rw [e]
      have hb2 := s2 _ _ hb'
      have hvi : ¬ v = Str.ofString "if" := by rcases hhok.1 with rfl | rfl <;> decide +kernel
      walk_at "ra"
      intro p3 H3 hp3 s3 hl3
      have hp13 := s3 _ _ hp2
      by_cases hvw : v = wd
      · rw [if_pos hvw]
        refine ⟨⟨_, hp13⟩, _, hp13, ?_, fun H4 b4 hp4 => ⟨same_but (s2.trans s3) hp1 b4, ?_⟩⟩
        · rw [List.length_map]
          omega
        · rw [hp4]
          simp [setBy, hvw]
      · rw [if_neg hvw]
        refine ⟨s2.trans s3, ?_⟩
        rw [hp13]
        simp [setBy, hvw]
    | ite c s t r =>
      have e : r = .nil := hhd
      subst e
      obtain ⟨b', v, p', q', ps, qs, ys, e, hb', hc, hp', hps, hq', hqs, _⟩ := hr'
      have e := (List.cons.inj e).1
      rw [e]
      have hb2 := s2 _ _ hb'
      walk_at "ra"
      intro p3 H3 hp3 s3 hl3
      refine ⟨⟨_, s3 _ _ hp2⟩, _, hl3, ?_⟩
      have s03 := s2.trans s3
      have hlA := setBy_len wd s
      have hlB := setBy_len wd t
      have hdA : bdeep s < n ∧ bdeep t < n := by
        simp only [bdeep] at hhdp
        omega
      have hwA : bwt s ≤ 1000 ∧ bwt t ≤ 1000 := by
        simp only [bwt] at hhw
        omega
      refine lc2_flat (K := K) (wk_lst (xs := [V.ref p', V.ref q'])) (fun H s => s _ _ hl3) (fun i => ([setBy wd s, setBy wd t].getD i []).map V.str) (by show 2 ≤ 1000; decide) (fun i => ?_) (fun i H5 R Kn hi s5 kr => ?_) (fun Dl H5 s5 hD hl5 => ?_)
      · rw [List.length_map]
        rcases i with _ | _ | i
        · show (setBy wd s).length ≤ 1000
          omega
        · show (setBy wd t).length ≤ 1000
          omega
        · show (0 : Nat) ≤ 1000
          omega
      · have s05 := s03.trans s5
        have : i = 0 ∨ i = 1 := by
          have : i < 2 := hi
          omega
        rcases this with rfl | rfl
        · walk_at "rd"
          refine ⟨G, Kp, f, s, ps, s05 _ _ hp', RBl.tk (same_tk s05) _ _ hps, hhok.2.1, hwd, by omega, by omega, fun p6 H6 hp6 s6 hl6 => ⟨_, hl6, kr _ _ _ s6 ⟨p6, .inl ⟨rfl, hp6, hl6⟩⟩ fun x H7 Ky Kn' ky => ?_⟩⟩
          walk_at "rd"
          exact ky
        · walk_at "rd"
          refine ⟨G, Kp, f, t, qs, s05 _ _ hq', RBl.tk (same_tk s05) _ _ hqs, hhok.2.2.1, hwd, by omega, by omega, fun p6 H6 hp6 s6 hl6 => ⟨_, hl6, kr _ _ _ s6 ⟨p6, .inl ⟨rfl, hp6, hl6⟩⟩ fun x H7 Ky Kn' ky => ?_⟩⟩
          walk_at "rd"
          exact ky
      · have hf2 : flatN (fun i => ([setBy wd s, setBy wd t].getD i []).map V.str) 2 = (setBy wd s ++ setBy wd t).map V.str := by
          simp [flatN, List.range_succ]
        have hl5' : H5 Dl = some (.lst ((setBy wd s ++ setBy wd t).map V.str)) := hf2 ▸ hl5
        clear hl5
        have hp5 := s5 _ _ (s3 _ _ hp2)
        have hlC : (setBy wd (.ite c s t .nil)).length = (setBy wd s ++ setBy wd t).length := by simp [setBy]
        walk_at "ra"
        refine ⟨?_, fun H6 b6 hp6 => ⟨same_but (s03.trans s5) hp1 b6, ?_⟩⟩
        · simp only [List.length_map, List.length_append] at hlC ⊢
          omega
        · rw [hp6]
          simp [setBy]
  · obtain ⟨o1, o2, o3, o4, o5, rfl, s2, hp2⟩ := z
    walk_at "rd"
    rw [← hlen, List.take_length, heads_setBy] at hp2
    exact q _ _ hp1 s2 hp2
theorem ok_terms_of (T : TX K mg) (D : DF K mg "terms_of" s_terms_of ["row"] []) : FO P w K mg base "terms_of" (k + 1) ["row"] [] spTermsOf := by
  refine D.ok sc_terms_of (fun vs H Q E h => ?_) (fun fa cdv A outer s H vs Q E hr h => ?_)
  · obtain ⟨_, _, _, rfl, _⟩ := h
    rfl
  obtain ⟨G, sg, x, rfl, ⟨b, v, rfl, hb, hv⟩, hok, q⟩ := h
  refine ⟨_, (pss_cons (ps_asg (pv 0) (pg_tpl 4 rfl (pgs_cons (pg_name (i := 1) sc_terms_of.nd rfl (Or.inl rfl)) (pgs_cons (pg_name (i := 2) sc_terms_of.nd rfl (Or.inl rfl)) (pgs_cons (pg_name (i := 3) sc_terms_of.nd rfl (Or.inl rfl)) (pgs_cons (pg_name (i := 4) sc_terms_of.nd rfl (Or.inl rfl)) pgs_nil))))))
    (pss_cons (ps_if (pt_cmpR op_eq (pv 1) pe_str (nomark _))
      (pss_one (ps_ret (pe_lc2 (own := [("driver", 5), ("term", 6)]) (vs1 := [6]) (wi1 := iTpl K _) (tt := tYes) (tt1 := tYes) rfl sc_terms_of.nd (pi_tpl (pv 4)) (blkOk_by (N := ["row", "sort", "name", "width", "what", "driver", "term"]) (sc := defScope s_terms_of) (by decide +kernel)) (by decide) (fun _ _ _ _ _ => (pg_name (i := 5) sc_terms_of.nd rfl (Or.inl rfl))) (fun _ _ _ _ _ => pts_nil) (fun _ _ _ _ _ => (pi_tpl (pv 5))) (fun _ _ _ _ _ => (pg_name (i := 6) sc_terms_of.nd rfl (Or.inl rfl))) (fun _ _ _ _ _ => pts_nil) (fun _ _ _ _ _ => (pv 6)))))
      pss_nil)
    (pss_one (ps_ret (pe_ifExp (pt_inD (pv 1) (pa_cons pe_str (pa_cons pe_str pa_nil))) (pe_lstD (pa_cons (pv 4) pa_nil)) (pe_lstD pa_nil)))))), ?_⟩
  cases sg <;> simp only [Sg.sort, Sg.name, Sg.wd] at hb
  all_goals walk_at "ra"
  · exact fun H3 s3 p H4 hp s4 hl => q _ _ _ (s3.free hp) (s3.trans s4) hl .nil
  · exact fun H3 s3 p H4 hp s4 hl => q _ _ _ (s3.free hp) (s3.trans s4) hl .nil
  · exact fun H3 s3 p H4 hp s4 hl => q _ _ _ (s3.free hp) (s3.trans s4) hl (.cons (RT.tk (same_tk (s3.trans s4)) _ _ hv) .nil)
  · exact fun H3 s3 p H4 hp s4 hl => q _ _ _ (s3.free hp) (s3.trans s4) hl (.cons (RT.tk (same_tk (s3.trans s4)) _ _ hv) .nil)
  · rename_i nm kk ds
    obtain ⟨a, xs, rfl, ha, hal⟩ := hv
    obtain ⟨l2, l4, hok⟩ := hok
    obtain ⟨yss, hy1, hy2, hy3, hy4⟩ := drv_items hal
    have hlen := all2_len hal
    refine ⟨a, rfl, xs, ha, ?_⟩
    refine lc2_flat (K := K) (wk_tpl (xs := xs)) (fun H s => s _ _ ha) (fun i => yss.getD i []) (by omega) (fun i => ?_) (fun i H5 R Kn hi s5 kr => ?_) (fun Dl H5 s5 hD hl5 => ?_)
    · rw [List.getD_eq_getElem?_getD]
      cases e : yss[i]? with
      | none => exact Nat.zero_le _
      | some ys =>
        have := hy3 _ (List.mem_of_getElem? e)
        show ys.length ≤ 1000
        omega
    · have hi2 : i < yss.length := by omega
      obtain ⟨a', e1, e2⟩ := hy2 i _ (List.getElem?_eq_getElem hi2)
      rw [List.getD_eq_getElem?_getD, e1]
      have ha5 := s5 _ _ e2
      have e3 : yss.getD i [] = yss[i] := by simp [hi2]
      walk_at "ra"
      refine kr _ _ _ (Same.refl _) ⟨a', .inr ⟨rfl, by rw [e3]; exact ha5⟩⟩ fun x H7 Ky Kn' ky => ?_
      walk_at "rd"
      exact ky
    · have e := flatN_of (l := yss) (F := fun i => yss.getD i []) (G := fun ys => ys) fun i a ha => by
        show yss.getD i [] = a
        rw [List.getD_eq_getElem?_getD, ha]
        rfl
      rw [← hy1, e] at hl5
      exact q _ _ _ hD s5 hl5 (all2_mono (fun _ _ z => RT.tk (same_tk s5) _ _ z) hy4)
theorem ok_both_wrong (T : TX K mg) (D : DF K mg "both_wrong" s_both_wrong ["signals", "blocks"] []) (G_set_by : FO P w K mg base "set_by" k ["body", "word"] [] (spSetBy 5)) :
    FO P w K mg base "both_wrong" (k + 1) ["signals", "blocks"] [] spBothWrong := by
  refine D.ok sc_both_wrong (fun vs H Q E h => ?_) (fun fa cdv A outer s H vs Q E hr h => ?_)
  · obtain ⟨_, _, _, _, rfl, _⟩ := h
    rfl
  obtain ⟨sg, bl, a, b, rfl, ⟨xs, ha, hal⟩, ⟨ys, hb, hbl⟩, hv, q⟩ := h
  refine ⟨_, (pss_cons (ps_asg (pe_lc (own := [("word", 5)]) (tt := tYes) rfl sc_both_wrong.nd (pi_tpl (pe_tupD (pa_cons pe_str (pa_cons pe_str pa_nil)))) (blkOk_by (N := ["signals", "blocks", "row", "now", "later", "word", "name"]) (sc := defScope s_both_wrong) (by decide +kernel)) (fun _ _ _ _ _ => (pg_name (i := 5) sc_both_wrong.nd rfl (Or.inr rfl))) (fun _ _ _ _ _ => pts_nil) (fun _ _ _ _ _ => (pe_lc2 (own := [("row", 2), ("name", 6)]) (wi := iLst K _) (vs1 := [6]) (wi1 := iLst K _) (tt := tYes) (tt1 := tYes) rfl sc_both_wrong.nd (pi_lst (pv 1)) (blkOk_by (N := ["signals", "blocks", "row", "now", "later", "word", "name"]) (sc := relS (cScope (stE (stN s_both_wrong 0))) (defScope s_both_wrong)) (by decide +kernel)) (by decide) (fun _ _ _ _ _ => (pg_name (i := 2) sc_both_wrong.nd rfl (Or.inl rfl))) (fun _ _ _ _ _ => pts_nil) (fun _ _ _ _ _ => (pi_lst (pe_fo G_set_by hr (pa_cons (pe_ix ix_tpl (pv 2) pe_int (fun _ _ => rfl)) (pa_cons (pv 5) pa_nil))))) (fun _ _ _ _ _ => (pg_name (i := 6) sc_both_wrong.nd rfl (Or.inl rfl))) (fun _ _ _ _ _ => pts_nil) (fun _ _ _ _ _ => (pv 6))))) (pg_lst 2 rfl (pgs_cons (pg_name (i := 3) sc_both_wrong.nd rfl (Or.inl rfl)) (pgs_cons (pg_name (i := 4) sc_both_wrong.nd rfl (Or.inl rfl)) pgs_nil))))
    (pss_cons (ps_for PassesOwn.never rfl (pi_lst (pv 0)) (pg_name (i := 2) sc_both_wrong.nd rfl (Or.inl rfl))
      (pss_one (ps_if (PW.pt (pw_and (pt_cmpR op_inL (pe_ix ix_tpl (pv 2) pe_int (fun _ _ => rfl)) (pv 3) (by rfl)) (pw_and1 (pt_cmpR op_inL (pe_ix ix_tpl (pv 2) pe_int (fun _ _ => rfl)) (pv 4) (by rfl)))))
      (pss_one (ps_ret (pe_tupD (pa_cons pe_str (pa_cons (pe_ix ix_tpl (pv 2) pe_int (fun _ _ => rfl)) pa_nil)))))
      pss_nil)))
    (pss_one (ps_ret pe_non)))), ?_⟩
  refine seq_i fun M hM => ?_
  have hlenb := all2_len hbl
  have hlb := hv.lb
  obtain ⟨f, hbk⟩ := hv.bk
  walk_at "ra"
  intro p1 H1 hp1 s1 hl1
  refine ⟨_, hl1, ?_⟩
  refine lc_lists (wk_tpl (xs := [V.str (Str.ofString "now"), V.str (Str.ofString "later")])) (fun H s => s _ _ hl1) (fun i => (bl.flatMap fun k => setBy (["now", "later"].getD i "") k.body).map V.str) (by show 2 ≤ 1000000; decide) (fun i H2 Ky Kn hi s2 ky => ?_) (fun Dl bs H2 s2 hD hl2 hbs hb2 _ => ?_)
  · have hb2 := (s1.trans s2) _ _ hb
    have hstep : ∀ wd : Str, wd ≠ "if" → (∀ b H', H2 b = none → Same H2 H' → H' b = some (.lst ((bl.flatMap fun k => setBy wd k.body).map V.str)) → Ky (.ref b) H') →
        Lc2Ok (Itl K b) (gName 2) tYes (iLst K (tCall (spSetBy 5) [] E0 (tCons (tOp rIxTH (tVar 2) (tC (V.int 3))) (tCons (tVar 5) tNil)))) (gName 6) tYes (tVar 6) [2, 6] [6] [some (V.ref a), some (V.ref b), none, none, none, some (V.str wd), none] H2 Ky := fun wd hwd ky => by
      refine lc2_flat (K := K) (wk_lst (xs := ys)) (fun H s => s _ _ hb2) (fun i => (((bl[i]?).map fun k => setBy wd k.body).getD []).map V.str) (by omega) (fun i => ?_) (fun i H5 R Kn hi s5 kr => ?_) (fun Dl H5 s5 hD hl5 => ?_)
      · rw [List.length_map]
        cases e : bl[i]? with
        | none => simp
        | some k' =>
          have h1 := setBy_len wd k'.body
          have h2 := (hbk k' (List.mem_of_getElem? e)).wt
          show (setBy wd k'.body).length ≤ 1000
          omega
      · have hget : ys[i]? = some (ys.getD i .non) := by simp [hi]
        obtain ⟨k', hk', a', v', e, ha', hB⟩ := all2_at hbl hget
        rw [e]
        have s05 := (s1.trans s2).trans s5
        have ha5 := s05 _ _ ha'
        obtain ⟨p', zs, rfl, hp', hzs⟩ := RB.tk (same_tk s05) hB
        have hk := hbk k' (List.mem_of_getElem? hk')
        have h1 := hk.dp
        have h2 := hk.wt
        rw [hk'] at kr
        walk_at "ra"
        refine ⟨GW sg, GK sg, f, k'.body, hzs, hk.bd, hwd, by omega, by omega, fun p6 H6 hp6 s6 hl6 => ⟨_, hl6, kr _ _ _ s6 ⟨p6, .inl ⟨rfl, hp6, hl6⟩⟩ fun x H7 Ky Kn' ky => ?_⟩⟩
        walk_at "rd"
        exact ky
      · have e := flatN_of (l := bl) (F := fun i => (((bl[i]?).map fun k => setBy wd k.body).getD []).map V.str) (G := fun k => (setBy wd k.body).map V.str) fun i k hk => by
          show (((bl[i]?).map fun k => setBy wd k.body).getD []).map V.str = _
          rw [hk]
          rfl
        rw [← hlenb, e] at hl5
        refine ky _ _ hD s5 ?_
        rw [hl5, List.map_flatMap]
    have : i = 0 ∨ i = 1 := by
      have : i < 2 := hi
      omega
    rcases this with rfl | rfl
    · walk_at "rd"
      exact ⟨ys, hb2, hstep _ (by decide +kernel) ky⟩
    · walk_at "rd"
      exact ⟨ys, hb2, hstep _ (by decide +kernel) ky⟩
  · match bs, hbs with
    | [n1, n2], _ =>
      have hn1 := hb2 0 n1 rfl
      have hn2 := hb2 1 n2 rfl
      refine ⟨Dl, rfl, _, hl2, rfl, _, _, rfl, _, _, rfl, rfl, ?_⟩
      subst hM
      have ha2 := (s1.trans s2) _ _ ha
      refine seq_i fun M hM => ?_
      have hlen := all2_len hal
      walk_at "ra"
      refine for_gen (wk_lst (xs := xs)) (fun i σ H3 => ∃ o, σ = [some (V.ref a), some (V.ref b), o, some (V.ref n1), some (V.ref n2), none, none] ∧ Same H2 H3) ⟨none, rfl, Same.refl _⟩ (fun i σ H3 _ z => ?_) (fun i σ H3 hi z => ?_) (fun σ H3 z => ?_)
      · obtain ⟨_, _, s3⟩ := z
        exact s3 _ _ ha2
      · obtain ⟨o, rfl, s3⟩ := z
        have hget : xs[i]? = some (xs.getD i .non) := by simp [hi]
        obtain ⟨s', hs', b', v', e, hb', hw'⟩ := all2_at hal hget
        rw [e]
        have hb3 := ((s1.trans s2).trans s3) _ _ hb'
        have h13 := s3 _ _ hn1
        have h23 := s3 _ _ hn2
        walk_at "ra"
        refine ⟨flat_strs _, ?_⟩
        rw [inV_strs]
        by_cases h1 : s'.name ∈ bl.flatMap fun k => setBy (Str.ofString "now") k.body
        · rw [if_pos (decide_eq_true h1)]
          refine ⟨flat_strs _, ?_⟩
          rw [inV_strs, if_neg]
          · trivial
          · rw [decide_eq_true_eq]
            intro h2
            obtain ⟨k1, hk1, m1⟩ := List.mem_flatMap.mp h1
            obtain ⟨k2, hk2, m2⟩ := List.mem_flatMap.mp h2
            have e1 := BdOk.set_by (hbk k1 hk1).bd _ m1
            have e2 := BdOk.set_by (hbk k2 hk2).bd _ m2
            rw [e1] at e2
            exact absurd e2 (by decide +kernel)
        · rw [if_neg (by rw [decide_eq_true_eq]; exact h1)]
          trivial
      · obtain ⟨o, rfl, s3⟩ := z
        subst hM
        walk_at "rd"
        exact q _ ((s1.trans s2).trans s3)
theorem ok_names_beside (T : TX K mg) (D : DF K mg "names_beside" s_names_beside ["signals"] []) (G_terms_of : FO P w K mg base "terms_of" k ["row"] [] spTermsOf) (G_names_in : FO P w K mg base "names_in" k ["term"] [] spNamesIn) :
    FO P w K mg base "names_beside" (k + 1) ["signals"] [] spNamesBeside := by
  refine D.ok sc_names_beside (fun vs H Q E h => ?_) (fun fa cdv A outer s H vs Q E hr h => ?_)
  · obtain ⟨_, _, _, rfl, _⟩ := h
    rfl
  obtain ⟨sg, bl, a, rfl, ⟨xs, ha, hal⟩, hv, q⟩ := h
  refine ⟨_, (pss_one (ps_ret (pe_dc (own := [("row", 1)]) (tt := tYes) rfl sc_names_beside.nd (pi_lst (pv 0)) (blkOk_by (N := ["signals", "row", "term", "name"]) (sc := defScope s_names_beside) (by decide +kernel)) (fun _ _ _ _ _ => (pg_name (i := 1) sc_names_beside.nd rfl (Or.inl rfl))) (fun _ _ _ _ _ => pts_nil) (fun _ _ _ _ _ => (pe_ix ix_tpl (pv 1) pe_int (fun _ _ => rfl))) (fun _ _ _ _ _ => (pe_lc2 (own := [("term", 2), ("name", 3)]) (wi := iLst K _) (vs1 := [3]) (wi1 := iLst K _) (tt := tYes) (tt1 := tYes) rfl sc_names_beside.nd (pi_lst (pe_fo G_terms_of hr (pa_cons (pv 1) pa_nil))) (blkOk_by (N := ["signals", "row", "term", "name"]) (sc := relS (cScope (stE (stN s_names_beside 0))) (defScope s_names_beside)) (by decide +kernel)) (by decide) (fun _ _ _ _ _ => (pg_name (i := 2) sc_names_beside.nd rfl (Or.inl rfl))) (fun _ _ _ _ _ => pts_nil) (fun _ _ _ _ _ => (pi_lst (pe_fo G_names_in hr (pa_cons (pv 2) pa_nil)))) (fun _ _ _ _ _ => (pg_name (i := 3) sc_names_beside.nd rfl (Or.inl rfl))) (fun _ _ _ _ _ => pts_nil) (fun _ _ _ _ _ => (pv 3))))))), ?_⟩
  have hlen := all2_len hal
  have hls := hv.ls
  have hnd := (List.nodup_append.mp hv.nd).1
  walk_at "ra"
  refine dc_text (wk_lst (xs := xs)) (fun H s => s _ _ ha) (fun i kvs H => ∀ s ∈ sg.take i, ∃ (b : Addr) (ns : List Str), valV kvs (.inr s.name) = some (.ref b) ∧ H b = some (.lst (ns.map V.str)) ∧ (∀ x ∈ ns, x ∈ s.nms) ∧ ns.length ≤ 1000) (by omega)
    (fun i kvs H H' u lk s hs => ?_) (fun _ _ s z => (by cases z)) (fun i kvs H5 Ky Kn hi s5 u ky => ?_) (fun Dl kvs H5 s5 hD hl5 u => ?_)
  · obtain ⟨b, ns, h1, h2, h3⟩ := u s hs
    exact ⟨b, ns, h1, lk.2 _ _ h2, h3⟩
  · have hget : xs[i]? = some (xs.getD i .non) := by simp [hi]
    obtain ⟨s', hs', hr'⟩ := all2_at hal hget
    have hmem := List.mem_of_getElem? hs'
    have hwh := hv.wh s' hmem
    have hr5 := RS.tk (same_tk s5) hr'
    obtain ⟨b', v', e, hb', hw'⟩ := hr'
    have hb5 := s5 _ _ hb'
    rw [e] at hr5 ⊢
    have hn1 := hwh.terms
    walk_at "ra"
    refine ⟨GW sg, s', hr5, hwh, fun p ts H6 hp6 s6 hl6 hts => ⟨ts, hl6, ?_⟩⟩
    have htl := all2_len hts
    have htn : s'.terms.length ≤ 8 := by
      cases s' with
      | bus n k ds =>
        obtain ⟨_, h4, _⟩ := hwh
        show (ds.flatMap fun d => [d.1, d.2]).length ≤ 8
        have : ∀ l : List (Tm × Tm), (l.flatMap fun d => [d.1, d.2]).length = 2 * l.length := fun l => by
          induction l with
          | nil => rfl
          | cons a r ih => rw [List.flatMap_cons, List.length_append, ih, List.length_cons]; simp; omega
        rw [this]
        omega
      | _ => simp [Sg.terms]
    have hF : ∀ i : Nat, ((((s'.terms)[i]?.map fun t => uniq (nms t)).getD []).map V.str).length ≤ 60 := fun i => by
      rw [List.length_map]
      cases e : (s'.terms)[i]? with
      | none => simp
      | some t =>
        obtain ⟨k', hk'⟩ := hn1 t (List.mem_of_getElem? e)
        have h1 := (uniq_sub (nms t)).2
        have h2 := nms_len t
        have h3 := hk'.2.2
        show (uniq (nms t)).length ≤ 60
        omega
    refine lc2_flat (K := K) (wk_lst (xs := ts)) (fun H s => s _ _ hl6) (fun (i : Nat) => (((s'.terms)[i]?.map fun t => uniq (nms t)).getD []).map V.str) (by omega) (fun i => Nat.le_trans (hF i) (by decide)) (fun i H7 R Kn hi s7 kr => ?_) (fun Dl H7 s7 hD hl7 => ?_)
    · have hget : ts[i]? = some (ts.getD i .non) := by simp [hi]
      obtain ⟨t', ht', hrt⟩ := all2_at hts hget
      obtain ⟨k', hk'⟩ := hn1 t' (List.mem_of_getElem? ht')
      rw [ht'] at kr
      walk_at "rd"
      refine ⟨t', RT.tk (same_tk s7) _ _ hrt, ⟨GW sg, k', hv.rng, hk'.1⟩, hk'.2.2, hk'.2.1, fun p8 H8 hp8 s8 hl8 => ⟨_, hl8, kr _ _ _ s8 ⟨p8, .inl ⟨rfl, hp8, hl8⟩⟩ fun x H7 Ky Kn' ky => ?_⟩⟩
      walk_at "rd"
      exact ky
    · have e := flatN_of (l := s'.terms) (F := fun (i : Nat) => (((s'.terms)[i]?.map fun t => uniq (nms t)).getD []).map V.str) (G := fun t => (uniq (nms t)).map V.str) fun i t ht => by
        show (((s'.terms)[i]?.map fun t => uniq (nms t)).getD []).map V.str = _
        rw [ht]
        rfl
      have hlf : ((s'.terms).flatMap fun t => uniq (nms t)).length ≤ 1000 := by
        have h1 := flatN_len (F := fun (i : Nat) => (((s'.terms)[i]?.map fun t => uniq (nms t)).getD []).map V.str) (fun i => Nat.le_trans (hF i) (by decide)) s'.terms.length
        have hg : ∀ (l : List Tm), (∀ t ∈ l, (uniq (nms t)).length ≤ 60) → (l.flatMap fun t => uniq (nms t)).length ≤ 60 * l.length := fun l => by
          induction l with
          | nil => intro _; exact Nat.le_refl _
          | cons a r ih =>
            intro h
            have h1 := h a List.mem_cons_self
            have h2 := ih fun t ht => h t (List.mem_cons_of_mem _ ht)
            rw [List.flatMap_cons, List.length_append, List.length_cons]
            omega
        have h2 := hg s'.terms fun t ht => by
          obtain ⟨k', hk'⟩ := hn1 t ht
          have h1 := (uniq_sub (nms t)).2
          have h2 := nms_len t
          have h3 := hk'.2.2
          omega
        omega
      rw [← htl, e, ← List.map_flatMap] at hl7
      refine ky _ _ _ (s6.trans s7) fun s hs => ?_
      rw [take_snoc hs'] at hs
      rw [valV_inr]
      rcases List.mem_append.mp hs with hs | hs
      · rw [if_neg]
        · obtain ⟨b, ns, h1, h2, h3⟩ := u s hs
          exact ⟨b, ns, h1, (s6.trans s7) _ _ h2, h3⟩
        · intro e2
          have hm : s'.name ∈ (sg.map Sg.name).take i := by
            rw [← List.map_take, ← e2]
            exact List.mem_map_of_mem hs
          exact nodup_take hnd (by rw [List.getElem?_map, hs']; rfl) hm
      · simp at hs
        rw [hs, if_pos rfl]
        refine ⟨Dl, _, rfl, hl7, fun x hx => ?_, hlf⟩
        obtain ⟨t, ht, hx⟩ := List.mem_flatMap.mp hx
        exact List.mem_flatMap.mpr ⟨t, ht, (uniq_sub _).1 x hx⟩
  · refine q _ _ hD s5 ⟨kvs, hl5, fun s hs => u s (by rw [← hlen, List.take_length]; exact hs)⟩
theorem ok_hangs_on (T : TX K mg) (D : DF K mg "hangs_on" s_hangs_on ["name", "beside"] []) : FO P w K mg base "hangs_on" (k + 1) ["name", "beside"] [] spHangsOn := by
  refine D.ok sc_hangs_on (fun vs H Q E h => ?_) (fun fa cdv A outer s H vs Q E hr h => ?_)
  · obtain ⟨_, _, _, _, _, rfl, _⟩ := h
    rfl
  obtain ⟨sg, bl, n, d, S, rfl, ⟨kvs, hd, hkv⟩, hv, ⟨s0, hs0, hn0, hS0⟩, hcl, q⟩ := h
  refine ⟨_, (pss_cons (ps_set (i := 2) sc_hangs_on.nd rfl (Or.inl rfl) (pe_lstD pa_nil))
    (pss_cons (ps_set (i := 3) sc_hangs_on.nd rfl (Or.inl rfl) (pe_callTy call_listD rfl T.list (by decide +kernel) (pa_cons (pe_getS (hu_of hr) (pv 1) (pv 0) (fun _ _ => rfl)) pa_nil)))
    (pss_cons (ps_while PassesOwn.never (pt_neNilL hr.units (pv 3))
      (pss_cons (ps_set (i := 4) sc_hangs_on.nd rfl (Or.inl rfl) (pe_bmL0 PySem.F.slot_list_pop PySem.F.type_list_pop mt_popD (pv 3)))
    (pss_one (ps_if (pt_cmpR op_ninL (pv 4) (pv 2) (by rfl))
      (pss_cons (ps_expr (pe_bmL PySem.F.slot_list_append PySem.F.type_list_append mt_appD (pv 2) (pa_cons (pv 4) pa_nil)))
    (pss_one (ps_expr (pe_bmL PySem.F.slot_list_extend PySem.F.type_list_extend mt_extD (pv 3) (pa_cons (pe_getS (hu_of hr) (pv 1) (pv 4) (fun _ _ => rfl)) pa_nil)))))
      pss_nil))))
    (pss_one (ps_ret (pv 2)))))), ?_⟩
  have hls := hv.ls
  obtain ⟨b0, ns0, e0, h0, hsub0, hl0⟩ := hkv s0 hs0
  rw [hn0] at e0
  obtain ⟨B, hB⟩ : ∃ B : Str → Nat, ∀ s ∈ sg, ∀ (b : Addr) (ns : List Str), valV kvs (.inr s.name) = some (.ref b) → H b = some (.lst (ns.map V.str)) → B s.name = ns.length :=
    ⟨fun x => match valV kvs (.inr x) with
      | some (.ref b) => (match H b with
        | some (.lst xs) => xs.length
        | _ => 0)
      | _ => 0, fun s hs b ns e1 e2 => by simp only [e1, e2, List.length_map]⟩
  have hBle : ∀ s ∈ sg, B s.name ≤ 1000 := fun s hs => by
    obtain ⟨b, ns, e1, e2, _, e3⟩ := hkv s hs
    rw [hB s hs b ns e1 e2]
    exact e3
  have hknown : ∀ s ∈ sg, ∀ x ∈ s.nms, NameOk x ∧ ∃ u ∈ sg, u.name = x := fun s hs => hv.known hs
  have hrl := rest_le B sg hBle
  walk_at "ra"
  intro p1 H1 hp1 s1 hl1
  refine ⟨kvs, s1 _ _ hd, .ref b0, e0, b0, rfl, _, s1 _ _ h0, fun p2 H2 hp2 s2 hl2 => ?_⟩
  have s02 := s1.trans s2
  have hp20 := s1.free hp2
  have hne : p1 ≠ p2 := fun z => by rw [z, hp2] at hl1; cases hl1
  obtain ⟨Pv, hPi, hPo⟩ : ∃ Pv : Nat → St → Hp → Prop, (∀ (m : Nat) (σ : St) (H3 : Hp), (∃ (o : Option V) (fs ls : List Str), σ = [some (V.str n), some (V.ref d), some (V.ref p1), some (V.ref p2), o] ∧ Same H H3 ∧ H3 p1 = some (.lst (fs.map V.str)) ∧ H3 p2 = some (.lst (ls.map V.str)) ∧ (∀ x ∈ fs, S x) ∧ (∀ x ∈ ls, S x ∧ NameOk x ∧ ∃ u ∈ sg, u.name = x) ∧ ls.length + restOf B fs sg = m ∧ fs.length + m ≤ 25000) → Pv m σ H3) ∧ ∀ (m : Nat) (σ : St) (H3 : Hp), Pv m σ H3 → ∃ (o : Option V) (fs ls : List Str), σ = [some (V.str n), some (V.ref d), some (V.ref p1), some (V.ref p2), o] ∧ Same H H3 ∧ H3 p1 = some (.lst (fs.map V.str)) ∧ H3 p2 = some (.lst (ls.map V.str)) ∧ (∀ x ∈ fs, S x) ∧ (∀ x ∈ ls, S x ∧ NameOk x ∧ ∃ u ∈ sg, u.name = x) ∧ ls.length + restOf B fs sg = m ∧ fs.length + m ≤ 25000 := ⟨fun m σ H3 => ∃ (o : Option V) (fs ls : List Str), σ = [some (V.str n), some (V.ref d), some (V.ref p1), some (V.ref p2), o] ∧ Same H H3 ∧ H3 p1 = some (.lst (fs.map V.str)) ∧ H3 p2 = some (.lst (ls.map V.str)) ∧ (∀ x ∈ fs, S x) ∧ (∀ x ∈ ls, S x ∧ NameOk x ∧ ∃ u ∈ sg, u.name = x) ∧ ls.length + restOf B fs sg = m ∧ fs.length + m ≤ 25000, fun _ _ _ z => z, fun _ _ _ z => z⟩
  refine ⟨Pv, ⟨ns0.length + restOf B [] sg, ?_⟩, fun m σ H3 z => ?_⟩
  · exact hPi _ _ _ ⟨none, [], ns0, rfl, s02, s2 _ _ hl1, hl2, fun _ z => (by cases z), fun x hx => ⟨hS0 x (hsub0 x hx), hknown s0 hs0 x (hsub0 x hx)⟩, rfl, by simp; omega⟩
  obtain ⟨o, fs, ls, rfl, s3, hf3, hl3, hfs, hls', rfl, hm⟩ := hPo _ _ _ z
  clear z
  walk_at "ra"
  refine ⟨ls.map PyData.str, fun H4 _ => dp_strs ls, shaped_strs (fun x hx => asc_name (hls' x hx).2.1), fun H4 s4 => ?_⟩
  have hf4 := s4 _ _ hf3
  have hl4 := s4 _ _ hl3
  rcases snoc_or ls with rfl | ⟨l', one, rfl⟩
  · rw [if_neg (by simp)]
    exact q _ _ fs hp1 (s3.trans s4) hf4 hfs (by omega)
  · have hone := hls' one (by simp)
    obtain ⟨u, hu, eu⟩ := hone.2.2
    rw [if_pos (by simp)]
    refine ⟨fun σ' H' => ∃ m', m' < (l' ++ [one]).length + restOf B fs sg ∧ Pv m' σ' H', fun σ' H' z => z, ⟨_, hl4⟩, l'.map V.str, .str one, by simpa using hl4, fun H5 b5 hl5 => ?_⟩
    have hf5 := b5 _ _ hne hf4
    have s05 : Same H H5 := same_but (s3.trans s4) hp20 b5
    refine ⟨_, hf5, rfl, flat_strs _, ?_⟩
    rw [inV_strs]
    by_cases hin : one ∈ fs
    · rw [if_neg (by simp [hin])]
      refine ⟨l'.length + restOf B fs sg, by simp, hPi _ _ _ ?_⟩
      exact ⟨_, fs, l', rfl, s05, hf5, hl5, hfs, fun x hx => hls' x (by simp [hx]), rfl, by simp at hm; omega⟩
    · rw [if_pos (by simp [hin])]
      obtain ⟨b1, ns1, f1, f2, f3, f4⟩ := hkv u hu
      rw [eu] at f1
      have hB1 := hB u hu b1 ns1 (by rw [eu]; exact f1) f2
      have hra := rest_add B fs one hin sg ⟨u, hu, eu⟩
      rw [eu] at hB1
      rw [hB1] at hra
      refine ⟨⟨_, hf5⟩, _, hf5, by simp at hm ⊢; omega, fun H6 b6 hf6 => ?_⟩
      have s06 : Same H H6 := same_but s05 hp1 b6
      have hl6 := b6 _ _ (Ne.symm hne) hl5
      have hd6 := s06 _ _ hd
      have hb16 := s06 _ _ f2
      walk_at "ra"
      refine ⟨by simp at hm ⊢; omega, fun H7 b7 hl7 => ⟨(l' ++ ns1).length + restOf B (fs ++ [one]) sg, by simp; omega, hPi _ _ _ ⟨_, fs ++ [one], l' ++ ns1, rfl, same_but s06 hp20 b7, ?_, by rw [hl7]; simp, fun x hx => ?_, fun x hx => ?_, rfl, by simp at hm ⊢; omega⟩⟩⟩
      · rw [b7 _ _ hne hf6]
        simp
      · rcases List.mem_append.mp hx with hx | hx
        · exact hfs x hx
        · simp at hx
          rw [hx]
          exact hone.1
      · rcases List.mem_append.mp hx with hx | hx
        · exact hls' x (by simp [hx])
        · exact ⟨hcl u hu (by rw [eu]; exact hone.1) x (f3 x hx), hknown u hu x (f3 x hx)⟩
theorem ok_ring_wrong (T : TX K mg) (D : DF K mg "ring_wrong" s_ring_wrong ["signals"] []) (G_names_beside : FO P w K mg base "names_beside" k ["signals"] [] spNamesBeside) (G_hangs_on : FO P w K mg base "hangs_on" k ["name", "beside"] [] spHangsOn) :
    FO P w K mg base "ring_wrong" (k + 1) ["signals"] [] spRingWrong := by
  refine D.ok sc_ring_wrong (fun vs H Q E h => ?_) (fun fa cdv A outer s H vs Q E hr h => ?_)
  · obtain ⟨_, _, _, rfl, _⟩ := h
    rfl
  obtain ⟨sg, bl, a, rfl, ⟨xs, ha, hal⟩, hv, q⟩ := h
  refine ⟨_, (pss_cons (ps_set (i := 1) sc_ring_wrong.nd rfl (Or.inl rfl) (pe_fo G_names_beside hr (pa_cons (pv 0) pa_nil)))
    (pss_cons (ps_for PassesOwn.never rfl (pi_lst (pv 0)) (pg_name (i := 2) sc_ring_wrong.nd rfl (Or.inl rfl))
      (pss_one (ps_if (pt_cmpR op_inL (pe_ix ix_tpl (pv 2) pe_int (fun _ _ => rfl)) (pe_fo G_hangs_on hr (pa_cons (pe_ix ix_tpl (pv 2) pe_int (fun _ _ => rfl)) (pa_cons (pv 1) pa_nil))) (by rfl))
      (pss_one (ps_ret (pe_tupD (pa_cons pe_str (pa_cons (pe_ix ix_tpl (pv 2) pe_int (fun _ _ => rfl)) pa_nil)))))
      pss_nil)))
    (pss_cons (ps_set (i := 3) sc_ring_wrong.nd rfl (Or.inr rfl) (pe_lc (own := [("row", 2)]) (tt := _) rfl sc_ring_wrong.nd (pi_lst (pv 0)) (blkOk_by (N := ["signals", "beside", "row", "filters", "name", "other"]) (sc := defScope s_ring_wrong) (by decide +kernel)) (fun _ _ _ _ _ => (pg_name (i := 2) sc_ring_wrong.nd rfl (Or.inl rfl))) (fun _ _ _ _ _ => (pts_one (pt_cmpR op_eq (pe_ix ix_tpl (pv 2) pe_int (fun _ _ => rfl)) pe_str (nomark _)))) (fun _ _ _ _ _ => (pe_ix ix_tpl (pv 2) pe_int (fun _ _ => rfl)))))
    (pss_cons (ps_for PassesOwn.never rfl (pi_lst (pv 3)) (pg_name (i := 4) sc_ring_wrong.nd rfl (Or.inl rfl))
      (pss_one (ps_if (pt_val (pe_callB (call_anyF rfl) rfl T.any (by decide +kernel) (pa_cons (pe_lc (own := [("other", 5)]) (tt := tYes) rfl sc_ring_wrong.nd (pi_lst (pe_fo G_hangs_on hr (pa_cons (pv 4) (pa_cons (pv 1) pa_nil)))) (blkOk_by (N := ["signals", "beside", "row", "filters", "name", "other"]) (sc := defScope s_ring_wrong) (by decide +kernel)) (fun _ _ _ _ _ => (pg_name (i := 5) sc_ring_wrong.nd rfl (Or.inl rfl))) (fun _ _ _ _ _ => pts_nil) (fun _ _ _ _ _ => (pe_cmpR op_inL (pv 5) (pv 3) (by rfl)))) pa_nil)))
      (pss_one (ps_ret (pe_tupD (pa_cons pe_str (pa_cons (pv 4) pa_nil)))))
      pss_nil)))
    (pss_one (ps_ret pe_non)))))), ?_⟩
  refine seq_i fun M hM => ?_
  have hls := hv.ls
  have hlen := all2_len hal
  obtain ⟨rk, hrk⟩ := hv.rank
  obtain ⟨PP, hPP, hflt⟩ := hv.plain
  walk_at "ra"
  refine ⟨sg, ⟨xs, ha, hal⟩, bl, hv, fun d H1 hd s1 hbs => ?_⟩
  subst hM
  refine seq_i fun M hM => ?_
  walk_at "ra"
  refine ⟨xs, s1 _ _ ha, ?_⟩
  refine for_gen (wk_lst (xs := xs)) (fun i σ H3 => ∃ o, σ = [some (V.ref a), some (V.ref d), o, none, none, none] ∧ Same H1 H3) ⟨none, rfl, Same.refl _⟩ (fun i σ H3 _ z => ?_) (fun i σ H3 hi z => ?_) (fun σ H3 z => ?_)
  · obtain ⟨_, _, s3⟩ := z
    exact s3 _ _ (s1 _ _ ha)
  · obtain ⟨o, rfl, s3⟩ := z
    have hget : xs[i]? = some (xs.getD i .non) := by simp [hi]
    obtain ⟨s', hs', b', v', e, hb', hw'⟩ := all2_at hal hget
    have hmem := List.mem_of_getElem? hs'
    rw [e]
    have s03 := s1.trans s3
    have hb3 := s03 _ _ hb'
    have hbs3 := hbs.same s3
    walk_at "ra"
    refine ⟨sg, hbs3, bl, hv, fun x => rk x < rk s'.name, ⟨s', hmem, rfl, hrk s' hmem⟩, fun s hs h x hx => Nat.lt_trans (hrk s hs x hx) h, fun p H4 ns hp s4 hl4 hns hnl => ?_⟩
    refine ⟨_, hl4, flat_strs _, ?_⟩
    rw [inV_strs, if_neg (by rw [decide_eq_true_eq]; exact fun z => Nat.lt_irrefl _ (hns _ z))]
    exact s3.trans s4
  · obtain ⟨o, rfl, s3⟩ := z
    have s03 := s1.trans s3
    have ha3 := s03 _ _ ha
    show M _ _
    rw [← hM]
    clear hM M
    refine seq_i fun M hM => ?_
    walk_at "ra"
    refine lc_gen (wk_lst (xs := xs)) (fun H4 s => s _ _ ha3) (fun i acc H => acc.length ≤ i ∧ ∃ ns : List Str, acc = ns.map V.str ∧ ∀ n ∈ ns, ∃ s ∈ sg, s.name = n ∧ isFilt s = true) (by omega) (fun i acc H hi u => u.1) (fun _ _ _ _ u _ => u) (fun _ _ => ⟨Nat.le_refl _, [], rfl, fun _ z => (by cases z)⟩) (fun i acc H4 Ky Kn hi s4 u ky kn => ?_) (fun Dl acc H4 s4 hD hl4 u => ?_)
    · have hget : xs[i]? = some (xs.getD i .non) := by simp [hi]
      obtain ⟨s', hs', b', v', e, hb', hw'⟩ := all2_at hal hget
      obtain ⟨hacc, ns, rfl, hns⟩ := u
      rw [e]
      have hmem := List.mem_of_getElem? hs'
      have hb4 := (s03.trans s4) _ _ hb'
      have hle : (ns.map V.str).length ≤ i + 1 := by omega
      walk_at "ra"
      by_cases hk' : s'.sort = Str.ofString "filter"
      · rw [if_pos hk']
        refine ky _ _ (Same.refl _) ⟨by simpa using hacc, ns ++ [s'.name], by simp, fun n hm => ?_⟩
        rcases List.mem_append.mp hm with hm | hm
        · exact hns n hm
        · simp at hm
          subst hm
          refine ⟨s', hmem, rfl, ?_⟩
          cases s' with
          | filt => rfl
          | _ => exact absurd hk' (by show ¬ (Str.ofString _ : Str) = Str.ofString "filter"; decide +kernel)
      · rw [if_neg hk']
        exact kn _ (Same.refl _) ⟨hle, ns, rfl, hns⟩
    · obtain ⟨hacc, ns, rfl, hns⟩ := u
      have s04 := s03.trans s4
      subst hM
      walk_at "ra"
      refine for_gen (wk_lst (xs := ns.map V.str)) (fun i σ H5 => ∃ o1 o2, σ = [some (V.ref a), some (V.ref d), o1, some (V.ref Dl), o2, none] ∧ Same H4 H5) ⟨_, _, rfl, Same.refl _⟩ (fun i σ H5 _ z => ?_) (fun i σ H5 hi z => ?_) (fun σ H5 z => ?_)
      · obtain ⟨_, _, _, s5⟩ := z
        exact s5 _ _ hl4
      · obtain ⟨o1, o2, rfl, s5⟩ := z
        rw [List.length_map] at hi
        have hget : (ns.map V.str).getD i .non = .str ns[i] := by simp [hi]
        rw [hget]
        obtain ⟨sf, hsf, ef, hff⟩ := hns ns[i] (List.getElem_mem hi)
        obtain ⟨pf1, pf2⟩ := hflt sf hsf hff
        have hl5 := s5 _ _ hl4
        walk_at "ra"
        refine ⟨sg, hbs.same ((s3.trans s4).trans s5), bl, hv, PP, ⟨sf, hsf, ef, pf1⟩, hPP, fun p H6 ms hp s6 hl6 hms hml => ⟨_, hl6, ?_⟩⟩
        refine lc_map (wk_lst (xs := ms.map V.str)) (fun H s => s _ _ hl6) (fun i y H => y = .bl false) (by rw [List.length_map]; omega) (fun _ _ _ _ r _ => r) (fun j H7 Ky hj s7 ky => ?_) (fun D2 zs H7 s7 hD2 hl7 hly hy => ?_) mg_name
        · rw [List.length_map] at hj
          have hget : (ms.map V.str).getD j .non = .str ms[j] := by simp [hj]
          rw [hget]
          have hl57 := (s6.trans s7) _ _ hl5
          walk_at "ra"
          refine ⟨flat_strs _, ky _ _ (Same.refl _) ?_⟩
          rw [inV_strs, decide_eq_false]
          intro hz
          obtain ⟨sf2, hsf2, ef2, hff2⟩ := hns _ hz
          exact (hflt sf2 hsf2 hff2).2 (by rw [ef2]; exact hms _ (List.getElem_mem hj))
        · exact ⟨D2, rfl, _, hl7, of_getElem hy, (s5.trans s6).trans s7⟩
      · obtain ⟨o1, o2, rfl, s5⟩ := z
        walk_at "rd"
        exact q _ (s04.trans s5)
theorem ok_first_clash (T : TX K mg) (D : DF K mg "first_clash" s_first_clash ["signals", "blocks"] []) (G_signals_wrong : FO P w K mg base "signals_wrong" k ["signals"] [] spSignalsWrong) (G_many_wrong : FO P w K mg base "many_wrong" k ["signals", "blocks"] [] spManyWrong)
    (G_what_wrong : FO P w K mg base "what_wrong" k ["signals"] [] spWhatWrong) (G_blocks_wrong : FO P w K mg base "blocks_wrong" k ["signals", "blocks"] [] spBlocksWrong) (G_both_wrong : FO P w K mg base "both_wrong" k ["signals", "blocks"] [] spBothWrong)
    (G_ring_wrong : FO P w K mg base "ring_wrong" k ["signals"] [] spRingWrong) : FO P w K mg base "first_clash" (k + 1) ["signals", "blocks"] [] spFirstClash := by
  refine D.ok sc_first_clash (fun vs H Q E h => ?_) (fun fa cdv A outer s H vs Q E hr h => ?_)
  · obtain ⟨_, _, _, _, rfl, _⟩ := h
    rfl
  obtain ⟨sg, bl, a, b, rfl, ⟨xs, ha, hal⟩, ⟨ys, hb, hbl⟩, hv, q⟩ := h
  refine ⟨_, (pss_cons (ps_if (pt_not (pt_val (pe_callB (call_is (n := "list") (m := "list") (b := true) rfl) rfl T.isinstance (by decide +kernel) (pa_cons (pv 0) (pa_cons (pe_bltn (v := .ty "list") rfl T.list (by decide +kernel) rfl) pa_nil)))))
      (pss_one (ps_ret (pe_tupD (pa_cons pe_str (pa_cons pe_str pa_nil)))))
      pss_nil)
    (pss_cons (ps_set (i := 2) sc_first_clash.nd rfl (Or.inl rfl) (pe_fo G_signals_wrong hr (pa_cons (pv 0) pa_nil)))
    (pss_cons (ps_if (pt_cmpR op_isN (pv 2) pe_non (nomark _))
      (pss_one (ps_set (i := 2) sc_first_clash.nd rfl (Or.inl rfl) (pe_fo G_many_wrong hr (pa_cons (pv 0) (pa_cons (pv 1) pa_nil)))))
      pss_nil)
    (pss_cons (ps_if (pt_cmpR op_isN (pv 2) pe_non (nomark _))
      (pss_one (ps_set (i := 2) sc_first_clash.nd rfl (Or.inl rfl) (pe_fo G_what_wrong hr (pa_cons (pv 0) pa_nil))))
      pss_nil)
    (pss_cons (ps_if (pt_cmpR op_isN (pv 2) pe_non (nomark _))
      (pss_one (ps_set (i := 2) sc_first_clash.nd rfl (Or.inl rfl) (pe_fo G_blocks_wrong hr (pa_cons (pv 0) (pa_cons (pv 1) pa_nil)))))
      pss_nil)
    (pss_cons (ps_if (pt_cmpR op_isN (pv 2) pe_non (nomark _))
      (pss_one (ps_set (i := 2) sc_first_clash.nd rfl (Or.inl rfl) (pe_fo G_both_wrong hr (pa_cons (pv 0) (pa_cons (pv 1) pa_nil)))))
      pss_nil)
    (pss_cons (ps_if (pt_cmpR op_isN (pv 2) pe_non (nomark _))
      (pss_one (ps_set (i := 2) sc_first_clash.nd rfl (Or.inl rfl) (pe_fo G_ring_wrong hr (pa_cons (pv 0) pa_nil))))
      pss_nil)
    (pss_one (ps_ret (pv 2)))))))))), ?_⟩
  have hA : ∀ H', Same H H' → LS H' a sg := fun H' s => LS.same s ⟨xs, ha, hal⟩
  have hB : ∀ H', Same H H' → LK H' b bl := fun H' s => LK.same s ⟨ys, hb, hbl⟩
  walk_at "ra"
  refine ⟨sg, hA _ (Same.refl _), bl, hv, fun H1 s1 => ⟨sg, hA _ s1, bl, hB _ s1, hv, fun H2 s2 => ?_⟩⟩
  have s02 := s1.trans s2
  refine ⟨sg, hA _ s02, bl, hv, fun H3 s3 => ?_⟩
  have s03 := s02.trans s3
  refine ⟨sg, hA _ s03, bl, hB _ s03, hv, fun H4 s4 => ?_⟩
  have s04 := s03.trans s4
  refine ⟨sg, hA _ s04, bl, hB _ s04, hv, fun H5 s5 => ?_⟩
  have s05 := s04.trans s5
  exact ⟨sg, hA _ s05, bl, hv, fun H6 s6 => q _ (s05.trans s6)⟩
end
end K37
set_option maxHeartbeats 4000000
namespace K37
open PySem L2 TL
open PyProof.Rows hiding St
theorem sc_Design___init__ : FnScope ["self", "signals", "blocks", "clash", "kind", "who", "row"] ["self", "signals", "blocks"] (defScope s_Design___init__) := ⟨rfl, rfl, rfl, by decide +kernel, rfl, by decide +kernel, by decide +kernel⟩

theorem sc_Design_signals : FnScope ["self"] ["self"] (defScope s_Design_signals) := ⟨rfl, rfl, rfl, by decide +kernel, rfl, by decide +kernel, by decide +kernel⟩

theorem sc_Design_blocks : FnScope ["self"] ["self"] (defScope s_Design_blocks) := ⟨rfl, rfl, rfl, by decide +kernel, rfl, by decide +kernel, by decide +kernel⟩

theorem sc_Design___eq__ : FnScope ["self", "other"] ["self", "other"] (defScope s_Design___eq__) := ⟨rfl, rfl, rfl, by decide +kernel, rfl, by decide +kernel, by decide +kernel⟩

theorem sc_Design___len__ : FnScope ["self"] ["self"] (defScope s_Design___len__) := ⟨rfl, rfl, rfl, by decide +kernel, rfl, by decide +kernel, by decide +kernel⟩

def dsF (r p c d : Addr) : List (Str × V) := [("rows", .ref r), ("parts", .ref p), ("by_names", .ref c), ("beside", .ref d)]
theorem ds_rows {r p c d : Addr} : List.lookup (Str.ofString "rows") (dsF r p c d) = some (V.ref r) := by rfl
theorem ds_parts {r p c d : Addr} : List.lookup (Str.ofString "parts") (dsF r p c d) = some (V.ref p) := by rfl
theorem ds_signals {r p c d : Addr} : List.lookup (Str.ofString "signals") (dsF r p c d) = none := by rfl
theorem ds_blocks {r p c d : Addr} : List.lookup (Str.ofString "blocks") (dsF r p c d) = none := by rfl
theorem put_rows {r : V} : putF "rows" r [] = [((Str.ofString "rows"), r)] := by rfl
theorem put_parts {r p : V} : putF "parts" p [((Str.ofString "rows"), r)] = [((Str.ofString "rows"), r), ((Str.ofString "parts"), p)] := by
  simp only [putF, ofString_inj, String.reduceEq, if_false]
theorem put_by {r p c : V} : putF "by_names" c [((Str.ofString "rows"), r), ((Str.ofString "parts"), p)] = [((Str.ofString "rows"), r), ((Str.ofString "parts"), p), ((Str.ofString "by_names"), c)] := by
  simp only [putF, ofString_inj, String.reduceEq, if_false]
theorem put_beside {r p c d : V} : putF "beside" d [((Str.ofString "rows"), r), ((Str.ofString "parts"), p), ((Str.ofString "by_names"), c)] = [((Str.ofString "rows"), r), ((Str.ofString "parts"), p), ((Str.ofString "by_names"), c), ((Str.ofString "beside"), d)] := by
  simp only [putF, ofString_inj, String.reduceEq, if_false]
theorem lk_rows2 {r p : V} : List.lookup (Str.ofString "rows") [((Str.ofString "rows"), r), ((Str.ofString "parts"), p)] = some r := by rfl
theorem lk_rows3 {r p c : V} : List.lookup (Str.ofString "rows") [((Str.ofString "rows"), r), ((Str.ofString "parts"), p), ((Str.ofString "by_names"), c)] = some r := by rfl
/-- the instance at x is the design -/
def DS (C : Addr) (H : Hp) (x : Addr) (sg : List Sg) (bl : List Bk) : Prop := ∃ dx r p c d, H x = some (.ins C dx (dsF r p c d)) ∧ LS H r sg ∧ LK H p bl
theorem DS.same {C x : Addr} {H H' : Hp} {sg : List Sg} {bl : List Bk} (h : DS C H x sg bl) (s : Same H H') : DS C H' x sg bl := by
  obtain ⟨dx, r, p, c, d, h1, h2, h3⟩ := h
  exact ⟨dx, r, p, c, d, s _ _ h1, h2.same s, h3.same s⟩
theorem LS.but {a : Addr} {H H' : Hp} {x : Addr} {sg : List Sg} {C dx : Addr} {fs : List (Str × V)} (h : LS H a sg) (hx : H x = some (.ins C dx fs)) (b : But x H H') : LS H' a sg := by
  obtain ⟨xs, h1, h2⟩ := h
  refine ⟨xs, b _ _ (ne_of h1 hx (by intro z; cases z)) h1, all2_mono (fun _ _ z => RS.tk (fun c ys hc => b _ _ (ne_of hc hx (by intro z; cases z)) hc) z) h2⟩
theorem LK.but {a : Addr} {H H' : Hp} {x : Addr} {bl : List Bk} {C dx : Addr} {fs : List (Str × V)} (h : LK H a bl) (hx : H x = some (.ins C dx fs)) (b : But x H H') : LK H' a bl := by
  obtain ⟨xs, h1, h2⟩ := h
  refine ⟨xs, b _ _ (ne_of h1 hx (by intro z; cases z)) h1, all2_mono (fun _ _ z => RK.tk (fun c ys hc => b _ _ (ne_of hc hx (by intro z; cases z)) hc) z) h2⟩
def spInit (C : Addr) : Sp := fun vs H Q _ => ∃ (sg : List Sg) (bl : List Bk) (x a b dx : Addr), vs = [.ref x, .ref a, .ref b] ∧ H x = some (.ins C dx []) ∧ LS H a sg ∧ LK H b bl ∧ Valid sg bl ∧ ∀ H', But x H H' → DS C H' x sg bl → Q .non H'
def spSignals (C : Addr) : Sp := fun vs H Q _ => ∃ (sg : List Sg) (bl : List Bk) (x : Addr), vs = [.ref x] ∧ DS C H x sg bl ∧ ∀ p H', H p = none → Same H H' → LS H' p sg → Q (.ref p) H'
def spBlocks (C : Addr) : Sp := fun vs H Q _ => ∃ (sg : List Sg) (bl : List Bk) (x : Addr), vs = [.ref x] ∧ DS C H x sg bl ∧ ∀ p H', H p = none → Same H H' → LK H' p bl → Q (.ref p) H'
def DSeq (C : Addr) (a b : Addr) (H : Hp) : Prop := ∃ sg bl, Valid sg bl ∧ DS C H a sg bl ∧ DS C H b sg bl
def spLenD (C : Addr) : Sp := fun vs H Q _ => ∃ (sg : List Sg) (bl : List Bk) (x : Addr), vs = [.ref x] ∧ DS C H x sg bl ∧ Q (.int (sg.length : Int)) H
local macro_rules | `(tactic| walk_at "rd") => `(tactic| simp only [tYes, wipe, HO.lst.injEq, HO.tup.injEq, HO.dK.injEq, Nat.reduceAdd, Nat.reduceLeDiff, Nat.reduceSub, Int.reduceLE, Int.reduceLT, Int.reduceNeg, Nat.zero_add, Int.reduceEq, cut_head, cut_tail, cut_mid, cut_three, c_cast0, c_cast1, c_cast2, c_cast3, c_cast4, z_lit, List.getD_eq_getElem?_getD, Option.getD_some, tLc_eq, tFor_eq, cxOf, Cx.nox, Cx.wish, tSeq, tIfS, tOr, tAnd, tNot, tB, tCB, tCons, tVar, tC, tNil, tTest, tChain, rI0, rI, tOp, rIxS, rIxL, rIxT, tRet, tNext, tAsg, gName, tAndV, tOrV, tNotV, tIf, tIsN, tNotN, tCall, tDrop, tBM, tBM0, rEq, rNe, tRetN, tSl, tNoPart, tPart, tTupD, tLstD, tInD, rIsK, rLenS, rLenL, rLenT, rAllT, rAnyF, rInK, rInL, rSlLD, rSlTD, rSlS, rCatD, rCatTD, rAppD, rExtD, rPopD, rPopAtD, rListD, rTupleD, iLst, iTpl, iStr, rIxLH, rIxTH, gTupH, gLstH, gStar0, gStar1, gStar2, rSumH, rAddS2, tJoinS, tFmtS, tFmtI, tJoined, tJoined_nil, tJoined_cons, rIsG, app_empty, tFldD, sFldD, tMkD, tMoD, rIsC, rLenO, rEqO, HO.ins.injEq, exists_eq, tNilL, tML, tML0, tMS, iEnumH, tCallK, rStrI, tGetS, tGet1S, tGet2S, rListKD, tDc_eq, tLc2_eq, tKGet, gCons, gNil, tChain3, tPartD, tSplitD, tPar, New, Chg, rListTD, atI_0, atI_1, atI_2, atI_3, sign_inj, and_false, false_and, or_false, false_or, or_true, true_or, List.take_succ_cons, List.take_zero, List.drop_succ_cons, List.drop_zero, forall_const, exists_false, not_false_eq_true, not_true_eq_false, if_true, if_false, iRng1, KindV,
  L2.start, List.map_cons, List.map_nil, List.length_cons, List.length_nil, List.replicate, List.cons_append, List.nil_append, List.append_nil, List.set_cons_zero, List.set_cons_succ, List.getElem?_cons_zero, List.getElem?_cons_succ, Option.some.injEq, exists_eq_left', exists_eq_left, V.int.injEq, V.str.injEq, V.bl.injEq, V.ref.injEq, V.ty.injEq, true_and, and_true, List.cons.injEq, exists_and_left, exists_eq', and_assoc, scal, ofString_inj, String.reduceEq, reduceIte, decide_eq_true_eq, decide_eq_false_iff_not, Bool.not_true, Bool.not_false, Bool.not_eq_true', inV_cons, inV_nil, eqV_ss, eqV_ii, flatV, List.all_cons, List.all_nil, Bool.and_true, Bool.or_false, Bool.true_and, Bool.false_or, decide_true, decide_false, Bool.true_or, Bool.false_eq_true, reduceCtorEq, spFirstClash, spNamesBeside, put_rows, put_parts, put_by, put_beside, lk_rows2, lk_rows3, ds_rows, ds_parts, ds_signals, ds_blocks])
local macro_rules | `(tactic| walk_at "ra") => `(tactic| simp only [tYes, wipe, HO.lst.injEq, HO.tup.injEq, HO.dK.injEq, Nat.reduceAdd, Nat.reduceLeDiff, Nat.reduceSub, Int.reduceLE, Int.reduceLT, Int.reduceNeg, Nat.zero_add, Int.reduceEq, cut_head, cut_tail, cut_mid, cut_three, c_cast0, c_cast1, c_cast2, c_cast3, c_cast4, z_lit, List.getD_eq_getElem?_getD, Option.getD_some, tLc_eq, tFor_eq, cxOf, Cx.nox, Cx.wish, tSeq, tIfS, tOr, tAnd, tNot, tB, tCB, tCons, tVar, tC, tNil, tTest, tChain, rI0, rI, tOp, rIxS, rIxL, rIxT, tRet, tNext, tAsg, gName, tAndV, tOrV, tNotV, tIf, tIsN, tNotN, tCall, tDrop, tBM, tBM0, rEq, rNe, tRetN, tSl, tNoPart, tPart, tTupD, tLstD, tInD, rIsK, rLenS, rLenL, rLenT, rAllT, rAnyF, rInK, rInL, rSlLD, rSlTD, rSlS, rCatD, rCatTD, rAppD, rExtD, rPopD, rPopAtD, rListD, rTupleD, iLst, iTpl, iStr, rIxLH, rIxTH, gTupH, gLstH, gStar0, gStar1, gStar2, rSumH, rAddS2, tJoinS, tFmtS, tFmtI, tJoined, tJoined_nil, tJoined_cons, rIsG, app_empty, tFldD, sFldD, tMkD, tMoD, rIsC, rLenO, rEqO, HO.ins.injEq, exists_eq, tNilL, tML, tML0, tMS, iEnumH, tCallK, rStrI, tGetS, tGet1S, tGet2S, rListKD, tDc_eq, tLc2_eq, tKGet, gCons, gNil, tChain3, tPartD, tSplitD, tPar, New, Chg, rListTD, atI_0, atI_1, atI_2, atI_3, sign_inj, and_false, false_and, or_false, false_or, or_true, true_or, List.take_succ_cons, List.take_zero, List.drop_succ_cons, List.drop_zero, forall_const, exists_false, not_false_eq_true, not_true_eq_false, if_true, if_false, iRng1, KindV,
  L2.start, List.map_cons, List.map_nil, List.length_cons, List.length_nil, List.replicate, List.cons_append, List.nil_append, List.append_nil, List.set_cons_zero, List.set_cons_succ, List.getElem?_cons_zero, List.getElem?_cons_succ, Option.some.injEq, exists_eq_left', exists_eq_left, V.int.injEq, V.str.injEq, V.bl.injEq, V.ref.injEq, V.ty.injEq, true_and, and_true, List.cons.injEq, exists_and_left, exists_eq', and_assoc, scal, ofString_inj, String.reduceEq, reduceIte, decide_eq_true_eq, decide_eq_false_iff_not, Bool.not_true, Bool.not_false, Bool.not_eq_true', inV_cons, inV_nil, eqV_ss, eqV_ii, flatV, List.all_cons, List.all_nil, Bool.and_true, Bool.or_false, Bool.true_and, Bool.false_or, decide_true, decide_false, Bool.true_or, Bool.false_eq_true, reduceCtorEq, spFirstClash, spNamesBeside, put_rows, put_parts, put_by, put_beside, lk_rows2, lk_rows3, ds_rows, ds_parts, ds_signals, ds_blocks, *])

theorem lay_of {d : PyData} (h : SeqAt.shaped d = true) : PyData.canLay0 d = true := by
  unfold SeqAt.shaped at h
  exact (Bool.and_eq_true_iff.mp h).1
section
variable {P : Program} {w : World} {K : PySem.W.Frag} {mg : Str → Option Value} {base : Heap} {k : Nat} {C : Addr}
theorem ok_Design_init (T : TX K mg) (kD : KCls K mg "Design" C) (n_rows : NoAttr K C "rows") (n_parts : NoAttr K C "parts") (n_by_names : NoAttr K C "by_names") (n_beside : NoAttr K C "beside") {dvs : List V} (D : DC K C "Design.__init__" s_Design___init__ ["self", "signals", "blocks"] dvs)
    (G_first_clash : FO P w K mg base "first_clash" k ["signals", "blocks"] [] spFirstClash) (G_names_beside : FO P w K mg base "names_beside" k ["signals"] [] spNamesBeside) :
    FC P w K mg base C (k + 2) ["self", "signals", "blocks"] dvs (spInit C) := by
  refine D.ok sc_Design___init__ (fun vs H Q E h => ?_) (fun fa cdv A outer s H vs Q E hr h => ?_)
  · obtain ⟨_, _, _, _, _, _, rfl, _⟩ := h
    rfl
  obtain ⟨sg, bl, x, a, b, dx, rfl, hx, ha, hb, hv, q⟩ := h
  refine ⟨_, (pss_cons (ps_set (i := 3) sc_Design___init__.nd rfl (Or.inl rfl) (pe_fo G_first_clash hr (pa_cons (pv 1) (pa_cons (pv 2) pa_nil))))
    (pss_cons (ps_if (pt_cmpR op_notN (pv 3) pe_non (nomark _))
      (pss_cons (ps_asg (pv 3) (pg_tpl 2 rfl (pgs_cons (pg_name (i := 4) sc_Design___init__.nd rfl (Or.inl rfl)) (pgs_cons (pg_name (i := 5) sc_Design___init__.nd rfl (Or.inl rfl)) pgs_nil))))
    (pss_one ps_never))
      pss_nil)
    (pss_cons (ps_fldD kD n_rows (pv 0) (pe_callTy call_listD rfl T.list (by decide +kernel) (pa_cons (pv 1) pa_nil)))
    (pss_cons (ps_fldD kD n_parts (pv 0) (pe_callTy call_listD rfl T.list (by decide +kernel) (pa_cons (pv 2) pa_nil)))
    (pss_cons (ps_fldD kD n_by_names (pv 0) (pe_dc (own := [("row", 6)]) (tt := tYes) rfl sc_Design___init__.nd (pi_lst (pe_fldD kD n_rows (pv 0))) (blkOk_by (N := ["self", "signals", "blocks", "clash", "kind", "who", "row"]) (sc := defScope s_Design___init__) (by decide +kernel)) (fun _ _ _ _ _ => (pg_name (i := 6) sc_Design___init__.nd rfl (Or.inl rfl))) (fun _ _ _ _ _ => pts_nil) (fun _ _ _ _ _ => (pe_ix ix_tpl (pv 6) pe_int (fun _ _ => rfl))) (fun _ _ _ _ _ => (pv 6))))
    (pss_one (ps_fldD kD n_beside (pv 0) (pe_fo G_names_beside hr (pa_cons (pe_fldD kD n_rows (pv 0)) pa_nil))))))))), ?_⟩
  refine seq_i fun M hM => ?_
  walk_at "rd"
  refine ⟨sg, ha, bl, hb, hv, fun H1 s1 => ?_⟩
  subst hM
  obtain ⟨xs, ha1, hal1⟩ := ha.same s1
  obtain ⟨ys, hb1, hbl1⟩ := hb.same s1
  have hx1 := s1 _ _ hx
  refine seq_i fun M hM => ?_
  walk_at "ra"
  subst hM
  refine seq_i fun M hM => ?_
  walk_at "ra"
  intro pr H2 hpr s2 hl2
  have hA2 : LS H2 pr sg := ⟨xs, hl2, all2_mono (fun _ _ z => RS.tk (same_tk s2) z) hal1⟩
  have hB2 : LK H2 b bl := LK.same s2 ⟨ys, hb1, hbl1⟩
  have s02 := s1.trans s2
  refine ⟨dx, [], s2 _ _ hx1, by decide, fun H3 b3 hx3 => ?_⟩
  rw [put_rows] at hx3
  have b03 : But x H H3 := (But.of s02).trans b3
  obtain ⟨ys3, hb3, hbl3⟩ := hB2.but (s2 _ _ hx1) b3
  have hA3 := hA2.but (s2 _ _ hx1) b3
  clear hb1 hbl1
  subst hM
  refine seq_i fun M hM => ?_
  walk_at "ra"
  intro pp H4 hpp s4 hl4
  have hA4 := hA3.same s4
  have hB4 : LK H4 pp bl := ⟨ys3, hl4, all2_mono (fun _ _ z => RK.tk (same_tk s4) z) hbl3⟩
  refine ⟨dx, _, s4 _ _ hx3, by show 1 < 1000; decide, fun H5 b5 hx5 => ?_⟩
  rw [put_parts] at hx5
  have b05 : But x H H5 := (b03.same s4).trans b5
  have hB5 := hB4.but (s4 _ _ hx3) b5
  obtain ⟨xs5, ha5, hal5⟩ := hA4.but (s4 _ _ hx3) b5
  have hlen5 := all2_len hal5
  have hls := hv.ls
  subst hM
  refine seq_i fun M hM => ?_
  walk_at "ra"
  refine dc_text (wk_lst (xs := xs5)) (fun H s => s _ _ ha5) (fun i kvs H => True) (by omega) (fun _ _ _ _ _ _ => trivial) (fun _ _ => trivial) (fun i kvs H6 Ky Kn hi s6 u ky => ?_) (fun Dl kvs H6 s6 hD hl6 u => ?_)
  · have hget : xs5[i]? = some (xs5.getD i .non) := by simp [hi]
    obtain ⟨s', hs', b', v', e, hb', hw'⟩ := all2_at hal5 hget
    rw [e]
    have hb6 := s6 _ _ hb'
    walk_at "ra"
    exact ky _ _ _ (Same.refl _) trivial
  have hB6 := hB5.same s6
  refine ⟨dx, _, s6 _ _ hx5, by show 2 < 1000; decide, fun H7 b7 hx7 => ?_⟩
  rw [put_by] at hx7
  have b07 : But x H H7 := (b05.same s6).trans b7
  have hB7 := hB6.but (s6 _ _ hx5) b7
  have hA7 := (LS.same s6 ⟨xs5, ha5, hal5⟩).but (s6 _ _ hx5) b7
  subst hM
  walk_at "ra"
  refine ⟨sg, hA7, bl, hv, fun pd H8 hpd s8 hbs => ?_⟩
  refine ⟨dx, _, s8 _ _ hx7, by show 3 < 1000; decide, fun H9 b9 hx9 => ?_⟩
  rw [put_beside] at hx9
  exact q _ ((b07.same s8).trans b9) ⟨dx, _, _, _, _, hx9, (hA7.same s8).but (s8 _ _ hx7) b9, (hB7.same s8).but (s8 _ _ hx7) b9⟩
theorem ok_Design_signals (T : TX K mg) (kD : KCls K mg "Design" C) (n_rows : NoAttr K C "rows") (D : DM K C "signals" "Design.signals" s_Design_signals ["self"] []) : FM P w K mg base C "signals" (k + 1) ["self"] [] (spSignals C) := by
  refine D.ok sc_Design_signals (fun vs H Q E h => ?_) (fun fa cdv A outer s H vs Q E hr h => ?_)
  · obtain ⟨_, _, _, rfl, _⟩ := h
    rfl
  obtain ⟨sg, bl, x, rfl, ⟨dx, r, p, c, d, hx, ⟨xs, ha, hal⟩, hb⟩, q⟩ := h
  refine ⟨_, (pss_one (ps_ret (pe_callTy call_listD rfl T.list (by decide +kernel) (pa_cons (pe_fldD kD n_rows (pv 0)) pa_nil)))), ?_⟩
  walk_at "ra"
  exact fun p H' hp s1 hl => q _ _ hp s1 ⟨xs, hl, all2_mono (fun _ _ z => RS.tk (same_tk s1) z) hal⟩
theorem ok_Design_blocks (T : TX K mg) (kD : KCls K mg "Design" C) (n_parts : NoAttr K C "parts") (D : DM K C "blocks" "Design.blocks" s_Design_blocks ["self"] []) : FM P w K mg base C "blocks" (k + 1) ["self"] [] (spBlocks C) := by
  refine D.ok sc_Design_blocks (fun vs H Q E h => ?_) (fun fa cdv A outer s H vs Q E hr h => ?_)
  · obtain ⟨_, _, _, rfl, _⟩ := h
    rfl
  obtain ⟨sg, bl, x, rfl, ⟨dx, r, p, c, d, hx, ha, ⟨xs, hb, hbl⟩⟩, q⟩ := h
  refine ⟨_, (pss_one (ps_ret (pe_callTy call_listD rfl T.list (by decide +kernel) (pa_cons (pe_fldD kD n_parts (pv 0)) pa_nil)))), ?_⟩
  walk_at "ra"
  exact fun p H' hp s1 hl => q _ _ hp s1 ⟨xs, hl, all2_mono (fun _ _ z => RK.tk (same_tk s1) z) hbl⟩
theorem ok_Design_len (T : TX K mg) (kD : KCls K mg "Design" C) (n_rows : NoAttr K C "rows") (D : DM K C "__len__" "Design.__len__" s_Design___len__ ["self"] []) : FM P w K mg base C "__len__" (k + 1) ["self"] [] (spLenD C) := by
  refine D.ok sc_Design___len__ (fun vs H Q E h => ?_) (fun fa cdv A outer s H vs Q E hr h => ?_)
  · obtain ⟨_, _, _, rfl, _⟩ := h
    rfl
  obtain ⟨sg, bl, x, rfl, ⟨dx, r, p, c, d, hx, ⟨xs, ha, hal⟩, hb⟩, q⟩ := h
  have hlen := all2_len hal
  refine ⟨_, (pss_one (ps_ret (pe_callB call_lenL rfl T.len PySem.boot_len (pa_cons (pe_fldD kD n_rows (pv 0)) pa_nil)))), ?_⟩
  rw [hlen] at q
  walk_at "ra"
theorem ok_Design_eq (T : TX K mg) (kD : KCls K mg "Design" C) (n_rows : NoAttr K C "rows") (n_parts : NoAttr K C "parts") (D : DM K C "__eq__" "Design.__eq__" s_Design___eq__ ["self", "other"] []) : FM P w K mg base C "__eq__" (k + 1) ["self", "other"] [] (spEq (DSeq C)) := by
  refine D.ok sc_Design___eq__ (fun vs H Q E h => ?_) (fun fa cdv A outer s H vs Q E hr h => ?_)
  · obtain ⟨_, _, rfl, _⟩ := h
    rfl
  obtain ⟨x, y, rfl, ⟨sg, bl, hv, ⟨dx, r, p, c, d, hx, ha, hb⟩, ⟨dy, r', p', c', d', hy, ha', hb'⟩⟩, q⟩ := h
  refine ⟨_, (pss_one (ps_ret (pe_and (pe_callB (call_isC kD) rfl T.isinstance (by decide +kernel) (pa_cons (pv 1) (pa_cons (pe_cls kD) pa_nil))) (pe_and (pe_cmpR (op_eqD hr.units) (pe_fldD kD n_rows (pv 0)) (pe_fldD kD n_rows (pv 1)) (nomark _)) (pe_one (pe_cmpR (op_eqD hr.units) (pe_fldD kD n_parts (pv 0)) (pe_fldD kD n_parts (pv 1)) (nomark _))))))), ?_⟩
  walk_at "ra"
  have hx' := sgD_shaped hv
  have hy' := blD_shaped hv
  refine ⟨sgD sg, sgD sg, ha.dp, ha'.dp, hx', hx', ?_⟩
  rw [SeqAt.eqv_refl _ (lay_of hx')]
  refine ⟨_, rfl, ?_⟩
  rw [if_pos rfl]
  refine ⟨_, _, hx, _, ds_parts, _, _, hy, _, ds_parts, blD bl, blD bl, hb.dp, hb'.dp, hy', hy', ?_⟩
  rw [SeqAt.eqv_refl _ (lay_of hy')]
  exact q _ (Ext.rfl')
end
end K37
set_option maxHeartbeats 4000000
namespace K37
open PySem L2 TL
open PyProof.Rows hiding St
theorem sc_term_text : FnScope ["term", "things", "word", "first", "rest", "one", "number"] ["term"] (defScope s_term_text) := ⟨rfl, rfl, rfl, by decide +kernel, rfl, by decide +kernel, by decide +kernel⟩

theorem sc_driver_text : FnScope ["driver", "when", "term"] ["driver"] (defScope s_driver_text) := ⟨rfl, rfl, rfl, by decide +kernel, rfl, by decide +kernel, by decide +kernel⟩

theorem sc_what_text : FnScope ["sort", "what", "driver"] ["sort", "what"] (defScope s_what_text) := ⟨rfl, rfl, rfl, by decide +kernel, rfl, by decide +kernel, by decide +kernel⟩

theorem sc_body_lines : FnScope ["body", "ahead", "found", "word", "what", "rest", "first", "second", "inner"] ["body", "ahead"] (defScope s_body_lines) := ⟨rfl, rfl, rfl, by decide +kernel, rfl, by decide +kernel, by decide +kernel⟩

def spTermText (n : Nat) : Sp := fun vs H Q _ => ∃ (G : Str → Nat → Prop) (t : Tm) (k : Nat) (v : V), vs = [v] ∧ RT H t v ∧ Rng G ∧ Fit G t k ∧ wt t ≤ 60 ∧ deep t ≤ n ∧ ∀ H', Same H H' → Q (.str (tx t)) H'
def spDriverText : Sp := fun vs H Q _ => ∃ (G : Str → Nat → Prop) (d : Tm × Tm) (k : Nat) (v : V), vs = [v] ∧ RD H d v ∧ Rng G ∧ TermOk G d.1 1 ∧ TermOk G d.2 k ∧ ∀ H', Same H H' → Q (.str (drvTx d)) H'
def spWhatText : Sp := fun vs H Q _ => ∃ (G : Str → Nat → Prop) (s : Sg) (v : V), vs = [.str s.sort, v] ∧ RW H s v ∧ Rng G ∧ WhatOk G s ∧ ∀ H', Same H H' → Q (.str (whatTx s)) H'
def spBodyLines (n : Nat) : Sp := fun vs H Q _ => ∃ (G Kp : Str → Nat → Prop) (f : Str → Str) (b : Bd) (p : Addr) (xs : List V) (ah : Str), vs = [.ref p, .str ah] ∧ H p = some (.tup xs) ∧ RBl H b xs ∧ Rng G ∧ (∀ n k, Kp n k → NameOk n) ∧ BdOk G Kp f b ∧ bdeep b < n ∧ bwt b ≤ 1000 ∧ ah.length + 2 * bdeep b ≤ 20 ∧
  ∀ p H', H p = none → Same H H' → H' p = some (.lst ((blines ah b).map V.str)) → Q (.ref p) H'
local macro_rules | `(tactic| walk_at "rd") => `(tactic| simp only [tYes, wipe, HO.lst.injEq, HO.tup.injEq, HO.dK.injEq, Nat.reduceAdd, Nat.reduceLeDiff, Nat.reduceSub, Int.reduceLE, Int.reduceLT, Int.reduceNeg, Nat.zero_add, Int.reduceEq, cut_head, cut_tail, cut_mid, cut_three, c_cast0, c_cast1, c_cast2, c_cast3, c_cast4, z_lit, List.getD_eq_getElem?_getD, Option.getD_some, tLc_eq, tFor_eq, cxOf, Cx.nox, Cx.wish, tSeq, tIfS, tOr, tAnd, tNot, tB, tCB, tCons, tVar, tC, tNil, tTest, tChain, rI0, rI, tOp, rIxS, rIxL, rIxT, tRet, tNext, tAsg, gName, tAndV, tOrV, tNotV, tIf, tIsN, tNotN, tCall, tDrop, tBM, tBM0, rEq, rNe, tRetN, tSl, tNoPart, tPart, tTupD, tLstD, tInD, rIsK, rLenS, rLenL, rLenT, rAllT, rAnyF, rInK, rInL, rSlLD, rSlTD, rSlS, rCatD, rCatTD, rAppD, rExtD, rPopD, rPopAtD, rListD, rTupleD, iLst, iTpl, iStr, rIxLH, rIxTH, gTupH, gLstH, gStar0, gStar1, gStar2, rSumH, rAddS2, tJoinS, tFmtS, tFmtI, tJoined, tJoined_nil, tJoined_cons, rIsG, app_empty, tFldD, sFldD, tMkD, tMoD, rIsC, rLenO, rEqO, HO.ins.injEq, exists_eq, tNilL, tML, tML0, tMS, iEnumH, tCallK, rStrI, tGetS, tGet1S, tGet2S, rListKD, tDc_eq, tLc2_eq, tKGet, gCons, gNil, tChain3, tPartD, tSplitD, tPar, New, Chg, rListTD, atI_0, atI_1, atI_2, atI_3, sign_inj, and_false, false_and, or_false, false_or, or_true, true_or, List.take_succ_cons, List.take_zero, List.drop_succ_cons, List.drop_zero, forall_const, exists_false, not_false_eq_true, not_true_eq_false, if_true, if_false, iRng1, KindV,
  L2.start, List.map_cons, List.map_nil, List.length_cons, List.length_nil, List.replicate, List.cons_append, List.nil_append, List.append_nil, List.set_cons_zero, List.set_cons_succ, List.getElem?_cons_zero, List.getElem?_cons_succ, Option.some.injEq, exists_eq_left', exists_eq_left, V.int.injEq, V.str.injEq, V.bl.injEq, V.ref.injEq, V.ty.injEq, true_and, and_true, List.cons.injEq, exists_and_left, exists_eq', and_assoc, scal, ofString_inj, String.reduceEq, reduceIte, decide_eq_true_eq, decide_eq_false_iff_not, Bool.not_true, Bool.not_false, Bool.not_eq_true', inV_cons, inV_nil, eqV_ss, eqV_ii, flatV, List.all_cons, List.all_nil, Bool.and_true, Bool.or_false, Bool.true_and, Bool.false_or, decide_true, decide_false, Bool.true_or, Bool.false_eq_true, reduceCtorEq, spTermsIn, spTermText, spDriverText, spWhatText, spBodyLines, spSignals, spBlocks])
local macro_rules | `(tactic| walk_at "ra") => `(tactic| simp only [tYes, wipe, HO.lst.injEq, HO.tup.injEq, HO.dK.injEq, Nat.reduceAdd, Nat.reduceLeDiff, Nat.reduceSub, Int.reduceLE, Int.reduceLT, Int.reduceNeg, Nat.zero_add, Int.reduceEq, cut_head, cut_tail, cut_mid, cut_three, c_cast0, c_cast1, c_cast2, c_cast3, c_cast4, z_lit, List.getD_eq_getElem?_getD, Option.getD_some, tLc_eq, tFor_eq, cxOf, Cx.nox, Cx.wish, tSeq, tIfS, tOr, tAnd, tNot, tB, tCB, tCons, tVar, tC, tNil, tTest, tChain, rI0, rI, tOp, rIxS, rIxL, rIxT, tRet, tNext, tAsg, gName, tAndV, tOrV, tNotV, tIf, tIsN, tNotN, tCall, tDrop, tBM, tBM0, rEq, rNe, tRetN, tSl, tNoPart, tPart, tTupD, tLstD, tInD, rIsK, rLenS, rLenL, rLenT, rAllT, rAnyF, rInK, rInL, rSlLD, rSlTD, rSlS, rCatD, rCatTD, rAppD, rExtD, rPopD, rPopAtD, rListD, rTupleD, iLst, iTpl, iStr, rIxLH, rIxTH, gTupH, gLstH, gStar0, gStar1, gStar2, rSumH, rAddS2, tJoinS, tFmtS, tFmtI, tJoined, tJoined_nil, tJoined_cons, rIsG, app_empty, tFldD, sFldD, tMkD, tMoD, rIsC, rLenO, rEqO, HO.ins.injEq, exists_eq, tNilL, tML, tML0, tMS, iEnumH, tCallK, rStrI, tGetS, tGet1S, tGet2S, rListKD, tDc_eq, tLc2_eq, tKGet, gCons, gNil, tChain3, tPartD, tSplitD, tPar, New, Chg, rListTD, atI_0, atI_1, atI_2, atI_3, sign_inj, and_false, false_and, or_false, false_or, or_true, true_or, List.take_succ_cons, List.take_zero, List.drop_succ_cons, List.drop_zero, forall_const, exists_false, not_false_eq_true, not_true_eq_false, if_true, if_false, iRng1, KindV,
  L2.start, List.map_cons, List.map_nil, List.length_cons, List.length_nil, List.replicate, List.cons_append, List.nil_append, List.append_nil, List.set_cons_zero, List.set_cons_succ, List.getElem?_cons_zero, List.getElem?_cons_succ, Option.some.injEq, exists_eq_left', exists_eq_left, V.int.injEq, V.str.injEq, V.bl.injEq, V.ref.injEq, V.ty.injEq, true_and, and_true, List.cons.injEq, exists_and_left, exists_eq', and_assoc, scal, ofString_inj, String.reduceEq, reduceIte, decide_eq_true_eq, decide_eq_false_iff_not, Bool.not_true, Bool.not_false, Bool.not_eq_true', inV_cons, inV_nil, eqV_ss, eqV_ii, flatV, List.all_cons, List.all_nil, Bool.and_true, Bool.or_false, Bool.true_and, Bool.false_or, decide_true, decide_false, Bool.true_or, Bool.false_eq_true, reduceCtorEq, spTermsIn, spTermText, spDriverText, spWhatText, spBodyLines, spSignals, spBlocks, *])

section
variable {P : Program} {w : World} {K : PySem.W.Frag} {mg : Str → Option Value} {base : Heap} {k : Nat} {C : Addr}
theorem ok_term_text {n : Nat} (T : TX K mg) (D : DF K mg "term_text" s_term_text ["term"] []) (G_term_text : FO P w K mg base "term_text" k ["term"] [] (spTermText n)) (G_terms_in : FO P w K mg base "terms_in" k ["term"] [] spTermsIn) :
    FO P w K mg base "term_text" (k + 1) ["term"] [] (spTermText (n + 1)) := by
  refine D.ok sc_term_text (fun vs H Q E h => ?_) (fun fa cdv A outer s H vs Q E hr h => ?_)
  · obtain ⟨_, _, _, _, rfl, _⟩ := h
    rfl
  obtain ⟨G, t, kk, v, rfl, ht, hG, hf, hw, hn, q⟩ := h
  refine ⟨_, (pss_cons (ps_asg (pv 0) (pg_str2 rfl (pgs_cons (pg_name (i := 2) sc_term_text.nd rfl (Or.inl rfl)) (pgs_cons (pg_name (i := 3) sc_term_text.nd rfl (Or.inl rfl)) (pgs_cons (pg_name (i := 4) sc_term_text.nd rfl (Or.inl rfl)) pgs_nil)))))
    (pss_cons (ps_if (pt_cmpR op_eq (pv 2) pe_str (nomark _))
      (pss_one (ps_ret (pe_op op_addS2 (pe_gv T.c_MARK) (pv 3))))
      pss_nil)
    (pss_cons (ps_if (pt_cmpR op_eq (pv 2) pe_str (nomark _))
      (pss_one (ps_ret (pv 3)))
      pss_nil)
    (pss_cons (ps_setLc (i := 1) (own := [("one", 5)]) (tt := tYes) rfl sc_term_text.nd rfl rfl (sw_true rfl rfl rfl (by decide +kernel)) (pi_lst (pe_fo G_terms_in hr (pa_cons (pv 0) pa_nil))) (blkOk_by (N := ["term", "things", "word", "first", "rest", "one", "number"]) (sc := defScope s_term_text) (by decide +kernel)) (fun _ _ _ _ _ => (pg_name (i := 5) sc_term_text.nd rfl (Or.inl rfl))) (fun _ _ _ _ _ => pts_nil) (fun _ _ _ _ _ => (pe_fo G_term_text hr (pa_cons (pv 5) pa_nil))))
    (pss_cons (ps_if (pt_cmpR op_eq (pv 2) pe_str (nomark _))
      (pss_one (ps_expr (pe_bmL PySem.F.slot_list_extend PySem.F.type_list_extend mt_extD (pv 1) (pa_cons (pe_lc (own := [("number", 6)]) (tt := tYes) rfl sc_term_text.nd (pi_lst (pv 4)) (blkOk_by (N := ["term", "things", "word", "first", "rest", "one", "number"]) (sc := defScope s_term_text) (by decide +kernel)) (fun _ _ _ _ _ => (pg_name (i := 6) sc_term_text.nd rfl (Or.inl rfl))) (fun _ _ _ _ _ => pts_nil) (fun _ _ _ _ _ => (pe_callTy call_strI rfl T.str (by decide +kernel) (pa_cons (pv 6) pa_nil)))) pa_nil))))
      pss_nil)
    (pss_one (ps_ret (pe_joined2 (.cons (pe_fmtS (pv 2)) (.cons pe_str (.cons (pe_fmtS (pe_joinS (pe_gv T.c_BETWEEN) (pv 1))) (.cons pe_str .nil)))))))))))), ?_⟩
  have hfs : Fits t := ⟨G, kk, hG, hf⟩
  have htl := tx_len t kk hf
  refine seq_i fun M hM => ?_
  rcases tm_leaf t with ⟨x, rfl⟩ | ⟨x, rfl⟩ | ⟨n2, n3⟩
  · obtain ⟨a, rfl, ha⟩ := ht
    have hl : x.length = kk := by rw [len_tl]; exact ValOk.len hf
    have h8 := ValOk.l8 hf
    walk_at "ra"
    intro p H' hp s1 hl1
    subst hM
    walk_at "ra"
    refine ⟨?_, q _ s1⟩
    rw [slen_lit]
    show 1 + kk ≤ _
    omega
  · obtain ⟨a, rfl, ha⟩ := ht
    walk_at "ra"
    intro p H' hp s1 hl1
    subst hM
    walk_at "ra"
    exact q _ s1
  · obtain ⟨a, args, rfl, ha, hc⟩ := RT.cell ht
    have hargs : ∃ x rest, args = x :: rest ∧ wordOf t ≠ "is" ∧ wordOf t ≠ "of" ∧ wordOf t ∈ (["not", "any", "all", "and", "or", "xor", "plus", "same", "less", "join", "pick", "part", "is", "of"] : List Str) ∧ ((∃ s hi lo, t = .t s hi lo ∧ rest = [.int (hi : Int), .int (lo : Int)] ∧ hi < 10 ∧ lo < 10) ∨ (∀ s hi lo, t ≠ .t s hi lo) ∧ wordOf t ≠ "part" ∧ argTx t = (subs t).map tx) := by
      rcases hc with ⟨v, rfl, _⟩ | ⟨v, rfl, _⟩ | ⟨t', hi, lo, v, rfl, rfl, ht'⟩ | ⟨n1, n2, n3, hal⟩
      · exact absurd rfl (n2 v)
      · exact absurd rfl (n3 v)
      · obtain ⟨j, hfa, hj, hlo, hk⟩ := hf
        have := Fit.range hG _ _ hfa
        exact ⟨_, _, rfl, show (Str.ofString "part" : Str) ≠ Str.ofString "is" by decide +kernel, show (Str.ofString "part" : Str) ≠ Str.ofString "of" by decide +kernel, by simp [wordOf], .inl ⟨t', hi, lo, rfl, rfl, by omega, by omega⟩⟩
      · obtain ⟨w1, w2, w3, w4, w5⟩ := hfs.word n1 n2 n3
        have := all2_len hal
        have w6 : wordOf t ∈ (["not", "any", "all", "and", "or", "xor", "plus", "same", "less", "join", "pick", "part", "is", "of"] : List Str) := by
          cases t with
          | u w s => have := Fit.wordu hf; simp only [wordOf]; simp only [List.mem_cons, List.not_mem_nil, or_false] at this ⊢; rcases this with h | h | h <;> simp [h]
          | b w s u => have := Fit.word hf; simp only [wordOf]; simp only [List.mem_cons, List.not_mem_nil, or_false] at this ⊢; rcases this with h | h | h | h | h | h | h <;> simp [h]
          | _ => simp [wordOf]
        cases args with
        | nil =>
          exfalso
          cases t <;> simp [subs] at this <;> first | exact n2 _ rfl | exact n3 _ rfl
        | cons x rest =>
          refine ⟨x, rest, rfl, w3, w4, w6, .inr ⟨n1, w2, ?_⟩⟩
          cases t with
          | t s hi lo => exact absurd rfl (n1 s hi lo)
          | _ => rfl
    obtain ⟨x, rest, rfl, w3, w4, w6, hcase⟩ := hargs
    have hwl := words_len _ w6
    have hsub3 : (subs t).length ≤ 3 := by
      cases t <;> simp [subs]
    walk_at "ra"
    intro p H1 hp s1 hl1
    subst hM
    refine seq_i fun M hM => ?_
    walk_at "ra"
    subst hM
    refine seq_i fun M hM => ?_
    walk_at "ra"
    subst hM
    have ht1 := RT.tk (same_tk s1) _ _ ht
    refine seq_i fun M hM => ?_
    walk_at "rd"
    refine ⟨t, ht1, hfs, fun p2 xs H2 hp2 s2 hl2 hal => ?_⟩
    have s02 := s1.trans s2
    have hlx := all2_len hal
    walk_at "ra"
    refine lc_map (wk_lst (xs := xs)) (fun H s => s _ _ hl2) (fun i y H => ∃ s, (subs t)[i]? = some s ∧ y = .str (tx s)) (by omega) (fun _ _ _ _ r _ => r) (fun i H5 Ky hi s5 ky => ?_) (fun Dl ys H5 s5 hD hl5 hlen hy => ?_) mg_name
    · have hget : xs[i]? = some (xs.getD i .non) := by simp [hi]
      obtain ⟨s', hs', hr'⟩ := all2_at hal hget
      have hmem := List.mem_of_getElem? hs'
      have hdp := subs_deep hmem
      have hwt := subs_wt_le hmem
      obtain ⟨j, hj⟩ := Fit.subs hf s' hmem
      walk_at "rd"
      exact ⟨G, s', RT.tk (same_tk s5) _ _ hr', hG, j, hj, by omega, by omega, fun H6 s6 => ky _ _ s6 ⟨s', hs', rfl⟩⟩
    · have s05 := s02.trans s5
      have ey := map_of (f := fun s => V.str (tx s)) (hlen.trans hlx.symm) hy
      subst ey
      have em : ((subs t).map fun s => V.str (tx s)) = ((subs t).map tx).map V.str := by rw [List.map_map]; rfl
      rw [em] at hl5
      subst hM
      refine seq_i fun M hM => ?_
      have etx := tx_op n2 n3
      have hpD : H5 p = some (.lst rest) := s5 _ _ (s2 _ _ hl1)
      have hargl : (argTx t).length ≤ 3 ∧ ((argTx t).map (·.length)).sum + (argTx t).length * 2 ≤ 100000 := by
        have h1 : ∀ y ∈ argTx t, y.length ≤ 1000 := fun y hy => by
          cases t with
          | is v => exact absurd rfl (n2 v)
          | of v => exact absurd rfl (n3 v)
          | t s hi lo =>
            simp only [argTx, List.mem_cons, List.not_mem_nil, or_false] at hy
            obtain ⟨j, hfa, _⟩ := hf
            have := tx_len s j hfa
            simp only [wt] at hw
            rcases hy with rfl | rfl | rfl
            · omega
            · rw [slen_fig]; omega
            · rw [slen_fig]; omega
          | _ =>
            obtain ⟨s', hs', rfl⟩ := List.mem_map.mp hy
            obtain ⟨j, hj⟩ := Fit.subs hf s' hs'
            have := tx_len s' j hj
            have := subs_wt_le hs'
            omega
        have h2 : (argTx t).length ≤ 3 := by
          cases t <;> simp [argTx, subs]
        have h3 := sum_len h1
        have h4 : (argTx t).length * 1000 ≤ 3000 := by omega
        exact ⟨h2, by omega⟩
      have fin : ∀ H6, Same H H6 → H6 Dl = some (.lst ((argTx t).map V.str)) → M [some (V.ref a), some (V.ref Dl), some (V.str (wordOf t)), some x, some (V.ref p), none, none] H6 := fun H6 s6 hl6 => by
        subst hM
        rw [etx] at q htl
        have hq := q _ s6
        have hjl := join_len (y := (", " : Str)) (argTx t)
        simp only [slen_app] at htl
        have e2 : (Str.ofString ", ").length = 2 := by decide +kernel
        walk_at "ra"
        exact ⟨by omega, by omega, by rw [slen_app]; omega, argTx t, rfl, by omega, by omega, by simp only [slen_app]; omega, by simp only [slen_app]; omega, hq⟩
      rcases hcase with ⟨s', hi, lo, rfl, rfl, hhi, hlo⟩ | ⟨n1, w5, ea⟩
      · walk_at "ra"
        rw [if_pos (show wordOf (.t s' hi lo) = Str.ofString "part" from rfl)]
        refine lc_map (wk_lst (xs := [V.int (hi : Int), V.int (lo : Int)])) (fun H s => s _ _ hpD) (fun i y H => y = .str ([figS hi, figS lo].getD i Str.empty)) (by show 2 ≤ _; decide) (fun _ _ _ _ r _ => r) (fun i H6 Ky hi' s6 ky => ?_) (fun D2 zs H6 s6 hD2 hl6 hlz hz => ?_) mg_name
        · have : i = 0 ∨ i = 1 := by
            have : i < 2 := hi'
            omega
          rcases this with rfl | rfl
          · walk_at "rd"
            exact ⟨by omega, ky _ _ (Same.refl _) (by rw [str_fig hhi]; rfl)⟩
          · walk_at "rd"
            exact ⟨by omega, ky _ _ (Same.refl _) (by rw [str_fig hlo]; rfl)⟩
        · match zs, hlz with
          | [z1, z2], _ =>
            have e1 := hz 0 z1 rfl
            have e2 := hz 1 z2 rfl
            subst e1 e2
            have hl56 := s6 _ _ hl5
            refine ⟨D2, rfl, _, hl56, _, hl6, by simp [subs], fun H7 b7 hl7 => ?_⟩
            exact fin _ (same_but (s05.trans s6) (s02.free hD) b7) (by rw [hl7]; rfl)
      · have hfin := fin _ s05 (by rw [ea]; exact hl5)
        walk_at "ra"
theorem ok_driver_text (T : TX K mg) (D : DF K mg "driver_text" s_driver_text ["driver"] []) (G_term_text : FO P w K mg base "term_text" k ["term"] [] (spTermText 10)) : FO P w K mg base "driver_text" (k + 1) ["driver"] [] spDriverText := by
  refine D.ok sc_driver_text (fun vs H Q E h => ?_) (fun fa cdv A outer s H vs Q E hr h => ?_)
  · obtain ⟨_, _, _, _, rfl, _⟩ := h
    rfl
  obtain ⟨G, d, kk, x, rfl, ⟨b, v1, v2, rfl, hb, r1, r2⟩, hG, t1, t2, q⟩ := h
  refine ⟨_, (pss_cons (ps_asg (pv 0) (pg_tpl 2 rfl (pgs_cons (pg_name (i := 1) sc_driver_text.nd rfl (Or.inl rfl)) (pgs_cons (pg_name (i := 2) sc_driver_text.nd rfl (Or.inl rfl)) pgs_nil))))
    (pss_one (ps_ret (pe_joined2 (.cons (pe_fmtS (pe_fo G_term_text hr (pa_cons (pv 1) pa_nil))) (.cons pe_str (.cons (pe_fmtS (pe_fo G_term_text hr (pa_cons (pv 2) pa_nil))) .nil))))))), ?_⟩
  have l1 := tx_len _ _ t1.1
  have l2 := tx_len _ _ t2.1
  have w1 := t1.2.2
  have w2 := t2.2.2
  have e2 : (Str.ofString ": ").length = 2 := by decide +kernel
  walk_at "ra"
  refine ⟨G, d.1, r1, hG, 1, t1.1, w1, t1.2.1, fun H1 s1 => ?_⟩
  refine ⟨by omega, by omega, by rw [slen_app]; omega, G, d.2, RT.tk (same_tk s1) _ _ r2, hG, kk, t2.1, w2, t2.2.1, fun H2 s2 => ⟨by omega, by simp only [slen_app]; omega, q _ (s1.trans s2)⟩⟩
theorem drvTx_len {G : Str → Nat → Prop} {d : Tm × Tm} {k : Nat} (t1 : TermOk G d.1 1) (t2 : TermOk G d.2 k) : (drvTx d).length ≤ 2000 := by
  have l1 := tx_len _ _ t1.1
  have l2 := tx_len _ _ t2.1
  have w1 := t1.2.2
  have w2 := t2.2.2
  have e2 : (Str.ofString ": ").length = 2 := by decide +kernel
  unfold drvTx
  simp only [slen_app]
  omega
theorem ok_what_text (T : TX K mg) (D : DF K mg "what_text" s_what_text ["sort", "what"] []) (G_term_text : FO P w K mg base "term_text" k ["term"] [] (spTermText 10)) (G_driver_text : FO P w K mg base "driver_text" k ["driver"] [] spDriverText) :
    FO P w K mg base "what_text" (k + 1) ["sort", "what"] [] spWhatText := by
  refine D.ok sc_what_text (fun vs H Q E h => ?_) (fun fa cdv A outer s H vs Q E hr h => ?_)
  · obtain ⟨_, _, _, rfl, _⟩ := h
    rfl
  obtain ⟨G, sg, v, rfl, hv, hG, hok, q⟩ := h
  refine ⟨_, (pss_cons (ps_if (pt_cmpR op_eq (pv 0) pe_str (nomark _))
      (pss_one (ps_ret pe_str))
      pss_nil)
    (pss_cons (ps_if (pt_cmpR op_eq (pv 0) pe_str (nomark _))
      (pss_one (ps_ret (pe_op op_addS2 pe_str (pv 1))))
      pss_nil)
    (pss_cons (ps_if (pt_cmpR op_eq (pv 0) pe_str (nomark _))
      (pss_one (ps_ret (pe_op op_addS2 pe_str (pe_joinS pe_str (pe_lc (own := [("driver", 2)]) (tt := tYes) rfl sc_what_text.nd (pi_tpl (pv 1)) (blkOk_by (N := ["sort", "what", "driver"]) (sc := defScope s_what_text) (by decide +kernel)) (fun _ _ _ _ _ => (pg_name (i := 2) sc_what_text.nd rfl (Or.inl rfl))) (fun _ _ _ _ _ => pts_nil) (fun _ _ _ _ _ => (pe_fo G_driver_text hr (pa_cons (pv 2) pa_nil))))))))
      pss_nil)
    (pss_one (ps_ret (pe_op op_addS2 pe_str (pe_fo G_term_text hr (pa_cons (pv 1) pa_nil)))))))), ?_⟩
  have e1 : (Str.ofString " ").length = 1 := by decide +kernel
  have e2 : (Str.ofString "; ").length = 2 := by decide +kernel
  cases sg <;> simp only [Sg.sort]
  all_goals walk_at "ra"
  · exact q _ (Same.refl _)
  · rename_i n kk val
    have e : v = .str val := hv
    have hl : val.length = kk := by rw [len_tl]; exact ValOk.len hok
    have h8 := ValOk.l8 hok
    exact ⟨val, e, by omega, q _ (Same.refl _)⟩
  · rename_i n kk t
    have htl := tx_len _ _ hok.1
    have := hok.2.2
    exact ⟨G, t, hv, hG, kk, hok.1, hok.2.2, hok.2.1, fun H1 s1 => ⟨by omega, q _ s1⟩⟩
  · rename_i n kk t
    have htl := tx_len _ _ hok.1
    have := hok.2.2
    exact ⟨G, t, hv, hG, kk, hok.1, hok.2.2, hok.2.1, fun H1 s1 => ⟨by omega, q _ s1⟩⟩
  · rename_i n kk ds
    obtain ⟨p, xs, rfl, hp, hal⟩ := hv
    obtain ⟨l2, l4, hok⟩ := hok
    have hlen := all2_len hal
    refine ⟨p, rfl, xs, hp, ?_⟩
    refine lc_map (wk_tpl (xs := xs)) (fun H s => s _ _ hp) (fun i y H => ∃ d, ds[i]? = some d ∧ y = .str (drvTx d)) (by omega) (fun _ _ _ _ r _ => r) (fun i H5 Ky hi s5 ky => ?_) (fun Dl ys H5 s5 hD hl5 hly hy => ?_) mg_name
    · have hget : xs[i]? = some (xs.getD i .non) := by simp [hi]
      obtain ⟨d', hd', hr'⟩ := all2_at hal hget
      have hmem := List.mem_of_getElem? hd'
      walk_at "rd"
      exact ⟨G, d', hr'.tk (same_tk s5), hG, (hok d' hmem).1, kk, (hok d' hmem).2, fun H6 s6 => ky _ _ s6 ⟨d', hd', rfl⟩⟩
    · have ey := map_of (f := fun d => V.str (drvTx d)) (hly.trans hlen.symm) hy
      have em : (ds.map fun d => V.str (drvTx d)) = (ds.map drvTx).map V.str := by rw [List.map_map]; rfl
      rw [ey, em] at hl5
      have hsum := sum_len (ys := ds.map drvTx) (m := 2000) fun y hy => by
        obtain ⟨d, hd, rfl⟩ := List.mem_map.mp hy
        exact drvTx_len (hok d hd).1 (hok d hd).2
      have hjl := join_len (y := (Str.ofString "; ")) (ds.map drvTx)
      rw [e2] at hjl
      rw [List.length_map] at hsum hjl
      have h4 : ds.length * 2000 ≤ 8000 := by omega
      have hq := q _ s5
      rw [show whatTx (.bus n kk ds) = (" " : Str) ++ Txt.join ("; " : Str) (ds.map drvTx) from rfl, join_eq] at hq
      exact ⟨Dl, rfl, _, hl5, by rw [List.length_map]; omega, by omega, hq⟩
theorem blines_len (b : Bd) : ∀ ah, (blines ah b).length ≤ 2 * bwt b := by
  induction b with
  | nil => intro ah; exact Nat.le_refl _
  | set w n t r ih =>
    intro ah
    have := ih ah
    simp only [blines, bwt, List.length_cons]
    omega
  | ite c a b r iha ihb ihr =>
    intro ah
    have := iha (ah ++ ("  " : Str))
    have := ihb (ah ++ ("  " : Str))
    have := ihr ah
    simp only [blines, bwt, List.length_cons, List.length_append]
    omega
theorem heads_blines (ah : Str) : ∀ b : Bd, (heads b).flatMap (blines ah) = blines ah b
  | .nil => rfl
  | .set v n t r => by
    rw [heads, List.flatMap_cons, heads_blines ah r]
    simp [blines]
  | .ite c a b r => by
    rw [heads, List.flatMap_cons, heads_blines ah r]
    simp [blines]
theorem ok_body_lines {n : Nat} (T : TX K mg) (D : DF K mg "body_lines" s_body_lines ["body", "ahead"] []) (G_body_lines : FO P w K mg base "body_lines" k ["body", "ahead"] [] (spBodyLines n)) (G_term_text : FO P w K mg base "term_text" k ["term"] [] (spTermText 10)) :
    FO P w K mg base "body_lines" (k + 1) ["body", "ahead"] [] (spBodyLines (n + 1)) := by
  refine D.ok sc_body_lines (fun vs H Q E h => ?_) (fun fa cdv A outer s H vs Q E hr h => ?_)
  · obtain ⟨_, _, _, _, _, _, _, rfl, _⟩ := h
    rfl
  obtain ⟨G, Kp, f, b, p, xs, ah, rfl, hp, hb, hG, hKp, hok, hn, hw, hah, q⟩ := h
  refine ⟨_, (pss_cons (ps_set (i := 2) sc_body_lines.nd rfl (Or.inl rfl) (pe_lstD pa_nil))
    (pss_cons (ps_for PassesOwn.never rfl (pi_tpl (pv 0)) (pg_str2 rfl (pgs_cons (pg_name (i := 3) sc_body_lines.nd rfl (Or.inl rfl)) (pgs_cons (pg_name (i := 4) sc_body_lines.nd rfl (Or.inl rfl)) (pgs_cons (pg_name (i := 5) sc_body_lines.nd rfl (Or.inl rfl)) pgs_nil))))
      (pss_one (ps_if (pt_cmpR op_eq (pv 3) pe_str (nomark _))
      (pss_cons (ps_asg (pe_lc (own := [("inner", 8)]) (tt := tYes) rfl sc_body_lines.nd (pi_lst (pv 5)) (blkOk_by (N := ["body", "ahead", "found", "word", "what", "rest", "first", "second", "inner"]) (sc := defScope s_body_lines) (by decide +kernel)) (fun _ _ _ _ _ => (pg_name (i := 8) sc_body_lines.nd rfl (Or.inl rfl))) (fun _ _ _ _ _ => pts_nil) (fun _ _ _ _ _ => (pe_fo G_body_lines hr (pa_cons (pv 8) (pa_cons (pe_op op_addS2 (pv 1) (pe_gv T.c_STEP)) pa_nil))))) (pg_lst 2 rfl (pgs_cons (pg_name (i := 6) sc_body_lines.nd rfl (Or.inl rfl)) (pgs_cons (pg_name (i := 7) sc_body_lines.nd rfl (Or.inl rfl)) pgs_nil))))
    (pss_cons (ps_expr (pe_bmL PySem.F.slot_list_append PySem.F.type_list_append mt_appD (pv 2) (pa_cons (pe_joined2 (.cons (pe_fmtS (pv 1)) (.cons pe_str (.cons (pe_fmtS (pe_fo G_term_text hr (pa_cons (pv 4) pa_nil))) .nil)))) pa_nil)))
    (pss_one (ps_expr (pe_bmL PySem.F.slot_list_extend PySem.F.type_list_extend mt_extD (pv 2) (pa_cons (pe_op op_catD (pe_op op_catD (pv 6) (pe_lstD (pa_cons (pe_op op_addS2 (pv 1) pe_str) pa_nil))) (pv 7)) pa_nil))))))
      (pss_one (ps_expr (pe_bmL PySem.F.slot_list_append PySem.F.type_list_append mt_appD (pv 2) (pa_cons (pe_joined2 (.cons (pe_fmtS (pv 1)) (.cons (pe_fmtS (pv 3)) (.cons pe_str (.cons (pe_fmtS (pv 4)) (.cons pe_str (.cons (pe_fmtS (pe_fo G_term_text hr (pa_cons (pe_ix ix_lst (pv 5) pe_int (fun _ _ => rfl)) pa_nil))) .nil))))))) pa_nil)))))))
    (pss_one (ps_ret (pv 2))))), ?_⟩
  have hal := heads_all hb
  have hlen := all2_len hal
  have hhl := heads_len b
  have hbl := blines_len b ah
  have e2 : (Str.ofString "  ").length = 2 := by decide +kernel
  have e3 : (Str.ofString "else").length = 4 := by decide +kernel
  have e4 : (Str.ofString "if ").length = 3 := by decide +kernel
  have e5 : (Str.ofString " ").length = 1 := by decide +kernel
  walk_at "ra"
  intro p1 H1 hp1 s1 hl1
  refine ⟨xs, s1 _ _ hp, ?_⟩
  refine for_gen (wk_tpl (xs := xs)) (fun i σ H2 => ∃ o1 o2 o3 o4 o5 o6, σ = [some (V.ref p), some (V.str ah), some (V.ref p1), o1, o2, o3, o4, o5, o6] ∧ Same H H2 ∧ H2 p1 = some (.lst ((((heads b).take i).flatMap (blines ah)).map V.str))) ⟨none, none, none, none, none, none, rfl, s1, hl1⟩ (fun i σ H2 _ z => ?_) (fun i σ H2 hi z => ?_) (fun σ H2 z => ?_)
  · obtain ⟨_, _, _, _, _, _, _, s2, _⟩ := z
    exact s2 _ _ hp
  · obtain ⟨o1, o2, o3, o4, o5, o6, rfl, s2, hp2⟩ := z
    have hget : xs[i]? = some (xs.getD i .non) := by simp [hi]
    obtain ⟨h, hh, hr'⟩ := all2_at hal hget
    have hmem := List.mem_of_getElem? hh
    have hhd := heads_is hmem
    have hhok := heads_ok hok hmem
    have hhdp := heads_deep hmem
    have hhw := heads_wt_le hmem
    have hx : xs[i]? = some xs[i] := by simp [hi]
    have hs1 : (((heads b).take (i + 1)).flatMap (blines ah)) = ((heads b).take i).flatMap (blines ah) ++ blines ah h := by
      rw [take_snoc hh]
      simp
    have hflen : (((heads b).take i).flatMap (blines ah)).length + (blines ah h).length ≤ 2000 := by
      have e := blines_len b ah
      rw [← heads_blines ah b, ← List.take_append_drop (i + 1) (heads b), List.flatMap_append, hs1] at e
      simp only [List.length_append] at e
      omega
    cases h with
    | nil => exact hhd.elim
    | set v nm t r =>
      have e : r = .nil := hhd
      subst e
      obtain ⟨b', v', ys, e, hb', ht', _⟩ := hr'
      have e := (List.cons.inj e).1
      rw [e]
      have hb2 := s2 _ _ hb'
      obtain ⟨hv, _, ⟨kk, hk, hto⟩, _⟩ := hhok
      have hvi : ¬ v = Str.ofString "if" := by rcases hv with rfl | rfl <;> decide +kernel
      have hvl : v.length ≤ 5 := by rcases hv with rfl | rfl <;> decide +kernel
      have hnl : nm.length ≤ 8 := by rw [len_tl]; exact (hKp _ _ hk).l8
      have htl := tx_len _ _ hto.1
      have htw := hto.2.2
      walk_at "ra"
      intro p3 H3 hp3 s3 hl3
      have hp13 := s3 _ _ hp2
      have hsz : (((heads b).take i).flatMap (blines ah)).length ≤ 2000 := by omega
      refine ⟨⟨_, hp13⟩, by omega, by omega, by omega, by simp only [slen_app]; omega, by simp only [slen_app]; omega, by omega, by simp only [slen_app]; omega, by simp only [slen_app]; omega, _, hl3, v', atI_0, G, t, RT.tk (same_tk (s2.trans s3)) _ _ ht', hG, kk, hto.1, htw, hto.2.1,
        fun H4 s4 => ⟨by omega, by simp only [slen_app]; omega, _, s4 _ _ hp13, by rw [List.length_map]; omega, fun H5 b5 hp5 => ⟨same_but ((s2.trans s3).trans s4) hp1 b5, ?_⟩⟩⟩
      rw [hp5]
      simp [blines]
    | ite c s t r =>
      have e : r = .nil := hhd
      subst e
      obtain ⟨b', v, p', q', ps, qs, ys, e, hb', hc, hp', hps, hq', hqs, _⟩ := hr'
      have e := (List.cons.inj e).1
      rw [e]
      have hb2 := s2 _ _ hb'
      walk_at "ra"
      intro p3 H3 hp3 s3 hl3
      have s03 := s2.trans s3
      have hdA : ah.length + 2 + 2 * bdeep s ≤ 20 ∧ ah.length + 2 + 2 * bdeep t ≤ 20 ∧ bdeep s < n ∧ bdeep t < n := by
        simp only [bdeep] at hhdp
        omega
      have hwA : bwt s ≤ 1000 ∧ bwt t ≤ 1000 := by
        simp only [bwt] at hhw
        omega
      have htl := tx_len _ _ hhok.1.1
      have htw := hhok.1.2.2
      refine ⟨_, hl3, ?_⟩
      refine lc_lists (wk_lst (xs := [V.ref p', V.ref q'])) (fun H s => s _ _ hl3) (fun i => ([blines (ah ++ ("  " : Str)) s, blines (ah ++ ("  " : Str)) t].getD i []).map V.str) (by show 2 ≤ 1000000; decide) (fun j H4 Ky Kn hj s4 ky => ?_) (fun Dl bs H4 s4 hD hl4 hbs hb4 hf4 => ?_)
      · have s04 := s03.trans s4
        have : j = 0 ∨ j = 1 := by
          have : j < 2 := hj
          omega
        rcases this with rfl | rfl
        · walk_at "rd"
          exact ⟨by omega, G, Kp, f, s, ps, s04 _ _ hp', RBl.tk (same_tk s04) _ _ hps, hG, hKp, hhok.2.1, by omega, by omega, by simp only [slen_app]; omega, ky⟩
        · walk_at "rd"
          exact ⟨by omega, G, Kp, f, t, qs, s04 _ _ hq', RBl.tk (same_tk s04) _ _ hqs, hG, hKp, hhok.2.2.1, by omega, by omega, by simp only [slen_app]; omega, ky⟩
      · match bs, hbs with
        | [n1, n2], _ =>
          have hn1 := hb4 0 n1 rfl
          have hn2 := hb4 1 n2 rfl
          have s04 := s03.trans s4
          have hp14 := s4 _ _ (s3 _ _ hp2)
          refine ⟨Dl, rfl, _, hl4, rfl, _, _, rfl, _, _, rfl, rfl, ⟨_, hp14⟩, by omega, by omega, by simp only [slen_app]; omega, G, c, RT.tk (same_tk s04) _ _ hc, hG, 1, hhok.1.1, htw, hhok.1.2.1, fun H5 s5 => ⟨by omega, by simp only [slen_app]; omega, _, s5 _ _ hp14, ?_, fun H6 b6 hp6 => ?_⟩⟩
          · rw [List.length_map]
            omega
          · have ne1 : n1 ≠ p1 := fun z => by have := hf4 0 n1 rfl; rw [z, s3 _ _ hp2] at this; cases this
            have ne2 : n2 ≠ p1 := fun z => by have := hf4 1 n2 rfl; rw [z, s3 _ _ hp2] at this; cases this
            have h16 := b6 _ _ ne1 (s5 _ _ hn1)
            have h26 := b6 _ _ ne2 (s5 _ _ hn2)
            have s06 : Same H H6 := same_but (s04.trans s5) hp1 b6
            have la := blines_len s (ah ++ ("  " : Str))
            have lb := blines_len t (ah ++ ("  " : Str))
            refine ⟨⟨_, hp6⟩, by omega, fun p7 H7 hp7 s7 hl7 => ⟨n1, rfl, _, s7 _ _ h16, _, hl7, ?_, fun p8 H8 hp8 s8 hl8 => ⟨n2, rfl, _, hl8, _, s8 _ _ (s7 _ _ h26), ?_, fun p9 H9 hp9 s9 hl9 => ⟨_, s9 _ _ (s8 _ _ (s7 _ _ hp6)), _, hl9, ?_, fun H10 b10 hp10 => ⟨same_but (((s06.trans s7).trans s8).trans s9) hp1 b10, ?_⟩⟩⟩⟩⟩
            · show (List.map V.str (blines (ah ++ ("  " : Str)) s)).length + 1 ≤ _
              rw [List.length_map]
              omega
            · show (List.map V.str (blines (ah ++ ("  " : Str)) s) ++ [_]).length + (List.map V.str (blines (ah ++ ("  " : Str)) t)).length ≤ _
              simp only [List.length_append, List.length_map, List.length_cons, List.length_nil]
              omega
            · show _ + (List.map V.str (blines (ah ++ ("  " : Str)) s) ++ [_] ++ List.map V.str (blines (ah ++ ("  " : Str)) t)).length ≤ _
              simp only [List.length_append, List.length_map, List.length_cons, List.length_nil]
              omega
            · rw [hp10]
              simp [blines]
  · obtain ⟨o1, o2, o3, o4, o5, o6, rfl, s2, hp2⟩ := z
    walk_at "rd"
    rw [← hlen, List.take_length, heads_blines] at hp2
    exact q _ _ hp1 s2 hp2
end
end K37
set_option maxHeartbeats 4000000
namespace K37
open PySem L2 TL
open PyProof.Rows hiding St
theorem sc_design_text : FnScope ["design", "found", "name", "edge", "trigger", "body", "sort", "width", "what", "line"] ["design"] (defScope s_design_text) := ⟨rfl, rfl, rfl, by decide +kernel, rfl, by decide +kernel, by decide +kernel⟩

def spDesignText (C : Addr) : Sp := fun vs H Q _ => ∃ (sg : List Sg) (bl : List Bk) (x : Addr), vs = [.ref x] ∧ DS C H x sg bl ∧ Valid sg bl ∧ ∀ H', Same H H' → Q (.str (dtext sg bl)) H'
local macro_rules | `(tactic| walk_at "rd") => `(tactic| simp only [tYes, wipe, HO.lst.injEq, HO.tup.injEq, HO.dK.injEq, Nat.reduceAdd, Nat.reduceLeDiff, Nat.reduceSub, Int.reduceLE, Int.reduceLT, Int.reduceNeg, Nat.zero_add, Int.reduceEq, cut_head, cut_tail, cut_mid, cut_three, c_cast0, c_cast1, c_cast2, c_cast3, c_cast4, z_lit, List.getD_eq_getElem?_getD, Option.getD_some, tLc_eq, tFor_eq, cxOf, Cx.nox, Cx.wish, tSeq, tIfS, tOr, tAnd, tNot, tB, tCB, tCons, tVar, tC, tNil, tTest, tChain, rI0, rI, tOp, rIxS, rIxL, rIxT, tRet, tNext, tAsg, gName, tAndV, tOrV, tNotV, tIf, tIsN, tNotN, tCall, tDrop, tBM, tBM0, rEq, rNe, tRetN, tSl, tNoPart, tPart, tTupD, tLstD, tInD, rIsK, rLenS, rLenL, rLenT, rAllT, rAnyF, rInK, rInL, rSlLD, rSlTD, rSlS, rCatD, rCatTD, rAppD, rExtD, rPopD, rPopAtD, rListD, rTupleD, iLst, iTpl, iStr, rIxLH, rIxTH, gTupH, gLstH, gStar0, gStar1, gStar2, rSumH, rAddS2, tJoinS, tFmtS, tFmtI, tJoined, tJoined_nil, tJoined_cons, rIsG, app_empty, tFldD, sFldD, tMkD, tMoD, rIsC, rLenO, rEqO, HO.ins.injEq, exists_eq, tNilL, tML, tML0, tMS, iEnumH, tCallK, rStrI, tGetS, tGet1S, tGet2S, rListKD, tDc_eq, tLc2_eq, tKGet, gCons, gNil, tChain3, tPartD, tSplitD, tPar, New, Chg, rListTD, atI_0, atI_1, atI_2, atI_3, sign_inj, and_false, false_and, or_false, false_or, or_true, true_or, List.take_succ_cons, List.take_zero, List.drop_succ_cons, List.drop_zero, forall_const, exists_false, not_false_eq_true, not_true_eq_false, if_true, if_false, iRng1, KindV,
  L2.start, List.map_cons, List.map_nil, List.length_cons, List.length_nil, List.replicate, List.cons_append, List.nil_append, List.append_nil, List.set_cons_zero, List.set_cons_succ, List.getElem?_cons_zero, List.getElem?_cons_succ, Option.some.injEq, exists_eq_left', exists_eq_left, V.int.injEq, V.str.injEq, V.bl.injEq, V.ref.injEq, V.ty.injEq, true_and, and_true, List.cons.injEq, exists_and_left, exists_eq', and_assoc, scal, ofString_inj, String.reduceEq, reduceIte, decide_eq_true_eq, decide_eq_false_iff_not, Bool.not_true, Bool.not_false, Bool.not_eq_true', inV_cons, inV_nil, eqV_ss, eqV_ii, flatV, List.all_cons, List.all_nil, Bool.and_true, Bool.or_false, Bool.true_and, Bool.false_or, decide_true, decide_false, Bool.true_or, Bool.false_eq_true, reduceCtorEq, spTermsIn, spTermText, spDriverText, spWhatText, spBodyLines, spSignals, spBlocks])
local macro_rules | `(tactic| walk_at "ra") => `(tactic| simp only [tYes, wipe, HO.lst.injEq, HO.tup.injEq, HO.dK.injEq, Nat.reduceAdd, Nat.reduceLeDiff, Nat.reduceSub, Int.reduceLE, Int.reduceLT, Int.reduceNeg, Nat.zero_add, Int.reduceEq, cut_head, cut_tail, cut_mid, cut_three, c_cast0, c_cast1, c_cast2, c_cast3, c_cast4, z_lit, List.getD_eq_getElem?_getD, Option.getD_some, tLc_eq, tFor_eq, cxOf, Cx.nox, Cx.wish, tSeq, tIfS, tOr, tAnd, tNot, tB, tCB, tCons, tVar, tC, tNil, tTest, tChain, rI0, rI, tOp, rIxS, rIxL, rIxT, tRet, tNext, tAsg, gName, tAndV, tOrV, tNotV, tIf, tIsN, tNotN, tCall, tDrop, tBM, tBM0, rEq, rNe, tRetN, tSl, tNoPart, tPart, tTupD, tLstD, tInD, rIsK, rLenS, rLenL, rLenT, rAllT, rAnyF, rInK, rInL, rSlLD, rSlTD, rSlS, rCatD, rCatTD, rAppD, rExtD, rPopD, rPopAtD, rListD, rTupleD, iLst, iTpl, iStr, rIxLH, rIxTH, gTupH, gLstH, gStar0, gStar1, gStar2, rSumH, rAddS2, tJoinS, tFmtS, tFmtI, tJoined, tJoined_nil, tJoined_cons, rIsG, app_empty, tFldD, sFldD, tMkD, tMoD, rIsC, rLenO, rEqO, HO.ins.injEq, exists_eq, tNilL, tML, tML0, tMS, iEnumH, tCallK, rStrI, tGetS, tGet1S, tGet2S, rListKD, tDc_eq, tLc2_eq, tKGet, gCons, gNil, tChain3, tPartD, tSplitD, tPar, New, Chg, rListTD, atI_0, atI_1, atI_2, atI_3, sign_inj, and_false, false_and, or_false, false_or, or_true, true_or, List.take_succ_cons, List.take_zero, List.drop_succ_cons, List.drop_zero, forall_const, exists_false, not_false_eq_true, not_true_eq_false, if_true, if_false, iRng1, KindV,
  L2.start, List.map_cons, List.map_nil, List.length_cons, List.length_nil, List.replicate, List.cons_append, List.nil_append, List.append_nil, List.set_cons_zero, List.set_cons_succ, List.getElem?_cons_zero, List.getElem?_cons_succ, Option.some.injEq, exists_eq_left', exists_eq_left, V.int.injEq, V.str.injEq, V.bl.injEq, V.ref.injEq, V.ty.injEq, true_and, and_true, List.cons.injEq, exists_and_left, exists_eq', and_assoc, scal, ofString_inj, String.reduceEq, reduceIte, decide_eq_true_eq, decide_eq_false_iff_not, Bool.not_true, Bool.not_false, Bool.not_eq_true', inV_cons, inV_nil, eqV_ss, eqV_ii, flatV, List.all_cons, List.all_nil, Bool.and_true, Bool.or_false, Bool.true_and, Bool.false_or, decide_true, decide_false, Bool.true_or, Bool.false_eq_true, reduceCtorEq, spTermsIn, spTermText, spDriverText, spWhatText, spBodyLines, spSignals, spBlocks, *])

theorem mg_tup4 {i j k l : Nat} (x : V) (σ : St) (H : Hp) (Q Q' : St → Hp → Prop) (h : ∀ σ' H', Q σ' H' → Q' σ' H') (q : gTupH 4 (gCons (gName i) (gCons (gName j) (gCons (gName k) (gCons (gName l) gNil)))) x σ H Q) : gTupH 4 (gCons (gName i) (gCons (gName j) (gCons (gName k) (gCons (gName l) gNil)))) x σ H Q' := by
  obtain ⟨a, xs, e, ha, hl, v1, r1, e1, v2, r2, e2, v3, r3, e3, v4, r4, e4, e5, q⟩ := q
  exact ⟨a, xs, e, ha, hl, v1, r1, e1, v2, r2, e2, v3, r3, e3, v4, r4, e4, e5, h _ _ q⟩
section
variable {P : Program} {w : World} {K : PySem.W.Frag} {mg : Str → Option Value} {base : Heap} {k : Nat} {C : Addr}
theorem blines_line {G Kp : Str → Nat → Prop} {f : Str → Str} (hKp : ∀ n k, Kp n k → NameOk n) : ∀ (b : Bd) (ah : Str), BdOk G Kp f b → ah.length + 2 * bdeep b ≤ 20 → ∀ l ∈ blines ah b, l.length ≤ 1100
  | .nil, ah, _, _, l, h => by cases h
  | .set w n t r, ah, q, hd, l, h => by
    obtain ⟨hw, _, ⟨kk, hk, hto⟩, hr⟩ := q
    simp only [bdeep] at hd
    rcases List.mem_cons.mp h with rfl | h
    · have h1 : w.length ≤ 5 := by rcases hw with rfl | rfl <;> decide +kernel
      have h2 : n.length ≤ 8 := by rw [len_tl]; exact (hKp _ _ hk).l8
      have h3 := tx_len _ _ hto.1
      have h4 := hto.2.2
      have e5 : (Str.ofString " ").length = 1 := by decide +kernel
      simp only [slen_app, e5]
      omega
    · exact blines_line hKp r ah hr (by omega) l h
  | .ite c a b r, ah, q, hd, l, h => by
    obtain ⟨hc, ha, hb, hr⟩ := q
    simp only [bdeep] at hd
    have e2 : (Str.ofString "  ").length = 2 := by decide +kernel
    have e3 : (Str.ofString "else").length = 4 := by decide +kernel
    have e4 : (Str.ofString "if ").length = 3 := by decide +kernel
    have h3 := tx_len _ _ hc.1
    have h4 := hc.2.2
    rcases List.mem_cons.mp h with rfl | h
    · simp only [slen_app, e4]
      omega
    · rcases List.mem_append.mp h with h | h
      · exact blines_line hKp a _ ha (by rw [slen_app, e2]; omega) l h
      · rcases List.mem_cons.mp h with rfl | h
        · simp only [slen_app, e3]
          omega
        · rcases List.mem_append.mp h with h | h
          · exact blines_line hKp b _ hb (by rw [slen_app, e2]; omega) l h
          · exact blines_line hKp r ah hr (by omega) l h
theorem whatTx_len {G : Str → Nat → Prop} {s : Sg} (h : WhatOk G s) : (whatTx s).length ≤ 8100 := by
  have e1 : (Str.ofString " ").length = 1 := by decide +kernel
  have e2 : (Str.ofString "; ").length = 2 := by decide +kernel
  cases s with
  | inp n k => exact Nat.zero_le _
  | kept n k v =>
    have h1 := ValOk.len h
    have h8 := ValOk.l8 h
    simp only [whatTx, slen_app, e1, len_tl v]
    omega
  | wire n k t =>
    have := tx_len _ _ h.1
    have := h.2.2
    simp only [whatTx, slen_app, e1]
    omega
  | filt n k t =>
    have := tx_len _ _ h.1
    have := h.2.2
    simp only [whatTx, slen_app, e1]
    omega
  | bus n k ds =>
    obtain ⟨l2, l4, hok⟩ := h
    have hsum := sum_len (ys := ds.map drvTx) (m := 2000) fun y hy => by
      obtain ⟨d, hd, rfl⟩ := List.mem_map.mp hy
      exact drvTx_len (hok d hd).1 (hok d hd).2
    have hjl := join_len (y := (Str.ofString "; ")) (ds.map drvTx)
    rw [e2] at hjl
    rw [List.length_map] at hsum hjl
    have h4 : ds.length * 2000 ≤ 8000 := by omega
    simp only [whatTx, slen_app, e1, join_eq]
    omega
theorem sort_len (s : Sg) : s.sort.length ≤ 6 := by cases s <;> (show (Str.ofString _).length ≤ 6; decide +kernel)
theorem sline_len {sg : List Sg} {bl : List Bk} (V : Valid sg bl) {s : Sg} (hs : s ∈ sg) : (sline s).length ≤ 8200 := by
  have e1 : (Str.ofString " ").length = 1 := by decide +kernel
  have h1 := whatTx_len (V.wh s hs)
  have h2 := sort_len s
  have h3 : s.name.length ≤ 8 := by rw [len_tl]; exact (V.nm s hs).1.l8
  unfold sline
  simp only [slen_app, e1, slen_fig]
  omega
theorem Valid.kp {sg : List Sg} {bl : List Bk} (V : Valid sg bl) : ∀ n k, GK sg n k → NameOk n := fun n k ⟨v, h⟩ => (V.nm _ h).1
theorem klines_len {sg : List Sg} {bl : List Bk} (V : Valid sg bl) {f : Str → Str} {b : Bk} (h : BkOk sg f b) : (khead b).length ≤ 40 ∧ (klines b).length ≤ 41 ∧ ∀ l ∈ klines b, l.length ≤ 1100 := by
  have e1 : (Str.ofString " ").length = 1 := by decide +kernel
  have e2 : (Str.ofString "block ").length = 6 := by decide +kernel
  have h1 : b.name.length ≤ 8 := by rw [len_tl]; exact h.nm.l8
  have h2 : b.edge.length ≤ 4 := by rcases h.ed with e | e <;> rw [e] <;> decide +kernel
  have h3 : b.trig.length ≤ 8 := by
    obtain ⟨s, hs, e, _⟩ := h.tr
    rw [← e, len_tl]
    exact (V.nm s hs).1.l8
  have h4 : (khead b).length ≤ 40 := by
    unfold khead
    simp only [slen_app, e1, e2]
    omega
  have h5 := blines_len b.body ("  " : Str)
  have h6 := h.wt
  refine ⟨h4, by simp only [klines, List.length_cons]; omega, fun l hl => ?_⟩
  rcases List.mem_cons.mp hl with rfl | hl
  · omega
  · exact blines_line V.kp b.body _ h.bd (by have := h.dp; show 2 + _ ≤ 20; omega) l hl
theorem dlines_len {sg : List Sg} {bl : List Bk} (V : Valid sg bl) : (dlines sg bl).length ≤ 300 ∧ ∀ l ∈ dlines sg bl, l.length ≤ 8200 := by
  obtain ⟨f, hk⟩ := V.bk
  have h1 := V.ls
  have h2 := V.lb
  have h3 : ∀ l : List Bk, (∀ b ∈ l, BkOk sg f b) → (l.flatMap klines).length ≤ 41 * l.length := fun l => by
    induction l with
    | nil => intro _; exact Nat.le_refl _
    | cons a r ih =>
      intro h
      have h1 := (klines_len V (h a List.mem_cons_self)).2.1
      have h2 := ih fun b hb => h b (List.mem_cons_of_mem _ hb)
      rw [List.flatMap_cons, List.length_append, List.length_cons]
      omega
  have h4 := h3 bl hk
  refine ⟨by unfold dlines; rw [List.length_append, List.length_map]; omega, fun l hl => ?_⟩
  rcases List.mem_append.mp hl with hl | hl
  · obtain ⟨s, hs, rfl⟩ := List.mem_map.mp hl
    exact sline_len V hs
  · obtain ⟨b, hb, hl⟩ := List.mem_flatMap.mp hl
    have := (klines_len V (hk b hb)).2.2 l hl
    omega
theorem ok_design_text (T : TX K mg) (kD : KCls K mg "Design" C) (D : DF K mg "design_text" s_design_text ["design"] []) (G_body_lines : FO P w K mg base "body_lines" k ["body", "ahead"] [] (spBodyLines 5)) (G_what_text : FO P w K mg base "what_text" k ["sort", "what"] [] spWhatText)
    (G_signals : FM P w K mg base C "signals" k ["self"] [] (spSignals C)) (G_blocks : FM P w K mg base C "blocks" k ["self"] [] (spBlocks C)) :
    FO P w K mg base "design_text" (k + 1) ["design"] [] (spDesignText C) := by
  refine D.ok sc_design_text (fun vs H Q E h => ?_) (fun fa cdv A outer s H vs Q E hr h => ?_)
  · obtain ⟨_, _, _, rfl, _⟩ := h
    rfl
  obtain ⟨sg, bl, x, rfl, hD, hv, q⟩ := h
  obtain ⟨hd1, hd2⟩ := dlines_len hv
  obtain ⟨f, hbk⟩ := hv.bk
  have hls := hv.ls
  have hlb := hv.lb
  refine ⟨_, (pss_cons (ps_setLc (i := 1) (own := [("sort", 6), ("name", 2), ("width", 7), ("what", 8)]) (tt := tYes) rfl sc_design_text.nd rfl rfl (sw_true rfl rfl rfl (by decide +kernel)) (pi_lst (pe_mo0 kD.c G_signals hr (pv 0))) (blkOk_by (N := ["design", "found", "name", "edge", "trigger", "body", "sort", "width", "what", "line"]) (sc := defScope s_design_text) (by decide +kernel)) (fun _ _ _ _ _ => (pg_tpl 4 rfl (pgs_cons (pg_name (i := 6) sc_design_text.nd rfl (Or.inl rfl)) (pgs_cons (pg_name (i := 2) sc_design_text.nd rfl (Or.inl rfl)) (pgs_cons (pg_name (i := 7) sc_design_text.nd rfl (Or.inl rfl)) (pgs_cons (pg_name (i := 8) sc_design_text.nd rfl (Or.inl rfl)) pgs_nil)))))) (fun _ _ _ _ _ => pts_nil) (fun _ _ _ _ _ => (pe_op op_addS2 (pe_joined2 (.cons (pe_fmtS (pv 6)) (.cons pe_str (.cons (pe_fmtS (pv 2)) (.cons pe_str (.cons (pe_fmtI (pv 7)) .nil)))))) (pe_fo G_what_text hr (pa_cons (pv 6) (pa_cons (pv 8) pa_nil))))))
    (pss_cons (ps_for PassesOwn.never rfl (pi_lst (pe_mo0 kD.c G_blocks hr (pv 0))) (pg_tpl 4 rfl (pgs_cons (pg_name (i := 2) sc_design_text.nd rfl (Or.inl rfl)) (pgs_cons (pg_name (i := 3) sc_design_text.nd rfl (Or.inl rfl)) (pgs_cons (pg_name (i := 4) sc_design_text.nd rfl (Or.inl rfl)) (pgs_cons (pg_name (i := 5) sc_design_text.nd rfl (Or.inl rfl)) pgs_nil)))))
      (pss_cons (ps_expr (pe_bmL PySem.F.slot_list_append PySem.F.type_list_append mt_appD (pv 1) (pa_cons (pe_joined2 (.cons pe_str (.cons (pe_fmtS (pv 2)) (.cons pe_str (.cons (pe_fmtS (pv 3)) (.cons pe_str (.cons (pe_fmtS (pv 4)) .nil))))))) pa_nil)))
    (pss_one (ps_expr (pe_bmL PySem.F.slot_list_extend PySem.F.type_list_extend mt_extD (pv 1) (pa_cons (pe_fo G_body_lines hr (pa_cons (pv 5) (pa_cons (pe_gv T.c_STEP) pa_nil))) pa_nil))))))
    (pss_one (ps_ret (pe_joinS pe_str (pe_lc (own := [("line", 9)]) (tt := tYes) rfl sc_design_text.nd (pi_lst (pv 1)) (blkOk_by (N := ["design", "found", "name", "edge", "trigger", "body", "sort", "width", "what", "line"]) (sc := defScope s_design_text) (by decide +kernel)) (fun _ _ _ _ _ => (pg_name (i := 9) sc_design_text.nd rfl (Or.inl rfl))) (fun _ _ _ _ _ => pts_nil) (fun _ _ _ _ _ => (pe_op op_addS2 (pv 9) pe_str)))))))), ?_⟩
  obtain ⟨dx, r, p, c, d, hx, hA, hB⟩ := id hD
  refine seq_i fun M hM => ?_
  walk_at "ra"
  refine ⟨ds_signals, sg, bl, hD, fun p1 H1 hp1 s1 hls1 => ?_⟩
  obtain ⟨xs, hl1, hal⟩ := hls1
  have hlen := all2_len hal
  refine ⟨xs, hl1, ?_⟩
  have e1 : (Str.ofString " ").length = 1 := by decide +kernel
  refine lc_map (wk_lst (xs := xs)) (fun H s => s _ _ hl1) (fun i y H => ∃ s, sg[i]? = some s ∧ y = .str (sline s)) (by omega) (fun _ _ _ _ r _ => r) (fun i H2 Ky hi s2 ky => ?_) (fun Dl ys H2 s2 hDl hl2 hly hy => ?_) mg_tup4
  · have hget : xs[i]? = some (xs.getD i .non) := by simp [hi]
    obtain ⟨s', hs', b', v', e, hb', hw'⟩ := all2_at hal hget
    have hmem := List.mem_of_getElem? hs'
    rw [e]
    have hb2 := s2 _ _ hb'
    have h1 := sort_len s'
    have h2 : s'.name.length ≤ 8 := by rw [len_tl]; exact (hv.nm s' hmem).1.l8
    have h3 := (hv.nm s' hmem).2
    have h4 := whatTx_len (hv.wh s' hmem)
    have hfig := str_fig (n := s'.wd) (by omega)
    walk_at "ra"
    refine ⟨by omega, by omega, by simp only [slen_app]; omega, by omega, by simp only [slen_app]; omega, by simp only [slen_app]; omega, by omega, by simp only [slen_app, slen_fig]; omega, GW sg, s', rfl, RW.tk (same_tk s2) hw', hv.rng, hv.wh s' hmem, fun H3 s3 => ⟨by simp only [slen_app, slen_fig]; omega, ky _ _ s3 ⟨s', hs', rfl⟩⟩⟩
  · have ey := map_of (f := fun s => V.str (sline s)) (hly.trans hlen.symm) hy
    have em : (sg.map fun s => V.str (sline s)) = (sg.map sline ++ (bl.take 0).flatMap klines).map V.str := by
      rw [List.take_zero, List.flatMap_nil, List.append_nil, List.map_map]; rfl
    rw [ey, em] at hl2
    have s02 := s1.trans s2
    subst hM
    refine seq_i fun M hM => ?_
    have hx2 := s02 _ _ hx
    walk_at "ra"
    refine ⟨ds_blocks, sg, bl, hD.same s02, fun p3 H3 hp3 s3 hbs => ?_⟩
    obtain ⟨ys, hl3, hbl⟩ := hbs
    have hlenb := all2_len hbl
    have hDl0 : H Dl = none := s1.free hDl
    have hl23 := s3 _ _ hl2
    refine ⟨ys, hl3, ?_⟩
    refine for_gen (wk_lst (xs := ys)) (fun i σ H4 => ∃ o2 o3 o4 o5 o6 o7 o8 o9, σ = [some (V.ref x), some (V.ref Dl), o2, o3, o4, o5, o6, o7, o8, o9] ∧ Same H H4 ∧ Tk H3 H4 ∧ H4 p3 = some (.lst ys) ∧ H4 Dl = some (.lst ((sg.map sline ++ (bl.take i).flatMap klines).map V.str))) ⟨_, _, _, _, _, _, _, _, rfl, s02.trans s3, Tk.refl _, hl3, hl23⟩ (fun i σ H4 _ z => ?_) (fun i σ H4 hi z => ?_) (fun σ H4 z => ?_)
    · obtain ⟨_, _, _, _, _, _, _, _, _, _, _, s4, _⟩ := z
      exact s4
    · obtain ⟨o2, o3, o4, o5, o6, o7, o8, o9, rfl, s4, k4, hp4, hd4⟩ := z
      have hget : ys[i]? = some (ys.getD i .non) := by simp [hi]
      obtain ⟨b', hb', hr'⟩ := all2_at hbl hget
      have hmem := List.mem_of_getElem? hb'
      have hok := hbk b' hmem
      obtain ⟨ax, vb, e, hax, pb, zs, rfl, hpb, hzs⟩ := RK.tk k4 hr'
      rw [e]
      have hne : p3 ≠ Dl := fun z => by rw [z, hl2] at hp3; cases hp3
      obtain ⟨kl1, kl2, kl3⟩ := klines_len hv hok
      have n1 : b'.name.length ≤ 8 := by rw [len_tl]; exact hok.nm.l8
      have n2 : b'.edge.length ≤ 4 := by rcases hok.ed with e | e <;> rw [e] <;> decide +kernel
      have n3 : b'.trig.length ≤ 8 := by
        obtain ⟨s, hs, e, _⟩ := hok.tr
        rw [← e, len_tl]
        exact (hv.nm s hs).1.l8
      have e6 : (Str.ofString "block ").length = 6 := by decide +kernel
      have hpre : (sg.map sline ++ (bl.take i).flatMap klines).length ≤ 300 := by
        refine Nat.le_trans ?_ hd1
        unfold dlines
        rw [List.length_append, List.length_append]
        have : ((bl.take i).flatMap klines).length ≤ (bl.flatMap klines).length := by
          conv => rhs; rw [← List.take_append_drop i bl]
          rw [List.flatMap_append, List.length_append]
          omega
        omega
      walk_at "ra"
      repeat (refine ⟨by first | omega | (simp only [slen_app, e6, e1]; omega) | (rw [List.length_map]; omega), ?_⟩)
      intro H5 b5 hl5
      have k5 : Tk H3 H5 := k4.trans (b5.tk hd4)
      have s5 : Same H H5 := same_but s4 hDl0 b5
      have e2 : (Str.ofString "  ").length = 2 := by decide +kernel
      have hdp := hok.dp
      have hwt := hok.wt
      have hbl2 := blines_len b'.body ("  " : Str)
      refine ⟨⟨_, hl5⟩, GW sg, GK sg, f, b'.body, zs, b5.tk hd4 _ _ hpb, RBl.tk (b5.tk hd4) _ _ hzs, hv.rng, hv.kp, hok.bd, by omega, by omega, by rw [e2]; omega, fun p6 H6 hp6 s6 hl6 => ⟨_, s6 _ _ hl5, _, hl6, ?_, fun H7 b7 hl7 => ⟨same_but (s5.trans s6) hDl0 b7, (k5.trans (same_tk s6)).trans (b7.tk (s6 _ _ hl5)), b7 _ _ hne (s6 _ _ (b5 _ _ hne hp4)), ?_⟩⟩⟩
      · simp only [List.length_append, List.length_map, List.length_cons, List.length_nil] at hpre ⊢
        omega
      · rw [hl7, take_snoc hb', List.flatMap_append]
        simp [klines, khead]
    · obtain ⟨o2, o3, o4, o5, o6, o7, o8, o9, rfl, s4, k4, hp4, hd4⟩ := z
      rw [← hlenb, List.take_length] at hd4
      show M _ _
      rw [← hM]
      clear hM M
      have e0 : (Str.ofString "\n").length = 1 := by decide +kernel
      walk_at "ra"
      have hdl : dlines sg bl = sg.map sline ++ bl.flatMap klines := rfl
      rw [← hdl] at hd4
      refine lc_map (wk_lst (xs := (dlines sg bl).map V.str)) (fun H s => s _ _ hd4) (fun i y H => ∃ l, (dlines sg bl)[i]? = some l ∧ y = .str (l ++ ("\n" : Str))) (by rw [List.length_map]; omega) (fun _ _ _ _ r _ => r) (fun i H5 Ky hi s5 ky => ?_) (fun D2 zs H5 s5 hD2 hl5 hlz hz => ?_) mg_name
      · rw [List.length_map] at hi
        have hget : ((dlines sg bl).map V.str).getD i .non = .str (dlines sg bl)[i] := by simp [hi]
        rw [hget]
        have := hd2 _ (List.getElem_mem hi)
        walk_at "rd"
        exact ⟨by omega, ky _ _ (Same.refl _) ⟨_, List.getElem?_eq_getElem hi, rfl⟩⟩
      · have ey := map_of (f := fun l => V.str (l ++ ("\n" : Str))) (hlz.trans (List.length_map _)) hz
        have em : ((dlines sg bl).map fun l => V.str (l ++ ("\n" : Str))) = ((dlines sg bl).map fun l => l ++ ("\n" : Str)).map V.str := by rw [List.map_map]; rfl
        rw [ey, em] at hl5
        have hsum := sum_len (ys := (dlines sg bl).map fun l => l ++ ("\n" : Str)) (m := 8201) fun y hy => by
          obtain ⟨l, hl, rfl⟩ := List.mem_map.mp hy
          have := hd2 l hl
          rw [slen_app, e0]
          omega
        rw [List.length_map] at hsum
        have h4 : (dlines sg bl).length * 8201 ≤ 3000000 := by omega
        have hq := q _ (s4.trans s5)
        unfold dtext at hq
        rw [join_eq] at hq
        have ee : (Str.ofString "").length = 0 := by decide +kernel
        exact ⟨D2, rfl, _, hl5, by rw [ee]; omega, hq⟩
end
end K37
set_option maxHeartbeats 4000000
namespace K37
open PySem L2 TL
open PyProof.Rows hiding St
theorem sc_run_end : FnScope ["text", "at", "signs"] ["text", "at", "signs"] (defScope s_run_end) := ⟨rfl, rfl, rfl, by decide +kernel, rfl, by decide +kernel, by decide +kernel⟩

theorem sc_past : FnScope ["text", "at", "word"] ["text", "at", "word"] (defScope s_past) := ⟨rfl, rfl, rfl, by decide +kernel, rfl, by decide +kernel, by decide +kernel⟩

theorem sc_read_number : FnScope ["text", "at", "begin"] ["text", "at"] (defScope s_read_number) := ⟨rfl, rfl, rfl, by decide +kernel, rfl, by decide +kernel, by decide +kernel⟩

/-- a run of signs ends there -/
def RunEnd (sg : Str) (post : List Nat) : Prop := post = [] ∨ ∃ c r, post = c :: r ∧ c ∉ tl sg
def spRunEnd : Sp := fun vs H Q _ => ∃ (x sg : Str) (pre run post : List Nat), vs = [.str x, .int (pre.length : Int), .str sg] ∧ tl x = pre ++ (run ++ post) ∧ x.length ≤ 1000000 ∧ (∀ c ∈ run, c ∈ tl sg) ∧ RunEnd sg post ∧ Q (.int ((pre.length + run.length : Nat) : Int)) H
def spPast : Sp := fun vs H Q _ => ∃ (x w : Str) (pre post : List Nat), vs = [.str x, .int (pre.length : Int), .str w] ∧ tl x = pre ++ (tl w ++ post) ∧ x.length ≤ 1000000 ∧ Q (.int ((pre.length + (tl w).length : Nat) : Int)) H
def spReadNumber : Sp := fun vs H Q _ => ∃ (x : Str) (pre post : List Nat) (n : Nat), vs = [.str x, .int (pre.length : Int)] ∧ tl x = pre ++ (44 :: 32 :: (48 + n) :: post) ∧ x.length ≤ 1000000 ∧ n < 10 ∧ ∀ p H', H p = none → Same H H' → H' p = some (.tup [.int (n : Int), .int ((pre.length + 3 : Nat) : Int)]) → Q (.ref p) H'
local macro_rules | `(tactic| walk_at "rd") => `(tactic| simp only [tYes, wipe, HO.lst.injEq, HO.tup.injEq, HO.dK.injEq, Nat.reduceAdd, Nat.reduceLeDiff, Nat.reduceSub, Int.reduceLE, Int.reduceLT, Int.reduceNeg, Nat.zero_add, Int.reduceEq, cut_head, cut_tail, cut_mid, cut_three, c_cast0, c_cast1, c_cast2, c_cast3, c_cast4, z_lit, List.getD_eq_getElem?_getD, Option.getD_some, tLc_eq, tFor_eq, cxOf, Cx.nox, Cx.wish, tSeq, tIfS, tOr, tAnd, tNot, tB, tCB, tCons, tVar, tC, tNil, tTest, tChain, rI0, rI, tOp, rIxS, rIxL, rIxT, tRet, tNext, tAsg, gName, tAndV, tOrV, tNotV, tIf, tIsN, tNotN, tCall, tDrop, tBM, tBM0, rEq, rNe, tRetN, tSl, tNoPart, tPart, tTupD, tLstD, tInD, rIsK, rLenS, rLenL, rLenT, rAllT, rAnyF, rInK, rInL, rSlLD, rSlTD, rSlS, rCatD, rCatTD, rAppD, rExtD, rPopD, rPopAtD, rListD, rTupleD, iLst, iTpl, iStr, rIxLH, rIxTH, gTupH, gLstH, gStar0, gStar1, gStar2, rSumH, rAddS2, tJoinS, tFmtS, tFmtI, tJoined, tJoined_nil, tJoined_cons, rIsG, app_empty, tFldD, sFldD, tMkD, tMoD, rIsC, rLenO, rEqO, HO.ins.injEq, exists_eq, tNilL, tML, tML0, tMS, iEnumH, tCallK, rStrI, tGetS, tGet1S, tGet2S, rListKD, tDc_eq, tLc2_eq, tKGet, gCons, gNil, tChain3, tPartD, tSplitD, tPar, New, Chg, rListTD, atI_0, atI_1, atI_2, atI_3, sign_inj, and_false, false_and, or_false, false_or, or_true, true_or, List.take_succ_cons, List.take_zero, List.drop_succ_cons, List.drop_zero, forall_const, exists_false, not_false_eq_true, not_true_eq_false, if_true, if_false, iRng1, KindV,
  L2.start, List.map_cons, List.map_nil, List.length_cons, List.length_nil, List.replicate, List.cons_append, List.nil_append, List.append_nil, List.set_cons_zero, List.set_cons_succ, List.getElem?_cons_zero, List.getElem?_cons_succ, Option.some.injEq, exists_eq_left', exists_eq_left, V.int.injEq, V.str.injEq, V.bl.injEq, V.ref.injEq, V.ty.injEq, true_and, and_true, List.cons.injEq, exists_and_left, exists_eq', and_assoc, scal, ofString_inj, String.reduceEq, reduceIte, decide_eq_true_eq, decide_eq_false_iff_not, Bool.not_true, Bool.not_false, Bool.not_eq_true', inV_cons, inV_nil, eqV_ss, eqV_ii, flatV, List.all_cons, List.all_nil, Bool.and_true, Bool.or_false, Bool.true_and, Bool.false_or, decide_true, decide_false, Bool.true_or, Bool.false_eq_true, reduceCtorEq, spRunEnd, spPast, spReadNumber, rListStr, rIntStr, rSwAt, rSwith, tAug, ipI])
local macro_rules | `(tactic| walk_at "ra") => `(tactic| simp only [tYes, wipe, HO.lst.injEq, HO.tup.injEq, HO.dK.injEq, Nat.reduceAdd, Nat.reduceLeDiff, Nat.reduceSub, Int.reduceLE, Int.reduceLT, Int.reduceNeg, Nat.zero_add, Int.reduceEq, cut_head, cut_tail, cut_mid, cut_three, c_cast0, c_cast1, c_cast2, c_cast3, c_cast4, z_lit, List.getD_eq_getElem?_getD, Option.getD_some, tLc_eq, tFor_eq, cxOf, Cx.nox, Cx.wish, tSeq, tIfS, tOr, tAnd, tNot, tB, tCB, tCons, tVar, tC, tNil, tTest, tChain, rI0, rI, tOp, rIxS, rIxL, rIxT, tRet, tNext, tAsg, gName, tAndV, tOrV, tNotV, tIf, tIsN, tNotN, tCall, tDrop, tBM, tBM0, rEq, rNe, tRetN, tSl, tNoPart, tPart, tTupD, tLstD, tInD, rIsK, rLenS, rLenL, rLenT, rAllT, rAnyF, rInK, rInL, rSlLD, rSlTD, rSlS, rCatD, rCatTD, rAppD, rExtD, rPopD, rPopAtD, rListD, rTupleD, iLst, iTpl, iStr, rIxLH, rIxTH, gTupH, gLstH, gStar0, gStar1, gStar2, rSumH, rAddS2, tJoinS, tFmtS, tFmtI, tJoined, tJoined_nil, tJoined_cons, rIsG, app_empty, tFldD, sFldD, tMkD, tMoD, rIsC, rLenO, rEqO, HO.ins.injEq, exists_eq, tNilL, tML, tML0, tMS, iEnumH, tCallK, rStrI, tGetS, tGet1S, tGet2S, rListKD, tDc_eq, tLc2_eq, tKGet, gCons, gNil, tChain3, tPartD, tSplitD, tPar, New, Chg, rListTD, atI_0, atI_1, atI_2, atI_3, sign_inj, and_false, false_and, or_false, false_or, or_true, true_or, List.take_succ_cons, List.take_zero, List.drop_succ_cons, List.drop_zero, forall_const, exists_false, not_false_eq_true, not_true_eq_false, if_true, if_false, iRng1, KindV,
  L2.start, List.map_cons, List.map_nil, List.length_cons, List.length_nil, List.replicate, List.cons_append, List.nil_append, List.append_nil, List.set_cons_zero, List.set_cons_succ, List.getElem?_cons_zero, List.getElem?_cons_succ, Option.some.injEq, exists_eq_left', exists_eq_left, V.int.injEq, V.str.injEq, V.bl.injEq, V.ref.injEq, V.ty.injEq, true_and, and_true, List.cons.injEq, exists_and_left, exists_eq', and_assoc, scal, ofString_inj, String.reduceEq, reduceIte, decide_eq_true_eq, decide_eq_false_iff_not, Bool.not_true, Bool.not_false, Bool.not_eq_true', inV_cons, inV_nil, eqV_ss, eqV_ii, flatV, List.all_cons, List.all_nil, Bool.and_true, Bool.or_false, Bool.true_and, Bool.false_or, decide_true, decide_false, Bool.true_or, Bool.false_eq_true, reduceCtorEq, spRunEnd, spPast, spReadNumber, rListStr, rIntStr, rSwAt, rSwith, tAug, ipI, *])

section
variable {P : Program} {w : World} {K : PySem.W.Frag} {mg : Str → Option Value} {base : Heap} {k : Nat} {C : Addr}
theorem ok_run_end (T : TX K mg) (D : DF K mg "run_end" s_run_end ["text", "at", "signs"] []) : FO P w K mg base "run_end" (k + 1) ["text", "at", "signs"] [] spRunEnd := by
  refine D.ok sc_run_end (fun vs H Q E h => ?_) (fun fa cdv A outer s H vs Q E hr h => ?_)
  · obtain ⟨_, _, _, _, _, rfl, _⟩ := h
    rfl
  obtain ⟨x, sg, pre, run, post, rfl, hx, hl, hrun, hend, q⟩ := h
  have hxl : x.length = pre.length + (run.length + post.length) := by rw [len_tl, hx, List.length_append, List.length_append]
  refine ⟨_, (pss_cons (ps_while PassesOwn.never (PW.pt (pw_and (pt_cmpR op_lt (pv 1) (pe_callB call_lenS rfl T.len PySem.boot_len (pa_cons (pv 0) pa_nil)) (nomark _)) (pw_and1 (pt_cmpR op_in_sign (pe_ix ix_str (pv 0) (pv 1) (fun _ _ => rfl)) (pv 2) (by rfl)))))
      (pss_one (ps_aug (i := 1) sc_run_end.nd rfl (Or.inl rfl) pe_int ip_add)))
    (pss_one (ps_ret (pv 1)))), ?_⟩
  walk_at "rd"
  refine ⟨fun m σ H1 => ∃ i : Nat, i ≤ run.length ∧ m = run.length - i ∧ σ = [some (V.str x), some (V.int ((pre.length + i : Nat) : Int)), some (V.str sg)] ∧ H1 = H, ⟨run.length, 0, Nat.zero_le _, by omega, rfl, rfl⟩, ?_⟩
  rintro m σ H1 ⟨i, hi, rfl, rfl, rfl⟩
  walk_at "rd"
  refine ⟨size_of hl, ?_⟩
  by_cases hi2 : i < run.length
  · rw [if_pos (by omega)]
    have hspl : tl x = (pre ++ run.take i) ++ run[i] :: (run.drop (i + 1) ++ post) := by
      have e : run = run.take i ++ run[i] :: run.drop (i + 1) := by rw [← List.drop_eq_getElem_cons hi2, List.take_append_drop]
      rw [hx]
      conv => lhs; rw [e]
      simp only [List.append_assoc, List.cons_append]
    have hpl : (pre ++ run.take i).length = pre.length + i := by
      rw [List.length_append, List.length_take]
      omega
    have hat := at_pre hspl
    rw [hpl] at hat
    refine ⟨size_of hl, run[i], hat, ?_⟩
    rw [if_pos (hrun _ (List.getElem_mem hi2))]
    refine ⟨fun σ' H' => σ' = [some (V.str x), some (V.int ((pre.length + (i + 1) : Nat) : Int)), some (V.str sg)] ∧ H' = H1, fun σ' H' z => ⟨run.length - (i + 1), by omega, i + 1, by omega, rfl, z.1, z.2⟩, ?_⟩
    exact ⟨by simp; omega, rfl⟩
  · have hii : i = run.length := by omega
    subst hii
    rcases hend with rfl | ⟨c, r, rfl, hc⟩
    · rw [if_neg (by simp at hxl; omega)]
      exact q
    · rw [List.length_cons] at hxl
      rw [if_pos (by omega)]
      have hat := at_pre (x := x) (pre := pre ++ run) (c := c) (rest := r) (by rw [hx]; simp)
      rw [List.length_append] at hat
      refine ⟨size_of hl, c, hat, ?_⟩
      rw [if_neg hc]
      exact q
theorem ok_past (T : TX K mg) (D : DF K mg "past" s_past ["text", "at", "word"] []) : FO P w K mg base "past" (k + 1) ["text", "at", "word"] [] spPast := by
  refine D.ok sc_past (fun vs H Q E h => ?_) (fun fa cdv A outer s H vs Q E hr h => ?_)
  · obtain ⟨_, _, _, _, rfl, _⟩ := h
    rfl
  obtain ⟨x, wd, pre, post, rfl, hx, hl, q⟩ := h
  have hxl : x.length = pre.length + ((tl wd).length + post.length) := by rw [len_tl, hx, List.length_append, List.length_append]
  refine ⟨_, (pss_cons (ps_if (pt_not (pt_val (pe_bmS PySem.F.slot_str_startswith PySem.F.type_str_startswith mt_swAt (pv 0) (pa_cons (pv 2) (pa_cons (pv 1) pa_nil)))))
      (pss_one ps_never)
      pss_nil)
    (pss_one (ps_ret (pe_op op_add (pv 1) (pe_callB call_lenS rfl T.len PySem.boot_len (pa_cons (pv 2) pa_nil)))))), ?_⟩
  walk_at "rd"
  have hwl : wd.length = (tl wd).length := len_tl wd
  refine ⟨pre, rfl, tl wd ++ post, hx, ?_⟩
  have ht : ((tl wd ++ post).take wd.length == tl wd) = true := by
    rw [hwl, List.take_left]
    exact beq_self_eq_true _
  rw [ht, if_neg (by decide)]
  refine ⟨size_of (by omega), ?_⟩
  have e : (pre.length : Int) + (wd.length : Int) = ((pre.length + (tl wd).length : Nat) : Int) := by rw [hwl]; omega
  rw [e]
  exact q
theorem ok_read_number (T : TX K mg) (D : DF K mg "read_number" s_read_number ["text", "at"] []) (G_past : FO P w K mg base "past" k ["text", "at", "word"] [] spPast) : FO P w K mg base "read_number" (k + 1) ["text", "at"] [] spReadNumber := by
  refine D.ok sc_read_number (fun vs H Q E h => ?_) (fun fa cdv A outer s H vs Q E hr h => ?_)
  · obtain ⟨_, _, _, _, rfl, _⟩ := h
    rfl
  obtain ⟨x, pre, post, n, rfl, hx, hl, hn, q⟩ := h
  refine ⟨_, (pss_cons (ps_set (i := 2) sc_read_number.nd rfl (Or.inl rfl) (pe_fo G_past hr (pa_cons (pv 0) (pa_cons (pv 1) (pa_cons (pe_gv T.c_BETWEEN) pa_nil)))))
    (pss_cons (ps_if (pt_cmpR op_ninL (pe_slice sl_str (pv 0) (po_some (pv 2)) (po_some (pe_op op_add (pv 2) pe_int))) (pe_callTy (call_listStr rfl) rfl T.list (by decide +kernel) (pa_cons (pe_gv T.c_FIGURES) pa_nil)) (by rfl))
      (pss_one ps_never)
      pss_nil)
    (pss_one (ps_ret (pe_tupD (pa_cons (pe_callTy call_intFig rfl T.int (by decide +kernel) (pa_cons (pe_ix ix_str (pv 0) (pv 2) (fun _ _ => rfl)) pa_nil)) (pa_cons (pe_op op_add (pv 2) pe_int) pa_nil))))))), ?_⟩
  refine seq_i fun M hM => ?_
  walk_at "rd"
  have hsep : tl (Str.ofString ", ") = [44, 32] := by decide +kernel
  have hxl : x.length = pre.length + (post.length + 3) := by rw [len_tl, hx, List.length_append]; simp
  refine ⟨_, pre, rfl, rfl, (48 + n) :: post, by rw [hx, hsep]; rfl, hl, ?_⟩
  subst hM
  rw [hsep]
  have hp2 : tl x = (pre ++ [44, 32]) ++ (48 + n) :: post := by rw [hx]; simp
  have hpl : (pre ++ [44, 32]).length = pre.length + 2 := by rw [List.length_append]; rfl
  have hat := at_pre hp2
  have hcut := cut_pre (x := x) (pre := pre ++ [44, 32]) (mid := [48 + n]) (post := post) (by rw [hp2]; rfl)
  rw [hpl] at hat hcut
  refine seq_i fun M hM => ?_
  walk_at "rd"
  refine ⟨size_of hl, by decide +kernel, fun p H1 hp s1 hl1 => ⟨_, hl1, flat_strs _, ?_⟩⟩
  have e1 : ((pre.length + 2 : Nat) : Int) + 1 = ((pre.length + 2 + [48 + n].length : Nat) : Int) := by simp
  have hmem : figS n ∈ chrs (Str.ofString "0123456789") := by
    have : (48 + n) ∈ tl (Str.ofString "0123456789") := (figs_mem _).mpr ⟨by omega, by omega⟩
    exact List.mem_map.mpr ⟨48 + n, this, rfl⟩
  rw [e1, hcut, show (⟨[48 + n].toArray⟩ : Str) = figS n from rfl, inV_strs, decide_eq_true hmem, if_neg (by decide)]
  subst hM
  walk_at "rd"
  refine ⟨size_of hl, 48 + n, hat, n, rfl, hn, fun p2 H2 hp2 s2 hl2 => q _ _ (s1.free hp2) (s1.trans s2) ?_⟩
  rw [hl2]
  have e3 : ((pre.length + 2 : Nat) : Int) + 1 = ((pre.length + 3 : Nat) : Int) := by omega
  rw [e3]
end
end K37
set_option maxHeartbeats 4000000
namespace K37
open PySem L2 TL
open PyProof.Rows hiding St
theorem sc_read_operator : FnScope ["text", "at", "word", "deep", "things", "many", "k", "first", "term", "high", "low"] ["text", "at", "word", "deep"] (defScope s_read_operator) := ⟨rfl, rfl, rfl, by decide +kernel, rfl, by decide +kernel, by decide +kernel⟩

theorem sc_read_at : FnScope ["text", "at", "deep", "end"] ["text", "at", "deep"] (defScope s_read_at) := ⟨rfl, rfl, rfl, by decide +kernel, rfl, by decide +kernel, by decide +kernel⟩

theorem sc_read_term : FnScope ["text", "found", "end"] ["text"] (defScope s_read_term) := ⟨rfl, rfl, rfl, by decide +kernel, rfl, by decide +kernel, by decide +kernel⟩

def restL (l : List Tm) : List Nat := l.flatMap fun s => 44 :: 32 :: tl (tx s)
def numsL : Tm → List Nat
  | .t _ hi lo => [44, 32, 48 + hi, 44, 32, 48 + lo]
  | _ => []
def Stp (post : List Nat) : Prop := post = [] ∨ ∃ c r, post = c :: r ∧ (c = 44 ∨ c = 41)
theorem tx_shape {t : Tm} (h2 : ∀ v, t ≠ .is v) (h3 : ∀ v, t ≠ .of v) : ∃ s0 rest, subs t = s0 :: rest ∧ tl (tx t) = tl (wordOf t) ++ 40 :: (tl (tx s0) ++ (restL rest ++ (numsL t ++ [41]))) := by
  have e1 : tl (Str.ofString "(") = [40] := by decide +kernel
  have e2 : tl (Str.ofString ")") = [41] := by decide +kernel
  have e3 : tl (Str.ofString ", ") = [44, 32] := by decide +kernel
  have e4 : ∀ n, tl (figS n) = [48 + n] := fun _ => rfl
  cases t with
  | is v => exact absurd rfl (h2 v)
  | of v => exact absurd rfl (h3 v)
  | u w a => exact ⟨a, [], rfl, by simp [tx, tl_append, e1, e2, restL, numsL, wordOf]⟩
  | b w a b => exact ⟨a, [b], rfl, by simp [tx, tl_append, e1, e2, e3, restL, numsL, wordOf]⟩
  | p a b c => exact ⟨a, [b, c], rfl, by simp [tx, tl_append, e1, e2, e3, restL, numsL, wordOf]⟩
  | t a hi lo => exact ⟨a, [], rfl, by simp [tx, tl_append, e1, e2, e3, e4, restL, numsL, wordOf]⟩
/-- a tuple that stands for an operator's term -/
theorem RT.mk {H : Hp} {t : Tm} {a : Addr} {args : List V} (h : H a = some (.tup (.str (wordOf t) :: args))) (hc : (∃ s hi lo v, t = .t s hi lo ∧ args = [v, .int (hi : Int), .int (lo : Int)] ∧ RT H s v) ∨ ((∀ s hi lo, t ≠ .t s hi lo) ∧ (∀ v, t ≠ .is v) ∧ (∀ v, t ≠ .of v) ∧ All2 (RT H) (subs t) args)) : RT H t (.ref a) := by
  rcases hc with ⟨s, hi, lo, v, rfl, rfl, hs⟩ | ⟨n1, n2, n3, hal⟩
  · exact ⟨a, v, rfl, h, hs⟩
  · cases t with
    | is v => exact absurd rfl (n2 v)
    | of v => exact absurd rfl (n3 v)
    | t s hi lo => exact absurd rfl (n1 s hi lo)
    | u w s =>
      match args, hal with
      | [v], .cons q .nil => exact ⟨a, v, rfl, h, q⟩
    | b w s t =>
      match args, hal with
      | [v, u], .cons q (.cons q' .nil) => exact ⟨a, v, u, rfl, h, q, q'⟩
    | p r s t =>
      match args, hal with
      | [z, v, u], .cons q (.cons q' (.cons q'' .nil)) => exact ⟨a, z, v, u, rfl, h, q, q', q''⟩
def spReadAt (n : Nat) : Sp := fun vs H Q _ => ∃ (G : Str → Nat → Prop) (t : Tm) (k : Nat) (x : Str) (pre post : List Nat) (i d : Int), vs = [.str x, .int i, .int d] ∧ i = (pre.length : Int) ∧ tl x = pre ++ (tl (tx t) ++ post) ∧ x.length ≤ 1000000 ∧ Rng G ∧ Fit G t k ∧ deep t ≤ n ∧ (deep t : Int) ≤ d ∧ Stp post ∧
  ∀ p v H', H p = none → Same H H' → H' p = some (.tup [v, .int ((pre.length + (tl (tx t)).length : Nat) : Int)]) → RT H' t v → Q (.ref p) H'
def spReadOp (n : Nat) : Sp := fun vs H Q _ => ∃ (G : Str → Nat → Prop) (t : Tm) (k : Nat) (x : Str) (pre post : List Nat) (s0 : Tm) (rest : List Tm) (i d : Int), vs = [.str x, .int i, .str (wordOf t), .int d] ∧ i = (pre.length : Int) ∧ (∀ v, t ≠ .is v) ∧ (∀ v, t ≠ .of v) ∧ subs t = s0 :: rest ∧
  tl x = pre ++ 40 :: (tl (tx s0) ++ (restL rest ++ (numsL t ++ 41 :: post))) ∧ x.length ≤ 1000000 ∧ Rng G ∧ Fit G t k ∧ deep t ≤ n ∧ (deep t : Int) ≤ d ∧
  ∀ p v H', H p = none → Same H H' → H' p = some (.tup [v, .int (((pre ++ 40 :: (tl (tx s0) ++ (restL rest ++ (numsL t ++ [41])))).length : Nat) : Int)]) → RT H' t v → Q (.ref p) H'
def spReadTerm : Sp := fun vs H Q _ => ∃ (G : Str → Nat → Prop) (t : Tm) (k : Nat), vs = [.str (tx t)] ∧ Rng G ∧ TermOk G t k ∧ ∀ v H', Same H H' → RT H' t v → Q v H'
local macro_rules | `(tactic| walk_at "rd") => `(tactic| simp only [tYes, wipe, HO.lst.injEq, HO.tup.injEq, HO.dK.injEq, Nat.reduceAdd, Nat.reduceLeDiff, Nat.reduceSub, Int.reduceLE, Int.reduceLT, Int.reduceNeg, Nat.zero_add, Int.reduceEq, cut_head, cut_tail, cut_mid, cut_three, c_cast0, c_cast1, c_cast2, c_cast3, c_cast4, z_lit, List.getD_eq_getElem?_getD, Option.getD_some, tLc_eq, tFor_eq, cxOf, Cx.nox, Cx.wish, tSeq, tIfS, tOr, tAnd, tNot, tB, tCB, tCons, tVar, tC, tNil, tTest, tChain, rI0, rI, tOp, rIxS, rIxL, rIxT, tRet, tNext, tAsg, gName, tAndV, tOrV, tNotV, tIf, tIsN, tNotN, tCall, tDrop, tBM, tBM0, rEq, rNe, tRetN, tSl, tNoPart, tPart, tTupD, tLstD, tInD, rIsK, rLenS, rLenL, rLenT, rAllT, rAnyF, rInK, rInL, rSlLD, rSlTD, rSlS, rCatD, rCatTD, rAppD, rExtD, rPopD, rPopAtD, rListD, rTupleD, iLst, iTpl, iStr, rIxLH, rIxTH, gTupH, gLstH, gStar0, gStar1, gStar2, rSumH, rAddS2, tJoinS, tFmtS, tFmtI, tJoined, tJoined_nil, tJoined_cons, rIsG, app_empty, tFldD, sFldD, tMkD, tMoD, rIsC, rLenO, rEqO, HO.ins.injEq, exists_eq, tNilL, tML, tML0, tMS, iEnumH, tCallK, rStrI, tGetS, tGet1S, tGet2S, rListKD, tDc_eq, tLc2_eq, tKGet, gCons, gNil, tChain3, tPartD, tSplitD, tPar, New, Chg, rListTD, atI_0, atI_1, atI_2, atI_3, sign_inj, and_false, false_and, or_false, false_or, or_true, true_or, List.take_succ_cons, List.take_zero, List.drop_succ_cons, List.drop_zero, forall_const, exists_false, not_false_eq_true, not_true_eq_false, if_true, if_false, iRng1, KindV,
  L2.start, List.map_cons, List.map_nil, List.length_cons, List.length_nil, List.replicate, List.cons_append, List.nil_append, List.append_nil, List.set_cons_zero, List.set_cons_succ, List.getElem?_cons_zero, List.getElem?_cons_succ, Option.some.injEq, exists_eq_left', exists_eq_left, V.int.injEq, V.str.injEq, V.bl.injEq, V.ref.injEq, V.ty.injEq, true_and, and_true, List.cons.injEq, exists_and_left, exists_eq', and_assoc, scal, ofString_inj, String.reduceEq, reduceIte, decide_eq_true_eq, decide_eq_false_iff_not, Bool.not_true, Bool.not_false, Bool.not_eq_true', inV_cons, inV_nil, eqV_ss, eqV_ii, flatV, List.all_cons, List.all_nil, Bool.and_true, Bool.or_false, Bool.true_and, Bool.false_or, decide_true, decide_false, Bool.true_or, Bool.false_eq_true, reduceCtorEq, spRunEnd, spPast, spReadNumber, spReadAt, spReadOp, spReadTerm, spArgsOf, spIsTerm, rListStr, rIntStr, rSwAt, rSwith])
local macro_rules | `(tactic| walk_at "ra") => `(tactic| simp only [tYes, wipe, HO.lst.injEq, HO.tup.injEq, HO.dK.injEq, Nat.reduceAdd, Nat.reduceLeDiff, Nat.reduceSub, Int.reduceLE, Int.reduceLT, Int.reduceNeg, Nat.zero_add, Int.reduceEq, cut_head, cut_tail, cut_mid, cut_three, c_cast0, c_cast1, c_cast2, c_cast3, c_cast4, z_lit, List.getD_eq_getElem?_getD, Option.getD_some, tLc_eq, tFor_eq, cxOf, Cx.nox, Cx.wish, tSeq, tIfS, tOr, tAnd, tNot, tB, tCB, tCons, tVar, tC, tNil, tTest, tChain, rI0, rI, tOp, rIxS, rIxL, rIxT, tRet, tNext, tAsg, gName, tAndV, tOrV, tNotV, tIf, tIsN, tNotN, tCall, tDrop, tBM, tBM0, rEq, rNe, tRetN, tSl, tNoPart, tPart, tTupD, tLstD, tInD, rIsK, rLenS, rLenL, rLenT, rAllT, rAnyF, rInK, rInL, rSlLD, rSlTD, rSlS, rCatD, rCatTD, rAppD, rExtD, rPopD, rPopAtD, rListD, rTupleD, iLst, iTpl, iStr, rIxLH, rIxTH, gTupH, gLstH, gStar0, gStar1, gStar2, rSumH, rAddS2, tJoinS, tFmtS, tFmtI, tJoined, tJoined_nil, tJoined_cons, rIsG, app_empty, tFldD, sFldD, tMkD, tMoD, rIsC, rLenO, rEqO, HO.ins.injEq, exists_eq, tNilL, tML, tML0, tMS, iEnumH, tCallK, rStrI, tGetS, tGet1S, tGet2S, rListKD, tDc_eq, tLc2_eq, tKGet, gCons, gNil, tChain3, tPartD, tSplitD, tPar, New, Chg, rListTD, atI_0, atI_1, atI_2, atI_3, sign_inj, and_false, false_and, or_false, false_or, or_true, true_or, List.take_succ_cons, List.take_zero, List.drop_succ_cons, List.drop_zero, forall_const, exists_false, not_false_eq_true, not_true_eq_false, if_true, if_false, iRng1, KindV,
  L2.start, List.map_cons, List.map_nil, List.length_cons, List.length_nil, List.replicate, List.cons_append, List.nil_append, List.append_nil, List.set_cons_zero, List.set_cons_succ, List.getElem?_cons_zero, List.getElem?_cons_succ, Option.some.injEq, exists_eq_left', exists_eq_left, V.int.injEq, V.str.injEq, V.bl.injEq, V.ref.injEq, V.ty.injEq, true_and, and_true, List.cons.injEq, exists_and_left, exists_eq', and_assoc, scal, ofString_inj, String.reduceEq, reduceIte, decide_eq_true_eq, decide_eq_false_iff_not, Bool.not_true, Bool.not_false, Bool.not_eq_true', inV_cons, inV_nil, eqV_ss, eqV_ii, flatV, List.all_cons, List.all_nil, Bool.and_true, Bool.or_false, Bool.true_and, Bool.false_or, decide_true, decide_false, Bool.true_or, Bool.false_eq_true, reduceCtorEq, spRunEnd, spPast, spReadNumber, spReadAt, spReadOp, spReadTerm, spArgsOf, spIsTerm, rListStr, rIntStr, rSwAt, rSwith, *])

theorem stp_rest (rest : List Tm) (t : Tm) (post : List Nat) : Stp (restL rest ++ (numsL t ++ 41 :: post)) := by
  cases rest with
  | nil =>
    cases t with
    | t a hi lo => exact .inr ⟨44, _, rfl, .inl rfl⟩
    | _ => exact .inr ⟨41, _, rfl, .inr rfl⟩
  | cons s r => exact .inr ⟨44, _, rfl, .inl rfl⟩
section
variable {P : Program} {w : World} {K : PySem.W.Frag} {mg : Str → Option Value} {base : Heap} {k : Nat} {C : Addr}
theorem ok_read_operator {n : Nat} (T : TX K mg) (D : DF K mg "read_operator" s_read_operator ["text", "at", "word", "deep"] []) (G_read_at : FO P w K mg base "read_at" k ["text", "at", "deep"] [] (spReadAt n)) (G_arguments_of : FO P w K mg base "arguments_of" k ["word"] [] spArgsOf)
    (G_past : FO P w K mg base "past" k ["text", "at", "word"] [] spPast) (G_read_number : FO P w K mg base "read_number" k ["text", "at"] [] spReadNumber) :
    FO P w K mg base "read_operator" (k + 1) ["text", "at", "word", "deep"] [] (spReadOp (n + 1)) := by
  obtain ⟨_, c_WORDS⟩ := T.k_WORDS
  refine D.ok sc_read_operator (fun vs H Q E h => ?_) (fun fa cdv A outer s H vs Q E hr h => ?_)
  · obtain ⟨_, _, _, _, _, _, _, _, _, _, rfl, _⟩ := h
    rfl
  obtain ⟨G, t, kk, x, pre, post, s0, rest, i, d, rfl, rfl, n2, n3, hsub, hx, hl, hG, hf, hn, hd, q⟩ := h
  refine ⟨_, (pss_cons (ps_if (pt_cmpR (op_ninK c_WORDS.2) (pv 2) (pe_gv c_WORDS.1) (by rfl))
      (pss_one ps_never)
      pss_nil)
    (pss_cons (ps_asg (pe_fo G_read_at hr (pa_cons (pv 0) (pa_cons (pe_op op_add (pv 1) pe_int) (pa_cons (pe_op op_sub (pv 3) pe_int) pa_nil)))) (pg_tpl 2 rfl (pgs_cons (pg_name (i := 7) sc_read_operator.nd rfl (Or.inl rfl)) (pgs_cons (pg_name (i := 1) sc_read_operator.nd rfl (Or.inl rfl)) pgs_nil))))
    (pss_cons (ps_set (i := 4) sc_read_operator.nd rfl (Or.inl rfl) (pe_lstD (pa_cons (pv 2) (pa_cons (pv 7) pa_nil))))
    (pss_cons (ps_set (i := 5) sc_read_operator.nd rfl (Or.inl rfl) (pe_ifExp (pt_cmpR op_eq (pv 2) pe_str (nomark _)) pe_int (pe_fo G_arguments_of hr (pa_cons (pv 2) pa_nil))))
    (pss_cons (ps_for PassesOwn.never rfl (pi_range1 rfl T.range (pa_cons (pe_op op_sub (pv 5) pe_int) pa_nil)) (pg_name (i := 6) sc_read_operator.nd rfl (Or.inl rfl))
      (pss_cons (ps_asg (pe_fo G_read_at hr (pa_cons (pv 0) (pa_cons (pe_fo G_past hr (pa_cons (pv 0) (pa_cons (pv 1) (pa_cons (pe_gv T.c_BETWEEN) pa_nil)))) (pa_cons (pe_op op_sub (pv 3) pe_int) pa_nil)))) (pg_tpl 2 rfl (pgs_cons (pg_name (i := 8) sc_read_operator.nd rfl (Or.inl rfl)) (pgs_cons (pg_name (i := 1) sc_read_operator.nd rfl (Or.inl rfl)) pgs_nil))))
    (pss_one (ps_expr (pe_bmL PySem.F.slot_list_append PySem.F.type_list_append mt_appD (pv 4) (pa_cons (pv 8) pa_nil))))))
    (pss_cons (ps_if (pt_cmpR op_eq (pv 2) pe_str (nomark _))
      (pss_cons (ps_asg (pe_fo G_read_number hr (pa_cons (pv 0) (pa_cons (pv 1) pa_nil))) (pg_tpl 2 rfl (pgs_cons (pg_name (i := 9) sc_read_operator.nd rfl (Or.inl rfl)) (pgs_cons (pg_name (i := 1) sc_read_operator.nd rfl (Or.inl rfl)) pgs_nil))))
    (pss_cons (ps_asg (pe_fo G_read_number hr (pa_cons (pv 0) (pa_cons (pv 1) pa_nil))) (pg_tpl 2 rfl (pgs_cons (pg_name (i := 10) sc_read_operator.nd rfl (Or.inl rfl)) (pgs_cons (pg_name (i := 1) sc_read_operator.nd rfl (Or.inl rfl)) pgs_nil))))
    (pss_one (ps_expr (pe_bmL PySem.F.slot_list_extend PySem.F.type_list_extend mt_extD (pv 4) (pa_cons (pe_lstD (pa_cons (pv 9) (pa_cons (pv 10) pa_nil))) pa_nil))))))
      pss_nil)
    (pss_one (ps_ret (pe_tupD (pa_cons (pe_callTy call_tupleD rfl T.tuple (by decide +kernel) (pa_cons (pv 4) pa_nil)) (pa_cons (pe_fo G_past hr (pa_cons (pv 0) (pa_cons (pv 1) (pa_cons pe_str pa_nil)))) pa_nil))))))))))), ?_⟩
  have hfs : Fits t := ⟨G, kk, hG, hf⟩
  have hword : wordOf t ∈ wordsL := by
    by_cases h1 : ∃ s hi lo, t = .t s hi lo
    · obtain ⟨s, hi, lo, rfl⟩ := h1
      show (Str.ofString "part" : Str) ∈ wordsL
      decide +kernel
    · exact (hfs.word (fun s hi lo z => h1 ⟨s, hi, lo, z⟩) n2 n3).1
  have hall : ∀ s ∈ subs t, deep s ≤ n ∧ (deep s : Int) ≤ d - 1 ∧ ∃ j, Fit G s j := fun s hs => by
    have := subs_deep hs
    exact ⟨by omega, by omega, Fit.subs hf s hs⟩
  obtain ⟨d0, d1, j0, hj0⟩ := hall s0 (by rw [hsub]; exact List.mem_cons_self)
  refine seq_i fun M hM => ?_
  walk_at "ra"
  subst hM
  refine seq_i fun M hM => ?_
  walk_at "rd"
  refine ⟨G, s0, j0, pre ++ [40], by simp, restL rest ++ (numsL t ++ 41 :: post), by rw [hx]; simp, hl, hG, hj0, d0, d1, stp_rest _ _ _, fun p1 v0 H1 hp1 s1 hl1 hr1 => ⟨_, hl1, rfl, _, _, rfl, _, _, rfl, rfl, ?_⟩⟩
  subst hM
  refine seq_i fun M hM => ?_
  walk_at "ra"
  intro pth H2 hp2 s2 hl2
  have s02 := s1.trans s2
  subst hM
  refine seq_i fun M hM => ?_
  have hmany : (wordOf t = Str.ofString "part" ∧ rest = []) ∨ (wordOf t ≠ Str.ofString "part" ∧ (argsOf (wordOf t) : Int) = (rest.length : Int) + 1 ∧ (∀ s hi lo, t ≠ .t s hi lo)) := by
    by_cases h1 : ∃ s hi lo, t = .t s hi lo
    · obtain ⟨s, hi, lo, rfl⟩ := h1
      simp [subs] at hsub
      exact .inl ⟨rfl, hsub.2⟩
    · have h1' : ∀ s hi lo, t ≠ .t s hi lo := fun s hi lo z => h1 ⟨s, hi, lo, z⟩
      obtain ⟨_, w2, _, _, w5⟩ := hfs.word h1' n2 n3
      rw [hsub, List.length_cons] at w5
      exact .inr ⟨w2, by rw [← w5]; omega, h1'⟩
  have hpre : ((pre ++ [40]).length + (tl (tx s0)).length) = (pre ++ 40 :: (tl (tx s0) ++ restL (rest.take 0))).length := by
    simp [restL]
    omega
  rw [hpre]
  have fin : ∀ m : Int, m - 1 = (rest.length : Int) → M [some (V.str x), some (V.int ((pre ++ 40 :: (tl (tx s0) ++ restL (rest.take 0))).length : Nat)), some (V.str (wordOf t)), some (V.int d), some (V.ref pth), some (V.int m), none, some v0, none, none, none] H2 := fun m hm => by
    subst hM
    refine seq_i fun M hM => ?_
    have hr2 : rest.length ≤ 2 := by
      have : (subs t).length ≤ 3 := by cases t <;> simp [subs]
      rw [hsub, List.length_cons] at this
      omega
    walk_at "rd"
    refine ⟨by omega, by omega, ?_⟩
    have hN : (m - 1).toNat = rest.length := by omega
    rw [hN]
    refine for_gen wk_rng (fun i σ H3 => ∃ (o6 o8 : Option V) (vs : List V), σ = [some (V.str x), some (V.int ((pre ++ 40 :: (tl (tx s0) ++ restL (rest.take i))).length : Nat)), some (V.str (wordOf t)), some (V.int d), some (V.ref pth), some (V.int m), o6, some v0, o8, none, none] ∧ Same H H3 ∧ H3 pth = some (.lst (.str (wordOf t) :: vs)) ∧ All2 (RT H3) (s0 :: rest.take i) vs)
      ⟨none, none, [v0], rfl, s02, hl2, .cons (RT.tk (same_tk s2) _ _ hr1) .nil⟩ (fun _ _ _ _ _ => trivial) (fun i σ H3 hi z => ?_) (fun σ H3 z => ?_)
    · obtain ⟨o6, o8, vs, rfl, s3, hp3, hal⟩ := z
      have hspl : restL rest = restL (rest.take i) ++ (44 :: 32 :: (tl (tx rest[i]) ++ restL (rest.drop (i + 1)))) := by
        have e : rest = rest.take i ++ rest[i] :: rest.drop (i + 1) := by rw [← List.drop_eq_getElem_cons hi, List.take_append_drop]
        conv => lhs; rw [e]
        simp only [restL, List.flatMap_append, List.flatMap_cons, List.cons_append]
      have hx3 : tl x = (pre ++ 40 :: (tl (tx s0) ++ restL (rest.take i))) ++ (44 :: 32 :: (tl (tx rest[i]) ++ (restL (rest.drop (i + 1)) ++ (numsL t ++ 41 :: post)))) := by
        rw [hx, hspl]
        simp
      have hsep : tl (Str.ofString ", ") = [44, 32] := by decide +kernel
      obtain ⟨di, di1, ji, hji⟩ := hall rest[i] (by rw [hsub]; exact List.mem_cons_of_mem _ (List.getElem_mem hi))
      have hp0 : H pth = none := s1.free hp2
      walk_at "rd"
      refine ⟨_, pre ++ 40 :: (tl (tx s0) ++ restL (rest.take i)), rfl, rfl, tl (tx rest[i]) ++ (restL (rest.drop (i + 1)) ++ (numsL t ++ 41 :: post)), by rw [hx3, hsep]; rfl, hl, G, rest[i], ji, (pre ++ 40 :: (tl (tx s0) ++ restL (rest.take i))) ++ [44, 32], by rw [hsep, List.length_append (bs := [44, 32])], restL (rest.drop (i + 1)) ++ (numsL t ++ 41 :: post), by rw [hx3]; simp, hl, hG, hji, di, di1, stp_rest _ _ _,
        fun p4 v4 H4 hp4 s4 hl4 hr4 => ⟨_, hl4, rfl, _, _, rfl, _, _, rfl, rfl, ?_⟩⟩
      have hp34 := s4 _ _ hp3
      have s04 := s3.trans s4
      have hvl := all2_len hal
      simp only [List.length_cons, List.length_take] at hvl
      refine ⟨⟨_, hp34⟩, _, hp34, by simp only [List.length_cons]; omega, fun H5 b5 hp5 => ?_⟩
      refine ⟨?_, same_but s04 hp0 b5, vs ++ [v4], hp5, ?_⟩
      · have e : ((pre ++ 40 :: (tl (tx s0) ++ restL (rest.take i))) ++ [44, 32]).length + (tl (tx rest[i])).length = (pre ++ 40 :: (tl (tx s0) ++ restL (rest.take (i + 1)))).length := by
          have er : restL (rest.take (i + 1)) = restL (rest.take i) ++ (44 :: 32 :: tl (tx rest[i])) := by
            rw [take_snoc (List.getElem?_eq_getElem hi)]
            simp only [restL, List.flatMap_append, List.flatMap_cons, List.flatMap_nil, List.append_nil]
          rw [er]
          simp only [List.length_append, List.length_cons, List.length_nil]
          omega
        rw [e]
      · rw [take_snoc (List.getElem?_eq_getElem hi)]
        exact all2_mono (fun _ _ z => RT.tk (b5.tk hp34) _ _ z) (all2_snoc (l := s0 :: rest.take i) (all2_mono (fun _ _ z => RT.tk (same_tk s4) _ _ z) hal) hr4)
    · obtain ⟨o6, o8, vs, rfl, s3, hp3, hal⟩ := z
      rw [List.take_length] at hal
      show M _ _
      rw [← hM]
      clear hM M
      refine seq_i fun M hM => ?_
      have hsep : tl (Str.ofString ", ") = [44, 32] := by decide +kernel
      have hcl : tl (Str.ofString ")") = [41] := by decide +kernel
      have fin2 : ∀ (o6 o8 o9 o10 : Option V) (args : List V) (H4 : Hp), Same H H4 → H4 pth = some (.lst (.str (wordOf t) :: args)) → args.length ≤ 3 → ((∃ s hi lo v, t = .t s hi lo ∧ args = [v, .int (hi : Int), .int (lo : Int)] ∧ RT H4 s v) ∨ ((∀ s hi lo, t ≠ .t s hi lo) ∧ (∀ v, t ≠ .is v) ∧ (∀ v, t ≠ .of v) ∧ All2 (RT H4) (subs t) args)) →
          M [some (V.str x), some (V.int ((pre ++ 40 :: (tl (tx s0) ++ (restL rest ++ numsL t))).length : Nat)), some (V.str (wordOf t)), some (V.int d), some (V.ref pth), some (V.int m), o6, some v0, o8, o9, o10] H4 := fun o6 o8 o9 o10 args H4 s4 hl4 hle hc => by
        subst hM
        walk_at "rd"
        refine ⟨_, hl4, fun p5 H5 hp5 s5 hl5 => ⟨_, pre ++ 40 :: (tl (tx s0) ++ (restL rest ++ numsL t)), rfl, rfl, post, by rw [hx, hcl]; simp, hl, fun p6 H6 hp6 s6 hl6 => q _ (.ref p5) _ ((s4.trans s5).free hp6) ((s4.trans s5).trans s6) ?_ ?_⟩⟩
        · rw [hl6, hcl]
          have e : (pre ++ 40 :: (tl (tx s0) ++ (restL rest ++ numsL t))).length + [41].length = (pre ++ 40 :: (tl (tx s0) ++ (restL rest ++ (numsL t ++ [41])))).length := by
            simp only [List.length_append, List.length_cons, List.length_nil]
            omega
          rw [e]
        · refine RT.mk (s6 _ _ hl5) ?_
          rcases hc with ⟨s, hi, lo, v, e1, e2, hs⟩ | ⟨n1, n2, n3, hal⟩
          · exact .inl ⟨s, hi, lo, v, e1, e2, RT.tk (same_tk (s5.trans s6)) _ _ hs⟩
          · exact .inr ⟨n1, n2, n3, all2_mono (fun _ _ z => RT.tk (same_tk (s5.trans s6)) _ _ z) hal⟩
      by_cases hpart : ∃ s hi lo, t = .t s hi lo
      · obtain ⟨s, hi, lo, rfl⟩ := hpart
        simp only [subs, List.cons.injEq] at hsub
        obtain ⟨rfl, rfl⟩ := hsub
        obtain ⟨j, hfa, hj, hlo, hk⟩ := hf
        have hrg := Fit.range hG _ _ hfa
        have hp0 : H pth = none := s1.free hp2
        match vs, hal with
        | [va], .cons hva .nil =>
        walk_at "rd"
        rw [if_pos (show wordOf (.t s hi lo) = Str.ofString "part" from rfl)]
        refine ⟨pre ++ 40 :: (tl (tx s) ++ restL []), rfl, 44 :: 32 :: (48 + lo) :: 41 :: post, hi, by rw [hx]; simp [numsL, restL], hl, by omega, fun p5 H5 hp5 s5 hl5 => ⟨_, hl5, rfl, _, _, rfl, _, _, rfl, rfl, (pre ++ 40 :: (tl (tx s) ++ restL [])) ++ [44, 32, 48 + hi], by rw [List.length_append (bs := [44, 32, 48 + hi])]; rfl, 41 :: post, lo, by rw [hx]; simp [numsL, restL], hl, by omega, fun p6 H6 hp6 s6 hl6 => ⟨_, hl6, rfl, _, _, rfl, _, _, rfl, rfl, ?_⟩⟩⟩
        have hp36 := s6 _ _ (s5 _ _ hp3)
        have s06 := (s3.trans s5).trans s6
        refine ⟨⟨_, hp36⟩, fun p7 H7 hp7 s7 hl7 => ⟨_, s7 _ _ hp36, _, hl7, by simp, fun H8 b8 hp8 => ?_⟩⟩
        have z := fin2 o6 o8 (some (.int (hi : Int))) (some (.int (lo : Int))) [va, .int (hi : Int), .int (lo : Int)] H8 (same_but (s06.trans s7) hp0 b8) (by rw [hp8]; rfl) (by simp) (.inl ⟨s, hi, lo, va, rfl, rfl, RT.tk ((same_tk ((s5.trans s6).trans s7)).trans (b8.tk (s7 _ _ hp36))) _ _ hva⟩)
        have e : (pre ++ 40 :: (tl (tx s) ++ restL []) ++ [44, 32, 48 + hi]).length + 3 = (pre ++ 40 :: (tl (tx s) ++ (restL [] ++ numsL (.t s hi lo)))).length := by
          simp only [List.length_append, List.length_cons, List.length_nil, numsL]
          omega
        rw [e]
        exact z
      · have hnp : ∀ s hi lo, t ≠ .t s hi lo := fun s hi lo z => hpart ⟨s, hi, lo, z⟩
        have hnw := (hfs.word hnp n2 n3).2.1
        have hnum : numsL t = [] := by
          cases t with
          | t s hi lo => exact absurd rfl (hnp s hi lo)
          | _ => rfl
        have z := fin2 o6 o8 none none vs H3 s3 hp3 (by rw [← all2_len hal, List.length_cons]; omega) (.inr ⟨hnp, n2, n3, by rw [hsub]; exact hal⟩)
        rw [hnum, List.append_nil] at z
        walk_at "rd"
        rw [if_neg hnw, List.take_length]
        exact z
  rcases hmany with ⟨hw, rfl⟩ | ⟨hw, ha, hnp⟩
  · have z := fin 1 (by simp)
    rw [hw] at z
    walk_at "ra"
    exact z
  · walk_at "ra"
    exact fin _ (by omega)
theorem words_let : ∀ w ∈ wordsL, tl w ≠ [] ∧ ∀ c ∈ tl w, isLet c := by
  have h : ∀ w ∈ wordsL, tl w ≠ [] ∧ ∀ c ∈ tl w, (97 ≤ c ∧ c ≤ 122) := by decide +kernel
  exact h
theorem stp_run {sg : Str} {post : List Nat} (h : Stp post) (h1 : 44 ∉ tl sg) (h2 : 41 ∉ tl sg) : RunEnd sg post := by
  rcases h with h | ⟨c, r, e, rfl | rfl⟩
  · exact .inl h
  · exact .inr ⟨_, r, e, h1⟩
  · exact .inr ⟨_, r, e, h2⟩
theorem ok_read_at {n : Nat} (T : TX K mg) (D : DF K mg "read_at" s_read_at ["text", "at", "deep"] []) (G_read_operator : FO P w K mg base "read_operator" k ["text", "at", "word", "deep"] [] (spReadOp (n + 1))) (G_run_end : FO P w K mg base "run_end" k ["text", "at", "signs"] [] spRunEnd) :
    FO P w K mg base "read_at" (k + 1) ["text", "at", "deep"] [] (spReadAt (n + 1)) := by
  refine D.ok sc_read_at (fun vs H Q E h => ?_) (fun fa cdv A outer s H vs Q E hr h => ?_)
  · obtain ⟨_, _, _, _, _, _, _, _, rfl, _⟩ := h
    rfl
  obtain ⟨G, t, kk, x, pre, post, i, d, rfl, rfl, hx, hl, hG, hf, hn, hd, hst, q⟩ := h
  have hd0 : ¬ d = 0 := by have := deep_pos t; omega
  have hmk : tl (Str.ofString "'") = [39] := by decide +kernel
  have hop : tl (Str.ofString "(") = [40] := by decide +kernel
  refine ⟨_, (pss_cons (ps_if (pt_cmpR op_eq (pv 2) pe_int (nomark _))
      (pss_one ps_never)
      pss_nil)
    (pss_cons (ps_if (pt_val (pe_bmS PySem.F.slot_str_startswith PySem.F.type_str_startswith mt_swAt (pv 0) (pa_cons (pe_gv T.c_MARK) (pa_cons (pv 1) pa_nil))))
      (pss_cons (ps_set (i := 3) sc_read_at.nd rfl (Or.inl rfl) (pe_fo G_run_end hr (pa_cons (pv 0) (pa_cons (pe_op op_add (pv 1) pe_int) (pa_cons (pe_gv T.c_SIGNS) pa_nil)))))
    (pss_one (ps_ret (pe_tupD (pa_cons (pe_tupD (pa_cons pe_str (pa_cons (pe_slice sl_str (pv 0) (po_some (pe_op op_add (pv 1) pe_int)) (po_some (pv 3))) pa_nil))) (pa_cons (pv 3) pa_nil))))))
      pss_nil)
    (pss_cons (ps_set (i := 3) sc_read_at.nd rfl (Or.inl rfl) (pe_fo G_run_end hr (pa_cons (pv 0) (pa_cons (pv 1) (pa_cons (pe_op op_addS2 (pe_gv T.c_LETTERS) (pe_gv T.c_FIGURES)) pa_nil)))))
    (pss_cons (ps_if (pt_val (pe_bmS PySem.F.slot_str_startswith PySem.F.type_str_startswith mt_swAt (pv 0) (pa_cons pe_str (pa_cons (pv 3) pa_nil))))
      (pss_one (ps_ret (pe_fo G_read_operator hr (pa_cons (pv 0) (pa_cons (pv 3) (pa_cons (pe_slice sl_str (pv 0) (po_some (pv 1)) (po_some (pv 3))) (pa_cons (pv 2) pa_nil)))))))
      pss_nil)
    (pss_one (ps_ret (pe_tupD (pa_cons (pe_tupD (pa_cons pe_str (pa_cons (pe_slice sl_str (pv 0) (po_some (pv 1)) (po_some (pv 3))) pa_nil))) (pa_cons (pv 3) pa_nil))))))))), ?_⟩
  refine seq_i fun M hM => ?_
  walk_at "ra"
  subst hM
  refine seq_i fun M hM => ?_
  walk_at "rd"
  refine ⟨pre, rfl, tl (tx t) ++ post, hx, ?_⟩
  have e39 : (Str.ofString "'").length = 1 := by decide +kernel
  rw [e39, hmk]
  have hlf : ∀ c, c ∈ tl (Str.ofString "abcdefghijklmnopqrstuvwxyz" ++ Str.ofString "0123456789") ↔ isLet c ∨ isFig c := fun c => by
    rw [tl_append, List.mem_append]
    exact or_congr (lets_mem c) (figs_mem c)
  rcases tm_leaf t with ⟨v, rfl⟩ | ⟨v, rfl⟩ | ⟨n2, n3⟩
  · have etx : tl (tx (.is v)) = 39 :: tl v := by
      show tl (Str.ofString "'" ++ v) = _
      rw [tl_append, hmk]
      rfl
    rw [etx] at hx q
    rw [etx, if_pos (by simp)]
    have hsg : ∀ c, c ∈ tl (Str.ofString "01xz") ↔ (c = 48 ∨ c = 49 ∨ c = 120 ∨ c = 122) := signs_mem
    have hx2 : tl x = (pre ++ [39]) ++ (tl v ++ post) := by rw [hx]; simp
    have hcut := cut_pre hx2
    have hpl : ((pre ++ [39]).length : Int) = (pre.length : Int) + 1 := by simp
    refine ⟨_, pre ++ [39], hpl.symm, rfl, tl v, post, hx2, hl, fun c hc => (hsg c).mpr ?_, stp_run hst (fun z => by have := (hsg _).mp z; omega) (fun z => by have := (hsg _).mp z; omega), size_of hl, fun p H1 hp s1 hl1 p2 H2 hp2 s2 hl2 => ?_⟩
    · have := ValOk.al hf c hc
      omega
    · refine q _ (.ref p) _ (s1.free hp2) (s1.trans s2) ?_ ⟨p, rfl, ?_⟩
      · rw [hl2]
        have e : (pre ++ [39]).length + (tl v).length = pre.length + (39 :: tl v).length := by simp; omega
        rw [e]
      · rw [← hpl, hcut, mk_tl] at hl1
        exact s2 _ _ hl1
  · obtain ⟨c0, r0, ec, hc0⟩ := hf.1.hd
    have etx : tl (tx (.of v)) = tl v := rfl
    rw [etx] at hx q
    rw [etx, if_neg (by rw [ec]; simp [isLet] at hc0 ⊢; omega)]
    subst hM
    refine seq_i fun M hM => ?_
    walk_at "rd"
    refine ⟨by decide +kernel, _, pre, rfl, rfl, tl v, post, hx, hl, fun c hc => (hlf c).mpr (hf.1.al c hc), stp_run hst (fun z => by have := (hlf _).mp z; simp [isLet, isFig] at this) (fun z => by have := (hlf _).mp z; simp [isLet, isFig] at this), ?_⟩
    have hcut := cut_pre hx
    rw [← List.length_append]
    rw [← List.length_append] at hcut q
    subst hM
    refine seq_i fun M hM => ?_
    walk_at "rd"
    refine ⟨pre ++ tl v, rfl, post, by rw [hx]; simp, ?_⟩
    have e40 : (Str.ofString "(").length = 1 := by decide +kernel
    have hno : (post.take 1 == [40]) = false := by
      rcases hst with rfl | ⟨c, r, rfl, rfl | rfl⟩ <;> simp
    rw [e40, hop, hno, if_neg (by decide)]
    subst hM
    walk_at "rd"
    refine ⟨size_of hl, fun p H1 hp s1 hl1 p2 H2 hp2 s2 hl2 => q _ (.ref p) _ (s1.free hp2) (s1.trans s2) hl2 ⟨p, rfl, ?_⟩⟩
    rw [hcut, mk_tl] at hl1
    exact s2 _ _ hl1
  · obtain ⟨s0, rest, hsub, hsh⟩ := tx_shape n2 n3
    have hfs : Fits t := ⟨G, kk, hG, hf⟩
    have hword : wordOf t ∈ wordsL := by
      by_cases h1 : ∃ s hi lo, t = .t s hi lo
      · obtain ⟨s, hi, lo, rfl⟩ := h1
        show (Str.ofString "part" : Str) ∈ wordsL
        decide +kernel
      · exact (hfs.word (fun s hi lo z => h1 ⟨s, hi, lo, z⟩) n2 n3).1
    obtain ⟨hwn, hwl⟩ := words_let _ hword
    rw [hsh] at hx q
    have hh : ∃ c r, tl (wordOf t) = c :: r := by
      cases e : tl (wordOf t) with
      | nil => exact absurd e hwn
      | cons c r => exact ⟨c, r, rfl⟩
    obtain ⟨c0, r0, ec⟩ := hh
    have hc0 := hwl c0 (by rw [ec]; exact List.mem_cons_self)
    rw [hsh, if_neg (by rw [ec]; simp [isLet] at hc0 ⊢; omega)]
    subst hM
    refine seq_i fun M hM => ?_
    walk_at "rd"
    have hx2 : tl x = pre ++ (tl (wordOf t) ++ (40 :: (tl (tx s0) ++ (restL rest ++ (numsL t ++ 41 :: post))))) := by rw [hx]; simp
    refine ⟨by decide +kernel, _, pre, rfl, rfl, tl (wordOf t), _, hx2, hl, fun c hc => (hlf c).mpr (.inl (hwl c hc)), .inr ⟨40, _, rfl, fun z => by have := (hlf _).mp z; simp [isLet, isFig] at this⟩, ?_⟩
    have hcut := cut_pre hx2
    rw [← List.length_append]
    rw [← List.length_append] at hcut
    subst hM
    refine seq_i fun M hM => ?_
    walk_at "rd"
    refine ⟨pre ++ tl (wordOf t), rfl, 40 :: (tl (tx s0) ++ (restL rest ++ (numsL t ++ 41 :: post))), by rw [hx2]; simp, ?_⟩
    have e40 : (Str.ofString "(").length = 1 := by decide +kernel
    rw [e40, hop, if_pos (by simp)]
    refine ⟨size_of hl, ?_⟩
    rw [hcut, mk_tl]
    refine ⟨G, t, rfl, kk, pre ++ tl (wordOf t), rfl, n2, n3, post, s0, rest, hsub, by rw [hx2]; simp, hl, hG, hf, hn, hd, fun p v H' hp s1 hl1 hr1 => q p v H' hp s1 ?_ hr1⟩
    rw [hl1]
    have e : (pre ++ tl (wordOf t) ++ 40 :: (tl (tx s0) ++ (restL rest ++ (numsL t ++ [41])))).length = pre.length + (tl (wordOf t) ++ 40 :: (tl (tx s0) ++ (restL rest ++ (numsL t ++ [41])))).length := by
      simp only [List.length_append, List.length_cons, List.length_nil]
      omega
    rw [e]
theorem ok_read_term (T : TX K mg) (D : DF K mg "read_term" s_read_term ["text"] []) (G_read_at : FO P w K mg base "read_at" k ["text", "at", "deep"] [] (spReadAt 10)) (G_is_term : FO P w K mg base "is_term" k ["thing"] [] spIsTerm) : FO P w K mg base "read_term" (k + 1) ["text"] [] spReadTerm := by
  refine D.ok sc_read_term (fun vs H Q E h => ?_) (fun fa cdv A outer s H vs Q E hr h => ?_)
  · obtain ⟨_, _, _, rfl, _⟩ := h
    rfl
  obtain ⟨G, t, kk, rfl, hG, ⟨hf, hdp, hw⟩, q⟩ := h
  have htl := tx_len _ _ hf
  refine ⟨_, (pss_cons (ps_if (pt_not (pt_val (pe_callB (call_is (n := "str") (m := "str") (b := true) rfl) rfl T.isinstance (by decide +kernel) (pa_cons (pv 0) (pa_cons (pe_bltn (v := .ty "str") rfl T.str (by decide +kernel) rfl) pa_nil)))))
      (pss_one ps_never)
      pss_nil)
    (pss_cons (ps_asg (pe_fo G_read_at hr (pa_cons (pv 0) (pa_cons pe_int (pa_cons (pe_gv T.c_DEEPEST_terms) pa_nil)))) (pg_tpl 2 rfl (pgs_cons (pg_name (i := 1) sc_read_term.nd rfl (Or.inl rfl)) (pgs_cons (pg_name (i := 2) sc_read_term.nd rfl (Or.inl rfl)) pgs_nil))))
    (pss_cons (ps_if (PW.pt (pw_or (pt_cmpR op_lt (pv 2) (pe_callB call_lenS rfl T.len PySem.boot_len (pa_cons (pv 0) pa_nil)) (nomark _)) (pw_or1 (pt_not (pt_val (pe_fo G_is_term hr (pa_cons (pv 1) pa_nil)))))))
      (pss_one ps_never)
      pss_nil)
    (pss_one (ps_ret (pv 1)))))), ?_⟩
  refine seq_i fun M hM => ?_
  walk_at "rd"
  subst hM
  refine seq_i fun M hM => ?_
  walk_at "rd"
  refine ⟨G, t, kk, [], rfl, [], by simp, by omega, hG, hf, hdp, by omega, .inl rfl, fun p v H1 hp s1 hl1 hr1 => ⟨_, hl1, rfl, _, _, rfl, _, _, rfl, rfl, ?_⟩⟩
  subst hM
  have e : ¬ (((([] : List Nat).length + (tl (tx t)).length : Nat) : Int) < ((tx t).length : Int)) := by rw [len_tl]; simp
  walk_at "rd"
  refine ⟨size_of (by omega), ?_⟩
  rw [if_neg (by rw [len_tl]; omega)]
  exact ⟨t, hr1, ⟨G, kk, hG, hf⟩, hdp, hw, fun H2 s2 => q _ _ (s1.trans s2) (RT.tk (same_tk s2) _ _ hr1)⟩
end
end K37
set_option maxHeartbeats 4000000
namespace K37
open PySem L2 TL
open PyProof.Rows hiding St
theorem sc_driver_in : FnScope ["text", "when", "gap", "term"] ["text"] (defScope s_driver_in) := ⟨rfl, rfl, rfl, by decide +kernel, rfl, by decide +kernel, by decide +kernel⟩

theorem sc_what_in : FnScope ["sort", "text", "part"] ["sort", "text"] (defScope s_what_in) := ⟨rfl, rfl, rfl, by decide +kernel, rfl, by decide +kernel, by decide +kernel⟩

theorem sc_signal_in : FnScope ["line", "sort", "gap", "rest", "name", "width", "what"] ["line"] (defScope s_signal_in) := ⟨rfl, rfl, rfl, by decide +kernel, rfl, by decide +kernel, by decide +kernel⟩

theorem sc_Lines___init__ : FnScope ["self", "rows"] ["self", "rows"] (defScope s_Lines___init__) := ⟨rfl, rfl, rfl, by decide +kernel, rfl, by decide +kernel, by decide +kernel⟩

theorem sc_Lines_is_over : FnScope ["self"] ["self"] (defScope s_Lines_is_over) := ⟨rfl, rfl, rfl, by decide +kernel, rfl, by decide +kernel, by decide +kernel⟩

theorem sc_Lines_begins : FnScope ["self", "text"] ["self", "text"] (defScope s_Lines_begins) := ⟨rfl, rfl, rfl, by decide +kernel, rfl, by decide +kernel, by decide +kernel⟩

theorem sc_Lines_taken : FnScope ["self"] ["self"] (defScope s_Lines_taken) := ⟨rfl, rfl, rfl, by decide +kernel, rfl, by decide +kernel, by decide +kernel⟩

/-- the signs of a term's text -/
def TxC (c : Nat) : Prop := isLet c ∨ isFig c ∨ c = 39 ∨ c = 40 ∨ c = 41 ∨ c = 44 ∨ c = 32
theorem word_chars : ∀ w ∈ (["not", "any", "all", "and", "or", "xor", "plus", "same", "less", "join", "pick", "part", "is", "of"] : List Str), ∀ c ∈ tl w, isLet c := by
  have h : ∀ w ∈ (["not", "any", "all", "and", "or", "xor", "plus", "same", "less", "join", "pick", "part", "is", "of"] : List Str), ∀ c ∈ tl w, (97 ≤ c ∧ c ≤ 122) := by decide +kernel
  exact h
theorem lit_chars : (∀ c ∈ tl (Str.ofString "'"), TxC c) ∧ (∀ c ∈ tl (Str.ofString "("), TxC c) ∧ (∀ c ∈ tl (Str.ofString ")"), TxC c) ∧ (∀ c ∈ tl (Str.ofString ", "), TxC c) ∧ (∀ c ∈ tl (Str.ofString "pick"), TxC c) ∧ ∀ c ∈ tl (Str.ofString "part"), TxC c := by
  have h : (∀ c ∈ tl (Str.ofString "'"), c = 39) ∧ (∀ c ∈ tl (Str.ofString "("), c = 40) ∧ (∀ c ∈ tl (Str.ofString ")"), c = 41) ∧ (∀ c ∈ tl (Str.ofString ", "), c = 44 ∨ c = 32) ∧ (∀ c ∈ tl (Str.ofString "pick"), 97 ≤ c ∧ c ≤ 122) ∧ ∀ c ∈ tl (Str.ofString "part"), 97 ≤ c ∧ c ≤ 122 := by decide +kernel
  obtain ⟨h1, h2, h3, h4, h5, h6⟩ := h
  unfold TxC isLet isFig
  exact ⟨fun c hc => by have := h1 c hc; omega, fun c hc => by have := h2 c hc; omega, fun c hc => by have := h3 c hc; omega, fun c hc => by have := h4 c hc; omega, fun c hc => by have := h5 c hc; omega, fun c hc => by have := h6 c hc; omega⟩
theorem app_chars {P : Nat → Prop} {a b : Str} (h1 : ∀ c ∈ tl a, P c) (h2 : ∀ c ∈ tl b, P c) : ∀ c ∈ tl (a ++ b), P c := fun c hc => by
  rw [tl_append] at hc
  rcases List.mem_append.mp hc with hc | hc
  · exact h1 c hc
  · exact h2 c hc
theorem fig_chars {n : Nat} (h : n < 10) : ∀ c ∈ tl (figS n), TxC c := fun c hc => by
  have e : c = 48 + n := by simpa [figS, tl] using hc
  unfold TxC isLet isFig
  omega
theorem tx_chars {G : Str → Nat → Prop} (hG : Rng G) : ∀ (t : Tm) (k : Nat), Fit G t k → ∀ c ∈ tl (tx t), TxC c
  | .is v, k, q => app_chars lit_chars.1 fun c hc => by
    have := ValOk.al q c hc
    unfold TxC isLet isFig
    omega
  | .of v, k, q => fun c hc => by
    have := q.1.al c hc
    unfold TxC
    rcases this with h | h
    · exact .inl h
    · exact .inr (.inl h)
  | .u w a, k, q => by
    obtain ⟨j, ha⟩ := Fit.subs q a (by simp [subs])
    have hw := Fit.wordu q
    have h2 := word_chars w (by simp only [List.mem_cons, List.not_mem_nil, or_false] at hw ⊢; rcases hw with h | h | h <;> simp [h])
    exact app_chars (app_chars (app_chars (fun c hc => .inl (h2 c hc)) lit_chars.2.1) (tx_chars hG a j ha)) lit_chars.2.2.1
  | .b w a b, k, q => by
    obtain ⟨j, ha⟩ := Fit.subs q a (by simp [subs])
    obtain ⟨j', hb⟩ := Fit.subs q b (by simp [subs])
    have hw := Fit.word q
    have h2 := word_chars w (by simp only [List.mem_cons, List.not_mem_nil, or_false] at hw ⊢; rcases hw with h | h | h | h | h | h | h <;> simp [h])
    exact app_chars (app_chars (app_chars (fun c hc => .inl (h2 c hc)) lit_chars.2.1) (app_chars (app_chars (tx_chars hG a j ha) lit_chars.2.2.2.1) (tx_chars hG b j' hb))) lit_chars.2.2.1
  | .p a b c, k, q => app_chars (app_chars (app_chars lit_chars.2.2.2.2.1 lit_chars.2.1) (app_chars (app_chars (tx_chars hG a 1 q.1) lit_chars.2.2.2.1) (app_chars (app_chars (tx_chars hG b k q.2.1) lit_chars.2.2.2.1) (tx_chars hG c k q.2.2)))) lit_chars.2.2.1
  | .t a hi lo, k, q => by
    obtain ⟨j, ha, h1, h2, h3⟩ := q
    have := Fit.range hG a j ha
    exact app_chars (app_chars (app_chars lit_chars.2.2.2.2.2 lit_chars.2.1) (app_chars (app_chars (tx_chars hG a j ha) lit_chars.2.2.2.1) (app_chars (app_chars (fig_chars (by omega)) lit_chars.2.2.2.1) (fig_chars (by omega))))) lit_chars.2.2.1
theorem tx_free {G : Str → Nat → Prop} (hG : Rng G) {t : Tm} {k : Nat} (h : Fit G t k) : 58 ∉ tl (tx t) ∧ 59 ∉ tl (tx t) ∧ 10 ∉ tl (tx t) := by
  refine ⟨fun z => ?_, fun z => ?_, fun z => ?_⟩ <;> (have := tx_chars hG t k h _ z; unfold TxC isLet isFig at this; omega)
/-- what stands behind the width -/
def whatB : Sg → Str
  | .inp _ _ => Str.empty
  | .kept _ _ v => v
  | .wire _ _ t => tx t
  | .filt _ _ t => tx t
  | .bus _ _ ds => Txt.join ("; " : Str) (ds.map drvTx)
def spDriverIn : Sp := fun vs H Q _ => ∃ (G : Str → Nat → Prop) (d : Tm × Tm) (k : Nat), vs = [.str (drvTx d)] ∧ Rng G ∧ TermOk G d.1 1 ∧ TermOk G d.2 k ∧ ∀ v H', Same H H' → RD H' d v → Q v H'
def spWhatIn : Sp := fun vs H Q _ => ∃ (G : Str → Nat → Prop) (s : Sg), vs = [.str s.sort, .str (whatB s)] ∧ Rng G ∧ WhatOk G s ∧ ∀ v H', Same H H' → RW H' s v → Q v H'
def spSignalIn : Sp := fun vs H Q _ => ∃ (sg : List Sg) (bl : List Bk) (s : Sg), vs = [.str (sline s)] ∧ Valid sg bl ∧ s ∈ sg ∧ ∀ v H', Same H H' → RS H' s v → Q v H'
/-- the lines yet to be read, at x, whose list is at l -/
def LN (C : Addr) (H : Hp) (x l : Addr) (ls : List Str) : Prop := (∃ dx, H x = some (.ins C dx [((Str.ofString "left"), .ref l)])) ∧ H l = some (.lst (ls.reverse.map V.str))
def Asc (ls : List Str) : Prop := ∀ l ∈ ls, asc l
def spLinesInit (C : Addr) : Sp := fun vs H Q _ => ∃ (ls : List Str) (x a dx : Addr), vs = [.ref x, .ref a] ∧ H x = some (.ins C dx []) ∧ H a = some (.lst (ls.map V.str)) ∧ ∀ l H', H l = none → l ≠ x → But x H H' → LN C H' x l ls → Q .non H'
def spIsOver (C : Addr) : Sp := fun vs H Q _ => ∃ (x l : Addr) (ls : List Str), vs = [.ref x] ∧ LN C H x l ls ∧ Asc ls ∧ ∀ H', Same H H' → Q (.bl ls.isEmpty) H'
/-- the first line begins so -/
def bgn (ls : List Str) (y : Str) : Bool := match ls with
  | [] => false
  | a :: _ => (tl a).take y.length == tl y
theorem bgn_nil {y : Str} : bgn [] y = false := rfl
theorem bgn_cons {a y : Str} {r : List Str} : bgn (a :: r) y = ((tl a).take y.length == tl y) := rfl
def spBegins (C : Addr) : Sp := fun vs H Q _ => ∃ (x l : Addr) (ls : List Str) (y : Str), vs = [.ref x, .str y] ∧ LN C H x l ls ∧ Asc ls ∧ ∀ H', Same H H' → Q (.bl (bgn ls y)) H'
def spTaken (C : Addr) : Sp := fun vs H Q _ => ∃ (x l : Addr) (a : Str) (ls : List Str), vs = [.ref x] ∧ LN C H x l (a :: ls) ∧ ∀ H', But l H H' → LN C H' x l ls → Q (.str a) H'
theorem lk_left {l : Addr} : List.lookup (Str.ofString "left") [((Str.ofString "left"), V.ref l)] = some (V.ref l) := by rfl
theorem put_left {l : V} : putF "left" l [] = [((Str.ofString "left"), l)] := by rfl
local macro_rules | `(tactic| walk_at "rd") => `(tactic| simp only [tYes, wipe, HO.lst.injEq, HO.tup.injEq, HO.dK.injEq, Nat.reduceAdd, Nat.reduceLeDiff, Nat.reduceSub, Int.reduceLE, Int.reduceLT, Int.reduceNeg, Nat.zero_add, Int.reduceEq, cut_head, cut_tail, cut_mid, cut_three, c_cast0, c_cast1, c_cast2, c_cast3, c_cast4, z_lit, List.getD_eq_getElem?_getD, Option.getD_some, tLc_eq, tFor_eq, cxOf, Cx.nox, Cx.wish, tSeq, tIfS, tOr, tAnd, tNot, tB, tCB, tCons, tVar, tC, tNil, tTest, tChain, rI0, rI, tOp, rIxS, rIxL, rIxT, tRet, tNext, tAsg, gName, tAndV, tOrV, tNotV, tIf, tIsN, tNotN, tCall, tDrop, tBM, tBM0, rEq, rNe, tRetN, tSl, tNoPart, tPart, tTupD, tLstD, tInD, rIsK, rLenS, rLenL, rLenT, rAllT, rAnyF, rInK, rInL, rSlLD, rSlTD, rSlS, rCatD, rCatTD, rAppD, rExtD, rPopD, rPopAtD, rListD, rTupleD, iLst, iTpl, iStr, rIxLH, rIxTH, gTupH, gLstH, gStar0, gStar1, gStar2, rSumH, rAddS2, tJoinS, tFmtS, tFmtI, tJoined, tJoined_nil, tJoined_cons, rIsG, app_empty, tFldD, sFldD, tMkD, tMoD, rIsC, rLenO, rEqO, HO.ins.injEq, exists_eq, tNilL, tML, tML0, tMS, iEnumH, tCallK, rStrI, tGetS, tGet1S, tGet2S, rListKD, tDc_eq, tLc2_eq, tKGet, gCons, gNil, tChain3, tPartD, tSplitD, tPar, New, Chg, rListTD, atI_0, atI_1, atI_2, atI_3, sign_inj, and_false, false_and, or_false, false_or, or_true, true_or, List.take_succ_cons, List.take_zero, List.drop_succ_cons, List.drop_zero, forall_const, exists_false, not_false_eq_true, not_true_eq_false, if_true, if_false, iRng1, KindV,
  L2.start, List.map_cons, List.map_nil, List.length_cons, List.length_nil, List.replicate, List.cons_append, List.nil_append, List.append_nil, List.set_cons_zero, List.set_cons_succ, List.getElem?_cons_zero, List.getElem?_cons_succ, Option.some.injEq, exists_eq_left', exists_eq_left, V.int.injEq, V.str.injEq, V.bl.injEq, V.ref.injEq, V.ty.injEq, true_and, and_true, List.cons.injEq, exists_and_left, exists_eq', and_assoc, scal, ofString_inj, String.reduceEq, reduceIte, decide_eq_true_eq, decide_eq_false_iff_not, Bool.not_true, Bool.not_false, Bool.not_eq_true', inV_cons, inV_nil, eqV_ss, eqV_ii, flatV, List.all_cons, List.all_nil, Bool.and_true, Bool.or_false, Bool.true_and, Bool.false_or, decide_true, decide_false, Bool.true_or, Bool.false_eq_true, reduceCtorEq, spReadTerm, spDriverIn, spWhatIn, spSignalIn, rListStr, rIntStr, rSwAt, rSwith, tListRev, lk_left, put_left, tUn, rU])
local macro_rules | `(tactic| walk_at "ra") => `(tactic| simp only [tYes, wipe, HO.lst.injEq, HO.tup.injEq, HO.dK.injEq, Nat.reduceAdd, Nat.reduceLeDiff, Nat.reduceSub, Int.reduceLE, Int.reduceLT, Int.reduceNeg, Nat.zero_add, Int.reduceEq, cut_head, cut_tail, cut_mid, cut_three, c_cast0, c_cast1, c_cast2, c_cast3, c_cast4, z_lit, List.getD_eq_getElem?_getD, Option.getD_some, tLc_eq, tFor_eq, cxOf, Cx.nox, Cx.wish, tSeq, tIfS, tOr, tAnd, tNot, tB, tCB, tCons, tVar, tC, tNil, tTest, tChain, rI0, rI, tOp, rIxS, rIxL, rIxT, tRet, tNext, tAsg, gName, tAndV, tOrV, tNotV, tIf, tIsN, tNotN, tCall, tDrop, tBM, tBM0, rEq, rNe, tRetN, tSl, tNoPart, tPart, tTupD, tLstD, tInD, rIsK, rLenS, rLenL, rLenT, rAllT, rAnyF, rInK, rInL, rSlLD, rSlTD, rSlS, rCatD, rCatTD, rAppD, rExtD, rPopD, rPopAtD, rListD, rTupleD, iLst, iTpl, iStr, rIxLH, rIxTH, gTupH, gLstH, gStar0, gStar1, gStar2, rSumH, rAddS2, tJoinS, tFmtS, tFmtI, tJoined, tJoined_nil, tJoined_cons, rIsG, app_empty, tFldD, sFldD, tMkD, tMoD, rIsC, rLenO, rEqO, HO.ins.injEq, exists_eq, tNilL, tML, tML0, tMS, iEnumH, tCallK, rStrI, tGetS, tGet1S, tGet2S, rListKD, tDc_eq, tLc2_eq, tKGet, gCons, gNil, tChain3, tPartD, tSplitD, tPar, New, Chg, rListTD, atI_0, atI_1, atI_2, atI_3, sign_inj, and_false, false_and, or_false, false_or, or_true, true_or, List.take_succ_cons, List.take_zero, List.drop_succ_cons, List.drop_zero, forall_const, exists_false, not_false_eq_true, not_true_eq_false, if_true, if_false, iRng1, KindV,
  L2.start, List.map_cons, List.map_nil, List.length_cons, List.length_nil, List.replicate, List.cons_append, List.nil_append, List.append_nil, List.set_cons_zero, List.set_cons_succ, List.getElem?_cons_zero, List.getElem?_cons_succ, Option.some.injEq, exists_eq_left', exists_eq_left, V.int.injEq, V.str.injEq, V.bl.injEq, V.ref.injEq, V.ty.injEq, true_and, and_true, List.cons.injEq, exists_and_left, exists_eq', and_assoc, scal, ofString_inj, String.reduceEq, reduceIte, decide_eq_true_eq, decide_eq_false_iff_not, Bool.not_true, Bool.not_false, Bool.not_eq_true', inV_cons, inV_nil, eqV_ss, eqV_ii, flatV, List.all_cons, List.all_nil, Bool.and_true, Bool.or_false, Bool.true_and, Bool.false_or, decide_true, decide_false, Bool.true_or, Bool.false_eq_true, reduceCtorEq, spReadTerm, spDriverIn, spWhatIn, spSignalIn, rListStr, rIntStr, rSwAt, rSwith, tListRev, lk_left, put_left, tUn, rU, *])

section
variable {P : Program} {w : World} {K : PySem.W.Frag} {mg : Str → Option Value} {base : Heap} {k : Nat} {C : Addr}
theorem ok_driver_in (T : TX K mg) (D : DF K mg "driver_in" s_driver_in ["text"] []) (G_read_term : FO P w K mg base "read_term" k ["text"] [] spReadTerm) : FO P w K mg base "driver_in" (k + 1) ["text"] [] spDriverIn := by
  refine D.ok sc_driver_in (fun vs H Q E h => ?_) (fun fa cdv A outer s H vs Q E hr h => ?_)
  · obtain ⟨_, _, _, rfl, _⟩ := h
    rfl
  obtain ⟨G, d, kk, rfl, hG, t1, t2, q⟩ := h
  have hlen := drvTx_len t1 t2
  have hsep : tl (Str.ofString ": ") = 58 :: [32] := by decide +kernel
  have hpart : Txt.partition (drvTx d) (Str.ofString ": ") = (tx d.1, Str.ofString ": ", tx d.2) := partition_app hsep (tx_free hG t1.1).1
  have hne : Str.ofString ": " ≠ Str.empty := by decide +kernel
  refine ⟨_, (pss_cons (ps_asg (pe_partD (pv 0) pe_str) (pg_tpl 3 rfl (pgs_cons (pg_name (i := 1) sc_driver_in.nd rfl (Or.inl rfl)) (pgs_cons (pg_name (i := 2) sc_driver_in.nd rfl (Or.inl rfl)) (pgs_cons (pg_name (i := 3) sc_driver_in.nd rfl (Or.inl rfl)) pgs_nil)))))
    (pss_one (ps_ret (pe_tupD (pa_cons (pe_fo G_read_term hr (pa_cons (pv 1) pa_nil)) (pa_cons (pe_fo G_read_term hr (pa_cons (pv 3) pa_nil)) pa_nil)))))), ?_⟩
  walk_at "rd"
  refine ⟨hne, by omega, fun p1 H1 hp1 s1 hl1 => ?_⟩
  rw [hpart] at hl1
  refine ⟨_, hl1, rfl, _, _, rfl, _, _, rfl, _, _, rfl, rfl, G, d.1, rfl, hG, 1, t1, fun v1 H2 s2 r1 => ⟨G, d.2, rfl, hG, kk, t2, fun v2 H3 s3 r2 => fun p4 H4 hp4 s4 hl4 => q _ _ (((s1.trans s2).trans s3).trans s4) ⟨p4, v1, v2, rfl, hl4, RT.tk (same_tk (s3.trans s4)) _ _ r1, RT.tk (same_tk s4) _ _ r2⟩⟩⟩
theorem all2_of {α : Type} {F : α → V → Prop} : ∀ {l : List α} {ys : List V}, ys.length = l.length → (∀ (i : Nat) (y : V), ys[i]? = some y → ∃ a, l[i]? = some a ∧ F a y) → All2 F l ys
  | [], [], _, _ => .nil
  | [], _ :: _, h, _ => by simp at h
  | _ :: _, [], h, _ => by simp at h
  | a :: l, y :: ys, h, f => by
    obtain ⟨b, e, r⟩ := f 0 y rfl
    simp at e
    subst e
    exact .cons r (all2_of (by simpa using h) fun i z hz => f (i + 1) z (by simpa using hz))
theorem ok_what_in (T : TX K mg) (D : DF K mg "what_in" s_what_in ["sort", "text"] []) (G_read_term : FO P w K mg base "read_term" k ["text"] [] spReadTerm) (G_driver_in : FO P w K mg base "driver_in" k ["text"] [] spDriverIn) : FO P w K mg base "what_in" (k + 1) ["sort", "text"] [] spWhatIn := by
  refine D.ok sc_what_in (fun vs H Q E h => ?_) (fun fa cdv A outer s H vs Q E hr h => ?_)
  · obtain ⟨_, _, rfl, _⟩ := h
    rfl
  obtain ⟨G, s, rfl, hG, hok, q⟩ := h
  refine ⟨_, (pss_cons (ps_if (pt_cmpR op_eq (pv 0) pe_str (nomark _))
      (pss_one (ps_ret pe_non))
      pss_nil)
    (pss_cons (ps_if (pt_cmpR op_eq (pv 0) pe_str (nomark _))
      (pss_one (ps_ret (pv 1)))
      pss_nil)
    (pss_cons (ps_if (pt_cmpR op_eq (pv 0) pe_str (nomark _))
      (pss_one (ps_ret (pe_callTy call_tupleD rfl T.tuple (by decide +kernel) (pa_cons (pe_lc (own := [("part", 2)]) (tt := tYes) rfl sc_what_in.nd (pi_lst (pe_splitD (pv 1) pe_str)) (blkOk_by (N := ["sort", "text", "part"]) (sc := defScope s_what_in) (by decide +kernel)) (fun _ _ _ _ _ => (pg_name (i := 2) sc_what_in.nd rfl (Or.inl rfl))) (fun _ _ _ _ _ => pts_nil) (fun _ _ _ _ _ => (pe_fo G_driver_in hr (pa_cons (pv 2) pa_nil)))) pa_nil))))
      pss_nil)
    (pss_one (ps_ret (pe_fo G_read_term hr (pa_cons (pv 1) pa_nil))))))), ?_⟩
  cases s <;> simp only [Sg.sort, whatB]
  all_goals walk_at "rd"
  · exact q _ _ (Same.refl _) rfl
  · exact q _ _ (Same.refl _) rfl
  · exact ⟨G, _, rfl, hG, _, hok, fun v H1 s1 r1 => q _ _ s1 r1⟩
  · exact ⟨G, _, rfl, hG, _, hok, fun v H1 s1 r1 => q _ _ s1 r1⟩
  · rename_i n kk ds
    have hwl := whatTx_len (s := .bus n kk ds) hok
    obtain ⟨l2, l4, hok⟩ := hok
    have e59 : tl (Str.ofString "; ") = 59 :: [32] := by decide +kernel
    have e58 : tl (Str.ofString ": ") = [58, 32] := by decide +kernel
    have hfree : ∀ y ∈ ds.map drvTx, 59 ∉ tl y := fun y hy => by
      obtain ⟨d, hd, rfl⟩ := List.mem_map.mp hy
      obtain ⟨t1, t2⟩ := hok d hd
      unfold drvTx
      rw [tl_append, tl_append, e58, List.mem_append, List.mem_append]
      rintro ((z | z) | z)
      · exact (tx_free hG t1.1).2.1 z
      · simp at z
      · exact (tx_free hG t2.1).2.1 z
    have hsplit := split_join e59 (by decide +kernel) (parts := ds.map drvTx) (fun z => by have := congrArg List.length z; simp at this; rw [this] at l2; simp at l2) hfree
    rw [show whatTx (.bus n kk ds) = (" " : Str) ++ Txt.join ("; " : Str) (ds.map drvTx) from rfl, slen_app] at hwl
    refine ⟨by decide +kernel, by omega, fun p1 H1 hp1 s1 hl1 => ?_⟩
    rw [hsplit] at hl1
    refine ⟨_, hl1, ?_⟩
    refine lc_map (wk_lst (xs := (ds.map drvTx).map V.str)) (fun H s => s _ _ hl1) (fun i y H => ∃ d, ds[i]? = some d ∧ RD H d y) (by rw [List.length_map, List.length_map]; omega) (fun i y H H' z k => by obtain ⟨d, e, r⟩ := z; exact ⟨d, e, r.tk k⟩) (fun i H2 Ky hi s2 ky => ?_) (fun Dl ys H2 s2 hDl hl2 hly hy => ?_) mg_name
    · rw [List.length_map, List.length_map] at hi
      have hget : ((ds.map drvTx).map V.str).getD i .non = .str (drvTx ds[i]) := by simp [hi]
      rw [hget]
      have hd := hok ds[i] (List.getElem_mem hi)
      walk_at "rd"
      exact ⟨G, ds[i], rfl, hG, hd.1, kk, hd.2, fun v H3 s3 r3 => ky _ _ s3 ⟨ds[i], List.getElem?_eq_getElem hi, r3⟩⟩
    · rw [List.length_map, List.length_map] at hly
      refine ⟨Dl, rfl, _, hl2, fun p4 H4 hp4 s4 hl4 => q _ _ ((s1.trans s2).trans s4) ⟨p4, ys, rfl, hl4, ?_⟩⟩
      exact all2_mono (fun _ _ z => z.tk (same_tk s4)) (all2_of hly hy)
theorem sort_free (s : Sg) : 32 ∉ tl s.sort := by cases s <;> (show 32 ∉ tl (Str.ofString _); decide +kernel)
theorem name_free {n : Str} (h : NameOk n) : 32 ∉ tl n ∧ 10 ∉ tl n := by
  refine ⟨fun z => ?_, fun z => ?_⟩ <;> (have := h.al _ z; unfold isLet isFig at this; omega)
theorem ok_signal_in (T : TX K mg) (D : DF K mg "signal_in" s_signal_in ["line"] []) (G_what_in : FO P w K mg base "what_in" k ["sort", "text"] [] spWhatIn) : FO P w K mg base "signal_in" (k + 1) ["line"] [] spSignalIn := by
  refine D.ok sc_signal_in (fun vs H Q E h => ?_) (fun fa cdv A outer s H vs Q E hr h => ?_)
  · obtain ⟨_, _, _, rfl, _⟩ := h
    rfl
  obtain ⟨sg, bl, s', rfl, hv, hs, q⟩ := h
  have hsl := sline_len hv hs
  have hsep : tl (Str.ofString " ") = [32] := by decide +kernel
  have hne : Str.ofString " " ≠ Str.empty := by decide +kernel
  have hnm := hv.nm s' hs
  have e0 : sline s' = s'.sort ++ Str.ofString " " ++ (s'.name ++ Str.ofString " " ++ (figS s'.wd ++ whatTx s')) := by
    unfold sline
    exact ext_tl (by simp only [tl_append, List.append_assoc])
  have hp1 : Txt.partition (sline s') (Str.ofString " ") = (s'.sort, Str.ofString " ", s'.name ++ Str.ofString " " ++ (figS s'.wd ++ whatTx s')) := by
    rw [e0]
    exact partition_app hsep (sort_free s')
  have hp2 : Txt.partition (s'.name ++ Str.ofString " " ++ (figS s'.wd ++ whatTx s')) (Str.ofString " ") = (s'.name, Str.ofString " ", figS s'.wd ++ whatTx s') := partition_app hsep (name_free hnm.1).1
  have hfig : 32 ∉ tl (figS s'.wd) := fun z => by
    have e : 32 = 48 + s'.wd := by simpa [figS, tl] using z
    omega
  have hp3 : (Txt.partition (figS s'.wd ++ whatTx s') (Str.ofString " ")).1 = figS s'.wd ∧ (Txt.partition (figS s'.wd ++ whatTx s') (Str.ofString " ")).2.2 = whatB s' := by
    have hb : whatTx s' = Str.empty ∧ whatB s' = Str.empty ∨ whatTx s' = Str.ofString " " ++ whatB s' := by
      cases s' with
      | inp => exact .inl ⟨rfl, rfl⟩
      | _ => exact .inr rfl
    rcases hb with ⟨h1, h2⟩ | h1
    · rw [h1, h2, empty_app, partition_none hsep hfig]
      exact ⟨rfl, rfl⟩
    · rw [h1, ← app_assoc, partition_app hsep hfig]
      exact ⟨rfl, rfl⟩
  have hl1 : (s'.name ++ Str.ofString " " ++ (figS s'.wd ++ whatTx s')).length ≤ 1000000 := by
    have := congrArg Str.length e0
    simp only [slen_app] at this hsl ⊢
    omega
  have hl2 : (figS s'.wd ++ whatTx s').length ≤ 1000000 := by
    simp only [slen_app] at hl1 ⊢
    omega
  refine ⟨_, (pss_cons (ps_asg (pe_partD (pv 0) pe_str) (pg_tpl 3 rfl (pgs_cons (pg_name (i := 1) sc_signal_in.nd rfl (Or.inl rfl)) (pgs_cons (pg_name (i := 2) sc_signal_in.nd rfl (Or.inl rfl)) (pgs_cons (pg_name (i := 3) sc_signal_in.nd rfl (Or.inl rfl)) pgs_nil)))))
    (pss_cons (ps_asg (pe_partD (pv 3) pe_str) (pg_tpl 3 rfl (pgs_cons (pg_name (i := 4) sc_signal_in.nd rfl (Or.inl rfl)) (pgs_cons (pg_name (i := 2) sc_signal_in.nd rfl (Or.inl rfl)) (pgs_cons (pg_name (i := 3) sc_signal_in.nd rfl (Or.inl rfl)) pgs_nil)))))
    (pss_cons (ps_asg (pe_partD (pv 3) pe_str) (pg_tpl 3 rfl (pgs_cons (pg_name (i := 5) sc_signal_in.nd rfl (Or.inl rfl)) (pgs_cons (pg_name (i := 2) sc_signal_in.nd rfl (Or.inl rfl)) (pgs_cons (pg_name (i := 6) sc_signal_in.nd rfl (Or.inl rfl)) pgs_nil)))))
    (pss_cons (ps_if (PW.pt (pw_or (pt_cmpR op_ne (pe_callB call_lenS rfl T.len PySem.boot_len (pa_cons (pv 5) pa_nil)) pe_int (nomark _)) (pw_or1 (pt_cmpR op_notIn_sign (pv 5) (pe_gv T.c_WIDTHS) (by rfl)))))
      (pss_one ps_never)
      pss_nil)
    (pss_one (ps_ret (pe_tupD (pa_cons (pv 1) (pa_cons (pv 4) (pa_cons (pe_callTy call_intFig rfl T.int (by decide +kernel) (pa_cons (pv 5) pa_nil)) (pa_cons (pe_fo G_what_in hr (pa_cons (pv 1) (pa_cons (pv 6) pa_nil))) pa_nil))))))))))), ?_⟩
  refine seq_i fun M hM => ?_
  walk_at "rd"
  refine ⟨hne, by omega, fun p1 H1 hq1 s1 hl1' => ?_⟩
  rw [hp1] at hl1'
  refine ⟨_, hl1', rfl, _, _, rfl, _, _, rfl, _, _, rfl, rfl, ?_⟩
  subst hM
  refine seq_i fun M hM => ?_
  walk_at "rd"
  refine ⟨hne, hl1, fun p2 H2 hq2 s2 hl2' => ?_⟩
  rw [hp2] at hl2'
  refine ⟨_, hl2', rfl, _, _, rfl, _, _, rfl, _, _, rfl, rfl, ?_⟩
  subst hM
  refine seq_i fun M hM => ?_
  walk_at "rd"
  refine ⟨hne, hl2, fun p3 H3 hq3 s3 hl3' => ?_⟩
  rw [hp3.1, hp3.2] at hl3'
  refine ⟨_, hl3', rfl, _, _, rfl, _, _, rfl, _, _, rfl, rfl, ?_⟩
  subst hM
  refine seq_i fun M hM => ?_
  walk_at "rd"
  refine ⟨by rw [slen_fig]; decide, ?_⟩
  rw [slen_fig, if_neg (by simp)]
  refine ⟨48 + s'.wd, rfl, ?_⟩
  rw [if_neg (fun z => z ((wids_mem _).mpr (by omega)))]
  subst hM
  walk_at "rd"
  exact ⟨s'.wd, rfl, by omega, GW sg, s', rfl, rfl, hv.rng, hv.wh s' hs, fun v H4 s4 r4 p5 H5 hp5 s5 hl5 => q _ _ ((((s1.trans s2).trans s3).trans s4).trans s5) ⟨p5, v, rfl, hl5, r4.tk (same_tk s5)⟩⟩
theorem ok_Lines_init (T : TX K mg) (kL : KCls K mg "Lines" C) (n_left : NoAttr K C "left") (D : DC K C "Lines.__init__" s_Lines___init__ ["self", "rows"] []) : FC P w K mg base C (k + 2) ["self", "rows"] [] (spLinesInit C) := by
  refine D.ok sc_Lines___init__ (fun vs H Q E h => ?_) (fun fa cdv A outer s H vs Q E hr h => ?_)
  · obtain ⟨_, _, _, _, rfl, _⟩ := h
    rfl
  obtain ⟨ls, x, a, dx, rfl, hx, ha, q⟩ := h
  refine ⟨_, (pss_one (ps_fldD kL n_left (pv 0) (pe_listRev rfl T.list T.reversed (pv 1)))), ?_⟩
  walk_at "ra"
  intro p H1 hp s1 hl1
  have hne : p ≠ x := fun z => by rw [z, hx] at hp; cases hp
  refine ⟨dx, [], s1 _ _ hx, by decide, fun H3 b3 hx3 => q p H3 hp hne ((But.of s1).trans b3) ⟨⟨dx, by rw [hx3, put_left]⟩, ?_⟩⟩
  rw [b3 _ _ hne hl1, List.map_reverse]
theorem ok_Lines_is_over (T : TX K mg) (kL : KCls K mg "Lines" C) (n_left : NoAttr K C "left") (D : DM K C "is_over" "Lines.is_over" s_Lines_is_over ["self"] []) : FM P w K mg base C "is_over" (k + 1) ["self"] [] (spIsOver C) := by
  refine D.ok sc_Lines_is_over (fun vs H Q E h => ?_) (fun fa cdv A outer s H vs Q E hr h => ?_)
  · obtain ⟨_, _, _, rfl, _⟩ := h
    rfl
  obtain ⟨x, l, ls, rfl, ⟨⟨dx, hx⟩, hl⟩, hasc, q⟩ := h
  refine ⟨_, (pss_one (ps_ret (pe_eqNilL hr.units (pe_fldD kL n_left (pv 0))))), ?_⟩
  walk_at "ra"
  refine ⟨ls.reverse.map PyData.str, fun H2 _ => dp_strs _, shaped_strs (fun n hn => hasc n (List.mem_reverse.mp hn)), fun H2 s2 => ?_⟩
  have e : (List.map V.str ls.reverse).isEmpty = ls.isEmpty := by cases ls <;> simp
  rw [e]
  exact q _ s2
theorem ok_Lines_begins (T : TX K mg) (kL : KCls K mg "Lines" C) (n_left : NoAttr K C "left") (D : DM K C "begins" "Lines.begins" s_Lines_begins ["self", "text"] []) : FM P w K mg base C "begins" (k + 1) ["self", "text"] [] (spBegins C) := by
  refine D.ok sc_Lines_begins (fun vs H Q E h => ?_) (fun fa cdv A outer s H vs Q E hr h => ?_)
  · obtain ⟨_, _, _, _, rfl, _⟩ := h
    rfl
  obtain ⟨x, l, ls, y, rfl, ⟨⟨dx, hx⟩, hl⟩, hasc, q⟩ := h
  refine ⟨_, (pss_one (ps_ret (pe_and (pe_neNilL hr.units (pe_fldD kL n_left (pv 0))) (pe_one (pe_bmS PySem.F.slot_str_startswith PySem.F.type_str_startswith mt_swith (pe_ix ix_lst (pe_fldD kL n_left (pv 0)) (pe_un un_neg pe_int) (fun _ _ => rfl)) (pa_cons (pv 1) pa_nil)))))), ?_⟩
  walk_at "ra"
  refine ⟨ls.reverse.map PyData.str, fun H2 _ => dp_strs _, shaped_strs (fun n hn => hasc n (List.mem_reverse.mp hn)), fun H2 s2 => ?_⟩
  cases ls with
  | nil =>
    rw [if_neg (by simp)]
    exact q _ s2
  | cons a r =>
    rw [if_pos (by simp)]
    refine ⟨dx, _, s2 _ _ hx, _, lk_left, l, rfl, _, s2 _ _ hl, .str a, ?_, a, rfl, q _ s2⟩
    rw [List.reverse_cons, List.map_append]
    exact atI_last _ _
theorem ok_Lines_taken (T : TX K mg) (kL : KCls K mg "Lines" C) (n_left : NoAttr K C "left") (D : DM K C "taken" "Lines.taken" s_Lines_taken ["self"] []) : FM P w K mg base C "taken" (k + 1) ["self"] [] (spTaken C) := by
  refine D.ok sc_Lines_taken (fun vs H Q E h => ?_) (fun fa cdv A outer s H vs Q E hr h => ?_)
  · obtain ⟨_, _, _, _, rfl, _⟩ := h
    rfl
  obtain ⟨x, l, a, ls, rfl, ⟨⟨dx, hx⟩, hl⟩, q⟩ := h
  refine ⟨_, (pss_one (ps_ret (pe_bmL0 PySem.F.slot_list_pop PySem.F.type_list_pop mt_popD (pe_fldD kL n_left (pv 0))))), ?_⟩
  walk_at "ra"
  exact ⟨ls.reverse.map V.str, .str a, by simp, fun H' b hl' => q _ b ⟨⟨dx, b _ _ (ne_of hx hl (by intro z; cases z)) hx⟩, hl'⟩⟩
end
end K37
set_option maxHeartbeats 4000000
namespace K37
open PySem L2 TL
open PyProof.Rows hiding St
theorem sc_statement_in : FnScope ["lines", "ahead", "word", "gap", "rest", "what", "first", "name", "term"] ["lines", "ahead"] (defScope s_statement_in) := ⟨rfl, rfl, rfl, by decide +kernel, rfl, by decide +kernel, by decide +kernel⟩

theorem sc_body_in : FnScope ["lines", "ahead", "found"] ["lines", "ahead"] (defScope s_body_in) := ⟨rfl, rfl, rfl, by decide +kernel, rfl, by decide +kernel, by decide +kernel⟩

def spc (n : Nat) : Str := ⟨(List.replicate n 32).toArray⟩
theorem tl_spc (n : Nat) : tl (spc n) = List.replicate n 32 := rfl
theorem spc_add (n : Nat) : spc n ++ Str.ofString "  " = spc (n + 2) := ext_tl (by
  have e : tl (Str.ofString "  ") = List.replicate 2 32 := by decide +kernel
  rw [tl_append, tl_spc, tl_spc, e, List.replicate_append_replicate])
theorem spc_two : Str.ofString "  " = spc 2 := by decide +kernel
theorem slen_spc (n : Nat) : (spc n).length = n := by rw [len_tl, tl_spc, List.length_replicate]
/-- a line whose text leaves the other at one sign -/
theorem pre_ne {a y : Str} {p r z : List Nat} {c c0 : Nat} (ha : tl a = p ++ c :: r) (hy : tl y = p ++ c0 :: z) (h : c ≠ c0) : ((tl a).take y.length == tl y) = false := by
  rw [beq_eq_false_iff_ne]
  intro e
  have hl : y.length = p.length + (z.length + 1) := by rw [len_tl, hy, List.length_append, List.length_cons]
  have h1 : ((tl a).take y.length)[p.length]? = some c := by
    rw [List.getElem?_take_of_lt (by omega), ha]
    simp
  rw [e, hy] at h1
  simp at h1
  exact h h1.symm
theorem pre_yes {a y : Str} {r : List Nat} (ha : tl a = tl y ++ r) : ((tl a).take y.length == tl y) = true := by
  rw [ha, len_tl, List.take_left]
  exact beq_self_eq_true _
/-- the line leads with j spaces, then c -/
def Led (a : Str) (j c : Nat) : Prop := c ≠ 32 ∧ ∃ r, tl a = List.replicate j 32 ++ c :: r
theorem Led.short {a : Str} {j c n : Nat} {z : Str} (h : Led a j c) (hj : j < n) : ((tl a).take (spc n ++ z).length == tl (spc n ++ z)) = false := by
  obtain ⟨hc, r, e⟩ := h
  refine pre_ne (c0 := 32) (z := List.replicate (n - j - 1) 32 ++ tl z) e ?_ hc
  rw [tl_append, tl_spc]
  have : List.replicate n 32 = List.replicate j 32 ++ (32 :: List.replicate (n - j - 1) 32) := by
    rw [← List.replicate_succ, List.replicate_append_replicate]
    congr 1
    omega
  rw [this]
  simp
theorem Led.short0 {a : Str} {j c n : Nat} (h : Led a j c) (hj : j < n) : ((tl a).take (spc n).length == tl (spc n)) = false := by
  have z := h.short (z := Str.empty) hj
  rwa [empty_app] at z
theorem Led.yes {a : Str} {j c : Nat} (h : Led a j c) : ((tl a).take (spc j).length == tl (spc j)) = true := by
  obtain ⟨hc, r, e⟩ := h
  exact pre_yes e
theorem Led.other {a : Str} {j c c0 : Nat} {z : Str} {zr : List Nat} (h : Led a j c) (hz : tl z = c0 :: zr) (hc : c ≠ c0) : ((tl a).take (spc j ++ z).length == tl (spc j ++ z)) = false := by
  obtain ⟨_, r, e⟩ := h
  exact pre_ne e (by rw [tl_append, tl_spc, hz]) hc
/-- behind a body that leads with n spaces -/
def Tle (n : Nat) (tail : List Str) : Prop := tail = [] ∨ ∃ a r j c, tail = a :: r ∧ Led a j c ∧ (j < n ∨ (j = n ∧ a = spc n ++ Str.ofString "else"))
theorem else_led (n : Nat) : Led (spc n ++ Str.ofString "else") n 101 := by
  refine ⟨by decide, [108, 115, 101], ?_⟩
  have e : tl (Str.ofString "else") = [101, 108, 115, 101] := by decide +kernel
  rw [tl_append, tl_spc, e]
theorem Tle.up {n : Nat} {tail : List Str} (h : Tle n tail) : Tle (n + 2) tail := by
  rcases h with h | ⟨a, r, j, c, e, hl, hj⟩
  · exact .inl h
  · exact .inr ⟨a, r, j, c, e, hl, .inl (by omega)⟩
theorem set_led {w n : Str} {t : Tm} {m : Nat} (hw : w = "now" ∨ w = "later") : ∃ c, Led (spc m ++ w ++ Str.ofString " " ++ n ++ Str.ofString " " ++ tx t) m c ∧ c ≠ 101 := by
  rcases hw with rfl | rfl
  · refine ⟨110, ⟨by decide, ?_⟩, by decide⟩
    have e : tl (Str.ofString "now") = [110, 111, 119] := by decide +kernel
    simp only [tl_append, tl_spc, e, List.append_assoc, List.cons_append, List.nil_append]
    exact ⟨_, rfl⟩
  · refine ⟨108, ⟨by decide, ?_⟩, by decide⟩
    have e : tl (Str.ofString "later") = [108, 97, 116, 101, 114] := by decide +kernel
    simp only [tl_append, tl_spc, e, List.append_assoc, List.cons_append, List.nil_append]
    exact ⟨_, rfl⟩
theorem if_led {t : Tm} {m : Nat} : Led (spc m ++ Str.ofString "if " ++ tx t) m 105 := by
  refine ⟨by decide, ?_⟩
  have e : tl (Str.ofString "if ") = [105, 102, 32] := by decide +kernel
  simp only [tl_append, tl_spc, e, List.append_assoc, List.cons_append, List.nil_append]
  exact ⟨_, rfl⟩
/-- a body's first line -/
theorem first_led {G Kp : Str → Nat → Prop} {f : Str → Str} {m : Nat} {b : Bd} (h : BdOk G Kp f b) (hne : blines (spc m) b ≠ []) : ∃ a r c, blines (spc m) b = a :: r ∧ Led a m c ∧ c ≠ 101 := by
  cases b with
  | nil => exact absurd rfl hne
  | set w n t r =>
    obtain ⟨c, h1, h2⟩ := set_led (n := n) (t := t) (m := m) h.1
    exact ⟨_, _, c, rfl, h1, h2⟩
  | ite c s t r => exact ⟨_, _, 105, rfl, if_led, by decide⟩
theorem Tle.body {G Kp : Str → Nat → Prop} {f : Str → Str} {m : Nat} {b : Bd} {tail : List Str} (h : BdOk G Kp f b) (ht : Tle m tail) : Tle (m + 2) (blines (spc m) b ++ tail) := by
  by_cases e : blines (spc m) b = []
  · rw [e]
    exact ht.up
  · obtain ⟨a, r, c, e1, h1, h2⟩ := first_led h e
    rw [e1]
    exact .inr ⟨a, r ++ tail, m, c, rfl, h1, .inl (by omega)⟩
theorem but_fresh {l p : Addr} {H H1 H2 : Hp} (b1 : But l H H1) (n : H p = none) (b2 : But p H1 H2) : But l H H2 := fun c o hc q => b2 c o (ne_of_none q n) (b1 c o hc q)
theorem LN.same {C : Addr} {H H' : Hp} {x l : Addr} {ls : List Str} (h : LN C H x l ls) (s : Same H H') : LN C H' x l ls := ⟨let ⟨dx, h⟩ := h.1; ⟨dx, s _ _ h⟩, s _ _ h.2⟩
theorem lk_begins {l : Addr} : List.lookup (Str.ofString "begins") [((Str.ofString "left"), V.ref l)] = none := by rfl
theorem lk_taken {l : Addr} : List.lookup (Str.ofString "taken") [((Str.ofString "left"), V.ref l)] = none := by rfl
theorem lk_over {l : Addr} : List.lookup (Str.ofString "is_over") [((Str.ofString "left"), V.ref l)] = none := by rfl
theorem heads_back {H : Hp} : ∀ {b : Bd} {xs : List V}, All2 (fun h x => RBl H h [x]) (heads b) xs → RBl H b xs
  | .nil, _, .nil => rfl
  | .set w n t r, _, .cons ⟨a, v, ys, e, h, q, _⟩ tl => by
    have e1 := (List.cons.inj e).1
    exact ⟨a, v, _, by rw [e1], h, q, heads_back tl⟩
  | .ite c s t r, _, .cons ⟨a, v, p, q, ps, qs, ys, e, h, h1, h2, h3, h4, h5, _⟩ tl => by
    have e1 := (List.cons.inj e).1
    exact ⟨a, v, p, q, ps, qs, _, by rw [e1], h, h1, h2, h3, h4, h5, heads_back tl⟩
def spStIn (C : Addr) (n : Nat) : Sp := fun vs H Q _ => ∃ (G Kp : Str → Nat → Prop) (f : Str → Str) (b : Bd) (x l : Addr) (m : Nat) (tail : List Str), vs = [.ref x, .str (spc m)] ∧ isHead b ∧ BdOk G Kp f b ∧ Rng G ∧ (∀ n k, Kp n k → NameOk n) ∧ bdeep b ≤ n ∧ bwt b ≤ 1000 ∧ m + 2 * bdeep b ≤ 10 ∧ LN C H x l (blines (spc m) b ++ tail) ∧ Asc (blines (spc m) b ++ tail) ∧ Tle (m + 2) tail ∧
  ∀ v H', But l H H' → LN C H' x l tail → RBl H' b [v] → Q v H'
def spBodyIn (C : Addr) (n : Nat) : Sp := fun vs H Q _ => ∃ (G Kp : Str → Nat → Prop) (f : Str → Str) (b : Bd) (x l : Addr) (m : Nat) (tail : List Str), vs = [.ref x, .str (spc m)] ∧ BdOk G Kp f b ∧ Rng G ∧ (∀ n k, Kp n k → NameOk n) ∧ bdeep b ≤ n ∧ bwt b ≤ 1000 ∧ m + 2 * bdeep b ≤ 10 ∧ LN C H x l (blines (spc m) b ++ tail) ∧ Asc (blines (spc m) b ++ tail) ∧ Tle m tail ∧
  ∀ v H', But l H H' → LN C H' x l tail → RB H' b v → Q v H'
local macro_rules | `(tactic| walk_at "rd") => `(tactic| simp only [tYes, wipe, HO.lst.injEq, HO.tup.injEq, HO.dK.injEq, Nat.reduceAdd, Nat.reduceLeDiff, Nat.reduceSub, Int.reduceLE, Int.reduceLT, Int.reduceNeg, Nat.zero_add, Int.reduceEq, cut_head, cut_tail, cut_mid, cut_three, c_cast0, c_cast1, c_cast2, c_cast3, c_cast4, z_lit, List.getD_eq_getElem?_getD, Option.getD_some, tLc_eq, tFor_eq, cxOf, Cx.nox, Cx.wish, tSeq, tIfS, tOr, tAnd, tNot, tB, tCB, tCons, tVar, tC, tNil, tTest, tChain, rI0, rI, tOp, rIxS, rIxL, rIxT, tRet, tNext, tAsg, gName, tAndV, tOrV, tNotV, tIf, tIsN, tNotN, tCall, tDrop, tBM, tBM0, rEq, rNe, tRetN, tSl, tNoPart, tPart, tTupD, tLstD, tInD, rIsK, rLenS, rLenL, rLenT, rAllT, rAnyF, rInK, rInL, rSlLD, rSlTD, rSlS, rCatD, rCatTD, rAppD, rExtD, rPopD, rPopAtD, rListD, rTupleD, iLst, iTpl, iStr, rIxLH, rIxTH, gTupH, gLstH, gStar0, gStar1, gStar2, rSumH, rAddS2, tJoinS, tFmtS, tFmtI, tJoined, tJoined_nil, tJoined_cons, rIsG, app_empty, tFldD, sFldD, tMkD, tMoD, rIsC, rLenO, rEqO, HO.ins.injEq, exists_eq, tNilL, tML, tML0, tMS, iEnumH, tCallK, rStrI, tGetS, tGet1S, tGet2S, rListKD, tDc_eq, tLc2_eq, tKGet, gCons, gNil, tChain3, tPartD, tSplitD, tPar, New, Chg, rListTD, atI_0, atI_1, atI_2, atI_3, sign_inj, and_false, false_and, or_false, false_or, or_true, true_or, List.take_succ_cons, List.take_zero, List.drop_succ_cons, List.drop_zero, forall_const, exists_false, not_false_eq_true, not_true_eq_false, if_true, if_false, iRng1, KindV,
  L2.start, List.map_cons, List.map_nil, List.length_cons, List.length_nil, List.replicate, List.cons_append, List.nil_append, List.append_nil, List.set_cons_zero, List.set_cons_succ, List.getElem?_cons_zero, List.getElem?_cons_succ, Option.some.injEq, exists_eq_left', exists_eq_left, V.int.injEq, V.str.injEq, V.bl.injEq, V.ref.injEq, V.ty.injEq, true_and, and_true, List.cons.injEq, exists_and_left, exists_eq', and_assoc, scal, ofString_inj, String.reduceEq, reduceIte, decide_eq_true_eq, decide_eq_false_iff_not, Bool.not_true, Bool.not_false, Bool.not_eq_true', inV_cons, inV_nil, eqV_ss, eqV_ii, flatV, List.all_cons, List.all_nil, Bool.and_true, Bool.or_false, Bool.true_and, Bool.false_or, decide_true, decide_false, Bool.true_or, Bool.false_eq_true, reduceCtorEq, spReadTerm, spStIn, spBodyIn, spBegins, spTaken, spIsOver, rListStr, rIntStr, rSwAt, rSwith, tUn, rU])
local macro_rules | `(tactic| walk_at "ra") => `(tactic| simp only [tYes, wipe, HO.lst.injEq, HO.tup.injEq, HO.dK.injEq, Nat.reduceAdd, Nat.reduceLeDiff, Nat.reduceSub, Int.reduceLE, Int.reduceLT, Int.reduceNeg, Nat.zero_add, Int.reduceEq, cut_head, cut_tail, cut_mid, cut_three, c_cast0, c_cast1, c_cast2, c_cast3, c_cast4, z_lit, List.getD_eq_getElem?_getD, Option.getD_some, tLc_eq, tFor_eq, cxOf, Cx.nox, Cx.wish, tSeq, tIfS, tOr, tAnd, tNot, tB, tCB, tCons, tVar, tC, tNil, tTest, tChain, rI0, rI, tOp, rIxS, rIxL, rIxT, tRet, tNext, tAsg, gName, tAndV, tOrV, tNotV, tIf, tIsN, tNotN, tCall, tDrop, tBM, tBM0, rEq, rNe, tRetN, tSl, tNoPart, tPart, tTupD, tLstD, tInD, rIsK, rLenS, rLenL, rLenT, rAllT, rAnyF, rInK, rInL, rSlLD, rSlTD, rSlS, rCatD, rCatTD, rAppD, rExtD, rPopD, rPopAtD, rListD, rTupleD, iLst, iTpl, iStr, rIxLH, rIxTH, gTupH, gLstH, gStar0, gStar1, gStar2, rSumH, rAddS2, tJoinS, tFmtS, tFmtI, tJoined, tJoined_nil, tJoined_cons, rIsG, app_empty, tFldD, sFldD, tMkD, tMoD, rIsC, rLenO, rEqO, HO.ins.injEq, exists_eq, tNilL, tML, tML0, tMS, iEnumH, tCallK, rStrI, tGetS, tGet1S, tGet2S, rListKD, tDc_eq, tLc2_eq, tKGet, gCons, gNil, tChain3, tPartD, tSplitD, tPar, New, Chg, rListTD, atI_0, atI_1, atI_2, atI_3, sign_inj, and_false, false_and, or_false, false_or, or_true, true_or, List.take_succ_cons, List.take_zero, List.drop_succ_cons, List.drop_zero, forall_const, exists_false, not_false_eq_true, not_true_eq_false, if_true, if_false, iRng1, KindV,
  L2.start, List.map_cons, List.map_nil, List.length_cons, List.length_nil, List.replicate, List.cons_append, List.nil_append, List.append_nil, List.set_cons_zero, List.set_cons_succ, List.getElem?_cons_zero, List.getElem?_cons_succ, Option.some.injEq, exists_eq_left', exists_eq_left, V.int.injEq, V.str.injEq, V.bl.injEq, V.ref.injEq, V.ty.injEq, true_and, and_true, List.cons.injEq, exists_and_left, exists_eq', and_assoc, scal, ofString_inj, String.reduceEq, reduceIte, decide_eq_true_eq, decide_eq_false_iff_not, Bool.not_true, Bool.not_false, Bool.not_eq_true', inV_cons, inV_nil, eqV_ss, eqV_ii, flatV, List.all_cons, List.all_nil, Bool.and_true, Bool.or_false, Bool.true_and, Bool.false_or, decide_true, decide_false, Bool.true_or, Bool.false_eq_true, reduceCtorEq, spReadTerm, spStIn, spBodyIn, spBegins, spTaken, spIsOver, rListStr, rIntStr, rSwAt, rSwith, tUn, rU, *])

section
variable {P : Program} {w : World} {K : PySem.W.Frag} {mg : Str → Option Value} {base : Heap} {k : Nat} {C : Addr}
theorem ok_body_in {n : Nat} (T : TX K mg) (kL : KCls K mg "Lines" C) (D : DF K mg "body_in" s_body_in ["lines", "ahead"] []) (G_statement_in : FO P w K mg base "statement_in" k ["lines", "ahead"] [] (spStIn C n)) (G_begins : FM P w K mg base C "begins" k ["self", "text"] [] (spBegins C)) :
    FO P w K mg base "body_in" (k + 1) ["lines", "ahead"] [] (spBodyIn C n) := by
  refine D.ok sc_body_in (fun vs H Q E h => ?_) (fun fa cdv A outer s H vs Q E hr h => ?_)
  · obtain ⟨_, _, _, _, _, _, _, _, rfl, _⟩ := h
    rfl
  obtain ⟨G, Kp, f, b, x, l, m, tail, rfl, hok, hG, hKp, hn, hw, hm, hLN, hasc, htl, q⟩ := h
  refine ⟨_, (pss_cons (ps_if (pt_cmpR op_gt (pe_callB call_lenS rfl T.len PySem.boot_len (pa_cons (pv 1) pa_nil)) (pe_op op_mul (pe_callB call_lenS rfl T.len PySem.boot_len (pa_cons (pe_gv T.c_STEP) pa_nil)) (pe_op op_add (pe_gv T.c_DEEPEST_clashes) pe_int)) (nomark _))
      (pss_one ps_never)
      pss_nil)
    (pss_cons (ps_set (i := 2) sc_body_in.nd rfl (Or.inl rfl) (pe_lstD pa_nil))
    (pss_cons (ps_while PassesOwn.never (PW.pt (pw_and (pt_val (pe_mo kL.c G_begins hr (pv 0) (pa_cons (pv 1) pa_nil))) (pw_and (pt_not (pt_val (pe_mo kL.c G_begins hr (pv 0) (pa_cons (pe_op op_addS2 (pv 1) pe_str) pa_nil)))) (pw_and1 (pt_not (pt_val (pe_mo kL.c G_begins hr (pv 0) (pa_cons (pe_op op_addS2 (pv 1) pe_str) pa_nil))))))))
      (pss_one (ps_expr (pe_bmL PySem.F.slot_list_append PySem.F.type_list_append mt_appD (pv 2) (pa_cons (pe_fo G_statement_in hr (pa_cons (pv 0) (pa_cons (pv 1) pa_nil))) pa_nil)))))
    (pss_one (ps_ret (pe_callTy call_tupleD rfl T.tuple (by decide +kernel) (pa_cons (pv 2) pa_nil))))))), ?_⟩
  have e2 : (Str.ofString "  ").length = 2 := by decide +kernel
  refine seq_i fun M hM => ?_
  walk_at "rd"
  refine ⟨by rw [slen_spc]; exact size_of (by omega), by rw [e2]; decide, by rw [e2]; exact .inl (by decide), ?_⟩
  rw [e2, slen_spc, if_neg (by omega)]
  subst hM
  walk_at "rd"
  intro pf H1 hpf s1 hl1
  have hLN1 : LN C H1 x l (blines (spc m) b ++ tail) := ⟨let ⟨dx, h⟩ := hLN.1; ⟨dx, s1 _ _ h⟩, s1 _ _ hLN.2⟩
  have hne : l ≠ pf := fun z => by have := hLN.2; rw [z, hpf] at this; cases this
  have hhl := heads_len b
  have hlen : (heads b).length ≤ 1000 := by omega
  obtain ⟨Pv, hPi, hPo⟩ : ∃ Pv : Nat → St → Hp → Prop, (∀ (i : Nat) (H3 : Hp) (vs : List V), i ≤ (heads b).length → But l H H3 → LN C H3 x l (((heads b).drop i).flatMap (blines (spc m)) ++ tail) → H3 pf = some (.lst vs) → All2 (fun h x => RBl H3 h [x]) ((heads b).take i) vs → Pv ((heads b).length - i) [some (V.ref x), some (V.str (spc m)), some (V.ref pf)] H3) ∧
      ∀ (j : Nat) (σ : St) (H3 : Hp), Pv j σ H3 → ∃ (i : Nat) (vs : List V), j = (heads b).length - i ∧ σ = [some (V.ref x), some (V.str (spc m)), some (V.ref pf)] ∧ i ≤ (heads b).length ∧ But l H H3 ∧ LN C H3 x l (((heads b).drop i).flatMap (blines (spc m)) ++ tail) ∧ H3 pf = some (.lst vs) ∧ All2 (fun h x => RBl H3 h [x]) ((heads b).take i) vs :=
    ⟨fun j σ H3 => ∃ (i : Nat) (vs : List V), j = (heads b).length - i ∧ σ = [some (V.ref x), some (V.str (spc m)), some (V.ref pf)] ∧ i ≤ (heads b).length ∧ But l H H3 ∧ LN C H3 x l (((heads b).drop i).flatMap (blines (spc m)) ++ tail) ∧ H3 pf = some (.lst vs) ∧ All2 (fun h x => RBl H3 h [x]) ((heads b).take i) vs,
      fun i H3 vs h1 h2 h3 h4 h5 => ⟨i, vs, rfl, rfl, h1, h2, h3, h4, h5⟩, fun _ _ _ z => z⟩
  refine ⟨Pv, ⟨(heads b).length, ?_⟩, fun j σ H3 z => ?_⟩
  · exact hPi 0 H1 [] (Nat.zero_le _) (But.of s1) (by rw [List.drop_zero, heads_blines]; exact hLN1) hl1 .nil
  · obtain ⟨i, vs, rfl, rfl, hi, b3, hLN3, hp3, hal⟩ := hPo _ _ _ z
    clear z
    have hasc3 : Asc (((heads b).drop i).flatMap (blines (spc m)) ++ tail) := fun y hy => hasc y (by
      rcases List.mem_append.mp hy with hy | hy
      · refine List.mem_append_left _ ?_
        rw [← heads_blines (spc m) b]
        obtain ⟨h, hh, hy⟩ := List.mem_flatMap.mp hy
        exact List.mem_flatMap.mpr ⟨h, List.mem_of_mem_drop hh, hy⟩
      · exact List.mem_append_right _ hy)
    obtain ⟨⟨dx, hx3⟩, hl3⟩ := id hLN3
    have ls1 : (Str.ofString "else").length = 4 := by decide +kernel
    have ls2 : (Str.ofString " ").length = 1 := by decide +kernel
    have fin : i = (heads b).length → ∀ H4, Same H3 H4 → (∃ ys, H4 pf = some (.lst ys) ∧ ∀ (p : Addr) (H' : Hp), H4 p = none → Same H4 H' → H' p = some (.tup ys) → Q (.ref p) H') := fun hie H4 s4 => by
      subst hie
      rw [List.take_length] at hal
      rw [List.drop_length, List.flatMap_nil, List.nil_append] at hLN3
      refine ⟨_, s4 _ _ hp3, fun p H5 hp s5 hl5 => q _ _ (b3.same (s4.trans s5)) ⟨let ⟨dx, h⟩ := hLN3.1; ⟨dx, (s4.trans s5) _ _ h⟩, (s4.trans s5) _ _ hLN3.2⟩ ⟨p, vs, rfl, hl5, ?_⟩⟩
      exact heads_back (all2_mono (fun _ _ z => RBl.tk (same_tk (s4.trans s5)) _ _ z) hal)
    walk_at "rd"
    by_cases hlt : i < (heads b).length
    · have hmem := List.getElem_mem hlt
      have hhd := heads_is hmem
      have hhok := heads_ok hok hmem
      have hnb : blines (spc m) (heads b)[i] ≠ [] := by
        cases e : (heads b)[i] with
        | nil => rw [e] at hhd; exact hhd.elim
        | set => simp [blines]
        | ite => simp [blines]
      obtain ⟨a, ra, c, ea, hled, hc⟩ := first_led hhok hnb
      have eLS : ((heads b).drop i).flatMap (blines (spc m)) ++ tail = a :: (ra ++ (((heads b).drop (i + 1)).flatMap (blines (spc m)) ++ tail)) := by
        rw [List.drop_eq_getElem_cons hlt, List.flatMap_cons, ea]
        simp
      rw [eLS] at hLN3 hasc3
      refine ⟨dx, _, hx3, lk_begins, l, _, hLN3, hasc3, fun H4 s4 => ?_⟩
      rw [bgn_cons, hled.yes, if_pos rfl]
      have hLN4 : LN C H4 x l _ := LN.same hLN3 s4
      refine ⟨dx, _, s4 _ _ hx3, lk_begins, by rw [slen_spc]; omega, l, _, hLN4, hasc3, fun H5 s5 => ?_⟩
      rw [bgn_cons, hled.other (zr := [108, 115, 101]) (by decide +kernel) hc, if_pos rfl]
      have hLN5 : LN C H5 x l _ := LN.same hLN4 s5
      refine ⟨dx, _, (s4.trans s5) _ _ hx3, lk_begins, by rw [slen_spc]; omega, l, _, hLN5, hasc3, fun H6 s6 => ?_⟩
      rw [bgn_cons, hled.other (zr := []) (c0 := 32) (by decide +kernel) hled.1, if_pos rfl]
      refine ⟨fun σ' H' => ∃ m', m' < (heads b).length - i ∧ Pv m' σ' H', fun σ' H' z => z, ?_⟩
      have s06 : Same H3 H6 := (s4.trans s5).trans s6
      have hp6 := s06 _ _ hp3
      have hLN6 : LN C H6 x l _ := LN.same hLN5 s6
      have hl6 := hLN6.2
      have ets : a :: (ra ++ (((heads b).drop (i + 1)).flatMap (blines (spc m)) ++ tail)) = blines (spc m) (heads b)[i] ++ (((heads b).drop (i + 1)).flatMap (blines (spc m)) ++ tail) := by rw [ea]; rfl
      rw [ets] at hLN6 hasc3
      have htle : Tle (m + 2) (((heads b).drop (i + 1)).flatMap (blines (spc m)) ++ tail) := by
        cases e : (heads b).drop (i + 1) with
        | nil => rw [List.flatMap_nil, List.nil_append]; exact htl.up
        | cons h2 hs =>
          have hm2 : h2 ∈ heads b := List.mem_of_mem_drop (by rw [e]; exact List.mem_cons_self)
          have hn2 : blines (spc m) h2 ≠ [] := by
            have := heads_is hm2
            cases h2 with
            | nil => exact this.elim
            | set => simp [blines]
            | ite => simp [blines]
          obtain ⟨a2, r2, c2, e2, hl2, _⟩ := first_led (heads_ok hok hm2) hn2
          rw [List.flatMap_cons, e2]
          exact .inr ⟨a2, _, m, c2, rfl, hl2, .inl (by omega)⟩
      have hdp := heads_deep hmem
      have hxne : x ≠ pf := fun z => by obtain ⟨dx0, hx0⟩ := hLN.1; rw [z, hpf] at hx0; cases hx0
      have hvl := all2_len hal
      rw [List.length_take] at hvl
      refine ⟨⟨_, hp6⟩, G, Kp, f, (heads b)[i], l, m, rfl, hhd, hhok, hG, hKp, by omega, by have := heads_wt_le hmem; omega, by omega, _, hLN6, hasc3, htle, fun v H7 b7 hLN7 hr7 => ?_⟩
      have hp7 := b7 _ _ (Ne.symm hne) hp6
      refine ⟨_, hp7, by omega, fun H8 b8 hp8 => ⟨(heads b).length - (i + 1), by omega, hPi (i + 1) H8 (vs ++ [v]) (by omega) (but_fresh ((b3.same s06).trans b7) hpf b8) ⟨let ⟨dx, h⟩ := hLN7.1; ⟨dx, b8 _ _ hxne h⟩, b8 _ _ hne hLN7.2⟩ hp8 ?_⟩⟩
      rw [take_snoc (List.getElem?_eq_getElem hlt)]
      have k38 : Tk H3 H8 := ((same_tk s06).trans (b7.tk hl6)).trans (b8.tk hp7)
      exact all2_snoc (all2_mono (fun _ _ z => RBl.tk k38 _ _ z) hal) (RBl.tk (b8.tk hp7) _ _ hr7)
    · have hie : i = (heads b).length := by omega
      subst hie
      rw [List.drop_length, List.flatMap_nil, List.nil_append] at hLN3 hasc3
      refine ⟨dx, _, hx3, lk_begins, l, tail, hLN3, hasc3, fun H4 s4 => ?_⟩
      rcases htl with rfl | ⟨a, r, j, c, rfl, hled, hj | ⟨rfl, rfl⟩⟩
      · rw [bgn_nil, if_neg (by decide)]
        exact fin rfl H4 s4
      · rw [bgn_cons, hled.short0 hj, if_neg (by decide)]
        exact fin rfl H4 s4
      · have hLN4 : LN C H4 x l _ := LN.same hLN3 s4
        rw [bgn_cons, (else_led j).yes, if_pos rfl]
        refine ⟨dx, _, s4 _ _ hx3, lk_begins, by rw [slen_spc]; omega, l, _, hLN4, hasc3, fun H5 s5 => ?_⟩
        rw [bgn_cons, pre_yes (a := spc j ++ Str.ofString "else") (y := spc j ++ Str.ofString "else") (r := []) (by rw [List.append_nil]), if_neg (by decide)]
        exact fin rfl H5 (s4.trans s5)
theorem ok_statement_in {n : Nat} (T : TX K mg) (kL : KCls K mg "Lines" C) (D : DF K mg "statement_in" s_statement_in ["lines", "ahead"] []) (G_body_in : FO P w K mg base "body_in" k ["lines", "ahead"] [] (spBodyIn C n)) (G_begins : FM P w K mg base C "begins" k ["self", "text"] [] (spBegins C))
    (G_taken : FM P w K mg base C "taken" k ["self"] [] (spTaken C)) (G_read_term : FO P w K mg base "read_term" k ["text"] [] spReadTerm) :
    FO P w K mg base "statement_in" (k + 1) ["lines", "ahead"] [] (spStIn C (n + 1)) := by
  refine D.ok sc_statement_in (fun vs H Q E h => ?_) (fun fa cdv A outer s H vs Q E hr h => ?_)
  · obtain ⟨_, _, _, _, _, _, _, _, rfl, _⟩ := h
    rfl
  obtain ⟨G, Kp, f, b, x, l, m, tail, rfl, hh, hok, hG, hKp, hn, hbw, hm, hLN, hasc, htle, q⟩ := h
  refine ⟨_, (pss_cons (ps_asg (pe_partD (pe_slice sl_str (pe_mo0 kL.c G_taken hr (pv 0)) (po_some (pe_callB call_lenS rfl T.len PySem.boot_len (pa_cons (pv 1) pa_nil))) po_none) pe_str) (pg_tpl 3 rfl (pgs_cons (pg_name (i := 2) sc_statement_in.nd rfl (Or.inl rfl)) (pgs_cons (pg_name (i := 3) sc_statement_in.nd rfl (Or.inl rfl)) (pgs_cons (pg_name (i := 4) sc_statement_in.nd rfl (Or.inl rfl)) pgs_nil)))))
    (pss_cons (ps_if (pt_cmpR op_eq (pv 2) pe_str (nomark _))
      (pss_cons (ps_set (i := 5) sc_statement_in.nd rfl (Or.inl rfl) (pe_fo G_read_term hr (pa_cons (pv 4) pa_nil)))
    (pss_cons (ps_set (i := 6) sc_statement_in.nd rfl (Or.inl rfl) (pe_fo G_body_in hr (pa_cons (pv 0) (pa_cons (pe_op op_addS2 (pv 1) (pe_gv T.c_STEP)) pa_nil))))
    (pss_cons (ps_if (PW.pt (pw_or (pt_not (pt_val (pe_mo kL.c G_begins hr (pv 0) (pa_cons (pe_op op_addS2 (pv 1) pe_str) pa_nil)))) (pw_or1 (pt_cmpR op_ne (pe_mo0 kL.c G_taken hr (pv 0)) (pe_op op_addS2 (pv 1) pe_str) (nomark _)))))
      (pss_one ps_never)
      pss_nil)
    (pss_one (ps_ret (pe_tupD (pa_cons pe_str (pa_cons (pv 5) (pa_cons (pv 6) (pa_cons (pe_fo G_body_in hr (pa_cons (pv 0) (pa_cons (pe_op op_addS2 (pv 1) (pe_gv T.c_STEP)) pa_nil))) pa_nil))))))))))
      pss_nil)
    (pss_cons (ps_asg (pe_partD (pv 4) pe_str) (pg_tpl 3 rfl (pgs_cons (pg_name (i := 7) sc_statement_in.nd rfl (Or.inl rfl)) (pgs_cons (pg_name (i := 3) sc_statement_in.nd rfl (Or.inl rfl)) (pgs_cons (pg_name (i := 8) sc_statement_in.nd rfl (Or.inl rfl)) pgs_nil)))))
    (pss_one (ps_ret (pe_tupD (pa_cons (pv 2) (pa_cons (pv 7) (pa_cons (pe_fo G_read_term hr (pa_cons (pv 8) pa_nil)) pa_nil))))))))), ?_⟩
  refine seq_i fun M hM => ?_
  obtain ⟨⟨dx, hx⟩, hl⟩ := id hLN
  have hsep : tl (Str.ofString " ") = [32] := by decide +kernel
  have hnes : Str.ofString " " ≠ Str.empty := by decide +kernel
  walk_at "rd"
  cases b with
  | nil => exact hh.elim
  | set w nm t r =>
    have er : r = .nil := hh
    subst er
    obtain ⟨hw, _, ⟨kk, hk, hto⟩, _⟩ := hok
    have hnm := hKp _ _ hk
    have htl := tx_len _ _ hto.1
    have htw := hto.2.2
    have hwl : w.length ≤ 5 := by rcases hw with rfl | rfl <;> decide +kernel
    have hnl : nm.length ≤ 8 := by rw [len_tl]; exact hnm.l8
    have ls : (Str.ofString " ").length = 1 := by decide +kernel
    refine ⟨dx, _, hx, lk_taken, l, _, tail, hLN, fun H1 b1 hLN1 => ?_⟩
    have hcut : cutS (spc m ++ w ++ Str.ofString " " ++ nm ++ Str.ofString " " ++ tx t) (some ((spc m).length : Int)) none = w ++ Str.ofString " " ++ (nm ++ Str.ofString " " ++ tx t) := by
      have e := cut_from (x := spc m ++ w ++ Str.ofString " " ++ nm ++ Str.ofString " " ++ tx t) (pre := tl (spc m)) (post := tl (w ++ Str.ofString " " ++ (nm ++ Str.ofString " " ++ tx t))) (by simp only [tl_append, List.append_assoc])
      rw [← len_tl] at e
      rw [e, mk_tl]
    rw [hcut]
    have hwf : 32 ∉ tl w := by rcases hw with rfl | rfl <;> decide +kernel
    have hp1 := partition_app hsep (b := nm ++ Str.ofString " " ++ tx t) hwf
    have hp2 := partition_app hsep (b := tx t) (name_free hnm).1
    refine ⟨by rw [slen_spc]; exact size_of (by omega), size_of (by simp only [slen_app, slen_spc, ls]; omega), hnes, by simp only [slen_app, ls]; omega, fun p2 H2 hq2 s2 hl2 => ?_⟩
    rw [hp1] at hl2
    refine ⟨_, hl2, rfl, _, _, rfl, _, _, rfl, _, _, rfl, rfl, ?_⟩
    subst hM
    refine seq_i fun M hM => ?_
    have hwi : ¬ w = Str.ofString "if" := by rcases hw with rfl | rfl <;> decide +kernel
    walk_at "ra"
    subst hM
    walk_at "rd"
    refine ⟨hnes, by simp only [slen_app, ls]; omega, fun p3 H3 hq3 s3 hl3 => ?_⟩
    rw [hp2] at hl3
    exact ⟨_, hl3, rfl, _, _, rfl, _, _, rfl, _, _, rfl, rfl, G, t, rfl, hG, kk, hto, fun v H4 s4 r4 p5 H5 hq5 s5 hl5 => q _ _ (b1.same (((s2.trans s3).trans s4).trans s5)) (hLN1.same (((s2.trans s3).trans s4).trans s5)) ⟨p5, v, [], rfl, hl5, RT.tk (same_tk s5) _ _ r4, rfl⟩⟩
  | ite c s t r =>
    have er : r = .nil := hh
    subst er
    obtain ⟨hc, hs, ht, _⟩ := hok
    have hctl := tx_len _ _ hc.1
    have hctw := hc.2.2
    have ls3 : (Str.ofString "if ").length = 3 := by decide +kernel
    have hif : Str.ofString "if " = Str.ofString "if" ++ Str.ofString " " := by decide +kernel
    refine ⟨dx, _, hx, lk_taken, l, _, _, hLN, fun H1 b1 hLN1 => ?_⟩
    have hcut : cutS (spc m ++ Str.ofString "if " ++ tx c) (some ((spc m).length : Int)) none = Str.ofString "if" ++ Str.ofString " " ++ tx c := by
      have e := cut_from (x := spc m ++ Str.ofString "if " ++ tx c) (pre := tl (spc m)) (post := tl (Str.ofString "if" ++ Str.ofString " " ++ tx c)) (by rw [hif]; simp only [tl_append, List.append_assoc])
      rw [← len_tl] at e
      rw [e, mk_tl]
    rw [hcut]
    have hp1 := partition_app hsep (a := Str.ofString "if") (b := tx c) (by decide +kernel)
    refine ⟨by rw [slen_spc]; exact size_of (by omega), size_of (by simp only [slen_app, slen_spc, ls3]; omega), hnes, by rw [← hif]; simp only [slen_app, ls3]; omega, fun p2 H2 hq2 s2 hl2 => ?_⟩
    rw [hp1] at hl2
    refine ⟨_, hl2, rfl, _, _, rfl, _, _, rfl, _, _, rfl, rfl, ?_⟩
    subst hM
    refine seq_i fun M hM => ?_
    walk_at "rd"
    have ls2 : (Str.ofString "  ").length = 2 := by decide +kernel
    have ls4 : (Str.ofString "else").length = 4 := by decide +kernel
    simp only [bdeep, bwt] at hn hbw hm
    have erest : blines (spc m ++ ("  " : Str)) s ++ ((spc m ++ ("else" : Str)) :: (blines (spc m ++ ("  " : Str)) t ++ blines (spc m) .nil)) ++ tail = blines (spc (m + 2)) s ++ ((spc m ++ Str.ofString "else") :: (blines (spc (m + 2)) t ++ tail)) := by
      rw [spc_add]
      simp [blines]
    have easc : Asc (blines (spc (m + 2)) s ++ ((spc m ++ Str.ofString "else") :: (blines (spc (m + 2)) t ++ tail))) := fun y hy => hasc y (List.mem_cons_of_mem _ (by rw [← erest] at hy; exact hy))
    have hLN1' : LN C H1 x l (blines (spc (m + 2)) s ++ ((spc m ++ Str.ofString "else") :: (blines (spc (m + 2)) t ++ tail))) := by
      rw [← erest]
      exact hLN1
    refine ⟨G, c, rfl, hG, 1, hc, fun v H3 s3 r3 => ⟨by rw [slen_spc, ls2]; omega, G, Kp, f, s, l, m + 2, spc_add m, hs, hG, hKp, by omega, by omega, by omega, _, (hLN1'.same s2).same s3, easc, .inr ⟨_, _, m, 101, rfl, else_led m, .inl (by omega)⟩, fun v1 H4 b4 hLN4 r4 => ?_⟩⟩
    have easc2 : Asc ((spc m ++ Str.ofString "else") :: (blines (spc (m + 2)) t ++ tail)) := fun y hy => easc y (List.mem_append_right _ hy)
    obtain ⟨⟨dx4, hx4⟩, hl4⟩ := id hLN4
    refine ⟨dx4, _, hx4, lk_begins, by rw [slen_spc]; omega, l, _, hLN4, easc2, fun H5 s5 => ?_⟩
    rw [bgn_cons, pre_yes (a := spc m ++ Str.ofString "else") (y := spc m ++ Str.ofString "else") (r := []) (by rw [List.append_nil]), if_neg (by decide)]
    refine ⟨dx4, _, s5 _ _ hx4, lk_taken, l, _, _, hLN4.same s5, fun H6 b6 hLN6 => ⟨by rw [slen_spc, ls4]; omega, ?_⟩⟩
    rw [if_neg (by simp)]
    have easc3 : Asc (blines (spc (m + 2)) t ++ tail) := fun y hy => easc2 y (List.mem_cons_of_mem _ hy)
    refine ⟨by rw [slen_spc, ls2]; omega, G, Kp, f, t, l, m + 2, spc_add m, ht, hG, hKp, by omega, by omega, by omega, tail, hLN6, easc3, htle, fun v2 H7 b7 hLN7 r7 p8 H8 hp8 s8 hl8 => ?_⟩
    have k48 : Tk H4 H8 := (((same_tk s5).trans (b6.tk (s5 _ _ hl4))).trans (b7.tk hLN6.2)).trans (same_tk s8)
    have k38 : Tk H3 H8 := (b4.tk ((hLN1'.same s2).same s3).2).trans k48
    obtain ⟨pa, ps, rfl, hpa, hps⟩ := RB.tk k48 r4
    obtain ⟨qa, qs, rfl, hqa, hqs⟩ := RB.tk (same_tk s8) r7
    exact q _ _ ((((((b1.same (s2.trans s3)).trans b4).same s5).trans b6).trans b7).same s8) (hLN7.same s8) ⟨p8, v, pa, qa, ps, qs, [], rfl, hl8, RT.tk k38 _ _ r3, hpa, hps, hqa, hqs, rfl⟩
end
end K37
set_option maxHeartbeats 4000000
/-! K37L: the signs of a design's lines; the text split at its line ends -/
namespace K37
open PySem L2 TL
open PyProof.Rows hiding St
def LnC (c : Nat) : Prop := 32 ≤ c ∧ c < 128
theorem txc_ln {c : Nat} (h : TxC c) : LnC c := by
  unfold TxC isLet isFig at h
  unfold LnC
  omega
theorem tx_ln {G : Str → Nat → Prop} (hG : Rng G) {t : Tm} {k : Nat} (h : Fit G t k) : ∀ c ∈ tl (tx t), LnC c := fun c hc => txc_ln (tx_chars hG t k h c hc)
theorem name_ln {n : Str} (h : NameOk n) : ∀ c ∈ tl n, LnC c := fun c hc => by
  have := h.al c hc
  unfold isLet isFig at this
  unfold LnC
  omega
theorem lits_ln : ∀ w ∈ ([" ", "  ", "if ", "else", "now", "later", "block ", "rise", "fall", "input", "kept", "wire", "filter", "bus", ": ", "; "] : List Str), ∀ c ∈ tl w, LnC c := by
  have h : ∀ w ∈ ([" ", "  ", "if ", "else", "now", "later", "block ", "rise", "fall", "input", "kept", "wire", "filter", "bus", ": ", "; "] : List Str), ∀ c ∈ tl w, (32 ≤ c ∧ c < 128) := by decide +kernel
  exact h
theorem blines_ln {G Kp : Str → Nat → Prop} {f : Str → Str} (hG : Rng G) (hKp : ∀ n k, Kp n k → NameOk n) : ∀ (b : Bd) (ah : Str), BdOk G Kp f b → (∀ c ∈ tl ah, LnC c) → ∀ l ∈ blines ah b, ∀ c ∈ tl l, LnC c
  | .nil, ah, _, _, l, h => by cases h
  | .set w n t r, ah, q, hah, l, h => by
    obtain ⟨hw, _, ⟨kk, hk, hto⟩, hr⟩ := q
    rcases List.mem_cons.mp h with rfl | h
    · have h1 : ∀ c ∈ tl w, LnC c := lits_ln w (by rcases hw with rfl | rfl <;> simp)
      have h5 : ∀ c ∈ tl (" " : Str), LnC c := lits_ln _ (by simp)
      exact app_chars (app_chars (app_chars (app_chars (app_chars hah h1) h5) (name_ln (hKp _ _ hk))) h5) (tx_ln hG hto.1)
    · exact blines_ln hG hKp r ah hr hah l h
  | .ite c a b r, ah, q, hah, l, h => by
    obtain ⟨hc, ha, hb, hr⟩ := q
    have h2 : ∀ c ∈ tl (ah ++ ("  " : Str)), LnC c := app_chars hah (lits_ln _ (by simp))
    rcases List.mem_cons.mp h with rfl | h
    · exact app_chars (app_chars hah (lits_ln _ (by simp))) (tx_ln hG hc.1)
    · rcases List.mem_append.mp h with h | h
      · exact blines_ln hG hKp a _ ha h2 l h
      · rcases List.mem_cons.mp h with rfl | h
        · exact app_chars hah (lits_ln _ (by simp))
        · rcases List.mem_append.mp h with h | h
          · exact blines_ln hG hKp b _ hb h2 l h
          · exact blines_ln hG hKp r ah hr hah l h
theorem join_ln {P : Nat → Prop} {y : Str} (hy : ∀ c ∈ tl y, P c) : ∀ {ys : List Str}, (∀ z ∈ ys, ∀ c ∈ tl z, P c) → ∀ c ∈ tl (Str.join y ys), P c
  | [], _, c, hc => by cases hc
  | [a], h, c, hc => h a List.mem_cons_self c hc
  | a :: b :: r, h, c, hc => app_chars (app_chars (h a List.mem_cons_self) hy) (join_ln hy fun z hz => h z (List.mem_cons_of_mem _ hz)) c hc
theorem fig_ln {n : Nat} (h : n < 10) : ∀ c ∈ tl (figS n), LnC c := fun c hc => txc_ln (fig_chars h c hc)
theorem drv_ln {G : Str → Nat → Prop} (hG : Rng G) {d : Tm × Tm} {k : Nat} (t1 : TermOk G d.1 1) (t2 : TermOk G d.2 k) : ∀ c ∈ tl (drvTx d), LnC c := app_chars (app_chars (tx_ln hG t1.1) (lits_ln _ (by simp))) (tx_ln hG t2.1)
theorem sline_ln {sg : List Sg} {bl : List Bk} (V : Valid sg bl) {s : Sg} (hs : s ∈ sg) : ∀ c ∈ tl (sline s), LnC c := by
  have hb : ∀ c ∈ tl (" " : Str), LnC c := lits_ln _ (by simp)
  obtain ⟨hn, hw1, hw8⟩ := V.nm s hs
  have hwh := V.wh s hs
  have hwt : ∀ c ∈ tl (whatTx s), LnC c := by
    cases s with
    | inp n k => intro c hc; cases hc
    | kept n k v => exact app_chars hb fun c hc => by have := ValOk.al hwh c hc; unfold LnC; omega
    | wire n k t => exact app_chars hb (tx_ln V.rng hwh.1)
    | filt n k t => exact app_chars hb (tx_ln V.rng hwh.1)
    | bus n k ds =>
      refine app_chars hb ?_
      rw [join_eq]
      refine join_ln (lits_ln _ (by simp)) fun z hz => ?_
      obtain ⟨d, hd, rfl⟩ := List.mem_map.mp hz
      exact drv_ln V.rng (hwh.2.2 d hd).1 (hwh.2.2 d hd).2
  exact app_chars (app_chars (app_chars (app_chars (app_chars (lits_ln _ (by cases s <;> simp [Sg.sort])) hb) (name_ln hn)) hb) (fig_ln (by omega))) hwt
theorem dlines_ln {sg : List Sg} {bl : List Bk} (V : Valid sg bl) : ∀ l ∈ dlines sg bl, ∀ c ∈ tl l, LnC c := fun l hl => by
  rcases List.mem_append.mp hl with hl | hl
  · obtain ⟨s, hs, rfl⟩ := List.mem_map.mp hl
    exact sline_ln V hs
  · obtain ⟨b, hb, hl⟩ := List.mem_flatMap.mp hl
    obtain ⟨f, hk⟩ := V.bk
    have ok := hk b hb
    have hs : ∀ c ∈ tl (" " : Str), LnC c := lits_ln _ (by simp)
    rcases List.mem_cons.mp hl with rfl | hl
    · obtain ⟨s, hs', e, _⟩ := ok.tr
      exact app_chars (app_chars (app_chars (app_chars (app_chars (lits_ln _ (by simp)) (name_ln ok.nm)) hs) (lits_ln _ (by rcases ok.ed with e | e <;> rw [e] <;> simp))) hs) (by rw [← e]; exact name_ln (V.nm s hs').1)
    · exact blines_ln V.rng V.kp b.body _ ok.bd (lits_ln _ (by simp)) l hl
theorem dlines_asc {sg : List Sg} {bl : List Bk} (V : Valid sg bl) : Asc (dlines sg bl) := fun l hl c hc => (dlines_ln V l hl c hc).2
theorem join_ends {e : Str} : ∀ ls : List Str, Str.join Str.empty (ls.map fun l => l ++ e) = Str.join e (ls ++ [Str.empty])
  | [] => rfl
  | [a] => by
    show a ++ e = a ++ e ++ Str.empty
    rw [empty_app]
  | a :: b :: r => by
    show a ++ e ++ Str.empty ++ Str.join Str.empty ((b :: r).map fun l => l ++ e) = a ++ e ++ Str.join e (b :: (r ++ [Str.empty]))
    rw [join_ends (b :: r), empty_app]
    rfl
theorem dtext_split {sg : List Sg} {bl : List Bk} (V : Valid sg bl) : Txt.split (dtext sg bl) (Str.ofString "\n") = dlines sg bl ++ [Str.empty] := by
  have e : dtext sg bl = Txt.join (Str.ofString "\n") (dlines sg bl ++ [Str.empty]) := by
    rw [join_eq, ← join_ends, ← join_eq]
    rfl
  rw [e]
  refine split_join (s := 10) (S := []) (by decide +kernel) (by decide +kernel) (by simp) fun p hp => ?_
  rcases List.mem_append.mp hp with hp | hp
  · intro z
    have := dlines_ln V p hp 10 z
    unfold LnC at this
    omega
  · rw [List.mem_singleton] at hp
    rw [hp]
    intro z
    cases z
theorem dtext_len {sg : List Sg} {bl : List Bk} (V : Valid sg bl) : (dtext sg bl).length ≤ 1000000 := by
  have h1 := join_len (y := Str.empty) ((dlines sg bl).map fun l => l ++ ("\n" : Str))
  have e1 : ((dlines sg bl).map fun l => l ++ ("\n" : Str)) = (sg.map fun s => sline s ++ ("\n" : Str)) ++ (bl.flatMap klines).map fun l => l ++ ("\n" : Str) := by
    simp only [dlines, List.map_append, List.map_map]
    rfl
  have n1 : (Str.ofString "\n").length = 1 := by decide +kernel
  have h2 := sum_len (ys := sg.map fun s => sline s ++ ("\n" : Str)) (m := 8201) fun y hy => by
    obtain ⟨s, hs, rfl⟩ := List.mem_map.mp hy
    have := sline_len V hs
    rw [slen_app, n1]
    omega
  have h3 := sum_len (ys := (bl.flatMap klines).map fun l => l ++ ("\n" : Str)) (m := 1101) fun y hy => by
    obtain ⟨l, hl, rfl⟩ := List.mem_map.mp hy
    obtain ⟨b, hb, hl⟩ := List.mem_flatMap.mp hl
    obtain ⟨f, hk⟩ := V.bk
    have := (klines_len V (hk b hb)).2.2 l hl
    rw [slen_app, n1]
    omega
  have h4 : (bl.flatMap klines).length ≤ 6 * 41 := by
    have key : ∀ l : List Bk, (∀ b ∈ l, b ∈ bl) → (l.flatMap klines).length ≤ l.length * 41 := fun l => by
      induction l with
      | nil => intro _; exact Nat.zero_le _
      | cons b r ih =>
        intro hm
        obtain ⟨f, hk⟩ := V.bk
        have h5 := (klines_len V (hk b (hm b List.mem_cons_self))).2.1
        have h6 := ih fun c hc => hm c (List.mem_cons_of_mem _ hc)
        rw [List.flatMap_cons, List.length_append, List.length_cons]
        omega
    have h5 := key bl fun _ h => h
    have := V.lb
    omega
  have h5 := V.ls
  rw [show (Str.empty).length = 0 from rfl] at h1
  rw [List.length_map] at h2 h3
  rw [e1] at h1
  rw [List.map_append, List.sum_append] at h1
  show (Txt.join Str.empty ((dlines sg bl).map fun l => l ++ ("\n" : Str))).length ≤ _
  rw [join_eq, e1]
  omega
end K37
set_option maxHeartbeats 4000000
namespace K37
open PySem L2 TL
open PyProof.Rows hiding St
theorem sc_block_in : FnScope ["lines", "word", "fields"] ["lines"] (defScope s_block_in) := ⟨rfl, rfl, rfl, by decide +kernel, rfl, by decide +kernel, by decide +kernel⟩

theorem sc_design_in : FnScope ["lines", "signals", "blocks"] ["lines"] (defScope s_design_in) := ⟨rfl, rfl, rfl, by decide +kernel, rfl, by decide +kernel, by decide +kernel⟩

theorem sc_read_design : FnScope ["text", "e", "last", "found", "rows"] ["text"] (defScope s_read_design) := ⟨rfl, rfl, rfl, by decide +kernel, rfl, by decide +kernel, by decide +kernel⟩

def spBlockIn (C : Addr) : Sp := fun vs H Q _ => ∃ (sg : List Sg) (bl : List Bk) (f : Str → Str) (b : Bk) (x l : Addr) (tail : List Str), vs = [.ref x] ∧ Valid sg bl ∧ BkOk sg f b ∧ LN C H x l (klines b ++ tail) ∧ Asc (klines b ++ tail) ∧ Tle 2 tail ∧ ∀ v H', But l H H' → LN C H' x l tail → RK H' b v → Q v H'
def spDesignIn (CL CD : Addr) : Sp := fun vs H Q _ => ∃ (sg : List Sg) (bl : List Bk) (x l : Addr), vs = [.ref x] ∧ Valid sg bl ∧ LN CL H x l (dlines sg bl) ∧ Asc (dlines sg bl) ∧ ∀ y H', But l H H' → DS CD H' y sg bl → Q (.ref y) H'
def spReadDesign (CD : Addr) : Sp := fun vs H Q _ => ∃ (sg : List Sg) (bl : List Bk), vs = [.str (dtext sg bl)] ∧ Valid sg bl ∧ ∀ y H', Same H H' → DS CD H' y sg bl → Q (.ref y) H'
local macro_rules | `(tactic| walk_at "rd") => `(tactic| simp only [tYes, wipe, HO.lst.injEq, HO.tup.injEq, HO.dK.injEq, Nat.reduceAdd, Nat.reduceLeDiff, Nat.reduceSub, Int.reduceLE, Int.reduceLT, Int.reduceNeg, Nat.zero_add, Int.reduceEq, cut_head, cut_tail, cut_mid, cut_three, c_cast0, c_cast1, c_cast2, c_cast3, c_cast4, z_lit, List.getD_eq_getElem?_getD, Option.getD_some, tLc_eq, tFor_eq, cxOf, Cx.nox, Cx.wish, tSeq, tIfS, tOr, tAnd, tNot, tB, tCB, tCons, tVar, tC, tNil, tTest, tChain, rI0, rI, tOp, rIxS, rIxL, rIxT, tRet, tNext, tAsg, gName, tAndV, tOrV, tNotV, tIf, tIsN, tNotN, tCall, tDrop, tBM, tBM0, rEq, rNe, tRetN, tSl, tNoPart, tPart, tTupD, tLstD, tInD, rIsK, rLenS, rLenL, rLenT, rAllT, rAnyF, rInK, rInL, rSlLD, rSlTD, rSlS, rCatD, rCatTD, rAppD, rExtD, rPopD, rPopAtD, rListD, rTupleD, iLst, iTpl, iStr, rIxLH, rIxTH, gTupH, gLstH, gStar0, gStar1, gStar2, rSumH, rAddS2, tJoinS, tFmtS, tFmtI, tJoined, tJoined_nil, tJoined_cons, rIsG, app_empty, tFldD, sFldD, tMkD, tMoD, rIsC, rLenO, rEqO, HO.ins.injEq, exists_eq, tNilL, tML, tML0, tMS, iEnumH, tCallK, rStrI, tGetS, tGet1S, tGet2S, rListKD, tDc_eq, tLc2_eq, tKGet, gCons, gNil, tChain3, tPartD, tSplitD, tPar, New, Chg, rListTD, atI_0, atI_1, atI_2, atI_3, sign_inj, and_false, false_and, or_false, false_or, or_true, true_or, List.take_succ_cons, List.take_zero, List.drop_succ_cons, List.drop_zero, forall_const, exists_false, not_false_eq_true, not_true_eq_false, if_true, if_false, iRng1, KindV,
  L2.start, List.map_cons, List.map_nil, List.length_cons, List.length_nil, List.replicate, List.cons_append, List.nil_append, List.append_nil, List.set_cons_zero, List.set_cons_succ, List.getElem?_cons_zero, List.getElem?_cons_succ, Option.some.injEq, exists_eq_left', exists_eq_left, V.int.injEq, V.str.injEq, V.bl.injEq, V.ref.injEq, V.ty.injEq, true_and, and_true, List.cons.injEq, exists_and_left, exists_eq', and_assoc, scal, ofString_inj, String.reduceEq, reduceIte, decide_eq_true_eq, decide_eq_false_iff_not, Bool.not_true, Bool.not_false, Bool.not_eq_true', inV_cons, inV_nil, eqV_ss, eqV_ii, flatV, List.all_cons, List.all_nil, Bool.and_true, Bool.or_false, Bool.true_and, Bool.false_or, decide_true, decide_false, Bool.true_or, Bool.false_eq_true, reduceCtorEq, spBodyIn, spBlockIn, spDesignIn, spBegins, spTaken, spIsOver, spSignalIn, spLinesInit, spInit, spDesignText, tUn, rU])
local macro_rules | `(tactic| walk_at "ra") => `(tactic| simp only [tYes, wipe, HO.lst.injEq, HO.tup.injEq, HO.dK.injEq, Nat.reduceAdd, Nat.reduceLeDiff, Nat.reduceSub, Int.reduceLE, Int.reduceLT, Int.reduceNeg, Nat.zero_add, Int.reduceEq, cut_head, cut_tail, cut_mid, cut_three, c_cast0, c_cast1, c_cast2, c_cast3, c_cast4, z_lit, List.getD_eq_getElem?_getD, Option.getD_some, tLc_eq, tFor_eq, cxOf, Cx.nox, Cx.wish, tSeq, tIfS, tOr, tAnd, tNot, tB, tCB, tCons, tVar, tC, tNil, tTest, tChain, rI0, rI, tOp, rIxS, rIxL, rIxT, tRet, tNext, tAsg, gName, tAndV, tOrV, tNotV, tIf, tIsN, tNotN, tCall, tDrop, tBM, tBM0, rEq, rNe, tRetN, tSl, tNoPart, tPart, tTupD, tLstD, tInD, rIsK, rLenS, rLenL, rLenT, rAllT, rAnyF, rInK, rInL, rSlLD, rSlTD, rSlS, rCatD, rCatTD, rAppD, rExtD, rPopD, rPopAtD, rListD, rTupleD, iLst, iTpl, iStr, rIxLH, rIxTH, gTupH, gLstH, gStar0, gStar1, gStar2, rSumH, rAddS2, tJoinS, tFmtS, tFmtI, tJoined, tJoined_nil, tJoined_cons, rIsG, app_empty, tFldD, sFldD, tMkD, tMoD, rIsC, rLenO, rEqO, HO.ins.injEq, exists_eq, tNilL, tML, tML0, tMS, iEnumH, tCallK, rStrI, tGetS, tGet1S, tGet2S, rListKD, tDc_eq, tLc2_eq, tKGet, gCons, gNil, tChain3, tPartD, tSplitD, tPar, New, Chg, rListTD, atI_0, atI_1, atI_2, atI_3, sign_inj, and_false, false_and, or_false, false_or, or_true, true_or, List.take_succ_cons, List.take_zero, List.drop_succ_cons, List.drop_zero, forall_const, exists_false, not_false_eq_true, not_true_eq_false, if_true, if_false, iRng1, KindV,
  L2.start, List.map_cons, List.map_nil, List.length_cons, List.length_nil, List.replicate, List.cons_append, List.nil_append, List.append_nil, List.set_cons_zero, List.set_cons_succ, List.getElem?_cons_zero, List.getElem?_cons_succ, Option.some.injEq, exists_eq_left', exists_eq_left, V.int.injEq, V.str.injEq, V.bl.injEq, V.ref.injEq, V.ty.injEq, true_and, and_true, List.cons.injEq, exists_and_left, exists_eq', and_assoc, scal, ofString_inj, String.reduceEq, reduceIte, decide_eq_true_eq, decide_eq_false_iff_not, Bool.not_true, Bool.not_false, Bool.not_eq_true', inV_cons, inV_nil, eqV_ss, eqV_ii, flatV, List.all_cons, List.all_nil, Bool.and_true, Bool.or_false, Bool.true_and, Bool.false_or, decide_true, decide_false, Bool.true_or, Bool.false_eq_true, reduceCtorEq, spBodyIn, spBlockIn, spDesignIn, spBegins, spTaken, spIsOver, spSignalIn, spLinesInit, spInit, spDesignText, tUn, rU, *])

theorem sline_noblock (s : Sg) {r : List Str} : bgn (sline s :: r) (Str.ofString "block ") = false := by
  have e : tl (Str.ofString "block ") = [98, 108, 111, 99, 107, 32] := by decide +kernel
  have e1 : tl (Str.ofString "input") = [105, 110, 112, 117, 116] := by decide +kernel
  have e2 : tl (Str.ofString "kept") = [107, 101, 112, 116] := by decide +kernel
  have e3 : tl (Str.ofString "wire") = [119, 105, 114, 101] := by decide +kernel
  have e4 : tl (Str.ofString "filter") = [102, 105, 108, 116, 101, 114] := by decide +kernel
  have e5 : tl (Str.ofString "bus") = [98, 117, 115] := by decide +kernel
  rw [bgn_cons]
  cases s with
  | inp n k =>
    obtain ⟨r', er⟩ : ∃ r', tl (sline (.inp n k)) = 105 :: r' := ⟨_, by simp only [sline, Sg.sort, tl_append, e1, List.append_assoc, List.cons_append, List.nil_append]; rfl⟩
    exact pre_ne (p := []) er e (by decide)
  | kept n k v =>
    obtain ⟨r', er⟩ : ∃ r', tl (sline (.kept n k v)) = 107 :: r' := ⟨_, by simp only [sline, Sg.sort, tl_append, e2, List.append_assoc, List.cons_append, List.nil_append]; rfl⟩
    exact pre_ne (p := []) er e (by decide)
  | wire n k t =>
    obtain ⟨r', er⟩ : ∃ r', tl (sline (.wire n k t)) = 119 :: r' := ⟨_, by simp only [sline, Sg.sort, tl_append, e3, List.append_assoc, List.cons_append, List.nil_append]; rfl⟩
    exact pre_ne (p := []) er e (by decide)
  | filt n k t =>
    obtain ⟨r', er⟩ : ∃ r', tl (sline (.filt n k t)) = 102 :: r' := ⟨_, by simp only [sline, Sg.sort, tl_append, e4, List.append_assoc, List.cons_append, List.nil_append]; rfl⟩
    exact pre_ne (p := []) er e (by decide)
  | bus n k ds =>
    obtain ⟨r', er⟩ : ∃ r', tl (sline (.bus n k ds)) = [98] ++ 117 :: r' := ⟨_, by simp only [sline, Sg.sort, tl_append, e5, List.append_assoc, List.cons_append, List.nil_append]; rfl⟩
    exact pre_ne (p := [98]) er e (by decide)
theorem khead_block (b : Bk) {r : List Str} : bgn (khead b :: r) (Str.ofString "block ") = true := by
  rw [bgn_cons]
  exact pre_yes (r := tl b.name ++ (tl (Str.ofString " ") ++ (tl b.edge ++ (tl (Str.ofString " ") ++ tl b.trig)))) (by simp only [khead, tl_append, List.append_assoc])
section
variable {P : Program} {w : World} {K : PySem.W.Frag} {mg : Str → Option Value} {base : Heap} {k : Nat} {C CL CD : Addr}
theorem ok_block_in (T : TX K mg) (kL : KCls K mg "Lines" C) (D : DF K mg "block_in" s_block_in ["lines"] []) (G_body_in : FO P w K mg base "body_in" k ["lines", "ahead"] [] (spBodyIn C 4)) (G_taken : FM P w K mg base C "taken" k ["self"] [] (spTaken C)) :
    FO P w K mg base "block_in" (k + 1) ["lines"] [] (spBlockIn C) := by
  refine D.ok sc_block_in (fun vs H Q E h => ?_) (fun fa cdv A outer s H vs Q E hr h => ?_)
  · obtain ⟨_, _, _, _, _, _, _, rfl, _⟩ := h
    rfl
  obtain ⟨sg, bl, f, b, x, l, tail, rfl, hv, hok, hLN, hasc, htl, q⟩ := h
  obtain ⟨⟨dx, hx⟩, hl⟩ := id hLN
  refine ⟨_, (pss_cons (ps_asg (pe_splitD (pe_mo0 kL.c G_taken hr (pv 0)) pe_str) (pg_str1 rfl (pgs_cons (pg_name (i := 1) sc_block_in.nd rfl (Or.inl rfl)) (pgs_cons (pg_name (i := 2) sc_block_in.nd rfl (Or.inl rfl)) pgs_nil))))
    (pss_cons (ps_if (PW.pt (pw_or (pt_cmpR op_ne (pv 1) pe_str (nomark _)) (pw_or1 (pt_cmpR op_ne (pe_callB call_lenL rfl T.len PySem.boot_len (pa_cons (pv 2) pa_nil)) pe_int (nomark _)))))
      (pss_one ps_never)
      pss_nil)
    (pss_one (ps_ret (pe_op op_catTD (pe_callTy call_tupleD rfl T.tuple (by decide +kernel) (pa_cons (pv 2) pa_nil)) (pe_tupD (pa_cons (pe_fo G_body_in hr (pa_cons (pv 0) (pa_cons (pe_gv T.c_STEP) pa_nil))) pa_nil))))))), ?_⟩
  refine seq_i fun M hM => ?_
  have hsep : tl (Str.ofString " ") = 32 :: [] := by decide +kernel
  have hne : Str.ofString " " ≠ Str.empty := by decide +kernel
  have hkh : khead b = Txt.join (Str.ofString " ") [Str.ofString "block", b.name, b.edge, b.trig] := by
    have e : tl (Str.ofString "block ") = tl (Str.ofString "block") ++ [32] := by decide +kernel
    rw [join_eq]
    refine ext_tl ?_
    simp only [khead, tl_append, tl_join, List.map_cons, List.map_nil, joinL, e, hsep, List.append_assoc]
  have htr : NameOk b.trig := by
    obtain ⟨s, hs, e, _⟩ := hok.tr
    rw [← e]
    exact (hv.nm s hs).1
  have hsp : Txt.split (khead b) (Str.ofString " ") = [Str.ofString "block", b.name, b.edge, b.trig] := by
    rw [hkh]
    refine split_join hsep (by decide +kernel) (by simp) fun p hp => ?_
    simp only [List.mem_cons, List.not_mem_nil, or_false] at hp
    rcases hp with rfl | rfl | rfl | rfl
    · decide +kernel
    · exact (name_free hok.nm).1
    · rcases hok.ed with e | e <;> rw [e] <;> decide +kernel
    · exact (name_free htr).1
  obtain ⟨kl1, kl2, kl3⟩ := klines_len hv hok
  walk_at "rd"
  refine ⟨dx, _, hx, lk_taken, l, khead b, blines ("  " : Str) b.body ++ tail, hLN, fun H1 b1 hLN1 => ⟨hne, by omega, fun p H2 hp s2 hl2 => ?_⟩⟩
  rw [hsp] at hl2
  refine ⟨.str (Str.ofString "block"), [.str b.name, .str b.edge, .str b.trig], .inr hl2, fun p3 H3 hp3 s3 hl3 => ?_⟩
  subst hM
  refine seq_i fun M hM => ?_
  walk_at "ra"
  subst hM
  walk_at "ra"
  intro p4 H4 hp4 s4 hl4
  have hdp := hok.dp
  have hwt := hok.wt
  have hLN4 : LN C H4 x l (blines (spc 2) b.body ++ tail) := by
    rw [← spc_two]
    exact ((hLN1.same s2).same s3).same s4
  have easc : Asc (blines (spc 2) b.body ++ tail) := fun y hy => hasc y (List.mem_cons_of_mem _ (by rw [← spc_two] at hy; exact hy))
  refine ⟨GW sg, GK sg, f, b.body, l, 2, spc_two, hok.bd, hv.rng, hv.kp, hdp, by omega, by omega, tail, hLN4, easc, htl, fun v H5 b5 hLN5 r5 p6 H6 hp6 s6 hl6 => ?_⟩
  have h45 := b5 _ _ (ne_of hl4 hLN4.2 (by intro z; cases z)) hl4
  refine ⟨_, s6 _ _ h45, _, hl6, by simp, by simp, by simp, fun p7 H7 hp7 s7 hl7 => ?_⟩
  exact q _ _ (((b1.same ((s2.trans s3).trans s4)).trans b5).same (s6.trans s7)) (hLN5.same (s6.trans s7)) ⟨p7, v, rfl, hl7, RB.tk (same_tk (s6.trans s7)) r5⟩
theorem ok_design_in (T : TX K mg) (kL : KCls K mg "Lines" CL) (kD : KCls K mg "Design" CD) (D : DF K mg "design_in" s_design_in ["lines"] []) (G_block_in : FO P w K mg base "block_in" k ["lines"] [] (spBlockIn CL)) (G_signal_in : FO P w K mg base "signal_in" k ["line"] [] spSignalIn)
    (G_is_over : FM P w K mg base CL "is_over" k ["self"] [] (spIsOver CL)) (G_begins : FM P w K mg base CL "begins" k ["self", "text"] [] (spBegins CL)) (G_taken : FM P w K mg base CL "taken" k ["self"] [] (spTaken CL)) {dvs : List V} (M_Design : FC P w K mg base CD k ["self", "signals", "blocks"] [] (spInit CD)) :
    FO P w K mg base "design_in" (k + 1) ["lines"] [] (spDesignIn CL CD) := by
  refine D.ok sc_design_in (fun vs H Q E h => ?_) (fun fa cdv A outer s H vs Q E hr h => ?_)
  · obtain ⟨_, _, _, _, rfl, _⟩ := h
    rfl
  obtain ⟨sg, bl, x, l, rfl, hv, hLN, hasc, q⟩ := h
  have hls := hv.ls
  refine ⟨_, (pss_cons (ps_set (i := 1) sc_design_in.nd rfl (Or.inl rfl) (pe_lstD pa_nil))
    (pss_cons (ps_while PassesOwn.never (PW.pt (pw_and (pt_not (pt_val (pe_mo0 kL.c G_is_over hr (pv 0)))) (pw_and1 (pt_not (pt_val (pe_mo kL.c G_begins hr (pv 0) (pa_cons pe_str pa_nil)))))))
      (pss_one (ps_expr (pe_bmL PySem.F.slot_list_append PySem.F.type_list_append mt_appD (pv 1) (pa_cons (pe_fo G_signal_in hr (pa_cons (pe_mo0 kL.c G_taken hr (pv 0)) pa_nil)) pa_nil)))))
    (pss_cons (ps_set (i := 2) sc_design_in.nd rfl (Or.inl rfl) (pe_lstD pa_nil))
    (pss_cons (ps_while PassesOwn.never (pt_not (pt_val (pe_mo0 kL.c G_is_over hr (pv 0))))
      (pss_one (ps_expr (pe_bmL PySem.F.slot_list_append PySem.F.type_list_append mt_appD (pv 2) (pa_cons (pe_fo G_block_in hr (pa_cons (pv 0) pa_nil)) pa_nil)))))
    (pss_one (ps_ret (pe_mkD kD M_Design hr (pa_cons (pv 1) (pa_cons (pv 2) pa_nil))))))))), ?_⟩
  refine seq_i fun M hM => ?_
  walk_at "rd"
  intro pf H1 hpf s1 hl1
  have hLN1 := hLN.same s1
  have hne : l ≠ pf := fun z => by have := hLN.2; rw [z, hpf] at this; cases this
  have hxne : x ≠ pf := fun z => by obtain ⟨dx0, hx0⟩ := hLN.1; rw [z, hpf] at hx0; cases hx0
  subst hM
  refine seq_i fun M hM => ?_
  have hdl : dlines sg bl = (sg.drop 0).map sline ++ bl.flatMap klines := rfl
  obtain ⟨Pv, hPi, hPo⟩ : ∃ Pv : Nat → St → Hp → Prop, (∀ (i : Nat) (H3 : Hp) (vs : List V), i ≤ sg.length → But l H H3 → LN CL H3 x l ((sg.drop i).map sline ++ bl.flatMap klines) → H3 pf = some (.lst vs) → All2 (RS H3) (sg.take i) vs → Pv (sg.length - i) [some (V.ref x), some (V.ref pf), none] H3) ∧
      ∀ (j : Nat) (σ : St) (H3 : Hp), Pv j σ H3 → ∃ (i : Nat) (vs : List V), j = sg.length - i ∧ σ = [some (V.ref x), some (V.ref pf), none] ∧ i ≤ sg.length ∧ But l H H3 ∧ LN CL H3 x l ((sg.drop i).map sline ++ bl.flatMap klines) ∧ H3 pf = some (.lst vs) ∧ All2 (RS H3) (sg.take i) vs :=
    ⟨fun j σ H3 => ∃ (i : Nat) (vs : List V), j = sg.length - i ∧ σ = [some (V.ref x), some (V.ref pf), none] ∧ i ≤ sg.length ∧ But l H H3 ∧ LN CL H3 x l ((sg.drop i).map sline ++ bl.flatMap klines) ∧ H3 pf = some (.lst vs) ∧ All2 (RS H3) (sg.take i) vs,
      fun i H3 vs h1 h2 h3 h4 h5 => ⟨i, vs, rfl, rfl, h1, h2, h3, h4, h5⟩, fun _ _ _ z => z⟩
  refine ⟨Pv, ⟨sg.length, hPi 0 H1 [] (Nat.zero_le _) (But.of s1) hLN1 hl1 .nil⟩, fun j σ H3 z => ?_⟩
  obtain ⟨i, vs, rfl, rfl, hi, b3, hLN3, hp3, hal⟩ := hPo _ _ _ z
  clear z
  obtain ⟨⟨dx, hx3⟩, hl3⟩ := id hLN3
  have hasc3 : Asc ((sg.drop i).map sline ++ bl.flatMap klines) := fun y hy => hasc y (by
    rcases List.mem_append.mp hy with hy | hy
    · obtain ⟨s, hs, rfl⟩ := List.mem_map.mp hy
      exact List.mem_append_left _ (List.mem_map_of_mem (List.mem_of_mem_drop hs))
    · exact List.mem_append_right _ hy)
  have after : i = sg.length → ∀ H4, Same H3 H4 → M [some (V.ref x), some (V.ref pf), none] H4 := fun hie H4 s4 => by
    subst hie
    rw [List.take_length] at hal
    rw [List.drop_length, List.map_nil, List.nil_append] at hLN3 hasc3
    subst hM
    refine seq_i fun M hM => ?_
    walk_at "rd"
    intro pb H5 hpb s5 hl5
    have s35 := s4.trans s5
    have hpf5 := s35 _ _ hp3
    have hLN5 := hLN3.same s35
    have nb1 : l ≠ pb := fun z => by have := s4 _ _ hLN3.2; rw [z, hpb] at this; cases this
    have nb2 : pf ≠ pb := fun z => by have := s4 _ _ hp3; rw [z, hpb] at this; cases this
    have nb3 : x ≠ pb := fun z => by obtain ⟨dx0, hx0⟩ := hLN3.1; have := s4 _ _ hx0; rw [z, hpb] at this; cases this
    have b5 : But l H H5 := b3.same s35
    have al5 : All2 (RS H5) sg vs := all2_mono (fun _ _ z => RS.tk (same_tk s35) z) hal
    subst hM
    refine seq_i fun M hM => ?_
    obtain ⟨Pw, hQi, hQo⟩ : ∃ Pw : Nat → St → Hp → Prop, (∀ (i : Nat) (H6 : Hp) (ws : List V), i ≤ bl.length → But l H H6 → LN CL H6 x l ((bl.drop i).flatMap klines) → H6 pf = some (.lst vs) → All2 (RS H6) sg vs → H6 pb = some (.lst ws) → All2 (RK H6) (bl.take i) ws → Pw (bl.length - i) [some (V.ref x), some (V.ref pf), some (V.ref pb)] H6) ∧
        ∀ (j : Nat) (σ : St) (H6 : Hp), Pw j σ H6 → ∃ (i : Nat) (ws : List V), j = bl.length - i ∧ σ = [some (V.ref x), some (V.ref pf), some (V.ref pb)] ∧ i ≤ bl.length ∧ But l H H6 ∧ LN CL H6 x l ((bl.drop i).flatMap klines) ∧ H6 pf = some (.lst vs) ∧ All2 (RS H6) sg vs ∧ H6 pb = some (.lst ws) ∧ All2 (RK H6) (bl.take i) ws :=
      ⟨fun j σ H6 => ∃ (i : Nat) (ws : List V), j = bl.length - i ∧ σ = [some (V.ref x), some (V.ref pf), some (V.ref pb)] ∧ i ≤ bl.length ∧ But l H H6 ∧ LN CL H6 x l ((bl.drop i).flatMap klines) ∧ H6 pf = some (.lst vs) ∧ All2 (RS H6) sg vs ∧ H6 pb = some (.lst ws) ∧ All2 (RK H6) (bl.take i) ws, fun i H6 ws h1 h2 h3 h4 h5 h6 h7 => ⟨i, ws, rfl, rfl, h1, h2, h3, h4, h5, h6, h7⟩, fun _ _ _ z => z⟩
    refine ⟨Pw, ⟨bl.length, hQi 0 H5 [] (Nat.zero_le _) b5 hLN5 hpf5 al5 hl5 .nil⟩, fun j σ H6 z => ?_⟩
    obtain ⟨i, ws, rfl, rfl, hi, b6, hLN6, hpf6, al6, hpb6, bl6⟩ := hQo _ _ _ z
    clear z
    obtain ⟨⟨dx6, hx6⟩, hl6⟩ := id hLN6
    have hasc6 : Asc ((bl.drop i).flatMap klines) := fun y hy => hasc y (by
      obtain ⟨b, hb, hy⟩ := List.mem_flatMap.mp hy
      exact List.mem_append_right _ (List.mem_flatMap.mpr ⟨b, List.mem_of_mem_drop hb, hy⟩))
    walk_at "rd"
    refine ⟨dx6, _, hx6, lk_over, l, _, hLN6, hasc6, fun H7 s7 => ?_⟩
    by_cases hlt : i < bl.length
    · have eLS : (bl.drop i).flatMap klines = klines bl[i] ++ (bl.drop (i + 1)).flatMap klines := by
        rw [List.drop_eq_getElem_cons hlt, List.flatMap_cons]
      rw [eLS] at hLN6 hasc6 ⊢
      rw [show (klines bl[i] ++ (bl.drop (i + 1)).flatMap klines).isEmpty = false from rfl, if_pos rfl]
      refine ⟨fun σ' H' => ∃ m', m' < bl.length - i ∧ Pw m' σ' H', fun σ' H' z => z, ⟨_, s7 _ _ hpb6⟩, ?_⟩
      have hpb0 : H pb = none := by
        cases e : H pb with
        | none => rfl
        | some o => have z := s4 _ _ (b3 _ _ (Ne.symm nb1) e); rw [hpb] at z; cases z
      have htle : Tle 2 ((bl.drop (i + 1)).flatMap klines) := by
        cases e : bl.drop (i + 1) with
        | nil => exact .inl rfl
        | cons b2 br =>
          have eb : tl (Str.ofString "block ") = 98 :: [108, 111, 99, 107, 32] := by decide +kernel
          refine .inr ⟨khead b2, _, 0, 98, rfl, ⟨by decide, ?_⟩, .inl (by decide)⟩
          simp only [khead, tl_append, eb, List.append_assoc, List.cons_append, List.replicate_zero, List.nil_append]
          exact ⟨_, rfl⟩
      have hpb7 := s7 _ _ hpb6
      have hwl := all2_len bl6
      rw [List.length_take] at hwl
      have hlb := hv.lb
      obtain ⟨f, hbk⟩ := hv.bk
      refine ⟨sg, bl, hv, f, bl[i], hbk _ (List.getElem_mem hlt), l, _, hLN6.same s7, hasc6, htle, fun v H8 b8 hLN8 r8 => ?_⟩
      have hpb8 := b8 _ _ (Ne.symm nb1) hpb7
      have k68 : Tk H6 H8 := (same_tk s7).trans (b8.tk (s7 _ _ hl6))
      refine ⟨_, hpb8, by omega, fun H9 b9 hp9 => ⟨bl.length - (i + 1), by omega, hQi (i + 1) H9 (ws ++ [v]) (by omega) (but_fresh ((b6.same s7).trans b8) hpb0 b9) ⟨let ⟨dx, h⟩ := hLN8.1; ⟨dx, b9 _ _ nb3 h⟩, b9 _ _ nb1 hLN8.2⟩ (b9 _ _ nb2 (b8 _ _ (Ne.symm hne) (s7 _ _ hpf6))) (all2_mono (fun _ _ z => RS.tk (k68.trans (b9.tk hpb8)) z) al6) hp9 ?_⟩⟩
      rw [take_snoc (List.getElem?_eq_getElem hlt)]
      exact all2_snoc (all2_mono (fun _ _ z => RK.tk (k68.trans (b9.tk hpb8)) z) bl6) (RK.tk (b9.tk hpb8) r8)
    · have hie : i = bl.length := by omega
      subst hie
      rw [List.drop_length, List.flatMap_nil, if_neg (by decide)]
      rw [List.take_length] at bl6
      subst hM
      walk_at "rd"
      rintro y H8 hy s8 ⟨dxy, hdy⟩
      have s78 := s7.trans s8
      refine ⟨sg, bl, dxy, hdy, ⟨vs, s78 _ _ hpf6, all2_mono (fun _ _ z => RS.tk (same_tk s78) z) al6⟩, ⟨ws, s78 _ _ hpb6, all2_mono (fun _ _ z => RK.tk (same_tk s78) z) bl6⟩, hv, fun H9 b9 hds => q _ _ ?_ hds⟩
      intro c o hc hco
      have h7 := s7 _ _ (b6 _ _ hc hco)
      exact b9 _ _ (fun z => by rw [z, hy] at h7; cases h7) (s8 _ _ h7)
  walk_at "rd"
  refine ⟨dx, _, hx3, lk_over, l, _, hLN3, hasc3, fun H4 s4 => ?_⟩
  by_cases hlt : i < sg.length
  · have eLS : (sg.drop i).map sline ++ bl.flatMap klines = sline sg[i] :: ((sg.drop (i + 1)).map sline ++ bl.flatMap klines) := by
      rw [List.drop_eq_getElem_cons hlt, List.map_cons, List.cons_append]
    rw [eLS] at hLN3 hasc3 ⊢
    rw [List.isEmpty_cons, if_pos rfl]
    have hLN4 := hLN3.same s4
    refine ⟨dx, _, s4 _ _ hx3, lk_begins, l, _, hLN4, hasc3, fun H5 s5 => ?_⟩
    rw [sline_noblock, if_pos rfl]
    refine ⟨fun σ' H' => ∃ m', m' < sg.length - i ∧ Pv m' σ' H', fun σ' H' z => z, ?_⟩
    have hp5 := s5 _ _ (s4 _ _ hp3)
    have hvl := all2_len hal
    rw [List.length_take] at hvl
    refine ⟨⟨_, hp5⟩, dx, _, s5 _ _ (s4 _ _ hx3), lk_taken, l, _, _, hLN4.same s5, fun H6 b6 hLN6 => ⟨sg, bl, sg[i], rfl, hv, List.getElem_mem hlt, fun v H7 s7 r7 => ?_⟩⟩
    have hp7 := s7 _ _ (b6 _ _ (Ne.symm hne) hp5)
    have hLN7 := hLN6.same s7
    refine ⟨_, hp7, by omega, fun H8 b8 hp8 => ⟨sg.length - (i + 1), by omega, hPi (i + 1) H8 (vs ++ [v]) (by omega) (but_fresh (((b3.same (s4.trans s5)).trans b6).same s7) hpf b8) ⟨let ⟨dx, h⟩ := hLN7.1; ⟨dx, b8 _ _ hxne h⟩, b8 _ _ hne hLN7.2⟩ hp8 ?_⟩⟩
    rw [take_snoc (List.getElem?_eq_getElem hlt)]
    have k38 : Tk H3 H8 := (((same_tk (s4.trans s5)).trans (b6.tk (s5 _ _ (s4 _ _ hl3)))).trans (same_tk s7)).trans (b8.tk hp7)
    exact all2_snoc (all2_mono (fun _ _ z => RS.tk k38 z) hal) (RS.tk (b8.tk hp7) r7)
  · have hie : i = sg.length := by omega
    have eLS : (sg.drop i).map sline ++ bl.flatMap klines = bl.flatMap klines := by rw [hie, List.drop_length, List.map_nil, List.nil_append]
    rw [eLS] at hLN3 hasc3 ⊢
    cases bl with
    | nil =>
      rw [if_neg (by decide)]
      exact after hie H4 s4
    | cons b0 br =>
      have ek : (b0 :: br).flatMap klines = khead b0 :: (blines ("  " : Str) b0.body ++ br.flatMap klines) := rfl
      rw [ek] at hLN3 hasc3 ⊢
      rw [List.isEmpty_cons, if_pos rfl]
      refine ⟨dx, _, s4 _ _ hx3, lk_begins, l, _, hLN3.same s4, hasc3, fun H5 s5 => ?_⟩
      rw [khead_block, if_neg (by decide)]
      exact after hie H5 (s4.trans s5)
theorem ok_read_design (T : TX K mg) (kL : KCls K mg "Lines" CL) (kD : KCls K mg "Design" CD) (D : DF K mg "read_design" s_read_design ["text"] []) (G_design_in : FO P w K mg base "design_in" k ["lines"] [] (spDesignIn CL CD)) (G_design_text : FO P w K mg base "design_text" k ["design"] [] (spDesignText CD)) (M_Lines : FC P w K mg base CL k ["self", "rows"] [] (spLinesInit CL)) :
    FO P w K mg base "read_design" (k + 1) ["text"] [] (spReadDesign CD) := by
  refine D.ok sc_read_design (fun vs H Q E h => ?_) (fun fa cdv A outer s H vs Q E hr h => ?_)
  · obtain ⟨_, _, rfl, _⟩ := h
    rfl
  obtain ⟨sg, bl, rfl, hv, q⟩ := h
  refine ⟨_, (pss_cons (ps_if (pt_not (pt_val (pe_callB (call_is (n := "str") (m := "str") (b := true) rfl) rfl T.isinstance (by decide +kernel) (pa_cons (pv 0) (pa_cons (pe_bltn (v := .ty "str") rfl T.str (by decide +kernel) rfl) pa_nil)))))
      (pss_one ps_never)
      pss_nil)
    (pss_cons (ps_asg (pe_splitD (pv 0) pe_str) (pg_str0 rfl (pgs_cons (pg_name (i := 4) sc_read_design.nd rfl (Or.inl rfl)) (pgs_cons (pg_name (i := 2) sc_read_design.nd rfl (Or.inl rfl)) pgs_nil))))
    (pss_cons (ps_try_thru0 (pss_one (ps_set (i := 3) sc_read_design.nd rfl (Or.inl rfl) (pe_fo G_design_in hr (pa_cons (pe_mkD kL M_Lines hr (pa_cons (pv 4) pa_nil)) pa_nil)))))
    (pss_cons (ps_if (PW.pt (pw_or (pt_cmpR op_ne (pv 2) pe_str (nomark _)) (pw_or1 (pt_cmpR op_ne (pe_fo G_design_text hr (pa_cons (pv 3) pa_nil)) (pv 0) (nomark _)))))
      (pss_one ps_never)
      pss_nil)
    (pss_one (ps_ret (pv 3))))))), ?_⟩
  refine seq_i fun M hM => ?_
  walk_at "rd"
  subst hM
  refine seq_i fun M hM => ?_
  walk_at "rd"
  refine ⟨by decide +kernel, dtext_len hv, fun p1 H1 hp1 s1 hl1 => ?_⟩
  rw [dtext_split hv, List.map_append] at hl1
  refine ⟨.str Str.empty, (dlines sg bl).map V.str, .inr hl1, fun p2 H2 hp2 s2 hl2 => ?_⟩
  subst hM
  refine seq_i fun M hM => ?_
  walk_at "rd"
  rintro x H3 hx3 s3 ⟨dx, hx⟩
  refine ⟨dlines sg bl, dx, hx, s3 _ _ hl2, fun l H4 hl4 hlx b4 hLN => ⟨sg, bl, hv, l, hLN, dlines_asc hv, fun y H5 b5 hds => ?_⟩⟩
  have s05 : Same H H5 := fun c o q => by
    have h2 := s2 _ _ (s1 _ _ q)
    have h3 := s3 _ _ h2
    exact b5 _ _ (fun z => by rw [z, hl4] at h3; cases h3) (b4 _ _ (fun z => by rw [z, hx3] at h2; cases h2) h3)
  subst hM
  refine seq_i fun M hM => ?_
  walk_at "rd"
  rw [if_neg (fun z => z (by decide +kernel))]
  refine ⟨sg, bl, hds, hv, fun H6 s6 => ?_⟩
  rw [if_neg (fun z => z rfl)]
  subst hM
  walk_at "rd"
  exact q y H6 (s05.trans s6) (hds.same s6)
end
end K37
set_option maxHeartbeats 4000000
namespace K37
open PySem L2 TL
open PyProof.Rows hiding St
theorem sc__law_pot : FnScope ["_law_script", "_law_k", "_law_cell", "_law_seed"] ["_law_script", "_law_k"] (defScope s__law_pot) := ⟨rfl, rfl, rfl, by decide +kernel, rfl, by decide +kernel, by decide +kernel⟩

theorem sc__law_digit : FnScope ["_law_pot_here", "_law_many", "_law_spread", "_law_digit_here"] ["_law_pot_here", "_law_many"] (defScope s__law_digit) := ⟨rfl, rfl, rfl, by decide +kernel, rfl, by decide +kernel, by decide +kernel⟩

theorem sc__law_value : FnScope ["_law_pot_here", "_law_width_here", "_law_signs", "_law_k"] ["_law_pot_here", "_law_width_here", "_law_signs"] (defScope s__law_value) := ⟨rfl, rfl, rfl, by decide +kernel, rfl, by decide +kernel, by decide +kernel⟩

theorem sc__law_width : FnScope ["_law_pot_here"] ["_law_pot_here"] (defScope s__law_width) := ⟨rfl, rfl, rfl, by decide +kernel, rfl, by decide +kernel, by decide +kernel⟩

def spLPot (K : PySem.W.Frag) : Sp := fun vs H Q _ => ∃ (a : Addr) (ns : List Int) (k : Int), vs = [.ref a, .int k] ∧ SqL K H a (ns.map V.int) ∧ 0 ≤ k ∧ k ≤ 100 ∧ ∀ p H', H p = none → Same H H' → Pot H' p 0 → Q (.ref p) H'
def spDigit : Sp := fun vs H Q _ => ∃ (p : Addr) (m : Int) (n : Nat), vs = [.ref p, .int m] ∧ Pot H p n ∧ n ≤ 1000000000 ∧ 1 ≤ m ∧ m ≤ 1000000 ∧ ∀ (d : Nat) H', (d : Int) < m → But p H H' → Pot H' p (n + 1) → Q (.int (d : Int)) H'
def spLWidth : Sp := fun vs H Q _ => ∃ (p : Addr) (n : Nat), vs = [.ref p] ∧ Pot H p n ∧ n ≤ 999000000 ∧ ∀ (k : Nat) H', 1 ≤ k → k ≤ 8 → But p H H' → Pot H' p (n + 2) → Q (.int (k : Int)) H'
def spLValue : Sp := fun vs H Q _ => ∃ (p : Addr) (k n : Nat), vs = [.ref p, .int (k : Int), .str "01x"] ∧ Pot H p n ∧ n ≤ 999000000 ∧ 1 ≤ k ∧ k ≤ 8 ∧ ∀ v H', ValOk v k → But p H H' → Pot H' p (n + 8) → Q (.str v) H'
local macro_rules | `(tactic| walk_at "rd") => `(tactic| simp only [tYes, wipe, HO.lst.injEq, HO.tup.injEq, HO.dK.injEq, Nat.reduceAdd, Nat.reduceLeDiff, Nat.reduceSub, Int.reduceLE, Int.reduceLT, Int.reduceNeg, Nat.zero_add, Int.reduceEq, cut_head, cut_tail, cut_mid, cut_three, c_cast0, c_cast1, c_cast2, c_cast3, c_cast4, z_lit, List.getD_eq_getElem?_getD, Option.getD_some, tLc_eq, tFor_eq, cxOf, Cx.nox, Cx.wish, tSeq, tIfS, tOr, tAnd, tNot, tB, tCB, tCons, tVar, tC, tNil, tTest, tChain, rI0, rI, tOp, rIxS, rIxL, rIxT, tRet, tNext, tAsg, gName, tAndV, tOrV, tNotV, tIf, tIsN, tNotN, tCall, tDrop, tBM, tBM0, rEq, rNe, tRetN, tSl, tNoPart, tPart, tTupD, tLstD, tInD, rIsK, rLenS, rLenL, rLenT, rAllT, rAnyF, rInK, rInL, rSlLD, rSlTD, rSlS, rCatD, rCatTD, rAppD, rExtD, rPopD, rPopAtD, rListD, rTupleD, iLst, iTpl, iStr, rIxLH, rIxTH, gTupH, gLstH, gStar0, gStar1, gStar2, rSumH, rAddS2, tJoinS, tFmtS, tFmtI, tJoined, tJoined_nil, tJoined_cons, rIsG, app_empty, tFldD, sFldD, tMkD, tMoD, rIsC, rLenO, rEqO, HO.ins.injEq, exists_eq, tNilL, tML, tML0, tMS, iEnumH, tCallK, rStrI, tGetS, tGet1S, tGet2S, rListKD, tDc_eq, tLc2_eq, tKGet, gCons, gNil, tChain3, tPartD, tSplitD, tPar, New, Chg, rListTD, atI_0, atI_1, atI_2, atI_3, sign_inj, and_false, false_and, or_false, false_or, or_true, true_or, List.take_succ_cons, List.take_zero, List.drop_succ_cons, List.drop_zero, forall_const, exists_false, not_false_eq_true, not_true_eq_false, if_true, if_false, iRng1, KindV,
  L2.start, List.map_cons, List.map_nil, List.length_cons, List.length_nil, List.replicate, List.cons_append, List.nil_append, List.append_nil, List.set_cons_zero, List.set_cons_succ, List.getElem?_cons_zero, List.getElem?_cons_succ, Option.some.injEq, exists_eq_left', exists_eq_left, V.int.injEq, V.str.injEq, V.bl.injEq, V.ref.injEq, V.ty.injEq, true_and, and_true, List.cons.injEq, exists_and_left, exists_eq', and_assoc, scal, ofString_inj, String.reduceEq, reduceIte, decide_eq_true_eq, decide_eq_false_iff_not, Bool.not_true, Bool.not_false, Bool.not_eq_true', inV_cons, inV_nil, eqV_ss, eqV_ii, flatV, List.all_cons, List.all_nil, Bool.and_true, Bool.or_false, Bool.true_and, Bool.false_or, decide_true, decide_false, Bool.true_or, Bool.false_eq_true, reduceCtorEq, spLPot, spDigit, spLWidth, spLValue, gSub, rSetLD, rLenQ, CMul, CDiv, CPow])
local macro_rules | `(tactic| walk_at "ra") => `(tactic| simp only [tYes, wipe, HO.lst.injEq, HO.tup.injEq, HO.dK.injEq, Nat.reduceAdd, Nat.reduceLeDiff, Nat.reduceSub, Int.reduceLE, Int.reduceLT, Int.reduceNeg, Nat.zero_add, Int.reduceEq, cut_head, cut_tail, cut_mid, cut_three, c_cast0, c_cast1, c_cast2, c_cast3, c_cast4, z_lit, List.getD_eq_getElem?_getD, Option.getD_some, tLc_eq, tFor_eq, cxOf, Cx.nox, Cx.wish, tSeq, tIfS, tOr, tAnd, tNot, tB, tCB, tCons, tVar, tC, tNil, tTest, tChain, rI0, rI, tOp, rIxS, rIxL, rIxT, tRet, tNext, tAsg, gName, tAndV, tOrV, tNotV, tIf, tIsN, tNotN, tCall, tDrop, tBM, tBM0, rEq, rNe, tRetN, tSl, tNoPart, tPart, tTupD, tLstD, tInD, rIsK, rLenS, rLenL, rLenT, rAllT, rAnyF, rInK, rInL, rSlLD, rSlTD, rSlS, rCatD, rCatTD, rAppD, rExtD, rPopD, rPopAtD, rListD, rTupleD, iLst, iTpl, iStr, rIxLH, rIxTH, gTupH, gLstH, gStar0, gStar1, gStar2, rSumH, rAddS2, tJoinS, tFmtS, tFmtI, tJoined, tJoined_nil, tJoined_cons, rIsG, app_empty, tFldD, sFldD, tMkD, tMoD, rIsC, rLenO, rEqO, HO.ins.injEq, exists_eq, tNilL, tML, tML0, tMS, iEnumH, tCallK, rStrI, tGetS, tGet1S, tGet2S, rListKD, tDc_eq, tLc2_eq, tKGet, gCons, gNil, tChain3, tPartD, tSplitD, tPar, New, Chg, rListTD, atI_0, atI_1, atI_2, atI_3, sign_inj, and_false, false_and, or_false, false_or, or_true, true_or, List.take_succ_cons, List.take_zero, List.drop_succ_cons, List.drop_zero, forall_const, exists_false, not_false_eq_true, not_true_eq_false, if_true, if_false, iRng1, KindV,
  L2.start, List.map_cons, List.map_nil, List.length_cons, List.length_nil, List.replicate, List.cons_append, List.nil_append, List.append_nil, List.set_cons_zero, List.set_cons_succ, List.getElem?_cons_zero, List.getElem?_cons_succ, Option.some.injEq, exists_eq_left', exists_eq_left, V.int.injEq, V.str.injEq, V.bl.injEq, V.ref.injEq, V.ty.injEq, true_and, and_true, List.cons.injEq, exists_and_left, exists_eq', and_assoc, scal, ofString_inj, String.reduceEq, reduceIte, decide_eq_true_eq, decide_eq_false_iff_not, Bool.not_true, Bool.not_false, Bool.not_eq_true', inV_cons, inV_nil, eqV_ss, eqV_ii, flatV, List.all_cons, List.all_nil, Bool.and_true, Bool.or_false, Bool.true_and, Bool.false_or, decide_true, decide_false, Bool.true_or, Bool.false_eq_true, reduceCtorEq, spLPot, spDigit, spLWidth, spLValue, gSub, rSetLD, rLenQ, CMul, CDiv, CPow, *])

section
variable {P : Program} {w : World} {K : PySem.W.Frag} {mg : Str → Option Value} {base : Heap} {k : Nat}
theorem ok_law_pot (T : TX K mg) (D : DF K mg "_law_pot" s__law_pot ["_law_script", "_law_k"] []) : FO P w K mg base "_law_pot" (k + 1) ["_law_script", "_law_k"] [] (spLPot K) := by
  refine D.ok sc__law_pot (fun vs H Q E h => ?_) (fun fa cdv A outer s H vs Q E hr h => ?_)
  · obtain ⟨_, _, _, rfl, _⟩ := h
    rfl
  obtain ⟨a, ns, kk, rfl, hS, hk0, hk1, q⟩ := h
  refine ⟨_, (pss_cons (ps_set (i := 2) sc__law_pot.nd rfl (Or.inl rfl) pe_int)
    (pss_cons (ps_if (pt_cmpR op_lt (pv 1) (pe_callB call_lenQ rfl T.len PySem.boot_len (pa_cons (pv 0) pa_nil)) (nomark _))
      (pss_one (ps_set (i := 2) sc__law_pot.nd rfl (Or.inl rfl) (pe_ix ix_list (pv 0) (pv 1) (fun _ _ => rfl))))
      pss_nil)
    (pss_cons (ps_set (i := 3) sc__law_pot.nd rfl (Or.inl rfl) (pe_op op_mod (pe_op op_add (pe_op op_add (pe_op op_mul (pe_op op_mod (pv 2) pe_int) pe_int) (pe_op op_mul (pe_op op_mul pe_int (pv 1)) (pv 1))) pe_int) pe_int))
    (pss_one (ps_ret (pe_lstD (pa_cons (pe_callB (call_max2 rfl) rfl T.max (by decide +kernel) (pa_cons pe_int (pa_cons (pe_op op_sub (pv 2) (pe_op op_pow pe_int pe_int)) pa_nil))) (pa_cons (pv 3) (pa_cons pe_int pa_nil))))))))), ?_⟩
  walk_at "rd"
  have hten : (0 : Int) ≤ 10 ^ Int.toNat 18 := by decide
  have fin : ∀ (z : Int) (p : Addr) (H' : Hp), H p = none → Same H H' → H' p = some (HO.lst [V.int (if z - 10 ^ Int.toNat 18 > 0 then z - 10 ^ Int.toNat 18 else 0), V.int ((z % 2147483629 * 48271 + 7919 * kk * kk + 13) % 2147483647), V.int 0]) → Q (V.ref p) H' := fun z p H' hp s1 hl => by
    refine q p H' hp s1 ⟨_, _, 0, hl, ?_, Int.emod_nonneg _ (by decide), Int.emod_lt_of_pos _ (by decide), Int.le_refl _, Int.le_refl _⟩
    generalize (10 : Int) ^ Int.toNat 18 = t
    split <;> omega
  refine ⟨_, hS, ?_⟩
  by_cases hlt : kk < ((ns.map V.int).length : Int)
  · rw [if_pos hlt]
    obtain ⟨j, rfl⟩ := Int.eq_ofNat_of_zero_le hk0
    have hj : j < ns.length := by rw [List.length_map] at hlt; omega
    refine ⟨_, hS, .int ns[j], atI_nat (by simp [hj]), ns[j], rfl, .inr (by decide), .inl (by decide), .inr ⟨by omega, by omega⟩, by decide, ns[j], rfl, fin _⟩
  · rw [if_neg hlt]
    exact ⟨.inr (by decide), .inl (by decide), .inr ⟨by omega, by omega⟩, by decide, fin 0⟩
theorem ok_law_digit (T : TX K mg) (D : DF K mg "_law_digit" s__law_digit ["_law_pot_here", "_law_many"] []) : FO P w K mg base "_law_digit" (k + 1) ["_law_pot_here", "_law_many"] [] spDigit := by
  refine D.ok sc__law_digit (fun vs H Q E h => ?_) (fun fa cdv A outer s H vs Q E hr h => ?_)
  · obtain ⟨_, _, _, rfl, _⟩ := h
    rfl
  obtain ⟨p, m, n, rfl, hp, hn, hm1, hm2, q⟩ := h
  obtain ⟨a, b, c, h1, ha, hb, hb2, hc, hcn⟩ := id hp
  refine ⟨_, (pss_cons (ps_if (pt_cmpR op_gt (pe_ix ix_lst (pv 0) pe_int (fun _ _ => rfl)) pe_int (nomark _))
      (pss_cons (ps_set (i := 3) sc__law_digit.nd rfl (Or.inl rfl) (pe_op op_mod (pe_ix ix_lst (pv 0) pe_int (fun _ _ => rfl)) (pv 1)))
    (pss_cons (ps_asg (pe_op op_fdiv (pe_ix ix_lst (pv 0) pe_int (fun _ _ => rfl)) (pv 1)) (pg_sub (pv 0) pe_int set_lstD))
    (pss_one (ps_ret (pv 3)))))
      pss_nil)
    (pss_cons (ps_asg (pe_op op_add (pe_ix ix_lst (pv 0) pe_int (fun _ _ => rfl)) pe_int) (pg_sub (pv 0) pe_int set_lstD))
    (pss_cons (ps_asg (pe_op op_mod (pe_op op_add (pe_op op_add (pe_op op_mul (pe_ix ix_lst (pv 0) pe_int (fun _ _ => rfl)) pe_int) (pe_op op_mul (pe_op op_mul (pe_ix ix_lst (pv 0) pe_int (fun _ _ => rfl)) (pe_ix ix_lst (pv 0) pe_int (fun _ _ => rfl))) pe_int)) pe_int) pe_int) (pg_sub (pv 0) pe_int set_lstD))
    (pss_cons (ps_set (i := 2) sc__law_digit.nd rfl (Or.inl rfl) (pe_op op_mod (pe_op op_mul (pe_ix ix_lst (pv 0) pe_int (fun _ _ => rfl)) (pe_ix ix_lst (pv 0) pe_int (fun _ _ => rfl))) pe_int))
    (pss_one (ps_ret (pe_op op_mod (pe_op op_fdiv (pe_op op_mod (pe_op op_mul (pv 2) (pe_op op_add (pe_op op_mod (pv 2) pe_int) pe_int)) pe_int) pe_int) (pv 1)))))))), ?_⟩
  refine seq_i fun M hM => ?_
  walk_at "ra"
  by_cases h0 : 0 < a
  · rw [if_pos h0]
    refine ⟨by omega, by omega, by omega, 0, rfl, fun H1 b1 hl1 => ?_⟩
    have e1 := Int.emod_nonneg a (b := m) (by omega)
    have e2 := Int.emod_lt_of_pos a (b := m) (by omega)
    obtain ⟨d, hd⟩ := Int.eq_ofNat_of_zero_le e1
    rw [hd] at e2 ⊢
    exact q d H1 e2 b1 ⟨a / m, b, c, hl1, Int.ediv_nonneg ha (by omega), hb, hb2, hc, by omega⟩
  · rw [if_neg h0]
    subst hM
    walk_at "ra"
    refine ⟨2, rfl, fun H1 b1 hl1 => ?_⟩
    have hl1' : H1 p = some (.lst [.int a, .int b, .int (c + 1)]) := hl1
    walk_at "ra"
    refine ⟨.inr (by decide), .inl ⟨by omega, by omega⟩, .inr (by decide), 1, rfl, fun H2 b2 hl2 => ?_⟩
    have f1 := Int.emod_nonneg (b * 39373 + (c + 1) * (c + 1) * 104729 + 7) (b := 2147483647) (by decide)
    have f2 := Int.emod_lt_of_pos (b * 39373 + (c + 1) * (c + 1) * 104729 + 7) (b := 2147483647) (by decide)
    generalize (b * 39373 + (c + 1) * (c + 1) * 104729 + 7) % 2147483647 = b' at hl2 f1 f2
    have hl2' : H2 p = some (.lst [.int a, .int b', .int (c + 1)]) := hl2
    walk_at "ra"
    refine ⟨.inl ⟨by omega, by omega⟩, ?_⟩
    have g1 := Int.emod_nonneg (b' * b') (b := 2147483629) (by decide)
    have g2 := Int.emod_lt_of_pos (b' * b') (b := 2147483629) (by decide)
    generalize b' * b' % 2147483629 = s' at g1 g2 ⊢
    refine ⟨.inl ⟨by omega, by omega⟩, by omega, ?_⟩
    generalize s' * (s' % 65521 + 1) % 2147483587 / 32 = z
    have e1 := Int.emod_nonneg z (b := m) (by omega)
    have e2 := Int.emod_lt_of_pos z (b := m) (by omega)
    obtain ⟨d, hd⟩ := Int.eq_ofNat_of_zero_le e1
    rw [hd] at e2 ⊢
    exact q d H2 e2 (b1.trans b2) ⟨a, b', c + 1, hl2', ha, f1, f2, by omega, by omega⟩
theorem ok_law_width (T : TX K mg) (D : DF K mg "_law_width" s__law_width ["_law_pot_here"] []) (G__law_digit : FO P w K mg base "_law_digit" k ["_law_pot_here", "_law_many"] [] spDigit) : FO P w K mg base "_law_width" (k + 1) ["_law_pot_here"] [] spLWidth := by
  refine D.ok sc__law_width (fun vs H Q E h => ?_) (fun fa cdv A outer s H vs Q E hr h => ?_)
  · obtain ⟨_, _, rfl, _⟩ := h
    rfl
  obtain ⟨p, n, rfl, hp, hn, q⟩ := h
  refine ⟨_, (pss_one (ps_ret (pe_ix ix_lst (pe_lstD (pa_cons pe_int (pa_cons (pe_op op_add pe_int (pe_fo G__law_digit hr (pa_cons (pv 0) (pa_cons pe_int pa_nil)))) pa_nil))) (pe_fo G__law_digit hr (pa_cons (pv 0) (pa_cons pe_int pa_nil))) (fun _ _ => rfl)))), ?_⟩
  walk_at "rd"
  refine ⟨n, hp, by omega, fun d H1 hd b1 hp1 p1 H2 hq1 s1 hl1 => ⟨n + 1, hp1.same s1, by omega, fun e H3 he b3 hp3 => ?_⟩⟩
  have hne : p1 ≠ p := fun z => by obtain ⟨l, h⟩ := hp1.lst; rw [← z, hq1] at h; cases h
  refine ⟨_, b3 _ _ hne hl1, ?_⟩
  have bb : But p H H3 := (b1.same s1).trans b3
  have : e = 0 ∨ e = 1 := by omega
  rcases this with rfl | rfl
  · exact ⟨.int 1, rfl, q 1 H3 (by decide) (by decide) bb hp3⟩
  · refine ⟨.int (1 + (d : Int)), rfl, ?_⟩
    have z := q (1 + d) H3 (by omega) (by omega) bb hp3
    rw [Int.natCast_add] at z
    exact z
theorem ok_law_value (T : TX K mg) (D : DF K mg "_law_value" s__law_value ["_law_pot_here", "_law_width_here", "_law_signs"] []) (G__law_digit : FO P w K mg base "_law_digit" k ["_law_pot_here", "_law_many"] [] spDigit) : FO P w K mg base "_law_value" (k + 1) ["_law_pot_here", "_law_width_here", "_law_signs"] [] spLValue := by
  refine D.ok sc__law_value (fun vs H Q E h => ?_) (fun fa cdv A outer s H vs Q E hr h => ?_)
  · obtain ⟨_, _, _, rfl, _⟩ := h
    rfl
  obtain ⟨p, kk, n, rfl, hp, hn, hk1, hk8, q⟩ := h
  refine ⟨_, (pss_one (ps_ret (pe_joinS pe_str (pe_lc (own := [("_law_k", 3)]) (tt := tYes) rfl sc__law_value.nd (pi_range1 rfl T.range (pa_cons (pv 1) pa_nil)) (blkOk_by (N := ["_law_pot_here", "_law_width_here", "_law_signs", "_law_k"]) (sc := defScope s__law_value) (by decide +kernel)) (fun _ _ _ _ _ => (pg_name (i := 3) sc__law_value.nd rfl (Or.inl rfl))) (fun _ _ _ _ _ => pts_nil) (fun _ _ _ _ _ => (pe_ix ix_str (pv 2) (pe_fo G__law_digit hr (pa_cons (pv 0) (pa_cons (pe_callB call_lenS rfl T.len PySem.boot_len (pa_cons (pv 2) pa_nil)) pa_nil))) (fun _ _ => rfl))))))), ?_⟩
  walk_at "rd"
  refine ⟨by omega, by omega, ?_⟩
  have e3 : (Str.ofString "01x").length = 3 := by decide +kernel
  have et : tl (Str.ofString "01x") = [48, 49, 120] := by decide +kernel
  have hpl := hp.lst
  rw [Int.toNat_natCast]
  refine lc_but (wk_rng (lo := 0) (n := kk)) [p] (fun a ha => ?_) (fun i acc H => Pot H p (n + i) ∧ ∃ cs : List Nat, acc = (cs.map sgn).map V.str ∧ cs.length = i ∧ ∀ c ∈ cs, c = 48 ∨ c = 49 ∨ c = 120) (fun _ _ _ _ _ _ => trivial) (by omega) (fun i acc H hi u => ?_) (fun i acc H D l l' hD hl u => ?_) (fun D l hD => ?_) (fun i acc H2 Ky Kn hi b2 u ky kn => ?_) (fun D acc H2 b2 hD hl u => ?_)
  · rw [List.mem_singleton] at ha
    obtain ⟨l, h⟩ := hpl
    rw [ha, h]
    simp
  · obtain ⟨_, cs, rfl, h, _⟩ := u
    simp [h]
  · exact ⟨u.1.keep fun o h => by rw [upd_ne (fun z => by obtain ⟨l, h⟩ := hpl; rw [z, hD] at h; cases h)]; exact h, u.2⟩
  · exact ⟨hp.keep fun o h => by rw [upd_ne (ne_of_none h hD)]; exact h, [], rfl, rfl, fun c hc => by cases hc⟩
  · obtain ⟨hp2, cs, rfl, hlen, hcs⟩ := u
    walk_at "rd"
    refine ⟨by rw [e3]; exact size_of (by decide), n + i, hp2, by omega, by rw [e3]; decide, by rw [e3]; decide, fun d H3 hd b3 hp3 => ⟨by rw [e3]; exact size_of (by decide), ?_⟩⟩
    rw [e3] at hd
    have hd3 : d < 3 := by omega
    have hget : (Str.ofString "01x").cps.toList[d]? = some ([48, 49, 120].getD d 0) := by
      show (tl (Str.ofString "01x"))[d]? = _
      rw [et]
      have : d = 0 ∨ d = 1 ∨ d = 2 := by omega
      rcases this with rfl | rfl | rfl <;> rfl
    refine ⟨_, atI_nat hget, ky _ _ b3.buts1 ⟨by rw [← Nat.add_assoc]; exact hp3, cs ++ [[48, 49, 120].getD d 0], by simp [sgn], by simp [hlen], fun c hc => ?_⟩⟩
    rcases List.mem_append.mp hc with hc | hc
    · exact hcs c hc
    · rw [List.mem_singleton] at hc
      have : d = 0 ∨ d = 1 ∨ d = 2 := by omega
      rcases this with rfl | rfl | rfl
      · exact .inl hc
      · exact .inr (.inl hc)
      · exact .inr (.inr hc)
  · obtain ⟨hp2, cs, rfl, hlen, hcs⟩ := u
    walk_at "rd"
    refine ⟨_, hl, ?_, ?_⟩
    · rw [sgn_sum, List.length_map, hlen, show (Str.ofString "").length = 0 from by decide +kernel]
      omega
    · rw [sgn_join]
      refine q _ H2 ⟨hlen, hk1, hk8, hcs⟩ b2.but (hp2.up (by omega))
end
end K37
set_option maxHeartbeats 4000000
namespace K37
open PySem L2 TL
open PyProof.Rows hiding St
theorem sc__law_name : FnScope ["_law_pot_here", "_law_taken", "_law_signs", "_law_barred", "_law_some", "_law_way", "_law_name_here", "_law_one", "_law_k"] ["_law_pot_here", "_law_taken"] (defScope s__law_name) := ⟨rfl, rfl, rfl, by decide +kernel, rfl, by decide +kernel, by decide +kernel⟩

/-- a name but for the words that it may not be -/
structure PreName (n : Str) : Prop where
  l1 : 1 ≤ (tl n).length
  l8 : (tl n).length ≤ 8
  hd : ∃ c r, tl n = c :: r ∧ isLet c
  al : ∀ c ∈ tl n, isLet c ∨ isFig c
def barredL : List Str := ["not", "and", "or", "xor", "plus", "same", "less", "any", "all", "pick", "join", "part", "is", "of", "at"]
def lateL : List Str := ["filters", "later"]
def someL : List Str := ["now", "if", "else", "block", "input", "wire", "bus", "kept", "filter", "rise", "fall", "x", "z", "x1"]
theorem barred_all : ∀ w ∈ wordsL ++ otherL, w ∈ barredL ++ lateL := by decide +kernel
theorem PreName.ok {n : Str} (h : PreName n) (hb : n ∉ barredL) (hl : n ∉ lateL) : NameOk n := by
  refine ⟨h.l1, h.l8, h.hd, h.al, fun z => ?_, fun z => ?_⟩
  · rcases List.mem_append.mp (barred_all n (List.mem_append_left _ z)) with q | q
    · exact hb q
    · exact hl q
  · rcases List.mem_append.mp (barred_all n (List.mem_append_right _ z)) with q | q
    · exact hb q
    · exact hl q
theorem some_pre : ∀ n ∈ someL, PreName n := by
  have h : ∀ n ∈ someL, (1 ≤ (tl n).length ∧ (tl n).length ≤ 8 ∧ 97 ≤ (tl n).head! ∧ (tl n).head! ≤ 122 ∧ ∀ c ∈ tl n, (97 ≤ c ∧ c ≤ 122) ∨ (48 ≤ c ∧ c ≤ 57)) := by decide +kernel
  intro n hn
  obtain ⟨h1, h2, h3, h4, h5⟩ := h n hn
  refine ⟨h1, h2, ?_, h5⟩
  cases e : tl n with
  | nil => rw [e] at h1; simp at h1
  | cons c r =>
    rw [e] at h3 h4
    exact ⟨c, r, rfl, h3, h4⟩
def qn (i : Nat) : Str := Str.ofString "q" ++ Str.ofString (toString ((i : Nat) : Int))
def qs : List Str := (List.range 60).map qn
theorem qs_ok : ∀ n ∈ qs, NameOk n := by
  have h : ∀ n ∈ qs, (1 ≤ (tl n).length ∧ (tl n).length ≤ 8 ∧ 97 ≤ (tl n).head! ∧ (tl n).head! ≤ 122 ∧ (∀ c ∈ tl n, (97 ≤ c ∧ c ≤ 122) ∨ (48 ≤ c ∧ c ≤ 57)) ∧ n ∉ wordsL ∧ n ∉ otherL) := by decide +kernel
  intro n hn
  obtain ⟨h1, h2, h3, h4, h5, h6, h7⟩ := h n hn
  refine ⟨h1, h2, ?_, h5, h6, h7⟩
  cases e : tl n with
  | nil => rw [e] at h1; simp at h1
  | cons c r =>
    rw [e] at h3 h4
    exact ⟨c, r, rfl, h3, h4⟩
theorem qs_nodup : qs.Nodup := by decide +kernel
theorem nodup_len : ∀ {l m : List Str}, l.Nodup → (∀ x ∈ l, x ∈ m) → l.length ≤ m.length
  | [], _, _, _ => Nat.zero_le _
  | a :: r, m, h, s => by
    have h1 := List.nodup_cons.mp h
    have ha := s a List.mem_cons_self
    have ih := nodup_len (l := r) (m := m.erase a) h1.2 fun x hx => (List.mem_erase_of_ne (fun z : x = a => h1.1 (z ▸ hx))).mpr (s x (List.mem_cons_of_mem _ hx))
    rw [List.length_erase_of_mem ha] at ih
    have := List.length_pos_of_mem ha
    rw [List.length_cons]
    omega
theorem qs_free {ns : List Str} (h : ns.length ≤ 50) : ∃ x r, qs.filter (fun x => decide (x ∉ ns)) = x :: r ∧ NameOk x ∧ x ∉ ns := by
  cases e : qs.filter (fun x => decide (x ∉ ns)) with
  | nil =>
    exfalso
    have := nodup_len (m := ns) qs_nodup fun x hx => by
      by_cases hc : x ∈ ns
      · exact hc
      · have : x ∈ qs.filter (fun x => decide (x ∉ ns)) := List.mem_filter.mpr ⟨hx, by simpa using hc⟩
        rw [e] at this
        cases this
    have e2 : qs.length = 60 := by decide +kernel
    omega
  | cons x r =>
    have hm : x ∈ qs.filter (fun x => decide (x ∉ ns)) := by rw [e]; exact List.mem_cons_self
    have hm := List.mem_filter.mp hm
    exact ⟨x, r, rfl, qs_ok x hm.1, by simpa using hm.2⟩
theorem sgn_pre {cs : List Nat} {x : Str} (e : tl x = cs) (h1 : 1 ≤ cs.length) (h8 : cs.length ≤ 8) (hd : ∃ c r, cs = c :: r ∧ isLet c) (al : ∀ c ∈ cs, isLet c ∨ isFig c) : PreName x := ⟨by rw [e]; exact h1, by rw [e]; exact h8, by rw [e]; exact hd, by rw [e]; exact al⟩
def signsL : List Nat := [97, 98, 99, 100, 101, 102, 103, 104, 105, 106, 107, 108, 109, 110, 111, 112, 113, 114, 115, 116, 117, 118, 119, 120, 121, 122, 48, 49, 50, 51, 52, 53, 54, 55, 56, 57]
theorem signs_tl : tl (Str.ofString "abcdefghijklmnopqrstuvwxyz0123456789") = signsL := by decide +kernel
theorem signs_let : ∀ i < 26, ∃ c, signsL[i]? = some c ∧ isLet c := by
  have h : ∀ i < 26, 97 ≤ (signsL.getD i 0) ∧ (signsL.getD i 0) ≤ 122 := by decide +kernel
  intro i hi
  refine ⟨signsL.getD i 0, ?_, h i hi⟩
  have : i < signsL.length := by show i < 36; omega
  simp [this]
theorem signs_all : ∀ i < 36, ∃ c, signsL[i]? = some c ∧ (isLet c ∨ isFig c) := by
  have h : ∀ i < 36, (97 ≤ (signsL.getD i 0) ∧ (signsL.getD i 0) ≤ 122) ∨ (48 ≤ (signsL.getD i 0) ∧ (signsL.getD i 0) ≤ 57) := by decide +kernel
  intro i hi
  refine ⟨signsL.getD i 0, ?_, h i hi⟩
  have : i < signsL.length := hi
  simp [this]
theorem cut_to8 (x : Str) : tl (cutS x none (some 8)) = (tl x).take 8 := by
  have z := HT.sIx_nat x.length x.length 8
  rw [show (((8 : Nat) : Int)) = 8 from rfl] at z
  unfold cutS
  rw [z, HT.sIx_none]
  show ((tl x).drop 0).take (min 8 x.length - 0) = _
  rw [List.drop_zero, Nat.sub_zero, len_tl, List.take_eq_take_iff]
  omega
def spLName : Sp := fun vs H Q _ => ∃ (p t : Addr) (n : Nat) (ns : List Str), vs = [.ref p, .ref t] ∧ Pot H p n ∧ n ≤ 999000000 ∧ H t = some (.lst (ns.map V.str)) ∧ ns.length ≤ 50 ∧ (∀ x ∈ ns, NameOk x) ∧
  ∀ x H', NameOk x → x ∉ ns → Buts [p, t] H H' → Pot H' p (n + 20) → H' t = some (.lst ((ns ++ [x]).map V.str)) → Q (.str x) H'
local macro_rules | `(tactic| walk_at "rd") => `(tactic| simp only [tYes, wipe, HO.lst.injEq, HO.tup.injEq, HO.dK.injEq, Nat.reduceAdd, Nat.reduceLeDiff, Nat.reduceSub, Int.reduceLE, Int.reduceLT, Int.reduceNeg, Nat.zero_add, Int.reduceEq, cut_head, cut_tail, cut_mid, cut_three, c_cast0, c_cast1, c_cast2, c_cast3, c_cast4, z_lit, List.getD_eq_getElem?_getD, Option.getD_some, tLc_eq, tFor_eq, cxOf, Cx.nox, Cx.wish, tSeq, tIfS, tOr, tAnd, tNot, tB, tCB, tCons, tVar, tC, tNil, tTest, tChain, rI0, rI, tOp, rIxS, rIxL, rIxT, tRet, tNext, tAsg, gName, tAndV, tOrV, tNotV, tIf, tIsN, tNotN, tCall, tDrop, tBM, tBM0, rEq, rNe, tRetN, tSl, tNoPart, tPart, tTupD, tLstD, tInD, rIsK, rLenS, rLenL, rLenT, rAllT, rAnyF, rInK, rInL, rSlLD, rSlTD, rSlS, rCatD, rCatTD, rAppD, rExtD, rPopD, rPopAtD, rListD, rTupleD, iLst, iTpl, iStr, rIxLH, rIxTH, gTupH, gLstH, gStar0, gStar1, gStar2, rSumH, rAddS2, tJoinS, tFmtS, tFmtI, tJoined, tJoined_nil, tJoined_cons, rIsG, app_empty, tFldD, sFldD, tMkD, tMoD, rIsC, rLenO, rEqO, HO.ins.injEq, exists_eq, tNilL, tML, tML0, tMS, iEnumH, tCallK, rStrI, tGetS, tGet1S, tGet2S, rListKD, tDc_eq, tLc2_eq, tKGet, gCons, gNil, tChain3, tPartD, tSplitD, tPar, New, Chg, rListTD, atI_0, atI_1, atI_2, atI_3, sign_inj, and_false, false_and, or_false, false_or, or_true, true_or, List.take_succ_cons, List.take_zero, List.drop_succ_cons, List.drop_zero, forall_const, exists_false, not_false_eq_true, not_true_eq_false, if_true, if_false, iRng1, KindV,
  L2.start, List.map_cons, List.map_nil, List.length_cons, List.length_nil, List.replicate, List.cons_append, List.nil_append, List.append_nil, List.set_cons_zero, List.set_cons_succ, List.getElem?_cons_zero, List.getElem?_cons_succ, Option.some.injEq, exists_eq_left', exists_eq_left, V.int.injEq, V.str.injEq, V.bl.injEq, V.ref.injEq, V.ty.injEq, true_and, and_true, List.cons.injEq, exists_and_left, exists_eq', and_assoc, scal, ofString_inj, String.reduceEq, reduceIte, decide_eq_true_eq, decide_eq_false_iff_not, Bool.not_true, Bool.not_false, Bool.not_eq_true', inV_cons, inV_nil, eqV_ss, eqV_ii, flatV, List.all_cons, List.all_nil, Bool.and_true, Bool.or_false, Bool.true_and, Bool.false_or, decide_true, decide_false, Bool.true_or, Bool.false_eq_true, reduceCtorEq, spDigit, spLName, spLValue, gSub, rSetLD, CMul, CDiv, CPow])
local macro_rules | `(tactic| walk_at "ra") => `(tactic| simp only [tYes, wipe, HO.lst.injEq, HO.tup.injEq, HO.dK.injEq, Nat.reduceAdd, Nat.reduceLeDiff, Nat.reduceSub, Int.reduceLE, Int.reduceLT, Int.reduceNeg, Nat.zero_add, Int.reduceEq, cut_head, cut_tail, cut_mid, cut_three, c_cast0, c_cast1, c_cast2, c_cast3, c_cast4, z_lit, List.getD_eq_getElem?_getD, Option.getD_some, tLc_eq, tFor_eq, cxOf, Cx.nox, Cx.wish, tSeq, tIfS, tOr, tAnd, tNot, tB, tCB, tCons, tVar, tC, tNil, tTest, tChain, rI0, rI, tOp, rIxS, rIxL, rIxT, tRet, tNext, tAsg, gName, tAndV, tOrV, tNotV, tIf, tIsN, tNotN, tCall, tDrop, tBM, tBM0, rEq, rNe, tRetN, tSl, tNoPart, tPart, tTupD, tLstD, tInD, rIsK, rLenS, rLenL, rLenT, rAllT, rAnyF, rInK, rInL, rSlLD, rSlTD, rSlS, rCatD, rCatTD, rAppD, rExtD, rPopD, rPopAtD, rListD, rTupleD, iLst, iTpl, iStr, rIxLH, rIxTH, gTupH, gLstH, gStar0, gStar1, gStar2, rSumH, rAddS2, tJoinS, tFmtS, tFmtI, tJoined, tJoined_nil, tJoined_cons, rIsG, app_empty, tFldD, sFldD, tMkD, tMoD, rIsC, rLenO, rEqO, HO.ins.injEq, exists_eq, tNilL, tML, tML0, tMS, iEnumH, tCallK, rStrI, tGetS, tGet1S, tGet2S, rListKD, tDc_eq, tLc2_eq, tKGet, gCons, gNil, tChain3, tPartD, tSplitD, tPar, New, Chg, rListTD, atI_0, atI_1, atI_2, atI_3, sign_inj, and_false, false_and, or_false, false_or, or_true, true_or, List.take_succ_cons, List.take_zero, List.drop_succ_cons, List.drop_zero, forall_const, exists_false, not_false_eq_true, not_true_eq_false, if_true, if_false, iRng1, KindV,
  L2.start, List.map_cons, List.map_nil, List.length_cons, List.length_nil, List.replicate, List.cons_append, List.nil_append, List.append_nil, List.set_cons_zero, List.set_cons_succ, List.getElem?_cons_zero, List.getElem?_cons_succ, Option.some.injEq, exists_eq_left', exists_eq_left, V.int.injEq, V.str.injEq, V.bl.injEq, V.ref.injEq, V.ty.injEq, true_and, and_true, List.cons.injEq, exists_and_left, exists_eq', and_assoc, scal, ofString_inj, String.reduceEq, reduceIte, decide_eq_true_eq, decide_eq_false_iff_not, Bool.not_true, Bool.not_false, Bool.not_eq_true', inV_cons, inV_nil, eqV_ss, eqV_ii, flatV, List.all_cons, List.all_nil, Bool.and_true, Bool.or_false, Bool.true_and, Bool.false_or, decide_true, decide_false, Bool.true_or, Bool.false_eq_true, reduceCtorEq, spDigit, spLName, spLValue, gSub, rSetLD, CMul, CDiv, CPow, *])

section
variable {P : Program} {w : World} {K : PySem.W.Frag} {mg : Str → Option Value} {base : Heap} {k : Nat}
theorem ok_law_name (T : TX K mg) (D : DF K mg "_law_name" s__law_name ["_law_pot_here", "_law_taken"] []) (G__law_digit : FO P w K mg base "_law_digit" k ["_law_pot_here", "_law_many"] [] spDigit) : FO P w K mg base "_law_name" (k + 1) ["_law_pot_here", "_law_taken"] [] spLName := by
  refine D.ok sc__law_name (fun vs H Q E h => ?_) (fun fa cdv A outer s H vs Q E hr h => ?_)
  · obtain ⟨_, _, _, _, rfl, _⟩ := h
    rfl
  obtain ⟨p, t, n, ns, rfl, hp, hn, ht, hlen, hnm, q⟩ := h
  refine ⟨_, (pss_cons (ps_set (i := 2) sc__law_name.nd rfl (Or.inr rfl) pe_str)
    (pss_cons (ps_set (i := 3) sc__law_name.nd rfl (Or.inl rfl) (pe_lstD (pa_cons pe_str (pa_cons pe_str (pa_cons pe_str (pa_cons pe_str (pa_cons pe_str (pa_cons pe_str (pa_cons pe_str (pa_cons pe_str (pa_cons pe_str (pa_cons pe_str (pa_cons pe_str (pa_cons pe_str (pa_cons pe_str (pa_cons pe_str (pa_cons pe_str pa_nil)))))))))))))))))
    (pss_cons (ps_set (i := 4) sc__law_name.nd rfl (Or.inl rfl) (pe_lstD (pa_cons pe_str (pa_cons pe_str (pa_cons pe_str (pa_cons pe_str (pa_cons pe_str (pa_cons pe_str (pa_cons pe_str (pa_cons pe_str (pa_cons pe_str (pa_cons pe_str (pa_cons pe_str (pa_cons pe_str (pa_cons pe_str (pa_cons pe_str pa_nil))))))))))))))))
    (pss_cons (ps_set (i := 5) sc__law_name.nd rfl (Or.inl rfl) (pe_fo G__law_digit hr (pa_cons (pv 0) (pa_cons pe_int pa_nil))))
    (pss_cons (ps_set (i := 6) sc__law_name.nd rfl (Or.inl rfl) (pe_ix ix_str (pv 2) (pe_fo G__law_digit hr (pa_cons (pv 0) (pa_cons pe_int pa_nil))) (fun _ _ => rfl)))
    (pss_cons (ps_if (pt_cmpR op_eq (pv 5) pe_int (nomark _))
      (pss_one (ps_set (i := 6) sc__law_name.nd rfl (Or.inl rfl) (pe_op op_addS2 (pv 6) (pe_joinS pe_str (pe_lc (own := [("_law_k", 8)]) (tt := tYes) rfl sc__law_name.nd (pi_range1 rfl T.range (pa_cons (pe_fo G__law_digit hr (pa_cons (pv 0) (pa_cons pe_int pa_nil))) pa_nil)) (blkOk_by (N := ["_law_pot_here", "_law_taken", "_law_signs", "_law_barred", "_law_some", "_law_way", "_law_name_here", "_law_one", "_law_k"]) (sc := defScope s__law_name) (by decide +kernel)) (fun _ _ _ _ _ => (pg_name (i := 8) sc__law_name.nd rfl (Or.inl rfl))) (fun _ _ _ _ _ => pts_nil) (fun _ _ _ _ _ => (pe_ix ix_str (pv 2) (pe_fo G__law_digit hr (pa_cons (pv 0) (pa_cons pe_int pa_nil))) (fun _ _ => rfl))))))))
      pss_nil)
    (pss_cons (ps_if (PW.pt (pw_and (pt_cmpR op_eq (pv 5) pe_int (nomark _)) (pw_and1 (pt_neNilL hr.units (pv 1)))))
      (pss_one (ps_set (i := 6) sc__law_name.nd rfl (Or.inl rfl) (pe_slice sl_str (pe_op op_addS2 (pe_ix ix_lst (pv 1) (pe_fo G__law_digit hr (pa_cons (pv 0) (pa_cons (pe_callB call_lenL rfl T.len PySem.boot_len (pa_cons (pv 1) pa_nil)) pa_nil))) (fun _ _ => rfl)) (pe_ix ix_str (pv 2) (pe_fo G__law_digit hr (pa_cons (pv 0) (pa_cons pe_int pa_nil))) (fun _ _ => rfl))) po_none (po_some pe_int))))
      pss_nil)
    (pss_cons (ps_if (pt_cmpR op_eq (pv 5) pe_int (nomark _))
      (pss_one (ps_set (i := 6) sc__law_name.nd rfl (Or.inl rfl) (pe_ix ix_lst (pv 4) (pe_fo G__law_digit hr (pa_cons (pv 0) (pa_cons (pe_callB call_lenL rfl T.len PySem.boot_len (pa_cons (pv 4) pa_nil)) pa_nil))) (fun _ _ => rfl))))
      pss_nil)
    (pss_cons (ps_if (pt_cmpR op_inL (pv 6) (pe_op op_catD (pe_op op_catD (pv 1) (pv 3)) (pe_lstD (pa_cons pe_str (pa_cons pe_str pa_nil)))) (by rfl))
      (pss_one (ps_set (i := 6) sc__law_name.nd rfl (Or.inl rfl) (pe_ix ix_lst (pe_lc (own := [("_law_one", 7)]) (tt := _) rfl sc__law_name.nd (pi_lst (pe_lc (own := [("_law_k", 8)]) (tt := tYes) rfl sc__law_name.nd (pi_range1 rfl T.range (pa_cons pe_int pa_nil)) (blkOk_by (N := ["_law_pot_here", "_law_taken", "_law_signs", "_law_barred", "_law_some", "_law_way", "_law_name_here", "_law_one", "_law_k"]) (sc := defScope s__law_name) (by decide +kernel)) (fun _ _ _ _ _ => (pg_name (i := 8) sc__law_name.nd rfl (Or.inl rfl))) (fun _ _ _ _ _ => pts_nil) (fun _ _ _ _ _ => (pe_op op_addS2 pe_str (pe_callTy call_strI rfl T.str (by decide +kernel) (pa_cons (pv 8) pa_nil)))))) (blkOk_by (N := ["_law_pot_here", "_law_taken", "_law_signs", "_law_barred", "_law_some", "_law_way", "_law_name_here", "_law_one", "_law_k"]) (sc := defScope s__law_name) (by decide +kernel)) (fun _ _ _ _ _ => (pg_name (i := 7) sc__law_name.nd rfl (Or.inl rfl))) (fun _ _ _ _ _ => (pts_one (pt_cmpR op_ninL (pv 7) (pv 1) (by rfl)))) (fun _ _ _ _ _ => (pv 7))) pe_int (fun _ _ => rfl))))
      pss_nil)
    (pss_cons (ps_expr (pe_bmL PySem.F.slot_list_append PySem.F.type_list_append mt_appD (pv 1) (pa_cons (pv 6) pa_nil)))
    (pss_one (ps_ret (pv 6))))))))))))), ?_⟩
  refine seq_i fun M hM => ?_
  walk_at "rd"
  subst hM
  refine seq_i fun M hM => ?_
  walk_at "rd"
  intro pb H1 hpb s1 hl1
  subst hM
  refine seq_i fun M hM => ?_
  walk_at "rd"
  intro ps H2 hps s2 hl2
  subst hM
  refine seq_i fun M hM => ?_
  walk_at "rd"
  refine ⟨n, (hp.same s1).same s2, by omega, fun d H3 hd b3 hp3 => ?_⟩
  have hpt : p ≠ t := hp.ne_strs ht
  have hl1' := s2 _ _ hl1
  have npb : pb ≠ p := fun z => by obtain ⟨l, h⟩ := hp.lst; rw [← z, hpb] at h; cases h
  have nps : ps ≠ p := fun z => by obtain ⟨l, h⟩ := (hp.same s1).lst; rw [← z, hps] at h; cases h
  have ht2 := s2 _ _ (s1 _ _ ht)
  have sg36 : (Str.ofString "abcdefghijklmnopqrstuvwxyz0123456789").length ≤ sizeLine := size_of (by decide)
  subst hM
  refine seq_i fun M hM => ?_
  walk_at "rd"
  refine ⟨n + 1, hp3, by omega, fun d1 H4 hd1 b4 hp4 => ⟨sg36, ?_⟩⟩
  obtain ⟨c1, hc1, hlet1⟩ := signs_let d1 (by omega)
  refine ⟨c1, atI_nat (by rw [show (Str.ofString "abcdefghijklmnopqrstuvwxyz0123456789").cps.toList = signsL from signs_tl]; exact hc1), ?_⟩
  have pre1 : PreName (sgn c1) := sgn_pre (cs := [c1]) rfl (Nat.le_refl 1) (Nat.le_add_left 1 7) ⟨c1, [], rfl, hlet1⟩ (fun c hc => by rw [List.mem_singleton] at hc; rw [hc]; exact .inl hlet1)
  have b24 := b3.trans b4
  obtain ⟨way, hway⟩ : ∃ way : Int, way = (d : Int) := ⟨_, rfl⟩
  rw [← hway]
  -- the last part
  subst hM
  refine seq_i fun M1 hM1 => ?_
  have k1 : ∀ x H' m, PreName x → But p H2 H' → Pot H' p m → m ≤ n + 12 → M1 [some (V.ref p), some (V.ref t), some (V.str (Str.ofString "abcdefghijklmnopqrstuvwxyz0123456789")), some (V.ref pb), some (V.ref ps), some (V.int way), some (V.str x), none, none] H' := fun x H5 m hx b5 hp5 hm => by
    subst hM1
    refine seq_i fun M2 hM2 => ?_
    have k2 : ∀ x H' m, PreName x → But p H2 H' → Pot H' p m → m ≤ n + 14 → M2 [some (V.ref p), some (V.ref t), some (V.str (Str.ofString "abcdefghijklmnopqrstuvwxyz0123456789")), some (V.ref pb), some (V.ref ps), some (V.int way), some (V.str x), none, none] H' := fun x H5 m hx b5 hp5 hm => by
      subst hM2
      refine seq_i fun M3 hM3 => ?_
      have k3 : ∀ x H' m, PreName x → But p H2 H' → Pot H' p m → m ≤ n + 15 → M3 [some (V.ref p), some (V.ref t), some (V.str (Str.ofString "abcdefghijklmnopqrstuvwxyz0123456789")), some (V.ref pb), some (V.ref ps), some (V.int way), some (V.str x), none, none] H' := fun x H5 m hx b5 hp5 hm => by
        subst hM3
        refine seq_i fun M4 hM4 => ?_
        have k4 : ∀ x H', NameOk x → x ∉ ns → But p H2 H' → Pot H' p (n + 15) → M4 [some (V.ref p), some (V.ref t), some (V.str (Str.ofString "abcdefghijklmnopqrstuvwxyz0123456789")), some (V.ref pb), some (V.ref ps), some (V.int way), some (V.str x), none, none] H' := fun x H6 hx hxn b6 hp6 => by
          have h6t := b6 _ _ (Ne.symm hpt) ht2
          subst hM4
          walk_at "rd"
          refine ⟨⟨_, h6t⟩, _, h6t, by rw [List.length_map]; omega, fun H7 b7 hl7 => q x H7 hx hxn ?_ ((hp6.keep fun o h => b7 _ _ hpt h).up (by omega)) (by rw [hl7]; simp)⟩
          exact (((Buts.of (s1.trans s2)).trans (b6.buts List.mem_cons_self))).trans (b7.buts (by simp))
        walk_at "rd"
        have h5t := b5 _ _ (Ne.symm hpt) ht2
        have h5b := b5 _ _ npb hl1'
        refine ⟨_, h5t, _, h5b, by simp; omega, fun p6 H6 hp6 s6 hl6 p7 H7 hp7 s7 hl7 => ⟨_, s7 _ _ hl6, _, hl7, by simp; omega, fun p8 H8 hp8 s8 hl8 => ?_⟩⟩
        have e8 : List.map V.str ns ++ [V.str (Str.ofString "not"), V.str (Str.ofString "and"), V.str (Str.ofString "or"), V.str (Str.ofString "xor"),
          V.str (Str.ofString "plus"), V.str (Str.ofString "same"), V.str (Str.ofString "less"),
          V.str (Str.ofString "any"), V.str (Str.ofString "all"), V.str (Str.ofString "pick"),
          V.str (Str.ofString "join"), V.str (Str.ofString "part"), V.str (Str.ofString "is"),
          V.str (Str.ofString "of"), V.str (Str.ofString "at")] ++ [V.str (Str.ofString "filters"), V.str (Str.ofString "later")] = (ns ++ barredL ++ lateL).map V.str := by
          simp only [barredL, lateL, List.map_append, List.map_cons, List.map_nil]
        rw [e8] at hl8
        have s58 := (s6.trans s7).trans s8
        have b8 := b5.same s58
        have hp8' := hp5.same s58
        refine ⟨_, hl8, flat_strs _, ?_⟩
        rw [inV_strs]
        by_cases hin : x ∈ ns ++ barredL ++ lateL
        · rw [if_pos (by simpa using hin)]
          refine ⟨by decide, by decide, ?_⟩
          refine lc_map (wk_rng (lo := 0) (n := 60)) (fun _ _ => trivial) (fun i y H => y = .str (qn i)) (by decide) (fun _ _ _ _ r _ => r) (fun i H9 Ky hi s9 ky => ?_) (fun D9 ys H9 s9 hD9 hl9 hly hy => ?_) mg_name
          · walk_at "rd"
            have hqs : (Str.ofString "q").length = 1 := by decide +kernel
            have hsl : (Str.ofString (toString (0 + (i : Int)))).length ≤ 2 := by
              rw [Int.zero_add, len_tl, tl_num]
              have h : ∀ i < 60, (numL i).length ≤ 2 := by decide +kernel
              exact h i hi
            refine ⟨by omega, by omega, ky _ _ (Same.refl _) ?_⟩
            rw [Int.zero_add]
            rfl
          · have ey := map_of (f := fun i => V.str (qn i)) (l := List.range 60) (by rw [hly, List.length_range]) fun i y e => ⟨i, by
              have : i < 60 := by
                have := (List.getElem?_eq_some_iff.mp e).1
                omega
              simp [this], hy i y e⟩
            have em : (List.range 60).map (fun i => V.str (qn i)) = qs.map V.str := by rw [qs, List.map_map]; rfl
            rw [em] at ey
            rw [ey] at hl9
            have e60 : qs.length = 60 := by decide +kernel
            refine ⟨D9, rfl, _, hl9, ?_⟩
            have h9t := s9 _ _ (s58 _ _ h5t)
            refine lc_gen (wk_lst (xs := qs.map V.str)) (fun H s => s _ _ hl9) (fun i acc H => acc = ((qs.take i).filter (fun x => decide (x ∉ ns))).map V.str) (by rw [List.length_map, e60]; decide) (fun i acc H _ u => ?_) (fun _ _ _ _ u _ => u) (fun _ _ => rfl) (fun i acc H10 Ky Kn hi s10 u ky kn => ?_) (fun D10 acc H10 s10 hD10 hl10 u => ?_)
            · rw [u, List.length_map]
              exact Nat.le_trans (List.length_filter_le _ _) (List.length_take_le _ _)
            · rw [List.length_map] at hi
              have h10t := s10 _ _ h9t
              have hget : (qs.map V.str).getD i .non = .str qs[i] := by simp [hi]
              have htk : qs.take (i + 1) = qs.take i ++ [qs[i]] := by rw [List.take_succ, List.getElem?_eq_getElem hi]; rfl
              rw [hget]
              walk_at "rd"
              refine ⟨_, h10t, flat_strs _, ?_⟩
              rw [inV_strs]
              by_cases hc : qs[i] ∈ ns
              · rw [if_neg (by simpa using hc)]
                refine kn _ (Same.refl _) ?_
                rw [htk, List.filter_append, u]
                simp [hc]
              · rw [if_pos (by simpa using hc)]
                refine ky _ _ (Same.refl _) ?_
                rw [htk, List.filter_append, u]
                simp [hc]
            · rw [List.length_map, List.take_length] at u
              obtain ⟨x', r', eq', hok', hnn'⟩ := qs_free hlen
              rw [eq', List.map_cons] at u
              rw [u] at hl10
              exact ⟨D10, rfl, _, hl10, _, atI_0, k4 x' H10 hok' hnn' ((b8.same s9).same s10) (((hp8'.same s9).same s10).up hm)⟩
        · rw [if_neg (by simpa using hin)]
          have h1 : x ∉ ns := fun z => hin (List.mem_append_left _ (List.mem_append_left _ z))
          have h2 : x ∉ barredL := fun z => hin (List.mem_append_left _ (List.mem_append_right _ z))
          have h3 : x ∉ lateL := fun z => hin (List.mem_append_right _ z)
          exact k4 x H8 (hx.ok h2 h3) h1 b8 (hp8'.up hm)
      walk_at "rd"
      by_cases hw2 : way = 2
      · rw [if_pos hw2]
        have h5s := b5 _ _ nps hl2
        refine ⟨_, h5s, m, hp5, by omega, by decide, by decide, fun e H6 he b6 hp6 => ⟨_, b6 _ _ nps h5s, ?_⟩⟩
        have he14 : e < 14 := by
          have : (e : Int) < 14 := he
          omega
        have hget : ([V.str (Str.ofString "now"), V.str (Str.ofString "if"), V.str (Str.ofString "else"),
          V.str (Str.ofString "block"), V.str (Str.ofString "input"), V.str (Str.ofString "wire"),
          V.str (Str.ofString "bus"), V.str (Str.ofString "kept"), V.str (Str.ofString "filter"),
          V.str (Str.ofString "rise"), V.str (Str.ofString "fall"), V.str (Str.ofString "x"), V.str (Str.ofString "z"),
          V.str (Str.ofString "x1")])[e]? = some (.str (someL.getD e Str.empty)) := by
          show (someL.map V.str)[e]? = _
          have : e < someL.length := he14
          simp [this]
        have hmem : someL.getD e Str.empty ∈ someL := by
          have : e < someL.length := he14
          simp [this]
        exact ⟨_, atI_nat hget, k3 _ H6 (m + 1) (some_pre _ hmem) (b5.trans b6) hp6 (by omega)⟩
      · rw [if_neg hw2]
        exact k3 x H5 m hx b5 hp5 (by omega)
    walk_at "rd"
    by_cases hw1 : way = 1
    · rw [if_pos hw1]
      have h5t := b5 _ _ (Ne.symm hpt) ht2
      refine ⟨_, h5t, ns.map PyData.str, fun _ _ => dp_strs ns, shaped_strs fun x hx => asc_name (hnm x hx), fun H6 s6 => ?_⟩
      have h6t := s6 _ _ h5t
      cases ns with
      | nil =>
        rw [if_neg (by decide)]
        exact k2 x H6 m hx (b5.same s6) (hp5.same s6) (by omega)
      | cons n0 nr =>
        rw [if_pos (show (List.map V.str (n0 :: nr)).isEmpty = false from rfl)]
        refine ⟨_, h6t, m, hp5.same s6, by omega, by simp; omega, by simp at hlen ⊢; omega, fun e H7 he b7 hp7 => ⟨_, b7 _ _ (Ne.symm hpt) h6t, ?_⟩⟩
        have he' : e < (n0 :: nr).length := by rw [List.length_map] at he; omega
        have hget : (List.map V.str (n0 :: nr))[e]? = some (.str ((n0 :: nr)[e])) := by rw [List.getElem?_map, List.getElem?_eq_getElem he']; rfl
        have hok := hnm _ (List.getElem_mem he')
        refine ⟨_, atI_nat hget, m + 1, hp7, by omega, fun e2 H8 he2 b8 hp8 => ⟨sg36, ?_⟩⟩
        obtain ⟨c2, hc2, hal2⟩ := signs_all e2 (by omega)
        have hsl : ((n0 :: nr)[e]).length ≤ 8 := by rw [len_tl]; exact hok.l8
        refine ⟨c2, atI_nat (by rw [show (Str.ofString "abcdefghijklmnopqrstuvwxyz0123456789").cps.toList = signsL from signs_tl]; exact hc2), _, rfl, ?_, ?_, ?_⟩
        · show _ + 1 ≤ _
          omega
        · rw [slen_app]
          exact size_of (by show _ + 1 ≤ _; omega)
        · refine k2 _ H8 (m + 2) ?_ (((b5.same s6).trans b7).trans b8) hp8 (by omega)
          have etl : tl (cutS ((n0 :: nr)[e] ++ { cps := #[c2] }) none (some 8)) = (tl (n0 :: nr)[e] ++ [c2]).take 8 := by
            rw [cut_to8, tl_append]
          obtain ⟨hd0, rr, ehd, hhd⟩ := hok.hd
          refine ⟨?_, ?_, ⟨hd0, (rr ++ [c2]).take 7, ?_, hhd⟩, fun c hc => ?_⟩
          · rw [etl, List.length_take, List.length_append, List.length_singleton]
            omega
          · rw [etl, List.length_take]
            omega
          · rw [etl, ehd]
            rfl
          · rw [etl] at hc
            rcases List.mem_append.mp (List.mem_of_mem_take hc) with hc | hc
            · exact hok.al c hc
            · rw [List.mem_singleton] at hc
              rw [hc]
              exact hal2
    · rw [if_neg hw1]
      exact k2 x H5 m hx b5 hp5 (by omega)
  walk_at "rd"
  by_cases hw0 : way = 0
  · rw [if_pos hw0]
    refine ⟨n + 2, hp4, by omega, fun e H5 he b5 hp5 => ⟨by omega, by omega, ?_⟩⟩
    have hpl := hp5.lst
    rw [Int.toNat_natCast]
    refine lc_but (wk_rng (lo := 0) (n := e)) [p] (fun a ha => ?_) (fun i acc H => Pot H p (n + 3 + i) ∧ ∃ cs : List Nat, acc = (cs.map sgn).map V.str ∧ cs.length = i ∧ ∀ c ∈ cs, isLet c ∨ isFig c) (fun _ _ _ _ _ _ => trivial) (by omega) (fun i acc H hi u => ?_) (fun i acc H D l l' hD hl u => ?_) (fun D l hD => ?_) (fun i acc H6 Ky Kn hi b6 u ky kn => ?_) (fun D acc H6 b6 hD hl u => ?_)
    · rw [List.mem_singleton] at ha
      obtain ⟨l, h⟩ := hpl
      rw [ha, h]
      simp
    · obtain ⟨_, cs, rfl, h, _⟩ := u
      simp [h]
    · exact ⟨u.1.keep fun o h => by rw [upd_ne (fun z => by obtain ⟨l, h⟩ := hpl; rw [z, hD] at h; cases h)]; exact h, u.2⟩
    · exact ⟨hp5.keep fun o h => by rw [upd_ne (ne_of_none h hD)]; exact h, [], rfl, rfl, fun c hc => by cases hc⟩
    · obtain ⟨hp6, cs, rfl, hlen, hcs⟩ := u
      walk_at "rd"
      refine ⟨n + 3 + i, hp6, by omega, fun e2 H7 he2 b7 hp7 => ⟨sg36, ?_⟩⟩
      obtain ⟨c2, hc2, hal2⟩ := signs_all e2 (by omega)
      refine ⟨c2, atI_nat (by rw [show (Str.ofString "abcdefghijklmnopqrstuvwxyz0123456789").cps.toList = signsL from signs_tl]; exact hc2), ky _ _ b7.buts1 ⟨by rw [← Nat.add_assoc]; exact hp7, cs ++ [c2], by simp [sgn], by simp [hlen], fun c hc => ?_⟩⟩
      rcases List.mem_append.mp hc with hc | hc
      · exact hcs c hc
      · rw [List.mem_singleton] at hc
        rw [hc]
        exact hal2
    · obtain ⟨hp6, cs, rfl, hlen, hcs⟩ := u
      refine ⟨D, rfl, _, hl, ?_, ?_, ?_⟩
      · rw [sgn_sum, List.length_map, hlen, show (Str.ofString "").length = 0 from by decide +kernel]
        omega
      · rw [sgn_join]
        show 1 + cs.length ≤ _
        omega
      · rw [sgn_join]
        have etl : tl (({ cps := #[c1] } : Str) ++ ⟨cs.toArray⟩) = c1 :: cs := by rw [tl_append]; rfl
        refine k1 _ H6 (n + 12) (sgn_pre (cs := c1 :: cs) etl (by simp) (by simp; omega) ⟨c1, cs, rfl, hlet1⟩ fun c hc => ?_) ((b24.trans b5).trans b6.but) (hp6.up (by omega)) (Nat.le_refl _)
        rcases List.mem_cons.mp hc with rfl | hc
        · exact .inl hlet1
        · exact hcs c hc
  · rw [if_neg hw0]
    exact k1 _ H4 (n + 2) pre1 b24 hp4 (by omega)
end
end K37
set_option maxHeartbeats 4000000
namespace K37
open PySem L2 TL
open PyProof.Rows hiding St
theorem sc__law_leaf : FnScope ["_law_pot_here", "_law_names", "_law_width_here", "_law_some", "_law_name_here", "_law_wide"] ["_law_pot_here", "_law_names", "_law_width_here"] (defScope s__law_leaf) := ⟨rfl, rfl, rfl, by decide +kernel, rfl, by decide +kernel, by decide +kernel⟩

/-- names with widths, as tuples in a list -/
def RN (H : Hp) (g : Str × Nat) (x : V) : Prop := ∃ a, x = .ref a ∧ H a = some (.tup [.str g.1, .int (g.2 : Int)])
theorem RN.tk {H H' : Hp} (k : Tk H H') {g : Str × Nat} {x : V} : RN H g x → RN H' g x := fun ⟨a, e, h⟩ => ⟨a, e, k _ _ h⟩
def NG (H : Hp) (a : Addr) (G : List (Str × Nat)) : Prop := ∃ xs, H a = some (.lst xs) ∧ All2 (RN H) G xs
theorem NG.keep {H H' : Hp} {a : Addr} {G : List (Str × Nat)} (h : NG H a G) (k : Tk H H') (l : ∀ o, H a = some o → H' a = some o) : NG H' a G := by
  obtain ⟨xs, h1, h2⟩ := h
  exact ⟨xs, l _ h1, all2_mono (fun _ _ z => z.tk k) h2⟩
theorem NG.same {H H' : Hp} {a : Addr} {G : List (Str × Nat)} (h : NG H a G) (s : Same H H') : NG H' a G := h.keep (same_tk s) fun o q => s _ _ q
theorem NG.ne_pot {H : Hp} {a p : Addr} {n : Nat} {G : List (Str × Nat)} (h : NG H a G) (hp : Pot H p n) : p ≠ a := by
  obtain ⟨xs, h1, h2⟩ := h
  refine hp.ne_lst h1 fun a b c z => ?_
  subst z
  cases h2 with
  | cons r _ =>
    obtain ⟨a, e, _⟩ := r
    cases e
theorem NG.but {H H' : Hp} {a p : Addr} {n : Nat} {G : List (Str × Nat)} (h : NG H a G) (hp : Pot H p n) (b : But p H H') : NG H' a G :=
  h.keep (by obtain ⟨l, e⟩ := hp.lst; exact b.tk e) fun o q => b _ _ (Ne.symm (h.ne_pot hp)) q
def NGok (G : List (Str × Nat)) : Prop := ∀ g ∈ G, NameOk g.1 ∧ 1 ≤ g.2 ∧ g.2 ≤ 8
def InG (G : List (Str × Nat)) (n : Str) (k : Nat) : Prop := (n, k) ∈ G
theorem NGok.rng {G : List (Str × Nat)} (h : NGok G) : Rng (InG G) := fun n k z => (h _ z).2
def spLLeaf : Sp := fun vs H Q _ => ∃ (p g : Addr) (k n : Nat) (G : List (Str × Nat)), vs = [.ref p, .ref g, .int (k : Int)] ∧ Pot H p n ∧ n ≤ 990000000 ∧ NG H g G ∧ NGok G ∧ G.length ≤ 1000 ∧ 1 ≤ k ∧ k ≤ 8 ∧
  ∀ t v H', Fit (InG G) t k → deep t = 1 → wt t = 1 → But p H H' → Pot H' p (n + 10) → RT H' t v → Q v H'
local macro_rules | `(tactic| walk_at "rd") => `(tactic| simp only [tYes, wipe, HO.lst.injEq, HO.tup.injEq, HO.dK.injEq, Nat.reduceAdd, Nat.reduceLeDiff, Nat.reduceSub, Int.reduceLE, Int.reduceLT, Int.reduceNeg, Nat.zero_add, Int.reduceEq, cut_head, cut_tail, cut_mid, cut_three, c_cast0, c_cast1, c_cast2, c_cast3, c_cast4, z_lit, List.getD_eq_getElem?_getD, Option.getD_some, tLc_eq, tFor_eq, cxOf, Cx.nox, Cx.wish, tSeq, tIfS, tOr, tAnd, tNot, tB, tCB, tCons, tVar, tC, tNil, tTest, tChain, rI0, rI, tOp, rIxS, rIxL, rIxT, tRet, tNext, tAsg, gName, tAndV, tOrV, tNotV, tIf, tIsN, tNotN, tCall, tDrop, tBM, tBM0, rEq, rNe, tRetN, tSl, tNoPart, tPart, tTupD, tLstD, tInD, rIsK, rLenS, rLenL, rLenT, rAllT, rAnyF, rInK, rInL, rSlLD, rSlTD, rSlS, rCatD, rCatTD, rAppD, rExtD, rPopD, rPopAtD, rListD, rTupleD, iLst, iTpl, iStr, rIxLH, rIxTH, gTupH, gLstH, gStar0, gStar1, gStar2, rSumH, rAddS2, tJoinS, tFmtS, tFmtI, tJoined, tJoined_nil, tJoined_cons, rIsG, app_empty, tFldD, sFldD, tMkD, tMoD, rIsC, rLenO, rEqO, HO.ins.injEq, exists_eq, tNilL, tML, tML0, tMS, iEnumH, tCallK, rStrI, tGetS, tGet1S, tGet2S, rListKD, tDc_eq, tLc2_eq, tKGet, gCons, gNil, tChain3, tPartD, tSplitD, tPar, New, Chg, rListTD, atI_0, atI_1, atI_2, atI_3, sign_inj, and_false, false_and, or_false, false_or, or_true, true_or, List.take_succ_cons, List.take_zero, List.drop_succ_cons, List.drop_zero, forall_const, exists_false, not_false_eq_true, not_true_eq_false, if_true, if_false, iRng1, KindV,
  L2.start, List.map_cons, List.map_nil, List.length_cons, List.length_nil, List.replicate, List.cons_append, List.nil_append, List.append_nil, List.set_cons_zero, List.set_cons_succ, List.getElem?_cons_zero, List.getElem?_cons_succ, Option.some.injEq, exists_eq_left', exists_eq_left, V.int.injEq, V.str.injEq, V.bl.injEq, V.ref.injEq, V.ty.injEq, true_and, and_true, List.cons.injEq, exists_and_left, exists_eq', and_assoc, scal, ofString_inj, String.reduceEq, reduceIte, decide_eq_true_eq, decide_eq_false_iff_not, Bool.not_true, Bool.not_false, Bool.not_eq_true', inV_cons, inV_nil, eqV_ss, eqV_ii, flatV, List.all_cons, List.all_nil, Bool.and_true, Bool.or_false, Bool.true_and, Bool.false_or, decide_true, decide_false, Bool.true_or, Bool.false_eq_true, reduceCtorEq, spDigit, spLValue, spLLeaf])
local macro_rules | `(tactic| walk_at "ra") => `(tactic| simp only [tYes, wipe, HO.lst.injEq, HO.tup.injEq, HO.dK.injEq, Nat.reduceAdd, Nat.reduceLeDiff, Nat.reduceSub, Int.reduceLE, Int.reduceLT, Int.reduceNeg, Nat.zero_add, Int.reduceEq, cut_head, cut_tail, cut_mid, cut_three, c_cast0, c_cast1, c_cast2, c_cast3, c_cast4, z_lit, List.getD_eq_getElem?_getD, Option.getD_some, tLc_eq, tFor_eq, cxOf, Cx.nox, Cx.wish, tSeq, tIfS, tOr, tAnd, tNot, tB, tCB, tCons, tVar, tC, tNil, tTest, tChain, rI0, rI, tOp, rIxS, rIxL, rIxT, tRet, tNext, tAsg, gName, tAndV, tOrV, tNotV, tIf, tIsN, tNotN, tCall, tDrop, tBM, tBM0, rEq, rNe, tRetN, tSl, tNoPart, tPart, tTupD, tLstD, tInD, rIsK, rLenS, rLenL, rLenT, rAllT, rAnyF, rInK, rInL, rSlLD, rSlTD, rSlS, rCatD, rCatTD, rAppD, rExtD, rPopD, rPopAtD, rListD, rTupleD, iLst, iTpl, iStr, rIxLH, rIxTH, gTupH, gLstH, gStar0, gStar1, gStar2, rSumH, rAddS2, tJoinS, tFmtS, tFmtI, tJoined, tJoined_nil, tJoined_cons, rIsG, app_empty, tFldD, sFldD, tMkD, tMoD, rIsC, rLenO, rEqO, HO.ins.injEq, exists_eq, tNilL, tML, tML0, tMS, iEnumH, tCallK, rStrI, tGetS, tGet1S, tGet2S, rListKD, tDc_eq, tLc2_eq, tKGet, gCons, gNil, tChain3, tPartD, tSplitD, tPar, New, Chg, rListTD, atI_0, atI_1, atI_2, atI_3, sign_inj, and_false, false_and, or_false, false_or, or_true, true_or, List.take_succ_cons, List.take_zero, List.drop_succ_cons, List.drop_zero, forall_const, exists_false, not_false_eq_true, not_true_eq_false, if_true, if_false, iRng1, KindV,
  L2.start, List.map_cons, List.map_nil, List.length_cons, List.length_nil, List.replicate, List.cons_append, List.nil_append, List.append_nil, List.set_cons_zero, List.set_cons_succ, List.getElem?_cons_zero, List.getElem?_cons_succ, Option.some.injEq, exists_eq_left', exists_eq_left, V.int.injEq, V.str.injEq, V.bl.injEq, V.ref.injEq, V.ty.injEq, true_and, and_true, List.cons.injEq, exists_and_left, exists_eq', and_assoc, scal, ofString_inj, String.reduceEq, reduceIte, decide_eq_true_eq, decide_eq_false_iff_not, Bool.not_true, Bool.not_false, Bool.not_eq_true', inV_cons, inV_nil, eqV_ss, eqV_ii, flatV, List.all_cons, List.all_nil, Bool.and_true, Bool.or_false, Bool.true_and, Bool.false_or, decide_true, decide_false, Bool.true_or, Bool.false_eq_true, reduceCtorEq, spDigit, spLValue, spLLeaf, *])

section
variable {P : Program} {w : World} {K : PySem.W.Frag} {mg : Str → Option Value} {base : Heap} {k : Nat}
theorem ok_law_leaf (T : TX K mg) (D : DF K mg "_law_leaf" s__law_leaf ["_law_pot_here", "_law_names", "_law_width_here"] []) (G__law_digit : FO P w K mg base "_law_digit" k ["_law_pot_here", "_law_many"] [] spDigit)
    (G__law_value : FO P w K mg base "_law_value" k ["_law_pot_here", "_law_width_here", "_law_signs"] [] spLValue) : FO P w K mg base "_law_leaf" (k + 1) ["_law_pot_here", "_law_names", "_law_width_here"] [] spLLeaf := by
  refine D.ok sc__law_leaf (fun vs H Q E h => ?_) (fun fa cdv A outer s H vs Q E hr h => ?_)
  · obtain ⟨_, _, _, _, _, rfl, _⟩ := h
    rfl
  obtain ⟨p, g, kk, n, G, rfl, hp, hn, hg, hG, hGl, hk1, hk8, q⟩ := h
  refine ⟨_, (pss_cons (ps_setLc (i := 3) (own := [("_law_name_here", 4), ("_law_wide", 5)]) (tt := _) rfl sc__law_leaf.nd rfl rfl (sw_true rfl rfl rfl (by decide +kernel)) (pi_lst (pv 1)) (blkOk_by (N := ["_law_pot_here", "_law_names", "_law_width_here", "_law_some", "_law_name_here", "_law_wide"]) (sc := defScope s__law_leaf) (by decide +kernel)) (fun _ _ _ _ _ => (pg_tpl 2 rfl (pgs_cons (pg_name (i := 4) sc__law_leaf.nd rfl (Or.inl rfl)) (pgs_cons (pg_name (i := 5) sc__law_leaf.nd rfl (Or.inl rfl)) pgs_nil)))) (fun _ _ _ _ _ => (pts_one (pt_cmpR op_eq (pv 5) (pv 2) (nomark _)))) (fun _ _ _ _ _ => (pv 4)))
    (pss_cons (ps_if (PW.pt (pw_and (pt_neNilL hr.units (pv 3)) (pw_and1 (pt_cmpR op_gt (pe_fo G__law_digit hr (pa_cons (pv 0) (pa_cons pe_int pa_nil))) pe_int (nomark _)))))
      (pss_one (ps_ret (pe_tupD (pa_cons pe_str (pa_cons (pe_ix ix_lst (pv 3) (pe_fo G__law_digit hr (pa_cons (pv 0) (pa_cons (pe_callB call_lenL rfl T.len PySem.boot_len (pa_cons (pv 3) pa_nil)) pa_nil))) (fun _ _ => rfl)) pa_nil)))))
      pss_nil)
    (pss_one (ps_ret (pe_tupD (pa_cons pe_str (pa_cons (pe_fo G__law_value hr (pa_cons (pv 0) (pa_cons (pv 2) (pa_cons pe_str pa_nil)))) pa_nil))))))), ?_⟩
  obtain ⟨xs, hx, hal⟩ := id hg
  have hlen := all2_len hal
  refine seq_i fun M hM => ?_
  walk_at "ra"
  refine lc_gen (wk_lst (xs := xs)) (fun H s => s _ _ hx) (fun i acc H => ∃ ns : List Str, acc = ns.map V.str ∧ ns.length ≤ i ∧ ∀ x ∈ ns, (x, kk) ∈ G) (by omega) (fun i acc H _ u => ?_) (fun _ _ _ _ u _ => u) (fun _ _ => ⟨[], rfl, Nat.le_refl _, fun x hx => by cases hx⟩) (fun i acc H2 Ky Kn hi s2 u ky kn => ?_) (fun D2 acc H2 s2 hD2 hl2 u => ?_)
  · obtain ⟨ns, rfl, h, _⟩ := u
    rw [List.length_map]
    exact h
  · obtain ⟨ns, rfl, hl, hm⟩ := u
    have hget : xs[i]? = some (xs.getD i .non) := by simp [hi]
    obtain ⟨g0, hg0, a, e, ha⟩ := all2_at hal hget
    have hmem := List.mem_of_getElem? hg0
    rw [e]
    have ha2 := s2 _ _ ha
    walk_at "ra"
    by_cases hc : (g0.2 : Int) = (kk : Int)
    · rw [if_pos hc]
      refine ky _ _ (Same.refl _) ⟨ns ++ [g0.1], by simp, by simp; omega, fun x hx => ?_⟩
      rcases List.mem_append.mp hx with hx | hx
      · exact hm x hx
      · rw [List.mem_singleton] at hx
        have : g0.2 = kk := by omega
        rw [hx, ← this]
        exact hmem
    · rw [if_neg hc]
      exact kn _ (Same.refl _) ⟨ns, rfl, by omega, hm⟩
  · obtain ⟨ns, rfl, hl, hm⟩ := u
    have hp2 := hp.same s2
    have hnl : ns.length ≤ 1000 := by omega
    subst hM
    refine seq_i fun M hM => ?_
    have lv : ∀ H' m, But p H H' → Pot H' p m → m ≤ n + 2 → M [some (V.ref p), some (V.ref g), some (V.int (kk : Int)), some (V.ref D2), none, none] H' := fun H' m b3 hp3 hm3 => by
      subst hM
      walk_at "rd"
      refine ⟨kk, rfl, m, hp3, by omega, hk1, hk8, fun v H4 hv b4 hp4 p5 H5 hp5 s5 hl5 => ?_⟩
      exact q (.is v) _ H5 hv rfl rfl ((b3.trans b4).same s5) ((hp4.same s5).up (by omega)) ⟨p5, rfl, hl5⟩
    walk_at "rd"
    refine ⟨_, hl2, ns.map PyData.str, fun _ _ => dp_strs ns, shaped_strs fun x hx => asc_name (hG _ (hm x hx)).1, fun H3 s3 => ?_⟩
    cases ns with
    | nil =>
      rw [if_neg (by decide)]
      exact lv H3 n (But.of (s2.trans s3)) (hp2.same s3) (by omega)
    | cons n0 nr =>
      rw [if_pos (show (List.map V.str (n0 :: nr)).isEmpty = false from rfl)]
      refine ⟨n, hp2.same s3, by omega, fun e H4 he b4 hp4 => ?_⟩
      have b24 := (But.of (a := p) (s2.trans s3)).trans b4
      by_cases h0 : 0 < (e : Int)
      · rw [if_pos h0]
        have hne2 : D2 ≠ p := fun z => by obtain ⟨l, h⟩ := hp.lst; rw [← z, hD2] at h; cases h
        have h4 := b4 _ _ hne2 (s3 _ _ hl2)
        refine ⟨_, h4, n + 1, hp4, by omega, by simp; omega, by simp at hnl ⊢; omega, fun e2 H5 he2 b5 hp5 => ⟨_, b5 _ _ hne2 h4, ?_⟩⟩
        have he' : e2 < (n0 :: nr).length := by rw [List.length_map] at he2; omega
        refine ⟨.str (n0 :: nr)[e2], atI_nat (by rw [List.getElem?_map, List.getElem?_eq_getElem he']; rfl), fun p6 H6 hp6 s6 hl6 => ?_⟩
        have hin := hm _ (List.getElem_mem he')
        exact q (.of (n0 :: nr)[e2]) _ H6 ⟨(hG _ hin).1, hin⟩ rfl rfl ((b24.trans b5).same s6) ((hp5.same s6).up (by omega)) ⟨p6, rfl, hl6⟩
      · rw [if_neg h0]
        exact lv H4 (n + 1) b24 hp4 (by omega)
end
end K37
set_option maxHeartbeats 4000000
namespace K37
open PySem L2 TL
open PyProof.Rows hiding St
theorem sc__law_term : FnScope ["_law_pot_here", "_law_names", "_law_width_here", "_law_deep_here", "_law_way", "_law_other", "_law_word", "_law_when", "_law_cut", "_law_low"] ["_law_pot_here", "_law_names", "_law_width_here", "_law_deep_here"] (defScope s__law_term) := ⟨rfl, rfl, rfl, by decide +kernel, rfl, by decide +kernel, by decide +kernel⟩

theorem if_or {c d : Prop} [Decidable c] [Decidable d] {X Y : Prop} (hx : c ∨ d → X) (hy : ¬c → ¬d → Y) : if c then X else if d then X else Y := by
  by_cases h : c
  · rw [if_pos h]; exact hx (.inl h)
  · rw [if_neg h]
    by_cases h' : d
    · rw [if_pos h']; exact hx (.inr h')
    · rw [if_neg h']; exact hy h h'
theorem if_and {c d : Prop} [Decidable c] [Decidable d] {X Y : Prop} (hx : c → d → X) (hy : ¬(c ∧ d) → Y) : if c then (if d then X else Y) else Y := by
  by_cases h : c
  · rw [if_pos h]
    by_cases h' : d
    · rw [if_pos h']; exact hx h h'
    · rw [if_neg h']; exact hy fun z => h' z.2
  · rw [if_neg h]; exact hy fun z => h z.1
theorem Pot.tk {H H' : Hp} {p : Addr} {n : Nat} (h : Pot H p n) (b : But p H H') : Tk H H' := by
  obtain ⟨l, e⟩ := h.lst
  exact b.tk e
theorem Pot.fresh {H : Hp} {p a : Addr} {n : Nat} (h : Pot H p n) (ha : H a = none) : a ≠ p := fun z => by
  obtain ⟨l, e⟩ := h.lst
  rw [← z, ha] at e
  cases e
def Wd : Nat → Nat
  | 0 => 1
  | d + 1 => 1 + 3 * Wd d
def Cd : Nat → Nat
  | 0 => 12
  | d + 1 => 4 + 3 * Cd d
theorem Cd_ge : ∀ d, 12 ≤ Cd d
  | 0 => Nat.le_refl _
  | d + 1 => by
    have := Cd_ge d
    simp only [Cd]
    omega
theorem Wd_ge : ∀ d, 1 ≤ Wd d
  | 0 => Nat.le_refl _
  | d + 1 => by simp only [Wd]; omega
def spLTerm (N : Nat) : Sp := fun vs H Q _ => ∃ (p g : Addr) (k d n : Nat) (G : List (Str × Nat)), vs = [.ref p, .ref g, .int (k : Int), .int (d : Int)] ∧ d < N ∧ Pot H p n ∧ n + Cd d ≤ 980000000 ∧ NG H g G ∧ NGok G ∧ G.length ≤ 1000 ∧ 1 ≤ k ∧ k ≤ 8 ∧
  ∀ t v H', Fit (InG G) t k → deep t ≤ d + 1 → wt t ≤ Wd d → But p H H' → Pot H' p (n + Cd d) → RT H' t v → Q v H'
local macro_rules | `(tactic| walk_at "rd") => `(tactic| simp only [tYes, wipe, HO.lst.injEq, HO.tup.injEq, HO.dK.injEq, Nat.reduceAdd, Nat.reduceLeDiff, Nat.reduceSub, Int.reduceLE, Int.reduceLT, Int.reduceNeg, Nat.zero_add, Int.reduceEq, cut_head, cut_tail, cut_mid, cut_three, c_cast0, c_cast1, c_cast2, c_cast3, c_cast4, z_lit, List.getD_eq_getElem?_getD, Option.getD_some, tLc_eq, tFor_eq, cxOf, Cx.nox, Cx.wish, tSeq, tIfS, tOr, tAnd, tNot, tB, tCB, tCons, tVar, tC, tNil, tTest, tChain, rI0, rI, tOp, rIxS, rIxL, rIxT, tRet, tNext, tAsg, gName, tAndV, tOrV, tNotV, tIf, tIsN, tNotN, tCall, tDrop, tBM, tBM0, rEq, rNe, tRetN, tSl, tNoPart, tPart, tTupD, tLstD, tInD, rIsK, rLenS, rLenL, rLenT, rAllT, rAnyF, rInK, rInL, rSlLD, rSlTD, rSlS, rCatD, rCatTD, rAppD, rExtD, rPopD, rPopAtD, rListD, rTupleD, iLst, iTpl, iStr, rIxLH, rIxTH, gTupH, gLstH, gStar0, gStar1, gStar2, rSumH, rAddS2, tJoinS, tFmtS, tFmtI, tJoined, tJoined_nil, tJoined_cons, rIsG, app_empty, tFldD, sFldD, tMkD, tMoD, rIsC, rLenO, rEqO, HO.ins.injEq, exists_eq, tNilL, tML, tML0, tMS, iEnumH, tCallK, rStrI, tGetS, tGet1S, tGet2S, rListKD, tDc_eq, tLc2_eq, tKGet, gCons, gNil, tChain3, tPartD, tSplitD, tPar, New, Chg, rListTD, atI_0, atI_1, atI_2, atI_3, sign_inj, and_false, false_and, or_false, false_or, or_true, true_or, List.take_succ_cons, List.take_zero, List.drop_succ_cons, List.drop_zero, forall_const, exists_false, not_false_eq_true, not_true_eq_false, if_true, if_false, iRng1, KindV,
  L2.start, List.map_cons, List.map_nil, List.length_cons, List.length_nil, List.replicate, List.cons_append, List.nil_append, List.append_nil, List.set_cons_zero, List.set_cons_succ, List.getElem?_cons_zero, List.getElem?_cons_succ, Option.some.injEq, exists_eq_left', exists_eq_left, V.int.injEq, V.str.injEq, V.bl.injEq, V.ref.injEq, V.ty.injEq, true_and, and_true, List.cons.injEq, exists_and_left, exists_eq', and_assoc, scal, ofString_inj, String.reduceEq, reduceIte, decide_eq_true_eq, decide_eq_false_iff_not, Bool.not_true, Bool.not_false, Bool.not_eq_true', inV_cons, inV_nil, eqV_ss, eqV_ii, flatV, List.all_cons, List.all_nil, Bool.and_true, Bool.or_false, Bool.true_and, Bool.false_or, decide_true, decide_false, Bool.true_or, Bool.false_eq_true, reduceCtorEq, spDigit, spLLeaf, spLTerm])
local macro_rules | `(tactic| walk_at "ra") => `(tactic| simp only [tYes, wipe, HO.lst.injEq, HO.tup.injEq, HO.dK.injEq, Nat.reduceAdd, Nat.reduceLeDiff, Nat.reduceSub, Int.reduceLE, Int.reduceLT, Int.reduceNeg, Nat.zero_add, Int.reduceEq, cut_head, cut_tail, cut_mid, cut_three, c_cast0, c_cast1, c_cast2, c_cast3, c_cast4, z_lit, List.getD_eq_getElem?_getD, Option.getD_some, tLc_eq, tFor_eq, cxOf, Cx.nox, Cx.wish, tSeq, tIfS, tOr, tAnd, tNot, tB, tCB, tCons, tVar, tC, tNil, tTest, tChain, rI0, rI, tOp, rIxS, rIxL, rIxT, tRet, tNext, tAsg, gName, tAndV, tOrV, tNotV, tIf, tIsN, tNotN, tCall, tDrop, tBM, tBM0, rEq, rNe, tRetN, tSl, tNoPart, tPart, tTupD, tLstD, tInD, rIsK, rLenS, rLenL, rLenT, rAllT, rAnyF, rInK, rInL, rSlLD, rSlTD, rSlS, rCatD, rCatTD, rAppD, rExtD, rPopD, rPopAtD, rListD, rTupleD, iLst, iTpl, iStr, rIxLH, rIxTH, gTupH, gLstH, gStar0, gStar1, gStar2, rSumH, rAddS2, tJoinS, tFmtS, tFmtI, tJoined, tJoined_nil, tJoined_cons, rIsG, app_empty, tFldD, sFldD, tMkD, tMoD, rIsC, rLenO, rEqO, HO.ins.injEq, exists_eq, tNilL, tML, tML0, tMS, iEnumH, tCallK, rStrI, tGetS, tGet1S, tGet2S, rListKD, tDc_eq, tLc2_eq, tKGet, gCons, gNil, tChain3, tPartD, tSplitD, tPar, New, Chg, rListTD, atI_0, atI_1, atI_2, atI_3, sign_inj, and_false, false_and, or_false, false_or, or_true, true_or, List.take_succ_cons, List.take_zero, List.drop_succ_cons, List.drop_zero, forall_const, exists_false, not_false_eq_true, not_true_eq_false, if_true, if_false, iRng1, KindV,
  L2.start, List.map_cons, List.map_nil, List.length_cons, List.length_nil, List.replicate, List.cons_append, List.nil_append, List.append_nil, List.set_cons_zero, List.set_cons_succ, List.getElem?_cons_zero, List.getElem?_cons_succ, Option.some.injEq, exists_eq_left', exists_eq_left, V.int.injEq, V.str.injEq, V.bl.injEq, V.ref.injEq, V.ty.injEq, true_and, and_true, List.cons.injEq, exists_and_left, exists_eq', and_assoc, scal, ofString_inj, String.reduceEq, reduceIte, decide_eq_true_eq, decide_eq_false_iff_not, Bool.not_true, Bool.not_false, Bool.not_eq_true', inV_cons, inV_nil, eqV_ss, eqV_ii, flatV, List.all_cons, List.all_nil, Bool.and_true, Bool.or_false, Bool.true_and, Bool.false_or, decide_true, decide_false, Bool.true_or, Bool.false_eq_true, reduceCtorEq, spDigit, spLLeaf, spLTerm, *])

section
variable {P : Program} {w : World} {K : PySem.W.Frag} {mg : Str → Option Value} {base : Heap} {k : Nat}
theorem ok_law_term {N : Nat} (T : TX K mg) (D : DF K mg "_law_term" s__law_term ["_law_pot_here", "_law_names", "_law_width_here", "_law_deep_here"] []) (G__law_digit : FO P w K mg base "_law_digit" k ["_law_pot_here", "_law_many"] [] spDigit)
    (G__law_leaf : FO P w K mg base "_law_leaf" k ["_law_pot_here", "_law_names", "_law_width_here"] [] spLLeaf) (G__law_term : FO P w K mg base "_law_term" k ["_law_pot_here", "_law_names", "_law_width_here", "_law_deep_here"] [] (spLTerm N)) :
    FO P w K mg base "_law_term" (k + 1) ["_law_pot_here", "_law_names", "_law_width_here", "_law_deep_here"] [] (spLTerm (N + 1)) := by
  refine D.ok sc__law_term (fun vs H Q E h => ?_) (fun fa cdv A outer s H vs Q E hr h => ?_)
  · obtain ⟨_, _, _, _, _, _, rfl, _⟩ := h
    rfl
  obtain ⟨p, g, kk, d, n, G, rfl, hdN, hp, hn, hg, hG, hGl, hk1, hk8, q⟩ := h
  refine ⟨_, (pss_cons (ps_set (i := 4) sc__law_term.nd rfl (Or.inl rfl) (pe_fo G__law_digit hr (pa_cons (pv 0) (pa_cons pe_int pa_nil))))
    (pss_cons (ps_set (i := 5) sc__law_term.nd rfl (Or.inl rfl) (pe_op op_add (pv 2) (pe_fo G__law_digit hr (pa_cons (pv 0) (pa_cons (pe_op op_sub pe_int (pv 2)) pa_nil)))))
    (pss_cons (ps_if (PW.pt (pw_or (pt_cmpR op_eq (pv 3) pe_int (nomark _)) (pw_or1 (pt_cmpR op_lt (pv 4) pe_int (nomark _)))))
      (pss_one (ps_ret (pe_fo G__law_leaf hr (pa_cons (pv 0) (pa_cons (pv 1) (pa_cons (pv 2) pa_nil))))))
      pss_nil)
    (pss_cons (ps_if (pt_cmpR op_eq (pv 4) pe_int (nomark _))
      (pss_one (ps_ret (pe_tupD (pa_cons pe_str (pa_cons (pe_fo G__law_term hr (pa_cons (pv 0) (pa_cons (pv 1) (pa_cons (pv 2) (pa_cons (pe_op op_sub (pv 3) pe_int) pa_nil))))) pa_nil)))))
      pss_nil)
    (pss_cons (ps_if (pt_cmpR op_lt (pv 4) pe_int (nomark _))
      (pss_cons (ps_set (i := 6) sc__law_term.nd rfl (Or.inl rfl) (pe_ix ix_lst (pe_lstD (pa_cons pe_str (pa_cons pe_str (pa_cons pe_str (pa_cons pe_str pa_nil))))) (pe_fo G__law_digit hr (pa_cons (pv 0) (pa_cons pe_int pa_nil))) (fun _ _ => rfl)))
    (pss_one (ps_ret (pe_tupD (pa_cons (pv 6) (pa_cons (pe_fo G__law_term hr (pa_cons (pv 0) (pa_cons (pv 1) (pa_cons (pv 2) (pa_cons (pe_op op_sub (pv 3) pe_int) pa_nil))))) (pa_cons (pe_fo G__law_term hr (pa_cons (pv 0) (pa_cons (pv 1) (pa_cons (pv 2) (pa_cons (pe_op op_sub (pv 3) pe_int) pa_nil))))) pa_nil)))))))
      pss_nil)
    (pss_cons (ps_if (pt_cmpR op_eq (pv 4) pe_int (nomark _))
      (pss_cons (ps_set (i := 7) sc__law_term.nd rfl (Or.inl rfl) (pe_fo G__law_term hr (pa_cons (pv 0) (pa_cons (pv 1) (pa_cons pe_int (pa_cons (pe_op op_sub (pv 3) pe_int) pa_nil))))))
    (pss_one (ps_ret (pe_tupD (pa_cons pe_str (pa_cons (pv 7) (pa_cons (pe_fo G__law_term hr (pa_cons (pv 0) (pa_cons (pv 1) (pa_cons (pv 2) (pa_cons (pe_op op_sub (pv 3) pe_int) pa_nil))))) (pa_cons (pe_fo G__law_term hr (pa_cons (pv 0) (pa_cons (pv 1) (pa_cons (pv 2) (pa_cons (pe_op op_sub (pv 3) pe_int) pa_nil))))) pa_nil))))))))
      pss_nil)
    (pss_cons (ps_if (PW.pt (pw_and (pt_cmpR op_eq (pv 4) pe_int (nomark _)) (pw_and1 (pt_cmpR op_gt (pv 2) pe_int (nomark _)))))
      (pss_cons (ps_set (i := 8) sc__law_term.nd rfl (Or.inl rfl) (pe_op op_add pe_int (pe_fo G__law_digit hr (pa_cons (pv 0) (pa_cons (pe_op op_sub (pv 2) pe_int) pa_nil)))))
    (pss_one (ps_ret (pe_tupD (pa_cons pe_str (pa_cons (pe_fo G__law_term hr (pa_cons (pv 0) (pa_cons (pv 1) (pa_cons (pv 8) (pa_cons (pe_op op_sub (pv 3) pe_int) pa_nil))))) (pa_cons (pe_fo G__law_term hr (pa_cons (pv 0) (pa_cons (pv 1) (pa_cons (pe_op op_sub (pv 2) (pv 8)) (pa_cons (pe_op op_sub (pv 3) pe_int) pa_nil))))) pa_nil)))))))
      pss_nil)
    (pss_cons (ps_if (PW.pt (pw_or (pt_cmpR op_eq (pv 4) pe_int (nomark _)) (pw_or1 (pt_cmpR op_gt (pv 2) pe_int (nomark _)))))
      (pss_cons (ps_set (i := 9) sc__law_term.nd rfl (Or.inl rfl) (pe_fo G__law_digit hr (pa_cons (pv 0) (pa_cons (pe_op op_add (pe_op op_sub (pv 5) (pv 2)) pe_int) pa_nil))))
    (pss_one (ps_ret (pe_tupD (pa_cons pe_str (pa_cons (pe_fo G__law_term hr (pa_cons (pv 0) (pa_cons (pv 1) (pa_cons (pv 5) (pa_cons (pe_op op_sub (pv 3) pe_int) pa_nil))))) (pa_cons (pe_op op_sub (pe_op op_add (pv 9) (pv 2)) pe_int) (pa_cons (pv 9) pa_nil))))))))
      pss_nil)
    (pss_cons (ps_set (i := 6) sc__law_term.nd rfl (Or.inl rfl) (pe_ix ix_lst (pe_lstD (pa_cons pe_str (pa_cons pe_str (pa_cons pe_str (pa_cons pe_str pa_nil))))) (pe_fo G__law_digit hr (pa_cons (pv 0) (pa_cons pe_int pa_nil))) (fun _ _ => rfl)))
    (pss_cons (ps_if (pt_inD (pv 6) (pa_cons pe_str (pa_cons pe_str pa_nil)))
      (pss_one (ps_ret (pe_tupD (pa_cons (pv 6) (pa_cons (pe_fo G__law_term hr (pa_cons (pv 0) (pa_cons (pv 1) (pa_cons (pv 5) (pa_cons (pe_op op_sub (pv 3) pe_int) pa_nil))))) pa_nil)))))
      pss_nil)
    (pss_one (ps_ret (pe_tupD (pa_cons (pv 6) (pa_cons (pe_fo G__law_term hr (pa_cons (pv 0) (pa_cons (pv 1) (pa_cons (pv 5) (pa_cons (pe_op op_sub (pv 3) pe_int) pa_nil))))) (pa_cons (pe_fo G__law_term hr (pa_cons (pv 0) (pa_cons (pv 1) (pa_cons (pv 5) (pa_cons (pe_op op_sub (pv 3) pe_int) pa_nil))))) pa_nil)))))))))))))))), ?_⟩
  have hcd := Cd_ge d
  refine seq_i fun M hM => ?_
  walk_at "rd"
  refine ⟨n, hp, by omega, fun wy H1 hwy b1 hp1 => ?_⟩
  subst hM
  refine seq_i fun M hM => ?_
  walk_at "rd"
  refine ⟨n + 1, hp1, by omega, by omega, by omega, fun o H2 ho b2 hp2 => ?_⟩
  have b02 := b1.trans b2
  have hg2 := hg.but hp b02
  obtain ⟨way, hway⟩ : ∃ way : Int, way = (wy : Int) := ⟨_, rfl⟩
  rw [← hway]
  subst hM
  refine seq_i fun M hM => ?_
  walk_at "rd"
  refine if_or (fun _ => ?_) fun hd0 hw3 => ?_
  · have hwd := Wd_ge d
    exact ⟨kk, rfl, n + 2, hp2, by omega, G, hg2, hG, hGl, hk1, hk8, fun t v H3 hf hd hw b3 hp3 hv => q t v H3 hf (by omega) (by omega) (b02.trans b3) (hp3.up (by omega)) hv⟩
  obtain ⟨d', rfl⟩ : ∃ d', d = d' + 1 := ⟨d - 1, by omega⟩
  have hdd : ((d' + 1 : Nat) : Int) - 1 = (d' : Int) := by omega
  have hCd : Cd (d' + 1) = 4 + 3 * Cd d' := rfl
  have hWd : Wd (d' + 1) = 1 + 3 * Wd d' := rfl
  have hcd' := Cd_ge d'
  have hwd' := Wd_ge d'
  -- not
  subst hM
  refine seq_i fun M hM => ?_
  walk_at "rd"
  by_cases hw : way = 3
  · rw [if_pos hw]
    refine ⟨kk, rfl, d', hdd, by omega, n + 2, hp2, by omega, G, hg2, hG, hGl, hk1, hk8, fun t v H3 hf hd hw b3 hp3 hv p4 H4 hp4 s4 hl4 => ?_⟩
    exact q (.u "not" t) _ H4 (.inl ⟨rfl, hf⟩) (by simp only [deep]; omega) (by simp only [wt]; omega) ((b02.trans b3).same s4) ((hp3.same s4).up (by omega)) ⟨p4, v, rfl, hl4, RT.tk (same_tk s4) _ _ hv⟩
  rw [if_neg hw]
  -- and, or, xor, plus
  subst hM
  refine seq_i fun M hM => ?_
  walk_at "rd"
  by_cases hw : way < 6
  · rw [if_pos hw]
    intro p3 H3 hq3 s3 hl3
    refine ⟨n + 2, hp2.same s3, by omega, fun e H4 he b4 hp4 => ?_⟩
    have h4 := b4 _ _ (hp2.fresh hq3) hl3
    obtain ⟨wd, hwd, hbin⟩ : ∃ wd : Str, [V.str (Str.ofString "and"), V.str (Str.ofString "or"), V.str (Str.ofString "xor"), V.str (Str.ofString "plus")][e]? = some (.str wd) ∧ isBin wd := by
      have : e = 0 ∨ e = 1 ∨ e = 2 ∨ e = 3 := by omega
      rcases this with rfl | rfl | rfl | rfl
      · exact ⟨_, rfl, .inl rfl⟩
      · exact ⟨_, rfl, .inr (.inl rfl)⟩
      · exact ⟨_, rfl, .inr (.inr (.inl rfl))⟩
      · exact ⟨_, rfl, .inr (.inr (.inr rfl))⟩
    have hg4 := (hg2.same s3).but (hp2.same s3) b4
    refine ⟨_, h4, _, atI_nat hwd, kk, rfl, d', hdd, by omega, n + 3, hp4, by omega, G, hg4, hG, hGl, hk1, hk8, fun t1 v1 H5 hf1 hd1 hw1 b5 hp5 hv1 => ⟨kk, rfl, d', hdd, by omega, _, hp5, by omega, G, hg4.but hp4 b5, hG, hGl, hk1, hk8, fun t2 v2 H6 hf2 hd2 hw2 b6 hp6 hv2 p7 H7 hp7 s7 hl7 => ?_⟩⟩
    exact q (.b wd t1 t2) _ H7 (.inl ⟨hbin, hf1, hf2⟩) (by simp only [deep]; omega) (by simp only [wt]; omega) (((((b02.same s3).trans b4).trans b5).trans b6).same s7) ((hp6.same s7).up (by omega)) ⟨p7, v1, v2, rfl, hl7, RT.tk ((hp5.tk b6).trans (same_tk s7)) _ _ hv1, RT.tk (same_tk s7) _ _ hv2⟩
  rw [if_neg hw]
  -- pick
  subst hM
  refine seq_i fun M hM => ?_
  walk_at "rd"
  by_cases hw : way = 6
  · rw [if_pos hw]
    refine ⟨1, rfl, d', hdd, by omega, n + 2, hp2, by omega, G, hg2, hG, hGl, Nat.le_refl 1, by decide, fun t1 v1 H3 hf1 hd1 hw1 b3 hp3 hv1 => ?_⟩
    have hg3 := hg2.but hp2 b3
    refine ⟨kk, rfl, d', hdd, by omega, _, hp3, by omega, G, hg3, hG, hGl, hk1, hk8, fun t2 v2 H4 hf2 hd2 hw2 b4 hp4 hv2 => ⟨kk, rfl, d', hdd, by omega, _, hp4, by omega, G, hg3.but hp3 b4, hG, hGl, hk1, hk8, fun t3 v3 H5 hf3 hd3 hw3 b5 hp5 hv3 p6 H6 hp6 s6 hl6 => ?_⟩⟩
    have k56 := (hp4.tk b5).trans (same_tk s6)
    exact q (.p t1 t2 t3) _ H6 ⟨hf1, hf2, hf3⟩ (by simp only [deep]; omega) (by simp only [wt]; omega) ((((b02.trans b3).trans b4).trans b5).same s6) ((hp5.same s6).up (by omega)) ⟨p6, v1, v2, v3, rfl, hl6, RT.tk ((hp3.tk b4).trans k56) _ _ hv1, RT.tk k56 _ _ hv2, RT.tk (same_tk s6) _ _ hv3⟩
  rw [if_neg hw]
  -- join
  subst hM
  refine seq_i fun M hM => ?_
  have aj : M [some (V.ref p), some (V.ref g), some (V.int (kk : Int)), some (V.int ((d' + 1 : Nat) : Int)), some (V.int way), some (V.int ((kk : Int) + (o : Int))), none, none, none, none] H2 := by
    subst hM
    refine seq_i fun M hM => ?_
    have ap : (kk : Int) = 1 → M [some (V.ref p), some (V.ref g), some (V.int (kk : Int)), some (V.int ((d' + 1 : Nat) : Int)), some (V.int way), some (V.int ((kk : Int) + (o : Int))), none, none, none, none] H2 := fun hk => by
      subst hM
      walk_at "rd"
      intro p3 H3 hq3 s3 hl3
      refine ⟨n + 2, hp2.same s3, by omega, fun e H4 he b4 hp4 => ?_⟩
      have h4 := b4 _ _ (hp2.fresh hq3) hl3
      have hg4 := (hg2.same s3).but (hp2.same s3) b4
      have he4 : e = 0 ∨ e = 1 ∨ e = 2 ∨ e = 3 := by omega
      have hko : 1 ≤ kk + o ∧ kk + o ≤ 8 := by omega
      have hkk : kk = 1 := by omega
      rcases he4 with rfl | rfl | rfl | rfl
      · refine ⟨_, h4, .str (Str.ofString "same"), rfl, rfl, fun H5 s5 => ?_⟩
        rw [if_neg (by decide +kernel)]
        exact ⟨kk + o, by omega, d', hdd, by omega, n + 3, hp4.same s5, by omega, G, hg4.same s5, hG, hGl, hko.1, hko.2, fun t1 v1 H6 hf1 hd1 hw1 b6 hp6 hv1 => ⟨kk + o, by omega, d', hdd, by omega, _, hp6, by omega, G, (hg4.same s5).but (hp4.same s5) b6, hG, hGl, hko.1, hko.2, fun t2 v2 H7 hf2 hd2 hw2 b7 hp7 hv2 p8 H8 hp8 s8 hl8 =>
          q (.b "same" t1 t2) _ H8 (.inr (.inl ⟨.inl rfl, hkk, kk + o, hf1, hf2⟩)) (by simp only [deep]; omega) (by simp only [wt]; omega) (((((b02.same s3).trans b4).same s5).trans b6).trans b7 |>.same s8) ((hp7.same s8).up (by omega)) ⟨p8, v1, v2, rfl, hl8, RT.tk ((hp6.tk b7).trans (same_tk s8)) _ _ hv1, RT.tk (same_tk s8) _ _ hv2⟩⟩⟩
      · refine ⟨_, h4, .str (Str.ofString "less"), rfl, rfl, fun H5 s5 => ?_⟩
        rw [if_neg (by decide +kernel)]
        exact ⟨kk + o, by omega, d', hdd, by omega, n + 3, hp4.same s5, by omega, G, hg4.same s5, hG, hGl, hko.1, hko.2, fun t1 v1 H6 hf1 hd1 hw1 b6 hp6 hv1 => ⟨kk + o, by omega, d', hdd, by omega, _, hp6, by omega, G, (hg4.same s5).but (hp4.same s5) b6, hG, hGl, hko.1, hko.2, fun t2 v2 H7 hf2 hd2 hw2 b7 hp7 hv2 p8 H8 hp8 s8 hl8 =>
          q (.b "less" t1 t2) _ H8 (.inr (.inl ⟨.inr rfl, hkk, kk + o, hf1, hf2⟩)) (by simp only [deep]; omega) (by simp only [wt]; omega) (((((b02.same s3).trans b4).same s5).trans b6).trans b7 |>.same s8) ((hp7.same s8).up (by omega)) ⟨p8, v1, v2, rfl, hl8, RT.tk ((hp6.tk b7).trans (same_tk s8)) _ _ hv1, RT.tk (same_tk s8) _ _ hv2⟩⟩⟩
      · refine ⟨_, h4, .str (Str.ofString "any"), rfl, rfl, fun H5 s5 => ?_⟩
        rw [if_pos (by decide +kernel)]
        exact ⟨kk + o, by omega, d', hdd, by omega, n + 3, hp4.same s5, by omega, G, hg4.same s5, hG, hGl, hko.1, hko.2, fun t1 v1 H6 hf1 hd1 hw1 b6 hp6 hv1 p8 H8 hp8 s8 hl8 =>
          q (.u "any" t1) _ H8 (.inr ⟨.inl rfl, hkk, kk + o, hf1⟩) (by simp only [deep]; omega) (by simp only [wt]; omega) (((((b02.same s3).trans b4).same s5).trans b6).same s8) ((hp6.same s8).up (by omega)) ⟨p8, v1, rfl, hl8, RT.tk (same_tk s8) _ _ hv1⟩⟩
      · refine ⟨_, h4, .str (Str.ofString "all"), rfl, rfl, fun H5 s5 => ?_⟩
        rw [if_pos (by decide +kernel)]
        exact ⟨kk + o, by omega, d', hdd, by omega, n + 3, hp4.same s5, by omega, G, hg4.same s5, hG, hGl, hko.1, hko.2, fun t1 v1 H6 hf1 hd1 hw1 b6 hp6 hv1 p8 H8 hp8 s8 hl8 =>
          q (.u "all" t1) _ H8 (.inr ⟨.inr rfl, hkk, kk + o, hf1⟩) (by simp only [deep]; omega) (by simp only [wt]; omega) (((((b02.same s3).trans b4).same s5).trans b6).same s8) ((hp6.same s8).up (by omega)) ⟨p8, v1, rfl, hl8, RT.tk (same_tk s8) _ _ hv1⟩⟩
    walk_at "rd"
    refine if_or (fun _ => ?_) fun _ h1 => ap (by omega)
    refine ⟨n + 2, hp2, by omega, by omega, by omega, fun e H3 he b3 hp3 => ⟨kk + o, by omega, d', hdd, by omega, n + 3, hp3, by omega, G, hg2.but hp2 b3, hG, hGl, by omega, by omega, fun t1 v1 H4 hf1 hd1 hw1 b4 hp4 hv1 p5 H5 hp5 s5 hl5 => ?_⟩⟩
    have ehi : (e : Int) + (kk : Int) - 1 = ((e + kk - 1 : Nat) : Int) := by omega
    rw [ehi] at hl5
    exact q (.t t1 (e + kk - 1) e) _ H5 ⟨kk + o, hf1, by omega, by omega, by omega⟩ (by simp only [deep]; omega) (by simp only [wt]; omega) (((b02.trans b3).trans b4).same s5) ((hp4.same s5).up (by omega)) ⟨p5, v1, rfl, hl5, RT.tk (same_tk s5) _ _ hv1⟩
  walk_at "rd"
  refine if_and (fun _ h1 => ?_) fun _ => aj
  refine ⟨n + 2, hp2, by omega, by omega, by omega, fun e H3 he b3 hp3 => ⟨1 + e, by omega, d', hdd, by omega, n + 3, hp3, by omega, G, hg2.but hp2 b3, hG, hGl, by omega, by omega, fun t1 v1 H4 hf1 hd1 hw1 b4 hp4 hv1 => ⟨kk - (1 + e), by omega, d', hdd, by omega, _, hp4, by omega, G, (hg2.but hp2 b3).but hp3 b4, hG, hGl, by omega, by omega, fun t2 v2 H5 hf2 hd2 hw2 b5 hp5 hv2 p6 H6 hp6 s6 hl6 => ?_⟩⟩⟩
  exact q (.b "join" t1 t2) _ H6 (.inr (.inr ⟨rfl, 1 + e, kk - (1 + e), by omega, hk8, hf1, hf2⟩)) (by simp only [deep]; omega) (by simp only [wt]; omega) ((((b02.trans b3).trans b4).trans b5).same s6) ((hp5.same s6).up (by omega)) ⟨p6, v1, v2, rfl, hl6, RT.tk ((hp4.tk b5).trans (same_tk s6)) _ _ hv1, RT.tk (same_tk s6) _ _ hv2⟩
end
end K37
set_option maxHeartbeats 4000000
namespace K37
open PySem L2 TL
open PyProof.Rows hiding St
theorem sc__law_sources : FnScope ["_law_pot_here", "_law_taken", "_law_found", "_law_k", "_law_width_here"] ["_law_pot_here", "_law_taken"] (defScope s__law_sources) := ⟨rfl, rfl, rfl, by decide +kernel, rfl, by decide +kernel, by decide +kernel⟩

/-- inputs and kept signals alone -/
def SrcOk (s : Sg) : Prop := (∃ n k, s = .inp n k) ∨ ∃ n k v, s = .kept n k v ∧ ValOk v k
def SgN (s : Sg) : Prop := NameOk s.name ∧ 1 ≤ s.wd ∧ s.wd ≤ 8
structure Srcs (sg : List Sg) : Prop where
  so : ∀ s ∈ sg, SrcOk s ∧ SgN s
  nd : (sg.map Sg.name).Nodup
def Nms (H : Hp) (t : Addr) (ns : List Str) : Prop := H t = some (.lst (ns.map V.str)) ∧ ns.Nodup ∧ ∀ x ∈ ns, NameOk x
theorem Nms.snoc {H : Hp} {t : Addr} {ns : List Str} {H' : Hp} {x : Str} (h : Nms H t ns) (hl : H' t = some (.lst ((ns ++ [x]).map V.str))) (hx : NameOk x) (hn : x ∉ ns) : Nms H' t (ns ++ [x]) := by
  refine ⟨hl, ?_, fun y hy => ?_⟩
  · rw [List.nodup_append]
    refine ⟨h.2.1, by simp, fun a ha b hb => ?_⟩
    rw [List.mem_singleton] at hb
    rw [hb]
    intro z
    exact hn (z ▸ ha)
  · rcases List.mem_append.mp hy with hy | hy
    · exact h.2.2 y hy
    · rw [List.mem_singleton] at hy
      rw [hy]
      exact hx
theorem LS.keep {H H' : Hp} {a : Addr} {sg : List Sg} (h : LS H a sg) (k : Tk H H') (l : ∀ o, H a = some o → H' a = some o) : LS H' a sg := by
  obtain ⟨xs, h1, h2⟩ := h
  exact ⟨xs, l _ h1, all2_mono (fun _ _ z => RS.tk k z) h2⟩
theorem Srcs.snoc {sg : List Sg} {s : Sg} (h : Srcs sg) (h1 : SrcOk s) (h2 : SgN s) (hn : s.name ∉ sg.map Sg.name) : Srcs (sg ++ [s]) := by
  refine ⟨fun x hx => ?_, ?_⟩
  · rcases List.mem_append.mp hx with hx | hx
    · exact h.so x hx
    · rw [List.mem_singleton] at hx
      rw [hx]
      exact ⟨h1, h2⟩
  · rw [List.map_append, List.map_cons, List.map_nil, List.nodup_append]
    refine ⟨h.nd, by simp, fun a ha b hb => ?_⟩
    rw [List.mem_singleton] at hb
    rw [hb]
    intro z
    exact hn (z ▸ ha)
theorem two_lists {H : Hp} {p t : Addr} {n : Nat} {ns : List Str} (hp : Pot H p n) (ht : H t = some (.lst (ns.map V.str))) : ∀ a ∈ [p, t], ∃ l, H a = some (.lst l) := fun a ha => by
  rcases List.mem_cons.mp ha with rfl | ha
  · exact hp.lst
  · rw [List.mem_singleton] at ha
    rw [ha]
    exact ⟨_, ht⟩
def spLSources : Sp := fun vs H Q _ => ∃ (p t : Addr) (n : Nat), vs = [.ref p, .ref t] ∧ Pot H p n ∧ n ≤ 970000000 ∧ H t = some (.lst []) ∧
  ∀ sg a H', Srcs sg → sg ≠ [] → sg.length ≤ 6 → H a = none → Buts [p, t] H H' → Pot H' p (n + 300) → H' t = some (.lst ((sg.map Sg.name).map V.str)) → LS H' a sg → Q (.ref a) H'
local macro_rules | `(tactic| walk_at "rd") => `(tactic| simp only [tYes, wipe, HO.lst.injEq, HO.tup.injEq, HO.dK.injEq, Nat.reduceAdd, Nat.reduceLeDiff, Nat.reduceSub, Int.reduceLE, Int.reduceLT, Int.reduceNeg, Nat.zero_add, Int.reduceEq, cut_head, cut_tail, cut_mid, cut_three, c_cast0, c_cast1, c_cast2, c_cast3, c_cast4, z_lit, List.getD_eq_getElem?_getD, Option.getD_some, tLc_eq, tFor_eq, cxOf, Cx.nox, Cx.wish, tSeq, tIfS, tOr, tAnd, tNot, tB, tCB, tCons, tVar, tC, tNil, tTest, tChain, rI0, rI, tOp, rIxS, rIxL, rIxT, tRet, tNext, tAsg, gName, tAndV, tOrV, tNotV, tIf, tIsN, tNotN, tCall, tDrop, tBM, tBM0, rEq, rNe, tRetN, tSl, tNoPart, tPart, tTupD, tLstD, tInD, rIsK, rLenS, rLenL, rLenT, rAllT, rAnyF, rInK, rInL, rSlLD, rSlTD, rSlS, rCatD, rCatTD, rAppD, rExtD, rPopD, rPopAtD, rListD, rTupleD, iLst, iTpl, iStr, rIxLH, rIxTH, gTupH, gLstH, gStar0, gStar1, gStar2, rSumH, rAddS2, tJoinS, tFmtS, tFmtI, tJoined, tJoined_nil, tJoined_cons, rIsG, app_empty, tFldD, sFldD, tMkD, tMoD, rIsC, rLenO, rEqO, HO.ins.injEq, exists_eq, tNilL, tML, tML0, tMS, iEnumH, tCallK, rStrI, tGetS, tGet1S, tGet2S, rListKD, tDc_eq, tLc2_eq, tKGet, gCons, gNil, tChain3, tPartD, tSplitD, tPar, New, Chg, rListTD, atI_0, atI_1, atI_2, atI_3, sign_inj, and_false, false_and, or_false, false_or, or_true, true_or, List.take_succ_cons, List.take_zero, List.drop_succ_cons, List.drop_zero, forall_const, exists_false, not_false_eq_true, not_true_eq_false, if_true, if_false, iRng1, KindV,
  L2.start, List.map_cons, List.map_nil, List.length_cons, List.length_nil, List.replicate, List.cons_append, List.nil_append, List.append_nil, List.set_cons_zero, List.set_cons_succ, List.getElem?_cons_zero, List.getElem?_cons_succ, Option.some.injEq, exists_eq_left', exists_eq_left, V.int.injEq, V.str.injEq, V.bl.injEq, V.ref.injEq, V.ty.injEq, true_and, and_true, List.cons.injEq, exists_and_left, exists_eq', and_assoc, scal, ofString_inj, String.reduceEq, reduceIte, decide_eq_true_eq, decide_eq_false_iff_not, Bool.not_true, Bool.not_false, Bool.not_eq_true', inV_cons, inV_nil, eqV_ss, eqV_ii, flatV, List.all_cons, List.all_nil, Bool.and_true, Bool.or_false, Bool.true_and, Bool.false_or, decide_true, decide_false, Bool.true_or, Bool.false_eq_true, reduceCtorEq, spDigit, spLName, spLWidth, spLValue, spLSources])
local macro_rules | `(tactic| walk_at "ra") => `(tactic| simp only [tYes, wipe, HO.lst.injEq, HO.tup.injEq, HO.dK.injEq, Nat.reduceAdd, Nat.reduceLeDiff, Nat.reduceSub, Int.reduceLE, Int.reduceLT, Int.reduceNeg, Nat.zero_add, Int.reduceEq, cut_head, cut_tail, cut_mid, cut_three, c_cast0, c_cast1, c_cast2, c_cast3, c_cast4, z_lit, List.getD_eq_getElem?_getD, Option.getD_some, tLc_eq, tFor_eq, cxOf, Cx.nox, Cx.wish, tSeq, tIfS, tOr, tAnd, tNot, tB, tCB, tCons, tVar, tC, tNil, tTest, tChain, rI0, rI, tOp, rIxS, rIxL, rIxT, tRet, tNext, tAsg, gName, tAndV, tOrV, tNotV, tIf, tIsN, tNotN, tCall, tDrop, tBM, tBM0, rEq, rNe, tRetN, tSl, tNoPart, tPart, tTupD, tLstD, tInD, rIsK, rLenS, rLenL, rLenT, rAllT, rAnyF, rInK, rInL, rSlLD, rSlTD, rSlS, rCatD, rCatTD, rAppD, rExtD, rPopD, rPopAtD, rListD, rTupleD, iLst, iTpl, iStr, rIxLH, rIxTH, gTupH, gLstH, gStar0, gStar1, gStar2, rSumH, rAddS2, tJoinS, tFmtS, tFmtI, tJoined, tJoined_nil, tJoined_cons, rIsG, app_empty, tFldD, sFldD, tMkD, tMoD, rIsC, rLenO, rEqO, HO.ins.injEq, exists_eq, tNilL, tML, tML0, tMS, iEnumH, tCallK, rStrI, tGetS, tGet1S, tGet2S, rListKD, tDc_eq, tLc2_eq, tKGet, gCons, gNil, tChain3, tPartD, tSplitD, tPar, New, Chg, rListTD, atI_0, atI_1, atI_2, atI_3, sign_inj, and_false, false_and, or_false, false_or, or_true, true_or, List.take_succ_cons, List.take_zero, List.drop_succ_cons, List.drop_zero, forall_const, exists_false, not_false_eq_true, not_true_eq_false, if_true, if_false, iRng1, KindV,
  L2.start, List.map_cons, List.map_nil, List.length_cons, List.length_nil, List.replicate, List.cons_append, List.nil_append, List.append_nil, List.set_cons_zero, List.set_cons_succ, List.getElem?_cons_zero, List.getElem?_cons_succ, Option.some.injEq, exists_eq_left', exists_eq_left, V.int.injEq, V.str.injEq, V.bl.injEq, V.ref.injEq, V.ty.injEq, true_and, and_true, List.cons.injEq, exists_and_left, exists_eq', and_assoc, scal, ofString_inj, String.reduceEq, reduceIte, decide_eq_true_eq, decide_eq_false_iff_not, Bool.not_true, Bool.not_false, Bool.not_eq_true', inV_cons, inV_nil, eqV_ss, eqV_ii, flatV, List.all_cons, List.all_nil, Bool.and_true, Bool.or_false, Bool.true_and, Bool.false_or, decide_true, decide_false, Bool.true_or, Bool.false_eq_true, reduceCtorEq, spDigit, spLName, spLWidth, spLValue, spLSources, *])

section
variable {P : Program} {w : World} {K : PySem.W.Frag} {mg : Str → Option Value} {base : Heap} {k : Nat}
theorem ok_law_sources (T : TX K mg) (D : DF K mg "_law_sources" s__law_sources ["_law_pot_here", "_law_taken"] []) (G__law_digit : FO P w K mg base "_law_digit" k ["_law_pot_here", "_law_many"] [] spDigit)
    (G__law_name : FO P w K mg base "_law_name" k ["_law_pot_here", "_law_taken"] [] spLName) (G__law_width : FO P w K mg base "_law_width" k ["_law_pot_here"] [] spLWidth) (G__law_value : FO P w K mg base "_law_value" k ["_law_pot_here", "_law_width_here", "_law_signs"] [] spLValue) :
    FO P w K mg base "_law_sources" (k + 1) ["_law_pot_here", "_law_taken"] [] spLSources := by
  refine D.ok sc__law_sources (fun vs H Q E h => ?_) (fun fa cdv A outer s H vs Q E hr h => ?_)
  · obtain ⟨_, _, _, rfl, _⟩ := h
    rfl
  obtain ⟨p, t, n, rfl, hp, hn, ht, q⟩ := h
  refine ⟨_, (pss_cons (ps_set (i := 2) sc__law_sources.nd rfl (Or.inl rfl) (pe_lstD pa_nil))
    (pss_cons (ps_for PassesOwn.never rfl (pi_range1 rfl T.range (pa_cons (pe_op op_add pe_int (pe_fo G__law_digit hr (pa_cons (pv 0) (pa_cons pe_int pa_nil)))) pa_nil)) (pg_name (i := 3) sc__law_sources.nd rfl (Or.inl rfl))
      (pss_one (ps_expr (pe_bmL PySem.F.slot_list_append PySem.F.type_list_append mt_appD (pv 2) (pa_cons (pe_tupD (pa_cons pe_str (pa_cons (pe_fo G__law_name hr (pa_cons (pv 0) (pa_cons (pv 1) pa_nil))) (pa_cons (pe_fo G__law_width hr (pa_cons (pv 0) pa_nil)) (pa_cons pe_non pa_nil))))) pa_nil)))))
    (pss_cons (ps_for PassesOwn.never rfl (pi_range1 rfl T.range (pa_cons (pe_fo G__law_digit hr (pa_cons (pv 0) (pa_cons pe_int pa_nil))) pa_nil)) (pg_name (i := 3) sc__law_sources.nd rfl (Or.inl rfl))
      (pss_cons (ps_set (i := 4) sc__law_sources.nd rfl (Or.inl rfl) (pe_fo G__law_width hr (pa_cons (pv 0) pa_nil)))
    (pss_one (ps_expr (pe_bmL PySem.F.slot_list_append PySem.F.type_list_append mt_appD (pv 2) (pa_cons (pe_tupD (pa_cons pe_str (pa_cons (pe_fo G__law_name hr (pa_cons (pv 0) (pa_cons (pv 1) pa_nil))) (pa_cons (pv 4) (pa_cons (pe_fo G__law_value hr (pa_cons (pv 0) (pa_cons (pv 4) (pa_cons pe_str pa_nil)))) pa_nil))))) pa_nil))))))
    (pss_one (ps_ret (pv 2)))))), ?_⟩
  refine seq_i fun M hM => ?_
  walk_at "rd"
  intro pf H1 hpf s1 hl1
  subst hM
  refine seq_i fun M hM => ?_
  walk_at "rd"
  refine ⟨n, hp.same s1, by omega, fun d H2 hd b2 hp2 => ⟨by omega, by omega, ?_⟩⟩
  have hpt : p ≠ t := hp.ne_strs (ns := []) ht
  have fp : pf ≠ p := hp.fresh hpf
  have ft : pf ≠ t := fun z => by rw [z, ht] at hpf; cases hpf
  have nin : pf ∉ [p, t] := by simp [fp, ft]
  rw [show (1 + (d : Int)).toNat = d + 1 from by omega]
  obtain ⟨Pv, hP⟩ : ∃ Pv : Nat → Nat → St → Hp → Prop, ∀ c i σ H', Pv c i σ H' ↔ ∃ o3 o4 sg, σ = [some (V.ref p), some (V.ref t), some (V.ref pf), o3, o4] ∧ Buts [p, t] H H' ∧ Pot H' p (n + c + 30 * i) ∧ H' t = some (.lst ((sg.map Sg.name).map V.str)) ∧ LS H' pf sg ∧ Srcs sg ∧ sg.length = i := ⟨_, fun _ _ _ _ => Iff.rfl⟩
  -- a row behind the others
  have add : ∀ (c i : Nat) (H3 H5 H6 H7 : Hp) (sg : List Sg) (s : Sg) (x6 : V) (xs3 : List V) (m : Nat) (o3 o4 : Option V), SrcOk s → SgN s → s.name ∉ sg.map Sg.name → Srcs sg → sg.length = i → Buts [p, t] H H3 → H3 pf = some (.lst xs3) → All2 (RS H3) sg xs3 → Tk H3 H6 → Buts [p, t] H3 H6 → Pot H6 p m → m ≤ n + c + 30 * (i + 1) →
      H6 t = some (.lst ((sg.map Sg.name ++ [s.name]).map V.str)) → RS H6 s x6 → But pf H6 H7 → H7 pf = some (.lst (xs3 ++ [x6])) → Pv c (i + 1) [some (V.ref p), some (V.ref t), some (V.ref pf), o3, o4] H7 := fun c i H3 H5 H6 H7 sg s x6 xs3 m o3 o4 h1 h2 h3 h4 h5 b3 hx3 hal3 k36 b36 hp6 hm ht6 hr6 b7 hl7 => by
    have hx6 := b36 _ _ nin hx3
    have k67 := b7.tk hx6
    refine (hP _ _ _ _).mpr ⟨o3, o4, sg ++ [s], rfl, ?_, (hp6.keep fun o h => b7 _ _ (Ne.symm fp) h).up hm, ?_, ⟨_, hl7, ?_⟩, h4.snoc h1 h2 h3, by simp [h5]⟩
    · exact Buts.fresh (p := pf) (((b3.trans b36).mono fun a ha => List.mem_cons_of_mem _ ha).trans (b7.buts List.mem_cons_self)) hpf
    · rw [b7 _ _ (Ne.symm ft) ht6]
      simp
    · exact all2_snoc (all2_mono (fun _ _ z => RS.tk (k36.trans k67) z) hal3) (RS.tk k67 hr6)
  refine for_gen (wk_rng (lo := 0) (n := d + 1)) (Pv 1)
    ((hP _ _ _ _).mpr ⟨none, none, [], rfl, (Buts.of s1).trans b2.buts1', hp2, b2 _ _ (Ne.symm hpt) (s1 _ _ ht), ⟨[], b2 _ _ fp hl1, .nil⟩, ⟨fun s hs => (by cases hs), List.nodup_nil⟩, rfl⟩) (fun _ _ _ _ _ => trivial) (fun i σ H3 hi z => ?_) (fun σ H3 z => ?_)
  · obtain ⟨o3, o4, sg, rfl, b3, hp3, ht3, hs3, hsr, hlen⟩ := (hP _ _ _ _).mp z
    walk_at "rd"
    obtain ⟨xs3, hx3, hal3⟩ := id hs3
    refine ⟨⟨_, hx3⟩, _, hp3, by omega, _, ht3, by simp; omega, fun x hx => ?_, fun x H4 hx hxn b4 hp4 ht4 => ⟨_, hp4, by omega, fun kk H5 hk1 hk8 b5 hp5 p6 H6 hq6 s6 hl6 => ?_⟩⟩
    · obtain ⟨s, hs, rfl⟩ := List.mem_map.mp hx
      exact (hsr.so s hs).2.1
    have hx6 := s6 _ _ (b5 _ _ fp (b4 _ _ nin hx3))
    have hal6 := all2_len hal3
    have k36 : Tk H3 H6 := ((b4.tk (two_lists hp3 ht3)).trans (hp4.tk b5)).trans (same_tk s6)
    exact ⟨_, hx6, by omega, fun H7 b7 hl7 => add 1 i H3 H5 H6 H7 sg (.inp x kk) _ xs3 _ _ _ (.inl ⟨x, kk, rfl⟩) ⟨hx, hk1, hk8⟩ hxn hsr hlen b3 hx3 hal3 k36 ((b4.trans b5.buts1').same s6) (hp5.same s6) (by omega) (s6 _ _ (b5 _ _ (Ne.symm hpt) ht4)) ⟨p6, .non, rfl, hl6, rfl⟩ b7 hl7⟩
  · obtain ⟨o3, o4, sg, rfl, b3, hp3, ht3, hs3, hsr, hlen⟩ := (hP _ _ _ _).mp z
    show M _ _
    subst hM
    refine seq_i fun M hM => ?_
    walk_at "rd"
    refine ⟨_, hp3, by omega, fun e H4 he b4 hp4 => ⟨by omega, by omega, ?_⟩⟩
    obtain ⟨xs3, hx3, hal3⟩ := id hs3
    have hs4 : LS H4 pf sg := ⟨xs3, b4 _ _ fp hx3, all2_mono (fun _ _ z => RS.tk (hp3.tk b4) z) hal3⟩
    rw [Int.toNat_natCast]
    refine for_gen (wk_rng (lo := 0) (n := e)) (fun i => Pv 2 (d + 1 + i))
      ((hP _ _ _ _).mpr ⟨o3, o4, sg, rfl, b3.trans b4.buts1', hp4.up (by omega), b4 _ _ (Ne.symm hpt) ht3, hs4, hsr, by omega⟩) (fun _ _ _ _ _ => trivial) (fun i σ H5 hi z => ?_) (fun σ H5 z => ?_)
    · obtain ⟨o3, o4, sg, rfl, b5, hp5, ht5, hs5, hsr, hlen⟩ := (hP _ _ _ _).mp z
      walk_at "rd"
      obtain ⟨xs5, hx5, hal5⟩ := id hs5
      have hal6 := all2_len hal5
      refine ⟨_, hp5, by omega, fun kk H6 hk1 hk8 b6 hp6 => ⟨⟨_, b6 _ _ fp hx5⟩, _, hp6, by omega, _, b6 _ _ (Ne.symm hpt) ht5, by simp; omega, fun x hx => ?_, fun x H7 hx hxn b7 hp7 ht7 => ⟨kk, rfl, _, hp7, by omega, hk1, hk8, fun v H8 hv b8 hp8 p9 H9 hq9 s9 hl9 => ?_⟩⟩⟩
      · obtain ⟨s, hs, rfl⟩ := List.mem_map.mp hx
        exact (hsr.so s hs).2.1
      have hx9 := s9 _ _ (b8 _ _ fp (b7 _ _ nin (b6 _ _ fp hx5)))
      have k59 : Tk H5 H9 := (((hp5.tk b6).trans (b7.tk (two_lists hp6 (b6 _ _ (Ne.symm hpt) ht5)))).trans (hp7.tk b8)).trans (same_tk s9)
      exact ⟨_, hx9, by omega, fun H10 b10 hl10 => add 2 (d + 1 + i) H5 H6 H9 H10 sg (.kept x kk v) _ xs5 _ _ _ (.inr ⟨x, kk, v, rfl, hv⟩) ⟨hx, hk1, hk8⟩ hxn hsr hlen b5 hx5 hal5 k59 (((b6.buts1'.trans b7).trans b8.buts1').same s9) (hp8.same s9) (by omega) (s9 _ _ (b8 _ _ (Ne.symm hpt) ht7)) ⟨p9, .str v, rfl, hl9, rfl⟩ b10 hl10⟩
    · obtain ⟨o3, o4, sg, rfl, b5, hp5, ht5, hs5, hsr, hlen⟩ := (hP _ _ _ _).mp z
      show M _ _
      subst hM
      walk_at "rd"
      exact q sg pf H5 hsr (fun z => by rw [z, List.length_nil] at hlen; omega) (by omega) hpf b5 (hp5.up (by omega)) ht5 hs5
end
end K37
set_option maxHeartbeats 4000000
namespace K37
open PySem L2 TL
open PyProof.Rows hiding St
theorem sc__law_led : FnScope ["_law_pot_here", "_law_plain", "_law_every", "_law_taken", "_law_deep_here", "_law_made", "_law_over", "_law_width_here", "_law_what", "_law_name_here", "_law_drivers", "_law_k"] ["_law_pot_here", "_law_plain", "_law_every", "_law_taken", "_law_deep_here"] (defScope s__law_led) := ⟨rfl, rfl, rfl, by decide +kernel, rfl, by decide +kernel, by decide +kernel⟩

theorem TermOk.mono {G G' : Str → Nat → Prop} (h : ∀ n k, G n k → G' n k) {t : Tm} {k : Nat} (q : TermOk G t k) : TermOk G' t k := ⟨q.1.mono h, q.2⟩
/-- what a step tells: a signal over the names so far -/
structure LedR (Gp Ge Gp' : List (Str × Nat)) (ns : List Str) (s : Sg) : Prop where
  wh : WhatOk (InG Ge) s
  nm : SgN s
  nn : s.name ∉ ns
  pl : Gp' = Gp ∨ (Gp' = Gp ++ [(s.name, s.wd)] ∧ isFilt s = false ∧ ∀ x ∈ s.nms, ∃ k, (x, k) ∈ Gp)
  fi : isFilt s = true → ∀ x ∈ s.nms, ∃ k, (x, k) ∈ Gp
  ge : ∀ x ∈ s.nms, ∃ k, (x, k) ∈ Ge
/-- a signal but for its name -/
structure MkOk (Go : List (Str × Nat)) (md : Str) (kk : Nat) (mk : Str → Sg) : Prop where
  nm : ∀ x, (mk x).name = x
  wd : ∀ x, (mk x).wd = kk
  so : ∀ x, (mk x).sort = md
  wh : ∀ x, WhatOk (InG Go) (mk x)
  fi : ∀ x, isFilt (mk x) = true → md = "filter"
  ns : ∀ x, ∀ y ∈ (mk x).nms, ∃ k, (y, k) ∈ Go
theorem WhatOk.mono {G G' : Str → Nat → Prop} (h : ∀ n k, G n k → G' n k) : ∀ {s : Sg}, WhatOk G s → WhatOk G' s
  | .inp _ _, q => q
  | .kept _ _ _, q => q
  | .wire _ _ _, q => TermOk.mono h q
  | .filt _ _ _, q => TermOk.mono h q
  | .bus _ _ _, q => ⟨q.1, q.2.1, fun d hd => ⟨(q.2.2 d hd).1.mono h, (q.2.2 d hd).2.mono h⟩⟩
def gD (G : List (Str × Nat)) : PyData := .list (G.map fun g => .tuple [.str g.1, .int (g.2 : Int)])
theorem NG.dp {K : PySem.W.Frag} {H : Hp} {a : Addr} {G : List (Str × Nat)} (h : NG H a G) : Dp K H (.ref a) (gD G) := by
  obtain ⟨xs, h1, h2⟩ := h
  refine .lst (SqL.of h1) (all2_dp (fun g x r => ?_) h2)
  obtain ⟨a, e, h⟩ := r
  subst e
  exact .tup (SqT.of h) (.cons (.str _) (.cons (.int _) .nil))
theorem gD_shaped {G : List (Str × Nat)} (h : NGok G) : SeqAt.shaped (gD G) = true := by
  refine shaped_of ?_ ?_
  · simp only [gD, PyData.canLay0]
    refine lay_tup fun d hd => ?_
    obtain ⟨g, hg, rfl⟩ := List.mem_map.mp hd
    simp only [PyData.canLay0, PyData.canLayAll0, Bool.and_true, Bool.and_eq_true]
    exact lay_str (asc_name (h g hg).1)
  · simp only [gD, PyData.depth]
    have := depth_all (l := G.map fun g => PyData.tuple [.str g.1, .int (g.2 : Int)]) (n := 2) fun d hd => by
      obtain ⟨g, hg, rfl⟩ := List.mem_map.mp hd
      simp only [PyData.depth, PyData.depthAll]
      omega
    omega
theorem eqvAll_len : ∀ {xs ys : List PyData}, xs.length ≠ ys.length → PyData.eqvAll xs ys = false
  | [], [], h => absurd rfl h
  | [], _ :: _, _ => by simp only [PyData.eqvAll]
  | _ :: _, [], _ => by simp only [PyData.eqvAll]
  | x :: xs, y :: ys, h => by
    simp only [PyData.eqvAll, eqvAll_len (xs := xs) (ys := ys) (by simpa using h), Bool.and_false]
theorem gD_ne {G G' : List (Str × Nat)} (h : G.length ≠ G'.length) : PyData.eqv (gD G) (gD G') = false := by
  simp only [gD, PyData.eqv]
  exact eqvAll_len (by simpa using h)
theorem NG.app {H H' : Hp} {a : Addr} {G : List (Str × Nat)} {xs : List V} {g : Str × Nat} {x : V} (h1 : H a = some (.lst xs)) (h2 : All2 (RN H) G xs) (b : But a H H') (hl : H' a = some (.lst (xs ++ [x]))) (hx : RN H g x) : NG H' a (G ++ [g]) :=
  ⟨_, hl, all2_snoc (all2_mono (fun _ _ z => z.tk (b.tk h1)) h2) (hx.tk (b.tk h1))⟩
theorem Cd_le {d : Nat} (h : d ≤ 3) : Cd d ≤ 376 ∧ Wd d ≤ 40 := by
  have h1 : Cd 0 = 12 ∧ Cd 1 = 40 ∧ Cd 2 = 124 ∧ Cd 3 = 376 ∧ Wd 0 = 1 ∧ Wd 1 = 4 ∧ Wd 2 = 13 ∧ Wd 3 = 40 := by decide
  have : d = 0 ∨ d = 1 ∨ d = 2 ∨ d = 3 := by omega
  rcases this with rfl | rfl | rfl | rfl <;> omega
def spLLed : Sp := fun vs H Q _ => ∃ (p pl ev t : Addr) (d n : Nat) (Gp Ge : List (Str × Nat)) (ns : List Str), vs = [.ref p, .ref pl, .ref ev, .ref t, .int (d : Int)] ∧ Pot H p n ∧ n ≤ 970000000 ∧ NG H pl Gp ∧ NG H ev Ge ∧ NGok Ge ∧ (∀ g ∈ Gp, g ∈ Ge) ∧ Gp.length ≤ Ge.length ∧ Ge.length ≤ 50 ∧ pl ≠ ev ∧ t ≠ pl ∧ t ≠ ev ∧
  H t = some (.lst (ns.map V.str)) ∧ ns.length ≤ 50 ∧ (∀ x ∈ ns, NameOk x) ∧ 1 ≤ d ∧ d ≤ 3 ∧
  ∀ s v Gp' H', LedR Gp Ge Gp' ns s → Buts [p, pl, ev, t] H H' → Pot H' p (n + 3000) → NG H' pl Gp' → NG H' ev (Ge ++ [(s.name, s.wd)]) → H' t = some (.lst ((ns ++ [s.name]).map V.str)) → RS H' s v → Q v H'
local macro_rules | `(tactic| walk_at "rd") => `(tactic| simp only [tYes, wipe, HO.lst.injEq, HO.tup.injEq, HO.dK.injEq, Nat.reduceAdd, Nat.reduceLeDiff, Nat.reduceSub, Int.reduceLE, Int.reduceLT, Int.reduceNeg, Nat.zero_add, Int.reduceEq, cut_head, cut_tail, cut_mid, cut_three, c_cast0, c_cast1, c_cast2, c_cast3, c_cast4, z_lit, List.getD_eq_getElem?_getD, Option.getD_some, tLc_eq, tFor_eq, cxOf, Cx.nox, Cx.wish, tSeq, tIfS, tOr, tAnd, tNot, tB, tCB, tCons, tVar, tC, tNil, tTest, tChain, rI0, rI, tOp, rIxS, rIxL, rIxT, tRet, tNext, tAsg, gName, tAndV, tOrV, tNotV, tIf, tIsN, tNotN, tCall, tDrop, tBM, tBM0, rEq, rNe, tRetN, tSl, tNoPart, tPart, tTupD, tLstD, tInD, rIsK, rLenS, rLenL, rLenT, rAllT, rAnyF, rInK, rInL, rSlLD, rSlTD, rSlS, rCatD, rCatTD, rAppD, rExtD, rPopD, rPopAtD, rListD, rTupleD, iLst, iTpl, iStr, rIxLH, rIxTH, gTupH, gLstH, gStar0, gStar1, gStar2, rSumH, rAddS2, tJoinS, tFmtS, tFmtI, tJoined, tJoined_nil, tJoined_cons, rIsG, app_empty, tFldD, sFldD, tMkD, tMoD, rIsC, rLenO, rEqO, HO.ins.injEq, exists_eq, tNilL, tML, tML0, tMS, iEnumH, tCallK, rStrI, tGetS, tGet1S, tGet2S, rListKD, tDc_eq, tLc2_eq, tKGet, gCons, gNil, tChain3, tPartD, tSplitD, tPar, New, Chg, rListTD, atI_0, atI_1, atI_2, atI_3, sign_inj, and_false, false_and, or_false, false_or, or_true, true_or, List.take_succ_cons, List.take_zero, List.drop_succ_cons, List.drop_zero, forall_const, exists_false, not_false_eq_true, not_true_eq_false, if_true, if_false, iRng1, KindV,
  L2.start, List.map_cons, List.map_nil, List.length_cons, List.length_nil, List.replicate, List.cons_append, List.nil_append, List.append_nil, List.set_cons_zero, List.set_cons_succ, List.getElem?_cons_zero, List.getElem?_cons_succ, Option.some.injEq, exists_eq_left', exists_eq_left, V.int.injEq, V.str.injEq, V.bl.injEq, V.ref.injEq, V.ty.injEq, true_and, and_true, List.cons.injEq, exists_and_left, exists_eq', and_assoc, scal, ofString_inj, String.reduceEq, reduceIte, decide_eq_true_eq, decide_eq_false_iff_not, Bool.not_true, Bool.not_false, Bool.not_eq_true', inV_cons, inV_nil, eqV_ss, eqV_ii, flatV, List.all_cons, List.all_nil, Bool.and_true, Bool.or_false, Bool.true_and, Bool.false_or, decide_true, decide_false, Bool.true_or, Bool.false_eq_true, reduceCtorEq, spDigit, spLName, spLWidth, spLTerm, spLLed])
local macro_rules | `(tactic| walk_at "ra") => `(tactic| simp only [tYes, wipe, HO.lst.injEq, HO.tup.injEq, HO.dK.injEq, Nat.reduceAdd, Nat.reduceLeDiff, Nat.reduceSub, Int.reduceLE, Int.reduceLT, Int.reduceNeg, Nat.zero_add, Int.reduceEq, cut_head, cut_tail, cut_mid, cut_three, c_cast0, c_cast1, c_cast2, c_cast3, c_cast4, z_lit, List.getD_eq_getElem?_getD, Option.getD_some, tLc_eq, tFor_eq, cxOf, Cx.nox, Cx.wish, tSeq, tIfS, tOr, tAnd, tNot, tB, tCB, tCons, tVar, tC, tNil, tTest, tChain, rI0, rI, tOp, rIxS, rIxL, rIxT, tRet, tNext, tAsg, gName, tAndV, tOrV, tNotV, tIf, tIsN, tNotN, tCall, tDrop, tBM, tBM0, rEq, rNe, tRetN, tSl, tNoPart, tPart, tTupD, tLstD, tInD, rIsK, rLenS, rLenL, rLenT, rAllT, rAnyF, rInK, rInL, rSlLD, rSlTD, rSlS, rCatD, rCatTD, rAppD, rExtD, rPopD, rPopAtD, rListD, rTupleD, iLst, iTpl, iStr, rIxLH, rIxTH, gTupH, gLstH, gStar0, gStar1, gStar2, rSumH, rAddS2, tJoinS, tFmtS, tFmtI, tJoined, tJoined_nil, tJoined_cons, rIsG, app_empty, tFldD, sFldD, tMkD, tMoD, rIsC, rLenO, rEqO, HO.ins.injEq, exists_eq, tNilL, tML, tML0, tMS, iEnumH, tCallK, rStrI, tGetS, tGet1S, tGet2S, rListKD, tDc_eq, tLc2_eq, tKGet, gCons, gNil, tChain3, tPartD, tSplitD, tPar, New, Chg, rListTD, atI_0, atI_1, atI_2, atI_3, sign_inj, and_false, false_and, or_false, false_or, or_true, true_or, List.take_succ_cons, List.take_zero, List.drop_succ_cons, List.drop_zero, forall_const, exists_false, not_false_eq_true, not_true_eq_false, if_true, if_false, iRng1, KindV,
  L2.start, List.map_cons, List.map_nil, List.length_cons, List.length_nil, List.replicate, List.cons_append, List.nil_append, List.append_nil, List.set_cons_zero, List.set_cons_succ, List.getElem?_cons_zero, List.getElem?_cons_succ, Option.some.injEq, exists_eq_left', exists_eq_left, V.int.injEq, V.str.injEq, V.bl.injEq, V.ref.injEq, V.ty.injEq, true_and, and_true, List.cons.injEq, exists_and_left, exists_eq', and_assoc, scal, ofString_inj, String.reduceEq, reduceIte, decide_eq_true_eq, decide_eq_false_iff_not, Bool.not_true, Bool.not_false, Bool.not_eq_true', inV_cons, inV_nil, eqV_ss, eqV_ii, flatV, List.all_cons, List.all_nil, Bool.and_true, Bool.or_false, Bool.true_and, Bool.false_or, decide_true, decide_false, Bool.true_or, Bool.false_eq_true, reduceCtorEq, spDigit, spLName, spLWidth, spLTerm, spLLed, *])

section
variable {P : Program} {w : World} {K : PySem.W.Frag} {mg : Str → Option Value} {base : Heap} {k : Nat}
theorem ok_law_led (T : TX K mg) (D : DF K mg "_law_led" s__law_led ["_law_pot_here", "_law_plain", "_law_every", "_law_taken", "_law_deep_here"] []) (G__law_digit : FO P w K mg base "_law_digit" k ["_law_pot_here", "_law_many"] [] spDigit)
    (G__law_name : FO P w K mg base "_law_name" k ["_law_pot_here", "_law_taken"] [] spLName) (G__law_width : FO P w K mg base "_law_width" k ["_law_pot_here"] [] spLWidth) (G__law_term : FO P w K mg base "_law_term" k ["_law_pot_here", "_law_names", "_law_width_here", "_law_deep_here"] [] (spLTerm 4)) :
    FO P w K mg base "_law_led" (k + 1) ["_law_pot_here", "_law_plain", "_law_every", "_law_taken", "_law_deep_here"] [] spLLed := by
  refine D.ok sc__law_led (fun vs H Q E h => ?_) (fun fa cdv A outer s H vs Q E hr h => ?_)
  · obtain ⟨_, _, _, _, _, _, _, _, _, rfl, _⟩ := h
    rfl
  obtain ⟨p, pl, ev, t, d, n, Gp, Ge, ns, rfl, hp, hn, hpl, hev, hok, hsub, hGl, hGe, npe, ntp, nte, ht, hnl, hnm, hd1, hd3, q⟩ := h
  refine ⟨_, (pss_cons (ps_set (i := 5) sc__law_led.nd rfl (Or.inl rfl) (pe_ix ix_lst (pe_lstD (pa_cons pe_str (pa_cons pe_str (pa_cons pe_str pa_nil)))) (pe_fo G__law_digit hr (pa_cons (pv 0) (pa_cons pe_int pa_nil))) (fun _ _ => rfl)))
    (pss_cons (ps_set (i := 6) sc__law_led.nd rfl (Or.inl rfl) (pe_ix ix_lst (pe_lstD (pa_cons (pv 1) (pa_cons (pv 2) pa_nil))) (pe_callTy call_int1 rfl T.int (by decide +kernel) (pa_cons (pe_and (pe_cmpR op_ne (pv 5) pe_str (nomark _)) (pe_one (pe_cmpR op_eq (pe_fo G__law_digit hr (pa_cons (pv 0) (pa_cons pe_int pa_nil))) pe_int (nomark _)))) pa_nil)) (fun _ _ => rfl)))
    (pss_cons (ps_set (i := 7) sc__law_led.nd rfl (Or.inl rfl) (pe_fo G__law_width hr (pa_cons (pv 0) pa_nil)))
    (pss_cons (ps_set (i := 8) sc__law_led.nd rfl (Or.inl rfl) (pe_fo G__law_term hr (pa_cons (pv 0) (pa_cons (pv 6) (pa_cons (pv 7) (pa_cons (pv 4) pa_nil))))))
    (pss_cons (ps_if (pt_cmpR op_eq (pv 5) pe_str (nomark _))
      (pss_cons (ps_set (i := 10) sc__law_led.nd rfl (Or.inl rfl) (pe_lstD pa_nil))
    (pss_cons (ps_for PassesOwn.never rfl (pi_range1 rfl T.range (pa_cons (pe_op op_add pe_int (pe_fo G__law_digit hr (pa_cons (pv 0) (pa_cons pe_int pa_nil)))) pa_nil)) (pg_name (i := 11) sc__law_led.nd rfl (Or.inl rfl))
      (pss_one (ps_expr (pe_bmL PySem.F.slot_list_append PySem.F.type_list_append mt_appD (pv 10) (pa_cons (pe_tupD (pa_cons (pe_fo G__law_term hr (pa_cons (pv 0) (pa_cons (pv 6) (pa_cons pe_int (pa_cons (pe_op op_sub (pv 4) pe_int) pa_nil))))) (pa_cons (pe_fo G__law_term hr (pa_cons (pv 0) (pa_cons (pv 6) (pa_cons (pv 7) (pa_cons (pe_op op_sub (pv 4) pe_int) pa_nil))))) pa_nil))) pa_nil)))))
    (pss_one (ps_set (i := 8) sc__law_led.nd rfl (Or.inl rfl) (pe_callTy call_tupleD rfl T.tuple (by decide +kernel) (pa_cons (pv 10) pa_nil))))))
      pss_nil)
    (pss_cons (ps_set (i := 9) sc__law_led.nd rfl (Or.inl rfl) (pe_fo G__law_name hr (pa_cons (pv 0) (pa_cons (pv 3) pa_nil))))
    (pss_cons (ps_expr (pe_bmL PySem.F.slot_list_append PySem.F.type_list_append mt_appD (pv 2) (pa_cons (pe_tupD (pa_cons (pv 9) (pa_cons (pv 7) pa_nil))) pa_nil)))
    (pss_cons (ps_if (PW.pt (pw_and (pt_cmpR op_ne (pv 5) pe_str (nomark _)) (pw_and1 (pt_cmpR (op_eqD hr.units) (pv 6) (pv 1) (nomark _)))))
      (pss_one (ps_expr (pe_bmL PySem.F.slot_list_append PySem.F.type_list_append mt_appD (pv 1) (pa_cons (pe_tupD (pa_cons (pv 9) (pa_cons (pv 7) pa_nil))) pa_nil))))
      pss_nil)
    (pss_one (ps_ret (pe_tupD (pa_cons (pv 5) (pa_cons (pv 9) (pa_cons (pv 7) (pa_cons (pv 8) pa_nil))))))))))))))), ?_⟩
  refine seq_i fun M hM => ?_
  walk_at "rd"
  intro p1 H1 hq1 s1 hl1
  refine ⟨n, hp.same s1, by omega, fun e H2 he b2 hp2 => ⟨_, b2 _ _ (hp.fresh hq1) hl1, ?_⟩⟩
  obtain ⟨md, hmd, hmds⟩ : ∃ md : Str, [V.str (Str.ofString "wire"), V.str (Str.ofString "bus"), V.str (Str.ofString "filter")][e]? = some (.str md) ∧ (md = "wire" ∨ md = "bus" ∨ md = "filter") := by
    have : e = 0 ∨ e = 1 ∨ e = 2 := by omega
    rcases this with rfl | rfl | rfl
    · exact ⟨_, rfl, .inl rfl⟩
    · exact ⟨_, rfl, .inr (.inl rfl)⟩
    · exact ⟨_, rfl, .inr (.inr rfl)⟩
  refine ⟨_, atI_nat hmd, ?_⟩
  subst hM
  refine seq_i fun M hM => ?_
  walk_at "rd"
  intro p3 H3 hq3 s3 hl3
  have f3 := hp2.fresh hq3
  have hp0 := hp.lst
  have b03 : But p H H3 := ((But.of s1).trans b2).same s3
  have npp := hpl.ne_pot hp
  have npv := hev.ne_pot hp
  have npt : p ≠ t := hp.ne_strs ht
  have key : ∀ (ov : Addr) (Go : List (Str × Nat)) (H' : Hp), (ov = pl ∧ Go = Gp ∨ ov = ev ∧ Go = Ge ∧ md ≠ "filter") → But p H H' → Pot H' p (n + 2) →
      M [some (V.ref p), some (V.ref pl), some (V.ref ev), some (V.ref t), some (V.int (d : Int)), some (V.str md), some (V.ref ov), none, none, none, none, none] H' := fun ov Go H4 hov b4 hp4 => by
    have hGoE : ∀ g ∈ Go, g ∈ Ge := fun g hg => by
      rcases hov with ⟨_, rfl⟩ | ⟨_, rfl, _⟩
      · exact hsub g hg
      · exact hg
    have hGok : NGok Go := fun g hg => hok g (hGoE g hg)
    have hov0 : NG H ov Go := by
      rcases hov with ⟨rfl, rfl⟩ | ⟨rfl, rfl, _⟩
      · exact hpl
      · exact hev
    have hGol : Go.length ≤ 50 := by
      rcases hov with ⟨_, rfl⟩ | ⟨_, rfl, _⟩ <;> omega
    have ngo : ∀ {H'}, But p H H' → NG H' ov Go := fun b => hov0.but hp b
    subst hM
    refine seq_i fun M hM => ?_
    walk_at "rd"
    refine ⟨_, hp4, by omega, fun kk H5 hk1 hk8 b5 hp5 => ?_⟩
    have b05 := b4.trans b5
    subst hM
    refine seq_i fun M hM => ?_
    walk_at "rd"
    have hcd := Cd_le hd3
    refine ⟨kk, rfl, d, rfl, by omega, _, hp5, by omega, Go, ngo b05, hGok, by omega, hk1, hk8, fun tm v H6 hf hdp hwt b6 hp6 hv => ?_⟩
    have b06 := b05.trans b6
    have hto : TermOk (InG Go) tm kk := ⟨hf, by omega, by omega⟩
    subst hM
    refine seq_i fun M hM => ?_
    have kw : ∀ (mk : Str → Sg) (wv : V) (H' : Hp) (o10 o11 : Option V), MkOk Go md kk mk → (∀ x, RW H' (mk x) wv) → But p H H' → Pot H' p (n + 2000) →
        M [some (V.ref p), some (V.ref pl), some (V.ref ev), some (V.ref t), some (V.int (d : Int)), some (V.str md), some (V.ref ov), some (V.int (kk : Int)), some wv, none, o10, o11] H' := fun mk wv H7 o10 o11 hmk hrw b7 hp7 => by
      have ht7 := b7 _ _ (Ne.symm npt) ht
      subst hM
      refine seq_i fun M hM => ?_
      walk_at "rd"
      refine ⟨_, hp7, by omega, ns, ht7, hnl, hnm, fun x H8 hx hxn b8 hp8 ht8 => ?_⟩
      have nin1 : pl ∉ [p, t] := by simp [Ne.symm npp, Ne.symm ntp]
      have nin2 : ev ∉ [p, t] := by simp [Ne.symm npv, Ne.symm nte]
      have k78 := b8.tk (two_lists hp7 ht7)
      have hpl8 : NG H8 pl Gp := (hpl.but hp b7).keep k78 fun o h => b8 _ _ nin1 h
      have hev8 : NG H8 ev Ge := (hev.but hp b7).keep k78 fun o h => b8 _ _ nin2 h
      subst hM
      refine seq_i fun M hM => ?_
      walk_at "rd"
      obtain ⟨xe, hxe, hae⟩ := id hev8
      have hel := all2_len hae
      refine ⟨⟨_, hxe⟩, fun p9 H9 hq9 s9 hl9 => ⟨_, s9 _ _ hxe, by omega, fun H10 b10 hl10 => ?_⟩⟩
      have hae9 : All2 (RN H9) Ge xe := all2_mono (fun _ _ z => z.tk (same_tk s9)) hae
      have hev10 : NG H10 ev (Ge ++ [(x, kk)]) := NG.app (s9 _ _ hxe) hae9 b10 hl10 ⟨p9, rfl, hl9⟩
      have hpl10 : NG H10 pl Gp := (hpl8.same s9).keep (b10.tk (s9 _ _ hxe)) fun o h => b10 _ _ npe h
      have ht10 := b10 _ _ nte (s9 _ _ ht8)
      have hp10 : Pot H10 p (n + 2020) := (hp8.same s9).keep fun o h => b10 _ _ npv h
      have bb10 : Buts [p, pl, ev, t] H H10 := (((b7.buts List.mem_cons_self).trans (b8.mono fun a ha => by simp at ha ⊢; rcases ha with h | h <;> simp [h])).same s9).trans (b10.buts (by simp))
      have k710 : Tk H7 H10 := (k78.trans (same_tk s9)).trans (b10.tk (s9 _ _ hxe))
      subst hM
      refine seq_i fun M hM => ?_
      have fin : ∀ (Gp' : List (Str × Nat)) (H' : Hp) (o : Option V), (Gp' = Gp ∨ (Gp' = Gp ++ [(x, kk)] ∧ ov = pl ∧ md ≠ "filter")) → But pl H10 H' → Tk H10 H' → NG H' pl Gp' → M [some (V.ref p), some (V.ref pl), some (V.ref ev), some (V.ref t), some (V.int (d : Int)), some (V.str md), some (V.ref ov), some (V.int (kk : Int)), some wv, some (V.str x), o10, o11] H' := fun Gp' H11 _ hGp' b11 k11 hpl11 => by
        subst hM
        walk_at "rd"
        intro p12 H12 hq12 s12 hl12
        have hnsG : ov = pl → ∀ y ∈ (mk x).nms, ∃ k, (y, k) ∈ Gp := fun e y hy => by
          obtain ⟨k, hk⟩ := hmk.ns x y hy
          rcases hov with ⟨_, rfl⟩ | ⟨e2, _, _⟩
          · exact ⟨k, hk⟩
          · exact absurd (e.symm.trans e2) npe
        refine q (mk x) _ Gp' H12 ⟨?_, ⟨by rw [hmk.nm]; exact hx, by rw [hmk.wd]; exact ⟨hk1, hk8⟩⟩, by rw [hmk.nm]; exact hxn, ?_, ?_, ?_⟩ ?_ (((hp10.keep fun o h => b11 _ _ npp h).same s12).up (by omega)) (hpl11.same s12) ?_ ?_ ⟨p12, wv, rfl, ?_, RW.tk ((k710.trans k11).trans (same_tk s12)) (hrw x)⟩
        · exact (hmk.wh x).mono fun n k z => hGoE _ z
        · rcases hGp' with rfl | ⟨rfl, e1, e2⟩
          · exact .inl rfl
          · refine .inr ⟨by rw [hmk.nm, hmk.wd], ?_, hnsG e1⟩
            cases e : isFilt (mk x) with
            | false => rfl
            | true => exact absurd (hmk.fi x e) e2
        · intro hf
          have e1 := hmk.fi x hf
          rcases hov with ⟨e2, _⟩ | ⟨_, _, e2⟩
          · exact hnsG e2
          · exact absurd e1 e2
        · intro y hy
          obtain ⟨k, hk⟩ := hmk.ns x y hy
          exact ⟨k, hGoE _ hk⟩
        · exact (bb10.trans (b11.buts (by simp))).same s12
        · rw [hmk.nm, hmk.wd]
          exact (hev10.keep k11 fun o h => b11 _ _ (Ne.symm npe) h).same s12
        · rw [hmk.nm]
          exact s12 _ _ (b11 _ _ ntp ht10)
        · rw [hmk.so, hmk.nm, hmk.wd]
          exact hl12
      walk_at "rd"
      by_cases hmf : md = Str.ofString "filter"
      · rw [if_neg (fun z => z hmf)]
        exact fin Gp H10 none (.inl rfl) (But.refl _ _) (Tk.refl _) hpl10
      rw [if_pos hmf]
      rcases hov with ⟨rfl, rfl⟩ | ⟨rfl, rfl, _⟩
      · refine ⟨gD Go, gD Go, hpl10.dp, hpl10.dp, gD_shaped hGok, gD_shaped hGok, _, rfl, ?_⟩
        by_cases hk : PyData.eqv (gD Go) (gD Go) = true
        · rw [if_pos hk]
          obtain ⟨xp, hxp, hap⟩ := id hpl10
          have hal := all2_len hap
          refine ⟨⟨_, hxp⟩, fun p11 H11 hq11 s11 hl11 => ⟨_, s11 _ _ hxp, by omega, fun H12 b12 hl12 => ?_⟩⟩
          have hap11 : All2 (RN H11) Go xp := all2_mono (fun _ _ z => z.tk (same_tk s11)) hap
          exact fin (Go ++ [(x, kk)]) H12 none (.inr ⟨rfl, rfl, hmf⟩) ((But.of s11).trans b12) ((same_tk s11).trans (b12.tk (s11 _ _ hxp))) (NG.app (s11 _ _ hxp) hap11 b12 hl12 ⟨p11, rfl, hl11⟩)
        · rw [if_neg hk]
          exact fin Go H10 none (.inl rfl) (But.refl _ _) (Tk.refl _) hpl10
      · refine ⟨gD (Go ++ [(x, kk)]), gD Gp, hev10.dp, hpl10.dp, gD_shaped ?_, gD_shaped (fun g hg => hok g (hsub g hg)), _, rfl, ?_⟩
        · intro g hg
          rcases List.mem_append.mp hg with hg | hg
          · exact hok g hg
          · rw [List.mem_singleton] at hg
            rw [hg]
            exact ⟨hx, hk1, hk8⟩
        · rw [gD_ne (by rw [List.length_append, List.length_singleton]; omega), if_neg (by decide)]
          exact fin Gp H10 none (.inl rfl) (But.refl _ _) (Tk.refl _) hpl10
    walk_at "rd"
    by_cases hmb : md = Str.ofString "bus"
    · rw [if_pos hmb]
      intro p7 H7 hq7 s7 hl7
      have f7 := hp6.fresh hq7
      refine ⟨_, hp6.same s7, by omega, fun e2 H8 he2 b8 hp8 => ⟨by omega, by omega, ?_⟩⟩
      have n7 : H p7 = none := but_new b06 (by obtain ⟨l, h⟩ := hp6.lst; exact ⟨_, h⟩) hq7
      have b08 := (b06.same s7).trans b8
      have hcd1 := Cd_le (d := d - 1) (by omega)
      have hCd1 : Cd (d - 1) ≤ 124 ∧ Wd (d - 1) ≤ 13 := by
        have h1 : Cd 0 = 12 ∧ Cd 1 = 40 ∧ Cd 2 = 124 ∧ Wd 0 = 1 ∧ Wd 1 = 4 ∧ Wd 2 = 13 := by decide
        have : d - 1 = 0 ∨ d - 1 = 1 ∨ d - 1 = 2 := by omega
        rcases this with h | h | h <;> rw [h] <;> omega
      rw [show (2 + (e2 : Int)).toNat = e2 + 2 from by omega]
      obtain ⟨Pv, hP⟩ : ∃ Pv : Nat → St → Hp → Prop, ∀ i σ H', Pv i σ H' ↔ ∃ o11 ds xs, σ = [some (V.ref p), some (V.ref pl), some (V.ref ev), some (V.ref t), some (V.int (d : Int)), some (V.str md), some (V.ref ov), some (V.int (kk : Int)), some v, none, some (V.ref p7), o11] ∧ But p H H' ∧ Pot H' p (n + 600 + 250 * i) ∧ H' p7 = some (.lst xs) ∧ All2 (RD H') ds xs ∧ ds.length = i ∧ (∀ dr ∈ ds, TermOk (InG Go) dr.1 1 ∧ TermOk (InG Go) dr.2 kk) := ⟨_, fun _ _ _ => Iff.rfl⟩
      refine for_gen (wk_rng (lo := 0) (n := e2 + 2)) Pv ((hP _ _ _).mpr ⟨none, [], [], rfl, b08, hp8.up (by omega), b8 _ _ f7 hl7, .nil, rfl, fun dr h => by cases h⟩) (fun _ _ _ _ _ => trivial) (fun i σ H9 hi z => ?_) (fun σ H9 z => ?_)
      · obtain ⟨o11, ds, xs, rfl, b9, hp9, hx9, hal9, hlen9, hds9⟩ := (hP _ _ _).mp z
        walk_at "rd"
        have hxl := all2_len hal9
        have ed : (d : Int) - 1 = ((d - 1 : Nat) : Int) := by omega
        refine ⟨⟨_, hx9⟩, 1, rfl, d - 1, ed, by omega, _, hp9, by omega, Go, ngo b9, hGok, by omega, Nat.le_refl 1, by decide, fun t1 v1 H10 hf1 hd1' hw1 b10 hp10 hv1 => ⟨kk, rfl, d - 1, ed, by omega, _, hp10, by omega, Go, ngo (b9.trans b10), hGok, by omega, hk1, hk8, fun t2 v2 H11 hf2 hd2' hw2 b11 hp11 hv2 p12 H12 hq12 s12 hl12 => ?_⟩⟩
        have hx12 := s12 _ _ (b11 _ _ f7 (b10 _ _ f7 hx9))
        refine ⟨_, hx12, by omega, fun H13 b13 hl13 => (hP _ _ _).mpr ⟨_, ds ++ [(t1, t2)], _, rfl, but_fresh (((b9.trans b10).trans b11).same s12) n7 b13, ((hp11.same s12).keep fun o h => b13 _ _ (Ne.symm f7) h).up (by omega), hl13, ?_, by simp [hlen9], fun dr hdr => ?_⟩⟩
        · have k1213 := b13.tk hx12
          have k11 := (same_tk s12).trans k1213
          have k10 := (hp10.tk b11).trans k11
          exact all2_snoc (all2_mono (fun _ _ z => z.tk ((hp9.tk b10).trans k10)) hal9) ⟨p12, v1, v2, rfl, k1213 _ _ hl12, RT.tk k10 _ _ hv1, RT.tk k11 _ _ hv2⟩
        · rcases List.mem_append.mp hdr with hdr | hdr
          · exact hds9 dr hdr
          · rw [List.mem_singleton] at hdr
            rw [hdr]
            exact ⟨⟨hf1, by show deep t1 ≤ 10; omega, by show wt t1 ≤ 60; omega⟩, hf2, by show deep t2 ≤ 10; omega, by show wt t2 ≤ 60; omega⟩
      · obtain ⟨o11, ds, xs, rfl, b9, hp9, hx9, hal9, hlen9, hds9⟩ := (hP _ _ _).mp z
        walk_at "rd"
        refine ⟨_, hx9, fun p10 H10 hq10 s10 hl10 => ?_⟩
        refine kw (fun x => .bus x kk ds) _ H10 _ _ ⟨fun _ => rfl, fun _ => rfl, fun _ => hmb.symm, fun _ => ⟨by omega, by omega, hds9⟩, fun x h => (by cases h), fun x y hy => ?_⟩ (fun x => ⟨p10, xs, rfl, hl10, all2_mono (fun _ _ z => z.tk (same_tk s10)) hal9⟩) (b9.same s10) ((hp9.same s10).up (by omega))
        obtain ⟨tt, htt, hy⟩ := List.mem_flatMap.mp hy
        obtain ⟨dr, hdr, htt⟩ := List.mem_flatMap.mp htt
        simp only [List.mem_cons, List.not_mem_nil, or_false] at htt
        rcases htt with rfl | rfl
        · exact (Fit.nms _ _ (hds9 dr hdr).1.1 y hy).2
        · exact (Fit.nms _ _ (hds9 dr hdr).2.1 y hy).2
    · rw [if_neg hmb]
      have hns1 : ∀ y ∈ K37.nms tm, ∃ k, (y, k) ∈ Go := fun y hy => (Fit.nms _ _ hf y hy).2
      rcases hmds with rfl | rfl | rfl
      · refine kw (fun x => .wire x kk tm) v H6 none none ⟨fun _ => rfl, fun _ => rfl, fun _ => rfl, fun _ => hto, fun x h => (by cases h), fun x y hy => hns1 y (by simpa [Sg.nms, Sg.terms] using hy)⟩ (fun x => hv) b06 (hp6.up (by omega))
      · exact absurd rfl hmb
      · refine kw (fun x => .filt x kk tm) v H6 none none ⟨fun _ => rfl, fun _ => rfl, fun _ => rfl, fun _ => hto, fun x h => rfl, fun x y hy => hns1 y (by simpa [Sg.nms, Sg.terms] using hy)⟩ (fun x => hv) b06 (hp6.up (by omega))
  by_cases hmf : md = Str.ofString "filter"
  · rw [if_neg (fun z => z hmf)]
    exact ⟨_, hl3, _, rfl, key pl Gp H3 (.inl ⟨rfl, rfl⟩) b03 ((hp2.same s3).up (by omega))⟩
  · rw [if_pos hmf]
    refine ⟨_, hp2.same s3, by omega, fun e3 H4 he3 b4 hp4 => ⟨_, b4 _ _ f3 hl3, ?_⟩⟩
    by_cases h1 : (e3 : Int) = 1
    · rw [if_pos h1]
      exact ⟨_, rfl, key ev Ge H4 (.inr ⟨rfl, rfl, hmf⟩) (b03.trans b4) hp4⟩
    · rw [if_neg h1]
      exact ⟨_, rfl, key pl Gp H4 (.inl ⟨rfl, rfl⟩) (b03.trans b4) hp4⟩
end
end K37
set_option maxHeartbeats 0
namespace K37
open PySem L2 TL
open PyProof.Rows hiding St
theorem sc__law_body : FnScope ["_law_pot_here", "_law_kept", "_law_every", "_law_deep_here", "_law_room", "_law_found", "_law_k", "_law_way", "_law_when", "_law_first", "_law_word", "_law_name_here", "_law_width_here"] ["_law_pot_here", "_law_kept", "_law_every", "_law_deep_here", "_law_room"] (defScope s__law_body) := ⟨rfl, rfl, rfl, by decide +kernel, rfl, by decide +kernel, by decide +kernel⟩

/-! a body out of its statements -/
def catB : Bd → Bd → Bd
  | .nil, r => r
  | .set w n t _, r => .set w n t r
  | .ite c a b _, r => .ite c a b r
def ofH : List Bd → Bd
  | [] => .nil
  | h :: r => catB h (ofH r)
theorem heads_of : ∀ {hs : List Bd}, (∀ h ∈ hs, isHead h) → heads (ofH hs) = hs
  | [], _ => rfl
  | h :: r, q => by
    have h1 := q h List.mem_cons_self
    have ih := heads_of (hs := r) fun x hx => q x (List.mem_cons_of_mem _ hx)
    cases h with
    | nil => exact h1.elim
    | set w n t x =>
      have e : x = .nil := h1
      subst e
      simp only [ofH, catB, heads, ih]
    | ite c a b x =>
      have e : x = .nil := h1
      subst e
      simp only [ofH, catB, heads, ih]
theorem ok_of {G Kp : Str → Nat → Prop} {f : Str → Str} : ∀ {hs : List Bd}, (∀ h ∈ hs, BdOk G Kp f h) → BdOk G Kp f (ofH hs)
  | [], _ => trivial
  | h :: r, q => by
    have h1 := q h List.mem_cons_self
    have ih := ok_of (hs := r) fun x hx => q x (List.mem_cons_of_mem _ hx)
    cases h with
    | nil => exact ih
    | set w n t x => exact ⟨h1.1, h1.2.1, h1.2.2.1, ih⟩
    | ite c a b x => exact ⟨h1.1, h1.2.1, h1.2.2.1, ih⟩
theorem deep_of {d : Nat} : ∀ {hs : List Bd}, (∀ h ∈ hs, bdeep h ≤ d) → bdeep (ofH hs) ≤ d
  | [], _ => Nat.zero_le _
  | h :: r, q => by
    have h1 := q h List.mem_cons_self
    have ih := deep_of (hs := r) fun x hx => q x (List.mem_cons_of_mem _ hx)
    cases h with
    | nil => exact ih
    | set w n t x =>
      simp only [ofH, catB, bdeep] at h1 ⊢
      omega
    | ite c a b x =>
      simp only [ofH, catB, bdeep] at h1 ⊢
      omega
theorem wt_of : ∀ {hs : List Bd}, bwt (ofH hs) ≤ (hs.map bwt).sum
  | [] => Nat.le_refl _
  | h :: r => by
    have ih := wt_of (hs := r)
    rw [List.map_cons, List.sum_cons]
    cases h with
    | nil => simp only [ofH, catB, bwt]; omega
    | set w n t x =>
      simp only [ofH, catB, bwt]
      omega
    | ite c a b x =>
      simp only [ofH, catB, bwt]
      omega
/-- kept signals: word, name, width -/
def R3 (H : Hp) (g : Str × Str × Nat) (x : V) : Prop := ∃ a, x = .ref a ∧ H a = some (.tup [.str g.1, .str g.2.1, .int (g.2.2 : Int)])
def KG (H : Hp) (a : Addr) (G : List (Str × Str × Nat)) : Prop := ∃ xs, H a = some (.lst xs) ∧ All2 (R3 H) G xs
theorem KG.keep {H H' : Hp} {a : Addr} {G : List (Str × Str × Nat)} (h : KG H a G) (k : Tk H H') (l : ∀ o, H a = some o → H' a = some o) : KG H' a G := by
  obtain ⟨xs, h1, h2⟩ := h
  exact ⟨xs, l _ h1, all2_mono (fun _ _ ⟨a, e, z⟩ => ⟨a, e, k _ _ z⟩) h2⟩
def KpG (G : List (Str × Str × Nat)) (n : Str) (k : Nat) : Prop := ∃ w, (w, n, k) ∈ G
def K3ok (f : Str → Str) (G : List (Str × Str × Nat)) : Prop := ∀ g ∈ G, (g.1 = "now" ∨ g.1 = "later") ∧ f g.2.1 = g.1 ∧ NameOk g.2.1 ∧ 1 ≤ g.2.2 ∧ g.2.2 ≤ 8
def Bc : Nat → Nat
  | 0 => 0
  | d + 1 => 2 + 3 * (200 + 2 * Bc d)
def d3 (G : List (Str × Str × Nat)) : List PyData := G.map fun g => .tuple [.str g.1, .str g.2.1, .int (g.2.2 : Int)]
theorem d3_dp {K : PySem.W.Frag} {H : Hp} {G : List (Str × Str × Nat)} {xs : List V} (h2 : All2 (R3 H) G xs) : DpAll K H xs (d3 G) := by
  refine all2_dp (fun g x r => ?_) h2
  obtain ⟨a, e, h⟩ := r
  subst e
  exact .tup (SqT.of h) (.cons (.str _) (.cons (.str _) (.cons (.int _) .nil)))
theorem d3_shaped {f : Str → Str} {G : List (Str × Str × Nat)} (h : K3ok f G) : SeqAt.shaped (.list (d3 G)) = true := by
  refine shaped_of ?_ ?_
  · simp only [d3, PyData.canLay0]
    refine lay_tup fun d hd => ?_
    obtain ⟨g, hg, rfl⟩ := List.mem_map.mp hd
    obtain ⟨h1, h2, h3, h4⟩ := h g hg
    simp only [PyData.canLay0, PyData.canLayAll0, Bool.and_true, Bool.and_eq_true]
    exact ⟨lay_w (by rcases h1 with h | h <;> rw [h] <;> simp), lay_str (asc_name h3)⟩
  · simp only [PyData.depth]
    have := depth_all (l := d3 G) (n := 2) fun d hd => by
      obtain ⟨g, hg, rfl⟩ := List.mem_map.mp hd
      simp only [PyData.depth, PyData.depthAll]
      omega
    omega
def spLBody (N : Nat) : Sp := fun vs H Q _ => ∃ (p kp ev r : Addr) (d n : Nat) (m : Int) (G3 : List (Str × Str × Nat)) (Ge : List (Str × Nat)) (f : Str → Str), vs = [.ref p, .ref kp, .ref ev, .int (d : Int), .ref r] ∧ 1 ≤ d ∧ d ≤ N ∧ Pot H p n ∧ n + Bc d ≤ 960000000 ∧ KG H kp G3 ∧ K3ok f G3 ∧ G3.length ≤ 50 ∧ NG H ev Ge ∧ NGok Ge ∧ Ge.length ≤ 50 ∧
  H r = some (.lst [.int m]) ∧ ∀ b v m' H', BdOk (InG Ge) (KpG G3) f b → bdeep b ≤ d → bwt b + m'.toNat ≤ m.toNat → Buts [p, r] H H' → Pot H' p (n + Bc d) → H' r = some (.lst [.int m']) → RB H' b v → Q v H'
local macro_rules | `(tactic| walk_at "rd") => `(tactic| simp only [tYes, wipe, HO.lst.injEq, HO.tup.injEq, HO.dK.injEq, Nat.reduceAdd, Nat.reduceLeDiff, Nat.reduceSub, Int.reduceLE, Int.reduceLT, Int.reduceNeg, Nat.zero_add, Int.reduceEq, cut_head, cut_tail, cut_mid, cut_three, c_cast0, c_cast1, c_cast2, c_cast3, c_cast4, z_lit, List.getD_eq_getElem?_getD, Option.getD_some, tLc_eq, tFor_eq, cxOf, Cx.nox, Cx.wish, tSeq, tIfS, tOr, tAnd, tNot, tB, tCB, tCons, tVar, tC, tNil, tTest, tChain, rI0, rI, tOp, rIxS, rIxL, rIxT, tRet, tNext, tAsg, gName, tAndV, tOrV, tNotV, tIf, tIsN, tNotN, tCall, tDrop, tBM, tBM0, rEq, rNe, tRetN, tSl, tNoPart, tPart, tTupD, tLstD, tInD, rIsK, rLenS, rLenL, rLenT, rAllT, rAnyF, rInK, rInL, rSlLD, rSlTD, rSlS, rCatD, rCatTD, rAppD, rExtD, rPopD, rPopAtD, rListD, rTupleD, iLst, iTpl, iStr, rIxLH, rIxTH, gTupH, gLstH, gStar0, gStar1, gStar2, rSumH, rAddS2, tJoinS, tFmtS, tFmtI, tJoined, tJoined_nil, tJoined_cons, rIsG, app_empty, tFldD, sFldD, tMkD, tMoD, rIsC, rLenO, rEqO, HO.ins.injEq, exists_eq, tNilL, tML, tML0, tMS, iEnumH, tCallK, rStrI, tGetS, tGet1S, tGet2S, rListKD, tDc_eq, tLc2_eq, tKGet, gCons, gNil, tChain3, tPartD, tSplitD, tPar, New, Chg, rListTD, atI_0, atI_1, atI_2, atI_3, sign_inj, and_false, false_and, or_false, false_or, or_true, true_or, List.take_succ_cons, List.take_zero, List.drop_succ_cons, List.drop_zero, forall_const, exists_false, not_false_eq_true, not_true_eq_false, if_true, if_false, iRng1, KindV,
  L2.start, List.map_cons, List.map_nil, List.length_cons, List.length_nil, List.replicate, List.cons_append, List.nil_append, List.append_nil, List.set_cons_zero, List.set_cons_succ, List.getElem?_cons_zero, List.getElem?_cons_succ, Option.some.injEq, exists_eq_left', exists_eq_left, V.int.injEq, V.str.injEq, V.bl.injEq, V.ref.injEq, V.ty.injEq, true_and, and_true, List.cons.injEq, exists_and_left, exists_eq', and_assoc, scal, ofString_inj, String.reduceEq, reduceIte, decide_eq_true_eq, decide_eq_false_iff_not, Bool.not_true, Bool.not_false, Bool.not_eq_true', inV_cons, inV_nil, eqV_ss, eqV_ii, flatV, List.all_cons, List.all_nil, Bool.and_true, Bool.or_false, Bool.true_and, Bool.false_or, decide_true, decide_false, Bool.true_or, Bool.false_eq_true, reduceCtorEq, spDigit, spLTerm, spLBody, gSub, rSetLD])
local macro_rules | `(tactic| walk_at "ra") => `(tactic| simp only [tYes, wipe, HO.lst.injEq, HO.tup.injEq, HO.dK.injEq, Nat.reduceAdd, Nat.reduceLeDiff, Nat.reduceSub, Int.reduceLE, Int.reduceLT, Int.reduceNeg, Nat.zero_add, Int.reduceEq, cut_head, cut_tail, cut_mid, cut_three, c_cast0, c_cast1, c_cast2, c_cast3, c_cast4, z_lit, List.getD_eq_getElem?_getD, Option.getD_some, tLc_eq, tFor_eq, cxOf, Cx.nox, Cx.wish, tSeq, tIfS, tOr, tAnd, tNot, tB, tCB, tCons, tVar, tC, tNil, tTest, tChain, rI0, rI, tOp, rIxS, rIxL, rIxT, tRet, tNext, tAsg, gName, tAndV, tOrV, tNotV, tIf, tIsN, tNotN, tCall, tDrop, tBM, tBM0, rEq, rNe, tRetN, tSl, tNoPart, tPart, tTupD, tLstD, tInD, rIsK, rLenS, rLenL, rLenT, rAllT, rAnyF, rInK, rInL, rSlLD, rSlTD, rSlS, rCatD, rCatTD, rAppD, rExtD, rPopD, rPopAtD, rListD, rTupleD, iLst, iTpl, iStr, rIxLH, rIxTH, gTupH, gLstH, gStar0, gStar1, gStar2, rSumH, rAddS2, tJoinS, tFmtS, tFmtI, tJoined, tJoined_nil, tJoined_cons, rIsG, app_empty, tFldD, sFldD, tMkD, tMoD, rIsC, rLenO, rEqO, HO.ins.injEq, exists_eq, tNilL, tML, tML0, tMS, iEnumH, tCallK, rStrI, tGetS, tGet1S, tGet2S, rListKD, tDc_eq, tLc2_eq, tKGet, gCons, gNil, tChain3, tPartD, tSplitD, tPar, New, Chg, rListTD, atI_0, atI_1, atI_2, atI_3, sign_inj, and_false, false_and, or_false, false_or, or_true, true_or, List.take_succ_cons, List.take_zero, List.drop_succ_cons, List.drop_zero, forall_const, exists_false, not_false_eq_true, not_true_eq_false, if_true, if_false, iRng1, KindV,
  L2.start, List.map_cons, List.map_nil, List.length_cons, List.length_nil, List.replicate, List.cons_append, List.nil_append, List.append_nil, List.set_cons_zero, List.set_cons_succ, List.getElem?_cons_zero, List.getElem?_cons_succ, Option.some.injEq, exists_eq_left', exists_eq_left, V.int.injEq, V.str.injEq, V.bl.injEq, V.ref.injEq, V.ty.injEq, true_and, and_true, List.cons.injEq, exists_and_left, exists_eq', and_assoc, scal, ofString_inj, String.reduceEq, reduceIte, decide_eq_true_eq, decide_eq_false_iff_not, Bool.not_true, Bool.not_false, Bool.not_eq_true', inV_cons, inV_nil, eqV_ss, eqV_ii, flatV, List.all_cons, List.all_nil, Bool.and_true, Bool.or_false, Bool.true_and, Bool.false_or, decide_true, decide_false, Bool.true_or, Bool.false_eq_true, reduceCtorEq, spDigit, spLTerm, spLBody, gSub, rSetLD, *])

section
variable {P : Program} {w : World} {K : PySem.W.Frag} {mg : Str → Option Value} {base : Heap} {k : Nat}
theorem ifs_i {tt : TT} {a b : TS} {D : Ends} {σ : St} {H : Hp} (h : ∀ A B : St → Hp → Prop, a D = A → b D = B → tt σ H fun k H1 => if k = true then A σ H1 else B σ H1) : tIfS tt a b D σ H := h _ _ rfl rfl
theorem ok_law_body {N : Nat} (T : TX K mg) (D : DF K mg "_law_body" s__law_body ["_law_pot_here", "_law_kept", "_law_every", "_law_deep_here", "_law_room"] []) (G__law_digit : FO P w K mg base "_law_digit" k ["_law_pot_here", "_law_many"] [] spDigit)
    (G__law_term : FO P w K mg base "_law_term" k ["_law_pot_here", "_law_names", "_law_width_here", "_law_deep_here"] [] (spLTerm 4)) (G__law_body : FO P w K mg base "_law_body" k ["_law_pot_here", "_law_kept", "_law_every", "_law_deep_here", "_law_room"] [] (spLBody N)) :
    FO P w K mg base "_law_body" (k + 1) ["_law_pot_here", "_law_kept", "_law_every", "_law_deep_here", "_law_room"] [] (spLBody (N + 1)) := by
  refine D.ok sc__law_body (fun vs H Q E h => ?_) (fun fa cdv A outer s H vs Q E hr h => ?_)
  · obtain ⟨_, _, _, _, _, _, _, _, _, _, rfl, _⟩ := h
    rfl
  obtain ⟨p, kp, ev, r, d, n, m, G3, Ge, f, rfl, hd1, hdN, hp, hn, hkp, hk3, hk3l, hev, hok, hGe, hr0, q⟩ := h
  refine ⟨_, (pss_cons (ps_set (i := 5) sc__law_body.nd rfl (Or.inl rfl) (pe_lstD pa_nil))
    (pss_cons (ps_for PassesOwn.never rfl (pi_range1 rfl T.range (pa_cons (pe_fo G__law_digit hr (pa_cons (pv 0) (pa_cons pe_int pa_nil))) pa_nil)) (pg_name (i := 6) sc__law_body.nd rfl (Or.inl rfl))
      (pss_cons (ps_asg (pe_op op_sub (pe_ix ix_lst (pv 4) pe_int (fun _ _ => rfl)) pe_int) (pg_sub (pv 4) pe_int set_lstD))
    (pss_cons (ps_set (i := 7) sc__law_body.nd rfl (Or.inl rfl) (pe_fo G__law_digit hr (pa_cons (pv 0) (pa_cons pe_int pa_nil))))
    (pss_one (ps_if (PW.pt (pw_and (pt_cmpR op_ge (pe_ix ix_lst (pv 4) pe_int (fun _ _ => rfl)) pe_int (nomark _)) (pw_and (pt_cmpR op_eq (pv 7) pe_int (nomark _)) (pw_and1 (pt_cmpR op_gt (pv 3) pe_int (nomark _))))))
      (pss_cons (ps_set (i := 8) sc__law_body.nd rfl (Or.inl rfl) (pe_fo G__law_term hr (pa_cons (pv 0) (pa_cons (pv 2) (pa_cons pe_int (pa_cons pe_int pa_nil))))))
    (pss_cons (ps_set (i := 9) sc__law_body.nd rfl (Or.inl rfl) (pe_fo G__law_body hr (pa_cons (pv 0) (pa_cons (pv 1) (pa_cons (pv 2) (pa_cons (pe_op op_sub (pv 3) pe_int) (pa_cons (pv 4) pa_nil)))))))
    (pss_one (ps_expr (pe_bmL PySem.F.slot_list_append PySem.F.type_list_append mt_appD (pv 5) (pa_cons (pe_tupD (pa_cons pe_str (pa_cons (pv 8) (pa_cons (pv 9) (pa_cons (pe_fo G__law_body hr (pa_cons (pv 0) (pa_cons (pv 1) (pa_cons (pv 2) (pa_cons (pe_op op_sub (pv 3) pe_int) (pa_cons (pv 4) pa_nil)))))) pa_nil))))) pa_nil))))))
      (pss_one (ps_if (PW.pt (pw_and (pt_cmpR op_ge (pe_ix ix_lst (pv 4) pe_int (fun _ _ => rfl)) pe_int (nomark _)) (pw_and1 (pt_neNilL hr.units (pv 1)))))
      (pss_cons (ps_asg (pe_ix ix_lst (pv 1) (pe_fo G__law_digit hr (pa_cons (pv 0) (pa_cons (pe_callB call_lenL rfl T.len PySem.boot_len (pa_cons (pv 1) pa_nil)) pa_nil))) (fun _ _ => rfl)) (pg_tpl 3 rfl (pgs_cons (pg_name (i := 10) sc__law_body.nd rfl (Or.inl rfl)) (pgs_cons (pg_name (i := 11) sc__law_body.nd rfl (Or.inl rfl)) (pgs_cons (pg_name (i := 12) sc__law_body.nd rfl (Or.inl rfl)) pgs_nil)))))
    (pss_one (ps_expr (pe_bmL PySem.F.slot_list_append PySem.F.type_list_append mt_appD (pv 5) (pa_cons (pe_tupD (pa_cons (pv 10) (pa_cons (pv 11) (pa_cons (pe_fo G__law_term hr (pa_cons (pv 0) (pa_cons (pv 2) (pa_cons (pv 12) (pa_cons pe_int pa_nil))))) pa_nil)))) pa_nil)))))
      pss_nil)))))))
    (pss_one (ps_ret (pe_callTy call_tupleD rfl T.tuple (by decide +kernel) (pa_cons (pv 5) pa_nil)))))), ?_⟩
  obtain ⟨d', rfl⟩ : ∃ d', d = d' + 1 := ⟨d - 1, by omega⟩
  have hBc : Bc (d' + 1) = 2 + 3 * (200 + 2 * Bc d') := rfl
  rw [hBc] at hn
  obtain ⟨W, hW⟩ : ∃ W, W = 200 + 2 * Bc d' := ⟨_, rfl⟩
  rw [← hW] at hn
  refine seq_i fun M hM => ?_
  walk_at "rd"
  intro pf H1 hpf s1 hl1
  have hpr : p ≠ r := hp.ne_lst hr0 (fun a b c z => by cases z)
  have fp : pf ≠ p := hp.fresh hpf
  have fr : pf ≠ r := fun z => by rw [z, hr0] at hpf; cases hpf
  subst hM
  refine seq_i fun M hM => ?_
  walk_at "rd"
  refine ⟨n, hp.same s1, by omega, fun e H2 he b2 hp2 => ⟨by omega, by omega, ?_⟩⟩
  rw [Int.toNat_natCast]
  obtain ⟨Pv, hP⟩ : ∃ Pv : Nat → St → Hp → Prop, ∀ i σ H', Pv i σ H' ↔ ∃ o6 o7 o8 o9 o10 o11 o12 hs xs m', σ = [some (V.ref p), some (V.ref kp), some (V.ref ev), some (V.int ((d' + 1 : Nat) : Int)), some (V.ref r), some (V.ref pf), o6, o7, o8, o9, o10, o11, o12] ∧ Buts [p, r] H H' ∧ Pot H' p (n + 1 + i * W) ∧ H' r = some (.lst [.int m']) ∧ H' pf = some (.lst xs) ∧
    All2 (fun h x => RBl H' h [x]) hs xs ∧ (∀ h ∈ hs, isHead h ∧ BdOk (InG Ge) (KpG G3) f h ∧ bdeep h ≤ d' + 1) ∧ (hs.map bwt).sum + m'.toNat ≤ m.toNat ∧ hs.length ≤ i := ⟨_, fun _ _ _ => Iff.rfl⟩
  refine for_gen (wk_rng (lo := 0) (n := e)) Pv ((hP _ _ _).mpr ⟨none, none, none, none, none, none, none, [], [], m, rfl, (Buts.of s1).trans b2.buts1', hp2.up (by omega), b2 _ _ (Ne.symm hpr) (s1 _ _ hr0), b2 _ _ fp hl1, .nil, fun h hh => (by cases hh), by simp, Nat.le_refl _⟩) (fun _ _ _ _ _ => trivial) (fun i σ H3 hi z => ?_) (fun σ H3 z => ?_)
  · obtain ⟨o6, o7, o8, o9, o10, o11, o12, hs, xs, m1, rfl, b3, hp3, hr3, hx3, hal3, hh3, hwt3, hln3⟩ := (hP _ _ _).mp z
    have hiW : i * W ≤ 2 * W := Nat.mul_le_mul_right _ (by omega)
    have hiS : (i + 1) * W = i * W + W := Nat.succ_mul i W
    have hxl := all2_len hal3
    refine seq_i fun M1 hM1 => ?_
    walk_at "rd"
    have nrp : r ≠ p := Ne.symm hpr
    refine ⟨_, hr3, .int m1, rfl, m1, rfl, _, hr3, 0, rfl, fun H4 b4 hl4 => ?_⟩
    have hl4' : H4 r = some (.lst [.int (m1 - 1)]) := hl4
    have hp4 : Pot H4 p (n + 1 + i * W) := hp3.keep fun o h => b4 _ _ hpr h
    subst hM1
    refine seq_i fun M1 hM1 => ?_
    walk_at "rd"
    refine ⟨_, hp4, by omega, fun way H5 hway b5 hp5 => ?_⟩
    have hr5 := b5 _ _ nrp hl4'
    subst hM1
    refine ifs_i fun A B hA hB => ?_
    walk_at "ra"
    have nin : pf ∉ [p, r] := by simp [fp, fr]
    have hx5 := b5 _ _ fp (b4 _ _ fr hx3)
    have k35 : Tk H3 H5 := (b4.tk hr3).trans (hp4.tk b5)
    have b35 : Buts [p, r] H3 H5 := (b4.buts (by simp)).trans b5.buts1'
    have b05 := b3.trans b35
    have hal5 : All2 (fun h x => RBl H5 h [x]) hs xs := all2_mono (fun _ _ z => RBl.tk k35 _ _ z) hal3
    have npk : p ≠ kp := by
      obtain ⟨xs, h1, h2⟩ := hkp
      refine hp.ne_lst h1 fun a b c z => ?_
      subst z
      cases h2 with
      | cons q _ =>
        obtain ⟨a, e, _⟩ := q
        cases e
    have nrk : r ≠ kp := fun z => by
      obtain ⟨xs, h1, h2⟩ := hkp
      rw [← z, hr0] at h1
      have e := HO.lst.inj (Option.some.inj h1)
      subst e
      cases h2 with
      | cons q _ =>
        obtain ⟨a, e, _⟩ := q
        cases e
    have npv := hev.ne_pot hp
    have nrv : r ≠ ev := fun z => by
      obtain ⟨xs, h1, h2⟩ := hev
      rw [← z, hr0] at h1
      have e := HO.lst.inj (Option.some.inj h1)
      subst e
      cases h2 with
      | cons q _ =>
        obtain ⟨a, e, _⟩ := q
        cases e
    have two : ∀ {H' : Hp} {n' : Nat} {m' : Int}, Pot H' p n' → H' r = some (.lst [.int m']) → ∀ a ∈ [p, r], ∃ l, H' a = some (.lst l) := fun hp' hr' a ha => by
      rcases List.mem_cons.mp ha with rfl | ha
      · exact hp'.lst
      · rw [List.mem_singleton] at ha
        rw [ha]
        exact ⟨_, hr'⟩
    have kv : ∀ {H'}, Buts [p, r] H H' → KG H' kp G3 ∧ NG H' ev Ge := fun b => ⟨hkp.keep (b.tk (two hp hr0)) fun o h => b _ _ (by simp [Ne.symm npk, Ne.symm nrk]) h, hev.keep (b.tk (two hp hr0)) fun o h => b _ _ (by simp [Ne.symm npv, Ne.symm nrv]) h⟩
    -- a statement more
    have more : ∀ (h : Bd) (x : V) (H6 H7 : Hp) (m6 : Int) (o7 o8 o9 o10 o11 o12 : Option V), isHead h → BdOk (InG Ge) (KpG G3) f h → bdeep h ≤ d' + 1 → 0 ≤ m1 - 1 → bwt h + m6.toNat ≤ (m1 - 1).toNat + 1 → Buts [p, r] H5 H6 → Pot H6 p (n + 1 + i * W + W) → H6 r = some (.lst [.int m6]) → RBl H6 h [x] → But pf H6 H7 → H7 pf = some (.lst (xs ++ [x])) →
        Pv (i + 1) [some (V.ref p), some (V.ref kp), some (V.ref ev), some (V.int ((d' + 1 : Nat) : Int)), some (V.ref r), some (V.ref pf), some (V.int (0 + (i : Int))), o7, o8, o9, o10, o11, o12] H7 := fun h x H6 H7 m6 o7 o8 o9 o10 o11 o12 g1 g2 g3 g0 g4 b6 hp6 hr6 hx b7 hl7 => by
      have hx6 := b6 _ _ nin hx5
      have k67 := b7.tk hx6
      refine (hP _ _ _).mpr ⟨_, o7, o8, o9, o10, o11, o12, hs ++ [h], xs ++ [x], m6, rfl, ?_, (hp6.keep fun o h => b7 _ _ (Ne.symm fp) h).up (by omega), b7 _ _ (Ne.symm fr) hr6, hl7, ?_, fun y hy => ?_, ?_, by simp; omega⟩
      · exact Buts.fresh (p := pf) (((b05.trans b6).mono fun a ha => List.mem_cons_of_mem _ ha).trans (b7.buts List.mem_cons_self)) hpf
      · exact all2_snoc (all2_mono (fun _ _ z => RBl.tk ((b6.tk (two hp5 hr5)).trans k67) _ _ z) hal5) (RBl.tk k67 _ _ hx)
      · rcases List.mem_append.mp hy with hy | hy
        · exact hh3 y hy
        · rw [List.mem_singleton] at hy
          rw [hy]
          exact ⟨g1, g2, g3⟩
      · rw [List.map_append, List.sum_append]
        simp
        omega
    have hB' : B [some (V.ref p), some (V.ref kp), some (V.ref ev), some (V.int ((d' + 1 : Nat) : Int)), some (V.ref r), some (V.ref pf), some (V.int (0 + (i : Int))), some (V.int (way : Int)), o8, o9, o10, o11, o12] H5 := by
      subst hB
      refine ifs_i fun A B hA hB => ?_
      have hno : ∀ H6, Same H5 H6 → B [some (V.ref p), some (V.ref kp), some (V.ref ev), some (V.int ((d' + 1 : Nat) : Int)), some (V.ref r), some (V.ref pf), some (V.int (0 + (i : Int))), some (V.int (way : Int)), o8, o9, o10, o11, o12] H6 := fun H6 s6 => by
        subst hB
        refine (hP _ _ _).mpr ⟨_, _, _, _, _, _, _, hs, xs, m1 - 1, rfl, b05.same s6, (hp5.same s6).up (by omega), s6 _ _ hr5, s6 _ _ hx5, all2_mono (fun _ _ z => RBl.tk (same_tk s6) _ _ z) hal5, hh3, by omega, by omega⟩
      walk_at "ra"
      obtain ⟨hk5, hg5⟩ := kv b05
      obtain ⟨xk, hxk, hak⟩ := id hk5
      have hkl := all2_len hak
      by_cases h0 : 0 ≤ m1 - 1
      · rw [if_pos h0]
        refine ⟨_, hxk, d3 G3, fun H6 s6 => d3_dp (all2_mono (fun _ _ ⟨a, e, z⟩ => ⟨a, e, s6 _ _ z⟩) hak), d3_shaped hk3, fun H6 s6 => ?_⟩
        by_cases he : xk.isEmpty = false
        · rw [if_pos he]
          subst hA
          refine seq_i fun M1 hM1 => ?_
          walk_at "rd"
          have hxk6 := s6 _ _ hxk
          have hkpos : 0 < xk.length := by
            cases xk with
            | nil => cases he
            | cons => simp
          refine ⟨_, hxk6, _, hp5.same s6, by omega, by omega, by omega, fun e7 H7 he7 b7 hp7 => ⟨_, b7 _ _ (Ne.symm npk) hxk6, ?_⟩⟩
          have he7' : e7 < xk.length := by omega
          obtain ⟨g, hg, a, ea, ha⟩ := all2_at hak (List.getElem?_eq_getElem he7')
          have hgm := List.mem_of_getElem? hg
          obtain ⟨gw, gf, gn, gk1, gk8⟩ := hk3 g hgm
          have ha7 := (hp5.same s6).tk b7 _ _ (s6 _ _ ha)
          refine ⟨_, atI_nat (List.getElem?_eq_getElem he7'), a, ea, _, ha7, rfl, _, _, rfl, _, _, rfl, _, _, rfl, rfl, ?_⟩
          subst hM1
          walk_at "rd"
          have b57 : Buts [p, r] H5 H7 := (Buts.of s6).trans b7.buts1'
          obtain ⟨_, hg7⟩ := kv (b05.trans b57)
          have hx7 := b57 _ _ nin hx5
          have c2 : Cd 2 = 124 := by decide
          refine ⟨⟨_, hx7⟩, g.2.2, rfl, 2, rfl, by decide, _, hp7, by omega, Ge, hg7, hok, by omega, gk1, gk8, fun tm v H8 hf hdp hwt b8 hp8 hv p9 H9 hq9 s9 hl9 => ?_⟩
          have w2 : Wd 2 = 13 := by decide
          have hx9 := s9 _ _ (b8 _ _ fp hx7)
          refine ⟨_, hx9, by omega, fun H10 b10 hl10 => ?_⟩
          refine more (.set g.1 g.2.1 tm .nil) _ H9 H10 (m1 - 1) _ _ _ _ _ _ rfl ⟨gw, gf, ⟨g.2.2, ⟨g.1, hgm⟩, hf, by omega, by omega⟩, trivial⟩ (by simp only [bdeep]; omega) h0 (by simp only [bwt]; omega) ((b57.trans b8.buts1').same s9) ((hp8.same s9).up (by omega)) (s9 _ _ (b8 _ _ nrp (b57.trans (Buts.refl _ _) |> fun _ => b7 _ _ nrp (s6 _ _ hr5)))) ⟨p9, v, [], rfl, hl9, RT.tk (same_tk s9) _ _ hv, rfl⟩ b10 hl10
        · rw [if_neg he]
          exact hno H6 s6
      · rw [if_neg h0]
        exact hno H5 (Same.refl _)
    by_cases h0 : 0 ≤ m1 - 1
    · rw [if_pos h0]
      by_cases h1 : (way : Int) = 0
      · rw [if_pos h1]
        by_cases h2 : 1 < ((d' + 1 : Nat) : Int)
        · rw [if_pos h2]
          subst hA
          refine seq_i fun M1 hM1 => ?_
          walk_at "rd"
          have c1 : Cd 1 = 40 := by decide
          have w1 : Wd 1 = 4 := by decide
          obtain ⟨hk5, hg5⟩ := kv b05
          refine ⟨1, rfl, 1, rfl, by decide, _, hp5, by omega, Ge, hg5, hok, by omega, Nat.le_refl 1, by decide, fun tc vc H6 hfc hdc hwc b6 hp6 hvc => ?_⟩
          subst hM1
          refine seq_i fun M1 hM1 => ?_
          walk_at "rd"
          have hdd : ((d' + 1 : Nat) : Int) - 1 = (d' : Int) := by omega
          have b56 : Buts [p, r] H5 H6 := b6.buts1'
          obtain ⟨hk6, hg6⟩ := kv (b05.trans b56)
          have hr6 := b6 _ _ nrp hr5
          refine ⟨r, d', hdd, rfl, by omega, by omega, _, hp6, by omega, m1 - 1, G3, hk6, Ge, f, hk3, hk3l, hg6, hok, hGe, hr6, fun ba va m7 H7 hba hda hwa b7 hp7 hr7 hva => ?_⟩
          subst hM1
          walk_at "rd"
          have b57 := b56.trans b7
          obtain ⟨hk7, hg7⟩ := kv (b05.trans b57)
          refine ⟨⟨_, b57 _ _ nin hx5⟩, r, d', hdd, rfl, by omega, by omega, _, hp7, by omega, m7, G3, hk7, Ge, f, hk3, hk3l, hg7, hok, hGe, hr7, fun bb vb m8 H8 hbb hdb hwb b8 hp8 hr8 hvb p9 H9 hq9 s9 hl9 => ?_⟩
          have b58 := b57.trans b8
          have hx9 := s9 _ _ (b58 _ _ nin hx5)
          refine ⟨_, hx9, by omega, fun H10 b10 hl10 => ?_⟩
          have k89 := same_tk s9
          have k79 := (b8.tk (two hp7 hr7)).trans k89
          have k69 := (b7.tk (two hp6 hr6)).trans k79
          obtain ⟨pa, xa, rfl, hpa, hra⟩ := RB.tk k79 hva
          obtain ⟨pb, xb, rfl, hpb, hrb⟩ := RB.tk k89 hvb
          exact more (.ite tc ba bb .nil) _ H9 H10 m8 _ _ _ _ _ _ rfl ⟨⟨hfc, by omega, by omega⟩, hba, hbb, trivial⟩ (by simp only [bdeep]; omega) h0 (by simp only [bwt]; omega) (b58.same s9) ((hp8.same s9).up (by omega)) (s9 _ _ hr8) ⟨p9, vc, pa, pb, xa, xb, [], rfl, hl9, RT.tk k69 _ _ hvc, hpa, hra, hpb, hrb, rfl⟩ b10 hl10
        · rw [if_neg h2]
          exact hB'
      · rw [if_neg h1]
        exact hB'
    · rw [if_neg h0]
      exact hB'
  · obtain ⟨o6, o7, o8, o9, o10, o11, o12, hs, xs, m1, rfl, b3, hp3, hr3, hx3, hal3, hh3, hwt3, hln3⟩ := (hP _ _ _).mp z
    have hiW : e * W ≤ 3 * W := Nat.mul_le_mul_right _ (by omega)
    show M _ _
    subst hM
    walk_at "rd"
    refine ⟨_, hx3, fun p4 H4 hq4 s4 hl4 => ?_⟩
    have hwo := wt_of (hs := hs)
    refine q (ofH hs) _ m1 H4 (ok_of fun h hh => (hh3 h hh).2.1) (deep_of fun h hh => (hh3 h hh).2.2) (by omega) (b3.same s4) ((hp3.same s4).up (by rw [hBc]; omega)) (s4 _ _ hr3) ⟨p4, xs, rfl, hl4, heads_back ?_⟩
    rw [heads_of fun h hh => (hh3 h hh).1]
    exact all2_mono (fun _ _ z => RBl.tk (same_tk s4) _ _ z) hal3
end
end K37
set_option maxHeartbeats 4000000
namespace K37
open PySem L2 TL
open PyProof.Rows hiding St
theorem sc__law_blocks : FnScope ["_law_pot_here", "_law_signals", "_law_taken", "_law_every", "_law_triggers", "_law_kept", "_law_row", "_law_found", "_law_k", "_law_edge", "_law_trigger", "_law_body_here", "_law_name_here", "_law_width_here"] ["_law_pot_here", "_law_signals", "_law_taken"] (defScope s__law_blocks) := ⟨rfl, rfl, rfl, by decide +kernel, rfl, by decide +kernel, by decide +kernel⟩

def nw (s : Sg) : Str × Nat := (s.name, s.wd)
theorem BdOk.mono {G G' Kp Kp' : Str → Nat → Prop} {f : Str → Str} (h : ∀ n k, G n k → G' n k) (hk : ∀ n k, Kp n k → Kp' n k) : ∀ {b : Bd}, BdOk G Kp f b → BdOk G' Kp' f b
  | .nil, _ => trivial
  | .set _ _ _ _, q => by
    obtain ⟨q1, q2, ⟨k, q3, q4⟩, q5⟩ := q
    exact ⟨q1, q2, ⟨k, hk _ _ q3, q4.mono h⟩, BdOk.mono h hk q5⟩
  | .ite _ _ _ _, q => ⟨q.1.mono h, BdOk.mono h hk q.2.1, BdOk.mono h hk q.2.2.1, BdOk.mono h hk q.2.2.2⟩
def wordF (G : List (Str × Str × Nat)) (n : Str) : Str := ((G.find? fun g => g.2.1 == n).map (·.1)).getD "now"
theorem wordF_of : ∀ {G : List (Str × Str × Nat)}, (G.map (·.2.1)).Nodup → ∀ g ∈ G, wordF G g.2.1 = g.1
  | [], _, g, h => by cases h
  | a :: r, hn, g, h => by
    rw [List.map_cons, List.nodup_cons] at hn
    unfold wordF
    rw [List.find?_cons]
    rcases List.mem_cons.mp h with rfl | h
    · simp
    · have hne : (a.2.1 == g.2.1) = false := by
        rw [beq_eq_false_iff_ne]
        intro z
        exact hn.1 (z ▸ List.mem_map_of_mem h)
      rw [hne]
      exact wordF_of hn.2 g h
theorem take_names {sg : List Sg} {i : Nat} {s0 : Sg} (hnd : (sg.map Sg.name).Nodup) (h : sg[i]? = some s0) : ∀ s ∈ sg.take i, s.name ≠ s0.name := fun s hs z => by
  have h1 : ((sg.take (i + 1)).map Sg.name).Nodup := ((List.take_sublist (i + 1) sg).map Sg.name).nodup hnd
  rw [take_snoc h, List.map_append, List.nodup_append] at h1
  exact h1.2.2 _ (List.mem_map_of_mem hs) s0.name (by simp) z
theorem Bc_le {d : Nat} (h : d ≤ 4) : Bc d ≤ 155918 := by
  have h1 : Bc 0 = 0 ∧ Bc 1 = 602 ∧ Bc 2 = 4214 ∧ Bc 3 = 25886 ∧ Bc 4 = 155918 := by decide
  have : d = 0 ∨ d = 1 ∨ d = 2 ∨ d = 3 ∨ d = 4 := by omega
  rcases this with rfl | rfl | rfl | rfl | rfl <;> omega
def spLBlocks : Sp := fun vs H Q _ => ∃ (p sl t : Addr) (n : Nat) (sg : List Sg) (ns : List Str), vs = [.ref p, .ref sl, .ref t] ∧ Pot H p n ∧ n ≤ 900000000 ∧ LS H sl sg ∧ sg.length ≤ 24 ∧ (∀ s ∈ sg, SgN s) ∧ (sg.map Sg.name).Nodup ∧ Nms H t ns ∧ ns.length ≤ 30 ∧ t ≠ sl ∧
  ∀ bl f a H', (∀ b ∈ bl, BkOk sg f b) → bl.length ≤ 3 → (ns ++ bl.map Bk.name).Nodup → H a = none → Buts [p, t] H H' → LK H' a bl → Q (.ref a) H'
local macro_rules | `(tactic| walk_at "rd") => `(tactic| simp only [tYes, wipe, HO.lst.injEq, HO.tup.injEq, HO.dK.injEq, Nat.reduceAdd, Nat.reduceLeDiff, Nat.reduceSub, Int.reduceLE, Int.reduceLT, Int.reduceNeg, Nat.zero_add, Int.reduceEq, cut_head, cut_tail, cut_mid, cut_three, c_cast0, c_cast1, c_cast2, c_cast3, c_cast4, z_lit, List.getD_eq_getElem?_getD, Option.getD_some, tLc_eq, tFor_eq, cxOf, Cx.nox, Cx.wish, tSeq, tIfS, tOr, tAnd, tNot, tB, tCB, tCons, tVar, tC, tNil, tTest, tChain, rI0, rI, tOp, rIxS, rIxL, rIxT, tRet, tNext, tAsg, gName, tAndV, tOrV, tNotV, tIf, tIsN, tNotN, tCall, tDrop, tBM, tBM0, rEq, rNe, tRetN, tSl, tNoPart, tPart, tTupD, tLstD, tInD, rIsK, rLenS, rLenL, rLenT, rAllT, rAnyF, rInK, rInL, rSlLD, rSlTD, rSlS, rCatD, rCatTD, rAppD, rExtD, rPopD, rPopAtD, rListD, rTupleD, iLst, iTpl, iStr, rIxLH, rIxTH, gTupH, gLstH, gStar0, gStar1, gStar2, rSumH, rAddS2, tJoinS, tFmtS, tFmtI, tJoined, tJoined_nil, tJoined_cons, rIsG, app_empty, tFldD, sFldD, tMkD, tMoD, rIsC, rLenO, rEqO, HO.ins.injEq, exists_eq, tNilL, tML, tML0, tMS, iEnumH, tCallK, rStrI, tGetS, tGet1S, tGet2S, rListKD, tDc_eq, tLc2_eq, tKGet, gCons, gNil, tChain3, tPartD, tSplitD, tPar, New, Chg, rListTD, atI_0, atI_1, atI_2, atI_3, sign_inj, and_false, false_and, or_false, false_or, or_true, true_or, List.take_succ_cons, List.take_zero, List.drop_succ_cons, List.drop_zero, forall_const, exists_false, not_false_eq_true, not_true_eq_false, if_true, if_false, iRng1, KindV,
  L2.start, List.map_cons, List.map_nil, List.length_cons, List.length_nil, List.replicate, List.cons_append, List.nil_append, List.append_nil, List.set_cons_zero, List.set_cons_succ, List.getElem?_cons_zero, List.getElem?_cons_succ, Option.some.injEq, exists_eq_left', exists_eq_left, V.int.injEq, V.str.injEq, V.bl.injEq, V.ref.injEq, V.ty.injEq, true_and, and_true, List.cons.injEq, exists_and_left, exists_eq', and_assoc, scal, ofString_inj, String.reduceEq, reduceIte, decide_eq_true_eq, decide_eq_false_iff_not, Bool.not_true, Bool.not_false, Bool.not_eq_true', inV_cons, inV_nil, eqV_ss, eqV_ii, flatV, List.all_cons, List.all_nil, Bool.and_true, Bool.or_false, Bool.true_and, Bool.false_or, decide_true, decide_false, Bool.true_or, Bool.false_eq_true, reduceCtorEq, spDigit, spLName, spLBody, spLBlocks, CMul])
local macro_rules | `(tactic| walk_at "ra") => `(tactic| simp only [tYes, wipe, HO.lst.injEq, HO.tup.injEq, HO.dK.injEq, Nat.reduceAdd, Nat.reduceLeDiff, Nat.reduceSub, Int.reduceLE, Int.reduceLT, Int.reduceNeg, Nat.zero_add, Int.reduceEq, cut_head, cut_tail, cut_mid, cut_three, c_cast0, c_cast1, c_cast2, c_cast3, c_cast4, z_lit, List.getD_eq_getElem?_getD, Option.getD_some, tLc_eq, tFor_eq, cxOf, Cx.nox, Cx.wish, tSeq, tIfS, tOr, tAnd, tNot, tB, tCB, tCons, tVar, tC, tNil, tTest, tChain, rI0, rI, tOp, rIxS, rIxL, rIxT, tRet, tNext, tAsg, gName, tAndV, tOrV, tNotV, tIf, tIsN, tNotN, tCall, tDrop, tBM, tBM0, rEq, rNe, tRetN, tSl, tNoPart, tPart, tTupD, tLstD, tInD, rIsK, rLenS, rLenL, rLenT, rAllT, rAnyF, rInK, rInL, rSlLD, rSlTD, rSlS, rCatD, rCatTD, rAppD, rExtD, rPopD, rPopAtD, rListD, rTupleD, iLst, iTpl, iStr, rIxLH, rIxTH, gTupH, gLstH, gStar0, gStar1, gStar2, rSumH, rAddS2, tJoinS, tFmtS, tFmtI, tJoined, tJoined_nil, tJoined_cons, rIsG, app_empty, tFldD, sFldD, tMkD, tMoD, rIsC, rLenO, rEqO, HO.ins.injEq, exists_eq, tNilL, tML, tML0, tMS, iEnumH, tCallK, rStrI, tGetS, tGet1S, tGet2S, rListKD, tDc_eq, tLc2_eq, tKGet, gCons, gNil, tChain3, tPartD, tSplitD, tPar, New, Chg, rListTD, atI_0, atI_1, atI_2, atI_3, sign_inj, and_false, false_and, or_false, false_or, or_true, true_or, List.take_succ_cons, List.take_zero, List.drop_succ_cons, List.drop_zero, forall_const, exists_false, not_false_eq_true, not_true_eq_false, if_true, if_false, iRng1, KindV,
  L2.start, List.map_cons, List.map_nil, List.length_cons, List.length_nil, List.replicate, List.cons_append, List.nil_append, List.append_nil, List.set_cons_zero, List.set_cons_succ, List.getElem?_cons_zero, List.getElem?_cons_succ, Option.some.injEq, exists_eq_left', exists_eq_left, V.int.injEq, V.str.injEq, V.bl.injEq, V.ref.injEq, V.ty.injEq, true_and, and_true, List.cons.injEq, exists_and_left, exists_eq', and_assoc, scal, ofString_inj, String.reduceEq, reduceIte, decide_eq_true_eq, decide_eq_false_iff_not, Bool.not_true, Bool.not_false, Bool.not_eq_true', inV_cons, inV_nil, eqV_ss, eqV_ii, flatV, List.all_cons, List.all_nil, Bool.and_true, Bool.or_false, Bool.true_and, Bool.false_or, decide_true, decide_false, Bool.true_or, Bool.false_eq_true, reduceCtorEq, spDigit, spLName, spLBody, spLBlocks, CMul, *])

section
variable {P : Program} {w : World} {K : PySem.W.Frag} {mg : Str → Option Value} {base : Heap} {k : Nat}
theorem ok_law_blocks (T : TX K mg) (D : DF K mg "_law_blocks" s__law_blocks ["_law_pot_here", "_law_signals", "_law_taken"] []) (G__law_digit : FO P w K mg base "_law_digit" k ["_law_pot_here", "_law_many"] [] spDigit)
    (G__law_name : FO P w K mg base "_law_name" k ["_law_pot_here", "_law_taken"] [] spLName) (G__law_body : FO P w K mg base "_law_body" k ["_law_pot_here", "_law_kept", "_law_every", "_law_deep_here", "_law_room"] [] (spLBody 4)) :
    FO P w K mg base "_law_blocks" (k + 1) ["_law_pot_here", "_law_signals", "_law_taken"] [] spLBlocks := by
  refine D.ok sc__law_blocks (fun vs H Q E h => ?_) (fun fa cdv A outer s H vs Q E hr h => ?_)
  · obtain ⟨_, _, _, _, _, _, rfl, _⟩ := h
    rfl
  obtain ⟨p, sl, t, n, sg, ns, rfl, hp, hn, hsl, hsgl, hsn, hnd, hnm, hnl, htsl, q⟩ := h
  refine ⟨_, (pss_cons (ps_setLc (i := 3) (own := [("_law_row", 6)]) (tt := tYes) rfl sc__law_blocks.nd rfl rfl (sw_true rfl rfl rfl (by decide +kernel)) (pi_lst (pv 1)) (blkOk_by (N := ["_law_pot_here", "_law_signals", "_law_taken", "_law_every", "_law_triggers", "_law_kept", "_law_row", "_law_found", "_law_k", "_law_edge", "_law_trigger", "_law_body_here", "_law_name_here", "_law_width_here"]) (sc := defScope s__law_blocks) (by decide +kernel)) (fun _ _ _ _ _ => (pg_name (i := 6) sc__law_blocks.nd rfl (Or.inl rfl))) (fun _ _ _ _ _ => pts_nil) (fun _ _ _ _ _ => (pe_slice sl_tupD (pv 6) (po_some pe_int) (po_some pe_int))))
    (pss_cons (ps_setLc (i := 4) (own := [("_law_name_here", 12), ("_law_width_here", 13)]) (tt := _) rfl sc__law_blocks.nd rfl rfl (sw_true rfl rfl rfl (by decide +kernel)) (pi_lst (pv 3)) (blkOk_by (N := ["_law_pot_here", "_law_signals", "_law_taken", "_law_every", "_law_triggers", "_law_kept", "_law_row", "_law_found", "_law_k", "_law_edge", "_law_trigger", "_law_body_here", "_law_name_here", "_law_width_here"]) (sc := defScope s__law_blocks) (by decide +kernel)) (fun _ _ _ _ _ => (pg_tpl 2 rfl (pgs_cons (pg_name (i := 12) sc__law_blocks.nd rfl (Or.inl rfl)) (pgs_cons (pg_name (i := 13) sc__law_blocks.nd rfl (Or.inl rfl)) pgs_nil)))) (fun _ _ _ _ _ => (pts_one (pt_cmpR op_eq (pv 13) pe_int (nomark _)))) (fun _ _ _ _ _ => (pv 12)))
    (pss_cons (ps_set (i := 5) sc__law_blocks.nd rfl (Or.inl rfl) (pe_lstD pa_nil))
    (pss_cons (ps_for PassesOwn.never rfl (pi_lst (pv 1)) (pg_name (i := 6) sc__law_blocks.nd rfl (Or.inl rfl))
      (pss_one (ps_if (pt_cmpR op_eq (pe_ix ix_tpl (pv 6) pe_int (fun _ _ => rfl)) pe_str (nomark _))
      (pss_one (ps_expr (pe_bmL PySem.F.slot_list_append PySem.F.type_list_append mt_appD (pv 5) (pa_cons (pe_tupD (pa_cons (pe_ix ix_lst (pe_lstD (pa_cons pe_str (pa_cons pe_str pa_nil))) (pe_fo G__law_digit hr (pa_cons (pv 0) (pa_cons pe_int pa_nil))) (fun _ _ => rfl)) (pa_cons (pe_ix ix_tpl (pv 6) pe_int (fun _ _ => rfl)) (pa_cons (pe_ix ix_tpl (pv 6) pe_int (fun _ _ => rfl)) pa_nil)))) pa_nil))))
      pss_nil)))
    (pss_cons (ps_set (i := 7) sc__law_blocks.nd rfl (Or.inl rfl) (pe_lstD pa_nil))
    (pss_cons (ps_for PassesOwn.never rfl (pi_range1 rfl T.range (pa_cons (pe_op op_mul (pe_fo G__law_digit hr (pa_cons (pv 0) (pa_cons pe_int pa_nil))) (pe_callTy call_int1 rfl T.int (by decide +kernel) (pa_cons (pe_neNilL hr.units (pv 4)) pa_nil))) pa_nil)) (pg_name (i := 8) sc__law_blocks.nd rfl (Or.inl rfl))
      (pss_cons (ps_set (i := 9) sc__law_blocks.nd rfl (Or.inl rfl) (pe_ix ix_lst (pe_lstD (pa_cons pe_str (pa_cons pe_str pa_nil))) (pe_fo G__law_digit hr (pa_cons (pv 0) (pa_cons pe_int pa_nil))) (fun _ _ => rfl)))
    (pss_cons (ps_set (i := 10) sc__law_blocks.nd rfl (Or.inl rfl) (pe_ix ix_lst (pv 4) (pe_fo G__law_digit hr (pa_cons (pv 0) (pa_cons (pe_callB call_lenL rfl T.len PySem.boot_len (pa_cons (pv 4) pa_nil)) pa_nil))) (fun _ _ => rfl)))
    (pss_cons (ps_set (i := 11) sc__law_blocks.nd rfl (Or.inl rfl) (pe_fo G__law_body hr (pa_cons (pv 0) (pa_cons (pv 5) (pa_cons (pv 3) (pa_cons (pe_op op_add pe_int (pe_fo G__law_digit hr (pa_cons (pv 0) (pa_cons pe_int pa_nil)))) (pa_cons (pe_lstD (pa_cons pe_int pa_nil)) pa_nil)))))))
    (pss_one (ps_expr (pe_bmL PySem.F.slot_list_append PySem.F.type_list_append mt_appD (pv 7) (pa_cons (pe_tupD (pa_cons (pe_fo G__law_name hr (pa_cons (pv 0) (pa_cons (pv 2) pa_nil))) (pa_cons (pv 9) (pa_cons (pv 10) (pa_cons (pv 11) pa_nil))))) pa_nil))))))))
    (pss_one (ps_ret (pv 7))))))))), ?_⟩
  obtain ⟨xs, hx, hal⟩ := id hsl
  have hlen := all2_len hal
  refine seq_i fun M hM => ?_
  walk_at "rd"
  refine ⟨_, hx, ?_⟩
  refine lc_gen (wk_lst (xs := xs)) (fun H s => s _ _ hx) (fun i acc H => All2 (RN H) ((sg.take i).map nw) acc) (by omega) (fun i acc H _ u => ?_) (fun i acc H H' u k => all2_mono (fun _ _ z => z.tk k) u) (fun _ _ => .nil) (fun i acc H2 Ky Kn hi s2 u ky _ => ?_) (fun D2 acc H2 s2 hD2 hl2 u => ?_)
  · have := all2_len u
    rw [List.length_map, List.length_take] at this
    omega
  · have hget : xs[i]? = some (xs.getD i .non) := by simp [hi]
    obtain ⟨s0, hs0, a, v, e, ha, hv⟩ := all2_at hal hget
    rw [e]
    have ha2 := s2 _ _ ha
    walk_at "rd"
    refine ⟨_, ha2, by rw [cut_mid]; show 2 < 4; decide, fun p3 H3 hq3 s3 hl3 => ky _ _ s3 ?_⟩
    have hs0' : sg[i]? = some s0 := hs0
    have htk : (sg.take (i + 1)).map nw = (sg.take i).map nw ++ [nw s0] := by rw [take_snoc hs0']; simp
    rw [htk]
    exact all2_snoc (all2_mono (fun _ _ z => z.tk (same_tk s3)) u) ⟨p3, rfl, by rw [hl3, cut_mid]; rfl⟩
  · rw [List.take_of_length_le (by omega)] at u
    subst hM
    refine seq_i fun M hM => ?_
    walk_at "rd"
    have hel := all2_len u
    rw [List.length_map] at hel
    refine ⟨_, hl2, ?_⟩
    refine lc_gen (wk_lst (xs := acc)) (fun H s => s _ _ hl2) (fun i ac2 H => ∃ ts : List Str, ac2 = ts.map V.str ∧ ts.length ≤ i ∧ ∀ x ∈ ts, (x, 1) ∈ sg.map nw) (by omega) (fun i acc H _ u => ?_) (fun _ _ _ _ u _ => u) (fun _ _ => ⟨[], rfl, Nat.le_refl _, fun x hx => by cases hx⟩) (fun i ac2 H3 Ky Kn hi s3 u3 ky kn => ?_) (fun D3 ac2 H3 s3 hD3 hl3 u3 => ?_)
    · obtain ⟨ns, rfl, h, _⟩ := u
      rw [List.length_map]
      exact h
    · obtain ⟨ts, rfl, hl, hm⟩ := u3
      have hget : acc[i]? = some (acc.getD i .non) := by simp [hi]
      obtain ⟨g0, hg0, a, e, ha⟩ := all2_at u hget
      have hmem := List.mem_of_getElem? hg0
      rw [e]
      have ha3 := s3 _ _ ha
      walk_at "ra"
      by_cases hc : (g0.2 : Int) = 1
      · rw [if_pos hc]
        refine ky _ _ (Same.refl _) ⟨ts ++ [g0.1], by simp, by simp; omega, fun x hx => ?_⟩
        rcases List.mem_append.mp hx with hx | hx
        · exact hm x hx
        · rw [List.mem_singleton] at hx
          have : g0.2 = 1 := by omega
          rw [hx, ← this]
          exact hmem
      · rw [if_neg hc]
        exact kn _ (Same.refl _) ⟨ts, rfl, by omega, hm⟩
    obtain ⟨ts, rfl, htl, htm⟩ := u3
    have hev3 : NG H3 D2 (sg.map nw) := ⟨acc, s3 _ _ hl2, all2_mono (fun _ _ z => z.tk (same_tk s3)) u⟩
    have s03 := s2.trans s3
    subst hM
    refine seq_i fun M hM => ?_
    walk_at "rd"
    intro p4 H4 hq4 s4 hl4
    have s04 := s03.trans s4
    have hev4 := hev3.same s4
    have hl34 := s4 _ _ hl3
    have f4 : p4 ≠ p := (hp.same s03).fresh hq4
    have hsl4 := s04 _ _ hx
    have f4s : p4 ≠ sl := fun z => by rw [z] at hq4; rw [s03 _ _ hx] at hq4; cases hq4
    have f4t : p4 ≠ t := fun z => by have := hnm.1; rw [z] at hq4; rw [s03 _ _ this] at hq4; cases hq4
    have psl : p ≠ sl := hp.ne_lst hx (fun a b c z => by
      subst z
      cases hal with
      | cons r _ =>
        obtain ⟨a, v, e, _⟩ := r
        cases e)
    have n4 : H p4 = none := by
      cases e : H p4 with
      | none => rfl
      | some o => rw [s03 _ _ e] at hq4; cases hq4
    subst hM
    refine seq_i fun M hM => ?_
    walk_at "rd"
    refine ⟨_, hsl4, ?_⟩
    obtain ⟨Pv, hP⟩ : ∃ Pv : Nat → St → Hp → Prop, ∀ i σ H', Pv i σ H' ↔ ∃ o6 xk G3, σ = [some (V.ref p), some (V.ref sl), some (V.ref t), some (V.ref D2), some (V.ref D3), some (V.ref p4), o6, none, none, none, none, none, none, none] ∧ But p H H' ∧ Pot H' p (n + i) ∧ H' p4 = some (.lst xk) ∧ All2 (R3 H') G3 xk ∧ NG H' D2 (sg.map nw) ∧ H' D3 = some (.lst (ts.map V.str)) ∧
      (∀ g ∈ G3, (g.1 = "now" ∨ g.1 = "later") ∧ ∃ v, Sg.kept g.2.1 g.2.2 v ∈ sg.take i) ∧ (G3.map (·.2.1)).Nodup ∧ G3.length ≤ i := ⟨_, fun _ _ _ => Iff.rfl⟩
    refine for_gen (wk_lst (xs := xs)) Pv ((hP _ _ _).mpr ⟨none, [], [], rfl, But.of s04, hp.same s04, hl4, .nil, hev4, hl34, fun g hg => (by cases hg), List.nodup_nil, Nat.le_refl _⟩) (fun i σ H5 _ z => ?_) (fun i σ H5 hi z => ?_) (fun σ H5 z => ?_)
    · obtain ⟨_, _, _, _, b5, _⟩ := (hP _ _ _).mp z
      exact b5 _ _ (Ne.symm psl) hx
    · obtain ⟨o6, xk, G3, rfl, b5, hp5, hx5, hal5, hev5, ht5, hg5, hnd5, hln5⟩ := (hP _ _ _).mp z
      have hget : xs[i]? = some (xs.getD i .non) := by simp [hi]
      obtain ⟨s0, hs0, a, v, e, ha, hv⟩ := all2_at hal hget
      rw [e]
      have k5 : Tk H H5 := hp.tk b5
      have ha5 := k5 _ _ ha
      have hxl := all2_len hal5
      have hmem := List.mem_of_getElem? hs0
      have htk := take_snoc hs0
      walk_at "rd"
      refine ⟨_, ha5, _, rfl, ?_⟩
      refine ⟨rfl, ?_⟩
      by_cases hk : s0.sort = Str.ofString "kept"
      · obtain ⟨nm, kk, v0, rfl⟩ : ∃ nm kk v0, s0 = .kept nm kk v0 := by
          cases s0 with
          | inp n k => exact absurd hk (by show ¬ (Str.ofString "input" = Str.ofString "kept"); decide +kernel)
          | kept n k v => exact ⟨n, k, v, rfl⟩
          | wire n k t => exact absurd hk (by show ¬ (Str.ofString "wire" = Str.ofString "kept"); decide +kernel)
          | filt n k t => exact absurd hk (by show ¬ (Str.ofString "filter" = Str.ofString "kept"); decide +kernel)
          | bus n k ds => exact absurd hk (by show ¬ (Str.ofString "bus" = Str.ofString "kept"); decide +kernel)
        rw [if_pos (congrArg V.str hk)]
        refine ⟨⟨_, hx5⟩, fun p6 H6 hq6 s6 hl6 => ⟨_, hp5.same s6, by omega, fun e7 H7 he7 b7 hp7 => ⟨_, b7 _ _ (hp5.fresh hq6) hl6, ?_⟩⟩⟩
        obtain ⟨wd, hwd, hwds⟩ : ∃ wd : Str, [V.str (Str.ofString "now"), V.str (Str.ofString "later")][e7]? = some (.str wd) ∧ (wd = "now" ∨ wd = "later") := by
          have : e7 = 0 ∨ e7 = 1 := by omega
          rcases this with rfl | rfl
          · exact ⟨_, rfl, .inl rfl⟩
          · exact ⟨_, rfl, .inr rfl⟩
        have ha7 := (hp5.same s6).tk b7 _ _ (s6 _ _ ha5)
        refine ⟨_, atI_nat hwd, _, ha7, _, rfl, _, ha7, _, rfl, fun p8 H8 hq8 s8 hl8 => ?_⟩
        have hx8 := s8 _ _ (b7 _ _ f4 (s6 _ _ hx5))
        refine ⟨_, hx8, by omega, fun H9 b9 hl9 => ?_⟩
        have k89 := b9.tk hx8
        have k59 : Tk H5 H9 := (((same_tk s6).trans ((hp5.same s6).tk b7)).trans (same_tk s8)).trans k89
        have keep : ∀ c o, c ≠ p → c ≠ p4 → H5 c = some o → H9 c = some o := fun c o h1 h2 h => b9 _ _ h2 (s8 _ _ (b7 _ _ h1 (s6 _ _ h)))
        have fD2 : D2 ≠ p := hp.fresh hD2
        have fD3 : D3 ≠ p := (hp.same s2).fresh hD3
        have gD2 : D2 ≠ p4 := fun z => by rw [← z, s3 _ _ hl2] at hq4; cases hq4
        have gD3 : D3 ≠ p4 := fun z => by rw [← z, hl3] at hq4; cases hq4
        refine (hP _ _ _).mpr ⟨_, _, G3 ++ [(wd, nm, kk)], rfl, ?_, ((hp7.same s8).keep fun o h => b9 _ _ (Ne.symm f4) h), hl9, ?_, hev5.keep k59 fun o h => keep _ _ fD2 gD2 h, keep _ _ fD3 gD3 ht5, fun g hg => ?_, ?_, by simp; omega⟩
        · intro c o hc h
          exact b9 _ _ (ne_of_none h n4) (s8 _ _ (b7 _ _ hc (s6 _ _ (b5 _ _ hc h))))
        · exact all2_snoc (all2_mono (fun _ _ ⟨a, e, z⟩ => ⟨a, e, k59 _ _ z⟩) hal5) ⟨p8, rfl, k89 _ _ hl8⟩
        · rw [htk]
          rcases List.mem_append.mp hg with hg | hg
          · obtain ⟨h1, v, h2⟩ := hg5 g hg
            exact ⟨h1, v, List.mem_append_left _ h2⟩
          · rw [List.mem_singleton] at hg
            rw [hg]
            exact ⟨hwds, v0, List.mem_append_right _ (by simp)⟩
        · rw [List.map_append, List.nodup_append]
          refine ⟨hnd5, by simp, fun a ha b hb => ?_⟩
          rw [List.map_cons, List.map_nil, List.mem_singleton] at hb
          rw [hb]
          obtain ⟨g, hg, rfl⟩ := List.mem_map.mp ha
          obtain ⟨_, v, h2⟩ := hg5 g hg
          exact take_names hnd hs0 _ h2
      · rw [if_neg (fun z => hk (V.str.inj z))]
        refine (hP _ _ _).mpr ⟨_, xk, G3, rfl, b5, hp5.up (by omega), hx5, hal5, hev5, ht5, fun g hg => ?_, hnd5, by omega⟩
        obtain ⟨h1, v, h2⟩ := hg5 g hg
        exact ⟨h1, v, by rw [htk]; exact List.mem_append_left _ h2⟩
    · obtain ⟨o6, xk, G3, rfl, b5, hp5, hx5, hal5, hev5, ht5, hg5, hnd5, hln5⟩ := (hP _ _ _).mp z
      show M _ _
      subst hM
      refine seq_i fun M hM => ?_
      walk_at "rd"
      intro p6 H6 hq6 s6 hl6
      subst hM
      refine seq_i fun M hM => ?_
      walk_at "rd"
      refine ⟨_, hp5.same s6, by omega, fun e7 H7 he7 b7 hp7 => ?_⟩
      have fD2 : D2 ≠ p := hp.fresh hD2
      have fD3 : D3 ≠ p := (hp.same s2).fresh hD3
      have f6 : p6 ≠ p := hp5.fresh hq6
      have ht7 := b7 _ _ fD3 (s6 _ _ ht5)
      have htn : ∀ x ∈ ts, NameOk x := fun x hx => by
        obtain ⟨s0, hs0, e⟩ := List.mem_map.mp (htm x hx)
        rw [← (Prod.mk.inj e).1]
        exact (hsn s0 hs0).1
      refine ⟨_, ht7, ts.map PyData.str, fun _ _ => dp_strs ts, shaped_strs fun x hx => asc_name (htn x hx), fun H8 s8 => ?_⟩
      have hN3 : ((e7 : Int) * if (List.map V.str ts).isEmpty = false then 1 else 0).toNat ≤ 3 := by split <;> omega
      have hN0 : 0 < ((e7 : Int) * if (List.map V.str ts).isEmpty = false then 1 else 0).toNat → ts ≠ [] := fun h z => by
        subst z
        simp at h
      refine ⟨.inl ⟨by omega, by omega⟩, by split <;> omega, by split <;> omega, ?_⟩
      generalize ((e7 : Int) * if (List.map V.str ts).isEmpty = false then 1 else 0).toNat = N at hN3 hN0 ⊢
      have hpt : p ≠ t := hp.ne_strs hnm.1
      have b08 : But p H H8 := ((b5.same s6).trans b7).same s8
      have ht8 := b08 _ _ (Ne.symm hpt) hnm.1
      have k58 : Tk H5 H8 := ((same_tk s6).trans ((hp5.same s6).tk b7)).trans (same_tk s8)
      have up58 : ∀ c o, c ≠ p → H5 c = some o → H8 c = some o := fun c o h1 h => s8 _ _ (b7 _ _ h1 (s6 _ _ h))
      have ne_t : ∀ {c : Addr} {H' : Hp}, But p H H' → H' c = none → c ≠ t := fun b h z => by
        rw [z, b _ _ (Ne.symm hpt) hnm.1] at h
        cases h
      have tD2 : D2 ≠ t := ne_t (But.refl p H) hD2
      have tD3 : D3 ≠ t := ne_t (But.of s2) hD3
      have t4 : p4 ≠ t := f4t
      have t6 : p6 ≠ t := ne_t b5 hq6
      have g64 : p4 ≠ p6 := fun z => by rw [← z, hx5] at hq6; cases hq6
      have g6D2 : D2 ≠ p6 := fun z => by obtain ⟨l, h, _⟩ := hev5; rw [← z, h] at hq6; cases hq6
      have g6D3 : D3 ≠ p6 := fun z => by rw [← z, ht5] at hq6; cases hq6
      have n6 : H p6 = none := but_new b5 (by obtain ⟨l, h⟩ := hp5.lst; exact ⟨_, h⟩) hq6
      have hnok : NGok (sg.map nw) := fun g hg => by
        obtain ⟨s0, hs0, rfl⟩ := List.mem_map.mp hg
        exact hsn s0 hs0
      have hk3 : K3ok (wordF G3) G3 := fun g hg => by
        obtain ⟨h1, v, h2⟩ := hg5 g hg
        obtain ⟨h3, h4, h5⟩ := hsn _ (List.mem_of_mem_take h2)
        exact ⟨h1, wordF_of hnd5 g hg, h3, h4, h5⟩
      have hkp : ∀ n k, KpG G3 n k → GK sg n k := fun n k ⟨w, hw⟩ => by
        obtain ⟨h1, v, h2⟩ := hg5 _ hw
        exact ⟨v, List.mem_of_mem_take h2⟩
      have hgw : ∀ n k, InG (sg.map nw) n k → GW sg n k := fun n k h => by
        obtain ⟨s0, hs0, e⟩ := List.mem_map.mp h
        exact ⟨s0, hs0, (Prod.mk.inj e).1, (Prod.mk.inj e).2⟩
      have hb4 : Bc 4 = 155918 := by decide
      obtain ⟨Pw, hW⟩ : ∃ Pw : Nat → St → Hp → Prop, ∀ i σ H', Pw i σ H' ↔ ∃ o8 o9 o10 o11 bl xb, σ = [some (V.ref p), some (V.ref sl), some (V.ref t), some (V.ref D2), some (V.ref D3), some (V.ref p4), o6, some (V.ref p6), o8, o9, o10, o11, none, none] ∧ Buts [p, t] H H' ∧ Pot H' p (n + 30 + i * 156000) ∧
        H' t = some (.lst ((ns ++ bl.map Bk.name).map V.str)) ∧ (ns ++ bl.map Bk.name).Nodup ∧ (∀ x ∈ ns ++ bl.map Bk.name, NameOk x) ∧ H' p6 = some (.lst xb) ∧ All2 (RK H') bl xb ∧ KG H' p4 G3 ∧ NG H' D2 (sg.map nw) ∧ H' D3 = some (.lst (ts.map V.str)) ∧ (∀ b ∈ bl, BkOk sg (wordF G3) b) ∧ bl.length = i := ⟨_, fun _ _ _ => Iff.rfl⟩
      refine for_gen (wk_rng (lo := 0) (n := N)) Pw ((hW _ _ _).mpr ⟨none, none, none, none, [], [], rfl, b08.buts1', ((hp7.same s8).up (by omega)), by simpa using ht8, by simpa using hnm.2.1, by simpa using hnm.2.2, s8 _ _ (b7 _ _ f6 hl6), .nil,
        ⟨xk, up58 _ _ f4 hx5, all2_mono (fun _ _ ⟨a, e, z⟩ => ⟨a, e, k58 _ _ z⟩) hal5⟩, hev5.keep k58 fun o h => up58 _ _ fD2 h, s8 _ _ ht7, fun b hb => (by cases hb), rfl⟩) (fun _ _ _ _ _ => trivial) (fun i σ H9 hi z => ?_) (fun σ H9 z => ?_)
      · obtain ⟨o8, o9, o10, o11, bl, xb, rfl, b9, hp9, ht9, hnd9, hnk9, hx9, hal9, hkg9, hev9, hts9, hbk9, hln9⟩ := (hW _ _ _).mp z
        have hxl := all2_len hal9
        have hiS : (i + 1) * 156000 = i * 156000 + 156000 := Nat.succ_mul i 156000
        have hne : ts ≠ [] := hN0 (by omega)
        have htpos : 0 < ts.length := List.length_pos_iff.mpr hne
        refine seq_i fun M1 hM1 => ?_
        walk_at "rd"
        intro p10 H10 hq10 s10 hl10
        refine ⟨_, hp9.same s10, by omega, fun e11 H11 he11 b11 hp11 => ⟨_, b11 _ _ (hp9.fresh hq10) hl10, ?_⟩⟩
        obtain ⟨ed, hed, heds⟩ : ∃ ed : Str, [V.str (Str.ofString "rise"), V.str (Str.ofString "fall")][e11]? = some (.str ed) ∧ (ed = "rise" ∨ ed = "fall") := by
          have : e11 = 0 ∨ e11 = 1 := by omega
          rcases this with rfl | rfl
          · exact ⟨_, rfl, .inl rfl⟩
          · exact ⟨_, rfl, .inr rfl⟩
        refine ⟨_, atI_nat hed, ?_⟩
        subst hM1
        refine seq_i fun M1 hM1 => ?_
        walk_at "rd"
        have hts11 := b11 _ _ fD3 (s10 _ _ hts9)
        refine ⟨_, hts11, _, hp11, by omega, by rw [List.length_map]; omega, by rw [List.length_map]; omega, fun e12 H12 he12 b12 hp12 => ⟨_, b12 _ _ fD3 hts11, ?_⟩⟩
        have he12' : e12 < ts.length := by rw [List.length_map] at he12; omega
        refine ⟨.str ts[e12], atI_nat (by rw [List.getElem?_map, List.getElem?_eq_getElem he12']; rfl), ?_⟩
        subst hM1
        refine seq_i fun M1 hM1 => ?_
        walk_at "rd"
        refine ⟨_, hp12, by omega, fun e13 H13 he13 b13 hp13 p14 H14 hq14 s14 hl14 => ?_⟩
        have b914 : But p H9 H14 := ((((But.of s10).trans b11).trans b12).trans b13).same s14
        have k914 : Tk H9 H14 := hp9.tk b914
        have b014 : Buts [p, t] H H14 := b9.trans b914.buts1'
        have hkg14 : KG H14 p4 G3 := hkg9.keep k914 fun o h => b914 _ _ f4 h
        have hev14 : NG H14 D2 (sg.map nw) := hev9.keep k914 fun o h => b914 _ _ fD2 h
        have hp14 := hp13.same s14
        have hbc := Bc_le (d := 1 + e13) (by omega)
        have b913 : But p H9 H13 := (((But.of s10).trans b11).trans b12).trans b13
        have n14 : H p14 = none := (b9.trans b913.buts1').free (fun a ha => by
          rcases List.mem_cons.mp ha with rfl | ha
          · obtain ⟨l, h⟩ := hp13.lst
            rw [h]
            simp
          · rw [List.mem_singleton] at ha
            rw [ha, b913 _ _ (Ne.symm hpt) ht9]
            simp) hq14
        have ne14 : ∀ {c : Addr} {o : HO}, c ≠ p → H9 c = some o → c ∉ [p, p14] := fun h1 h2 z => by
          rcases List.mem_cons.mp z with z | z
          · exact h1 z
          · rw [List.mem_singleton] at z
            have h3 := b913 _ _ h1 h2
            rw [z, hq14] at h3
            cases h3
        have hiN : i * 156000 ≤ 2 * 156000 := Nat.mul_le_mul_right _ (by omega)
        refine ⟨p14, 1 + e13, by omega, rfl, by omega, by omega, _, hp14, by omega, 20, G3, hkg14, sg.map nw, wordF G3, hk3, by omega, hev14, hnok, by rw [List.length_map]; omega, hl14, fun b vb m15 H15 hbb hdb hwb b15 hp15 hr15 hvb => ?_⟩
        subst hM1
        walk_at "rd"
        have k1415 : Tk H14 H15 := b15.tk fun a ha => by
          rcases List.mem_cons.mp ha with rfl | ha
          · exact hp14.lst
          · rw [List.mem_singleton] at ha
            rw [ha]
            exact ⟨_, hl14⟩
        have keep15 : ∀ {c : Addr} {o : HO}, c ≠ p → H9 c = some o → H15 c = some o := fun h1 h2 => b15 _ _ (ne14 h1 h2) (b914 _ _ h1 h2)
        have ht15 := keep15 (Ne.symm hpt) ht9
        refine ⟨⟨_, keep15 f6 hx9⟩, _, hp15, by omega, _, ht15, by simp; omega, hnk9, fun x H16 hx hxn b16 hp16 ht16 p17 H17 hq17 s17 hl17 => ?_⟩
        have nin : ∀ {c : Addr}, c ≠ p → c ≠ t → c ∉ [p, t] := fun h1 h2 => by simp [h1, h2]
        have hx17 := s17 _ _ (b16 _ _ (nin f6 t6) (keep15 f6 hx9))
        refine ⟨_, hx17, by omega, fun H18 b18 hl18 => ?_⟩
        have k1518 : Tk H15 H18 := ((b16.tk (two_lists hp15 ht15)).trans (same_tk s17)).trans (b18.tk hx17)
        have k918 : Tk H9 H18 := (k914.trans k1415).trans k1518
        have keep18 : ∀ {c : Addr} {o : HO}, c ≠ p → c ≠ t → c ≠ p6 → H9 c = some o → H18 c = some o := fun h1 h2 h3 h => b18 _ _ h3 (s17 _ _ (b16 _ _ (nin h1 h2) (keep15 h1 h)))
        refine (hW _ _ _).mpr ⟨_, _, _, _, bl ++ [⟨x, ed, ts[e12], b⟩], _, rfl, ?_, ((hp16.same s17).keep fun o h => b18 _ _ (Ne.symm f6) h).up (by omega), ?_, ?_, ?_, hl18, ?_, hkg9.keep k918 fun o h => keep18 f4 t4 g64 h, hev9.keep k918 fun o h => keep18 fD2 tD2 g6D2 h, keep18 fD3 tD3 g6D3 hts9, ?_, by simp [hln9]⟩
        · have c1 : Buts [p14, p6, p, t] H H15 := ((b014.mono (S' := [p14, p6, p, t]) (by simp))).trans (b15.mono (by simp))
          have c2 : Buts [p14, p6, p, t] H H18 := ((c1.trans (b16.mono (by simp))).same s17).trans (b18.buts (by simp))
          exact (c2.fresh n14).fresh n6
        · rw [b18 _ _ (Ne.symm t6) (s17 _ _ ht16)]
          simp
        · have h1 : (ns ++ (bl.map Bk.name ++ [x])).Nodup := by
            rw [← List.append_assoc, List.nodup_append]
            refine ⟨hnd9, by simp, fun a ha b hb => ?_⟩
            rw [List.mem_singleton] at hb
            rw [hb]
            intro z
            exact hxn (z ▸ ha)
          simpa using h1
        · intro y hy
          have hy' : y ∈ (ns ++ bl.map Bk.name) ++ [x] := by simpa using hy
          rcases List.mem_append.mp hy' with hy' | hy'
          · exact hnk9 y hy'
          · rw [List.mem_singleton] at hy'
            rw [hy']
            exact hx
        · exact all2_snoc (all2_mono (fun _ _ z => RK.tk k918 z) hal9) ⟨p17, vb, rfl, b18.tk hx17 _ _ hl17, RB.tk k1518 hvb⟩
        · intro y hy
          rcases List.mem_append.mp hy with hy | hy
          · exact hbk9 y hy
          · rw [List.mem_singleton] at hy
            rw [hy]
            have htm1 := htm _ (List.getElem_mem he12')
            refine ⟨hx, heds, hgw _ _ htm1, hbb.mono hgw hkp, ?_, ?_⟩
            · show bdeep b ≤ 4
              omega
            · show bwt b ≤ 20
              have : (20 : Int).toNat = 20 := rfl
              omega
      · obtain ⟨o8, o9, o10, o11, bl, xb, rfl, b9, hp9, ht9, hnd9, hnk9, hx9, hal9, hkg9, hev9, hts9, hbk9, hln9⟩ := (hW _ _ _).mp z
        show M _ _
        subst hM
        walk_at "rd"
        exact q bl (wordF G3) p6 H9 hbk9 (by omega) hnd9 n6 b9 ⟨xb, hx9, hal9⟩
end
end K37
set_option maxHeartbeats 4000000
namespace K37
open PySem L2 TL
open PyProof.Rows hiding St
theorem sc__law_design : FnScope ["_law_pot_here", "_law_taken", "_law_rows", "_law_plain", "_law_every", "_law_k", "_law_signals", "_law_row"] ["_law_pot_here"] (defScope s__law_design) := ⟨rfl, rfl, rfl, by decide +kernel, rfl, by decide +kernel, by decide +kernel⟩

theorem perm_erase {α : Type} : ∀ {l : List α} {i : Nat} (hi : i < l.length), (l[i] :: l.eraseIdx i).Perm l
  | a :: r, 0, _ => List.Perm.refl _
  | a :: r, i + 1, hi => by
    have h : i < r.length := Nat.lt_of_succ_lt_succ hi
    show (r[i] :: a :: r.eraseIdx i).Perm (a :: r)
    exact (List.Perm.swap _ _ _).trans ((perm_erase h).cons a)
/-- the signals made so far, in the order of their making; Gp: those that may stand in a filter -/
structure Des (sg : List Sg) (Gp : List (Str × Nat)) : Prop where
  nd : (sg.map Sg.name).Nodup
  nm : ∀ s ∈ sg, SgN s
  wh : ∀ s ∈ sg, WhatOk (InG (sg.map nw)) s
  sub : ∀ g ∈ Gp, g ∈ sg.map nw
  len : Gp.length ≤ sg.length
  rank : ∀ (i : Nat) (s : Sg), sg[i]? = some s → ∀ x ∈ s.nms, ∃ (j : Nat) (s' : Sg), j < i ∧ sg[j]? = some s' ∧ s'.name = x
  pl : ∀ s ∈ sg, (∃ k, (s.name, k) ∈ Gp) → ∀ x ∈ s.nms, ∃ k, (x, k) ∈ Gp
  fi : ∀ s ∈ sg, isFilt s = true → (∀ x ∈ s.nms, ∃ k, (x, k) ∈ Gp) ∧ ¬ ∃ k, (s.name, k) ∈ Gp
theorem src_nms {s : Sg} (h : SrcOk s) : s.nms = [] ∧ isFilt s = false := by
  rcases h with ⟨n, k, rfl⟩ | ⟨n, k, v, rfl, _⟩ <;> exact ⟨rfl, rfl⟩
theorem Srcs.des {sg : List Sg} (h : Srcs sg) : Des sg (sg.map nw) := by
  refine ⟨h.nd, fun s hs => (h.so s hs).2, fun s hs => ?_, fun g hg => hg, by rw [List.length_map]; exact Nat.le_refl _, fun i s hi x hx => ?_, fun s hs _ x hx => ?_, fun s hs hf => ?_⟩
  · rcases (h.so s hs).1 with ⟨n, k, rfl⟩ | ⟨n, k, v, rfl, hv⟩
    · trivial
    · exact hv
  · rw [(src_nms (h.so s (List.mem_of_getElem? hi)).1).1] at hx
    cases hx
  · rw [(src_nms (h.so s hs).1).1] at hx
    cases hx
  · rw [(src_nms (h.so s hs).1).2] at hf
    cases hf
theorem Des.snoc {sg : List Sg} {Gp Gp' : List (Str × Nat)} {s : Sg} (h : Des sg Gp) (r : LedR Gp (sg.map nw) Gp' (sg.map Sg.name) s) : Des (sg ++ [s]) Gp' := by
  have hin : ∀ g ∈ sg.map nw, g ∈ (sg ++ [s]).map nw := fun g hg => by rw [List.map_append]; exact List.mem_append_left _ hg
  have hnn : ∀ k, (s.name, k) ∉ Gp := fun k z => by
    obtain ⟨s0, hs0, e⟩ := List.mem_map.mp (h.sub _ z)
    exact r.nn (by rw [← (Prod.mk.inj e).1]; exact List.mem_map_of_mem hs0)
  have hGp : ∀ g ∈ Gp, g ∈ Gp' := fun g hg => by
    rcases r.pl with e | ⟨e, _⟩ <;> rw [e]
    · exact hg
    · exact List.mem_append_left _ hg
  have hold : ∀ n k, (n, k) ∈ Gp' → n ≠ s.name → (n, k) ∈ Gp := fun n k hm hne => by
    rcases r.pl with e | ⟨e, _⟩ <;> rw [e] at hm
    · exact hm
    · rcases List.mem_append.mp hm with hm | hm
      · exact hm
      · rw [List.mem_singleton] at hm
        exact absurd (Prod.mk.inj hm).1 hne
  have hne : ∀ s0 ∈ sg, s0.name ≠ s.name := fun s0 hs0 z => r.nn (z ▸ List.mem_map_of_mem hs0)
  refine ⟨?_, fun x hx => ?_, fun x hx => ?_, fun g hg => ?_, ?_, fun i x hi y hy => ?_, fun x hx hp y hy => ?_, fun x hx hf => ?_⟩
  · rw [List.map_append, List.nodup_append]
    refine ⟨h.nd, by simp, fun a ha b hb => ?_⟩
    rw [List.map_cons, List.map_nil, List.mem_singleton] at hb
    rw [hb]
    intro z
    exact r.nn (z ▸ ha)
  · rcases List.mem_append.mp hx with hx | hx
    · exact h.nm x hx
    · rw [List.mem_singleton] at hx
      rw [hx]
      exact r.nm
  · rcases List.mem_append.mp hx with hx | hx
    · exact (h.wh x hx).mono fun n k z => hin _ z
    · rw [List.mem_singleton] at hx
      rw [hx]
      exact r.wh.mono fun n k z => hin _ z
  · rcases r.pl with e | ⟨e, _⟩ <;> rw [e] at hg
    · exact hin _ (h.sub g hg)
    · rcases List.mem_append.mp hg with hg | hg
      · exact hin _ (h.sub g hg)
      · rw [List.map_append]
        exact List.mem_append_right _ hg
  · have := h.len
    rcases r.pl with e | ⟨e, _⟩ <;> rw [e] <;> simp only [List.length_append, List.length_singleton] <;> omega
  · by_cases hlt : i < sg.length
    · rw [List.getElem?_append_left hlt] at hi
      obtain ⟨j, s', hj, hs', e⟩ := h.rank i x hi y hy
      exact ⟨j, s', hj, by rw [List.getElem?_append_left (by omega)]; exact hs', e⟩
    · have hl := (List.getElem?_eq_some_iff.mp hi).1
      rw [List.length_append, List.length_singleton] at hl
      have ei : i = sg.length := by omega
      subst ei
      rw [List.getElem?_append_right (Nat.le_refl _), Nat.sub_self] at hi
      have ex : s = x := by simpa using hi
      subst ex
      obtain ⟨k, hk⟩ := r.ge y hy
      obtain ⟨s0, hs0, e⟩ := List.mem_map.mp hk
      obtain ⟨j, hj⟩ := List.mem_iff_getElem?.mp hs0
      have hj' := (List.getElem?_eq_some_iff.mp hj).1
      exact ⟨j, s0, hj', by rw [List.getElem?_append_left hj']; exact hj, (Prod.mk.inj e).1⟩
  · rcases List.mem_append.mp hx with hx | hx
    · obtain ⟨k, hk⟩ := hp
      obtain ⟨k', hk'⟩ := h.pl x hx ⟨k, hold _ _ hk (hne x hx)⟩ y hy
      exact ⟨k', hGp _ hk'⟩
    · rw [List.mem_singleton] at hx
      rw [hx] at hp hy
      obtain ⟨k, hk⟩ := hp
      rcases r.pl with e | ⟨e, _, q⟩
      · rw [e] at hk
        exact absurd hk (hnn k)
      · obtain ⟨k', hk'⟩ := q y hy
        exact ⟨k', hGp _ hk'⟩
  · rcases List.mem_append.mp hx with hx | hx
    · obtain ⟨h1, h2⟩ := h.fi x hx hf
      refine ⟨fun y hy => ?_, fun ⟨k, hk⟩ => h2 ⟨k, hold _ _ hk (hne x hx)⟩⟩
      obtain ⟨k, hk⟩ := h1 y hy
      exact ⟨k, hGp _ hk⟩
    · rw [List.mem_singleton] at hx
      rw [hx] at hf ⊢
      refine ⟨fun y hy => ?_, fun ⟨k, hk⟩ => ?_⟩
      · obtain ⟨k, hk⟩ := r.fi hf y hy
        exact ⟨k, hGp _ hk⟩
      · rcases r.pl with e | ⟨_, e, _⟩
        · rw [e] at hk
          exact hnn k hk
        · rw [e] at hf
          cases hf
/-- in whatever order -/
theorem Des.valid {sg sg' : List Sg} {Gp : List (Str × Nat)} {bl : List Bk} {f : Str → Str} (h : Des sg Gp) (hp : sg'.Perm sg) (hl : sg.length ≤ 24) (hw : (sg.filter isLed).length ≤ 8) (hb : ∀ b ∈ bl, BkOk sg' f b) (hbl : bl.length ≤ 3) (hnd : (sg.map Sg.name ++ bl.map Bk.name).Nodup) : Valid sg' bl := by
  have hm : ∀ s, s ∈ sg' ↔ s ∈ sg := fun s => hp.mem_iff
  have hgw : ∀ n k, InG (sg.map nw) n k → GW sg' n k := fun n k z => by
    obtain ⟨s0, hs0, e⟩ := List.mem_map.mp z
    exact ⟨s0, (hm s0).mpr hs0, (Prod.mk.inj e).1, (Prod.mk.inj e).2⟩
  refine ⟨fun s hs => h.nm s ((hm s).mp hs), ?_, ?_, ?_, by omega, fun s hs => (h.wh s ((hm s).mp hs)).mono hgw, ⟨f, hb⟩, ?_, ?_⟩
  · exact (((hp.map Sg.name).append_right (bl.map Bk.name)).nodup_iff).mpr hnd
  · rw [hp.length_eq]
    exact hl
  · rw [(hp.filter isLed).length_eq]
    exact hw
  · refine ⟨fun n => (sg.map Sg.name).idxOf n, fun s hs x hx => ?_⟩
    obtain ⟨i, hi⟩ := List.mem_iff_getElem?.mp ((hm s).mp hs)
    obtain ⟨j, s', hj, hs', e⟩ := h.rank i s hi x hx
    have idx : ∀ (i : Nat) (s : Sg), sg[i]? = some s → (sg.map Sg.name).idxOf s.name = i := fun i s hi => by
      have hlt := (List.getElem?_eq_some_iff.mp hi).1
      have e1 : (sg.map Sg.name)[i]'(by rw [List.length_map]; exact hlt) = s.name := by
        rw [List.getElem_map]
        exact congrArg Sg.name (List.getElem?_eq_some_iff.mp hi).2
      rw [← e1]
      exact h.nd.idxOf_getElem i _
    show (sg.map Sg.name).idxOf x < (sg.map Sg.name).idxOf s.name
    rw [idx i s hi, ← e, idx j s' hs']
    exact hj
  · refine ⟨fun n => ∃ k, (n, k) ∈ Gp, fun s hs hp x hx => h.pl s ((hm s).mp hs) hp x hx, fun s hs hf => h.fi s ((hm s).mp hs) hf⟩
def spLDesign : Sp := fun vs H Q _ => ∃ (p : Addr) (n : Nat), vs = [.ref p] ∧ Pot H p n ∧ n ≤ 1000 ∧ ∀ sg bl a b t H', Valid sg bl → But p H H' → H' t = some (.tup [.ref a, .ref b]) → LS H' a sg → LK H' b bl → Q (.ref t) H'
local macro_rules | `(tactic| walk_at "rd") => `(tactic| simp only [tYes, wipe, HO.lst.injEq, HO.tup.injEq, HO.dK.injEq, Nat.reduceAdd, Nat.reduceLeDiff, Nat.reduceSub, Int.reduceLE, Int.reduceLT, Int.reduceNeg, Nat.zero_add, Int.reduceEq, cut_head, cut_tail, cut_mid, cut_three, c_cast0, c_cast1, c_cast2, c_cast3, c_cast4, z_lit, List.getD_eq_getElem?_getD, Option.getD_some, tLc_eq, tFor_eq, cxOf, Cx.nox, Cx.wish, tSeq, tIfS, tOr, tAnd, tNot, tB, tCB, tCons, tVar, tC, tNil, tTest, tChain, rI0, rI, tOp, rIxS, rIxL, rIxT, tRet, tNext, tAsg, gName, tAndV, tOrV, tNotV, tIf, tIsN, tNotN, tCall, tDrop, tBM, tBM0, rEq, rNe, tRetN, tSl, tNoPart, tPart, tTupD, tLstD, tInD, rIsK, rLenS, rLenL, rLenT, rAllT, rAnyF, rInK, rInL, rSlLD, rSlTD, rSlS, rCatD, rCatTD, rAppD, rExtD, rPopD, rPopAtD, rListD, rTupleD, iLst, iTpl, iStr, rIxLH, rIxTH, gTupH, gLstH, gStar0, gStar1, gStar2, rSumH, rAddS2, tJoinS, tFmtS, tFmtI, tJoined, tJoined_nil, tJoined_cons, rIsG, app_empty, tFldD, sFldD, tMkD, tMoD, rIsC, rLenO, rEqO, HO.ins.injEq, exists_eq, tNilL, tML, tML0, tMS, iEnumH, tCallK, rStrI, tGetS, tGet1S, tGet2S, rListKD, tDc_eq, tLc2_eq, tKGet, gCons, gNil, tChain3, tPartD, tSplitD, tPar, New, Chg, rListTD, atI_0, atI_1, atI_2, atI_3, sign_inj, and_false, false_and, or_false, false_or, or_true, true_or, List.take_succ_cons, List.take_zero, List.drop_succ_cons, List.drop_zero, forall_const, exists_false, not_false_eq_true, not_true_eq_false, if_true, if_false, iRng1, KindV,
  L2.start, List.map_cons, List.map_nil, List.length_cons, List.length_nil, List.replicate, List.cons_append, List.nil_append, List.append_nil, List.set_cons_zero, List.set_cons_succ, List.getElem?_cons_zero, List.getElem?_cons_succ, Option.some.injEq, exists_eq_left', exists_eq_left, V.int.injEq, V.str.injEq, V.bl.injEq, V.ref.injEq, V.ty.injEq, true_and, and_true, List.cons.injEq, exists_and_left, exists_eq', and_assoc, scal, ofString_inj, String.reduceEq, reduceIte, decide_eq_true_eq, decide_eq_false_iff_not, Bool.not_true, Bool.not_false, Bool.not_eq_true', inV_cons, inV_nil, eqV_ss, eqV_ii, flatV, List.all_cons, List.all_nil, Bool.and_true, Bool.or_false, Bool.true_and, Bool.false_or, decide_true, decide_false, Bool.true_or, Bool.false_eq_true, reduceCtorEq, spDigit, spLSources, spLLed, spLBlocks, spLDesign, CMul])
local macro_rules | `(tactic| walk_at "ra") => `(tactic| simp only [tYes, wipe, HO.lst.injEq, HO.tup.injEq, HO.dK.injEq, Nat.reduceAdd, Nat.reduceLeDiff, Nat.reduceSub, Int.reduceLE, Int.reduceLT, Int.reduceNeg, Nat.zero_add, Int.reduceEq, cut_head, cut_tail, cut_mid, cut_three, c_cast0, c_cast1, c_cast2, c_cast3, c_cast4, z_lit, List.getD_eq_getElem?_getD, Option.getD_some, tLc_eq, tFor_eq, cxOf, Cx.nox, Cx.wish, tSeq, tIfS, tOr, tAnd, tNot, tB, tCB, tCons, tVar, tC, tNil, tTest, tChain, rI0, rI, tOp, rIxS, rIxL, rIxT, tRet, tNext, tAsg, gName, tAndV, tOrV, tNotV, tIf, tIsN, tNotN, tCall, tDrop, tBM, tBM0, rEq, rNe, tRetN, tSl, tNoPart, tPart, tTupD, tLstD, tInD, rIsK, rLenS, rLenL, rLenT, rAllT, rAnyF, rInK, rInL, rSlLD, rSlTD, rSlS, rCatD, rCatTD, rAppD, rExtD, rPopD, rPopAtD, rListD, rTupleD, iLst, iTpl, iStr, rIxLH, rIxTH, gTupH, gLstH, gStar0, gStar1, gStar2, rSumH, rAddS2, tJoinS, tFmtS, tFmtI, tJoined, tJoined_nil, tJoined_cons, rIsG, app_empty, tFldD, sFldD, tMkD, tMoD, rIsC, rLenO, rEqO, HO.ins.injEq, exists_eq, tNilL, tML, tML0, tMS, iEnumH, tCallK, rStrI, tGetS, tGet1S, tGet2S, rListKD, tDc_eq, tLc2_eq, tKGet, gCons, gNil, tChain3, tPartD, tSplitD, tPar, New, Chg, rListTD, atI_0, atI_1, atI_2, atI_3, sign_inj, and_false, false_and, or_false, false_or, or_true, true_or, List.take_succ_cons, List.take_zero, List.drop_succ_cons, List.drop_zero, forall_const, exists_false, not_false_eq_true, not_true_eq_false, if_true, if_false, iRng1, KindV,
  L2.start, List.map_cons, List.map_nil, List.length_cons, List.length_nil, List.replicate, List.cons_append, List.nil_append, List.append_nil, List.set_cons_zero, List.set_cons_succ, List.getElem?_cons_zero, List.getElem?_cons_succ, Option.some.injEq, exists_eq_left', exists_eq_left, V.int.injEq, V.str.injEq, V.bl.injEq, V.ref.injEq, V.ty.injEq, true_and, and_true, List.cons.injEq, exists_and_left, exists_eq', and_assoc, scal, ofString_inj, String.reduceEq, reduceIte, decide_eq_true_eq, decide_eq_false_iff_not, Bool.not_true, Bool.not_false, Bool.not_eq_true', inV_cons, inV_nil, eqV_ss, eqV_ii, flatV, List.all_cons, List.all_nil, Bool.and_true, Bool.or_false, Bool.true_and, Bool.false_or, decide_true, decide_false, Bool.true_or, Bool.false_eq_true, reduceCtorEq, spDigit, spLSources, spLLed, spLBlocks, spLDesign, CMul, *])

section
variable {P : Program} {w : World} {K : PySem.W.Frag} {mg : Str → Option Value} {base : Heap} {k : Nat}
theorem ok_law_design (T : TX K mg) (D : DF K mg "_law_design" s__law_design ["_law_pot_here"] []) (G__law_digit : FO P w K mg base "_law_digit" k ["_law_pot_here", "_law_many"] [] spDigit)
    (G__law_sources : FO P w K mg base "_law_sources" k ["_law_pot_here", "_law_taken"] [] spLSources) (G__law_led : FO P w K mg base "_law_led" k ["_law_pot_here", "_law_plain", "_law_every", "_law_taken", "_law_deep_here"] [] spLLed)
    (G__law_blocks : FO P w K mg base "_law_blocks" k ["_law_pot_here", "_law_signals", "_law_taken"] [] spLBlocks) : FO P w K mg base "_law_design" (k + 1) ["_law_pot_here"] [] spLDesign := by
  refine D.ok sc__law_design (fun vs H Q E h => ?_) (fun fa cdv A outer s H vs Q E hr h => ?_)
  · obtain ⟨_, _, rfl, _⟩ := h
    rfl
  obtain ⟨p, n, rfl, hp, hn, q⟩ := h
  refine ⟨_, (pss_cons (ps_set (i := 1) sc__law_design.nd rfl (Or.inl rfl) (pe_lstD pa_nil))
    (pss_cons (ps_set (i := 2) sc__law_design.nd rfl (Or.inr rfl) (pe_fo G__law_sources hr (pa_cons (pv 0) (pa_cons (pv 1) pa_nil))))
    (pss_cons (ps_setLc (i := 3) (own := [("_law_row", 7)]) (tt := tYes) rfl sc__law_design.nd rfl rfl (sw_true rfl rfl rfl (by decide +kernel)) (pi_lst (pv 2)) (blkOk_by (N := ["_law_pot_here", "_law_taken", "_law_rows", "_law_plain", "_law_every", "_law_k", "_law_signals", "_law_row"]) (sc := defScope s__law_design) (by decide +kernel)) (fun _ _ _ _ _ => (pg_name (i := 7) sc__law_design.nd rfl (Or.inl rfl))) (fun _ _ _ _ _ => pts_nil) (fun _ _ _ _ _ => (pe_slice sl_tupD (pv 7) (po_some pe_int) (po_some pe_int))))
    (pss_cons (ps_set (i := 4) sc__law_design.nd rfl (Or.inl rfl) (pe_callTy call_listD rfl T.list (by decide +kernel) (pa_cons (pv 3) pa_nil)))
    (pss_cons (ps_for PassesOwn.never rfl (pi_range1 rfl T.range (pa_cons (pe_fo G__law_digit hr (pa_cons (pv 0) (pa_cons pe_int pa_nil))) pa_nil)) (pg_name (i := 5) sc__law_design.nd rfl (Or.inl rfl))
      (pss_one (ps_expr (pe_bmL PySem.F.slot_list_append PySem.F.type_list_append mt_appD (pv 2) (pa_cons (pe_fo G__law_led hr (pa_cons (pv 0) (pa_cons (pv 3) (pa_cons (pv 4) (pa_cons (pv 1) (pa_cons (pe_op op_add pe_int (pe_fo G__law_digit hr (pa_cons (pv 0) (pa_cons pe_int pa_nil)))) pa_nil)))))) pa_nil)))))
    (pss_cons (ps_setLc (i := 6) (own := [("_law_k", 5)]) (tt := tYes) rfl sc__law_design.nd rfl rfl (sw_true rfl rfl rfl (by decide +kernel)) (pi_range1 rfl T.range (pa_cons (pe_callB call_lenL rfl T.len PySem.boot_len (pa_cons (pv 2) pa_nil)) pa_nil)) (blkOk_by (N := ["_law_pot_here", "_law_taken", "_law_rows", "_law_plain", "_law_every", "_law_k", "_law_signals", "_law_row"]) (sc := defScope s__law_design) (by decide +kernel)) (fun _ _ _ _ _ => (pg_name (i := 5) sc__law_design.nd rfl (Or.inl rfl))) (fun _ _ _ _ _ => pts_nil) (fun _ _ _ _ _ => (pe_bmL PySem.F.slot_list_pop PySem.F.type_list_pop mt_popAtD (pv 2) (pa_cons (pe_fo G__law_digit hr (pa_cons (pv 0) (pa_cons (pe_callB call_lenL rfl T.len PySem.boot_len (pa_cons (pv 2) pa_nil)) pa_nil))) pa_nil))))
    (pss_one (ps_ret (pe_tupD (pa_cons (pv 6) (pa_cons (pe_fo G__law_blocks hr (pa_cons (pv 0) (pa_cons (pv 6) (pa_cons (pv 1) pa_nil)))) pa_nil))))))))))), ?_⟩
  refine seq_i fun M hM => ?_
  walk_at "rd"
  intro t H1 hq1 s1 hl1
  have ft := hp.fresh hq1
  subst hM
  refine seq_i fun M hM => ?_
  walk_at "rd"
  refine ⟨_, hp.same s1, by omega, hl1, fun sg0 a2 H2 hsr hne2 hl62 ha2 b2 hp2 ht2 hs2 => ?_⟩
  have n2 : H a2 = none := by
    cases e : H a2 with
    | none => rfl
    | some o => rw [s1 _ _ e] at ha2; cases ha2
  have b02 : But p H H2 := by
    have c : Buts [t, p] H H2 := (Buts.of s1).trans (b2.mono (by simp))
    exact (c.fresh hq1).but
  have a2p : a2 ≠ p := (hp.same s1).fresh ha2
  have a2t : a2 ≠ t := fun z => by rw [z, hl1] at ha2; cases ha2
  obtain ⟨xs, hx, hal⟩ := id hs2
  have hlen := all2_len hal
  subst hM
  refine seq_i fun M hM => ?_
  walk_at "rd"
  refine ⟨_, hx, ?_⟩
  refine lc_gen (wk_lst (xs := xs)) (fun H s => s _ _ hx) (fun i acc H => All2 (RN H) ((sg0.take i).map nw) acc) (by omega) (fun i acc H _ u => ?_) (fun i acc H H' u k => all2_mono (fun _ _ z => z.tk k) u) (fun _ _ => .nil) (fun i acc H3 Ky Kn hi s3 u ky _ => ?_) (fun D3 acc H3 s3 hD3 hl3 u => ?_)
  · have := all2_len u
    rw [List.length_map, List.length_take] at this
    omega
  · have hget : xs[i]? = some (xs.getD i .non) := by simp [hi]
    obtain ⟨s0, hs0, a, v, e, ha, hv⟩ := all2_at hal hget
    rw [e]
    have ha3 := s3 _ _ ha
    walk_at "rd"
    refine ⟨_, ha3, by rw [cut_mid]; show 2 < 4; decide, fun p4 H4 hq4 s4 hl4 => ky _ _ s4 ?_⟩
    have htk : (sg0.take (i + 1)).map nw = (sg0.take i).map nw ++ [nw s0] := by rw [take_snoc hs0]; simp
    rw [htk]
    exact all2_snoc (all2_mono (fun _ _ z => z.tk (same_tk s4)) u) ⟨p4, rfl, by rw [hl4, cut_mid]; rfl⟩
  rw [List.take_of_length_le (by omega)] at u
  have D3p : D3 ≠ p := hp2.fresh hD3
  have D3t : D3 ≠ t := fun z => by rw [z, ht2] at hD3; cases hD3
  have D3a : D3 ≠ a2 := fun z => by rw [z, hx] at hD3; cases hD3
  subst hM
  refine seq_i fun M hM => ?_
  walk_at "rd"
  refine ⟨_, hl3, fun p4 H4 hq4 s4 hl4 => ?_⟩
  have f4p : p4 ≠ p := (hp2.same s3).fresh hq4
  have f4t : p4 ≠ t := fun z => by rw [z, s3 _ _ ht2] at hq4; cases hq4
  have f4a : p4 ≠ a2 := fun z => by rw [z, s3 _ _ hx] at hq4; cases hq4
  have f4D : p4 ≠ D3 := fun z => by rw [z, hl3] at hq4; cases hq4
  have s24 := s3.trans s4
  have nD3 : H D3 = none := but_new b02 (by obtain ⟨l, h⟩ := hp2.lst; exact ⟨_, h⟩) hD3
  have n4 : H p4 = none := but_new (b02.same s3) (by obtain ⟨l, h⟩ := (hp2.same s3).lst; exact ⟨_, h⟩) hq4
  have hpl4 : NG H4 D3 (sg0.map nw) := ⟨acc, s4 _ _ hl3, all2_mono (fun _ _ z => z.tk (same_tk s4)) u⟩
  have hev4 : NG H4 p4 (sg0.map nw) := ⟨acc, hl4, all2_mono (fun _ _ z => z.tk (same_tk s4)) u⟩
  have b04 := b02.same s24
  subst hM
  refine seq_i fun M hM => ?_
  walk_at "rd"
  refine ⟨_, hp2.same s24, by omega, fun e5 H5 he5 b5 hp5 => ⟨by omega, by omega, ?_⟩⟩
  rw [Int.toNat_natCast]
  obtain ⟨Pv, hP⟩ : ∃ Pv : Nat → St → Hp → Prop, ∀ i σ H', Pv i σ H' ↔ ∃ o5 sg Gp, σ = [some (V.ref p), some (V.ref t), some (V.ref a2), some (V.ref D3), some (V.ref p4), o5, none, none] ∧ But p H H' ∧ Pot H' p (n + 400 + i * 3100) ∧ H' t = some (.lst ((sg.map Sg.name).map V.str)) ∧ LS H' a2 sg ∧ NG H' D3 Gp ∧ NG H' p4 (sg.map nw) ∧ Des sg Gp ∧ sg.length ≤ 6 + i ∧ (sg.filter isLed).length ≤ i := ⟨_, fun _ _ _ => Iff.rfl⟩
  have hf0 : (sg0.filter isLed) = [] := List.filter_eq_nil_iff.mpr fun s hs => by
    rcases (hsr.so s hs).1 with ⟨n, k, rfl⟩ | ⟨n, k, v, rfl, _⟩ <;> exact Bool.false_ne_true
  have k25 : Tk H2 H5 := (same_tk s24).trans ((hp2.same s24).tk b5)
  refine for_gen (wk_rng (lo := 0) (n := e5)) Pv ((hP _ _ _).mpr ⟨none, sg0, sg0.map nw, rfl, b04.trans b5, hp5.up (by omega), b5 _ _ ft (s24 _ _ ht2), ⟨xs, b5 _ _ a2p (s24 _ _ hx), all2_mono (fun _ _ z => RS.tk k25 z) hal⟩,
    hpl4.but (hp2.same s24) b5, hev4.but (hp2.same s24) b5, hsr.des, by omega, by rw [hf0]; exact Nat.le_refl _⟩) (fun _ _ _ _ _ => trivial) (fun i σ H6 hi z => ?_) (fun σ H6 z => ?_)
  · obtain ⟨o5, sg, Gp, rfl, b6, hp6, ht6, hs6, hpl6, hev6, hdes, hsl, hled⟩ := (hP _ _ _).mp z
    have hiN : i * 3100 ≤ 4 * 3100 := Nat.mul_le_mul_right _ (by omega)
    have hiS : (i + 1) * 3100 = i * 3100 + 3100 := Nat.succ_mul i 3100
    walk_at "rd"
    obtain ⟨x6, hx6, hal6⟩ := id hs6
    have hl6 := all2_len hal6
    refine ⟨⟨_, hx6⟩, _, hp6, by omega, fun e7 H7 he7 b7 hp7 => ?_⟩
    have k67 := hp6.tk b7
    have ht7 := b7 _ _ ft ht6
    have hpl7 := hpl6.but hp6 b7
    have hev7 := hev6.but hp6 b7
    have hx7 := b7 _ _ a2p hx6
    refine ⟨1 + e7, by omega, _, hp7, by omega, Gp, hpl7, sg.map nw, hev7, fun g hg => ?_, hdes.sub, by rw [List.length_map]; exact hdes.len, by rw [List.length_map]; omega, Ne.symm f4D, Ne.symm D3t, Ne.symm f4t, sg.map Sg.name, ht7, by rw [List.length_map]; omega, fun x hx => ?_, by omega, by omega, fun s8 v8 Gp' H8 hr8 b8 hp8 hpl8 hev8 ht8 hs8 => ?_⟩
    · obtain ⟨s0, hs0, rfl⟩ := List.mem_map.mp hg
      exact hdes.nm s0 hs0
    · obtain ⟨s0, hs0, rfl⟩ := List.mem_map.mp hx
      exact (hdes.nm s0 hs0).1
    have nin : a2 ∉ [p, D3, p4, t] := by simp [a2p, Ne.symm D3a, Ne.symm f4a, a2t]
    have k78 : Tk H7 H8 := b8.tk fun a ha => by
      simp only [List.mem_cons, List.not_mem_nil, or_false] at ha
      rcases ha with rfl | rfl | rfl | rfl
      · exact hp7.lst
      · obtain ⟨l, h, _⟩ := hpl7
        exact ⟨l, h⟩
      · obtain ⟨l, h, _⟩ := hev7
        exact ⟨l, h⟩
      · exact ⟨_, ht7⟩
    have hx8 := b8 _ _ nin hx7
    refine ⟨_, hx8, by omega, fun H9 b9 hl9 => ?_⟩
    have k89 := b9.tk hx8
    refine (hP _ _ _).mpr ⟨_, sg ++ [s8], Gp', rfl, ?_, (hp8.keep fun o h => b9 _ _ (Ne.symm a2p) h).up (by omega), ?_, ⟨_, hl9, ?_⟩, hpl8.keep k89 fun o h => b9 _ _ D3a h, ?_, hdes.snoc hr8, by simp; omega, ?_⟩
    · have c : Buts [t, a2, D3, p4, p] H H9 := (((b6.trans b7).buts (by simp)).trans (b8.mono (by simp))).trans (b9.buts (by simp))
      exact ((((c.fresh hq1).fresh n2).fresh nD3).fresh n4).but
    · rw [b9 _ _ (Ne.symm a2t) ht8]
      simp
    · exact all2_snoc (all2_mono (fun _ _ z => RS.tk ((k67.trans k78).trans k89) z) hal6) (RS.tk k89 hs8)
    · rw [List.map_append]
      exact hev8.keep k89 fun o h => b9 _ _ f4a h
    · rw [List.filter_append, List.length_append]
      have : ([s8].filter isLed).length ≤ 1 := List.length_filter_le _ _
      omega
  · obtain ⟨o5, sg, Gp, rfl, b6, hp6, ht6, hs6, hpl6, hev6, hdes, hsl, hled⟩ := (hP _ _ _).mp z
    show M _ _
    subst hM
    refine seq_i fun M hM => ?_
    walk_at "rd"
    obtain ⟨x6, hx6, hal6⟩ := id hs6
    have hl6 := all2_len hal6
    refine ⟨_, hx6, by omega, by omega, ?_⟩
    rw [Int.toNat_natCast]
    have hi5 : e5 * 3100 ≤ 5 * 3100 := Nat.mul_le_mul_right _ (by omega)
    refine lc_but (wk_rng (lo := 0) (n := x6.length)) [p, a2] (fun a ha => ?_) (fun i acc H' => Pot H' p (n + 20000 + i) ∧ ∃ sA sR xr, All2 (RS H') sA acc ∧ H' a2 = some (.lst xr) ∧ All2 (RS H') sR xr ∧ (sA ++ sR).Perm sg ∧ sA.length = i) (fun _ _ _ _ _ _ => trivial) (by omega) (fun i acc H' hi u => ?_) (fun i acc H' Dl l l' hD hl u => ?_) (fun Dl l hD => ?_) (fun i acc H7 Ky Kn hi b7 u ky kn => ?_) (fun D7 acc H7 b7 hD7 hl7 u => ?_)
    · simp only [List.mem_cons, List.not_mem_nil, or_false] at ha
      rcases ha with rfl | rfl
      · obtain ⟨l, h⟩ := hp6.lst
        rw [h]
        simp
      · rw [hx6]
        simp
    · obtain ⟨_, sA, sR, xr, h1, _, _, _, h5⟩ := u
      rw [← all2_len h1]
      omega
    · obtain ⟨g1, sA, sR, xr, h1, h2, h3, h4, h5⟩ := u
      have np : p ≠ Dl := fun z => by obtain ⟨l, h⟩ := hp6.lst; rw [z, hD] at h; cases h
      have na : a2 ≠ Dl := fun z => by rw [z, hD] at hx6; cases hx6
      exact ⟨g1.keep fun o h => by rw [upd_ne np]; exact h, sA, sR, xr, all2_mono (fun _ _ z => RS.tk (tk_upd hl) z) h1, by rw [upd_ne na]; exact h2, all2_mono (fun _ _ z => RS.tk (tk_upd hl) z) h3, h4, h5⟩
    · have np : p ≠ Dl := fun z => by obtain ⟨l, h⟩ := hp6.lst; rw [z, hD] at h; cases h
      have na : a2 ≠ Dl := fun z => by rw [z, hD] at hx6; cases hx6
      exact ⟨(hp6.keep fun o h => by rw [upd_ne np]; exact h).up (by omega), [], sg, x6, .nil, by rw [upd_ne na]; exact hx6, all2_mono (fun _ _ z => RS.tk (same_tk (same_new hD)) z) hal6, List.Perm.refl _, rfl⟩
    · obtain ⟨g1, sA, sR, xr, h1, h2, h3, h4, h5⟩ := u
      have hsA := all2_len h1
      have hsR := all2_len h3
      have hpl := h4.length_eq
      rw [List.length_append] at hpl
      walk_at "rd"
      refine ⟨⟨_, h2⟩, _, h2, _, g1, by omega, by omega, by omega, fun e8 H8 he8 b8 hp8 => ?_⟩
      have he8' : e8 < xr.length := by omega
      have he8s : e8 < sR.length := by omega
      have h28 := b8 _ _ a2p h2
      refine ⟨_, e8, rfl, h28, by omega, xr[e8], List.getElem?_eq_getElem he8', fun H9 b9 hl9 => ?_⟩
      obtain ⟨s9, hs9, hr9⟩ := all2_at h3 (List.getElem?_eq_getElem he8')
      have es9 : s9 = sR[e8] := by
        rw [List.getElem?_eq_getElem he8s] at hs9
        exact (Option.some.inj hs9).symm
      have k79 : Tk H7 H9 := (g1.tk b8).trans (b9.tk h28)
      refine ky _ _ ((b8.buts (by simp)).trans (b9.buts (by simp))) ⟨(hp8.keep fun o h => b9 _ _ (Ne.symm a2p) h), sA ++ [s9], sR.eraseIdx e8, _, all2_snoc (all2_mono (fun _ _ z => RS.tk k79 z) h1) (RS.tk k79 hr9), hl9, all2_mono (fun _ _ z => RS.tk k79 z) (all2_erase e8 h3), ?_, by simp [h5]⟩
      rw [List.append_assoc, es9]
      exact ((perm_erase he8s).append_left sA).trans h4
    · obtain ⟨g1, sA, sR, xr, h1, h2, h3, h4, h5⟩ := u
      have hsA := all2_len h1
      have hpl := h4.length_eq
      rw [List.length_append] at hpl
      have hR : sR = [] := List.eq_nil_of_length_eq_zero (by omega)
      subst hR
      rw [List.append_nil] at h4
      subst hM
      walk_at "rd"
      have n7 : H D7 = none := but_new b6 (by obtain ⟨l, h⟩ := hp6.lst; exact ⟨_, h⟩) hD7
      have t7 : D7 ≠ t := fun z => by rw [z, ht6] at hD7; cases hD7
      have nint : t ∉ [p, a2] := by simp [ft, Ne.symm a2t]
      have ht7 := b7 _ _ nint ht6
      have hmA : ∀ s, s ∈ sA → s ∈ sg := fun s hs => h4.mem_iff.mp hs
      refine ⟨_, g1, by omega, sA, ⟨acc, hl7, h1⟩, by omega, fun s hs => hdes.nm s (hmA s hs), ((h4.map Sg.name).nodup_iff).mpr hdes.nd, sg.map Sg.name, ⟨ht7, hdes.nd, fun x hx => ?_⟩, by rw [List.length_map]; omega, Ne.symm t7, fun bl f a8 H8 hbk hbl hnd h8 b8 hlk p9 H9 hq9 s9 hl9 => ?_⟩
      · obtain ⟨s0, hs0, rfl⟩ := List.mem_map.mp hx
        exact (hdes.nm s0 hs0).1
      have f7p : D7 ≠ p := hp6.fresh hD7
      have k78 : Tk H7 H8 := b8.tk (two_lists g1 ht7)
      refine q sA bl D7 a8 p9 H9 (hdes.valid h4 (by omega) (by omega) hbk hbl hnd) ?_ hl9 ⟨acc, s9 _ _ (b8 _ _ (by simp [f7p, t7]) hl7), all2_mono (fun _ _ z => RS.tk (k78.trans (same_tk s9)) z) h1⟩ (hlk.same s9)
      have c : Buts [t, a2, p] H H9 := (((b6.buts (by simp)).trans (b7.mono (by simp))).trans (b8.mono (by simp))).same s9
      exact ((c.fresh hq1).fresh n2).but
end
end K37
set_option maxHeartbeats 4000000
namespace K37
open PySem L2 TL
open PyProof.Rows hiding St
theorem sc__law_term_text : FnScope ["_law_term_here", "_law_parts", "_law_inner", "_law_number"] ["_law_term_here"] (defScope s__law_term_text) := ⟨rfl, rfl, rfl, by decide +kernel, rfl, by decide +kernel, by decide +kernel⟩

/-- what stands behind a term's word: terms and numbers -/
abbrev Ar := Sum Tm Nat
def arL : Tm → List Ar
  | .t s hi lo => [.inl s, .inr hi, .inr lo]
  | t => (subs t).map .inl
def RA (H : Hp) : Ar → V → Prop
  | .inl s, x => RT H s x
  | .inr n, x => x = .int (n : Int)
theorem RA.tk {H H' : Hp} (k : Tk H H') : ∀ {a : Ar} {x : V}, RA H a x → RA H' a x
  | .inl s, x, h => RT.tk k s x h
  | .inr n, x, h => h
theorem RT.kind {H : Hp} {t : Tm} {x : V} (h : RT H t x) : KindV H x "tuple" := by
  cases t with
  | is v => obtain ⟨a, rfl, h⟩ := h; exact .inl ⟨⟨_, h⟩, rfl⟩
  | of v => obtain ⟨a, rfl, h⟩ := h; exact .inl ⟨⟨_, h⟩, rfl⟩
  | u w s => obtain ⟨a, v, rfl, h, _⟩ := h; exact .inl ⟨⟨_, h⟩, rfl⟩
  | b w s t => obtain ⟨a, v, u, rfl, h, _⟩ := h; exact .inl ⟨⟨_, h⟩, rfl⟩
  | p r s t => obtain ⟨a, z, v, u, rfl, h, _⟩ := h; exact .inl ⟨⟨_, h⟩, rfl⟩
  | t s hi lo => obtain ⟨a, v, rfl, h, _⟩ := h; exact .inl ⟨⟨_, h⟩, rfl⟩
theorem RT.args {H : Hp} {t : Tm} {x : V} (h : RT H t x) (h2 : ∀ v, t ≠ .is v) (h3 : ∀ v, t ≠ .of v) : ∃ a args, x = .ref a ∧ H a = some (.tup (.str (wordOf t) :: args)) ∧ All2 (RA H) (arL t) args := by
  cases t with
  | is v => exact absurd rfl (h2 v)
  | of v => exact absurd rfl (h3 v)
  | u w s => obtain ⟨a, v, rfl, h, r⟩ := h; exact ⟨a, _, rfl, h, .cons r .nil⟩
  | b w s t => obtain ⟨a, v, u, rfl, h, r, r'⟩ := h; exact ⟨a, _, rfl, h, .cons r (.cons r' .nil)⟩
  | p r s t => obtain ⟨a, z, v, u, rfl, h, r, r', r''⟩ := h; exact ⟨a, _, rfl, h, .cons r (.cons r' (.cons r'' .nil))⟩
  | t s hi lo => obtain ⟨a, v, rfl, h, r⟩ := h; exact ⟨a, _, rfl, h, .cons r (.cons rfl (.cons rfl .nil))⟩
theorem arL_tx {t : Tm} (h2 : ∀ v, t ≠ .is v) (h3 : ∀ v, t ≠ .of v) : ((arL t).filterMap Sum.getLeft?).map tx ++ ((arL t).filterMap Sum.getRight?).map figS = argTx t := by
  cases t with
  | is v => exact absurd rfl (h2 v)
  | of v => exact absurd rfl (h3 v)
  | u w s => rfl
  | b w s t => rfl
  | p r s t => rfl
  | t s hi lo => rfl
theorem arL_left {t s : Tm} (h : Sum.inl s ∈ arL t) : s ∈ subs t := by
  cases t <;> simp [arL, subs] at h ⊢ <;> exact h
theorem arL_right {G : Str → Nat → Prop} (hG : Rng G) {t : Tm} {k n : Nat} (hf : Fit G t k) (h : Sum.inr n ∈ arL t) : n < 10 := by
  cases t with
  | t s hi lo =>
    obtain ⟨j, hfa, h1, h2, h3⟩ := hf
    have := Fit.range hG _ _ hfa
    simp [arL] at h
    omega
  | _ => simp [arL, subs] at h
theorem arL_len (t : Tm) : (arL t).length ≤ 3 := by
  cases t <;> simp [arL, subs]
local macro_rules | `(tactic| walk_at "rd") => `(tactic| simp only [tYes, wipe, HO.lst.injEq, HO.tup.injEq, HO.dK.injEq, Nat.reduceAdd, Nat.reduceLeDiff, Nat.reduceSub, Int.reduceLE, Int.reduceLT, Int.reduceNeg, Nat.zero_add, Int.reduceEq, cut_head, cut_tail, cut_mid, cut_three, c_cast0, c_cast1, c_cast2, c_cast3, c_cast4, z_lit, List.getD_eq_getElem?_getD, Option.getD_some, tLc_eq, tFor_eq, cxOf, Cx.nox, Cx.wish, tSeq, tIfS, tOr, tAnd, tNot, tB, tCB, tCons, tVar, tC, tNil, tTest, tChain, rI0, rI, tOp, rIxS, rIxL, rIxT, tRet, tNext, tAsg, gName, tAndV, tOrV, tNotV, tIf, tIsN, tNotN, tCall, tDrop, tBM, tBM0, rEq, rNe, tRetN, tSl, tNoPart, tPart, tTupD, tLstD, tInD, rIsK, rLenS, rLenL, rLenT, rAllT, rAnyF, rInK, rInL, rSlLD, rSlTD, rSlS, rCatD, rCatTD, rAppD, rExtD, rPopD, rPopAtD, rListD, rTupleD, iLst, iTpl, iStr, rIxLH, rIxTH, gTupH, gLstH, gStar0, gStar1, gStar2, rSumH, rAddS2, tJoinS, tFmtS, tFmtI, tJoined, tJoined_nil, tJoined_cons, rIsG, app_empty, tFldD, sFldD, tMkD, tMoD, rIsC, rLenO, rEqO, HO.ins.injEq, exists_eq, tNilL, tML, tML0, tMS, iEnumH, tCallK, rStrI, tGetS, tGet1S, tGet2S, rListKD, tDc_eq, tLc2_eq, tKGet, gCons, gNil, tChain3, tPartD, tSplitD, tPar, New, Chg, rListTD, atI_0, atI_1, atI_2, atI_3, sign_inj, and_false, false_and, or_false, false_or, or_true, true_or, List.take_succ_cons, List.take_zero, List.drop_succ_cons, List.drop_zero, forall_const, exists_false, not_false_eq_true, not_true_eq_false, if_true, if_false, iRng1, KindV,
  L2.start, List.map_cons, List.map_nil, List.length_cons, List.length_nil, List.replicate, List.cons_append, List.nil_append, List.append_nil, List.set_cons_zero, List.set_cons_succ, List.getElem?_cons_zero, List.getElem?_cons_succ, Option.some.injEq, exists_eq_left', exists_eq_left, V.int.injEq, V.str.injEq, V.bl.injEq, V.ref.injEq, V.ty.injEq, true_and, and_true, List.cons.injEq, exists_and_left, exists_eq', and_assoc, scal, ofString_inj, String.reduceEq, reduceIte, decide_eq_true_eq, decide_eq_false_iff_not, Bool.not_true, Bool.not_false, Bool.not_eq_true', inV_cons, inV_nil, eqV_ss, eqV_ii, flatV, List.all_cons, List.all_nil, Bool.and_true, Bool.or_false, Bool.true_and, Bool.false_or, decide_true, decide_false, Bool.true_or, Bool.false_eq_true, reduceCtorEq, spTermText])
local macro_rules | `(tactic| walk_at "ra") => `(tactic| simp only [tYes, wipe, HO.lst.injEq, HO.tup.injEq, HO.dK.injEq, Nat.reduceAdd, Nat.reduceLeDiff, Nat.reduceSub, Int.reduceLE, Int.reduceLT, Int.reduceNeg, Nat.zero_add, Int.reduceEq, cut_head, cut_tail, cut_mid, cut_three, c_cast0, c_cast1, c_cast2, c_cast3, c_cast4, z_lit, List.getD_eq_getElem?_getD, Option.getD_some, tLc_eq, tFor_eq, cxOf, Cx.nox, Cx.wish, tSeq, tIfS, tOr, tAnd, tNot, tB, tCB, tCons, tVar, tC, tNil, tTest, tChain, rI0, rI, tOp, rIxS, rIxL, rIxT, tRet, tNext, tAsg, gName, tAndV, tOrV, tNotV, tIf, tIsN, tNotN, tCall, tDrop, tBM, tBM0, rEq, rNe, tRetN, tSl, tNoPart, tPart, tTupD, tLstD, tInD, rIsK, rLenS, rLenL, rLenT, rAllT, rAnyF, rInK, rInL, rSlLD, rSlTD, rSlS, rCatD, rCatTD, rAppD, rExtD, rPopD, rPopAtD, rListD, rTupleD, iLst, iTpl, iStr, rIxLH, rIxTH, gTupH, gLstH, gStar0, gStar1, gStar2, rSumH, rAddS2, tJoinS, tFmtS, tFmtI, tJoined, tJoined_nil, tJoined_cons, rIsG, app_empty, tFldD, sFldD, tMkD, tMoD, rIsC, rLenO, rEqO, HO.ins.injEq, exists_eq, tNilL, tML, tML0, tMS, iEnumH, tCallK, rStrI, tGetS, tGet1S, tGet2S, rListKD, tDc_eq, tLc2_eq, tKGet, gCons, gNil, tChain3, tPartD, tSplitD, tPar, New, Chg, rListTD, atI_0, atI_1, atI_2, atI_3, sign_inj, and_false, false_and, or_false, false_or, or_true, true_or, List.take_succ_cons, List.take_zero, List.drop_succ_cons, List.drop_zero, forall_const, exists_false, not_false_eq_true, not_true_eq_false, if_true, if_false, iRng1, KindV,
  L2.start, List.map_cons, List.map_nil, List.length_cons, List.length_nil, List.replicate, List.cons_append, List.nil_append, List.append_nil, List.set_cons_zero, List.set_cons_succ, List.getElem?_cons_zero, List.getElem?_cons_succ, Option.some.injEq, exists_eq_left', exists_eq_left, V.int.injEq, V.str.injEq, V.bl.injEq, V.ref.injEq, V.ty.injEq, true_and, and_true, List.cons.injEq, exists_and_left, exists_eq', and_assoc, scal, ofString_inj, String.reduceEq, reduceIte, decide_eq_true_eq, decide_eq_false_iff_not, Bool.not_true, Bool.not_false, Bool.not_eq_true', inV_cons, inV_nil, eqV_ss, eqV_ii, flatV, List.all_cons, List.all_nil, Bool.and_true, Bool.or_false, Bool.true_and, Bool.false_or, decide_true, decide_false, Bool.true_or, Bool.false_eq_true, reduceCtorEq, spTermText, *])

section
variable {P : Program} {w : World} {K : PySem.W.Frag} {mg : Str → Option Value} {base : Heap} {k : Nat}
theorem ok_law_term_text {n : Nat} (T : TX K mg) (D : DF K mg "_law_term_text" s__law_term_text ["_law_term_here"] []) (G__law_term_text : FO P w K mg base "_law_term_text" k ["_law_term_here"] [] (spTermText n)) :
    FO P w K mg base "_law_term_text" (k + 1) ["_law_term_here"] [] (spTermText (n + 1)) := by
  refine D.ok sc__law_term_text (fun vs H Q E h => ?_) (fun fa cdv A outer s H vs Q E hr h => ?_)
  · obtain ⟨_, _, _, _, rfl, _⟩ := h
    rfl
  obtain ⟨G, t, kk, v, rfl, ht, hG, hf, hw, hn, q⟩ := h
  refine ⟨_, (pss_cons (ps_if (pt_cmpR op_eq (pe_ix ix_tpl (pv 0) pe_int (fun _ _ => rfl)) pe_str (nomark _))
      (pss_one (ps_ret (pe_op op_addS2 pe_str (pe_ix ix_tpl (pv 0) pe_int (fun _ _ => rfl)))))
      pss_nil)
    (pss_cons (ps_if (pt_cmpR op_eq (pe_ix ix_tpl (pv 0) pe_int (fun _ _ => rfl)) pe_str (nomark _))
      (pss_one (ps_ret (pe_ix ix_tpl (pv 0) pe_int (fun _ _ => rfl))))
      pss_nil)
    (pss_cons (ps_setLc (i := 1) (own := [("_law_inner", 2)]) (tt := _) rfl sc__law_term_text.nd rfl rfl (sw_true rfl rfl rfl (by decide +kernel)) (pi_tpl (pe_slice sl_tupD (pv 0) (po_some pe_int) po_none)) (blkOk_by (N := ["_law_term_here", "_law_parts", "_law_inner", "_law_number"]) (sc := defScope s__law_term_text) (by decide +kernel)) (fun _ _ _ _ _ => (pg_name (i := 2) sc__law_term_text.nd rfl (Or.inl rfl))) (fun _ _ _ _ _ => (pts_one (pt_val (pe_callB (call_isG (m := "tuple")) rfl T.isinstance (by decide +kernel) (pa_cons (pv 2) (pa_cons (pe_bltn (v := .ty "tuple") rfl T.tuple (by decide +kernel) rfl) pa_nil)))))) (fun _ _ _ _ _ => (pe_fo G__law_term_text hr (pa_cons (pv 2) pa_nil))))
    (pss_cons (ps_set (i := 1) sc__law_term_text.nd rfl (Or.inl rfl) (pe_op op_catD (pv 1) (pe_lc (own := [("_law_number", 3)]) (tt := _) rfl sc__law_term_text.nd (pi_tpl (pe_slice sl_tupD (pv 0) (po_some pe_int) po_none)) (blkOk_by (N := ["_law_term_here", "_law_parts", "_law_inner", "_law_number"]) (sc := defScope s__law_term_text) (by decide +kernel)) (fun _ _ _ _ _ => (pg_name (i := 3) sc__law_term_text.nd rfl (Or.inl rfl))) (fun _ _ _ _ _ => (pts_one (pt_val (pe_callB (call_isG (m := "int")) rfl T.isinstance (by decide +kernel) (pa_cons (pv 3) (pa_cons (pe_bltn (v := .ty "int") rfl T.int (by decide +kernel) rfl) pa_nil)))))) (fun _ _ _ _ _ => (pe_callTy call_strI rfl T.str (by decide +kernel) (pa_cons (pv 3) pa_nil))))))
    (pss_one (ps_ret (pe_op op_addS2 (pe_op op_addS2 (pe_op op_addS2 (pe_ix ix_tpl (pv 0) pe_int (fun _ _ => rfl)) pe_str) (pe_joinS pe_str (pv 1))) pe_str))))))), ?_⟩
  have htl := tx_len t kk hf
  refine seq_i fun M hM => ?_
  rcases tm_leaf t with ⟨x, rfl⟩ | ⟨x, rfl⟩ | ⟨n2, n3⟩
  · obtain ⟨a, rfl, ha⟩ := ht
    have hl : x.length = kk := by rw [len_tl]; exact ValOk.len hf
    have h8 := ValOk.l8 hf
    walk_at "ra"
    refine ⟨?_, q _ (Same.refl _)⟩
    rw [slen_lit]
    show 1 + kk ≤ _
    omega
  · obtain ⟨a, rfl, ha⟩ := ht
    walk_at "ra"
    subst hM
    walk_at "ra"
    exact q _ (Same.refl _)
  · obtain ⟨a, args, rfl, ha, hal⟩ := RT.args ht n2 n3
    have hargs : wordOf t ≠ "is" ∧ wordOf t ≠ "of" ∧ wordOf t ∈ (["not", "any", "all", "and", "or", "xor", "plus", "same", "less", "join", "pick", "part", "is", "of"] : List Str) := by
      have w6 : wordOf t ∈ (["not", "any", "all", "and", "or", "xor", "plus", "same", "less", "join", "pick", "part", "is", "of"] : List Str) := by
        cases t with
        | u w s => have := Fit.wordu hf; simp only [wordOf]; simp only [List.mem_cons, List.not_mem_nil, or_false] at this ⊢; rcases this with h | h | h <;> simp [h]
        | b w s u => have := Fit.word hf; simp only [wordOf]; simp only [List.mem_cons, List.not_mem_nil, or_false] at this ⊢; rcases this with h | h | h | h | h | h | h <;> simp [h]
        | _ => simp [wordOf]
      have w7 : wordOf t ∈ (["not", "any", "all", "and", "or", "xor", "plus", "same", "less", "join", "pick", "part"] : List Str) := by
        cases t with
        | is v => exact absurd rfl (n2 v)
        | of v => exact absurd rfl (n3 v)
        | u w s => have := Fit.wordu hf; simp only [wordOf]; simp only [List.mem_cons, List.not_mem_nil, or_false] at this ⊢; rcases this with h | h | h <;> simp [h]
        | b w s u => have := Fit.word hf; simp only [wordOf]; simp only [List.mem_cons, List.not_mem_nil, or_false] at this ⊢; rcases this with h | h | h | h | h | h | h <;> simp [h]
        | _ => simp [wordOf]
      have hh : ∀ w ∈ (["not", "any", "all", "and", "or", "xor", "plus", "same", "less", "join", "pick", "part"] : List Str), w ≠ "is" ∧ w ≠ "of" := by decide +kernel
      exact ⟨(hh _ w7).1, (hh _ w7).2, w6⟩
    obtain ⟨w3, w4, w6⟩ := hargs
    have hwl := words_len _ w6
    have hal3 := arL_len t
    have hxl := all2_len hal
    have hsub := fun s h => Fit.subs hf s (arL_left h)
    walk_at "ra"
    subst hM
    refine seq_i fun M hM => ?_
    walk_at "ra"
    subst hM
    refine seq_i fun M hM => ?_
    walk_at "ra"
    refine ⟨Nat.lt_succ_self _, fun p1 H1 hp1 s1 hl1' => ?_⟩
    refine ⟨_, hl1', ?_⟩
    refine lc_gen (wk_tpl (xs := args)) (fun H s => s _ _ hl1') (fun i acc H => acc = ((((arL t).take i).filterMap Sum.getLeft?).map tx).map V.str) (by omega) (fun i acc H _ u => ?_) (fun _ _ _ _ u _ => u) (fun _ _ => rfl) (fun i acc H2 Ky Kn hi s2 u ky kn => ?_) (fun D2 acc H2 s2 hD2 hl2 u => ?_)
    · rw [u, List.length_map, List.length_map]
      exact Nat.le_trans (List.length_filterMap_le _ _) (List.length_take_le _ _)
    · have hget : args[i]? = some (args.getD i .non) := by simp [hi]
      obtain ⟨b, hb, hr'⟩ := all2_at hal hget
      have hmem := List.mem_of_getElem? hb
      have htk := take_snoc hb
      have hr2 := RA.tk (same_tk (s1.trans s2)) hr'
      generalize args.getD i .non = y at hr2
      cases b with
      | inl s =>
        have hdp := subs_deep (arL_left hmem)
        have hwt := subs_wt_le (arL_left hmem)
        obtain ⟨j, hj⟩ := hsub s hmem
        have kd := RT.kind hr2
        walk_at "rd"
        refine ⟨"tuple", kd, true, rfl, ?_⟩
        rw [if_pos rfl]
        refine ⟨G, s, hr2, hG, j, hj, by omega, by omega, fun H3 s3 => ky _ _ s3 ?_⟩
        rw [htk, u]
        simp
      | inr m =>
        have e : y = .int (m : Int) := hr2
        subst e
        walk_at "rd"
        refine ⟨false, rfl, ?_⟩
        rw [if_neg (by decide)]
        refine kn _ (Same.refl _) ?_
        rw [htk, u]
        simp
    rw [List.take_of_length_le (by omega)] at u
    subst hM
    refine seq_i fun M hM => ?_
    have ha2 := s2 _ _ (s1 _ _ ha)
    walk_at "ra"
    refine ⟨Nat.lt_succ_self _, fun p3 H3 hp3 s3 hl3' => ?_⟩
    refine ⟨_, hl3', ?_⟩
    refine lc_gen (wk_tpl (xs := args)) (fun H s => s _ _ hl3') (fun i acc H => acc = ((((arL t).take i).filterMap Sum.getRight?).map figS).map V.str) (by omega) (fun i acc H _ u => ?_) (fun _ _ _ _ u _ => u) (fun _ _ => rfl) (fun i ac2 H4 Ky Kn hi s4 u4 ky kn => ?_) (fun D4 ac2 H4 s4 hD4 hl4 u4 => ?_)
    · rw [u, List.length_map, List.length_map]
      exact Nat.le_trans (List.length_filterMap_le _ _) (List.length_take_le _ _)
    · have hget : args[i]? = some (args.getD i .non) := by simp [hi]
      obtain ⟨b, hb, hr'⟩ := all2_at hal hget
      have hmem := List.mem_of_getElem? hb
      have htk := take_snoc hb
      have hr2 := RA.tk (same_tk (((s1.trans s2).trans s3).trans s4)) hr'
      generalize args.getD i .non = y at hr2
      cases b with
      | inl s =>
        have kd := RT.kind hr2
        walk_at "rd"
        refine ⟨"tuple", kd, false, rfl, ?_⟩
        rw [if_neg (by decide)]
        refine kn _ (Same.refl _) ?_
        rw [htk, u4]
        simp
      | inr m =>
        have e : y = .int (m : Int) := hr2
        subst e
        have hm10 := arL_right hG hf hmem
        walk_at "rd"
        refine ⟨true, rfl, ?_⟩
        rw [if_pos rfl]
        refine ⟨by omega, ky _ _ (Same.refl _) ?_⟩
        rw [htk, u4, str_fig hm10]
        simp
    rw [List.take_of_length_le (by omega)] at u4
    have hl24 := s4 _ _ (s3 _ _ hl2)
    have hlen : acc.length ≤ 3 ∧ ac2.length ≤ 3 := by
      rw [u, u4]
      simp only [List.length_map]
      exact ⟨Nat.le_trans (List.length_filterMap_le _ _) hal3, Nat.le_trans (List.length_filterMap_le _ _) hal3⟩
    refine ⟨D4, rfl, _, hl24, _, hl4, by omega, fun p5 H5 hp5 s5 hl5 => ?_⟩
    rw [u, u4, ← List.map_append, arL_tx n2 n3] at hl5
    have s05 := ((((s1.trans s2).trans s3).trans s4).trans s5)
    have ha5 := s05 _ _ ha
    have etx := tx_op n2 n3
    have hargl : (argTx t).length ≤ 3 ∧ ((argTx t).map (·.length)).sum + (argTx t).length * 2 ≤ 100000 := by
      have h1 : ∀ y ∈ argTx t, y.length ≤ 1000 := fun y hy => by
        cases t with
        | is v => exact absurd rfl (n2 v)
        | of v => exact absurd rfl (n3 v)
        | t s hi lo =>
          simp only [argTx, List.mem_cons, List.not_mem_nil, or_false] at hy
          obtain ⟨j, hfa, _⟩ := hf
          have := tx_len s j hfa
          simp only [wt] at hw
          rcases hy with rfl | rfl | rfl
          · omega
          · rw [slen_fig]; omega
          · rw [slen_fig]; omega
        | _ =>
          obtain ⟨s', hs', rfl⟩ := List.mem_map.mp hy
          obtain ⟨j, hj⟩ := Fit.subs hf s' hs'
          have := tx_len s' j hj
          have := subs_wt_le hs'
          omega
      have h2 : (argTx t).length ≤ 3 := by
        cases t <;> simp [argTx, subs]
      have h3 := sum_len h1
      have h4 : (argTx t).length * 1000 ≤ 3000 := by omega
      exact ⟨h2, by omega⟩
    subst hM
    rw [etx] at q htl
    have hq := q _ s05
    have hjl := join_len (y := (", " : Str)) (argTx t)
    simp only [slen_app] at htl
    have e2 : (Str.ofString ", ").length = 2 := by decide +kernel
    walk_at "ra"
    exact ⟨by omega, argTx t, rfl, by omega, by simp only [slen_app]; omega, by simp only [slen_app]; omega, hq⟩
end
end K37
set_option maxHeartbeats 4000000
namespace K37
open PySem L2 TL
open PyProof.Rows hiding St
theorem sc__law_what_text : FnScope ["_law_row", "_law_when", "_law_term_here"] ["_law_row"] (defScope s__law_what_text) := ⟨rfl, rfl, rfl, by decide +kernel, rfl, by decide +kernel, by decide +kernel⟩

theorem sc__law_body_lines : FnScope ["_law_body_here", "_law_ahead", "_law_lines_here", "_law_statement"] ["_law_body_here", "_law_ahead"] (defScope s__law_body_lines) := ⟨rfl, rfl, rfl, by decide +kernel, rfl, by decide +kernel, by decide +kernel⟩

def spLWhat : Sp := fun vs H Q _ => ∃ (G : Str → Nat → Prop) (s : Sg) (v : V), vs = [v] ∧ RS H s v ∧ Rng G ∧ WhatOk G s ∧ ∀ H', Same H H' → Q (.str (whatTx s)) H'
local macro_rules | `(tactic| walk_at "rd") => `(tactic| simp only [tYes, wipe, HO.lst.injEq, HO.tup.injEq, HO.dK.injEq, Nat.reduceAdd, Nat.reduceLeDiff, Nat.reduceSub, Int.reduceLE, Int.reduceLT, Int.reduceNeg, Nat.zero_add, Int.reduceEq, cut_head, cut_tail, cut_mid, cut_three, c_cast0, c_cast1, c_cast2, c_cast3, c_cast4, z_lit, List.getD_eq_getElem?_getD, Option.getD_some, tLc_eq, tFor_eq, cxOf, Cx.nox, Cx.wish, tSeq, tIfS, tOr, tAnd, tNot, tB, tCB, tCons, tVar, tC, tNil, tTest, tChain, rI0, rI, tOp, rIxS, rIxL, rIxT, tRet, tNext, tAsg, gName, tAndV, tOrV, tNotV, tIf, tIsN, tNotN, tCall, tDrop, tBM, tBM0, rEq, rNe, tRetN, tSl, tNoPart, tPart, tTupD, tLstD, tInD, rIsK, rLenS, rLenL, rLenT, rAllT, rAnyF, rInK, rInL, rSlLD, rSlTD, rSlS, rCatD, rCatTD, rAppD, rExtD, rPopD, rPopAtD, rListD, rTupleD, iLst, iTpl, iStr, rIxLH, rIxTH, gTupH, gLstH, gStar0, gStar1, gStar2, rSumH, rAddS2, tJoinS, tFmtS, tFmtI, tJoined, tJoined_nil, tJoined_cons, rIsG, app_empty, tFldD, sFldD, tMkD, tMoD, rIsC, rLenO, rEqO, HO.ins.injEq, exists_eq, tNilL, tML, tML0, tMS, iEnumH, tCallK, rStrI, tGetS, tGet1S, tGet2S, rListKD, tDc_eq, tLc2_eq, tKGet, gCons, gNil, tChain3, tPartD, tSplitD, tPar, New, Chg, rListTD, atI_0, atI_1, atI_2, atI_3, sign_inj, and_false, false_and, or_false, false_or, or_true, true_or, List.take_succ_cons, List.take_zero, List.drop_succ_cons, List.drop_zero, forall_const, exists_false, not_false_eq_true, not_true_eq_false, if_true, if_false, iRng1, KindV,
  L2.start, List.map_cons, List.map_nil, List.length_cons, List.length_nil, List.replicate, List.cons_append, List.nil_append, List.append_nil, List.set_cons_zero, List.set_cons_succ, List.getElem?_cons_zero, List.getElem?_cons_succ, Option.some.injEq, exists_eq_left', exists_eq_left, V.int.injEq, V.str.injEq, V.bl.injEq, V.ref.injEq, V.ty.injEq, true_and, and_true, List.cons.injEq, exists_and_left, exists_eq', and_assoc, scal, ofString_inj, String.reduceEq, reduceIte, decide_eq_true_eq, decide_eq_false_iff_not, Bool.not_true, Bool.not_false, Bool.not_eq_true', inV_cons, inV_nil, eqV_ss, eqV_ii, flatV, List.all_cons, List.all_nil, Bool.and_true, Bool.or_false, Bool.true_and, Bool.false_or, decide_true, decide_false, Bool.true_or, Bool.false_eq_true, reduceCtorEq, spTermText, spLWhat, spBodyLines])
local macro_rules | `(tactic| walk_at "ra") => `(tactic| simp only [tYes, wipe, HO.lst.injEq, HO.tup.injEq, HO.dK.injEq, Nat.reduceAdd, Nat.reduceLeDiff, Nat.reduceSub, Int.reduceLE, Int.reduceLT, Int.reduceNeg, Nat.zero_add, Int.reduceEq, cut_head, cut_tail, cut_mid, cut_three, c_cast0, c_cast1, c_cast2, c_cast3, c_cast4, z_lit, List.getD_eq_getElem?_getD, Option.getD_some, tLc_eq, tFor_eq, cxOf, Cx.nox, Cx.wish, tSeq, tIfS, tOr, tAnd, tNot, tB, tCB, tCons, tVar, tC, tNil, tTest, tChain, rI0, rI, tOp, rIxS, rIxL, rIxT, tRet, tNext, tAsg, gName, tAndV, tOrV, tNotV, tIf, tIsN, tNotN, tCall, tDrop, tBM, tBM0, rEq, rNe, tRetN, tSl, tNoPart, tPart, tTupD, tLstD, tInD, rIsK, rLenS, rLenL, rLenT, rAllT, rAnyF, rInK, rInL, rSlLD, rSlTD, rSlS, rCatD, rCatTD, rAppD, rExtD, rPopD, rPopAtD, rListD, rTupleD, iLst, iTpl, iStr, rIxLH, rIxTH, gTupH, gLstH, gStar0, gStar1, gStar2, rSumH, rAddS2, tJoinS, tFmtS, tFmtI, tJoined, tJoined_nil, tJoined_cons, rIsG, app_empty, tFldD, sFldD, tMkD, tMoD, rIsC, rLenO, rEqO, HO.ins.injEq, exists_eq, tNilL, tML, tML0, tMS, iEnumH, tCallK, rStrI, tGetS, tGet1S, tGet2S, rListKD, tDc_eq, tLc2_eq, tKGet, gCons, gNil, tChain3, tPartD, tSplitD, tPar, New, Chg, rListTD, atI_0, atI_1, atI_2, atI_3, sign_inj, and_false, false_and, or_false, false_or, or_true, true_or, List.take_succ_cons, List.take_zero, List.drop_succ_cons, List.drop_zero, forall_const, exists_false, not_false_eq_true, not_true_eq_false, if_true, if_false, iRng1, KindV,
  L2.start, List.map_cons, List.map_nil, List.length_cons, List.length_nil, List.replicate, List.cons_append, List.nil_append, List.append_nil, List.set_cons_zero, List.set_cons_succ, List.getElem?_cons_zero, List.getElem?_cons_succ, Option.some.injEq, exists_eq_left', exists_eq_left, V.int.injEq, V.str.injEq, V.bl.injEq, V.ref.injEq, V.ty.injEq, true_and, and_true, List.cons.injEq, exists_and_left, exists_eq', and_assoc, scal, ofString_inj, String.reduceEq, reduceIte, decide_eq_true_eq, decide_eq_false_iff_not, Bool.not_true, Bool.not_false, Bool.not_eq_true', inV_cons, inV_nil, eqV_ss, eqV_ii, flatV, List.all_cons, List.all_nil, Bool.and_true, Bool.or_false, Bool.true_and, Bool.false_or, decide_true, decide_false, Bool.true_or, Bool.false_eq_true, reduceCtorEq, spTermText, spLWhat, spBodyLines, *])

section
variable {P : Program} {w : World} {K : PySem.W.Frag} {mg : Str → Option Value} {base : Heap} {k : Nat}
theorem ok_law_what_text (T : TX K mg) (D : DF K mg "_law_what_text" s__law_what_text ["_law_row"] []) (G__law_term_text : FO P w K mg base "_law_term_text" k ["_law_term_here"] [] (spTermText 10)) :
    FO P w K mg base "_law_what_text" (k + 1) ["_law_row"] [] spLWhat := by
  refine D.ok sc__law_what_text (fun vs H Q E h => ?_) (fun fa cdv A outer s H vs Q E hr h => ?_)
  · obtain ⟨_, _, _, rfl, _⟩ := h
    rfl
  obtain ⟨G, sg, v, rfl, ⟨a, v0, rfl, ha, hv⟩, hG, hok, q⟩ := h
  refine ⟨_, (pss_cons (ps_if (pt_cmpR op_eq (pe_ix ix_tpl (pv 0) pe_int (fun _ _ => rfl)) pe_str (nomark _))
      (pss_one (ps_ret pe_str))
      pss_nil)
    (pss_cons (ps_if (pt_cmpR op_eq (pe_ix ix_tpl (pv 0) pe_int (fun _ _ => rfl)) pe_str (nomark _))
      (pss_one (ps_ret (pe_op op_addS2 pe_str (pe_ix ix_tpl (pv 0) pe_int (fun _ _ => rfl)))))
      pss_nil)
    (pss_cons (ps_if (pt_cmpR op_ne (pe_ix ix_tpl (pv 0) pe_int (fun _ _ => rfl)) pe_str (nomark _))
      (pss_one (ps_ret (pe_op op_addS2 pe_str (pe_fo G__law_term_text hr (pa_cons (pe_ix ix_tpl (pv 0) pe_int (fun _ _ => rfl)) pa_nil)))))
      pss_nil)
    (pss_one (ps_ret (pe_op op_addS2 pe_str (pe_joinS pe_str (pe_lc (own := [("_law_when", 1), ("_law_term_here", 2)]) (tt := tYes) rfl sc__law_what_text.nd (pi_tpl (pe_ix ix_tpl (pv 0) pe_int (fun _ _ => rfl))) (blkOk_by (N := ["_law_row", "_law_when", "_law_term_here"]) (sc := defScope s__law_what_text) (by decide +kernel)) (fun _ _ _ _ _ => (pg_tpl 2 rfl (pgs_cons (pg_name (i := 1) sc__law_what_text.nd rfl (Or.inl rfl)) (pgs_cons (pg_name (i := 2) sc__law_what_text.nd rfl (Or.inl rfl)) pgs_nil)))) (fun _ _ _ _ _ => pts_nil) (fun _ _ _ _ _ => (pe_op op_addS2 (pe_op op_addS2 (pe_fo G__law_term_text hr (pa_cons (pv 1) pa_nil)) pe_str) (pe_fo G__law_term_text hr (pa_cons (pv 2) pa_nil)))))))))))), ?_⟩
  have e1 : (Str.ofString " ").length = 1 := by decide +kernel
  have e2 : (Str.ofString "; ").length = 2 := by decide +kernel
  cases sg <;> simp only [Sg.sort, Sg.name, Sg.wd] at ha
  all_goals walk_at "ra"
  · exact q _ (Same.refl _)
  · rename_i n kk val
    have e : v0 = .str val := hv
    have hl : val.length = kk := by rw [len_tl]; exact ValOk.len hok
    have h8 := ValOk.l8 hok
    exact ⟨val, e, by omega, q _ (Same.refl _)⟩
  · rename_i n kk t
    have htl := tx_len _ _ hok.1
    have := hok.2.2
    exact ⟨G, t, hv, hG, kk, hok.1, hok.2.2, hok.2.1, fun H1 s1 => ⟨by omega, q _ s1⟩⟩
  · rename_i n kk t
    have htl := tx_len _ _ hok.1
    have := hok.2.2
    exact ⟨G, t, hv, hG, kk, hok.1, hok.2.2, hok.2.1, fun H1 s1 => ⟨by omega, q _ s1⟩⟩
  · rename_i n kk ds
    obtain ⟨p, xs, rfl, hp, hal⟩ := hv
    obtain ⟨l2, l4, hok⟩ := hok
    have hlen := all2_len hal
    refine ⟨p, rfl, xs, hp, ?_⟩
    refine lc_gen (wk_tpl (xs := xs)) (fun H s => s _ _ hp) (fun i acc H => acc = ((ds.take i).map drvTx).map V.str) (by omega) (fun i acc H _ u => ?_) (fun _ _ _ _ u _ => u) (fun _ _ => rfl) (fun i acc H5 Ky Kn hi s5 u ky _ => ?_) (fun Dl ys H5 s5 hD hl5 u => ?_)
    · rw [u, List.length_map, List.length_map]
      exact List.length_take_le _ _
    · have hget : xs[i]? = some (xs.getD i .non) := by simp [hi]
      obtain ⟨d', hd', b', v1, v2, e, hb', r1, r2⟩ := all2_at hal hget
      have hmem := List.mem_of_getElem? hd'
      rw [e]
      have hb5 := s5 _ _ hb'
      obtain ⟨t1, t2⟩ := hok d' hmem
      have l1 := tx_len _ _ t1.1
      have l2 := tx_len _ _ t2.1
      have w1 := t1.2.2
      have w2 := t2.2.2
      have e3 : (Str.ofString ": ").length = 2 := by decide +kernel
      walk_at "ra"
      refine ⟨G, d'.1, RT.tk (same_tk s5) _ _ r1, hG, 1, t1.1, w1, t1.2.1, fun H6 s6 => ?_⟩
      refine ⟨by omega, G, d'.2, RT.tk (same_tk (s5.trans s6)) _ _ r2, hG, kk, t2.1, w2, t2.2.1, fun H7 s7 => ⟨by rw [slen_app]; omega, ky _ _ (s6.trans s7) ?_⟩⟩
      rw [take_snoc hd', u]
      simp [drvTx]
    · rw [List.take_of_length_le (by omega)] at u
      rw [u] at hl5
      have hsum := sum_len (ys := ds.map drvTx) (m := 2000) fun y hy => by
        obtain ⟨d, hd, rfl⟩ := List.mem_map.mp hy
        exact drvTx_len (hok d hd).1 (hok d hd).2
      have hjl := join_len (y := (Str.ofString "; ")) (ds.map drvTx)
      rw [e2] at hjl
      rw [List.length_map] at hsum hjl
      have h4 : ds.length * 2000 ≤ 8000 := by omega
      have hq := q _ s5
      rw [show whatTx (.bus n kk ds) = (" " : Str) ++ Txt.join ("; " : Str) (ds.map drvTx) from rfl, join_eq] at hq
      exact ⟨Dl, rfl, _, hl5, by rw [List.length_map]; omega, by omega, hq⟩
theorem ok_law_body_lines {n : Nat} (T : TX K mg) (D : DF K mg "_law_body_lines" s__law_body_lines ["_law_body_here", "_law_ahead"] []) (G__law_body_lines : FO P w K mg base "_law_body_lines" k ["_law_body_here", "_law_ahead"] [] (spBodyLines n))
    (G__law_term_text : FO P w K mg base "_law_term_text" k ["_law_term_here"] [] (spTermText 10)) : FO P w K mg base "_law_body_lines" (k + 1) ["_law_body_here", "_law_ahead"] [] (spBodyLines (n + 1)) := by
  refine D.ok sc__law_body_lines (fun vs H Q E h => ?_) (fun fa cdv A outer s H vs Q E hr h => ?_)
  · obtain ⟨_, _, _, _, _, _, _, rfl, _⟩ := h
    rfl
  obtain ⟨G, Kp, f, b, p, xs, ah, rfl, hp, hb, hG, hKp, hok, hn, hw, hah, q⟩ := h
  refine ⟨_, (pss_cons (ps_set (i := 2) sc__law_body_lines.nd rfl (Or.inl rfl) (pe_lstD pa_nil))
    (pss_cons (ps_for PassesOwn.never rfl (pi_tpl (pv 0)) (pg_name (i := 3) sc__law_body_lines.nd rfl (Or.inl rfl))
      (pss_one (ps_if (pt_cmpR op_eq (pe_ix ix_tpl (pv 3) pe_int (fun _ _ => rfl)) pe_str (nomark _))
      (pss_cons (ps_expr (pe_bmL PySem.F.slot_list_append PySem.F.type_list_append mt_appD (pv 2) (pa_cons (pe_op op_addS2 (pe_op op_addS2 (pv 1) pe_str) (pe_fo G__law_term_text hr (pa_cons (pe_ix ix_tpl (pv 3) pe_int (fun _ _ => rfl)) pa_nil))) pa_nil)))
    (pss_cons (ps_set (i := 2) sc__law_body_lines.nd rfl (Or.inl rfl) (pe_op op_catD (pe_op op_catD (pv 2) (pe_fo G__law_body_lines hr (pa_cons (pe_ix ix_tpl (pv 3) pe_int (fun _ _ => rfl)) (pa_cons (pe_op op_addS2 (pv 1) pe_str) pa_nil)))) (pe_lstD (pa_cons (pe_op op_addS2 (pv 1) pe_str) pa_nil))))
    (pss_one (ps_set (i := 2) sc__law_body_lines.nd rfl (Or.inl rfl) (pe_op op_catD (pv 2) (pe_fo G__law_body_lines hr (pa_cons (pe_ix ix_tpl (pv 3) pe_int (fun _ _ => rfl)) (pa_cons (pe_op op_addS2 (pv 1) pe_str) pa_nil))))))))
      (pss_one (ps_expr (pe_bmL PySem.F.slot_list_append PySem.F.type_list_append mt_appD (pv 2) (pa_cons (pe_joinS pe_str (pe_lstD (pa_cons (pe_op op_addS2 (pv 1) (pe_ix ix_tpl (pv 3) pe_int (fun _ _ => rfl))) (pa_cons (pe_ix ix_tpl (pv 3) pe_int (fun _ _ => rfl)) (pa_cons (pe_fo G__law_term_text hr (pa_cons (pe_ix ix_tpl (pv 3) pe_int (fun _ _ => rfl)) pa_nil)) pa_nil))))) pa_nil)))))))
    (pss_one (ps_ret (pv 2))))), ?_⟩
  have hal := heads_all hb
  have hlen := all2_len hal
  have hhl := heads_len b
  have hbl := blines_len b ah
  have e2 : (Str.ofString "  ").length = 2 := by decide +kernel
  have e3 : (Str.ofString "else").length = 4 := by decide +kernel
  have e4 : (Str.ofString "if ").length = 3 := by decide +kernel
  have e5 : (Str.ofString " ").length = 1 := by decide +kernel
  refine seq_i fun M hM => ?_
  walk_at "ra"
  intro p1 H1 hp1 s1 hl1
  subst hM
  refine seq_i fun M hM => ?_
  walk_at "rd"
  refine ⟨_, s1 _ _ hp, ?_⟩
  obtain ⟨Pv, hP⟩ : ∃ Pv : Nat → St → Hp → Prop, ∀ i σ H', Pv i σ H' ↔ ∃ pc o3, σ = [some (V.ref p), some (V.str ah), some (V.ref pc), o3] ∧ Same H H' ∧ H pc = none ∧ H' pc = some (.lst ((((heads b).take i).flatMap (blines ah)).map V.str)) := ⟨_, fun _ _ _ => Iff.rfl⟩
  refine for_gen (wk_tpl (xs := xs)) Pv ((hP _ _ _).mpr ⟨p1, none, rfl, s1, hp1, hl1⟩) (fun i σ H2 _ z => ?_) (fun i σ H2 hi z => ?_) (fun σ H2 z => ?_)
  · obtain ⟨_, _, _, s2, _⟩ := (hP _ _ _).mp z
    exact s2 _ _ hp
  · obtain ⟨pc, o3, rfl, s2, hpc, hl2⟩ := (hP _ _ _).mp z
    have hget : xs[i]? = some (xs.getD i .non) := by simp [hi]
    obtain ⟨h, hh, hr'⟩ := all2_at hal hget
    have hmem := List.mem_of_getElem? hh
    have hhd := heads_is hmem
    have hhok := heads_ok hok hmem
    have hhdp := heads_deep hmem
    have hhw := heads_wt_le hmem
    have hs1 : (((heads b).take (i + 1)).flatMap (blines ah)) = ((heads b).take i).flatMap (blines ah) ++ blines ah h := by
      rw [take_snoc hh]
      simp
    have hflen : (((heads b).take i).flatMap (blines ah)).length + (blines ah h).length ≤ 2000 := by
      have e := blines_len b ah
      rw [← heads_blines ah b, ← List.take_append_drop (i + 1) (heads b), List.flatMap_append, hs1] at e
      simp only [List.length_append] at e
      omega
    cases h with
    | nil => exact hhd.elim
    | set v nm t r =>
      have e : r = .nil := hhd
      subst e
      obtain ⟨b', v', ys, e, hb', ht', _⟩ := hr'
      have e := (List.cons.inj e).1
      rw [e]
      have hb2 := s2 _ _ hb'
      obtain ⟨hv, _, ⟨kk, hk, hto⟩, _⟩ := hhok
      have hvi : ¬ v = Str.ofString "if" := by rcases hv with rfl | rfl <;> decide +kernel
      have hvl : v.length ≤ 5 := by rcases hv with rfl | rfl <;> decide +kernel
      have hnl : nm.length ≤ 8 := by rw [len_tl]; exact (hKp _ _ hk).l8
      have htl := tx_len _ _ hto.1
      have htw := hto.2.2
      walk_at "ra"
      refine ⟨by omega, G, t, RT.tk (same_tk s2) _ _ ht', hG, kk, hto.1, htw, hto.2.1, fun H3 s3 p4 H4 hp4 s4 hl4 => ⟨[ah ++ v, nm, tx t], hl4, ?_, _, s4 _ _ (s3 _ _ hl2), by rw [List.length_map]; omega, fun H5 b5 hl5 => ⟨same_but ((s2.trans s3).trans s4) hpc b5, ?_⟩⟩⟩
      · simp only [List.map_cons, List.map_nil, List.sum_cons, List.sum_nil, List.length_cons, List.length_nil, slen_app]
        omega
      · have ej : Str.join (Str.ofString " ") [ah ++ v, nm, tx t] = ah ++ v ++ Str.ofString " " ++ nm ++ Str.ofString " " ++ tx t := by
          show ah ++ v ++ Str.ofString " " ++ (nm ++ Str.ofString " " ++ tx t) = _
          simp only [app_assoc]
        rw [hl5, ej]
        simp [blines]
    | ite c s t r =>
      have e : r = .nil := hhd
      subst e
      obtain ⟨b', v, p', q', ps, qs, ys, e, hb', hc, hp', hps, hq', hqs, _⟩ := hr'
      have e := (List.cons.inj e).1
      rw [e]
      have hb2 := s2 _ _ hb'
      have hdA : ah.length + 2 + 2 * bdeep s ≤ 20 ∧ ah.length + 2 + 2 * bdeep t ≤ 20 ∧ bdeep s < n ∧ bdeep t < n := by
        simp only [bdeep] at hhdp
        omega
      have hwA : bwt s ≤ 1000 ∧ bwt t ≤ 1000 := by
        simp only [bwt] at hhw
        omega
      have htl := tx_len _ _ hhok.1.1
      have htw := hhok.1.2.2
      walk_at "ra"
      refine ⟨by omega, G, c, RT.tk (same_tk s2) _ _ hc, hG, 1, hhok.1.1, htw, hhok.1.2.1, fun H3 s3 => ⟨by rw [slen_app]; omega, _, s3 _ _ hl2, by rw [List.length_map]; omega, fun H4 b4 hl4 => ?_⟩⟩
      have s04 : Same H H4 := same_but (s2.trans s3) hpc b4
      have hb4 := s04 _ _ hb'
      refine ⟨_, hb4, _, rfl, by omega, G, Kp, f, s, p', rfl, ps, s04 _ _ hp', RBl.tk (same_tk s04) _ _ hps, hG, hKp, hhok.2.1, by omega, by omega, by rw [slen_app, e2]; omega, fun p5 H5 hp5 s5 hl5 => ?_⟩
      have la := blines_len s (ah ++ Str.ofString "  ")
      have lb := blines_len t (ah ++ Str.ofString "  ")
      have lH : (((heads b).take i).flatMap (blines ah)).length ≤ 2000 := by omega
      have hl5c := s5 _ _ hl4
      refine ⟨_, hl5c, _, hl5, ?_, fun p6 H6 hp6 s6 hl6 => ⟨by omega, fun p7 H7 hp7 s7 hl7 => ⟨_, s7 _ _ hl6, _, hl7, ?_, fun p8 H8 hp8 s8 hl8 => ?_⟩⟩⟩
      · simp only [List.length_append, List.length_map, List.length_cons, List.length_nil]
        omega
      · simp only [List.length_append, List.length_map, List.length_cons, List.length_nil]
        omega
      have s08 : Same H H8 := ((s04.trans s5).trans s6).trans (s7.trans s8)
      refine ⟨_, s08 _ _ hb', _, rfl, by omega, G, Kp, f, t, q', rfl, qs, s08 _ _ hq', RBl.tk (same_tk s08) _ _ hqs, hG, hKp, hhok.2.2.1, by omega, by omega, by rw [slen_app, e2]; omega, fun p9 H9 hp9 s9 hl9 => ⟨_, s9 _ _ hl8, _, hl9, ?_, fun p10 H10 hp10 s10 hl10 => ?_⟩⟩
      · simp only [List.length_append, List.length_map, List.length_cons, List.length_nil]
        omega
      refine ⟨(s08.trans s9).trans s10, (s08.trans s9).free hp10, ?_⟩
      rw [hl10]
      simp [blines]
  · obtain ⟨pc, o3, rfl, s2, hpc, hl2⟩ := (hP _ _ _).mp z
    show M _ _
    subst hM
    walk_at "rd"
    rw [← hlen, List.take_length, heads_blines] at hl2
    exact q _ _ hpc s2 hl2
end
end K37
set_option maxHeartbeats 4000000
namespace K37
open PySem L2 TL
open PyProof.Rows hiding St
theorem sc__law_lines : FnScope ["_law_signals", "_law_blocks_here", "_law_lines_here", "_law_block", "_law_row"] ["_law_signals", "_law_blocks_here"] (defScope s__law_lines) := ⟨rfl, rfl, rfl, by decide +kernel, rfl, by decide +kernel, by decide +kernel⟩

theorem sc__law_design_text : FnScope ["_law_signals", "_law_blocks_here", "_law_line"] ["_law_signals", "_law_blocks_here"] (defScope s__law_design_text) := ⟨rfl, rfl, rfl, by decide +kernel, rfl, by decide +kernel, by decide +kernel⟩

def spLLines : Sp := fun vs H Q _ => ∃ (sg : List Sg) (bl : List Bk) (a b : Addr), vs = [.ref a, .ref b] ∧ LS H a sg ∧ LK H b bl ∧ Valid sg bl ∧ ∀ p H', H p = none → Same H H' → H' p = some (.lst ((dlines sg bl).map V.str)) → Q (.ref p) H'
def spLDText : Sp := fun vs H Q _ => ∃ (sg : List Sg) (bl : List Bk) (a b : Addr), vs = [.ref a, .ref b] ∧ LS H a sg ∧ LK H b bl ∧ Valid sg bl ∧ ∀ H', Same H H' → Q (.str (dtext sg bl)) H'
local macro_rules | `(tactic| walk_at "rd") => `(tactic| simp only [tYes, wipe, HO.lst.injEq, HO.tup.injEq, HO.dK.injEq, Nat.reduceAdd, Nat.reduceLeDiff, Nat.reduceSub, Int.reduceLE, Int.reduceLT, Int.reduceNeg, Nat.zero_add, Int.reduceEq, cut_head, cut_tail, cut_mid, cut_three, c_cast0, c_cast1, c_cast2, c_cast3, c_cast4, z_lit, List.getD_eq_getElem?_getD, Option.getD_some, tLc_eq, tFor_eq, cxOf, Cx.nox, Cx.wish, tSeq, tIfS, tOr, tAnd, tNot, tB, tCB, tCons, tVar, tC, tNil, tTest, tChain, rI0, rI, tOp, rIxS, rIxL, rIxT, tRet, tNext, tAsg, gName, tAndV, tOrV, tNotV, tIf, tIsN, tNotN, tCall, tDrop, tBM, tBM0, rEq, rNe, tRetN, tSl, tNoPart, tPart, tTupD, tLstD, tInD, rIsK, rLenS, rLenL, rLenT, rAllT, rAnyF, rInK, rInL, rSlLD, rSlTD, rSlS, rCatD, rCatTD, rAppD, rExtD, rPopD, rPopAtD, rListD, rTupleD, iLst, iTpl, iStr, rIxLH, rIxTH, gTupH, gLstH, gStar0, gStar1, gStar2, rSumH, rAddS2, tJoinS, tFmtS, tFmtI, tJoined, tJoined_nil, tJoined_cons, rIsG, app_empty, tFldD, sFldD, tMkD, tMoD, rIsC, rLenO, rEqO, HO.ins.injEq, exists_eq, tNilL, tML, tML0, tMS, iEnumH, tCallK, rStrI, tGetS, tGet1S, tGet2S, rListKD, tDc_eq, tLc2_eq, tKGet, gCons, gNil, tChain3, tPartD, tSplitD, tPar, New, Chg, rListTD, atI_0, atI_1, atI_2, atI_3, sign_inj, and_false, false_and, or_false, false_or, or_true, true_or, List.take_succ_cons, List.take_zero, List.drop_succ_cons, List.drop_zero, forall_const, exists_false, not_false_eq_true, not_true_eq_false, if_true, if_false, iRng1, KindV,
  L2.start, List.map_cons, List.map_nil, List.length_cons, List.length_nil, List.replicate, List.cons_append, List.nil_append, List.append_nil, List.set_cons_zero, List.set_cons_succ, List.getElem?_cons_zero, List.getElem?_cons_succ, Option.some.injEq, exists_eq_left', exists_eq_left, V.int.injEq, V.str.injEq, V.bl.injEq, V.ref.injEq, V.ty.injEq, true_and, and_true, List.cons.injEq, exists_and_left, exists_eq', and_assoc, scal, ofString_inj, String.reduceEq, reduceIte, decide_eq_true_eq, decide_eq_false_iff_not, Bool.not_true, Bool.not_false, Bool.not_eq_true', inV_cons, inV_nil, eqV_ss, eqV_ii, flatV, List.all_cons, List.all_nil, Bool.and_true, Bool.or_false, Bool.true_and, Bool.false_or, decide_true, decide_false, Bool.true_or, Bool.false_eq_true, reduceCtorEq, spLWhat, spBodyLines, spLLines, spLDText])
local macro_rules | `(tactic| walk_at "ra") => `(tactic| simp only [tYes, wipe, HO.lst.injEq, HO.tup.injEq, HO.dK.injEq, Nat.reduceAdd, Nat.reduceLeDiff, Nat.reduceSub, Int.reduceLE, Int.reduceLT, Int.reduceNeg, Nat.zero_add, Int.reduceEq, cut_head, cut_tail, cut_mid, cut_three, c_cast0, c_cast1, c_cast2, c_cast3, c_cast4, z_lit, List.getD_eq_getElem?_getD, Option.getD_some, tLc_eq, tFor_eq, cxOf, Cx.nox, Cx.wish, tSeq, tIfS, tOr, tAnd, tNot, tB, tCB, tCons, tVar, tC, tNil, tTest, tChain, rI0, rI, tOp, rIxS, rIxL, rIxT, tRet, tNext, tAsg, gName, tAndV, tOrV, tNotV, tIf, tIsN, tNotN, tCall, tDrop, tBM, tBM0, rEq, rNe, tRetN, tSl, tNoPart, tPart, tTupD, tLstD, tInD, rIsK, rLenS, rLenL, rLenT, rAllT, rAnyF, rInK, rInL, rSlLD, rSlTD, rSlS, rCatD, rCatTD, rAppD, rExtD, rPopD, rPopAtD, rListD, rTupleD, iLst, iTpl, iStr, rIxLH, rIxTH, gTupH, gLstH, gStar0, gStar1, gStar2, rSumH, rAddS2, tJoinS, tFmtS, tFmtI, tJoined, tJoined_nil, tJoined_cons, rIsG, app_empty, tFldD, sFldD, tMkD, tMoD, rIsC, rLenO, rEqO, HO.ins.injEq, exists_eq, tNilL, tML, tML0, tMS, iEnumH, tCallK, rStrI, tGetS, tGet1S, tGet2S, rListKD, tDc_eq, tLc2_eq, tKGet, gCons, gNil, tChain3, tPartD, tSplitD, tPar, New, Chg, rListTD, atI_0, atI_1, atI_2, atI_3, sign_inj, and_false, false_and, or_false, false_or, or_true, true_or, List.take_succ_cons, List.take_zero, List.drop_succ_cons, List.drop_zero, forall_const, exists_false, not_false_eq_true, not_true_eq_false, if_true, if_false, iRng1, KindV,
  L2.start, List.map_cons, List.map_nil, List.length_cons, List.length_nil, List.replicate, List.cons_append, List.nil_append, List.append_nil, List.set_cons_zero, List.set_cons_succ, List.getElem?_cons_zero, List.getElem?_cons_succ, Option.some.injEq, exists_eq_left', exists_eq_left, V.int.injEq, V.str.injEq, V.bl.injEq, V.ref.injEq, V.ty.injEq, true_and, and_true, List.cons.injEq, exists_and_left, exists_eq', and_assoc, scal, ofString_inj, String.reduceEq, reduceIte, decide_eq_true_eq, decide_eq_false_iff_not, Bool.not_true, Bool.not_false, Bool.not_eq_true', inV_cons, inV_nil, eqV_ss, eqV_ii, flatV, List.all_cons, List.all_nil, Bool.and_true, Bool.or_false, Bool.true_and, Bool.false_or, decide_true, decide_false, Bool.true_or, Bool.false_eq_true, reduceCtorEq, spLWhat, spBodyLines, spLLines, spLDText, *])

section
variable {P : Program} {w : World} {K : PySem.W.Frag} {mg : Str → Option Value} {base : Heap} {k : Nat}
theorem ok_law_lines (T : TX K mg) (D : DF K mg "_law_lines" s__law_lines ["_law_signals", "_law_blocks_here"] []) (G__law_what_text : FO P w K mg base "_law_what_text" k ["_law_row"] [] spLWhat)
    (G__law_body_lines : FO P w K mg base "_law_body_lines" k ["_law_body_here", "_law_ahead"] [] (spBodyLines 5)) : FO P w K mg base "_law_lines" (k + 1) ["_law_signals", "_law_blocks_here"] [] spLLines := by
  refine D.ok sc__law_lines (fun vs H Q E h => ?_) (fun fa cdv A outer s H vs Q E hr h => ?_)
  · obtain ⟨_, _, _, _, rfl, _⟩ := h
    rfl
  obtain ⟨sg, bl, a, b, rfl, ⟨xs, hx, hal⟩, ⟨ys, hy, hbl⟩, hv, q⟩ := h
  refine ⟨_, (pss_cons (ps_setLc (i := 2) (own := [("_law_row", 4)]) (tt := tYes) rfl sc__law_lines.nd rfl rfl (sw_true rfl rfl rfl (by decide +kernel)) (pi_lst (pv 0)) (blkOk_by (N := ["_law_signals", "_law_blocks_here", "_law_lines_here", "_law_block", "_law_row"]) (sc := defScope s__law_lines) (by decide +kernel)) (fun _ _ _ _ _ => (pg_name (i := 4) sc__law_lines.nd rfl (Or.inl rfl))) (fun _ _ _ _ _ => pts_nil) (fun _ _ _ _ _ => (pe_op op_addS2 (pe_joinS pe_str (pe_lstD (pa_cons (pe_ix ix_tpl (pv 4) pe_int (fun _ _ => rfl)) (pa_cons (pe_ix ix_tpl (pv 4) pe_int (fun _ _ => rfl)) (pa_cons (pe_callTy call_strI rfl T.str (by decide +kernel) (pa_cons (pe_ix ix_tpl (pv 4) pe_int (fun _ _ => rfl)) pa_nil)) pa_nil))))) (pe_fo G__law_what_text hr (pa_cons (pv 4) pa_nil)))))
    (pss_cons (ps_for PassesOwn.never rfl (pi_lst (pv 1)) (pg_name (i := 3) sc__law_lines.nd rfl (Or.inl rfl))
      (pss_cons (ps_expr (pe_bmL PySem.F.slot_list_append PySem.F.type_list_append mt_appD (pv 2) (pa_cons (pe_op op_addS2 pe_str (pe_joinS pe_str (pe_callTy call_listTD rfl T.list (by decide +kernel) (pa_cons (pe_slice sl_tupD (pv 3) po_none (po_some pe_int)) pa_nil)))) pa_nil)))
    (pss_one (ps_set (i := 2) sc__law_lines.nd rfl (Or.inl rfl) (pe_op op_catD (pv 2) (pe_fo G__law_body_lines hr (pa_cons (pe_ix ix_tpl (pv 3) pe_int (fun _ _ => rfl)) (pa_cons pe_str pa_nil))))))))
    (pss_one (ps_ret (pv 2))))), ?_⟩
  obtain ⟨hd1, hd2⟩ := dlines_len hv
  obtain ⟨f, hbk⟩ := hv.bk
  have hls := hv.ls
  have hlb := hv.lb
  have hlen := all2_len hal
  have hlenb := all2_len hbl
  have e1 : (Str.ofString " ").length = 1 := by decide +kernel
  have e2 : (Str.ofString "  ").length = 2 := by decide +kernel
  have e6 : (Str.ofString "block ").length = 6 := by decide +kernel
  refine seq_i fun M hM => ?_
  walk_at "rd"
  refine ⟨_, hx, ?_⟩
  refine lc_map (wk_lst (xs := xs)) (fun H s => s _ _ hx) (fun i y H => ∃ s, sg[i]? = some s ∧ y = .str (sline s)) (by omega) (fun _ _ _ _ r _ => r) (fun i H2 Ky hi s2 ky => ?_) (fun Dl zs H2 s2 hDl hl2 hly hz => ?_) mg_name
  · have hget : xs[i]? = some (xs.getD i .non) := by simp [hi]
    obtain ⟨s', hs', b', v', e, hb', hw'⟩ := all2_at hal hget
    have hmem := List.mem_of_getElem? hs'
    rw [e]
    have hb2 := s2 _ _ hb'
    have h1 := sort_len s'
    have h2 : s'.name.length ≤ 8 := by rw [len_tl]; exact (hv.nm s' hmem).1.l8
    have h3 := (hv.nm s' hmem).2
    have h4 := whatTx_len (hv.wh s' hmem)
    have hfig := str_fig (n := s'.wd) (by omega)
    walk_at "ra"
    have ej : Str.join (Str.ofString " ") [s'.sort, s'.name, figS s'.wd] = s'.sort ++ Str.ofString " " ++ s'.name ++ Str.ofString " " ++ figS s'.wd := by
      show s'.sort ++ Str.ofString " " ++ (s'.name ++ Str.ofString " " ++ figS s'.wd) = _
      simp only [app_assoc]
    refine ⟨by omega, fun p3 H3 hp3 s3 hl3 => ⟨[s'.sort, s'.name, figS s'.wd], hl3, ?_, GW sg, s', ⟨b', v', rfl, s3 _ _ hb2, RW.tk (same_tk (s2.trans s3)) hw'⟩, hv.rng, hv.wh s' hmem, fun H4 s4 => ⟨?_, ky _ _ (s3.trans s4) ⟨s', hs', ?_⟩⟩⟩⟩
    · simp only [List.map_cons, List.map_nil, List.sum_cons, List.sum_nil, List.length_cons, List.length_nil, slen_fig]
      omega
    · rw [ej]
      simp only [slen_app, slen_fig]
      omega
    · rw [ej]
      rfl
  · have ey := map_of (f := fun s => V.str (sline s)) (hly.trans hlen.symm) hz
    have em : (sg.map fun s => V.str (sline s)) = (sg.map sline ++ (bl.take 0).flatMap klines).map V.str := by
      rw [List.take_zero, List.flatMap_nil, List.append_nil, List.map_map]; rfl
    rw [ey, em] at hl2
    subst hM
    refine seq_i fun M hM => ?_
    walk_at "rd"
    refine ⟨_, s2 _ _ hy, ?_⟩
    obtain ⟨Pv, hP⟩ : ∃ Pv : Nat → St → Hp → Prop, ∀ i σ H', Pv i σ H' ↔ ∃ pc o3, σ = [some (V.ref a), some (V.ref b), some (V.ref pc), o3, none] ∧ Same H H' ∧ H pc = none ∧ H' pc = some (.lst ((sg.map sline ++ (bl.take i).flatMap klines).map V.str)) := ⟨_, fun _ _ _ => Iff.rfl⟩
    refine for_gen (wk_lst (xs := ys)) Pv ((hP _ _ _).mpr ⟨Dl, none, rfl, s2, hDl, hl2⟩) (fun i σ H3 _ z => ?_) (fun i σ H3 hi z => ?_) (fun σ H3 z => ?_)
    · obtain ⟨_, _, _, s3, _⟩ := (hP _ _ _).mp z
      exact s3 _ _ hy
    · obtain ⟨pc, o3, rfl, s3, hpc, hl3⟩ := (hP _ _ _).mp z
      have hget : ys[i]? = some (ys.getD i .non) := by simp [hi]
      obtain ⟨b', hb', ax, vb, e, hax, pb, zs, rfl, hpb, hzs⟩ := all2_at hbl hget
      have hmem := List.mem_of_getElem? hb'
      have hok := hbk b' hmem
      rw [e]
      have hax3 := s3 _ _ hax
      obtain ⟨kl1, kl2, kl3⟩ := klines_len hv hok
      have n1 : b'.name.length ≤ 8 := by rw [len_tl]; exact hok.nm.l8
      have n2 : b'.edge.length ≤ 4 := by rcases hok.ed with e | e <;> rw [e] <;> decide +kernel
      have n3 : b'.trig.length ≤ 8 := by
        obtain ⟨s, hs, e, _⟩ := hok.tr
        rw [← e, len_tl]
        exact (hv.nm s hs).1.l8
      have hpre : (sg.map sline ++ (bl.take i).flatMap klines).length ≤ 300 := by
        refine Nat.le_trans ?_ hd1
        unfold dlines
        rw [List.length_append, List.length_append]
        have : ((bl.take i).flatMap klines).length ≤ (bl.flatMap klines).length := by
          conv => rhs; rw [← List.take_append_drop i bl]
          rw [List.flatMap_append, List.length_append]
          omega
        omega
      have hPi := fun i σ H' => (hP i σ H').mpr
      clear hP
      walk_at "ra"
      have ej : Str.join (Str.ofString " ") [b'.name, b'.edge, b'.trig] = b'.name ++ Str.ofString " " ++ b'.edge ++ Str.ofString " " ++ b'.trig := by
        show b'.name ++ Str.ofString " " ++ (b'.edge ++ Str.ofString " " ++ b'.trig) = _
        simp only [app_assoc]
      have hdp := hok.dp
      have hwt := hok.wt
      have hbl2 := blines_len b'.body ("  " : Str)
      refine ⟨by decide, fun p4 H4 hp4 s4 hl4 => ⟨_, hl4, fun p5 H5 hp5 s5 hl5 => ⟨[b'.name, b'.edge, b'.trig], hl5, ?_, ?_, _, s5 _ _ (s4 _ _ hl3), by rw [List.length_map]; omega, fun H6 b6 hl6 => ?_⟩⟩⟩
      · simp only [List.map_cons, List.map_nil, List.sum_cons, List.sum_nil, List.length_cons, List.length_nil]
        omega
      · rw [ej]
        simp only [slen_app]
        omega
      have s06 : Same H H6 := same_but ((s3.trans s4).trans s5) hpc b6
      refine ⟨_, s06 _ _ hax, _, rfl, GW sg, GK sg, f, b'.body, pb, rfl, zs, s06 _ _ hpb, RBl.tk (same_tk s06) _ _ hzs, hv.rng, hv.kp, hok.bd, by omega, by omega, by omega, fun p7 H7 hp7 s7 hl7 => ⟨_, s7 _ _ hl6, _, hl7, ?_, fun p8 H8 hp8 s8 hl8 => hPi _ _ _ ⟨p8, _, rfl, (s06.trans s7).trans s8, (s06.trans s7).free hp8, ?_⟩⟩⟩
      · simp only [List.length_append, List.length_map, List.length_cons, List.length_nil] at hpre ⊢
        omega
      · rw [hl8, take_snoc hb', List.flatMap_append, ej]
        simp [klines, khead, app_assoc]
    · obtain ⟨pc, o3, rfl, s3, hpc, hl3⟩ := (hP _ _ _).mp z
      show M _ _
      subst hM
      walk_at "rd"
      rw [← hlenb, List.take_length] at hl3
      exact q _ _ hpc s3 hl3
theorem ok_law_design_text (T : TX K mg) (D : DF K mg "_law_design_text" s__law_design_text ["_law_signals", "_law_blocks_here"] []) (G__law_lines : FO P w K mg base "_law_lines" k ["_law_signals", "_law_blocks_here"] [] spLLines) :
    FO P w K mg base "_law_design_text" (k + 1) ["_law_signals", "_law_blocks_here"] [] spLDText := by
  refine D.ok sc__law_design_text (fun vs H Q E h => ?_) (fun fa cdv A outer s H vs Q E hr h => ?_)
  · obtain ⟨_, _, _, _, rfl, _⟩ := h
    rfl
  obtain ⟨sg, bl, a, b, rfl, hA, hB, hv, q⟩ := h
  refine ⟨_, (pss_one (ps_ret (pe_joinS pe_str (pe_lc (own := [("_law_line", 2)]) (tt := tYes) rfl sc__law_design_text.nd (pi_lst (pe_fo G__law_lines hr (pa_cons (pv 0) (pa_cons (pv 1) pa_nil)))) (blkOk_by (N := ["_law_signals", "_law_blocks_here", "_law_line"]) (sc := defScope s__law_design_text) (by decide +kernel)) (fun _ _ _ _ _ => (pg_name (i := 2) sc__law_design_text.nd rfl (Or.inl rfl))) (fun _ _ _ _ _ => pts_nil) (fun _ _ _ _ _ => (pe_op op_addS2 (pv 2) pe_str)))))), ?_⟩
  obtain ⟨hd1, hd2⟩ := dlines_len hv
  have hdt := dtext_len hv
  have e0 : (Str.ofString "\n").length = 1 := by decide +kernel
  walk_at "rd"
  refine ⟨sg, hA, bl, hB, hv, fun p1 H1 hp1 s1 hl1 => ⟨_, hl1, ?_⟩⟩
  refine lc_map (wk_lst (xs := (dlines sg bl).map V.str)) (fun H s => s _ _ hl1) (fun i y H => ∃ l, (dlines sg bl)[i]? = some l ∧ y = .str (l ++ ("\n" : Str))) (by rw [List.length_map]; omega) (fun _ _ _ _ r _ => r) (fun i H5 Ky hi s5 ky => ?_) (fun D2 zs H5 s5 hD2 hl5 hlz hz => ?_) mg_name
  · rw [List.length_map] at hi
    have hget : ((dlines sg bl).map V.str).getD i .non = .str (dlines sg bl)[i] := by simp [hi]
    rw [hget]
    have := hd2 _ (List.getElem_mem hi)
    walk_at "rd"
    exact ⟨by omega, ky _ _ (Same.refl _) ⟨_, List.getElem?_eq_getElem hi, rfl⟩⟩
  · have ey := map_of (f := fun l => V.str (l ++ ("\n" : Str))) (hlz.trans (List.length_map _)) hz
    have em : ((dlines sg bl).map fun l => V.str (l ++ ("\n" : Str))) = ((dlines sg bl).map fun l => l ++ ("\n" : Str)).map V.str := by rw [List.map_map]; rfl
    rw [ey, em] at hl5
    have hsum := sum_len (ys := (dlines sg bl).map fun l => l ++ ("\n" : Str)) (m := 8201) fun y hy => by
      obtain ⟨l, hl, rfl⟩ := List.mem_map.mp hy
      have := hd2 l hl
      rw [slen_app, e0]
      omega
    rw [List.length_map] at hsum
    have h4 : (dlines sg bl).length * 8201 ≤ 3000000 := by omega
    have hq := q _ (s1.trans s5)
    unfold dtext at hq
    rw [join_eq] at hq
    have ee : (Str.ofString "").length = 0 := by decide +kernel
    exact ⟨D2, rfl, _, hl5, by rw [ee]; omega, hq⟩
end
end K37
set_option maxHeartbeats 4000000
/-! K37M: slices with a step, zip; defs that are entered where no repr is under way -/
namespace K37
open PySem L2 TL
open PyProof.Rows hiding St
/-! ### every second item from a place on -/
def pickL {α : Type} (xs : List α) (c m : Int) : List α := (sliceRange (sliceBounds (some c) none (some m) xs.length).1 (sliceBounds (some c) none (some m) xs.length).2.1 (sliceBounds (some c) none (some m) xs.length).2.2).filterMap (xs[·]?)
theorem pair_pick {α β : Type} {F : α → β → Prop} {l : List α} {xs : List β} (h : Paired F l xs) : ∀ is : List Nat, Paired F (is.filterMap (l[·]?)) (is.filterMap (xs[·]?))
  | [] => .nil
  | i :: r => by
    have key : (l[i]? = none ∧ xs[i]? = none) ∨ ∃ a b, l[i]? = some a ∧ xs[i]? = some b ∧ F a b := by
      clear r
      induction h generalizing i with
      | nil => exact .inl ⟨rfl, rfl⟩
      | cons q _ ih => cases i with
        | zero => exact .inr ⟨_, _, rfl, rfl, q⟩
        | succ i => simpa using ih i
    rcases key with ⟨h1, h2⟩ | ⟨a, b, h1, h2, q⟩
    · rw [List.filterMap_cons_none h1, List.filterMap_cons_none h2]
      exact pair_pick h r
    · rw [List.filterMap_cons_some h1, List.filterMap_cons_some h2]
      exact .cons q (pair_pick h r)
theorem pair_pickL {α β : Type} {F : α → β → Prop} {l : List α} {xs : List β} (h : Paired F l xs) {c m : Int} : Paired F (pickL l c m) (pickL xs c m) := by
  unfold pickL
  rw [Paired.length h]
  exact pair_pick h _
def tStepL (c m : Int) (te : TE) : TE := fun σ H Q => te σ H fun x H1 => ∃ a xs, x = .ref a ∧ H1 a = some (.lst xs) ∧ (pickL xs c m).length ≤ 1000000 ∧ New (.lst (pickL xs c m)) H1 Q
section
variable {X : Cx} {e : Expr} {te : TE}
theorem pe_step {c m : Int} {j0 j1 : Nat} {p0 p1 p3 pos : Pos} (he : PE X e te) (h0 : m ≠ 0) : PE X (.Subscript e (.Slice (some (.Constant (.int c) j0 p0)) none (some (.Constant (.int m) j1 p1)) p3) pos) (tStepL c m te) := by
  constructor
  intro pins s σ H Q I h
  refine Subscript_ (thn (he.run pins s σ H _ I h) ?_)
  rintro v s1 ⟨x, H1, I1, r1, a, xs, rfl, hx, hz, q⟩
  cases r1
  have lit : ∀ (i : Int) (j : Nat) (p : Pos), PO X (some (.Constant (.int i) j p)) (tPart (tC (.int i))) := fun i j p => po_some pe_int
  refine wpAny_Slice (thn ((lit c j0 p0).run pins s1 σ H1 (fun o H2 => o = some c ∧ H2 = H1) I1 ⟨c, rfl, rfl, rfl⟩) ?_)
  rintro vl s2 ⟨l, H2, I2, pl, rfl, rfl⟩
  refine thn (po_none.run pins s2 σ H2 (fun o H3 => o = none ∧ H3 = H2) I2 ⟨rfl, rfl⟩) ?_
  rintro vu s3 ⟨u, H3, I3, pu, rfl, rfl⟩
  refine thn ((lit m j1 p1).run pins s3 σ H3 (fun o H4 => o = some m ∧ H4 = H3) I3 ⟨m, rfl, rfl, rfl⟩) ?_
  rintro vs s4 ⟨o, H4, I4, ps, rfl, rfl⟩
  have keep : ∀ b ob, s4.heap.get? b = some ob → (s4.heap.push { cls := .type "slice", data := .fields #[vl, vu, vs] }).get? b = some ob := fun b ob q => Heap.get?_push_of_some _ q
  have I5 := I4.kept (t' := s4.toks) keep
  obtain ⟨its, r, ht, hzi⟩ := I5.list (SqL.of hx)
  have hlen := r.length
  have e5 : slicePick its.toArray (some c) none (some m) = (pickL its c m).toArray := by
    unfold slicePick pickL
    rw [List.size_toArray]
    simp only [List.getElem?_toArray]
  have rp : Vals (pickL xs c m) (pickL its c m) := pair_pickL r
  refine tail_any (ops := [.ref a, .ref s4.heap.objs.size]) ht.isList.typeIs (PySem.slot_list_getitem.lookup) ?_ (by with_unfolding_all rfl)
  have hsz : its.toArray.size ≤ sizeLine := by
    rw [List.size_toArray, ← hlen]
    exact hzi
  refine wpAny_getItem_list_slice ht.isList (Heap.IsSliceOf.new _ vl vu vs) pl pu ps (fun z => h0 (Option.some.inj z)) ?_ hsz
  rw [e5]
  refine ⟨.ref _, _, I5.laid (t' := s4.toks) (o := .lst (pickL xs c m)) (fun b ob q => Heap.get?_push_of_some _ q) (Nat.le_refl _) ⟨size_of hz, pickL its c m, 0, rp, Heap.get?_push_size _ rfl⟩, rfl, ?_⟩
  exact q.at _ (I5.hok.fresh (Nat.le_refl _))
end
/-! ### zip -/
def iZipH (K : PySem.W.Frag) (ta : TA) : TI := fun σ H R => ta σ H fun vs H1 => ∃ a b xs ys, vs = [.ref a, .ref b] ∧ H1 a = some (.lst xs) ∧ H1 b = some (.lst ys) ∧ R (Itz K a b) H1
section
variable {X : Cx} {e e2 : Expr} {ta : TA} {p pos tpos : Pos} {elts : List Expr} {kk : Nat}
theorem pi_zipD (hg : Gl X "zip") (hm : X.mg "zip" = none) (ha : PA X [e, e2] ta)
    (hs : starEach [e, e2] X.env = (false, eval e X.env) :: starEach [e2] X.env := by rfl) (hpl : (backTo pos (starEach [e2] X.env)).any (·.1) = false := by rfl) : PI X (.Tuple elts kk tpos) (.Call (.Name "zip" p) [e, e2] [] pos) (iZipH X.K ta) :=
  PI.imp (pi_zip hg hm (pa_up ha) hs hpl) fun σ H R q => ⟨_, fun vs H1 z => by
    obtain ⟨a, b, xs, ys, e, h1, h2, r⟩ := z
    exact ⟨a, b, xs, ys, e, SqL.of h1, SqL.of h2, r⟩, q⟩
end
section
variable {K : PySem.W.Frag} {a b : Addr} {xs ys : List V} {g : TG} {te : TE} {vs : List Nat} {σ : St} {H1 : Hp} {Q : VK}
theorem lc_zip (hx : H1 a = some (.lst xs)) (hy : H1 b = some (.lst ys)) (n : Nat) (hnx : n ≤ xs.length) (hny : n ≤ ys.length) (hn : xs.length ≤ n ∨ ys.length ≤ n) (hz : n ≤ 1000000) (U : Nat → List V → Hp → Prop) (hl : ∀ i acc H, U i acc H → acc.length = i)
    (mono : ∀ i acc H H', U i acc H → Tk H H' → U i acc H') (h0 : ∀ H, Same H1 H → U 0 [] H)
    (hs : ∀ i acc H T x y H' (Ky : VK) (Kn : Hp → Prop), i < n → xs[i]? = some x → ys[i]? = some y → Same H1 H → U i acc H → Same H H' → H' T = some (.tup [x, y]) → (∀ z H'', Same H' H'' → U (i + 1) (acc ++ [z]) H'' → Ky z H'') →
      g (.ref T) (wipe σ vs) H' fun σ2 H2 => wipe σ2 vs = wipe σ vs ∧ tYes σ2 H2 fun b H3 => if b = true then te σ2 H3 Ky else Kn H3)
    (hd : ∀ D acc H, Same H1 H → H1 D = none → H D = some (.lst acc) → U n acc H → Q (.ref D) H) : LcOk (Itz K a b) g tYes te vs σ H1 Q := by
  intro D hD
  refine ⟨fun i m H => i + m = n ∧ Same H1 H ∧ ∃ acc, H D = some (.lst acc) ∧ U i acc H, ⟨n, Nat.zero_add n, same_new hD, [], upd_same, h0 _ (same_new hD)⟩, ?_⟩
  rintro i m H ⟨hm, hs1, acc, hDa, u⟩
  have hxH := SqL.of (K := K) (hs1 _ _ hx)
  have hyH := SqL.of (K := K) (hs1 _ _ hy)
  by_cases hlt : i < n
  · have ex : xs[i]? = some xs[i] := List.getElem?_eq_getElem (by omega)
    have ey : ys[i]? = some ys[i] := List.getElem?_eq_getElem (by omega)
    refine .inr ⟨⟨xs, ys, _, _, hxH, hyH, ex, ey⟩, fun H' => Same H1 H' ∧ ∃ acc, H' D = some (.lst acc) ∧ U (i + 1) acc H', fun H' q => ⟨n - (i + 1), by omega, by omega, q⟩, ?_⟩
    rintro x H' ⟨T, x, y, rfl, hT, rfl, h1, h2⟩
    have k := hs i acc H T x y _ (fun y H4 => ∃ acc, H4 D = some (.lst acc) ∧ acc.length < sizeLine ∧ (Same H1 (upd H4 D (.lst (acc ++ [y]))) ∧ ∃ acc2, (upd H4 D (.lst (acc ++ [y]))) D = some (.lst acc2) ∧ U (i + 1) acc2 (upd H4 D (.lst (acc ++ [y])))))
      (fun H' => Same H1 H' ∧ ∃ acc, H' D = some (.lst acc) ∧ U (i + 1) acc H') hlt (h1 _ hxH) (h2 _ hyH) hs1 u (same_new (o := .tup [x, y]) hT) upd_same
    refine k fun y4 H4 s4 u4 => ?_
    have hDa4 := s4 _ _ (same_new (o := .tup [x, y]) hT _ _ hDa)
    refine ⟨acc, hDa4, ?_, same_mut ((hs1.trans (same_new hT)).trans s4) hD, _, upd_same, mono _ _ _ _ u4 (tk_upd hDa4)⟩
    have := hl _ _ _ u
    rw [sizeLine_eq]
    omega
  · have e : i = n := by omega
    subst e
    refine .inl ⟨⟨xs, ys, hxH, hyH, hn⟩, hd D acc H hs1 hD hDa u⟩
end
end K37
set_option maxHeartbeats 4000000
/-! K37N: defs whose promise holds where no repr is under way; repr of what is read as data; the law's call -/
namespace K37
open PySem L2 TL
open PyProof.Rows hiding St
/-- the promise, asked only where no guard is up -/
structure FnG (P : Program) (w : World) (K : PySem.W.Frag) (mg : Str → Option Value) (base : Heap) (k : Nat) (f : Addr) (fd : FuncData) (ps : List Str) (sp : Sp) : Prop where
  lenG : ∀ vs H Q E, sp vs H Q E → vs.length = ps.length
  runG : ∀ (A : Around) (outer : List Env) (s : Shared) (H : Hp) (args : Args) (us : List Value) (vs : List V) (Q : VK) (E : XK), A.guards = some [] → Room k A → Env0 P w K mg base A outer s H → BindsTo s fd args (ps.zip us) → Vals vs us → sp vs H Q E →
    codeAny (model P w) A (.call (.ref f) args) (CR CX0 outer P w H s Q E) s
structure FG (P : Program) (w : World) (K : PySem.W.Frag) (mg : Str → Option Value) (base : Heap) (x : Str) (k : Nat) (ps : List Str) (sp : Sp) : Prop where
  ex : ∃ (f : Addr) (fd : FuncData), mg x = some (.ref f) ∧ PySem.W.keepIn K (.ref f) = true ∧ Binds K fd ps [] ∧ (∃ oc od osl, K.lookup f = some ⟨oc, od, .func fd, osl⟩) ∧ FnG P w K mg base k f fd ps sp
section
variable {P : Program} {w : World} {K : PySem.W.Frag} {mg : Str → Option Value} {base : Heap} {x : Str} {st : Stmt} {N ps : List Str} {k : Nat} {sp : Sp}
theorem FnG.of {f : Addr} {fd : FuncData} {d0 : List V} {k0 : List (Str × V)} (F : FunD K x x (defArgs st) (defBody st) (defScope st) d0 k0 f fd) (S : FnScope N ps (defScope st)) (len : ∀ vs H Q E, sp vs H Q E → vs.length = ps.length)
    (body : ∀ (cdv : Value) (A : Around) (outer : List Env) (s : Shared) (H : Hp) (vs : List V) (Q : VK) (E : XK), A.guards = some [] → Room k (A.deeper (envOfC x (defScope st) s.heap.objs.size f cdv)) → sp vs H Q E →
      ∃ t, PSs (cxOf CX0 P w K mg base N x (defScope st) f cdv A outer s H E).nox (defBody st) t ∧ t { nx := fun _ H' => Q .non H', rt := Q } (start N vs) H) : FnG P w K mg base (k + 1) f fd ps sp := by
  obtain ⟨oc, od, dV, kV, doc, pm, an, cdv, ct, osl, rfl, lk, hcd, _, _⟩ := F.ex
  constructor
  · exact len
  intro A outer s H args us vs Q E hg hr e0 hb r hsp
  have sub := fun b o e => (e0.bs b o e).1
  have inS : K.In s.heap := e0.mod.kin.keeps sub
  refine codeAny_call_function hr.depth (inS _ _ lk) rfl S.co S.gen rfl (PySem.W.codeRec_of inS hcd) (hb _ _ _ _ ?_)
  have loc : ∀ y ∈ ps.zip us, (defScope st).names.lookup y.1 = some .local ∨ ((defScope st).names.lookup y.1 = some .cell ∧ ((cellsFrom (s.heap.objs.size + 1) (defScope st).names []).lookup y.1).isSome = true) := by
    rintro ⟨n, v⟩ hy
    exact (S.par n (List.of_mem_zip hy).1).imp id fun q => ⟨q, PySem.W.cellsFrom_some _ _ _ (.inl q)⟩
  refine wpAny_newFunctionEnv_cells S.kind loc ?_
  rintro env he s1 x1
  subst he
  refine ⟨(e0.mod.nolimit.keeps sub).keeps x1.toInCall.keep, codeAny_func ?_⟩
  obtain ⟨t, ht, hq⟩ := body cdv A outer s H vs Q E hg (hr.deeper _) hsp
  refine wpAny_mono (ht.nox.run [] s1 (start N vs) H _ (inv_start S hr.hd e0 (len _ _ _ _ hsp) r x1) hq) ?_ (fun _ _ z => z)
  rintro (_ | _ | _ | u) s' z
  · obtain ⟨σ', H', J, q⟩ := z
    exact ⟨.non, H', J.os, J.bare, J.base, J.hok, rfl, q⟩
  · obtain ⟨_, _, _, q⟩ := z
    exact q.elim
  · obtain ⟨_, _, _, q⟩ := z
    exact q.elim
  · obtain ⟨v, σ', H', J, rv, q⟩ := z
    exact ⟨v, H', J.os, J.bare, J.base, J.hok, rv, q⟩
theorem DF.okG (D : DF K mg x st ps []) (S : FnScope N ps (defScope st)) (len : ∀ vs H Q E, sp vs H Q E → vs.length = ps.length)
    (body : ∀ (f : Addr) (cdv : Value) (A : Around) (outer : List Env) (s : Shared) (H : Hp) (vs : List V) (Q : VK) (E : XK), A.guards = some [] → Room k (A.deeper (envOfC x (defScope st) s.heap.objs.size f cdv)) → sp vs H Q E →
      ∃ t, PSs (cxOf CX0 P w K mg base N x (defScope st) f cdv A outer s H E).nox (defBody st) t ∧ t { nx := fun _ H' => Q .non H', rt := Q } (start N vs) H) : FG P w K mg base x (k + 1) ps sp := by
  obtain ⟨f, fd, ds, d0, k0, a, b, c, d⟩ := D.ex
  cases d
  have lk : ∃ oc od osl, K.lookup f = some ⟨oc, od, .func fd, osl⟩ := by
    obtain ⟨oc, od, _, _, _, _, _, _, _, osl, _, lk, _⟩ := a.ex
    exact ⟨oc, od, osl, lk⟩
  exact ⟨f, fd, b, a.kp, c, lk, FnG.of a S len fun cdv => body f cdv⟩
theorem FG.up {j : Nat} (F : FG P w K mg base x k ps sp) (h : k ≤ j) : FG P w K mg base x j ps sp := by
  obtain ⟨f, fd, a, b, c, lk, F⟩ := F.ex
  exact ⟨f, fd, a, b, c, lk, F.lenG, fun A outer s H args us vs Q E hg hr => F.runG A outer s H args us vs Q E hg (hr.mono h)⟩
end
section
variable {X : Cx} {x : Str} {k : Nat} {ps : List Str} {sp : Sp} {p pos : Pos} {e : Expr} {es : List Expr} {t : TA}
theorem pe_fg (F : FG X.prog X.w X.K X.mg X.base x k ps sp) (hu : X.A.guards = some []) (hr : Room k X.A) (ha : PA X (e :: es) t) (hg : Gl X x := by rfl) (hdb : (x == ("__debug__" : Str)) = false := by decide)
    (he : starEach (e :: es) X.env = (false, eval e X.env) :: starEach es X.env := by rfl) (hpl : (backTo pos (starEach es X.env)).any (·.1) = false := by rfl) : PE X (.Call (.Name x p) (e :: es) [] pos) (tCall sp [] E0 t) := by
  obtain ⟨f, fd, hm, hk, hb, _, F⟩ := F.ex
  constructor
  intro pins s σ H Q I h
  refine wpAny_Call_Name_kw (ld_glob I hg hm (PySem.W.callWith_K (h₀ := X.base) I.ok.mod.kin hk (thn (ha.run pos pins s σ H _ I h) ?_) he hpl) hdb)
  rintro us s1 ⟨vs, H1, I1, r, q⟩
  refine ⟨I1.kIn, ?_⟩
  have q0 : sp vs H1 Q E0 := by
    have z := q
    rw [List.append_nil] at z
    exact z
  have hl : us.length = ps.length := by rw [← r.length]; exact F.lenG _ _ _ _ q0
  have hbd := hb s1 us I1.kIn (by rw [List.append_nil]; exact hl)
  rw [List.append_nil] at hbd
  refine wpAny_call (codeAny_mono (F.runG X.A X.stack s1 H1 ⟨us, []⟩ us vs Q E0 hu hr I1.env0 hbd r q0) ?_)
  rintro (e | _ | _ | _ | u) s' z
  · exact pass0 pins σ H1 s1 e s' I1 z
  · exact False.elim z
  · exact False.elim z
  · exact False.elim z
  · exact I1.after z
/-! ### repr -/
def rReprD (K : PySem.W.Frag) : List V → Hp → VK → Prop := fun xs H Q => ∃ a d, xs = [.ref a] ∧ Dp K H (.ref a) d ∧ SeqAt.shaped d = true ∧ d.showable = true ∧ d.hasDict = false ∧ d.shown.length ≤ 10000000 ∧ Q (.str d.shown) H
theorem call_reprD (hu : X.A.guards = some []) (hun : X.A.units + 70 < cLine) : CallR X (.builtin "repr") (rReprD X.K) := by
  intro pins s σ H xs us Q I r h
  obtain ⟨a, d, rfl, hd, hs, hsh, hnd, hlen, q⟩ := h
  obtain ⟨u, rfl, ru⟩ := vals1 r
  cases ru
  obtain ⟨as, rd⟩ := Dp.reads I d (.ref a) (.ref a) hd rfl
  have hdep : d.depth ≤ 64 := by
    unfold SeqAt.shaped at hs
    simp only [Bool.and_eq_true, decide_eq_true_eq] at hs
    exact hs.2
  refine repr_of_reads' rd hsh (fun z => by rw [hnd] at z; cases z) hu (by omega) (fun b o e => e) (fun h' u tk hk => ?_) (by rw [sizeLine_eq]; omega)
  exact ⟨.str d.shown, H, I.kept (t' := tk) hk, ⟨_, rfl⟩, q⟩
end
end K37
set_option maxHeartbeats 4000000
/-! K37O: how long what repr tells of a design's lists may be -/
namespace K37
open PySem L2 TL
open PyProof.Rows hiding St
def S (xs : List PyData) : Nat := ((PyData.shownAll xs).map (·.length)).sum
theorem S_nil : S [] = 0 := rfl
theorem S_cons (x : PyData) (r : List PyData) : S (x :: r) = (PyData.shown x).length + S r := by
  unfold S
  rw [PyData.shownAll, List.map_cons, List.sum_cons]
theorem shownAll_len : ∀ xs : List PyData, (PyData.shownAll xs).length = xs.length
  | [] => rfl
  | x :: r => by rw [PyData.shownAll, List.length_cons, List.length_cons, shownAll_len r]
theorem textFrom_le : ∀ (ts : List Str) (k : Nat) (acc : Str), (textFrom k acc ts).length ≤ acc.length + ((ts.map (·.length)).sum + 2 * ts.length)
  | [], k, acc => Nat.le_add_right _ _
  | t :: r, k, acc => by
    have ih := textFrom_le r (k + 1) (acc ++ (if k > 0 then ", " else "" : String) ++ t)
    have e : textFrom k acc (t :: r) = textFrom (k + 1) (acc ++ (if k > 0 then ", " else "" : String) ++ t) r := rfl
    have e2 : (Str.ofString (if k > 0 then ", " else "" : String)).length ≤ 2 := by
      split <;> decide +kernel
    rw [e]
    rw [slen_app, slen_app] at ih
    rw [List.map_cons, List.sum_cons, List.length_cons]
    omega
theorem sh_list (xs : List PyData) : (PyData.shown (.list xs)).length ≤ S xs + 2 * xs.length + 2 := by
  rw [PyData.shown]
  have h := textFrom_le (PyData.shownAll xs) 0 "["
  have e : (listText (PyData.shownAll xs)).length = (textFrom 0 "[" (PyData.shownAll xs)).length + 1 := by
    show (textFrom 0 "[" (PyData.shownAll xs) ++ Str.ofString "]").length = _
    rw [slen_app]
    rfl
  rw [shownAll_len] at h
  have e1 : (Str.ofString "[").length = 1 := by decide +kernel
  rw [e]
  show _ ≤ ((PyData.shownAll xs).map (·.length)).sum + _ + _
  omega
theorem sh_tup (xs : List PyData) : (PyData.shown (.tuple xs)).length ≤ S xs + 2 * xs.length + 3 := by
  rw [PyData.shown]
  have h := join_len (y := Str.ofString ", ") (PyData.shownAll xs)
  have e1 : (Str.ofString "(").length = 1 := by decide +kernel
  have e2 : (Str.ofString (if (PyData.shownAll xs).length == 1 then ",)" else ")" : String)).length ≤ 2 := by
    split <;> decide +kernel
  have e3 : (Str.ofString ", ").length = 2 := by decide +kernel
  have e : (tupleText (PyData.shownAll xs)).length = 1 + (Str.join (Str.ofString ", ") (PyData.shownAll xs)).length + (Str.ofString (if (PyData.shownAll xs).length == 1 then ",)" else ")" : String)).length := by
    show (Str.ofString "(" ++ Str.join (Str.ofString ", ") (PyData.shownAll xs) ++ Str.ofString _).length = _
    rw [slen_app, slen_app, e1]
  rw [shownAll_len, e3] at h
  rw [e]
  show _ ≤ ((PyData.shownAll xs).map (·.length)).sum + _ + _
  omega
theorem sh_str {x : Str} {n : Nat} (h : asc x) (hn : x.length ≤ n) : (PyData.shown (.str x)).length ≤ 10 * n + 2 := by
  rw [PyData.shown]
  have := StrLaws.reprText_len x fun c hc => Nat.lt_trans (h c hc) (by decide)
  omega
theorem sh_fig {n : Nat} (h : n < 10) : (PyData.shown (.int (n : Int))).length = 1 := by
  rw [PyData.shown]
  have e := str_fig h
  show (Str.ofString (toString (n : Int))).length = 1
  rw [e, slen_fig]
theorem sb_fig {n : Nat} (h : n < 10) : PyData.showable (.int (n : Int)) = true := by
  rw [PyData.showable, decide_eq_true_eq]
  exact log_small (by omega)
theorem wd_asc {w : Str} (h : w ∈ (["is", "of", "not", "and", "or", "xor", "plus", "same", "less", "any", "all", "pick", "join", "part", "if", "now", "later", "rise", "fall", "input", "kept", "wire", "filter", "bus"] : List Str)) : (PyData.shown (.str w)).length ≤ 62 := by
  have hl : ∀ w ∈ (["is", "of", "not", "and", "or", "xor", "plus", "same", "less", "any", "all", "pick", "join", "part", "if", "now", "later", "rise", "fall", "input", "kept", "wire", "filter", "bus"] : List Str), w.length ≤ 6 := by decide +kernel
  exact sh_str (asc_words w h) (hl w h)
theorem name_sh {n : Str} (h : NameOk n) : (PyData.shown (.str n)).length ≤ 82 := sh_str (asc_name h) (by rw [len_tl]; exact h.l8)
theorem val_sh {v : Str} {k : Nat} (h : ValOk v k) : (PyData.shown (.str v)).length ≤ 82 := sh_str (asc_val h) (by rw [len_tl, h.len]; exact h.l8)
theorem tD_sh {G : Str → Nat → Prop} (hG : Rng G) : ∀ (t : Tm) (k : Nat), Fit G t k → (PyData.shown (tD t)).length ≤ 200 * wt t
  | .is v, k, q => by
    have h1 := sh_tup [.str ("is" : Str), .str v]
    have h2 := wd_asc (w := "is") (by simp)
    have h3 := val_sh q
    simp only [S_cons, S_nil, List.length_cons, List.length_nil] at h1
    simp only [tD, wt]
    omega
  | .of v, k, q => by
    have h1 := sh_tup [.str ("of" : Str), .str v]
    have h2 := wd_asc (w := "of") (by simp)
    have h3 := name_sh q.1
    simp only [S_cons, S_nil, List.length_cons, List.length_nil] at h1
    simp only [tD, wt]
    omega
  | .u w a, k, q => by
    obtain ⟨j, ha⟩ := Fit.subs q a (by simp [subs])
    have hw := Fit.wordu q
    have h2 := wd_asc (w := w) (by simp at hw; rcases hw with rfl | rfl | rfl <;> simp)
    have h1 := sh_tup [.str w, tD a]
    have h3 := tD_sh hG a j ha
    simp only [S_cons, S_nil, List.length_cons, List.length_nil] at h1
    simp only [tD, wt]
    omega
  | .b w a b, k, q => by
    obtain ⟨j, ha⟩ := Fit.subs q a (by simp [subs])
    obtain ⟨j', hb⟩ := Fit.subs q b (by simp [subs])
    have hw := Fit.word q
    have h2 := wd_asc (w := w) (by simp at hw; rcases hw with rfl | rfl | rfl | rfl | rfl | rfl | rfl <;> simp)
    have h1 := sh_tup [.str w, tD a, tD b]
    have h3 := tD_sh hG a j ha
    have h4 := tD_sh hG b j' hb
    simp only [S_cons, S_nil, List.length_cons, List.length_nil] at h1
    simp only [tD, wt]
    omega
  | .p a b c, k, q => by
    have h2 := wd_asc (w := "pick") (by simp)
    have h1 := sh_tup [.str ("pick" : Str), tD a, tD b, tD c]
    have h3 := tD_sh hG a 1 q.1
    have h4 := tD_sh hG b k q.2.1
    have h5 := tD_sh hG c k q.2.2
    simp only [S_cons, S_nil, List.length_cons, List.length_nil] at h1
    simp only [tD, wt]
    omega
  | .t a hi lo, k, q => by
    obtain ⟨j, ha, g1, g2, g3⟩ := q
    have := Fit.range hG _ _ ha
    have h2 := wd_asc (w := "part") (by simp)
    have h1 := sh_tup [.str ("part" : Str), tD a, .int (hi : Int), .int (lo : Int)]
    have h3 := tD_sh hG a j ha
    have h4 := sh_fig (n := hi) (by omega)
    have h5 := sh_fig (n := lo) (by omega)
    simp only [S_cons, S_nil, List.length_cons, List.length_nil] at h1
    simp only [tD, wt]
    omega
theorem sb_str (x : Str) : PyData.showable (.str x) = true := by rw [PyData.showable]
theorem sb_tup {xs : List PyData} (h : ∀ d ∈ xs, PyData.showable d = true) : PyData.showableAll xs = true := by
  induction xs with
  | nil => rw [PyData.showableAll]
  | cons a r ih =>
    rw [PyData.showableAll, h a List.mem_cons_self, ih fun d hd => h d (List.mem_cons_of_mem _ hd)]
    rfl
theorem tD_sb {G : Str → Nat → Prop} (hG : Rng G) : ∀ (t : Tm) (k : Nat), Fit G t k → PyData.showable (tD t) = true
  | .is v, k, q => by simp only [tD, PyData.showable, PyData.showableAll, Bool.and_true]
  | .of v, k, q => by simp only [tD, PyData.showable, PyData.showableAll, Bool.and_true]
  | .u w a, k, q => by
    obtain ⟨j, ha⟩ := Fit.subs q a (by simp [subs])
    have h := tD_sb hG a j ha
    simp only [tD, PyData.showable, PyData.showableAll, Bool.and_true, h]
  | .b w a b, k, q => by
    obtain ⟨j, ha⟩ := Fit.subs q a (by simp [subs])
    obtain ⟨j', hb⟩ := Fit.subs q b (by simp [subs])
    have h := tD_sb hG a j ha
    have h' := tD_sb hG b j' hb
    simp only [tD, PyData.showable, PyData.showableAll, Bool.and_true, h, h']
  | .p a b c, k, q => by
    have h1 := tD_sb hG a 1 q.1
    have h2 := tD_sb hG b k q.2.1
    have h3 := tD_sb hG c k q.2.2
    simp only [tD, PyData.showable, PyData.showableAll, Bool.and_true, h1, h2, h3]
  | .t a hi lo, k, q => by
    obtain ⟨j, ha, g1, g2, g3⟩ := q
    have := Fit.range hG _ _ ha
    have h := tD_sb hG a j ha
    have h1 := sb_fig (n := hi) (by omega)
    have h2 := sb_fig (n := lo) (by omega)
    rw [PyData.showable] at h1 h2
    simp only [tD, PyData.showable, PyData.showableAll, Bool.and_true, h, h1, h2]
theorem bD_sh {G Kp : Str → Nat → Prop} {f : Str → Str} (hG : Rng G) (hKp : ∀ n k, Kp n k → NameOk n) : ∀ b : Bd, BdOk G Kp f b → S (bD b) + 2 * (bD b).length ≤ 13000 * bwt b ∧ ∀ d ∈ bD b, PyData.showable d = true
  | .nil, _ => ⟨Nat.le_refl _, fun d h => by cases h⟩
  | .set w n t r, q => by
    obtain ⟨hw, _, ⟨k, hk, ht⟩, hr⟩ := q
    obtain ⟨ih, ih2⟩ := bD_sh hG hKp r hr
    have h1 := sh_tup [.str w, .str n, tD t]
    have h2 := wd_asc (w := w) (by rcases hw with rfl | rfl <;> simp)
    have h3 := name_sh (hKp _ _ hk)
    have h4 := tD_sh hG t k ht.1
    have h5 := ht.2.2
    simp only [S_cons, S_nil, List.length_cons, List.length_nil] at h1
    refine ⟨?_, fun d hd => ?_⟩
    · simp only [bD, S_cons, List.length_cons, bwt]
      omega
    · rcases List.mem_cons.mp hd with rfl | hd
      · simp only [PyData.showable, PyData.showableAll, Bool.and_true, tD_sb hG t k ht.1]
      · exact ih2 d hd
  | .ite c a b r, q => by
    obtain ⟨hc, ha, hb, hr⟩ := q
    obtain ⟨ih, ih2⟩ := bD_sh hG hKp r hr
    obtain ⟨ia, ia2⟩ := bD_sh hG hKp a ha
    obtain ⟨ib, ib2⟩ := bD_sh hG hKp b hb
    have h1 := sh_tup [.str ("if" : Str), tD c, .tuple (bD a), .tuple (bD b)]
    have h2 := wd_asc (w := "if") (by simp)
    have h3 := sh_tup (bD a)
    have h3' := sh_tup (bD b)
    have h4 := tD_sh hG c 1 hc.1
    have h5 := hc.2.2
    simp only [S_cons, S_nil, List.length_cons, List.length_nil] at h1
    refine ⟨?_, fun d hd => ?_⟩
    · simp only [bD, S_cons, List.length_cons, bwt]
      omega
    · rcases List.mem_cons.mp hd with rfl | hd
      · simp only [PyData.showable, PyData.showableAll, Bool.and_true, tD_sb hG c 1 hc.1, sb_tup ia2, sb_tup ib2]
      · exact ih2 d hd
theorem S_le {m : Nat} : ∀ {xs : List PyData}, (∀ d ∈ xs, (PyData.shown d).length ≤ m) → S xs ≤ xs.length * m
  | [], _ => Nat.zero_le _
  | a :: r, h => by
    have h1 := h a List.mem_cons_self
    have h2 := S_le (xs := r) fun d hd => h d (List.mem_cons_of_mem _ hd)
    rw [S_cons, List.length_cons, Nat.add_mul]
    omega
theorem sgD_show {sg : List Sg} {bl : List Bk} (V : Valid sg bl) : PyData.showable (sgD sg) = true ∧ (PyData.shown (sgD sg)).length ≤ 10000000 := by
  have hw : ∀ s ∈ sg, PyData.showable (wD s) = true ∧ (PyData.shown (wD s)).length ≤ 110000 := fun s hs => by
    have q := V.wh s hs
    cases s with
    | inp n k => exact ⟨by simp only [wD, PyData.showable], by simp only [wD, PyData.shown]; exact (show (Str.ofString "None").length ≤ 110000 by decide +kernel)⟩
    | kept n k v => exact ⟨sb_str v, by have := val_sh q; simp only [wD]; omega⟩
    | wire n k t => exact ⟨tD_sb V.rng t k q.1, by have := tD_sh V.rng t k q.1; have := q.2.2; simp only [wD]; omega⟩
    | filt n k t => exact ⟨tD_sb V.rng t k q.1, by have := tD_sh V.rng t k q.1; have := q.2.2; simp only [wD]; omega⟩
    | bus n k ds =>
      obtain ⟨l2, l4, q⟩ := q
      have hd : ∀ d ∈ ds.map (fun d => PyData.tuple [tD d.1, tD d.2]), PyData.showable d = true ∧ (PyData.shown d).length ≤ 25000 := fun d hd => by
        obtain ⟨e, he, rfl⟩ := List.mem_map.mp hd
        obtain ⟨t1, t2⟩ := q e he
        have h1 := sh_tup [tD e.1, tD e.2]
        have h2 := tD_sh V.rng _ _ t1.1
        have h3 := tD_sh V.rng _ _ t2.1
        have h4 := t1.2.2
        have h5 := t2.2.2
        simp only [S_cons, S_nil, List.length_cons, List.length_nil] at h1
        exact ⟨by simp only [PyData.showable, PyData.showableAll, Bool.and_true, tD_sb V.rng _ _ t1.1, tD_sb V.rng _ _ t2.1], by omega⟩
      have h1 := sh_tup (ds.map fun d => PyData.tuple [tD d.1, tD d.2])
      have h2 := S_le fun d h => (hd d h).2
      rw [List.length_map] at h1 h2
      refine ⟨by simp only [wD, PyData.showable]; exact sb_tup fun d h => (hd d h).1, ?_⟩
      simp only [wD]
      have : ds.length * 25000 ≤ 4 * 25000 := Nat.mul_le_mul_right _ l4
      omega
  have hs : ∀ d ∈ sg.map sD, PyData.showable d = true ∧ (PyData.shown d).length ≤ 111000 := fun d hd => by
    obtain ⟨s, h, rfl⟩ := List.mem_map.mp hd
    obtain ⟨g1, g2⟩ := hw s h
    obtain ⟨n1, n2, n3⟩ := V.nm s h
    have h1 := sh_tup [.str s.sort, .str s.name, .int (s.wd : Int), wD s]
    have h2 := wd_asc (w := s.sort) (by cases s <;> simp [Sg.sort])
    have h3 := name_sh n1
    have h4 := sh_fig (n := s.wd) (by omega)
    have h5 := sb_fig (n := s.wd) (by omega)
    rw [PyData.showable] at h5
    simp only [S_cons, S_nil, List.length_cons, List.length_nil] at h1
    exact ⟨by simp only [sD, PyData.showable, PyData.showableAll, Bool.and_true, g1, h5], by simp only [sD]; omega⟩
  refine ⟨by simp only [sgD, PyData.showable]; exact sb_tup fun d h => (hs d h).1, ?_⟩
  have h1 := sh_list (sg.map sD)
  have h2 := S_le fun d h => (hs d h).2
  rw [List.length_map] at h1 h2
  have := V.ls
  have : sg.length * 111000 ≤ 24 * 111000 := Nat.mul_le_mul_right _ V.ls
  simp only [sgD]
  omega
theorem blD_show {sg : List Sg} {bl : List Bk} (V : Valid sg bl) : PyData.showable (blD bl) = true ∧ (PyData.shown (blD bl)).length ≤ 10000000 := by
  obtain ⟨f, hk⟩ := V.bk
  have hs : ∀ d ∈ bl.map kD, PyData.showable d = true ∧ (PyData.shown d).length ≤ 270000 := fun d hd => by
    obtain ⟨k, h, rfl⟩ := List.mem_map.mp hd
    have q := hk k h
    obtain ⟨s, hs, e, _⟩ := q.tr
    obtain ⟨g1, g2⟩ := bD_sh V.rng V.kp k.body q.bd
    have h1 := sh_tup [.str k.name, .str k.edge, .str k.trig, .tuple (bD k.body)]
    have h2 := name_sh q.nm
    have h3 := wd_asc (w := k.edge) (by rcases q.ed with e | e <;> rw [e] <;> simp)
    have h4 : (PyData.shown (.str k.trig)).length ≤ 82 := by rw [← e]; exact name_sh (V.nm s hs).1
    have h5 := sh_tup (bD k.body)
    have h6 := q.wt
    simp only [S_cons, S_nil, List.length_cons, List.length_nil] at h1
    exact ⟨by simp only [kD, PyData.showable, PyData.showableAll, Bool.and_true, sb_tup g2], by simp only [kD]; omega⟩
  refine ⟨by simp only [blD, PyData.showable]; exact sb_tup fun d h => (hs d h).1, ?_⟩
  have h1 := sh_list (bl.map kD)
  have h2 := S_le fun d h => (hs d h).2
  rw [List.length_map] at h1 h2
  have : bl.length * 270000 ≤ 6 * 270000 := Nat.mul_le_mul_right _ V.lb
  have := V.lb
  simp only [blD]
  omega
theorem shaped_lay {d : PyData} (h : SeqAt.shaped d = true) : PyData.hasDict d = false := by
  unfold SeqAt.shaped at h
  simp only [Bool.and_eq_true] at h
  exact PyData.hasDict_of_canLay d h.1
end K37
set_option maxHeartbeats 4000000
/-! K37P: the law's call where the law's promise is asked with no guard up -/
namespace K37
open PySem L2 TL PySem.Spec
open PyProof.Rows hiding St
section
variable {P : Program} {w : World} {K : PySem.W.Frag} {a : Addr} {s : Shared} {vs : List Value} {ns : List Int}
/-- the abstract heap at the call: the script at most -/
structure At0 (P : Program) (w : World) (K : PySem.W.Frag) (a : Addr) (s : Shared) (ns : List Int) (H : Hp) : Prop where
  only : Only H
  sq : SqL K H a (ns.map V.int)
  hok : HOk P w H s.heap
  one : ∀ b, H b ≠ none → b = a
  lit : H a ≠ none → K.lookup a = none
theorem at0 (KX : K.In s.heap) (ha : s.heap.get? a = some { cls := .type "list", data := .seq vs.toArray }) (hi : IntsAre vs ns) (hl : ns.length ≤ sizeLine) : ∃ H, At0 P w K a s ns H := by
  have rv := vals_ints hi
  have hn : (ns.map V.int).length ≤ sizeLine := by rw [List.length_map]; exact hl
  cases hk : K.lookup a with
  | some o =>
    have eo := KX a o hk
    rw [ha] at eo
    have eo' := Option.some.inj eo
    subst eo'
    refine ⟨fun _ => none, ⟨fun _ => .inl rfl, .inr ⟨_, vs.toArray, _, hk, rfl, rfl, rfl, ?_, ?_⟩, fun b u z => (by cases z), fun b z => (z rfl).elim, fun z => (z rfl).elim⟩⟩
    · rw [List.size_toArray, hi.length]
      exact hl
    · rw [List.toList_toArray]
      exact rv
  | none =>
    obtain ⟨H, hH, hO⟩ : ∃ H : Hp, H a = some (.frz { cls := .type "list", data := .seq vs.toArray } (.lst (ns.map V.int))) ∧ ∀ b, b ≠ a → H b = none := ⟨fun b => if b = a then some (.frz { cls := .type "list", data := .seq vs.toArray } (.lst (ns.map V.int))) else none, if_pos rfl, fun b hb => if_neg hb⟩
    have one : ∀ b, H b ≠ none → b = a := fun b z => Classical.byContradiction fun hb => z (hO b hb)
    refine ⟨H, ⟨fun b => ?_, .inl (.inr ⟨_, hH⟩), fun b u z => ?_, one, fun _ => hk⟩⟩
    · by_cases hb : b = a
      · exact .inr ⟨_, _, hb ▸ hH⟩
      · exact .inl (hO b hb)
    · have hb := one b (by rw [z]; simp)
      subst hb
      rw [hH] at z
      have z' := Option.some.inj z
      subst z'
      exact ⟨ha, hn, vs, _, rv, ha⟩
theorem env0 {mg mb : Str → Option Value} {H : Hp} (KX : K.In s.heap) (hns : s.heap.Ns mainGlobals mg) (hb : s.heap.Ns builtinsNs mb) (hbb : ∀ x : Str, x ≠ "__name__" → mb x = bootBuiltins x) (hlim : s.heap.NoLimit) (hg : s.gens = #[])
    (ha : s.heap.get? a = some { cls := .type "list", data := .seq vs.toArray }) (h0 : At0 P w K a s ns H) : Env0 P w K mg (hidT s.heap H) callerA [] s H ∧ K.In (hidT s.heap H) ∧ (hidT s.heap H).Ns mainGlobals mg := by
  have free : ∀ {b : Addr}, b ≠ a → H b = none := fun {b} hb => Classical.byContradiction fun z => hb (h0.one b z)
  have dicts : ∀ {b : Addr} {m : Str → Option Value}, s.heap.Ns b m → (hidT s.heap H).Ns b m := by
    rintro b m ⟨o, es, ep, e, d, r⟩
    refine ⟨o, es, ep, hidT_get e (free fun z => ?_), d, r⟩
    rw [z, ha] at e
    have e' := Option.some.inj e
    subst e'
    cases d
  have inK : K.In (hidT s.heap H) := fun b o e => by
    refine hidT_get (KX b o e) (Classical.byContradiction fun z => ?_)
    have hb := h0.one b z
    subst hb
    rw [h0.lit z] at e
    cases e
  obtain ⟨mc, l1, l2⟩ := hlim
  have md : Mod K mg (hidT s.heap H) := ⟨inK, dicts hns, ⟨mb, dicts hb, hbb⟩, ⟨mc, dicts l1, l2⟩⟩
  refine ⟨⟨rfl, md, fun b o e => of_hidT e, Nat.le_of_eq (hidT_size _ _), trivial, ?_, h0.hok, .of_eq hg⟩, inK, dicts hns⟩
  intro b hb
  cases (show b ∈ ([] : List Addr) from hb)
theorem callG {mg mb : Str → Option Value} {k : Nat} {fa : Addr} {fd : FuncData} {x : Str} {sp : Sp} (KX : K.In s.heap) (hns : s.heap.Ns mainGlobals mg) (hb : s.heap.Ns builtinsNs mb) (hbb : ∀ x : Str, x ≠ "__name__" → mb x = bootBuiltins x) (hlim : s.heap.NoLimit) (hg : s.gens = #[])
    (ha : s.heap.get? a = some { cls := .type "list", data := .seq vs.toArray }) (hi : IntsAre vs ns) (hl : ns.length ≤ sizeLine) (hr : Room k callerA) (F : ∀ base : Heap, K.In base → base.Ns mainGlobals mg → FnG P w K mg base k fa fd [x] sp)
    (hbind : ∀ (s : Shared) (u : Value), BindsTo s fd ⟨[u], []⟩ [(x, u)]) (hsp : ∀ H : Hp, Only H → SqL K H a (ns.map V.int) → sp [.ref a] H (fun v _ => v = .bl true) fun _ _ _ => False) :
    codeAny (model P w) callerA (.call (.ref fa) ⟨[.ref a], []⟩) (fun r s' => r = .ok (.ret (.bool true)) ∧ OldK s.heap s'.heap ∧ s'.os = s.os ∧ AllBare s'.gens) s := by
  obtain ⟨H, h0⟩ := at0 (P := P) (w := w) KX ha hi hl
  obtain ⟨e0, inK, inM⟩ := env0 KX hns hb hbb hlim hg ha h0
  refine codeAny_mono ((F _ inK inM).runG callerA [] s H ⟨[.ref a], []⟩ [.ref a] [.ref a] _ _ rfl hr e0 (hbind s (.ref a)) (.cons rfl .nil) (hsp H h0.only h0.sq)) ?_
  rintro (e | _ | _ | _ | u) s' z
  · exact False.elim z
  · exact False.elim z
  · exact False.elim z
  · exact False.elim z
  · obtain ⟨v, H', os, bare, un, hok', rv, q⟩ := z
    have q1 : v = .bl true := q
    subst q1
    have q2 : u = Value.bool true := rv
    subst q2
    have old : ∀ b o, s.heap.get? b = some o → s'.heap.get? b = some o := fun b o e => by
      cases hb : H b with
      | none => exact un.keep b o e hb (fun z => by cases (show b ∈ ([] : List Addr) from z)) (fun z => by cases z)
      | some u =>
        rcases h0.only b with z | ⟨ob, xs, z⟩
        · rw [hb] at z
          cases z
        · have e1 := (h0.hok b _ z).1
          have e2 := (hok' b _ (un.frzs b ob _ z)).1
          rw [e] at e1
          rw [Option.some.inj e1]
          exact e2
    exact ⟨rfl, OldK.of_keep old, os, bare⟩
end
theorem walkG {l : PySem.W.OpenLaw} {n k : Nat} {q : Program} {loose : List Str} {XP : (Str → Option Value) → Heap → Prop} {YP : World → Heap → Prop} {d : DefRec} {x : Str} (hn : l.most = some n) (hn2 : n ≤ sizeLine) (hdf : d.params.defaults = []) (hr : Room k callerA)
    (F : ∀ (w : World) (mg : Str → Option Value) (fa : Addr) (h : Heap), YP w h → h.Ns mainGlobals mg → mg d.name = some (.ref fa) →
      ∃ (K : PySem.W.Frag) (fd : FuncData) (sp : Sp), K.In h ∧ (∀ (s : Shared) (u : Value), BindsTo s fd ⟨[u], []⟩ [(x, u)]) ∧ (∀ (H : Hp) (a : Addr) (ns : List Int), ns.length ≤ n → SqL K H a (ns.map V.int) → sp [.ref a] H (fun v _ => v = .bl true) fun _ _ _ => False) ∧
        ∀ base : Heap, K.In base → base.Ns mainGlobals mg → FnG l.prog w K mg base k fa fd [x] sp) : PySem.W.WalkO q loose XP YP l.row.toRowW d [] (fun f vs => PySem.call f vs) := by
  refine Att.attach_call hn hdf ?_
  intro w s₀ s₁ mg mb fa o pm cd doc a vs ns G Y ho hd hcd hmg hobj hints hlen hg
  obtain ⟨K, fd, sp, KX, hb, hsp, hF⟩ := F w mg fa _ Y G.T.g hmg
  exact callG KX G.T.g G.T.b G.T.builtins G.T.nolimit hg hobj hints (Nat.le_trans hlen hn2) hr hF hb fun H _ hS => hsp H a ns hlen hS
end K37
set_option maxHeartbeats 4000000
namespace K37
open PySem L2 TL
open PyProof.Rows hiding St
theorem sc__law_right : FnScope ["_law_signals", "_law_blocks_here", "_law_design_here", "_law_due", "_law_text", "_law_told"] ["_law_signals", "_law_blocks_here"] (defScope s__law_right) := ⟨rfl, rfl, rfl, by decide +kernel, rfl, by decide +kernel, by decide +kernel⟩

def spLRight : Sp := fun vs H Q _ => ∃ (sg : List Sg) (bl : List Bk) (a b : Addr), vs = [.ref a, .ref b] ∧ LS H a sg ∧ LK H b bl ∧ Valid sg bl ∧ ∀ H', Same H H' → Q (.bl true) H'
local macro_rules | `(tactic| walk_at "rd") => `(tactic| simp only [tYes, wipe, HO.lst.injEq, HO.tup.injEq, HO.dK.injEq, Nat.reduceAdd, Nat.reduceLeDiff, Nat.reduceSub, Int.reduceLE, Int.reduceLT, Int.reduceNeg, Nat.zero_add, Int.reduceEq, cut_head, cut_tail, cut_mid, cut_three, c_cast0, c_cast1, c_cast2, c_cast3, c_cast4, z_lit, List.getD_eq_getElem?_getD, Option.getD_some, tLc_eq, tFor_eq, cxOf, Cx.nox, Cx.wish, tSeq, tIfS, tOr, tAnd, tNot, tB, tCB, tCons, tVar, tC, tNil, tTest, tChain, rI0, rI, tOp, rIxS, rIxL, rIxT, tRet, tNext, tAsg, gName, tAndV, tOrV, tNotV, tIf, tIsN, tNotN, tCall, tDrop, tBM, tBM0, rEq, rNe, tRetN, tSl, tNoPart, tPart, tTupD, tLstD, tInD, rIsK, rLenS, rLenL, rLenT, rAllT, rAnyF, rInK, rInL, rSlLD, rSlTD, rSlS, rCatD, rCatTD, rAppD, rExtD, rPopD, rPopAtD, rListD, rTupleD, iLst, iTpl, iStr, rIxLH, rIxTH, gTupH, gLstH, gStar0, gStar1, gStar2, rSumH, rAddS2, tJoinS, tFmtS, tFmtI, tJoined, tJoined_nil, tJoined_cons, rIsG, app_empty, tFldD, sFldD, tMkD, tMoD, rIsC, rLenO, rEqO, HO.ins.injEq, exists_eq, tNilL, tML, tML0, tMS, iEnumH, tCallK, rStrI, tGetS, tGet1S, tGet2S, rListKD, tDc_eq, tLc2_eq, tKGet, gCons, gNil, tChain3, tPartD, tSplitD, tPar, New, Chg, rListTD, atI_0, atI_1, atI_2, atI_3, sign_inj, and_false, false_and, or_false, false_or, or_true, true_or, List.take_succ_cons, List.take_zero, List.drop_succ_cons, List.drop_zero, forall_const, exists_false, not_false_eq_true, not_true_eq_false, if_true, if_false, iRng1, KindV,
  L2.start, List.map_cons, List.map_nil, List.length_cons, List.length_nil, List.replicate, List.cons_append, List.nil_append, List.append_nil, List.set_cons_zero, List.set_cons_succ, List.getElem?_cons_zero, List.getElem?_cons_succ, Option.some.injEq, exists_eq_left', exists_eq_left, V.int.injEq, V.str.injEq, V.bl.injEq, V.ref.injEq, V.ty.injEq, true_and, and_true, List.cons.injEq, exists_and_left, exists_eq', and_assoc, scal, ofString_inj, String.reduceEq, reduceIte, decide_eq_true_eq, decide_eq_false_iff_not, Bool.not_true, Bool.not_false, Bool.not_eq_true', inV_cons, inV_nil, eqV_ss, eqV_ii, flatV, List.all_cons, List.all_nil, Bool.and_true, Bool.or_false, Bool.true_and, Bool.false_or, decide_true, decide_false, Bool.true_or, Bool.false_eq_true, reduceCtorEq, spLDText, spDesignText, spReadDesign, spSignals, spBlocks, spInit, spLRight, spEq, rIsB, rNotB, ds_signals, ds_blocks])
local macro_rules | `(tactic| walk_at "ra") => `(tactic| simp only [tYes, wipe, HO.lst.injEq, HO.tup.injEq, HO.dK.injEq, Nat.reduceAdd, Nat.reduceLeDiff, Nat.reduceSub, Int.reduceLE, Int.reduceLT, Int.reduceNeg, Nat.zero_add, Int.reduceEq, cut_head, cut_tail, cut_mid, cut_three, c_cast0, c_cast1, c_cast2, c_cast3, c_cast4, z_lit, List.getD_eq_getElem?_getD, Option.getD_some, tLc_eq, tFor_eq, cxOf, Cx.nox, Cx.wish, tSeq, tIfS, tOr, tAnd, tNot, tB, tCB, tCons, tVar, tC, tNil, tTest, tChain, rI0, rI, tOp, rIxS, rIxL, rIxT, tRet, tNext, tAsg, gName, tAndV, tOrV, tNotV, tIf, tIsN, tNotN, tCall, tDrop, tBM, tBM0, rEq, rNe, tRetN, tSl, tNoPart, tPart, tTupD, tLstD, tInD, rIsK, rLenS, rLenL, rLenT, rAllT, rAnyF, rInK, rInL, rSlLD, rSlTD, rSlS, rCatD, rCatTD, rAppD, rExtD, rPopD, rPopAtD, rListD, rTupleD, iLst, iTpl, iStr, rIxLH, rIxTH, gTupH, gLstH, gStar0, gStar1, gStar2, rSumH, rAddS2, tJoinS, tFmtS, tFmtI, tJoined, tJoined_nil, tJoined_cons, rIsG, app_empty, tFldD, sFldD, tMkD, tMoD, rIsC, rLenO, rEqO, HO.ins.injEq, exists_eq, tNilL, tML, tML0, tMS, iEnumH, tCallK, rStrI, tGetS, tGet1S, tGet2S, rListKD, tDc_eq, tLc2_eq, tKGet, gCons, gNil, tChain3, tPartD, tSplitD, tPar, New, Chg, rListTD, atI_0, atI_1, atI_2, atI_3, sign_inj, and_false, false_and, or_false, false_or, or_true, true_or, List.take_succ_cons, List.take_zero, List.drop_succ_cons, List.drop_zero, forall_const, exists_false, not_false_eq_true, not_true_eq_false, if_true, if_false, iRng1, KindV,
  L2.start, List.map_cons, List.map_nil, List.length_cons, List.length_nil, List.replicate, List.cons_append, List.nil_append, List.append_nil, List.set_cons_zero, List.set_cons_succ, List.getElem?_cons_zero, List.getElem?_cons_succ, Option.some.injEq, exists_eq_left', exists_eq_left, V.int.injEq, V.str.injEq, V.bl.injEq, V.ref.injEq, V.ty.injEq, true_and, and_true, List.cons.injEq, exists_and_left, exists_eq', and_assoc, scal, ofString_inj, String.reduceEq, reduceIte, decide_eq_true_eq, decide_eq_false_iff_not, Bool.not_true, Bool.not_false, Bool.not_eq_true', inV_cons, inV_nil, eqV_ss, eqV_ii, flatV, List.all_cons, List.all_nil, Bool.and_true, Bool.or_false, Bool.true_and, Bool.false_or, decide_true, decide_false, Bool.true_or, Bool.false_eq_true, reduceCtorEq, spLDText, spDesignText, spReadDesign, spSignals, spBlocks, spInit, spLRight, spEq, rIsB, rNotB, ds_signals, ds_blocks, *])

section
variable {P : Program} {w : World} {K : PySem.W.Frag} {mg : Str → Option Value} {base : Heap} {k : Nat} {C : Addr}
theorem ok_law_right (T : TX K mg) (kD : KCls K mg "Design" C) (D : DF K mg "_law_right" s__law_right ["_law_signals", "_law_blocks_here"] []) (M_Design : FC P w K mg base C k ["self", "signals", "blocks"] [] (spInit C))
    (G__law_design_text : FO P w K mg base "_law_design_text" k ["_law_signals", "_law_blocks_here"] [] spLDText) (G_design_text : FO P w K mg base "design_text" k ["design"] [] (spDesignText C)) (G_read_design : FO P w K mg base "read_design" k ["text"] [] (spReadDesign C))
    (G_signals : FM P w K mg base C "signals" k ["self"] [] (spSignals C)) (G_blocks : FM P w K mg base C "blocks" k ["self"] [] (spBlocks C)) (G_eq : FM P w K mg base C "__eq__" k ["self", "other"] [] (spEq (DSeq C))) :
    FG P w K mg base "_law_right" (k + 1) ["_law_signals", "_law_blocks_here"] spLRight := by
  refine D.okG sc__law_right (fun vs H Q E h => ?_) (fun fa cdv A outer s H vs Q E hgd hr h => ?_)
  · obtain ⟨_, _, _, _, rfl, _⟩ := h
    rfl
  obtain ⟨sg, bl, a, b, rfl, hA, hB, hv, q⟩ := h
  have hun : (A.deeper (envOfC "_law_right" (defScope s__law_right) s.heap.objs.size fa cdv)).units + 70 < cLine := by
    have := hr.un
    omega
  refine ⟨_, (pss_cons (ps_set (i := 2) sc__law_right.nd rfl (Or.inl rfl) (pe_mkD kD M_Design hr (pa_cons (pe_callTy call_listD rfl T.list (by decide +kernel) (pa_cons (pv 0) pa_nil)) (pa_cons (pe_callTy call_listD rfl T.list (by decide +kernel) (pa_cons (pv 1) pa_nil)) pa_nil))))
    (pss_cons (ps_set (i := 3) sc__law_right.nd rfl (Or.inl rfl) (pe_fo G__law_design_text hr (pa_cons (pv 0) (pa_cons (pv 1) pa_nil))))
    (pss_cons (ps_set (i := 4) sc__law_right.nd rfl (Or.inl rfl) (pe_fo G_design_text hr (pa_cons (pv 2) pa_nil)))
    (pss_cons (ps_if (PW.pt (pw_or (pt_not (pt_val (pe_callB (call_is (n := "str") (m := "str") (b := true) rfl) rfl T.isinstance (by decide +kernel) (pa_cons (pv 4) (pa_cons (pe_bltn (v := .ty "str") rfl T.str (by decide +kernel) rfl) pa_nil))))) (pw_or1 (pt_cmpR op_ne (pv 4) (pv 3) (nomark _)))))
      (pss_one (ps_ret pe_bl))
      pss_nil)
    (pss_cons (ps_set (i := 5) sc__law_right.nd rfl (Or.inl rfl) (pe_fo G_read_design hr (pa_cons (pv 3) pa_nil)))
    (pss_cons (ps_if (PW.pt (pw_or (pt_not (pt_val (pe_callB (call_isC kD) rfl T.isinstance (by decide +kernel) (pa_cons (pv 5) (pa_cons (pe_cls kD) pa_nil))))) (pw_or (pt_cmpR op_ne (pe_callB (call_reprD hgd hun) rfl T.repr (by decide +kernel) (pa_cons (pe_mo0 kD.c G_signals hr (pv 5)) pa_nil)) (pe_callB (call_reprD hgd hun) rfl T.repr (by decide +kernel) (pa_cons (pv 0) pa_nil)) (nomark _)) (pw_or1 (pt_cmpR op_ne (pe_callB (call_reprD hgd hun) rfl T.repr (by decide +kernel) (pa_cons (pe_mo0 kD.c G_blocks hr (pv 5)) pa_nil)) (pe_callB (call_reprD hgd hun) rfl T.repr (by decide +kernel) (pa_cons (pv 1) pa_nil)) (nomark _))))))
      (pss_one (ps_ret pe_bl))
      pss_nil)
    (pss_cons (ps_if (PW.pt (pw_or (pt_cmpR op_notBl (pe_cmpR (op_eqO G_eq hr) (pv 5) (pv 2) (nomark _)) pe_bl (nomark _)) (pw_or (pt_cmpR op_ne (pe_fo G_design_text hr (pa_cons (pv 5) pa_nil)) (pv 3) (nomark _)) (pw_or1 (pt_cmpR op_ne (pe_fo G_design_text hr (pa_cons (pv 2) pa_nil)) (pv 3) (nomark _))))))
      (pss_one (ps_ret pe_bl))
      pss_nil)
    (pss_one (ps_ret (pe_and (pe_cmpR op_eq (pe_callB (call_reprD hgd hun) rfl T.repr (by decide +kernel) (pa_cons (pe_mo0 kD.c G_signals hr (pv 2)) pa_nil)) (pe_callB (call_reprD hgd hun) rfl T.repr (by decide +kernel) (pa_cons (pv 0) pa_nil)) (nomark _)) (pe_one (pe_cmpR op_eq (pe_callB (call_reprD hgd hun) rfl T.repr (by decide +kernel) (pa_cons (pe_mo0 kD.c G_blocks hr (pv 2)) pa_nil)) (pe_callB (call_reprD hgd hun) rfl T.repr (by decide +kernel) (pa_cons (pv 1) pa_nil)) (nomark _))))))))))))), ?_⟩
  obtain ⟨xs, hx, hal⟩ := id hA
  obtain ⟨ys, hy, hbl⟩ := id hB
  refine seq_i fun M hM => ?_
  walk_at "rd"
  refine ⟨_, hx, fun p1 H1 hp1 s1 hl1 => ⟨_, s1 _ _ hy, fun p2 H2 hp2 s2 hl2 x3 H3 hx3 s3 hdx => ?_⟩⟩
  obtain ⟨dx3, hd3⟩ := hdx
  have s03 := (s1.trans s2).trans s3
  refine ⟨sg, bl, dx3, hd3, ⟨xs, s3 _ _ (s2 _ _ hl1), all2_mono (fun _ _ z => RS.tk (same_tk s03) z) hal⟩, ⟨ys, s3 _ _ hl2, all2_mono (fun _ _ z => RK.tk (same_tk s03) z) hbl⟩, hv, fun H4 b4 hds4 => ?_⟩
  have n3 : H x3 = none := (s1.trans s2).free hx3
  have s04 : Same H H4 := same_but s03 n3 b4
  subst hM
  refine seq_i fun M hM => ?_
  walk_at "rd"
  refine ⟨sg, hA.same s04, bl, hB.same s04, hv, fun H5 s5 => ?_⟩
  subst hM
  refine seq_i fun M hM => ?_
  walk_at "rd"
  have hds5 := hds4.same s5
  refine ⟨sg, bl, hds5, hv, fun H6 s6 => ?_⟩
  have hds6 := hds5.same s6
  subst hM
  refine seq_i fun M hM => ?_
  walk_at "rd"
  subst hM
  refine seq_i fun M hM => ?_
  walk_at "rd"
  refine ⟨sg, bl, rfl, hv, fun y7 H7 s7 hdt7 => ?_⟩
  have hds7 := hds6.same s7
  have s07 := ((s04.trans s5).trans s6).trans s7
  obtain ⟨shA, lnA⟩ := sgD_show hv
  obtain ⟨shB, lnB⟩ := blD_show hv
  have hsA := sgD_shaped hv
  have hsB := blD_shaped hv
  have rpA : ∀ {c : Addr} {H' : Hp} {Q' : VK}, LS H' c sg → Q' (.str (sgD sg).shown) H' → rReprD K [.ref c] H' Q' := fun h q => ⟨_, sgD sg, rfl, h.dp, hsA, shA, shaped_lay hsA, lnA, q⟩
  have rpB : ∀ {c : Addr} {H' : Hp} {Q' : VK}, LK H' c bl → Q' (.str (blD bl).shown) H' → rReprD K [.ref c] H' Q' := fun h q => ⟨_, blD bl, rfl, h.dp, hsB, shB, shaped_lay hsB, lnB, q⟩
  subst hM
  refine seq_i fun M hM => ?_
  refine ifs_i fun A B hA' hB' => ?_
  obtain ⟨dx7, r7, p7, c7, d7, hy7, _⟩ := id hdt7
  walk_at "rd"
  refine ⟨_, _, hy7, _, _, hy7, ds_signals, sg, bl, hdt7, fun p8 H8 hp8 s8 hls8 => rpA hls8 (rpA (hA.same (s07.trans s8)) ⟨rfl, ?_⟩)⟩
  rw [if_neg (fun z => z rfl)]
  refine ⟨_, _, s8 _ _ hy7, ds_blocks, sg, bl, hdt7.same s8, fun p9 H9 hp9 s9 hlk9 => rpB hlk9 (rpB (hB.same ((s07.trans s8).trans s9)) ⟨rfl, ?_⟩)⟩
  rw [if_neg (fun z => z rfl)]
  have s79 := s8.trans s9
  have hdt9 := hdt7.same s79
  have hds9 := hds7.same s79
  have s09 := s07.trans s79
  subst hB'
  show M _ _
  clear hA'
  subst hM
  refine seq_i fun M hM => ?_
  refine ifs_i fun A B hA' hB' => ?_
  walk_at "rd"
  obtain ⟨dx9, r9, p9', c9, d9, hy9, _⟩ := id hdt9
  obtain ⟨dxx, rx, px, cx, dd, hx9, _⟩ := id hds9
  refine ⟨⟨_, _, _, hy9, _, hx9, sg, bl, hv, hdt9, hds9⟩, fun H10 s10 => ⟨sg, bl, hdt9.same s10, hv, fun H11 s11 => ?_⟩⟩
  rw [if_neg (fun z => z rfl)]
  refine ⟨sg, bl, (hds9.same s10).same s11, hv, fun H12 s12 => ?_⟩
  rw [if_neg (fun z => z rfl)]
  have s912 := (s10.trans s11).trans s12
  have hds12 := hds9.same s912
  have s012 := s09.trans s912
  have hx12 := s912 _ _ hx9
  subst hB'
  show M _ _
  clear hA'
  subst hM
  walk_at "rd"
  refine ⟨_, _, hx12, ds_signals, sg, bl, hds12, fun p13 H13 hp13 s13 hls13 => rpA hls13 (rpA (hA.same (s012.trans s13)) ⟨rfl, ?_⟩)⟩
  rw [if_pos rfl]
  refine ⟨_, _, s13 _ _ hx12, ds_blocks, sg, bl, hds12.same s13, fun p14 H14 hp14 s14 hlk14 => rpB hlk14 (rpB (hB.same ((s012.trans s13).trans s14)) ⟨rfl, ?_⟩)⟩
  rw [decide_eq_true rfl]
  exact q _ ((s012.trans s13).trans s14)
end
end K37
set_option maxHeartbeats 4000000
namespace K37
open PySem L2 TL
open PyProof.Rows hiding St
theorem sc__law_deep : FnScope ["_law_deep_here", "_law_turn", "_law_some", "_law_joined", "_law_leaf_here", "_law_one", "_law_other"] [] (defScope s__law_deep) := ⟨rfl, rfl, rfl, by decide +kernel, rfl, by decide +kernel, by decide +kernel⟩

def itN : Nat → Tm
  | 0 => .of "a"
  | i + 1 => .u "not" (itN i)
def joinT (ts : List Tm) : List Tm := List.zipWith (Tm.b "and") (pickL ts 0 2) (pickL ts 1 2)
def stepT (ts : List Tm) : List Tm := joinT ts ++ ts.drop (2 * (joinT ts).length)
def stT : Nat → List Tm
  | 0 => List.replicate 30 (.of "a")
  | i + 1 => stepT (stT i)
theorem stT_len : (stT 0).length = 30 ∧ (stT 1).length = 15 ∧ (stT 2).length = 8 ∧ (stT 3).length = 4 ∧ (stT 4).length = 2 ∧ (stT 5).length = 1 := by decide +kernel
theorem stT_join : (joinT (stT 0)).length = 15 ∧ (joinT (stT 1)).length = 7 ∧ (joinT (stT 2)).length = 4 ∧ (joinT (stT 3)).length = 2 ∧ (joinT (stT 4)).length = 1 := by decide +kernel
theorem stT_pick : ((pickL (stT 0) 0 2).length = 15 ∧ (pickL (stT 0) 1 2).length = 15) ∧ ((pickL (stT 1) 0 2).length = 8 ∧ (pickL (stT 1) 1 2).length = 7) ∧ ((pickL (stT 2) 0 2).length = 4 ∧ (pickL (stT 2) 1 2).length = 4) ∧ ((pickL (stT 3) 0 2).length = 2 ∧ (pickL (stT 3) 1 2).length = 2) ∧ ((pickL (stT 4) 0 2).length = 1 ∧ (pickL (stT 4) 1 2).length = 1) := by decide +kernel
def andT : Tm := (stT 5).headD (.of "a")
theorem andT_is : stT 5 = [andT] := by
  have h := stT_len.2.2.2.2.2
  unfold andT
  cases e : stT 5 with
  | nil => rw [e] at h; cases h
  | cons a r =>
    rw [e] at h
    cases r with
    | nil => rfl
    | cons b r => simp at h
theorem andT_sizes : deep andT = 6 ∧ wt andT = 59 := by decide +kernel
theorem itN_sizes : deep (itN 9) = 10 ∧ wt (itN 9) = 10 := by decide +kernel
def G0 (n : Str) (k : Nat) : Prop := n = "a" ∧ k = 1
theorem a_ok : NameOk "a" := by
  have h : (tl (Str.ofString "a")) = [97] := by decide +kernel
  refine ⟨by rw [h]; decide, by rw [h]; decide, ⟨97, [], h, by decide, by decide⟩, fun c hc => ?_, by decide +kernel, by decide +kernel⟩
  rw [h, List.mem_singleton] at hc
  rw [hc]
  exact .inl ⟨by decide, by decide⟩
theorem nm_ok : ∀ n ∈ (["b", "c"] : List Str), NameOk n := by
  intro n hn
  simp only [List.mem_cons, List.not_mem_nil, or_false] at hn
  rcases hn with rfl | rfl
  · have h : (tl (Str.ofString "b")) = [98] := by decide +kernel
    refine ⟨by rw [h]; decide, by rw [h]; decide, ⟨98, [], h, by decide, by decide⟩, fun c hc => ?_, by decide +kernel, by decide +kernel⟩
    rw [h, List.mem_singleton] at hc
    rw [hc]
    exact .inl ⟨by decide, by decide⟩
  · have h : (tl (Str.ofString "c")) = [99] := by decide +kernel
    refine ⟨by rw [h]; decide, by rw [h]; decide, ⟨99, [], h, by decide, by decide⟩, fun c hc => ?_, by decide +kernel, by decide +kernel⟩
    rw [h, List.mem_singleton] at hc
    rw [hc]
    exact .inl ⟨by decide, by decide⟩
theorem itN_fit : ∀ i, Fit G0 (itN i) 1
  | 0 => ⟨a_ok, rfl, rfl⟩
  | i + 1 => .inl ⟨rfl, itN_fit i⟩
theorem pick_mem {α : Type} {l : List α} {c m : Int} {x : α} (h : x ∈ pickL l c m) : x ∈ l := by
  obtain ⟨i, _, hi⟩ := List.mem_filterMap.mp h
  exact List.mem_of_getElem? hi
theorem stT_fit : ∀ i, ∀ t ∈ stT i, Fit G0 t 1
  | 0, t, h => by
    rw [List.eq_of_mem_replicate h]
    exact ⟨a_ok, rfl, rfl⟩
  | i + 1, t, h => by
    rcases List.mem_append.mp h with h | h
    · obtain ⟨a, b, ha, hb, rfl⟩ : ∃ a b, a ∈ pickL (stT i) 0 2 ∧ b ∈ pickL (stT i) 1 2 ∧ t = .b "and" a b := by
        obtain ⟨j, hj⟩ := List.mem_iff_getElem?.mp h
        unfold joinT at hj
        rw [List.getElem?_zipWith] at hj
        cases ea : (pickL (stT i) 0 2)[j]? with
        | none => rw [ea] at hj; cases hj
        | some a =>
          cases eb : (pickL (stT i) 1 2)[j]? with
          | none => rw [ea, eb] at hj; cases hj
          | some b =>
            rw [ea, eb] at hj
            exact ⟨a, b, List.mem_of_getElem? ea, List.mem_of_getElem? eb, (Option.some.inj hj).symm⟩
      exact .inl ⟨.inl rfl, stT_fit i _ (pick_mem ha), stT_fit i _ (pick_mem hb)⟩
    · exact stT_fit i _ (List.mem_of_mem_drop h)
def deepSg : List Sg := [.inp "a" 1, .wire "b" 1 (itN 9), .wire "c" 1 (.u "not" andT)]
theorem deep_valid : Valid deepSg [] := by
  have hg : ∀ n k, G0 n k → GW deepSg n k := fun n k ⟨h1, h2⟩ => ⟨.inp "a" 1, by simp [deepSg], h1.symm, h2.symm⟩
  have fa : Fit G0 (.u "not" andT) 1 := .inl ⟨rfl, stT_fit 5 _ (by rw [andT_is]; exact List.mem_cons_self)⟩
  have ms : ∀ s ∈ deepSg, s = .inp "a" 1 ∨ s = .wire "b" 1 (itN 9) ∨ s = .wire "c" 1 (.u "not" andT) := fun s hs => by
    simpa [deepSg] using hs
  have na : ∀ (t : Tm), Fit G0 t 1 → ∀ x ∈ K37.nms t, x = Str.ofString "a" := fun t h x hx => by
    obtain ⟨_, k, e, _⟩ := Fit.nms t 1 h x hx
    exact e
  refine ⟨fun s hs => ?_, ?_, by decide, ?_, by decide, fun s hs => ?_, ⟨fun n => n, fun k hk => (by cases hk)⟩, ⟨fun n => if n = Str.ofString "a" then 0 else 1, fun s hs x hx => ?_⟩, ⟨fun _ => True, fun _ _ _ _ _ => trivial, fun s hs hf => ?_⟩⟩
  · rcases ms s hs with rfl | rfl | rfl
    · exact ⟨a_ok, Nat.le_refl _, by decide⟩
    · exact ⟨nm_ok "b" (by simp), Nat.le_refl _, by decide⟩
    · exact ⟨nm_ok "c" (by simp), Nat.le_refl _, by decide⟩
  · show ([Str.ofString "a", Str.ofString "b", Str.ofString "c"] : List Str).Nodup
    decide +kernel
  · exact Nat.le_trans (List.length_filter_le _ _) (by decide)
  · rcases ms s hs with rfl | rfl | rfl
    · trivial
    · exact ⟨(itN_fit 9).mono hg, by rw [itN_sizes.1]; decide, by rw [itN_sizes.2]; decide⟩
    · refine ⟨fa.mono hg, ?_, ?_⟩
      · show deep andT + 1 ≤ 10
        rw [andT_sizes.1]
        decide
      · show 1 + wt andT ≤ 60
        rw [andT_sizes.2]
        decide
  · have hb : ¬ (Str.ofString "b" = Str.ofString "a") := by decide +kernel
    have hc : ¬ (Str.ofString "c" = Str.ofString "a") := by decide +kernel
    rcases ms s hs with rfl | rfl | rfl
    · cases hx
    · have e := na _ (itN_fit 9) x (by simpa [Sg.nms, Sg.terms] using hx)
      show (if x = Str.ofString "a" then 0 else 1) < (if Str.ofString "b" = Str.ofString "a" then 0 else 1)
      rw [if_pos e, if_neg hb]
      decide
    · have e := na _ fa x (by simpa [Sg.nms, Sg.terms] using hx)
      show (if x = Str.ofString "a" then 0 else 1) < (if Str.ofString "c" = Str.ofString "a" then 0 else 1)
      rw [if_pos e, if_neg hc]
      decide
  · rcases ms s hs with rfl | rfl | rfl <;> cases hf
theorem cut_drop {xs : List V} {n : Nat} : cutV xs (some (n : Int)) none = xs.drop n := by
  unfold cutV
  rw [HT.sIx_nat, HT.sIx_none]
  by_cases h : n ≤ xs.length
  · rw [Nat.min_eq_left h]
    exact List.take_of_length_le (by rw [List.length_drop]; exact Nat.le_refl _)
  · rw [Nat.min_eq_right (by omega), List.drop_length, List.drop_of_length_le (by omega), List.take_nil]
theorem st_facts {i : Nat} (h : i < 5) : 1 < (stT i).length ∧ (stT i).length ≤ 30 ∧ (joinT (stT i)).length ≤ 15 ∧ 2 * (joinT (stT i)).length ≤ (stT i).length ∧ (joinT (stT i)).length ≤ (pickL (stT i) 0 2).length ∧ (joinT (stT i)).length ≤ (pickL (stT i) 1 2).length ∧ ((pickL (stT i) 0 2).length ≤ (joinT (stT i)).length ∨ (pickL (stT i) 1 2).length ≤ (joinT (stT i)).length) ∧ (pickL (stT i) 0 2).length ≤ 15 ∧ (pickL (stT i) 1 2).length ≤ 15 := by
  obtain ⟨a0, a1, a2, a3, a4, a5⟩ := stT_len
  obtain ⟨b0, b1, b2, b3, b4⟩ := stT_join
  obtain ⟨c0, c1, c2, c3, c4⟩ := stT_pick
  have : i = 0 ∨ i = 1 ∨ i = 2 ∨ i = 3 ∨ i = 4 := by omega
  rcases this with rfl | rfl | rfl | rfl | rfl <;> omega
def spLDeep : Sp := fun vs H Q _ => vs = [] ∧ ∀ a H', LS H' a deepSg → Same H H' → Q (.ref a) H'
def LT (H : Hp) (a : Addr) (ts : List Tm) : Prop := ∃ xs, H a = some (.lst xs) ∧ All2 (RT H) ts xs
local macro_rules | `(tactic| walk_at "rd") => `(tactic| simp only [tYes, wipe, HO.lst.injEq, HO.tup.injEq, HO.dK.injEq, Nat.reduceAdd, Nat.reduceLeDiff, Nat.reduceSub, Int.reduceLE, Int.reduceLT, Int.reduceNeg, Nat.zero_add, Int.reduceEq, cut_head, cut_tail, cut_mid, cut_three, c_cast0, c_cast1, c_cast2, c_cast3, c_cast4, z_lit, List.getD_eq_getElem?_getD, Option.getD_some, tLc_eq, tFor_eq, cxOf, Cx.nox, Cx.wish, tSeq, tIfS, tOr, tAnd, tNot, tB, tCB, tCons, tVar, tC, tNil, tTest, tChain, rI0, rI, tOp, rIxS, rIxL, rIxT, tRet, tNext, tAsg, gName, tAndV, tOrV, tNotV, tIf, tIsN, tNotN, tCall, tDrop, tBM, tBM0, rEq, rNe, tRetN, tSl, tNoPart, tPart, tTupD, tLstD, tInD, rIsK, rLenS, rLenL, rLenT, rAllT, rAnyF, rInK, rInL, rSlLD, rSlTD, rSlS, rCatD, rCatTD, rAppD, rExtD, rPopD, rPopAtD, rListD, rTupleD, iLst, iTpl, iStr, rIxLH, rIxTH, gTupH, gLstH, gStar0, gStar1, gStar2, rSumH, rAddS2, tJoinS, tFmtS, tFmtI, tJoined, tJoined_nil, tJoined_cons, rIsG, app_empty, tFldD, sFldD, tMkD, tMoD, rIsC, rLenO, rEqO, HO.ins.injEq, exists_eq, tNilL, tML, tML0, tMS, iEnumH, tCallK, rStrI, tGetS, tGet1S, tGet2S, rListKD, tDc_eq, tLc2_eq, tKGet, gCons, gNil, tChain3, tPartD, tSplitD, tPar, New, Chg, rListTD, atI_0, atI_1, atI_2, atI_3, sign_inj, and_false, false_and, or_false, false_or, or_true, true_or, List.take_succ_cons, List.take_zero, List.drop_succ_cons, List.drop_zero, forall_const, exists_false, not_false_eq_true, not_true_eq_false, if_true, if_false, iRng1, KindV,
  L2.start, List.map_cons, List.map_nil, List.length_cons, List.length_nil, List.replicate, List.cons_append, List.nil_append, List.append_nil, List.set_cons_zero, List.set_cons_succ, List.getElem?_cons_zero, List.getElem?_cons_succ, Option.some.injEq, exists_eq_left', exists_eq_left, V.int.injEq, V.str.injEq, V.bl.injEq, V.ref.injEq, V.ty.injEq, true_and, and_true, List.cons.injEq, exists_and_left, exists_eq', and_assoc, scal, ofString_inj, String.reduceEq, reduceIte, decide_eq_true_eq, decide_eq_false_iff_not, Bool.not_true, Bool.not_false, Bool.not_eq_true', inV_cons, inV_nil, eqV_ss, eqV_ii, flatV, List.all_cons, List.all_nil, Bool.and_true, Bool.or_false, Bool.true_and, Bool.false_or, decide_true, decide_false, Bool.true_or, Bool.false_eq_true, reduceCtorEq, spLDeep, iZipH, tStepL, CMul])
local macro_rules | `(tactic| walk_at "ra") => `(tactic| simp only [tYes, wipe, HO.lst.injEq, HO.tup.injEq, HO.dK.injEq, Nat.reduceAdd, Nat.reduceLeDiff, Nat.reduceSub, Int.reduceLE, Int.reduceLT, Int.reduceNeg, Nat.zero_add, Int.reduceEq, cut_head, cut_tail, cut_mid, cut_three, c_cast0, c_cast1, c_cast2, c_cast3, c_cast4, z_lit, List.getD_eq_getElem?_getD, Option.getD_some, tLc_eq, tFor_eq, cxOf, Cx.nox, Cx.wish, tSeq, tIfS, tOr, tAnd, tNot, tB, tCB, tCons, tVar, tC, tNil, tTest, tChain, rI0, rI, tOp, rIxS, rIxL, rIxT, tRet, tNext, tAsg, gName, tAndV, tOrV, tNotV, tIf, tIsN, tNotN, tCall, tDrop, tBM, tBM0, rEq, rNe, tRetN, tSl, tNoPart, tPart, tTupD, tLstD, tInD, rIsK, rLenS, rLenL, rLenT, rAllT, rAnyF, rInK, rInL, rSlLD, rSlTD, rSlS, rCatD, rCatTD, rAppD, rExtD, rPopD, rPopAtD, rListD, rTupleD, iLst, iTpl, iStr, rIxLH, rIxTH, gTupH, gLstH, gStar0, gStar1, gStar2, rSumH, rAddS2, tJoinS, tFmtS, tFmtI, tJoined, tJoined_nil, tJoined_cons, rIsG, app_empty, tFldD, sFldD, tMkD, tMoD, rIsC, rLenO, rEqO, HO.ins.injEq, exists_eq, tNilL, tML, tML0, tMS, iEnumH, tCallK, rStrI, tGetS, tGet1S, tGet2S, rListKD, tDc_eq, tLc2_eq, tKGet, gCons, gNil, tChain3, tPartD, tSplitD, tPar, New, Chg, rListTD, atI_0, atI_1, atI_2, atI_3, sign_inj, and_false, false_and, or_false, false_or, or_true, true_or, List.take_succ_cons, List.take_zero, List.drop_succ_cons, List.drop_zero, forall_const, exists_false, not_false_eq_true, not_true_eq_false, if_true, if_false, iRng1, KindV,
  L2.start, List.map_cons, List.map_nil, List.length_cons, List.length_nil, List.replicate, List.cons_append, List.nil_append, List.append_nil, List.set_cons_zero, List.set_cons_succ, List.getElem?_cons_zero, List.getElem?_cons_succ, Option.some.injEq, exists_eq_left', exists_eq_left, V.int.injEq, V.str.injEq, V.bl.injEq, V.ref.injEq, V.ty.injEq, true_and, and_true, List.cons.injEq, exists_and_left, exists_eq', and_assoc, scal, ofString_inj, String.reduceEq, reduceIte, decide_eq_true_eq, decide_eq_false_iff_not, Bool.not_true, Bool.not_false, Bool.not_eq_true', inV_cons, inV_nil, eqV_ss, eqV_ii, flatV, List.all_cons, List.all_nil, Bool.and_true, Bool.or_false, Bool.true_and, Bool.false_or, decide_true, decide_false, Bool.true_or, Bool.false_eq_true, reduceCtorEq, spLDeep, iZipH, tStepL, CMul, *])

section
variable {P : Program} {w : World} {K : PySem.W.Frag} {mg : Str → Option Value} {base : Heap} {k : Nat}
theorem ok_law_deep (T : TX K mg) (D : DF K mg "_law_deep" s__law_deep [] []) : FO P w K mg base "_law_deep" (k + 1) [] [] spLDeep := by
  refine D.ok sc__law_deep (fun vs H Q E h => ?_) (fun fa cdv A outer s H vs Q E hr h => ?_)
  · obtain ⟨rfl, _⟩ := h
    rfl
  obtain ⟨rfl, q⟩ := h
  refine ⟨_, (pss_cons (ps_set (i := 0) sc__law_deep.nd rfl (Or.inl rfl) (pe_tupD (pa_cons pe_str (pa_cons pe_str pa_nil))))
    (pss_cons (ps_for PassesOwn.never rfl (pi_range1 rfl T.range (pa_cons pe_int pa_nil)) (pg_name (i := 1) sc__law_deep.nd rfl (Or.inl rfl))
      (pss_one (ps_set (i := 0) sc__law_deep.nd rfl (Or.inl rfl) (pe_tupD (pa_cons pe_str (pa_cons (pv 0) pa_nil))))))
    (pss_cons (ps_setLc (i := 2) (own := [("_law_leaf_here", 4)]) (tt := tYes) rfl sc__law_deep.nd rfl rfl (sw_true rfl rfl rfl (by decide +kernel)) (pi_range1 rfl T.range (pa_cons pe_int pa_nil)) (blkOk_by (N := ["_law_deep_here", "_law_turn", "_law_some", "_law_joined", "_law_leaf_here", "_law_one", "_law_other"]) (sc := defScope s__law_deep) (by decide +kernel)) (fun _ _ _ _ _ => (pg_name (i := 4) sc__law_deep.nd rfl (Or.inl rfl))) (fun _ _ _ _ _ => pts_nil) (fun _ _ _ _ _ => (pe_tupD (pa_cons pe_str (pa_cons pe_str pa_nil)))))
    (pss_cons (ps_while PassesOwn.never (pt_cmpR op_gt (pe_callB call_lenL rfl T.len PySem.boot_len (pa_cons (pv 2) pa_nil)) pe_int (nomark _))
      (pss_cons (ps_setLc (i := 3) (own := [("_law_one", 5), ("_law_other", 6)]) (tt := tYes) rfl sc__law_deep.nd rfl rfl (sw_true rfl rfl rfl (by decide +kernel)) (pi_zipD (by rfl) T.zip (pa_cons (pe_step (c := 0) (m := 2) (pv 2) (by decide)) (pa_cons (pe_step (c := 1) (m := 2) (pv 2) (by decide)) pa_nil))) (blkOk_by (N := ["_law_deep_here", "_law_turn", "_law_some", "_law_joined", "_law_leaf_here", "_law_one", "_law_other"]) (sc := defScope s__law_deep) (by decide +kernel)) (fun _ _ _ _ _ => (pg_tpl 2 rfl (pgs_cons (pg_name (i := 5) sc__law_deep.nd rfl (Or.inl rfl)) (pgs_cons (pg_name (i := 6) sc__law_deep.nd rfl (Or.inl rfl)) pgs_nil)))) (fun _ _ _ _ _ => pts_nil) (fun _ _ _ _ _ => (pe_tupD (pa_cons pe_str (pa_cons (pv 5) (pa_cons (pv 6) pa_nil))))))
    (pss_one (ps_set (i := 2) sc__law_deep.nd rfl (Or.inl rfl) (pe_op op_catD (pv 3) (pe_slice sl_listD (pv 2) (po_some (pe_op op_mul pe_int (pe_callB call_lenL rfl T.len PySem.boot_len (pa_cons (pv 3) pa_nil)))) po_none))))))
    (pss_one (ps_ret (pe_lstD (pa_cons (pe_tupD (pa_cons pe_str (pa_cons pe_str (pa_cons pe_int (pa_cons pe_non pa_nil))))) (pa_cons (pe_tupD (pa_cons pe_str (pa_cons pe_str (pa_cons pe_int (pa_cons (pv 0) pa_nil))))) (pa_cons (pe_tupD (pa_cons pe_str (pa_cons pe_str (pa_cons pe_int (pa_cons (pe_tupD (pa_cons pe_str (pa_cons (pe_ix ix_lst (pv 2) pe_int (fun _ _ => rfl)) pa_nil))) pa_nil))))) pa_nil)))))))))), ?_⟩
  refine seq_i fun M hM => ?_
  walk_at "rd"
  intro p1 H1 hp1 s1 hl1
  subst hM
  refine seq_i fun M hM => ?_
  walk_at "rd"
  refine ⟨by decide, by decide, ?_⟩
  obtain ⟨Pv, hP⟩ : ∃ Pv : Nat → St → Hp → Prop, ∀ i σ H', Pv i σ H' ↔ ∃ v o1, σ = [some v, o1, none, none, none, none, none] ∧ Same H H' ∧ RT H' (itN i) v := ⟨_, fun _ _ _ => Iff.rfl⟩
  refine for_gen (wk_rng (lo := 0) (n := 9)) Pv ((hP _ _ _).mpr ⟨_, none, rfl, s1, p1, rfl, hl1⟩) (fun _ _ _ _ _ => trivial) (fun i σ H2 hi z => ?_) (fun σ H2 z => ?_)
  · obtain ⟨v, o1, rfl, s2, hv⟩ := (hP _ _ _).mp z
    walk_at "rd"
    exact fun p3 H3 hp3 s3 hl3 => (hP _ _ _).mpr ⟨_, _, rfl, s2.trans s3, p3, v, rfl, hl3, RT.tk (same_tk s3) _ _ hv⟩
  obtain ⟨v, o1, rfl, s2, hv⟩ := (hP _ _ _).mp z
  clear hP z
  show M _ _
  subst hM
  refine seq_i fun M hM => ?_
  walk_at "rd"
  refine ⟨by decide, by decide, ?_⟩
  refine lc_map (wk_rng (lo := 0) (n := 30)) (fun _ _ => trivial) (fun i y H => RT H (.of "a") y) (by decide) (fun _ _ _ _ r k => RT.tk k _ _ r) (fun i H3 Ky hi s3 ky => ?_) (fun D3 ys H3 s3 hD3 hl3 hly hy => ?_) mg_name
  · walk_at "rd"
    exact fun p4 H4 hp4 s4 hl4 => ky _ _ s4 ⟨p4, rfl, hl4⟩
  have hl0 : LT H3 D3 (stT 0) := by
    refine ⟨ys, hl3, ?_⟩
    refine all2_of (by rw [hly]; exact stT_len.1.symm) fun i y e => ⟨.of "a", ?_, hy i y e⟩
    have hi : i < 30 := by
      have := (List.getElem?_eq_some_iff.mp e).1
      omega
    show (List.replicate 30 (Tm.of "a"))[i]? = _
    rw [List.getElem?_replicate, if_pos hi]
  have s03 := s2.trans s3
  have hv3 := RT.tk (same_tk s3) _ _ hv
  subst hM
  refine seq_i fun M hM => ?_
  obtain ⟨Pw, hW⟩ : ∃ Pw : Nat → St → Hp → Prop, ∀ j σ H', Pw j σ H' ↔ ∃ i pc o3 o4 o5 o6, j = 5 - i ∧ i ≤ 5 ∧ σ = [some v, o1, some (V.ref pc), o3, o4, o5, o6] ∧ Same H H' ∧ LT H' pc (stT i) ∧ RT H' (itN 9) v := ⟨_, fun _ _ _ => Iff.rfl⟩
  refine ⟨Pw, ⟨5, (hW _ _ _).mpr ⟨0, D3, none, none, none, none, rfl, by decide, rfl, s03, hl0, hv3⟩⟩, fun j σ H4 z => ?_⟩
  obtain ⟨i, pc, o3, o4, o5, o6, rfl, hi, rfl, s4, ⟨xs, hx4, hal4⟩, hv4⟩ := (hW _ _ _).mp z
  have hWi := fun j σ H' => (hW j σ H').mpr
  clear hW z
  have hxl := all2_len hal4
  walk_at "rd"
  refine ⟨_, hx4, ?_⟩
  by_cases hlt : i < 5
  · obtain ⟨f1, f2, f3, f4, f5, f6, f7, f8, f9⟩ := st_facts hlt
    rw [if_pos (by omega)]
    refine ⟨fun σ' H' => ∃ m', m' < 5 - i ∧ Pw m' σ' H', fun σ' H' z => z, ?_⟩
    have g0 := all2_len (pair_pickL hal4 (c := 0) (m := 2))
    have g1 := all2_len (pair_pickL hal4 (c := 1) (m := 2))
    refine ⟨_, hx4, by omega, fun p5 H5 hp5 s5 hl5 => ⟨_, s5 _ _ hx4, by omega, fun p6 H6 hp6 s6 hl6 => ⟨_, s6 _ _ hl5, _, hl6, ?_⟩⟩⟩
    have s46 := s5.trans s6
    have a0 : All2 (RT H6) (pickL (stT i) 0 2) (pickL xs 0 2) := all2_mono (fun _ _ z => RT.tk (same_tk s46) _ _ z) (pair_pickL hal4)
    have a1 : All2 (RT H6) (pickL (stT i) 1 2) (pickL xs 1 2) := all2_mono (fun _ _ z => RT.tk (same_tk s46) _ _ z) (pair_pickL hal4)
    refine lc_zip (s6 _ _ hl5) hl6 (joinT (stT i)).length (by omega) (by omega) (by omega) (by omega) (fun j acc H => All2 (RT H) ((joinT (stT i)).take j) acc ∧ acc.length = j) (fun _ _ _ u => u.2) (fun j acc H H' u k => ⟨all2_mono (fun _ _ z => RT.tk k _ _ z) u.1, u.2⟩) (fun _ _ => ⟨.nil, rfl⟩) (fun j acc H7 T x y H8 Ky Kn hj hxj hyj s7 u s8 hT ky => ?_) (fun D7 acc H7 s7 hD7 hl7 u => ?_)
    · obtain ⟨ta, hta, ra⟩ := all2_at a0 hxj
      obtain ⟨tb, htb, rb⟩ := all2_at a1 hyj
      have hjt : (joinT (stT i))[j]? = some (.b "and" ta tb) := by
        unfold joinT
        rw [List.getElem?_zipWith, hta, htb]
      have k68 := same_tk (s7.trans s8)
      walk_at "rd"
      refine ⟨_, hT, rfl, _, _, rfl, _, _, rfl, rfl, fun p9 H9 hp9 s9 hl9 => ky _ _ s9 ⟨?_, by simp [u.2]⟩⟩
      rw [take_snoc hjt]
      exact all2_snoc (all2_mono (fun _ _ z => RT.tk (same_tk (s8.trans s9)) _ _ z) u.1) ⟨p9, x, y, rfl, hl9, RT.tk (k68.trans (same_tk s9)) _ _ ra, RT.tk (k68.trans (same_tk s9)) _ _ rb⟩
    · obtain ⟨u1, u2⟩ := u
      rw [List.take_length] at u1
      have s47 := s46.trans s7
      refine ⟨D7, rfl, _, hl7, .inl ⟨by decide, by decide⟩, _, s47 _ _ hx4, fun p8 H8 hp8 s8 hl8 => ⟨D7, rfl, _, s8 _ _ hl7, _, hl8, ?_, fun p9 H9 hp9 s9 hl9 => ⟨5 - (i + 1), by omega, hWi _ _ _ ⟨i + 1, p9, _, o4, o5, o6, rfl, by omega, rfl, ((s4.trans s47).trans s8).trans s9, ⟨_, hl9, ?_⟩, RT.tk (same_tk ((s47.trans s8).trans s9)) _ _ hv4⟩⟩⟩⟩
      · have : (cutV xs (some (2 * (acc.length : Int))) none).length ≤ xs.length := by
          rw [show (2 * (acc.length : Int)) = ((2 * acc.length : Nat) : Int) from by omega, cut_drop, List.length_drop]
          omega
        omega
      · rw [show (2 * (acc.length : Int)) = ((2 * acc.length : Nat) : Int) from by omega, cut_drop]
        have hdr : All2 (RT H9) ((stT i).drop (2 * acc.length)) (xs.drop (2 * acc.length)) := all2_drop _ (all2_mono (fun _ _ z => RT.tk (same_tk ((s47.trans s8).trans s9)) _ _ z) hal4)
        rw [u2] at hdr ⊢
        exact all2_append (all2_mono (fun _ _ z => RT.tk (same_tk (s8.trans s9)) _ _ z) u1) hdr
  · have e : i = 5 := by omega
    subst e
    have h5 := stT_len.2.2.2.2.2
    rw [if_neg (by omega)]
    subst hM
    walk_at "rd"
    rw [andT_is] at hal4
    obtain ⟨x0, rfl⟩ : ∃ x0, xs = [x0] := by
      cases hal4 with
      | cons _ t => cases t; exact ⟨_, rfl⟩
    have hr0 : RT H4 andT x0 := by
      cases hal4 with
      | cons r _ => exact r
    intro p5 H5 hp5 s5 hl5 p6 H6 hp6 s6 hl6
    refine ⟨_, s6 _ _ (s5 _ _ hx4), _, atI_0, fun p7 H7 hp7 s7 hl7 p8 H8 hp8 s8 hl8 p9 H9 hp9 s9 hl9 => ?_⟩
    have s49 := (((s5.trans s6).trans s7).trans s8).trans s9
    refine q p9 H9 ⟨_, hl9, .cons ⟨p5, .non, rfl, (((s6.trans s7).trans s8).trans s9) _ _ hl5, rfl⟩ (.cons ⟨p6, v, rfl, ((s7.trans s8).trans s9) _ _ hl6, RT.tk (same_tk s49) _ _ hv4⟩ (.cons ⟨p8, .ref p7, rfl, s9 _ _ hl8, p7, x0, rfl, (s8.trans s9) _ _ hl7, RT.tk (same_tk s49) _ _ hr0⟩ .nil))⟩ (s4.trans s49)
end
end K37
set_option maxHeartbeats 4000000
namespace K37
open PySem L2 TL
open PyProof.Rows hiding St
theorem sc_law : FnScope ["_law_script", "_law_k", "_law_none", "_law_pot_here", "_law_signals", "_law_blocks_here", "_law_row"] ["_law_script"] (defScope s_law) := ⟨rfl, rfl, rfl, by decide +kernel, rfl, by decide +kernel, by decide +kernel⟩

def isInp : Sg → Bool
  | .inp _ _ => true
  | _ => false
theorem valid_nil {sg : List Sg} {bl : List Bk} (V : Valid sg bl) : Valid sg [] := by
  refine ⟨V.nm, ?_, V.ls, V.lw, by decide, V.wh, ⟨fun n => n, fun k hk => (by cases hk)⟩, V.rank, V.plain⟩
  rw [List.map_nil, List.append_nil]
  exact (List.nodup_append.mp V.nd).1
theorem inp_is {s : Sg} (h : isInp s = true) : ∃ n k, s = .inp n k := by
  cases s with
  | inp n k => exact ⟨n, k, rfl⟩
  | _ => cases h
theorem valid_inp {sg : List Sg} (V : Valid sg []) : Valid (sg.filter isInp) [] := by
  have hm : ∀ s ∈ sg.filter isInp, s ∈ sg ∧ ∃ n k, s = .inp n k := fun s hs => ⟨(List.mem_filter.mp hs).1, inp_is (List.mem_filter.mp hs).2⟩
  refine ⟨fun s hs => V.nm s (hm s hs).1, ?_, Nat.le_trans (List.length_filter_le _ _) V.ls, ?_, by decide, fun s hs => ?_, ⟨fun n => n, fun k hk => (by cases hk)⟩, ⟨fun _ => 0, fun s hs x hx => ?_⟩, ⟨fun _ => True, fun _ _ _ _ _ => trivial, fun s hs hf => ?_⟩⟩
  · rw [List.map_nil, List.append_nil]
    exact ((List.filter_sublist (p := isInp) (l := sg)).map Sg.name).nodup (List.nodup_append.mp V.nd).1
  · refine Nat.le_trans (Nat.le_of_eq ?_) (Nat.zero_le 8)
    rw [List.length_eq_zero_iff, List.filter_eq_nil_iff]
    intro s hs
    obtain ⟨_, n, k, rfl⟩ := hm s hs
    exact Bool.false_ne_true
  · obtain ⟨_, n, k, rfl⟩ := hm s hs
    trivial
  · obtain ⟨_, n, k, rfl⟩ := hm s hs
    cases hx
  · obtain ⟨_, n, k, rfl⟩ := hm s hs
    cases hf
theorem valid_empty : Valid [] [] := ⟨fun s hs => (by cases hs), List.nodup_nil, by decide, by decide, by decide, fun s hs => (by cases hs), ⟨fun n => n, fun k hk => (by cases hk)⟩, ⟨fun _ => 0, fun s hs => (by cases hs)⟩, ⟨fun _ => True, fun s hs => (by cases hs), fun s hs => (by cases hs)⟩⟩
theorem dtext_empty : dtext [] [] = Str.ofString "" := by decide +kernel
theorem sqL_same {K : PySem.W.Frag} {H H' : Hp} {a : Addr} {xs : List V} (h : SqL K H a xs) (s : Same H H') : SqL K H' a xs := by
  rcases h with (h | ⟨o, h⟩) | h
  · exact .inl (.inl (s _ _ h))
  · exact .inl (.inr ⟨o, s _ _ h⟩)
  · exact .inr h
section
variable {X : Cx} {x : Str} {k : Nat} {ps : List Str} {dvs : List V} {sp : Sp} {p pos : Pos}
theorem pe_fo0 (F : FO X.prog X.w X.K X.mg X.base x k ps dvs sp) (hr : Room k X.A) (hg : Gl X x := by rfl) (hdb : (x == ("__debug__" : Str)) = false := by decide) : PE X (.Call (.Name x p) [] [] pos) (tCall sp dvs E0 tNil) := by
  obtain ⟨f, fd, ds, a, b, c, d, e⟩ := F.ex
  exact pe_call0 e hr hg a b c d pass0 hdb
end
theorem sort_inp (s : Sg) : (s.sort = Str.ofString "input") ↔ isInp s = true := by
  cases s with
  | inp n k => exact ⟨fun _ => rfl, fun _ => rfl⟩
  | kept n k v => exact ⟨fun h => absurd h (by show ¬ (Str.ofString "kept" = Str.ofString "input"); decide +kernel), fun h => by cases h⟩
  | wire n k t => exact ⟨fun h => absurd h (by show ¬ (Str.ofString "wire" = Str.ofString "input"); decide +kernel), fun h => by cases h⟩
  | filt n k t => exact ⟨fun h => absurd h (by show ¬ (Str.ofString "filter" = Str.ofString "input"); decide +kernel), fun h => by cases h⟩
  | bus n k ds => exact ⟨fun h => absurd h (by show ¬ (Str.ofString "bus" = Str.ofString "input"); decide +kernel), fun h => by cases h⟩
def spLaw (K : PySem.W.Frag) : Sp := fun vs H Q _ => ∃ (a : Addr) (ns : List Int), vs = [.ref a] ∧ SqL K H a (ns.map V.int) ∧ ns.length ≤ 63 ∧ ∀ H', Q (.bl true) H'
local macro_rules | `(tactic| walk_at "rd") => `(tactic| simp only [tYes, wipe, HO.lst.injEq, HO.tup.injEq, HO.dK.injEq, Nat.reduceAdd, Nat.reduceLeDiff, Nat.reduceSub, Int.reduceLE, Int.reduceLT, Int.reduceNeg, Nat.zero_add, Int.reduceEq, cut_head, cut_tail, cut_mid, cut_three, c_cast0, c_cast1, c_cast2, c_cast3, c_cast4, z_lit, List.getD_eq_getElem?_getD, Option.getD_some, tLc_eq, tFor_eq, cxOf, Cx.nox, Cx.wish, tSeq, tIfS, tOr, tAnd, tNot, tB, tCB, tCons, tVar, tC, tNil, tTest, tChain, rI0, rI, tOp, rIxS, rIxL, rIxT, tRet, tNext, tAsg, gName, tAndV, tOrV, tNotV, tIf, tIsN, tNotN, tCall, tDrop, tBM, tBM0, rEq, rNe, tRetN, tSl, tNoPart, tPart, tTupD, tLstD, tInD, rIsK, rLenS, rLenL, rLenT, rAllT, rAnyF, rInK, rInL, rSlLD, rSlTD, rSlS, rCatD, rCatTD, rAppD, rExtD, rPopD, rPopAtD, rListD, rTupleD, iLst, iTpl, iStr, rIxLH, rIxTH, gTupH, gLstH, gStar0, gStar1, gStar2, rSumH, rAddS2, tJoinS, tFmtS, tFmtI, tJoined, tJoined_nil, tJoined_cons, rIsG, app_empty, tFldD, sFldD, tMkD, tMoD, rIsC, rLenO, rEqO, HO.ins.injEq, exists_eq, tNilL, tML, tML0, tMS, iEnumH, tCallK, rStrI, tGetS, tGet1S, tGet2S, rListKD, tDc_eq, tLc2_eq, tKGet, gCons, gNil, tChain3, tPartD, tSplitD, tPar, New, Chg, rListTD, atI_0, atI_1, atI_2, atI_3, sign_inj, and_false, false_and, or_false, false_or, or_true, true_or, List.take_succ_cons, List.take_zero, List.drop_succ_cons, List.drop_zero, forall_const, exists_false, not_false_eq_true, not_true_eq_false, if_true, if_false, iRng1, KindV,
  L2.start, List.map_cons, List.map_nil, List.length_cons, List.length_nil, List.replicate, List.cons_append, List.nil_append, List.append_nil, List.set_cons_zero, List.set_cons_succ, List.getElem?_cons_zero, List.getElem?_cons_succ, Option.some.injEq, exists_eq_left', exists_eq_left, V.int.injEq, V.str.injEq, V.bl.injEq, V.ref.injEq, V.ty.injEq, true_and, and_true, List.cons.injEq, exists_and_left, exists_eq', and_assoc, scal, ofString_inj, String.reduceEq, reduceIte, decide_eq_true_eq, decide_eq_false_iff_not, Bool.not_true, Bool.not_false, Bool.not_eq_true', inV_cons, inV_nil, eqV_ss, eqV_ii, flatV, List.all_cons, List.all_nil, Bool.and_true, Bool.or_false, Bool.true_and, Bool.false_or, decide_true, decide_false, Bool.true_or, Bool.false_eq_true, reduceCtorEq, spLPot, spLDesign, spLDText, spLRight, spLDeep, spReadDesign, spDesignText, spBlocks, spLenD, spLaw, rLenQ])
local macro_rules | `(tactic| walk_at "ra") => `(tactic| simp only [tYes, wipe, HO.lst.injEq, HO.tup.injEq, HO.dK.injEq, Nat.reduceAdd, Nat.reduceLeDiff, Nat.reduceSub, Int.reduceLE, Int.reduceLT, Int.reduceNeg, Nat.zero_add, Int.reduceEq, cut_head, cut_tail, cut_mid, cut_three, c_cast0, c_cast1, c_cast2, c_cast3, c_cast4, z_lit, List.getD_eq_getElem?_getD, Option.getD_some, tLc_eq, tFor_eq, cxOf, Cx.nox, Cx.wish, tSeq, tIfS, tOr, tAnd, tNot, tB, tCB, tCons, tVar, tC, tNil, tTest, tChain, rI0, rI, tOp, rIxS, rIxL, rIxT, tRet, tNext, tAsg, gName, tAndV, tOrV, tNotV, tIf, tIsN, tNotN, tCall, tDrop, tBM, tBM0, rEq, rNe, tRetN, tSl, tNoPart, tPart, tTupD, tLstD, tInD, rIsK, rLenS, rLenL, rLenT, rAllT, rAnyF, rInK, rInL, rSlLD, rSlTD, rSlS, rCatD, rCatTD, rAppD, rExtD, rPopD, rPopAtD, rListD, rTupleD, iLst, iTpl, iStr, rIxLH, rIxTH, gTupH, gLstH, gStar0, gStar1, gStar2, rSumH, rAddS2, tJoinS, tFmtS, tFmtI, tJoined, tJoined_nil, tJoined_cons, rIsG, app_empty, tFldD, sFldD, tMkD, tMoD, rIsC, rLenO, rEqO, HO.ins.injEq, exists_eq, tNilL, tML, tML0, tMS, iEnumH, tCallK, rStrI, tGetS, tGet1S, tGet2S, rListKD, tDc_eq, tLc2_eq, tKGet, gCons, gNil, tChain3, tPartD, tSplitD, tPar, New, Chg, rListTD, atI_0, atI_1, atI_2, atI_3, sign_inj, and_false, false_and, or_false, false_or, or_true, true_or, List.take_succ_cons, List.take_zero, List.drop_succ_cons, List.drop_zero, forall_const, exists_false, not_false_eq_true, not_true_eq_false, if_true, if_false, iRng1, KindV,
  L2.start, List.map_cons, List.map_nil, List.length_cons, List.length_nil, List.replicate, List.cons_append, List.nil_append, List.append_nil, List.set_cons_zero, List.set_cons_succ, List.getElem?_cons_zero, List.getElem?_cons_succ, Option.some.injEq, exists_eq_left', exists_eq_left, V.int.injEq, V.str.injEq, V.bl.injEq, V.ref.injEq, V.ty.injEq, true_and, and_true, List.cons.injEq, exists_and_left, exists_eq', and_assoc, scal, ofString_inj, String.reduceEq, reduceIte, decide_eq_true_eq, decide_eq_false_iff_not, Bool.not_true, Bool.not_false, Bool.not_eq_true', inV_cons, inV_nil, eqV_ss, eqV_ii, flatV, List.all_cons, List.all_nil, Bool.and_true, Bool.or_false, Bool.true_and, Bool.false_or, decide_true, decide_false, Bool.true_or, Bool.false_eq_true, reduceCtorEq, spLPot, spLDesign, spLDText, spLRight, spLDeep, spReadDesign, spDesignText, spBlocks, spLenD, spLaw, rLenQ, *])

section
variable {P : Program} {w : World} {K : PySem.W.Frag} {mg : Str → Option Value} {base : Heap} {k k0 : Nat} {C : Addr}
theorem ok_law (T : TX K mg) (kD : KCls K mg "Design" C) (D : DF K mg "law" s_law ["_law_script"] []) (G__law_pot : FO P w K mg base "_law_pot" k ["_law_script", "_law_k"] [] (spLPot K)) (G__law_design : FO P w K mg base "_law_design" k ["_law_pot_here"] [] spLDesign)
    (G__law_design_text : FO P w K mg base "_law_design_text" k ["_law_signals", "_law_blocks_here"] [] spLDText) (G__law_right : FG P w K mg base "_law_right" k ["_law_signals", "_law_blocks_here"] spLRight) (G__law_deep : FO P w K mg base "_law_deep" k [] [] spLDeep)
    (G_read_design : FO P w K mg base "read_design" k ["text"] [] (spReadDesign C)) (G_design_text : FO P w K mg base "design_text" k ["design"] [] (spDesignText C)) (G_blocks : FM P w K mg base C "blocks" k ["self"] [] (spBlocks C)) (G_len : FM P w K mg base C "__len__" k0 ["self"] [] (spLenD C)) (hk0 : k0 + 1 ≤ k) :
    FG P w K mg base "law" (k + 1) ["_law_script"] (spLaw K) := by
  refine D.okG sc_law (fun vs H Q E h => ?_) (fun fa cdv A outer s H vs Q E hgd hr h => ?_)
  · obtain ⟨_, _, rfl, _⟩ := h
    rfl
  obtain ⟨a, ns, rfl, hS, hns, q⟩ := h
  have hrl := hr.mono hk0
  refine ⟨_, (pss_cons (ps_for PassesOwn.never rfl (pi_range1 rfl T.range (pa_cons (pe_callB (call_max2 rfl) rfl T.max (by decide +kernel) (pa_cons pe_int (pa_cons (pe_callB (call_min2 rfl) rfl T.min (by decide +kernel) (pa_cons (pe_callB call_lenQ rfl T.len PySem.boot_len (pa_cons (pv 0) pa_nil)) (pa_cons pe_int pa_nil))) pa_nil))) pa_nil)) (pg_name (i := 1) sc_law.nd rfl (Or.inl rfl))
      (pss_cons (ps_set (i := 3) sc_law.nd rfl (Or.inl rfl) (pe_fo G__law_pot hr (pa_cons (pv 0) (pa_cons (pv 1) pa_nil))))
    (pss_cons (ps_asg (pe_fo G__law_design hr (pa_cons (pv 3) pa_nil)) (pg_tpl 2 rfl (pgs_cons (pg_name (i := 4) sc_law.nd rfl (Or.inl rfl)) (pgs_cons (pg_name (i := 5) sc_law.nd rfl (Or.inl rfl)) pgs_nil))))
    (pss_cons (ps_if (pt_cmpR op_gt (pe_callB call_lenS rfl T.len PySem.boot_len (pa_cons (pe_fo G__law_design_text hr (pa_cons (pv 4) (pa_cons (pv 5) pa_nil))) pa_nil)) pe_int (nomark _))
      (pss_one (ps_set (i := 5) sc_law.nd rfl (Or.inl rfl) (pe_lstD pa_nil)))
      pss_nil)
    (pss_cons (ps_if (pt_cmpR op_gt (pe_callB call_lenS rfl T.len PySem.boot_len (pa_cons (pe_fo G__law_design_text hr (pa_cons (pv 4) (pa_cons (pv 5) pa_nil))) pa_nil)) pe_int (nomark _))
      (pss_one (ps_setLc (i := 4) (own := [("_law_row", 6)]) (tt := _) rfl sc_law.nd rfl rfl (sw_true rfl rfl rfl (by decide +kernel)) (pi_lst (pv 4)) (blkOk_by (N := ["_law_script", "_law_k", "_law_none", "_law_pot_here", "_law_signals", "_law_blocks_here", "_law_row"]) (sc := defScope s_law) (by decide +kernel)) (fun _ _ _ _ _ => (pg_name (i := 6) sc_law.nd rfl (Or.inl rfl))) (fun _ _ _ _ _ => (pts_one (pt_cmpR op_eq (pe_ix ix_tpl (pv 6) pe_int (fun _ _ => rfl)) pe_str (nomark _)))) (fun _ _ _ _ _ => (pv 6))))
      pss_nil)
    (pss_one (ps_if (pt_not (pt_val (pe_fg G__law_right hgd hr (pa_cons (pv 4) (pa_cons (pv 5) pa_nil)))))
      (pss_one (ps_ret pe_bl))
      pss_nil)))))))
    (pss_cons (ps_set (i := 2) sc_law.nd rfl (Or.inl rfl) (pe_fo G_read_design hr (pa_cons pe_str pa_nil)))
    (pss_cons (ps_if (pt_not (pt_val (pe_fg G__law_right hgd hr (pa_cons (pe_fo0 G__law_deep hr) (pa_cons (pe_lstD pa_nil) pa_nil)))))
      (pss_one (ps_ret pe_bl))
      pss_nil)
    (pss_one (ps_ret (pe_and (pe_fg G__law_right hgd hr (pa_cons (pe_lstD pa_nil) (pa_cons (pe_lstD pa_nil) pa_nil))) (pe_and (pe_cmpR op_eq (pe_callB (call_lenO G_len hrl) rfl T.len PySem.boot_len (pa_cons (pv 2) pa_nil)) pe_int (nomark _)) (pe_and (pe_eqNilL hr.units (pe_mo0 kD.c G_blocks hr (pv 2))) (pe_one (pe_cmpR op_eq (pe_fo G_design_text hr (pa_cons (pv 2) pa_nil)) pe_str (nomark _))))))))))), ?_⟩
  refine seq_i fun M hM => ?_
  walk_at "rd"
  refine ⟨_, hS, by split <;> (try split) <;> omega, by split <;> (try split) <;> omega, ?_⟩
  have hN : (if (if (6 : Int) < ((ns.map V.int).length : Int) then (6 : Int) else ((ns.map V.int).length : Int)) > 1 then (if (6 : Int) < ((ns.map V.int).length : Int) then (6 : Int) else ((ns.map V.int).length : Int)) else 1).toNat ≤ 6 := by
    split <;> (try split) <;> omega
  generalize (if (if (6 : Int) < ((ns.map V.int).length : Int) then (6 : Int) else ((ns.map V.int).length : Int)) > 1 then (if (6 : Int) < ((ns.map V.int).length : Int) then (6 : Int) else ((ns.map V.int).length : Int)) else 1).toNat = N at hN ⊢
  obtain ⟨Pv, hP⟩ : ∃ Pv : Nat → St → Hp → Prop, ∀ i σ H', Pv i σ H' ↔ ∃ o1 o3 o4 o5, σ = [some (V.ref a), o1, none, o3, o4, o5, none] ∧ Same H H' := ⟨_, fun _ _ _ => Iff.rfl⟩
  refine for_gen (wk_rng (lo := 0) (n := N)) Pv ((hP _ _ _).mpr ⟨none, none, none, none, rfl, Same.refl _⟩) (fun _ _ _ _ _ => trivial) (fun i σ H1 hi z => ?_) (fun σ H1 z => ?_)
  · obtain ⟨o1, o3, o4, o5, rfl, s1⟩ := (hP _ _ _).mp z
    have hPi := fun i σ H' => (hP i σ H').mpr
    clear hP z
    refine seq_i fun M1 hM1 => ?_
    walk_at "rd"
    refine ⟨ns, sqL_same hS s1, by omega, by omega, fun p2 H2 hp2 s2 hpot => ?_⟩
    subst hM1
    refine seq_i fun M1 hM1 => ?_
    walk_at "rd"
    refine ⟨0, hpot, by omega, fun sg bl pa pb t3 H3 hv b3 ht3 hA hB => ⟨_, ht3, rfl, _, _, rfl, _, _, rfl, rfl, ?_⟩⟩
    have s3 : Same H H3 := fun c o hc => by
      have h1 := s1 _ _ hc
      exact b3 _ _ (fun z => by rw [z, hp2] at h1; cases h1) (s2 _ _ h1)
    have hdt := dtext_len hv
    subst hM1
    refine seq_i fun M1 hM1 => ?_
    -- the last test
    have last : ∀ (sg : List Sg) (bl : List Bk) (pa pb : Addr) (H' : Hp), Valid sg bl → LS H' pa sg → LK H' pb bl → Same H H' → (5900 < (dtext sg bl).length → bl = []) → M1 [some (V.ref a), some (V.int (0 + (i : Int))), none, some (V.ref p2), some (V.ref pa), some (V.ref pb), none] H' := fun sg bl pa pb H5 hv hA hB s5 hbig => by
      have hdt := dtext_len hv
      subst hM1
      refine seq_i fun M2 hM2 => ?_
      have right : ∀ (sg : List Sg) (bl : List Bk) (pa pb : Addr) (H' : Hp), Valid sg bl → LS H' pa sg → LK H' pb bl → Same H H' → M2 [some (V.ref a), some (V.int (0 + (i : Int))), none, some (V.ref p2), some (V.ref pa), some (V.ref pb), none] H' := fun sg bl pa pb H6 hv hA hB s6 => by
        subst hM2
        walk_at "rd"
        refine ⟨sg, hA, bl, hB, hv, fun H7 s7 => hPi _ _ _ ⟨_, _, _, _, rfl, s6.trans s7⟩⟩
      walk_at "rd"
      refine ⟨sg, hA, bl, hB, hv, fun H6 s6 => ⟨size_of hdt, ?_⟩⟩
      by_cases h59 : 5900 < ((dtext sg bl).length : Int)
      · rw [if_pos h59]
        have hb := hbig (by omega)
        subst hb
        obtain ⟨xs, hx, hal⟩ := hA.same s6
        have hlen := all2_len hal
        have hls := hv.ls
        refine ⟨_, hx, ?_⟩
        refine lc_gen (wk_lst (xs := xs)) (fun H s => s _ _ hx) (fun i acc H => All2 (RS H) ((sg.take i).filter isInp) acc) (by omega) (fun i acc H _ u => ?_) (fun i acc H H' u k => all2_mono (fun _ _ z => RS.tk k z) u) (fun _ _ => .nil) (fun i acc H7 Ky Kn hi s7 u ky kn => ?_) (fun D7 acc H7 s7 hD7 hl7 u => ?_)
        · rw [← all2_len u]
          exact Nat.le_trans (List.length_filter_le _ _) (List.length_take_le _ _)
        · have hget : xs[i]? = some (xs.getD i .non) := by simp [hi]
          obtain ⟨s', hs', hr'⟩ := all2_at hal hget
          have hr7 := RS.tk (same_tk s7) hr'
          obtain ⟨b', v', e, hb', hw'⟩ := id hr7
          rw [e]
          rw [e] at hr7
          have htk := take_snoc hs'
          walk_at "rd"
          refine ⟨_, hb', _, rfl, rfl, ?_⟩
          by_cases hin : isInp s' = true
          · rw [if_pos (congrArg V.str ((sort_inp s').mpr hin))]
            refine ky _ _ (Same.refl _) ?_
            rw [htk, List.filter_append]
            have : [s'].filter isInp = [s'] := by simp [hin]
            rw [this]
            exact all2_snoc u hr7
          · rw [if_neg (fun z => hin ((sort_inp s').mp (V.str.inj z)))]
            refine kn _ (Same.refl _) ?_
            rw [htk, List.filter_append]
            have : [s'].filter isInp = [] := by simp [hin]
            rw [this, List.append_nil]
            exact u
        · rw [List.take_of_length_le (by omega)] at u
          exact right (sg.filter isInp) [] D7 pb H7 (valid_inp hv) ⟨acc, hl7, u⟩ (hB.same (s6.trans s7)) ((s5.trans s6).trans s7)
      · rw [if_neg h59]
        exact right sg bl pa pb H6 hv (hA.same s6) (hB.same s6) (s5.trans s6)
    walk_at "rd"
    refine ⟨sg, hA, bl, hB, hv, fun H4 s4 => ⟨size_of hdt, ?_⟩⟩
    by_cases h59 : 5900 < ((dtext sg bl).length : Int)
    · rw [if_pos h59]
      intro p5 H5 hp5 s5 hl5
      exact last sg [] pa p5 H5 (valid_nil hv) (hA.same (s4.trans s5)) ⟨_, hl5, .nil⟩ ((s3.trans s4).trans s5) (fun _ => rfl)
    · rw [if_neg h59]
      exact last sg bl pa pb H4 hv (hA.same s4) (hB.same s4) (s3.trans s4) (fun h => absurd h (by omega))
  · obtain ⟨o1, o3, o4, o5, rfl, s1⟩ := (hP _ _ _).mp z
    show M _ _
    clear hP z
    subst hM
    refine seq_i fun M hM => ?_
    walk_at "rd"
    refine ⟨[], [], dtext_empty.symm, valid_empty, fun y2 H2 s2 hds2 => ?_⟩
    subst hM
    refine seq_i fun M hM => ?_
    walk_at "rd"
    refine fun pd H3 hd3 s3 p4 H4 hp4 s4 hl4 => ⟨deepSg, hd3.same s4, [], ⟨_, hl4, .nil⟩, deep_valid, fun H5 s5 => ?_⟩
    have hds5 := ((hds2.same s3).same s4).same s5
    obtain ⟨dx5, r5, q5, c5, d5, hy5, _⟩ := id hds5
    subst hM
    walk_at "rd"
    intro p6 H6 hp6 s6 hl6 p7 H7 hp7 s7 hl7
    refine ⟨[], ⟨_, s7 _ _ hl6, .nil⟩, [], ⟨_, hl7, .nil⟩, valid_empty, fun H8 s8 => ?_⟩
    have s58 := (s6.trans s7).trans s8
    have hy8 := s58 _ _ hy5
    refine ⟨_, _, hy8, [], [], hds5.same s58, Int.le_refl _, by decide, ?_⟩
    rw [if_pos (show ((([] : List Sg).length : Nat) : Int) = 0 from rfl)]
    refine ⟨_, _, hy8, ds_blocks, [], [], hds5.same s58, fun p9 H9 hp9 s9 hlk9 => ?_⟩
    obtain ⟨zs, hz9, haz⟩ := hlk9
    cases haz
    refine ⟨_, hz9, [], fun _ _ => .nil, by decide, fun H10 s10 => ?_⟩
    rw [if_pos (show ([] : List V).isEmpty = true from rfl)]
    refine ⟨[], [], ((hds5.same s58).same s9).same s10, valid_empty, fun H11 s11 => ?_⟩
    rw [decide_eq_true dtext_empty]
    exact q H11
end
end K37
set_option maxHeartbeats 4000000
namespace K37
open PySem L2 TL
open PyProof.Rows hiding St
theorem no_tw (vs : List V) (H : Hp) (Q : VK) (E : XK) : ¬ spTermWeight 0 vs H Q E := by
  rintro ⟨t, _, _, _, _, _, h, _⟩
  have := deep_pos t
  omega
theorem no_fit (vs : List V) (H : Hp) (Q : VK) (E : XK) : ¬ spFitting 0 vs H Q E := by
  rintro ⟨_, t, _, _, _, _, _, _, _, _, h, _⟩
  have := deep_pos t
  omega
theorem no_na (vs : List V) (H : Hp) (Q : VK) (E : XK) : ¬ spNamesAlong 0 vs H Q E := by
  rintro ⟨t, _, _, _, _, _, h, _⟩
  have := deep_pos t
  omega
theorem no_tt (vs : List V) (H : Hp) (Q : VK) (E : XK) : ¬ spTermText 0 vs H Q E := by
  rintro ⟨_, t, _, _, _, _, _, _, _, h, _⟩
  have := deep_pos t
  omega
theorem no_sb (vs : List V) (H : Hp) (Q : VK) (E : XK) : ¬ spSetBy 0 vs H Q E := by
  rintro ⟨_, _, _, _, _, _, _, _, _, _, _, _, h, _⟩
  omega
theorem no_bl (vs : List V) (H : Hp) (Q : VK) (E : XK) : ¬ spBodyLines 0 vs H Q E := by
  rintro ⟨_, _, _, _, _, _, _, _, _, _, _, _, _, h, _⟩
  omega
theorem no_lt (vs : List V) (H : Hp) (Q : VK) (E : XK) : ¬ spLTerm 0 vs H Q E := by
  rintro ⟨_, _, _, _, _, _, _, h, _⟩
  omega
theorem no_lb (vs : List V) (H : Hp) (Q : VK) (E : XK) : ¬ spLBody 0 vs H Q E := by
  rintro ⟨_, _, _, _, _, _, _, _, _, _, _, h, h', _⟩
  omega
theorem no_sw (vs : List V) (H : Hp) (Q : VK) (E : XK) : ¬ spStW 0 vs H Q E := by
  rintro ⟨_, _, _, b, _, _, _, _, _, _, _, hh, _, _, h, _⟩
  have := heads_pos hh
  omega
theorem no_si {C : Addr} (vs : List V) (H : Hp) (Q : VK) (E : XK) : ¬ spStIn C 0 vs H Q E := by
  rintro ⟨_, _, _, b, _, _, _, _, _, hh, _, _, _, h, _⟩
  have := heads_pos hh
  omega
theorem no_ra (vs : List V) (H : Hp) (Q : VK) (E : XK) : ¬ spReadAt 0 vs H Q E := by
  rintro ⟨_, t, _, _, _, _, _, _, _, _, _, _, _, _, h, _⟩
  have := deep_pos t
  omega
/-- all that the walk leans on -/
structure Dat (w : World) (K : PySem.W.Frag) (mg : Str → Option Value) (dA CD CL : Addr) : Prop where
  T : TX K mg
  kA : KA K w mg dA
  kD : KCls K mg "Design" CD
  kL : KCls K mg "Lines" CL
  D_is_value : DF K mg "is_value" s_is_value ["thing", "width"] [.int 0]
  DK_is_value : DFK K mg "is_value" s_is_value ["thing", "width"] 1 ["width"] fun vs zs => vs ++ zs
  D_is_name : DF K mg "is_name" s_is_name ["thing"] []
  D_is_whole : DF K mg "is_whole" s_is_whole ["thing"] []
  D_are_bounds : DF K mg "are_bounds" s_are_bounds ["things"] []
  D_leaf_weight : DF K mg "leaf_weight" s_leaf_weight ["word", "things"] []
  D_arguments_of : DF K mg "arguments_of" s_arguments_of ["word"] []
  D_term_weight0 : DF K mg "term_weight" s_term_weight ["thing", "deep"] []
  D_term_weight : DF K mg "term_weight" s_term_weight ["thing", "deep"] [.int 10]
  D_is_term : DF K mg "is_term" s_is_term ["thing"] []
  D_terms_in : DF K mg "terms_in" s_terms_in ["term"] []
  D_operated_width : DF K mg "operated_width" s_operated_width ["word", "widths"] []
  D_fitting_width : DF K mg "fitting_width" s_fitting_width ["term", "widths"] []
  D_width_of : DF K mg "width_of" s_width_of ["term", "widths"] []
  D_names_along : DF K mg "names_along" s_names_along ["term"] []
  D_names_in : DF K mg "names_in" s_names_in ["term"] []
  D_has_width : DF K mg "has_width" s_has_width ["term", "width", "widths"] []
  D_name_wrong : DF K mg "name_wrong" s_name_wrong ["name", "at", "taken"] []
  D_is_width : DF K mg "is_width" s_is_width ["thing"] []
  D_is_row : DF K mg "is_row" s_is_row ["thing"] []
  D_signal_wrong : DF K mg "signal_wrong" s_signal_wrong ["row", "at", "taken"] []
  D_signals_wrong : DF K mg "signals_wrong" s_signals_wrong ["signals"] []
  D_many_wrong : DF K mg "many_wrong" s_many_wrong ["signals", "blocks"] []
  D_is_driver : DF K mg "is_driver" s_is_driver ["thing", "width", "widths"] []
  D_are_drivers : DF K mg "are_drivers" s_are_drivers ["thing", "width", "widths"] []
  D_is_what : DF K mg "is_what" s_is_what ["row", "widths"] []
  D_widths_of : DF K mg "widths_of" s_widths_of ["signals"] []
  D_what_wrong : DF K mg "what_wrong" s_what_wrong ["signals"] []
  D_body_weight : DF K mg "body_weight" s_body_weight ["body", "widths", "kept", "deep"] []
  D_statement_weight : DF K mg "statement_weight" s_statement_weight ["statement", "widths", "kept", "deep"] []
  D_block_wrong : DF K mg "block_wrong" s_block_wrong ["row", "at", "taken", "signals"] []
  D_blocks_wrong : DF K mg "blocks_wrong" s_blocks_wrong ["signals", "blocks"] []
  D_set_by : DF K mg "set_by" s_set_by ["body", "word"] []
  D_terms_of : DF K mg "terms_of" s_terms_of ["row"] []
  D_both_wrong : DF K mg "both_wrong" s_both_wrong ["signals", "blocks"] []
  D_names_beside : DF K mg "names_beside" s_names_beside ["signals"] []
  D_hangs_on : DF K mg "hangs_on" s_hangs_on ["name", "beside"] []
  D_ring_wrong : DF K mg "ring_wrong" s_ring_wrong ["signals"] []
  D_first_clash : DF K mg "first_clash" s_first_clash ["signals", "blocks"] []
  D_Design___init__ : DC K CD "Design.__init__" s_Design___init__ ["self", "signals", "blocks"] []
  n_rows : NoAttr K CD "rows"
  n_parts : NoAttr K CD "parts"
  n_by_names : NoAttr K CD "by_names"
  n_beside : NoAttr K CD "beside"
  D_Design_signals : DM K CD "signals" "Design.signals" s_Design_signals ["self"] []
  D_Design_blocks : DM K CD "blocks" "Design.blocks" s_Design_blocks ["self"] []
  D_Design___len__ : DM K CD "__len__" "Design.__len__" s_Design___len__ ["self"] []
  D_Design___eq__ : DM K CD "__eq__" "Design.__eq__" s_Design___eq__ ["self", "other"] []
  D_term_text : DF K mg "term_text" s_term_text ["term"] []
  D_driver_text : DF K mg "driver_text" s_driver_text ["driver"] []
  D_what_text : DF K mg "what_text" s_what_text ["sort", "what"] []
  D_body_lines : DF K mg "body_lines" s_body_lines ["body", "ahead"] []
  D_design_text : DF K mg "design_text" s_design_text ["design"] []
  D_run_end : DF K mg "run_end" s_run_end ["text", "at", "signs"] []
  D_past : DF K mg "past" s_past ["text", "at", "word"] []
  D_read_number : DF K mg "read_number" s_read_number ["text", "at"] []
  D_read_operator : DF K mg "read_operator" s_read_operator ["text", "at", "word", "deep"] []
  D_read_at : DF K mg "read_at" s_read_at ["text", "at", "deep"] []
  D_read_term : DF K mg "read_term" s_read_term ["text"] []
  D_driver_in : DF K mg "driver_in" s_driver_in ["text"] []
  D_what_in : DF K mg "what_in" s_what_in ["sort", "text"] []
  D_signal_in : DF K mg "signal_in" s_signal_in ["line"] []
  D_Lines___init__ : DC K CL "Lines.__init__" s_Lines___init__ ["self", "rows"] []
  n_left : NoAttr K CL "left"
  D_Lines_is_over : DM K CL "is_over" "Lines.is_over" s_Lines_is_over ["self"] []
  D_Lines_begins : DM K CL "begins" "Lines.begins" s_Lines_begins ["self", "text"] []
  D_Lines_taken : DM K CL "taken" "Lines.taken" s_Lines_taken ["self"] []
  D_body_in : DF K mg "body_in" s_body_in ["lines", "ahead"] []
  D_statement_in : DF K mg "statement_in" s_statement_in ["lines", "ahead"] []
  D_block_in : DF K mg "block_in" s_block_in ["lines"] []
  D_design_in : DF K mg "design_in" s_design_in ["lines"] []
  D_read_design : DF K mg "read_design" s_read_design ["text"] []
  D__law_pot : DF K mg "_law_pot" s__law_pot ["_law_script", "_law_k"] []
  D__law_digit : DF K mg "_law_digit" s__law_digit ["_law_pot_here", "_law_many"] []
  D__law_width : DF K mg "_law_width" s__law_width ["_law_pot_here"] []
  D__law_value : DF K mg "_law_value" s__law_value ["_law_pot_here", "_law_width_here", "_law_signs"] []
  D__law_name : DF K mg "_law_name" s__law_name ["_law_pot_here", "_law_taken"] []
  D__law_leaf : DF K mg "_law_leaf" s__law_leaf ["_law_pot_here", "_law_names", "_law_width_here"] []
  D__law_term : DF K mg "_law_term" s__law_term ["_law_pot_here", "_law_names", "_law_width_here", "_law_deep_here"] []
  D__law_sources : DF K mg "_law_sources" s__law_sources ["_law_pot_here", "_law_taken"] []
  D__law_led : DF K mg "_law_led" s__law_led ["_law_pot_here", "_law_plain", "_law_every", "_law_taken", "_law_deep_here"] []
  D__law_body : DF K mg "_law_body" s__law_body ["_law_pot_here", "_law_kept", "_law_every", "_law_deep_here", "_law_room"] []
  D__law_blocks : DF K mg "_law_blocks" s__law_blocks ["_law_pot_here", "_law_signals", "_law_taken"] []
  D__law_design : DF K mg "_law_design" s__law_design ["_law_pot_here"] []
  D__law_term_text : DF K mg "_law_term_text" s__law_term_text ["_law_term_here"] []
  D__law_what_text : DF K mg "_law_what_text" s__law_what_text ["_law_row"] []
  D__law_body_lines : DF K mg "_law_body_lines" s__law_body_lines ["_law_body_here", "_law_ahead"] []
  D__law_lines : DF K mg "_law_lines" s__law_lines ["_law_signals", "_law_blocks_here"] []
  D__law_design_text : DF K mg "_law_design_text" s__law_design_text ["_law_signals", "_law_blocks_here"] []
  D__law_right : DF K mg "_law_right" s__law_right ["_law_signals", "_law_blocks_here"] []
  D__law_deep : DF K mg "_law_deep" s__law_deep [] []
  D_law : DF K mg "law" s_law ["_law_script"] []
theorem law_fg {P : Program} {w : World} {K : PySem.W.Frag} {mg : Str → Option Value} {base : Heap} {dA CD CL : Addr} (z : Dat w K mg dA CD CL) : FG P w K mg base "law" 37 ["_law_script"] (spLaw K) := by
  have L_is_value : FO P w K mg base "is_value" 1 ["thing", "width"] [.int 0] spIsValue := ok_is_value (k := 0) z.T z.D_is_value
  have K_is_value := okk_is_value (P := P) (w := w) (base := base) (k := 0) z.T z.DK_is_value
  have L_is_name : FO P w K mg base "is_name" 1 ["thing"] [] spIsName := ok_is_name (k := 0) z.T z.D_is_name
  have L_is_whole : FO P w K mg base "is_whole" 1 ["thing"] [] spIsWhole := ok_is_whole (k := 0) z.T z.D_is_whole
  have L_are_bounds : FO P w K mg base "are_bounds" 2 ["things"] [] spAreBounds := ok_are_bounds (k := 1) z.T z.D_are_bounds L_is_whole
  have L_leaf_weight : FO P w K mg base "leaf_weight" 2 ["word", "things"] [] spLeafWeight := ok_leaf_weight (k := 1) z.T z.D_leaf_weight L_is_name L_is_value
  have L_arguments_of : FO P w K mg base "arguments_of" 1 ["word"] [] spArgsOf := ok_arguments_of (k := 0) z.kA z.D_arguments_of
  have R_term_weight : ∀ n, FO P w K mg base "term_weight" (2 + n) ["thing", "deep"] [] (spTermWeight n) := fun n => by
    induction n with
    | zero => exact (z.D_term_weight0.zero no_tw).up (by omega)
    | succ n ih => exact ok_term_weight (k := 2 + n) z.T z.D_term_weight0 ih (L_leaf_weight.up (by omega)) (L_are_bounds.up (by omega)) (L_arguments_of.up (by omega))
  have L_term_weight : FO P w K mg base "term_weight" 12 ["thing", "deep"] [.int 10] (spTermWeight 10) := ok_term_weight (n := 9) (k := 11) z.T z.D_term_weight (R_term_weight 9) (L_leaf_weight.up (by decide)) (L_are_bounds.up (by decide)) (L_arguments_of.up (by decide))
  have L_is_term : FO P w K mg base "is_term" 13 ["thing"] [] spIsTerm := ok_is_term (k := 12) z.T z.D_is_term L_term_weight
  have L_terms_in : FO P w K mg base "terms_in" 1 ["term"] [] spTermsIn := ok_terms_in (k := 0) z.T z.D_terms_in
  have L_operated_width : FO P w K mg base "operated_width" 1 ["word", "widths"] [] spOperatedWidth := ok_operated_width (k := 0) z.T z.D_operated_width
  have R_fitting_width : ∀ n, FO P w K mg base "fitting_width" (1 + n) ["term", "widths"] [] (spFitting n) := fun n => by
    induction n with
    | zero => exact (z.D_fitting_width.zero no_fit).up (by omega)
    | succ n ih => exact ok_fitting_width (k := 1 + n) z.T z.D_fitting_width ih (L_terms_in.up (by omega)) (L_operated_width.up (by omega))
  have L_fitting_width : FO P w K mg base "fitting_width" 11 ["term", "widths"] [] (spFitting 10) := R_fitting_width 10
  have L_width_of : FO P w K mg base "width_of" 14 ["term", "widths"] [] spWidthOf := ok_width_of (k := 13) z.T z.D_width_of L_is_term (L_fitting_width.up (by decide))
  have R_names_along : ∀ n, FO P w K mg base "names_along" (1 + n) ["term"] [] (spNamesAlong n) := fun n => by
    induction n with
    | zero => exact (z.D_names_along.zero no_na).up (by omega)
    | succ n ih => exact ok_names_along (k := 1 + n) z.T z.D_names_along ih (L_terms_in.up (by omega))
  have L_names_along : FO P w K mg base "names_along" 11 ["term"] [] (spNamesAlong 10) := R_names_along 10
  have L_names_in : FO P w K mg base "names_in" 12 ["term"] [] spNamesIn := ok_names_in (k := 11) z.T z.D_names_in L_names_along
  have L_has_width : FO P w K mg base "has_width" 15 ["term", "width", "widths"] [] spHasWidth := ok_has_width (k := 14) z.T z.D_has_width L_width_of
  have L_name_wrong : FO P w K mg base "name_wrong" 2 ["name", "at", "taken"] [] spNameWrong := ok_name_wrong (k := 1) z.T z.D_name_wrong L_is_name
  have L_is_width : FO P w K mg base "is_width" 1 ["thing"] [] spIsWidth := ok_is_width (k := 0) z.T z.D_is_width
  have L_is_row : FO P w K mg base "is_row" 1 ["thing"] [] spIsRow := ok_is_row (k := 0) z.T z.D_is_row
  have L_signal_wrong : FO P w K mg base "signal_wrong" 3 ["row", "at", "taken"] [] spSignalWrong := ok_signal_wrong (k := 2) z.T z.D_signal_wrong L_name_wrong (L_is_row.up (by decide)) (L_is_width.up (by decide))
  have L_signals_wrong : FO P w K mg base "signals_wrong" 4 ["signals"] [] spSignalsWrong := ok_signals_wrong (k := 3) z.T z.D_signals_wrong L_signal_wrong
  have L_many_wrong : FO P w K mg base "many_wrong" 1 ["signals", "blocks"] [] spManyWrong := ok_many_wrong (k := 0) z.T z.D_many_wrong
  have L_is_driver : FO P w K mg base "is_driver" 16 ["thing", "width", "widths"] [] spIsDriver := ok_is_driver (k := 15) z.T z.D_is_driver L_has_width
  have L_are_drivers : FO P w K mg base "are_drivers" 17 ["thing", "width", "widths"] [] spAreDrivers := ok_are_drivers (k := 16) z.T z.D_are_drivers L_is_driver
  have L_is_what : FO P w K mg base "is_what" 18 ["row", "widths"] [] spIsWhat := ok_is_what (k := 17) z.T z.D_is_what L_are_drivers (L_has_width.up (by decide)) (K_is_value.up (by decide))
  have L_widths_of : FO P w K mg base "widths_of" 1 ["signals"] [] spWidthsOf := ok_widths_of (k := 0) z.T z.D_widths_of
  have L_what_wrong : FO P w K mg base "what_wrong" 19 ["signals"] [] spWhatWrong := ok_what_wrong (k := 18) z.T z.D_what_wrong (L_widths_of.up (by decide)) L_is_what
  have R_statement_weight : ∀ n, FO P w K mg base "statement_weight" (15 + 2 * n) ["statement", "widths", "kept", "deep"] [] (spStW n) := fun n => by
    induction n with
    | zero => exact (z.D_statement_weight.zero no_sw).up (by omega)
    | succ n ih => exact ok_statement_weight (k := 15 + 2 * n + 1) z.T z.D_statement_weight (ok_body_weight (k := 15 + 2 * n) z.T z.D_body_weight ih) (L_has_width.up (by omega))
  have L_body_weight : FO P w K mg base "body_weight" 24 ["body", "widths", "kept", "deep"] [] (spBodyW 4) := ok_body_weight (k := 23) z.T z.D_body_weight (R_statement_weight 4)
  have L_block_wrong : FO P w K mg base "block_wrong" 25 ["row", "at", "taken", "signals"] [] spBlockWrong := ok_block_wrong (k := 24) z.T z.D_block_wrong L_body_weight (L_is_row.up (by decide)) (L_name_wrong.up (by decide)) (L_widths_of.up (by decide))
  have L_blocks_wrong : FO P w K mg base "blocks_wrong" 26 ["signals", "blocks"] [] spBlocksWrong := ok_blocks_wrong (k := 25) z.T z.D_blocks_wrong L_block_wrong
  have R_set_by : ∀ n, FO P w K mg base "set_by" (0 + n) ["body", "word"] [] (spSetBy n) := fun n => by
    induction n with
    | zero => exact (z.D_set_by.zero no_sb).up (by omega)
    | succ n ih => exact ok_set_by (k := 0 + n) z.T z.D_set_by ih
  have L_set_by : FO P w K mg base "set_by" 5 ["body", "word"] [] (spSetBy 5) := R_set_by 5
  have L_terms_of : FO P w K mg base "terms_of" 1 ["row"] [] spTermsOf := ok_terms_of (k := 0) z.T z.D_terms_of
  have L_both_wrong : FO P w K mg base "both_wrong" 6 ["signals", "blocks"] [] spBothWrong := ok_both_wrong (k := 5) z.T z.D_both_wrong L_set_by
  have L_names_beside : FO P w K mg base "names_beside" 13 ["signals"] [] spNamesBeside := ok_names_beside (k := 12) z.T z.D_names_beside (L_terms_of.up (by decide)) L_names_in
  have L_hangs_on : FO P w K mg base "hangs_on" 1 ["name", "beside"] [] spHangsOn := ok_hangs_on (k := 0) z.T z.D_hangs_on
  have L_ring_wrong : FO P w K mg base "ring_wrong" 14 ["signals"] [] spRingWrong := ok_ring_wrong (k := 13) z.T z.D_ring_wrong L_names_beside (L_hangs_on.up (by decide))
  have L_first_clash : FO P w K mg base "first_clash" 27 ["signals", "blocks"] [] spFirstClash := ok_first_clash (k := 26) z.T z.D_first_clash (L_signals_wrong.up (by decide)) (L_many_wrong.up (by decide)) (L_what_wrong.up (by decide)) L_blocks_wrong (L_both_wrong.up (by decide)) (L_ring_wrong.up (by decide))
  have M_Design : FC P w K mg base CD 29 ["self", "signals", "blocks"] [] (spInit CD) := ok_Design_init (k := 27) z.T z.kD z.n_rows z.n_parts z.n_by_names z.n_beside z.D_Design___init__ L_first_clash (L_names_beside.up (by decide))
  have F_signals : FM P w K mg base CD "signals" 1 ["self"] [] (spSignals CD) := ok_Design_signals (k := 0) z.T z.kD z.n_rows z.D_Design_signals
  have F_blocks : FM P w K mg base CD "blocks" 1 ["self"] [] (spBlocks CD) := ok_Design_blocks (k := 0) z.T z.kD z.n_parts z.D_Design_blocks
  have F___len__ : FM P w K mg base CD "__len__" 1 ["self"] [] (spLenD CD) := ok_Design_len (k := 0) z.T z.kD z.n_rows z.D_Design___len__
  have F___eq__ : FM P w K mg base CD "__eq__" 1 ["self", "other"] [] (spEq (DSeq CD)) := ok_Design_eq (k := 0) z.T z.kD z.n_rows z.n_parts z.D_Design___eq__
  have R_term_text : ∀ n, FO P w K mg base "term_text" (1 + n) ["term"] [] (spTermText n) := fun n => by
    induction n with
    | zero => exact (z.D_term_text.zero no_tt).up (by omega)
    | succ n ih => exact ok_term_text (k := 1 + n) z.T z.D_term_text ih (L_terms_in.up (by omega))
  have L_term_text : FO P w K mg base "term_text" 11 ["term"] [] (spTermText 10) := R_term_text 10
  have L_driver_text : FO P w K mg base "driver_text" 12 ["driver"] [] spDriverText := ok_driver_text (k := 11) z.T z.D_driver_text L_term_text
  have L_what_text : FO P w K mg base "what_text" 13 ["sort", "what"] [] spWhatText := ok_what_text (k := 12) z.T z.D_what_text (L_term_text.up (by decide)) L_driver_text
  have R_body_lines : ∀ n, FO P w K mg base "body_lines" (11 + n) ["body", "ahead"] [] (spBodyLines n) := fun n => by
    induction n with
    | zero => exact (z.D_body_lines.zero no_bl).up (by omega)
    | succ n ih => exact ok_body_lines (k := 11 + n) z.T z.D_body_lines ih (L_term_text.up (by omega))
  have L_body_lines : FO P w K mg base "body_lines" 16 ["body", "ahead"] [] (spBodyLines 5) := R_body_lines 5
  have L_design_text : FO P w K mg base "design_text" 17 ["design"] [] (spDesignText CD) := ok_design_text (k := 16) z.T z.kD z.D_design_text L_body_lines (L_what_text.up (by decide)) (F_signals.up (by decide)) (F_blocks.up (by decide))
  have L_run_end : FO P w K mg base "run_end" 1 ["text", "at", "signs"] [] spRunEnd := ok_run_end (k := 0) z.T z.D_run_end
  have L_past : FO P w K mg base "past" 1 ["text", "at", "word"] [] spPast := ok_past (k := 0) z.T z.D_past
  have L_read_number : FO P w K mg base "read_number" 2 ["text", "at"] [] spReadNumber := ok_read_number (k := 1) z.T z.D_read_number L_past
  have R_read_at : ∀ n, FO P w K mg base "read_at" (2 + 2 * n) ["text", "at", "deep"] [] (spReadAt n) := fun n => by
    induction n with
    | zero => exact (z.D_read_at.zero no_ra).up (by omega)
    | succ n ih => exact ok_read_at (k := 2 + 2 * n + 1) z.T z.D_read_at (ok_read_operator (k := 2 + 2 * n) z.T z.D_read_operator ih (L_arguments_of.up (by omega)) (L_past.up (by omega)) (L_read_number.up (by omega))) (L_run_end.up (by omega))
  have L_read_at : FO P w K mg base "read_at" 22 ["text", "at", "deep"] [] (spReadAt 10) := R_read_at 10
  have L_read_term : FO P w K mg base "read_term" 23 ["text"] [] spReadTerm := ok_read_term (k := 22) z.T z.D_read_term L_read_at (L_is_term.up (by decide))
  have L_driver_in : FO P w K mg base "driver_in" 24 ["text"] [] spDriverIn := ok_driver_in (k := 23) z.T z.D_driver_in L_read_term
  have L_what_in : FO P w K mg base "what_in" 25 ["sort", "text"] [] spWhatIn := ok_what_in (k := 24) z.T z.D_what_in (L_read_term.up (by decide)) L_driver_in
  have L_signal_in : FO P w K mg base "signal_in" 26 ["line"] [] spSignalIn := ok_signal_in (k := 25) z.T z.D_signal_in L_what_in
  have M_Lines : FC P w K mg base CL 2 ["self", "rows"] [] (spLinesInit CL) := ok_Lines_init (k := 0) z.T z.kL z.n_left z.D_Lines___init__
  have F_is_over : FM P w K mg base CL "is_over" 1 ["self"] [] (spIsOver CL) := ok_Lines_is_over (k := 0) z.T z.kL z.n_left z.D_Lines_is_over
  have F_begins : FM P w K mg base CL "begins" 1 ["self", "text"] [] (spBegins CL) := ok_Lines_begins (k := 0) z.T z.kL z.n_left z.D_Lines_begins
  have F_taken : FM P w K mg base CL "taken" 1 ["self"] [] (spTaken CL) := ok_Lines_taken (k := 0) z.T z.kL z.n_left z.D_Lines_taken
  have R_statement_in : ∀ n, FO P w K mg base "statement_in" (23 + 2 * n) ["lines", "ahead"] [] (spStIn CL n) := fun n => by
    induction n with
    | zero => exact (z.D_statement_in.zero no_si).up (by omega)
    | succ n ih => exact ok_statement_in (k := 23 + 2 * n + 1) z.T z.kL z.D_statement_in (ok_body_in (k := 23 + 2 * n) z.T z.kL z.D_body_in ih (F_begins.up (by omega))) (F_begins.up (by omega)) (F_taken.up (by omega)) (L_read_term.up (by omega))
  have L_body_in : FO P w K mg base "body_in" 32 ["lines", "ahead"] [] (spBodyIn CL 4) := ok_body_in (k := 31) z.T z.kL z.D_body_in (R_statement_in 4) (F_begins.up (by decide))
  have L_block_in : FO P w K mg base "block_in" 33 ["lines"] [] (spBlockIn CL) := ok_block_in (k := 32) z.T z.kL z.D_block_in L_body_in (F_taken.up (by decide))
  have L_design_in : FO P w K mg base "design_in" 34 ["lines"] [] (spDesignIn CL CD) := ok_design_in (k := 33) (dvs := []) z.T z.kL z.kD z.D_design_in L_block_in (L_signal_in.up (by decide)) (F_is_over.up (by decide)) (F_begins.up (by decide)) (F_taken.up (by decide)) (M_Design.up (by decide))
  have L_read_design : FO P w K mg base "read_design" 35 ["text"] [] (spReadDesign CD) := ok_read_design (k := 34) z.T z.kL z.kD z.D_read_design L_design_in (L_design_text.up (by decide)) (M_Lines.up (by decide))
  have L__law_pot : FO P w K mg base "_law_pot" 1 ["_law_script", "_law_k"] [] (spLPot K) := ok_law_pot (k := 0) z.T z.D__law_pot
  have L__law_digit : FO P w K mg base "_law_digit" 1 ["_law_pot_here", "_law_many"] [] spDigit := ok_law_digit (k := 0) z.T z.D__law_digit
  have L__law_width : FO P w K mg base "_law_width" 2 ["_law_pot_here"] [] spLWidth := ok_law_width (k := 1) z.T z.D__law_width L__law_digit
  have L__law_value : FO P w K mg base "_law_value" 2 ["_law_pot_here", "_law_width_here", "_law_signs"] [] spLValue := ok_law_value (k := 1) z.T z.D__law_value L__law_digit
  have L__law_name : FO P w K mg base "_law_name" 2 ["_law_pot_here", "_law_taken"] [] spLName := ok_law_name (k := 1) z.T z.D__law_name L__law_digit
  have L__law_leaf : FO P w K mg base "_law_leaf" 3 ["_law_pot_here", "_law_names", "_law_width_here"] [] spLLeaf := ok_law_leaf (k := 2) z.T z.D__law_leaf (L__law_digit.up (by decide)) L__law_value
  have R__law_term : ∀ n, FO P w K mg base "_law_term" (3 + n) ["_law_pot_here", "_law_names", "_law_width_here", "_law_deep_here"] [] (spLTerm n) := fun n => by
    induction n with
    | zero => exact (z.D__law_term.zero no_lt).up (by omega)
    | succ n ih => exact ok_law_term (k := 3 + n) z.T z.D__law_term (L__law_digit.up (by omega)) (L__law_leaf.up (by omega)) ih
  have L__law_term : FO P w K mg base "_law_term" 7 ["_law_pot_here", "_law_names", "_law_width_here", "_law_deep_here"] [] (spLTerm 4) := R__law_term 4
  have L__law_sources : FO P w K mg base "_law_sources" 3 ["_law_pot_here", "_law_taken"] [] spLSources := ok_law_sources (k := 2) z.T z.D__law_sources (L__law_digit.up (by decide)) L__law_name L__law_width L__law_value
  have L__law_led : FO P w K mg base "_law_led" 8 ["_law_pot_here", "_law_plain", "_law_every", "_law_taken", "_law_deep_here"] [] spLLed := ok_law_led (k := 7) z.T z.D__law_led (L__law_digit.up (by decide)) (L__law_name.up (by decide)) (L__law_width.up (by decide)) L__law_term
  have R__law_body : ∀ n, FO P w K mg base "_law_body" (7 + n) ["_law_pot_here", "_law_kept", "_law_every", "_law_deep_here", "_law_room"] [] (spLBody n) := fun n => by
    induction n with
    | zero => exact (z.D__law_body.zero no_lb).up (by omega)
    | succ n ih => exact ok_law_body (k := 7 + n) z.T z.D__law_body (L__law_digit.up (by omega)) (L__law_term.up (by omega)) ih
  have L__law_body : FO P w K mg base "_law_body" 11 ["_law_pot_here", "_law_kept", "_law_every", "_law_deep_here", "_law_room"] [] (spLBody 4) := R__law_body 4
  have L__law_blocks : FO P w K mg base "_law_blocks" 12 ["_law_pot_here", "_law_signals", "_law_taken"] [] spLBlocks := ok_law_blocks (k := 11) z.T z.D__law_blocks (L__law_digit.up (by decide)) (L__law_name.up (by decide)) L__law_body
  have L__law_design : FO P w K mg base "_law_design" 13 ["_law_pot_here"] [] spLDesign := ok_law_design (k := 12) z.T z.D__law_design (L__law_digit.up (by decide)) (L__law_sources.up (by decide)) (L__law_led.up (by decide)) L__law_blocks
  have R__law_term_text : ∀ n, FO P w K mg base "_law_term_text" (0 + n) ["_law_term_here"] [] (spTermText n) := fun n => by
    induction n with
    | zero => exact (z.D__law_term_text.zero no_tt).up (by omega)
    | succ n ih => exact ok_law_term_text (k := 0 + n) z.T z.D__law_term_text ih
  have L__law_term_text : FO P w K mg base "_law_term_text" 10 ["_law_term_here"] [] (spTermText 10) := R__law_term_text 10
  have L__law_what_text : FO P w K mg base "_law_what_text" 11 ["_law_row"] [] spLWhat := ok_law_what_text (k := 10) z.T z.D__law_what_text L__law_term_text
  have R__law_body_lines : ∀ n, FO P w K mg base "_law_body_lines" (10 + n) ["_law_body_here", "_law_ahead"] [] (spBodyLines n) := fun n => by
    induction n with
    | zero => exact (z.D__law_body_lines.zero no_bl).up (by omega)
    | succ n ih => exact ok_law_body_lines (k := 10 + n) z.T z.D__law_body_lines ih (L__law_term_text.up (by omega))
  have L__law_body_lines : FO P w K mg base "_law_body_lines" 15 ["_law_body_here", "_law_ahead"] [] (spBodyLines 5) := R__law_body_lines 5
  have L__law_lines : FO P w K mg base "_law_lines" 16 ["_law_signals", "_law_blocks_here"] [] spLLines := ok_law_lines (k := 15) z.T z.D__law_lines (L__law_what_text.up (by decide)) L__law_body_lines
  have L__law_design_text : FO P w K mg base "_law_design_text" 17 ["_law_signals", "_law_blocks_here"] [] spLDText := ok_law_design_text (k := 16) z.T z.D__law_design_text L__law_lines
  have L__law_right : FG P w K mg base "_law_right" 36 ["_law_signals", "_law_blocks_here"] spLRight := ok_law_right (k := 35) z.T z.kD z.D__law_right (M_Design.up (by decide)) (L__law_design_text.up (by decide)) (L_design_text.up (by decide)) L_read_design (F_signals.up (by decide)) (F_blocks.up (by decide)) (F___eq__.up (by decide))
  have L__law_deep : FO P w K mg base "_law_deep" 1 [] [] spLDeep := ok_law_deep (k := 0) z.T z.D__law_deep
  have L_law : FG P w K mg base "law" 37 ["_law_script"] (spLaw K) := ok_law (k := 36) z.T z.kD z.D_law (L__law_pot.up (by decide)) (L__law_design.up (by decide)) (L__law_design_text.up (by decide)) L__law_right (L__law_deep.up (by decide)) (L_read_design.up (by decide)) (L_design_text.up (by decide)) (F_blocks.up (by decide)) F___len__ (by decide)
  exact L_law
end K37
set_option maxHeartbeats 4000000
namespace K37
open PySem L2 TL
open PyProof.Rows hiding St
/-! the facts of the head, put together; the law -/
section
variable {w : World} {h : Heap} {K : PySem.W.Frag} {mg : Str → Option Value} (KX : K.In h) (G : h.Ns mainGlobals mg) (c : He.SaysX fa fn ts [] ex w h K)
include KX G c
theorem gvI (i : Nat) {x : Str} {n : Int} (hf : fa[i]? = some (.int x n) := by rfl) : GV mg x (.int n) := by
  obtain ⟨t, e⟩ := He.int_ok KX G (c.t.d.fact i hf)
  exact ⟨⟨_, e, t, rfl⟩⟩
theorem gvS (i : Nat) {x z : Str} (hf : fa[i]? = some (.str x z) := by rfl) : GV mg x (.str z) := by
  obtain ⟨t, e⟩ := He.str_ok KX G (c.t.d.fact i hf)
  exact ⟨⟨_, e, t, rfl⟩⟩
theorem gvG (i : Nat) {x : Str} (hf : fa[i]? = some (.glo x) := by rfl) : mg x = some (.ref (He.ga K x)) := He.glo_ok KX G (c.t.d.fact i hf)
theorem gvN (i : Nat) {x : Str} (hf : fa[i]? = some (.free x) := by rfl) : mg x = none := He.free_ok KX G (c.t.d.fact i hf)
theorem gvR (i : Nat) {x : Str} (hf : fa[i]? = some (.glo x) := by rfl) : GV mg x (.ref (He.ga K x)) := ⟨⟨_, gvG KX G c i hf, rfl⟩⟩
end
theorem tupS {K : PySem.W.Frag} {x : Str} {l : List Str} (h : He.tupB K x (l.map He.Dv.str) = true) : TupK K (He.ga K x) (l.map V.str) := fun H => by
  have e := He.tupB_ok h H
  rw [List.map_map] at e
  exact e
theorem clsS {K : PySem.W.Frag} {mg : Str → Option Value} {x : Str} (g : mg x = some (.ref (He.ga K x))) (c : Cls K (He.ga K x)) (h : clsB K x = true) : KCls K mg x (He.ga K x) := by
  obtain ⟨h1, h2⟩ := He.ba h
  obtain ⟨h3, h4⟩ := He.ba h2
  obtain ⟨h5, h6⟩ := He.ba h4
  exact ⟨g, c, fun H a dx fs e => TyOf.ins e c (He.eqO_ok h1) (He.eqO_ok h5) (of_decide_eq_true h6) (of_decide_eq_true h3)⟩
theorem argS {K : PySem.W.Frag} {s : Str} (h : argB K s = true) : ∃ u, PySem.W.nsIn K (He.ga K "ARGUMENTS") s = some u ∧ RelO (argO s) u := by
  unfold argB at h
  cases e1 : argO s with
  | none =>
    rw [e1] at h
    cases e2 : PySem.W.nsIn K (He.ga K "ARGUMENTS") s with
    | none =>
      rw [e2] at h
      cases h
    | some u =>
      rw [e2] at h
      cases u with
      | none => exact ⟨none, rfl, trivial⟩
      | some u => cases h
  | some v =>
    rw [e1] at h
    cases e2 : PySem.W.nsIn K (He.ga K "ARGUMENTS") s with
    | none =>
      rw [e2] at h
      cases h
    | some u =>
      rw [e2] at h
      cases u with
      | none => cases h
      | some u => exact ⟨some u, rfl, He.relB_ok h⟩
section
variable {K : PySem.W.Frag} {mg : Str → Option Value} {x m qual : Str} {st : Stmt} {ps : List Str} {kws : List (Str × V)} {f C : Addr} {fd : FuncData}
theorem df_of (F : FunD K x x (defArgs st) (defBody st) (defScope st) [] kws f fd) (g : mg x = some (.ref f))
    (hb : ∀ (kV doc pm : Value) (an : Option Addr) (cdv ct : Value) (us : List Value), us.length = ps.length → bindArgs (PySem.W.fnOf x x (defArgs st) (defBody st) (defScope st) .none kV doc pm an cdv ct) ⟨us, []⟩ = pure (ps.zip us)) : DF K mg x st ps [] :=
  ⟨f, fd, [], [], kws, F, g, F.bindsN hb, .nil⟩
theorem dm_of (F : FunD K m qual (defArgs st) (defBody st) (defScope st) [] kws f fd) (g : Meth K C m f)
    (hb : ∀ (kV doc pm : Value) (an : Option Addr) (cdv ct : Value) (us : List Value), us.length = ps.length → bindArgs (PySem.W.fnOf m qual (defArgs st) (defBody st) (defScope st) .none kV doc pm an cdv ct) ⟨us, []⟩ = pure (ps.zip us)) : DM K C m qual st ps [] :=
  ⟨f, fd, [], [], kws, F, g, F.bindsN hb, .nil⟩
theorem dc_of (F : FunD K "__init__" qual (defArgs st) (defBody st) (defScope st) [] kws f fd) (g : Mk K C f)
    (hb : ∀ (kV doc pm : Value) (an : Option Addr) (cdv ct : Value) (us : List Value), us.length = ps.length → bindArgs (PySem.W.fnOf "__init__" qual (defArgs st) (defBody st) (defScope st) .none kV doc pm an cdv ct) ⟨us, []⟩ = pure (ps.zip us)) : DC K C qual st ps [] :=
  ⟨f, fd, [], [], kws, F, g, F.bindsN hb, .nil⟩
end
theorem df_tw {K : PySem.W.Frag} {mg : Str → Option Value} {kws : List (Str × V)} {f : Addr} {fd : FuncData} (F : FunD K "term_weight" "term_weight" (defArgs s_term_weight) (defBody s_term_weight) (defScope s_term_weight) [.int 10] kws f fd) (g : mg "term_weight" = some (.ref f)) : DF K mg "term_weight" s_term_weight ["thing", "deep"] [.int 10] := by
  obtain ⟨ds, h1, h2⟩ := FunD.binds1 (ps := ["thing", "deep"]) F 1 0 (by simp) rfl fun T kV doc pm an cdv ct us its hu hi => match us, its, hu, hi with
    | [_], [_], _, _ => ⟨_, rfl, rfl⟩
  exact ⟨f, fd, ds, _, _, F, g, h2, h1⟩
theorem df_tw0 {K : PySem.W.Frag} {mg : Str → Option Value} {kws : List (Str × V)} {f : Addr} {fd : FuncData} (F : FunD K "term_weight" "term_weight" (defArgs s_term_weight) (defBody s_term_weight) (defScope s_term_weight) [.int 10] kws f fd) (g : mg "term_weight" = some (.ref f)) : DF K mg "term_weight" s_term_weight ["thing", "deep"] [] := by
  obtain ⟨ds, h1, h2⟩ := FunD.binds1 (ps := ["thing", "deep"]) F 2 1 (by simp) rfl fun T kV doc pm an cdv ct us its hu hi => match us, its, hu, hi with
    | [_, _], [_], _, _ => ⟨_, rfl, rfl⟩
  exact ⟨f, fd, ds, _, _, F, g, h2, h1⟩
theorem dc_de {K : PySem.W.Frag} {C : Addr} {v : V} {kws : List (Str × V)} {f : Addr} {fd : FuncData} (F : FunD K "__init__" "Design.__init__" (defArgs s_Design___init__) (defBody s_Design___init__) (defScope s_Design___init__) [v] kws f fd) (g : Mk K C f) : DC K C "Design.__init__" s_Design___init__ ["self", "signals", "blocks"] [] := by
  obtain ⟨ds, h1, h2⟩ := FunD.binds1 (ps := ["self", "signals", "blocks"]) F 3 1 (by simp) rfl fun T kV doc pm an cdv ct us its hu hi => match us, its, hu, hi with
    | [_, _, _], [_], _, _ => ⟨_, rfl, rfl⟩
  exact ⟨f, fd, ds, _, _, F, g, h2, h1⟩
theorem df_iv {K : PySem.W.Frag} {mg : Str → Option Value} {f : Addr} {fd : FuncData} (F : FunD K "is_value" "is_value" (defArgs s_is_value) (defBody s_is_value) (defScope s_is_value) [] [("width", .int 0)] f fd) (g : mg "is_value" = some (.ref f)) : DF K mg "is_value" s_is_value ["thing", "width"] [.int 0] := by
  obtain ⟨ds, h1, h2⟩ := FunD.binds0 (ps := ["thing", "width"]) F 1 (by simp) rfl fun D doc pm an cdv ct us ks hu hk => match us, ks, hu, hk with
    | [_], [_], _, _ => ⟨_, _, _, _, _, _, rfl, rfl, rfl⟩
  exact ⟨f, fd, ds, _, _, F, g, h2, h1⟩
theorem dk_iv {K : PySem.W.Frag} {mg : Str → Option Value} {f : Addr} {fd : FuncData} (F : FunD K "is_value" "is_value" (defArgs s_is_value) (defBody s_is_value) (defScope s_is_value) [] [("width", .int 0)] f fd) (g : mg "is_value" = some (.ref f)) : DFK K mg "is_value" s_is_value ["thing", "width"] 1 ["width"] fun vs zs => vs ++ zs := by
  refine ⟨f, fd, _, _, fun us ws => us ++ ws, F, g, ?_⟩
  obtain ⟨oc, od, dV, kV, doc, pm, an, cdv, ct, osl, rfl, lk, hcd, hD, hK⟩ := F.ex
  rcases hD with ⟨_, rfl⟩ | ⟨e, _⟩
  · exact ⟨fun s us ws _ hu hw => match us, ws, hu, hw with | [_], [_], _, _ => .of_eq rfl, fun r1 r2 => r1.append r2⟩
  · exact absurd rfl e
section
variable {w : World} {h : Heap} {K : PySem.W.Frag} {mg : Str → Option Value}
theorem tx_of (KX : K.In h) (G : h.Ns mainGlobals mg) (c : He.SaysX fa fn ts [] ex w h K) : TX K mg := by
  obtain ⟨t0, m0⟩ := He.ba c.more
  obtain ⟨t1, m1⟩ := He.ba m0
  obtain ⟨t2, m2⟩ := He.ba m1
  obtain ⟨t3, m3⟩ := He.ba m2
  exact {
    len := gvN KX G c 81
    isinstance := gvN KX G c 82
    all := gvN KX G c 83
    any := gvN KX G c 84
    sum := gvN KX G c 85
    int := gvN KX G c 86
    str := gvN KX G c 87
    list := gvN KX G c 88
    tuple := gvN KX G c 89
    bool := gvN KX G c 90
    range := gvN KX G c 91
    zip := gvN KX G c 92
    enumerate := gvN KX G c 93
    reversed := gvN KX G c 94
    repr := gvN KX G c 95
    max := gvN KX G c 96
    min := gvN KX G c 97
    c_WIDEST := gvI KX G c 98
    c_MOST_TUPLES := gvI KX G c 99
    c_DEEPEST_terms := gvI KX G c 100
    c_LONGEST_NAME := gvI KX G c 101
    c_FIELDS := gvI KX G c 102
    c_MOST_SIGNALS := gvI KX G c 103
    c_MOST_WIRES := gvI KX G c 104
    c_MOST_BLOCKS := gvI KX G c 105
    c_MOST_STATEMENTS := gvI KX G c 106
    c_DEEPEST_clashes := gvI KX G c 107
    c_LEAST_DRIVERS := gvI KX G c 108
    c_MOST_DRIVERS := gvI KX G c 109
    c_SIGNS := gvS KX G c 110
    c_LETTERS := gvS KX G c 111
    c_FIGURES := gvS KX G c 112
    c_MARK := gvS KX G c 113
    c_BETWEEN := gvS KX G c 114
    c_STEP := gvS KX G c 115
    c_WIDTHS := gvS KX G c 116
    k_WORDS := ⟨_, gvR KX G c 76, tupS t0⟩
    k_OTHER_WORDS := ⟨_, gvR KX G c 77, tupS t1⟩
    k_SORTS := ⟨_, gvR KX G c 78, tupS t2⟩
    k_EDGES := ⟨_, gvR KX G c 79, tupS t3⟩ }
theorem rest_of (KX : K.In h) (G : h.Ns mainGlobals mg) (c : He.SaysX fa fn ts [] ex w h K) : KA K w mg (He.ga K "ARGUMENTS") ∧ KCls K mg "Design" (He.ga K "Design") ∧ KCls K mg "Lines" (He.ga K "Lines") := by
  obtain ⟨t0, m0⟩ := He.ba c.more
  obtain ⟨t1, m1⟩ := He.ba m0
  obtain ⟨t2, m2⟩ := He.ba m1
  obtain ⟨t3, m3⟩ := He.ba m2
  obtain ⟨t4, m4⟩ := He.ba m3
  obtain ⟨t5, m5⟩ := He.ba m4
  exact ⟨⟨gvR KX G c 80, c.t.tab 0, fun s hs => argS (List.all_eq_true.mp t4 s hs)⟩, clsS (gvG KX G c 117) (He.cls_ok (c.t.d.fact 118 (f := .cls "Design") rfl)) t5, clsS (gvG KX G c 120) (He.cls_ok (c.t.d.fact 121 (f := .cls "Lines") rfl)) m5⟩
theorem o_D_is_value (KX : K.In h) (G : h.Ns mainGlobals mg) (c : He.SaysX fa fn ts [] ex w h K) : DF K mg "is_value" s_is_value ["thing", "width"] [.int 0] := by
  obtain ⟨fd, F⟩ := c.t.d.def_ 0 (d := dD0) rfl
  exact df_iv F (gvG KX G c 0)
theorem o_DK_is_value (KX : K.In h) (G : h.Ns mainGlobals mg) (c : He.SaysX fa fn ts [] ex w h K) : DFK K mg "is_value" s_is_value ["thing", "width"] 1 ["width"] fun vs zs => vs ++ zs := by
  obtain ⟨fd, F⟩ := c.t.d.def_ 0 (d := dD0) rfl
  exact dk_iv F (gvG KX G c 0)
theorem o_D_is_name (KX : K.In h) (G : h.Ns mainGlobals mg) (c : He.SaysX fa fn ts [] ex w h K) : DF K mg "is_name" s_is_name ["thing"] [] := by
  obtain ⟨fd, F⟩ := c.t.d.def_ 1 (d := dD1) rfl
  exact df_of F (gvG KX G c 1) (fun _ _ _ _ _ _ us hl => match us, hl with | [_], _ => rfl)
theorem o_D_is_whole (KX : K.In h) (G : h.Ns mainGlobals mg) (c : He.SaysX fa fn ts [] ex w h K) : DF K mg "is_whole" s_is_whole ["thing"] [] := by
  obtain ⟨fd, F⟩ := c.t.d.def_ 2 (d := dD2) rfl
  exact df_of F (gvG KX G c 2) (fun _ _ _ _ _ _ us hl => match us, hl with | [_], _ => rfl)
theorem o_D_are_bounds (KX : K.In h) (G : h.Ns mainGlobals mg) (c : He.SaysX fa fn ts [] ex w h K) : DF K mg "are_bounds" s_are_bounds ["things"] [] := by
  obtain ⟨fd, F⟩ := c.t.d.def_ 3 (d := dD3) rfl
  exact df_of F (gvG KX G c 3) (fun _ _ _ _ _ _ us hl => match us, hl with | [_], _ => rfl)
theorem o_D_leaf_weight (KX : K.In h) (G : h.Ns mainGlobals mg) (c : He.SaysX fa fn ts [] ex w h K) : DF K mg "leaf_weight" s_leaf_weight ["word", "things"] [] := by
  obtain ⟨fd, F⟩ := c.t.d.def_ 4 (d := dD4) rfl
  exact df_of F (gvG KX G c 4) (fun _ _ _ _ _ _ us hl => match us, hl with | [_, _], _ => rfl)
theorem o_D_arguments_of (KX : K.In h) (G : h.Ns mainGlobals mg) (c : He.SaysX fa fn ts [] ex w h K) : DF K mg "arguments_of" s_arguments_of ["word"] [] := by
  obtain ⟨fd, F⟩ := c.t.d.def_ 5 (d := dD5) rfl
  exact df_of F (gvG KX G c 5) (fun _ _ _ _ _ _ us hl => match us, hl with | [_], _ => rfl)
theorem o_D_term_weight0 (KX : K.In h) (G : h.Ns mainGlobals mg) (c : He.SaysX fa fn ts [] ex w h K) : DF K mg "term_weight" s_term_weight ["thing", "deep"] [] := by
  obtain ⟨fd, F⟩ := c.t.d.def_ 6 (d := dD6) rfl
  exact df_tw0 F (gvG KX G c 6)
theorem o_D_term_weight (KX : K.In h) (G : h.Ns mainGlobals mg) (c : He.SaysX fa fn ts [] ex w h K) : DF K mg "term_weight" s_term_weight ["thing", "deep"] [.int 10] := by
  obtain ⟨fd, F⟩ := c.t.d.def_ 6 (d := dD6) rfl
  exact df_tw F (gvG KX G c 6)
theorem o_D_is_term (KX : K.In h) (G : h.Ns mainGlobals mg) (c : He.SaysX fa fn ts [] ex w h K) : DF K mg "is_term" s_is_term ["thing"] [] := by
  obtain ⟨fd, F⟩ := c.t.d.def_ 7 (d := dD7) rfl
  exact df_of F (gvG KX G c 7) (fun _ _ _ _ _ _ us hl => match us, hl with | [_], _ => rfl)
theorem o_D_terms_in (KX : K.In h) (G : h.Ns mainGlobals mg) (c : He.SaysX fa fn ts [] ex w h K) : DF K mg "terms_in" s_terms_in ["term"] [] := by
  obtain ⟨fd, F⟩ := c.t.d.def_ 8 (d := dD8) rfl
  exact df_of F (gvG KX G c 8) (fun _ _ _ _ _ _ us hl => match us, hl with | [_], _ => rfl)
theorem o_D_operated_width (KX : K.In h) (G : h.Ns mainGlobals mg) (c : He.SaysX fa fn ts [] ex w h K) : DF K mg "operated_width" s_operated_width ["word", "widths"] [] := by
  obtain ⟨fd, F⟩ := c.t.d.def_ 9 (d := dD9) rfl
  exact df_of F (gvG KX G c 9) (fun _ _ _ _ _ _ us hl => match us, hl with | [_, _], _ => rfl)
theorem o_D_fitting_width (KX : K.In h) (G : h.Ns mainGlobals mg) (c : He.SaysX fa fn ts [] ex w h K) : DF K mg "fitting_width" s_fitting_width ["term", "widths"] [] := by
  obtain ⟨fd, F⟩ := c.t.d.def_ 10 (d := dD10) rfl
  exact df_of F (gvG KX G c 10) (fun _ _ _ _ _ _ us hl => match us, hl with | [_, _], _ => rfl)
theorem o_D_width_of (KX : K.In h) (G : h.Ns mainGlobals mg) (c : He.SaysX fa fn ts [] ex w h K) : DF K mg "width_of" s_width_of ["term", "widths"] [] := by
  obtain ⟨fd, F⟩ := c.t.d.def_ 11 (d := dD11) rfl
  exact df_of F (gvG KX G c 11) (fun _ _ _ _ _ _ us hl => match us, hl with | [_, _], _ => rfl)
theorem o_D_names_along (KX : K.In h) (G : h.Ns mainGlobals mg) (c : He.SaysX fa fn ts [] ex w h K) : DF K mg "names_along" s_names_along ["term"] [] := by
  obtain ⟨fd, F⟩ := c.t.d.def_ 12 (d := dD12) rfl
  exact df_of F (gvG KX G c 12) (fun _ _ _ _ _ _ us hl => match us, hl with | [_], _ => rfl)
theorem o_D_names_in (KX : K.In h) (G : h.Ns mainGlobals mg) (c : He.SaysX fa fn ts [] ex w h K) : DF K mg "names_in" s_names_in ["term"] [] := by
  obtain ⟨fd, F⟩ := c.t.d.def_ 13 (d := dD13) rfl
  exact df_of F (gvG KX G c 13) (fun _ _ _ _ _ _ us hl => match us, hl with | [_], _ => rfl)
theorem o_D_has_width (KX : K.In h) (G : h.Ns mainGlobals mg) (c : He.SaysX fa fn ts [] ex w h K) : DF K mg "has_width" s_has_width ["term", "width", "widths"] [] := by
  obtain ⟨fd, F⟩ := c.t.d.def_ 14 (d := dD14) rfl
  exact df_of F (gvG KX G c 14) (fun _ _ _ _ _ _ us hl => match us, hl with | [_, _, _], _ => rfl)
theorem o_D_name_wrong (KX : K.In h) (G : h.Ns mainGlobals mg) (c : He.SaysX fa fn ts [] ex w h K) : DF K mg "name_wrong" s_name_wrong ["name", "at", "taken"] [] := by
  obtain ⟨fd, F⟩ := c.t.d.def_ 15 (d := dD15) rfl
  exact df_of F (gvG KX G c 15) (fun _ _ _ _ _ _ us hl => match us, hl with | [_, _, _], _ => rfl)
theorem o_D_is_width (KX : K.In h) (G : h.Ns mainGlobals mg) (c : He.SaysX fa fn ts [] ex w h K) : DF K mg "is_width" s_is_width ["thing"] [] := by
  obtain ⟨fd, F⟩ := c.t.d.def_ 16 (d := dD16) rfl
  exact df_of F (gvG KX G c 16) (fun _ _ _ _ _ _ us hl => match us, hl with | [_], _ => rfl)
theorem o_D_is_row (KX : K.In h) (G : h.Ns mainGlobals mg) (c : He.SaysX fa fn ts [] ex w h K) : DF K mg "is_row" s_is_row ["thing"] [] := by
  obtain ⟨fd, F⟩ := c.t.d.def_ 17 (d := dD17) rfl
  exact df_of F (gvG KX G c 17) (fun _ _ _ _ _ _ us hl => match us, hl with | [_], _ => rfl)
theorem o_D_signal_wrong (KX : K.In h) (G : h.Ns mainGlobals mg) (c : He.SaysX fa fn ts [] ex w h K) : DF K mg "signal_wrong" s_signal_wrong ["row", "at", "taken"] [] := by
  obtain ⟨fd, F⟩ := c.t.d.def_ 18 (d := dD18) rfl
  exact df_of F (gvG KX G c 18) (fun _ _ _ _ _ _ us hl => match us, hl with | [_, _, _], _ => rfl)
theorem o_D_signals_wrong (KX : K.In h) (G : h.Ns mainGlobals mg) (c : He.SaysX fa fn ts [] ex w h K) : DF K mg "signals_wrong" s_signals_wrong ["signals"] [] := by
  obtain ⟨fd, F⟩ := c.t.d.def_ 19 (d := dD19) rfl
  exact df_of F (gvG KX G c 19) (fun _ _ _ _ _ _ us hl => match us, hl with | [_], _ => rfl)
theorem o_D_many_wrong (KX : K.In h) (G : h.Ns mainGlobals mg) (c : He.SaysX fa fn ts [] ex w h K) : DF K mg "many_wrong" s_many_wrong ["signals", "blocks"] [] := by
  obtain ⟨fd, F⟩ := c.t.d.def_ 20 (d := dD20) rfl
  exact df_of F (gvG KX G c 20) (fun _ _ _ _ _ _ us hl => match us, hl with | [_, _], _ => rfl)
theorem o_D_is_driver (KX : K.In h) (G : h.Ns mainGlobals mg) (c : He.SaysX fa fn ts [] ex w h K) : DF K mg "is_driver" s_is_driver ["thing", "width", "widths"] [] := by
  obtain ⟨fd, F⟩ := c.t.d.def_ 21 (d := dD21) rfl
  exact df_of F (gvG KX G c 21) (fun _ _ _ _ _ _ us hl => match us, hl with | [_, _, _], _ => rfl)
theorem o_D_are_drivers (KX : K.In h) (G : h.Ns mainGlobals mg) (c : He.SaysX fa fn ts [] ex w h K) : DF K mg "are_drivers" s_are_drivers ["thing", "width", "widths"] [] := by
  obtain ⟨fd, F⟩ := c.t.d.def_ 22 (d := dD22) rfl
  exact df_of F (gvG KX G c 22) (fun _ _ _ _ _ _ us hl => match us, hl with | [_, _, _], _ => rfl)
theorem o_D_is_what (KX : K.In h) (G : h.Ns mainGlobals mg) (c : He.SaysX fa fn ts [] ex w h K) : DF K mg "is_what" s_is_what ["row", "widths"] [] := by
  obtain ⟨fd, F⟩ := c.t.d.def_ 23 (d := dD23) rfl
  exact df_of F (gvG KX G c 23) (fun _ _ _ _ _ _ us hl => match us, hl with | [_, _], _ => rfl)
theorem o_D_widths_of (KX : K.In h) (G : h.Ns mainGlobals mg) (c : He.SaysX fa fn ts [] ex w h K) : DF K mg "widths_of" s_widths_of ["signals"] [] := by
  obtain ⟨fd, F⟩ := c.t.d.def_ 24 (d := dD24) rfl
  exact df_of F (gvG KX G c 24) (fun _ _ _ _ _ _ us hl => match us, hl with | [_], _ => rfl)
theorem o_D_what_wrong (KX : K.In h) (G : h.Ns mainGlobals mg) (c : He.SaysX fa fn ts [] ex w h K) : DF K mg "what_wrong" s_what_wrong ["signals"] [] := by
  obtain ⟨fd, F⟩ := c.t.d.def_ 25 (d := dD25) rfl
  exact df_of F (gvG KX G c 25) (fun _ _ _ _ _ _ us hl => match us, hl with | [_], _ => rfl)
theorem o_D_body_weight (KX : K.In h) (G : h.Ns mainGlobals mg) (c : He.SaysX fa fn ts [] ex w h K) : DF K mg "body_weight" s_body_weight ["body", "widths", "kept", "deep"] [] := by
  obtain ⟨fd, F⟩ := c.t.d.def_ 26 (d := dD26) rfl
  exact df_of F (gvG KX G c 26) (fun _ _ _ _ _ _ us hl => match us, hl with | [_, _, _, _], _ => rfl)
theorem o_D_statement_weight (KX : K.In h) (G : h.Ns mainGlobals mg) (c : He.SaysX fa fn ts [] ex w h K) : DF K mg "statement_weight" s_statement_weight ["statement", "widths", "kept", "deep"] [] := by
  obtain ⟨fd, F⟩ := c.t.d.def_ 27 (d := dD27) rfl
  exact df_of F (gvG KX G c 27) (fun _ _ _ _ _ _ us hl => match us, hl with | [_, _, _, _], _ => rfl)
theorem o_D_block_wrong (KX : K.In h) (G : h.Ns mainGlobals mg) (c : He.SaysX fa fn ts [] ex w h K) : DF K mg "block_wrong" s_block_wrong ["row", "at", "taken", "signals"] [] := by
  obtain ⟨fd, F⟩ := c.t.d.def_ 28 (d := dD28) rfl
  exact df_of F (gvG KX G c 28) (fun _ _ _ _ _ _ us hl => match us, hl with | [_, _, _, _], _ => rfl)
theorem o_D_blocks_wrong (KX : K.In h) (G : h.Ns mainGlobals mg) (c : He.SaysX fa fn ts [] ex w h K) : DF K mg "blocks_wrong" s_blocks_wrong ["signals", "blocks"] [] := by
  obtain ⟨fd, F⟩ := c.t.d.def_ 29 (d := dD29) rfl
  exact df_of F (gvG KX G c 29) (fun _ _ _ _ _ _ us hl => match us, hl with | [_, _], _ => rfl)
theorem o_D_set_by (KX : K.In h) (G : h.Ns mainGlobals mg) (c : He.SaysX fa fn ts [] ex w h K) : DF K mg "set_by" s_set_by ["body", "word"] [] := by
  obtain ⟨fd, F⟩ := c.t.d.def_ 30 (d := dD30) rfl
  exact df_of F (gvG KX G c 30) (fun _ _ _ _ _ _ us hl => match us, hl with | [_, _], _ => rfl)
theorem o_D_terms_of (KX : K.In h) (G : h.Ns mainGlobals mg) (c : He.SaysX fa fn ts [] ex w h K) : DF K mg "terms_of" s_terms_of ["row"] [] := by
  obtain ⟨fd, F⟩ := c.t.d.def_ 31 (d := dD31) rfl
  exact df_of F (gvG KX G c 31) (fun _ _ _ _ _ _ us hl => match us, hl with | [_], _ => rfl)
theorem o_D_both_wrong (KX : K.In h) (G : h.Ns mainGlobals mg) (c : He.SaysX fa fn ts [] ex w h K) : DF K mg "both_wrong" s_both_wrong ["signals", "blocks"] [] := by
  obtain ⟨fd, F⟩ := c.t.d.def_ 32 (d := dD32) rfl
  exact df_of F (gvG KX G c 32) (fun _ _ _ _ _ _ us hl => match us, hl with | [_, _], _ => rfl)
theorem o_D_names_beside (KX : K.In h) (G : h.Ns mainGlobals mg) (c : He.SaysX fa fn ts [] ex w h K) : DF K mg "names_beside" s_names_beside ["signals"] [] := by
  obtain ⟨fd, F⟩ := c.t.d.def_ 33 (d := dD33) rfl
  exact df_of F (gvG KX G c 33) (fun _ _ _ _ _ _ us hl => match us, hl with | [_], _ => rfl)
theorem o_D_hangs_on (KX : K.In h) (G : h.Ns mainGlobals mg) (c : He.SaysX fa fn ts [] ex w h K) : DF K mg "hangs_on" s_hangs_on ["name", "beside"] [] := by
  obtain ⟨fd, F⟩ := c.t.d.def_ 34 (d := dD34) rfl
  exact df_of F (gvG KX G c 34) (fun _ _ _ _ _ _ us hl => match us, hl with | [_, _], _ => rfl)
theorem o_D_ring_wrong (KX : K.In h) (G : h.Ns mainGlobals mg) (c : He.SaysX fa fn ts [] ex w h K) : DF K mg "ring_wrong" s_ring_wrong ["signals"] [] := by
  obtain ⟨fd, F⟩ := c.t.d.def_ 35 (d := dD35) rfl
  exact df_of F (gvG KX G c 35) (fun _ _ _ _ _ _ us hl => match us, hl with | [_], _ => rfl)
theorem o_D_first_clash (KX : K.In h) (G : h.Ns mainGlobals mg) (c : He.SaysX fa fn ts [] ex w h K) : DF K mg "first_clash" s_first_clash ["signals", "blocks"] [] := by
  obtain ⟨fd, F⟩ := c.t.d.def_ 36 (d := dD36) rfl
  exact df_of F (gvG KX G c 36) (fun _ _ _ _ _ _ us hl => match us, hl with | [_, _], _ => rfl)
theorem o_D_Design___init__ (KX : K.In h) (G : h.Ns mainGlobals mg) (c : He.SaysX fa fn ts [] ex w h K) : DC K (He.ga K "Design") "Design.__init__" s_Design___init__ ["self", "signals", "blocks"] [] := by
  obtain ⟨fd, F⟩ := c.t.d.def_ 37 (d := dD37) rfl
  exact dc_de F (He.mkr_ok (c.t.d.fact 119 (f := .mkr "Design") rfl))
theorem o_n_rows (c : He.SaysX fa fn ts [] ex w h K) : NoAttr K (He.ga K "Design") "rows" := He.noat_ok (c.t.d.fact 123 (f := .noat "Design" "rows") rfl)
theorem o_n_parts (c : He.SaysX fa fn ts [] ex w h K) : NoAttr K (He.ga K "Design") "parts" := He.noat_ok (c.t.d.fact 124 (f := .noat "Design" "parts") rfl)
theorem o_n_by_names (c : He.SaysX fa fn ts [] ex w h K) : NoAttr K (He.ga K "Design") "by_names" := He.noat_ok (c.t.d.fact 125 (f := .noat "Design" "by_names") rfl)
theorem o_n_beside (c : He.SaysX fa fn ts [] ex w h K) : NoAttr K (He.ga K "Design") "beside" := He.noat_ok (c.t.d.fact 126 (f := .noat "Design" "beside") rfl)
theorem o_D_Design_signals (KX : K.In h) (G : h.Ns mainGlobals mg) (c : He.SaysX fa fn ts [] ex w h K) : DM K (He.ga K "Design") "signals" "Design.signals" s_Design_signals ["self"] [] := by
  obtain ⟨fd, F⟩ := c.t.d.def_ 38 (d := dD38) rfl
  exact dm_of F (He.meth_ok (c.t.d.fact 127 (f := .meth "Design" "signals") rfl)) (fun _ _ _ _ _ _ us hl => match us, hl with | [_], _ => rfl)
theorem o_D_Design_blocks (KX : K.In h) (G : h.Ns mainGlobals mg) (c : He.SaysX fa fn ts [] ex w h K) : DM K (He.ga K "Design") "blocks" "Design.blocks" s_Design_blocks ["self"] [] := by
  obtain ⟨fd, F⟩ := c.t.d.def_ 39 (d := dD39) rfl
  exact dm_of F (He.meth_ok (c.t.d.fact 128 (f := .meth "Design" "blocks") rfl)) (fun _ _ _ _ _ _ us hl => match us, hl with | [_], _ => rfl)
theorem o_D_Design___len__ (KX : K.In h) (G : h.Ns mainGlobals mg) (c : He.SaysX fa fn ts [] ex w h K) : DM K (He.ga K "Design") "__len__" "Design.__len__" s_Design___len__ ["self"] [] := by
  obtain ⟨fd, F⟩ := c.t.d.def_ 40 (d := dD40) rfl
  exact dm_of F (He.meth_ok (c.t.d.fact 129 (f := .meth "Design" "__len__") rfl)) (fun _ _ _ _ _ _ us hl => match us, hl with | [_], _ => rfl)
theorem o_D_Design___eq__ (KX : K.In h) (G : h.Ns mainGlobals mg) (c : He.SaysX fa fn ts [] ex w h K) : DM K (He.ga K "Design") "__eq__" "Design.__eq__" s_Design___eq__ ["self", "other"] [] := by
  obtain ⟨fd, F⟩ := c.t.d.def_ 41 (d := dD41) rfl
  exact dm_of F (He.meth_ok (c.t.d.fact 130 (f := .meth "Design" "__eq__") rfl)) (fun _ _ _ _ _ _ us hl => match us, hl with | [_, _], _ => rfl)
theorem o_D_term_text (KX : K.In h) (G : h.Ns mainGlobals mg) (c : He.SaysX fa fn ts [] ex w h K) : DF K mg "term_text" s_term_text ["term"] [] := by
  obtain ⟨fd, F⟩ := c.t.d.def_ 42 (d := dD42) rfl
  exact df_of F (gvG KX G c 37) (fun _ _ _ _ _ _ us hl => match us, hl with | [_], _ => rfl)
theorem o_D_driver_text (KX : K.In h) (G : h.Ns mainGlobals mg) (c : He.SaysX fa fn ts [] ex w h K) : DF K mg "driver_text" s_driver_text ["driver"] [] := by
  obtain ⟨fd, F⟩ := c.t.d.def_ 43 (d := dD43) rfl
  exact df_of F (gvG KX G c 38) (fun _ _ _ _ _ _ us hl => match us, hl with | [_], _ => rfl)
theorem o_D_what_text (KX : K.In h) (G : h.Ns mainGlobals mg) (c : He.SaysX fa fn ts [] ex w h K) : DF K mg "what_text" s_what_text ["sort", "what"] [] := by
  obtain ⟨fd, F⟩ := c.t.d.def_ 44 (d := dD44) rfl
  exact df_of F (gvG KX G c 39) (fun _ _ _ _ _ _ us hl => match us, hl with | [_, _], _ => rfl)
theorem o_D_body_lines (KX : K.In h) (G : h.Ns mainGlobals mg) (c : He.SaysX fa fn ts [] ex w h K) : DF K mg "body_lines" s_body_lines ["body", "ahead"] [] := by
  obtain ⟨fd, F⟩ := c.t.d.def_ 45 (d := dD45) rfl
  exact df_of F (gvG KX G c 40) (fun _ _ _ _ _ _ us hl => match us, hl with | [_, _], _ => rfl)
theorem o_D_design_text (KX : K.In h) (G : h.Ns mainGlobals mg) (c : He.SaysX fa fn ts [] ex w h K) : DF K mg "design_text" s_design_text ["design"] [] := by
  obtain ⟨fd, F⟩ := c.t.d.def_ 46 (d := dD46) rfl
  exact df_of F (gvG KX G c 41) (fun _ _ _ _ _ _ us hl => match us, hl with | [_], _ => rfl)
theorem o_D_run_end (KX : K.In h) (G : h.Ns mainGlobals mg) (c : He.SaysX fa fn ts [] ex w h K) : DF K mg "run_end" s_run_end ["text", "at", "signs"] [] := by
  obtain ⟨fd, F⟩ := c.t.d.def_ 47 (d := dD47) rfl
  exact df_of F (gvG KX G c 42) (fun _ _ _ _ _ _ us hl => match us, hl with | [_, _, _], _ => rfl)
theorem o_D_past (KX : K.In h) (G : h.Ns mainGlobals mg) (c : He.SaysX fa fn ts [] ex w h K) : DF K mg "past" s_past ["text", "at", "word"] [] := by
  obtain ⟨fd, F⟩ := c.t.d.def_ 48 (d := dD48) rfl
  exact df_of F (gvG KX G c 43) (fun _ _ _ _ _ _ us hl => match us, hl with | [_, _, _], _ => rfl)
theorem o_D_read_number (KX : K.In h) (G : h.Ns mainGlobals mg) (c : He.SaysX fa fn ts [] ex w h K) : DF K mg "read_number" s_read_number ["text", "at"] [] := by
  obtain ⟨fd, F⟩ := c.t.d.def_ 49 (d := dD49) rfl
  exact df_of F (gvG KX G c 44) (fun _ _ _ _ _ _ us hl => match us, hl with | [_, _], _ => rfl)
theorem o_D_read_operator (KX : K.In h) (G : h.Ns mainGlobals mg) (c : He.SaysX fa fn ts [] ex w h K) : DF K mg "read_operator" s_read_operator ["text", "at", "word", "deep"] [] := by
  obtain ⟨fd, F⟩ := c.t.d.def_ 50 (d := dD50) rfl
  exact df_of F (gvG KX G c 45) (fun _ _ _ _ _ _ us hl => match us, hl with | [_, _, _, _], _ => rfl)
theorem o_D_read_at (KX : K.In h) (G : h.Ns mainGlobals mg) (c : He.SaysX fa fn ts [] ex w h K) : DF K mg "read_at" s_read_at ["text", "at", "deep"] [] := by
  obtain ⟨fd, F⟩ := c.t.d.def_ 51 (d := dD51) rfl
  exact df_of F (gvG KX G c 46) (fun _ _ _ _ _ _ us hl => match us, hl with | [_, _, _], _ => rfl)
theorem o_D_read_term (KX : K.In h) (G : h.Ns mainGlobals mg) (c : He.SaysX fa fn ts [] ex w h K) : DF K mg "read_term" s_read_term ["text"] [] := by
  obtain ⟨fd, F⟩ := c.t.d.def_ 52 (d := dD52) rfl
  exact df_of F (gvG KX G c 47) (fun _ _ _ _ _ _ us hl => match us, hl with | [_], _ => rfl)
theorem o_D_driver_in (KX : K.In h) (G : h.Ns mainGlobals mg) (c : He.SaysX fa fn ts [] ex w h K) : DF K mg "driver_in" s_driver_in ["text"] [] := by
  obtain ⟨fd, F⟩ := c.t.d.def_ 53 (d := dD53) rfl
  exact df_of F (gvG KX G c 48) (fun _ _ _ _ _ _ us hl => match us, hl with | [_], _ => rfl)
theorem o_D_what_in (KX : K.In h) (G : h.Ns mainGlobals mg) (c : He.SaysX fa fn ts [] ex w h K) : DF K mg "what_in" s_what_in ["sort", "text"] [] := by
  obtain ⟨fd, F⟩ := c.t.d.def_ 54 (d := dD54) rfl
  exact df_of F (gvG KX G c 49) (fun _ _ _ _ _ _ us hl => match us, hl with | [_, _], _ => rfl)
theorem o_D_signal_in (KX : K.In h) (G : h.Ns mainGlobals mg) (c : He.SaysX fa fn ts [] ex w h K) : DF K mg "signal_in" s_signal_in ["line"] [] := by
  obtain ⟨fd, F⟩ := c.t.d.def_ 55 (d := dD55) rfl
  exact df_of F (gvG KX G c 50) (fun _ _ _ _ _ _ us hl => match us, hl with | [_], _ => rfl)
theorem o_D_Lines___init__ (KX : K.In h) (G : h.Ns mainGlobals mg) (c : He.SaysX fa fn ts [] ex w h K) : DC K (He.ga K "Lines") "Lines.__init__" s_Lines___init__ ["self", "rows"] [] := by
  obtain ⟨fd, F⟩ := c.t.d.def_ 56 (d := dD56) rfl
  exact dc_of F (He.mkr_ok (c.t.d.fact 122 (f := .mkr "Lines") rfl)) (fun _ _ _ _ _ _ us hl => match us, hl with | [_, _], _ => rfl)
theorem o_n_left (c : He.SaysX fa fn ts [] ex w h K) : NoAttr K (He.ga K "Lines") "left" := He.noat_ok (c.t.d.fact 131 (f := .noat "Lines" "left") rfl)
theorem o_D_Lines_is_over (KX : K.In h) (G : h.Ns mainGlobals mg) (c : He.SaysX fa fn ts [] ex w h K) : DM K (He.ga K "Lines") "is_over" "Lines.is_over" s_Lines_is_over ["self"] [] := by
  obtain ⟨fd, F⟩ := c.t.d.def_ 57 (d := dD57) rfl
  exact dm_of F (He.meth_ok (c.t.d.fact 132 (f := .meth "Lines" "is_over") rfl)) (fun _ _ _ _ _ _ us hl => match us, hl with | [_], _ => rfl)
theorem o_D_Lines_begins (KX : K.In h) (G : h.Ns mainGlobals mg) (c : He.SaysX fa fn ts [] ex w h K) : DM K (He.ga K "Lines") "begins" "Lines.begins" s_Lines_begins ["self", "text"] [] := by
  obtain ⟨fd, F⟩ := c.t.d.def_ 58 (d := dD58) rfl
  exact dm_of F (He.meth_ok (c.t.d.fact 133 (f := .meth "Lines" "begins") rfl)) (fun _ _ _ _ _ _ us hl => match us, hl with | [_, _], _ => rfl)
theorem o_D_Lines_taken (KX : K.In h) (G : h.Ns mainGlobals mg) (c : He.SaysX fa fn ts [] ex w h K) : DM K (He.ga K "Lines") "taken" "Lines.taken" s_Lines_taken ["self"] [] := by
  obtain ⟨fd, F⟩ := c.t.d.def_ 59 (d := dD59) rfl
  exact dm_of F (He.meth_ok (c.t.d.fact 134 (f := .meth "Lines" "taken") rfl)) (fun _ _ _ _ _ _ us hl => match us, hl with | [_], _ => rfl)
theorem o_D_body_in (KX : K.In h) (G : h.Ns mainGlobals mg) (c : He.SaysX fa fn ts [] ex w h K) : DF K mg "body_in" s_body_in ["lines", "ahead"] [] := by
  obtain ⟨fd, F⟩ := c.t.d.def_ 60 (d := dD60) rfl
  exact df_of F (gvG KX G c 51) (fun _ _ _ _ _ _ us hl => match us, hl with | [_, _], _ => rfl)
theorem o_D_statement_in (KX : K.In h) (G : h.Ns mainGlobals mg) (c : He.SaysX fa fn ts [] ex w h K) : DF K mg "statement_in" s_statement_in ["lines", "ahead"] [] := by
  obtain ⟨fd, F⟩ := c.t.d.def_ 61 (d := dD61) rfl
  exact df_of F (gvG KX G c 52) (fun _ _ _ _ _ _ us hl => match us, hl with | [_, _], _ => rfl)
theorem o_D_block_in (KX : K.In h) (G : h.Ns mainGlobals mg) (c : He.SaysX fa fn ts [] ex w h K) : DF K mg "block_in" s_block_in ["lines"] [] := by
  obtain ⟨fd, F⟩ := c.t.d.def_ 62 (d := dD62) rfl
  exact df_of F (gvG KX G c 53) (fun _ _ _ _ _ _ us hl => match us, hl with | [_], _ => rfl)
theorem o_D_design_in (KX : K.In h) (G : h.Ns mainGlobals mg) (c : He.SaysX fa fn ts [] ex w h K) : DF K mg "design_in" s_design_in ["lines"] [] := by
  obtain ⟨fd, F⟩ := c.t.d.def_ 63 (d := dD63) rfl
  exact df_of F (gvG KX G c 54) (fun _ _ _ _ _ _ us hl => match us, hl with | [_], _ => rfl)
theorem o_D_read_design (KX : K.In h) (G : h.Ns mainGlobals mg) (c : He.SaysX fa fn ts [] ex w h K) : DF K mg "read_design" s_read_design ["text"] [] := by
  obtain ⟨fd, F⟩ := c.t.d.def_ 64 (d := dD64) rfl
  exact df_of F (gvG KX G c 55) (fun _ _ _ _ _ _ us hl => match us, hl with | [_], _ => rfl)
theorem o_D__law_pot (KX : K.In h) (G : h.Ns mainGlobals mg) (c : He.SaysX fa fn ts [] ex w h K) : DF K mg "_law_pot" s__law_pot ["_law_script", "_law_k"] [] := by
  obtain ⟨fd, F⟩ := c.t.d.def_ 65 (d := dD65) rfl
  exact df_of F (gvG KX G c 56) (fun _ _ _ _ _ _ us hl => match us, hl with | [_, _], _ => rfl)
theorem o_D__law_digit (KX : K.In h) (G : h.Ns mainGlobals mg) (c : He.SaysX fa fn ts [] ex w h K) : DF K mg "_law_digit" s__law_digit ["_law_pot_here", "_law_many"] [] := by
  obtain ⟨fd, F⟩ := c.t.d.def_ 66 (d := dD66) rfl
  exact df_of F (gvG KX G c 57) (fun _ _ _ _ _ _ us hl => match us, hl with | [_, _], _ => rfl)
theorem o_D__law_width (KX : K.In h) (G : h.Ns mainGlobals mg) (c : He.SaysX fa fn ts [] ex w h K) : DF K mg "_law_width" s__law_width ["_law_pot_here"] [] := by
  obtain ⟨fd, F⟩ := c.t.d.def_ 67 (d := dD67) rfl
  exact df_of F (gvG KX G c 58) (fun _ _ _ _ _ _ us hl => match us, hl with | [_], _ => rfl)
theorem o_D__law_value (KX : K.In h) (G : h.Ns mainGlobals mg) (c : He.SaysX fa fn ts [] ex w h K) : DF K mg "_law_value" s__law_value ["_law_pot_here", "_law_width_here", "_law_signs"] [] := by
  obtain ⟨fd, F⟩ := c.t.d.def_ 68 (d := dD68) rfl
  exact df_of F (gvG KX G c 59) (fun _ _ _ _ _ _ us hl => match us, hl with | [_, _, _], _ => rfl)
theorem o_D__law_name (KX : K.In h) (G : h.Ns mainGlobals mg) (c : He.SaysX fa fn ts [] ex w h K) : DF K mg "_law_name" s__law_name ["_law_pot_here", "_law_taken"] [] := by
  obtain ⟨fd, F⟩ := c.t.d.def_ 69 (d := dD69) rfl
  exact df_of F (gvG KX G c 60) (fun _ _ _ _ _ _ us hl => match us, hl with | [_, _], _ => rfl)
theorem o_D__law_leaf (KX : K.In h) (G : h.Ns mainGlobals mg) (c : He.SaysX fa fn ts [] ex w h K) : DF K mg "_law_leaf" s__law_leaf ["_law_pot_here", "_law_names", "_law_width_here"] [] := by
  obtain ⟨fd, F⟩ := c.t.d.def_ 70 (d := dD70) rfl
  exact df_of F (gvG KX G c 61) (fun _ _ _ _ _ _ us hl => match us, hl with | [_, _, _], _ => rfl)
theorem o_D__law_term (KX : K.In h) (G : h.Ns mainGlobals mg) (c : He.SaysX fa fn ts [] ex w h K) : DF K mg "_law_term" s__law_term ["_law_pot_here", "_law_names", "_law_width_here", "_law_deep_here"] [] := by
  obtain ⟨fd, F⟩ := c.t.d.def_ 71 (d := dD71) rfl
  exact df_of F (gvG KX G c 62) (fun _ _ _ _ _ _ us hl => match us, hl with | [_, _, _, _], _ => rfl)
theorem o_D__law_sources (KX : K.In h) (G : h.Ns mainGlobals mg) (c : He.SaysX fa fn ts [] ex w h K) : DF K mg "_law_sources" s__law_sources ["_law_pot_here", "_law_taken"] [] := by
  obtain ⟨fd, F⟩ := c.t.d.def_ 72 (d := dD72) rfl
  exact df_of F (gvG KX G c 63) (fun _ _ _ _ _ _ us hl => match us, hl with | [_, _], _ => rfl)
theorem o_D__law_led (KX : K.In h) (G : h.Ns mainGlobals mg) (c : He.SaysX fa fn ts [] ex w h K) : DF K mg "_law_led" s__law_led ["_law_pot_here", "_law_plain", "_law_every", "_law_taken", "_law_deep_here"] [] := by
  obtain ⟨fd, F⟩ := c.t.d.def_ 73 (d := dD73) rfl
  exact df_of F (gvG KX G c 64) (fun _ _ _ _ _ _ us hl => match us, hl with | [_, _, _, _, _], _ => rfl)
theorem o_D__law_body (KX : K.In h) (G : h.Ns mainGlobals mg) (c : He.SaysX fa fn ts [] ex w h K) : DF K mg "_law_body" s__law_body ["_law_pot_here", "_law_kept", "_law_every", "_law_deep_here", "_law_room"] [] := by
  obtain ⟨fd, F⟩ := c.t.d.def_ 74 (d := dD74) rfl
  exact df_of F (gvG KX G c 65) (fun _ _ _ _ _ _ us hl => match us, hl with | [_, _, _, _, _], _ => rfl)
theorem o_D__law_blocks (KX : K.In h) (G : h.Ns mainGlobals mg) (c : He.SaysX fa fn ts [] ex w h K) : DF K mg "_law_blocks" s__law_blocks ["_law_pot_here", "_law_signals", "_law_taken"] [] := by
  obtain ⟨fd, F⟩ := c.t.d.def_ 75 (d := dD75) rfl
  exact df_of F (gvG KX G c 66) (fun _ _ _ _ _ _ us hl => match us, hl with | [_, _, _], _ => rfl)
theorem o_D__law_design (KX : K.In h) (G : h.Ns mainGlobals mg) (c : He.SaysX fa fn ts [] ex w h K) : DF K mg "_law_design" s__law_design ["_law_pot_here"] [] := by
  obtain ⟨fd, F⟩ := c.t.d.def_ 76 (d := dD76) rfl
  exact df_of F (gvG KX G c 67) (fun _ _ _ _ _ _ us hl => match us, hl with | [_], _ => rfl)
theorem o_D__law_term_text (KX : K.In h) (G : h.Ns mainGlobals mg) (c : He.SaysX fa fn ts [] ex w h K) : DF K mg "_law_term_text" s__law_term_text ["_law_term_here"] [] := by
  obtain ⟨fd, F⟩ := c.t.d.def_ 77 (d := dD77) rfl
  exact df_of F (gvG KX G c 68) (fun _ _ _ _ _ _ us hl => match us, hl with | [_], _ => rfl)
theorem o_D__law_what_text (KX : K.In h) (G : h.Ns mainGlobals mg) (c : He.SaysX fa fn ts [] ex w h K) : DF K mg "_law_what_text" s__law_what_text ["_law_row"] [] := by
  obtain ⟨fd, F⟩ := c.t.d.def_ 78 (d := dD78) rfl
  exact df_of F (gvG KX G c 69) (fun _ _ _ _ _ _ us hl => match us, hl with | [_], _ => rfl)
theorem o_D__law_body_lines (KX : K.In h) (G : h.Ns mainGlobals mg) (c : He.SaysX fa fn ts [] ex w h K) : DF K mg "_law_body_lines" s__law_body_lines ["_law_body_here", "_law_ahead"] [] := by
  obtain ⟨fd, F⟩ := c.t.d.def_ 79 (d := dD79) rfl
  exact df_of F (gvG KX G c 70) (fun _ _ _ _ _ _ us hl => match us, hl with | [_, _], _ => rfl)
theorem o_D__law_lines (KX : K.In h) (G : h.Ns mainGlobals mg) (c : He.SaysX fa fn ts [] ex w h K) : DF K mg "_law_lines" s__law_lines ["_law_signals", "_law_blocks_here"] [] := by
  obtain ⟨fd, F⟩ := c.t.d.def_ 80 (d := dD80) rfl
  exact df_of F (gvG KX G c 71) (fun _ _ _ _ _ _ us hl => match us, hl with | [_, _], _ => rfl)
theorem o_D__law_design_text (KX : K.In h) (G : h.Ns mainGlobals mg) (c : He.SaysX fa fn ts [] ex w h K) : DF K mg "_law_design_text" s__law_design_text ["_law_signals", "_law_blocks_here"] [] := by
  obtain ⟨fd, F⟩ := c.t.d.def_ 81 (d := dD81) rfl
  exact df_of F (gvG KX G c 72) (fun _ _ _ _ _ _ us hl => match us, hl with | [_, _], _ => rfl)
theorem o_D__law_right (KX : K.In h) (G : h.Ns mainGlobals mg) (c : He.SaysX fa fn ts [] ex w h K) : DF K mg "_law_right" s__law_right ["_law_signals", "_law_blocks_here"] [] := by
  obtain ⟨fd, F⟩ := c.t.d.def_ 82 (d := dD82) rfl
  exact df_of F (gvG KX G c 73) (fun _ _ _ _ _ _ us hl => match us, hl with | [_, _], _ => rfl)
theorem o_D__law_deep (KX : K.In h) (G : h.Ns mainGlobals mg) (c : He.SaysX fa fn ts [] ex w h K) : DF K mg "_law_deep" s__law_deep [] [] := by
  obtain ⟨fd, F⟩ := c.t.d.def_ 83 (d := dD83) rfl
  exact df_of F (gvG KX G c 74) (fun _ _ _ _ _ _ us hl => match us, hl with | [], _ => rfl)
theorem o_D_law (KX : K.In h) (G : h.Ns mainGlobals mg) (c : He.SaysX fa fn ts [] ex w h K) : DF K mg "law" s_law ["_law_script"] [] := by
  obtain ⟨fd, F⟩ := c.t.d.def_ 84 (d := dD84) rfl
  exact df_of F (gvG KX G c 75) (fun _ _ _ _ _ _ us hl => match us, hl with | [_], _ => rfl)
theorem dat_of (KX : K.In h) (G : h.Ns mainGlobals mg) (c : He.SaysX fa fn ts [] ex w h K) : Dat w K mg (He.ga K "ARGUMENTS") (He.ga K "Design") (He.ga K "Lines") := by
  obtain ⟨kA, kD, kL⟩ := rest_of KX G c
  exact {
    T := tx_of KX G c
    kA := kA
    kD := kD
    kL := kL
    D_is_value := o_D_is_value KX G c
    DK_is_value := o_DK_is_value KX G c
    D_is_name := o_D_is_name KX G c
    D_is_whole := o_D_is_whole KX G c
    D_are_bounds := o_D_are_bounds KX G c
    D_leaf_weight := o_D_leaf_weight KX G c
    D_arguments_of := o_D_arguments_of KX G c
    D_term_weight0 := o_D_term_weight0 KX G c
    D_term_weight := o_D_term_weight KX G c
    D_is_term := o_D_is_term KX G c
    D_terms_in := o_D_terms_in KX G c
    D_operated_width := o_D_operated_width KX G c
    D_fitting_width := o_D_fitting_width KX G c
    D_width_of := o_D_width_of KX G c
    D_names_along := o_D_names_along KX G c
    D_names_in := o_D_names_in KX G c
    D_has_width := o_D_has_width KX G c
    D_name_wrong := o_D_name_wrong KX G c
    D_is_width := o_D_is_width KX G c
    D_is_row := o_D_is_row KX G c
    D_signal_wrong := o_D_signal_wrong KX G c
    D_signals_wrong := o_D_signals_wrong KX G c
    D_many_wrong := o_D_many_wrong KX G c
    D_is_driver := o_D_is_driver KX G c
    D_are_drivers := o_D_are_drivers KX G c
    D_is_what := o_D_is_what KX G c
    D_widths_of := o_D_widths_of KX G c
    D_what_wrong := o_D_what_wrong KX G c
    D_body_weight := o_D_body_weight KX G c
    D_statement_weight := o_D_statement_weight KX G c
    D_block_wrong := o_D_block_wrong KX G c
    D_blocks_wrong := o_D_blocks_wrong KX G c
    D_set_by := o_D_set_by KX G c
    D_terms_of := o_D_terms_of KX G c
    D_both_wrong := o_D_both_wrong KX G c
    D_names_beside := o_D_names_beside KX G c
    D_hangs_on := o_D_hangs_on KX G c
    D_ring_wrong := o_D_ring_wrong KX G c
    D_first_clash := o_D_first_clash KX G c
    D_Design___init__ := o_D_Design___init__ KX G c
    n_rows := o_n_rows c
    n_parts := o_n_parts c
    n_by_names := o_n_by_names c
    n_beside := o_n_beside c
    D_Design_signals := o_D_Design_signals KX G c
    D_Design_blocks := o_D_Design_blocks KX G c
    D_Design___len__ := o_D_Design___len__ KX G c
    D_Design___eq__ := o_D_Design___eq__ KX G c
    D_term_text := o_D_term_text KX G c
    D_driver_text := o_D_driver_text KX G c
    D_what_text := o_D_what_text KX G c
    D_body_lines := o_D_body_lines KX G c
    D_design_text := o_D_design_text KX G c
    D_run_end := o_D_run_end KX G c
    D_past := o_D_past KX G c
    D_read_number := o_D_read_number KX G c
    D_read_operator := o_D_read_operator KX G c
    D_read_at := o_D_read_at KX G c
    D_read_term := o_D_read_term KX G c
    D_driver_in := o_D_driver_in KX G c
    D_what_in := o_D_what_in KX G c
    D_signal_in := o_D_signal_in KX G c
    D_Lines___init__ := o_D_Lines___init__ KX G c
    n_left := o_n_left c
    D_Lines_is_over := o_D_Lines_is_over KX G c
    D_Lines_begins := o_D_Lines_begins KX G c
    D_Lines_taken := o_D_Lines_taken KX G c
    D_body_in := o_D_body_in KX G c
    D_statement_in := o_D_statement_in KX G c
    D_block_in := o_D_block_in KX G c
    D_design_in := o_D_design_in KX G c
    D_read_design := o_D_read_design KX G c
    D__law_pot := o_D__law_pot KX G c
    D__law_digit := o_D__law_digit KX G c
    D__law_width := o_D__law_width KX G c
    D__law_value := o_D__law_value KX G c
    D__law_name := o_D__law_name KX G c
    D__law_leaf := o_D__law_leaf KX G c
    D__law_term := o_D__law_term KX G c
    D__law_sources := o_D__law_sources KX G c
    D__law_led := o_D__law_led KX G c
    D__law_body := o_D__law_body KX G c
    D__law_blocks := o_D__law_blocks KX G c
    D__law_design := o_D__law_design KX G c
    D__law_term_text := o_D__law_term_text KX G c
    D__law_what_text := o_D__law_what_text KX G c
    D__law_body_lines := o_D__law_body_lines KX G c
    D__law_lines := o_D__law_lines KX G c
    D__law_design_text := o_D__law_design_text KX G c
    D__law_right := o_D__law_right KX G c
    D__law_deep := o_D__law_deep KX G c
    D_law := o_D_law KX G c }
end
theorem facts {P : Program} {w : World} {K : PySem.W.Frag} {h : Heap} {mg : Str → Option Value} {f : Addr} (KX : K.In h) (G : h.Ns mainGlobals mg) (hfa : mg ("law" : Str) = some (.ref f)) (c : He.SaysX fa fn ts [] ex w h K) :
    ∃ fd : FuncData, (∀ (s : Shared) (v : Value), BindsTo s fd ⟨[v], []⟩ [("_law_script", v)]) ∧ ∀ base : Heap, K.In base → base.Ns mainGlobals mg → FnG P w K mg base 37 f fd ["_law_script"] (spLaw K) := by
  obtain ⟨fd, F⟩ := c.t.d.def_ 84 (d := dD84) rfl
  have e := hfa.symm.trans (gvG KX G c 75 (x := "law"))
  cases e
  have b := FunD.bindsA (ps := ["_law_script"]) F fun _ _ _ _ _ _ us hl => match us, hl with | [_], _ => rfl
  refine ⟨fd, fun s v => b s [v] rfl, fun base _ _ => ?_⟩
  obtain ⟨f', fd', g1, _, _, ⟨oc, od, osl, lk⟩, g⟩ := (law_fg (P := P) (w := w) (base := base) (dat_of KX G c)).ex
  have e2 := hfa.symm.trans g1
  cases e2
  obtain ⟨oc2, od2, dV, kV, doc, pm, an, cdv, ct, osl2, e3, lk2, _, _, _⟩ := F.ex
  have e4 := Option.some.inj (lk.symm.trans lk2)
  have e5 : Data.func fd' = Data.func fd := congrArg Obj.data e4
  injection e5 with e6
  rw [← e6]
  exact g
end K37
set_option maxHeartbeats 0
open PySem PySem.W PySem.Calls PyProof.Rows
theorem PySem.Challenge.cw_deltawires_k37_whole_texts_there_and_bac_holds : PySem.Challenge.rw_deltawires_k37_whole_texts_there_and_bac.Holds := by
  refine K37.head_k ?_
  refine K37.walkG (l := PySem.Challenge.rw_deltawires_k37_whole_texts_there_and_bac) (n := 63) (k := 37) (x := "_law_script") rfl (by decide) K37.law_def ⟨rfl, by decide, by decide⟩ ?F
  intro w mg fa h Y G hmg0
  obtain ⟨K, KX, c⟩ := Y
  have hmg : mg ("law" : PySem.Str) = some (.ref fa) := by
    rw [← K37.law_name]
    exact hmg0
  obtain ⟨fd, hb, hF⟩ := K37.facts (P := (PySem.Challenge.rw_deltawires_k37_whole_texts_there_and_bac).prog) (w := w) KX G hmg c
  exact ⟨K, fd, K37.spLaw K, KX, hb, fun H a ns hl hS => ⟨a, ns, rfl, hS, hl, fun _ => rfl⟩, hF⟩
