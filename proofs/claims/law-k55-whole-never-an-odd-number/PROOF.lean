import PyProof.Rows.All
import Wide.All
import OpenK.AllK
import Wide.FinOn
import HandS.GenCall
import HandS.ForMost
import HandS.GenList
import HandS.IterVal
import KE.KOwnIter
import HandS.Conv
import KE.SortData
import HandS.Zip
import HandS.SetFor
import KE.KDictDisplayH
import KE.GoesMore
import HandS.Iter
import HandS.TupAny
import HandS.Walk
import HandS.Evl
import HandS.Property
import HandS.ClsMeth
import HandS.IsInst
import HandS.Defaults
import PySem.Challenge.RW_neveralone_k55_whole_never_an_odd_number
set_option Elab.async false
set_option linter.all false
set_option maxRecDepth 100000
set_option maxHeartbeats 40000000
/-! One turn of a generator's code, whatever its consumer does between two turns. -/
namespace NA
open PySem PySem.Spec PyProof.Rows L2 GenW
open Sem (wp)

/-- one turn of a generator's code: it comes to an end of which F holds -/
def Go (M : Model) (A : Around) (F : End → Shared → Prop) (c : Code) (t : Sem PySem.Fin) (fs : List Frame) (s : Shared) : Prop :=
  ∀ Γ p, Γ.code = c → Γ.Woken A → ∃ e s', Runs M Γ p t fs s e s' ∧ F e s'
section
variable {M : Model} {A : Around} {F : End → Shared → Prop} {c : Code} {fs : List Frame} {s : Shared}
theorem go_wrap {α : Type} {m : Sem α} {K : α → Sem PySem.Fin} {J : Value → Sem PySem.Fin} {gd : Bool → Bool} {lv : List Value → List Value}
    (h : wpAny M (A.over c fs) m (fun a s' => Go M A F c (K a) fs s') (fun x s' => Go M A F c (J x) fs s') s) :
    Go M A F c (m.wrap K J gd lv) fs s := by
  rintro Γ p rfl hW
  exact runs_wrap_of_wp K J gd lv m (h (Γ.over fs) p (hW.over fs)) (fun a p' s' h' => h' Γ p' rfl hW) (fun x p' s' h' => h' Γ p' rfl hW)
theorem go_bindw {α β : Type} {m : Sem α} {f : α → Sem β} {K : β → Sem PySem.Fin} {J : Value → Sem PySem.Fin} {gd : Bool → Bool} {lv : List Value → List Value}
    (h : wpAny M (A.over c fs) m (fun a s' => Go M A F c ((f a).wrap K J gd lv) fs s') (fun x s' => Go M A F c (J x) fs s') s) :
    Go M A F c ((m >>= f).wrap K J gd lv) fs s := by
  rw [Sem.bind_eq_wrap', Sem.wrap_wrap]
  exact go_wrap h
theorem go_at {p' : Pos} {k : Unit → Sem PySem.Fin} (h : Go M A F c (k ()) fs s) : Go M A F c (.at p' k) fs s :=
  go_wrap (m := standAt p') (K := k) (J := .raise) (gd := id) (lv := id) (wpAny_standAt h)
theorem go_point {l : List Value} {k : Unit → Sem PySem.Fin} (h : Go M A F c (k ()) fs s) : Go M A F c (.point l k) fs s :=
  go_wrap (m := point) (K := k) (J := .raise) (gd := id) (lv := fun _ => l) (wpAny_point h)
theorem go_call {c' : Code} {g : Bool} {l : List Value} {k : Result → Sem PySem.Fin} {h0 : _}
    (hc : ∀ p, Go M A F c' (M.den c') (.ret k h0 g l c p [] :: fs) s) : Go M A F c (.call c' h0 g l k) fs s := by
  rintro Γ p rfl hW
  obtain ⟨e, s', hr, he⟩ := hc p (Γ.goto c') p rfl (hW.goto c')
  exact ⟨e, s', runs_call_seg hr, he⟩
theorem go_leaf {k : Result → Sem PySem.Fin} {h0 : _} {g : Bool} {l : List Value} {c1 : Code} {p1 : Pos} {kp : List Value} (r : Result) (hk : Go M A F c1 (k r) fs s) :
    Go M A F c (leafOf r) (.ret k h0 g l c1 p1 kp :: fs) s := by
  rintro Γ p rfl hW
  obtain ⟨e, s', hr, he⟩ := hk (Γ.goto c1) p1 rfl (hW.goto c1)
  exact ⟨e, s', Runs.pop r hr, he⟩
theorem go_again {c' : Code} (hq : c'.quiet = true) (hc : Go M A F c' (M.den c') fs s) : Go M A F c (.pure (.again c')) fs s := by
  rintro Γ p rfl hW
  obtain ⟨e, s', hr, he⟩ := hc (Γ.goto c') p rfl (hW.goto c')
  exact ⟨e, s', Runs.head (c₁ := c') (fun _ _ x => .again hq x) hr, he⟩
theorem go_end (r : Result) (h : F (.ret r) s) : Go M A F c (leafOf r) [] s := by
  rintro Γ p rfl _
  exact ⟨.ret r, s, Runs.leaf r, h⟩
theorem go_yield {v : Value} {g : Bool} {l : List Value} {k : Resume → Sem PySem.Fin} (hfs : splitAtGen fs = none)
    (h : ∀ p, F (.susp v g l k c p fs) s) : Go M A F c (.yield v g l k) fs s := by
  rintro Γ p rfl _
  exact ⟨_, s, Runs.yield' fs hfs, h _⟩
theorem go_of_eq {t t' : Sem PySem.Fin} (e : t = t') (h : Go M A F c t' fs s) : Go M A F c t fs s := e ▸ h
end

section
variable {M : Model} {A : Around} {F : End → Shared → Prop} {c : Code} {fs : List Frame} {s : Shared} {env : Env} {K : Flow → Sem PySem.Fin} {J : Value → Sem PySem.Fin} {gd : Bool → Bool} {lv : List Value → List Value}
theorem go_nil (h : Go M A F c (K .next) fs s) : Go M A F c ((execs [] env).wrap K J gd lv) fs s := h
theorem go_cons {st : Stmt} {rest : List Stmt}
    (h : Go M A F c ((exec st env).wrap (fun f => match f with | .next => (execs rest env).wrap K J gd lv | f => K f) J gd lv) fs s) :
    Go M A F c ((execs (st :: rest) env).wrap K J gd lv) fs s := by rw [execs_cons_wrap]; exact h
/-- a yield as a statement -/
theorem go_Yield {e : Expr} {ypos pos : Pos} (hfs : splitAtGen fs = none)
    (h : wpAny M (A.over c fs) (eval e env) (fun v s' => ∀ (l : List Value) (k : Resume → Sem PySem.Fin) p, k (.send .none) = K .next → F (.susp v (gd false) l k c p fs) s')
      (fun x s' => Go M A F c (J x) fs s') s) (hco : env.scope.isCoroutine = false := by rfl) (hi : interactive env = false := by rfl) :
    Go M A F c ((exec (.Expr (.Yield (some e) ypos) pos) env).wrap K J gd lv) fs s := by
  rw [exec_Expr env _ pos hi rfl]
  show Go M A F c (.at pos fun _ => ((eval e env >>= fun v => (standAt ypos >>= fun _ => yieldOut env v)) >>= fun x =>
    dropValue (.Yield (some e) ypos) pos x).wrap K J gd lv) fs s
  have hy : ∀ v, yieldOut env v = yieldValue v := fun v => by simp only [yieldOut, hco, Bool.false_eq_true, if_false]
  simp only [hy]
  refine go_at ?_
  rw [Sem.bind_eq_wrap', Sem.bind_eq_wrap', Sem.wrap_wrap, Sem.wrap_wrap]
  refine go_wrap (wpAny_mono h (fun v s' h' => ?_) fun _ _ x => x)
  refine go_at (go_yield hfs fun p => ?_)
  exact h' _ _ p rfl
end

section
variable {prog : Program} {w : World} {A : Around} {F : End → Shared → Prop} {c : Code} {fs : List Frame} {s : Shared} {env : Env} {K : Flow → Sem PySem.Fin} {J : Value → Sem PySem.Fin} {gd : Bool → Bool} {lv : List Value → List Value}
/-- what a for's own call does with what comes back -/
def fback (env : Env) (K : Flow → Sem PySem.Fin) (J : Value → Sem PySem.Fin) (gd : Bool → Bool) (lv : List Value → List Value) : Result → Sem PySem.Fin := fun r =>
  ((match r with | .ok f => (.pure f : Sem Flow) | .error e => .raise e).onRaise (cameBack env)).wrap K J gd lv
theorem fback_ok (f : Flow) : fback env K J gd lv (.ok f) = K f := rfl
def fturn (target : Expr) (it : Value) (body : List Stmt) (env : Env) : Flow → Sem PySem.Fin := fun f => match f with
  | .next | .cont => .pure (.again (.forLoop target it body [] env))
  | .brk => .pure (.done .next)
  | .ret v => .pure (.done (.ret v))
def fnote (env : Env) : Value → Sem PySem.Fin := fun e => (do noteFrame e env; theTreesLotGoes e : Sem Unit).wrap (fun _ => .raise e) .raise id id
theorem go_For {target iter : Expr} {body : List Stmt} {pos : Pos}
    (h : wpAny (model prog w) (A.over c fs) (eval iter env) (fun x s1 => wpAny (model prog w) (A.over c fs) (pyIter x) (fun it s2 =>
      ∀ p, Go (model prog w) A F (.forLoop target it body [] env) ((model prog w).den (.forLoop target it body [] env)) (.ret (fback env K J gd lv) none (gd false) (lv []) c p [] :: fs) s2) (fun _ _ => False) s1) (fun _ _ => False) s)
    (hs : ∀ x, foldedSetIterable iter env x = pure x := by intro _; rfl) :
    Go (model prog w) A F c ((exec (.For target iter body [] pos) env).wrap K J gd lv) fs s := by
  rw [exec_For]
  refine go_bindw (wpAny_standAt ?_)
  refine go_bindw (wpAny_mono h (fun x s1 h1 => ?_) fun _ _ q => q.elim)
  refine go_bindw (wpAny_of_eq (hs x) ?_)
  refine go_bindw (wpAny_standAt ?_)
  refine go_bindw (wpAny_holding (wpAny_mono h1 (fun it s2 h2 => ?_) fun _ _ q => q.elim))
  exact go_call h2
theorem go_forLoop {target : Expr} {it : Value} {body : List Stmt}
    (h : wpAny (model prog w) (A.over (.forLoop target it body [] env) fs) (pyNext it) (fun r s1 => match r with
      | none => Go (model prog w) A F (.block [] env) (.pure (.done .next)) fs s1
      | some v => wpAny (model prog w) (A.over (.forLoop target it body [] env) fs) (letOwnedTupleGo target it v) (fun _ s2 =>
          wpAny (model prog w) (A.over (.forLoop target it body [] env) fs) (assign target env v) (fun _ s3 =>
            Go (model prog w) A F (.forLoop target it body [] env) ((execs body env).wrap (fturn target it body env) (fnote env) id id) fs s3) (fun _ _ => False) s2) (fun _ _ => False) s1)
      (fun _ _ => False) s) :
    Go (model prog w) A F (.forLoop target it body [] env) ((model prog w).den (.forLoop target it body [] env)) fs s := by
  show Go _ A F _ ((forTurn target it body [] env).onRaise (fun x => do noteFrame x env; theTreesLotGoes x)) fs s
  unfold forTurn
  rw [Sem.onRaise_eq_wrap]
  refine go_bindw (wpAny_standAt ?_)
  refine go_bindw (wpAny_onRaise (wpAny_mono h (fun r s1 h1 => ?_) fun _ _ q => q.elim))
  cases r with
  | none => exact go_again rfl h1
  | some v =>
    refine go_bindw (wpAny_mono h1 (fun _ s2 h2 => ?_) fun _ _ q => q.elim)
    refine go_bindw (wpAny_mono h2 (fun _ s3 h3 => ?_) fun _ _ q => q.elim)
    rw [Sem.bind_eq_wrap', Sem.wrap_wrap]
    refine go_of_eq (Sem.wrap_congr (execs body env) _ _ (fun f => ?_) fun e => ?_) h3
    · cases f <;> rfl
    · show ((do noteFrame e env; theTreesLotGoes e : Sem Unit).bind fun _ => .raise e) = _
      rw [Sem.bind_eq_wrap]
      rfl
end
end NA
/-! A generator between two turns: what it keeps, what its consumer must keep. -/
namespace NA
open PySem PySem.Spec PyProof.Rows L2 GenW

/-! ### the heap's first n objects -/
def cutHp (n : Nat) (h : Heap) : Heap := { h with objs := h.objs.extract 0 n }
theorem cut_size {n : Nat} {h : Heap} (hn : n ≤ h.objs.size) : (cutHp n h).objs.size = n := by
  simp only [cutHp, Array.size_extract]; omega
theorem cut_get {n b : Nat} {h : Heap} (hb : b < n) : (cutHp n h).get? b = h.get? b := by
  have e : (h.objs.extract 0 n)[b]? = h.objs[b]? := by
    rw [Array.getElem?_extract]
    by_cases z : b < h.objs.size
    · rw [if_pos (by omega), Nat.zero_add]
    · rw [if_neg (by omega)]
      exact (Array.getElem?_eq_none (by omega)).symm
  simp only [Heap.get?, cutHp, e]
theorem cut_none {n b : Nat} {h : Heap} (hb : n ≤ b) : (cutHp n h).get? b = none := by
  have e : (h.objs.extract 0 n)[b]? = none := by
    refine Array.getElem?_eq_none ?_
    rw [Array.size_extract]; omega
  simp only [Heap.get?, cutHp, e]
theorem cut_some {n b : Nat} {h : Heap} {o : Obj} (e : (cutHp n h).get? b = some o) : b < n ∧ h.get? b = some o := by
  by_cases hb : b < n
  · exact ⟨hb, by rw [← cut_get hb]; exact e⟩
  · rw [cut_none (n := n) (b := b) (Nat.le_of_not_lt hb)] at e; cases e
def cutS (n : Nat) (s : Shared) : Shared := { s with heap := cutHp n s.heap }
def low (n : Nat) (H : Hp) : Hp := fun b => if b < n then H b else none
theorem low_lt {n : Nat} {H : Hp} {b : Addr} (hb : b < n) : low n H b = H b := by unfold low; rw [if_pos hb]
theorem low_some {n : Nat} {H : Hp} {b : Addr} {o : HO} (e : low n H b = some o) : b < n ∧ H b = some o := by
  unfold low at e
  by_cases hb : b < n
  · rw [if_pos hb] at e; exact ⟨hb, e⟩
  · rw [if_neg hb] at e; cases e
/-- the addresses from n on -/
def young (n : Nat) (h : Heap) : List Addr := (List.range h.objs.size).filter fun b => decide (n ≤ b)
theorem mem_young {n : Nat} {h : Heap} {b : Addr} (hm : b ∈ young n h) : n ≤ b := of_decide_eq_true (List.mem_filter.mp hm).2
theorem not_young {n : Nat} {h : Heap} {b : Addr} {o : Obj} (e : h.get? b = some o) (hm : b ∉ young n h) : b < n := by
  by_cases hb : b < n
  · exact hb
  · exact absurd (List.mem_filter.mpr ⟨List.mem_range.mpr (Heap.lt_size e), decide_eq_true (Nat.le_of_not_lt hb)⟩) hm

theorem funs_at {h h' base : Heap} : ∀ (l : List Env), (∀ b ∈ frs l, ∀ o, h.get? b = some o → h'.get? b = some o) → h.FunFrames base l → h'.FunFrames base l
  | [], _, _ => trivial
  | env :: r, k, hl => by
    obtain ⟨hk, ⟨L, o, hf, hn, ho, hd⟩, hr⟩ := hl
    have hm : L ∈ frs (env :: r) := by unfold frs; rw [List.filterMap_cons, hf]; exact List.mem_cons_self
    refine ⟨hk, ⟨L, o, hf, hn, k L hm o ho, hd⟩, funs_at r (fun b hb => k b ?_) hr⟩
    unfold frs
    rw [List.filterMap_cons, hf]
    exact List.mem_cons_of_mem _ hb

/-! ### what a turn does, what happens between two turns -/
structure Trn (P : Program) (w : World) (outer : List Env) (n : Nat) (H H' : Hp) (s s' : Shared) : Prop where
  os : s'.os = s.os
  bare : AllBare s'.gens
  same : Same H H'
  un : Un (frs outer) (young n s.heap) H H' s.heap s'.heap
  hok : HOk P w H' s'.heap
  gsz : s.gens.size ≤ s'.gens.size
/-- the consumer's steps while the generator g sleeps: wr, the tracked objects that it may change -/
structure Slp (P : Program) (w : World) (K : PySem.W.Frag) (mg : Str → Option Value) (base : Heap) (A : Around) (outer : List Env) (n g : Nat) (wr : Addr → Prop) (H H' : Hp) (s s' : Shared) : Prop where
  os : s'.os = s.os
  env : Env0 P w K mg base A outer s' H'
  keep : ∀ b o, n ≤ b → s.heap.get? b = some o → H b = none → s'.heap.get? b = some o ∧ H' b = none
  kept : ∀ b u, H b = some u → ¬ wr b → H' b = some u
  gens : ∀ i x, g < i → s.gens[i]? = some x → s'.gens[i]? = some x
  gsz : s.gens.size ≤ s'.gens.size
  sz : n ≤ s'.heap.objs.size
  wt : ∀ b, wr b → H' b ≠ none

/-- what one item is, at the heap at which it is handed out -/
abbrev Out := V → Hp → Prop
/-- a turn's end: nothing is left and the code ends, or the next item comes and the rest will come -/
def Phi (P : Program) (w : World) (K : PySem.W.Frag) (mg : Str → Option Value) (base : Heap) (A : Around) (outer : List Env) (n : Nat) (a : Addr) (g : Nat) (wr : Addr → Prop) : List Out → Hp → Shared → End → Shared → Prop
  | outs, H, s, .ret x, s1 => outs = [] ∧ (x = .ok (.ret .none) ∨ x = .ok .next) ∧ ∃ H1, Trn P w outer n H H1 s s1
  | [], _, _, .susp _ _ _ _ _ _ _, _ => False
  | q :: outs, H, s, .susp v gd l k c p fs, s1 => (End.susp v gd l k c p fs).quiet = true ∧ s1.heap.IsGen a g ∧ ∃ H1 x, H1 a = none ∧ Trn P w outer n H H1 s s1 ∧ RelV x v ∧ q x H1 ∧
      ∀ H2 s2, Slp P w K mg base A outer n g wr H1 H2 s1 s2 → Go (model P w) A (Phi P w K mg base A outer n a g wr outs H2 s2) c (k (.send .none)) fs s2

/-! ### the context of the generator's body, at any turn -/
def at0 (X : Cx) (s0 : Shared) (H0 : Hp) : Cx := { X with s_0 := s0, H_0 := H0 }
structure GenX (X : Cx) (A : Around) (n : Nat) (a : Addr) (g : Nat) : Prop where
  ex : X.ex = []
  fn : ∀ x, X.fn x = true
  xe : X.xe = fun _ _ => False
  pn : ∃ go nm qn, X.pn = [(a, go)] ∧ go.cls = .type "generator" ∧ go.data = .fields #[.int g 0, nm, qn] ∧ go.slots = #[]
  an : n ≤ a
  fr : A.frames = some X.outer
  stk : X.stack = X.env :: X.outer
  fl : X.env.frame = some X.env.locals
  lo : ∀ b ∈ X.fs, b < n
  bsz : X.base.objs.size ≤ n
  up : n ≤ X.env.locals
  upc : ∀ x c, X.env.cells.lookup x = some c → n ≤ c
structure GRun (X : Cx) (wr : Addr → Prop) (n g : Nat) (ip : List (Addr × Obj)) (Hw : Hp) (sw : Shared) (σ : L2.St) (H : Hp) (s : Shared) : Prop where
  inv : Inv (at0 X (cutS n sw) (low n Hw)) ip σ H s
  ipn : ∀ p ∈ ip, n ≤ p.1
  size : n ≤ sw.heap.objs.size
  gsz : g < s.gens.size
  gs0 : sw.gens.size ≤ s.gens.size
  wt : ∀ b, wr b → Hw b ≠ none
section
variable {X : Cx} {A : Around} {n : Nat} {a : Addr} {g : Nat} {ip : List (Addr × Obj)} {Hw H H' : Hp} {sw s s' : Shared} {σ : L2.St} {wr : Addr → Prop}
theorem GRun.un (R : GRun X wr n g ip Hw sw σ H s) (G : GenX X A n a g) (hs : Same Hw H) : Un (frs X.outer) (young n sw.heap) Hw H sw.heap s.heap := by
  have u := R.inv.base
  have hex : ∀ b, b ∉ (at0 X (cutS n sw) (low n Hw)).ex := fun b hb => by
    have hb' : b ∈ X.ex := hb
    rw [G.ex] at hb'; cases hb'
  have cg : ∀ {b o}, sw.heap.get? b = some o → b ∉ young n sw.heap → b < n ∧ (cutS n sw).heap.get? b = some o := fun {b o} e hb => by
    have hl := not_young e hb
    exact ⟨hl, (cut_get hl).trans e⟩
  refine ⟨fun b o e hn hf hx => ?_, fun b o e hn hf hx => ?_, fun b o e hn hx => ?_, fun b o e hx => ?_, fun b xs e => hs _ _ e, fun b o x e => hs _ _ e, fun b ps e => ⟨#[], by rw [hs _ _ e]; simp⟩⟩
  · obtain ⟨hl, e1⟩ := cg e hx
    exact u.keep b o e1 (by show low n Hw b = none; rw [low_lt hl]; exact hn) hf (hex b)
  · obtain ⟨hl, e1⟩ := cg e hx
    exact u.slot b o e1 (by show low n Hw b = none; rw [low_lt hl]; exact hn) hf (hex b)
  · obtain ⟨hl, e1⟩ := cg e hx
    exact u.free b o e1 (by show low n Hw b = none; rw [low_lt hl]; exact hn) (hex b)
  · obtain ⟨hl, e1⟩ := cg e hx
    exact u.there b o e1 (hex b)
theorem GRun.trn (R : GRun X wr n g ip Hw sw σ H s) (G : GenX X A n a g) (hs : Same Hw H) : Trn X.prog X.w X.outer n Hw H sw s :=
  ⟨R.inv.os, R.inv.bare, hs, R.un G hs, R.inv.hok, R.gs0⟩
theorem GRun.gen (R : GRun X wr n g ip Hw sw σ H s) (G : GenX X A n a g) : s.heap.IsGen a g ∧ H a = none := by
  obtain ⟨go, nm, qn, hp, h1, h2, h3⟩ := G.pn
  have q := R.inv.pin (a, go) (List.mem_append_left _ (by show (a, go) ∈ X.pn; rw [hp]; exact List.mem_singleton.mpr rfl))
  exact ⟨⟨go, nm, qn, q.1, h1, h2, h3⟩, q.2.1⟩
/-- woken again -/
theorem GRun.woken {wr0 : Addr → Prop} (R : GRun X wr0 n g ip Hw sw σ H s) (G : GenX X A n a g) (z : Slp X.prog X.w X.K X.mg X.base A X.outer n g wr H H' s s') : GRun X wr n g ip H' s' σ H' s' := by
  have I := R.inv
  have ok := I.ok
  have hsz : (cutHp n s'.heap).objs.size = n := cut_size z.sz
  have hcell : ∀ x c, X.env.cells.lookup x = some c → ∀ v, s.heap.IsCell c v → s'.heap.IsCell c v := fun x c e v ⟨o, ho, hd⟩ =>
    ⟨o, (z.keep c o (G.upc x c e) ho (I.freeC x c e)).1, hd⟩
  refine ⟨⟨?_, ?_, ?_, ?_, ?_, fun x c e => ?_, ?_, fun x c e => ?_, fun p hp => ?_, z.env.hok, I.len⟩, R.ipn, z.sz, ?_, Nat.le_refl _, z.wt⟩
  · refine ⟨ok.mod, ok.kind, ok.glob, ok.blt, ?_, ok.inj, ok.has, fun x c _ e => ?_, ok.hd, ok.frames, ok.stk, ok.exf, fun b o e => ?_, ?_, ok.noex, ok.exfs, ?_, fun b hb => ?_⟩
    · show (cutHp n s'.heap).objs.size ≤ _
      rw [hsz]; exact G.up
    · show (cutHp n s'.heap).objs.size ≤ _
      rw [hsz]; exact G.upc x c e
    · obtain ⟨h1, h2⟩ := z.env.bs b o e
      have hl : b < n := Nat.lt_of_lt_of_le (Heap.lt_size e) G.bsz
      exact ⟨(cut_get hl).trans h1, by show low n H' b = none; rw [low_lt hl]; exact h2⟩
    · show _ ≤ (cutHp n s'.heap).objs.size
      rw [hsz]; exact G.bsz
    · refine funs_at X.outer (fun b hb o e => ?_) z.env.funs
      exact (cut_get (G.lo b hb)).trans e
    · show low n H' b = none
      rw [low_lt (G.lo b hb)]
      exact z.env.frf b hb
  · rfl
  · exact z.env.bare
  · refine ⟨fun b o e _ _ _ => ?_, fun b o e _ _ _ => ?_, fun b o e hn _ => ?_, fun b o e _ => ?_, fun b xs e => (low_some e).2, fun b o x e => (low_some e).2, fun b ps e => ⟨#[], by rw [(low_some e).2]; simp⟩⟩
    · exact (cut_some e).2
    · exact ⟨o.slots, (cut_some e).2⟩
    · have hn' : low n H' b = none := hn
      rw [low_lt (cut_some e).1] at hn'
      exact hn'
    · exact ⟨o, (cut_some e).2⟩
  · obtain ⟨m, ⟨o, es, ep, ho, r⟩, hl⟩ := I.loc
    refine ⟨m, ⟨o, es, ep, (z.keep _ o G.up ho I.free).1, r⟩, fun i x v e1 e2 e3 => ?_⟩
    obtain ⟨u, ru, l⟩ := hl i x v e1 e2 e3
    refine ⟨u, ru, ?_⟩
    rcases l with l | ⟨k, c, e, q⟩
    · exact .inl l
    · exact .inr ⟨k, c, e, hcell x c e _ q⟩
  · obtain ⟨v, q⟩ := I.cell x c e
    exact ⟨v, hcell x c e _ q⟩
  · obtain ⟨m, ⟨o, es, ep, ho, r⟩, hl⟩ := I.loc
    exact (z.keep _ o G.up ho I.free).2
  · obtain ⟨v, o, ho, _⟩ := I.cell x c e
    exact (z.keep _ o (G.upc x c e) ho (I.freeC x c e)).2
  · obtain ⟨e, hn, ne, nf, d⟩ := I.pin p hp
    have hle : n ≤ p.1 := by
      rcases List.mem_append.mp hp with q | q
      · obtain ⟨go, nm, qn, hpn, _⟩ := G.pn
        have q' : p ∈ X.pn := q
        rw [hpn] at q'
        rw [List.mem_singleton.mp q']
        exact G.an
      · exact R.ipn p q
    obtain ⟨h1, h2⟩ := z.keep p.1 p.2 hle e hn
    exact ⟨h1, h2, ne, nf, d⟩
  · exact Nat.lt_of_lt_of_le R.gsz z.gsz
end
end NA
/-! next() of a generator at rest. -/
namespace NA
open PySem PySem.Spec PyProof.Rows L2 GenW
open Sem (wp)

def GoGS (M : Model) (A : Around) (F : End → Shared → Prop) (gs : GenState) (s : Shared) : Prop := match gs with
  | .fresh c => Go M A F c (M.den c) [] s
  | .suspended k _ c _ fs _ => Go M A F c (k (.send .none)) fs s
  | _ => False
theorem wp_resume {M : Model} {A : Around} {F : End → Shared → Prop} {E : Value → Shared → Prop} {s : Shared} {g : Nat} {gs : GenState} {l : List Value} {α : Type} {k : GenResult → Sem α} {Q : α → Shared → Prop}
    (hg : s.gens[g]? = some gs) (hgo : GoGS M A F gs (s.setGen g .running)) (hq : ∀ e s1, F e s1 → e.quiet = true)
    (h : ∀ e s1, F e s1 → e.genState.bare = true → wpAny M A (k e.result) Q E (s1.setGen g e.genState)) : wpAny M A (.resume g (.send .none) l k) Q E s := by
  intro Γ p hW
  rw [Sem.wp_resume]
  cases gs with
  | fresh c =>
    obtain ⟨e, s1, hr, he⟩ := hgo (Γ.wake c p) p rfl (hW.wake c p)
    have q := hq e s1 he
    exact ⟨_, _, by unfold Wakes; rw [hg]; exact ⟨e, s1, hr, q, rfl, rfl⟩, h e s1 he (End.bare_of_quiet q) Γ p hW⟩
  | suspended k0 l0 c0 p0 fs0 cl =>
    obtain ⟨e, s1, hr, he⟩ := hgo (Γ.wake c0 p) p0 rfl (hW.wake c0 p)
    have q := hq e s1 he
    exact ⟨_, _, by unfold Wakes; rw [hg]; exact ⟨e, s1, hr, q, rfl, rfl⟩, h e s1 he (End.bare_of_quiet q) Γ p hW⟩
  | running => exact hgo.elim
  | finished => exact hgo.elim

/-- a quiet stretch of the consumer -/
structure Slq (n g : Nat) (wr : Addr → Prop) (H H' : Hp) (s s' : Shared) : Prop where
  os : s'.os = s.os
  keep : ∀ b o, n ≤ b → s.heap.get? b = some o → H b = none → s'.heap.get? b = some o ∧ H' b = none
  kept : ∀ b u, H b = some u → ¬ wr b → H' b = some u
  gens : ∀ i x, g < i → s.gens[i]? = some x → s'.gens[i]? = some x
  gsz : s.gens.size ≤ s'.gens.size
theorem Slq.trans {n g : Nat} {wr : Addr → Prop} {H H1 H2 : Hp} {s s1 s2 : Shared} (a : Slq n g wr H H1 s s1) (b : Slq n g wr H1 H2 s1 s2) : Slq n g wr H H2 s s2 :=
  ⟨b.os.trans a.os, fun c o hn e hh => let ⟨e1, h1⟩ := a.keep c o hn e hh; b.keep c o hn e1 h1, fun c u e hc => b.kept c u (a.kept c u e hc) hc, fun i x hi e => b.gens i x hi (a.gens i x hi e), Nat.le_trans a.gsz b.gsz⟩
theorem Slq.refl {n g : Nat} {wr : Addr → Prop} {H : Hp} {s : Shared} : Slq n g wr H H s s := ⟨rfl, fun _ _ _ e h => ⟨e, h⟩, fun _ _ e _ => e, fun _ _ _ e => e, Nat.le_refl _⟩
/-- the generator at a, number g, sleeps: outs will come -/
structure Rest (P : Program) (w : World) (K : PySem.W.Frag) (mg : Str → Option Value) (base : Heap) (A : Around) (outer : List Env) (n : Nat) (a : Addr) (g : Nat) (wr : Addr → Prop) (outs : List Out) (H : Hp) (s : Shared) : Prop where
  gen : s.heap.IsGen a g
  ha : H a = none
  an : n ≤ a
  gsz : g < s.gens.size
  go : ∃ gs, s.gens[g]? = some gs ∧ ∀ H' s', Slq n g wr H H' s s' → Env0 P w K mg base A outer s' H' → n ≤ s'.heap.objs.size → (∀ b, wr b → H' b ≠ none) → GoGS (model P w) A (Phi P w K mg base A outer n a g wr outs H' s') gs s'
section
variable {P : Program} {w : World} {K : PySem.W.Frag} {mg : Str → Option Value} {base : Heap} {A : Around} {outer : List Env} {n : Nat} {a : Addr} {g : Nat} {wr : Addr → Prop} {outs : List Out} {H H' : Hp} {s s' : Shared}
theorem Rest.gs {A0 : Around} (R : Rest P w K mg base A0 outer n a g wr outs H s) : g < s.gens.size := R.gsz
/-- the consumer went on, the generator slept on -/
theorem Rest.on (R : Rest P w K mg base A outer n a g wr outs H s) (z : Slq n g wr H H' s s') (hg : s'.gens[g]? = s.gens[g]?) : Rest P w K mg base A outer n a g wr outs H' s' := by
  obtain ⟨o, nm, qn, ho, r⟩ := R.gen
  obtain ⟨e1, e2⟩ := z.keep a o R.an ho R.ha
  obtain ⟨gs, h1, h2⟩ := R.go
  exact ⟨⟨o, nm, qn, e1, r⟩, e2, R.an, Nat.lt_of_lt_of_le R.gsz z.gsz, gs, hg.trans h1, fun H2 s2 q => h2 H2 s2 (z.trans q)⟩
theorem setGen_get (s : Shared) (g i : Nat) (x : GenState) (hi : i ≠ g) : (s.setGen g x).gens[i]? = s.gens[i]? := by
  show (s.gens.setIfInBounds g x)[i]? = _
  rw [Array.getElem?_setIfInBounds_ne (Ne.symm hi)]
theorem setGen_own {s : Shared} {g : Nat} {x : GenState} (h : g < s.gens.size) : (s.setGen g x).gens[g]? = some x := by
  show (s.gens.setIfInBounds g x)[g]? = some x
  simp [h]
theorem setGen_bare {s : Shared} {g : Nat} {x : GenState} (h : AllBare s.gens) (hx : x.bare = true) : AllBare (s.setGen g x).gens := fun y hy => by
  obtain ⟨i, hi, e⟩ := Array.mem_iff_getElem.mp hy
  have e' : (s.setGen g x).gens[i]? = some y := by rw [Array.getElem?_eq_getElem hi, e]
  by_cases z : i = g
  · subst z
    have hl : i < s.gens.size := by
      have q : (s.setGen i x).gens.size = s.gens.size := setGen_size s i x
      omega
    rw [setGen_own hl] at e'
    cases e'
    exact hx
  · rw [setGen_get s g i x z] at e'
    exact h y (Array.mem_of_getElem? e')
theorem Slq.set {x : GenState} : Slq n g wr H H s (s.setGen g x) :=
  ⟨rfl, fun _ _ _ e h => ⟨e, h⟩, fun _ _ e _ => e, fun i y hi e => by rw [setGen_get s g i x (Nat.ne_of_gt hi)]; exact e, Nat.le_of_eq (setGen_size s g x).symm⟩
theorem Slq.unset {x : GenState} (z : Slq n g wr H H' (s.setGen g x) s') : Slq n g wr H H' s s' := (Slq.set (x := x)).trans z
theorem phi_quiet {e : End} {s1 : Shared} (h : Phi P w K mg base A outer n a g wr outs H s e s1) : e.quiet = true := by
  cases e with
  | ret _ => rfl
  | susp v gd l k c p fs =>
    cases outs with
    | nil => exact h.elim
    | cons q r => exact h.1
theorem phi_ret {x : Result} {s1 : Shared} (h : Phi P w K mg base A outer n a g wr outs H s (.ret x) s1) : outs = [] ∧ (x = .ok (.ret .none) ∨ x = .ok .next) ∧ ∃ H1, Trn P w outer n H H1 s s1 := by
  cases outs with
  | nil => exact h
  | cons q r => exact h
theorem env0_set {x : GenState} (hx : x.bare = true) (e : Env0 P w K mg base A outer s H) : Env0 P w K mg base A outer (s.setGen g x) H :=
  ⟨e.frames, e.mod, e.bs, e.bsz, e.funs, e.frf, e.hok, setGen_bare e.bare hx⟩
/-- next(): an item, or the end -/
theorem next_rest {A : Around} {Q : Option Value → Shared → Prop} {E : Value → Shared → Prop} (hh : A.handled = none) (hd : A.depth < recursionLimit) (hl : s.heap.NoLimit) (e0 : Env0 P w K mg base A.in1 outer s H) (hsz : n ≤ s.heap.objs.size) (hwt : ∀ b, wr b → H b ≠ none)
    (R : Rest P w K mg base A.in1 outer n a g wr outs H s)
    (hy : ∀ q rest v s1 H1 x, outs = q :: rest → Trn P w outer n H H1 s s1 → RelV x v → q x H1 → Rest P w K mg base A.in1 outer n a g wr rest H1 s1 → Q (some v) s1)
    (hn : outs = [] → ∀ s1 H1, Trn P w outer n H H1 s s1 → Q none s1) : wpAny (model P w) A (pyNext (.ref a)) Q E s := by
  obtain ⟨gs, hgs, hgo⟩ := R.go
  have go := hgo H (s.setGen g .running) Slq.set (env0_set rfl e0) hsz hwt
  have sz1 : (s.setGen g .running).gens.size = s.gens.size := setGen_size _ _ _
  have back : ∀ {H1 : Hp} {s1 : Shared} {x : GenState}, x.bare = true → Trn P w outer n H H1 (s.setGen g .running) s1 → Trn P w outer n H H1 s (s1.setGen g x) := fun {H1 s1 x} hx t =>
    ⟨t.os, setGen_bare t.bare hx, t.same, t.un, t.hok, by rw [setGen_size]; exact Nat.le_trans (Nat.le_of_eq sz1.symm) t.gsz⟩
  unfold pyNext
  refine wpAny_bind (wpAny_attempt (wpAny_callSpecial?_slot (name := Str.ofString "__next__") R.gen.typeIs slot_gen_next
    (wpAny_call_entry slot_gen_next R.gen.typeIs entry_gen_next ?_ (args_gen_next _))))
  show wpAny _ A.in1 (Builtin.Generator.genWake (.ref a) (.send .none)) _ _ s
  unfold Builtin.Generator.genWake
  refine wpAny_bind (wpAny_holding (wpAny_genNumber R.gen (wpAny_bind (wpAny_genState hgs ?_))))
  have fin : ∀ (e : End) (s1 : Shared), Phi P w K mg base A.in1 outer n a g wr outs H (s.setGen g .running) e s1 → e.genState.bare = true →
      (e.result = .returned .none ∧ outs = [] ∧ ∃ H1, Trn P w outer n H H1 s (s1.setGen g e.genState)) ∨
      (∃ v, e.result = .yielded v ∧ Q (some v) (s1.setGen g e.genState)) := by
    intro e s1 he hb
    cases e with
    | ret x =>
      obtain ⟨h0, hr, H1, t⟩ := phi_ret he
      exact .inl ⟨by rcases hr with hr | hr <;> rw [hr] <;> rfl, h0, H1, back hb t⟩
    | susp v gd l k c p fs =>
      cases outs with
      | nil => exact he.elim
      | cons q rest =>
        obtain ⟨_, hgen, H1, x, hn0, t, rv, hx, next⟩ := he
        have hg1 : g < s1.gens.size := Nat.lt_of_lt_of_le (by rw [sz1]; exact R.gsz) t.gsz
        refine .inr ⟨v, rfl, hy q rest v _ H1 x rfl (back hb t) rv hx ⟨hgen, hn0, R.an, by rw [setGen_size]; exact hg1, _, setGen_own hg1, fun H2 s2 z e2 hz hw => ?_⟩⟩
        exact next H2 s2 ⟨z.unset.os, e2, z.unset.keep, z.unset.kept, z.unset.gens, z.unset.gsz, hz, hw⟩
  cases gs with
  | running => exact go.elim
  | finished => exact go.elim
  | _ =>
    refine wpAny_bind (wpAny_roomToWake hl hd ?_)
    show wpAny _ A.in1 (.resume g (.send .none) [] _) _ _ s
    refine wp_resume hgs go (fun e s1 he => phi_quiet he) fun e s1 he hb => ?_
    rcases fin e s1 he hb with ⟨hr, h0, H1, t⟩ | ⟨v, hr, hq⟩
    · rw [hr]
      show wpAny _ A.in1 (newExc (.type "StopIteration") [] >>= _) _ _ _
      refine wpAny_bind ?_
      simp only [newExc, newTuple]
      refine wpAny_bind (wpAny_newObj_type ?_ (by size_fits))
      refine wpAny_bind (m := firstArgMember _ _) (wpAny_of_eq (a := Value.none) (by first | rfl | (simp only [firstArgMember]; rfl)) ?_)
      refine wpAny_newObj_type ?_ (by size_fits)
      simp only [raiseNew]
      refine wpAny_bind (wpAny_bind (wpAny_handled ?_))
      first | rw [show A.in1.handled = none from hh] | rw [hh]
      refine wpAny_throw ?_
      refine wpAny_bind (wpAny_isInstance (T := "StopIteration") (b := true) ⟨_, Heap.get?_push_size _ rfl, rfl⟩ isSubtype_stop ?_)
      have kp : ∀ (o1 o2 : Obj) b o, (s1.setGen g e.genState).heap.get? b = some o → (((s1.setGen g e.genState).heap.push o1).push o2).get? b = some o := fun o1 o2 b o hb => Heap.get?_push_of_some _ (Heap.get?_push_of_some _ hb)
      exact wpAny_pure (hn h0 _ H1 ⟨t.os, t.bare, t.same, t.un.trans (Un.kept (kp _ _)), t.hok.kept (kp _ _), t.gsz⟩)
    · rw [hr]
      exact wpAny_pure ⟨v, rfl, wpAny_pure hq⟩
end
end NA
/-! A generator def's statements. -/
namespace NA
open PySem PySem.Spec PyProof.Rows L2 GenW
open Sem (wp)

/-- a local name is stored: the table of generators and all objects but the frame's stay -/
theorem store_loc {X : Cx} {pins : List (Addr × Obj)} {σ : L2.St} {H : Hp} {s : Shared} {M : Model} {A : Around} {E : Value → Shared → Prop} {i : Nat} {x : Str} {v : V} {u : Value} {Q : Unit → Shared → Prop} (I : Inv X pins σ H s) (hN : X.N.Nodup) (hi : X.N[i]? = some x)
    (hk : X.env.scope.names.lookup x = some .local) (r : RelV v u)
    (h : ∀ s', Inv X pins (σ.set i (some v)) H s' → s'.gens = s.gens → Heap.SameBut X.env.locals s.heap s'.heap → Q () s') : wpAny M A (storeName X.env x u) Q E s := by
  obtain ⟨m, hn, hl⟩ := id I.loc
  have hcls : (X.env.scope.kind == .class || (X.env.scope.kind == .module && X.env.locals != X.env.globals)) = false := by rw [I.ok.kind]; rfl
  have hiσ : i < σ.length := by rw [I.len]; exact (List.getElem?_eq_some_iff.mp hi).1
  refine wpAny_storeName_local hk hn (fun h' hn' hs => h _ ?_ rfl hs) hcls
  have old : ∀ b o, X.s_0.heap.get? b = some o → b ≠ X.env.locals := fun b o e => Nat.ne_of_lt (Nat.lt_of_lt_of_le (Heap.lt_size e) I.ok.above)
  have cne : ∀ y c, X.env.cells.lookup y = some c → c ≠ X.env.locals := I.cne
  have trk : ∀ c ob, H c = some ob → c ≠ X.env.locals := fun c ob e z => by rw [z, I.free] at e; cases e
  refine { ok := I.ok, os := I.os, bare := I.bare, base := ⟨fun b o e n hb hx => ?_, fun b o e n hb hx => ?_, I.base.free, fun b o e hx => ?_, I.base.tups, I.base.frzs, I.base.tbls⟩, loc := ⟨_, hn', fun j y w e1 e2 e3 => ?_⟩, cell := fun y c e => ?_, free := I.free, freeC := I.freeC, pin := fun p hp => ?_, hok := fun b ob e => ?_, len := ?_ }
  · exact (hs.2 b (old b o e)).trans (I.base.keep b o e n hb hx)
  · obtain ⟨sl, e1⟩ := I.base.slot b o e n hb hx
    exact ⟨sl, (hs.2 b (old b o e)).trans e1⟩
  · obtain ⟨o', e1⟩ := I.base.there b o e hx
    exact ⟨o', (hs.2 b (old b o e)).trans e1⟩
  · by_cases hj : j = i
    · subst hj
      have ey : x = y := Option.some.inj (hi.symm.trans e1)
      subst ey
      rw [List.getElem?_set_self hiσ] at e2
      have ev : v = w := Option.some.inj (Option.some.inj e2)
      subst ev
      exact ⟨u, r, .inl ⟨hk, by simp⟩⟩
    · rw [List.getElem?_set_ne (Ne.symm hj)] at e2
      obtain ⟨u2, r2, q⟩ := hl j y w e1 e2 e3
      refine ⟨u2, r2, ?_⟩
      rcases q with ⟨k, e⟩ | ⟨k, c, e, z⟩
      · have ny : y ≠ x := fun e => hj (nodup_ix hN e1 (e ▸ hi))
        exact .inl ⟨k, by simp [ny, e]⟩
      · exact .inr ⟨k, c, e, z.sameBut hs (cne y c e)⟩
  · obtain ⟨w, z⟩ := I.cell y c e
    exact ⟨w, z.sameBut hs (cne y c e)⟩
  · obtain ⟨e, n, ne, nf, d⟩ := I.pin p hp
    exact ⟨(hs.2 p.1 ne).trans e, n, ne, nf, d⟩
  · refine (I.hok b ob e).stay (fun c w hc q => (hs.2 c ?_).trans q) (fun _ q => q) fun _ _ q => q
    rcases hc with hc | hc
    · rw [hc]; exact trk b ob e
    · exact trk c _ hc
  · simpa using I.len

/-! ### expressions that leave the table of generators and all objects -/
structure PEq (X : Cx) (e : Expr) (t : TE) : Prop where
  run : ∀ (pins : List (Addr × Obj)) (s : Shared) (σ : L2.St) (H : Hp) (Q : VK), Inv X pins σ H s → t σ H Q → wpAny (model X.prog X.w) X.A (eval e X.env) (fun u s' => s'.gens = s.gens ∧ (∀ b o, s.heap.get? b = some o → s'.heap.get? b = some o) ∧
    ∃ v H', Inv X pins σ H' s' ∧ RelV v u ∧ Same H H' ∧ (∀ b o, s.heap.get? b = some o → H b = none → H' b = none) ∧ Q v H') X.xe s
theorem peq_var {X : Cx} {i : Nat} {x : Str} {pos : Pos} (hN : X.N[i]? = some x) (hv : Vis X.env.scope x) (hd : (x == ("__debug__" : Str)) = false := by decide) (hcd : (x == ("__classdict__" : Str)) = false := by decide) : PEq X (.Name x pos) (tVar i) := by
  refine ⟨fun pins s σ H Q I h => ?_⟩
  obtain ⟨v, e, h⟩ := h
  obtain ⟨m, hn, hl⟩ := I.loc
  obtain ⟨u, r, l⟩ := hl i x v hN e hv
  have fin : (s.gens = s.gens ∧ (∀ b o, s.heap.get? b = some o → s.heap.get? b = some o) ∧ ∃ v H', Inv X pins σ H' s ∧ RelV v u ∧ Same H H' ∧ (∀ b o, s.heap.get? b = some o → H b = none → H' b = none) ∧ Q v H') :=
    ⟨rfl, fun _ _ q => q, v, H, I, r, Same.refl H, fun _ _ _ q => q, h⟩
  rcases l with ⟨hk, hm⟩ | ⟨hk, c, hc, hcell⟩
  · exact wpAny_Name (wpAny_loadName_local I.ok.kind hk hn hm fin) hd
  · rcases hk with hk | hk
    · exact wpAny_Name (wpAny_loadName_cell I.ok.kind hk hc hcell fin) hd
    · exact wpAny_Name (wpAny_loadName_free I.ok.kind hk hc hcell fin hcd) hd

/-! ### the generator's statements -/
structure GEnds where
  nx : List Out → Hp → L2.St → Hp → Prop
  rt : List Out → Hp → VK
  bk : List Out → Hp → L2.St → Hp → Prop := fun _ _ _ _ => False
  ct : List Out → Hp → L2.St → Hp → Prop := fun _ _ _ _ => False
abbrev TGn := GEnds → List Out → Hp → L2.St → Hp → Prop
def GEnds.at (D : GEnds) (outs : List Out) (Hw : Hp) : Ends := { nx := D.nx outs Hw, rt := D.rt outs Hw, bk := D.bk outs Hw, ct := D.ct outs Hw }
structure GC (X : Cx) (A : Around) (c : Code) (fs : List Frame) (gd : Bool → Bool) : Prop where
  over : A.over c fs = X.A
  split : splitAtGen fs = none
  guard : fs.any Frame.guarded = false
  gd : gd false = false
def GSP (X : Cx) (wr : Addr → Prop) (n g : Nat) (ip : List (Addr × Obj)) (D : GEnds) (outs : List Out) (Hw : Hp) (sw : Shared) (f : Flow) (s : Shared) : Prop := match f with
  | .next => ∃ σ H, GRun X wr n g ip Hw sw σ H s ∧ D.nx outs Hw σ H
  | .brk => ∃ σ H, GRun X wr n g ip Hw sw σ H s ∧ D.bk outs Hw σ H
  | .cont => ∃ σ H, GRun X wr n g ip Hw sw σ H s ∧ D.ct outs Hw σ H
  | .ret u => ∃ v σ H, GRun X wr n g ip Hw sw σ H s ∧ RelV v u ∧ D.rt outs Hw v H
abbrev PhiX (X : Cx) (A : Around) (n : Nat) (a : Addr) (g : Nat) (wr : Addr → Prop) := Phi X.prog X.w X.K X.mg X.base A X.outer n a g wr
structure GS (X : Cx) (wr : Addr → Prop) (st : Stmt) (t : TGn) : Prop where
  run : ∀ (A : Around) (n : Nat) (a : Addr) (g : Nat) (c : Code) (fs : List Frame) (K : Flow → Sem PySem.Fin) (J : Value → Sem PySem.Fin) (gd : Bool → Bool) (lv : List Value → List Value) (ip : List (Addr × Obj)) (outs : List Out) (Hw : Hp) (sw s : Shared) (σ : L2.St) (H : Hp) (D : GEnds),
    GenX X A n a g → GC X A c fs gd → (∀ outs' Hw' sw' s' f, GSP X wr n g ip D outs' Hw' sw' f s' → Go (model X.prog X.w) A (PhiX X A n a g wr outs' Hw' sw') c (K f) fs s') → GRun X wr n g ip Hw sw σ H s → t D outs Hw σ H →
    Go (model X.prog X.w) A (PhiX X A n a g wr outs Hw sw) c ((exec st X.env).wrap K J gd lv) fs s
structure GSs (X : Cx) (wr : Addr → Prop) (st : List Stmt) (t : TGn) : Prop where
  run : ∀ (A : Around) (n : Nat) (a : Addr) (g : Nat) (c : Code) (fs : List Frame) (K : Flow → Sem PySem.Fin) (J : Value → Sem PySem.Fin) (gd : Bool → Bool) (lv : List Value → List Value) (ip : List (Addr × Obj)) (outs : List Out) (Hw : Hp) (sw s : Shared) (σ : L2.St) (H : Hp) (D : GEnds),
    GenX X A n a g → GC X A c fs gd → (∀ outs' Hw' sw' s' f, GSP X wr n g ip D outs' Hw' sw' f s' → Go (model X.prog X.w) A (PhiX X A n a g wr outs' Hw' sw') c (K f) fs s') → GRun X wr n g ip Hw sw σ H s → t D outs Hw σ H →
    Go (model X.prog X.w) A (PhiX X A n a g wr outs Hw sw) c ((execs st X.env).wrap K J gd lv) fs s
section
variable {X : Cx} {wr : Addr → Prop} {st : Stmt} {rest : List Stmt}
def tGPl (t : TS) : TGn := fun D outs Hw σ H => t (D.at outs Hw) σ H
theorem gsp_of {n g : Nat} {ip : List (Addr × Obj)} {Hw : Hp} {sw s s' : Shared} {σ : L2.St} {H : Hp} {D : GEnds} {outs : List Out} {f : Flow} (R : GRun X wr n g ip Hw sw σ H s) (hg : s.gens.size ≤ s'.gens.size) (h : SP (at0 X (cutS n sw) (low n Hw)) ip (D.at outs Hw) f s') : GSP X wr n g ip D outs Hw sw f s' := by
  have mk : ∀ {σ' : L2.St} {H' : Hp}, Inv (at0 X (cutS n sw) (low n Hw)) ip σ' H' s' → GRun X wr n g ip Hw sw σ' H' s' := fun {σ' H'} I => ⟨I, R.ipn, R.size, Nat.lt_of_lt_of_le R.gsz hg, Nat.le_trans R.gs0 hg, R.wt⟩
  cases f with
  | next => obtain ⟨σ', H', I, q⟩ := h; exact ⟨σ', H', mk I, q⟩
  | brk => obtain ⟨σ', H', I, q⟩ := h; exact ⟨σ', H', mk I, q⟩
  | cont => obtain ⟨σ', H', I, q⟩ := h; exact ⟨σ', H', mk I, q⟩
  | ret u => obtain ⟨v, σ', H', I, r, q⟩ := h; exact ⟨v, σ', H', mk I, r, q⟩
theorem gs_ps {t : TS} (h : ∀ s0 H0, PS (at0 X s0 H0) st t) : GS X wr st (tGPl t) := by
  refine ⟨fun A n a g c fs K J gd lv ip outs Hw sw s σ H D G C k R ht => ?_⟩
  refine go_wrap ?_
  rw [C.over]
  refine wpAny_gsz (n := s.gens.size) (Nat.le_refl _) ?_
  refine wpAny_mono ((h (cutS n sw) (low n Hw)).run ip s σ H (D.at outs Hw) R.inv ht) (fun f s' hs hg => k outs Hw sw s' f (gsp_of R hg hs)) fun x s' hx => ?_
  have hx' : X.xe x s' := hx
  rw [G.xe] at hx'
  exact hx'.elim
def tG0 : TGn := fun D outs Hw σ H => D.nx outs Hw σ H
theorem gss_nil : GSs X wr [] tG0 := by
  refine ⟨fun A n a g c fs K J gd lv ip outs Hw sw s σ H D G C k R ht => ?_⟩
  exact go_nil (k outs Hw sw s .next ⟨σ, H, R, ht⟩)
def tGSeq (t u : TGn) : TGn := fun D outs Hw σ H => t { D with nx := fun o' h' σ' H' => u D o' h' σ' H' } outs Hw σ H
theorem gss_cons {t u : TGn} (ha : GS X wr st t) (hb : GSs X wr rest u) : GSs X wr (st :: rest) (tGSeq t u) := by
  refine ⟨fun A n a g c fs K J gd lv ip outs Hw sw s σ H D G C k R ht => ?_⟩
  refine go_cons ?_
  refine ha.run A n a g c fs _ J gd lv ip outs Hw sw s σ H { D with nx := fun o' h' σ' H' => u D o' h' σ' H' } G C (fun outs' Hw' sw' s' f hs => ?_) R ht
  cases f with
  | next =>
    obtain ⟨σ', H', R', q⟩ := hs
    exact hb.run A n a g c fs K J gd lv ip outs' Hw' sw' s' σ' H' D G C k R' q
  | brk => exact k outs' Hw' sw' s' .brk hs
  | cont => exact k outs' Hw' sw' s' .cont hs
  | ret u => exact k outs' Hw' sw' s' (.ret u) hs
theorem gss_one {t : TGn} (ha : GS X wr st t) : GSs X wr [st] t := by
  refine ⟨fun A n a g c fs K J gd lv ip outs Hw sw s σ H D G C k R ht => ?_⟩
  refine go_cons ?_
  refine ha.run A n a g c fs _ J gd lv ip outs Hw sw s σ H D G C (fun outs' Hw' sw' s' f hs => ?_) R ht
  cases f with
  | next => exact go_nil (k outs' Hw' sw' s' .next hs)
  | brk => exact k outs' Hw' sw' s' .brk hs
  | cont => exact k outs' Hw' sw' s' .cont hs
  | ret u => exact k outs' Hw' sw' s' (.ret u) hs
def tGIf (c : TT) (t u : TGn) : TGn := fun D outs Hw σ H => c σ H fun b H1 => if b = true then t D outs Hw σ H1 else u D outs Hw σ H1
theorem gs_if {test : Expr} {p q : List Stmt} {pos : Pos} {tc : TT} {t u : TGn} (hc : ∀ s0 H0, PT (at0 X s0 H0) test tc) (hp : GSs X wr p t) (hq : GSs X wr q u) : GS X wr (.If test p q pos) (tGIf tc t u) := by
  refine ⟨fun A n a g c fs K J gd lv ip outs Hw sw s σ H D G C k R ht => ?_⟩
  rw [exec_If]
  refine go_bindw (wpAny_standAt ?_)
  refine go_bindw ?_
  rw [C.over]
  refine wpAny_gsz (n := s.gens.size) (Nat.le_refl _) ?_
  refine wpAny_mono ((hc (cutS n sw) (low n Hw)).run ip s σ H _ R.inv ht) (fun b s' hs hg => ?_) fun x s' hx => ?_
  · obtain ⟨H1, I1, q1⟩ := hs
    have R1 : GRun X wr n g ip Hw sw σ H1 s' := ⟨I1, R.ipn, R.size, Nat.lt_of_lt_of_le R.gsz hg, Nat.le_trans R.gs0 hg, R.wt⟩
    cases b with
    | true => exact hp.run A n a g c fs K J gd lv ip outs Hw sw s' σ H1 D G C k R1 q1
    | false => exact hq.run A n a g c fs K J gd lv ip outs Hw sw s' σ H1 D G C k R1 q1
  · have hx' : X.xe x s' := hx
    rw [G.xe] at hx'
    exact hx'.elim
/-- yield: the item is the next one; whatever the consumer does meanwhile, it goes on -/
def tGYield (wr : Addr → Prop) (te : TE) : TGn := fun D outs Hw σ H => te σ H fun x H1 => ∃ q rest, outs = q :: rest ∧ q x H1 ∧ Same Hw H1 ∧ ∀ H2, (∀ b u, H1 b = some u → ¬ wr b → H2 b = some u) → (∀ b, wr b → H2 b ≠ none) → D.nx rest H2 σ H2
theorem gs_yield {e : Expr} {te : TE} {yp pos : Pos} (he : ∀ s0 H0, PE (at0 X s0 H0) e te) (hco : X.env.scope.isCoroutine = false := by rfl) (hi : interactive X.env = false := by rfl) : GS X wr (.Expr (.Yield (some e) yp) pos) (tGYield wr te) := by
  refine ⟨fun A n a g c fs K J gd lv ip outs Hw sw s σ H D G C k R ht => ?_⟩
  refine go_Yield C.split ?_ hco hi
  rw [C.over]
  refine wpAny_gsz (n := s.gens.size) (Nat.le_refl _) ?_
  refine wpAny_mono ((he (cutS n sw) (low n Hw)).run ip s σ H _ R.inv ht) (fun v s' hv hg => ?_) fun x s' hx => ?_
  · obtain ⟨x, H1, I1, rv, q, rest, rfl, hq, hs, hnx⟩ := hv
    have R1 : GRun X wr n g ip Hw sw σ H1 s' := ⟨I1, R.ipn, R.size, Nat.lt_of_lt_of_le R.gsz hg, Nat.le_trans R.gs0 hg, R.wt⟩
    obtain ⟨hgen, hn0⟩ := R1.gen G
    intro l kk p hk
    refine ⟨by simp [End.quiet, C.gd, C.guard], hgen, H1, x, hn0, R1.trn G hs, rv, hq, fun H2 s2 z => ?_⟩
    rw [hk]
    exact k rest H2 s2 s2 .next ⟨σ, H2, R1.woken G z, hnx H2 z.kept z.wt⟩
  · have hx' : X.xe x s' := hx
    rw [G.xe] at hx'
    exact hx'.elim
end
end NA
/-! A generator def's loops. -/
namespace NA
open PySem PySem.Spec PyProof.Rows L2 GenW
open Sem (wp)
section
variable {X : Cx} {wr : Addr → Prop}
theorem gc_loop {A : Around} {c c' : Code} {fs : List Frame} {gd : Bool → Bool} {k : Result → Sem PySem.Fin} {l kp : List Value} {p : Pos} (C : GC X A c fs gd) (hw : c'.weight = 0) (hu : c'.cUnits = 0) :
    GC X A c' (.ret k none (gd false) l c p kp :: fs) id where
  over := (over_loop hw hu).trans C.over
  split := by
    show (splitAtGen fs).map _ = none
    rw [C.split]; rfl
  guard := by
    show (gd false || fs.any Frame.guarded) = false
    rw [C.gd, C.guard]; rfl
  gd := rfl
/-- for over what PI serves; the body may yield -/
def tGFor (wi : TI) (t : TG) (tb : TGn) : TGn := fun D outs Hw σ H => wi σ H fun J H1 => ∃ W : Nat → Nat → List Out → Hp → L2.St → Hp → Prop, (∃ m, W 0 m outs Hw σ H1) ∧ ∀ i m outs Hw σ H, W i m outs Hw σ H →
  (J.stop i H ∧ D.nx outs Hw σ H) ∨ (J.go i H ∧ ∃ N : List Out → Hp → L2.St → Hp → Prop, (∀ o' h' σ' H', N o' h' σ' H' → ∃ m', m' < m ∧ W (i + 1) m' o' h' σ' H') ∧ ∀ x H', J.yld i H x H' → t x σ H' fun σ2 H2 => tb { D with nx := N, ct := N, bk := D.nx } outs Hw σ2 H2)
theorem gs_for {tg iter : Expr} {body : List Stmt} {wi : TI} {t : TG} {tb : TGn} {pos : Pos} (hc : X.calm = true) (hi : ∀ s0 H0, PI (at0 X s0 H0) tg iter wi) (hg : ∀ s0 H0, PG (at0 X s0 H0) tg t) (hb : GSs X wr body tb)
    (hs : ∀ x, foldedSetIterable iter X.env x = pure x := by intro _; rfl) : GS X wr (.For tg iter body [] pos) (tGFor wi t tb) := by
  refine ⟨fun A n a g c fs K J gd lv ip outs Hw sw s σ H D G C k R ht => ?_⟩
  have no : ∀ {e : Value} {s' : Shared}, (at0 X (cutS n sw) (low n Hw)).xe e s' → False := fun {e s'} hx => by
    have hx' : X.xe e s' := hx
    rw [G.xe] at hx'
    exact hx'
  refine go_For ?_ hs
  rw [C.over]
  refine wpAny_gsz (n := s.gens.size) (Nat.le_refl _) ?_
  refine wpAny_mono ((hi (cutS n sw) (low n Hw)).run ip s σ H _ R.inv ht) (fun xv s1 h1 hg1 => ?_) fun _ _ hx => (no hx).elim
  refine wpAny_gsz (n := s1.gens.size) (Nat.le_refl _) ?_
  refine wpAny_mono h1 (fun itv s2 h2 hg2 => ?_) fun _ _ hx => (no hx).elim
  obtain ⟨it, fp, tn, J0, H2, rfl, I2, T, st2, f2, W, ⟨m0, w0⟩, turn⟩ := h2
  intro p
  have Cl := gc_loop (k := fback X.env K J gd lv) (c' := .forLoop tg (.ref it) body [] X.env) (l := lv []) (kp := []) (p := p) C rfl rfl
  have R2 : GRun X wr n g ip Hw sw σ H2 s2 := ⟨I2, R.ipn, R.size, Nat.lt_of_lt_of_le R.gsz (Nat.le_trans hg1 hg2), Nat.le_trans R.gs0 (Nat.le_trans hg1 hg2), R.wt⟩
  -- what stays of the iterator's own objects
  have hfp : ∀ b ∈ fp, n ≤ b ∧ b ≠ X.env.locals ∧ b ∉ X.fs ∧ (∀ x c, X.env.cells.lookup x = some c → c ≠ b) ∧ ∀ q ∈ X.pn ++ ip, q.1 ≠ b := fun b hb => by
    obtain ⟨_, f1, f2', f3, f4, f5⟩ := f2 b hb
    refine ⟨?_, f1, f2', f4, f5⟩
    rcases f3 with z | z
    · have z' : b ∈ X.ex := z
      rw [G.ex] at z'; cases z'
    · have z' : (cutHp n sw.heap).objs.size ≤ b := z
      rw [cut_size R.size] at z'
      exact z'
  have stat : ∀ {sw' : Shared} {Hw' H' : Hp}, n ≤ sw'.heap.objs.size → (∀ b ∈ fp, H' b = none) → ∀ b ∈ fp, FpOk (at0 X (cutS n sw') (low n Hw')) ip H' b := fun {sw' Hw' H'} hsz hn b hb => by
    obtain ⟨q0, q1, q2, q3, q4⟩ := hfp b hb
    refine ⟨hn b hb, q1, q2, .inr ?_, q3, q4⟩
    show (cutHp n sw'.heap).objs.size ≤ b
    rw [cut_size hsz]
    exact q0
  have loop : ∀ (m i : Nat) (outs : List Out) (Hw : Hp) (sw s : Shared) (σ : L2.St) (H : Hp), W i m outs Hw σ H → GRun X wr n g ip Hw sw σ H s → tn i s.heap → (∀ b ∈ fp, H b = none) →
      Go (model X.prog X.w) A (PhiX X A n a g wr outs Hw sw) (.forLoop tg (.ref it) body [] X.env) ((model X.prog X.w).den (.forLoop tg (.ref it) body [] X.env)) (.ret (fback X.env K J gd lv) none (gd false) (lv []) c p [] :: fs) s := by
    intro m
    induction m using Nat.strongRecOn with
    | ind m ih =>
      intro i outs Hw sw s σ H w R st fr
      have no : ∀ {e : Value} {s' : Shared}, (at0 X (cutS n sw) (low n Hw)).xe e s' → False := fun {e s'} hx => by
        have hx' : X.xe e s' := hx
        rw [G.xe] at hx'
        exact hx'
      refine go_forLoop ?_
      rw [Cl.over]
      refine wpAny_gsz (n := s.gens.size) (Nat.le_refl _) ?_
      rcases turn i m outs Hw σ H w with ⟨stop, qn⟩ | ⟨go, N, hN, step⟩
      · refine wpAny_mono (T.done (at0 X (cutS n sw) (low n Hw)) rfl rfl rfl hc i ip s σ H (fun _ _ => False) R.inv (stat R.size fr) st stop) (fun r s4 hr4 hg4 => ?_) fun _ _ hx => hx.elim
        obtain ⟨rfl, I4⟩ := hr4
        refine go_leaf (.ok .next) ?_
        exact k outs Hw sw s4 .next ⟨σ, H, ⟨I4, R.ipn, R.size, Nat.lt_of_lt_of_le R.gsz hg4, Nat.le_trans R.gs0 hg4, R.wt⟩, qn⟩
      · refine wpAny_mono (T.item (at0 X (cutS n sw) (low n Hw)) rfl rfl rfl hc i ip s σ H (fun _ _ => False) R.inv (stat R.size fr) st go) (fun r s4 h4 hg4 => ?_) fun _ _ hx => hx.elim
        obtain ⟨u, rfl, h4⟩ := h4
        refine wpAny_gsz (n := s4.gens.size) (Nat.le_refl _) ?_
        refine wpAny_mono h4 (fun _ s5 h5 hg5 => ?_) fun _ _ hx => hx.elim
        obtain ⟨x, H5, I5, r5, y5, st5, fr5⟩ := h5
        have I5' := I5.pinned (stat R.size fr5) (T.obj _ _ st5)
        refine wpAny_gsz (n := s5.gens.size) (Nat.le_refl _) ?_
        refine wpAny_mono ((hg (cutS n sw) (low n Hw)).run _ s5 σ H5 x u _ I5' r5 (step x H5 y5)) (fun _ s6 h6 hg6 => ?_) fun _ _ hx => (no hx).elim
        obtain ⟨σ6, H6, I6, q6⟩ := h6
        have hgs : s.gens.size ≤ s6.gens.size := Nat.le_trans hg4 (Nat.le_trans hg5 hg6)
        have pn5 : ∀ q ∈ ip ++ pinsAt fp s5.heap, n ≤ q.1 := fun q hq => by
          rcases List.mem_append.mp hq with z | z
          · exact R.ipn q z
          · exact (hfp q.1 (of_pinsAt z).1).1
        have R6 : GRun X wr n g (ip ++ pinsAt fp s5.heap) Hw sw σ6 H6 s6 := ⟨I6, pn5, R.size, Nat.lt_of_lt_of_le R.gsz hgs, Nat.le_trans R.gs0 hgs, R.wt⟩
        have again : ∀ {outs' : List Out} {Hw' : Hp} {sw' s7 : Shared} {σ7 : L2.St} {H7 : Hp}, GRun X wr n g (ip ++ pinsAt fp s5.heap) Hw' sw' σ7 H7 s7 → N outs' Hw' σ7 H7 →
            Go (model X.prog X.w) A (PhiX X A n a g wr outs' Hw' sw') (.forLoop tg (.ref it) body [] X.env) (.pure (.again (.forLoop tg (.ref it) body [] X.env))) (.ret (fback X.env K J gd lv) none (gd false) (lv []) c p [] :: fs) s7 := fun {outs' Hw' sw' s7 σ7 H7} R7 n7 => by
          obtain ⟨m', hm, w7⟩ := hN outs' Hw' σ7 H7 n7
          refine go_again rfl (ih m' hm (i + 1) outs' Hw' sw' s7 σ7 H7 w7 ⟨R7.inv.unpinned, R.ipn, R7.size, R7.gsz, R7.gs0, R7.wt⟩ ?_ fun b hb => ?_)
          · exact T.keep _ _ _ st5 fun b hb o e => (R7.inv.pin (b, o) (List.mem_append_right _ (List.mem_append_right _ (mem_pinsAt hb e)))).1
          · obtain ⟨o, e, d⟩ := T.obj _ _ st5 b hb
            exact (R7.inv.pin (b, o) (List.mem_append_right _ (List.mem_append_right _ (mem_pinsAt hb e)))).2.1
        refine hb.run A n a g _ _ (fturn tg (.ref it) body X.env) (fnote X.env) id id (ip ++ pinsAt fp s5.heap) outs Hw sw s6 σ6 H6 { D with nx := N, ct := N, bk := D.nx } G Cl (fun outs' Hw' sw' s7 f hs7 => ?_) R6 q6
        cases f with
        | next => obtain ⟨σ7, H7, R7, n7⟩ := hs7; exact again R7 n7
        | cont => obtain ⟨σ7, H7, R7, n7⟩ := hs7; exact again R7 n7
        | brk =>
          obtain ⟨σ7, H7, R7, n7⟩ := hs7
          exact go_leaf (.ok .next) (k outs' Hw' sw' s7 .next ⟨σ7, H7, ⟨R7.inv.unpinned, R.ipn, R7.size, R7.gsz, R7.gs0, R7.wt⟩, n7⟩)
        | ret u =>
          obtain ⟨v, σ7, H7, R7, r7, n7⟩ := hs7
          exact go_leaf (.ok (.ret u)) (k outs' Hw' sw' s7 (.ret u) ⟨v, σ7, H7, ⟨R7.inv.unpinned, R.ipn, R7.size, R7.gsz, R7.gs0, R7.wt⟩, r7, n7⟩)
  exact loop m0 0 outs Hw sw s2 σ H2 w0 R2 st2 fun b hb => (f2 b hb).1
end
end NA
/-! A generator def: its promise by its body. -/
namespace NA
open PySem PySem.Spec PyProof.Rows L2 GenW
open Sem (wp)
section
variable {prog : Program} {w : World} {A : Around} {F : End → Shared → Prop} {fs : List Frame} {s : Shared}
theorem go_func {body : List Stmt} {env : Env}
    (h : Go (model prog w) A F (.func body env) ((execs body env).wrap (fun f => .pure (.done (.ret (match f with | .ret v => v | _ => .none)))) (fun e => (leaving env e).wrap (fun _ => .raise e) .raise id id) id id) fs s) :
    Go (model prog w) A F (.func body env) ((model prog w).den (.func body env)) fs s := by
  show Go _ A F _ (.point [] fun _ => ((execs body env).onRaise (leaving env)) >>= _) fs s
  refine go_point ?_
  rw [Sem.onRaise_eq_wrap, Sem.bind_eq_wrap', Sem.wrap_wrap]
  refine go_of_eq (Sem.wrap_congr (execs body env) _ _ (fun f => ?_) fun e => ?_) h
  · cases f <;> rfl
  · rw [Sem.bind_eq_wrap, Sem.wrap_wrap]; rfl
end
/-- a generator def's promise: arguments, heap, what no consumer may change meanwhile, the items -/
abbrev SpN := List V → Hp → (Addr → Prop) → List Out → Prop
/-- what a call of it gives -/
structure MadeN (P : Program) (w : World) (K : PySem.W.Frag) (mg : Str → Option Value) (base : Heap) (k : Nat) (outer : List Env) (H : Hp) (s : Shared) (need : Addr → Prop) (outs : List Out) (a g : Nat) (s' : Shared) : Prop where
  os : s'.os = s.os
  bare : AllBare s'.gens
  kp : ∀ b o, s.heap.get? b = some o → s'.heap.get? b = some o
  gn : s.gens.size ≤ g
  gs : s.gens.size ≤ s'.gens.size
  sz : s.heap.objs.size ≤ s'.heap.objs.size
  rest : ∀ (wr : Addr → Prop), (∀ b, wr b → ¬ need b) → ∀ Aw : Around, Room k Aw → Aw.frames = some outer → Rest P w K mg base Aw outer s.heap.objs.size a g wr outs H s'
structure GFnN (P : Program) (w : World) (K : PySem.W.Frag) (mg : Str → Option Value) (base : Heap) (k : Nat) (f : Addr) (fd : FuncData) (ps : List Str) (sp : SpN) : Prop where
  len : ∀ vs H need outs, sp vs H need outs → vs.length = ps.length
  run : ∀ (A : Around) (outer : List Env) (s : Shared) (H : Hp) (args : Args) (us : List Value) (vs : List V) (need : Addr → Prop) (outs : List Out), Room k A → Env0 P w K mg base A outer s H → BindsTo s fd args (ps.zip us) → Vals vs us → sp vs H need outs →
    codeAny (model P w) A (.call (.ref f) args) (fun r s' => match r with | .ok (.ret u) => ∃ a g, u = .ref a ∧ MadeN P w K mg base k outer H s need outs a g s' | _ => False) s
/-- the context of the body -/
def gxOf (P : Program) (w : World) (K : PySem.W.Frag) (mg : Str → Option Value) (base : Heap) (N : List Str) (qual : Str) (scope : Scope) (f : Addr) (cd : Value) (A : Around) (outer : List Env) (s : Shared) (H : Hp) (pn : List (Addr × Obj)) : Cx :=
  { cxOf CX0 P w K mg base N qual scope f cd A outer s H E0 with
    pn := pn
    xe := fun _ _ => False }
theorem cut_all {n : Nat} {s : Shared} (hn : n = s.heap.objs.size) : cutS n s = s := by
  subst hn
  simp [cutS, cutHp]
theorem low_all {P : Program} {w : World} {n : Nat} {H : Hp} {h : Heap} (hok : HOk P w H h) (hn : n = h.objs.size) : low n H = H := by
  funext b
  unfold low
  by_cases hb : b < n
  · rw [if_pos hb]
  · rw [if_neg hb]
    exact (hok.fresh (by rw [← hn]; exact Nat.le_of_not_lt hb)).symm
/-- THE RULE -/
theorem gfn_mk {P : Program} {w : World} {K : PySem.W.Frag} {mg : Str → Option Value} {base : Heap} {k : Nat} {f : Addr} {name qual : Str} {params : Arguments} {body : List Stmt} {scope : Scope} {dV kV doc pm cdv ct oc : Value} {an od : Option Addr}
    {osl : Array (Option Value)} {N ps : List Str} {sp : SpN} (lk : K.lookup f = some ⟨oc, od, .func (PySem.W.fnOf name qual params body scope dV kV doc pm an cdv ct), osl⟩) (hcd : PySem.W.codeIn K cdv qual = true) (S : GScope N ps scope)
    (len : ∀ vs H need outs, sp vs H need outs → vs.length = ps.length)
    (hbody : ∀ (A : Around) (outer : List Env) (s : Shared) (H : Hp) (vs : List V) (need wr : Addr → Prop) (outs : List Out) (pn : List (Addr × Obj)), Room k (A.deeper (envOfC qual scope s.heap.objs.size f cdv)) → sp vs H need outs → (∀ b, wr b → ¬ need b) →
      ∃ t, GSs (gxOf P w K mg base N qual scope f cdv A outer s H pn) wr body t ∧ ∀ H2, (∀ b u, H b = some u → ¬ wr b → H2 b = some u) → (∀ b, wr b → H2 b ≠ none) → t { nx := fun o' Hw' _ H' => o' = [] ∧ Same Hw' H', rt := fun o' Hw' v H' => v = .non ∧ o' = [] ∧ Same Hw' H' } outs H2 (start N vs) H2) :
    GFnN P w K mg base (k + 1) f (PySem.W.fnOf name qual params body scope dV kV doc pm an cdv ct) ps sp := by
  refine ⟨len, fun A outer s H args us vs need outs hr e0 hb r hsp => ?_⟩
  have hl := len _ _ _ _ hsp
  have KX : K.In s.heap := e0.mod.kin.keeps fun b o e => (e0.bs b o e).1
  have lim : s.heap.NoLimit := e0.mod.nolimit.keeps fun b o e => (e0.bs b o e).1
  have hkind : ∀ y ∈ ps.zip us, scope.names.lookup y.1 = some .local ∨ (scope.names.lookup y.1 = some .cell ∧ ((cellsFrom (s.heap.objs.size + 1) scope.names []).lookup y.1).isSome = true) := fun ⟨z, v⟩ hy => by
    rcases S.par z (List.of_mem_zip hy).1 with q | q
    · exact .inl q
    · exact .inr ⟨q, PySem.W.cellsFrom_some _ _ _ (.inl q)⟩
  refine codeAny_call_generator hr.depth (KX _ _ lk) rfl S.co S.gen rfl (PySem.W.codeRec_of KX hcd) (hb _ _ _ _ ?_)
  refine wpAny_newFunctionEnv_cells S.kind hkind fun env he s1 x => ?_
  subst he
  have lim1 : s1.heap.NoLimit := lim.keeps x.toInCall.keep
  refine ⟨lim1, ?_⟩
  have os1 : s1.os = s.os := by obtain ⟨h1, tk, es1, hk1⟩ := x.done; rw [es1]
  have gen1 : s1.gens = s.gens := by obtain ⟨h1, tk, es1, hk1⟩ := x.done; rw [es1]
  have lt1 : s.heap.objs.size < s1.heap.objs.size := x.toInCall.ns.lt
  have sz1 : s.heap.objs.size ≤ s1.heap.objs.size := Nat.le_of_lt lt1
  have kp1 : ∀ b o, s.heap.get? b = some o → s1.heap.get? b = some o := x.toInCall.keep
  have main : ∀ (go : Obj) (nm qn : Value) (tk2 : Nat), go.cls = .type "generator" → go.data = .fields #[.int s1.gens.size 0, nm, qn] → go.slots = #[] → (∀ h : Heap, (h.push go).get? h.objs.size = some go) →
      MadeN P w K mg base (k + 1) outer H s need outs s1.heap.objs.size s1.gens.size { s1 with gens := s1.gens.push (.fresh (.func body (envOfC qual scope s.heap.objs.size f cdv))), toks := tk2, heap := s1.heap.push go } := by
    intro go nm qn tk2 hgc hgd hgs hgp
    have kp2 : ∀ b o, s1.heap.get? b = some o → (s1.heap.push go).get? b = some o := fun b o e => Heap.get?_push_of_some _ e
    have hbar : AllBare (s1.gens.push (.fresh (.func body (envOfC qual scope s.heap.objs.size f cdv)))) := AllBare.push (by rw [gen1]; exact e0.bare) rfl
    refine ⟨os1, hbar, fun b o e => kp2 b o (kp1 b o e), by rw [gen1]; exact Nat.le_refl _, ?_, ?_, fun wr hwn Aw hrw hfr => ?_⟩
    · show s.gens.size ≤ (s1.gens.push _).size
      rw [Array.size_push, gen1]; exact Nat.le_succ _
    · show _ ≤ (s1.heap.push go).objs.size
      rw [Heap.size_push]; exact Nat.le_succ_of_le sz1
    have e0w : Env0 P w K mg base Aw outer s H := ⟨hfr, e0.mod, e0.bs, e0.bsz, e0.funs, e0.frf, e0.hok, e0.bare⟩
    have I1 : Inv (gcxOf P w K mg base N qual scope f cdv Aw outer s H E0 []) [] (start N vs) H s1 := inv_startG S hrw.hd e0w hl r x
    have hpushed : (s1.heap.push go).get? s1.heap.objs.size = some go := hgp _
    have hfree : H s1.heap.objs.size = none := I1.hok.fresh (Nat.le_refl _)
    refine ⟨⟨go, nm, qn, hpushed, hgc, hgd, hgs⟩, hfree, sz1, ?_, _, Array.getElem?_push_size .., fun H2 s2 z e2 hsz hwt => ?_⟩
    · show s1.gens.size < (s1.gens.push _).size
      rw [Array.size_push]; exact Nat.lt_succ_self _
    -- the first turn
    have G : GenX (gxOf P w K mg base N qual scope f cdv Aw outer s H [(s1.heap.objs.size, go)]) Aw s.heap.objs.size s1.heap.objs.size s1.gens.size :=
      ⟨rfl, fun _ => rfl, rfl, ⟨go, nm, qn, rfl, hgc, hgd, hgs⟩, sz1, hfr, rfl, rfl, fun b hb => (by obtain ⟨_, o, ho, _⟩ := e0.funs.mem hb; exact Heap.lt_size ho), e0.bsz, Nat.le_refl _, fun y c h => Nat.le_of_lt (x.above y c (PySem.mem_of_lookup h))⟩
    have I2 : Inv (gcxOf P w K mg base N qual scope f cdv Aw outer s H E0 []) [] (start N vs) H { s1 with gens := s1.gens.push (.fresh (.func body (envOfC qual scope s.heap.objs.size f cdv))), toks := tk2, heap := s1.heap.push go } :=
      I1.call' (ch := []) rfl (Un.kept kp2) (I1.hok.kept kp2) hbar fun b zz => by simp at zz
    have hg0 : ∀ v, go.data ≠ .cell v := fun v q => by rw [hgd] at q; cases q
    have I3 : Inv (gxOf P w K mg base N qual scope f cdv Aw outer s H [(s1.heap.objs.size, go)]) [] (start N vs) H { s1 with gens := s1.gens.push (.fresh (.func body (envOfC qual scope s.heap.objs.size f cdv))), toks := tk2, heap := s1.heap.push go } := by
      refine ⟨⟨I2.ok.mod, I2.ok.kind, I2.ok.glob, I2.ok.blt, I2.ok.above, I2.ok.inj, I2.ok.has, I2.ok.cab, I2.ok.hd, I2.ok.frames, I2.ok.stk, I2.ok.exf, I2.ok.bs, I2.ok.bsz, I2.ok.noex, I2.ok.exfs, I2.ok.funs, I2.ok.frf⟩, I2.os, I2.bare, I2.base, I2.loc, I2.cell, I2.free, I2.freeC, fun p hp => ?_, I2.hok, I2.len⟩
      have hp' : p ∈ [(s1.heap.objs.size, go)] ++ ([] : List (Addr × Obj)) := hp
      rw [List.append_nil] at hp'
      rw [List.mem_singleton.mp hp']
      exact ⟨hpushed, hfree, Nat.ne_of_gt lt1, I1.nofs (Nat.le_refl _), hg0⟩
    have R0 : GRun (gxOf P w K mg base N qual scope f cdv Aw outer s H [(s1.heap.objs.size, go)]) (fun _ => False) s.heap.objs.size s1.gens.size [] H s (start N vs) H { s1 with gens := s1.gens.push (.fresh (.func body (envOfC qual scope s.heap.objs.size f cdv))), toks := tk2, heap := s1.heap.push go } := by
      refine ⟨?_, fun p hp => (by simp at hp), Nat.le_refl _, ?_, ?_, fun _ z => z.elim⟩
      · rw [cut_all rfl, low_all e0.hok rfl]
        exact I3
      · show s1.gens.size < (s1.gens.push _).size
        rw [Array.size_push]; exact Nat.lt_succ_self _
      · show s.gens.size ≤ (s1.gens.push _).size
        rw [Array.size_push, gen1]; exact Nat.le_succ _
    have R2 := R0.woken (wr := wr) (H' := H2) (s' := s2) G ⟨z.os, e2, z.keep, z.kept, z.gens, z.gsz, hsz, hwt⟩
    obtain ⟨t, ht, hq⟩ := hbody Aw outer s H vs need wr outs [(s1.heap.objs.size, go)] (hrw.deeper _) hsp hwn
    show Go (model P w) Aw _ (.func body (envOfC qual scope s.heap.objs.size f cdv)) ((model P w).den (.func body (envOfC qual scope s.heap.objs.size f cdv))) [] s2
    refine go_func ?_
    refine ht.run Aw s.heap.objs.size s1.heap.objs.size s1.gens.size _ [] _ _ id id [] outs H2 s2 s2 (start N vs) H2 _ G ⟨over_func, rfl, rfl, rfl⟩ (fun outs' Hw' sw' s' fl hs => ?_) R2 (hq H2 z.kept hwt)
    cases fl with
    | next =>
      obtain ⟨σ', H', R', rfl, hsm⟩ := hs
      exact go_end (.ok (.ret .none)) ⟨rfl, .inl rfl, H', R'.trn G hsm⟩
    | brk => obtain ⟨_, _, _, q⟩ := hs; exact q.elim
    | cont => obtain ⟨_, _, _, q⟩ := hs; exact q.elim
    | ret u =>
      obtain ⟨v, σ', H', R', rv, rfl, rfl, hsm⟩ := hs
      have eu : u = Value.none := rv
      subst eu
      exact go_end (.ok (.ret .none)) ⟨rfl, .inl rfl, H', R'.trn G hsm⟩
  exact ⟨_, _, rfl, main _ _ _ _ rfl rfl rfl fun h => Heap.get?_push_size _ rfl⟩
end NA
/-! A generator made by a call and walked by a for. -/
namespace NA
open PySem PySem.Spec PyProof.Rows L2 GenW
open Sem (wp)
abbrev TGc := L2.St → Hp → ((Addr → Prop) → List Out → Hp → Prop) → Prop
/-- a generator that has not begun, apart from all that the frame leans on -/
structure NewG (X : Cx) (k : Nat) (pins : List (Addr × Obj)) (σ : L2.St) (s : Shared) (a g n : Nat) (need : Addr → Prop) (outs : List Out) (H1 : Hp) (s' : Shared) : Prop where
  inv : Inv X pins σ H1 s'
  s0 : X.s_0.heap.objs.size ≤ n
  sz : n ≤ s'.heap.objs.size
  loc : X.env.locals < n
  cel : ∀ x c, X.env.cells.lookup x = some c → c < n
  pin : ∀ p ∈ X.pn ++ pins, p.1 < n
  fs : ∀ b ∈ X.fs, b < n
  gn : s.gens.size ≤ g
  gs : s.gens.size ≤ s'.gens.size
  rest : ∀ (wr : Addr → Prop), (∀ b, wr b → ¬ need b) → ∀ Aw : Around, Room k Aw → Aw.frames = some X.stack → Rest X.prog X.w X.K X.mg X.base Aw X.stack n a g wr outs H1 s'
structure PGn (X : Cx) (k : Nat) (e : Expr) (tg : TGc) : Prop where
  run : ∀ (pins : List (Addr × Obj)) (s : Shared) (σ : L2.St) (H : Hp) (R : (Addr → Prop) → List Out → Hp → Prop), Inv X pins σ H s → tg σ H R → wpAny (model X.prog X.w) X.A (eval e X.env)
    (fun u s' => ∃ a g n need outs H1, u = .ref a ∧ NewG X k pins σ s a g n need outs H1 s' ∧ R need outs H1) X.xe s
section
variable {X : Cx} {k : Nat} {f : Addr} {fd : FuncData} {ps : List Str} {sp : SpN} {x : Str} {p pos' : Pos}
theorem run_gfnN {pins : List (Addr × Obj)} {σ : L2.St} {H : Hp} {s0 s : Shared} {us : List Value} {vs : List V} {need : Addr → Prop} {outs : List Out} {E1 : Value → Shared → Prop} (F : GFnN X.prog X.w X.K X.mg X.base k f fd ps sp) (hr : Room k X.A) (hb : Binds X.K fd ps [])
    (I : Inv X pins σ H s) (r : Vals vs us) (h : sp vs H need outs) (hg : s0.gens.size ≤ s.gens.size) :
    wpAny (model X.prog X.w) X.A (call (.ref f) us) (fun u s' => ∃ a g n, u = .ref a ∧ NewG X k pins σ s0 a g n need outs H s') E1 s := by
  have hl : us.length = ps.length := by rw [← r.length]; exact F.len _ _ _ _ h
  have hl2 : (us ++ ([] : List Value)).length = ps.length := by rw [List.append_nil]; exact hl
  have hbs := hb s us I.kIn hl2
  rw [List.append_nil] at hbs
  refine wpAny_call (codeAny_mono (F.run X.A X.stack s H ⟨us, []⟩ us vs need outs hr I.env0 hbs r h) fun r s' hq => ?_)
  cases r with
  | error e => exact hq.elim
  | ok fl =>
    cases fl with
    | next => exact hq.elim
    | brk => exact hq.elim
    | cont => exact hq.elim
    | ret u =>
      obtain ⟨a, g, rfl, M⟩ := hq
      refine ⟨a, g, s.heap.objs.size, rfl, I.call' (ch := []) M.os (Un.kept M.kp) (I.hok.kept M.kp) M.bare (fun b z => by simp at z), I.sz, M.sz, I.lt, fun y c e => ?_, fun q hq => Heap.lt_size (I.pin q hq).1, fun b hb => ?_, Nat.le_trans hg M.gn, Nat.le_trans hg M.gs, M.rest⟩
      · obtain ⟨v, o, ho, _⟩ := I.cell y c e
        exact Heap.lt_size ho
      · obtain ⟨_, o, ho, _⟩ := I.ok.funs.mem hb
        exact Nat.lt_of_lt_of_le (Heap.lt_size ho) I.sz
def tCallN (sp : SpN) (t : TA) : TGc := fun σ H R => t σ H fun vs H1 => ∃ need outs, sp vs H1 need outs ∧ R need outs H1
/-- f(e, ..) of a generator def -/
theorem pgn_call {e : Expr} {es : List Expr} {t : TA} (F : GFnN X.prog X.w X.K X.mg X.base k f fd ps sp) (hr : Room k X.A) (hg : Gl X x) (hm : X.mg x = some (.ref f)) (hk : PySem.W.keepIn X.K (.ref f) = true) (hb : Binds X.K fd ps [])
    (ha : PA X (e :: es) t) (hdb : (x == ("__debug__" : Str)) = false := by decide) (he : starEach (e :: es) X.env = (false, eval e X.env) :: starEach es X.env := by rfl) (hpl : (backTo pos' (starEach es X.env)).any (·.1) = false := by rfl) :
    PGn X k (.Call (.Name x p) (e :: es) [] pos') (tCallN sp t) := by
  refine ⟨fun pins s σ H R I h => ?_⟩
  refine wpAny_Call_Name_kw (ld_glob I hg hm ?_ hdb)
  refine PySem.W.callWith_K (h₀ := X.base) I.ok.mod.kin hk (wpAny_gsz (n := s.gens.size) (Nat.le_refl _) (wpAny_mono (ha.run pos' pins s σ H _ I h) (fun us s1 hq hgs => ?_) fun e s1 hx _ => hx)) he hpl
  obtain ⟨vs, H1, I1, r, need, outs, hsp, hR⟩ := hq
  refine ⟨I1.kIn, thn (run_gfnN F hr hb I1 r hsp hgs) fun u s' hq => ?_⟩
  obtain ⟨a, g, n, rfl, N⟩ := hq
  exact ⟨a, g, n, need, outs, H1, rfl, N, hR⟩
end
theorem env0_in1 {P : Program} {w : World} {K : PySem.W.Frag} {mg : Str → Option Value} {base : Heap} {A : Around} {outer : List Env} {s : Shared} {H : Hp} (e : Env0 P w K mg base A outer s H) : Env0 P w K mg base A.in1 outer s H :=
  ⟨e.frames, e.mod, e.bs, e.bsz, e.funs, e.frf, e.hok, e.bare⟩
section
variable {X : Cx} {wr : Addr → Prop}
/-- for x in a generator: yield e -/
def tGFG (wr : Addr → Prop) (i : Nat) (tg : TGc) (te : TE) : TGn := fun D outs Hw σ H => tg σ H fun need ous H1 => (∀ b, wr b → ¬ need b) ∧ ∃ W : List Out → List Out → Hp → L2.St → Hp → Prop, W ous outs Hw σ H1 ∧
  (∀ ous outs Hw σ H, W ous outs Hw σ H → Same Hw H) ∧
  (∀ outs Hw σ H, W [] outs Hw σ H → ∀ H', Same H H' → D.nx outs Hw σ H') ∧
  (∀ q r outs Hw σ H, W (q :: r) outs Hw σ H → ∀ x H', Same H H' → q x H' → te (σ.set i (some x)) H' fun y H2 => ∃ qo ro, outs = qo :: ro ∧ qo y H2 ∧ Same Hw H2 ∧ ∀ H3, (∀ b u, H2 b = some u → ¬ wr b → H3 b = some u) → (∀ b, wr b → H3 b ≠ none) → W r ro H3 (σ.set i (some x)) H3)
theorem gs_forgen {k i : Nat} {x : Str} {px pos yp yp2 : Pos} {iter e : Expr} {tg : TGc} {te : TE} (hr : Room (k + 1) X.A) (hi : ∀ s0 H0, PGn (at0 X s0 H0) k iter tg) (hN : X.N.Nodup) (hx : X.N[i]? = some x) (hl : X.env.scope.names.lookup x = some .local) (he : ∀ s0 H0, PEq (at0 X s0 H0) e te)
    (hco : X.env.scope.isCoroutine = false := by rfl) (hin : interactive X.env = false := by rfl) (hs : ∀ x, foldedSetIterable iter X.env x = pure x := by intro _; rfl) :
    GS X wr (.For (.Name x px) iter [.Expr (.Yield (some e) yp) yp2] [] pos) (tGFG wr i tg te) := by
  refine ⟨fun A n a g c fs K J gd lv ip outs Hw sw s σ H D G C kk R ht => ?_⟩
  have no : ∀ {e : Value} {s' : Shared}, X.xe e s' → False := fun {e s'} hx => by
    rw [G.xe] at hx
    exact hx
  refine go_For ?_ hs
  rw [C.over]
  refine wpAny_mono ((hi (cutS n sw) (low n Hw)).run ip s σ H _ R.inv ht) (fun xv s1 h1 => ?_) fun _ _ hx => (no hx).elim
  obtain ⟨a', g', n', need, ous, H1, rfl, N, hwn, W, w0, wsm, wend, wstep⟩ := h1
  have Rs := N.rest wr hwn X.A.in1 hr.in1 N.inv.ok.frames
  refine wpAny_pyIter_gen Rs.gen ?_
  intro p
  have Cl := gc_loop (k := fback X.env K J gd lv) (c' := .forLoop (.Name x px) (.ref a') [.Expr (.Yield (some e) yp) yp2] [] X.env) (l := lv []) (kp := []) (p := p) C rfl rfl
  have nn : n ≤ n' := Nat.le_trans G.up (Nat.le_of_lt N.loc)
  have gg : g < g' := Nat.lt_of_lt_of_le R.gsz N.gn
  have R1 : GRun X wr n g ip Hw sw σ H1 s1 := ⟨N.inv, R.ipn, R.size, Nat.lt_of_lt_of_le R.gsz N.gs, Nat.le_trans R.gs0 N.gs, R.wt⟩
  have wtH : ∀ {Hw : Hp} {sw s : Shared} {σ : L2.St} {H : Hp}, GRun X wr n g ip Hw sw σ H s → Same Hw H → ∀ b, wr b → H b ≠ none := fun {Hw sw s σ H} R sm b hb hn => R.wt b hb (sm.free hn)
  have loop : ∀ (ous outs : List Out) (Hw : Hp) (sw s : Shared) (σ : L2.St) (H : Hp), W ous outs Hw σ H → GRun X wr n g ip Hw sw σ H s → n' ≤ s.heap.objs.size → Rest X.prog X.w X.K X.mg X.base X.A.in1 X.stack n' a' g' wr ous H s →
      Go (model X.prog X.w) A (PhiX X A n a g wr outs Hw sw) (.forLoop (.Name x px) (.ref a') [.Expr (.Yield (some e) yp) yp2] [] X.env) ((model X.prog X.w).den (.forLoop (.Name x px) (.ref a') [.Expr (.Yield (some e) yp) yp2] [] X.env)) (.ret (fback X.env K J gd lv) none (gd false) (lv []) c p [] :: fs) s := by
    intro ous
    induction ous with
    | nil =>
      intro outs Hw sw s σ H w R hsz Rs
      refine go_forLoop ?_
      rw [Cl.over]
      refine next_rest (A := X.A) hr.hd (by have := hr.dp; omega) R.inv.nolimit (env0_in1 (P := X.prog) (w := X.w) (K := X.K) (mg := X.mg) (base := X.base) (A := X.A) (outer := X.stack) R.inv.env0) hsz (wtH R (wsm _ _ _ _ _ w)) Rs (fun q rest v s1 H1 x0 hq => by cases hq) fun _ s4 H4 t => ?_
      have I4 : Inv (at0 X (cutS n sw) (low n Hw)) ip σ H4 s4 := R.inv.call' (ch := young n' s.heap) t.os t.un t.hok t.bare fun b hb => by
        have hb' := mem_young hb
        refine ⟨.inr ?_, Nat.ne_of_gt (Nat.lt_of_lt_of_le N.loc hb'), fun y c e => Nat.ne_of_lt (Nat.lt_of_lt_of_le (N.cel y c e) hb'), fun q hq => Nat.ne_of_lt (Nat.lt_of_lt_of_le (N.pin q hq) hb')⟩
        show (cutHp n sw.heap).objs.size ≤ b
        rw [cut_size R.size]
        exact Nat.le_trans nn hb'
      refine go_leaf (.ok .next) ?_
      exact kk outs Hw sw s4 .next ⟨σ, H4, ⟨I4, R.ipn, R.size, Nat.lt_of_lt_of_le R.gsz t.gsz, Nat.le_trans R.gs0 t.gsz, R.wt⟩, wend outs Hw σ H w H4 t.same⟩
    | cons q r ih =>
      intro outs Hw sw s σ H w R hsz Rs
      refine go_forLoop ?_
      rw [Cl.over]
      refine next_rest (A := X.A) hr.hd (by have := hr.dp; omega) R.inv.nolimit (env0_in1 (P := X.prog) (w := X.w) (K := X.K) (mg := X.mg) (base := X.base) (A := X.A) (outer := X.stack) R.inv.env0) hsz (wtH R (wsm _ _ _ _ _ w)) Rs (fun q' rest v s4 H4 x0 hq t rv hq4 Rs4 => ?_) fun hq => by cases hq
      cases hq
      have I4 : Inv (at0 X (cutS n sw) (low n Hw)) ip σ H4 s4 := R.inv.call' (ch := young n' s.heap) t.os t.un t.hok t.bare fun b hb => by
        have hb' := mem_young hb
        refine ⟨.inr ?_, Nat.ne_of_gt (Nat.lt_of_lt_of_le N.loc hb'), fun y c e => Nat.ne_of_lt (Nat.lt_of_lt_of_le (N.cel y c e) hb'), fun q hq => Nat.ne_of_lt (Nat.lt_of_lt_of_le (N.pin q hq) hb')⟩
        show (cutHp n sw.heap).objs.size ≤ b
        rw [cut_size R.size]
        exact Nat.le_trans nn hb'
      refine wpAny_pure ?_
      refine wpAny_assign_Name (store_loc (X := at0 X (cutS n sw) (low n Hw)) I4 hN hx hl rv fun s5 I5 hg5 hs5 => ?_)
      refine go_cons ?_
      refine go_Yield Cl.split ?_ hco hin
      rw [Cl.over]
      refine wpAny_mono ((he (cutS n sw) (low n Hw)).run ip s5 (σ.set i (some x0)) H4 _ I5 (wstep q r outs Hw σ H w x0 H4 t.same hq4)) (fun v6 s6 h6 => ?_) fun _ _ hx => (no hx).elim
      obtain ⟨hg6, kp6, y, H6, I6, ry, sm6, fr6, qo, ro, rfl, hqo, hsm, hnext⟩ := h6
      have gs46 : s6.gens = s4.gens := hg6.trans hg5
      have R6 : GRun X wr n g ip Hw sw (σ.set i (some x0)) H6 s6 := ⟨I6, R.ipn, R.size, by rw [gs46]; exact Nat.lt_of_lt_of_le R.gsz t.gsz, by rw [gs46]; exact Nat.le_trans R.gs0 t.gsz, R.wt⟩
      have z46 : Slq n' g' wr H4 H6 s4 s6 := by
        refine ⟨I6.os.trans I4.os.symm, fun b o hb e0 hn0 => ?_, fun b u e0 _ => sm6 b u e0, fun j y0 _ e0 => by rw [gs46]; exact e0, by rw [gs46]; exact Nat.le_refl _⟩
        have hb5 : s5.heap.get? b = some o := hs5.extBut b o (Nat.ne_of_gt (Nat.lt_of_lt_of_le N.loc hb)) e0
        exact ⟨kp6 b o hb5, fr6 b o hb5 hn0⟩
      have Rs6 := Rs4.on z46 (by rw [gs46])
      obtain ⟨hgen, hn0⟩ := R6.gen G
      intro l kf p6 hk
      refine ⟨by simp [End.quiet, Cl.gd, Cl.guard], hgen, H6, y, hn0, R6.trn G hsm, ry, hqo, fun H7 s7 z => ?_⟩
      rw [hk]
      refine go_again rfl ?_
      have z67 : Slq n' g' wr H6 H7 s6 s7 := ⟨z.os, fun b o hb e0 hn0 => z.keep b o (Nat.le_trans nn hb) e0 hn0, z.kept, fun j y0 hj e0 => z.gens j y0 (Nat.lt_trans gg hj) e0, z.gsz⟩
      have hg7 : s7.gens[g']? = s6.gens[g']? := by
        have hlt : g' < s6.gens.size := Rs6.gsz
        have e6 : s6.gens[g']? = some s6.gens[g'] := Array.getElem?_eq_getElem hlt
        rw [e6]
        exact z.gens g' _ gg e6
      have R7 := R6.woken G z
      refine ih ro H7 s7 s7 (σ.set i (some x0)) H7 (hnext H7 z.kept z.wt) R7 ?_ (Rs6.on z67 hg7)
      obtain ⟨o, nm, qn, ho, _⟩ := (Rs6.on z67 hg7).gen
      exact Nat.le_trans (Rs6.on z67 hg7).an (Nat.le_of_lt (Heap.lt_size ho))
  exact loop ous outs Hw sw s1 σ H1 w0 R1 N.sz Rs
end
end NA
/-! Quiet steps: expressions, statements that leave the table of generators and what is not tracked. A def's for over a generator. -/
namespace NA
open PySem PySem.Spec PyProof.Rows L2 GenW
open Sem (wp)
section
variable {X : Cx} {a b e : Expr} {ta tb te : TE} {pos : Pos}
/-- (e,) -/
theorem peq_tup1 {x1} (he : PEq X e te) (hs : starEach [e] X.env = (false, eval e X.env) :: starEach [] X.env := by rfl) :
    PEq X (.Tuple [e] x1 pos) (fun σ H Q => te σ H fun x H1 => ∀ p, H1 p = none → Q (.ref p) (upd H1 p (.tup [x]))) := by
  refine ⟨fun pins s σ H Q I h => ?_⟩
  refine wpAny_Tuple_spliced ?_
  rw [hs]
  show wpAny _ _ (spliced ((false, eval e X.env) :: backTo pos (starEach [] X.env))) _ _ s
  refine Calls.spliced_cons (thn (he.run pins s σ H _ I h) fun u s1 h1 => ?_)
  obtain ⟨hg, kp, x, H1, I1, r1, sm, fr, q1⟩ := h1
  refine Calls.spliced_nil ⟨by show 1 ≤ sizeLine; decide, ?_⟩
  have hf : H1 s1.heap.objs.size = none := I1.hok.fresh (Nat.le_refl _)
  have kp2 : ∀ b o, s1.heap.get? b = some o → (s1.heap.push { cls := .type "tuple", data := .seq [u].toArray }).get? b = some o := fun b o e => Heap.get?_push_of_some _ e
  refine ⟨hg, fun b o e => kp2 b o (kp b o e), .ref s1.heap.objs.size, upd H1 s1.heap.objs.size (.tup [x]), I1.laid (t' := s1.toks) kp2 (Nat.le_refl _) ?_, rfl, fun b o e => ?_, fun b o e hn => ?_, q1 _ hf⟩
  · exact ⟨by show 1 ≤ sizeLine; decide, [u], .cons r1 .nil, ⟨_, Heap.get?_push_size _ rfl, rfl, _, rfl⟩⟩
  · rw [upd_ne (ne_of_none (sm b o e) hf)]
    exact sm b o e
  · rw [upd_ne (Nat.ne_of_lt (Heap.lt_size (kp b o e)))]
    exact fr b o e hn
/-- a + b, two tuples, none of them empty -/
theorem peq_cat (ha : PEq X a ta) (hb : PEq X b tb) : PEq X (.BinOp a .Add b pos) (fun σ H Q => ta σ H fun x H1 => tb σ H1 fun y H2 => ∃ p q xs ys, x = .ref p ∧ y = .ref q ∧ SqT X.K H2 p xs ∧ SqT X.K H2 q ys ∧ xs ≠ [] ∧ ys ≠ [] ∧ xs.length + ys.length ≤ sizeLine ∧ ∀ t, H2 t = none → Q (.ref t) (upd H2 t (.tup (xs ++ ys)))) := by
  refine ⟨fun pins s σ H Q I h => ?_⟩
  refine wpAny_BinOp (thn (ha.run pins s σ H _ I h) fun v s1 h1 => ?_)
  obtain ⟨hg1, kp1, x, H1, I1, r1, sm1, fr1, q1⟩ := h1
  refine thn (hb.run pins s1 σ H1 _ I1 q1) fun u s2 h2 => ?_
  obtain ⟨hg2, kp2, y, H2, I2, r2, sm2, fr2, p, q, xs, ys, rfl, rfl, hp, hq, nx, ny, hz, hQ⟩ := h2
  cases r1
  cases r2
  obtain ⟨its, v1, p1, _⟩ := I2.tuple hp
  obtain ⟨its2, v2, p2, _⟩ := I2.tuple hq
  have hf : H2 s2.heap.objs.size = none := I2.hok.fresh (Nat.le_refl _)
  have nil_of : ∀ {zs : List V} {us : List Value}, Vals zs us → us = [] → zs = [] := fun {zs us} r e => by subst e; cases r; rfl
  refine HT.cat_tup p1 p2 (fun z => nx (nil_of v1 z)) (fun z => (ny (nil_of v2 z)).elim) (fun z => ?_) (by rw [← v1.length, ← v2.length]; exact hz)
  have kp3 : ∀ (o1 : Obj) b o, s2.heap.get? b = some o → (s2.heap.push o1).get? b = some o := fun o1 b o e => Heap.get?_push_of_some _ e
  refine ⟨hg2.trans hg1, fun b o e => kp3 _ b o (kp2 b o (kp1 b o e)), .ref s2.heap.objs.size, _, I2.laid (t' := s2.toks) (o := .tup (xs ++ ys)) (kp3 _) (Nat.le_refl _) ?_, rfl, fun b o e => ?_, fun b o e hn => ?_, hQ _ hf⟩
  · exact ⟨by rw [List.length_append]; exact hz, _, v1.append v2, IsTup.new _ _⟩
  · rw [upd_ne (ne_of_none (sm2 b o (sm1 b o e)) hf)]
    exact sm2 b o (sm1 b o e)
  · rw [upd_ne (Nat.ne_of_lt (Heap.lt_size (kp2 b o (kp1 b o e))))]
    exact fr2 b o (kp1 b o e) (fr1 b o e hn)
/-- len(e), a list -/
theorem peq_len {x : Str} {p : Pos} (he : PEq X e te) (hg : Gl X x) (hm : X.mg x = none) (hv : bootBuiltins x = some (.builtin "len")) (hn : x ≠ "__name__" := by decide) (hdb : (x == ("__debug__" : Str)) = false := by decide)
    (hs : starEach [e] X.env = (false, eval e X.env) :: starEach [] X.env := by rfl) :
    PEq X (.Call (.Name x p) [e] [] pos) (fun σ H Q => te σ H fun v H1 => ∃ l xs, v = .ref l ∧ SqL X.K H1 l xs ∧ Q (.int xs.length) H1) := by
  refine ⟨fun pins s σ H Q I h => ?_⟩
  refine wpAny_Call_Name_kw (ld_blt I hg hm hv ?_ hn hdb)
  refine PyProof.Rows.callWith_builtin1 ?_ hs rfl
  rw [hs]
  show wpAny _ _ (spliced ((false, eval e X.env) :: backTo pos (starEach [] X.env))) _ _ s
  refine Calls.spliced_cons (thn (he.run pins s σ H _ I h) fun u s1 h1 => ?_)
  obtain ⟨hg1, kp, y, H1, I1, r1, sm, fr, l, xs, rfl, hl, q1⟩ := h1
  cases r1
  refine Calls.spliced_nil ?_
  obtain ⟨its, r', pl, hz⟩ := I1.list hl
  have hlen := r'.length
  have h63 := line63
  exact Calls.call_len_list pl.isList (by simp only [List.size_toArray] <;> omega) ⟨hg1, kp, .int xs.length, H1, I1.tok _, ⟨s1.toks + 1, by rw [List.size_toArray, hlen]⟩, sm, fr, q1⟩
/-- a == b, two ints, as a test -/
structure PTq (X : Cx) (e : Expr) (t : TT) : Prop where
  run : ∀ (pins : List (Addr × Obj)) (s : Shared) (σ : L2.St) (H : Hp) (Q : Bool → Hp → Prop), Inv X pins σ H s → t σ H Q → wpAny (model X.prog X.w) X.A (isTrue e X.env (eval e X.env)) (fun b s' => s'.gens = s.gens ∧ (∀ b o, s.heap.get? b = some o → s'.heap.get? b = some o) ∧
    ∃ H', Inv X pins σ H' s' ∧ Same H H' ∧ (∀ b o, s.heap.get? b = some o → H b = none → H' b = none) ∧ Q b H') X.xe s
theorem ptq_eq (ha : PEq X a ta) (hb : PEq X b tb) : PTq X (.Compare a [.Eq] [b] pos) (fun σ H Q => ta σ H fun x H1 => tb σ H1 fun y H2 => ∃ i j, x = .int i ∧ y = .int j ∧ Q (i == j) H2) := by
  refine ⟨fun pins s σ H Q I h => ?_⟩
  refine wpAny_isTrue_Compare1 (thn (ha.run pins s σ H _ I h) fun v s1 h1 => ?_) (nobehind _ (by decide) (by decide))
  obtain ⟨hg1, kp1, x, H1, I1, r1, sm1, fr1, q1⟩ := h1
  refine thn (hb.run pins s1 σ H1 _ I1 q1) fun u s2 h2 => ?_
  obtain ⟨hg2, kp2, y, H2, I2, r2, sm2, fr2, i, j, rfl, rfl, hQ⟩ := h2
  obtain ⟨t1, rfl⟩ := r1
  obtain ⟨t2, rfl⟩ := r2
  exact PyProof.Rows.eq_int (wpAny_truthy_bool ⟨hg2.trans hg1, fun b o e => kp2 b o (kp1 b o e), H2, I2, sm1.trans sm2, fun b o e hn => fr2 b o (kp1 b o e) (fr1 b o e hn), hQ⟩)

/-! ### statements -/
structure PSu (X : Cx) (st : List Stmt) (t : L2.St → Hp → (Hp → Prop) → Prop) : Prop where
  run : ∀ (pins : List (Addr × Obj)) (s : Shared) (σ : L2.St) (H : Hp) (Q : Hp → Prop), Inv X pins σ H s → t σ H Q → wpAny (model X.prog X.w) X.A (execs st X.env) (fun f s' => f = .next ∧ s'.gens = s.gens ∧
    ∃ H', Inv X pins σ H' s' ∧ (∀ b o, s.heap.get? b = some o → H b = none → s'.heap.get? b = some o ∧ H' b = none) ∧ Q H') X.xe s
theorem psu_nil : PSu X [] (fun _ H Q => Q H) := ⟨fun pins s σ H Q I h => wpAny_execs_nil ⟨rfl, rfl, H, I, fun _ _ e hn => ⟨e, hn⟩, h⟩⟩
/-- if test: .. , not taken -/
theorem psu_if {test : Expr} {p rest : List Stmt} {tc : TT} {t : L2.St → Hp → (Hp → Prop) → Prop} (hc : PTq X test tc) (hr : PSu X rest t) : PSu X (.If test p [] pos :: rest) (fun σ H Q => tc σ H fun b H1 => b = false ∧ t σ H1 Q) := by
  refine ⟨fun pins s σ H Q I h => ?_⟩
  refine wpAny_execs_cons (wpAny_If (thn (hc.run pins s σ H _ I h) fun d s1 h1 => ?_))
  obtain ⟨hg1, kp1, H1, I1, sm1, fr1, rfl, q1⟩ := h1
  refine wpAny_execs_nil ?_
  refine thn (hr.run pins s1 σ H1 Q I1 q1) fun f s2 h2 => ?_
  obtain ⟨rfl, hg2, H2, I2, fr2, q2⟩ := h2
  exact ⟨rfl, hg2.trans hg1, H2, I2, fun b o e hn => fr2 b o (kp1 b o e) (fr1 b o e hn), q2⟩
/-- xs.append(e) -/
theorem psu_append {o : Expr} {to : TE} {apos cpos : Pos} {rest : List Stmt} {t : L2.St → Hp → (Hp → Prop) → Prop} (ho : PEq X o to) (he : PEq X e te) (hr : PSu X rest t)
    (hbase : attributeBase o "append" X.env (eval o X.env) = eval o X.env := by rfl)
    (hfew : ((backTo cpos (starEach [e] X.env)).all (fun x => !x.1) && (backToKw cpos (keywordEach [] X.env)).all (fun x => x.1.isSome)
      && decide (([e] : List Expr).length + ([] : List Keyword).length + (if ([] : List Keyword).isEmpty then 0 else 1) < 30)) = true := by rfl)
    (hline : (apos.endLine == cpos.line) = true := by rfl) (hs : starEach [e] X.env = (false, eval e X.env) :: starEach [] X.env := by rfl)
    (hsw : swapsWith (.Call (.Attribute o "append" apos) [e] [] cpos) none pos.line X.env = pure false := by rfl) :
    PSu X (.Expr (.Call (.Attribute o "append" apos) [e] [] cpos) pos :: rest) (fun σ H Q => to σ H fun x H1 => ∃ l xs, x = .ref l ∧ H1 l = some (.lst xs) ∧ xs.length < sizeLine ∧ te σ H1 fun y H2 => H2 l = some (.lst xs) ∧ t σ (upd H2 l (.lst (xs ++ [y]))) Q) := by
  refine ⟨fun pins s σ H Q I h => ?_⟩
  refine wpAny_execs_cons (wpAny_Expr_any ?_ I.quiet hsw)
  refine wpAny_Call_method_late hbase hfew hline rfl (thn (ho.run pins s σ H _ I h) fun v s1 h1 => ?_)
  obtain ⟨hg1, kp1, x, H1, I1, r1, sm1, fr1, l, xs, rfl, hl, hz, q1⟩ := h1
  obtain ⟨h3, h4⟩ := tyV_is (T := "list") I1 r1 (.inl ⟨rfl, xs, SqL.of hl⟩)
  refine ⟨"list", "list.append", PySem.F.plainAttrs_list, PySem.F.slot_list_append, PySem.F.type_list_append, h3, h4, ?_⟩
  cases r1
  rw [hs]
  refine Calls.callWith_builtin rfl (Calls.evalArgs_plain ?_)
  show wpAny _ _ (spliced ((false, eval e X.env) :: backTo cpos (starEach [] X.env))) _ _ s1
  refine Calls.spliced_cons (thn (he.run pins s1 σ H1 _ I1 q1) fun u s2 h2 => ?_)
  obtain ⟨hg2, kp2, y, H2, I2, r2, sm2, fr2, hl2, q2⟩ := h2
  refine Calls.spliced_nil ?_
  obtain ⟨z, its, n, r, hlen, e0⟩ := I2.lstM hl2
  refine call_meets PySem.F.slot_list_append ⟨_, e0, rfl⟩ PySem.F.entry_list_append (PySem.F.args_list_append_2 _ _) (PySem.list_append l its.toArray n u (by rw [List.size_toArray]; omega)) ⟨e0, ?_⟩
  have I3 : Inv X pins σ (upd H2 l (.lst (xs ++ [y]))) { s2 with heap := s2.heap.update l (Obj.mapSeq fun v => v.push u), toks := s2.toks } :=
    I2.lset (its' := its ++ [u]) hl2 e0 (by simp) (r.append (.cons r2 .nil)) (by rw [List.length_append, List.length_singleton]; omega)
  refine thn (hr.run pins _ σ _ Q I3 q2) fun f s3 h3 => ?_
  obtain ⟨rfl, hg3, H3, I3', fr3, q3⟩ := h3
  refine ⟨rfl, hg3.trans (hg2.trans hg1), H3, I3', fun b o e hn => ?_, q3⟩
  have e2 := kp2 b o (kp1 b o e)
  have n2 := fr2 b o (kp1 b o e) (fr1 b o e hn)
  have nb : b ≠ l := fun zz => by rw [zz, hl2] at n2; cases n2
  refine fr3 b o ?_ (by rw [upd_ne nb]; exact n2)
  exact (Heap.get?_update_other _ _ (Ne.symm nb)).trans e2
/-- for x in a generator, in a def -/
def tFGn (i : Nat) (tg : TGc) (tb : L2.St → Hp → (Hp → Prop) → Prop) : TS := fun D σ H => tg σ H fun need ous H1 => ∃ wr : Addr → Prop, (∀ b, wr b → ¬ need b) ∧ ∃ W : List Out → L2.St → Hp → Prop, W ous σ H1 ∧
  (∀ ous σ H, W ous σ H → ∀ b, wr b → H b ≠ none) ∧
  (∀ σ H, W [] σ H → ∀ H', Same H H' → D.nx σ H') ∧
  (∀ q r σ H, W (q :: r) σ H → ∀ x H', Same H H' → q x H' → tb (σ.set i (some x)) H' fun H2 => (∀ b u, H' b = some u → ¬ wr b → H2 b = some u) ∧ W r (σ.set i (some x)) H2)
theorem ps_forgen {k i : Nat} {x : Str} {px pos : Pos} {iter : Expr} {body : List Stmt} {tg : TGc} {tb : L2.St → Hp → (Hp → Prop) → Prop} (hxe : X.xe = fun _ _ => False) (hr : Room (k + 1) X.A) (hi : PGn X k iter tg) (hN : X.N.Nodup) (hx : X.N[i]? = some x) (hl : X.env.scope.names.lookup x = some .local) (hb : PSu X body tb)
    (hs : ∀ x, foldedSetIterable iter X.env x = pure x := by intro _; rfl) : PS X (.For (.Name x px) iter body [] pos) (tFGn i tg tb) := by
  refine ⟨fun pins s σ H D I h => ?_⟩
  have hp : PassesOwn (model X.prog X.w) X.A X.env X.xe := by rw [hxe]; exact PassesOwn.never
  refine wpAny_For (thn (hi.run pins s σ H _ I h) fun v s1 h1 => ?_) hs
  obtain ⟨a, g, n, need, ous, H1, rfl, N, wr, hwn, W, w0, wt, wend, wstep⟩ := h1
  have Rs := N.rest wr hwn X.A.in1 hr.in1 N.inv.ok.frames
  refine wpAny_pyIter_gen Rs.gen ?_
  refine codeAny_forLoop_any (fun m s' => ∃ ous σ H, m = ous.length ∧ W ous σ H ∧ Inv X pins σ H s' ∧ n ≤ s'.heap.objs.size ∧ Rest X.prog X.w X.K X.mg X.base X.A.in1 X.stack n a g wr ous H s') ?_ ous.length ⟨ous, σ, H1, rfl, w0, N.inv, N.sz, Rs⟩
  rintro m s2 ⟨ous, σ, H, rfl, w, I, hsz, R⟩
  have after : ∀ {H4 : Hp} {s4 : Shared}, Trn X.prog X.w X.stack n H H4 s2 s4 → Inv X pins σ H4 s4 := fun {H4 s4} t =>
    I.call' (ch := young n s2.heap) t.os t.un t.hok t.bare fun b hb => by
      have hb' := mem_young hb
      exact ⟨.inr (Nat.le_trans N.s0 hb'), Nat.ne_of_gt (Nat.lt_of_lt_of_le N.loc hb'), fun y c e => Nat.ne_of_lt (Nat.lt_of_lt_of_le (N.cel y c e) hb'), fun q hq => Nat.ne_of_lt (Nat.lt_of_lt_of_le (N.pin q hq) hb')⟩
  refine next_rest (A := X.A) hr.hd (by have := hr.dp; omega) I.nolimit (env0_in1 I.env0) hsz (wt ous σ H w) R (fun q r v s4 H4 x0 hq t rv hq4 R4 => ?_) fun hq s4 H4 t => ?_
  · subst hq
    refine wpAny_pure ?_
    refine wpAny_assign_Name (store_loc (after t) hN hx hl rv fun s5 I5 hg5 hs5 => ?_)
    refine wpAny_passesOwn hp (thn (hb.run pins s5 (σ.set i (some x0)) H4 _ I5 (wstep q r σ H w x0 H4 t.same hq4)) fun f s6 h6 => ?_)
    obtain ⟨rfl, hg6, H6, I6, fr6, hk6, w6⟩ := h6
    have gs46 : s6.gens = s4.gens := hg6.trans hg5
    have z46 : Slq n g wr H4 H6 s4 s6 := by
      refine ⟨I6.os.trans (after t).os.symm, fun b o hb e0 hn0 => ?_, hk6, fun j y0 _ e0 => by rw [gs46]; exact e0, by rw [gs46]; exact Nat.le_refl _⟩
      exact fr6 b o (hs5.extBut b o (Nat.ne_of_gt (Nat.lt_of_lt_of_le N.loc hb)) e0) hn0
    have R6 := R4.on z46 (by rw [gs46])
    refine ⟨r.length, by rw [List.length_cons]; exact Nat.lt_succ_self _, r, _, H6, rfl, w6, I6, ?_, R6⟩
    obtain ⟨o, nm, qn, ho, _⟩ := R6.gen
    exact Nat.le_trans R6.an (Nat.le_of_lt (Heap.lt_size ho))
  · subst hq
    exact wpAny_execs_nil ⟨σ, H4, after t, wend σ H w H4 t.same⟩
end
end NA
/-! list() of a generator made by a call. -/
namespace NA
open PySem PySem.Spec PyProof.Rows L2 GenW
open Sem (wp)
section
variable {X : Cx} {k : Nat}
theorem drainN {pins : List (Addr × Obj)} {σ : L2.St} {s0 : Shared} {S a g n : Nat} {need wr : Addr → Prop} {o0 : List Out} {H0 : Hp} {res : Value} {R : Result → Shared → Prop} {W : List Out → List V → Hp → Prop} (hr : Room (k + 3) X.A) (N : ∃ s1, NewG X k pins σ s0 a g n need o0 H0 s1) (hS : wr S) (hw1 : ∀ b, wr b → b = S) (hnS : n ≤ S)
    (wstep : ∀ q r ys H, W (q :: r) ys H → H S = some (.lst ys) → ∀ x H', Same H H' → q x H' → W r (ys ++ [x]) (upd H' S (.lst (ys ++ [x]))))
    (hend : ∀ ys H H' s', W [] ys H → Same H H' → Inv X pins σ H' s' → R (.ok (.ret res)) s') :
    ∀ (outs : List Out) (ys : List V) (s : Shared) (H : Hp), Inv X pins σ H s → H S = some (.lst ys) → ys.length + outs.length ≤ sizeLine → n ≤ s.heap.objs.size → Rest X.prog X.w X.K X.mg X.base X.A.in1.in1.in1 X.stack n a g wr outs H s → W outs ys H →
      codeAny (model X.prog X.w) X.A.in1 (.builtin "list.extend.loop" ⟨[.ref S, .ref a, res], []⟩) R s := by
  obtain ⟨s1, N⟩ := N
  have hd : X.A.in1.in1.depth < recursionLimit := by have := hr.dp; show X.A.depth < _; omega
  have after : ∀ {s s4 : Shared} {H H4 : Hp}, Inv X pins σ H s → Trn X.prog X.w X.stack n H H4 s s4 → Inv X pins σ H4 s4 := fun {s s4 H H4} I t =>
    I.call' (ch := young n s.heap) t.os t.un t.hok t.bare fun b hb => by
      have hb' := mem_young hb
      exact ⟨.inr (Nat.le_trans N.s0 hb'), Nat.ne_of_gt (Nat.lt_of_lt_of_le N.loc hb'), fun y c e => Nat.ne_of_lt (Nat.lt_of_lt_of_le (N.cel y c e) hb'), fun q hq => Nat.ne_of_lt (Nat.lt_of_lt_of_le (N.pin q hq) hb')⟩
  intro outs
  induction outs with
  | nil =>
    intro ys s H I hHS hz hsz Rs w
    refine codeAny_builtin PySem.F.entry_extend_loop ?_
    rw [Around.under_plainId PySem.F.plain_extend_loop _]
    show wpAny _ X.A.in1.in1 (pyNext (.ref a) >>= _) _ _ s
    refine wpAny_bind (next_rest (A := X.A.in1.in1) hr.hd hd I.nolimit (env0_in1 (env0_in1 (env0_in1 I.env0))) hsz (fun b hb hn => by rw [hw1 b hb, hHS] at hn; cases hn) Rs (fun q r v s4 H4 x hq => by cases hq) fun _ s4 H4 t => ?_)
    exact wpAny_pure (hend ys H H4 s4 w t.same (after I t))
  | cons q r ih =>
    intro ys s H I hHS hz hsz Rs w
    refine codeAny_builtin PySem.F.entry_extend_loop ?_
    rw [Around.under_plainId PySem.F.plain_extend_loop _]
    show wpAny _ X.A.in1.in1 (pyNext (.ref a) >>= _) _ _ s
    refine wpAny_bind (next_rest (A := X.A.in1.in1) hr.hd hd I.nolimit (env0_in1 (env0_in1 (env0_in1 I.env0))) hsz (fun b hb hn => by rw [hw1 b hb, hHS] at hn; cases hn) Rs (fun q' r' v s4 H4 x hq t rv hx R4 => ?_) fun hq => by cases hq)
    cases hq
    have I4 := after I t
    have hS4 : H4 S = some (.lst ys) := t.same _ _ hHS
    obtain ⟨z, its, c, rl, hlen, e0⟩ := I4.lstM hS4
    have hz' : ys.length < sizeLine := by rw [List.length_cons] at hz; omega
    show wpAny _ X.A.in1.in1 (updateSeq S (·.push v) >>= _) _ _ s4
    refine wpAny_bind ?_
    refine wpAny_updateSeq e0 rfl (wpAny_pure ⟨plainId_quiet PySem.F.plain_extend_loop _, ?_⟩) (by rw [List.size_toArray]; omega) (by show (its.toArray.push v).size ≤ sizeLine + 1; rw [Array.size_push, List.size_toArray]; omega)
    have I5 : Inv X pins σ (upd H4 S (.lst (ys ++ [x]))) { s4 with heap := s4.heap.update S (Obj.mapSeq (·.push v)), toks := s4.toks } :=
      I4.lset (its' := its ++ [v]) hS4 e0 (by simp) (rl.append (.cons rv .nil)) (by rw [List.length_append, List.length_singleton]; omega)
    have zq : Slq n g wr H4 (upd H4 S (.lst (ys ++ [x]))) s4 { s4 with heap := s4.heap.update S (Obj.mapSeq (·.push v)), toks := s4.toks } := by
      refine ⟨rfl, fun b o hb e hn => ?_, fun b u e hb => ?_, fun _ _ _ e => e, Nat.le_refl _⟩
      · have nb : b ≠ S := fun zz => by rw [zz, hS4] at hn; cases hn
        exact ⟨(Heap.get?_update_other _ _ (Ne.symm nb)).trans e, by rw [upd_ne nb]; exact hn⟩
      · have nb : b ≠ S := fun zz => hb (by rw [zz]; exact hS)
        rw [upd_ne nb]; exact e
    have R5 := R4.on zq rfl
    refine ih (ys ++ [x]) _ _ I5 upd_same ?_ ?_ R5 (wstep q r ys H w hHS x H4 t.same hx)
    · rw [List.length_append, List.length_singleton]
      rw [List.length_cons] at hz
      omega
    · obtain ⟨o, nm, qn, ho, _⟩ := R5.gen
      exact Nat.le_trans R5.an (Nat.le_of_lt (Heap.lt_size ho))
def tListN (tg : TGc) : TE := fun σ H Q => tg σ H fun need outs H1 => outs.length ≤ sizeLine ∧ ∀ S, H1 S = none → ¬ need S ∧ ∃ W : List Out → List V → Hp → Prop, W outs [] (upd H1 S (.lst [])) ∧
  (∀ q r ys H, W (q :: r) ys H → H S = some (.lst ys) → ∀ x H', Same H H' → q x H' → W r (ys ++ [x]) (upd H' S (.lst (ys ++ [x])))) ∧
  (∀ ys H H', W [] ys H → Same H H' → Q (.ref S) H')
/-- list(g(..)) -/
theorem pe_listN {e : Expr} {tg : TGc} {nm : Str} {p pos : Pos} (h : PGn X k e tg) (hr : Room (k + 3) X.A) (hg : Gl X nm) (hmg : X.mg nm = none) (hv : bootBuiltins nm = some (.type "list")) (hnm : nm ≠ "__name__" := by decide) (hdb : (nm == ("__debug__" : Str)) = false := by decide)
    (he : starEach [e] X.env = (false, eval e X.env) :: starEach [] X.env := by rfl) : PE X (.Call (.Name nm p) [e] [] pos) (tListN tg) := by
  refine ⟨fun pins s σ H Q I hq => ?_⟩
  refine wpAny_Call_Name_kw (ld_blt I hg hmg hv ?_ hnm hdb)
  refine PyProof.Rows.callWith_type1 ?_ he rfl
  rw [he]
  show wpAny _ _ (spliced ((false, eval e X.env) :: backTo pos (starEach [] X.env))) _ _ s
  refine Calls.spliced_cons (thn (h.run pins s σ H _ I hq) fun u s1 h1 => ?_)
  obtain ⟨a, g, n, need, outs, H1, rfl, N, hlen, hW⟩ := h1
  refine Calls.spliced_nil ?_
  have I1 := N.inv
  have hf : H1 s1.heap.objs.size = none := I1.hok.fresh (Nat.le_refl _)
  obtain ⟨hnd, W, w0, wstep, wend⟩ := hW _ hf
  have Rs := N.rest (· = s1.heap.objs.size) (fun b hb => by rw [hb]; exact hnd) X.A.in1.in1.in1 hr.in1.in1.in1 I1.ok.frames
  have ha1 : a < s1.heap.objs.size := by obtain ⟨o, nm, qn, ho, _⟩ := Rs.gen; exact Heap.lt_size ho
  have hSa : s1.heap.objs.size ≠ a := Nat.ne_of_gt ha1
  refine callType_codes (Q₁ := fun obj s2 => obj = .ref s1.heap.objs.size ∧ s2 = { s1 with heap := s1.heap.push { cls := .type "list", data := .seq #[] } }) PySem.F.called_list (PySem.F.typeCall_list_1 _) PySem.F.entry_list_init
    (code_list_new _ ⟨rfl, rfl⟩) fun obj s2 h2 => ?_
  obtain ⟨rfl, rfl⟩ := h2
  have hS : (s1.heap.push { cls := .type "list", data := .seq #[] }).get? s1.heap.objs.size = some { cls := .type "list", data := .seq #[] } := Heap.get?_push_size _ rfl
  refine ⟨⟨_, hS, rfl⟩, PySem.F.args_list_init_2 _ _, ?_⟩
  show wpAny _ X.A.in1.in1 (do let old ← Builtin.List.listItems (.ref s1.heap.objs.size); Builtin.List.listUpdate (.ref s1.heap.objs.size) (fun _ => #[]); letGo old.toList.reverse; Builtin.List.listExtendWith (.ref s1.heap.objs.size) (.ref a) .none) _ _ _
  refine wpAny_bind ?_
  unfold Builtin.List.listItems
  refine wpAny_bind (wpAny_seqItems hS rfl (wpAny_pure ?_))
  show wpAny _ X.A.in1.in1 (updateSeq s1.heap.objs.size (fun _ => #[]) >>= fun _ => letGo (#[] : Array Value).toList.reverse >>= fun _ => Builtin.List.listExtendWith (.ref s1.heap.objs.size) (.ref a) .none) _ _ _
  refine wpAny_bind (wpAny_updateSeq hS rfl ?_)
  have hS2 := Heap.get?_update_self (Obj.mapSeq (fun _ => (#[] : Array Value))) hS rfl
  refine wpAny_bind (wpAny_letGo ?_)
  unfold Builtin.List.listExtendWith
  have up : ∀ (h : Heap) (f : Obj → Obj), (∀ b o, s1.heap.get? b = some o → h.get? b = some o) → ∀ b o, s1.heap.get? b = some o → (h.update s1.heap.objs.size f).get? b = some o := fun h f q b o e =>
    (Heap.get?_update_other _ _ (Ne.symm (Nat.ne_of_lt (Heap.lt_size e)))).trans (q b o e)
  have k1 : ∀ b o, s1.heap.get? b = some o → (s1.heap.push { cls := .type "list", data := .seq #[] }).get? b = some o := fun b o e => Heap.get?_push_of_some _ e
  have k2 := up _ (Obj.mapSeq (fun _ => (#[] : Array Value))) k1
  have gty : ∀ {h : Heap}, (∀ b o, s1.heap.get? b = some o → h.get? b = some o) → h.IsGen a g := fun {h} q => Rs.gen.keeps q
  refine wpAny_bind (wpAny_typeOf (Heap.IsGen.typeIs (s := { s1 with heap := _ }) (gty k2)) ?_)
  have h1 : Builtin.List.listSameRef (.ref s1.heap.objs.size) (.ref a) = false := by simp [Builtin.List.listSameRef, hSa]
  have h2 : (Value.type "generator" == Value.type "list") = false := by decide
  have h3 : (Value.type "generator" == Value.type "tuple") = false := by decide
  simp only [h1, h2, h3, Bool.or_false, Bool.false_eq_true, if_false]
  refine wpAny_bind (wpAny_pyIter_gen (s := { s1 with heap := _ }) (gty k2) ?_)
  refine wpAny_bind (wpAny_holding ?_)
  unfold Builtin.List.listLengthHint
  refine wpAny_bind (wpAny_specialOf (Heap.IsGen.typeIs (s := { s1 with heap := _ }) (gty k2)) PySem.F.gen_no_len ?_)
  show wpAny _ X.A.in1.in1 (specialOf (Value.ref a) (Str.ofString "__length_hint__") >>= _) _ _ _
  refine wpAny_bind (wpAny_specialOf (Heap.IsGen.typeIs (s := { s1 with heap := _ }) (gty k2)) PySem.F.gen_no_hint ?_)
  refine wpAny_pure ?_
  show wpAny _ X.A.in1.in1 (rule "list.extend.makes-room" >>= fun _ => Builtin.List.listTouch (.ref s1.heap.objs.size) >>= fun _ =>
    again (.builtin "list.extend.loop" ⟨[.ref s1.heap.objs.size, .ref a, .none], []⟩)) _ _ _
  refine wpAny_bind (wpAny_rule ?_)
  refine wpAny_bind ?_
  show wpAny _ X.A.in1.in1 (updateSeq s1.heap.objs.size (·.push .none) >>= fun _ => updateSeq s1.heap.objs.size (·.pop)) _ _ _
  refine wpAny_bind (wpAny_updateSeq hS2 rfl ?_)
  have hS3 := Heap.get?_update_self (Obj.mapSeq (·.push Value.none)) hS2 rfl
  refine wpAny_updateSeq (hz := by seq_fits) hS3 rfl ?_
  have hS4 := Heap.get?_update_self (Obj.mapSeq (·.pop)) hS3 rfl
  have k4 := up _ (Obj.mapSeq (·.pop)) (up _ (Obj.mapSeq (·.push Value.none)) k2)
  refine wpAny_pure ⟨plainId_quiet PySem.F.plain_extend_loop _, ?_⟩
  have I2 : Inv X pins σ (upd H1 s1.heap.objs.size (.lst [])) { s1 with heap := _, toks := s1.toks } := I1.laid (t' := s1.toks) k4 (Nat.le_refl _) ⟨Nat.zero_le _, [], _, .nil, hS4⟩
  have zq : ∀ (h' : Heap), (∀ b o, s1.heap.get? b = some o → h'.get? b = some o) → Slq n g (· = s1.heap.objs.size) H1 (upd H1 s1.heap.objs.size (.lst [])) s1 { s1 with heap := h' } := fun h' k' =>
    ⟨rfl, fun b o hb e hn => ⟨k' b o e, by rw [upd_ne (Nat.ne_of_lt (Heap.lt_size e))]; exact hn⟩, fun b v e hb => by rw [upd_ne hb]; exact e, fun _ _ _ e => e, Nat.le_refl _⟩
  refine drainN (k := k) (need := need) (o0 := outs) (H0 := H1) (s0 := s) hr ⟨s1, N⟩ (S := s1.heap.objs.size) (wr := (· = s1.heap.objs.size)) rfl (fun b hb => hb) N.sz wstep (fun ys H H' s' w sm I' => ⟨rfl, ?_⟩) outs [] _ _ I2 upd_same (by simpa using hlen) ?_ (Rs.on (zq _ k4) rfl) w0
  · obtain ⟨o, nm, qn, ho, _⟩ := (Rs.on (zq _ k4) rfl).gen
    exact Nat.le_trans Rs.an (Nat.le_of_lt (Heap.lt_size ho))
  · exact ⟨.ref _, H', I', rfl, wend ys H H' w sm⟩
end
end NA
/-! len(o), o * p, o[i], for x in o by own methods. -/
namespace NA
open PySem PySem.Spec PyProof.Rows L2
section
variable {X : Cx} {k : Nat} {f C : Addr} {fd : FuncData} {ps : List Str} {sp : Sp}
theorem env0_in1' {P : Program} {w : World} {K : PySem.W.Frag} {mg : Str → Option Value} {base : Heap} {A : Around} {outer : List Env} {s : Shared} {H : Hp} (e : Env0 P w K mg base A outer s H) : Env0 P w K mg base A.in1 outer s H :=
  ⟨e.frames, e.mod, e.bs, e.bsz, e.funs, e.frf, e.hok, e.bare⟩
/-- a def called by its value -/
theorem call_own {A' : Around} {pins : List (Addr × Obj)} {σ : L2.St} {H : Hp} {s : Shared} {us : List Value} {vs : List V} {Q : VK} {E1 : Value → Shared → Prop} (F : FnOk X.prog X.w X.K X.mg X.base CX0 k f fd ps sp) (hr : Room k A') (e0 : Env0 X.prog X.w X.K X.mg X.base A' X.stack s H) (hb : Binds X.K fd ps [])
    (I : Inv X pins σ H s) (r : Vals vs us) (h : sp vs H Q E0) : wpAny (model X.prog X.w) A' (call (.ref f) us) (EP X pins σ Q) E1 s := by
  have hl : us.length = ps.length := by rw [← r.length]; exact F.len _ _ _ _ h
  have hbs := hb s us I.kIn (by rw [List.append_nil]; exact hl)
  rw [List.append_nil] at hbs
  refine wpAny_call (codeAny_mono (F.run A' X.stack s H ⟨us, []⟩ us vs Q E0 hr e0 hbs r h) fun r s' hq => ?_)
  cases r with
  | error e => exact False.elim hq
  | ok fl =>
    cases fl with
    | next => exact False.elim hq
    | brk => exact False.elim hq
    | cont => exact False.elim hq
    | ret u => exact I.after hq
/-- len(o) -/
theorem cr_lenOwn (m : Meth X.K C "__len__" f) (F : FnOk X.prog X.w X.K X.mg X.base CX0 k f fd ps sp) (hr : Room (k + 1) X.A) (hb : Binds X.K fd ps []) :
    CallR X (.builtin "len") (fun xs H Q => ∃ a dx fs, xs = [.ref a] ∧ H a = some (.ins C dx fs) ∧ sp [.ref a] H (fun v H' => ∃ n : Int, v = .int n ∧ (0 ≤ n ∧ n < 2 ^ 63) ∧ Q (.int n) H') E0) := by
  intro pins s σ H xs us Q I r h
  obtain ⟨a, dx, fs, rfl, ea, hsp⟩ := h
  obtain ⟨u, rfl, ru⟩ := vals1 r
  cases ru
  obtain ⟨mA, O, _⟩ := ins_get I.hok ea
  obtain ⟨od, J, _⟩ := O.look
  obtain ⟨mm, Fr0⟩ := I.fr
  refine PySem.W.len_K Fr0 I.mod.kin J m.at_ m.fn (thn (call_own (A' := X.A.in1) F hr.in1 (env0_in1' I.env0) hb I (vs := [.ref a]) (.cons rfl .nil) hsp) fun v s' hv => ?_)
  obtain ⟨y, H', I', ry, n, rfl, hn, hq⟩ := hv
  obtain ⟨t, rfl⟩ := ry
  exact ⟨hn, .int n, H', I'.tok _, ⟨_, rfl⟩, hq⟩
/-- o * p -/
theorem op_mulOwn (m : Meth X.K C "__mul__" f) (hs : PySem.W.selfFirst X.K C = true) (F : FnOk X.prog X.w X.K X.mg X.base CX0 k f fd ps sp) (hr : Room k X.A) (hb : Binds X.K fd ps []) :
    OpR X (binaryOp .Mult) (fun x y H Q => ∃ a dx fs b dy gs, x = .ref a ∧ y = .ref b ∧ H a = some (.ins C dx fs) ∧ H b = some (.ins C dy gs) ∧ sp [.ref a, .ref b] H Q E0) := by
  intro pins s σ H x y v u Q I rx ry h
  obtain ⟨a, dx, fs, b, dy, gs, rfl, rfl, ea, eb, hsp⟩ := h
  cases rx
  cases ry
  obtain ⟨mA, O, _⟩ := ins_get I.hok ea
  obtain ⟨od, J, _⟩ := O.look
  obtain ⟨mB, O2, _⟩ := ins_get I.hok eb
  obtain ⟨od2, J2, _⟩ := O2.look
  obtain ⟨mm, Fr0⟩ := I.fr
  refine PySem.W.binop_K (op := .Mult) Fr0 I.mod.kin J J2.type hs m.at_ m.fn (thn (call_own (A' := X.A) F hr I.env0 hb I (vs := [.ref a, .ref b]) (.cons rfl (.cons rfl .nil)) hsp) fun v s' hv => ?_)
  obtain ⟨y, H', I', ry, hq⟩ := hv
  have back : EP X pins σ Q v s' := ⟨y, H', I', ry, hq⟩
  cases y with
  | non => cases ry; exact back
  | bl _ => cases ry; exact back
  | int _ => obtain ⟨t, rfl⟩ := ry; exact back
  | str _ => obtain ⟨t, rfl⟩ := ry; exact back
  | byt _ => obtain ⟨t, rfl⟩ := ry; exact back
  | flt _ => obtain ⟨t, rfl⟩ := ry; exact back
  | ref _ => cases ry; exact back
  | ty _ => cases ry; exact back
/-- o[i] -/
theorem pe_subOwn {a b : Expr} {ta tb : TE} {pos : Pos} (ha : PE X a ta) (hbx : PE X b tb) (m : Meth X.K C "__getitem__" f) (hf : PySem.W.fnIn X.K f = true) (F : FnOk X.prog X.w X.K X.mg X.base CX0 k f fd ps sp) (hr : Room (k + 1) X.A) (hb : Binds X.K fd ps [])
    (hsl : ∀ o i, subscripted b true o i = runValue (.builtin "lifetime.subscript" ⟨[o, i], []⟩)) :
    PE X (.Subscript a b pos) (tOp (fun x y H Q => ∃ p dx fs, x = .ref p ∧ H p = some (.ins C dx fs) ∧ sp [.ref p, y] H Q E0) ta tb) := by
  refine ⟨fun pins s σ H Q I h => ?_⟩
  refine Subscript_ (binT ha hbx I h fun v u s2 x y H2 I2 rx ry q => ?_)
  obtain ⟨p, dx, fs, rfl, ea, hsp⟩ := q
  cases rx
  obtain ⟨mA, O, _⟩ := ins_get I2.hok ea
  obtain ⟨od, J, _⟩ := O.look
  obtain ⟨mm, Fr0⟩ := I2.fr
  exact PySem.W.sub_K Fr0 I2.mod.kin J m.at_ hf m.fn (call_own (A' := X.A.in1) F hr.in1 (env0_in1' I2.env0) hb I2 (vs := [.ref p, y]) (.cons rfl (.cons ry .nil)) hsp) (hsl _ _)
end

/-! ### a def whose promise knows how old the heap is at its call -/
structure FnN (P : Program) (w : World) (K : PySem.W.Frag) (mg : Str → Option Value) (base : Heap) (k : Nat) (f : Addr) (fd : FuncData) (ps : List Str) (sp : Nat → Sp) : Prop where
  len : ∀ n vs H Q E, sp n vs H Q E → vs.length = ps.length
  run : ∀ (A : Around) (outer : List Env) (s : Shared) (H : Hp) (args : Args) (us : List Value) (vs : List V) (Q : VK), Room k A → Env0 P w K mg base A outer s H → BindsTo s fd args (ps.zip us) → Vals vs us → sp s.heap.objs.size vs H Q E0 →
    codeAny (model P w) A (.call (.ref f) args) (fun r s' => match r with | .ok (.ret u) => CE outer P w H s Q u s' | _ => False) s
theorem fnN_of {P : Program} {w : World} {K : PySem.W.Frag} {mg : Str → Option Value} {base : Heap} {k : Nat} {f : Addr} {name qual : Str} {params : Arguments} {body : List Stmt} {scope : Scope} {dV kV doc pm cdv ct oc : Value} {an od : Option Addr}
    {osl : Array (Option Value)} {N ps : List Str} {sp : Nat → Sp} (lk : K.lookup f = some ⟨oc, od, .func (PySem.W.fnOf name qual params body scope dV kV doc pm an cdv ct), osl⟩) (hcd : PySem.W.codeIn K cdv qual = true) (S : FnScope N ps scope)
    (len : ∀ n vs H Q E, sp n vs H Q E → vs.length = ps.length)
    (hbody : ∀ (A : Around) (outer : List Env) (s : Shared) (H : Hp) (vs : List V) (Q : VK), Room k (A.deeper (envOfC qual scope s.heap.objs.size f cdv)) → sp s.heap.objs.size vs H Q E0 →
      ∃ t, PSs (cxOf CX0 P w K mg base N qual scope f cdv A outer s H E0).nox body t ∧ t { nx := fun _ H' => Q .non H', rt := Q } (start N vs) H) :
    FnN P w K mg base (k + 1) f (PySem.W.fnOf name qual params body scope dV kV doc pm an cdv ct) ps sp := by
  refine ⟨len, fun A outer s H args us vs Q hr e0 hb r hsp => ?_⟩
  have hl := len _ _ _ _ _ hsp
  have KX : K.In s.heap := e0.mod.kin.keeps fun b o e => (e0.bs b o e).1
  have lim : s.heap.NoLimit := e0.mod.nolimit.keeps fun b o e => (e0.bs b o e).1
  have hkind : ∀ y ∈ ps.zip us, scope.names.lookup y.1 = some .local ∨ (scope.names.lookup y.1 = some .cell ∧ ((cellsFrom (s.heap.objs.size + 1) scope.names []).lookup y.1).isSome = true) := fun ⟨z, v⟩ hy => by
    rcases S.par z (List.of_mem_zip hy).1 with q | q
    · exact .inl q
    · exact .inr ⟨q, PySem.W.cellsFrom_some _ _ _ (.inl q)⟩
  refine codeAny_call_function hr.depth (KX _ _ lk) rfl S.co S.gen rfl (PySem.W.codeRec_of KX hcd) (hb _ _ _ _ ?_)
  refine wpAny_newFunctionEnv_cells S.kind hkind fun env he s1 x => ?_
  subst he
  refine ⟨lim.keeps x.toInCall.keep, codeAny_func ?_⟩
  obtain ⟨t, ht, hq⟩ := hbody A outer s H vs Q (hr.deeper _) hsp
  have I : Inv (cxOf CX0 P w K mg base N qual scope f cdv A outer s H E0) [] (start N vs) H s1 := inv_start S hr.hd e0 hl r x
  refine wpAny_mono (ht.nox.run [] s1 (start N vs) H _ I hq) (fun fl s' hs => ?_) fun e s' hs => ?_
  · cases fl with
    | ret u => obtain ⟨v, σ', H', J, rv, q⟩ := hs; exact ⟨v, H', J.os, J.bare, J.base, J.hok, rv, q⟩
    | next => obtain ⟨σ', H', J, q⟩ := hs; exact ⟨V.non, H', J.os, J.bare, J.base, J.hok, rfl, q⟩
    | brk => obtain ⟨_, _, _, q⟩ := hs; exact q.elim
    | cont => obtain ⟨_, _, _, q⟩ := hs; exact q.elim
  · exact hs

/-! ### a tuple's iterator as a value, handed out by an own __iter__ -/
def ItT (t it : Addr) : HO := .ext fun h => h.IsTupleIter it t 0
theorem itT_ok {P : Program} {w : World} {H : Hp} {h : Heap} {t it : Addr} (e : h.IsTupleIter it t 0) : ObjOk P w H h it (ItT t it) :=
  ⟨e, (by obtain ⟨o, ho, _⟩ := e; exact ⟨o, ho⟩), fun h1 h2 q k => (by obtain ⟨o, ho, r⟩ := q; exact ⟨o, k o ho, r⟩)⟩
section
variable {X : Cx}
theorem cr_iterT : CallR X (.builtin "iter") (fun xs H Q => ∃ (t : Addr) (zs : List V), xs = [.ref t] ∧ SqT X.K H t zs ∧ ∀ it, H it = none → X.s_0.heap.objs.size ≤ it → Q (.ref it) (upd H it (ItT t it))) := by
  intro pins s σ H xs us Q I r h
  obtain ⟨t, zs, rfl, hq, q⟩ := h
  obtain ⟨u, rfl, ru⟩ := vals1 r
  cases ru
  obtain ⟨its, rv, p, hz⟩ := I.tuple hq
  refine Calls.call_function_entry (by decide +kernel) (by decide +kernel) PySem.W.kdk_entry_iter (PySem.W.kdk_args_iter _) ?_
  unfold Builtin.«iter»
  refine wpAny_bind (m := someArgs "iter" 1 2 _) (wpAny_of_eq (a := [Value.ref t]) (by first | rfl | kernel_rfl!) ?_)
  show wpAny _ _ (pyIter (.ref t) >>= _) _ _ _
  refine wpAny_bind (wpAny_pyIter_tuple (show s.heap.IsTuple t its.toArray from p) ?_)
  exact wpAny_pure ⟨_, rfl, .ref s.heap.objs.size, _, I.laid (t' := s.toks) (fun b u e => Heap.get?_push_of_some _ e) (Nat.le_refl _) (itT_ok ⟨_, Heap.get?_push_size _ rfl, rfl, rfl⟩), rfl, q _ (I.hok.fresh (Nat.le_refl _)) I.sz⟩
/-- what an own __iter__ promises: a new iterator of the tuple in its field fl -/
def spIter (C : Addr) (fl : Str) : Nat → Sp := fun n vs H Q _ => ∃ a dx fs t zs, vs = [V.ref a] ∧ H a = some (.ins C dx fs) ∧ fs.lookup fl = some (.ref t) ∧ H t = some (.tup zs) ∧ ∀ it, H it = none → n ≤ it → Q (.ref it) (upd H it (ItT t it))
/-- for x in o -/
def iOwnT (C : Addr) (fl : Str) (te : TE) (K : PySem.W.Frag) : TI := fun σ H R => te σ H fun x H1 => ∃ a dx fs t zs, x = .ref a ∧ H1 a = some (.ins C dx fs) ∧ fs.lookup fl = some (.ref t) ∧ H1 t = some (.tup zs) ∧ R (Itt K t) H1
theorem pi_own {k : Nat} {f C : Addr} {fd : FuncData} {fl : Str} {e tg : Expr} {te : TE} (he : PE X e te) (m : Meth X.K C "__iter__" f) (F : FnN X.prog X.w X.K X.mg X.base k f fd ["self"] (spIter C fl)) (hr : Room k X.A) (hb : Binds X.K fd ["self"] []) :
    PI X tg e (iOwnT C fl te X.K) := by
  refine ⟨fun pins s σ H R I h => ?_⟩
  refine thn (he.run pins s σ H _ I h) fun v s1 ⟨x, H1, I1, r1, a, dx, fs, t, zs, ex, ea, el, et, hR⟩ => ?_
  subst ex
  cases r1
  obtain ⟨mA, O, _⟩ := ins_get I1.hok ea
  obtain ⟨od, J, _⟩ := O.look
  obtain ⟨mm, Fr0⟩ := I1.fr
  have hbs := hb s1 [.ref a] I1.kIn rfl
  rw [List.append_nil] at hbs
  refine PySem.W.owit_iter Fr0 I1.mod.kin J m.at_ m.fn (wpAny_call (codeAny_mono (F.run X.A X.stack s1 H1 ⟨[.ref a], []⟩ [.ref a] [.ref a] (fun v H' => ∃ it, v = .ref it ∧ H1 it = none ∧ s1.heap.objs.size ≤ it ∧ H' = upd H1 it (ItT t it)) hr I1.env0 hbs (.cons rfl .nil)
    ⟨a, dx, fs, t, zs, rfl, ea, el, et, fun it hn hs => ⟨it, rfl, hn, hs, rfl⟩⟩) fun r s2 hq => ?_))
  cases r with
  | error e => exact hq.elim
  | ok fl' =>
    cases fl' with
    | next => exact hq.elim
    | brk => exact hq.elim
    | cont => exact hq.elim
    | ret u =>
      obtain ⟨y, H2, I2, ry, it, rfl, hn, hs, rfl⟩ := I1.after hq
      cases ry
      have hit : (upd H1 it (ItT t it)) it = some (ItT t it) := upd_same
      have st : s2.heap.IsTupleIter it t 0 := (I2.hok it _ hit).1
      have hit' := hit
      unfold ItT at hit'
      have I3 := ItX.inv_drop I2 hit'
      have eH : ItX.dropH (upd H1 it (.ext fun h => h.IsTupleIter it t 0)) it = H1 := ItX.dropH_upd hn
      have fp := ItX.inv_fp I2 hit (Nat.le_trans I1.sz hs)
      rw [show (ItT t it) = HO.ext fun h => h.IsTupleIter it t 0 from rfl] at fp I3
      rw [eH] at fp I3
      show wpAny _ _ (specialOf (.ref it) "__next__") _ _ _
      refine wpAny_specialOf (name := Str.ofString "__next__") st.typeIs PySem.F.slot_tuple_iterator_next.lookup ?_
      refine ⟨it, [it], _, _, H1, rfl, I3, turn_tuple t it, st, fun b hb => ?_, hR⟩
      have e : b = it := by simpa using hb
      rw [e]
      exact fp
end
end NA
/-! sorted() of a list, a tuple, a dict with tuple keys: data made of ints and tuples, any length. -/
namespace NA
open PySem PySem.Spec PyProof.Rows L2
open PySem.W (EachIs AllAlike Sortable dataLe dataLt alike alikeAll)

/-- ints and tuples of such -/
inductive Plain : PyData → Prop
  | int (i : Int) : Plain (.int i)
  | tup {ds : List PyData} : (∀ d ∈ ds, Plain d) → Plain (.tuple ds)
mutual
theorem reads_plain {h : Heap} : ∀ {d : PyData} {v : Value} {as : List Addr}, Plain d → Reads h v d as → as = []
  | _, _, _, .int _, r => by cases r; rfl
  | _, _, _, .tup hp, r => by
    cases r with
    | tuple h1 h2 h3 h4 => exact readsAll_plain hp h4
theorem readsAll_plain {h : Heap} : ∀ {ds : List PyData} {vs : List Value} {as : List Addr}, (∀ d ∈ ds, Plain d) → ReadsAll h vs ds as → as = []
  | [], _, _, _, r => by cases r; rfl
  | d :: ds, _, _, hp, r => by
    cases r with
    | cons r1 r2 =>
      rw [reads_plain (hp d (List.mem_cons_self)) r1, readsAll_plain (fun e he => hp e (List.mem_cons_of_mem _ he)) r2]
      rfl
end
abbrev VD := V × PyData
theorem each_of {K : PySem.W.Frag} {R : Value → VD → Prop} : ∀ {bs : List VD} {us : List Value}, Vals (bs.map (·.1)) us → (∀ b ∈ bs, ∀ u, RelV b.1 u → R u b) → EachIs R us bs
  | [], _, r, _ => by cases r; exact .nil
  | b :: bs, us, r, f => by
    have r' : Vals (b.1 :: bs.map (·.1)) us := r
    cases r' with
    | cons q t => exact .cons (f b (List.mem_cons_self) _ q) (each_of (K := K) t fun c hc => f c (List.mem_cons_of_mem _ hc))
theorem vals_each : ∀ {bs : List VD} {us : List Value}, EachIs (fun u (b : VD) => RelV b.1 u) us bs → Vals (bs.map (·.1)) us
  | [], _, .nil => .nil
  | _ :: _, _, .cons q t => .cons q (vals_each t)
/-- what the items must be -/
structure SrtOk (K : PySem.W.Frag) (H : Hp) (bs : List VD) : Prop where
  dp : ∀ b ∈ bs, Dp K H b.1 b.2
  pl : ∀ b ∈ bs, Plain b.2
  al : AllAlike (bs.map (·.2))
  so : Sortable (bs.map (·.2))
  dep : ∀ b ∈ bs, b.2.depth ≤ 50
def srt (bs : List VD) : List VD := bs.mergeSort (dataLe false (·.2))
section
variable {X : Cx} {pins : List (Addr × Obj)} {σ : L2.St} {H : Hp} {s : Shared}
theorem srt_tail {bs : List VD} {us : List Value} {A' : Around} {P : PySem.Fin → Shared → Prop} {E : Value → Shared → Prop} (hu : A'.units + 64 < cLine) (I : Inv X pins σ H s) (S : SrtOk X.K H bs) (hl : bs.length ≤ sizeLine) (r : Vals (bs.map (·.1)) us)
    (hP : ∀ p s', H p = none → Inv X pins σ (upd H p (.lst ((srt bs).map (·.1)))) s' → P (.done (.ret (.ref p))) s') :
    wpAny (model X.prog X.w) A' (newList us >>= fun l => holding [l] (call (.builtin "list.sort") [l] []) >>= fun _ => ret l) P E s := by
  have hlen : us.length = bs.length := by
    have e := r.length
    rw [List.length_map] at e
    exact e.symm
  refine wpAny_bind (wpAny_newObj_type ?_ (by show us.toArray.size ≤ sizeLine; rw [List.size_toArray]; omega))
  have hp : (s.heap.push { cls := .type "list", data := .seq us.toArray }).get? s.heap.objs.size = some (seqObj "list" us.toArray 0) := Heap.get?_push_size _ rfl
  have kp : ∀ b o, s.heap.get? b = some o → (s.heap.push { cls := .type "list", data := .seq us.toArray }).get? b = some o := fun b o e => Heap.get?_push_of_some _ e
  have er : EachIs (fun v (b : VD) => ∃ as, Reads (s.heap.push { cls := .type "list", data := .seq us.toArray }) v b.2 as ∧ s.heap.objs.size ∉ as) us bs :=
    each_of (K := X.K) r fun b hb u ru => by
      obtain ⟨as, q⟩ := Dp.reads I b.2 b.1 u (S.dp b hb) ru
      have e := reads_plain (S.pl b hb) q
      subst e
      exact ⟨[], PyProof.Rows.Reads.keeps kp q, by simp⟩
  have e0 : EachIs (fun u (b : VD) => RelV b.1 u) us bs := each_of (K := X.K) r fun b _ u ru => ru
  refine wpAny_bind (wpAny_holding (PySem.W.list_sort_data (vs := us) (enc := fun b : VD => b.2) hp e0 er S.al S.so hl (fun b hb => ?_) fun out ho eo => ?_))
  · have := S.dep b hb
    show A'.units + 1 + _ < _
    omega
  · refine wpAny_pure (hP s.heap.objs.size _ (I.hok.fresh (Nat.le_refl _)) ?_)
    refine I.laid (t' := s.toks) (fun b u e => ?_) (Nat.le_refl _) ?_
    · rw [sortedHeap_old (Nat.ne_of_lt (Heap.lt_size e)) (by rw [Heap.size_push]; exact Nat.lt_succ_of_lt (Heap.lt_size e))]
      exact kp b u e
    · obtain ⟨c, hc⟩ : ∃ c, (sortedHeap (s.heap.push { cls := .type "list", data := .seq us.toArray }) s.heap.objs.size us (List.toArray out)).get? s.heap.objs.size = some (seqObj "list" (List.toArray out) c) := by
        have q := sortedHeap_at (out := List.toArray out) hp
        exact q
      refine ⟨?_, out, c, vals_each eo, hc⟩
      rw [List.length_map]
      show (bs.mergeSort _).length ≤ _
      rw [List.length_mergeSort]
      exact hl
/-- sorted(xs): a list, a tuple -/
theorem cr_srt (hu : X.A.units + 66 < cLine) : CallR X (.builtin "sorted") (fun vs H Q => ∃ (a : Addr) (bs : List VD), vs = [V.ref a] ∧ (SqL X.K H a (bs.map (·.1)) ∨ SqT X.K H a (bs.map (·.1))) ∧ SrtOk X.K H bs ∧ ∀ p, H p = none → Q (.ref p) (upd H p (.lst ((srt bs).map (·.1))))) := by
  intro pins s σ H vs us Q I r h
  obtain ⟨a, bs, rfl, hq, S, q⟩ := h
  obtain ⟨u, rfl, ru⟩ := vals1 r
  cases ru
  refine Calls.call_function_entry PyProof.Rows.kind_sorted PyProof.Rows.plain_sorted PyProof.Rows.entry_sorted (PyProof.Rows.args_sorted1 _) ?_
  unfold Builtin.«sorted»
  refine wpAny_bind (m := checkCount "sorted" 1 1 _) (wpAny_pure ?_)
  have main : ∀ (its : List Value) (h' : Heap), (∀ b o, s.heap.get? b = some o → h'.get? b = some o) → Vals (bs.map (·.1)) its → bs.length ≤ sizeLine →
      wpAny (model X.prog X.w) X.A.in1 (newList its >>= fun l => holding [l] (call (.builtin "list.sort") [l] []) >>= fun _ => ret l) (fun fin s' => ∃ v, fin = .done (.ret v) ∧ EP X pins σ Q v s') X.xe { s with heap := h' } := fun its h' k rv hl => by
    have I1 : Inv X pins σ H { s with heap := h' } := I.kept (t' := s.toks) k
    exact srt_tail (by show X.A.units + 1 + 64 < _; omega) I1 S hl rv fun p s' hn I2 => ⟨_, rfl, .ref p, _, I2, rfl, q p hn⟩
  rcases hq with hq | hq
  · obtain ⟨its, rv, ⟨o, n, e, c, d1, d2⟩, hz⟩ := I.list hq
    refine wpAny_bind (wpAny_collect_seq a (.inl rfl) e c d2 (fun h' k => ?_) (by rw [List.size_toArray]; have := rv.length; omega))
    exact main its h' k rv (by rw [List.length_map] at hz; exact hz)
  · obtain ⟨its, rv, ⟨o, e, c, n, d⟩, hz⟩ := I.tuple hq
    refine wpAny_bind (wpAny_collect_seq a (.inr rfl) e c d (fun h' k => ?_) (by rw [List.size_toArray]; have := rv.length; omega))
    exact main its h' k rv (by rw [List.length_map] at hz; exact hz)
end

/-! ### rooms, rows of rooms -/
abbrev Room' := List Int
/-- v is the tuple of r's places -/
def Rm (H : Hp) (v : V) (r : List Int) : Prop := ∃ t, v = .ref t ∧ H t = some (.tup (r.map V.int))
abbrev Rms (H : Hp) : List V → List (List Int) → Prop := Paired (Rm H)
/-- v is the tuple of a row's rooms -/
def Rw (H : Hp) (v : V) (row : List (List Int)) : Prop := ∃ t xs, v = .ref t ∧ H t = some (.tup xs) ∧ Rms H xs row
abbrev Rws (H : Hp) : List V → List (List (List Int)) → Prop := Paired (Rw H)
theorem Paired.mono' {α β : Type} {F G : α → β → Prop} (f : ∀ a b, F a b → G a b) : ∀ {l : List α} {m : List β}, Paired F l m → Paired G l m
  | _, _, .nil => .nil
  | _, _, .cons q t => .cons (f _ _ q) (Paired.mono' f t)
theorem Rm.same {H H' : Hp} (s : Same H H') {v : V} {r : List Int} (h : Rm H v r) : Rm H' v r := let ⟨t, e, h⟩ := h; ⟨t, e, s _ _ h⟩
theorem Rms.same {H H' : Hp} (s : Same H H') {vs : List V} {rs : List (List Int)} (h : Rms H vs rs) : Rms H' vs rs := Paired.mono' (fun _ _ q => q.same s) h
theorem Rw.same {H H' : Hp} (s : Same H H') {v : V} {r : List (List Int)} (h : Rw H v r) : Rw H' v r := let ⟨t, xs, e, h, q⟩ := h; ⟨t, xs, e, s _ _ h, Rms.same s q⟩
theorem Rws.same {H H' : Hp} (s : Same H H') {vs : List V} {rs : List (List (List Int))} (h : Rws H vs rs) : Rws H' vs rs := Paired.mono' (fun _ _ q => q.same s) h
theorem dpAll_ints {K : PySem.W.Frag} {H : Hp} : ∀ ns : List Int, DpAll K H (ns.map V.int) (ns.map PyData.int)
  | [] => .nil
  | n :: r => .cons (.int n) (dpAll_ints r)
abbrev encR (r : List Int) : PyData := .tuple (r.map .int)
abbrev encRow (row : List (List Int)) : PyData := .tuple (row.map encR)
theorem Rm.dp {K : PySem.W.Frag} {H : Hp} {v : V} {r : List Int} (h : Rm H v r) : Dp K H v (encR r) := by
  obtain ⟨t, rfl, h⟩ := h
  exact .tup (SqT.of h) (dpAll_ints r)
theorem Rms.dpAll {K : PySem.W.Frag} {H : Hp} : ∀ {vs : List V} {rs : List (List Int)}, Rms H vs rs → DpAll K H vs (rs.map encR)
  | _, _, .nil => .nil
  | _, _, .cons q t => .cons q.dp (Rms.dpAll t)
theorem Rw.dp {K : PySem.W.Frag} {H : Hp} {v : V} {r : List (List Int)} (h : Rw H v r) : Dp K H v (encRow r) := by
  obtain ⟨t, xs, rfl, h, q⟩ := h
  exact .tup (SqT.of h) q.dpAll
theorem plain_ints (r : List Int) : ∀ d ∈ r.map PyData.int, Plain d := fun d hd => by
  obtain ⟨i, _, rfl⟩ := List.mem_map.mp hd
  exact .int i
theorem plain_encR (r : List Int) : Plain (encR r) := .tup (plain_ints r)
theorem plain_encRow (r : List (List Int)) : Plain (encRow r) := .tup fun d hd => by
  obtain ⟨i, _, rfl⟩ := List.mem_map.mp hd
  exact plain_encR i
/-- the order of rooms, of rows -/
def leR (r q : List Int) : Bool := !decide (q < r)
def leRow (r q : List (List Int)) : Bool := !decide (q < r)
def leI (a b : Int) : Bool := decide (a ≤ b)
def srtI (ns : List Int) : List Int := ns.mergeSort leI
def srtR (rs : List (List Int)) : List (List Int) := rs.mergeSort leR
def srtRow (rs : List (List (List Int))) : List (List (List Int)) := rs.mergeSort leRow
theorem lt_encR (xs ys : List Int) : dataLt (encR xs) (encR ys) = decide (xs < ys) := by
  rw [PySem.W.dataLt_tuple]
  exact PySem.W.dataLt_ints xs ys
theorem dataLe_encR (xs ys : List Int) : dataLe false (id : PyData → PyData) (encR xs) (encR ys) = leR xs ys := by
  show (!dataLt (encR ys) (encR xs)) = _
  rw [lt_encR]
  rfl

theorem eqv_ints : ∀ xs ys : List Int, PyData.eqvAll (xs.map PyData.int) (ys.map PyData.int) = decide (xs = ys)
  | [], [] => by simp [PyData.eqvAll]
  | [], _ :: _ => by simp [PyData.eqvAll]
  | _ :: _, [] => by simp [PyData.eqvAll]
  | x :: xs, y :: ys => by
    show PyData.eqvAll (.int x :: xs.map .int) (.int y :: ys.map .int) = _
    rw [PyData.eqvAll, eqv_ints xs ys]
    by_cases h : x = y <;> simp [PyData.eqv, h]
theorem eqv_encR (xs ys : List Int) : PyData.eqv (encR xs) (encR ys) = decide (xs = ys) := by
  rw [PyData.eqv]
  exact eqv_ints xs ys
theorem rowLt_encR : ∀ xs ys : List (List Int), PySem.W.rowLt (xs.map encR) (ys.map encR) = decide (xs < ys)
  | [], [] => by
    have e : PySem.W.rowLt [] [] = false := PyProof.Rows.lex_irrefl _
    simp [e]
  | [], y :: ys => by
    have e : PySem.W.rowLt [] (encR y :: ys.map encR) = true := by
      unfold PySem.W.rowLt
      rw [PySem.W.toks_all_cons]
      simp only [PySem.W.keyToksAll]
      rw [PyProof.Rows.lex_diff (O := PyProof.Rows.itemOrd) (by simp)]
      rfl
    simpa using e
  | x :: xs, [] => by
    have e : PySem.W.rowLt (encR x :: xs.map encR) [] = false := by
      unfold PySem.W.rowLt
      rw [PySem.W.toks_all_cons]
      simp only [PySem.W.keyToksAll]
      rw [PyProof.Rows.lex_diff (O := PyProof.Rows.itemOrd) (by simp)]
      rfl
    simpa using e
  | x :: xs, y :: ys => by
    have e : PySem.W.rowLt (encR x :: xs.map encR) (encR y :: ys.map encR) = if x = y then PySem.W.rowLt (xs.map encR) (ys.map encR) else decide (x < y) := by
      unfold PySem.W.rowLt
      rw [PySem.W.dataLt_cons (by rw [alike]; exact PySem.W.alike_ints x y), eqv_encR, lt_encR]
      simp only [decide_eq_true_eq]
    show PySem.W.rowLt (encR x :: xs.map encR) (encR y :: ys.map encR) = _
    rw [e]
    by_cases h : x = y
    · rw [if_pos h, rowLt_encR xs ys]
      subst h
      have : ¬ x < x := List.lt_irrefl x
      simp [List.cons_lt_cons_iff, this]
    · rw [if_neg h]
      simp [h, List.cons_lt_cons_iff]
theorem dataLe_encRow (xs ys : List (List Int)) : dataLe false (id : PyData → PyData) (encRow xs) (encRow ys) = leRow xs ys := by
  show (!dataLt (encRow ys) (encRow xs)) = _
  rw [PySem.W.dataLt_tuple]
  show (!PySem.W.rowLt (ys.map encR) (xs.map encR)) = _
  rw [rowLt_encR]
  rfl
theorem alike_encRs : ∀ xs ys : List (List Int), alikeAll (xs.map encR) (ys.map encR) = true
  | [], _ => by simp [alikeAll]
  | _ :: _, [] => by simp [alikeAll]
  | x :: xs, y :: ys => by
    show alikeAll (encR x :: xs.map encR) (encR y :: ys.map encR) = true
    rw [alikeAll, alike_encRs xs ys, alike, PySem.W.alike_ints x y]
    rfl
theorem depth_encR (r : List Int) : (encR r).depth = 1 := by
  rw [PyData.depth, PySem.W.depth_ints]
theorem depth_encRs : ∀ xs : List (List Int), PyData.depthAll (xs.map encR) ≤ 1
  | [] => by simp [PyData.depthAll]
  | x :: xs => by
    show PyData.depthAll (encR x :: xs.map encR) ≤ 1
    rw [PyData.depthAll, depth_encR]
    have := depth_encRs xs
    omega
theorem depth_encRow (r : List (List Int)) : (encRow r).depth ≤ 2 := by
  rw [PyData.depth]
  have := depth_encRs r
  omega

/-! ### what sorting gives -/
theorem paired_split {α β : Type} {R : α → β → Prop} : ∀ {l : List (α × β)}, (∀ p ∈ l, R p.1 p.2) → Paired R (l.map (·.1)) (l.map (·.2))
  | [], _ => .nil
  | p :: r, h => .cons (h p (List.mem_cons_self)) (paired_split fun q hq => h q (List.mem_cons_of_mem _ hq))
theorem paired_zip {α β : Type} {R : α → β → Prop} : ∀ {l : List α} {m : List β}, Paired R l m → ∃ z : List (α × β), z.map (·.1) = l ∧ z.map (·.2) = m ∧ ∀ p ∈ z, R p.1 p.2
  | _, _, .nil => ⟨[], rfl, rfl, fun p hp => by cases hp⟩
  | _, _, .cons (a := a) (b := b) q t => by
    obtain ⟨z, e1, e2, h⟩ := paired_zip t
    exact ⟨(a, b) :: z, by simp [e1], by simp [e2], fun p hp => (List.mem_cons.mp hp).elim (fun e => by rw [e]; exact q) (h p)⟩
/-- sorting values by data: any relation to data of one's own -/
theorem srt_any {δ : Type} {R : V → δ → Prop} {enc : δ → PyData} {le : δ → δ → Bool} (hle : ∀ a b, dataLe false (id : PyData → PyData) (enc a) (enc b) = le a b) {vs : List V} {ds : List δ} (h : Paired R vs ds) :
    ∃ bs : List VD, bs.map (·.1) = vs ∧ bs.map (·.2) = ds.map enc ∧ (∀ b ∈ bs, ∃ d ∈ ds, R b.1 d ∧ b.2 = enc d) ∧ Paired R ((srt bs).map (·.1)) (ds.mergeSort le) := by
  obtain ⟨z, e1, e2, hz⟩ := paired_zip h
  let g : V × δ → VD := fun p => (p.1, enc p.2)
  have es : srt (z.map g) = (z.mergeSort fun a b => le a.2 b.2).map g := by
    unfold srt
    rw [← List.map_mergeSort (r := fun a b => le a.2 b.2)]
    intro a _ b _
    exact (hle a.2 b.2).symm
  refine ⟨z.map g, by rw [List.map_map]; exact e1, ?_, fun b hb => ?_, ?_⟩
  · rw [List.map_map, ← e2, List.map_map]
    rfl
  · obtain ⟨p, hp, rfl⟩ := List.mem_map.mp hb
    exact ⟨p.2, by rw [← e2]; exact List.mem_map.mpr ⟨p, hp, rfl⟩, hz p hp, rfl⟩
  · rw [es, List.map_map]
    have e3 : ds.mergeSort le = (z.mergeSort fun a b => le a.2 b.2).map (·.2) := by
      rw [← e2]
      exact (List.map_mergeSort (r := fun a b : V × δ => le a.2 b.2) (s := le) (f := fun p : V × δ => p.2) (l := z) (fun a _ b _ => rfl)).symm
    rw [e3]
    exact paired_split fun p hp => hz p ((List.mergeSort_perm z _).mem_iff.mp hp)
/-- the sorted() of rooms: none of them empty -/
theorem srt_rooms {K : PySem.W.Frag} {H : Hp} {vs : List V} {rs : List (List Int)} (h : Rms H vs rs) (hne : ∀ r ∈ rs, r ≠ []) :
    ∃ bs : List VD, bs.map (·.1) = vs ∧ SrtOk K H bs ∧ Rms H ((srt bs).map (·.1)) (srtR rs) := by
  obtain ⟨bs, e1, e2, hb, hp⟩ := srt_any (enc := encR) (le := leR) dataLe_encR h
  refine ⟨bs, e1, ⟨fun b hb' => ?_, fun b hb' => ?_, ?_, .inl ?_, fun b hb' => ?_⟩, hp⟩
  · obtain ⟨d, _, q, e⟩ := hb b hb'
    rw [e]; exact q.dp
  · obtain ⟨d, _, q, e⟩ := hb b hb'
    rw [e]; exact plain_encR d
  · rw [e2]
    exact PySem.W.AllAlike.of fun a b => by rw [alike]; exact PySem.W.alike_ints a b
  · rw [e2]
    intro d hd
    obtain ⟨r, hr, rfl⟩ := List.mem_map.mp hd
    cases r with
    | nil => exact absurd rfl (hne [] hr)
    | cons x t => exact ⟨.int x, t.map .int, rfl⟩
  · obtain ⟨d, _, q, e⟩ := hb b hb'
    rw [e, depth_encR]
    decide
/-- the sorted() of rows: none of them empty -/
theorem srt_rows {K : PySem.W.Frag} {H : Hp} {vs : List V} {rs : List (List (List Int))} (h : Rws H vs rs) (hne : ∀ r ∈ rs, r ≠ []) :
    ∃ bs : List VD, bs.map (·.1) = vs ∧ SrtOk K H bs ∧ Rws H ((srt bs).map (·.1)) (srtRow rs) := by
  obtain ⟨bs, e1, e2, hb, hp⟩ := srt_any (enc := encRow) (le := leRow) dataLe_encRow h
  refine ⟨bs, e1, ⟨fun b hb' => ?_, fun b hb' => ?_, ?_, .inl ?_, fun b hb' => ?_⟩, hp⟩
  · obtain ⟨d, _, q, e⟩ := hb b hb'
    rw [e]; exact q.dp
  · obtain ⟨d, _, q, e⟩ := hb b hb'
    rw [e]; exact plain_encRow d
  · rw [e2]
    exact PySem.W.AllAlike.of fun a b => by rw [alike]; exact alike_encRs a b
  · rw [e2]
    intro d hd
    obtain ⟨r, hr, rfl⟩ := List.mem_map.mp hd
    cases r with
    | nil => exact absurd rfl (hne [] hr)
    | cons x t => exact ⟨encR x, t.map encR, rfl⟩
  · obtain ⟨d, _, q, e⟩ := hb b hb'
    rw [e]
    have := depth_encRow d
    omega
theorem paired_ints : ∀ ns : List Int, Paired (fun (v : V) (n : Int) => v = V.int n) (ns.map V.int) ns
  | [] => .nil
  | n :: r => .cons rfl (paired_ints r)
theorem of_paired_ints : ∀ {vs : List V} {ns : List Int}, Paired (fun (v : V) (n : Int) => v = V.int n) vs ns → vs = ns.map V.int
  | _, _, .nil => rfl
  | _, _, .cons q t => by rw [q, of_paired_ints t]; rfl
/-- the sorted() of ints -/
theorem srt_ints {K : PySem.W.Frag} {H : Hp} (ns : List Int) : ∃ bs : List VD, bs.map (·.1) = ns.map V.int ∧ SrtOk K H bs ∧ (srt bs).map (·.1) = (srtI ns).map V.int := by
  obtain ⟨bs, e1, e2, hb, hp⟩ := srt_any (enc := PyData.int) (le := leI) (fun a b => by
    have e := congrFun (congrFun (PySem.W.dataLe_int (fun z : Int => z)) a) b
    exact e) (paired_ints ns)
  refine ⟨bs, e1, ⟨fun b hb' => ?_, fun b hb' => ?_, ?_, .inr ?_, fun b hb' => ?_⟩, of_paired_ints hp⟩
  · obtain ⟨d, _, q, e⟩ := hb b hb'
    rw [e, q]; exact .int d
  · obtain ⟨d, _, q, e⟩ := hb b hb'
    rw [e]; exact .int d
  · rw [e2]
    exact PySem.W.AllAlike.of fun a b => by rw [alike]
  · rw [e2]
    intro d hd
    obtain ⟨r, hr, rfl⟩ := List.mem_map.mp hd
    exact ⟨by simp, fun xs => by simp⟩
  · obtain ⟨d, _, q, e⟩ := hb b hb'
    rw [e, PyData.depth]
    decide

/-! ### sorted() of a dict whose keys are rooms -/
abbrev keyR (r : List Int) : List L2.Key := r.map Sum.inl
/-- a dict from rooms to values -/
abbrev dR (es : List (List Int × V)) : HO := .dT (es.map fun e => (keyR e.1, e.2))
theorem keyR_v (r : List Int) : (keyR r).map kV = r.map V.int := by
  rw [List.map_map]
  rfl
theorem rms_of_keys {H : Hp} : ∀ {es : List (List Int × V)} {xs : List (List L2.Key × Addr × Value)}, Paired (fun (p : List L2.Key × V) (q : List L2.Key × Addr × Value) => p.1 = q.1 ∧ H q.2.1 = some (.tup (p.1.map kV)) ∧ RelV p.2 q.2.2) (es.map fun e => (keyR e.1, e.2)) xs →
    Rms H (xs.map fun x => V.ref x.2.1) (es.map (·.1))
  | [], _, r => by cases r; exact .nil
  | e :: es, xs, r => by
    have r' : Paired _ ((keyR e.1, e.2) :: es.map fun e => (keyR e.1, e.2)) xs := r
    cases r' with
    | cons q t => exact .cons ⟨_, rfl, by rw [← keyR_v]; exact q.2.1⟩ (rms_of_keys t)
section
variable {X : Cx}
theorem cr_srtD (hc : X.calm = true) (hu : X.A.units + 66 < cLine) : CallR X (.builtin "sorted") (fun vs H Q => ∃ (d : Addr) (es : List (List Int × V)), vs = [V.ref d] ∧ Rd H d (dR es) ∧ (∀ e ∈ es, e.1 ≠ []) ∧ ∀ p zs, H p = none → Rms H zs (srtR (es.map (·.1))) → Q (.ref p) (upd H p (.lst zs))) := by
  intro pins s σ H vs us Q I r h
  obtain ⟨d, es, rfl, hd, hne, q⟩ := h
  obtain ⟨u, rfl, ru⟩ := vals1 r
  cases ru
  obtain ⟨z, hs, ks, pr, o, en, ep, ho, hx, hdt, he, hn⟩ := (show ObjOk X.prog X.w H s.heap d (dR es) from hd.ok I.hok)
  have l1 : en.size = ks.length := by
    have e := congrArg List.length he
    rw [Array.length_toList, List.length_map] at e
    exact e
  have l2 : es.length = ks.length := by
    have e := Paired.length pr
    rw [List.length_map] at e
    exact e
  rw [List.length_map] at z
  refine Calls.call_function_entry PyProof.Rows.kind_sorted PyProof.Rows.plain_sorted PyProof.Rows.entry_sorted (PyProof.Rows.args_sorted1 _) ?_
  unfold Builtin.«sorted»
  refine wpAny_bind (m := checkCount "sorted" 1 1 _) (wpAny_pure ?_)
  refine wpAny_bind (PySem.W.kdu_collect (A := X.A.in1) (kdl_raw hs hx hdt) (I.ok.hd hc) ho (by omega) fun h' tk acc kp it => ?_)
  have ea : acc.toList = ks.map fun x => Value.ref x.2.1 := by
    have hl : acc.toList.length = ks.length := by rw [Array.length_toList, it.1]; exact l1
    apply List.ext_getElem?
    intro j
    rw [List.getElem?_map]
    cases hj : acc.toList[j]? with
    | none =>
      have h1 := List.getElem?_eq_none_iff.mp hj
      rw [List.getElem?_eq_none (by omega)]
      rfl
    | some v =>
      obtain ⟨e1, hen, hv⟩ := it.2 j v (by rw [← Array.getElem?_toList]; exact hj)
      have hen' : en.toList[j]? = some e1 := by rw [Array.getElem?_toList]; exact hen
      rw [he, List.getElem?_map] at hen'
      cases hb : ks[j]? with
      | none => rw [hb] at hen'; cases hen'
      | some b =>
        rw [hb] at hen'
        have e2 : entryOfKey (tupleKind (mixKind X.prog X.w)) b = e1 := Option.some.inj hen'
        rw [hv, ← e2]
        rfl
  have rm := rms_of_keys pr
  obtain ⟨bs, e1, S, hp⟩ := srt_rooms (K := X.K) rm (fun r hr => by
    obtain ⟨e, he', rfl⟩ := List.mem_map.mp hr
    exact hne e he')
  have rv : Vals (bs.map (·.1)) acc.toList := by
    rw [e1, ea]
    have go : ∀ l : List (List L2.Key × Addr × Value), Vals (l.map fun x => V.ref x.2.1) (l.map fun x => Value.ref x.2.1) := fun l => by
      induction l with
      | nil => exact .nil
      | cons a t ih => exact .cons rfl ih
    exact go ks
  have I1 : Inv X pins σ H { s with heap := h', toks := tk } := I.kept kp
  refine srt_tail (by show X.A.units + 1 + 64 < _; omega) I1 S ?_ rv fun p s' hn' I2 => ⟨_, rfl, .ref p, _, I2, rfl, q p _ hn' hp⟩
  have e3 := congrArg List.length e1
  rw [List.length_map, List.length_map] at e3
  omega
end
end NA
/-! {k: v} with a tuple for its key; enumerate of a tuple; len(set(t)). -/
namespace NA
open PySem PySem.Spec PyProof.Rows L2
section
variable {X : Cx}
/-- {k: v}, k a tuple -/
theorem pe_disp1 {k v : Expr} {tk tv : TE} {pos : Pos} (hu : X.A.units + 1 < cLine) (hk : PE X k tk) (hv : PE X v tv) :
    PE X (.Dict [some k] [v] pos) (fun σ H Q => ∀ p, H p = none → tk σ (upd H p (.dT [])) fun x H1 => tv σ H1 fun y H2 => ∃ b ky, x = .ref b ∧ H2 b = some (.tup (List.map kV ky)) ∧ H2 p = some (.dT []) ∧ Q (.ref p) (upd H2 p (.dT [(ky, y)]))) := by
  refine ⟨fun pins s σ H Q I q => ?_⟩
  have hn := I.hok.fresh (Nat.le_refl s.heap.objs.size)
  have I1 := I.laid (a := s.heap.objs.size) (o := .dT []) (h' := s.heap.push { cls := .type "dict", data := .dict #[] }) (t' := s.toks) (fun _ _ q => Heap.get?_push_of_some _ q) (Nat.le_refl _) (dt_empty s.heap I.big)
  have hshape : (evalEachOpt [some k] X.env).zip ((evalEach [v] X.env).map fun v => do let x ← v; standAt pos; pure x) = (pairTrees [some k] [v] X.env pos).map fun p => (some p.1, p.2) := rfl
  rw [arm_eval_Dict, hshape, dictDisplay_pairs (pairTrees [some k] [v] X.env pos) (by simp [pairTrees]) (by simp [pairTrees])]
  refine wpAny_bind (wpAny_standAt (wpAny_bind (wpAny_subDictH (knd := tupleKind (mixKind X.prog X.w)) (Q := fun d s' => wpAny (model X.prog X.w) X.A (pure (Value.ref d)) (EP X pins σ Q) X.xe s') (show X.A.units < cLine by omega) (by simp [pairTrees]) ?_)))
  refine pairTrees_cons_walk (thn (hk.run pins _ σ _ _ I1 (q _ hn)) fun u s1 ⟨x, H1, I2, rx, q1⟩ => thn (hv.run pins s1 σ H1 _ I2 q1) fun u2 s2 ⟨y, H2, I3, ry, q2⟩ => pairTrees_nil_walk ?_)
  obtain ⟨b, ky, rfl, hb, hp, hQ⟩ := q2
  cases rx
  obtain ⟨z, hd, xs, rel, dd⟩ := dt_of I3.hok hp
  cases rel
  refine ⟨[(ky, b, u2)], ⟨rfl, rfl, key_of I3.hok hb, trivial⟩, dd, fun h' tk dd' hs => wpAny_pure ?_⟩
  have e1 : storedAllH ([] : List (List L2.Key × Addr × Value)) [(ky, b, u2)] = [(ky, b, u2)] := rfl
  rw [e1] at dd'
  obtain ⟨o, es, ep, ho, h2, h3, h4, _, h5⟩ := dd'
  refine ⟨.ref s.heap.objs.size, _, d_write (ob := .dT [(ky, y)]) (t' := tk) I3 (by rw [hp]; exact True.intro) hs ⟨o, ho⟩ ⟨by show 1 ≤ sizeLine; decide, hd, [(ky, b, u2)], .cons ⟨rfl, ?_, ry⟩ .nil, o, es, ep, ho, h2, h3, h4, h5⟩, rfl, hQ⟩
  rw [upd_ne (ne_of hb hp (fun z => nomatch z))]
  exact hb
/-- len(set(t)), a tuple of different ints -/
theorem pe_lenSetT {a : Expr} {ta : TE} {p p2 q pos : Pos} (hg : Gl X "len") (hm : X.mg "len" = none) (hg2 : Gl X "set") (hm2 : X.mg "set" = none) (ha : PE X a ta) (hc : X.calm = true := by rfl)
    (na : starEach [a] X.env = (false, eval a X.env) :: starEach [] X.env := by rfl) : PE X (.Call (.Name "len" p) [.Call (.Name "set" p2) [a] [] q] [] pos)
      (fun σ H Q => ta σ H fun x H1 => ∃ (l : Addr) (ns : List Int), x = .ref l ∧ SqT X.K H1 l (ns.map V.int) ∧ ns.Nodup ∧ ns.length ≤ 4000 ∧ Q (.int (ns.length : Nat)) H1) := by
  refine ⟨fun pins s σ H Q I h => ?_⟩
  refine Call_ (ld_blt I hg hm boot_len ?_)
  refine PyProof.Rows.callWith_builtin1 (PyProof.Rows.args_cons ?_ rfl) rfl rfl
  refine Call_ (ld_blt I hg2 hm2 boot_set ?_)
  refine PyProof.Rows.callWith_type1 (PyProof.Rows.args_cons (thn (ha.run pins s σ H _ I h) fun v s1 ⟨x, H1, I1, r1, q1⟩ => PyProof.Rows.args_nil ?_) na) na rfl
  obtain ⟨l, ns, rfl, hq, hnd, hl, q1⟩ := q1
  cases r1
  obtain ⟨its, r, pl, hz⟩ := I1.tuple hq
  refine call_set_tupI ns (I1.ok.hd hc) (show s1.heap.IsTuple l its.toArray from pl) (by simpa using ints_of_vals r) (by unfold scanBound; omega) fun h' tk c R1 hcn hk => ?_
  refine PyProof.Rows.args_nil ?_
  obtain ⟨o, es, ep, t, ho, hex, hd, g, nd, hm2, hb, hf, hn, _⟩ := R1
  have I2 : Inv X pins σ H1 { s1 with heap := h', toks := tk } := I1.kept hk
  have e1 : (es.toList.map keyOf).length = ns.length := by
    refine (List.Perm.length_eq ?_)
    refine (List.perm_ext_iff_of_nodup nd hnd).mpr fun k => ?_
    rw [← hm2 k]
    exact decide_eq_true_iff
  have e2 : es.size = ns.length := by
    rw [← e1, List.length_map, Array.length_toList]
  exact call_len_set ho hex hd hf (by rw [e2]; omega) ⟨.int ns.length, H1, I2.tok _, ⟨_, by rw [e2]⟩, q1⟩
/-! ### enumerate(tuple) -/
set_option maxHeartbeats 1000000 in
theorem meets_enum1 {v : Value} {o : Obj} {H : Heap → Prop} (B : Begins v o H) :
    Meets (Builtin.«enumerate.__new__» ⟨[.type "enumerate", v], []⟩) (fun _ R s => H s.heap ∧
      R (.ok (.ret (.ref (s.heap.push o).objs.size))) { s with heap := (s.heap.push o).push { cls := .type "enumerate", data := .fields #[.none, .bool false, .ref s.heap.objs.size, rawInt 0, .none, .none] } }) :=
  .of_wp fun prog w A R s h => by
    obtain ⟨hp, g, d, tk, os⟩ := s; obtain ⟨h1, h⟩ := h
    have hsub := sub_enumerate
    have q1 : ∀ {A' : Around} {E : Value → Shared → Prop} {Q : Value → Shared → Prop}, Q (.ref hp.objs.size) ⟨hp.push o, g, d, tk, os⟩ → wpAny (model prog w) A' (pyIter v) Q E ⟨hp, g, d, tk, os⟩ :=
      fun q => B.iter prog w _ _ ⟨hp, g, d, tk, os⟩ _ h1 q
    wp_walk using q1
    refine wpAny_stack_any fun st => wpAny_pure ?_
    split
    · rename_i c _ _ _ _ _
      cases (c == Value.type "enumerate")
      · wp_walk using q1
        exact ⟨_, rfl, h⟩
      · wp_walk using q1
        exact ⟨_, rfl, h⟩
    · wp_walk using q1
      exact ⟨_, rfl, h⟩
section
variable {prog : Program} {w : World} {A : Around} {E : Value → Shared → Prop} {s : Shared}
theorem enum_begins1 {v : Value} {o : Obj} {H : Heap → Prop} {Q : Value → Shared → Prop} (B : Begins v o H) (h1 : H s.heap)
    (h : ∀ h', IsEnum h' (s.heap.objs.size + 1) s.heap.objs.size 0 .none → h'.get? s.heap.objs.size = some o → h'.objs.size = s.heap.objs.size + 2 →
      (∀ b o, s.heap.get? b = some o → h'.get? b = some o) → Q (.ref (s.heap.objs.size + 1)) { s with heap := h' }) :
    wpAny (model prog w) A (call (.type "enumerate") [v]) Q E s := by
  refine callType_new F.called_enumerate (by decide) (F.typeCall_enumerate_1 _) (F.newCall_enumerate_1 _) (fun obj => F.args_object_init_2 obj _) F.entry_enumerate_new
    (meets_enum1 B) ⟨h1, ?_⟩
  have hz : (s.heap.push o).objs.size = s.heap.objs.size + 1 := Heap.size_push ..
  show _ ∧ _
  rw [hz]
  have he : IsEnum ((s.heap.push o).push { cls := .type "enumerate", data := .fields #[.none, .bool false, .ref s.heap.objs.size, rawInt 0, .none, .none] }) (s.heap.objs.size + 1) s.heap.objs.size 0 .none := by
    have := Heap.get?_push_size (s.heap.push o) (o := { cls := .type "enumerate", data := .fields #[.none, .bool false, .ref s.heap.objs.size, rawInt 0, .none, .none] }) rfl
    rw [hz] at this; exact this
  refine ⟨⟨_, he, rfl⟩, h _ he (Heap.get?_push_of_some _ (Heap.get?_push_size _ B.free)) (by rw [Heap.size_push, hz]) fun b o x => Heap.get?_push_of_some _ (Heap.get?_push_of_some _ x)⟩
end
/-- the tuple at a, each item in a new pair -/
def IteT (K : PySem.W.Frag) (a : Addr) : It :=
  ⟨fun i H => ∃ (xs : List V) (x : V), SqT K H a xs ∧ xs[i]? = some x, fun i H v H' => ∃ T x, v = .ref T ∧ H T = none ∧ H' = upd H T (.tup [.int (i : Nat), x]) ∧ ∀ xs, SqT K H a xs → xs[i]? = some x, fun i H => ∃ xs : List V, SqT K H a xs ∧ xs.length ≤ i⟩
theorem turn_enumT {P : Program} {w : World} {K : PySem.W.Frag} {elts : List Expr} {kk : Nat} {tpos : Pos} (a e it : Addr) (hei : e ≠ it) (hea : e ≠ a) (hai : a ≠ it) :
    Turn P w K (.Tuple elts kk tpos) (IteT K a) [e, it] e (fun i h => (∃ old, IsEnum h e it ((i : Nat) : Int) old) ∧ h.IsTupleIter it a i) where
  mem := by simp
  obj := fun i h st b hb => by
    obtain ⟨⟨old, he⟩, ⟨o, ho, hc, hd⟩⟩ := st
    have e' : b = e ∨ b = it := by simpa using hb
    rcases e' with z | z
    · rw [z]; exact ⟨_, he, fun v q => nomatch q⟩
    · rw [z]; exact ⟨o, ho, fun v q => by rw [hd] at q; cases q⟩
  keep := fun i h h' st k => let ⟨⟨old, he⟩, hi⟩ := st; ⟨⟨old, k e (by simp) _ he⟩, hi.at fun o q => k it (by simp) o q⟩
  item := by
    intro X hP hw hK hc i pins s σ H E I hf st hg
    subst hP hw hK
    obtain ⟨⟨old, he⟩, hit⟩ := st
    obtain ⟨xs, x, hq, hx⟩ := hg
    obtain ⟨its, rv, p, hz⟩ := I.tuple hq
    obtain ⟨u, hu, ru⟩ := rv.get hx
    have hel : e < s.heap.objs.size := Heap.lt_size he
    have hil : it < s.heap.objs.size := by obtain ⟨_, q, _⟩ := hit; exact Heap.lt_size q
    have hlt : i < its.toArray.size := by
      obtain ⟨q, _⟩ := List.getElem?_eq_some_iff.mp hu
      simpa using q
    refine wpAny_pyNext_enum_itemD (Draws.tuple (A := X.A.in1) (I.ok.hd hc) it a hai its.toArray) he ⟨hit, show s.heap.IsTuple a its.toArray from p⟩ hlt hei (by simp [hei, hea]) fun x' h' tk hx' ho st' hT hsz hk => ?_
    obtain ⟨hit', _⟩ := st'
    obtain rfl : x' = u := by
      have : its.toArray[i]? = some u := by simpa using hu
      rw [this] at hx'
      exact (Option.some.inj hx').symm
    refine ⟨_, rfl, wpAny_letOwnedTupleGo_enum (s := { s with heap := h', toks := tk + 1 }) ho fun h'' he' sb => ?_⟩
    have hT2 : h''.get? s.heap.objs.size = some { cls := .type "tuple", data := .seq #[.int i tk, x'] } := (sb.2 _ (Nat.ne_of_gt hel)).trans hT
    have new : ObjOk X.prog X.w (upd H s.heap.objs.size (.tup [.int (i : Nat), x])) h'' s.heap.objs.size (.tup [.int (i : Nat), x]) :=
      ⟨by show 2 ≤ sizeLine; decide, [.int i tk, x'], .cons ⟨_, rfl⟩ (.cons ru .nil), ⟨_, hT2, rfl, _, rfl⟩⟩
    have I1 : Inv X pins σ (upd H s.heap.objs.size (.tup [.int (i : Nat), x])) { s with heap := h'', toks := tk + 1 } :=
      I.turnedNew (ch := [e, it]) (fun b ob hb q => (sb.2 b (fun z => hb (by simp [z]))).trans (hk b ob (fun z => hb (by simp [z])) (fun z => hb (by simp [z])) q)) hf (Nat.le_refl _) new
    refine ⟨.ref s.heap.objs.size, _, I1, rfl, ⟨_, x, rfl, I.hok.fresh (Nat.le_refl _), rfl, fun ys hy => by rw [I.tuple_inj hy hq]; exact hx⟩, ⟨⟨x', ?_⟩, hit'.at fun o q => (sb.2 it (Ne.symm hei)).trans q⟩, fun b hb => ?_⟩
    · have e1 : ((i + 1 : Nat) : Int) = (i : Int) + 1 := by omega
      rw [e1]; exact he'
    · have hb' : b < s.heap.objs.size := by
        have e' : b = e ∨ b = it := by simpa using hb
        rcases e' with z | z
        · rw [z]; exact hel
        · rw [z]; exact hil
      rw [upd_ne (Nat.ne_of_lt hb')]
      exact (hf b hb).1
  done := by
    intro X hP hw hK hc i pins s σ H E I hf st hg
    subst hP hw hK
    obtain ⟨⟨old, he⟩, hit⟩ := st
    obtain ⟨xs, hq, hx⟩ := hg
    obtain ⟨its, rv, p, hz⟩ := I.tuple hq
    obtain ⟨f0, f1, f2, f3, f4, f5⟩ := hf it (by simp)
    have hl := rv.length
    have hT : s.TypeIs (.ref e) "enumerate" := ⟨_, he, rfl⟩
    unfold pyNext
    refine wpAny_bind (wpAny_attempt (wpAny_callSpecial?_slot (name := Str.ofString "__next__") hT F.slot_enumerate_next
      (wpAny_call_entry F.slot_enumerate_next hT F.entry_enumerate_next ?_ (F.args_enumerate_next_1 _))))
    show wpAny _ _ (field (.ref e) 2 >>= _) _ _ _
    refine wpAny_bind (wpAny_field he rfl (x := .ref it) rfl ?_)
    refine wpAny_bind (wpAny_nextOf_tuple_end (I.ok.hd hc) hit (show s.heap.IsTuple a its.toArray from p) (by simp; omega) fun h' x he' hx' => ?_)
    obtain ⟨o, ho, hcl⟩ := hx'
    refine wpAny_bind (wpAny_isInstance (T := "StopIteration") (b := true) ⟨o, ho, hcl⟩ isSubtype_stop ?_)
    exact wpAny_pure ⟨rfl, I.turned (t' := s.toks) (fun b o hb q => he' b o hb q) f0 f1 f3 f4 f5⟩
  self := fun A i s Q E st h => let ⟨⟨_, he⟩, _⟩ := st; wpAny_pyIter_enum he h
def iEnumT (K : PySem.W.Frag) (ta : TA) : TI := fun σ H R => ta σ H fun vs H1 => ∃ a xs, vs = [.ref a] ∧ SqT K H1 a xs ∧ R (IteT K a) H1
theorem pi_enumT {e : Expr} {ta : TA} {p pos tpos : Pos} {elts : List Expr} {kk : Nat} (hg : Gl X "enumerate") (hm : X.mg "enumerate" = none) (ha : PA X [e] ta) (hs : starEach [e] X.env = [(false, eval e X.env)] := by rfl) :
    PI X (.Tuple elts kk tpos) (.Call (.Name "enumerate" p) [e] [] pos) (iEnumT X.K ta) := by
  refine ⟨fun pins s σ H R I h => ?_⟩
  refine Call_ (ld_blt I hg hm boot_enumerate (PyProof.Rows.callWith_type1 (thn (ha.run pos pins s σ H _ I h) fun us s1 ⟨vs, H1, I1, r1, q1⟩ => ?_) hs rfl))
  obtain ⟨a, xs, ex, hq, q⟩ := q1
  subst ex
  cases r1 with
  | cons r rr =>
    cases rr
    cases r
    obtain ⟨its, rv, p', hz⟩ := I1.tuple hq
    have p2 : s1.heap.IsTuple a its.toArray := p'
    have hla : a < s1.heap.objs.size := by
      obtain ⟨o, ho, _⟩ := p2
      exact Heap.lt_size ho
    have n1 : s1.heap.objs.size + 1 ≠ a := Nat.ne_of_gt (Nat.lt_succ_of_lt hla)
    have n2 : a ≠ s1.heap.objs.size := Nat.ne_of_lt hla
    refine enum_begins1 (begins_tuple a its.toArray) p2 fun h' he hit hsz hk => wpAny_pyIter_enum he ?_
    have I2 : Inv X pins σ H1 { s1 with heap := h' } := I1.kept (t' := s1.toks) hk
    refine ⟨s1.heap.objs.size + 1, [s1.heap.objs.size + 1, s1.heap.objs.size], _, _, H1, rfl, I2, turn_enumT a (s1.heap.objs.size + 1) s1.heap.objs.size (Nat.succ_ne_self _) n1 n2, ⟨⟨.none, he⟩, ⟨_, hit, rfl, rfl⟩⟩, fun b hb => ?_, q⟩
    have e' : b = s1.heap.objs.size + 1 ∨ b = s1.heap.objs.size := by simpa using hb
    have hle : s1.heap.objs.size ≤ b := by
      rcases e' with z | z
      · rw [z]; exact Nat.le_add_right _ _
      · rw [z]; exact Nat.le_refl _
    exact I1.fpOk hle (I1.hok.fresh hle)
end
end NA
/-! The data: rooms, lists and tuples of them, dicts from rooms. -/
namespace NA
open PySem PySem.Spec PyProof.Rows L2

/-! ### tables: rooms to anything -/
section
variable {β : Type}
def getA (es : List (List Int × β)) (k : List Int) : Option β := (es.find? fun e => decide (e.1 = k)).map (·.2)
def putA (es : List (List Int × β)) (k : List Int) (v : β) : List (List Int × β) :=
  if (es.any fun e => decide (e.1 = k)) = true then es.map (fun e => if e.1 = k then (e.1, v) else e) else es ++ [(k, v)]
theorem keyR_inj {r q : List Int} (h : keyR r = keyR q) : r = q := by
  have : ∀ {r q : List Int}, r.map (Sum.inl : Int → L2.Key) = q.map Sum.inl → r = q := by
    intro r
    induction r with
    | nil => intro q h; cases q with
      | nil => rfl
      | cons a t => cases h
    | cons a t ih => intro q h; cases q with
      | nil => cases h
      | cons b u =>
        rw [List.map_cons, List.map_cons] at h
        injection h with h1 h2
        injection h1 with h1
        rw [h1, ih h2]
  exact this h
abbrev encA (f : β → V) (es : List (List Int × β)) : List (List L2.Key × V) := es.map fun e => (keyR e.1, f e.2)
theorem valV_enc (f : β → V) (k : List Int) : ∀ es : List (List Int × β), valV (encA f es) (keyR k) = (getA es k).map f
  | [] => rfl
  | e :: r => by
    have ih := valV_enc f k r
    by_cases h : e.1 = k
    · have h1 : valV (encA f (e :: r)) (keyR k) = some (f e.2) := valV_pos (show keyR e.1 = keyR k by rw [h])
      have h2 : getA (e :: r) k = some e.2 := by unfold getA; rw [List.find?_cons, decide_eq_true h] <;> rfl
      rw [h1, h2] <;> rfl
    · have h1 : valV (encA f (e :: r)) (keyR k) = valV (encA f r) (keyR k) := valV_neg fun z => h (keyR_inj z)
      have h2 : getA (e :: r) k = getA r k := by unfold getA; rw [List.find?_cons, decide_eq_false h]
      rw [h1, h2, ih]
theorem putK_enc (f : β → V) (es : List (List Int × β)) (k : List Int) (v : β) : putK (encA f es) (keyR k) (f v) = encA f (putA es k v) := by
  have ha : ((encA f es).any fun kv => decide (kv.1 = keyR k)) = (es.any fun e => decide (e.1 = k)) := by
    rw [List.any_map]
    congr 1
    funext e
    show decide (keyR e.1 = keyR k) = decide (e.1 = k)
    by_cases h : e.1 = k
    · rw [decide_eq_true h, decide_eq_true (by rw [h])]
    · rw [decide_eq_false h, decide_eq_false fun z => h (keyR_inj z)]
  unfold putK putA
  rw [ha]
  by_cases h : (es.any fun e => decide (e.1 = k)) = true
  · rw [if_pos h, if_pos h]
    unfold encA
    rw [List.map_map, List.map_map]
    congr 1
    funext e
    show (if keyR e.1 = keyR k then (keyR e.1, f v) else (keyR e.1, f e.2)) = (keyR (if e.1 = k then (e.1, v) else e).1, f (if e.1 = k then (e.1, v) else e).2)
    by_cases h : e.1 = k
    · rw [if_pos h, if_pos (by rw [h])]
    · rw [if_neg h, if_neg fun z => h (keyR_inj z)]
  · rw [if_neg h, if_neg h]
    unfold encA
    rw [List.map_append] <;> rfl
theorem encA_length (f : β → V) (es : List (List Int × β)) : (encA f es).length = es.length := List.length_map _
theorem putA_len (es : List (List Int × β)) (k : List Int) (v : β) : (putA es k v).length ≤ es.length + 1 := by
  unfold putA
  split
  · rw [List.length_map]; omega
  · rw [List.length_append]; exact Nat.le_refl _
theorem dR_enc (f : β → V) (es : List (List Int × β)) : dR (es.map fun e => (e.1, f e.2)) = .dT (encA f es) := by
  unfold dR encA
  rw [List.map_map] <;> rfl
end

/-! ### what stands where -/
section
/-- a list of rooms -/
def RmL (H : Hp) (v : V) (rs : List (List Int)) : Prop := ∃ a xs, v = .ref a ∧ H a = some (.lst xs) ∧ Rms H xs rs
/-- a list of ints -/
def InL (H : Hp) (v : V) (ns : List Int) : Prop := ∃ a, v = .ref a ∧ H a = some (.lst (ns.map V.int))
/-- a dict from rooms to ints -/
def DcI (H : Hp) (v : V) (es : List (List Int × Int)) : Prop := ∃ d, v = .ref d ∧ H d = some (.dT (encA V.int es))
/-- a list of rows (tuples of rooms); also: books as tuples of rooms -/
def RwL (H : Hp) (v : V) (rows : List (List (List Int))) : Prop := ∃ a xs, v = .ref a ∧ H a = some (.lst xs) ∧ Rws H xs rows
/-- a list of lists of rooms: books as lists -/
def BkL (H : Hp) (v : V) (bs : List (List (List Int))) : Prop := ∃ a xs, v = .ref a ∧ H a = some (.lst xs) ∧ Paired (RmL H) xs bs
theorem RmL.same {H H' : Hp} (s : Same H H') {v : V} {rs : List (List Int)} (h : RmL H v rs) : RmL H' v rs := let ⟨a, xs, e, h, q⟩ := h; ⟨a, xs, e, s _ _ h, Rms.same s q⟩
theorem InL.same {H H' : Hp} (s : Same H H') {v : V} {ns : List Int} (h : InL H v ns) : InL H' v ns := let ⟨a, e, h⟩ := h; ⟨a, e, s _ _ h⟩
theorem DcI.same {H H' : Hp} (s : Same H H') {v : V} {es : List (List Int × Int)} (h : DcI H v es) : DcI H' v es := let ⟨a, e, h⟩ := h; ⟨a, e, s _ _ h⟩
theorem RwL.same {H H' : Hp} (s : Same H H') {v : V} {rows : List (List (List Int))} (h : RwL H v rows) : RwL H' v rows := let ⟨a, xs, e, h, q⟩ := h; ⟨a, xs, e, s _ _ h, Rws.same s q⟩
theorem BkL.same {H H' : Hp} (s : Same H H') {v : V} {bs : List (List (List Int))} (h : BkL H v bs) : BkL H' v bs := let ⟨a, xs, e, h, q⟩ := h; ⟨a, xs, e, s _ _ h, Paired.mono' (fun _ _ z => z.same s) q⟩
theorem Same.new {H : Hp} {p : Addr} {o : HO} (h : H p = none) : Same H (upd H p o) := fun b u e => by
  rw [upd_ne (ne_of_none e h)]
  exact e
/-- an object that H does not know may change -/
theorem Same.mut {H H' : Hp} {p : Addr} {o : HO} (e : Same H H') (h : H p = none) : Same H (upd H' p o) := fun a u ha => by
  rw [upd_ne (ne_of_none ha h)]
  exact e a u ha
theorem SqL.mk {K : PySem.W.Frag} {H : Hp} {a : Addr} {xs : List V} (h : H a = some (.lst xs)) : SqL K H a xs := Or.inl (Or.inl h)
theorem SqT.mk {K : PySem.W.Frag} {H : Hp} {a : Addr} {xs : List V} (h : H a = some (.tup xs)) : SqT K H a xs := Or.inl (Or.inl h)
theorem paired_get {α β : Type} {R : α → β → Prop} : ∀ {l : List α} {m : List β}, Paired R l m → ∀ {i : Nat} {x : α}, l[i]? = some x → ∃ y, m[i]? = some y ∧ R x y
  | _, _, .nil, i, x, h => by cases h
  | _, _, .cons h t, 0, x, e => by
    cases e
    exact ⟨_, rfl, h⟩
  | _, _, .cons h t, i + 1, x, e => paired_get t (i := i) e
theorem paired_get' {α β : Type} {R : α → β → Prop} : ∀ {l : List α} {m : List β}, Paired R l m → ∀ {i : Nat} {y : β}, m[i]? = some y → ∃ x, l[i]? = some x ∧ R x y
  | _, _, .nil, i, x, h => by cases h
  | _, _, .cons h t, 0, x, e => by
    cases e
    exact ⟨_, rfl, h⟩
  | _, _, .cons h t, i + 1, x, e => paired_get' t (i := i) e
theorem paired_len {α β : Type} {R : α → β → Prop} : ∀ {l : List α} {m : List β}, Paired R l m → l.length = m.length
  | _, _, .nil => rfl
  | _, _, .cons _ t => by rw [List.length_cons, List.length_cons, paired_len t]
theorem paired_app {α β : Type} {R : α → β → Prop} : ∀ {l : List α} {m : List β}, Paired R l m → ∀ {l' : List α} {m' : List β}, Paired R l' m' → Paired R (l ++ l') (m ++ m')
  | _, _, .nil, _, _, h => h
  | _, _, .cons h t, _, _, h' => .cons h (paired_app t h')
theorem paired_snoc {α β : Type} {R : α → β → Prop} {l : List α} {m : List β} {x : α} {y : β} (h : Paired R l m) (hx : R x y) : Paired R (l ++ [x]) (m ++ [y]) := paired_app h (.cons hx .nil)
theorem ints_get {ns : List Int} {i : Nat} {x : V} (h : (ns.map V.int)[i]? = some x) : ∃ n, ns[i]? = some n ∧ x = .int n := by
  rw [List.getElem?_map] at h
  cases e : ns[i]? with
  | none => rw [e] at h; cases h
  | some n => rw [e] at h; exact ⟨n, rfl, (Option.some.inj h).symm⟩
theorem take_snoc {α : Type} {l : List α} {i : Nat} {x : α} (h : l[i]? = some x) : l.take (i + 1) = l.take i ++ [x] := by
  rw [List.take_succ, h]; rfl
theorem flat_ints (ns : List Int) : (ns.map V.int).all flatV = true := by
  rw [List.all_eq_true]
  intro x hx
  obtain ⟨n, _, rfl⟩ := List.mem_map.mp hx
  rfl
theorem inV_ints (n : Int) (ns : List Int) : inV (.int n) (ns.map V.int) = decide (n ∈ ns) := by
  unfold inV
  rw [List.any_map]
  induction ns with
  | nil => rfl
  | cons a t ih =>
    rw [List.any_cons, ih]
    show ((a == n) || decide (n ∈ t)) = decide (n ∈ a :: t)
    by_cases h : a = n
    · subst h
      simp
    · have h2 : (a == n) = false := by simpa using h
      rw [h2, Bool.false_or]
      have : (n ∈ a :: t) ↔ n ∈ t := by
        rw [List.mem_cons]
        exact ⟨fun z => z.elim (fun q => absurd q.symm h) id, .inr⟩
      by_cases hm : n ∈ t
      · rw [decide_eq_true hm, decide_eq_true (this.mpr hm)]
      · rw [decide_eq_false hm, decide_eq_false fun z => hm (this.mp z)]
theorem small_n {n : Nat} (h : n ≤ 100000) : n ≤ sizeLine := Nat.le_trans h (by decide)
theorem small_l {n : Nat} (h : n < 100000) : n < sizeLine := Nat.lt_of_lt_of_le h (by decide)
end

/-! ### slices and sums of tuples -/
section
variable {K : PySem.W.Frag} {H : Hp} {a b : Addr} {xs ys : List V} {Q : VK}
theorem rd_slL (h : H a = some (.tup xs)) (k : Nat) (hk : k ≤ xs.length) (q : ∀ p H', Same H H' → H' p = some (.tup (xs.take k)) → Q (.ref p) H') : rSlA K (.ref a) none (some (k : Int)) H Q := by
  refine ⟨a, xs, rfl, SqT.mk h, fun w => ?_, fun _ p hp => q p _ (Same.new hp) ?_⟩
  · have e : k = xs.length := by
      have := w.2
      rw [HT.sIx_nat] at this
      omega
    refine q a H (Same.refl H) ?_
    rw [e, List.take_length]
    exact h
  · rw [upd_same]
    unfold cutV
    rw [HT.sIx_none, HT.sIx_nat, Nat.min_eq_left hk] <;> rfl
theorem rd_slR (h : H a = some (.tup xs)) (k : Nat) (hk : k ≤ xs.length) (q : ∀ p H', Same H H' → H' p = some (.tup (xs.drop k)) → Q (.ref p) H') : rSlA K (.ref a) (some (k : Int)) none H Q := by
  refine ⟨a, xs, rfl, SqT.mk h, fun w => ?_, fun _ p hp => q p _ (Same.new hp) ?_⟩
  · have e : k = 0 := by
      have := w.1
      rw [HT.sIx_nat] at this
      omega
    refine q a H (Same.refl H) ?_
    rw [e, List.drop_zero]
    exact h
  · rw [upd_same]
    unfold cutV
    rw [HT.sIx_none, HT.sIx_nat, Nat.min_eq_left hk, List.take_of_length_le (by rw [List.length_drop]; omega)]
theorem rd_cat (ha : H a = some (.tup xs)) (hb : H b = some (.tup ys)) (hz : xs.length + ys.length ≤ sizeLine) (q : ∀ p H', Same H H' → H' p = some (.tup (xs ++ ys)) → Q (.ref p) H') : rCatA K (.ref a) (.ref b) H Q := by
  refine ⟨a, b, xs, ys, rfl, rfl, SqT.mk ha, SqT.mk hb, hz, fun e => ?_, fun _ e => ?_, fun _ _ p hp => q p _ (Same.new hp) upd_same⟩
  · refine q b H (Same.refl H) ?_
    rw [e]
    exact hb
  · refine q a H (Same.refl H) ?_
    rw [e, List.append_nil]
    exact ha
end
theorem noPart {σ : L2.St} {H : Hp} {Q : Option Int → Hp → Prop} (h : Q none H) : tNoPart σ H Q := h
/-! ### dicts from rooms -/
section
variable {β : Type} {f : β → V} {H : Hp} {a : Addr} {v : V} {r : List Int} {es : List (List Int × β)}
theorem dget_rd (h : Rd H a (.dT (encA f es))) (hv : Rm H v r) : DGet H a v ((getA es r).map f) := by
  obtain ⟨b, rfl, hb⟩ := hv
  exact .inr ⟨_, keyR r, b, h, rfl, by rw [keyR_v]; exact hb, (valV_enc f r es).symm⟩
theorem dget_r (h : H a = some (.dT (encA f es))) (hv : Rm H v r) : DGet H a v ((getA es r).map f) := dget_rd (.inl h) hv
theorem dput_r (h : H a = some (.dT (encA f es))) (hv : Rm H v r) (hl : es.length < sizeLine) (x : β) : DPut H a v (f x) (upd H a (.dT (encA f (putA es r x)))) := by
  obtain ⟨b, rfl, hb⟩ := hv
  exact .inr ⟨_, keyR r, b, h, rfl, by rw [keyR_v]; exact hb, by rw [encA_length]; exact hl, by rw [putK_enc]⟩
theorem isD_r (h : Rd H a (.dT (encA f es))) : IsD H a := .inr ⟨_, h⟩
theorem getD_int {es : List (List Int × Int)} {k : List Int} (d : Int) : ((getA es k).map V.int).getD (.int d) = .int ((getA es k).getD d) := by
  cases getA es k <;> rfl
theorem lock_same {H H' : Hp} {d : Addr} {u f : HO} (hd : H d = some u) (s : Same (upd H d f) H') : Same H (upd H' d u) := fun b o e => by
  by_cases h : b = d
  · rw [h] at e ⊢
    rw [upd_same, ← hd, e]
  · rw [upd_ne h]
    exact s b o (by rw [upd_ne h]; exact e)
theorem lock_start {H : Hp} {d l : Addr} {f o : HO} (hl : H l = none) : Same (upd H d f) (upd (upd H l o) d f) := fun b x e => by
  by_cases h : b = d
  · rw [h] at e ⊢
    rw [upd_same] at e ⊢
    exact e
  · rw [upd_ne h] at e ⊢
    rw [upd_ne (ne_of_none e hl)]
    exact e
theorem enc_at {β : Type} {f : β → V} {es : List (List Int × β)} {i : Nat} {k : List L2.Key} {v : V} (h : (encA f es)[i]? = some (k, v)) : ∃ e, es[i]? = some e ∧ k = keyR e.1 ∧ v = f e.2 := by
  rw [List.getElem?_map] at h
  cases e : es[i]? with
  | none => rw [e] at h; cases h
  | some x =>
    rw [e] at h
    injection h with h
    injection h with h1 h2
    exact ⟨x, rfl, h1.symm, h2.symm⟩
theorem foldl_snoc {α γ : Type} {l : List α} {i : Nat} {x : α} (h : l[i]? = some x) (f : γ → α → γ) (a : γ) : (l.take (i + 1)).foldl f a = f ((l.take i).foldl f a) x := by
  rw [take_snoc h, List.foldl_append] <;> rfl
end
theorem getA_mem {β : Type} : ∀ {es : List (List Int × β)} {e : List Int × β}, (es.map (·.1)).Nodup → e ∈ es → getA es e.1 = some e.2
  | [], e, _, h => by cases h
  | x :: es, e, nd, h => by
    rw [List.map_cons, List.nodup_cons] at nd
    rcases List.mem_cons.mp h with h | h
    · subst h
      unfold getA
      rw [List.find?_cons, decide_eq_true rfl] <;> rfl
    · have hne : ¬ x.1 = e.1 := fun z => nd.1 (z ▸ List.mem_map_of_mem h)
      have ih := getA_mem nd.2 h
      unfold getA at ih ⊢
      rw [List.find?_cons, decide_eq_false hne]
      exact ih
/-! ### mirrors -/
/-- all rooms less one place -/
def faces (r : List Int) : List (List Int) := (List.range r.length).map r.eraseIdx
/-- no place in common -/
def disj (c r : List Int) : Bool := r.all fun p => decide (p ∉ c)
def uni (c r : List Int) : List Int := srtI (c ++ r)
abbrev Ways := List (List Int × Int)
def getD (w : Ways) (k : List Int) : Int := (getA w k).getD 0
/-- one room more -/
def extR (n : Int) (c : List Int) (w : Ways) (r : List Int) : Ways := if disj c r = true then putA w (uni c r) (getD w (uni c r) + n) else w
def extC (b : List (List Int)) (w : Ways) (cn : List Int × Int) : Ways := b.foldl (extR cn.2 cn.1) w
def ext (ways : Ways) (b : List (List Int)) : Ways := ways.foldl (extC b) []
def one0 : Ways := [([], 1)]
/-- tails of a list of books -/
def tailsW : List (List (List Int)) → List Ways
  | [] => [one0]
  | b :: bs => match tailsW bs with
    | [] => []
    | t :: ts => ext t b :: t :: ts
def countC (places : Nat) : List (List (List Int)) → Int
  | [] => 0
  | b :: bs => match tailsW bs with
    | [] => 0
    | t :: _ => (b.map fun r => getD t (((List.range places).map Int.ofNat).filter fun p => decide (p ∉ r))).sum
def parts : List (List (List Int)) → List Int → List (List (List Int))
  | [], _ => [[]]
  | b :: bs, met => b.flatMap fun r => if disj met r = true then (parts bs (met ++ r)).map (r :: ·) else []
def walkC : List (List (List Int) × Ways) → List Int → List (List (List Int))
  | [], _ => []
  | (b, t) :: bs, left => b.flatMap fun r =>
    let rest := left.filter fun p => decide (p ∉ r)
    if (getA t rest).isSome = true then (if bs.isEmpty then [[r]] else (walkC bs rest).map (r :: ·)) else []
end NA
/-! A comprehension that builds a list of things, by the things. -/
namespace NA
open PySem PySem.Spec PyProof.Rows L2
/-- what stays true when a heap grows, and when a list at D is written -/
structure Stab {δ : Type} (D : Addr) (R : Hp → V → δ → Prop) : Prop where
  up : ∀ {H H' : Hp} {v : V} {d : δ}, Same H H' → R H v d → R H' v d
  wr : ∀ {H : Hp} {v : V} {d : δ} {xs ys : List V}, H D = some (.lst xs) → R H v d → R (upd H D (.lst ys)) v d
theorem stab_rm (D : Addr) : Stab D Rm := ⟨fun s h => h.same s, fun {H v d xs ys} hD h => by
  obtain ⟨t, e, h⟩ := h
  refine ⟨t, e, ?_⟩
  rw [upd_ne (fun z => by rw [z, hD] at h; cases h)]
  exact h⟩
theorem Stab.paired {δ : Type} {D : Addr} {R : Hp → V → δ → Prop} (S : Stab D R) {H : Hp} {xs ys : List V} (hD : H D = some (.lst xs)) {l : List V} {m : List δ} (h : Paired (R H) l m) : Paired (R (upd H D (.lst ys))) l m := Paired.mono' (fun _ _ z => S.wr hD z) h
theorem stab_rw (D : Addr) : Stab D Rw := ⟨fun s h => h.same s, fun {H v d xs ys} hD h => by
  obtain ⟨t, zs, e, h, p⟩ := h
  refine ⟨t, zs, e, ?_, (stab_rm D).paired hD p⟩
  rw [upd_ne (fun z => by rw [z, hD] at h; cases h)]
  exact h⟩
/-- an int -/
def IsI (_ : Hp) (v : V) (n : Int) : Prop := v = .int n
theorem stab_int (D : Addr) : Stab D IsI := ⟨fun _ h => h, fun _ h => h⟩
theorem paired_isI {H : Hp} : ∀ {vs : List V} {ns : List Int}, Paired (IsI H) vs ns → vs = ns.map V.int
  | _, _, .nil => rfl
  | _, _, .cons h t => by
    have h' : _ = V.int _ := h
    rw [List.map_cons, paired_isI t, h']
section
variable {δ τ : Type} {J : It} {n : Nat} {G : Hp → Prop} {Y : Nat → Hp → V → Hp → Prop}
theorem lc_build (w : Walk J n G Y) (ss : List τ) (hn : n = ss.length) (g : τ → List δ) {R : Hp → V → δ → Prop} {gg : TG} {tt : TT} {te : TE} {vs : List Nat} {σ : L2.St} {H1 : Hp} {D : Addr} {Qd : Hp → Prop} (S : Stab D R) (hz : ss.length ≤ 100000) (hD : H1 D = none) (hG : ∀ H, Same H1 H → G H)
    (turn : ∀ i s x H H' (k : V → Hp → Prop) (k0 : Hp → Prop), ss[i]? = some s → Same H1 H → Y i H x H' → (∀ y H4, Same H H4 → ∀ d, g s = [d] → R H4 y d → k y H4) → (∀ H3, Same H H3 → g s = [] → k0 H3) →
      gg x (wipe σ vs) H' fun σ2 H2 => wipe σ2 vs = wipe σ vs ∧ tt σ2 H2 fun b H3 => if b = true then te σ2 H3 k else k0 H3)
    (done : ∀ xs H', Same H1 H' → H' D = some (.lst xs) → Paired (R H') xs (ss.flatMap g) → Qd H') :
    ∃ W : Nat → Nat → Hp → Prop, (∃ m, W 0 m (upd H1 D (.lst []))) ∧ ∀ i m H, W i m H →
      (J.stop i H ∧ Qd H) ∨ (J.go i H ∧ ∃ Nx : Hp → Prop, (∀ H', Nx H' → ∃ m', m' < m ∧ W (i + 1) m' H') ∧ ∀ x H', J.yld i H x H' → gg x (wipe σ vs) H' fun σ2 H2 => wipe σ2 vs = wipe σ vs ∧ tt σ2 H2 fun b H3 =>
        if b = true then te σ2 H3 fun y H4 => ∃ acc, H4 D = some (.lst acc) ∧ acc.length < sizeLine ∧ Nx (upd H4 D (.lst (acc ++ [y]))) else Nx H3) := by
  subst hn
  refine lc_it w (fun i H => Same H1 H ∧ ∃ xs, H D = some (.lst xs) ∧ Paired (R H) xs ((ss.take i).flatMap g) ∧ xs.length ≤ i) ⟨Same.new hD, [], upd_same, .nil, Nat.le_refl _⟩ (fun i H _ p => hG H p.1) (fun i x H H' hi p y => ?_) (fun H p => ?_)
  · obtain ⟨s1, xs, hx, hp, hl⟩ := p
    have es : ss[i]? = some ss[i] := by simp [hi]
    refine turn i ss[i] x H H' _ _ es s1 y (fun y H4 s4 d e r => ?_) (fun H3 s3 e => ?_)
    · have h4 := s4 _ _ hx
      refine ⟨xs, h4, small_l (by omega), Same.mut (s1.trans s4) hD, xs ++ [y], upd_same, ?_, by rw [List.length_append]; exact Nat.succ_le_succ hl⟩
      rw [take_snoc es, List.flatMap_append]
      refine paired_app (S.paired h4 (Paired.mono' (fun _ _ z => S.up s4 z) hp)) ?_
      show Paired _ [y] (g ss[i] ++ [])
      rw [e]
      exact .cons (S.wr h4 r) .nil
    · refine ⟨s1.trans s3, xs, s3 _ _ hx, ?_, Nat.le_succ_of_le hl⟩
      rw [take_snoc es, List.flatMap_append]
      show Paired _ xs (_ ++ (g ss[i] ++ []))
      rw [e, List.append_nil, List.append_nil]
      exact Paired.mono' (fun _ _ z => S.up s3 z) hp
  · obtain ⟨s1, xs, hx, hp, hl⟩ := p
    rw [List.take_length] at hp
    exact done xs H s1 hx hp
theorem walk_range0 {n : Nat} : Walk (Itr 0 n) n (fun _ => True) (YFn fun i => .int (i : Int)) :=
  walk_range.mono (fun _ _ => trivial) fun i H x H' _ _ y => ⟨y.1, by rw [y.2]; show V.int (0 + (i : Int)) = V.int (i : Int); rw [Int.zero_add]⟩
theorem yesT {A B : Hp → Prop} {H : Hp} {σ : L2.St} (h : A H) : tYes σ H fun b H3 => if b = true then A H3 else B H3 := by
  show if true = true then A H else B H
  rw [if_pos rfl]
  exact h
theorem range_at {n i s : Nat} (h : (List.range n)[i]? = some s) : i < n ∧ i = s := by
  obtain ⟨h1, h2⟩ := List.getElem?_eq_some_iff.mp h
  rw [List.length_range] at h1
  exact ⟨h1, by simpa using h2⟩
/-- .. over a list of known things -/
theorem flatMap_one {α β : Type} (f : α → β) : ∀ l : List α, (l.flatMap fun x => [f x]) = l.map f
  | [] => rfl
  | a :: l => by rw [List.flatMap_cons, flatMap_one f l]; rfl
theorem flatMap_if {α : Type} (p : α → Bool) : ∀ l : List α, (l.flatMap fun x => if p x = true then [x] else []) = l.filter p
  | [] => rfl
  | a :: l => by
    rw [List.flatMap_cons, flatMap_if p l, List.filter_cons]
    split <;> rfl
theorem flatMap_ifm {α β : Type} (p : α → Bool) (f : α → β) : ∀ l : List α, (l.flatMap fun x => if p x = true then [f x] else []) = (l.filter p).map f
  | [] => rfl
  | a :: l => by
    rw [List.flatMap_cons, flatMap_ifm p f l, List.filter_cons]
    split <;> rfl
end
end NA
/-! The text by places; a def that may be called; what the top left alone. -/
namespace NA
open PySem PySem.Spec PyProof.Rows L2
def top (i : Nat) : Stmt := PySem.Challenge.pw_neveralone_k55_whole_never_an_odd_number.main.body.getD i (.Pass ⟨0, 0, 0, 0⟩)
/-- the built-ins' names are not shadowed -/
structure Bl (mg : Str → Option Value) : Prop where
  len : mg "len" = none
  sorted : mg "sorted" = none
  list : mg "list" = none
  tuple : mg "tuple" = none
  set : mg "set" = none
  range : mg "range" = none
  enumerate : mg "enumerate" = none
  sum : mg "sum" = none
  abs : mg "abs" = none
  int : mg "int" = none
  isinstance : mg "isinstance" = none
  reversed : mg "reversed" = none
  iter : mg "iter" = none
  bool : mg "bool" = none
  str : mg "str" = none
/-- a def of the module as the top left it -/
structure DefC (K : PySem.W.Frag) (mg : Str → Option Value) (x : Str) (st : Stmt) (ps : List Str) : Prop where
  ex : ∃ (f : Addr) (fd : FuncData), Fun K x x st f fd ∧ mg x = some (.ref f) ∧ Binds K fd ps []
/-- a def that may be called by its name -/
structure Cal (P : Program) (w : World) (K : PySem.W.Frag) (mg : Str → Option Value) (base : Heap) (k : Nat) (x : Str) (sp : Sp) : Prop where
  ex : ∃ (f : Addr) (fd : FuncData) (ps : List Str), FnOk P w K mg base CX0 k f fd ps sp ∧ mg x = some (.ref f) ∧ PySem.W.keepIn K (.ref f) = true ∧ Binds K fd ps []
section
variable {P : Program} {w : World} {K : PySem.W.Frag} {mg : Str → Option Value} {base : Heap}
theorem cal_mk {x : Str} {st : Stmt} {N ps : List Str} {k : Nat} {sp : Sp} (F : DefC K mg x st ps) (S : FnScope N ps (defScope st)) (len : ∀ vs H Q E, sp vs H Q E → vs.length = ps.length)
    (hbody : ∀ (f : Addr) (cdv : Value) (A : Around) (outer : List Env) (s : Shared) (H : Hp) (vs : List V) (Q : VK) (E : XK), Room k (A.deeper (envOfC x (defScope st) s.heap.objs.size f cdv)) → sp vs H Q E →
      ∃ t, PSs (cxOf CX0 P w K mg base N x (defScope st) f cdv A outer s H E).nox (defBody st) t ∧ t { nx := fun _ H' => Q .non H', rt := Q } (start N vs) H) : Cal P w K mg base (k + 1) x sp := by
  obtain ⟨f, fd, h, m, b⟩ := F.ex
  exact ⟨f, fd, ps, h.ok S len (hbody f), m, h.kp, b⟩
theorem Cal.imp {x : Str} {k : Nat} {sp sp' : Sp} (c : Cal P w K mg base k x sp) (h : ∀ vs H Q E, sp' vs H Q E → sp vs H Q E) : Cal P w K mg base k x sp' := by
  obtain ⟨f, fd, ps, F, m, kp, b⟩ := c.ex
  exact ⟨f, fd, ps, F.imp h, m, kp, b⟩
theorem Cal.mono {x : Str} {j k : Nat} {sp : Sp} (c : Cal P w K mg base j x sp) (h : j ≤ k) : Cal P w K mg base k x sp := by
  obtain ⟨f, fd, ps, F, m, kp, b⟩ := c.ex
  exact ⟨f, fd, ps, F.mono h, m, kp, b⟩
end
section
variable {X : Cx} {k j : Nat} {x : Str} {sp : Sp} {p pos : Pos} {e : Expr} {es : List Expr} {t : TA}
theorem pe_c (c : Cal X.prog X.w X.K X.mg X.base k x sp) (hr : Room j X.A) (hk : k ≤ j) (ha : PA X (e :: es) t) (hg : Gl X x := by rfl)
    (hdb : (x == ("__debug__" : Str)) = false := by decide) (he : starEach (e :: es) X.env = (false, eval e X.env) :: starEach es X.env := by rfl) (hpl : (backTo pos (starEach es X.env)).any (·.1) = false := by rfl) :
    PE X (.Call (.Name x p) (e :: es) [] pos) (tCall sp [] E0 t) := by
  obtain ⟨f, fd, ps, F, hm, kp, b⟩ := c.ex
  exact pe_call F (hr.mono hk) hg hm kp b .nil pass0 ha hdb he hpl

variable {ta : TE} {K : PySem.W.Frag}
theorem hu66 {A : Around} {k : Nat} (hr : Room k A) : A.units + 66 < cLine := by
  have := hr.un
  omega
/-! ### built-ins by name -/
theorem b_len (B : Bl X.mg) (ha : PE X e ta) (hg : Gl X "len" := by rfl) (he : starEach [e] X.env = (false, eval e X.env) :: starEach [] X.env := by rfl) :
    PE X (.Call (.Name "len" p) [e] [] pos) (tCB (fun xs H Q => ∃ p ys, xs = [.ref p] ∧ (SqL X.K H p ys ∨ SqT X.K H p ys) ∧ Q (.int ys.length) H) (tCons ta tNil)) :=
  pe_callB call_len_seq hg B.len PySem.boot_len (pa_cons ha pa_nil he) (by decide) (by decide) he rfl
/-- list(xs), tuple(xs) -/
def rListQ (K : PySem.W.Frag) : List V → Hp → VK → Prop := fun xs H Q => ∃ p ys, xs = [.ref p] ∧ (SqL K H p ys ∨ SqT K H p ys) ∧ ∀ l, H l = none → Q (.ref l) (upd H l (.lst ys))
theorem b_list (B : Bl X.mg) (ha : PE X e ta) (hg : Gl X "list" := by rfl) (he : starEach [e] X.env = (false, eval e X.env) :: starEach [] X.env := by rfl) :
    PE X (.Call (.Name "list" p) [e] [] pos) (tCB (rListQ X.K) (tCons ta tNil)) :=
  pe_callTy call_list_of hg B.list (by decide +kernel) (pa_cons ha pa_nil he) (by decide) (by decide) he rfl
def rTupQ (K : PySem.W.Frag) : List V → Hp → VK → Prop := fun xs H Q => ∃ p ys, xs = [.ref p] ∧ SqL K H p ys ∧ ∀ l, H l = none → Q (.ref l) (upd H l (.tup ys))
theorem b_tuple (B : Bl X.mg) (ha : PE X e ta) (hg : Gl X "tuple" := by rfl) (he : starEach [e] X.env = (false, eval e X.env) :: starEach [] X.env := by rfl) :
    PE X (.Call (.Name "tuple" p) [e] [] pos) (tCB (rTupQ X.K) (tCons ta tNil)) :=
  pe_callTy (fun pins s σ H xs us Q I r h => call_tuple_of pins s σ H xs us Q I r (let ⟨p, ys, e, a, q⟩ := h; ⟨p, ys, e, .inl ⟨a, q⟩⟩)) hg B.tuple (by decide +kernel) (pa_cons ha pa_nil he) (by decide) (by decide) he rfl
/-- sorted(ints) -/
def rSrtI : List V → Hp → VK → Prop := fun xs H Q => ∃ a ns, xs = [.ref a] ∧ (H a = some (.lst (ns.map V.int)) ∨ H a = some (.tup (ns.map V.int))) ∧ ∀ p, H p = none → Q (.ref p) (upd H p (.lst ((srtI ns).map V.int)))
theorem b_sortI (B : Bl X.mg) (hr : Room j X.A) (ha : PE X e ta) (hg : Gl X "sorted" := by rfl) (he : starEach [e] X.env = (false, eval e X.env) :: starEach [] X.env := by rfl) :
    PE X (.Call (.Name "sorted" p) [e] [] pos) (tCB rSrtI (tCons ta tNil)) :=
  pe_callB (fun pins s σ H xs us Q I r h => cr_srt (hu66 hr) pins s σ H xs us Q I r (by
    obtain ⟨a, ns, rfl, ha, q⟩ := h
    obtain ⟨bs, e1, S, e2⟩ := srt_ints (K := X.K) (H := H) ns
    refine ⟨a, bs, rfl, ?_, S, fun p hp => by rw [e2]; exact q p hp⟩
    rw [e1]
    exact ha.elim (fun h => .inl (SqL.mk h)) fun h => .inr (SqT.mk h))) hg B.sorted (by decide +kernel) (pa_cons ha pa_nil he) (by decide) (by decide) he rfl
/-- sorted(rooms) -/
def rSrtR : List V → Hp → VK → Prop := fun xs H Q => ∃ a zs rs, xs = [.ref a] ∧ (H a = some (.lst zs) ∨ H a = some (.tup zs)) ∧ Rms H zs rs ∧ (∀ r ∈ rs, r ≠ []) ∧ ∀ p zs', H p = none → Rms H zs' (srtR rs) → Q (.ref p) (upd H p (.lst zs'))
theorem b_sortR (B : Bl X.mg) (hr : Room j X.A) (ha : PE X e ta) (hg : Gl X "sorted" := by rfl) (he : starEach [e] X.env = (false, eval e X.env) :: starEach [] X.env := by rfl) :
    PE X (.Call (.Name "sorted" p) [e] [] pos) (tCB rSrtR (tCons ta tNil)) :=
  pe_callB (fun pins s σ H xs us Q I r h => cr_srt (hu66 hr) pins s σ H xs us Q I r (by
    obtain ⟨a, zs, rs, rfl, ha, hz, hne, q⟩ := h
    obtain ⟨bs, e1, S, e2⟩ := srt_rooms (K := X.K) hz hne
    refine ⟨a, bs, rfl, ?_, S, fun p hp => q p _ hp e2⟩
    rw [e1]
    exact ha.elim (fun h => .inl (SqL.mk h)) fun h => .inr (SqT.mk h))) hg B.sorted (by decide +kernel) (pa_cons ha pa_nil he) (by decide) (by decide) he rfl
/-- sorted(rows) -/
def rSrtRow : List V → Hp → VK → Prop := fun xs H Q => ∃ a zs rs, xs = [.ref a] ∧ H a = some (.lst zs) ∧ Rws H zs rs ∧ (∀ r ∈ rs, r ≠ []) ∧ ∀ p zs', H p = none → Rws H zs' (srtRow rs) → Q (.ref p) (upd H p (.lst zs'))
theorem b_sortRow (B : Bl X.mg) (hr : Room j X.A) (ha : PE X e ta) (hg : Gl X "sorted" := by rfl) (he : starEach [e] X.env = (false, eval e X.env) :: starEach [] X.env := by rfl) :
    PE X (.Call (.Name "sorted" p) [e] [] pos) (tCB rSrtRow (tCons ta tNil)) :=
  pe_callB (fun pins s σ H xs us Q I r h => cr_srt (hu66 hr) pins s σ H xs us Q I r (by
    obtain ⟨a, zs, rs, rfl, ha, hz, hne, q⟩ := h
    obtain ⟨bs, e1, S, e2⟩ := srt_rows (K := X.K) hz hne
    refine ⟨a, bs, rfl, ?_, S, fun p hp => q p _ hp e2⟩
    rw [e1]
    exact .inl (SqL.mk ha))) hg B.sorted (by decide +kernel) (pa_cons ha pa_nil he) (by decide) (by decide) he rfl
/-- sorted(dict), the keys rooms -/
def rSrtD (β : Type) (f : β → V) : List V → Hp → VK → Prop := fun xs H Q => ∃ d es, xs = [.ref d] ∧ Rd H d (.dT (encA (β := β) f es)) ∧ (∀ e ∈ es, e.1 ≠ []) ∧ ∀ p zs, H p = none → Rms H zs (srtR (es.map (·.1))) → Q (.ref p) (upd H p (.lst zs))
theorem b_sortD (β : Type) (f : β → V) (B : Bl X.mg) (hr : Room j X.A) (ha : PE X e ta) (hc : X.calm = true := by rfl) (hg : Gl X "sorted" := by rfl) (he : starEach [e] X.env = (false, eval e X.env) :: starEach [] X.env := by rfl) :
    PE X (.Call (.Name "sorted" p) [e] [] pos) (tCB (rSrtD β f) (tCons ta tNil)) :=
  pe_callB (fun pins s σ H xs us Q I r h => cr_srtD hc (hu66 hr) pins s σ H xs us Q I r (by
    obtain ⟨d, es, rfl, hd, hne, q⟩ := h
    refine ⟨d, es.map fun e => (e.1, f e.2), rfl, by rw [dR_enc]; exact hd, fun e he => ?_, fun p zs hp hz => q p zs hp ?_⟩
    · obtain ⟨x, hx, rfl⟩ := List.mem_map.mp he
      exact hne x hx
    · rw [List.map_map] at hz
      exact hz)) hg B.sorted (by decide +kernel) (pa_cons ha pa_nil he) (by decide) (by decide) he rfl
theorem b_sum (B : Bl X.mg) (ha : PE X e ta) (hc : X.calm = true := by rfl) (hg : Gl X "sum" := by rfl) (he : starEach [e] X.env = (false, eval e X.env) :: starEach [] X.env := by rfl) :
    PE X (.Call (.Name "sum" p) [e] [] pos) (tCB (rSum X.K) (tCons ta tNil)) :=
  pe_callB (cr_sum hc) hg B.sum (by decide +kernel) (pa_cons ha pa_nil he) (by decide) (by decide) he rfl
end
end NA
/-! Rooms: faces, merged, complement, shuffle_sign, room_fault. -/
namespace NA
open PySem PySem.Spec PyProof.Rows L2
section
variable {P : Program} {w : World} {K : PySem.W.Frag} {mg : Str → Option Value} {base : Heap}
theorem cutE {r : List Int} {i : Nat} : (r.map V.int).take i ++ (r.map V.int).drop (i + 1) = (r.eraseIdx i).map V.int := by
  rw [← List.map_take, ← List.map_drop, ← List.map_append, List.eraseIdx_eq_take_drop_succ]
abbrev sFaces : Stmt := top 10
def spFaces : Sp := fun vs H Q _ => ∃ v r, vs = [v] ∧ Rm H v r ∧ r.length ≤ 1000 ∧ ∀ v' H', Same H H' → RmL H' v' (faces r) → Q v' H'
theorem scFaces : FnScope ["room", "k"] ["room"] (defScope sFaces) := ⟨rfl, rfl, rfl, by decide +kernel, rfl, by decide +kernel, by decide +kernel⟩
theorem ok_faces (F : DefC K mg "faces" sFaces ["room"]) (B : Bl mg) : Cal P w K mg base 1 "faces" spFaces := by
  refine cal_mk F scFaces (fun vs H Q E h => ?_) (fun f cdv A outer s H vs Q E hr h => ?_)
  · obtain ⟨v, r, rfl, _⟩ := h
    rfl
  · obtain ⟨v, r, rfl, ⟨t, rfl, ht⟩, hl, k⟩ := h
    refine ⟨_, pss_one (ps_ret (pe_lc (own := [("k", 1)]) (g := gName 1) (tt := tYes) rfl scFaces.nd (pi_range1 rfl B.range (pa_cons (pe_callB call_len_seq (by rfl) B.len PySem.boot_len (pa_cons (pv 0) pa_nil)) pa_nil))
      (blkOk_by (N := ["room", "k"]) (sc := defScope sFaces) (by decide +kernel)) (fun _ _ _ _ _ => pg_name (i := 1) scFaces.nd rfl (Or.inl rfl)) (fun _ _ _ _ _ => pts_nil)
      (fun _ _ _ _ _ => pe_op (r := rCatA K) op_catA (pe_slice (r := rSlA K) sl_tupA (pv 0) po_none (po_some (pv 1))) (pe_slice (r := rSlA K) sl_tupA (pv 0) (po_some (pe_op op_add (pv 1) pe_int)) po_none)))), ?_⟩
    refine ⟨_, rfl, t, r.map V.int, rfl, Or.inr (SqT.mk ht), (r.map V.int).length, rfl, by omega, by rw [List.length_map]; omega, fun D hD => ?_⟩
    have hn : ((r.map V.int).length : Int).toNat = (List.range r.length).length := by simp
    refine lc_build walk_range0 (List.range r.length) hn (fun i => [r.eraseIdx i]) (stab_rm D) (by rw [List.length_range]; omega) hD (fun _ _ => trivial) (fun i s x H1 H' k1 k0 es s1 y q1 _ => ?_) (fun xs H' s1 hx hp => ?_)
    · obtain ⟨rfl, rfl⟩ := y
      obtain ⟨hi, rfl⟩ := range_at es
      refine ⟨rfl, yesT ?_⟩
      refine ⟨_, rfl, _, rfl, _, rfl, ?_⟩
      refine rd_slL (s1 _ _ ht) i (by rw [List.length_map]; omega) fun a H2 s2 ha => ?_
      refine ⟨_, rfl, _, rfl, _, _, rfl, rfl, _, rfl, ?_⟩
      refine noPart ?_
      rw [show ((i : Int) + 1) = ((i + 1 : Nat) : Int) from rfl]
      refine rd_slR (s2 _ _ (s1 _ _ ht)) (i + 1) (by rw [List.length_map]; omega) fun b H3 s3 hb => ?_
      refine rd_cat (s3 _ _ ha) hb ?_ fun p H4 s4 hp => q1 _ _ ((s2.trans s3).trans s4) _ rfl ⟨p, rfl, ?_⟩
      · rw [List.length_take, List.length_drop, List.length_map]
        exact small_n (by omega)
      · rw [hp, cutE]
    · exact k _ _ s1 ⟨D, xs, rfl, hx, by rw [flatMap_one] at hp; exact hp⟩
abbrev sMerged : Stmt := top 11
def spMerged : Sp := fun vs H Q _ => ∃ v u r q, vs = [v, u] ∧ Rm H v r ∧ Rm H u q ∧ r.length + q.length ≤ 1000 ∧ ∀ v' H', Same H H' → Rm H' v' (uni r q) → Q v' H'
theorem scMerged : FnScope ["first", "second"] ["first", "second"] (defScope sMerged) := ⟨rfl, rfl, rfl, by decide +kernel, rfl, by decide +kernel, by decide +kernel⟩
theorem ok_merged (F : DefC K mg "merged" sMerged ["first", "second"]) (B : Bl mg) : Cal P w K mg base 1 "merged" spMerged := by
  refine cal_mk F scMerged (fun vs H Q E h => ?_) (fun f cdv A outer s H vs Q E hr h => ?_)
  · obtain ⟨v, u, r, q, rfl, _⟩ := h
    rfl
  · obtain ⟨v, u, r, q, rfl, ⟨t, rfl, ht⟩, ⟨t2, rfl, ht2⟩, hl, k⟩ := h
    refine ⟨_, pss_one (ps_ret (b_tuple B (b_sortI B hr (pe_op op_cat (b_list B (pv 0)) (b_list B (pv 1)))))), ?_⟩
    refine ⟨_, rfl, t, _, rfl, Or.inr (SqT.mk ht), fun a1 n1 => ?_⟩
    have s1 := Same.new (o := .lst (r.map V.int)) n1
    refine ⟨_, rfl, t2, _, rfl, Or.inr (SqT.mk (s1 _ _ ht2)), fun a2 n2 => ?_⟩
    have s2 := Same.new (o := .lst (q.map V.int)) n2
    refine ⟨a1, a2, _, _, rfl, rfl, s2 _ _ upd_same, upd_same, by rw [List.length_map, List.length_map]; exact small_n (by omega), fun a3 n3 => ?_⟩
    rw [← List.map_append]
    have s3 := Same.new (o := .lst ((r ++ q).map V.int)) n3
    refine ⟨a3, r ++ q, rfl, Or.inl upd_same, fun a4 n4 => ?_⟩
    have s4 := Same.new (o := .lst ((srtI (r ++ q)).map V.int)) n4
    refine ⟨a4, _, rfl, SqL.mk upd_same, fun a5 n5 => ?_⟩
    have s5 := Same.new (o := .tup ((srtI (r ++ q)).map V.int)) n5
    exact k _ _ ((((s1.trans s2).trans s3).trans s4).trans s5) ⟨a5, rfl, upd_same⟩
abbrev sComplement : Stmt := top 12
def rng (n : Nat) : List Int := (List.range n).map Int.ofNat
def spComplement : Sp := fun vs H Q _ => ∃ (n : Nat) (u : V) (r : List Int), vs = [.int n, u] ∧ n ≤ 1000 ∧ Rm H u r ∧ ∀ v' H', Same H H' → Rm H' v' ((rng n).filter fun p => decide (p ∉ r)) → Q v' H'
theorem scComplement : FnScope ["places", "room", "p"] ["places", "room"] (defScope sComplement) := ⟨rfl, rfl, rfl, by decide +kernel, rfl, by decide +kernel, by decide +kernel⟩
theorem ok_complement (F : DefC K mg "complement" sComplement ["places", "room"]) (B : Bl mg) : Cal P w K mg base 1 "complement" spComplement := by
  refine cal_mk F scComplement (fun vs H Q E h => ?_) (fun f cdv A outer s H vs Q E hr h => ?_)
  · obtain ⟨n, u, r, rfl, _⟩ := h
    rfl
  · obtain ⟨n, u, r, rfl, hn, ⟨t, rfl, ht⟩, k⟩ := h
    refine ⟨_, pss_one (ps_ret (b_tuple B (pe_lc (own := [("p", 2)]) (g := gName 2) rfl scComplement.nd (pi_range1 rfl B.range (pa_cons (pv 0) pa_nil))
      (blkOk_by (N := ["places", "room", "p"]) (sc := defScope sComplement) (by decide +kernel)) (fun _ _ _ _ _ => pg_name (i := 2) scComplement.nd rfl (Or.inl rfl))
      (fun _ _ _ _ _ => pts_one (pt_cmpR (r := rIn K true) op_notIn_seq (pv 2) (pv 1) rfl)) (fun _ _ _ _ _ => pv 2)))), ?_⟩
    refine ⟨_, rfl, n, rfl, by omega, by omega, fun D hD => ?_⟩
    refine lc_build walk_range0 (List.range n) (by simp) (fun i => if decide ((i : Int) ∉ r) = true then [(i : Int)] else []) (stab_int D) (by rw [List.length_range]; omega) hD (fun _ _ => trivial) (fun i s x H1 H' k1 k0 es s1 y q1 q0 => ?_) (fun xs H' s1 hx hp => ?_)
    · obtain ⟨rfl, rfl⟩ := y
      obtain ⟨hi, rfl⟩ := range_at es
      refine ⟨rfl, _, rfl, _, rfl, t, _, rfl, Or.inr (SqT.mk (s1 _ _ ht)), rfl, flat_ints r, ?_⟩
      rw [inV_ints]
      refine ⟨_, rfl, ?_⟩
      by_cases hm : (i : Int) ∈ r
      · rw [decide_eq_true hm]
        exact q0 _ (Same.refl _) (by rw [decide_eq_false (fun z => z hm)]; rfl)
      · rw [decide_eq_false hm]
        exact ⟨_, rfl, q1 _ _ (Same.refl _) (i : Int) (by rw [decide_eq_true hm]; rfl) rfl⟩
    · refine ⟨D, xs, rfl, SqL.mk hx, fun a na => k _ _ (s1.trans (Same.new na)) ⟨a, rfl, ?_⟩⟩
      rw [upd_same, paired_isI hp, flatMap_ifm (fun i : Nat => decide ((i : Int) ∉ r)) (fun i : Nat => (i : Int))]
      unfold rng
      rw [List.filter_map] <;> rfl
abbrev sShuffle : Stmt := top 13
def spShuffle : Sp := fun vs H Q _ => ∃ v u r q, vs = [v, u] ∧ Rm H v r ∧ Rm H u q ∧ ∀ c : Int, (c = 0 ↔ disj r q = false) → Q (.int c) H
theorem scShuffle : FnScope ["first", "second", "sign", "p", "q"] ["first", "second"] (defScope sShuffle) := ⟨rfl, rfl, rfl, by decide +kernel, rfl, by decide +kernel, by decide +kernel⟩
theorem disj_iff {r q : List Int} : disj r q = true ↔ ∀ p ∈ r, p ∉ q := by
  unfold disj
  rw [List.all_eq_true]
  exact ⟨fun h p hp hq => by have := h p hq; simp at this; exact this hp, fun h p hp => by simp; exact fun z => h p z hp⟩
theorem ok_shuffle (F : DefC K mg "shuffle_sign" sShuffle ["first", "second"]) (B : Bl mg) : Cal P w K mg base 1 "shuffle_sign" spShuffle := by
  refine cal_mk F scShuffle (fun vs H Q E h => ?_) (fun f cdv A outer s H vs Q E hr h => ?_)
  · obtain ⟨v, u, r, q, rfl, _⟩ := h
    rfl
  · obtain ⟨v, u, r, q, rfl, ⟨t, rfl, ht⟩, ⟨t2, rfl, ht2⟩, k⟩ := h
    refine ⟨_, pss_cons (ps_set (i := 2) scShuffle.nd rfl (Or.inl rfl) pe_int) (pss_cons (ps_for PassesOwn.never rfl (pi_tup (pv 0)) (pg_name (i := 3) scShuffle.nd rfl (Or.inl rfl))
      (pss_one (ps_for PassesOwn.never rfl (pi_tup (pv 1)) (pg_name (i := 4) scShuffle.nd rfl (Or.inl rfl))
        (pss_cons (ps_if (pt_cmpR op_eq (pv 3) (pv 4) (nomark _)) (pss_one (ps_ret pe_int)) pss_nil)
        (pss_one (ps_if (pt_cmpR op_gt (pv 3) (pv 4) (nomark _)) (pss_one (ps_set (i := 2) scShuffle.nd rfl (Or.inl rfl) (pe_un un_neg (pv 2)))) pss_nil))))))
      (pss_one (ps_ret (pv 2)))), ?_⟩
    refine ⟨_, rfl, t, rfl, ⟨_, SqT.mk ht⟩, for_tup (K := K) (a := t) (xs := r.map V.int) (fun i σ H' => H = H' ∧ ∃ (c : Int) (a b : Option V), σ = [some (.ref t), some (.ref t2), some (.int c), a, b] ∧ c ≠ 0 ∧ ∀ p ∈ r.take i, p ∉ q)
      ⟨rfl, 1, none, none, rfl, by decide, fun p hp => by cases hp⟩ (fun i σ H' _ p => by rw [← p.1]; exact SqT.mk ht) ?_ ?_⟩
    · rintro i x σ H' hi ⟨rfl, c, a, b, rfl, hc, hp⟩
      obtain ⟨p, hip, rfl⟩ := ints_get hi
      refine ⟨_, rfl, t2, rfl, ⟨_, SqT.mk ht2⟩, for_tup (K := K) (a := t2) (xs := q.map V.int) (fun j σ H' => H = H' ∧ ∃ (c : Int) (b : Option V), σ = [some (.ref t), some (.ref t2), some (.int c), some (.int p), b] ∧ c ≠ 0 ∧ ∀ z ∈ q.take j, p ≠ z)
        ⟨rfl, c, b, rfl, hc, fun z hz => by cases hz⟩ (fun j σ H' _ p => by rw [← p.1]; exact SqT.mk ht2) ?_ ?_⟩
      · rintro j y σ H' hj ⟨rfl, c, b, rfl, hc, hz⟩
        obtain ⟨z, hjz, rfl⟩ := ints_get hj
        refine ⟨_, rfl, _, rfl, rfl, _, rfl, ?_⟩
        refine ite2 (fun e => ?_) (fun e => ?_)
        · have e' : V.int p = V.int z := of_decide_eq_true e
          injection e' with e'
          refine k 0 ⟨fun _ => ?_, fun _ => rfl⟩
          rw [← Bool.not_eq_true, disj_iff]
          exact fun hh => hh p (List.mem_of_getElem? hip) (e' ▸ List.mem_of_getElem? hjz)
        · have ne : p ≠ z := fun h => e (by rw [h]; exact decide_eq_true rfl)
          have hz' : ∀ y ∈ q.take (j + 1), p ≠ y := fun y hy => by
            rw [take_snoc hjz, List.mem_append] at hy
            rcases hy with hy | hy
            · exact hz y hy
            · rw [List.mem_singleton] at hy
              rw [hy]
              exact ne
          refine ⟨_, rfl, _, rfl, _, _, rfl, rfl, _, rfl, ?_⟩
          refine ite2 (fun _ => ?_) (fun _ => ?_)
          · exact ⟨_, rfl, _, rfl, rfl, -c, _, rfl, by omega, hz'⟩
          · exact ⟨rfl, c, _, rfl, hc, hz'⟩
      · rintro σ H' ⟨rfl, c, b, rfl, hc, hz⟩
        refine ⟨rfl, c, _, b, rfl, hc, fun y hy => ?_⟩
        rw [take_snoc hip, List.mem_append] at hy
        rcases hy with hy | hy
        · exact hp y hy
        · rw [List.mem_singleton] at hy
          rw [hy]
          intro hm
          rw [List.length_map, List.take_length] at hz
          exact hz p hm rfl
    · rintro σ H' ⟨rfl, c, a, b, rfl, hc, hp⟩
      rw [List.length_map, List.take_length] at hp
      refine ⟨_, rfl, k c ⟨fun z => absurd z hc, fun z => ?_⟩⟩
      rw [← Bool.not_eq_true, disj_iff] at z
      exact absurd hp z
/-- a room as it should be -/
structure Vr (n : Nat) (size : Nat) (r : List Int) : Prop where
  srt : r.Pairwise (· < ·)
  lo : ∀ p ∈ r, 0 ≤ p ∧ p < (n : Int)
  len : r.length = size
theorem Vr.nd {n size : Nat} {r : List Int} (v : Vr n size r) : r.Nodup := v.srt.imp fun h => Int.ne_of_lt h
abbrev sFault : Stmt := top 14
def spFault : Sp := fun vs H Q _ => ∃ (n size : Nat) (u : V) (r : List Int), vs = [.int n, .int size, u] ∧ Rm H u r ∧ size ≤ 1000 ∧ Vr n size r ∧ Q (.str "") H
theorem scFault : FnScope ["places", "size", "room", "p"] ["places", "size", "room"] (defScope sFault) := ⟨rfl, rfl, rfl, by decide +kernel, rfl, by decide +kernel, by decide +kernel⟩
theorem ok_fault (F : DefC K mg "room_fault" sFault ["places", "size", "room"]) (B : Bl mg) : Cal P w K mg base 1 "room_fault" spFault := by
  refine cal_mk F scFault (fun vs H Q E h => ?_) (fun f cdv A outer s H vs Q E hr h => ?_)
  · obtain ⟨n, z, u, r, rfl, _⟩ := h
    rfl
  · obtain ⟨n, z, u, r, rfl, ⟨t, rfl, ht⟩, hz, Vd, k⟩ := h
    refine ⟨_, pss_cons (ps_if (pt_cmpR op_ne (b_len B (pv 2)) (pv 1) (nomark _)) (pss_one (ps_ret pe_str)) pss_nil)
      (pss_cons (ps_for PassesOwn.never rfl (pi_tup (pv 2)) (pg_name (i := 3) scFault.nd rfl (Or.inl rfl)) (pss_one (ps_if (pt_not (pt_chain op_le op_lt pe_int (pv 3) (pv 0))) (pss_one (ps_ret pe_str)) pss_nil)))
      (pss_cons (ps_if (pt_cmpR op_ne (pe_lenSetT rfl B.len rfl B.set (pv 2)) (pv 1) (nomark _)) (pss_one (ps_ret pe_str)) pss_nil) (pss_one (ps_ret pe_str)))), ?_⟩
    refine ⟨_, rfl, t, _, rfl, Or.inr (SqT.mk ht), _, rfl, rfl, _, rfl, ?_⟩
    refine iteNS (by rw [List.length_map, Vd.len]) ?_
    refine ⟨_, rfl, t, rfl, ⟨_, SqT.mk ht⟩, for_tup (K := K) (a := t) (xs := r.map V.int) (fun i σ H' => H = H' ∧ ∃ (a : Option L2.V), σ = [some (.int n), some (.int z), some (.ref t), a])
      ⟨rfl, none, rfl⟩ (fun i σ H' _ p => by rw [← p.1]; exact SqT.mk ht) ?_ ?_⟩
    · rintro i x σ H' hi ⟨rfl, a, rfl⟩
      obtain ⟨p, hip, rfl⟩ := ints_get hi
      obtain ⟨h1, h2⟩ := Vd.lo p (List.mem_of_getElem? hip)
      refine ⟨_, rfl, _, _, rfl, rfl, _, rfl, ?_⟩
      refine ite2 (fun _ => ?_) (fun h => absurd (decide_eq_true h1) h)
      refine ⟨_, rfl, _, _, rfl, rfl, _, rfl, ?_⟩
      exact iteNS h2 ⟨rfl, _, rfl⟩
    · rintro σ H' ⟨rfl, a, rfl⟩
      refine ⟨_, rfl, t, r, rfl, SqT.mk ht, Vd.nd, by rw [Vd.len]; omega, _, rfl, rfl, _, rfl, ?_⟩
      refine iteNS (by rw [Vd.len]) ?_
      exact k
end
end NA
/-! Ways: extended_ways and _law_longer. -/
namespace NA
open PySem PySem.Spec PyProof.Rows L2
theorem extR_len (n : Int) (c : List Int) (w : Ways) (r : List Int) : (extR n c w r).length ≤ w.length + 1 := by
  unfold extR
  split
  · exact putA_len _ _ _
  · omega
theorem foldR_len (n : Int) (c : List Int) : ∀ (b : List (List Int)) (w : Ways), (b.foldl (extR n c) w).length ≤ w.length + b.length
  | [], w => Nat.le_refl _
  | r :: b, w => by
    have h1 := foldR_len n c b (extR n c w r)
    have h2 := extR_len n c w r
    rw [List.foldl_cons, List.length_cons]
    omega
theorem foldC_len (b : List (List Int)) : ∀ (es : Ways) (w : Ways), (es.foldl (extC b) w).length ≤ w.length + es.length * b.length
  | [], w => by rw [List.foldl_nil]; omega
  | e :: es, w => by
    have h1 := foldC_len b es (extC b w e)
    have h2 : (extC b w e).length ≤ w.length + b.length := foldR_len e.2 e.1 b w
    rw [List.foldl_cons, List.length_cons, Nat.succ_mul]
    omega
section
variable {P : Program} {w : World} {K : PySem.W.Frag} {mg : Str → Option Value} {base : Heap}
abbrev sExt : Stmt := top 20
/-- both defs promise the same of a dict of ways and rooms (a tuple, a list) -/
def spExt (R : Hp → V → List (List Int) → Prop) : Sp := fun vs H Q _ => ∃ v u es b, vs = [v, u] ∧ DcI H v es ∧ R H u b ∧ (es.map (·.1)).Nodup ∧ (∀ e ∈ es, e.1.length ≤ 400) ∧ (∀ r ∈ b, r.length ≤ 400) ∧ es.length * b.length ≤ 100000 ∧ ∀ l H', H l = none → Same H H' → H' l = some (.dT (encA V.int (ext es b))) → Q (.ref l) H'
theorem scExt : FnScope ["ways", "rooms", "longer", "covered", "room", "union"] ["ways", "rooms"] (defScope sExt) := ⟨rfl, rfl, rfl, by decide +kernel, rfl, by decide +kernel, by decide +kernel⟩
theorem ok_ext (F : DefC K mg "extended_ways" sExt ["ways", "rooms"]) (B : Bl mg) (cS : Cal P w K mg base 1 "shuffle_sign" spShuffle) (cM : Cal P w K mg base 1 "merged" spMerged) : Cal P w K mg base 2 "extended_ways" (spExt Rw) := by
  refine cal_mk F scExt (fun vs H Q E h => ?_) (fun f cdv A outer s H vs Q E hr h => ?_)
  · obtain ⟨v, u, es, b, rfl, _⟩ := h
    rfl
  · obtain ⟨v, u, es, b, rfl, ⟨d, rfl, hd⟩, ⟨tb, xb, rfl, htb, hxb⟩, hnd, he, hb, hz, k⟩ := h
    have hu := hu_of hr
    have nd := scExt.nd
    refine ⟨_, pss_cons (ps_set (i := 2) nd rfl (Or.inl rfl) pe_dnewT)
      (pss_cons (ps_lock (ps_for PassesOwn.never rfl (pi_keys (pv 0)) (pg_name (i := 3) nd rfl (Or.inl rfl))
        (pss_one (ps_for PassesOwn.never rfl (pi_tup (pv 1)) (pg_name (i := 4) nd rfl (Or.inl rfl))
          (pss_one (ps_if (pt_cmpR op_ne (pe_c cS hr (Nat.le_refl _) (pa_cons (pv 3) (pa_cons (pv 4) pa_nil))) pe_int (nomark _))
            (pss_cons (ps_set (i := 5) nd rfl (Or.inl rfl) (pe_c cM hr (Nat.le_refl _) (pa_cons (pv 3) (pa_cons (pv 4) pa_nil))))
            (pss_one (ps_dput hu (pv 2) (pv 5) (pe_op op_add (pe_dget2 hu (pv 2) (pv 5) pe_int ⟨rfl, rfl, rfl, rfl⟩) (pe_dget hu (pv 0) (pv 3) (fun _ _ => rfl))) rfl)))
            pss_nil))))))
      (pss_one (ps_ret (pv 2)))), ?_⟩
    intro l nl
    have ndl : d ≠ l := ne_of_none hd nl
    refine ⟨d, .dT (encA V.int es), by rw [upd_ne ndl]; exact hd, trivial, fun od => ?_⟩
    have sG := lock_start (d := d) (f := .frz od (.dT (encA V.int es))) (o := .dT []) nl
    have hdG : (upd H d (.frz od (.dT (encA V.int es)))) d = some (.frz od (.dT (encA V.int es))) := upd_same
    have nlG : (upd H d (.frz od (.dT (encA V.int es)))) l = none := by rw [upd_ne ndl.symm]; exact nl
    have htG : (upd H d (.frz od (.dT (encA V.int es)))) tb = some (.tup xb) := by
      rw [upd_ne (fun z => by rw [z, hd] at htb; cases htb)]
      exact htb
    have hxG : Rms (upd H d (.frz od (.dT (encA V.int es)))) xb b := Paired.mono' (fun v r h => by
      obtain ⟨t, e, h⟩ := h
      exact ⟨t, e, by rw [upd_ne (fun z => by rw [z, hd] at h; cases h)]; exact h⟩) hxb
    generalize hG : upd H d (.frz od (.dT (encA V.int es))) = G at sG hdG nlG htG hxG
    have hl0 : (upd (upd H l (.dT [])) d (.frz od (.dT (encA V.int es)))) l = some (.dT []) := by rw [upd_ne ndl.symm, upd_same]
    refine ⟨_, rfl, d, od, rfl, Or.inr ⟨_, upd_same, ?_⟩⟩
    refine for_it walk_keysT (fun i σ H' => ∃ a b2 c, σ = [some (.ref d), some (.ref tb), some (.ref l), a, b2, c] ∧ Same G H' ∧ H' l = some (.dT (encA V.int ((es.take i).foldl (extC b) []))))
      ⟨none, none, none, rfl, sG, hl0⟩ (fun i σ H' _ p => by obtain ⟨_, _, _, _, s1, _⟩ := p; exact s1 _ _ hdG) ?_ ?_
    · rintro i x σ H1 H' hi ⟨a, b2, c, rfl, s1, hl1⟩ ⟨rfl, ky, vy, q, hk, rfl, hq⟩
      obtain ⟨e, hie, rfl, rfl⟩ := enc_at hk
      rw [keyR_v] at hq
      have hem := List.mem_of_getElem? hie
      have hil : i < es.length := by rw [encA_length] at hi; exact hi
      refine ⟨_, rfl, tb, rfl, ⟨_, SqT.mk (s1 _ _ htG)⟩, for_tup (K := K) (a := tb) (xs := xb) (fun j σ H2 => ∃ b2 c, σ = [some (.ref d), some (.ref tb), some (.ref l), some (.ref q), b2, c] ∧ Same G H2 ∧ H2 q = some (.tup (e.1.map V.int)) ∧ H2 l = some (.dT (encA V.int ((b.take j).foldl (extR e.2 e.1) ((es.take i).foldl (extC b) [])))))
        ⟨b2, c, rfl, s1, hq, hl1⟩ (fun j σ H2 _ p => by obtain ⟨_, _, _, s2, _⟩ := p; exact SqT.mk (s2 _ _ htG)) ?_ ?_⟩
      · rintro j y σ H2 hj ⟨b2, c, rfl, s2, hq2, hl2⟩
        obtain ⟨r, hjr, hyr⟩ := paired_get hxG hj
        have hrm := List.mem_of_getElem? hjr
        have hjl : j < b.length := (List.getElem?_eq_some_iff.mp hjr).1
        have hy2 := hyr.same s2
        refine ⟨_, rfl, _, rfl, .ref q, y, e.1, r, rfl, ⟨q, rfl, hq2⟩, hy2, fun cc hcc => ?_⟩
        refine ⟨rfl, _, rfl, ?_⟩
        cases hd0 : disj e.1 r with
        | false =>
          have : cc = 0 := hcc.mpr hd0
          subst this
          refine iteNS rfl ?_
          refine ⟨_, _, rfl, s2, hq2, ?_⟩
          rw [foldl_snoc hjr]
          unfold extR
          rw [hd0]
          exact hl2
        | true =>
          have hne : ¬ (V.int cc = V.int 0) := fun z => by
            injection z with z
            rw [hcc.mp z] at hd0
            cases hd0
          rw [decide_eq_false hne]
          refine iteT ?_
          refine ⟨_, rfl, _, rfl, .ref q, y, e.1, r, rfl, ⟨q, rfl, hq2⟩, hy2, by have := he e hem; have := hb r hrm; omega, fun v' H3 s3 hv => ?_⟩
          have hl3 := s3 _ _ hl2
          refine ⟨_, rfl, l, rfl, isD_r (.inl hl3), _, rfl, _, dget_r hl3 hv, _, rfl, _, rfl, d, .int e.2, rfl, ?_, ?_⟩
          · have hg := dget_rd (f := V.int) (es := es) (a := d) (r := e.1) (v := .ref q) (.inr ⟨od, s3 _ _ (s2 _ _ hdG)⟩) (H := H3) ⟨q, rfl, s3 _ _ hq2⟩
            rw [getA_mem hnd hem] at hg
            exact hg
          · rw [getD_int]
            refine ⟨_, _, rfl, rfl, _, rfl, _, rfl, l, _, rfl, dput_r hl3 hv ?_ _, ?_⟩
            · have h1 := foldR_len e.2 e.1 (b.take j) ((es.take i).foldl (extC b) [])
              have h2 := foldC_len b (es.take i) []
              rw [List.length_take, Nat.min_eq_left (by omega)] at h1 h2
              have h3 : (i + 1) * b.length ≤ es.length * b.length := Nat.mul_le_mul_right _ hil
              rw [Nat.succ_mul] at h3
              rw [List.length_nil] at h2
              exact small_l (by omega)
            · refine ⟨_, _, rfl, Same.mut (s2.trans s3) nlG, ?_, ?_⟩
              · rw [upd_ne (fun z => by rw [z, hl2] at hq2; cases hq2)]
                exact s3 _ _ hq2
              · rw [upd_same, foldl_snoc hjr]
                have : extR e.2 e.1 ((b.take j).foldl (extR e.2 e.1) ((es.take i).foldl (extC b) [])) r = putA ((b.take j).foldl (extR e.2 e.1) ((es.take i).foldl (extC b) [])) (uni e.1 r) (getD ((b.take j).foldl (extR e.2 e.1) ((es.take i).foldl (extC b) [])) (uni e.1 r) + e.2) := by
                  unfold extR
                  rw [if_pos hd0]
                rw [this] <;> rfl
      · rintro σ H2 ⟨b2, c, rfl, s2, hq2, hl2⟩
        refine ⟨_, _, _, rfl, s2, ?_⟩
        rw [foldl_snoc hie, hl2, paired_len hxG, List.take_length] <;> rfl
    · rintro σ H' ⟨a, b2, c, rfl, s1, hl1⟩
      rw [encA_length, List.take_length] at hl1
      refine ⟨s1 _ _ hdG, _, rfl, ?_⟩
      refine k l _ nl (lock_same hd (by rw [hG]; exact s1)) ?_
      rw [upd_ne ndl.symm]
      exact hl1
abbrev sLonger : Stmt := top 44
abbrev nLonger : List Str := ["_law_ways", "_law_rooms_here", "_law_longer_here", "_law_covered", "_law_room", "_law_union", "_law_p"]
theorem scLonger : FnScope nLonger ["_law_ways", "_law_rooms_here"] (defScope sLonger) := ⟨rfl, rfl, rfl, by decide +kernel, rfl, by decide +kernel, by decide +kernel⟩
theorem filt_disj {c r : List Int} : (r.filter fun p => decide (p ∈ c)).length = 0 ↔ disj c r = true := by
  rw [disj_iff, List.length_eq_zero_iff, List.filter_eq_nil_iff]
  exact ⟨fun h p hp hq => h p hq (decide_eq_true hp), fun h p hp hd => h p (of_decide_eq_true hd) hp⟩
theorem ok_longer (F : DefC K mg "_law_longer" sLonger ["_law_ways", "_law_rooms_here"]) (B : Bl mg) : Cal P w K mg base 1 "_law_longer" (spExt RmL) := by
  refine cal_mk F scLonger (fun vs H Q E h => ?_) (fun f cdv A outer s H vs Q E hr h => ?_)
  · obtain ⟨v, u, es, b, rfl, _⟩ := h
    rfl
  · obtain ⟨v, u, es, b, rfl, ⟨d, rfl, hd⟩, ⟨tb, xb, rfl, htb, hxb⟩, hnd, he, hb, hz, k⟩ := h
    have hu := hu_of hr
    have nd := scLonger.nd
    refine ⟨_, pss_cons (ps_set (i := 2) nd rfl (Or.inl rfl) pe_dnewT)
      (pss_cons (ps_lock (ps_for PassesOwn.never rfl (pi_keys (pv 0)) (pg_name (i := 3) nd rfl (Or.inr rfl))
        (pss_one (ps_for PassesOwn.never rfl (pi_list (pv 1)) (pg_name (i := 4) nd rfl (Or.inl rfl))
          (pss_one (ps_if (pt_cmpR op_eq (b_len B (pe_lc (own := [("_law_p", 6)]) (g := gName 6) rfl nd (pi_tup (pv 4)) (blkOk_by (N := nLonger) (sc := defScope sLonger) (by decide +kernel))
              (fun _ _ _ _ _ => pg_name (i := 6) nd rfl (Or.inl rfl)) (fun _ _ _ _ _ => pts_one (pt_cmpR (r := rIn K false) op_in_seq (pv 6) (pv 3) rfl)) (fun _ _ _ _ _ => pv 6))) pe_int (nomark _))
            (pss_cons (ps_set (i := 5) nd rfl (Or.inl rfl) (b_tuple B (b_sortI B hr (pe_op op_catA (pv 3) (pv 4)))))
            (pss_one (ps_dput hu (pv 2) (pv 5) (pe_op op_add (pe_dget2 hu (pv 2) (pv 5) pe_int ⟨rfl, rfl, rfl, rfl⟩) (pe_dget hu (pv 0) (pv 3) (fun _ _ => rfl))) rfl)))
            pss_nil))))))
      (pss_one (ps_ret (pv 2)))), ?_⟩
    intro l nl
    have ndl : d ≠ l := ne_of_none hd nl
    refine ⟨d, .dT (encA V.int es), by rw [upd_ne ndl]; exact hd, trivial, fun od => ?_⟩
    have sG := lock_start (d := d) (f := .frz od (.dT (encA V.int es))) (o := .dT []) nl
    have hdG : (upd H d (.frz od (.dT (encA V.int es)))) d = some (.frz od (.dT (encA V.int es))) := upd_same
    have nlG : (upd H d (.frz od (.dT (encA V.int es)))) l = none := by rw [upd_ne ndl.symm]; exact nl
    have htG : (upd H d (.frz od (.dT (encA V.int es)))) tb = some (.lst xb) := by
      rw [upd_ne (fun z => by rw [z, hd] at htb; cases htb)]
      exact htb
    have hxG : Rms (upd H d (.frz od (.dT (encA V.int es)))) xb b := Paired.mono' (fun v r h => by
      obtain ⟨t, e, h⟩ := h
      exact ⟨t, e, by rw [upd_ne (fun z => by rw [z, hd] at h; cases h)]; exact h⟩) hxb
    generalize hG : upd H d (.frz od (.dT (encA V.int es))) = G at sG hdG nlG htG hxG
    have hl0 : (upd (upd H l (.dT [])) d (.frz od (.dT (encA V.int es)))) l = some (.dT []) := by rw [upd_ne ndl.symm, upd_same]
    refine ⟨_, rfl, d, od, rfl, Or.inr ⟨_, upd_same, ?_⟩⟩
    refine for_it walk_keysT (fun i σ H' => ∃ a b2 c, σ = [some (.ref d), some (.ref tb), some (.ref l), a, b2, c, none] ∧ Same G H' ∧ H' l = some (.dT (encA V.int ((es.take i).foldl (extC b) []))))
      ⟨none, none, none, rfl, sG, hl0⟩ (fun i σ H' _ p => by obtain ⟨_, _, _, _, s1, _⟩ := p; exact s1 _ _ hdG) ?_ ?_
    · rintro i x σ H1 H' hi ⟨a, b2, c, rfl, s1, hl1⟩ ⟨rfl, ky, vy, q, hk, rfl, hq⟩
      obtain ⟨e, hie, rfl, rfl⟩ := enc_at hk
      rw [keyR_v] at hq
      have hem := List.mem_of_getElem? hie
      have hil : i < es.length := by rw [encA_length] at hi; exact hi
      refine ⟨_, rfl, tb, rfl, ⟨_, SqL.mk (s1 _ _ htG)⟩, for_list (K := K) (a := tb) (xs := xb) (fun j σ H2 => ∃ b2 c, σ = [some (.ref d), some (.ref tb), some (.ref l), some (.ref q), b2, c, none] ∧ Same G H2 ∧ H2 q = some (.tup (e.1.map V.int)) ∧ H2 l = some (.dT (encA V.int ((b.take j).foldl (extR e.2 e.1) ((es.take i).foldl (extC b) [])))))
        ⟨b2, c, rfl, s1, hq, hl1⟩ (fun j σ H2 _ p => by obtain ⟨_, _, _, s2, _⟩ := p; exact SqL.mk (s2 _ _ htG)) ?_ ?_⟩
      · rintro j y σ H2 hj ⟨b2, c, rfl, s2, hq2, hl2⟩
        obtain ⟨r, hjr, hyr⟩ := paired_get hxG hj
        have hrm := List.mem_of_getElem? hjr
        have hjl : j < b.length := (List.getElem?_eq_some_iff.mp hjr).1
        obtain ⟨ty, rfl, hty⟩ := hyr.same s2
        have hle := he e hem
        have hlr := hb r hrm
        refine ⟨_, rfl, ty, rfl, ⟨_, SqT.mk hty⟩, fun D hD => ?_⟩
        refine lc_build walk_tup r (by simp) (fun p => if decide (p ∈ e.1) = true then [p] else []) (stab_int D) (by omega) hD (fun H3 s3 => SqT.mk (s3 _ _ hty)) (fun i s x H1 H' k1 k0 es s1 y q1 q0 => ?_) (fun xs H3 s3 hx hp => ?_)
        · obtain ⟨rfl, hy⟩ := y
          obtain ⟨p, hp, rfl⟩ := ints_get hy
          obtain rfl : p = s := by rw [es] at hp; exact (Option.some.inj hp).symm
          refine ⟨rfl, _, rfl, _, rfl, q, _, rfl, Or.inr (SqT.mk (s1 _ _ hq2)), rfl, flat_ints _, ?_⟩
          rw [inV_ints]
          refine ⟨_, rfl, ?_⟩
          by_cases hm : p ∈ e.1
          · simp only [decide_eq_true hm]
            exact ⟨_, rfl, q1 _ _ (Same.refl _) p (by rw [decide_eq_true hm]; rfl) rfl⟩
          · simp only [decide_eq_false hm]
            exact q0 _ (Same.refl _) (by rw [decide_eq_false hm]; rfl)
        rw [flatMap_if (fun p => decide (p ∈ e.1))] at hp
        have hlen : xs.length = (r.filter fun p => decide (p ∈ e.1)).length := paired_len hp
        have hl3 := s3 _ _ hl2
        have s23 := s2.trans s3
        have hq3 := s3 _ _ hq2
        refine ⟨D, xs, rfl, Or.inl (SqL.mk hx), rfl, _, rfl, ?_⟩
        cases hd0 : disj e.1 r with
        | false =>
          have hne : ¬ (V.int (xs.length : Nat) = V.int 0) := fun z => by
            injection z with z
            have : (r.filter fun p => decide (p ∈ e.1)).length = 0 := by omega
            rw [filt_disj.mp this] at hd0
            cases hd0
          rw [decide_eq_false hne]
          refine iteF ?_
          refine ⟨_, _, rfl, s23, hq3, ?_⟩
          rw [foldl_snoc hjr]
          unfold extR
          rw [hd0]
          exact hl3
        | true =>
          have h0 : xs.length = 0 := by rw [hlen, filt_disj.mpr hd0]
          have hee : V.int (xs.length : Nat) = V.int 0 := by rw [h0]; rfl
          rw [decide_eq_true hee]
          refine iteT ?_
          refine ⟨_, rfl, _, rfl, ?_⟩
          refine rd_cat hq3 (s3 _ _ hty) (by rw [List.length_map, List.length_map]; exact small_n (by omega)) fun p1 H4 s4 h4 => ?_
          rw [← List.map_append] at h4
          refine ⟨p1, _, rfl, Or.inr h4, fun p2 n2 => ?_⟩
          have s5 := Same.new (o := .lst ((srtI (e.1 ++ r)).map V.int)) n2
          refine ⟨p2, _, rfl, SqL.mk upd_same, fun p3 n3 => ?_⟩
          have s6 := Same.new (o := .tup ((srtI (e.1 ++ r)).map V.int)) n3
          have sA := (s4.trans s5).trans s6
          have hv : Rm (upd (upd H4 p2 (.lst ((srtI (e.1 ++ r)).map V.int))) p3 (.tup ((srtI (e.1 ++ r)).map V.int))) (.ref p3) (uni e.1 r) := ⟨p3, rfl, upd_same⟩
          generalize upd (upd H4 p2 (.lst ((srtI (e.1 ++ r)).map V.int))) p3 (.tup ((srtI (e.1 ++ r)).map V.int)) = H5 at sA hv
          have hl5 := sA _ _ hl3
          have s25 := s23.trans sA
          refine ⟨_, rfl, l, rfl, isD_r (.inl hl5), _, rfl, _, dget_r hl5 hv, _, rfl, _, rfl, d, .int e.2, rfl, ?_, ?_⟩
          · have hg := dget_rd (f := V.int) (es := es) (a := d) (r := e.1) (v := .ref q) (.inr ⟨od, s25 _ _ hdG⟩) (H := H5) ⟨q, rfl, sA _ _ hq3⟩
            rw [getA_mem hnd hem] at hg
            exact hg
          · rw [getD_int]
            refine ⟨_, _, rfl, rfl, _, rfl, _, rfl, l, _, rfl, dput_r hl5 hv ?_ _, ?_⟩
            · have h1 := foldR_len e.2 e.1 (b.take j) ((es.take i).foldl (extC b) [])
              have h2 := foldC_len b (es.take i) []
              rw [List.length_take, Nat.min_eq_left (by omega)] at h1 h2
              have h3 : (i + 1) * b.length ≤ es.length * b.length := Nat.mul_le_mul_right _ hil
              rw [Nat.succ_mul] at h3
              rw [List.length_nil] at h2
              exact small_l (by omega)
            · refine ⟨_, _, rfl, Same.mut s25 nlG, ?_, ?_⟩
              · rw [upd_ne (fun z => by rw [z, hl2] at hq2; cases hq2)]
                exact sA _ _ hq3
              · rw [upd_same, foldl_snoc hjr]
                have : extR e.2 e.1 ((b.take j).foldl (extR e.2 e.1) ((es.take i).foldl (extC b) [])) r = putA ((b.take j).foldl (extR e.2 e.1) ((es.take i).foldl (extC b) [])) (uni e.1 r) (getD ((b.take j).foldl (extR e.2 e.1) ((es.take i).foldl (extC b) [])) (uni e.1 r) + e.2) := by
                  unfold extR
                  rw [if_pos hd0]
                rw [this] <;> rfl
      · rintro σ H2 ⟨b2, c, rfl, s2, hq2, hl2⟩
        refine ⟨_, _, _, rfl, s2, ?_⟩
        rw [foldl_snoc hie, hl2, paired_len hxG, List.take_length] <;> rfl
    · rintro σ H' ⟨a, b2, c, rfl, s1, hl1⟩
      rw [encA_length, List.take_length] at hl1
      refine ⟨s1 _ _ hdG, _, rfl, ?_⟩
      refine k l _ nl (lock_same hd (by rw [hG]; exact s1)) ?_
      rw [upd_ne ndl.symm]
      exact hl1
end
end NA
/-! tail_ways, count_choices. -/
namespace NA
open PySem PySem.Spec PyProof.Rows L2
/-- what extended_ways asks of its arguments -/
def OkExt (es : Ways) (b : List (List Int)) : Prop := (es.map (·.1)).Nodup ∧ (∀ e ∈ es, e.1.length ≤ 400) ∧ (∀ r ∈ b, r.length ≤ 400) ∧ es.length * b.length ≤ 100000
def OkTails : List (List (List Int)) → Prop
  | [] => True
  | b :: bs => OkTails bs ∧ ∀ t ts, tailsW bs = t :: ts → OkExt t b
/-- a list of dicts -/
def DcL (H : Hp) (v : V) (ts : List Ways) : Prop := ∃ a xs, v = .ref a ∧ H a = some (.lst xs) ∧ Paired (DcI H) xs ts
/-- dicts that H0 does not know -/
def DcF (H0 H : Hp) (v : V) (es : Ways) : Prop := ∃ d, v = .ref d ∧ H0 d = none ∧ H d = some (.dT (encA V.int es))
theorem DcF.same {H0 H H' : Hp} (s : Same H H') {v : V} {es : Ways} (h : DcF H0 H v es) : DcF H0 H' v es := let ⟨d, e, n, h⟩ := h; ⟨d, e, n, s _ _ h⟩
theorem DcF.dc {H0 H : Hp} {v : V} {es : Ways} (h : DcF H0 H v es) : DcI H v es := let ⟨d, e, n, h⟩ := h; ⟨d, e, h⟩
theorem paired_df {H0 H H' : Hp} (s : Same H H') {xs : List V} {ts : List Ways} (h : Paired (DcF H0 H) xs ts) : Paired (DcF H0 H') xs ts := Paired.mono' (fun _ _ z => z.same s) h
/-- a list, new to H0, of dicts, new to H0 -/
def DcLF (H0 H : Hp) (v : V) (ts : List Ways) : Prop := ∃ a xs, v = .ref a ∧ H0 a = none ∧ H a = some (.lst xs) ∧ Paired (DcF H0 H) xs ts
theorem paired_dc {H H' : Hp} (s : Same H H') {xs : List V} {ts : List Ways} (h : Paired (DcI H) xs ts) : Paired (DcI H') xs ts := Paired.mono' (fun _ _ z => z.same s) h
theorem tailsW_len : ∀ bs : List (List (List Int)), (tailsW bs).length = bs.length + 1
  | [] => rfl
  | b :: bs => by
    have ih := tailsW_len bs
    cases h : tailsW bs with
    | nil => rw [h] at ih; cases ih
    | cons t ts =>
      have e : tailsW (b :: bs) = ext t b :: t :: ts := by
        show (match tailsW bs with | [] => [] | t :: ts => ext t b :: t :: ts) = _
        rw [h]
      rw [e, List.length_cons, ← h, ih, List.length_cons]
theorem tailsW_cons {b : List (List Int)} {bs : List (List (List Int))} {t : Ways} {ts : List Ways} (h : tailsW bs = t :: ts) : tailsW (b :: bs) = ext t b :: t :: ts := by
  show (match tailsW bs with | [] => [] | t :: ts => ext t b :: t :: ts) = _
  rw [h]
theorem tailsW_ne (bs : List (List (List Int))) : ∃ t ts, tailsW bs = t :: ts := by
  have := tailsW_len bs
  cases h : tailsW bs with
  | nil => rw [h] at this; cases this
  | cons t ts => exact ⟨t, ts, rfl⟩
theorem OkTails.drop : ∀ {bs : List (List (List Int))} (k : Nat), OkTails bs → OkTails (bs.drop k)
  | _, 0, h => h
  | [], _ + 1, _ => trivial
  | _ :: _, k + 1, h => OkTails.drop k h.1
theorem atI_zero {α : Type} {x : α} {xs : List α} : atI (x :: xs) 0 = some x := atI_nat (j := 0) rfl
theorem drop_at {α : Type} {l : List α} {i : Nat} {x : α} (h : l[i]? = some x) : l.drop i = x :: l.drop (i + 1) := by
  obtain ⟨h1, h2⟩ := List.getElem?_eq_some_iff.mp h
  rw [List.drop_eq_getElem_cons h1, h2]
section
variable {P : Program} {w : World} {K : PySem.W.Frag} {mg : Str → Option Value} {base : Heap}
abbrev sTails : Stmt := top 21
def spTails : Sp := fun vs H Q _ => ∃ v b bs, vs = [v] ∧ RwL H v (b :: bs) ∧ bs.length ≤ 1000 ∧ OkTails bs ∧ ∀ a xs H', H a = none → Same H H' → H' a = some (.lst xs) → Paired (DcF H H') xs (tailsW bs) → Q (.ref a) H'
theorem scTails : FnScope ["choices", "tails", "rooms"] ["choices"] (defScope sTails) := ⟨rfl, rfl, rfl, by decide +kernel, rfl, by decide +kernel, by decide +kernel⟩
theorem ok_tails (F : DefC K mg "tail_ways" sTails ["choices"]) (B : Bl mg) (cE : Cal P w K mg base 2 "extended_ways" (spExt Rw)) : Cal P w K mg base 3 "tail_ways" spTails := by
  refine cal_mk F scTails (fun vs H Q E h => ?_) (fun f cdv A outer s H vs Q E hr h => ?_)
  · obtain ⟨v, b, bs, rfl, _⟩ := h
    rfl
  · obtain ⟨v, b, bs, rfl, ⟨ch, xc, rfl, hch, hxc⟩, hl, ok, k⟩ := h
    have hu := hu_of hr
    have nd := scTails.nd
    refine ⟨_, pss_cons (ps_set (i := 1) nd rfl (Or.inl rfl) (pe_lst (pa_cons (pe_disp1 hu (pe_tup pa_nil) pe_int) pa_nil)))
      (pss_cons (ps_for PassesOwn.never rfl (pi_reversed rfl B.reversed (pa_cons (b_list B (pe_slice sl_list (pv 0) (po_some pe_int) po_none)) pa_nil)) (pg_name (i := 2) nd rfl (Or.inl rfl))
        (pss_one (ps_set (i := 1) nd rfl (Or.inl rfl) (pe_op op_cat (pe_lst (pa_cons (pe_c cE hr (Nat.le_refl _) (pa_cons (pe_ix ix_list (pv 1) pe_int (fun _ _ => rfl)) (pa_cons (pv 2) pa_nil))) pa_nil)) (pv 1)))))
      (pss_one (ps_ret (pv 1)))), ?_⟩
    cases hxc with
    | @cons x _ xs _ hx0 hxs =>
    intro p np
    refine ⟨by decide, fun q nq => ⟨q, [], rfl, upd_same, ?_⟩⟩
    have npq : p ≠ q := fun z => by rw [z, upd_same] at nq; cases nq
    refine ⟨by rw [upd_ne npq, upd_same], by show 1 ≤ sizeLine; decide, fun a na => ?_⟩
    -- tails = [{(): 1}]
    have s1 : Same H (upd (upd (upd (upd H p (.dT [])) q (.tup [])) p (.dT [([], .int 1)])) a (.lst [.ref p])) := ((Same.mut ((Same.new np).trans (Same.new nq)) np)).trans (Same.new na)
    have na0 : H a = none := (Same.mut ((Same.new np).trans (Same.new nq)) np).free na
    have h1 : DcLF H (upd (upd (upd (upd H p (.dT [])) q (.tup [])) p (.dT [([], .int 1)])) a (.lst [.ref p])) (.ref a) (tailsW []) := by
      refine ⟨a, _, rfl, na0, upd_same, .cons ⟨p, rfl, np, ?_⟩ .nil⟩
      rw [upd_ne (fun z => by rw [z, upd_same] at na; cases na), upd_same] <;> rfl
    generalize upd (upd (upd (upd H p (.dT [])) q (.tup [])) p (.dT [([], .int 1)])) a (.lst [.ref p]) = H1 at s1 h1
    -- list(choices[1:])
    refine ⟨_, rfl, 1, rfl, noPart ⟨ch, _, rfl, SqL.mk (s1 _ _ hch), fun c1 n1 => ?_⟩⟩
    have ecut : cutV (x :: xs) (some 1) none = xs := by
      unfold cutV
      rw [HT.sIx_none, show HT.sIx (x :: xs).length 0 (some 1) = min 1 (x :: xs).length from HT.sIx_nat _ _ 1, Nat.min_eq_left (by rw [List.length_cons]; omega)]
      show List.take ((x :: xs).length - 1) xs = xs
      exact List.take_of_length_le (by rw [List.length_cons]; omega)
    rw [ecut]
    refine ⟨c1, xs, rfl, Or.inl (SqL.mk upd_same), fun c2 n2 => ?_⟩
    have s2 : Same H1 (upd (upd H1 c1 (.lst xs)) c2 (.lst xs)) := (Same.new n1).trans (Same.new n2)
    have h2 : (upd (upd H1 c1 (.lst xs)) c2 (.lst xs)) c2 = some (.lst xs) := upd_same
    generalize upd (upd H1 c1 (.lst xs)) c2 (.lst xs) = H2 at s2 h2
    have sH2 := s1.trans s2
    have hlen : xs.length = bs.length := paired_len hxs
    refine ⟨c2, xs, rfl, SqL.mk h2, ?_⟩
    refine for_it walk_rev (fun i σ H' => ∃ tv c, σ = [some (.ref ch), some tv, c] ∧ Same H2 H' ∧ DcLF H H' tv (tailsW (bs.drop (bs.length - i))))
      ⟨.ref a, none, rfl, Same.refl _, by rw [Nat.sub_zero, List.drop_length]; obtain ⟨a, xs, e, n, h, q⟩ := h1; exact ⟨a, xs, e, n, s2 _ _ h, paired_df s2 q⟩⟩ (fun i σ H' _ p => by obtain ⟨_, _, _, s3, _⟩ := p; exact SqL.mk (s3 _ _ h2)) ?_ ?_
    · rintro i y σ H3 H' hi ⟨tv, c, rfl, s3, ta, xt, rfl, nta, hta, hxt⟩ ⟨rfl, hy⟩
      rw [hlen] at hi hy
      obtain ⟨bb, hbb, hyb⟩ := paired_get hxs hy
      obtain ⟨t, ts, ht⟩ := tailsW_ne (bs.drop (bs.length - i))
      rw [ht] at hxt
      have edrop : bs.drop (bs.length - (i + 1)) = bb :: bs.drop (bs.length - i) := by
        have e1 : bs.length - (i + 1) = bs.length - 1 - i := by omega
        have e2 : bs.length - 1 - i + 1 = bs.length - i := by omega
        rw [e1, drop_at hbb, e2]
      have okd : OkTails (bs.drop (bs.length - (i + 1))) := OkTails.drop _ ok
      rw [edrop] at okd
      obtain ⟨o1, o2, o3, o4⟩ := okd.2 t ts ht
      cases hxt with
      | @cons z _ zs _ hz0 hzs =>
      refine ⟨_, rfl, ta, _, 0, z, rfl, rfl, SqL.mk hta, atI_zero, ?_⟩
      refine ⟨_, rfl, z, y, t, bb, rfl, hz0.dc, hyb.same (sH2.trans s3), o1, o2, o3, o4, fun dv H4 ndv s4 hdv => ?_⟩
      have hv : DcF H H4 (.ref dv) (ext t bb) := ⟨dv, rfl, (sH2.trans s3).free ndv, hdv⟩
      generalize V.ref dv = v' at hv
      refine ⟨by show 1 ≤ sizeLine; decide, fun a1 n1 => ?_⟩
      have s5 : Same H4 (upd H4 a1 (.lst [v'])) := Same.new n1
      have hzl : (z :: zs).length ≤ 1001 := by
        have q1 : (z :: zs).length = (t :: ts).length := paired_len (.cons hz0 hzs)
        have q2 := tailsW_len (bs.drop (bs.length - i))
        rw [ht, List.length_drop] at q2
        omega
      refine ⟨_, rfl, a1, ta, [v'], z :: zs, rfl, rfl, upd_same, s5 _ _ (s4 _ _ hta), by show 1 + (z :: zs).length ≤ sizeLine; exact small_n (by omega), fun a2 n2 => ?_⟩
      have s6 : Same (upd H4 a1 (.lst [v'])) (upd (upd H4 a1 (.lst [v'])) a2 (.lst ([v'] ++ (z :: zs)))) := Same.new n2
      refine ⟨_, _, rfl, s3.trans ((s4.trans s5).trans s6), a2, _, rfl, (((sH2.trans s3).trans s4).trans s5).free n2, upd_same, ?_⟩
      rw [edrop, tailsW_cons ht]
      exact .cons (hv.same (s5.trans s6)) (paired_df ((s4.trans s5).trans s6) (.cons hz0 hzs))
    · rintro σ H' ⟨tv, c, rfl, s3, hd⟩
      rw [hlen, Nat.sub_self] at hd
      obtain ⟨a, xs, rfl, na, ha, hx⟩ := hd
      exact ⟨_, rfl, k a xs _ na (sH2.trans s3) ha hx⟩
abbrev sCountC : Stmt := top 22
def spCountC : Sp := fun vs H Q _ => ∃ (n : Nat) (v : V) (b : List (List Int)) (bs : List (List (List Int))), vs = [.int n, v] ∧ n ≤ 1000 ∧ RwL H v (b :: bs) ∧ b.length ≤ 100000 ∧ bs.length ≤ 1000 ∧ OkTails bs ∧ ∀ H', Same H H' → Q (.int (countC n (b :: bs))) H'
abbrev nCountC : List Str := ["places", "choices", "ways", "room"]
theorem scCountC : FnScope nCountC ["places", "choices"] (defScope sCountC) := ⟨rfl, rfl, rfl, by decide +kernel, rfl, by decide +kernel, by decide +kernel⟩
theorem ok_countC (F : DefC K mg "count_choices" sCountC ["places", "choices"]) (B : Bl mg) (cT : Cal P w K mg base 3 "tail_ways" spTails) (cC : Cal P w K mg base 1 "complement" spComplement) : Cal P w K mg base 4 "count_choices" spCountC := by
  refine cal_mk F scCountC (fun vs H Q E h => ?_) (fun f cdv A outer s H vs Q E hr h => ?_)
  · obtain ⟨n, v, b, bs, rfl, _⟩ := h
    rfl
  · obtain ⟨n, v, b, bs, rfl, hn, ⟨ch, xc, rfl, hch, hxc⟩, hbl, hl, ok, k⟩ := h
    have hu := hu_of hr
    have nd := scCountC.nd
    refine ⟨_, pss_cons (ps_set (i := 2) nd rfl (Or.inr rfl) (pe_ix ix_list (pe_c cT hr (Nat.le_refl _) (pa_cons (pv 1) pa_nil)) pe_int (fun _ _ => rfl)))
      (pss_one (ps_ret (b_sum B (pe_lc (own := [("room", 3)]) (g := gName 3) (tt := tYes) rfl nd (pi_tup (pe_ix ix_list (pv 1) pe_int (fun _ _ => rfl)))
        (blkOk_by (N := nCountC) (sc := defScope sCountC) (by decide +kernel)) (fun _ _ _ _ _ => pg_name (i := 3) nd rfl (Or.inl rfl)) (fun _ _ _ _ _ => pts_nil)
        (fun _ _ _ _ _ => pe_dget2 hu (pv 2) (pe_c cC hr (by decide) (pa_cons (pv 0) (pa_cons (pv 3) pa_nil))) pe_int ⟨rfl, rfl, rfl, rfl⟩))))), ?_⟩
    refine ⟨_, rfl, .ref ch, b, bs, rfl, ⟨ch, xc, rfl, hch, hxc⟩, hl, ok, fun a1 x1 H1 na1 s1 ha1 hx1 => ?_⟩
    obtain ⟨t, ts, ht⟩ := tailsW_ne bs
    rw [ht] at hx1
    cases hx1 with
    | @cons z _ zs _ hz0 hzs =>
    cases hxc with
    | @cons x _ xs _ hx0 hxs =>
    obtain ⟨tb, xb, rfl, htb, hxb⟩ := hx0.same s1
    obtain ⟨dz, rfl, _, hdz⟩ := hz0
    refine ⟨a1, _, 0, .ref dz, rfl, rfl, SqL.mk ha1, atI_zero, ?_⟩
    refine ⟨_, rfl, ch, _, 0, .ref tb, rfl, rfl, SqL.mk (s1 _ _ hch), atI_zero, tb, rfl, ⟨_, SqT.mk htb⟩, fun D hD => ?_⟩
    refine lc_build walk_tup b (paired_len hxb) (fun r => [getD t ((rng n).filter fun p => decide (p ∉ r))]) (stab_int D) hbl hD (fun H2 s2 => SqT.mk (s2 _ _ htb)) (fun i s x H2 H' k1 k0 es s2 y q1 q0 => ?_) (fun xs H3 s3 hx hp => ?_)
    · obtain ⟨rfl, hy⟩ := y
      obtain ⟨r, hr2, hrm⟩ := paired_get hxb hy
      obtain rfl : r = s := by rw [es] at hr2; exact (Option.some.inj hr2).symm
      refine ⟨rfl, yesT ?_⟩
      refine ⟨_, rfl, dz, rfl, isD_r (.inl (s2 _ _ hdz)), _, rfl, _, rfl, n, x, r, rfl, hn, hrm.same s2, fun v' H4 s4 hv => ?_⟩
      refine ⟨_, dget_r (s4 _ _ (s2 _ _ hdz)) hv, ?_⟩
      rw [getD_int]
      exact q1 _ _ s4 _ rfl rfl
    · rw [flatMap_one] at hp
      refine ⟨D, _, rfl, SqL.mk (by rw [hx, paired_isI hp]), ?_⟩
      have e : (b.map fun r => getD t ((rng n).filter fun p => decide (p ∉ r))).sum = countC n (b :: bs) := by
        show _ = (match tailsW bs with | [] => 0 | t :: _ => (b.map fun r => getD t ((rng n).filter fun p => decide (p ∉ r))).sum)
        rw [ht]
      rw [e]
      exact k _ (s1.trans s3)
end
end NA
/-! face_counts, _law_odd_faces. -/
namespace NA
open PySem PySem.Spec PyProof.Rows L2
def incF (w : Ways) (k : List Int) : Ways := putA w k (getD w k + 1)
def togF (w : Ways) (k : List Int) : Ways := putA w k (1 - getD w k)
def tallyF (rooms : List (List Int)) : Ways := (rooms.flatMap faces).foldl incF []
def togs (rooms : List (List Int)) : Ways := (rooms.flatMap faces).foldl togF []
theorem putA_nd {β : Type} {es : List (List Int × β)} (k : List Int) (v : β) (h : (es.map (·.1)).Nodup) : ((putA es k v).map (·.1)).Nodup := by
  unfold putA
  split
  · rw [List.map_map]
    have : ((fun x : List Int × β => x.1) ∘ fun e => if e.1 = k then (e.1, v) else e) = fun e => e.1 := by
      funext e
      show (if e.1 = k then (e.1, v) else e).1 = e.1
      split <;> rfl
    rw [this]
    exact h
  · rename_i hn
    rw [List.map_append, List.nodup_append]
    refine ⟨h, by simp, fun a ha b hb => ?_⟩
    rw [List.map_cons, List.map_nil, List.mem_singleton] at hb
    subst hb
    intro e
    subst e
    apply hn
    obtain ⟨x, hx, e⟩ := List.mem_map.mp ha
    exact List.any_eq_true.mpr ⟨x, hx, decide_eq_true e⟩
theorem foldl_nd {f : Ways → List Int → Ways} (hf : ∀ w k, (w.map (·.1)).Nodup → ((f w k).map (·.1)).Nodup) : ∀ (l : List (List Int)) (w : Ways), (w.map (·.1)).Nodup → ((l.foldl f w).map (·.1)).Nodup
  | [], _, h => h
  | k :: l, w, h => foldl_nd hf l (f w k) (hf w k h)
theorem tallyF_nd (rooms : List (List Int)) : ((tallyF rooms).map (·.1)).Nodup := foldl_nd (fun w k h => putA_nd _ _ h) _ _ List.nodup_nil
theorem togs_nd (rooms : List (List Int)) : ((togs rooms).map (·.1)).Nodup := foldl_nd (fun w k h => putA_nd _ _ h) _ _ List.nodup_nil
theorem foldl_len {f : Ways → List Int → Ways} (hf : ∀ w k, (f w k).length ≤ w.length + 1) : ∀ (l : List (List Int)) (w : Ways), (l.foldl f w).length ≤ w.length + l.length
  | [], _ => Nat.le_refl _
  | k :: l, w => by
    have h1 := foldl_len hf l (f w k)
    have h2 := hf w k
    rw [List.foldl_cons, List.length_cons]
    omega
theorem foldl_one {α γ : Type} (f : γ → α → γ) (l : List α) (x : α) (a : γ) : (l ++ [x]).foldl f a = f (l.foldl f a) x := by
  rw [List.foldl_append] <;> rfl
theorem flatMap_snoc {α β : Type} {l : List α} {i : Nat} {x : α} (h : l[i]? = some x) (f : α → List β) : (l.take (i + 1)).flatMap f = (l.take i).flatMap f ++ f x := by
  rw [take_snoc h, List.flatMap_append, List.flatMap_cons, List.flatMap_nil, List.append_nil]
theorem sub_flat {α β : Type} (f : α → List β) (l : List α) (i : Nat) : ((l.take i).flatMap f).length ≤ (l.flatMap f).length := by
  have e : l.flatMap f = (l.take i).flatMap f ++ (l.drop i).flatMap f := by rw [← List.flatMap_append, List.take_append_drop]
  rw [e, List.length_append]
  omega
/-- [k for k in d if ..d[k]..] -/
theorem rd_keys {K : PySem.W.Frag} {σ : L2.St} {H : Hp} {Q : VK} {d : Addr} {es : Ways} {i j : Nat} {tt : TT} (p : Int → Bool) (hd : H d = some (.dT (encA V.int es))) (hi : σ[i]? = some (some (.ref d))) (hz : es.length ≤ 100000)
    (hw : ∀ x, wipe ((wipe σ [j]).set j (some x)) [j] = wipe σ [j]) (hj : ∀ x, ((wipe σ [j]).set j (some x))[j]? = some (some x))
    (test : ∀ (od : Obj) (e : List Int × Int) (q : Addr) (H' : Hp) (k : Bool → Hp → Prop), e ∈ es → H' d = some (.frz od (.dT (encA V.int es))) → H' q = some (.tup (e.1.map V.int)) → k (p e.2) H' → tt ((wipe σ [j]).set j (some (.ref q))) H' k)
    (done : ∀ D xs H', H D = none → Same H H' → H' D = some (.lst xs) → Rms H' xs ((es.filter fun e => p e.2).map (·.1)) → Q (.ref D) H') : tLockE (tLc (iKeys (tVar i)) (gName j) tt (tVar j) [j]) σ H Q := by
  refine ⟨d, .dT (encA V.int es), hd, trivial, fun od => ?_⟩
  refine ⟨_, hi, d, od, rfl, Or.inr ⟨_, upd_same, fun D hD => ?_⟩⟩
  have hDd : D ≠ d := fun z => by rw [z, upd_same] at hD; cases hD
  have hD0 : H D = none := by rw [upd_ne hDd] at hD; exact hD
  refine lc_build walk_keysT es (encA_length _ _) (fun e => if p e.2 = true then [e.1] else []) (stab_rm D) hz hD (fun H' s => s _ _ upd_same) (fun i s x H1 H' k1 k0 ei s1 y q1 q0 => ?_) (fun xs H' s1 hx hp => ?_)
  · obtain ⟨rfl, ky, vy, q, hk, rfl, hq⟩ := y
    obtain ⟨e, hie, rfl, rfl⟩ := enc_at hk
    rw [keyR_v] at hq
    obtain rfl : e = s := by rw [ei] at hie; exact (Option.some.inj hie).symm
    refine ⟨hw _, test od e q _ _ (List.mem_of_getElem? hie) (s1 _ _ upd_same) hq ?_⟩
    cases hp : p e.2 with
    | true =>
      refine ⟨_, hj _, q1 _ _ (Same.refl _) e.1 (by rw [hp]; rfl) ⟨q, rfl, hq⟩⟩
    | false => exact q0 _ (Same.refl _) (by rw [hp]; rfl)
  · refine ⟨s1 _ _ upd_same, done D xs _ hD0 (lock_same hd s1) (by rw [upd_ne hDd]; exact hx) ?_⟩
    rw [flatMap_ifm (fun e : List Int × Int => p e.2) (fun e : List Int × Int => e.1)] at hp
    refine Paired.mono' (fun v r h => ?_) hp
    obtain ⟨t, e, h⟩ := h
    refine ⟨t, e, ?_⟩
    rw [upd_ne (fun z => by rw [z, s1 _ _ upd_same] at h; cases h)]
    exact h
section
variable {P : Program} {w : World} {K : PySem.W.Frag} {mg : Str → Option Value} {base : Heap}
abbrev sFc : Stmt := top 27
def spFc : Sp := fun vs H Q _ => ∃ v b, vs = [v] ∧ Rw H v b ∧ (∀ r ∈ b, r.length ≤ 1000) ∧ (b.flatMap faces).length ≤ 100000 ∧ ∀ v' H', Same H H' → DcI H' v' (tallyF b) → Q v' H'
theorem scFc : FnScope ["rooms", "counts", "room", "face"] ["rooms"] (defScope sFc) := ⟨rfl, rfl, rfl, by decide +kernel, rfl, by decide +kernel, by decide +kernel⟩
theorem ok_fc (F : DefC K mg "face_counts" sFc ["rooms"]) (B : Bl mg) (cF : Cal P w K mg base 1 "faces" spFaces) : Cal P w K mg base 2 "face_counts" spFc := by
  refine cal_mk F scFc (fun vs H Q E h => ?_) (fun f cdv A outer s H vs Q E hr h => ?_)
  · obtain ⟨v, b, rfl, _⟩ := h
    rfl
  · obtain ⟨v, b, rfl, ⟨tb, xb, rfl, htb, hxb⟩, hb, hz, k⟩ := h
    have hu := hu_of hr
    have nd := scFc.nd
    refine ⟨_, pss_cons (ps_set (i := 1) nd rfl (Or.inl rfl) pe_dnewT)
      (pss_cons (ps_for PassesOwn.never rfl (pi_tup (pv 0)) (pg_name (i := 2) nd rfl (Or.inl rfl))
        (pss_one (ps_for PassesOwn.never rfl (pi_list (pe_c cF hr (Nat.le_refl _) (pa_cons (pv 2) pa_nil))) (pg_name (i := 3) nd rfl (Or.inl rfl))
          (pss_one (ps_dput hu (pv 1) (pv 3) (pe_op op_add (pe_dget2 hu (pv 1) (pv 3) pe_int ⟨rfl, rfl, rfl, rfl⟩) pe_int) rfl)))))
      (pss_one (ps_ret (pv 1)))), ?_⟩
    intro l nl
    refine ⟨_, rfl, tb, rfl, ⟨_, SqT.mk (Same.new nl _ _ htb)⟩, for_tup (K := K) (a := tb) (xs := xb) (fun i σ H' => ∃ a c, σ = [some (.ref tb), some (.ref l), a, c] ∧ Same H H' ∧ H' l = some (.dT (encA V.int (((b.take i).flatMap faces).foldl incF []))))
      ⟨none, none, rfl, Same.new nl, upd_same⟩ (fun i σ H' _ p => by obtain ⟨_, _, _, s1, _⟩ := p; exact SqT.mk (s1 _ _ htb)) ?_ ?_⟩
    · rintro i x σ H1 hi ⟨a, c, rfl, s1, hl1⟩
      obtain ⟨r, hir, hrm⟩ := paired_get hxb hi
      refine ⟨_, rfl, x, r, rfl, hrm.same s1, hb r (List.mem_of_getElem? hir), fun v' H2 s2 h2 => ?_⟩
      obtain ⟨fa, xf, rfl, hfa, hxf⟩ := h2
      refine ⟨fa, rfl, ⟨_, SqL.mk hfa⟩, for_list (K := K) (a := fa) (xs := xf) (fun j σ H' => ∃ c, σ = [some (.ref tb), some (.ref l), some x, c] ∧ Same H H' ∧ (∃ D, H' fa = some (.lst xf) ∧ D = fa) ∧ Rms H' xf (faces r) ∧ H' l = some (.dT (encA V.int (((b.take i).flatMap faces ++ (faces r).take j).foldl incF []))))
        ⟨c, rfl, s1.trans s2, ⟨_, hfa, rfl⟩, hxf, by rw [List.take_zero, List.append_nil]; exact s2 _ _ hl1⟩ (fun j σ H' _ p => by obtain ⟨_, _, _, ⟨_, h, _⟩, _⟩ := p; exact SqL.mk h) ?_ ?_⟩
      · rintro j y σ H3 hj ⟨c, rfl, s3, ⟨_, hfa3, _⟩, hxf3, hl3⟩
        obtain ⟨g, hjg, hgm⟩ := paired_get hxf3 hj
        refine ⟨_, rfl, l, rfl, isD_r (.inl hl3), _, rfl, _, dget_r hl3 hgm, ?_⟩
        rw [getD_int]
        refine ⟨_, _, rfl, rfl, _, rfl, _, rfl, l, _, rfl, dput_r hl3 hgm ?_ _, ?_⟩
        · have h1 := foldl_len (f := incF) (fun w k => putA_len _ _ _) ((b.take i).flatMap faces ++ (faces r).take j) []
          have h2 : ((b.take i).flatMap faces ++ (faces r).take (j + 1)).length ≤ (b.flatMap faces).length := by
            have h3 := sub_flat faces b (i + 1)
            rw [flatMap_snoc hir] at h3
            refine Nat.le_trans ?_ h3
            rw [List.length_append, List.length_append, List.length_take]
            omega
          have h4 : ((b.take i).flatMap faces ++ (faces r).take (j + 1)).length = ((b.take i).flatMap faces ++ (faces r).take j).length + 1 := by
            rw [take_snoc hjg, ← List.append_assoc, List.length_append] <;> rfl
          rw [List.length_nil] at h1
          exact small_l (by omega)
        · refine ⟨_, rfl, Same.mut s3 nl, ⟨_, ?_, rfl⟩, ?_, ?_⟩
          · rw [upd_ne (fun z => by rw [z, hl3] at hfa3; cases hfa3)]
            exact hfa3
          · refine Paired.mono' (fun v r h => ?_) hxf3
            obtain ⟨t, e, h⟩ := h
            refine ⟨t, e, ?_⟩
            rw [upd_ne (fun z => by rw [z, hl3] at h; cases h)]
            exact h
          · rw [upd_same, take_snoc hjg, ← List.append_assoc, foldl_one] <;> rfl
      · rintro σ H3 ⟨c, rfl, s3, _, hxf3, hl3⟩
        refine ⟨_, _, rfl, s3, ?_⟩
        rw [flatMap_snoc hir, hl3, paired_len hxf3, List.take_length]
    · rintro σ H1 ⟨a, c, rfl, s1, hl1⟩
      rw [paired_len hxb, List.take_length] at hl1
      exact ⟨_, rfl, k _ _ s1 ⟨l, rfl, hl1⟩⟩
abbrev sOf : Stmt := top 43
def spOf : Sp := fun vs H Q _ => ∃ v b, vs = [v] ∧ RmL H v b ∧ (∀ r ∈ b, r.length ≤ 1000) ∧ (b.flatMap faces).length ≤ 100000 ∧ (∀ e ∈ togs b, e.2 ≠ 1) ∧ ∀ v' H', Same H H' → RmL H' v' [] → Q v' H'
abbrev nOf : List Str := ["_law_rooms_here", "_law_known", "_law_room", "_law_k", "_law_face"]
theorem scOf : FnScope nOf ["_law_rooms_here"] (defScope sOf) := ⟨rfl, rfl, rfl, by decide +kernel, rfl, by decide +kernel, by decide +kernel⟩
theorem faces_at {r : List Int} {j : Nat} (h : j < r.length) : (faces r)[j]? = some (r.eraseIdx j) := by
  unfold faces
  rw [List.getElem?_map, List.getElem?_range h] <;> rfl
theorem ok_of (F : DefC K mg "_law_odd_faces" sOf ["_law_rooms_here"]) (B : Bl mg) : Cal P w K mg base 2 "_law_odd_faces" spOf := by
  refine cal_mk F scOf (fun vs H Q E h => ?_) (fun f cdv A outer s H vs Q E hr h => ?_)
  · obtain ⟨v, b, rfl, _⟩ := h
    rfl
  · obtain ⟨v, b, rfl, ⟨tb, xb, rfl, htb, hxb⟩, hb, hz, hev, k⟩ := h
    have hu := hu_of hr
    have nd := scOf.nd
    refine ⟨_, pss_cons (ps_set (i := 1) nd rfl (Or.inr rfl) pe_dnewT)
      (pss_cons (ps_for PassesOwn.never rfl (pi_list (pv 0)) (pg_name (i := 2) nd rfl (Or.inl rfl))
        (pss_one (ps_for PassesOwn.never rfl (pi_range1 rfl B.range (pa_cons (b_len B (pv 2)) pa_nil)) (pg_name (i := 3) nd rfl (Or.inl rfl))
          (pss_cons (ps_set (i := 4) nd rfl (Or.inl rfl) (pe_op op_catA (pe_slice sl_tupA (pv 2) po_none (po_some (pv 3))) (pe_slice sl_tupA (pv 2) (po_some (pe_op op_add (pv 3) pe_int)) po_none)))
          (pss_one (ps_dput hu (pv 1) (pv 4) (pe_op op_sub pe_int (pe_dget2 hu (pv 1) (pv 4) pe_int ⟨rfl, rfl, rfl, rfl⟩)) rfl))))))
      (pss_one (ps_ret (b_sortR B hr (pe_lock (pe_lc (own := [("_law_face", 4)]) (g := gName 4) rfl nd (pi_keys (pv 1)) (blkOk_by (N := nOf) (sc := defScope sOf) (by decide +kernel))
        (fun _ _ _ _ _ => pg_name (i := 4) nd rfl (Or.inl rfl)) (fun _ _ _ _ _ => pts_one (pt_cmpR op_eq (pe_dget hu (pv 1) (pv 4) (fun _ _ => rfl)) pe_int (nomark _))) (fun _ _ _ _ _ => pv 4))))))), ?_⟩
    intro l nl
    refine ⟨_, rfl, tb, rfl, ⟨_, SqL.mk (Same.new nl _ _ htb)⟩, for_list (K := K) (a := tb) (xs := xb) (fun i σ H' => ∃ a c e, σ = [some (.ref tb), some (.ref l), a, c, e] ∧ Same H H' ∧ H' l = some (.dT (encA V.int (((b.take i).flatMap faces).foldl togF []))))
      ⟨none, none, none, rfl, Same.new nl, upd_same⟩ (fun i σ H' _ p => by obtain ⟨_, _, _, _, s1, _⟩ := p; exact SqL.mk (s1 _ _ htb)) ?_ ?_⟩
    · rintro i x σ H1 hi ⟨a, c, e, rfl, s1, hl1⟩
      obtain ⟨r, hir, hrm⟩ := paired_get hxb hi
      obtain ⟨tr, rfl, htr⟩ := hrm
      have hrl := hb r (List.mem_of_getElem? hir)
      refine ⟨_, rfl, tr, _, rfl, Or.inr (SqT.mk (s1 _ _ htr)), _, rfl, by omega, by rw [List.length_map]; omega, for_range (lo := 0) (n := ((r.map V.int).length : Int).toNat) (fun j σ H' => ∃ c e, σ = [some (.ref tb), some (.ref l), some (.ref tr), c, e] ∧ Same H H' ∧ H' l = some (.dT (encA V.int (((b.take i).flatMap faces ++ (faces r).take j).foldl togF []))))
        ⟨c, e, rfl, s1, by rw [List.take_zero, List.append_nil]; exact hl1⟩ ?_ ?_⟩
      · rintro j σ H3 hj ⟨c, e, rfl, s3, hl3⟩
        rw [List.length_map, Int.toNat_natCast] at hj
        have hjg := faces_at hj
        rw [Int.zero_add]
        refine ⟨_, rfl, _, rfl, _, rfl, ?_⟩
        refine rd_slL (s3 _ _ htr) j (by rw [List.length_map]; omega) fun p1 H4 s4 h4 => ?_
        refine ⟨_, rfl, _, rfl, _, _, rfl, rfl, _, rfl, ?_⟩
        refine noPart ?_
        rw [show ((j : Int) + 1) = ((j + 1 : Nat) : Int) from rfl]
        refine rd_slR (s4 _ _ (s3 _ _ htr)) (j + 1) (by rw [List.length_map]; omega) fun p2 H5 s5 h5 => ?_
        refine rd_cat (s5 _ _ h4) h5 ?_ fun p3 H6 s6 h6 => ?_
        · rw [List.length_take, List.length_drop, List.length_map]
          exact small_n (by omega)
        rw [cutE] at h6
        have s36 := (s4.trans s5).trans s6
        have hl6 := s36 _ _ hl3
        have hgm : Rm H6 (.ref p3) (r.eraseIdx j) := ⟨p3, rfl, h6⟩
        refine ⟨_, rfl, l, rfl, isD_r (.inl hl6), _, rfl, _, dget_r hl6 hgm, ?_⟩
        rw [getD_int]
        refine ⟨_, _, rfl, rfl, _, rfl, _, rfl, l, _, rfl, dput_r hl6 hgm ?_ _, ?_⟩
        · have h1 := foldl_len (f := togF) (fun w k => putA_len _ _ _) ((b.take i).flatMap faces ++ (faces r).take j) []
          have h2 : ((b.take i).flatMap faces ++ (faces r).take (j + 1)).length ≤ (b.flatMap faces).length := by
            have h3 := sub_flat faces b (i + 1)
            rw [flatMap_snoc hir] at h3
            refine Nat.le_trans ?_ h3
            rw [List.length_append, List.length_append, List.length_take]
            omega
          have h4 : ((b.take i).flatMap faces ++ (faces r).take (j + 1)).length = ((b.take i).flatMap faces ++ (faces r).take j).length + 1 := by
            rw [take_snoc hjg, ← List.append_assoc, List.length_append] <;> rfl
          rw [List.length_nil] at h1
          exact small_l (by omega)
        · refine ⟨_, _, rfl, Same.mut (s3.trans s36) nl, ?_⟩
          rw [upd_same, take_snoc hjg, ← List.append_assoc, foldl_one] <;> rfl
      · rintro σ H3 ⟨c, e, rfl, s3, hl3⟩
        refine ⟨_, _, _, rfl, s3, ?_⟩
        rw [List.length_map, Int.toNat_natCast] at hl3
        have e1 : (faces r).length = r.length := by unfold faces; rw [List.length_map, List.length_range]
        rw [flatMap_snoc hir, hl3, ← e1, List.take_length]
    · rintro σ H1 ⟨a, c, e, rfl, s1, hl1⟩
      rw [paired_len hxb, List.take_length] at hl1
      have hl1' : H1 l = some (.dT (encA V.int (togs b))) := hl1
      have hzt : (togs b).length ≤ 100000 := by
        have h1 := foldl_len (f := togF) (fun w k => putA_len _ _ _) (b.flatMap faces) []
        rw [List.length_nil] at h1
        show ((b.flatMap faces).foldl togF []).length ≤ _
        omega
      refine rd_keys (K := K) (i := 1) (j := 4) (fun n => decide (V.int n = V.int 1)) hl1' rfl hzt (fun x => rfl) (fun x => rfl) (fun od e q H2 k2 he h2 hq kk => ?_) (fun D xs H2 nD s2 hx hp => ?_)
      · have hg := dget_rd (f := V.int) (es := togs b) (a := l) (r := e.1) (v := .ref q) (.inr ⟨od, h2⟩) (H := H2) ⟨q, rfl, hq⟩
        rw [getA_mem (togs_nd b) he] at hg
        exact ⟨_, rfl, _, rfl, l, .int e.2, rfl, hg, rfl, _, rfl, kk⟩
      · have e0 : ((togs b).filter fun e => decide (V.int e.2 = V.int 1)).map (·.1) = [] := by
          rw [List.filter_eq_nil_iff.mpr fun e he hd => ?_]
          · rfl
          · have := of_decide_eq_true hd
            injection this with h
            exact hev e he h
        rw [e0] at hp
        refine ⟨D, xs, [], rfl, Or.inl hx, hp, (fun r hr => by cases hr), fun p zs np hzs => ?_⟩
        exact k _ _ ((s1.trans s2).trans (Same.new np)) ⟨p, zs, rfl, upd_same, by
          have : srtR [] = [] := by simp [srtR]
          rw [this] at hzs
          cases hzs
          exact .nil⟩
end
end NA
/-! The draws: _law_cell, _law_sizes, _law_order, _law_rooms, _law_even_rooms. -/
namespace NA
open PySem PySem.Spec PyProof.Rows L2
def combos : Nat → List Int → List (List Int)
  | 0, _ => [[]]
  | s + 1, items => (List.range (items.length - s)).flatMap fun k => (combos s (items.drop (k + 1))).map ((items.getD k 0) :: ·)
theorem combos_el : ∀ (s : Nat) (items : List Int), ∀ r ∈ combos s items, r.length = s
  | 0, items, r, h => by
    rw [combos, List.mem_singleton] at h
    rw [h]; rfl
  | s + 1, items, r, h => by
    rw [combos, List.mem_flatMap] at h
    obtain ⟨k, _, h⟩ := h
    obtain ⟨q, hq, rfl⟩ := List.mem_map.mp h
    rw [List.length_cons, combos_el s _ q hq]
theorem pow_sum (f : Nat → Nat) (n : Nat) : ∀ m, m ≤ n → (∀ k, k < m → f k ≤ 2 ^ (n - 1 - k)) → ((List.range m).map f).sum + 2 ^ (n - m) ≤ 2 ^ n
  | 0, _, _ => by simp
  | m + 1, hm, hf => by
    have ih := pow_sum f n m (by omega) fun k hk => hf k (by omega)
    have h1 := hf m (by omega)
    rw [List.range_succ, List.map_append, List.sum_append]
    have e : 2 ^ (n - m) = 2 ^ (n - 1 - m) + 2 ^ (n - (m + 1)) := by
      have e1 : n - m = (n - 1 - m) + 1 := by omega
      have e2 : n - (m + 1) = n - 1 - m := by omega
      rw [e2, e1, Nat.pow_succ]; omega
    rw [e] at ih
    simp only [List.map_cons, List.map_nil, List.sum_cons, List.sum_nil]
    omega
theorem combos_len : ∀ (s : Nat) (items : List Int), (combos s items).length ≤ 2 ^ items.length
  | 0, items => by rw [combos]; exact Nat.one_le_two_pow
  | s + 1, items => by
    rw [combos, List.length_flatMap]
    have h := pow_sum (fun k => ((combos s (items.drop (k + 1))).map ((items.getD k 0) :: ·)).length) items.length (items.length - s) (by omega) fun k hk => by
      show ((combos s (items.drop (k + 1))).map _).length ≤ _
      rw [List.length_map]
      have ih := combos_len s (items.drop (k + 1))
      rw [List.length_drop] at ih
      have : items.length - (k + 1) = items.length - 1 - k := by omega
      rw [this] at ih
      exact ih
    exact Nat.le_trans (Nat.le_add_right _ _) h
section
variable {P : Program} {w : World} {K : PySem.W.Frag} {mg : Str → Option Value} {base : Heap}
abbrev sRooms : Stmt := top 38
abbrev nRooms : List Str := ["_law_items", "_law_size", "_law_found", "_law_k", "_law_rest"]
def spRooms (s : Nat) : Sp := fun vs H Q _ => ∃ v items, vs = [v, .int s] ∧ Rm H v items ∧ items.length ≤ 12 ∧ s ≤ 100 ∧ ∀ a xs H', H a = none → Same H H' → H' a = some (.lst xs) → Rms H' xs (combos s items) → Q (.ref a) H'
theorem scRooms : FnScope nRooms ["_law_items", "_law_size"] (defScope sRooms) := ⟨rfl, rfl, rfl, by decide +kernel, rfl, by decide +kernel, by decide +kernel⟩
theorem getD_at {l : List Int} {i : Nat} (h : i < l.length) : (l.map V.int)[i]? = some (V.int (l.getD i 0)) := by
  rw [List.getElem?_map]
  simp [h, List.getD]
theorem ok_rooms (F : DefC K mg "_law_rooms" sRooms ["_law_items", "_law_size"]) (B : Bl mg) : ∀ s : Nat, Cal P w K mg base (s + 1) "_law_rooms" (spRooms s)
  | 0 => by
    refine cal_mk F scRooms (fun vs H Q E h => ?_) (fun f cdv A outer s H vs Q E hr h => ?_)
    · obtain ⟨v, items, rfl, _⟩ := h
      rfl
    · obtain ⟨v, items, rfl, hv, hl, hs, k⟩ := h
      refine ⟨_, pss_cons (ps_if (pt_cmpR op_eq (pv 1) pe_int (nomark _)) (pss_one (ps_ret (pe_lst (pa_cons (pe_tup pa_nil) pa_nil)))) pss_nil) pss_never, ?_⟩
      refine ⟨_, rfl, rfl, _, rfl, ?_⟩
      refine iteT ?_
      refine ⟨by decide, fun q nq => ⟨by show 1 ≤ sizeLine; decide, fun p np => ?_⟩⟩
      exact k p _ _ ((Same.new nq).free np) ((Same.new nq).trans (Same.new np)) upd_same (.cons ⟨q, rfl, by rw [upd_ne (fun z => by rw [z, upd_same] at np; cases np), upd_same]; rfl⟩ .nil)
  | s + 1 => by
    have cR := ok_rooms F B s
    refine cal_mk F scRooms (fun vs H Q E h => ?_) (fun f cdv A outer sh H vs Q E hr h => ?_)
    · obtain ⟨v, items, rfl, _⟩ := h
      rfl
    · obtain ⟨v, items, rfl, ⟨t, rfl, ht⟩, hl, hs, k⟩ := h
      have nd := scRooms.nd
      refine ⟨_, pss_cons (ps_if (pt_cmpR op_eq (pv 1) pe_int (nomark _)) (pss_one (ps_ret (pe_lst (pa_cons (pe_tup pa_nil) pa_nil)))) pss_nil)
        (pss_cons (ps_set (i := 2) nd rfl (Or.inl rfl) (pe_lst pa_nil))
        (pss_cons (ps_for PassesOwn.never rfl (pi_range1 rfl B.range (pa_cons (pe_op op_add (pe_op op_sub (b_len B (pv 0)) (pv 1)) pe_int) pa_nil)) (pg_name (i := 3) nd rfl (Or.inl rfl))
          (pss_one (ps_for PassesOwn.never rfl (pi_list (pe_c cR hr (Nat.le_refl _) (pa_cons (pe_slice sl_tupA (pv 0) (po_some (pe_op op_add (pv 3) pe_int)) po_none) (pa_cons (pe_op op_sub (pv 1) pe_int) pa_nil)))) (pg_name (i := 4) nd rfl (Or.inl rfl))
            (pss_one (ps_expr (pe_bm PySem.F.plainAttrs_list PySem.F.slot_list_append PySem.F.type_list_append mt_append (pv 2)
              (pa_cons (pe_op op_catA (pe_tup (pa_cons (pe_ix ix_tup (pv 0) (pv 3) (fun _ _ => rfl)) pa_nil)) (pv 4)) pa_nil)))))))
        (pss_one (ps_ret (pv 2))))), ?_⟩
      refine ⟨_, rfl, rfl, _, rfl, ?_⟩
      have h0 : ¬ (V.int ((s + 1 : Nat) : Int) = V.int 0) := fun z => by injection z with z; omega
      rw [decide_eq_false h0]
      refine iteF ?_
      refine ⟨by decide, fun l nl => ?_⟩
      have sl := Same.new (o := .lst []) nl
      refine ⟨_, rfl, t, _, rfl, Or.inr (SqT.mk (sl _ _ ht)), _, rfl, _, _, rfl, rfl, _, _, rfl, rfl, _, rfl, by rw [List.length_map]; omega, by rw [List.length_map]; omega, ?_⟩
      have en : (((items.map V.int).length : Int) - ((s + 1 : Nat) : Int) + 1).toNat = items.length - s := by rw [List.length_map]; omega
      rw [en]
      refine for_range (lo := 0) (n := items.length - s) (fun i σ H' => ∃ a b xs, σ = [some (.ref t), some (.int ((s + 1 : Nat) : Int)), some (.ref l), a, b] ∧ Same H H' ∧ H' l = some (.lst xs) ∧ Rms H' xs (((List.range (items.length - s)).take i).flatMap fun k => (combos s (items.drop (k + 1))).map ((items.getD k 0) :: ·)))
        ⟨none, none, [], rfl, sl, upd_same, .nil⟩ ?_ ?_
      · rintro i σ H1 hi ⟨a, b, xs, rfl, s1, hx, hp⟩
        rw [Int.zero_add]
        have hil : i < items.length := by omega
        refine ⟨_, rfl, ⟨_, rfl, _, _, rfl, rfl, _, rfl, ?_⟩⟩
        refine noPart ?_
        rw [show ((i : Int) + 1) = ((i + 1 : Nat) : Int) from rfl]
        refine rd_slR (s1 _ _ ht) (i + 1) (by rw [List.length_map]; omega) fun p1 H2 s2 h2 => ?_
        rw [← List.map_drop] at h2
        refine ⟨_, rfl, _, _, rfl, rfl, .ref p1, items.drop (i + 1), ?_, ⟨p1, rfl, h2⟩, by rw [List.length_drop]; omega, by omega, fun fa xf H3 nfa s3 hfa hxf => ?_⟩
        · show [V.ref p1, V.int (((s + 1 : Nat) : Int) - 1)] = [V.ref p1, V.int (s : Int)]
          rw [show ((s + 1 : Nat) : Int) - 1 = (s : Int) by omega]
        have s13 := s2.trans s3
        have hrange : (List.range (items.length - s))[i]? = some i := List.getElem?_range hi
        refine ⟨fa, rfl, ⟨_, SqL.mk hfa⟩, for_list (K := K) (a := fa) (xs := xf) (fun j σ H' => ∃ b xs, σ = [some (.ref t), some (.int ((s + 1 : Nat) : Int)), some (.ref l), some (.int i), b] ∧ Same H H' ∧ H' l = some (.lst xs) ∧ (∃ D, H' fa = some (.lst xf) ∧ D ≠ fa ∧ D = l) ∧ Rms H' xf (combos s (items.drop (i + 1))) ∧
            Rms H' xs ((((List.range (items.length - s)).take i).flatMap fun k => (combos s (items.drop (k + 1))).map ((items.getD k 0) :: ·)) ++ ((combos s (items.drop (i + 1))).take j).map ((items.getD i 0) :: ·)))
          ⟨b, xs, rfl, s1.trans s13, s13 _ _ hx, ⟨l, hfa, ?_, rfl⟩, hxf, by rw [List.take_zero, List.map_nil, List.append_nil]; exact Rms.same s13 hp⟩ (fun j σ H' _ p => by obtain ⟨_, _, _, _, _, ⟨_, h, _⟩, _⟩ := p; exact SqL.mk h) ?_ ?_⟩
        · exact fun z => by rw [← z, s2 _ _ hx] at nfa; cases nfa
        · rintro j y σ H4 hj ⟨b, xs4, rfl, s4, hx4, ⟨_, hf4, hne, rfl⟩, hxf4, hp4⟩
          obtain ⟨g, hjg, hgm⟩ := paired_get hxf4 hj
          obtain ⟨tg, rfl, htg⟩ := hgm
          refine ⟨_, rfl, Or.inl ⟨rfl, _, SqL.mk hx4⟩, ?_⟩
          refine ⟨_, rfl, _, rfl, t, _, i, _, rfl, rfl, SqT.mk (s4 _ _ ht), atI_nat (getD_at hil), by show 1 ≤ sizeLine; decide, fun p5 n5 => ?_⟩
          have s5 := Same.new (o := .tup [V.int (items.getD i 0)]) n5
          refine ⟨_, rfl, ?_⟩
          refine rd_cat upd_same (s5 _ _ htg) ?_ fun p6 H6 s6 h6 => ?_
          · have hgl := combos_el _ _ g (List.mem_of_getElem? hjg)
            show 1 + (g.map V.int).length ≤ sizeLine
            rw [List.length_map]
            exact small_n (by omega)
          have s46 := s5.trans s6
          refine ⟨_, _, _, rfl, rfl, s46 _ _ hx4, ?_, ?_⟩
          · have h1 := paired_len hp4
            have h2 := combos_len (s + 1) items
            have h3 := sub_flat (fun k => (combos s (items.drop (k + 1))).map ((items.getD k 0) :: ·)) (List.range (items.length - s)) (i + 1)
            rw [flatMap_snoc hrange, List.length_append, List.length_map] at h3
            rw [List.length_append, List.length_map, List.length_take] at h1
            have h4 : 2 ^ items.length ≤ 2 ^ 12 := Nat.pow_le_pow_right (by decide) hl
            have h5 : (combos (s + 1) items).length = ((List.range (items.length - s)).flatMap fun k => (combos s (items.drop (k + 1))).map ((items.getD k 0) :: ·)).length := by rw [combos]
            rw [h5] at h2
            exact small_l (by omega)
          · refine ⟨_, _, rfl, Same.mut (s4.trans s46) nl, upd_same, ⟨_, by rw [upd_ne hne.symm]; exact s46 _ _ hf4, hne, rfl⟩, (stab_rm _).paired (s46 _ _ hx4) (Rms.same s46 hxf4), ?_⟩
            rw [take_snoc hjg, List.map_append, ← List.append_assoc]
            exact (stab_rm _).paired (s46 _ _ hx4) (paired_snoc (Rms.same s46 hp4) ⟨p6, rfl, h6⟩)
        · rintro σ H4 ⟨b, xs4, rfl, s4, hx4, _, hxf4, hp4⟩
          refine ⟨_, _, _, rfl, s4, hx4, ?_⟩
          rw [flatMap_snoc hrange]
          rw [paired_len hxf4, List.take_length] at hp4
          exact hp4
      · rintro σ H1 ⟨a, b, xs, rfl, s1, hx, hp⟩
        rw [List.take_of_length_le (by rw [List.length_range]; exact Nat.le_refl _)] at hp
        exact ⟨_, rfl, k l xs _ nl s1 hx hp⟩
end
end NA
/-! The draws: _law_even_rooms, _law_sizes, _law_order, _law_cell. -/
namespace NA
open PySem PySem.Spec PyProof.Rows L2
section
variable {X : Cx} {j : Nat} {p pos : Pos} {e : Expr} {ta : TE}
/-- int(n) -/
def rIntQ : List V → Hp → VK → Prop := fun xs H Q => ∃ i, xs = [.int i] ∧ Q (.int i) H
theorem b_int (B : Bl X.mg) (ha : PE X e ta) (hg : Gl X "int" := by rfl) (he : starEach [e] X.env = (false, eval e X.env) :: starEach [] X.env := by rfl) :
    PE X (.Call (.Name "int" p) [e] [] pos) (tCB rIntQ (tCons ta tNil)) :=
  pe_callTy (fun pins s σ H xs us Q I r h => call_int1 pins s σ H xs us Q I r (.inl h)) hg B.int (by decide +kernel) (pa_cons ha pa_nil he) (by decide) (by decide) he rfl
theorem b_abs (B : Bl X.mg) (ha : PE X e ta) (hg : Gl X "abs" := by rfl) (he : starEach [e] X.env = (false, eval e X.env) :: starEach [] X.env := by rfl) :
    PE X (.Call (.Name "abs" p) [e] [] pos) (tCB (fun xs H Q => ∃ i, xs = [.int i] ∧ Q (.int (if i < 0 then -i else i)) H) (tCons ta tNil)) :=
  pe_callB call_abs hg B.abs (by decide +kernel) (pa_cons ha pa_nil he) (by decide) (by decide) he rfl
end
/-- what a draw may make of chosen wholes -/
def evn (ws : List (List Int)) : List (List Int) := srtR (((togs ws).filter fun e => decide (e.2 = 1)).map (·.1))
def wholes (n s : Nat) : List (List Int) := (combos s (rng (n - 1))).map (· ++ [(n : Int) - 1])
theorem keys_foldl {f : Ways → List Int → Ways} (hf : ∀ w k e, e ∈ f w k → e.1 = k ∨ e.1 ∈ w.map (·.1)) : ∀ (l : List (List Int)) (w : Ways), ∀ e ∈ l.foldl f w, e.1 ∈ l ∨ e.1 ∈ w.map (·.1)
  | [], w, e, h => .inr (List.mem_map_of_mem h)
  | k :: l, w, e, h => by
    rcases keys_foldl hf l (f w k) e h with h | h
    · exact .inl (List.mem_cons_of_mem _ h)
    · obtain ⟨x, hx, he⟩ := List.mem_map.mp h
      rcases hf w k x hx with h | h
      · exact .inl (by rw [← he, h]; exact List.mem_cons_self)
      · exact .inr (by rw [← he]; exact h)
theorem putA_keys {β : Type} {es : List (List Int × β)} {k : List Int} {v : β} : ∀ e ∈ putA es k v, e.1 = k ∨ e.1 ∈ es.map (·.1) := by
  intro e he
  unfold putA at he
  split at he
  · obtain ⟨x, hx, rfl⟩ := List.mem_map.mp he
    right
    have h1 : x.1 ∈ es.map (·.1) := List.mem_map.mpr ⟨x, hx, rfl⟩
    split
    · exact h1
    · exact h1
  · rcases List.mem_append.mp he with h | h
    · exact .inr (List.mem_map_of_mem h)
    · rw [List.mem_singleton] at h
      exact .inl (by rw [h])
theorem togs_keys (b : List (List Int)) : ∀ e ∈ togs b, e.1 ∈ b.flatMap faces := fun e he => by
  rcases keys_foldl (f := togF) (fun w k e h => putA_keys e h) (b.flatMap faces) [] e he with h | h
  · exact h
  · cases h
theorem faces_len {r f : List Int} (h : f ∈ faces r) : f.length + 1 = r.length := by
  unfold faces at h
  obtain ⟨i, hi, rfl⟩ := List.mem_map.mp h
  rw [List.mem_range] at hi
  rw [List.length_eraseIdx, if_pos hi]
  omega
theorem faces_count (r : List Int) : (faces r).length = r.length := by unfold faces; rw [List.length_map, List.length_range]
theorem flatMap_len {α β : Type} (f : α → List β) (c : Nat) : ∀ l : List α, (∀ x ∈ l, (f x).length ≤ c) → (l.flatMap f).length ≤ l.length * c
  | [], _ => by simp
  | a :: l, h => by
    have h1 := flatMap_len f c l fun x hx => h x (List.mem_cons_of_mem _ hx)
    have h2 := h a List.mem_cons_self
    rw [List.flatMap_cons, List.length_append, List.length_cons, Nat.succ_mul]
    omega
theorem rgV_rng (n : Nat) : rgV 0 (n : Int) = (rng n).map V.int := by
  unfold rgV rng
  rw [List.map_map]
  have : ((n : Int) - 0).toNat = n := by omega
  rw [this]
  apply List.map_congr_left
  intro i _
  show V.int (0 + (i : Int)) = V.int (i : Int)
  rw [Int.zero_add]
section
variable {P : Program} {w : World} {K : PySem.W.Frag} {mg : Str → Option Value} {base : Heap}
abbrev sEven : Stmt := top 39
abbrev nEven : List Str := ["_law_n", "_law_size", "_law_cell_here", "_law_known", "_law_room", "_law_whole", "_law_k", "_law_face"]
def spEven : Sp := fun vs H Q _ => ∃ (n s : Nat) (c : Int), vs = [.int n, .int s, .int c] ∧ 1 ≤ s ∧ s ≤ 12 ∧ 1 ≤ n ∧ n ≤ 12 ∧ ∀ ws, ws.Sublist (wholes n s) → ∀ a xs H', H a = none → Same H H' → H' a = some (.lst xs) → Rms H' xs (evn ws) → Q (.ref a) H'
theorem scEven : FnScope nEven ["_law_n", "_law_size", "_law_cell_here"] (defScope sEven) := ⟨rfl, rfl, rfl, by decide +kernel, rfl, by decide +kernel, by decide +kernel⟩
theorem ok_even (F : DefC K mg "_law_even_rooms" sEven ["_law_n", "_law_size", "_law_cell_here"]) (B : Bl mg) (cR : ∀ s : Nat, Cal P w K mg base (s + 1) "_law_rooms" (spRooms s)) : Cal P w K mg base 14 "_law_even_rooms" spEven := by
  refine cal_mk F scEven (fun vs H Q E h => ?_) (fun f cdv A outer sh H vs Q E hr h => ?_)
  · obtain ⟨n, s, c, rfl, _⟩ := h
    rfl
  · obtain ⟨n, s, c, rfl, hs1, hs12, hn1, hn12, k⟩ := h
    have hu := hu_of hr
    have nd := scEven.nd
    refine ⟨_, pss_cons (ps_set (i := 3) nd rfl (Or.inr rfl) pe_dnewT)
      (pss_cons (ps_for PassesOwn.never rfl (pi_list (pe_c (cR s) hr (by omega) (pa_cons (pe_tupRg rfl rfl B.tuple (prg_1 rfl B.range (pe_op op_sub (pv 0) pe_int))) (pa_cons (pv 1) pa_nil)))) (pg_name (i := 4) nd rfl (Or.inl rfl))
        (pss_cons (ps_if (pt_cmpR op_eq (pe_op op_mod (b_int B (pv 2)) pe_int) pe_int (nomark _))
          (pss_cons (ps_set (i := 5) nd rfl (Or.inl rfl) (pe_op op_catA (pv 4) (pe_tup (pa_cons (pe_op op_sub (pv 0) pe_int) pa_nil))))
          (pss_one (ps_for PassesOwn.never rfl (pi_range1 rfl B.range (pa_cons (pe_op op_add (pv 1) pe_int) pa_nil)) (pg_name (i := 6) nd rfl (Or.inl rfl))
            (pss_cons (ps_set (i := 7) nd rfl (Or.inl rfl) (pe_op op_catA (pe_slice sl_tupA (pv 5) po_none (po_some (pv 6))) (pe_slice sl_tupA (pv 5) (po_some (pe_op op_add (pv 6) pe_int)) po_none)))
            (pss_one (ps_dput hu (pv 3) (pv 7) (pe_op op_sub pe_int (pe_dget2 hu (pv 3) (pv 7) pe_int ⟨rfl, rfl, rfl, rfl⟩)) rfl))))))
          pss_nil)
        (pss_one (ps_set (i := 2) nd rfl (Or.inl rfl) (pe_op op_fdiv (pv 2) pe_int)))))
      (pss_one (ps_ret (b_sortR B hr (pe_lock (pe_lc (own := [("_law_room", 4)]) (g := gName 4) rfl nd (pi_keys (pv 3)) (blkOk_by (N := nEven) (sc := defScope sEven) (by decide +kernel))
        (fun _ _ _ _ _ => pg_name (i := 4) nd rfl (Or.inl rfl)) (fun _ _ _ _ _ => pts_one (pt_cmpR op_eq (pe_dget hu (pv 3) (pv 4) (fun _ _ => rfl)) pe_int (nomark _))) (fun _ _ _ _ _ => pv 4))))))), ?_⟩
    intro l nl
    have sl := Same.new (o := .dT []) nl
    refine ⟨_, rfl, _, _, rfl, rfl, (n : Int) - 1, rfl, ⟨by omega, by omega, by omega, by omega, by omega⟩, fun q nq => ?_⟩
    have e1 : (n : Int) - 1 = ((n - 1 : Nat) : Int) := by omega
    rw [e1, rgV_rng]
    have sq := Same.new (o := .tup ((rng (n - 1)).map V.int)) nq
    have hrl : (rng (n - 1)).length = n - 1 := by unfold rng; rw [List.length_map, List.length_range]
    refine ⟨_, rfl, .ref q, rng (n - 1), rfl, ⟨q, rfl, upd_same⟩, by omega, by omega, fun fa xf H1 nfa s1 hfa hxf => ?_⟩
    have s01 := (sl.trans sq).trans s1
    have hl1 : H1 l = some (.dT []) := s1 _ _ (sq _ _ upd_same)
    have nfl : fa ≠ l := fun z => by rw [z, sq _ _ upd_same] at nfa; cases nfa
    have hcl : (combos s (rng (n - 1))).length ≤ 4096 := by
      have h1 := combos_len s (rng (n - 1))
      have h2 : 2 ^ (rng (n - 1)).length ≤ 2 ^ 12 := Nat.pow_le_pow_right (by decide) (by omega)
      omega
    refine ⟨fa, rfl, ⟨_, SqL.mk hfa⟩, for_list (K := K) (a := fa) (xs := xf) (fun i σ H' => ∃ (c : Int) (a b d g : Option V) (ws : List (List Int)), σ = [some (.int n), some (.int s), some (.int c), some (.ref l), a, b, d, g] ∧ Same H H' ∧ (∃ D, D = fa ∧ H' fa = some (.lst xf)) ∧ Rms H' xf (combos s (rng (n - 1))) ∧
        ws.Sublist (((combos s (rng (n - 1))).take i).map (· ++ [(n : Int) - 1])) ∧ H' l = some (.dT (encA V.int (togs ws))))
      ⟨c, none, none, none, none, [], rfl, s01, ⟨_, rfl, hfa⟩, hxf, List.nil_sublist _, hl1⟩ (fun i σ H' _ p => by obtain ⟨_, _, _, _, _, _, _, _, ⟨_, _, h⟩, _⟩ := p; exact SqL.mk h) ?_ ?_⟩
    · rintro i x σ H2 hi ⟨c, a, b, d, g, ws, rfl, s2, ⟨_, _, hf2⟩, hxf2, hws, hl2⟩
      obtain ⟨r, hir, hrm⟩ := paired_get hxf2 hi
      obtain ⟨tr, rfl, htr⟩ := hrm
      have hrl := combos_el _ _ r (List.mem_of_getElem? hir)
      have hwl : ws.length ≤ 4096 := by
        have h1 := hws.length_le
        rw [List.length_map, List.length_take] at h1
        omega
      have hwe : ∀ r ∈ ws, r.length = s + 1 := fun r hr => by
        obtain ⟨q, hq, rfl⟩ := List.mem_map.mp (hws.subset hr)
        rw [List.length_append, combos_el _ _ q (List.mem_of_mem_take hq)] <;> rfl
      refine ⟨_, rfl, _, rfl, _, _, rfl, rfl, (by show (0 : Int) < 2; decide), rfl, _, rfl, ?_⟩
      refine ite2 (fun _ => ?_) (fun _ => ?_)
      · -- the room is chosen
        refine ⟨_, rfl, _, rfl, _, _, rfl, rfl, by show 1 ≤ sizeLine; decide, fun p3 n3 => ?_⟩
        have s3 := Same.new (o := .tup [V.int ((n : Int) - 1)]) n3
        refine rd_cat (s3 _ _ htr) upd_same ?_ fun p4 H4 s4 h4 => ?_
        · rw [List.length_map]
          show r.length + 1 ≤ sizeLine
          exact small_n (by omega)
        have e4 : r.map V.int ++ [V.int ((n : Int) - 1)] = (r ++ [(n : Int) - 1]).map V.int := by rw [List.map_append] <;> rfl
        rw [e4] at h4
        have s24 := s3.trans s4
        have hwhl : (r ++ [(n : Int) - 1]).length = s + 1 := by rw [List.length_append, hrl] <;> rfl
        generalize hwh : r ++ [(n : Int) - 1] = wh at h4 hwhl
        have hbig : ∀ j, ((ws.flatMap faces) ++ (faces wh).take j).length ≤ 90000 := fun j => by
          rw [List.length_append, List.length_take]
          have h1 := flatMap_len faces 13 ws (fun r hr => by rw [faces_count, hwe r hr]; omega)
          have h2 := faces_count wh
          omega
        refine ⟨_, rfl, _, _, rfl, rfl, _, rfl, by omega, by omega, for_range (lo := 0) (n := ((s : Int) + 1).toNat) (fun j σ H' => ∃ d g, σ = [some (.int n), some (.int s), some (.int c), some (.ref l), some (.ref tr), some (.ref p4), d, g] ∧ Same H H' ∧ (∃ D, D = fa ∧ H' fa = some (.lst xf)) ∧ Rms H' xf (combos s (rng (n - 1))) ∧ H' p4 = some (.tup (wh.map V.int)) ∧ H' l = some (.dT (encA V.int ((ws.flatMap faces ++ (faces wh).take j).foldl togF []))))
          ⟨d, g, rfl, s2.trans s24, ⟨_, rfl, s24 _ _ hf2⟩, Rms.same s24 hxf2, h4, by rw [List.take_zero, List.append_nil]; exact s24 _ _ hl2⟩ ?_ ?_⟩
        · rintro j σ H5 hj ⟨d, g, rfl, s5, ⟨_, _, hf5⟩, hxf5, h45, hl5⟩
          have hj' : j < wh.length := by omega
          have hjg := faces_at hj'
          rw [Int.zero_add]
          refine ⟨_, rfl, _, rfl, _, rfl, ?_⟩
          refine rd_slL h45 j (by rw [List.length_map]; omega) fun q1 H6 s6 h6 => ?_
          refine ⟨_, rfl, _, rfl, _, _, rfl, rfl, _, rfl, ?_⟩
          refine noPart ?_
          rw [show ((j : Int) + 1) = ((j + 1 : Nat) : Int) from rfl]
          refine rd_slR (s6 _ _ h45) (j + 1) (by rw [List.length_map]; omega) fun q2 H7 s7 h7 => ?_
          refine rd_cat (s7 _ _ h6) h7 ?_ fun q3 H8 s8 h8 => ?_
          · rw [List.length_take, List.length_drop, List.length_map]
            exact small_n (by omega)
          rw [cutE] at h8
          have s58 := (s6.trans s7).trans s8
          have hl8 := s58 _ _ hl5
          have hgm : Rm H8 (.ref q3) (wh.eraseIdx j) := ⟨q3, rfl, h8⟩
          refine ⟨_, rfl, l, rfl, isD_r (.inl hl8), _, rfl, _, dget_r hl8 hgm, ?_⟩
          rw [getD_int]
          refine ⟨_, _, rfl, rfl, _, rfl, _, rfl, l, _, rfl, dput_r hl8 hgm ?_ _, ?_⟩
          · have h1 := foldl_len (f := togF) (fun w k => putA_len _ _ _) (ws.flatMap faces ++ (faces wh).take j) []
            have h2 := hbig j
            rw [List.length_nil] at h1
            exact small_l (by omega)
          · refine ⟨_, _, rfl, Same.mut (s5.trans s58) nl, ⟨_, rfl, by rw [upd_ne nfl]; exact s58 _ _ hf5⟩, ?_, ?_, ?_⟩
            · refine Paired.mono' (fun v r h => ?_) (Rms.same s58 hxf5)
              obtain ⟨t, e, h⟩ := h
              exact ⟨t, e, by rw [upd_ne (fun z => by rw [z, hl8] at h; cases h)]; exact h⟩
            · rw [upd_ne (fun z => by rw [z, hl5] at h45; cases h45)]
              exact s58 _ _ h45
            · rw [upd_same, take_snoc hjg, ← List.append_assoc, foldl_one] <;> rfl
        · rintro σ H5 ⟨d, g, rfl, s5, hf5, hxf5, h45, hl5⟩
          refine ⟨_, rfl, _, _, rfl, rfl, ⟨by decide, by decide⟩, _, _, _, _, _, ws ++ [wh], rfl, s5, hf5, hxf5, ?_, ?_⟩
          · rw [take_snoc hir, List.map_append]
            exact hws.append (by rw [← hwh]; exact List.Sublist.refl _)
          · have e5 : (faces wh).take ((s : Int) + 1).toNat = faces wh := List.take_of_length_le (by rw [faces_count]; omega)
            rw [e5] at hl5
            rw [hl5]
            unfold togs
            rw [List.flatMap_append, List.flatMap_cons, List.flatMap_nil, List.append_nil]
      · refine ⟨_, rfl, _, _, rfl, rfl, ⟨by decide, by decide⟩, _, _, _, _, _, ws, rfl, s2, ⟨_, rfl, hf2⟩, hxf2, ?_, hl2⟩
        rw [take_snoc hir, List.map_append]
        exact hws.trans (List.sublist_append_left _ _)
    · rintro σ H2 ⟨c, a, b, d, g, ws, rfl, s2, _, hxf2, hws, hl2⟩
      rw [paired_len hxf2, List.take_length] at hws
      have hwe : ∀ r ∈ ws, r.length = s + 1 := fun r hr => by
        obtain ⟨q, hq, rfl⟩ := List.mem_map.mp (hws.subset hr)
        rw [List.length_append, combos_el _ _ q hq] <;> rfl
      have hzt : (togs ws).length ≤ 100000 := by
        have h1 := foldl_len (f := togF) (fun w k => putA_len _ _ _) (ws.flatMap faces) []
        have h2 := flatMap_len faces 13 ws (fun r hr => by rw [faces_count, hwe r hr]; omega)
        have h3 := hws.length_le
        rw [List.length_map] at h3
        rw [List.length_nil] at h1
        show ((ws.flatMap faces).foldl togF []).length ≤ _
        omega
      refine rd_keys (K := K) (i := 3) (j := 4) (fun n => decide (V.int n = V.int 1)) hl2 rfl hzt (fun x => rfl) (fun x => rfl) (fun od e q H3 k2 he h3 hq kk => ?_) (fun D xs H3 nD s3 hx hp => ?_)
      · have hg := dget_rd (f := V.int) (es := togs ws) (a := l) (r := e.1) (v := .ref q) (.inr ⟨od, h3⟩) (H := H3) ⟨q, rfl, hq⟩
        rw [getA_mem (togs_nd ws) he] at hg
        exact ⟨_, rfl, _, rfl, l, .int e.2, rfl, hg, rfl, _, rfl, kk⟩
      · refine ⟨D, xs, _, rfl, Or.inl hx, hp, (fun r hr => ?_), fun p zs np hzs => ?_⟩
        · obtain ⟨e, he, rfl⟩ := List.mem_map.mp hr
          have h1 := togs_keys ws e (List.mem_filter.mp he).1
          obtain ⟨wh, hwh, hf⟩ := List.mem_flatMap.mp h1
          have h2 := faces_len hf
          have h3 := hwe wh hwh
          intro z
          rw [z] at h2
          rw [List.length_nil] at h2
          omega
        · have s4 := s2.trans s3
          refine k ws hws p zs _ (s4.free np) (s4.trans (Same.new np)) upd_same ?_
          refine Rms.same (Same.new np) ?_
          unfold evn
          have e6 : ((togs ws).filter fun e => decide (V.int e.2 = V.int 1)) = (togs ws).filter fun e => decide (e.2 = 1) := by
            congr 1
            funext e
            by_cases h : e.2 = 1
            · rw [decide_eq_true h, decide_eq_true (by rw [h])]
            · rw [decide_eq_false h, decide_eq_false fun z => h (by injection z)]
          rw [e6] at hzs
          exact hzs
end
end NA
/-! The draws: _law_sizes, _law_order, _law_cell. -/
namespace NA
open PySem PySem.Spec PyProof.Rows L2
theorem ixN_last {n : Nat} : ixN (n + 1) (-1) = some n := by
  unfold ixN
  rw [if_neg (by decide), if_pos (by omega)]
  congr 1
  omega
section
variable {P : Program} {w : World} {K : PySem.W.Frag} {mg : Str → Option Value} {base : Heap}
abbrev sSizes : Stmt := top 40
abbrev nSizes : List Str := ["_law_n", "_law_cell_here", "_law_sizes_here", "_law_k"]
def spSizes : Sp := fun vs H Q _ => ∃ (n : Nat) (c : Int), vs = [.int n, .int c] ∧ 1 ≤ n ∧ n ≤ 12 ∧ ∀ (ss : List Int), ss ≠ [] → (∀ x ∈ ss, 1 ≤ x) → ss.sum = n → ∀ a H', H a = none → Same H H' → H' a = some (.lst (ss.map V.int)) → Q (.ref a) H'
theorem scSizes : FnScope nSizes ["_law_n", "_law_cell_here"] (defScope sSizes) := ⟨rfl, rfl, rfl, by decide +kernel, rfl, by decide +kernel, by decide +kernel⟩
theorem ok_sizes (F : DefC K mg "_law_sizes" sSizes ["_law_n", "_law_cell_here"]) (B : Bl mg) : Cal P w K mg base 1 "_law_sizes" spSizes := by
  refine cal_mk F scSizes (fun vs H Q E h => ?_) (fun f cdv A outer sh H vs Q E hr h => ?_)
  · obtain ⟨n, c, rfl, _⟩ := h
    rfl
  · obtain ⟨n, c, rfl, hn1, hn, k⟩ := h
    have nd := scSizes.nd
    refine ⟨_, pss_cons (ps_set (i := 2) nd rfl (Or.inl rfl) (pe_lst (pa_cons pe_int pa_nil)))
      (pss_cons (ps_for PassesOwn.never rfl (pi_range1 rfl B.range (pa_cons (pe_op op_sub (pv 0) pe_int) pa_nil)) (pg_name (i := 3) nd rfl (Or.inl rfl))
        (pss_cons (ps_if (pt_cmpR op_eq (pe_op op_mod (b_int B (pv 1)) pe_int) pe_int (nomark _))
          (pss_one (ps_expr (pe_bm PySem.F.plainAttrs_list PySem.F.slot_list_append PySem.F.type_list_append mt_append (pv 2) (pa_cons pe_int pa_nil))))
          (pss_one (ps_asg (pe_op op_add (pe_ix ix_list (pv 2) (pe_un un_neg pe_int) (fun _ _ => rfl)) pe_int) (pg_sub (pv 2) (pe_un un_neg pe_int) set_list))))
        (pss_one (ps_set (i := 1) nd rfl (Or.inl rfl) (pe_op op_fdiv (pv 1) pe_int)))))
      (pss_one (ps_ret (pv 2)))), ?_⟩
    refine ⟨by show 1 ≤ sizeLine; decide, fun l nl => ?_⟩
    refine ⟨_, rfl, _, _, rfl, rfl, _, rfl, by omega, by omega, for_range (lo := 0) (n := ((n : Int) - 1).toNat) (fun i σ H' => ∃ (c : Int) (a : Option V) (pre : List Int) (z : Int), σ = [some (.int n), some (.int c), some (.ref l), a] ∧ Same H H' ∧ H' l = some (.lst ((pre ++ [z]).map V.int)) ∧
        (∀ x ∈ pre ++ [z], 1 ≤ x) ∧ (pre ++ [z]).sum = (i : Int) + 1 ∧ pre.length ≤ i)
      ⟨c, none, [], 1, rfl, Same.new nl, upd_same, fun x hx => by rw [List.nil_append, List.mem_singleton] at hx; omega, rfl, Nat.le_refl _⟩ ?_ ?_⟩
    · rintro i σ H1 hi ⟨c, a, pre, z, rfl, s1, hl, hx, hsum, hpl⟩
      refine ⟨_, rfl, _, rfl, _, _, rfl, rfl, (by show (0 : Int) < 2; decide), rfl, _, rfl, ?_⟩
      refine ite2 (fun _ => ?_) (fun _ => ?_)
      · refine ⟨_, rfl, Or.inl ⟨rfl, _, SqL.mk hl⟩, l, _, _, rfl, rfl, hl, by rw [List.length_map, List.length_append]; exact small_l (by simp only [List.length_cons, List.length_nil]; omega), ?_⟩
        refine ⟨_, rfl, _, _, rfl, rfl, ⟨by decide, by decide⟩, _, _, pre ++ [z], 1, rfl, Same.mut s1 nl, ?_, ?_, ?_, ?_⟩
        · rw [upd_same, List.map_append (l₁ := pre ++ [z])] <;> rfl
        · intro x h
          rcases List.mem_append.mp h with h | h
          · exact hx x h
          · rw [List.mem_singleton] at h; omega
        · rw [List.sum_append, hsum]
          simp only [List.sum_cons, List.sum_nil]
          omega
        · rw [List.length_append]
          simp only [List.length_cons, List.length_nil]
          omega
      · have hat : atI ((pre ++ [z]).map V.int) (-1) = some (.int z) := by
          rw [List.map_append]
          exact atI_last _ _
        have hix : ixN ((pre ++ [z]).map V.int).length (-1) = some pre.length := by
          rw [List.length_map, List.length_append]
          exact ixN_last
        refine ⟨_, rfl, 1, rfl, l, _, _, .int z, rfl, rfl, SqL.mk hl, hat, _, _, rfl, rfl, _, rfl, 1, rfl, l, _, _, _, rfl, rfl, hl, hix, ?_⟩
        refine ⟨_, rfl, _, _, rfl, rfl, ⟨by decide, by decide⟩, _, _, pre, z + 1, rfl, Same.mut s1 nl, ?_, ?_, ?_, by omega⟩
        · rw [upd_same, List.map_append, List.set_append_right _ _ (by rw [List.length_map]; exact Nat.le_refl _), List.length_map, Nat.sub_self, List.map_append] <;> rfl
        · intro x h
          rcases List.mem_append.mp h with h | h
          · exact hx x (List.mem_append_left _ h)
          · rw [List.mem_singleton] at h
            have := hx z (List.mem_append_right _ (List.mem_singleton.mpr rfl))
            omega
        · rw [List.sum_append] at hsum ⊢
          simp only [List.sum_cons, List.sum_nil] at hsum ⊢
          omega
    · rintro σ H1 ⟨c, a, pre, z, rfl, s1, hl, hx, hsum, hpl⟩
      exact ⟨_, rfl, k (pre ++ [z]) (by simp) hx (by rw [hsum]; omega) l H1 nl s1 hl⟩
abbrev sOrder : Stmt := top 37
abbrev nOrder : List Str := ["_law_cell_here", "_law_n", "_law_left", "_law_row", "_law_k", "_law_size"]
def spOrder : Sp := fun vs H Q _ => ∃ (n : Nat) (c : Int), vs = [.int c, .int n] ∧ n ≤ 12 ∧ ∀ (row : List Int), row.Perm (rng n) → ∀ a H', H a = none → Same H H' → H' a = some (.lst (row.map V.int)) → Q (.ref a) H'
theorem scOrder : FnScope nOrder ["_law_cell_here", "_law_n"] (defScope sOrder) := ⟨rfl, rfl, rfl, by decide +kernel, rfl, by decide +kernel, by decide +kernel⟩
theorem eraseIdx_map {α β : Type} (f : α → β) (l : List α) (k : Nat) : (l.map f).eraseIdx k = (l.eraseIdx k).map f := by
  rw [List.eraseIdx_eq_take_drop_succ, List.eraseIdx_eq_take_drop_succ, List.map_append, List.map_take, List.map_drop]
theorem perm_pop {l : List Int} {k : Nat} {y : Int} (h : l[k]? = some y) (row : List Int) : ((row ++ [y]) ++ l.eraseIdx k).Perm (row ++ l) := by
  obtain ⟨h1, h2⟩ := List.getElem?_eq_some_iff.mp h
  rw [List.append_assoc]
  refine List.Perm.append_left row ?_
  rw [List.eraseIdx_eq_take_drop_succ]
  have e : l = l.take k ++ y :: l.drop (k + 1) := by rw [← h2, List.getElem_cons_drop, List.take_append_drop]
  refine List.Perm.trans ?_ (List.Perm.of_eq e.symm)
  show (y :: (l.take k ++ l.drop (k + 1))).Perm _
  exact List.perm_middle.symm
theorem ok_order (F : DefC K mg "_law_order" sOrder ["_law_cell_here", "_law_n"]) (B : Bl mg) : Cal P w K mg base 1 "_law_order" spOrder := by
  refine cal_mk F scOrder (fun vs H Q E h => ?_) (fun f cdv A outer sh H vs Q E hr h => ?_)
  · obtain ⟨n, c, rfl, _⟩ := h
    rfl
  · obtain ⟨n, c, rfl, hn, k⟩ := h
    have nd := scOrder.nd
    refine ⟨_, pss_cons (ps_set (i := 2) nd rfl (Or.inl rfl) (pe_listRg rfl rfl B.list (prg_1 rfl B.range (pv 1))))
      (pss_cons (ps_set (i := 3) nd rfl (Or.inl rfl) (pe_lst pa_nil))
      (pss_cons (ps_for PassesOwn.never rfl (pi_range1 rfl B.range (pa_cons (pv 1) pa_nil)) (pg_name (i := 4) nd rfl (Or.inl rfl))
        (pss_cons (ps_set (i := 5) nd rfl (Or.inl rfl) (pe_op op_sub (pv 1) (pv 4)))
        (pss_cons (ps_expr (pe_bm PySem.F.plainAttrs_list PySem.F.slot_list_append PySem.F.type_list_append mt_append (pv 3) (pa_cons (pe_bm PySem.F.plainAttrs_list PySem.F.slot_list_pop PySem.F.type_list_pop mt_popAt (pv 2) (pa_cons (pe_op op_mod (b_int B (pv 0)) (pv 5)) pa_nil)) pa_nil)))
        (pss_one (ps_set (i := 0) nd rfl (Or.inl rfl) (pe_op op_fdiv (pv 0) (pv 5)))))))
      (pss_one (ps_ret (pv 3))))), ?_⟩
    refine ⟨_, rfl, n, rfl, ⟨by omega, by omega, by omega, by omega, by omega⟩, fun q nq => ?_⟩
    rw [rgV_rng]
    have sq := Same.new (o := .lst ((rng n).map V.int)) nq
    refine ⟨by decide, fun l nl => ?_⟩
    have nql : q ≠ l := fun z => by rw [z, upd_same] at nl; cases nl
    have nl0 := sq.free nl
    have hrl : (rng n).length = n := by unfold rng; rw [List.length_map, List.length_range]
    refine ⟨_, rfl, n, rfl, by omega, by omega, for_range (lo := 0) (n := (n : Int).toNat) (fun i σ H' => ∃ (c : Int) (a b : Option V) (left row : List Int), σ = [some (.int c), some (.int n), some (.ref q), some (.ref l), a, b] ∧ Same H H' ∧ H' q = some (.lst (left.map V.int)) ∧ H' l = some (.lst (row.map V.int)) ∧
        (row ++ left).Perm (rng n) ∧ row.length = i)
      ⟨c, none, none, rng n, [], rfl, sq.trans (Same.new nl), by rw [upd_ne nql, upd_same], upd_same, List.Perm.refl _, rfl⟩ ?_ ?_⟩
    · rintro i σ H1 hi ⟨c, a, b, left, row, rfl, s1, hq1, hl1, hp, hrw⟩
      have hil : i < n := by omega
      have hll : left.length = n - i := by
        have h1 := hp.length_eq
        rw [List.length_append, hrl] at h1
        omega
      rw [Int.zero_add]
      have hpos : (0 : Int) < (n : Int) - (i : Int) := by omega
      have hm0 := Int.emod_nonneg c (b := (n : Int) - (i : Int)) (by omega)
      have hm1 := Int.emod_lt_of_pos c hpos
      obtain ⟨j, hj⟩ : ∃ j : Nat, c % ((n : Int) - (i : Int)) = (j : Int) := ⟨(c % ((n : Int) - (i : Int))).toNat, by omega⟩
      have hjl : j < left.length := by omega
      obtain ⟨y, hy⟩ : ∃ y, left[j]? = some y := ⟨left[j], by simp [hjl]⟩
      refine ⟨_, rfl, _, rfl, _, _, rfl, rfl, ?_⟩
      refine ⟨_, rfl, Or.inl ⟨rfl, _, SqL.mk hl1⟩, ?_⟩
      refine ⟨_, rfl, Or.inl ⟨rfl, _, SqL.mk hq1⟩, _, rfl, _, rfl, _, rfl, _, _, rfl, rfl, hpos, q, left.map V.int, _, j, .int y, rfl, rfl, hq1, by omega, by omega, ?_, by rw [List.getElem?_map, hy]; rfl, ?_⟩
      · rw [hj, List.length_map, seqIndex_of (by omega) (by omega)] <;> simp
      · have hl2 : (upd H1 q (.lst ((left.map V.int).eraseIdx j))) l = some (.lst (row.map V.int)) := by rw [upd_ne nql.symm]; exact hl1
        refine ⟨l, row.map V.int, _, rfl, rfl, hl2, by rw [List.length_map]; exact small_l (by omega), ?_⟩
        refine ⟨_, rfl, _, rfl, _, _, rfl, rfl, ⟨hpos, by omega⟩, _, _, _, left.eraseIdx j, row ++ [y], rfl, Same.mut (Same.mut s1 nq) nl0, ?_, ?_, (perm_pop hy row).trans hp, by rw [List.length_append, hrw]; rfl⟩
        · rw [upd_ne nql, upd_same, eraseIdx_map]
        · rw [upd_same, List.map_append] <;> rfl
    · rintro σ H1 ⟨c, a, b, left, row, rfl, s1, hq1, hl1, hp, hrw⟩
      have hle : left = [] := by
        have h1 := hp.length_eq
        rw [List.length_append, hrl] at h1
        exact List.eq_nil_of_length_eq_zero (by omega)
      rw [hle, List.append_nil] at hp
      exact ⟨_, rfl, k row hp l H1 nl0 s1 hl1⟩
abbrev sCell : Stmt := top 35
abbrev nCell : List Str := ["_law_script", "_law_k", "_law_cell_here"]
def spCellN (K : PySem.W.Frag) : Sp := fun vs H Q _ => ∃ (l : Addr) (ns : List Int) (j : Nat), vs = [.ref l, .int j] ∧ SqL K H l (ns.map V.int) ∧ j ≤ 1000 ∧ ∀ c : Int, Q (.int c) H
theorem scCell : FnScope nCell ["_law_script", "_law_k"] (defScope sCell) := ⟨rfl, rfl, rfl, by decide +kernel, rfl, by decide +kernel, by decide +kernel⟩
theorem ok_cell (F : DefC K mg "_law_cell" sCell ["_law_script", "_law_k"]) (B : Bl mg) : Cal P w K mg base 1 "_law_cell" (spCellN K) := by
  refine cal_mk F scCell (fun vs H Q E h => ?_) (fun f cdv A outer sh H vs Q E hr h => ?_)
  · obtain ⟨l, ns, j, rfl, _⟩ := h
    rfl
  · obtain ⟨l, ns, j, rfl, hS, hj, k⟩ := h
    have nd := scCell.nd
    refine ⟨_, pss_cons (ps_set (i := 2) nd rfl (Or.inl rfl) (pe_op op_add (pe_op op_mul pe_int (pv 1)) pe_int))
      (Evl.pss_cut (ps_if (pt_cmpR op_lt (pv 1) (b_len B (pv 0)) (nomark _))
        (pss_cons (ps_set (i := 2) nd rfl (Or.inl rfl) (b_abs B (pe_ix ix_list (pv 0) (pv 1) (fun _ _ => rfl))))
        (pss_one (ps_if (pt_cmpR op_ge (pv 2) (pe_op op_pow pe_int pe_int) (nomark _)) (pss_one (ps_ret (pe_op op_sub (pv 2) (pe_op op_pow pe_int pe_int)))) pss_nil)))
        (pss_one (ps_if (pt_cmpR op_gt (b_len B (pv 0)) pe_int (nomark _))
          (pss_one (ps_set (i := 2) nd rfl (Or.inl rfl) (pe_op op_add (b_abs B (pe_ix ix_list (pv 0) (pe_op op_mod (b_int B (pv 1)) (b_len B (pv 0))) (fun _ _ => rfl))) (pe_op op_mul pe_int (pv 1))))) pss_nil)))
      (pss_cons (ps_set (i := 2) nd rfl (Or.inl rfl) (pe_op op_mod (b_int B (pe_op op_add (pe_op op_add (pe_op op_mul (pv 2) pe_int) (pe_op op_mul pe_int (pv 1))) pe_int)) pe_int))
      (pss_one (ps_ret (pe_op op_fdiv (pe_op op_mod (b_int B (pe_op op_mul (pe_op op_add (pe_op op_add (pe_op op_mul (pv 2) (pv 2)) (pe_op op_mul pe_int (pv 2))) (pv 1)) pe_int)) pe_int) pe_int))))), ?_⟩
    refine ⟨_, rfl, _, _, rfl, rfl, .inl ⟨by decide, by decide⟩, _, _, rfl, rfl, ?_⟩
    refine ⟨fun σ H' => H = H' ∧ ∃ c : Int, σ = [some (.ref l), some (.int j), some (.int c)], ?_, ?_⟩
    · refine ⟨_, rfl, _, rfl, l, _, rfl, Or.inl hS, _, _, rfl, rfl, _, rfl, ?_⟩
      refine ite2 (fun hd => ?_) (fun hd => ?_)
      · have hd' := of_decide_eq_true hd
        rw [List.length_map] at hd'
        have hjl : j < ns.length := by omega
        refine ⟨_, rfl, _, rfl, l, _, j, _, rfl, rfl, hS, atI_nat (getD_at hjl), _, rfl, ?_⟩
        refine ⟨_, rfl, _, _, rfl, rfl, ⟨by decide, by decide, by decide⟩, _, _, rfl, rfl, _, rfl, ?_⟩
        refine ite2 (fun _ => ?_) (fun _ => ?_)
        · exact ⟨_, rfl, _, _, rfl, rfl, ⟨by decide, by decide, by decide⟩, _, _, rfl, rfl, k _⟩
        · exact ⟨rfl, _, rfl⟩
      · refine ⟨_, rfl, l, _, rfl, Or.inl hS, _, _, rfl, rfl, _, rfl, ?_⟩
        refine ite2 (fun hd2 => ?_) (fun _ => ?_)
        · have hd' := of_decide_eq_true hd2
          rw [List.length_map] at hd'
          have hm0 := Int.emod_nonneg (j : Int) (b := ((ns.map V.int).length : Int)) (by rw [List.length_map]; omega)
          have hm1 := Int.emod_lt_of_pos (j : Int) (b := ((ns.map V.int).length : Int)) (by rw [List.length_map]; omega)
          obtain ⟨i, hi⟩ : ∃ i : Nat, (j : Int) % ((ns.map V.int).length : Int) = (i : Int) := ⟨((j : Int) % ((ns.map V.int).length : Int)).toNat, by omega⟩
          have hil : i < ns.length := by rw [hi, List.length_map] at hm1; omega
          refine ⟨_, rfl, _, rfl, _, rfl, _, rfl, l, _, rfl, Or.inl hS, _, _, rfl, rfl, by rw [List.length_map]; omega, l, _, _, _, rfl, rfl, hS, by rw [hi]; exact atI_nat (getD_at hil), _, rfl, _, rfl, _, _, rfl, rfl, .inl ⟨by decide, by decide⟩, _, _, rfl, rfl, rfl, _, rfl⟩
        · exact ⟨rfl, _, rfl⟩
    · rintro σ H' ⟨rfl, c, rfl⟩
      refine ⟨_, rfl, _, _, rfl, rfl, .inr ⟨by decide, by decide⟩, _, rfl, _, _, rfl, rfl, .inl ⟨by decide, by decide⟩, _, _, rfl, rfl, _, _, rfl, rfl, _, rfl, _, _, rfl, rfl, (by show (0 : Int) < 2147483647; decide), ?_⟩
      have hm0 := Int.emod_nonneg (c * 48271 + 11 * (j : Int) + 7) (b := 2147483647) (by decide)
      have hm1 := Int.emod_lt_of_pos (c * 48271 + 11 * (j : Int) + 7) (b := 2147483647) (by decide)
      generalize (c * 48271 + 11 * (j : Int) + 7) % 2147483647 = z at hm0 hm1
      refine ⟨_, rfl, _, rfl, _, _, rfl, rfl, .inl ⟨by omega, by omega⟩, _, rfl, _, _, rfl, rfl, .inl ⟨by decide, by decide⟩, _, _, rfl, rfl, _, rfl, _, _, rfl, rfl, _, _, rfl, rfl, .inr ⟨by decide, by decide⟩, _, rfl, _, _, rfl, rfl, (by show (0 : Int) < 2305843009213693951; decide), _, _, rfl, rfl, ⟨by decide, by decide⟩, k _⟩
end
end NA
/-! _law_partitions, _law_covers. -/
namespace NA
open PySem PySem.Spec PyProof.Rows L2
/-- what the listing asks of the books: rooms short, never many rows -/
structure PB (bs : List (List (List Int))) : Prop where
  few : ∀ k met, (parts (bs.drop k) met).length ≤ 100000
  short : ∀ b ∈ bs, ∀ r ∈ b, r.length ≤ 100
theorem PB.tail {b : List (List Int)} {bs : List (List (List Int))} (h : PB (b :: bs)) : PB bs :=
  ⟨fun k met => h.few (k + 1) met, fun c hc => h.short c (List.mem_cons_of_mem _ hc)⟩
theorem parts_el : ∀ (bs : List (List (List Int))) (met : List Int), ∀ row ∈ parts bs met, row.length = bs.length
  | [], met, row, h => by
    rw [parts, List.mem_singleton] at h
    rw [h]; rfl
  | b :: bs, met, row, h => by
    rw [parts, List.mem_flatMap] at h
    obtain ⟨r, _, h⟩ := h
    split at h
    · obtain ⟨q, hq, rfl⟩ := List.mem_map.mp h
      rw [List.length_cons, List.length_cons, parts_el bs _ q hq]
    · cases h
section
variable {P : Program} {w : World} {K : PySem.W.Frag} {mg : Str → Option Value} {base : Heap}
abbrev sParts : Stmt := top 41
abbrev nParts : List Str := ["_law_books", "_law_met", "_law_found", "_law_room", "_law_rest", "_law_p"]
def spParts (m : Nat) : Sp := fun vs H Q _ => ∃ v u bs met, vs = [v, u] ∧ BkL H v bs ∧ Rm H u met ∧ bs.length = m ∧ PB bs ∧ met.length + 100 * m ≤ 10000 ∧ ∀ a xs H', H a = none → Same H H' → H' a = some (.lst xs) → Rws H' xs (parts bs met) → Q (.ref a) H'
theorem scParts : FnScope nParts ["_law_books", "_law_met"] (defScope sParts) := ⟨rfl, rfl, rfl, by decide +kernel, rfl, by decide +kernel, by decide +kernel⟩
theorem cut1 {x : V} {xs : List V} : cutV (x :: xs) (some 1) none = xs := by
  unfold cutV
  rw [HT.sIx_none, show HT.sIx (x :: xs).length 0 (some 1) = min 1 (x :: xs).length from HT.sIx_nat _ _ 1, Nat.min_eq_left (by rw [List.length_cons]; omega)]
  show List.take ((x :: xs).length - 1) xs = xs
  exact List.take_of_length_le (by rw [List.length_cons]; omega)
theorem parts_body (B : Bl mg) : ∀ (m : Nat), (∀ j, j < m → Cal P w K mg base (j + 1) "_law_partitions" (spParts j)) → ∀ (f : Addr) (cdv : Value) (A : Around) (outer : List Env) (sh : Shared) (H : Hp) (vs : List V) (Q : VK) (E : XK), Room m (A.deeper (envOfC "_law_partitions" (defScope sParts) sh.heap.objs.size f cdv)) → spParts m vs H Q E →
      ∃ t, PSs (cxOf CX0 P w K mg base nParts "_law_partitions" (defScope sParts) f cdv A outer sh H E).nox (defBody sParts) t ∧ t { nx := fun _ H' => Q .non H', rt := Q } (start nParts vs) H
  | 0 => by
      intro _ f cdv A outer sh H vs Q E hr h
      obtain ⟨v, u, bs, met, rfl, ⟨a, xs, rfl, ha, hx⟩, hu, hl, hp, hm, k⟩ := h
      obtain rfl := List.eq_nil_of_length_eq_zero hl
      cases hx
      refine ⟨_, pss_cons (ps_if (pt_cmpR op_eq (b_len B (pv 0)) pe_int (nomark _)) (pss_one (ps_ret (pe_lst (pa_cons (pe_tup pa_nil) pa_nil)))) pss_nil) pss_never, ?_⟩
      refine ⟨_, rfl, a, _, rfl, Or.inl (SqL.mk ha), rfl, _, rfl, ?_⟩
      refine iteT ?_
      refine ⟨by decide, fun q nq => ⟨by show 1 ≤ sizeLine; decide, fun p np => ?_⟩⟩
      exact k p _ _ ((Same.new nq).free np) ((Same.new nq).trans (Same.new np)) upd_same (.cons ⟨q, [], rfl, by rw [upd_ne (fun z => by rw [z, upd_same] at np; cases np), upd_same], .nil⟩ .nil)
  | m + 1 => by
      intro hR f cdv A outer sh H vs Q E hr h
      have cR := hR m (Nat.lt_succ_self m)
      obtain ⟨v, u, bs, met, rfl, ⟨a, xs, rfl, ha, hx⟩, ⟨tm, rfl, htm⟩, hl, hp, hm, k⟩ := h
      have nd := scParts.nd
      cases hx with
      | nil => cases hl
      | @cons x b xs bs hx0 hxs =>
      obtain ⟨tb, xb, rfl, htb, hxb⟩ := hx0
      refine ⟨_, pss_cons (ps_if (pt_cmpR op_eq (b_len B (pv 0)) pe_int (nomark _)) (pss_one (ps_ret (pe_lst (pa_cons (pe_tup pa_nil) pa_nil)))) pss_nil)
        (pss_cons (ps_set (i := 2) nd rfl (Or.inl rfl) (pe_lst pa_nil))
        (pss_cons (ps_for PassesOwn.never rfl (pi_list (pe_ix ix_list (pv 0) pe_int (fun _ _ => rfl))) (pg_name (i := 3) nd rfl (Or.inl rfl))
          (pss_one (ps_if (pt_cmpR op_eq (b_len B (pe_lc (own := [("_law_p", 5)]) (g := gName 5) rfl nd (pi_tup (pv 3)) (blkOk_by (N := nParts) (sc := defScope sParts) (by decide +kernel))
              (fun _ _ _ _ _ => pg_name (i := 5) nd rfl (Or.inl rfl)) (fun _ _ _ _ _ => pts_one (pt_cmpR (r := rIn K false) op_in_seq (pv 5) (pv 1) rfl)) (fun _ _ _ _ _ => pv 5))) pe_int (nomark _))
            (pss_one (ps_for PassesOwn.never rfl (pi_list (pe_c cR hr (Nat.le_refl _) (pa_cons (pe_slice sl_list (pv 0) (po_some pe_int) po_none) (pa_cons (pe_op op_catA (pv 1) (pv 3)) pa_nil)))) (pg_name (i := 4) nd rfl (Or.inl rfl))
              (pss_one (ps_expr (pe_bm PySem.F.plainAttrs_list PySem.F.slot_list_append PySem.F.type_list_append mt_append (pv 2)
                (pa_cons (pe_op op_catA (pe_tup (pa_cons (pv 3) pa_nil)) (pv 4)) pa_nil))))))
            pss_nil)))
        (pss_one (ps_ret (pv 2))))), ?_⟩
      refine ⟨_, rfl, a, _, rfl, Or.inl (SqL.mk ha), rfl, _, rfl, ?_⟩
      have h0 : ¬ (V.int ((V.ref tb :: xs).length : Int) = V.int 0) := fun z => by injection z with z; rw [List.length_cons] at z; omega
      rw [decide_eq_false h0]
      refine iteF ?_
      refine ⟨by decide, fun l nl => ?_⟩
      have sl := Same.new (o := .lst []) nl
      have hbl : ∀ r ∈ b, r.length ≤ 100 := hp.short b List.mem_cons_self
      have hml : bs.length = m := by rw [List.length_cons] at hl; omega
      refine ⟨_, rfl, a, _, 0, .ref tb, rfl, rfl, SqL.mk (sl _ _ ha), atI_nat (j := 0) rfl, tb, rfl, ⟨_, SqL.mk (sl _ _ htb)⟩, ?_⟩
      refine for_list (K := K) (a := tb) (xs := xb) (fun i σ H' => ∃ c d ys, σ = [some (.ref a), some (.ref tm), some (.ref l), c, d, none] ∧ Same H H' ∧ H' l = some (.lst ys) ∧ Rws H' ys ((b.take i).flatMap fun r => if disj met r = true then (parts bs (met ++ r)).map (r :: ·) else []))
        ⟨none, none, [], rfl, sl, upd_same, .nil⟩ (fun i σ H' _ p => by obtain ⟨_, _, _, _, s1, _⟩ := p; exact SqL.mk (s1 _ _ htb)) ?_ ?_
      · rintro i y σ H1 hi ⟨c, d, ys, rfl, s1, hy, hpy⟩
        obtain ⟨r, hir, hrm⟩ := paired_get hxb hi
        have hrl := hbl r (List.mem_of_getElem? hir)
        obtain ⟨tr, rfl, htr⟩ := hrm
        refine ⟨_, rfl, tr, rfl, ⟨_, SqT.mk (s1 _ _ htr)⟩, fun D hD => ?_⟩
        refine lc_build walk_tup r (by simp) (fun p => if decide (p ∈ met) = true then [p] else []) (stab_int D) (by omega) hD (fun H3 s3 => SqT.mk (s3 _ _ (s1 _ _ htr))) (fun i s x H4 H' k1 k0 es s4 y q1 q0 => ?_) (fun zs H3 s3 hz hp3 => ?_)
        · obtain ⟨rfl, hy⟩ := y
          obtain ⟨p, hp, rfl⟩ := ints_get hy
          obtain rfl : p = s := by rw [es] at hp; exact (Option.some.inj hp).symm
          refine ⟨rfl, _, rfl, _, rfl, tm, _, rfl, Or.inr (SqT.mk (s4 _ _ (s1 _ _ htm))), rfl, flat_ints _, ?_⟩
          rw [inV_ints]
          refine ⟨_, rfl, ?_⟩
          by_cases hm : p ∈ met
          · simp only [decide_eq_true hm]
            exact ⟨_, rfl, q1 _ _ (Same.refl _) p (by rw [decide_eq_true hm]; rfl) rfl⟩
          · simp only [decide_eq_false hm]
            exact q0 _ (Same.refl _) (by rw [decide_eq_false hm]; rfl)
        rw [flatMap_if (fun p => decide (p ∈ met))] at hp3
        have hlen : zs.length = (r.filter fun p => decide (p ∈ met)).length := paired_len hp3
        have s13 := s1.trans s3
        refine ⟨D, zs, rfl, Or.inl (SqL.mk hz), rfl, _, rfl, ?_⟩
        cases hd0 : disj met r with
        | false =>
          have hne : ¬ (V.int (zs.length : Nat) = V.int 0) := fun z => by
            injection z with z
            have : (r.filter fun p => decide (p ∈ met)).length = 0 := by omega
            rw [filt_disj.mp this] at hd0
            cases hd0
          rw [decide_eq_false hne]
          refine iteF ?_
          refine ⟨_, _, ys, rfl, s13, s3 _ _ hy, ?_⟩
          rw [flatMap_snoc hir, hd0]
          show Rws H3 ys (_ ++ [])
          rw [List.append_nil]
          exact Rws.same s3 hpy
        | true =>
          have h0 : zs.length = 0 := by rw [hlen, filt_disj.mpr hd0]
          have hee : V.int (zs.length : Nat) = V.int 0 := by rw [h0]; rfl
          rw [decide_eq_true hee]
          refine iteT ?_
          refine ⟨_, rfl, 1, rfl, noPart ⟨a, _, rfl, SqL.mk (s13 _ _ ha), fun p4 n4 => ?_⟩⟩
          rw [cut1]
          have s4 := Same.new (o := .lst xs) n4
          refine ⟨_, rfl, _, rfl, ?_⟩
          refine rd_cat (s4 _ _ (s13 _ _ htm)) (s4 _ _ (s13 _ _ htr)) (by rw [List.length_map, List.length_map]; exact small_n (by omega)) fun p5 H5 s5 h5 => ?_
          rw [← List.map_append] at h5
          have s15 := (s13.trans s4).trans s5
          have hx5 : H5 p4 = some (.lst xs) := s5 _ _ upd_same
          refine ⟨.ref p4, .ref p5, bs, met ++ r, rfl, ⟨p4, xs, rfl, hx5, Paired.mono' (fun _ _ z => z.same s15) hxs⟩, ⟨p5, rfl, h5⟩, hml, hp.tail, by rw [List.length_append]; omega, fun fa xf H6 nfa s6 hfa hxf => ?_⟩
          have s36 := (s4.trans s5).trans s6
          have hl6 : H6 l = some (.lst ys) := s36 _ _ (s3 _ _ hy)
          have nfl : fa ≠ l := fun z => by rw [z, (s4.trans s5) _ _ (s3 _ _ hy)] at nfa; cases nfa
          refine ⟨fa, rfl, ⟨_, SqL.mk hfa⟩, for_list (K := K) (a := fa) (xs := xf) (fun j σ H' => ∃ d ys, σ = [some (.ref a), some (.ref tm), some (.ref l), some (.ref tr), d, none] ∧ Same H H' ∧ H' l = some (.lst ys) ∧ (∃ D, D = fa ∧ H' fa = some (.lst xf)) ∧ Rws H' xf (parts bs (met ++ r)) ∧
              Rws H' ys (((b.take i).flatMap fun r => if disj met r = true then (parts bs (met ++ r)).map (r :: ·) else []) ++ ((parts bs (met ++ r)).take j).map (r :: ·)))
            ⟨_, ys, rfl, s13.trans s36, hl6, ⟨_, rfl, hfa⟩, hxf, by rw [List.take_zero, List.map_nil, List.append_nil]; exact Rws.same (s3.trans s36) hpy⟩ (fun j σ H' _ p => by obtain ⟨_, _, _, _, _, ⟨_, _, h⟩, _⟩ := p; exact SqL.mk h) ?_ ?_⟩
          · rintro j z σ H7 hj ⟨d, ys7, rfl, s7, hy7, ⟨_, _, hf7⟩, hxf7, hp7⟩
            obtain ⟨row, hjr, hrow⟩ := paired_get hxf7 hj
            obtain ⟨tw, xw, rfl, htw, hxw⟩ := hrow
            refine ⟨_, rfl, Or.inl ⟨rfl, _, SqL.mk hy7⟩, ?_⟩
            refine ⟨_, rfl, by show 1 ≤ sizeLine; decide, fun p8 n8 => ?_⟩
            have s8 := Same.new (o := .tup [V.ref tr]) n8
            refine ⟨_, rfl, ?_⟩
            refine rd_cat upd_same (s8 _ _ htw) ?_ fun p9 H9 s9 h9 => ?_
            · have h1 := parts_el _ _ row (List.mem_of_getElem? hjr)
              have h2 := paired_len hxw
              show 1 + xw.length ≤ sizeLine
              exact small_n (by omega)
            have s79 := s8.trans s9
            refine ⟨_, _, _, rfl, rfl, s79 _ _ hy7, ?_, ?_⟩
            · have h1 := paired_len hp7
              have h2 := hp.few 0 met
              have h3 := sub_flat (fun r => if disj met r = true then (parts bs (met ++ r)).map (r :: ·) else []) b (i + 1)
              rw [flatMap_snoc hir, hd0, List.length_append] at h3
              rw [List.length_append, List.length_map, List.length_take] at h1
              rw [List.drop_zero, parts] at h2
              have h4 : (if true = true then (parts bs (met ++ r)).map (r :: ·) else []).length = (parts bs (met ++ r)).length := by rw [if_pos rfl, List.length_map]
              have h5 : j < (parts bs (met ++ r)).length := (List.getElem?_eq_some_iff.mp hjr).1
              rw [h4] at h3
              exact small_l (by omega)
            · refine ⟨_, _, rfl, Same.mut (s7.trans s79) nl, upd_same, ⟨_, rfl, by rw [upd_ne nfl]; exact s79 _ _ hf7⟩, (stab_rw _).paired (s79 _ _ hy7) (Rws.same s79 hxf7), ?_⟩
              rw [take_snoc hjr, List.map_append, ← List.append_assoc]
              refine (stab_rw _).paired (s79 _ _ hy7) (paired_snoc (Rws.same s79 hp7) ⟨p9, _, rfl, h9, ?_⟩)
              exact .cons ⟨tr, rfl, (s7.trans s79) _ _ htr⟩ (Rms.same s79 hxw)
          · rintro σ H7 ⟨d, ys7, rfl, s7, hy7, _, hxf7, hp7⟩
            refine ⟨_, _, ys7, rfl, s7, hy7, ?_⟩
            rw [flatMap_snoc hir, hd0]
            rw [paired_len hxf7, List.take_length] at hp7
            exact hp7
      · rintro σ H1 ⟨c, d, ys, rfl, s1, hy, hpy⟩
        rw [paired_len hxb, List.take_length] at hpy
        exact ⟨_, rfl, k l ys _ nl s1 hy hpy⟩
theorem ok_parts (F : DefC K mg "_law_partitions" sParts ["_law_books", "_law_met"]) (B : Bl mg) : ∀ m : Nat, Cal P w K mg base (m + 1) "_law_partitions" (spParts m) := by
  intro m
  induction m using Nat.strongRecOn with
  | _ m ih =>
    refine cal_mk F scParts (fun vs H Q E h => ?_) (fun f cdv A outer sh H vs Q E hr h => parts_body B m ih f cdv A outer sh H vs Q E hr h)
    obtain ⟨v, u, bs, met, rfl, _⟩ := h
    rfl
/-- .. however many books -/
def spPartsU : Sp := fun vs H Q E => ∃ m, m ≤ 12 ∧ spParts m vs H Q E
theorem ok_partsU (F : DefC K mg "_law_partitions" sParts ["_law_books", "_law_met"]) (B : Bl mg) : Cal P w K mg base 13 "_law_partitions" spPartsU := by
  refine cal_mk F scParts (fun vs H Q E h => ?_) (fun f cdv A outer sh H vs Q E hr h => ?_)
  · obtain ⟨m, _, v, u, bs, met, rfl, _⟩ := h
    rfl
  · obtain ⟨m, hm, h⟩ := h
    exact parts_body B m (fun j _ => ok_parts F B j) f cdv A outer sh H vs Q E (hr.mono hm) h
end
end NA
/-! _law_covers: the ledger as the law makes it. -/
namespace NA
open PySem PySem.Spec PyProof.Rows L2
/-- an entry of a ledger: a pair of a room and a number -/
def En (H : Hp) (v : V) (e : List Int × Int) : Prop := ∃ t x, v = .ref t ∧ H t = some (.tup [x, .int e.2]) ∧ Rm H x e.1
/-- a list of entries -/
def EnL (H : Hp) (v : V) (es : Ways) : Prop := ∃ a xs, v = .ref a ∧ H a = some (.lst xs) ∧ Paired (En H) xs es
theorem En.same {H H' : Hp} (s : Same H H') {v : V} {e : List Int × Int} (h : En H v e) : En H' v e := let ⟨t, x, q, h, r⟩ := h; ⟨t, x, q, s _ _ h, r.same s⟩
theorem EnL.same {H H' : Hp} (s : Same H H') {v : V} {es : Ways} (h : EnL H v es) : EnL H' v es := let ⟨t, x, q, h, r⟩ := h; ⟨t, x, q, s _ _ h, Paired.mono' (fun _ _ z => z.same s) r⟩
theorem stab_en (D : Addr) : Stab D En := ⟨fun s h => h.same s, fun {H v d xs ys} hD h => by
  obtain ⟨t, x, e, h, r⟩ := h
  exact ⟨t, x, e, by rw [upd_ne (fun z => by rw [z, hD] at h; cases h)]; exact h, (stab_rm D).wr hD r⟩⟩
/-- a list of entries that H0 does not know -/
def EnF (H0 : Hp) (H : Hp) (v : V) (es : Ways) : Prop := ∃ a xs, v = .ref a ∧ H0 a = none ∧ H a = some (.lst xs) ∧ Paired (En H) xs es
theorem EnF.same {H0 H H' : Hp} (s : Same H H') {v : V} {es : Ways} (h : EnF H0 H v es) : EnF H0 H' v es := let ⟨t, x, q, n, h, r⟩ := h; ⟨t, x, q, n, s _ _ h, Paired.mono' (fun _ _ z => z.same s) r⟩
theorem EnF.enl {H0 H : Hp} {v : V} {es : Ways} (h : EnF H0 H v es) : EnL H v es := let ⟨t, x, q, n, h, r⟩ := h; ⟨t, x, q, h, r⟩
/-- .. and that is not the list at D -/
theorem EnF.wr {H0 H : Hp} {D : Addr} {xs ys : List V} {v : V} {es : Ways} (hD : H D = some (.lst xs)) (ne : v ≠ .ref D) (h : EnF H0 H v es) : EnF H0 (upd H D (.lst ys)) v es := by
  obtain ⟨a, zs, rfl, n, h, r⟩ := h
  exact ⟨a, zs, rfl, n, by rw [upd_ne (fun z => ne (by rw [z]))]; exact h, (stab_en D).paired hD r⟩
def entries (w : Ways) : Ways := (srtR (w.map (·.1))).map fun k => (k, getD w k)
def waysAt (bs : List (List (List Int))) (j : Nat) : Ways := (bs.take j).foldl ext one0
def covers (bs : List (List (List Int))) : List Ways := (List.range (bs.length + 1)).map fun j => entries (waysAt bs j)
theorem entries_one0 : entries one0 = one0 := by
  unfold entries one0
  show (srtR [[]]).map _ = _
  have : srtR [[]] = [[]] := by simp [srtR]
  rw [this]
  show [([], getD [([], 1)] [])] = [([], 1)]
  have : getD [([], 1)] [] = 1 := by unfold getD getA; simp
  rw [this]
theorem waysAt_snoc {bs : List (List (List Int))} {j : Nat} {b : List (List Int)} (h : bs[j]? = some b) : waysAt bs (j + 1) = ext (waysAt bs j) b := by
  unfold waysAt
  rw [take_snoc h, foldl_one]
theorem getA_key {w : Ways} {k : List Int} (h : k ∈ w.map (·.1)) : getA w k = some (getD w k) := by
  unfold getD
  have : (getA w k).isSome = true := by
    unfold getA
    rw [Option.isSome_map, List.find?_isSome]
    obtain ⟨e, he, hk⟩ := List.mem_map.mp h
    exact ⟨e, he, decide_eq_true hk⟩
  obtain ⟨x, hx⟩ := Option.isSome_iff_exists.mp this
  rw [hx] <;> rfl
/-- what the ledger asks of its books -/
structure OkLed (bs : List (List (List Int))) : Prop where
  ok : ∀ j b, bs[j]? = some b → OkExt (waysAt bs j) b
  ne : ∀ j, j < bs.length → ∀ e ∈ waysAt bs (j + 1), e.1 ≠ []
  few : ∀ j, j ≤ bs.length → (waysAt bs j).length ≤ 100000
theorem srtR_perm (rs : List (List Int)) : (srtR rs).Perm rs := List.mergeSort_perm _ _
/-- [(k, w[k]) for k in sorted(w)] -/
theorem rd_entries {K : PySem.W.Frag} {σ : L2.St} {H : Hp} {Q : VK} {d : Addr} {w : Ways} {i j : Nat} (hd : H d = some (.dT (encA V.int w))) (hi : σ[i]? = some (some (.ref d))) (hz : w.length ≤ 100000) (hne : ∀ e ∈ w, e.1 ≠ [])
    (hw : ∀ x, wipe ((wipe σ [j]).set j (some x)) [j] = wipe σ [j]) (hj : ∀ x, ((wipe σ [j]).set j (some x))[j]? = some (some x)) (hij : ∀ x, ((wipe σ [j]).set j (some x))[i]? = some (some (.ref d)))
    (done : ∀ D xs H', H D = none → Same H H' → H' D = some (.lst xs) → Paired (En H') xs (entries w) → Q (.ref D) H') :
    tLc (iList K (tCB (rSrtD Int V.int) (tCons (tVar i) tNil))) (gName j) tYes (tTup (tCons (tVar j) (tCons (tDGet (tVar i) (tVar j)) tNil))) [j] σ H Q := by
  refine ⟨_, hi, d, w, rfl, .inl hd, hne, fun p zs np hzs => ?_⟩
  have s1 := Same.new (o := .lst zs) np
  refine ⟨p, rfl, ⟨zs, SqL.mk upd_same⟩, fun D hD => ?_⟩
  have hsl : (srtR (w.map (·.1))).length = w.length := by rw [(srtR_perm _).length_eq, List.length_map]
  refine lc_build walk_list (srtR (w.map (·.1))) (paired_len hzs) (fun k => [(k, getD w k)]) (stab_en D) (by omega) hD (fun H3 s3 => SqL.mk (s3 _ _ upd_same)) (fun i s x H4 H' k1 k0 es s4 y q1 q0 => ?_) (fun xs H3 s3 hx hp => ?_)
  · obtain ⟨rfl, hy⟩ := y
    obtain ⟨k, hk, hkm⟩ := paired_get hzs hy
    obtain rfl : k = s := by rw [es] at hk; exact (Option.some.inj hk).symm
    refine ⟨hw _, yesT ?_⟩
    have s14 := s1.trans s4
    have hkm4 := hkm.same s14
    have hmem : k ∈ w.map (·.1) := (srtR_perm _).mem_iff.mp (List.mem_of_getElem? es)
    have hg := dget_r (f := V.int) (s14 _ _ hd) hkm4
    rw [getA_key hmem] at hg
    refine ⟨_, hj _, _, hij _, _, hj _, d, _, rfl, hg, by show 2 ≤ sizeLine; decide, fun t nt => ?_⟩
    exact q1 _ _ (Same.new nt) _ rfl ⟨t, x, rfl, upd_same, hkm4.same (Same.new nt)⟩
  · rw [flatMap_one] at hp
    exact done D xs H3 (s1.free hD) (s1.trans s3) hx hp
section
variable {P : Program} {w : World} {K : PySem.W.Frag} {mg : Str → Option Value} {base : Heap}
abbrev sCovers : Stmt := top 45
abbrev nCovers : List Str := ["_law_books", "_law_lists", "_law_ways", "_law_rooms_here", "_law_covered"]
/-- a fresh list of fresh lists of entries -/
def spCovers : Sp := fun vs H Q _ => ∃ v bs, vs = [v] ∧ BkL H v bs ∧ OkLed bs ∧ bs.length ≤ 1000 ∧ ∀ a xs H', H a = none → Same H H' → H' a = some (.lst xs) → Paired (EnF H H') xs (covers bs) → Q (.ref a) H'
theorem scCovers : FnScope nCovers ["_law_books"] (defScope sCovers) := ⟨rfl, rfl, rfl, by decide +kernel, rfl, by decide +kernel, by decide +kernel⟩
/-- the step that both ledgers share: a new list of entries to the list of lists -/
theorem led_step {H H1 H2 : Hp} {l D : Addr} {xs ys : List V} {bs : List (List (List Int))} {i : Nat} (nl : H l = none) (s1 : Same H H1) (s2 : Same H1 H2) (hl : H1 l = some (.lst xs)) (hp : Paired (EnF H H1) xs ((List.range (i + 1)).map fun j => entries (waysAt bs j))) (hx : ∀ x ∈ xs, x ≠ .ref l)
    (nD : H1 D = none) (hD : H2 D = some (.lst ys)) (he : Paired (En H2) ys (entries (waysAt bs (i + 1)))) :
    Same H (upd H2 l (.lst (xs ++ [.ref D]))) ∧ Paired (EnF H (upd H2 l (.lst (xs ++ [.ref D])))) (xs ++ [.ref D]) ((List.range (i + 1 + 1)).map fun j => entries (waysAt bs j)) ∧ ∀ x ∈ xs ++ [V.ref D], x ≠ .ref l := by
  have hl2 := s2 _ _ hl
  have nDl : V.ref D ≠ V.ref l := fun z => by
    injection z with z
    rw [z, hl] at nD
    cases nD
  refine ⟨Same.mut (s1.trans s2) nl, ?_, fun x hm => ?_⟩
  · rw [List.range_succ, List.map_append]
    refine paired_app ?_ (.cons (EnF.wr hl2 nDl ⟨D, ys, rfl, s1.free nD, hD, he⟩) .nil)
    generalize (List.range (i + 1)).map (fun j => entries (waysAt bs j)) = es at hp
    generalize hzz : xs ++ [V.ref D] = zz
    clear hzz
    revert hp hx
    have go : ∀ {ws : List V} {es : List Ways}, (∀ x ∈ ws, x ≠ V.ref l) → Paired (EnF H H1) ws es → Paired (EnF H (upd H2 l (.lst zz))) ws es := by
      intro ws es hne hp
      induction hp with
      | nil => exact .nil
      | cons h t ih => exact .cons (EnF.wr hl2 (hne _ List.mem_cons_self) (h.same s2)) (ih fun x hx => hne x (List.mem_cons_of_mem _ hx))
    exact fun hx hp => go hx hp
  · rcases List.mem_append.mp hm with h | h
    · exact hx x h
    · rw [List.mem_singleton] at h
      rw [h]
      exact nDl
theorem ok_covers (F : DefC K mg "_law_covers" sCovers ["_law_books"]) (B : Bl mg) (cL : Cal P w K mg base 1 "_law_longer" (spExt RmL)) : Cal P w K mg base 2 "_law_covers" spCovers := by
  refine cal_mk F scCovers (fun vs H Q E h => ?_) (fun f cdv A outer sh H vs Q E hr h => ?_)
  · obtain ⟨v, bs, rfl, _⟩ := h
    rfl
  · obtain ⟨v, bs, rfl, ⟨a, xb, rfl, ha, hxb⟩, ok, hbl, k⟩ := h
    have hu := hu_of hr
    have nd := scCovers.nd
    refine ⟨_, pss_cons (ps_set (i := 1) nd rfl (Or.inl rfl) (pe_lst (pa_cons (pe_lst (pa_cons (pe_tup (pa_cons (pe_tup pa_nil) (pa_cons pe_int pa_nil))) pa_nil)) pa_nil)))
      (pss_cons (ps_set (i := 2) nd rfl (Or.inr rfl) (pe_disp1 hu (pe_tup pa_nil) pe_int))
      (pss_cons (ps_for PassesOwn.never rfl (pi_list (pv 0)) (pg_name (i := 3) nd rfl (Or.inl rfl))
        (pss_cons (ps_set (i := 2) nd rfl (Or.inr rfl) (pe_c cL hr (Nat.le_refl _) (pa_cons (pv 2) (pa_cons (pv 3) pa_nil))))
        (pss_one (ps_expr (pe_bm PySem.F.plainAttrs_list PySem.F.slot_list_append PySem.F.type_list_append mt_append (pv 1)
          (pa_cons (pe_lc (own := [("_law_covered", 4)]) (g := gName 4) (tt := tYes) rfl nd (pi_list (b_sortD Int V.int B hr (pv 2))) (blkOk_by (N := nCovers) (sc := defScope sCovers) (by decide +kernel))
            (fun _ _ _ _ _ => pg_name (i := 4) nd rfl (Or.inl rfl)) (fun _ _ _ _ _ => pts_nil) (fun _ _ _ _ _ => pe_tup (pa_cons (pv 4) (pa_cons (pe_dget hu (pv 2) (pv 4) (fun _ _ => rfl)) pa_nil)))) pa_nil))))))
      (pss_one (ps_ret (pv 1))))), ?_⟩
    -- the first list
    refine ⟨by decide, fun p1 n1 => ⟨by show 2 ≤ sizeLine; decide, fun p2 n2 => ⟨by show 1 ≤ sizeLine; decide, fun p3 n3 => ⟨by show 1 ≤ sizeLine; decide, fun l nl => ?_⟩⟩⟩⟩
    have s1 := Same.new (o := .tup []) n1
    have s2 := Same.new (o := .tup [V.ref p1, V.int 1]) n2
    have s3 := Same.new (o := .lst [V.ref p2]) n3
    have s4 := Same.new (o := .lst [V.ref p3]) nl
    have hEn : EnF H (upd (upd (upd (upd H p1 (.tup [])) p2 (.tup [V.ref p1, V.int 1])) p3 (.lst [V.ref p2])) l (.lst [V.ref p3])) (.ref p3) one0 :=
      ⟨p3, [.ref p2], rfl, (s1.trans s2).free n3, s4 _ _ upd_same, .cons ⟨p2, .ref p1, rfl, s4 _ _ (s3 _ _ upd_same), ⟨p1, rfl, s4 _ _ (s3 _ _ (s2 _ _ upd_same))⟩⟩ .nil⟩
    have n3l : V.ref p3 ≠ V.ref l := fun z => by
      injection z with z
      rw [z, upd_same] at nl
      cases nl
    have hl0 : (upd (upd (upd (upd H p1 (.tup [])) p2 (.tup [V.ref p1, V.int 1])) p3 (.lst [V.ref p2])) l (.lst [V.ref p3])) l = some (.lst [V.ref p3]) := upd_same
    have sA := ((s1.trans s2).trans s3).trans s4
    have nl0 : H l = none := ((s1.trans s2).trans s3).free nl
    generalize upd (upd (upd (upd H p1 (.tup [])) p2 (.tup [V.ref p1, V.int 1])) p3 (.lst [V.ref p2])) l (.lst [V.ref p3]) = H1 at sA hEn hl0
    -- ways = {(): 1}
    intro p np
    refine ⟨by decide, fun q nq => ⟨q, [], rfl, upd_same, ?_⟩⟩
    have npq : p ≠ q := fun z => by rw [z, upd_same] at nq; cases nq
    refine ⟨by rw [upd_ne npq, upd_same], ?_⟩
    have s5 : Same H1 (upd (upd (upd H1 p (.dT [])) q (.tup [])) p (.dT [([], .int 1)])) := Same.mut ((Same.new np).trans (Same.new nq)) np
    have hw0 : DcI (upd (upd (upd H1 p (.dT [])) q (.tup [])) p (.dT [([], .int 1)])) (.ref p) one0 := ⟨p, rfl, upd_same⟩
    generalize upd (upd (upd H1 p (.dT [])) q (.tup [])) p (.dT [([], .int 1)]) = H2 at s5 hw0
    have sB := sA.trans s5
    refine ⟨_, rfl, a, rfl, ⟨_, SqL.mk (sB _ _ ha)⟩, for_list (K := K) (a := a) (xs := xb) (fun i σ H' => ∃ wv c xs, σ = [some (.ref a), some (.ref l), some wv, c, none] ∧ Same H H' ∧ DcI H' wv (waysAt bs i) ∧ H' l = some (.lst xs) ∧ (∀ x ∈ xs, x ≠ .ref l) ∧
        Paired (EnF H H') xs ((List.range (i + 1)).map fun j => entries (waysAt bs j)))
      ⟨_, none, _, rfl, sB, hw0, s5 _ _ hl0, fun x hx => by rw [List.mem_singleton] at hx; rw [hx]; exact n3l, .cons (by show EnF H H2 _ (entries one0); rw [entries_one0]; exact hEn.same s5) .nil⟩ (fun i σ H' _ p => by obtain ⟨_, _, _, _, s1, _⟩ := p; exact SqL.mk (s1 _ _ ha)) ?_ ?_⟩
    · rintro i x σ H3 hi ⟨wv, c, xs, rfl, s6, hwv, hl3, hne3, hp3⟩
      obtain ⟨b, hib, hxm⟩ := paired_get hxb hi
      have hil : i < bs.length := (List.getElem?_eq_some_iff.mp hib).1
      obtain ⟨o1, o2, o3, o4⟩ := ok.ok i b hib
      refine ⟨_, rfl, _, rfl, wv, x, _, b, rfl, hwv, hxm.same s6, o1, o2, o3, o4, fun dw H4 ndw s7 hdw => ?_⟩
      rw [← waysAt_snoc hib] at hdw
      have hl4 := s7 _ _ hl3
      refine ⟨_, rfl, Or.inl ⟨rfl, _, SqL.mk hl4⟩, ?_⟩
      refine rd_entries (K := K) (i := 2) (j := 4) hdw rfl (ok.few _ hil) (ok.ne i hil) (fun _ => rfl) (fun _ => rfl) (fun _ => rfl) fun D ys H5 nD s8 hD he => ?_
      refine ⟨l, xs, _, rfl, rfl, s8 _ _ hl4, ?_, ?_⟩
      · have h1 := paired_len hp3
        rw [List.length_map, List.length_range] at h1
        exact small_l (by omega)
      · have nl4 : V.ref D ≠ V.ref l := fun z => by
          injection z with z
          rw [z, hl4] at nD
          cases nD
        obtain ⟨q1, q2, q3⟩ := led_step (H1 := H4) (H2 := H5) nl0 (s6.trans s7) s8 hl4 (Paired.mono' (fun _ _ z => z.same s7) hp3) hne3 nD hD he
        refine ⟨_, _, _, rfl, q1, ⟨dw, rfl, ?_⟩, upd_same, q3, q2⟩
        rw [upd_ne (fun z => by rw [z, hl4] at hdw; cases hdw)]
        exact s8 _ _ hdw
    · rintro σ H3 ⟨wv, c, xs, rfl, s6, hwv, hl3, hne3, hp3⟩
      rw [paired_len hxb] at hp3
      exact ⟨_, rfl, k l xs H3 nl0 s6 hl3 hp3⟩
end
end NA
/-! Books and families: what they look like; the words for their methods; Book.__init__, odd_faces, is_even. -/
namespace NA
open PySem PySem.Spec PyProof.Rows L2
/-- a method as the top left it -/
structure MetC (K : PySem.W.Frag) (C : Addr) (m qual : Str) (st : Stmt) (ps : List Str) : Prop where
  ex : ∃ (f : Addr) (fd : FuncData), Fun K m qual st f fd ∧ Meth K C m f ∧ Binds K fd ps []
/-- a method that may be called -/
structure Mtd (P : Program) (w : World) (K : PySem.W.Frag) (mg : Str → Option Value) (base : Heap) (k : Nat) (C : Addr) (m : Str) (sp : Sp) : Prop where
  ex : ∃ (f : Addr) (fd : FuncData) (ps : List Str), FnOk P w K mg base CX0 k f fd ps sp ∧ Meth K C m f ∧ Binds K fd ps []
/-- a class's __init__ as the top left it -/
structure IniC (K : PySem.W.Frag) (mg : Str → Option Value) (C : Addr) (x qual : Str) (st : Stmt) (ps : List Str) : Prop where
  ex : ∃ (f : Addr) (fd : FuncData), Fun K "__init__" qual st f fd ∧ Mk K C f ∧ mg x = some (.ref C) ∧ Binds K fd ps []
structure Ini (P : Program) (w : World) (K : PySem.W.Frag) (mg : Str → Option Value) (base : Heap) (k : Nat) (x : Str) (C : Addr) (sp : Sp) : Prop where
  ex : ∃ (f : Addr) (fd : FuncData) (ps : List Str), FnOk P w K mg base CX0 k f fd ps sp ∧ Mk K C f ∧ mg x = some (.ref C) ∧ Binds K fd ps []
/-- a property -/
structure PrpC (K : PySem.W.Frag) (C : Addr) (m qual : Str) (st : Stmt) (ps : List Str) : Prop where
  ex : ∃ (f p : Addr) (fd : FuncData), Fun K m qual st f fd ∧ PropOf K C m p f ∧ Binds K fd ps []
structure Prp (P : Program) (w : World) (K : PySem.W.Frag) (mg : Str → Option Value) (base : Heap) (k : Nat) (C : Addr) (m : Str) (sp : Sp) : Prop where
  ex : ∃ (f p : Addr) (fd : FuncData) (ps : List Str), FnOk P w K mg base CX0 k f fd ps sp ∧ PropOf K C m p f ∧ Binds K fd ps []
section
variable {P : Program} {w : World} {K : PySem.W.Frag} {mg : Str → Option Value} {base : Heap} {C : Addr}
theorem mtd_mk {m qual : Str} {st : Stmt} {N ps : List Str} {k : Nat} {sp : Sp} (F : MetC K C m qual st ps) (S : FnScope N ps (defScope st)) (len : ∀ vs H Q E, sp vs H Q E → vs.length = ps.length)
    (hbody : ∀ (f : Addr) (cdv : Value) (A : Around) (outer : List Env) (s : Shared) (H : Hp) (vs : List V) (Q : VK) (E : XK), Room k (A.deeper (envOfC qual (defScope st) s.heap.objs.size f cdv)) → sp vs H Q E →
      ∃ t, PSs (cxOf CX0 P w K mg base N qual (defScope st) f cdv A outer s H E).nox (defBody st) t ∧ t { nx := fun _ H' => Q .non H', rt := Q } (start N vs) H) : Mtd P w K mg base (k + 1) C m sp := by
  obtain ⟨f, fd, h, mm, b⟩ := F.ex
  exact ⟨f, fd, ps, h.ok S len (hbody f), mm, b⟩
theorem ini_mk {x qual : Str} {st : Stmt} {N ps : List Str} {k : Nat} {sp : Sp} (F : IniC K mg C x qual st ps) (S : FnScope N ps (defScope st)) (len : ∀ vs H Q E, sp vs H Q E → vs.length = ps.length)
    (hbody : ∀ (f : Addr) (cdv : Value) (A : Around) (outer : List Env) (s : Shared) (H : Hp) (vs : List V) (Q : VK) (E : XK), Room k (A.deeper (envOfC qual (defScope st) s.heap.objs.size f cdv)) → sp vs H Q E →
      ∃ t, PSs (cxOf CX0 P w K mg base N qual (defScope st) f cdv A outer s H E).nox (defBody st) t ∧ t { nx := fun _ H' => Q .non H', rt := Q } (start N vs) H) : Ini P w K mg base (k + 1) x C sp := by
  obtain ⟨f, fd, h, mm, g, b⟩ := F.ex
  exact ⟨f, fd, ps, h.ok S len (hbody f), mm, g, b⟩
theorem prp_mk {m qual : Str} {st : Stmt} {N ps : List Str} {k : Nat} {sp : Sp} (F : PrpC K C m qual st ps) (S : FnScope N ps (defScope st)) (len : ∀ vs H Q E, sp vs H Q E → vs.length = ps.length)
    (hbody : ∀ (f : Addr) (cdv : Value) (A : Around) (outer : List Env) (s : Shared) (H : Hp) (vs : List V) (Q : VK) (E : XK), Room k (A.deeper (envOfC qual (defScope st) s.heap.objs.size f cdv)) → sp vs H Q E →
      ∃ t, PSs (cxOf CX0 P w K mg base N qual (defScope st) f cdv A outer s H E).nox (defBody st) t ∧ t { nx := fun _ H' => Q .non H', rt := Q } (start N vs) H) : Prp P w K mg base (k + 1) C m sp := by
  obtain ⟨f, p, fd, h, mm, b⟩ := F.ex
  exact ⟨f, p, fd, ps, h.ok S len (hbody f), mm, b⟩
end
section
variable {X : Cx} {k j : Nat} {x m : Str} {C : Addr} {sp : Sp} {p pos apos : Pos} {e o : Expr} {es : List Expr} {t : TA} {ta : TE}
theorem pe_mk (c : Ini X.prog X.w X.K X.mg X.base k x C sp) (hr : Room j X.A) (hk : k + 1 ≤ j) (ha : PA X (e :: es) t) (hg : Gl X x := by rfl)
    (hdb : (x == ("__debug__" : Str)) = false := by decide) (he : starEach (e :: es) X.env = (false, eval e X.env) :: starEach es X.env := by rfl) (hpl : (backTo pos (starEach es X.env)).any (·.1) = false := by rfl) :
    PE X (.Call (.Name x p) (e :: es) [] pos) (tMake C sp [] E0 t) := by
  obtain ⟨f, fd, ps, F, M, hm, b⟩ := c.ex
  exact pe_make M F (hr.mono hk) hg hm b .nil pass0 ha hdb he hpl
theorem pe_mt {pl : Sem Bool} (c : Mtd X.prog X.w X.K X.mg X.base k C m sp) (cl : Cls X.K C) (hr : Room j X.A) (hk : k ≤ j) (he : PE X o ta) (ha : PA X (e :: es) t)
    (hst : starEach (e :: es) X.env = (false, eval e X.env) :: starEach es X.env := by rfl) (hpl : (backTo pos (starEach es X.env)).any (·.1) = false := by rfl)
    (ht : eval (.Call (.Attribute o m apos) (e :: es) [] pos) X.env = (do
      let ov ← eval o X.env
      standAt apos.atName
      let (f, first) ← holding [ov] (getMethod ov m pl)
      callWith pos f first (backTo pos (starEach (e :: es) X.env)) (backToKw pos (keywordEach [] X.env))) := by rfl) :
    PE X (.Call (.Attribute o m apos) (e :: es) [] pos) (tMeth C m sp [] E0 ta t) := by
  obtain ⟨f, fd, ps, F, hm, b⟩ := c.ex
  exact pe_meth (pl := pl) he cl hm F (hr.mono hk) b .nil pass0 ha hst hpl ht
theorem pe_mt0 {pl : Sem Bool} (c : Mtd X.prog X.w X.K X.mg X.base k C m sp) (cl : Cls X.K C) (hr : Room j X.A) (hk : k ≤ j) (he : PE X o ta)
    (ht : eval (.Call (.Attribute o m apos) [] [] pos) X.env = (do
      let ov ← eval o X.env
      standAt apos.atName
      let (f, first) ← holding [ov] (getMethod ov m pl)
      callWith pos f first (backTo pos (starEach [] X.env)) (backToKw pos (keywordEach [] X.env))) := by rfl) :
    PE X (.Call (.Attribute o m apos) [] [] pos) (tMeth C m sp [] E0 ta tNil) := by
  obtain ⟨f, fd, ps, F, hm, b⟩ := c.ex
  exact pe_meth0 (pl := pl) he cl hm F (hr.mono hk) b .nil pass0 ht
theorem pe_pr (c : Prp X.prog X.w X.K X.mg X.base k C m sp) (cl : Cls X.K C) (hr : Room j X.A) (hk : k + 1 ≤ j) (he : PE X e ta) (hab : attributeBase e m X.env (eval e X.env) = eval e X.env := by rfl) :
    PE X (.Attribute e m pos) (tProp C sp [] E0 ta) := by
  obtain ⟨f, p, fd, ps, F, hm, b⟩ := c.ex
  exact pe_prop he cl hm F (hr.mono hk) b .nil pass0 hab
end
/-! ### the data -/
def bookF (n s : Nat) (t : Addr) : List (Str × V) := [("places", V.int n), ("size", V.int s), ("rooms", V.ref t)]
def famF (n : Nat) (t : Addr) : List (Str × V) := [("places", V.int n), ("books", V.ref t)]
theorem putB (n s : Nat) (t : Addr) : putF "rooms" (V.ref t) (putF "size" (V.int s) (putF "places" (V.int n) [])) = bookF n s t := by
  have h1 : ¬ (("places" : Str) = "size") := by decide +kernel
  have h2 : ¬ (("places" : Str) = "rooms") := by decide +kernel
  have h3 : ¬ (("size" : Str) = "rooms") := by decide +kernel
  have e1 : putF "places" (V.int n) [] = ([("places", V.int n)] : List (Str × V)) := rfl
  have e2 : putF "size" (V.int s) [(("places" : Str), V.int (n : Int))] = ([("places", V.int n), ("size", V.int s)] : List (Str × V)) := by
    show (if ("places" : Str) = "size" then _ else (("places" : Str), V.int (n : Int)) :: putF "size" (V.int s) []) = _
    rw [if_neg h1]
    rfl
  rw [e1, e2]
  show (if ("places" : Str) = "rooms" then _ else (("places" : Str), V.int (n : Int)) :: (if ("size" : Str) = "rooms" then _ else (("size" : Str), V.int (s : Int)) :: putF "rooms" (V.ref t) [])) = _
  rw [if_neg h2, if_neg h3]
  rfl
theorem putFm (n : Nat) (t : Addr) : putF "books" (V.ref t) (putF "places" (V.int n) []) = famF n t := by
  have h1 : ¬ (("places" : Str) = "books") := by decide +kernel
  have e1 : putF "places" (V.int n) [] = ([("places", V.int n)] : List (Str × V)) := rfl
  rw [e1]
  show (if ("places" : Str) = "books" then _ else (("places" : Str), V.int (n : Int)) :: putF "books" (V.ref t) []) = _
  rw [if_neg h1]
  rfl
theorem bkP (n s : Nat) (t : Addr) : (bookF n s t).lookup ("places" : Str) = some (.int n) := rfl
theorem bkS (n s : Nat) (t : Addr) : (bookF n s t).lookup ("size" : Str) = some (.int s) := by
  have h : (("size" : Str) == ("places" : Str)) = false := by decide +kernel
  unfold bookF
  rw [List.lookup_cons, h]
  rfl
theorem bkR (n s : Nat) (t : Addr) : (bookF n s t).lookup ("rooms" : Str) = some (.ref t) := by
  have h : (("rooms" : Str) == ("places" : Str)) = false := by decide +kernel
  have h2 : (("rooms" : Str) == ("size" : Str)) = false := by decide +kernel
  unfold bookF
  rw [List.lookup_cons, h]
  show List.lookup ("rooms" : Str) [(("size" : Str), V.int (s : Int)), ("rooms", V.ref t)] = _
  rw [List.lookup_cons, h2]
  rfl
theorem bkNo (n s : Nat) (t : Addr) {m : Str} (h1 : (m == ("places" : Str)) = false) (h2 : (m == ("size" : Str)) = false) (h3 : (m == ("rooms" : Str)) = false) : (bookF n s t).lookup m = none := by
  unfold bookF
  rw [List.lookup_cons, h1]
  show List.lookup m [(("size" : Str), V.int (s : Int)), ("rooms", V.ref t)] = _
  rw [List.lookup_cons, h2]
  show List.lookup m [(("rooms" : Str), V.ref t)] = _
  rw [List.lookup_cons, h3]
  rfl
theorem fmP (n : Nat) (t : Addr) : (famF n t).lookup ("places" : Str) = some (.int n) := rfl
theorem fmB (n : Nat) (t : Addr) : (famF n t).lookup ("books" : Str) = some (.ref t) := by
  have h : (("books" : Str) == ("places" : Str)) = false := by decide +kernel
  unfold famF
  rw [List.lookup_cons, h]
  rfl
theorem fmNo (n : Nat) (t : Addr) {m : Str} (h1 : (m == ("places" : Str)) = false) (h2 : (m == ("books" : Str)) = false) : (famF n t).lookup m = none := by
  unfold famF
  rw [List.lookup_cons, h1]
  show List.lookup m [(("books" : Str), V.ref t)] = _
  rw [List.lookup_cons, h2]
  rfl
abbrev Rooms := List (List Int)
/-- a book of n places, its rooms of s places -/
def BookAt (C : Addr) (H : Hp) (v : V) (n : Nat) (b : Nat × Rooms) : Prop := ∃ a dx t xs, v = .ref a ∧ H a = some (.ins C dx (bookF n b.1 t)) ∧ H t = some (.tup xs) ∧ Rms H xs b.2
def FamAt (CB CF : Addr) (H : Hp) (v : V) (n : Nat) (bs : List (Nat × Rooms)) : Prop := ∃ a dx t xs, v = .ref a ∧ H a = some (.ins CF dx (famF n t)) ∧ H t = some (.tup xs) ∧ Paired (fun v b => BookAt CB H v n b) xs bs
theorem BookAt.same {C : Addr} {H H' : Hp} (s : Same H H') {v : V} {n : Nat} {b : Nat × Rooms} (h : BookAt C H v n b) : BookAt C H' v n b :=
  let ⟨a, dx, t, xs, e, h1, h2, h3⟩ := h; ⟨a, dx, t, xs, e, s _ _ h1, s _ _ h2, Rms.same s h3⟩
theorem FamAt.same {CB CF : Addr} {H H' : Hp} (s : Same H H') {v : V} {n : Nat} {bs : List (Nat × Rooms)} (h : FamAt CB CF H v n bs) : FamAt CB CF H' v n bs :=
  let ⟨a, dx, t, xs, e, h1, h2, h3⟩ := h; ⟨a, dx, t, xs, e, s _ _ h1, s _ _ h2, Paired.mono' (fun _ _ z => z.same s) h3⟩
/-- the classes as the top left them -/
structure TC (K : PySem.W.Frag) (mg : Str → Option Value) (CB CF : Addr) : Prop where
  clB : Cls K CB
  bP : NoAttr K CB "places"
  bS : NoAttr K CB "size"
  bR : NoAttr K CB "rooms"
  mgB : mg "Book" = some (.ref CB)
  most : ∃ (mc : Value) (u : Value), ClX.CRead K CB mc ∧ ClX.CVal K CB mc "MOST_PLACES" (.int 12) u
  hb1 : PySem.W.findIn K (.ref CB) "__class__" = some (some (.builtin "object.__class__"))
  hc1 : PySem.W.specialIn K (.builtin "object.__class__") "__get__" = some (some (.builtin "getset_descriptor.__get__"))
  hc2 : PySem.W.takesIn K (.builtin "object.__class__") = some true
  hb2 : PySem.W.mroIn K CB (.type "object") = some true
  kit : PySem.W.kitOne K (.ref CB) (.ref CB) = some true
  sf : PySem.W.selfFirst K CB = true
  clF : Cls K CF
  fP : NoAttr K CF "places"
  fB : NoAttr K CF "books"
  mgF : mg "Family" = some (.ref CF)
/-- a book as it should be: rooms of one size, rising, none twice -/
structure Vb (n s : Nat) (b : Rooms) : Prop where
  rm : ∀ r ∈ b, Vr n s r
  srt : b.Pairwise (· < ·)
theorem srtI_id {r : List Int} (h : r.Pairwise (· < ·)) : srtI r = r := by
  unfold srtI
  refine List.mergeSort_of_pairwise (h.imp fun {a b} q => ?_)
  exact decide_eq_true (Int.le_of_lt q)
theorem lt_asymR {a b : List Int} (h : a < b) : ¬ b < a := List.lt_asymm h
theorem srtR_id {b : Rooms} (h : b.Pairwise (· < ·)) : srtR b = b := by
  unfold srtR
  refine List.mergeSort_of_pairwise (h.imp fun {a b} q => ?_)
  show (!decide (b < a)) = true
  rw [decide_eq_false (lt_asymR q)]
  rfl
theorem lt_neR {a b : List Int} (h : a < b) : a ≠ b := fun e => by
  rw [e] at h
  exact lt_asymR h h
theorem Vb.nd {n s : Nat} {b : Rooms} (h : Vb n s b) : b.Nodup := h.srt.imp lt_neR
end NA
/-! Book.__init__, odd_faces, is_even, __len__, __mul__. -/
namespace NA
open PySem PySem.Spec PyProof.Rows L2
section
variable {P : Program} {w : World} {K : PySem.W.Frag} {mg : Str → Option Value} {base : Heap} {CB CF : Addr}
abbrev sBInit : Stmt := inClass (top 26) 1
abbrev nBInit : List Str := ["self", "places", "size", "rooms", "known", "at", "listed", "fault", "room"]
def spBInit (C : Addr) : Sp := fun vs H Q _ => ∃ (p dx : Addr) (n s : Nat) (v : V) (b : Rooms), vs = [.ref p, .int n, .int s, v] ∧ H p = some (.ins C dx []) ∧ RmL H v b ∧ Vb n s b ∧ 1 ≤ s ∧ s ≤ n ∧ n ≤ 12 ∧ b.length ≤ 100000 ∧
  ∀ t xs H', H t = none → (∀ q o, H q = some o → q ≠ p → H' q = some o) → H' p = some (.ins C dx (bookF n s t)) → H' t = some (.tup xs) → Rms H' xs b → Q .non H'
theorem scBInit : FnScope nBInit ["self", "places", "size", "rooms"] (defScope sBInit) := ⟨rfl, rfl, rfl, by decide +kernel, rfl, by decide +kernel, by decide +kernel⟩
theorem ok_binit (F : IniC K mg CB "Book" "Book.__init__" sBInit ["self", "places", "size", "rooms"]) (B : Bl mg) (T : TC K mg CB CF) (cF : Cal P w K mg base 1 "room_fault" spFault) : Ini P w K mg base 2 "Book" CB (spBInit CB) := by
  refine ini_mk F scBInit (fun vs H Q E h => ?_) (fun f cdv A outer sh H vs Q E hr h => ?_)
  · obtain ⟨p, dx, n, s, v, b, rfl, _⟩ := h
    rfl
  · obtain ⟨p, dx, n, s, v, b, rfl, hp, ⟨tb, xb, rfl, htb, hxb⟩, vb, hs1, hsn, hn, hbl, k⟩ := h
    have hu := hu_of hr
    have nd := scBInit.nd
    obtain ⟨mc, u12, cr, cv⟩ := T.most
    refine ⟨_, pss_cons (ps_if (pt_not (pt_chain op_le op_le pe_int (pv 1) (ClX.pe_cval (pe_glob (v := .ref CB) rfl T.mgB rfl)))) pss_never pss_nil)
      (pss_cons (ps_if (pt_not (pt_chain op_le op_le pe_int (pv 2) (pv 1))) pss_never pss_nil)
      (pss_cons (ps_set (i := 4) nd rfl (Or.inl rfl) pe_dnewT)
      (pss_cons (ps_for PassesOwn.never rfl (pi_enum rfl B.enumerate (pa_cons (pv 3) pa_nil)) (pg_tup rfl (pgs_cons (pg_name (i := 5) nd rfl (Or.inl rfl)) (pgs_cons (pg_name (i := 6) nd rfl (Or.inl rfl)) pgs_nil)))
        (pss_cons (ps_set (i := 7) nd rfl (Or.inl rfl) (pe_c cF hr (Nat.le_refl _) (pa_cons (pv 1) (pa_cons (pv 2) (pa_cons (pv 6) pa_nil)))))
        (pss_cons (ps_set (i := 8) nd rfl (Or.inl rfl) (b_tuple B (b_sortI B hr (pv 6))))
        (pss_cons (ps_if (PW.pt (pw_and (pt_cmpR op_eq (pv 7) pe_str (nomark _)) (pw_and1 (pt_cmp (pc_din hu (pv 8) (pv 4)))))) pss_never pss_nil)
        (pss_cons (ps_if (pt_cmpR op_ne (pv 7) pe_str (nomark _)) pss_never pss_nil)
        (pss_one (ps_dput hu (pv 4) (pv 8) pe_bl rfl)))))))
      (pss_cons (ps_fld (pv 0) (pv 1) rfl)
      (pss_cons (ps_fld (pv 0) (pv 2) rfl)
      (pss_one (ps_fld (pv 0) (b_tuple B (b_sortD Bool V.bl B hr (pv 4))) rfl))))))), ?_⟩
    -- the two tests
    refine ⟨_, rfl, _, _, rfl, rfl, _, rfl, ?_⟩
    refine ite2 (fun _ => ?_) (fun h => absurd (decide_eq_true (show (1 : Int) ≤ (n : Int) by omega)) h)
    refine ⟨CB, mc, .int 12, u12, rfl, cr, cv, _, _, rfl, rfl, _, rfl, ?_⟩
    refine iteNS (show (n : Int) ≤ 12 by omega) ?_
    refine ⟨_, rfl, _, _, rfl, rfl, _, rfl, ?_⟩
    refine ite2 (fun _ => ?_) (fun h => absurd (decide_eq_true (show (1 : Int) ≤ (s : Int) by omega)) h)
    refine ⟨_, rfl, _, _, rfl, rfl, _, rfl, ?_⟩
    refine iteNS (show (s : Int) ≤ (n : Int) by omega) ?_
    intro l nl
    have npl : p ≠ l := ne_of_none hp nl
    have sl := Same.new (o := .dT []) nl
    refine ⟨_, rfl, tb, xb, rfl, SqL.mk (sl _ _ htb), ?_⟩
    refine for_it walk_enum (fun i σ H' => ∃ a c d e, σ = [some (.ref p), some (.int n), some (.int s), some (.ref tb), some (.ref l), a, c, d, e] ∧ Same H H' ∧ H' l = some (.dT (encA V.bl ((b.take i).map fun r => (r, true)))))
      ⟨none, none, none, none, rfl, sl, upd_same⟩ (fun i σ H' _ q => by obtain ⟨_, _, _, _, _, s1, _⟩ := q; exact SqL.mk (s1 _ _ htb)) ?_ ?_
    · rintro i x σ H1 H' hi ⟨a, c, d, e, rfl, s1, hl1⟩ ⟨tp, x1, x2, rfl, ntp, rfl, hx1, hx2⟩
      obtain ⟨r, hir, hrm⟩ := paired_get hxb hx2
      have hrb := List.mem_of_getElem? hir
      have vr := vb.rm r hrb
      have st := Same.new (o := .tup [x1, x2]) ntp
      refine ⟨tp, _, rfl, SqT.mk upd_same, rfl, x1, _, rfl, x2, _, rfl, rfl, ?_⟩
      have hl2 := st _ _ hl1
      have s2 := s1.trans st
      have hr2 := hrm.same s2
      generalize upd H1 tp (.tup [x1, x2]) = H2 at hl2 s2 hr2
      refine ⟨_, rfl, _, rfl, _, rfl, n, s, x2, r, rfl, hr2, by omega, vr, ?_⟩
      obtain ⟨tr, rfl, htr⟩ := hr2
      refine ⟨_, rfl, tr, r, rfl, Or.inr htr, fun p3 n3 => ?_⟩
      have s3 := Same.new (o := .lst ((srtI r).map V.int)) n3
      refine ⟨p3, _, rfl, SqL.mk upd_same, fun p4 n4 => ?_⟩
      have s4 := Same.new (o := .tup ((srtI r).map V.int)) n4
      have hr4 : Rm (upd (upd H2 p3 (.lst ((srtI r).map V.int))) p4 (.tup ((srtI r).map V.int))) (.ref p4) r := ⟨p4, rfl, by rw [upd_same, srtI_id vr.srt]⟩
      have s34 := s3.trans s4
      generalize upd (upd H2 p3 (.lst ((srtI r).map V.int))) p4 (.tup ((srtI r).map V.int)) = H4 at s34 hr4
      have hl4 := s34 _ _ hl2
      have hnew : getA ((b.take i).map fun r => (r, true)) r = none := by
        unfold getA
        rw [Option.map_eq_none_iff, List.find?_eq_none]
        intro e he hd
        obtain ⟨q, hq, rfl⟩ := List.mem_map.mp he
        have hq' : q = r := of_decide_eq_true hd
        subst hq'
        have h1 := vb.nd
        have e1 : b.take (i + 1) = b.take i ++ [q] := take_snoc hir
        have h2 : (b.take (i + 1)).Nodup := List.Nodup.sublist (List.take_sublist _ _) h1
        rw [e1, List.nodup_append] at h2
        exact h2.2.2 q hq q (List.mem_singleton.mpr rfl) rfl
      refine ⟨_, rfl, rfl, _, rfl, ?_⟩
      rw [decide_eq_true rfl]
      refine iteT ?_
      refine ⟨_, rfl, _, rfl, l, _, rfl, dget_r hl4 hr4, _, rfl, ?_⟩
      rw [hnew]
      refine iteF ?_
      refine ⟨_, rfl, rfl, _, rfl, ?_⟩
      refine iteNS rfl ?_
      refine ⟨_, rfl, _, rfl, l, _, rfl, dput_r (β := Bool) hl4 hr4 ?_ true, ?_⟩
      · rw [List.length_map, List.length_take]
        have := (List.getElem?_eq_some_iff.mp hir).1
        exact small_l (by omega)
      · refine ⟨_, _, _, _, rfl, Same.mut (s2.trans s34) nl, ?_⟩
        rw [upd_same, take_snoc hir, List.map_append]
        have : putA ((b.take i).map fun r => (r, true)) r true = ((b.take i).map fun r => (r, true)) ++ [(r, true)] := by
          unfold putA
          rw [if_neg]
          intro ha
          obtain ⟨e, he, hd⟩ := List.any_eq_true.mp ha
          unfold getA at hnew
          rw [Option.map_eq_none_iff, List.find?_eq_none] at hnew
          exact hnew e he hd
        rw [this] <;> rfl
    · rintro σ H1 ⟨a, c, d, e, rfl, s1, hl1⟩
      rw [paired_len hxb, List.take_length] at hl1
      refine ⟨_, rfl, _, rfl, p, CB, dx, _, rfl, s1 _ _ hp, T.clB, T.bP, by decide, ?_⟩
      refine ⟨_, rfl, _, rfl, p, CB, dx, _, rfl, upd_same, T.clB, T.bS, by show 1 < 1000; decide, ?_⟩
      have hl3 : (upd (upd H1 p (.ins CB dx (putF "places" (V.int n) []))) p (.ins CB dx (putF "size" (V.int s) (putF "places" (V.int n) [])))) l = some (.dT (encA V.bl (b.map fun r => (r, true)))) := by
        rw [upd_ne npl.symm, upd_ne npl.symm]
        exact hl1
      have sP : ∀ q o, H q = some o → q ≠ p → (upd (upd H1 p (.ins CB dx (putF "places" (V.int n) []))) p (.ins CB dx (putF "size" (V.int s) (putF "places" (V.int n) [])))) q = some o := fun q o hq hne => by
        rw [upd_ne hne, upd_ne hne]
        exact s1 _ _ hq
      have hp3 : (upd (upd H1 p (.ins CB dx (putF "places" (V.int n) []))) p (.ins CB dx (putF "size" (V.int s) (putF "places" (V.int n) [])))) p = some (.ins CB dx (putF "size" (V.int s) (putF "places" (V.int n) []))) := upd_same
      generalize upd (upd H1 p (.ins CB dx (putF "places" (V.int n) []))) p (.ins CB dx (putF "size" (V.int s) (putF "places" (V.int n) []))) = H3 at hl3 sP hp3
      refine ⟨_, rfl, l, b.map fun r => (r, true), rfl, .inl hl3, fun e he => ?_, fun p5 zs n5 hzs => ?_⟩
      · obtain ⟨r, hr, rfl⟩ := List.mem_map.mp he
        intro z
        have h1 := (vb.rm r hr).len
        have z' : r = [] := z
        rw [z'] at h1
        have h2 : s = 0 := h1.symm
        omega
      · have s5 := Same.new (o := .lst zs) n5
        refine ⟨p5, zs, rfl, SqL.mk upd_same, fun p6 n6 => ?_⟩
        have s6 := Same.new (o := .tup zs) n6
        have hz6 : Rms (upd (upd H3 p5 (.lst zs)) p6 (.tup zs)) zs b := by
          refine Rms.same (s5.trans s6) ?_
          have e1 : (b.map fun r => (r, true)).map (·.1) = b := by rw [List.map_map]; exact List.map_id' b
          rw [e1, srtR_id vb.srt] at hzs
          exact hzs
        have s56 := s5.trans s6
        have h6 : (upd (upd H3 p5 (.lst zs)) p6 (.tup zs)) p6 = some (.tup zs) := upd_same
        have n6' : H3 p6 = none := s5.free n6
        generalize upd (upd H3 p5 (.lst zs)) p6 (.tup zs) = H6 at s56 h6 hz6
        have hp6 := s56 _ _ hp3
        have n66 : p6 ≠ p := fun z => by rw [z, hp3] at n6'; cases n6'
        refine ⟨_, rfl, p, CB, dx, _, rfl, hp6, T.clB, T.bR, ?_, ?_⟩
        · have e3 : putF "size" (V.int s) (putF "places" (V.int n) []) = ([("places", V.int n), ("size", V.int s)] : List (Str × L2.V)) := by
            have h1 : ¬ (("places" : Str) = "size") := by decide +kernel
            show (if ("places" : Str) = "size" then _ else (("places" : Str), V.int (n : Int)) :: putF "size" (V.int s) []) = _
            rw [if_neg h1]
            rfl
          rw [e3]
          show 2 < 1000
          decide
        · rw [putB]
          refine k p6 zs _ ?_ (fun q o hq hne => ?_) upd_same ?_ ?_
          · cases hH : H p6 with
            | none => rfl
            | some o => rw [sP p6 o hH n66] at n6'; cases n6'
          · rw [upd_ne hne]
            exact s56 _ _ (sP q o hq hne)
          · rw [upd_ne n66]
            exact h6
          · refine Paired.mono' (fun v r h => ?_) hz6
            obtain ⟨t, e, h⟩ := h
            exact ⟨t, e, by rw [upd_ne (fun z => by rw [z, hp6] at h; cases h)]; exact h⟩
end
end NA
/-! Book.odd_faces, is_even, __len__, __mul__. -/
namespace NA
open PySem PySem.Spec PyProof.Rows L2
/-- even, and small enough to look at -/
structure EvB (b : Rooms) : Prop where
  short : ∀ r ∈ b, r.length ≤ 1000
  few : (b.flatMap faces).length ≤ 100000
  even : ∀ e ∈ tallyF b, e.2 % 2 ≠ 1
/-- the rooms with an odd number -/
def oddR (w : Ways) : Rooms := (srtR (w.map (·.1))).filter fun r => decide (getD w r % 2 = 1)
/-- what a product of books asks -/
structure OkMul (n s1 s2 : Nat) (b1 b2 : Rooms) : Prop where
  ok : OkExt (b1.map fun r => (r, 1)) b2
  few : (ext (b1.map fun r => (r, 1)) b2).length ≤ 100000
  ne : ∀ e ∈ ext (b1.map fun r => (r, 1)) b2, e.1 ≠ []
  vb : Vb n (s1 + s2) (oddR (ext (b1.map fun r => (r, 1)) b2))
  pos : 1 ≤ s1
  le : s1 + s2 ≤ n
  n12 : n ≤ 12
section
variable {P : Program} {w : World} {K : PySem.W.Frag} {mg : Str → Option Value} {base : Heap} {CB CF : Addr}
theorem decI {a b : Int} : decide (V.int a = V.int b) = decide (a = b) := by
  by_cases h : a = b
  · rw [decide_eq_true h, decide_eq_true (by rw [h])]
  · rw [decide_eq_false h, decide_eq_false fun z => h (by injection z)]
abbrev sOdd : Stmt := inClass (top 26) 11
def spOdd (CB : Addr) : Sp := fun vs H Q _ => ∃ v n s b, vs = [v] ∧ BookAt CB H v n (s, b) ∧ EvB b ∧ ∀ v' H', Same H H' → RmL H' v' [] → Q v' H'
theorem scOdd : FnScope ["self", "counts", "face"] ["self"] (defScope sOdd) := ⟨rfl, rfl, rfl, by decide +kernel, rfl, by decide +kernel, by decide +kernel⟩
theorem ok_odd (F : MetC K CB "odd_faces" "Book.odd_faces" sOdd ["self"]) (B : Bl mg) (T : TC K mg CB CF) (cF : Cal P w K mg base 2 "face_counts" spFc) : Mtd P w K mg base 3 CB "odd_faces" (spOdd CB) := by
  refine mtd_mk F scOdd (fun vs H Q E h => ?_) (fun f cdv A outer sh H vs Q E hr h => ?_)
  · obtain ⟨v, n, s, b, rfl, _⟩ := h
    rfl
  · obtain ⟨v, n, s, b, rfl, ⟨a, dx, t, xs, rfl, ha, ht, hx⟩, ev, k⟩ := h
    have hu := hu_of hr
    have nd := scOdd.nd
    refine ⟨_, pss_cons (ps_set (i := 1) nd rfl (Or.inr rfl) (pe_c cF hr (Nat.le_refl _) (pa_cons (pe_fld (pv 0) rfl) pa_nil)))
      (pss_one (ps_ret (b_sortR B hr (pe_lock (pe_lc (own := [("face", 2)]) (g := gName 2) rfl nd (pi_keys (pv 1)) (blkOk_by (N := ["self", "counts", "face"]) (sc := defScope sOdd) (by decide +kernel))
        (fun _ _ _ _ _ => pg_name (i := 2) nd rfl (Or.inl rfl)) (fun _ _ _ _ _ => pts_one (pt_cmpR op_eq (pe_op op_mod (pe_dget hu (pv 1) (pv 2) (fun _ _ => rfl)) pe_int) pe_int (nomark _))) (fun _ _ _ _ _ => pv 2)))))), ?_⟩
    refine ⟨_, rfl, a, CB, dx, _, _, rfl, ha, T.clB, T.bR, bkR _ _ _, .ref t, b, rfl, ⟨t, xs, rfl, ht, hx⟩, ev.short, ev.few, fun v' H1 s1 h1 => ?_⟩
    obtain ⟨d, rfl, hd⟩ := h1
    have hz : (tallyF b).length ≤ 100000 := by
      have h1 := foldl_len (f := incF) (fun w k => putA_len _ _ _) (b.flatMap faces) []
      have h2 := ev.few
      rw [List.length_nil] at h1
      show ((b.flatMap faces).foldl incF []).length ≤ _
      omega
    refine rd_keys (K := K) (i := 1) (j := 2) (fun n => decide (V.int (n % 2) = V.int 1)) hd rfl hz (fun x => rfl) (fun x => rfl) (fun od e q H2 k2 he h2 hq kk => ?_) (fun D ys H2 nD s2 hy hp => ?_)
    · have hg := dget_rd (f := V.int) (es := tallyF b) (a := d) (r := e.1) (v := .ref q) (.inr ⟨od, h2⟩) (H := H2) ⟨q, rfl, hq⟩
      rw [getA_mem (tallyF_nd b) he] at hg
      exact ⟨_, rfl, _, rfl, d, .int e.2, rfl, hg, _, _, rfl, rfl, (by show (0 : Int) < 2; decide), rfl, _, rfl, kk⟩
    · have e0 : ((tallyF b).filter fun e => decide (V.int (e.2 % 2) = V.int 1)).map (·.1) = [] := by
        rw [List.filter_eq_nil_iff.mpr fun e he hd => ?_]
        · rfl
        · rw [decI] at hd
          exact ev.even e he (of_decide_eq_true hd)
      rw [e0] at hp
      refine ⟨D, ys, [], rfl, Or.inl hy, hp, (fun r hr => by cases hr), fun p zs np hzs => ?_⟩
      exact k _ _ ((s1.trans s2).trans (Same.new np)) ⟨p, zs, rfl, upd_same, by
        have : srtR [] = [] := by simp [srtR]
        rw [this] at hzs
        cases hzs
        exact .nil⟩
abbrev sIsEven : Stmt := inClass (top 26) 9
def spIsEven (CB : Addr) : Sp := fun vs H Q _ => ∃ v n s b, vs = [v] ∧ BookAt CB H v n (s, b) ∧ EvB b ∧ ∀ H', Same H H' → Q (.bl true) H'
theorem scIsEven : FnScope ["self"] ["self"] (defScope sIsEven) := ⟨rfl, rfl, rfl, by decide +kernel, rfl, by decide +kernel, by decide +kernel⟩
theorem ok_iseven (F : PrpC K CB "is_even" "Book.is_even" sIsEven ["self"]) (B : Bl mg) (T : TC K mg CB CF) (cO : Mtd P w K mg base 3 CB "odd_faces" (spOdd CB)) : Prp P w K mg base 4 CB "is_even" (spIsEven CB) := by
  refine prp_mk F scIsEven (fun vs H Q E h => ?_) (fun f cdv A outer sh H vs Q E hr h => ?_)
  · obtain ⟨v, n, s, b, rfl, _⟩ := h
    rfl
  · obtain ⟨v, n, s, b, rfl, hb, ev, k⟩ := h
    refine ⟨_, pss_one (ps_ret (pe_cmpR op_eq (b_len B (pe_mt0 cO T.clB hr (Nat.le_refl _) (pv 0))) pe_int (nomark _))), ?_⟩
    obtain ⟨a, dx, t, xs, rfl, ha, ht, hx⟩ := id hb
    refine ⟨_, rfl, a, dx, _, rfl, ha, bkNo _ _ _ (by decide +kernel) (by decide +kernel) (by decide +kernel), .ref a, n, s, b, rfl, hb, ev, fun v' H1 s1 h1 => ?_⟩
    obtain ⟨p, ys, rfl, hp, hys⟩ := h1
    cases hys
    exact ⟨p, _, rfl, Or.inl (SqL.mk hp), rfl, k _ s1⟩
abbrev sBLen : Stmt := inClass (top 26) 4
def spBLen (CB : Addr) : Sp := fun vs H Q _ => ∃ v n s b, vs = [v] ∧ BookAt CB H v n (s, b) ∧ Q (.int (b.length : Nat)) H
theorem scBLen : FnScope ["self"] ["self"] (defScope sBLen) := ⟨rfl, rfl, rfl, by decide +kernel, rfl, by decide +kernel, by decide +kernel⟩
theorem ok_blen (F : MetC K CB "__len__" "Book.__len__" sBLen ["self"]) (B : Bl mg) (T : TC K mg CB CF) : Mtd P w K mg base 1 CB "__len__" (spBLen CB) := by
  refine mtd_mk F scBLen (fun vs H Q E h => ?_) (fun f cdv A outer sh H vs Q E hr h => ?_)
  · obtain ⟨v, n, s, b, rfl, _⟩ := h
    rfl
  · obtain ⟨v, n, s, b, rfl, ⟨a, dx, t, xs, rfl, ha, ht, hx⟩, k⟩ := h
    refine ⟨_, pss_one (ps_ret (b_len B (pe_fld (pv 0) rfl))), ?_⟩
    refine ⟨_, rfl, a, CB, dx, _, _, rfl, ha, T.clB, T.bR, bkR _ _ _, t, xs, rfl, Or.inr (SqT.mk ht), ?_⟩
    rw [paired_len hx]
    exact k
abbrev sMul : Stmt := inClass (top 26) 8
abbrev nMul : List Str := ["self", "other", "ways", "first", "second", "union", "room"]
def spMul (CB : Addr) : Sp := fun vs H Q _ => ∃ v u n s1 s2 b1 b2, vs = [v, u] ∧ BookAt CB H v n (s1, b1) ∧ BookAt CB H u n (s2, b2) ∧ OkMul n s1 s2 b1 b2 ∧
  ∀ v' H', Same H H' → BookAt CB H' v' n (s1 + s2, oddR (ext (b1.map fun r => (r, 1)) b2)) → Q v' H'
theorem scMul : FnScope nMul ["self", "other"] (defScope sMul) := ⟨rfl, rfl, rfl, by decide +kernel, rfl, by decide +kernel, by decide +kernel⟩
theorem ok_mul (F : MetC K CB "__mul__" "Book.__mul__" sMul ["self", "other"]) (B : Bl mg) (T : TC K mg CB CF) (cS : Cal P w K mg base 1 "shuffle_sign" spShuffle) (cM : Cal P w K mg base 1 "merged" spMerged) (cB : Ini P w K mg base 2 "Book" CB (spBInit CB)) : Mtd P w K mg base 4 CB "__mul__" (spMul CB) := by
  refine mtd_mk F scMul (fun vs H Q E h => ?_) (fun f cdv A outer sh H vs Q E hr h => ?_)
  · obtain ⟨v, u, n, s1, s2, b1, b2, rfl, _⟩ := h
    rfl
  · obtain ⟨v, u, n, s1, s2, b1, b2, rfl, ⟨a, dx, t, xs, rfl, ha, ht, hx⟩, ⟨a2, dx2, t2, xs2, rfl, ha2, ht2, hx2⟩, ok, k⟩ := h
    have hu := hu_of hr
    have nd := scMul.nd
    refine ⟨_, pss_cons (ps_if (pt_not (pt_val (pe_callB call_isi rfl B.isinstance (by decide +kernel) (pa_cons (pv 1) (pa_cons (pe_glob (v := .ref CB) rfl T.mgB rfl) pa_nil))))) pss_never pss_nil)
      (pss_cons (ps_if (pt_cmpR op_ne (pe_fld (pv 0) rfl) (pe_fld (pv 1) rfl) (nomark _)) pss_never pss_nil)
      (pss_cons (ps_if (pt_cmpR op_gt (pe_op op_add (pe_fld (pv 0) rfl) (pe_fld (pv 1) rfl)) (pe_fld (pv 0) rfl) (nomark _)) pss_never pss_nil)
      (pss_cons (ps_set (i := 2) nd rfl (Or.inr rfl) pe_dnewT)
      (pss_cons (ps_for PassesOwn.never rfl (pi_tup (pe_fld (pv 0) rfl)) (pg_name (i := 3) nd rfl (Or.inl rfl))
        (pss_one (ps_for PassesOwn.never rfl (pi_tup (pe_fld (pv 1) rfl)) (pg_name (i := 4) nd rfl (Or.inl rfl))
          (pss_one (ps_if (pt_cmpR op_ne (pe_c cS hr (by decide) (pa_cons (pv 3) (pa_cons (pv 4) pa_nil))) pe_int (nomark _))
            (pss_cons (ps_set (i := 5) nd rfl (Or.inl rfl) (pe_c cM hr (by decide) (pa_cons (pv 3) (pa_cons (pv 4) pa_nil))))
            (pss_one (ps_dput hu (pv 2) (pv 5) (pe_op op_add (pe_dget2 hu (pv 2) (pv 5) pe_int ⟨rfl, rfl, rfl, rfl⟩) pe_int) rfl)))
            pss_nil)))))
      (pss_one (ps_ret (pe_mk cB hr (by decide) (pa_cons (pe_fld (pv 0) rfl) (pa_cons (pe_op op_add (pe_fld (pv 0) rfl) (pe_fld (pv 1) rfl))
        (pa_cons (pe_lc (own := [("room", 6)]) (g := gName 6) rfl nd (pi_list (b_sortD Int V.int B hr (pv 2))) (blkOk_by (N := nMul) (sc := defScope sMul) (by decide +kernel))
          (fun _ _ _ _ _ => pg_name (i := 6) nd rfl (Or.inl rfl)) (fun _ _ _ _ _ => pts_one (pt_cmpR op_eq (pe_op op_mod (pe_dget hu (pv 2) (pv 6) (fun _ _ => rfl)) pe_int) pe_int (nomark _))) (fun _ _ _ _ _ => pv 6)) pa_nil)))))))))), ?_⟩
    refine ⟨_, rfl, .ref a2, .ref CB, .ref CB, _, true, rfl, .own CB, .base (.ins ha2 T.clB T.hb1 T.hc1 T.hc2 T.hb2), T.kit, _, rfl, ?_⟩
    refine iteF ?_
    refine ⟨_, rfl, a, CB, dx, _, _, rfl, ha, T.clB, T.bP, bkP _ _ _, _, rfl, a2, CB, dx2, _, _, rfl, ha2, T.clB, T.bP, bkP _ _ _, rfl, _, rfl, ?_⟩
    refine iteNS rfl ?_
    refine ⟨_, rfl, a, CB, dx, _, _, rfl, ha, T.clB, T.bS, bkS _ _ _, _, rfl, a2, CB, dx2, _, _, rfl, ha2, T.clB, T.bS, bkS _ _ _, _, _, rfl, rfl, _, rfl, a, CB, dx, _, _, rfl, ha, T.clB, T.bP, bkP _ _ _, _, _, rfl, rfl, _, rfl, ?_⟩
    have hle := ok.le
    refine ite2 (fun h => absurd (of_decide_eq_true h) (by show ¬ ((n : Int) < (s1 : Int) + (s2 : Int)); omega)) (fun _ => ?_)
    intro l nl
    have sl := Same.new (o := .dT []) nl
    obtain ⟨hnd, he, hb, hz⟩ := ok.ok
    have okf := ok.few
    have okn := ok.ne
    have okv := ok.vb
    generalize hes : (b1.map fun r => (r, (1 : Int))) = es at okf okn okv hnd he hz k
    have hbl1 : b1.length = es.length := by rw [← hes, List.length_map]
    refine ⟨_, rfl, a, CB, dx, _, _, rfl, sl _ _ ha, T.clB, T.bR, bkR _ _ _, t, rfl, ⟨_, SqT.mk (sl _ _ ht)⟩, ?_⟩
    refine for_tup (K := K) (a := t) (xs := xs) (fun i σ H' => ∃ c d e, σ = [some (.ref a), some (.ref a2), some (.ref l), c, d, e, none] ∧ Same H H' ∧ H' l = some (.dT (encA V.int ((es.take i).foldl (extC b2) []))))
      ⟨none, none, none, rfl, sl, upd_same⟩ (fun i σ H' _ p => by obtain ⟨_, _, _, _, s1, _⟩ := p; exact SqT.mk (s1 _ _ ht)) ?_ ?_
    · rintro i x σ H1 hi ⟨c, d, e, rfl, q1, hl1⟩
      obtain ⟨r1, hir, hrm⟩ := paired_get hx hi
      have hie : es[i]? = some (r1, 1) := by rw [← hes, List.getElem?_map, hir] <;> rfl
      have hem := List.mem_of_getElem? hie
      have hil : i < es.length := (List.getElem?_eq_some_iff.mp hie).1
      refine ⟨_, rfl, a2, CB, dx2, _, _, rfl, q1 _ _ ha2, T.clB, T.bR, bkR _ _ _, t2, rfl, ⟨_, SqT.mk (q1 _ _ ht2)⟩, ?_⟩
      refine for_tup (K := K) (a := t2) (xs := xs2) (fun j σ H2 => ∃ d e, σ = [some (.ref a), some (.ref a2), some (.ref l), some x, d, e, none] ∧ Same H H2 ∧ H2 l = some (.dT (encA V.int ((b2.take j).foldl (extR 1 r1) ((es.take i).foldl (extC b2) [])))))
        ⟨d, e, rfl, q1, hl1⟩ (fun j σ H2 _ p => by obtain ⟨_, _, _, s2, _⟩ := p; exact SqT.mk (s2 _ _ ht2)) ?_ ?_
      · rintro j y σ H2 hj ⟨d, e, rfl, q2, hl2⟩
        obtain ⟨r2, hjr, hyr⟩ := paired_get hx2 hj
        have hjl : j < b2.length := (List.getElem?_eq_some_iff.mp hjr).1
        have hx1 := hrm.same q2
        have hy2 := hyr.same q2
        have h400 := he _ hem
        have h400b := hb r2 (List.mem_of_getElem? hjr)
        refine ⟨_, rfl, _, rfl, x, y, r1, r2, rfl, hx1, hy2, fun cc hcc => ?_⟩
        refine ⟨rfl, _, rfl, ?_⟩
        cases hd0 : disj r1 r2 with
        | false =>
          have : cc = 0 := hcc.mpr hd0
          subst this
          refine iteNS rfl ?_
          refine ⟨_, _, rfl, q2, ?_⟩
          rw [foldl_snoc hjr]
          unfold extR
          rw [hd0]
          exact hl2
        | true =>
          have hne : ¬ (V.int cc = V.int 0) := fun z => by
            injection z with z
            rw [hcc.mp z] at hd0
            cases hd0
          rw [decide_eq_false hne]
          refine iteT ?_
          refine ⟨_, rfl, _, rfl, x, y, r1, r2, rfl, hx1, hy2, (by show r1.length + r2.length ≤ 1000; have h4 : r1.length ≤ 400 := h400; omega), fun v' H3 s3 hv => ?_⟩
          have hl3 := s3 _ _ hl2
          refine ⟨_, rfl, l, rfl, isD_r (.inl hl3), _, rfl, _, dget_r hl3 hv, ?_⟩
          rw [getD_int]
          refine ⟨_, _, rfl, rfl, _, rfl, _, rfl, l, _, rfl, dput_r hl3 hv ?_ _, ?_⟩
          · have h1 := foldR_len 1 r1 (b2.take j) ((es.take i).foldl (extC b2) [])
            have h2 := foldC_len b2 (es.take i) []
            rw [List.length_take, Nat.min_eq_left (by omega)] at h1 h2
            have h3 : (i + 1) * b2.length ≤ es.length * b2.length := Nat.mul_le_mul_right _ hil
            rw [Nat.succ_mul] at h3
            rw [List.length_nil] at h2
            exact small_l (by omega)
          · refine ⟨_, _, rfl, Same.mut (q2.trans s3) nl, ?_⟩
            rw [upd_same, foldl_snoc hjr]
            have : extR 1 r1 ((b2.take j).foldl (extR 1 r1) ((es.take i).foldl (extC b2) [])) r2 = putA ((b2.take j).foldl (extR 1 r1) ((es.take i).foldl (extC b2) [])) (uni r1 r2) (getD ((b2.take j).foldl (extR 1 r1) ((es.take i).foldl (extC b2) [])) (uni r1 r2) + 1) := by
              unfold extR
              rw [if_pos hd0]
            rw [this] <;> rfl
      · rintro σ H2 ⟨d, e, rfl, q2, hl2⟩
        refine ⟨_, _, _, rfl, q2, ?_⟩
        rw [foldl_snoc hie, hl2, paired_len hx2, List.take_length] <;> rfl
    · rintro σ H1 ⟨c, d, e, rfl, q1, hl1⟩
      rw [paired_len hx, hbl1, List.take_length] at hl1
      have hl1' : H1 l = some (.dT (encA V.int (ext es b2))) := hl1
      refine ⟨_, rfl, a, CB, dx, _, _, rfl, q1 _ _ ha, T.clB, T.bP, bkP _ _ _, _, rfl, a, CB, dx, _, _, rfl, q1 _ _ ha, T.clB, T.bS, bkS _ _ _, _, rfl, a2, CB, dx2, _, _, rfl, q1 _ _ ha2, T.clB, T.bS, bkS _ _ _, _, _, rfl, rfl, ?_⟩
      refine ⟨_, rfl, l, ext es b2, rfl, .inl hl1', okn, fun p zs np hzs => ?_⟩
      have s2' := Same.new (o := .lst zs) np
      refine ⟨p, rfl, ⟨zs, SqL.mk upd_same⟩, fun D hD => ?_⟩
      have hsl : (srtR ((ext es b2).map (·.1))).length = (ext es b2).length := by rw [(srtR_perm _).length_eq, List.length_map]
      refine lc_build walk_list (srtR ((ext es b2).map (·.1))) (paired_len hzs) (fun r => if decide (V.int (getD (ext es b2) r % 2) = V.int 1) = true then [r] else []) (stab_rm D) (by omega) hD (fun H3 s3 => SqL.mk (s3 _ _ upd_same)) (fun i s x H4 H' k1 k0 ei s4 y q1' q0 => ?_) (fun xs' H3 s3 hx' hp' => ?_)
      · obtain ⟨rfl, hy⟩ := y
        obtain ⟨kk, hk, hkm⟩ := paired_get hzs hy
        obtain rfl : kk = s := by rw [ei] at hk; exact (Option.some.inj hk).symm
        have s14 := s2'.trans s4
        have hkm4 := hkm.same s14
        have hmem : kk ∈ (ext es b2).map (·.1) := (srtR_perm _).mem_iff.mp (List.mem_of_getElem? ei)
        have hg := dget_r (f := V.int) (s14 _ _ hl1') hkm4
        rw [getA_key hmem] at hg
        refine ⟨rfl, _, rfl, _, rfl, l, _, rfl, hg, _, _, rfl, rfl, (by show (0 : Int) < 2; decide), rfl, _, rfl, ?_⟩
        refine ite2 (fun hh => ?_) (fun hh => ?_)
        · exact ⟨_, rfl, q1' _ _ (Same.refl _) kk (by rw [if_pos hh]) hkm4⟩
        · exact q0 _ (Same.refl _) (by rw [if_neg hh])
      · rw [flatMap_if (fun r => decide (V.int (getD (ext es b2) r % 2) = V.int 1))] at hp'
        have e1 : (srtR ((ext es b2).map (·.1))).filter (fun r => decide (V.int (getD (ext es b2) r % 2) = V.int 1)) = oddR (ext es b2) := by
          unfold oddR
          congr 1
          funext r
          rw [decI]
        rw [e1] at hp'
        have s13 := (q1.trans s2').trans s3
        intro x dxn nx ndx nex
        have sX : Same H3 (upd (upd H3 dxn (.own x)) x (.ins CB dxn [])) := fun b o e => by
          rw [upd_ne (ne_of_none e nx), upd_ne (ne_of_none e ndx)]
          exact e
        refine ⟨x, dxn, n, s1 + s2, .ref D, oddR (ext es b2), ?_, upd_same, ⟨D, xs', rfl, sX _ _ hx', Rms.same sX hp'⟩, okv, by have := ok.pos; omega, ok.le, ok.n12, ?_, fun t' xs3 H4 nt kp h4 ht4 hx4 => ⟨rfl, ?_⟩⟩
        · show [V.ref x, V.int (n : Int), V.int ((s1 : Int) + (s2 : Int)), V.ref D] = [V.ref x, V.int (n : Int), V.int ((s1 + s2 : Nat) : Int), V.ref D]
          rw [show ((s1 + s2 : Nat) : Int) = (s1 : Int) + (s2 : Int) from rfl]
        · have h1 := List.length_filter_le (fun r => decide (getD (ext es b2) r % 2 = 1)) (srtR ((ext es b2).map (·.1)))
          show ((srtR ((ext es b2).map (·.1))).filter _).length ≤ _
          omega
        · have s34 : Same H3 H4 := fun b o e => kp b o (sX b o e) (ne_of_none e nx)
          exact k _ _ (s13.trans s34) ⟨x, dxn, t', xs3, rfl, h4, ht4, hx4⟩
end
end NA
/-! Family.__init__, __iter__, __getitem__, replaced. -/
namespace NA
open PySem PySem.Spec PyProof.Rows L2
section
variable {P : Program} {w : World} {K : PySem.W.Frag} {mg : Str → Option Value} {base : Heap} {CB CF : Addr}
abbrev PBk (C : Addr) (H : Hp) (n : Nat) : List V → List (Nat × Rooms) → Prop := Paired (fun v b => BookAt C H v n b)
theorem PBk.same {C : Addr} {H H' : Hp} (s : Same H H') {n : Nat} {xs : List V} {bs : List (Nat × Rooms)} (h : PBk C H n xs bs) : PBk C H' n xs bs := Paired.mono' (fun _ _ z => z.same s) h
abbrev sFInit : Stmt := inClass (top 29) 0
abbrev nFInit : List Str := ["self", "books", "at", "book", "odd"]
def sumS (bs : List (Nat × Rooms)) : Nat := (bs.map (·.1)).sum
def spFInit (CB CF : Addr) : Sp := fun vs H Q _ => ∃ (p dx : Addr) (n : Nat) (a : Addr) (xs : List V) (bs : List (Nat × Rooms)), vs = [.ref p, .ref a] ∧ H p = some (.ins CF dx []) ∧ H a = some (.lst xs) ∧ PBk CB H n xs bs ∧ bs ≠ [] ∧ sumS bs = n ∧ bs.length ≤ 1000 ∧ (∀ b ∈ bs, EvB b.2) ∧
  ∀ t H', H t = none → (∀ q o, H q = some o → q ≠ p → H' q = some o) → H' p = some (.ins CF dx (famF n t)) → H' t = some (.tup xs) → Q .non H'
theorem scFInit : FnScope nFInit ["self", "books"] (defScope sFInit) := ⟨rfl, rfl, rfl, by decide +kernel, rfl, by decide +kernel, by decide +kernel⟩
theorem sum_sizes : ∀ bs : List (Nat × Rooms), (bs.map fun b => (b.1 : Int)).sum = (sumS bs : Int)
  | [] => rfl
  | b :: bs => by
    have ih := sum_sizes bs
    unfold sumS at ih ⊢
    rw [List.map_cons, List.sum_cons, ih, List.map_cons, List.sum_cons]
    omega
theorem ok_finit (F : IniC K mg CF "Family" "Family.__init__" sFInit ["self", "books"]) (B : Bl mg) (T : TC K mg CB CF) (cO : Mtd P w K mg base 3 CB "odd_faces" (spOdd CB)) : Ini P w K mg base 4 "Family" CF (spFInit CB CF) := by
  refine ini_mk F scFInit (fun vs H Q E h => ?_) (fun f cdv A outer sh H vs Q E hr h => ?_)
  · obtain ⟨p, dx, n, a, xs, bs, rfl, _⟩ := h
    rfl
  · obtain ⟨p, dx, n, a, xs, bs, rfl, hp, ha, hx, hne, hsum, hlen, hev, k⟩ := h
    have nd := scFInit.nd
    refine ⟨_, pss_cons (ps_if (pt_cmpR op_eq (b_len B (pv 1)) pe_int (nomark _)) pss_never pss_nil)
      (pss_cons (ps_for PassesOwn.never rfl (pi_enum rfl B.enumerate (pa_cons (pv 1) pa_nil)) (pg_tup rfl (pgs_cons (pg_name (i := 2) nd rfl (Or.inl rfl)) (pgs_cons (pg_name (i := 3) nd rfl (Or.inl rfl)) pgs_nil)))
        (pss_one (ps_if (pt_cmpR op_ne (pe_fld (pv 3) rfl) (pe_fld (pe_ix ix_list (pv 1) pe_int (fun _ _ => rfl)) rfl) (nomark _)) pss_never pss_nil)))
      (pss_cons (ps_if (pt_cmpR op_ne (b_sum B (pe_lc (own := [("book", 3)]) (g := gName 3) (tt := tYes) (te := tFld K (tVar 3) "size") rfl nd (pi_list (pv 1)) (blkOk_by (N := nFInit) (sc := defScope sFInit) (by decide +kernel))
          (fun _ _ _ _ _ => pg_name (i := 3) nd rfl (Or.inl rfl)) (fun _ _ _ _ _ => pts_nil) (fun _ _ _ _ _ => pe_fld (pv 3) rfl))) (pe_fld (pe_ix ix_list (pv 1) pe_int (fun _ _ => rfl)) rfl) (nomark _)) pss_never pss_nil)
      (pss_cons (ps_for PassesOwn.never rfl (pi_enum rfl B.enumerate (pa_cons (pv 1) pa_nil)) (pg_tup rfl (pgs_cons (pg_name (i := 2) nd rfl (Or.inl rfl)) (pgs_cons (pg_name (i := 3) nd rfl (Or.inl rfl)) pgs_nil)))
        (pss_cons (ps_set (i := 4) nd rfl (Or.inl rfl) (pe_mt0 cO T.clB hr (Nat.le_refl _) (pv 3)))
        (pss_one (ps_if (pt_cmpR op_gt (b_len B (pv 4)) pe_int (nomark _)) pss_never pss_nil))))
      (pss_cons (ps_fld (pv 0) (pe_fld (pe_ix ix_list (pv 1) pe_int (fun _ _ => rfl)) rfl) rfl)
      (pss_one (ps_fld (pv 0) (b_tuple B (pv 1)) rfl)))))), ?_⟩
    cases bs with
    | nil => exact absurd rfl hne
    | cons b0 bs =>
    have hx' := hx
    cases hx' with
    | @cons x0 _ xs _ hx0 hxs =>
    obtain ⟨a0, dx0, t0, xr0, rfl, ha0, ht0, hr0⟩ := hx0
    refine ⟨_, rfl, a, _, rfl, Or.inl (SqL.mk ha), rfl, _, rfl, ?_⟩
    have h0 : ¬ (V.int ((V.ref a0 :: xs).length : Int) = V.int 0) := fun z => by injection z with z; rw [List.length_cons] at z; omega
    rw [decide_eq_false h0]
    refine iteF ?_
    refine ⟨_, rfl, a, _, rfl, SqL.mk ha, ?_⟩
    refine for_it walk_enum (fun i σ H' => ∃ c d, σ = [some (.ref p), some (.ref a), c, d, none] ∧ Same H H') ⟨none, none, rfl, Same.refl _⟩ (fun i σ H' _ q => by obtain ⟨_, _, _, s1⟩ := q; exact SqL.mk (s1 _ _ ha)) ?_ ?_
    · rintro i x σ H1 H' hi ⟨c, d, rfl, s1⟩ ⟨tp, x1, x2, rfl, ntp, rfl, hx1, hx2⟩
      obtain ⟨b, hib, hbm⟩ := paired_get hx hx2
      have s2 := s1.trans (Same.new (o := .tup [x1, x2]) ntp)
      refine ⟨tp, _, rfl, SqT.mk upd_same, rfl, x1, _, rfl, x2, _, rfl, rfl, ?_⟩
      obtain ⟨ab, dxb, tb, xb, rfl, hab, htb, hxb⟩ := hbm.same s2
      refine ⟨_, rfl, ab, CB, dxb, _, _, rfl, hab, T.clB, T.bP, bkP _ _ _, _, rfl, a, _, 0, _, rfl, rfl, SqL.mk (s2 _ _ ha), atI_zero, a0, CB, dx0, _, _, rfl, s2 _ _ ha0, T.clB, T.bP, bkP _ _ _, rfl, _, rfl, ?_⟩
      exact iteNS rfl ⟨_, _, rfl, s2⟩
    rintro σ H1 ⟨c, d, rfl, s1⟩
    refine ⟨_, rfl, a, rfl, ⟨_, SqL.mk (s1 _ _ ha)⟩, fun D hD => ?_⟩
    refine lc_build walk_list (b0 :: bs) (paired_len hx) (fun b => [(b.1 : Int)]) (stab_int D) (by omega) hD (fun H3 s3 => SqL.mk (s3 _ _ (s1 _ _ ha))) (fun i s x H4 H' k1 k0 es s4 y q1 q0 => ?_) (fun ys H3 s3 hy hp3 => ?_)
    · obtain ⟨rfl, hy⟩ := y
      obtain ⟨b, hb, hbm⟩ := paired_get hx hy
      obtain rfl : b = s := by rw [es] at hb; exact (Option.some.inj hb).symm
      obtain ⟨ab, dxb, tb, xb, rfl, hab, htb, hxb⟩ := hbm.same (s1.trans s4)
      exact ⟨rfl, yesT ⟨_, rfl, ab, CB, dxb, _, _, rfl, hab, T.clB, T.bS, bkS _ _ _, q1 _ _ (Same.refl _) _ rfl rfl⟩⟩
    rw [flatMap_one] at hp3
    have s13 := s1.trans s3
    refine ⟨D, _, rfl, SqL.mk (by rw [hy, paired_isI hp3]), _, rfl, a, _, 0, _, rfl, rfl, SqL.mk (s13 _ _ ha), atI_zero, a0, CB, dx0, _, _, rfl, s13 _ _ ha0, T.clB, T.bP, bkP _ _ _, rfl, _, rfl, ?_⟩
    rw [sum_sizes, hsum]
    refine iteNS rfl ?_
    refine ⟨_, rfl, a, _, rfl, SqL.mk (s13 _ _ ha), ?_⟩
    refine for_it walk_enum (fun i σ H' => ∃ c d e, σ = [some (.ref p), some (.ref a), c, d, e] ∧ Same H H') ⟨c, d, none, rfl, s13⟩ (fun i σ H' _ q => by obtain ⟨_, _, _, _, s1⟩ := q; exact SqL.mk (s1 _ _ ha)) ?_ ?_
    · rintro i x σ H1 H' hi ⟨c, d, e, rfl, s1⟩ ⟨tp, x1, x2, rfl, ntp, rfl, hx1, hx2⟩
      obtain ⟨b, hib, hbm⟩ := paired_get hx hx2
      have s2 := s1.trans (Same.new (o := .tup [x1, x2]) ntp)
      refine ⟨tp, _, rfl, SqT.mk upd_same, rfl, x1, _, rfl, x2, _, rfl, rfl, ?_⟩
      have hb2 := hbm.same s2
      obtain ⟨ab, dxb, tb, xb, rfl, hab, htb, hxb⟩ := id hb2
      refine ⟨_, rfl, ab, dxb, _, rfl, hab, bkNo _ _ _ (by decide +kernel) (by decide +kernel) (by decide +kernel), .ref ab, n, b.1, b.2, rfl, hb2, hev b (List.mem_of_getElem? hib), fun v' H5 s5 h5 => ?_⟩
      obtain ⟨p5, ys5, rfl, hp5, hys5⟩ := h5
      cases hys5
      exact ⟨_, rfl, p5, _, rfl, Or.inl (SqL.mk hp5), _, _, rfl, rfl, _, rfl, iteF ⟨_, _, _, rfl, s2.trans s5⟩⟩
    rintro σ H4 ⟨c, d, e, rfl, s4⟩
    refine ⟨_, rfl, a, _, 0, _, rfl, rfl, SqL.mk (s4 _ _ ha), atI_zero, a0, CB, dx0, _, _, rfl, s4 _ _ ha0, T.clB, T.bP, bkP _ _ _, _, rfl, p, CF, dx, _, rfl, s4 _ _ hp, T.clF, T.fP, by decide, ?_⟩
    have hap : a ≠ p := fun z => by rw [z, hp] at ha; cases ha
    refine ⟨_, rfl, a, _, rfl, SqL.mk (by rw [upd_ne hap]; exact s4 _ _ ha), fun t nt => ?_⟩
    have ntp : t ≠ p := fun z => by rw [z, upd_same] at nt; cases nt
    refine ⟨_, rfl, p, CF, dx, _, rfl, by rw [upd_ne ntp.symm, upd_same], T.clF, T.fB, by show 1 < 1000; decide, ?_⟩
    rw [putFm]
    refine k t _ ?_ (fun q o hq hne => ?_) upd_same (by rw [upd_ne ntp, upd_same])
    · rw [upd_ne ntp] at nt
      exact s4.free nt
    · rw [upd_ne hne, upd_ne (fun z => by rw [← z, upd_ne hne, s4 _ _ hq] at nt; cases nt), upd_ne hne]
      exact s4 _ _ hq
abbrev sFIter : Stmt := inClass (top 29) 3
theorem scFIter : FnScope ["self"] ["self"] (defScope sFIter) := ⟨rfl, rfl, rfl, by decide +kernel, rfl, by decide +kernel, by decide +kernel⟩
/-- iter(family), as for wants it -/
structure Itr0 (P : Program) (w : World) (K : PySem.W.Frag) (mg : Str → Option Value) (base : Heap) (k : Nat) (C : Addr) (fl : Str) : Prop where
  ex : ∃ (f : Addr) (fd : FuncData), FnN P w K mg base k f fd ["self"] (spIter C fl) ∧ Meth K C "__iter__" f ∧ Binds K fd ["self"] []
theorem ok_fiter (F : MetC K CF "__iter__" "Family.__iter__" sFIter ["self"]) (B : Bl mg) (T : TC K mg CB CF) : Itr0 P w K mg base 1 CF "books" := by
  obtain ⟨f, fd, h, mm, b⟩ := F.ex
  obtain ⟨oc, od, kV, doc, pm, an, cdv, ct, osl, rfl, lk, hcd⟩ := h.ex
  refine ⟨f, _, fnN_of lk hcd scFIter (fun n vs H Q E h => ?_) (fun A outer s H vs Q hr h => ?_), mm, b⟩
  · obtain ⟨a, dx, fs, t, zs, rfl, _⟩ := h
    rfl
  · obtain ⟨a, dx, fs, t, zs, rfl, ha, hfs, ht, k⟩ := h
    refine ⟨_, pss_one (ps_ret (pe_callB cr_iterT rfl B.iter (by decide +kernel) (pa_cons (pe_fld (pv 0) rfl) pa_nil))), ?_⟩
    exact ⟨_, rfl, a, CF, dx, fs, _, rfl, ha, T.clF, T.fB, hfs, t, zs, rfl, SqT.mk ht, fun it hn hs => k it hn hs⟩
abbrev sFGet : Stmt := inClass (top 29) 4
def spFGet (CB CF : Addr) : Sp := fun vs H Q _ => ∃ v n bs i b, vs = [v, .int (i : Nat)] ∧ FamAt CB CF H v n bs ∧ bs[i]? = some b ∧ ∀ x, BookAt CB H x n b → Q x H
theorem scFGet : FnScope ["self", "at"] ["self", "at"] (defScope sFGet) := ⟨rfl, rfl, rfl, by decide +kernel, rfl, by decide +kernel, by decide +kernel⟩
theorem ok_fget (F : MetC K CF "__getitem__" "Family.__getitem__" sFGet ["self", "at"]) (T : TC K mg CB CF) : Mtd P w K mg base 1 CF "__getitem__" (spFGet CB CF) := by
  refine mtd_mk F scFGet (fun vs H Q E h => ?_) (fun f cdv A outer sh H vs Q E hr h => ?_)
  · obtain ⟨v, n, bs, i, b, rfl, _⟩ := h
    rfl
  · obtain ⟨v, n, bs, i, b, rfl, ⟨a, dx, t, xs, rfl, ha, ht, hx⟩, hi, k⟩ := h
    refine ⟨_, pss_one (ps_ret (pe_ix ix_tup (pe_fld (pv 0) rfl) (pv 1) (fun _ _ => rfl))), ?_⟩
    obtain ⟨x, hxi, hxb⟩ := paired_get' hx hi
    exact ⟨_, rfl, a, CF, dx, _, _, rfl, ha, T.clF, T.fB, fmB _ _, _, rfl, t, _, i, x, rfl, rfl, SqT.mk ht, atI_nat hxi, k x hxb⟩
abbrev sRepl : Stmt := inClass (top 29) 5
def replB (bs : List (Nat × Rooms)) (i : Nat) (b : Nat × Rooms) : List (Nat × Rooms) := bs.take i ++ [b] ++ bs.drop (i + 1)
def spRepl (CB CF : Addr) : Sp := fun vs H Q _ => ∃ v n bs i u b, vs = [v, .int (i : Nat), u] ∧ FamAt CB CF H v n bs ∧ i < bs.length ∧ bs.length ≤ 900 ∧ BookAt CB H u n b ∧ sumS (replB bs i b) = n ∧ (∀ c ∈ replB bs i b, EvB c.2) ∧
  ∀ v' H', Same H H' → FamAt CB CF H' v' n (replB bs i b) → Q v' H'
theorem scRepl : FnScope ["self", "at", "book"] ["self", "at", "book"] (defScope sRepl) := ⟨rfl, rfl, rfl, by decide +kernel, rfl, by decide +kernel, by decide +kernel⟩
theorem ok_repl (F : MetC K CF "replaced" "Family.replaced" sRepl ["self", "at", "book"]) (B : Bl mg) (T : TC K mg CB CF) (cI : Ini P w K mg base 4 "Family" CF (spFInit CB CF)) : Mtd P w K mg base 6 CF "replaced" (spRepl CB CF) := by
  refine mtd_mk F scRepl (fun vs H Q E h => ?_) (fun f cdv A outer sh H vs Q E hr h => ?_)
  · obtain ⟨v, n, bs, i, u, b, rfl, _⟩ := h
    rfl
  · obtain ⟨v, n, bs, i, u, b, rfl, ⟨a, dx, t, xs, rfl, ha, ht, hx⟩, hi, hbl, hu, hsum, hev, k⟩ := h
    refine ⟨_, pss_one (ps_ret (pe_mk cI hr (by decide) (pa_cons (pe_op op_cat (pe_op op_cat (b_list B (pe_slice sl_tupA (pe_fld (pv 0) rfl) po_none (po_some (pv 1)))) (pe_lst (pa_cons (pv 2) pa_nil))) (b_list B (pe_slice sl_tupA (pe_fld (pv 0) rfl) (po_some (pe_op op_add (pv 1) pe_int)) po_none))) pa_nil))), ?_⟩
    have hxl : xs.length = bs.length := paired_len hx
    refine ⟨_, rfl, a, CF, dx, _, _, rfl, ha, T.clF, T.fB, fmB _ _, _, rfl, _, rfl, ?_⟩
    refine rd_slL ht i (by omega) fun p1 H1 s1 h1 => ?_
    refine ⟨p1, _, rfl, Or.inr (SqT.mk h1), fun p2 n2 => ?_⟩
    have s2 := Same.new (o := .lst (xs.take i)) n2
    refine ⟨_, rfl, by show 1 ≤ sizeLine; decide, fun p3 n3 => ?_⟩
    have s3 := Same.new (o := .lst [u]) n3
    refine ⟨p2, p3, _, _, rfl, rfl, s3 _ _ upd_same, upd_same, by rw [List.length_take]; exact small_n (by show min i xs.length + 1 ≤ 100000; omega), fun p4 n4 => ?_⟩
    have s4 := Same.new (o := .lst (xs.take i ++ [u])) n4
    have s14 := ((s1.trans s2).trans s3).trans s4
    have h4 : (upd (upd (upd H1 p2 (.lst (xs.take i))) p3 (.lst [u])) p4 (.lst (xs.take i ++ [u]))) p4 = some (.lst (xs.take i ++ [u])) := upd_same
    generalize upd (upd (upd H1 p2 (.lst (xs.take i))) p3 (.lst [u])) p4 (.lst (xs.take i ++ [u])) = H4 at s14 h4
    refine ⟨_, rfl, a, CF, dx, _, _, rfl, s14 _ _ ha, T.clF, T.fB, fmB _ _, _, rfl, _, _, rfl, rfl, _, rfl, ?_⟩
    refine noPart ?_
    rw [show ((i : Int) + 1) = ((i + 1 : Nat) : Int) from rfl]
    refine rd_slR (s14 _ _ ht) (i + 1) (by omega) fun p5 H5 s5 h5 => ?_
    refine ⟨p5, _, rfl, Or.inr (SqT.mk h5), fun p6 n6 => ?_⟩
    have s6 := Same.new (o := .lst (xs.drop (i + 1))) n6
    refine ⟨p4, p6, _, _, rfl, rfl, s6 _ _ (s5 _ _ h4), upd_same, by rw [List.length_append, List.length_take, List.length_drop]; exact small_n (by show min i xs.length + 1 + (xs.length - (i + 1)) ≤ 100000; omega), fun p7 n7 => ?_⟩
    have s7 := Same.new (o := .lst (xs.take i ++ [u] ++ xs.drop (i + 1))) n7
    have s57 := (s5.trans s6).trans s7
    have h7 : (upd (upd H5 p6 (.lst (xs.drop (i + 1)))) p7 (.lst (xs.take i ++ [u] ++ xs.drop (i + 1)))) p7 = some (.lst (xs.take i ++ [u] ++ xs.drop (i + 1))) := upd_same
    generalize upd (upd H5 p6 (.lst (xs.drop (i + 1)))) p7 (.lst (xs.take i ++ [u] ++ xs.drop (i + 1))) = H7 at s57 h7
    have s17 := s14.trans s57
    intro x dxn nx ndx nex
    have sX : Same H7 (upd (upd H7 dxn (.own x)) x (.ins CF dxn [])) := fun b o e => by
      rw [upd_ne (ne_of_none e nx), upd_ne (ne_of_none e ndx)]
      exact e
    have hpk : PBk CB H n (xs.take i ++ [u] ++ xs.drop (i + 1)) (replB bs i b) := by
      have htk : ∀ {l : List V} {m : List (Nat × Rooms)}, PBk CB H n l m → ∀ k, PBk CB H n (l.take k) (m.take k) ∧ PBk CB H n (l.drop k) (m.drop k) := by
        intro l m h
        induction h with
        | nil => intro k; cases k <;> exact ⟨.nil, .nil⟩
        | cons h t ih =>
          intro k
          cases k with
          | zero => exact ⟨.nil, .cons h t⟩
          | succ k => exact ⟨.cons h (ih k).1, (ih k).2⟩
      exact paired_app (paired_app (htk hx i).1 (.cons hu .nil)) (htk hx (i + 1)).2
    refine ⟨x, dxn, n, p7, _, replB bs i b, rfl, upd_same, sX _ _ h7, hpk.same (s17.trans sX), ?_, hsum, ?_, hev, fun t' H8 nt kp hx8 ht8 => ⟨rfl, ?_⟩⟩
    · unfold replB
      simp
    · unfold replB
      rw [List.length_append, List.length_append, List.length_take, List.length_drop]
      show min i bs.length + 1 + (bs.length - (i + 1)) ≤ 1000
      omega
    · have s8 : Same H7 H8 := fun b o e => kp b o (sX b o e) (ne_of_none e nx)
      exact k _ _ (s17.trans s8) ⟨x, dxn, t', _, rfl, hx8, ht8, hpk.same (s17.trans s8)⟩
end
end NA
/-! ledger, count_partitions, parity. -/
namespace NA
open PySem PySem.Spec PyProof.Rows L2
/-- the product of the first books -/
def prodAt (bs : List Rooms) (j : Nat) : Rooms := match bs with
  | [] => []
  | b :: bs => (bs.take j).foldl (fun p b => oddR (ext (p.map fun r => (r, 1)) b)) b
theorem prodAt_zero {b : Rooms} {bs : List Rooms} : prodAt (b :: bs) 0 = b := rfl
theorem prodAt_succ {bs : List Rooms} {j : Nat} {b : Rooms} (h : bs[j + 1]? = some b) : prodAt bs (j + 1) = oddR (ext ((prodAt bs j).map fun r => (r, 1)) b) := by
  cases bs with
  | nil => cases h
  | cons b0 bs =>
    show (bs.take (j + 1)).foldl _ b0 = oddR (ext (((bs.take j).foldl _ b0).map _) b)
    rw [take_snoc (show bs[j]? = some b from h), foldl_one]
def OkProd (n : Nat) (bs : List (Nat × Rooms)) : Prop := ∀ j b, bs[j + 1]? = some b → OkMul n (sumS (bs.take (j + 1))) b.1 (prodAt (bs.map (·.2)) j) b.2
theorem sumS_snoc {bs : List (Nat × Rooms)} {j : Nat} {b : Nat × Rooms} (h : bs[j]? = some b) : sumS (bs.take (j + 1)) = sumS (bs.take j) + b.1 := by
  unfold sumS
  rw [take_snoc h, List.map_append, List.sum_append]
  show _ + (b.1 + 0) = _
  rw [Nat.add_zero]
section
variable {P : Program} {w : World} {K : PySem.W.Frag} {mg : Str → Option Value} {base : Heap} {CB CF : Addr}
abbrev sLedger : Stmt := top 31
abbrev nLedger : List Str := ["family", "ways", "lists", "book", "covered"]
def spLedger (CB CF : Addr) : Sp := fun vs H Q _ => ∃ v n bs, vs = [v] ∧ FamAt CB CF H v n bs ∧ OkLed (bs.map (·.2)) ∧ bs.length ≤ 1000 ∧ ∀ a xs H', H a = none → Same H H' → H' a = some (.lst xs) → Paired (EnF H H') xs (covers (bs.map (·.2))) → Q (.ref a) H'
theorem scLedger : FnScope nLedger ["family"] (defScope sLedger) := ⟨rfl, rfl, rfl, by decide +kernel, rfl, by decide +kernel, by decide +kernel⟩
theorem map_get {α β : Type} {l : List α} {i : Nat} {x : α} (f : α → β) (h : l[i]? = some x) : (l.map f)[i]? = some (f x) := by
  rw [List.getElem?_map, h] <;> rfl
theorem ok_ledger (F : DefC K mg "ledger" sLedger ["family"]) (B : Bl mg) (T : TC K mg CB CF) (cE : Cal P w K mg base 2 "extended_ways" (spExt Rw)) (cI : Itr0 P w K mg base 1 CF "books") : Cal P w K mg base 3 "ledger" (spLedger CB CF) := by
  refine cal_mk F scLedger (fun vs H Q E h => ?_) (fun f cdv A outer sh H vs Q E hr h => ?_)
  · obtain ⟨v, n, bs, rfl, _⟩ := h
    rfl
  · obtain ⟨v, n, bs, rfl, ⟨a, dx, tb, xb, rfl, ha, htb, hxb⟩, ok, hbl, k⟩ := h
    have hu := hu_of hr
    have nd := scLedger.nd
    obtain ⟨fi, fdi, FI, mI, bI⟩ := cI.ex
    refine ⟨_, pss_cons (ps_set (i := 1) nd rfl (Or.inr rfl) (pe_disp1 hu (pe_tup pa_nil) pe_int))
      (pss_cons (ps_set (i := 2) nd rfl (Or.inl rfl) (pe_lst (pa_cons (pe_lst (pa_cons (pe_tup (pa_cons (pe_tup pa_nil) (pa_cons pe_int pa_nil))) pa_nil)) pa_nil)))
      (pss_cons (ps_for PassesOwn.never rfl (pi_own (pv 0) mI FI (hr.mono (by decide)) bI) (pg_name (i := 3) nd rfl (Or.inl rfl))
        (pss_cons (ps_set (i := 1) nd rfl (Or.inr rfl) (pe_c cE hr (Nat.le_refl _) (pa_cons (pv 1) (pa_cons (pe_fld (pv 3) rfl) pa_nil))))
        (pss_one (ps_expr (pe_bm PySem.F.plainAttrs_list PySem.F.slot_list_append PySem.F.type_list_append mt_append (pv 2)
          (pa_cons (pe_lc (own := [("covered", 4)]) (g := gName 4) (tt := tYes) rfl nd (pi_list (b_sortD Int V.int B hr (pv 1))) (blkOk_by (N := nLedger) (sc := defScope sLedger) (by decide +kernel))
            (fun _ _ _ _ _ => pg_name (i := 4) nd rfl (Or.inl rfl)) (fun _ _ _ _ _ => pts_nil) (fun _ _ _ _ _ => pe_tup (pa_cons (pv 4) (pa_cons (pe_dget hu (pv 1) (pv 4) (fun _ _ => rfl)) pa_nil)))) pa_nil))))))
      (pss_one (ps_ret (pv 2))))), ?_⟩
    -- ways = {(): 1}
    intro p np
    refine ⟨by decide, fun q nq => ⟨q, [], rfl, upd_same, ?_⟩⟩
    have npq : p ≠ q := fun z => by rw [z, upd_same] at nq; cases nq
    refine ⟨by rw [upd_ne npq, upd_same], ?_⟩
    have s5 : Same H (upd (upd (upd H p (.dT [])) q (.tup [])) p (.dT [([], .int 1)])) := Same.mut ((Same.new np).trans (Same.new nq)) np
    have hw0 : DcI (upd (upd (upd H p (.dT [])) q (.tup [])) p (.dT [([], .int 1)])) (.ref p) one0 := ⟨p, rfl, upd_same⟩
    generalize upd (upd (upd H p (.dT [])) q (.tup [])) p (.dT [([], .int 1)]) = H1 at s5 hw0
    -- the first list
    refine ⟨by decide, fun p1 n1 => ⟨by show 2 ≤ sizeLine; decide, fun p2 n2 => ⟨by show 1 ≤ sizeLine; decide, fun p3 n3 => ⟨by show 1 ≤ sizeLine; decide, fun l nl => ?_⟩⟩⟩⟩
    have s1 := Same.new (o := .tup []) n1
    have s2 := Same.new (o := .tup [V.ref p1, V.int 1]) n2
    have s3 := Same.new (o := .lst [V.ref p2]) n3
    have s4 := Same.new (o := .lst [V.ref p3]) nl
    have hEn : EnF H1 (upd (upd (upd (upd H1 p1 (.tup [])) p2 (.tup [V.ref p1, V.int 1])) p3 (.lst [V.ref p2])) l (.lst [V.ref p3])) (.ref p3) one0 :=
      ⟨p3, [.ref p2], rfl, (s1.trans s2).free n3, s4 _ _ upd_same, .cons ⟨p2, .ref p1, rfl, s4 _ _ (s3 _ _ upd_same), ⟨p1, rfl, s4 _ _ (s3 _ _ (s2 _ _ upd_same))⟩⟩ .nil⟩
    have n3l : V.ref p3 ≠ V.ref l := fun z => by
      injection z with z
      rw [z, upd_same] at nl
      cases nl
    have hl0 : (upd (upd (upd (upd H1 p1 (.tup [])) p2 (.tup [V.ref p1, V.int 1])) p3 (.lst [V.ref p2])) l (.lst [V.ref p3])) l = some (.lst [V.ref p3]) := upd_same
    have sA := ((s1.trans s2).trans s3).trans s4
    have nl0 : H1 l = none := ((s1.trans s2).trans s3).free nl
    generalize upd (upd (upd (upd H1 p1 (.tup [])) p2 (.tup [V.ref p1, V.int 1])) p3 (.lst [V.ref p2])) l (.lst [V.ref p3]) = H2 at sA hEn hl0
    have sB := s5.trans sA
    have nlH := s5.free nl0
    have hEn' : EnF H H2 (.ref p3) one0 := by
      obtain ⟨a1, x1, e1, f1, g1, r1⟩ := hEn
      exact ⟨a1, x1, e1, s5.free f1, g1, r1⟩
    refine ⟨_, rfl, a, dx, _, tb, xb, rfl, sB _ _ ha, fmB _ _, sB _ _ htb, ?_⟩
    refine for_it walk_tup (fun i σ H' => ∃ wv c xs, σ = [some (.ref a), some wv, some (.ref l), c, none] ∧ Same H H' ∧ DcI H' wv (waysAt (bs.map (·.2)) i) ∧ H' l = some (.lst xs) ∧ (∀ x ∈ xs, x ≠ .ref l) ∧
        Paired (EnF H H') xs ((List.range (i + 1)).map fun j => entries (waysAt (bs.map (·.2)) j)))
      ⟨_, none, _, rfl, sB, hw0.same sA, hl0, fun x hx => by rw [List.mem_singleton] at hx; rw [hx]; exact n3l, .cons (by show EnF H H2 _ (entries one0); rw [entries_one0]; exact hEn') .nil⟩ (fun i σ H' _ p => by obtain ⟨_, _, _, _, s1, _⟩ := p; exact SqT.mk (s1 _ _ htb)) ?_ ?_
    · rintro i x σ H3 H' hi ⟨wv, c, xs, rfl, s6, hwv, hl3, hne3, hp3⟩ ⟨rfl, hx⟩
      obtain ⟨b, hib, hxm⟩ := paired_get hxb hx
      have hib' := map_get (fun b : Nat × Rooms => b.2) hib
      have hil : i < (bs.map (·.2)).length := (List.getElem?_eq_some_iff.mp hib').1
      obtain ⟨o1, o2, o3, o4⟩ := ok.ok i b.2 hib'
      obtain ⟨ab, dxb, t2, xs2, rfl, hab, ht2, hx2⟩ := hxm.same s6
      refine ⟨_, rfl, _, rfl, ab, CB, dxb, _, _, rfl, hab, T.clB, T.bR, bkR _ _ _, wv, .ref t2, _, b.2, rfl, hwv, ⟨t2, xs2, rfl, ht2, hx2⟩, o1, o2, o3, o4, fun dw H4 ndw s7 hdw => ?_⟩
      rw [← waysAt_snoc hib'] at hdw
      have hl4 := s7 _ _ hl3
      refine ⟨_, rfl, Or.inl ⟨rfl, _, SqL.mk hl4⟩, ?_⟩
      refine rd_entries (K := K) (i := 1) (j := 4) hdw rfl (ok.few _ hil) (ok.ne i hil) (fun _ => rfl) (fun _ => rfl) (fun _ => rfl) fun D ys H5 nD s8 hD he => ?_
      refine ⟨l, xs, _, rfl, rfl, s8 _ _ hl4, ?_, ?_⟩
      · have h1 := paired_len hp3
        rw [List.length_map, List.length_range] at h1
        rw [List.length_map] at hil
        exact small_l (by omega)
      · have nl4 : V.ref D ≠ V.ref l := fun z => by
          injection z with z
          rw [z, hl4] at nD
          cases nD
        obtain ⟨q1, q2, q3⟩ := led_step (H1 := H4) (H2 := H5) nlH (s6.trans s7) s8 hl4 (Paired.mono' (fun _ _ z => z.same s7) hp3) hne3 nD hD he
        refine ⟨_, _, _, rfl, q1, ⟨dw, rfl, ?_⟩, upd_same, q3, q2⟩
        rw [upd_ne (fun z => by rw [z, hl4] at hdw; cases hdw)]
        exact s8 _ _ hdw
    · rintro σ H3 ⟨wv, c, xs, rfl, s6, hwv, hl3, hne3, hp3⟩
      have e1 : xb.length = (bs.map (·.2)).length := by rw [List.length_map]; exact paired_len hxb
      rw [e1] at hp3
      exact ⟨_, rfl, k l xs H3 nlH s6 hl3 hp3⟩
/-- [book.rooms for book in family]: the books as tuples of rooms -/
theorem rd_choices {σ : L2.St} {H : Hp} {Q : VK} {i j : Nat} {a dx tb : Addr} {n : Nat} {xb : List V} {bs : List (Nat × Rooms)} (T : TC K mg CB CF) (hi : σ[i]? = some (some (.ref a))) (ha : H a = some (.ins CF dx (famF n tb))) (htb : H tb = some (.tup xb)) (hxb : PBk CB H n xb bs) (hbl : bs.length ≤ 1000)
    (hw : ∀ x, wipe ((wipe σ [j]).set j (some x)) [j] = wipe σ [j]) (hj : ∀ x, ((wipe σ [j]).set j (some x))[j]? = some (some x))
    (done : ∀ D xs H', H D = none → Same H H' → H' D = some (.lst xs) → Rws H' xs (bs.map (·.2)) → Q (.ref D) H') :
    tLc (iOwnT CF "books" (tVar i) K) (gName j) tYes (tFld K (tVar j) "rooms") [j] σ H Q := by
  refine ⟨_, hi, a, dx, _, tb, xb, rfl, ha, fmB _ _, htb, fun D hD => ?_⟩
  refine lc_build walk_tup bs (paired_len hxb) (fun b => [b.2]) (stab_rw D) (by omega) hD (fun H3 s3 => SqT.mk (s3 _ _ htb)) (fun i s x H4 H' k1 k0 es s4 y q1 q0 => ?_) (fun ys H3 s3 hy hp3 => ?_)
  · obtain ⟨rfl, hy⟩ := y
    obtain ⟨b, hb, hbm⟩ := paired_get hxb hy
    obtain rfl : b = s := by rw [es] at hb; exact (Option.some.inj hb).symm
    obtain ⟨ab, dxb, t, xs, rfl, hab, ht, hx⟩ := hbm.same s4
    exact ⟨hw _, yesT ⟨_, hj _, ab, CB, dxb, _, _, rfl, hab, T.clB, T.bR, bkR _ _ _, q1 _ _ (Same.refl _) _ rfl ⟨t, xs, rfl, ht, hx⟩⟩⟩
  · rw [flatMap_one] at hp3
    exact done D ys H3 hD s3 hy hp3
abbrev sCountP : Stmt := top 19
def spCountP (CB CF : Addr) : Sp := fun vs H Q _ => ∃ v n b bs, vs = [v] ∧ FamAt CB CF H v n (b :: bs) ∧ n ≤ 1000 ∧ b.2.length ≤ 100000 ∧ bs.length ≤ 900 ∧ OkTails (bs.map (·.2)) ∧ ∀ H', Same H H' → Q (.int (countC n ((b :: bs).map (·.2)))) H'
theorem scCountP : FnScope ["family", "book"] ["family"] (defScope sCountP) := ⟨rfl, rfl, rfl, by decide +kernel, rfl, by decide +kernel, by decide +kernel⟩
theorem ok_countP (F : DefC K mg "count_partitions" sCountP ["family"]) (T : TC K mg CB CF) (cC : Cal P w K mg base 4 "count_choices" spCountC) (cI : Itr0 P w K mg base 1 CF "books") : Cal P w K mg base 5 "count_partitions" (spCountP CB CF) := by
  refine cal_mk F scCountP (fun vs H Q E h => ?_) (fun f cdv A outer sh H vs Q E hr h => ?_)
  · obtain ⟨v, n, b, bs, rfl, _⟩ := h
    rfl
  · obtain ⟨v, n, b, bs, rfl, ⟨a, dx, tb, xb, rfl, ha, htb, hxb⟩, hn, hb, hbl, ok, k⟩ := h
    have nd := scCountP.nd
    obtain ⟨fi, fdi, FI, mI, bI⟩ := cI.ex
    refine ⟨_, pss_one (ps_ret (pe_c cC hr (Nat.le_refl _) (pa_cons (pe_fld (pv 0) rfl) (pa_cons (pe_lc (own := [("book", 1)]) (g := gName 1) (tt := tYes) (te := tFld K (tVar 1) "rooms") rfl nd (pi_own (pv 0) mI FI (hr.mono (by decide)) bI)
      (blkOk_by (N := ["family", "book"]) (sc := defScope sCountP) (by decide +kernel)) (fun _ _ _ _ _ => pg_name (i := 1) nd rfl (Or.inl rfl)) (fun _ _ _ _ _ => pts_nil) (fun _ _ _ _ _ => pe_fld (pv 1) rfl)) pa_nil)))), ?_⟩
    refine ⟨_, rfl, a, CF, dx, _, _, rfl, ha, T.clF, T.fP, fmP _ _, ?_⟩
    refine rd_choices T rfl ha htb hxb (by rw [List.length_cons]; omega) (fun _ => rfl) (fun _ => rfl) fun D xs H1 nD s1 hD hxs => ?_
    have e : (b :: bs).map (fun c : Nat × Rooms => c.2) = b.2 :: bs.map (fun c : Nat × Rooms => c.2) := rfl
    exact ⟨n, .ref D, b.2, bs.map (fun c : Nat × Rooms => c.2), rfl, hn, ⟨D, xs, rfl, hD, e ▸ hxs⟩, hb, by rw [List.length_map]; omega, ok, fun H2 s2 => e ▸ k _ (s1.trans s2)⟩
abbrev sParity : Stmt := top 33
def spParity (CB CF : Addr) : Sp := fun vs H Q _ => ∃ v n bs, vs = [v] ∧ FamAt CB CF H v n bs ∧ bs ≠ [] ∧ bs.length ≤ 1000 ∧ OkProd n bs ∧ (prodAt (bs.map (·.2)) (bs.length - 1)).length ≤ 100000 ∧ ∀ H', Same H H' → Q (.int ((prodAt (bs.map (·.2)) (bs.length - 1)).length : Nat)) H'
theorem scParity : FnScope ["family", "product", "book"] ["family"] (defScope sParity) := ⟨rfl, rfl, rfl, by decide +kernel, rfl, by decide +kernel, by decide +kernel⟩
theorem ok_parity (F : DefC K mg "parity" sParity ["family"]) (B : Bl mg) (T : TC K mg CB CF) (cG : Mtd P w K mg base 1 CF "__getitem__" (spFGet CB CF)) (hfn : ∀ f, Meth K CF "__getitem__" f → PySem.W.fnIn K f = true) (cM : Mtd P w K mg base 4 CB "__mul__" (spMul CB)) (cL : Mtd P w K mg base 1 CB "__len__" (spBLen CB)) : Cal P w K mg base 5 "parity" (spParity CB CF) := by
  refine cal_mk F scParity (fun vs H Q E h => ?_) (fun f cdv A outer sh H vs Q E hr h => ?_)
  · obtain ⟨v, n, bs, rfl, _⟩ := h
    rfl
  · obtain ⟨v, n, bs, rfl, hfam, hne, hbl, ok, hfew, k⟩ := h
    have nd := scParity.nd
    obtain ⟨fG, fdG, psG, FG, mG, bG⟩ := cG.ex
    obtain ⟨fM, fdM, psM, FM, mM, bM⟩ := cM.ex
    obtain ⟨fL, fdL, psL, FL, mL, bL⟩ := cL.ex
    refine ⟨_, pss_cons (ps_set (i := 1) nd rfl (Or.inl rfl) (pe_subOwn (pv 0) pe_int mG (hfn _ mG) FG (hr.mono (by decide)) bG (fun _ _ => rfl)))
      (pss_cons (ps_for PassesOwn.never rfl (pi_tup (pe_slice sl_tupA (pe_fld (pv 0) rfl) (po_some pe_int) po_none)) (pg_name (i := 2) nd rfl (Or.inl rfl))
        (pss_one (ps_set (i := 1) nd rfl (Or.inl rfl) (pe_op (op_mulOwn mM T.sf FM hr bM) (pv 1) (pv 2)))))
      (pss_one (ps_ret (pe_callB (cr_lenOwn mL FL (hr.mono (by decide)) bL) rfl B.len PySem.boot_len (pa_cons (pv 1) pa_nil))))), ?_⟩
    obtain ⟨a, dx, tb, xb, rfl, ha, htb, hxb⟩ := id hfam
    cases bs with
    | nil => exact absurd rfl hne
    | cons b0 bs =>
    refine ⟨_, rfl, a, dx, _, rfl, ha, .ref a, n, _, 0, b0, rfl, hfam, rfl, fun x hx => ?_⟩
    have hxl : xb.length = bs.length + 1 := paired_len hxb
    refine ⟨_, rfl, a, CF, dx, _, _, rfl, ha, T.clF, T.fB, fmB _ _, 1, rfl, noPart ?_⟩
    refine rd_slR htb 1 (by omega) fun p1 H1 s1 h1 => ?_
    refine ⟨p1, rfl, ⟨_, SqT.mk h1⟩, ?_⟩
    refine for_tup (K := K) (a := p1) (xs := xb.drop 1) (fun i σ H' => ∃ pv c, σ = [some (.ref a), some pv, c] ∧ Same H H' ∧ H' p1 = some (.tup (xb.drop 1)) ∧ BookAt CB H' pv n (sumS ((b0 :: bs).take (i + 1)), prodAt ((b0 :: bs).map (·.2)) i))
      ⟨x, none, rfl, s1, h1, ?_⟩ (fun i σ H' _ p => by obtain ⟨_, _, _, _, h, _⟩ := p; exact SqT.mk h) ?_ ?_
    · have e : sumS ((b0 :: bs).take 1) = b0.1 := by unfold sumS; simp
      rw [e]
      exact hx.same s1
    · rintro i y σ H2 hi ⟨pv, c, rfl, s2, h2, hpv⟩
      have hi' : xb[i + 1]? = some y := by rw [List.getElem?_drop] at hi; rw [Nat.add_comm]; exact hi
      obtain ⟨b, hib, hym⟩ := paired_get hxb hi'
      have hy2 := hym.same s2
      obtain ⟨a3, dx3, t3, x3, e3, ha3, ht3, hx3⟩ := id hpv
      obtain ⟨a4, dx4, t4, x4, e4, ha4, ht4, hx4⟩ := id hy2
      refine ⟨_, rfl, _, rfl, a3, dx3, _, a4, dx4, _, e3, e4, ha3, ha4, pv, y, n, _, b.1, _, b.2, by rw [e3, e4], hpv, hy2, ok i b hib, fun v' H3 s3 h3 => ?_⟩
      refine ⟨_, _, rfl, s2.trans s3, s3 _ _ h2, ?_⟩
      rw [sumS_snoc hib, prodAt_succ (map_get (fun b : Nat × Rooms => b.2) hib)]
      exact h3
    · rintro σ H2 ⟨pv, c, rfl, s2, h2, hpv⟩
      have e1 : (xb.drop 1).length = bs.length := by rw [List.length_drop]; omega
      rw [e1] at hpv
      obtain ⟨a3, dx3, t3, x3, e3, ha3, ht3, hx3⟩ := id hpv
      refine ⟨_, rfl, a3, dx3, _, by rw [e3], ha3, pv, n, _, _, by rw [e3], hpv, _, rfl, ⟨by omega, ?_⟩, k _ s2⟩
      have : (prodAt ((b0 :: bs).map (·.2)) bs.length).length ≤ 100000 := hfew
      omega
end
end NA
/-! walk_choices. -/
namespace NA
open PySem PySem.Spec PyProof.Rows L2
/-- a generator def that may be called by its name -/
structure GCal (P : Program) (w : World) (K : PySem.W.Frag) (mg : Str → Option Value) (base : Heap) (k : Nat) (x : Str) (sp : SpN) : Prop where
  ex : ∃ (f : Addr) (fd : FuncData) (ps : List Str), GFnN P w K mg base k f fd ps sp ∧ mg x = some (.ref f) ∧ PySem.W.keepIn K (.ref f) = true ∧ Binds K fd ps []
theorem gcal_mk {P : Program} {w : World} {K : PySem.W.Frag} {mg : Str → Option Value} {base : Heap} {x : Str} {st : Stmt} {N ps : List Str} {k : Nat} {sp : SpN} (F : DefC K mg x st ps) (S : GScope N ps (defScope st)) (len : ∀ vs H need outs, sp vs H need outs → vs.length = ps.length)
    (hbody : ∀ (f : Addr) (cdv : Value) (A : Around) (outer : List Env) (s : Shared) (H : Hp) (vs : List V) (need wr : Addr → Prop) (outs : List Out) (pn : List (Addr × Obj)), Room k (A.deeper (envOfC x (defScope st) s.heap.objs.size f cdv)) → sp vs H need outs → (∀ b, wr b → ¬ need b) →
      ∃ t, GSs (gxOf P w K mg base N x (defScope st) f cdv A outer s H pn) wr (defBody st) t ∧ ∀ H2, (∀ b u, H b = some u → ¬ wr b → H2 b = some u) → (∀ b, wr b → H2 b ≠ none) → t { nx := fun o' Hw' _ H' => o' = [] ∧ Same Hw' H', rt := fun o' Hw' v H' => v = .non ∧ o' = [] ∧ Same Hw' H' } outs H2 (start N vs) H2) :
    GCal P w K mg base (k + 1) x sp := by
  obtain ⟨f, fd, h, m, b⟩ := F.ex
  obtain ⟨oc, od, kV, doc, pm, an, cdv, ct, osl, rfl, lk, hcd⟩ := h.ex
  exact ⟨f, _, ps, gfn_mk lk hcd S len (hbody f cdv), m, h.kp, b⟩
section
variable {X : Cx} {k : Nat} {x : Str} {sp : SpN} {p pos' : Pos} {e : Expr} {es : List Expr} {t : TA}
theorem pgn_c (c : GCal X.prog X.w X.K X.mg X.base k x sp) (hr : Room k X.A) (ha : PA X (e :: es) t) (hg : Gl X x := by rfl)
    (hdb : (x == ("__debug__" : Str)) = false := by decide) (he : starEach (e :: es) X.env = (false, eval e X.env) :: starEach es X.env := by rfl) (hpl : (backTo pos' (starEach es X.env)).any (·.1) = false := by rfl) :
    PGn X k (.Call (.Name x p) (e :: es) [] pos') (tCallN sp t) := by
  obtain ⟨f, fd, ps, F, hm, kp, b⟩ := c.ex
  exact pgn_call F hr hg hm kp b ha hdb he hpl
end
theorem paired_mem {α β : Type} {F G : α → β → Prop} : ∀ {l : List α} {m : List β}, (∀ a ∈ l, ∀ b, F a b → G a b) → Paired F l m → Paired G l m
  | _, _, _, .nil => .nil
  | _, _, h, .cons q t => .cons (h _ List.mem_cons_self _ q) (paired_mem (fun a ha => h a (List.mem_cons_of_mem _ ha)) t)
/-- what the walk looks at -/
def WNeed (H : Hp) (ch tl lf : Addr) (xc xt : List V) : Addr → Prop := fun b => b = ch ∨ b = tl ∨ b = lf ∨ V.ref b ∈ xc ∨ V.ref b ∈ xt ∨ ∃ t zs, V.ref t ∈ xc ∧ H t = some (.tup zs) ∧ V.ref b ∈ zs
/-- the walk's data in one heap -/
structure WDat (H : Hp) (ch tl : Addr) (xc xt : List V) (bks : List (List (List Int))) (tls : List Ways) : Prop where
  c : H ch = some (.lst xc)
  b : Rws H xc bks
  t : H tl = some (.lst xt)
  d : Paired (DcI H) xt tls
theorem WDat.same {H H' : Hp} {ch tl : Addr} {xc xt : List V} {bks : List (List (List Int))} {tls : List Ways} (s : Same H H') (w : WDat H ch tl xc xt bks tls) : WDat H' ch tl xc xt bks tls :=
  ⟨s _ _ w.c, Rws.same s w.b, s _ _ w.t, Paired.mono' (fun _ _ z => z.same s) w.d⟩
theorem WDat.keep {H H' : Hp} {ch tl lf : Addr} {xc xt : List V} {bks : List (List (List Int))} {tls : List Ways} (kn : ∀ b u, WNeed H ch tl lf xc xt b → H b = some u → H' b = some u) (w : WDat H ch tl xc xt bks tls) : WDat H' ch tl xc xt bks tls := by
  refine ⟨kn _ _ (.inl rfl) w.c, paired_mem (fun v hv row h => ?_) w.b, kn _ _ (.inr (.inl rfl)) w.t, paired_mem (fun v hv es h => ?_) w.d⟩
  · obtain ⟨t, zs, rfl, ht, hz⟩ := h
    refine ⟨t, zs, rfl, kn _ _ (.inr (.inr (.inr (.inl hv)))) ht, paired_mem (fun u hu r hr => ?_) hz⟩
    obtain ⟨q, rfl, hq⟩ := hr
    exact ⟨q, rfl, kn _ _ (.inr (.inr (.inr (.inr (.inr ⟨t, zs, hv, ht, hu⟩))))) hq⟩
  · obtain ⟨d, rfl, hd⟩ := h
    exact ⟨d, rfl, kn _ _ (.inr (.inr (.inr (.inr (.inl hv))))) hd⟩
def outRow (row : List (List Int)) : Out := fun v H => Rw H v row
/-- the rows that one room gives -/
def contrib (t : Ways) (bs : List (List (List Int) × Ways)) (left : List Int) (r : List Int) : List (List (List Int)) :=
  if (getA t (left.filter fun p => decide (p ∉ r))).isSome = true then (if bs.isEmpty then [[r]] else (walkC bs (left.filter fun p => decide (p ∉ r))).map (r :: ·)) else []
theorem walkC_cons (b : List (List Int)) (t : Ways) (bs : List (List (List Int) × Ways)) (left : List Int) : walkC ((b, t) :: bs) left = b.flatMap (contrib t bs left) := rfl
theorem walkC_ne : ∀ (bs : List (List (List Int) × Ways)) (left : List Int), ∀ row ∈ walkC bs left, row ≠ []
  | [], _, row, h => by cases h
  | (b, t) :: bs, left, row, h => by
    rw [walkC_cons, List.mem_flatMap] at h
    obtain ⟨r, _, h⟩ := h
    unfold contrib at h
    split at h
    · split at h
      · rw [List.mem_singleton] at h
        rw [h]; simp
      · obtain ⟨q, _, rfl⟩ := List.mem_map.mp h
        simp
    · cases h
def spWalk (m : Nat) : SpN := fun vs H need outs => ∃ (ch tl lf : Addr) (xc xt : List V) (bks : List (List (List Int))) (tls : List Ways) (left : List Int) (at_ : Nat), vs = [.ref ch, .ref tl, .ref lf, .int at_] ∧ WDat H ch tl xc xt bks tls ∧ H lf = some (.tup (left.map V.int)) ∧ bks.length = tls.length ∧ at_ + m = bks.length ∧
  left.length ≤ 1000 ∧ bks.length ≤ 1000 ∧ need = WNeed H ch tl lf xc xt ∧ outs = (walkC ((bks.zip tls).drop at_) left).map outRow ∧ ∀ row ∈ walkC ((bks.zip tls).drop at_) left, row.length ≤ 1000
def tGNever : TGn := fun _ _ _ _ _ => False
theorem gss_never {X : Cx} {wr : Addr → Prop} {st : List Stmt} : GSs X wr st tGNever := ⟨fun _ _ _ _ _ _ _ _ _ _ _ _ _ _ _ _ _ _ _ _ _ _ h => h.elim⟩
section
variable {P : Program} {w : World} {K : PySem.W.Frag} {mg : Str → Option Value} {base : Heap}
abbrev sWalk : Stmt := top 23
abbrev nWalk : List Str := ["choices", "tails", "left", "at", "room", "rest", "later", "p"]
theorem scWalk : GScope nWalk ["choices", "tails", "left", "at"] (defScope sWalk) := ⟨rfl, rfl, rfl, by decide +kernel, rfl, by decide +kernel, by decide +kernel⟩
theorem ok_walk1 (F : DefC K mg "walk_choices" sWalk ["choices", "tails", "left", "at"]) (B : Bl mg) (m : Nat) (cR : m = 0 ∨ GCal P w K mg base (2 * m) "walk_choices" (spWalk m)) : GCal P w K mg base (2 * (m + 1)) "walk_choices" (spWalk (m + 1)) := by
  refine gcal_mk (k := 2 * m + 1) F scWalk (fun vs H need outs h => ?_) (fun f cdv A outer sh H vs need wr outs pn hr h hwn => ?_)
  · obtain ⟨ch, tl, lf, xc, xt, bks, tls, left, at_, rfl, _⟩ := h
    rfl
  · obtain ⟨ch, tl, lf, xc, xt, bks, tls, left, at_, rfl, wd, hlf, hbt, hat, hll, hbl, rfl, rfl, hrl⟩ := h
    have hu := hu_of hr
    have nd := scWalk.nd
    -- the book and the tail of this place
    have hab : at_ < bks.length := by omega
    obtain ⟨b, hb⟩ : ∃ b, bks[at_]? = some b := ⟨bks[at_], by simp [hab]⟩
    obtain ⟨tt, htt⟩ : ∃ tt, tls[at_]? = some tt := ⟨tls[at_]'(by omega), by simp [show at_ < tls.length by omega]⟩
    have hzip : (bks.zip tls)[at_]? = some (b, tt) := by rw [List.getElem?_zip_eq_some]; exact ⟨hb, htt⟩
    have edrop : (bks.zip tls).drop at_ = (b, tt) :: (bks.zip tls).drop (at_ + 1) := drop_at hzip
    have hzl : (bks.zip tls).length = bks.length := by rw [List.length_zip, hbt, Nat.min_self]
    rw [edrop, walkC_cons] at hrl
    rw [edrop, walkC_cons]
    obtain ⟨vb, hvb, hrwb⟩ := paired_get' wd.b hb
    obtain ⟨tb, xb, rfl, htb, hxb⟩ := hrwb
    obtain ⟨vt, hvt, hdt⟩ := paired_get' wd.d htt
    obtain ⟨dt, rfl, hdt⟩ := hdt
    have ELSE : ∃ te, GSs (gxOf P w K mg base nWalk "walk_choices" (defScope sWalk) f cdv A outer sh H pn) wr (match (defBody sWalk) with | [.For _ _ [_, .If _ [.If _ _ e _] _ _] _ _] => e | _ => []) te ∧
        (m ≠ 0 → ∀ (D : GEnds) (r : List Int) (rest : List Int) (tr pr : Addr) (a : Option V) (pre : List Out) (Hw H1 : Hp), Same Hw H1 → WDat H1 ch tl xc xt bks tls → (∀ b, wr b → H1 b ≠ none) → (∀ b, wr b → ¬ WNeed H1 ch tl pr xc xt b) → H1 pr = some (.tup (rest.map V.int)) → H1 tr = some (.tup (r.map V.int)) → H1 tb = some (.tup xb) → rest.length ≤ 1000 →
          (V.ref tr ∈ xb) → (∀ row ∈ walkC ((bks.zip tls).drop (at_ + 1)) rest, row.length ≤ 999) →
          (∀ (a : Option V) (Hw H2 : Hp), Same Hw H2 → (∀ b u, H1 b = some u → ¬ wr b → H2 b = some u) → (∀ b, wr b → H2 b ≠ none) → D.nx pre Hw [some (.ref ch), some (.ref tl), some (.ref lf), some (.int at_), some (.ref tr), some (.ref pr), a, none] H2) →
          te D ((walkC ((bks.zip tls).drop (at_ + 1)) rest).map (fun row => outRow (r :: row)) ++ pre) Hw [some (.ref ch), some (.ref tl), some (.ref lf), some (.int at_), some (.ref tr), some (.ref pr), a, none] H1) := by
      rcases Nat.eq_zero_or_pos m with hm0 | hm0
      · exact ⟨tGNever, gss_never, fun h => absurd hm0 h⟩
      · have cR' : GCal P w K mg base (2 * m) "walk_choices" (spWalk m) := cR.elim (fun z => absurd z (by omega)) id
        refine ⟨_, gss_one (gs_forgen (k := 2 * m) (i := 6) (tg := tCallN (spWalk m) (tCons (tVar 0) (tCons (tVar 1) (tCons (tVar 5) (tCons (tOp (rI0 fun i j => .int (i + j)) (tVar 3) (tC (.int 1))) tNil)))))
            (te := fun σ H (Q : VK) => tVar 4 σ H fun x0 H0 => ∀ p0, H0 p0 = none → (fun (x : V) (H1 : Hp) => tVar 6 σ H1 fun y H2 => ∃ p q xs ys, x = V.ref p ∧ y = V.ref q ∧ SqT K H2 p xs ∧ SqT K H2 q ys ∧ xs ≠ [] ∧ ys ≠ [] ∧ xs.length + ys.length ≤ sizeLine ∧ ∀ t, H2 t = none → Q (V.ref t) (upd H2 t (.tup (xs ++ ys)))) (V.ref p0) (upd H0 p0 (.tup [x0])))
            hr (fun _ _ => pgn_c cR' (hr.mono (by omega)) (pa_cons (pv 0) (pa_cons (pv 1) (pa_cons (pv 5) (pa_cons (pe_op op_add (pv 3) pe_int) pa_nil)))))
            nd rfl rfl (fun _ _ => peq_cat (peq_tup1 (peq_var (i := 4) rfl (Or.inr (Or.inl rfl)))) (peq_var (i := 6) rfl (Or.inl rfl)))), fun _ D r rest tr pr a pre Hw H1 sw wd1 wt1 hn1 hpr htr htb1 hrest mtr hrl1 hnx => ?_⟩
        refine ⟨_, rfl, _, rfl, _, rfl, _, rfl, _, _, rfl, rfl, _, _, ⟨ch, tl, pr, xc, xt, bks, tls, rest, at_ + 1, rfl, wd1, hpr, hbt, by omega, hrest, hbl, rfl, rfl, fun row hrow => Nat.le_trans (hrl1 row hrow) (by decide)⟩, hn1, ?_⟩
        refine ⟨fun ous outs Hw σ H' => ∃ rows, ous = rows.map outRow ∧ outs = rows.map (fun row => outRow (r :: row)) ++ pre ∧ (∀ row ∈ rows, row.length ≤ 999 ∧ row ≠ []) ∧ Same Hw H' ∧ (∀ b, wr b → H' b ≠ none) ∧ (∀ b u, H1 b = some u → ¬ wr b → H' b = some u) ∧ ∃ a, σ = [some (.ref ch), some (.ref tl), some (.ref lf), some (.int at_), some (.ref tr), some (.ref pr), a, none],
          ⟨_, rfl, rfl, fun row hrow => ⟨hrl1 row hrow, walkC_ne _ _ row hrow⟩, sw, wt1, fun b u e _ => e, a, rfl⟩, fun ous outs Hw σ H' q => ?_, fun outs Hw σ H' q H2 s2 => ?_, fun q0 rr outs Hw σ H' q x H2 s2 hx => ?_⟩
        · obtain ⟨_, _, _, _, h, _⟩ := q
          exact h
        · obtain ⟨rows, e1, e2, _, sw', wt', kp', a, rfl⟩ := q
          obtain rfl : rows = [] := List.map_eq_nil_iff.mp e1.symm
          subst e2
          exact hnx a Hw H2 (sw'.trans s2) (fun b u e hw => s2 _ _ (kp' b u e hw)) (fun b hb hn => wt' b hb (s2.free hn))
        · obtain ⟨rows, e1, e2, hrr, sw', wt', kp', a, rfl⟩ := q
          cases rows with
          | nil => cases e1
          | cons row rows =>
          injection e1 with e1 e1'
          subst e1 e1' e2
          obtain ⟨tw, xw, rfl, htw, hxw⟩ := hx
          have hrow := hrr row List.mem_cons_self
          have hlw := paired_len hxw
          -- the room's tuple is as it was
          have ntr : ¬ wr tr := fun hb => hn1 tr hb (.inr (.inr (.inr (.inr (.inr ⟨tb, xb, List.mem_of_getElem? hvb, htb1, mtr⟩)))))
          · have htr2 : H2 tr = some (.tup (r.map V.int)) := s2 _ _ (kp' _ _ htr ntr)
            refine ⟨_, rfl, fun p3 n3 => ⟨_, rfl, ?_⟩⟩
            have s3 := Same.new (o := .tup [V.ref tr]) n3
            refine ⟨p3, tw, _, _, rfl, rfl, SqT.mk upd_same, SqT.mk (s3 _ _ htw), by simp, ?_, ?_, fun p4 n4 => ?_⟩
            · intro z
              rw [z] at hlw
              exact hrow.2 (List.eq_nil_of_length_eq_zero hlw.symm)
            · show 1 + xw.length ≤ sizeLine
              exact small_n (by omega)
            · have s4 := Same.new (o := .tup ([V.ref tr] ++ xw)) n4
              have s24 := s3.trans s4
              refine ⟨_, _, rfl, ⟨p4, _, rfl, upd_same, .cons ⟨tr, rfl, s24 _ _ htr2⟩ (Rms.same s24 hxw)⟩, (sw'.trans s2).trans s24, fun H5 kp5 wt5 => ?_⟩
              exact ⟨rows, rfl, rfl, fun q hq => hrr q (List.mem_cons_of_mem _ hq), Same.refl _, wt5, fun b u e hw => kp5 b u (s24 _ _ (s2 _ _ (kp' b u e hw))) hw, _, rfl⟩
    obtain ⟨te, hte, rte⟩ := ELSE
    refine ⟨_, gss_one (gs_for (wi := iTup K (tOp (rIxL K) (tVar 0) (tVar 3))) (t := gName 4) rfl (fun _ _ => pi_tup (pe_ix (r := rIxL K) ix_list (pv 0) (pv 3) (fun _ _ => rfl))) (fun _ _ => pg_name (i := 4) nd rfl (Or.inr rfl))
      (gss_cons (gs_ps (t := tAsg (tCB (rTupQ K) (tCons (tLc (iTup K (tVar 2)) (gName 7) (tTest (tOp (rIn K true) (tVar 7) (tVar 4))) (tVar 7) [7]) tNil)) (gName 5)) (fun _ _ => ps_set (i := 5) nd rfl (Or.inl rfl) (b_tuple B (pe_lc (own := [("p", 7)]) (g := gName 7) rfl nd (pi_tup (pv 2)) (blkOk_by (N := nWalk) (sc := defScope sWalk) (by decide +kernel))
          (fun _ _ _ _ _ => pg_name (i := 7) nd rfl (Or.inl rfl)) (fun _ _ _ _ _ => pts_one (pt_cmpR (r := rIn K true) op_notIn_seq (pv 7) (pv 4) rfl)) (fun _ _ _ _ _ => pv 7)))))
      (gss_one (gs_if (tc := tB (tDIn (tVar 5) (tOp (rIxL K) (tVar 1) (tVar 3)))) (fun _ _ => pt_cmp (pc_din hu (pv 5) (pe_ix (r := rIxL K) ix_list (pv 1) (pv 3) (fun _ _ => rfl))))
        (gss_one (gs_if (tc := tTest (tOp rEq (tOp (rI0 fun i j => .int (i + j)) (tVar 3) (tC (.int 1))) (tCB (fun xs H Q => ∃ p ys, xs = [.ref p] ∧ (SqL K H p ys ∨ SqT K H p ys) ∧ Q (.int ys.length) H) (tCons (tVar 0) tNil)))) (fun _ _ => pt_cmpR op_eq (pe_op op_add (pv 3) pe_int) (b_len B (pv 0)) (nomark _))
          (gss_one (gs_yield (te := tTup (tCons (tVar 4) tNil)) (fun _ _ => pe_tup (pa_cons (pv 4) pa_nil)))) hte)) gss_nil)))), fun H2 kp wt => ?_⟩
    have knOf : ∀ {H' : Hp}, (∀ b u, H b = some u → ¬ wr b → H' b = some u) → ∀ b u, WNeed H ch tl lf xc xt b → H b = some u → H' b = some u := fun kp b u hn e => kp b u e fun hw => hwn b hw hn
    have mtb : V.ref tb ∈ xc := List.mem_of_getElem? hvb
    have mdt : V.ref dt ∈ xt := List.mem_of_getElem? hvt
    have hxbl := paired_len hxb
    have wd2 := wd.keep (knOf kp)
    refine ⟨_, rfl, _, rfl, ch, xc, at_, .ref tb, rfl, rfl, SqL.mk wd2.c, atI_nat hvb, tb, rfl, ⟨xb, SqT.mk (knOf kp _ _ (.inr (.inr (.inr (.inl mtb)))) htb)⟩, ?_⟩
    refine ⟨fun i j outs Hw σ H' => j = b.length - i ∧ i ≤ b.length ∧ outs = ((b.drop i).flatMap (contrib tt ((bks.zip tls).drop (at_ + 1)) left)).map outRow ∧ Same Hw H' ∧ (∀ b, wr b → H' b ≠ none) ∧ (∀ b u, H b = some u → ¬ wr b → H' b = some u) ∧ ∃ c d e, σ = [some (.ref ch), some (.ref tl), some (.ref lf), some (.int at_), c, d, e, none],
      ⟨b.length, by simp, Nat.zero_le _, rfl, Same.refl _, wt, kp, none, none, none, rfl⟩, ?_⟩
    rintro i j outs Hw σ H3 ⟨rfl, hi, rfl, sw, wt3, kp3, c, d, e, rfl⟩
    have kn3 := knOf kp3
    have htb3 : H3 tb = some (.tup xb) := kn3 _ _ (.inr (.inr (.inr (.inl mtb)))) htb
    by_cases hlt : i < b.length
    · refine .inr ⟨walk_tup.goes i H3 (by rw [hxbl]; exact hlt) (SqT.mk (K := K) htb3), fun o' h' σ' H' => i + 1 ≤ b.length ∧ o' = ((b.drop (i + 1)).flatMap (contrib tt ((bks.zip tls).drop (at_ + 1)) left)).map outRow ∧ Same h' H' ∧ (∀ b, wr b → H' b ≠ none) ∧ (∀ b u, H b = some u → ¬ wr b → H' b = some u) ∧ ∃ c d e, σ' = [some (.ref ch), some (.ref tl), some (.ref lf), some (.int at_), c, d, e, none],
        fun o' h' σ' H' q => ⟨b.length - (i + 1), by omega, rfl, q⟩, fun x H4 y => ?_⟩
      obtain ⟨rfl, hx⟩ := walk_tup.yields i H3 x H4 (by rw [hxbl]; exact hlt) (SqT.mk (K := K) htb3) y
      obtain ⟨r, hir, hrm⟩ := paired_get hxb hx
      obtain ⟨tr, rfl, htr⟩ := hrm
      have mtr : V.ref tr ∈ xb := List.mem_of_getElem? hx
      have htr3 : H4 tr = some (.tup (r.map V.int)) := kn3 _ _ (.inr (.inr (.inr (.inr (.inr ⟨tb, xb, mtb, htb, mtr⟩))))) htr
      have hlf3 : H4 lf = some (.tup (left.map V.int)) := kn3 _ _ (.inr (.inr (.inl rfl))) hlf
      have wd3 := wd.keep kn3
      have hdt3 : H4 dt = some (.dT (encA V.int tt)) := kn3 _ _ (.inr (.inr (.inr (.inr (.inl mdt))))) hdt
      have edr : b.drop i = r :: b.drop (i + 1) := drop_at hir
      rw [edr, List.flatMap_cons, List.map_append]
      -- rest = tuple([p for p in left if p not in room])
      refine ⟨_, rfl, lf, rfl, ⟨_, SqT.mk hlf3⟩, fun D hD => ?_⟩
      refine lc_build walk_tup left (by simp) (fun p => if decide (p ∉ r) = true then [p] else []) (stab_int D) (by omega) hD (fun H5 s5 => SqT.mk (s5 _ _ hlf3)) (fun i s x H5 H' k1 k0 es s5 y q1 q0 => ?_) (fun xs H5 s5 hx5 hp5 => ?_)
      · obtain ⟨rfl, hy⟩ := y
        obtain ⟨p, hp, rfl⟩ := ints_get hy
        obtain rfl : p = s := by rw [es] at hp; exact (Option.some.inj hp).symm
        refine ⟨rfl, _, rfl, _, rfl, tr, _, rfl, Or.inr (SqT.mk (s5 _ _ htr3)), rfl, flat_ints _, ?_⟩
        rw [inV_ints]
        refine ⟨_, rfl, ?_⟩
        by_cases hm : p ∈ r
        · rw [decide_eq_true hm]
          exact q0 _ (Same.refl _) (by rw [decide_eq_false (fun z => z hm)]; rfl)
        · rw [decide_eq_false hm]
          exact ⟨_, rfl, q1 _ _ (Same.refl _) p (by rw [decide_eq_true hm]; rfl) rfl⟩
      rw [flatMap_if (fun p => decide (p ∉ r))] at hp5
      refine ⟨D, xs, rfl, SqL.mk hx5, fun pr npr => ?_⟩
      have s6 := Same.new (o := .tup xs) npr
      have s46 := s5.trans s6
      have hpr : (upd H5 pr (.tup xs)) pr = some (.tup ((left.filter fun p => decide (p ∉ r)).map V.int)) := by rw [upd_same, paired_isI hp5]
      have npr4 : H4 pr = none := s5.free npr
      generalize upd H5 pr (.tup xs) = H6 at s46 hpr
      have wt6 : ∀ b, wr b → H6 b ≠ none := fun b hb hn => wt3 b hb (s46.free hn)
      have kp6 : ∀ b u, H b = some u → ¬ wr b → H6 b = some u := fun b u e hw => s46 _ _ (kp3 b u e hw)
      have wd6 := wd3.same s46
      -- if rest in tails[at]
      refine ⟨_, rfl, _, rfl, _, rfl, tl, xt, at_, .ref dt, rfl, rfl, SqL.mk wd6.t, atI_nat hvt, dt, _, rfl, dget_r (s46 _ _ hdt3) ⟨pr, rfl, hpr⟩, _, rfl, ?_⟩
      rw [Option.isSome_map]
      cases hg : (getA tt (left.filter fun p => decide (p ∉ r))).isSome with
      | false =>
        refine iteF ?_
        refine ⟨hlt, ?_, sw.trans s46, wt6, kp6, _, _, _, rfl⟩
        have e0 : contrib tt ((bks.zip tls).drop (at_ + 1)) left r = [] := by unfold contrib; rw [if_neg (by rw [hg]; decide)]
        rw [e0] <;> rfl
      | true =>
        refine iteT ?_
        refine ⟨_, rfl, _, _, rfl, rfl, _, rfl, ch, xc, rfl, Or.inl (SqL.mk wd6.c), rfl, _, rfl, ?_⟩
        have hcl : xc.length = bks.length := paired_len wd6.b
        rw [hcl]
        refine ite2 (fun hd => ?_) (fun hd => ?_)
        · have hd' := of_decide_eq_true hd
          injection hd' with hd'
          have hm0 : m = 0 := by omega
          have e0 : contrib tt ((bks.zip tls).drop (at_ + 1)) left r = [[r]] := by
            unfold contrib
            rw [if_pos hg, List.drop_eq_nil_of_le (by rw [hzl]; omega)] <;> rfl
          rw [e0]
          refine ⟨_, rfl, by show 1 ≤ sizeLine; decide, fun p7 n7 => ?_⟩
          have s7 := Same.new (o := .tup [V.ref tr]) n7
          have s47 := s46.trans s7
          refine ⟨_, _, rfl, ⟨p7, _, rfl, upd_same, .cons ⟨tr, rfl, s47 _ _ htr3⟩ .nil⟩, sw.trans s47, fun H8 kp8 wt8 => ?_⟩
          exact ⟨hlt, rfl, Same.refl _, wt8, fun b u e hw => kp8 b u (s7 _ _ (kp6 b u e hw)) hw, _, _, _, rfl⟩
        · have hm0 : m ≠ 0 := fun z => hd (decide_eq_true (by rw [z] at hat; show V.int ((at_ : Int) + 1) = V.int ((bks.length : Nat) : Int); rw [show ((at_ : Int) + 1) = ((bks.length : Nat) : Int) by omega]))
          have e0 : contrib tt ((bks.zip tls).drop (at_ + 1)) left r = (walkC ((bks.zip tls).drop (at_ + 1)) (left.filter fun p => decide (p ∉ r))).map (r :: ·) := by
            unfold contrib
            rw [if_pos hg, if_neg]
            rw [List.isEmpty_iff]
            intro z
            have := congrArg List.length z
            rw [List.length_drop, hzl] at this
            have h0 : bks.length - (at_ + 1) = 0 := this
            omega
          have hrl2 : ∀ row ∈ walkC ((bks.zip tls).drop (at_ + 1)) (left.filter fun p => decide (p ∉ r)), row.length ≤ 999 := fun row hrow => by
            have h1 := hrl (r :: row) (List.mem_flatMap.mpr ⟨r, List.mem_of_getElem? hir, by rw [e0]; exact List.mem_map.mpr ⟨row, hrow, rfl⟩⟩)
            rw [List.length_cons] at h1
            omega
          rw [e0, List.map_map]
          refine rte hm0 _ r _ tr pr e _ Hw H6 (sw.trans s46) wd6 wt6 (fun b hb hn => ?_) hpr (s46 _ _ htr3) (s46 _ _ htb3) (by have := List.length_filter_le (fun p => decide (p ∉ r)) left; omega) mtr hrl2 fun a Hw' H7 s7 kp7 wt7 => ?_
          · rcases hn with hn | hn | hn | hn | hn | ⟨t, zs, h1, h2, h3⟩
            · exact hwn b hb (.inl hn)
            · exact hwn b hb (.inr (.inl hn))
            · exact wt3 b hb (hn ▸ npr4)
            · exact hwn b hb (.inr (.inr (.inr (.inl hn))))
            · exact hwn b hb (.inr (.inr (.inr (.inr (.inl hn)))))
            · refine hwn b hb (.inr (.inr (.inr (.inr (.inr ⟨t, zs, h1, ?_, h3⟩)))))
              -- a book's tuple is as it was
              have hrb := wd.b
              obtain ⟨j, hj⟩ := List.getElem?_of_mem h1
              obtain ⟨row, hrow, hrw⟩ := paired_get hrb hj
              obtain ⟨t', zs', et, ht', _⟩ := hrw
              injection et with et
              subst et
              have h4 := s46 _ _ (kn3 _ _ (.inr (.inr (.inr (.inl h1)))) ht')
              rw [h2] at h4
              injection h4 with h4
              injection h4 with h4
              rw [h4]
              exact ht'
          · exact ⟨hlt, rfl, s7, wt7, fun b u e hw => kp7 b u (kp6 b u e hw) hw, _, _, _, rfl⟩
    · have ei : i = b.length := by omega
      subst ei
      refine .inl ⟨by have := walk_tup.stops H3 (SqT.mk (K := K) htb3); rw [hxbl] at this; exact this, ?_, sw⟩
      rw [List.drop_length] <;> rfl
theorem ok_walk (F : DefC K mg "walk_choices" sWalk ["choices", "tails", "left", "at"]) (B : Bl mg) : ∀ m : Nat, GCal P w K mg base (2 * (m + 1)) "walk_choices" (spWalk (m + 1))
  | 0 => ok_walk1 F B 0 (.inl rfl)
  | m + 1 => ok_walk1 F B (m + 1) (.inr (ok_walk F B m))
end
end NA
/-! list_choices, list_partitions, walk_partitions. -/
namespace NA
open PySem PySem.Spec PyProof.Rows L2
/-- the rows that the walk hands out -/
def walkR (n : Nat) (bks : List Rooms) : List (List (List Int)) := match bks with
  | [] => []
  | b :: bs => walkC ((b :: bs).zip (tailsW bs)) (rng n)
/-- what the walk asks of the books -/
structure OkWalk (n : Nat) (bks : List Rooms) : Prop where
  ne : bks ≠ []
  tails : OkTails bks.tail
  len : bks.length ≤ 12
  n1000 : n ≤ 1000
  rows : (walkR n bks).length ≤ 5000
  short : ∀ row ∈ walkR n bks, row.length ≤ 1000
section
variable {P : Program} {w : World} {K : PySem.W.Frag} {mg : Str → Option Value} {base : Heap} {CB CF : Addr}
theorem rng_len (n : Nat) : (rng n).length = n := by unfold rng; rw [List.length_map, List.length_range]
abbrev sListC : Stmt := top 24
abbrev nListC : List Str := ["places", "choices", "most", "rows", "row"]
def spListC : Sp := fun vs H Q _ => ∃ (n : Nat) (v : V) (bks : List Rooms), vs = [.int n, v, .int 5000] ∧ RwL H v bks ∧ OkWalk n bks ∧ ∀ a xs H', H a = none → Same H H' → H' a = some (.lst xs) → Rws H' xs (walkR n bks) → Q (.ref a) H'
theorem scListC : FnScope nListC ["places", "choices", "most"] (defScope sListC) := ⟨rfl, rfl, rfl, by decide +kernel, rfl, by decide +kernel, by decide +kernel⟩
/-- the walk's data stand, the consumer's list is none of them -/
theorem need_not {H : Hp} {l ch tl lf : Addr} {ys xc xt : List V} {bks : List Rooms} {tls : List Ways} (hl : H l = some (.lst ys)) (w : WDat H ch tl xc xt bks tls) (h1 : l ≠ ch) (h2 : l ≠ tl) {zs : List V} (h3 : H lf = some (.tup zs)) : ¬ WNeed H ch tl lf xc xt l := by
  rintro (h | h | h | h | h | ⟨t, us, h, ht, hu⟩)
  · exact h1 h
  · exact h2 h
  · rw [h, h3] at hl
    cases hl
  · obtain ⟨j, hj⟩ := List.getElem?_of_mem h
    obtain ⟨row, _, t, zs, e, ht, _⟩ := paired_get w.b hj
    injection e with e
    subst e
    rw [ht] at hl
    cases hl
  · obtain ⟨j, hj⟩ := List.getElem?_of_mem h
    obtain ⟨es, _, d, e, hd⟩ := paired_get w.d hj
    injection e with e
    subst e
    rw [hd] at hl
    cases hl
  · obtain ⟨j, hj⟩ := List.getElem?_of_mem h
    obtain ⟨row, _, t', zs, e, ht', hz⟩ := paired_get w.b hj
    injection e with e
    subst e
    rw [ht'] at ht
    injection ht with ht
    injection ht with ht
    subst ht
    obtain ⟨i, hi⟩ := List.getElem?_of_mem hu
    obtain ⟨r, _, q, e, hq⟩ := paired_get hz hi
    injection e with e
    subst e
    rw [hq] at hl
    cases hl
theorem ok_listC (F : DefC K mg "list_choices" sListC ["places", "choices", "most"]) (B : Bl mg) (cT : Cal P w K mg base 3 "tail_ways" spTails) (cW : ∀ m : Nat, GCal P w K mg base (2 * (m + 1)) "walk_choices" (spWalk (m + 1))) : Cal P w K mg base 27 "list_choices" spListC := by
  refine cal_mk F scListC (fun vs H Q E h => ?_) (fun f cdv A outer sh H vs Q E hr h => ?_)
  · obtain ⟨n, v, bks, rfl, _⟩ := h
    rfl
  · obtain ⟨n, v, bks, rfl, ⟨ch, xc, rfl, hch, hxc⟩, ok, k⟩ := h
    have nd := scListC.nd
    cases bks with
    | nil => exact absurd rfl ok.ne
    | cons b bs =>
    have hm := ok.len
    have hml : bs.length + 1 ≤ 12 := hm
    refine ⟨_, pss_cons (ps_set (i := 3) nd rfl (Or.inl rfl) (pe_lst pa_nil))
      (pss_cons (ps_forgen (k := 2 * (bs.length + 1)) (i := 4) rfl (hr.mono (by omega)) (pgn_c (cW bs.length) (hr.mono (by omega)) (pa_cons (pv 1) (pa_cons (pe_c cT hr (by decide) (pa_cons (pv 1) pa_nil)) (pa_cons (pe_tupRg rfl rfl B.tuple (prg_1 rfl B.range (pv 0))) (pa_cons pe_int pa_nil)))))
        nd rfl rfl (psu_if (p := _) (ptq_eq (peq_len (peq_var (i := 3) rfl (Or.inl rfl)) rfl B.len PySem.boot_len) (peq_var (i := 2) rfl (Or.inl rfl))) (psu_append (peq_var (i := 3) rfl (Or.inl rfl)) (peq_var (i := 4) rfl (Or.inl rfl)) psu_nil)))
      (pss_one (ps_ret (pv 3)))), ?_⟩
    refine ⟨by decide, fun l nl => ?_⟩
    have sl := Same.new (o := .lst []) nl
    have hl0 : (upd H l (.lst [])) l = some (.lst []) := upd_same
    generalize upd H l (.lst []) = H0 at sl hl0
    refine ⟨_, rfl, _, rfl, .ref ch, b, bs, rfl, ⟨ch, xc, rfl, sl _ _ hch, Rws.same sl hxc⟩, by omega, ok.tails, fun tl xt H1 ntl s1 htl hxt => ?_⟩
    have hn := ok.n1000
    refine ⟨_, rfl, n, rfl, ⟨by omega, by omega, by omega, by omega, by omega⟩, fun lf nlf => ?_⟩
    rw [rgV_rng]
    have s2 := Same.new (o := .tup ((rng n).map V.int)) nlf
    have hlf : (upd H1 lf (.tup ((rng n).map V.int))) lf = some (.tup ((rng n).map V.int)) := upd_same
    generalize upd H1 lf (.tup ((rng n).map V.int)) = H2 at s2 hlf
    have s12 := s1.trans s2
    have sA := sl.trans s12
    have wd : WDat H2 ch tl xc xt (b :: bs) (tailsW bs) := ⟨sA _ _ hch, Rws.same sA hxc, s2 _ _ htl, Paired.mono' (fun _ _ z => z.dc.same s2) hxt⟩
    have hl2 : H2 l = some (.lst []) := s12 _ _ hl0
    have e0 : walkR n (b :: bs) = walkC (((b :: bs).zip (tailsW bs)).drop 0) (rng n) := rfl
    refine ⟨_, _, ⟨ch, tl, lf, xc, xt, b :: bs, tailsW bs, rng n, 0, rfl, wd, hlf, (tailsW_len bs).symm, by rw [List.length_cons]; omega, by rw [rng_len]; exact hn, by omega, rfl, rfl, ok.short⟩, (· = l), fun b hb => ?_, ?_⟩
    · rw [hb]
      exact need_not hl2 wd (fun z => by rw [z, hch] at nl; cases nl) (fun z => by rw [z, ntl] at hl0; cases hl0) hlf
    · rw [← e0]
      refine ⟨fun ous σ H' => ∃ done rows xs, ous = rows.map outRow ∧ done ++ rows = walkR n (b :: bs) ∧ (∃ a, σ = [some (.int n), some (.ref ch), some (.int 5000), some (.ref l), a]) ∧ Same H H' ∧ H' l = some (.lst xs) ∧ Rws H' xs done,
        ⟨[], _, [], rfl, rfl, ⟨none, rfl⟩, sA, hl2, .nil⟩, fun ous σ H' q b hb => ?_, fun σ H' q H3 s3 => ?_, fun q0 rr σ H' q x H3 s3 hx => ?_⟩
      · obtain ⟨_, _, _, _, _, _, _, h, _⟩ := q
        rw [hb, h]
        exact fun z => by cases z
      · obtain ⟨done, rows, xs, e1, e2, ⟨a, rfl⟩, s', hl', hx'⟩ := q
        obtain rfl : rows = [] := List.map_eq_nil_iff.mp e1.symm
        rw [List.append_nil] at e2
        subst e2
        exact ⟨_, rfl, k l xs H3 nl (s'.trans s3) (s3 _ _ hl') (Rws.same s3 hx')⟩
      · obtain ⟨done, rows, xs, e1, e2, ⟨a, rfl⟩, s', hl', hx'⟩ := q
        cases rows with
        | nil => cases e1
        | cons row rows =>
        injection e1 with e1 e1'
        subst e1 e1'
        have hlen : xs.length < 5000 := by
          have h1 := paired_len hx'
          have h2 := congrArg List.length e2
          have h3 := ok.rows
          rw [List.length_append, List.length_cons] at h2
          omega
        have hl3 := s3 _ _ hl'
        refine ⟨_, rfl, l, xs, rfl, SqL.mk hl3, _, rfl, _, _, rfl, rfl, by simp; omega, ?_⟩
        refine ⟨_, rfl, l, xs, rfl, hl3, small_l (by omega), _, rfl, hl3, fun b u e hb => ?_, done ++ [row], rows, xs ++ [x], rfl, by rw [← e2]; simp, ⟨_, rfl⟩, Same.mut (s'.trans s3) nl, upd_same, ?_⟩
        · rw [upd_ne hb]
          exact e
        · exact (stab_rw l).paired hl3 (paired_snoc (Rws.same s3 hx') hx)
abbrev sWalkP : Stmt := top 18
abbrev nWalkP : List Str := ["family", "choices", "row", "book"]
def spWalkP (CB CF : Addr) : SpN := fun vs H need outs => ∃ v n bs, vs = [v] ∧ FamAt CB CF H v n bs ∧ OkWalk n (bs.map (·.2)) ∧ need = (fun b => H b ≠ none) ∧ outs = (walkR n (bs.map (·.2))).map outRow
theorem scWalkP : GScope nWalkP ["family"] (defScope sWalkP) := ⟨rfl, rfl, rfl, by decide +kernel, rfl, by decide +kernel, by decide +kernel⟩
theorem ok_walkP (F : DefC K mg "walk_partitions" sWalkP ["family"]) (B : Bl mg) (T : TC K mg CB CF) (cT : Cal P w K mg base 3 "tail_ways" spTails) (cW : ∀ m : Nat, GCal P w K mg base (2 * (m + 1)) "walk_choices" (spWalk (m + 1))) (cI : Itr0 P w K mg base 1 CF "books") : GCal P w K mg base 27 "walk_partitions" (spWalkP CB CF) := by
  refine gcal_mk (k := 26) F scWalkP (fun vs H need outs h => ?_) (fun f cdv A outer sh H vs need wr outs pn hr h hwn => ?_)
  · obtain ⟨v, n, bs, rfl, _⟩ := h
    rfl
  · obtain ⟨v, n, bs, rfl, ⟨a, dx, tb, xb, rfl, ha, htb, hxb⟩, ok, rfl, rfl⟩ := h
    have nd := scWalkP.nd
    obtain ⟨fi, fdi, FI, mI, bI⟩ := cI.ex
    cases bs with
    | nil => exact absurd rfl ok.ne
    | cons b bs =>
    have hm := ok.len
    have hml : bs.length + 1 ≤ 12 := by rw [List.length_map] at hm; exact hm
    have hn := ok.n1000
    refine ⟨_, gss_cons (gs_ps (t := tAsg (tLc (iOwnT CF "books" (tVar 0) K) (gName 3) tYes (tFld K (tVar 3) "rooms") [3]) (gName 1)) (fun _ _ => ps_setLc (i := 1) (own := [("book", 3)]) (g := gName 3) (tt := tYes) (te := tFld K (tVar 3) "rooms") rfl nd rfl rfl (sw_true rfl rfl rfl (by decide +kernel)) (pi_own (pv 0) mI FI (hr.mono (by decide)) bI)
        (blkOk_by (N := nWalkP) (sc := defScope sWalkP) (by decide +kernel)) (fun _ _ _ _ _ => pg_name (i := 3) nd rfl (Or.inl rfl)) (fun _ _ _ _ _ => pts_nil) (fun _ _ _ _ _ => pe_fld (pv 3) rfl)))
      (gss_one (gs_forgen (k := 2 * (bs.length + 1)) (i := 2) (tg := tCallN (spWalk (bs.length + 1)) (tCons (tVar 1) (tCons (tCall spTails [] E0 (tCons (tVar 1) tNil)) (tCons (tTupRg (tRg1 (tFld K (tVar 0) "places"))) (tCons (tC (.int 0)) tNil))))) (te := tVar 2) (hr.mono (by omega))
        (fun _ _ => pgn_c (cW bs.length) (hr.mono (by omega)) (pa_cons (pv 1) (pa_cons (pe_c cT hr (by decide) (pa_cons (pv 1) pa_nil)) (pa_cons (pe_tupRg rfl rfl B.tuple (prg_1 rfl B.range (pe_fld (pv 0) rfl))) (pa_cons pe_int pa_nil)))))
        nd rfl rfl (fun _ _ => peq_var (i := 2) rfl (Or.inl rfl)))), fun H2 kp wt => ?_⟩
    have hw0 : ∀ c, wr c → H c = none := fun c hc => by
      cases hh : H c with
      | none => rfl
      | some o => exact absurd (show H c ≠ none by rw [hh]; exact fun z => by cases z) (hwn c hc)
    have s2 : Same H H2 := fun c o e => kp c o e fun hb => by
      rw [hw0 c hb] at e
      cases e
    refine ⟨_, rfl, a, dx, _, tb, xb, rfl, s2 _ _ ha, fmB _ _, s2 _ _ htb, fun D hD => ?_⟩
    refine lc_build (R := fun _ v d => Rw H v d) walk_tup (b :: bs) (paired_len hxb) (fun b => [b.2]) ⟨fun _ h => h, fun _ h => h⟩ (by rw [List.length_cons]; omega) hD (fun H3 s3 => SqT.mk (s3 _ _ (s2 _ _ htb))) (fun i s x H4 H' k1 k0 es s4 y q1 q0 => ?_) (fun xc H3 s3 hxc hp3 => ?_)
    · obtain ⟨rfl, hy⟩ := y
      obtain ⟨bb, hbb, hbm⟩ := paired_get hxb hy
      obtain rfl : bb = s := by rw [es] at hbb; exact (Option.some.inj hbb).symm
      obtain ⟨ab, dxb, t, xs, rfl, hab, ht, hx⟩ := hbm
      have s24 := s2.trans s4
      exact ⟨rfl, yesT ⟨_, rfl, ab, CB, dxb, _, _, rfl, s24 _ _ hab, T.clB, T.bR, bkR _ _ _, q1 _ _ (Same.refl _) _ rfl ⟨t, xs, rfl, ht, hx⟩⟩⟩
    rw [flatMap_one] at hp3
    have e0 : (b :: bs).map (fun c : Nat × Rooms => c.2) = b.2 :: bs.map (fun c : Nat × Rooms => c.2) := rfl
    rw [e0] at hp3 ok ⊢
    have hbl : (bs.map fun c : Nat × Rooms => c.2).length = bs.length := List.length_map _
    generalize (bs.map fun c : Nat × Rooms => c.2) = rs at hp3 ok hbl
    have s23 := s2.trans s3
    refine ⟨_, rfl, _, rfl, .ref D, b.2, rs, rfl, ⟨D, xc, rfl, hxc, Rws.same s23 hp3⟩, by omega, ok.tails, fun tl xt H4 ntl s4 htl hxt => ?_⟩
    refine ⟨_, rfl, a, CF, dx, _, _, rfl, (s23.trans s4) _ _ ha, T.clF, T.fP, fmP _ _, n, rfl, ⟨by omega, by omega, by omega, by omega, by omega⟩, fun lf nlf => ?_⟩
    rw [rgV_rng]
    have s5 := Same.new (o := .tup ((rng n).map V.int)) nlf
    have hlf : (upd H4 lf (.tup ((rng n).map V.int))) lf = some (.tup ((rng n).map V.int)) := upd_same
    generalize upd H4 lf (.tup ((rng n).map V.int)) = H5 at s5 hlf
    have s45 := s4.trans s5
    have s25 := s3.trans s45
    have wd : WDat H5 D tl xc xt (b.2 :: rs) (tailsW rs) := ⟨s45 _ _ hxc, Rws.same (s23.trans s45) hp3, s5 _ _ htl, Paired.mono' (fun _ _ z => z.dc.same s5) hxt⟩
    have ewk : walkR n (b.2 :: rs) = walkC (((b.2 :: rs).zip (tailsW rs)).drop 0) (rng n) := rfl
    refine ⟨_, _, ⟨D, tl, lf, xc, xt, b.2 :: rs, tailsW rs, rng n, 0, rfl, wd, hlf, (tailsW_len rs).symm, by rw [List.length_cons]; omega, by rw [rng_len]; exact hn, by rw [List.length_cons]; omega, rfl, rfl, ok.short⟩, fun c hc => ?_, ?_⟩
    · rintro (h | h | h | h | h | ⟨t, us, h, ht, hu⟩)
      · rw [h] at hc
        exact wt _ hc hD
      · rw [h] at hc
        exact wt _ hc (s3.free ntl)
      · rw [h] at hc
        exact wt _ hc (s3.free (s4.free nlf))
      · obtain ⟨j, hj⟩ := List.getElem?_of_mem h
        obtain ⟨row, _, t, zs, e, ht, _⟩ := paired_get hp3 hj
        injection e with e
        subst e
        rw [hw0 c hc] at ht
        cases ht
      · obtain ⟨j, hj⟩ := List.getElem?_of_mem h
        obtain ⟨es, _, d, e, nd, hd⟩ := paired_get hxt hj
        injection e with e
        subst e
        exact wt _ hc (s3.free nd)
      · obtain ⟨j, hj⟩ := List.getElem?_of_mem h
        obtain ⟨row, _, t', zs, e, ht', hz⟩ := paired_get hp3 hj
        injection e with e
        subst e
        rw [(s2.trans s25) _ _ ht'] at ht
        injection ht with ht
        injection ht with ht
        subst ht
        obtain ⟨i, hi⟩ := List.getElem?_of_mem hu
        obtain ⟨r, _, q, e, hq⟩ := paired_get hz hi
        injection e with e
        subst e
        rw [hw0 _ hc] at hq
        cases hq
    · rw [← ewk]
      refine ⟨fun (ous outs : List Out) Hw σ H' => ∃ rows : List (List (List Int)), ous = rows.map outRow ∧ outs = rows.map outRow ∧ Same Hw H' ∧ σ.length = 4, ⟨_, rfl, rfl, s25, rfl⟩, fun ous outs Hw σ H' q => ?_, fun outs Hw σ H' q H6 s6 => ?_, fun q0 rr outs Hw σ H' q x H6 s6 hx => ?_⟩
      · obtain ⟨_, _, _, h, _⟩ := q
        exact h
      · obtain ⟨rows, e1, e2, sw, _⟩ := q
        obtain rfl : rows = [] := List.map_eq_nil_iff.mp e1.symm
        exact ⟨e2, sw.trans s6⟩
      · obtain ⟨rows, e1, e2, sw, hsl⟩ := q
        cases rows with
        | nil => cases e1
        | cons row rows =>
        injection e1 with e1 e1'
        subst e1 e1' e2
        refine ⟨x, ?_, _, _, rfl, hx, sw.trans s6, fun H7 kp7 wt7 => ⟨rows, rfl, rfl, Same.refl _, by rw [List.length_set]; exact hsl⟩⟩
        · rw [List.getElem?_set_self (by omega)]
end
end NA
/-! _law_same: two that hold the same data. -/
namespace NA
open PySem PySem.Spec PyProof.Rows L2
/-- v holds the data d, at most k deep -/
def Dq (H : Hp) : Nat → V → PyData → Prop
  | 0, v, d => (∃ i, v = .int i ∧ d = .int i) ∨ ∃ b, v = .bl b ∧ d = .bool b
  | k + 1, v, d => ((∃ i, v = .int i ∧ d = .int i) ∨ ∃ b, v = .bl b ∧ d = .bool b) ∨ ∃ a xs ds, v = .ref a ∧ ds.length ≤ 1000000 ∧ Paired (Dq H k) xs ds ∧ ((H a = some (.lst xs) ∧ d = .list ds) ∨ (H a = some (.tup xs) ∧ d = .tuple ds))
theorem Dq.same {H H' : Hp} (s : Same H H') : ∀ {k : Nat} {v : V} {d : PyData}, Dq H k v d → Dq H' k v d
  | 0, _, _, h => h
  | k + 1, _, _, .inl h => .inl h
  | k + 1, _, _, .inr ⟨a, xs, ds, e, hl, hp, h⟩ => .inr ⟨a, xs, ds, e, hl, Paired.mono' (fun _ _ z => Dq.same s (k := k) z) hp, h.elim (fun h => .inl ⟨s _ _ h.1, h.2⟩) fun h => .inr ⟨s _ _ h.1, h.2⟩⟩
section
variable {P : Program} {w : World} {K : PySem.W.Frag} {mg : Str → Option Value} {base : Heap}
abbrev sSame : Stmt := top 36
abbrev nSame : List Str := ["_law_actual", "_law_due", "_law_k"]
def spSame (k : Nat) : Sp := fun vs H Q _ => ∃ v u d, vs = [v, u] ∧ Dq H k v d ∧ Dq H k u d ∧ Q (.bl true) H
theorem scSame : FnScope nSame ["_law_actual", "_law_due"] (defScope sSame) := ⟨rfl, rfl, rfl, by decide +kernel, rfl, by decide +kernel, by decide +kernel⟩
/-- isinstance(x, T), T a built-in -/
def rIsT (K : PySem.W.Frag) (n : String) : List V → Hp → VK → Prop := fun xs H Q => ∃ x m r, xs = [x, .ty n] ∧ TyX K H x (.type m) ∧ kitB m n = some r ∧ Q (.bl r) H
theorem b_isT {X : Cx} {a : Expr} {ta : TE} {p q pos : Pos} (n : String) {x : Str} (B : Bl X.mg) (ha : PE X a ta) (hm : X.mg x = none) (hv : bootBuiltins x = some (.type n)) (hx : Gl X x := by rfl) (hg : Gl X "isinstance" := by rfl)
    (na : starEach [a, .Name x q] X.env = (false, eval a X.env) :: starEach [.Name x q] X.env := by rfl) (nb : starEach [.Name x q] X.env = (false, eval (.Name x q) X.env) :: starEach [] X.env := by rfl)
    (hpl : (backTo pos (starEach [.Name x q] X.env)).any (·.1) = false := by rfl) (hn : x ≠ "__name__" := by decide +kernel) (hd : (x == ("__debug__" : Str)) = false := by decide +kernel) :
    PE X (.Call (.Name "isinstance" p) [a, .Name x q] [] pos) (tCB (rIsT X.K n) (tCons ta (tCons (tC (.ty n)) tNil))) :=
  pe_callB (fun pins s σ H xs us Q I r h => call_isi pins s σ H xs us Q I r (by
    obtain ⟨y, m, bb, rfl, ty, hk, q⟩ := h
    exact ⟨y, .ty n, .type m, .type n, bb, rfl, .ty n, ty, kit_ty hk, q⟩)) hg B.isinstance (by decide +kernel) (pa_cons ha (pa_cons (pe_bltn (v := .ty n) hx hm hv rfl hn hd) pa_nil nb) na) (by decide) (by decide) na hpl
theorem ty_int {H : Hp} (i : Int) : TyX K H (.int i) (.type "int") := .base (.int i)
theorem ty_bl {H : Hp} (b : Bool) : TyX K H (.bl b) (.type "bool") := .base (.bl b)
theorem ty_lst {H : Hp} {a : Addr} {xs : List V} (h : H a = some (.lst xs)) : TyX K H (.ref a) (.type "list") := .base (.lst h)
theorem ty_tup {H : Hp} {a : Addr} {xs : List V} (h : H a = some (.tup xs)) : TyX K H (.ref a) (.type "tuple") := .base (.tup h)
theorem k_ib : kitB "int" "bool" = some false := by decide +kernel
theorem k_bb : kitB "bool" "bool" = some true := by decide +kernel
theorem k_ii : kitB "int" "int" = some true := by decide +kernel
theorem k_lb : kitB "list" "bool" = some false := by decide +kernel
theorem k_li : kitB "list" "int" = some false := by decide +kernel
theorem k_ls : kitB "list" "str" = some false := by decide +kernel
theorem k_lt : kitB "list" "tuple" = some false := by decide +kernel
theorem k_ll : kitB "list" "list" = some true := by decide +kernel
theorem k_tb : kitB "tuple" "bool" = some false := by decide +kernel
theorem k_ti : kitB "tuple" "int" = some false := by decide +kernel
theorem k_ts : kitB "tuple" "str" = some false := by decide +kernel
theorem k_tt : kitB "tuple" "tuple" = some true := by decide +kernel
theorem no_non {x : V} {A B : Prop} (h : x ≠ .non) (b : B) : if decide (x = V.non) = true then A else B := by
  rw [decide_eq_false h]
  exact iteF b
variable {f : Addr} {cdv : Value} {A : Around} {outer : List Env} {s : Shared} {H : Hp} {Q : VK} {E : XK}
theorem same_int (B : Bl mg) (i : Int) (q : Q (.bl true) H) :
    ∃ t, PSs (cxOf CX0 P w K mg base nSame "_law_same" (defScope sSame) f cdv A outer s H E).nox (defBody sSame) t ∧ t { nx := fun _ H' => Q .non H', rt := Q } (start nSame [.int i, .int i]) H := by
  refine ⟨_, pss_cons (ps_if (pt_cmp (pc_isN (pv 1))) pss_never pss_nil)
    (pss_cons (ps_if (pt_val (b_isT "bool" B (pv 1) B.bool (by decide +kernel))) pss_never pss_nil)
    (pss_cons (ps_if (pt_val (b_isT "int" B (pv 1) B.int (by decide +kernel))) (pss_one (ps_ret (pe_and (b_isT "int" B (pv 0) B.int (by decide +kernel)) (pe_and (pe_not (b_isT "bool" B (pv 0) B.bool (by decide +kernel))) (pe_one (pe_cmpR op_eq (pv 0) (pv 1) (nomark _))))))) pss_nil)
    pss_never)), ?_⟩
  refine ⟨_, rfl, _, rfl, no_non (fun z => by cases z) ?_⟩
  refine ⟨_, rfl, _, "int", _, rfl, ty_int i, k_ib, _, rfl, iteF ?_⟩
  refine ⟨_, rfl, _, "int", _, rfl, ty_int i, k_ii, _, rfl, iteT ?_⟩
  refine ⟨_, rfl, _, "int", _, rfl, ty_int i, k_ii, _, rfl, iteT ?_⟩
  refine ⟨_, rfl, _, "int", _, rfl, ty_int i, k_ib, _, rfl, _, rfl, iteT ?_⟩
  refine ⟨_, rfl, _, rfl, rfl, ?_⟩
  rw [decide_eq_true rfl]
  exact q
theorem same_bool (B : Bl mg) (b : Bool) (q : Q (.bl true) H) :
    ∃ t, PSs (cxOf CX0 P w K mg base nSame "_law_same" (defScope sSame) f cdv A outer s H E).nox (defBody sSame) t ∧ t { nx := fun _ H' => Q .non H', rt := Q } (start nSame [.bl b, .bl b]) H := by
  refine ⟨_, pss_cons (ps_if (pt_cmp (pc_isN (pv 1))) pss_never pss_nil)
    (pss_cons (ps_if (pt_val (b_isT "bool" B (pv 1) B.bool (by decide +kernel))) (pss_one (ps_ret (pe_and (b_isT "bool" B (pv 0) B.bool (by decide +kernel)) (pe_one (pe_cmpR op_eq (pv 0) (pv 1) (nomark _)))))) pss_nil)
    pss_never), ?_⟩
  refine ⟨_, rfl, _, rfl, no_non (fun z => by cases z) ?_⟩
  refine ⟨_, rfl, _, "bool", _, rfl, ty_bl b, k_bb, _, rfl, iteT ?_⟩
  refine ⟨_, rfl, _, "bool", _, rfl, ty_bl b, k_bb, _, rfl, iteT ?_⟩
  refine ⟨_, rfl, _, rfl, rfl, ?_⟩
  rw [decide_eq_true rfl]
  exact q
theorem ok_same (F : DefC K mg "_law_same" sSame ["_law_actual", "_law_due"]) (B : Bl mg) : ∀ k : Nat, Cal P w K mg base (k + 1) "_law_same" (spSame k)
  | 0 => by
    refine cal_mk F scSame (fun vs H Q E h => ?_) (fun f cdv A outer s H vs Q E hr h => ?_)
    · obtain ⟨v, u, d, rfl, _⟩ := h
      rfl
    · obtain ⟨v, u, d, rfl, hv, hu, q⟩ := h
      rcases hv with ⟨i, rfl, rfl⟩ | ⟨b, rfl, rfl⟩
      · rcases hu with ⟨i2, rfl, e⟩ | ⟨b, _, e⟩
        · injection e with e
          subst e
          exact same_int B i q
        · cases e
      · rcases hu with ⟨i2, _, e⟩ | ⟨b2, rfl, e⟩
        · cases e
        · injection e with e
          subst e
          exact same_bool B b q
  | k + 1 => by
    have cR := ok_same F B k
    refine cal_mk F scSame (fun vs H Q E h => ?_) (fun f cdv A outer s H vs Q E hr h => ?_)
    · obtain ⟨v, u, d, rfl, _⟩ := h
      rfl
    · obtain ⟨v, u, d, rfl, hv, hu, q⟩ := h
      have nd := scSame.nd
      rcases hv with hv | ⟨a, xs, ds, rfl, hl, hp, h⟩
      · rcases hv with ⟨i, rfl, rfl⟩ | ⟨b, rfl, rfl⟩
        · rcases hu with (⟨i2, rfl, e⟩ | ⟨b, _, e⟩) | ⟨_, _, _, _, _, _, h | h⟩
          · injection e with e
            subst e
            exact same_int B i q
          · cases e
          · cases h.2
          · cases h.2
        · rcases hu with (⟨i2, _, e⟩ | ⟨b2, rfl, e⟩) | ⟨_, _, _, _, _, _, h | h⟩
          · cases e
          · injection e with e
            subst e
            exact same_bool B b q
          · cases h.2
          · cases h.2
      · rcases h with ⟨ha, rfl⟩ | ⟨ha, rfl⟩
        · rcases hu with (⟨i2, _, e⟩ | ⟨b2, _, e⟩) | ⟨a2, xs2, ds2, rfl, hl2, hp2, h | h⟩
          · cases e
          · cases e
          · obtain ⟨ha2, e⟩ := h
            injection e with e
            subst e
            have e1 := paired_len hp
            have e2 := paired_len hp2
            refine ⟨_, pss_cons (ps_if (pt_cmp (pc_isN (pv 1))) pss_never pss_nil)
              (pss_cons (ps_if (pt_val (b_isT "bool" B (pv 1) B.bool (by decide +kernel))) pss_never pss_nil)
              (pss_cons (ps_if (pt_val (b_isT "int" B (pv 1) B.int (by decide +kernel))) pss_never pss_nil)
              (pss_cons (ps_if (pt_val (b_isT "str" B (pv 1) B.str (by decide +kernel))) pss_never pss_nil)
              (pss_cons (ps_if (pt_val (b_isT "tuple" B (pv 1) B.tuple (by decide +kernel))) pss_never
                (pss_one (ps_if (PW.pt (pw_or (pt_not (pt_val (b_isT "list" B (pv 0) B.list (by decide +kernel)))) (pw_or1 (pt_cmpR op_ne (b_len B (pv 0)) (b_len B (pv 1)) (nomark _))))) pss_never pss_nil)))
              (pss_cons (ps_for PassesOwn.never rfl (pi_range1 rfl B.range (pa_cons (b_len B (pv 1)) pa_nil)) (pg_name (i := 2) nd rfl (Or.inl rfl))
                (pss_one (ps_if (pt_not (pt_val (pe_c cR hr (Nat.le_refl _) (pa_cons (pe_ix ix_list (pv 0) (pv 2) (fun _ _ => rfl)) (pa_cons (pe_ix ix_list (pv 1) (pv 2) (fun _ _ => rfl)) pa_nil))))) pss_never pss_nil)))
              (pss_one (ps_ret pe_bl))))))), ?_⟩
            refine ⟨_, rfl, _, rfl, no_non (fun z => by cases z) ?_⟩
            refine ⟨_, rfl, _, "list", _, rfl, ty_lst ha2, k_lb, _, rfl, iteF ?_⟩
            refine ⟨_, rfl, _, "list", _, rfl, ty_lst ha2, k_li, _, rfl, iteF ?_⟩
            refine ⟨_, rfl, _, "list", _, rfl, ty_lst ha2, k_ls, _, rfl, iteF ?_⟩
            refine ⟨_, rfl, _, "list", _, rfl, ty_lst ha2, k_lt, _, rfl, iteF ?_⟩
            refine ⟨_, rfl, _, "list", _, rfl, ty_lst ha, k_ll, _, rfl, iteF ?_⟩
            refine ⟨_, rfl, a, xs, rfl, Or.inl (SqL.mk ha), _, rfl, a2, xs2, rfl, Or.inl (SqL.mk ha2), rfl, _, rfl, ?_⟩
            refine iteNS (by rw [e1, e2]) ?_
            refine ⟨_, rfl, a2, xs2, rfl, Or.inl (SqL.mk ha2), _, rfl, by omega, by omega, for_range (lo := 0) (n := ((xs2.length : Int)).toNat) (fun i σ H' => H = H' ∧ ∃ c, σ = [some (.ref a), some (.ref a2), c]) ⟨rfl, none, rfl⟩ ?_ ?_⟩
            · rintro i σ H' hi ⟨rfl, c, rfl⟩
              rw [Int.zero_add]
              have hi2 : i < xs2.length := by omega
              have hi1 : i < xs.length := by omega
              have g1 : xs[i]? = some xs[i] := by simp [hi1]
              have g2 : xs2[i]? = some xs2[i] := by simp [hi2]
              obtain ⟨d1, hd1, q1⟩ := paired_get hp g1
              obtain ⟨d2, hd2, q2⟩ := paired_get hp2 g2
              rw [hd1] at hd2
              injection hd2 with hd2
              subst hd2
              exact ⟨_, rfl, _, rfl, a, xs, i, _, rfl, rfl, SqL.mk ha, atI_nat g1, _, rfl, _, rfl, a2, xs2, i, _, rfl, rfl, SqL.mk ha2, atI_nat g2, _, _, d1, rfl, q1, q2, _, rfl, iteF ⟨rfl, _, rfl⟩⟩
            · rintro σ H' ⟨rfl, c, rfl⟩
              exact q
          · cases h.2
        · rcases hu with (⟨i2, _, e⟩ | ⟨b2, _, e⟩) | ⟨a2, xs2, ds2, rfl, hl2, hp2, h | h⟩
          · cases e
          · cases e
          · cases h.2
          · obtain ⟨ha2, e⟩ := h
            injection e with e
            subst e
            have e1 := paired_len hp
            have e2 := paired_len hp2
            refine ⟨_, pss_cons (ps_if (pt_cmp (pc_isN (pv 1))) pss_never pss_nil)
              (pss_cons (ps_if (pt_val (b_isT "bool" B (pv 1) B.bool (by decide +kernel))) pss_never pss_nil)
              (pss_cons (ps_if (pt_val (b_isT "int" B (pv 1) B.int (by decide +kernel))) pss_never pss_nil)
              (pss_cons (ps_if (pt_val (b_isT "str" B (pv 1) B.str (by decide +kernel))) pss_never pss_nil)
              (pss_cons (ps_if (pt_val (b_isT "tuple" B (pv 1) B.tuple (by decide +kernel)))
                (pss_one (ps_if (PW.pt (pw_or (pt_not (pt_val (b_isT "tuple" B (pv 0) B.tuple (by decide +kernel)))) (pw_or1 (pt_cmpR op_ne (b_len B (pv 0)) (b_len B (pv 1)) (nomark _))))) pss_never pss_nil)) pss_never)
              (pss_cons (ps_for PassesOwn.never rfl (pi_range1 rfl B.range (pa_cons (b_len B (pv 1)) pa_nil)) (pg_name (i := 2) nd rfl (Or.inl rfl))
                (pss_one (ps_if (pt_not (pt_val (pe_c cR hr (Nat.le_refl _) (pa_cons (pe_ix ix_tup (pv 0) (pv 2) (fun _ _ => rfl)) (pa_cons (pe_ix ix_tup (pv 1) (pv 2) (fun _ _ => rfl)) pa_nil))))) pss_never pss_nil)))
              (pss_one (ps_ret pe_bl))))))), ?_⟩
            refine ⟨_, rfl, _, rfl, no_non (fun z => by cases z) ?_⟩
            refine ⟨_, rfl, _, "tuple", _, rfl, ty_tup ha2, k_tb, _, rfl, iteF ?_⟩
            refine ⟨_, rfl, _, "tuple", _, rfl, ty_tup ha2, k_ti, _, rfl, iteF ?_⟩
            refine ⟨_, rfl, _, "tuple", _, rfl, ty_tup ha2, k_ts, _, rfl, iteF ?_⟩
            refine ⟨_, rfl, _, "tuple", _, rfl, ty_tup ha2, k_tt, _, rfl, iteT ?_⟩
            refine ⟨_, rfl, _, "tuple", _, rfl, ty_tup ha, k_tt, _, rfl, iteF ?_⟩
            refine ⟨_, rfl, a, xs, rfl, Or.inr (SqT.mk ha), _, rfl, a2, xs2, rfl, Or.inr (SqT.mk ha2), rfl, _, rfl, ?_⟩
            refine iteNS (by rw [e1, e2]) ?_
            refine ⟨_, rfl, a2, xs2, rfl, Or.inr (SqT.mk ha2), _, rfl, by omega, by omega, for_range (lo := 0) (n := ((xs2.length : Int)).toNat) (fun i σ H' => H = H' ∧ ∃ c, σ = [some (.ref a), some (.ref a2), c]) ⟨rfl, none, rfl⟩ ?_ ?_⟩
            · rintro i σ H' hi ⟨rfl, c, rfl⟩
              rw [Int.zero_add]
              have hi2 : i < xs2.length := by omega
              have hi1 : i < xs.length := by omega
              have g1 : xs[i]? = some xs[i] := by simp [hi1]
              have g2 : xs2[i]? = some xs2[i] := by simp [hi2]
              obtain ⟨d1, hd1, q1⟩ := paired_get hp g1
              obtain ⟨d2, hd2, q2⟩ := paired_get hp2 g2
              rw [hd1] at hd2
              injection hd2 with hd2
              subst hd2
              exact ⟨_, rfl, _, rfl, a, xs, i, _, rfl, rfl, SqT.mk ha, atI_nat g1, _, rfl, _, rfl, a2, xs2, i, _, rfl, rfl, SqT.mk ha2, atI_nat g2, _, _, d1, rfl, q1, q2, _, rfl, iteF ⟨rfl, _, rfl⟩⟩
            · rintro σ H' ⟨rfl, c, rfl⟩
              exact q
end
end NA
/-! list_partitions, check_ledger. -/
namespace NA
open PySem PySem.Spec PyProof.Rows L2
/-- list_partitions as the top left it -/
abbrev sListP : Stmt := top 17
structure LpC (K : PySem.W.Frag) (mg : Str → Option Value) : Prop where
  ex : ∃ (f : Addr) (fd : FuncData), FunD K "list_partitions" "list_partitions" (defArgs sListP) (defBody sListP) (defScope sListP) [] [("most", V.int 5000)] f fd ∧ mg "list_partitions" = some (.ref f)
structure CalD (P : Program) (w : World) (K : PySem.W.Frag) (mg : Str → Option Value) (base : Heap) (k : Nat) (x : Str) (sp : Sp) (dvs : List V) : Prop where
  ex : ∃ (f : Addr) (fd : FuncData) (ps : List Str) (ds : List Value), FnOk P w K mg base CX0 k f fd ps sp ∧ mg x = some (.ref f) ∧ PySem.W.keepIn K (.ref f) = true ∧ Binds K fd ps ds ∧ Vals dvs ds
section
variable {X : Cx} {k j : Nat} {x : Str} {sp : Sp} {dvs : List V} {p pos : Pos} {e : Expr} {es : List Expr} {t : TA}
theorem pe_cd (c : CalD X.prog X.w X.K X.mg X.base k x sp dvs) (hr : Room j X.A) (hk : k ≤ j) (ha : PA X (e :: es) t) (hg : Gl X x := by rfl)
    (hdb : (x == ("__debug__" : Str)) = false := by decide) (he : starEach (e :: es) X.env = (false, eval e X.env) :: starEach es X.env := by rfl) (hpl : (backTo pos (starEach es X.env)).any (·.1) = false := by rfl) :
    PE X (.Call (.Name x p) (e :: es) [] pos) (tCall sp dvs E0 t) := by
  obtain ⟨f, fd, ps, ds, F, hm, kp, b, d⟩ := c.ex
  exact pe_call F (hr.mono hk) hg hm kp b d pass0 ha hdb he hpl
end
section
variable {P : Program} {w : World} {K : PySem.W.Frag} {mg : Str → Option Value} {base : Heap} {CB CF : Addr}
abbrev nListP : List Str := ["family", "most", "book"]
def spListP (CB CF : Addr) : Sp := fun vs H Q _ => ∃ v n bs, vs = [v, .int 5000] ∧ FamAt CB CF H v n bs ∧ OkWalk n (bs.map (·.2)) ∧ ∀ a xs H', H a = none → Same H H' → H' a = some (.lst xs) → Rws H' xs (walkR n (bs.map (·.2))) → Q (.ref a) H'
theorem scListP : FnScope nListP ["family", "most"] (defScope sListP) := ⟨rfl, rfl, rfl, by decide +kernel, rfl, by decide +kernel, by decide +kernel⟩
theorem ok_listP (F : LpC K mg) (T : TC K mg CB CF) (cL : Cal P w K mg base 27 "list_choices" spListC) (cI : Itr0 P w K mg base 1 CF "books") : CalD P w K mg base 28 "list_partitions" (spListP CB CF) [.int 5000] := by
  obtain ⟨f, fd, FD, hm⟩ := F.ex
  obtain ⟨ds, hds, hb⟩ := FD.binds0 (ps := ["family", "most"]) 1 (by simp) rfl fun D doc pm an cdv ct us ks h1 h2 => match us, ks, h1, h2 with
    | [_], [_], _, _ => ⟨_, _, _, _, _, _, rfl, rfl, rfl⟩
  refine ⟨f, fd, _, ds, FD.ok (N := nListP) (k := 27) (sp := spListP CB CF) scListP (fun vs H Q E h => ?_) (fun cdv A outer sh H vs Q E hr h => ?_), hm, FD.kp, hb, hds⟩
  · obtain ⟨v, n, bs, rfl, _⟩ := h
    rfl
  · obtain ⟨v, n, bs, rfl, ⟨a, dx, tb, xb, rfl, ha, htb, hxb⟩, ok, k⟩ := h
    have nd := scListP.nd
    obtain ⟨fi, fdi, FI, mI, bI⟩ := cI.ex
    refine ⟨_, PSs.nox (pss_one (ps_ret (pe_c cL hr (Nat.le_refl _) (pa_cons (pe_fld (pv 0) rfl) (pa_cons (pe_lc (own := [("book", 2)]) (g := gName 2) (tt := tYes) (te := tFld K (tVar 2) "rooms") rfl nd (pi_own (pv 0) mI FI (hr.mono (by decide)) bI)
      (blkOk_by (N := nListP) (sc := defScope sListP) (by decide +kernel)) (fun _ _ _ _ _ => pg_name (i := 2) nd rfl (Or.inl rfl)) (fun _ _ _ _ _ => pts_nil) (fun _ _ _ _ _ => pe_fld (pv 2) rfl)) (pa_cons (pv 1) pa_nil)))))), ?_⟩
    have hl : bs.length ≤ 1000 := by have := ok.len; rw [List.length_map] at this; omega
    refine ⟨_, rfl, a, CF, dx, _, _, rfl, ha, T.clF, T.fP, fmP _ _, ?_⟩
    refine rd_choices T rfl ha htb hxb hl (fun _ => rfl) (fun _ => rfl) fun D xs H1 nD s1 hD hxs => ?_
    exact ⟨_, rfl, n, .ref D, bs.map (fun c : Nat × Rooms => c.2), rfl, ⟨D, xs, rfl, hD, hxs⟩, ok, fun a xs H2 na s2 h2 hx2 => k a xs _ (s1.free na) (s1.trans s2) h2 hx2⟩
/-! ### check_ledger -/
abbrev encE (e : List Int × Int) : PyData := .tuple [encR e.1, .int e.2]
abbrev encEs (es : Ways) : PyData := .list (es.map encE)
theorem En.dp {H : Hp} {v : V} {e : List Int × Int} (h : En H v e) : Dp K H v (encE e) := by
  obtain ⟨t, x, rfl, ht, hx⟩ := h
  exact .tup (SqT.mk ht) (.cons hx.dp (.cons (.int _) .nil))
theorem ens_dp {H : Hp} : ∀ {xs : List V} {es : Ways}, Paired (En H) xs es → DpAll K H xs (es.map encE)
  | _, _, .nil => .nil
  | _, _, .cons h t => .cons h.dp (ens_dp t)
theorem canI : ∀ r : List Int, PyData.canLayAll0 (r.map PyData.int) = true
  | [] => by simp [PyData.canLayAll0]
  | a :: r => by simp [PyData.canLayAll0, PyData.canLay0, canI r]
theorem canE : ∀ es : Ways, PyData.canLayAll0 (es.map encE) = true
  | [] => by simp [PyData.canLayAll0]
  | a :: r => by simp [PyData.canLayAll0, PyData.canLay0, canE r, canI]
theorem depE : ∀ es : Ways, PyData.depthAll (es.map encE) ≤ 2
  | [] => by simp [PyData.depthAll]
  | a :: r => by
    have h1 := depE r
    have h2 := depth_encR a.1
    rw [List.map_cons, PyData.depthAll]
    have h3 : (encE a).depth ≤ 2 := by
      rw [PyData.depth, PyData.depthAll, PyData.depthAll, PyData.depthAll, h2, PyData.depth]
      decide
    exact Nat.max_le.mpr ⟨h3, h1⟩
theorem shapedE (es : Ways) : SeqAt.shaped (encEs es) = true := by
  unfold SeqAt.shaped
  rw [Bool.and_eq_true]
  refine ⟨by rw [PyData.canLay0]; exact canE es, decide_eq_true ?_⟩
  have := depE es
  rw [PyData.depth]
  omega
/-- a tuple of tuples of entries -/
def EnT (H : Hp) (v : V) (es : Ways) : Prop := ∃ a xs, v = .ref a ∧ H a = some (.tup xs) ∧ Paired (En H) xs es
theorem EnT.same {H H' : Hp} (s : Same H H') {v : V} {es : Ways} (h : EnT H v es) : EnT H' v es := let ⟨t, x, q, h, r⟩ := h; ⟨t, x, q, s _ _ h, Paired.mono' (fun _ _ z => z.same s) r⟩
abbrev sCheck : Stmt := top 32
abbrev nCheck : List Str := ["family", "told", "due", "step", "entries", "_", "number"]
/-- the sum of the last list's numbers -/
def lastSum (bs : List Rooms) : Int := ((entries (waysAt bs bs.length)).map (·.2)).sum
def spCheck (CB CF : Addr) : Sp := fun vs H Q _ => ∃ v n bs a xs, vs = [v, .ref a] ∧ FamAt CB CF H v n bs ∧ OkLed (bs.map (·.2)) ∧ bs.length ≤ 1000 ∧ ((H a = some (.lst xs) ∧ Paired (EnL H) xs (covers (bs.map (·.2)))) ∨ (H a = some (.tup xs) ∧ Paired (EnT H) xs (covers (bs.map (·.2))))) ∧
  (∀ es ∈ covers (bs.map (·.2)), es.length ≤ 100000) ∧ ∀ H', Same H H' → Q (.int (lastSum (bs.map (·.2)))) H'
theorem scCheck : FnScope nCheck ["family", "told"] (defScope sCheck) := ⟨rfl, rfl, rfl, by decide +kernel, rfl, by decide +kernel, by decide +kernel⟩
theorem covers_len (bs : List Rooms) : (covers bs).length = bs.length + 1 := by unfold covers; rw [List.length_map, List.length_range]
theorem covers_last (bs : List Rooms) : (covers bs)[bs.length]? = some (entries (waysAt bs bs.length)) := by
  unfold covers
  rw [List.getElem?_map, List.getElem?_range (by omega)] <;> rfl
theorem atI_end {xs : List V} {n : Nat} {v : V} (hl : xs.length = n + 1) (h : xs[n]? = some v) : atI xs (-1) = some v := by
  have e : xs = xs.dropLast ++ [v] := by
    have h1 : xs.drop n = [v] := by rw [drop_at h, List.drop_eq_nil_of_le (by omega)]
    have h2 : xs.dropLast = xs.take n := by rw [List.dropLast_eq_take]; congr 1; omega
    rw [h2, ← h1, List.take_append_drop]
  rw [e]
  exact atI_last _ _
/-- [number for _, number in ..], over the entries -/
theorem rd_numbers {σ : L2.St} {H : Hp} {Q : VK} {J : It} {n : Nat} {xs : List V} {es : Ways} {G : Hp → Prop} {D : Addr} (w0 : Walk J n G (YAt xs)) (hn : n = es.length) (hx : Paired (En H) xs es) (hz : es.length ≤ 100000) (hD : H D = none) (hG : ∀ H', Same H H' → G H')
    (hw : ∀ x y, wipe (((wipe σ [5, 6]).set 5 (some x)).set 6 (some y)) [5, 6] = wipe σ [5, 6]) (hj : ∀ x y, (((wipe σ [5, 6]).set 5 (some x)).set 6 (some y))[6]? = some (some y))
    (done : ∀ ys H', Same H H' → H' D = some (.lst (ys.map V.int)) → ys = es.map (·.2) → Q (.ref D) H') :
    ∃ W : Nat → Nat → Hp → Prop, (∃ m, W 0 m (upd H D (.lst []))) ∧ ∀ i m H, W i m H →
      (J.stop i H ∧ Q (.ref D) H) ∨ (J.go i H ∧ ∃ Nx : Hp → Prop, (∀ H', Nx H' → ∃ m', m' < m ∧ W (i + 1) m' H') ∧ ∀ x H', J.yld i H x H' → gTup K 2 (gCons (gName 5) (gCons (gName 6) gNil)) x (wipe σ [5, 6]) H' fun σ2 H2 => wipe σ2 [5, 6] = wipe σ [5, 6] ∧ tYes σ2 H2 fun b H3 =>
        if b = true then tVar 6 σ2 H3 fun y H4 => ∃ acc, H4 D = some (.lst acc) ∧ acc.length < sizeLine ∧ Nx (upd H4 D (.lst (acc ++ [y]))) else Nx H3) := by
  refine lc_build w0 es hn (fun e => [e.2]) (stab_int D) hz hD hG (fun i s x H1 H' k1 k0 ei s1 y q1 q0 => ?_) (fun ys H3 s3 hy hp => ?_)
  · obtain ⟨rfl, hy⟩ := y
    obtain ⟨e, he, hm⟩ := paired_get hx hy
    obtain rfl : e = s := by rw [ei] at he; exact (Option.some.inj he).symm
    obtain ⟨t, xr, rfl, ht, hxr⟩ := hm.same s1
    exact ⟨t, _, rfl, SqT.mk ht, rfl, xr, _, rfl, .int e.2, _, rfl, rfl, hw _ _, yesT ⟨_, hj _ _, q1 _ _ (Same.refl _) _ rfl rfl⟩⟩
  · rw [flatMap_one] at hp
    exact done (es.map (·.2)) H3 s3 (by rw [hy, paired_isI hp]) rfl
theorem ok_check (F : DefC K mg "check_ledger" sCheck ["family", "told"]) (B : Bl mg) (cL : Cal P w K mg base 3 "ledger" (spLedger CB CF)) : Cal P w K mg base 4 "check_ledger" (spCheck CB CF) := by
  refine cal_mk F scCheck (fun vs H Q E h => ?_) (fun f cdv A outer sh H vs Q E hr h => ?_)
  · obtain ⟨v, n, bs, a, xs, rfl, _⟩ := h
    rfl
  · obtain ⟨v, n, bs, a, xs, rfl, hfam, ok, hbl, hdat, hfew, k⟩ := h
    have nd := scCheck.nd
    have hlb : (bs.map (fun c : Nat × Rooms => c.2)).length = bs.length := List.length_map _
    rcases hdat with ⟨ha, hx⟩ | ⟨ha, hx⟩
    · refine ⟨_, pss_cons (ps_set (i := 2) nd rfl (Or.inl rfl) (pe_c cL hr (Nat.le_refl _) (pa_cons (pv 0) pa_nil)))
        (pss_cons (ps_if (pt_cmpR op_ne (b_len B (pv 1)) (b_len B (pv 2)) (nomark _)) pss_never pss_nil)
        (pss_cons (ps_for PassesOwn.never rfl (pi_enum rfl B.enumerate (pa_cons (pv 1) pa_nil)) (pg_tup rfl (pgs_cons (pg_name (i := 3) nd rfl (Or.inl rfl)) (pgs_cons (pg_name (i := 4) nd rfl (Or.inl rfl)) pgs_nil)))
          (pss_one (ps_if (pt_cmpR (op_neD hr.units) (b_list B (pv 4)) (pe_ix ix_list (pv 2) (pv 3) (fun _ _ => rfl)) (nomark _)) pss_never pss_nil)))
        (pss_one (ps_ret (b_sum B (pe_lc (own := [("_", 5), ("number", 6)]) (g := gTup K 2 (gCons (gName 5) (gCons (gName 6) gNil))) (tt := tYes) rfl nd (pi_list (pe_ix ix_list (pv 1) (pe_un un_neg pe_int) (fun _ _ => rfl)))
          (blkOk_by (N := nCheck) (sc := defScope sCheck) (by decide +kernel)) (fun _ _ _ _ _ => pg_tup rfl (pgs_cons (pg_name (i := 5) nd rfl (Or.inl rfl)) (pgs_cons (pg_name (i := 6) nd rfl (Or.inl rfl)) pgs_nil))) (fun _ _ _ _ _ => pts_nil) (fun _ _ _ _ _ => pv 6))))))), ?_⟩
      refine ⟨_, rfl, v, n, bs, rfl, hfam, ok, hbl, fun da dxs H1 nda s1 hda hdx => ?_⟩
      have hl1 : xs.length = dxs.length := (paired_len hx).trans (paired_len hdx).symm
      refine ⟨_, rfl, a, xs, rfl, Or.inl (SqL.mk (s1 _ _ ha)), _, rfl, da, dxs, rfl, Or.inl (SqL.mk hda), rfl, _, rfl, ?_⟩
      refine iteNS (by rw [hl1]) ?_
      refine ⟨_, rfl, a, xs, rfl, SqL.mk (s1 _ _ ha), ?_⟩
      refine for_it walk_enum (fun i σ H' => ∃ c d, σ = [some v, some (.ref a), some (.ref da), c, d, none, none] ∧ Same H1 H') ⟨none, none, rfl, Same.refl _⟩ (fun i σ H' _ q => by obtain ⟨_, _, _, s2⟩ := q; exact SqL.mk (s2 _ _ (s1 _ _ ha))) ?_ ?_
      · rintro i x σ H2 H' hi ⟨c, d, rfl, s2⟩ ⟨tp, x1, x2, rfl, ntp, rfl, hx1, hx2⟩
        obtain ⟨es, hes, hm⟩ := paired_get hx hx2
        obtain ⟨y, hy, hym⟩ := paired_get' hdx hes
        injection hx1 with hx1
        subst hx1
        have s3 := s2.trans (Same.new (o := .tup [V.int (i : Nat), x2]) ntp)
        refine ⟨tp, _, rfl, SqT.mk upd_same, rfl, _, _, rfl, x2, _, rfl, rfl, ?_⟩
        generalize upd H2 tp (.tup [V.int (i : Nat), x2]) = H3 at s3
        obtain ⟨ea, exs, rfl, hea, hexs⟩ := hm.same (s1.trans s3)
        refine ⟨_, rfl, ea, exs, rfl, Or.inl (SqL.mk hea), fun p np => ?_⟩
        have s4 := Same.new (o := .lst exs) np
        obtain ⟨ya, yxs, rfl, hya, hyxs⟩ := (hym.enl).same (s3.trans s4)
        refine ⟨_, rfl, _, rfl, da, dxs, i, _, rfl, rfl, SqL.mk ((s3.trans s4) _ _ hda), atI_nat hy, encEs es, encEs es, .lst (SqL.mk upd_same) (ens_dp (Paired.mono' (fun _ _ z => z.same s4) hexs)), .lst (SqL.mk hya) (ens_dp hyxs), shapedE es, shapedE es, _, rfl, ?_⟩
        have hrefl : PyData.eqv (encEs es) (encEs es) = true := by rw [PyData.eqv]; exact SeqAt.eqvAll_refl _ (canE es)
        rw [hrefl]
        exact iteF ⟨_, _, rfl, s3.trans s4⟩
      rintro σ H2 ⟨c, d, rfl, s2⟩
      have s12 := s1.trans s2
      have hxl : xs.length = bs.length + 1 := by rw [paired_len hx, covers_len, hlb]
      obtain ⟨lv, hlv, hlm⟩ := paired_get' hx (covers_last (bs.map (fun c : Nat × Rooms => c.2)))
      rw [hlb] at hlv
      obtain ⟨la, lxs, rfl, hla, hlxs⟩ := hlm.same s12
      refine ⟨_, rfl, 1, rfl, a, xs, _, .ref la, rfl, rfl, SqL.mk (s12 _ _ ha), atI_end hxl hlv, la, rfl, ⟨lxs, SqL.mk hla⟩, fun D hD => ?_⟩
      refine rd_numbers (K := K) (σ := [some v, some (.ref a), some (.ref da), c, d, none, none]) (Q := fun x H1 => rSum K [x] H1 Q) (walk_list (K := K)) (paired_len hlxs) hlxs (hfew _ (List.mem_of_getElem? (covers_last _))) hD (fun H' s => SqL.mk (s _ _ hla)) ?_ ?_ fun ys H3 s3 h3 hys => ?_
      · exact fun _ _ => rfl
      · exact fun _ _ => rfl
      refine ⟨D, ys, rfl, SqL.mk h3, ?_⟩
      rw [hys]
      exact k H3 (s12.trans s3)
    · refine ⟨_, pss_cons (ps_set (i := 2) nd rfl (Or.inl rfl) (pe_c cL hr (Nat.le_refl _) (pa_cons (pv 0) pa_nil)))
        (pss_cons (ps_if (pt_cmpR op_ne (b_len B (pv 1)) (b_len B (pv 2)) (nomark _)) pss_never pss_nil)
        (pss_cons (ps_for PassesOwn.never rfl (pi_enumT rfl B.enumerate (pa_cons (pv 1) pa_nil)) (pg_tup rfl (pgs_cons (pg_name (i := 3) nd rfl (Or.inl rfl)) (pgs_cons (pg_name (i := 4) nd rfl (Or.inl rfl)) pgs_nil)))
          (pss_one (ps_if (pt_cmpR (op_neD hr.units) (b_list B (pv 4)) (pe_ix ix_list (pv 2) (pv 3) (fun _ _ => rfl)) (nomark _)) pss_never pss_nil)))
        (pss_one (ps_ret (b_sum B (pe_lc (own := [("_", 5), ("number", 6)]) (g := gTup K 2 (gCons (gName 5) (gCons (gName 6) gNil))) (tt := tYes) rfl nd (pi_tup (pe_ix ix_tup (pv 1) (pe_un un_neg pe_int) (fun _ _ => rfl)))
          (blkOk_by (N := nCheck) (sc := defScope sCheck) (by decide +kernel)) (fun _ _ _ _ _ => pg_tup rfl (pgs_cons (pg_name (i := 5) nd rfl (Or.inl rfl)) (pgs_cons (pg_name (i := 6) nd rfl (Or.inl rfl)) pgs_nil))) (fun _ _ _ _ _ => pts_nil) (fun _ _ _ _ _ => pv 6))))))), ?_⟩
      refine ⟨_, rfl, v, n, bs, rfl, hfam, ok, hbl, fun da dxs H1 nda s1 hda hdx => ?_⟩
      have hl1 : xs.length = dxs.length := (paired_len hx).trans (paired_len hdx).symm
      refine ⟨_, rfl, a, xs, rfl, Or.inr (SqT.mk (s1 _ _ ha)), _, rfl, da, dxs, rfl, Or.inl (SqL.mk hda), rfl, _, rfl, ?_⟩
      refine iteNS (by rw [hl1]) ?_
      refine ⟨_, rfl, a, xs, rfl, SqT.mk (s1 _ _ ha), ?_⟩
      refine for_it (J := IteT K a) (n := xs.length) (G := fun H => SqT K H a xs) (Y := YPair (fun i => some (.int (i : Nat))) (fun i => xs[i]?)) ⟨fun i H hi q => ⟨xs, xs[i], q, by simp [hi]⟩, fun H q => ⟨xs, q, Nat.le_refl _⟩, fun i H v H' hi q y => by obtain ⟨T, x, h1, h2, h3, h4⟩ := y; exact ⟨T, .int (i : Nat), x, h1, h2, h3, rfl, h4 xs q⟩⟩
        (fun i σ H' => ∃ c d, σ = [some v, some (.ref a), some (.ref da), c, d, none, none] ∧ Same H1 H') ⟨none, none, rfl, Same.refl _⟩ (fun i σ H' _ q => by obtain ⟨_, _, _, s2⟩ := q; exact SqT.mk (s2 _ _ (s1 _ _ ha))) ?_ ?_
      · rintro i x σ H2 H' hi ⟨c, d, rfl, s2⟩ ⟨tp, x1, x2, rfl, ntp, rfl, hx1, hx2⟩
        obtain ⟨es, hes, hm⟩ := paired_get hx hx2
        obtain ⟨y, hy, hym⟩ := paired_get' hdx hes
        injection hx1 with hx1
        subst hx1
        have s3 := s2.trans (Same.new (o := .tup [V.int (i : Nat), x2]) ntp)
        refine ⟨tp, _, rfl, SqT.mk upd_same, rfl, _, _, rfl, x2, _, rfl, rfl, ?_⟩
        generalize upd H2 tp (.tup [V.int (i : Nat), x2]) = H3 at s3
        obtain ⟨ea, exs, rfl, hea, hexs⟩ := hm.same (s1.trans s3)
        refine ⟨_, rfl, ea, exs, rfl, Or.inr (SqT.mk hea), fun p np => ?_⟩
        have s4 := Same.new (o := .lst exs) np
        obtain ⟨ya, yxs, rfl, hya, hyxs⟩ := (hym.enl).same (s3.trans s4)
        refine ⟨_, rfl, _, rfl, da, dxs, i, _, rfl, rfl, SqL.mk ((s3.trans s4) _ _ hda), atI_nat hy, encEs es, encEs es, .lst (SqL.mk upd_same) (ens_dp (Paired.mono' (fun _ _ z => z.same s4) hexs)), .lst (SqL.mk hya) (ens_dp hyxs), shapedE es, shapedE es, _, rfl, ?_⟩
        have hrefl : PyData.eqv (encEs es) (encEs es) = true := by rw [PyData.eqv]; exact SeqAt.eqvAll_refl _ (canE es)
        rw [hrefl]
        exact iteF ⟨_, _, rfl, s3.trans s4⟩
      rintro σ H2 ⟨c, d, rfl, s2⟩
      have s12 := s1.trans s2
      have hxl : xs.length = bs.length + 1 := by rw [paired_len hx, covers_len, hlb]
      obtain ⟨lv, hlv, hlm⟩ := paired_get' hx (covers_last (bs.map (fun c : Nat × Rooms => c.2)))
      rw [hlb] at hlv
      obtain ⟨la, lxs, rfl, hla, hlxs⟩ := hlm.same s12
      refine ⟨_, rfl, 1, rfl, a, xs, _, .ref la, rfl, rfl, SqT.mk (s12 _ _ ha), atI_end hxl hlv, la, rfl, ⟨lxs, SqT.mk hla⟩, fun D hD => ?_⟩
      refine rd_numbers (K := K) (σ := [some v, some (.ref a), some (.ref da), c, d, none, none]) (Q := fun x H1 => rSum K [x] H1 Q) (walk_tup (K := K)) (paired_len hlxs) hlxs (hfew _ (List.mem_of_getElem? (covers_last _))) hD (fun H' s => SqT.mk (s _ _ hla)) ?_ ?_ fun ys H3 s3 h3 hys => ?_
      · exact fun _ _ => rfl
      · exact fun _ _ => rfl
      refine ⟨D, ys, rfl, SqL.mk h3, ?_⟩
      rw [hys]
      exact k H3 (s12.trans s3)
end
end NA
/-! _law_counted. -/
namespace NA
open PySem PySem.Spec PyProof.Rows L2
/-! ### data for _law_same -/
theorem dq_int {H : Hp} {k : Nat} (i : Int) : Dq H k (.int i) (.int i) := by
  cases k with
  | zero => exact .inl ⟨i, rfl, rfl⟩
  | succ k => exact .inl (.inl ⟨i, rfl, rfl⟩)
theorem paired_enc {α : Type} {R : V → α → Prop} {S : V → PyData → Prop} {f : α → PyData} (h : ∀ v a, R v a → S v (f a)) : ∀ {l : List V} {m : List α}, Paired R l m → Paired S l (m.map f)
  | _, _, .nil => .nil
  | _, _, .cons q t => .cons (h _ _ q) (paired_enc h t)
theorem Rm.dq {H : Hp} {v : V} {r : List Int} (h : Rm H v r) (hl : r.length ≤ 1000000) : Dq H 1 v (encR r) := by
  obtain ⟨t, rfl, ht⟩ := h
  refine .inr ⟨t, _, r.map PyData.int, rfl, by rw [List.length_map]; exact hl, ?_, .inr ⟨ht, rfl⟩⟩
  have : Paired (fun v (n : Int) => v = V.int n) (r.map V.int) r := paired_ints r
  exact paired_enc (fun v n e => by rw [e]; exact dq_int n) this
theorem Dq.up {H : Hp} : ∀ {k : Nat} {v : V} {d : PyData}, Dq H k v d → Dq H (k + 1) v d
  | 0, _, _, h => .inl h
  | k + 1, _, _, .inl h => .inl h
  | k + 1, _, _, .inr ⟨a, xs, ds, e, hl, hp, h⟩ => .inr ⟨a, xs, ds, e, hl, Paired.mono' (fun _ _ z => Dq.up z) hp, h⟩
theorem Rw.dq {H : Hp} {v : V} {row : List (List Int)} (h : Rw H v row) (hl : row.length ≤ 1000000) (hr : ∀ r ∈ row, r.length ≤ 1000000) : Dq H 2 v (encRow row) := by
  obtain ⟨t, xs, rfl, ht, hx⟩ := h
  refine .inr ⟨t, xs, row.map encR, rfl, by rw [List.length_map]; exact hl, ?_, .inr ⟨ht, rfl⟩⟩
  have go : ∀ {xs : List V} {row : List (List Int)}, (∀ r ∈ row, r.length ≤ 1000000) → Rms H xs row → Paired (Dq H 1) xs (row.map encR) := by
    intro xs row hr h
    induction h with
    | nil => exact .nil
    | cons q t ih => exact .cons (q.dq (hr _ List.mem_cons_self)) (ih fun r h => hr r (List.mem_cons_of_mem _ h))
  exact go hr hx
/-- rows short, few -/
structure SmRows (rows : List (List (List Int))) : Prop where
  few : rows.length ≤ 100000
  row : ∀ row ∈ rows, row.length ≤ 1000 ∧ ∀ r ∈ row, r.length ≤ 1000
abbrev encRows (rows : List (List (List Int))) : PyData := .list (rows.map encRow)
theorem rows_dq {H : Hp} {a : Addr} {xs : List V} {rows : List (List (List Int))} (ha : H a = some (.lst xs)) (hx : Rws H xs rows) (sm : SmRows rows) : Dq H 3 (.ref a) (encRows rows) := by
  refine .inr ⟨a, xs, rows.map encRow, rfl, by rw [List.length_map]; exact Nat.le_trans sm.few (by decide), ?_, .inl ⟨ha, rfl⟩⟩
  have go : ∀ {xs : List V} {rows : List (List (List Int))}, (∀ row ∈ rows, row.length ≤ 1000 ∧ ∀ r ∈ row, r.length ≤ 1000) → Rws H xs rows → Paired (Dq H 2) xs (rows.map encRow) := by
    intro xs rows hr h
    induction h with
    | nil => exact .nil
    | cons q t ih => exact .cons (q.dq (Nat.le_trans (hr _ List.mem_cons_self).1 (by decide)) fun r h => Nat.le_trans ((hr _ List.mem_cons_self).2 r h) (by decide)) (ih fun r h => hr r (List.mem_cons_of_mem _ h))
  exact go sm.row hx
/-- what _law_counted asks -/
structure OkCnt (n : Nat) (bks : List Rooms) (rows : List (List (List Int))) : Prop where
  walk : OkWalk n bks
  tails : OkTails bks.tail
  few : ∀ b ∈ bks, b.length ≤ 100000
  cnt : countC n bks = (rows.length : Nat)
  eqr : walkR n bks = rows
  even : rows.length % 2 = 0
  sm : SmRows rows
section
variable {P : Program} {w : World} {K : PySem.W.Frag} {mg : Str → Option Value} {base : Heap} {CB CF : Addr}
abbrev sCounted : Stmt := top 46
abbrev nCounted : List Str := ["_law_family", "_law_rows", "_law_many", "_law_told"]
def spCounted (CB CF : Addr) : Sp := fun vs H Q _ => ∃ v u n bs rows, vs = [v, u] ∧ FamAt CB CF H v n bs ∧ RwL H u rows ∧ OkCnt n (bs.map (·.2)) rows ∧ ∀ H', Same H H' → Q (.bl true) H'
theorem scCounted : FnScope nCounted ["_law_family", "_law_rows"] (defScope sCounted) := ⟨rfl, rfl, rfl, by decide +kernel, rfl, by decide +kernel, by decide +kernel⟩
theorem ok_counted (F : DefC K mg "_law_counted" sCounted ["_law_family", "_law_rows"]) (B : Bl mg) (T : TC K mg CB CF) (cC : Cal P w K mg base 5 "count_partitions" (spCountP CB CF)) (cS : ∀ k : Nat, Cal P w K mg base (k + 1) "_law_same" (spSame k))
    (cL : CalD P w K mg base 28 "list_partitions" (spListP CB CF) [.int 5000]) (cW : GCal P w K mg base 27 "walk_partitions" (spWalkP CB CF)) : Cal P w K mg base 32 "_law_counted" (spCounted CB CF) := by
  refine cal_mk F scCounted (fun vs H Q E h => ?_) (fun f cdv A outer sh H vs Q E hr h => ?_)
  · obtain ⟨v, u, n, bs, rows, rfl, _⟩ := h
    rfl
  · obtain ⟨v, u, n, bs, rows, rfl, hfam, ⟨ra, rxs, rfl, hra, hrx⟩, ok, k⟩ := h
    have nd := scCounted.nd
    refine ⟨_, pss_cons (ps_set (i := 2) nd rfl (Or.inl rfl) (pe_c cC hr (by decide) (pa_cons (pv 0) pa_nil)))
      (pss_cons (ps_if (PW.pt (pw_or (pt_not (pt_val (pe_c (cS 0) hr (by decide) (pa_cons (pv 2) (pa_cons (b_len B (pv 1)) pa_nil))))) (pw_or1 (pt_cmpR op_ne (pe_op op_mod (b_int B (pv 2)) pe_int) pe_int (nomark _))))) pss_never pss_nil)
      (pss_cons (ps_set (i := 3) nd rfl (Or.inl rfl) (pe_cd cL hr (by decide) (pa_cons (pv 0) pa_nil)))
      (pss_cons (ps_if (pt_not (pt_val (pe_c (cS 3) hr (by decide) (pa_cons (pv 3) (pa_cons (pv 1) pa_nil))))) pss_never pss_nil)
      (pss_cons (ps_expr (pe_bm PySem.F.plainAttrs_list PySem.F.slot_list_append PySem.F.type_list_append mt_append (pv 3) (pa_cons (pe_tup pa_nil) pa_nil)))
      (pss_cons (ps_asg (pe_tup (pa_cons (pe_tup (pa_cons pe_int pa_nil)) pa_nil)) (pg_sub (pv 3) pe_int set_list))
      (pss_one (ps_ret (pe_and (pe_c (cS 3) hr (by decide) (pa_cons (pe_cd cL hr (by decide) (pa_cons (pv 0) pa_nil)) (pa_cons (pv 1) pa_nil)))
        (pe_one (pe_c (cS 3) hr (by decide) (pa_cons (pe_listN (pgn_c cW (hr.mono (by decide)) (pa_cons (pv 0) pa_nil)) (hr.mono (by decide)) rfl B.list (by decide +kernel)) (pa_cons (pv 1) pa_nil)))))))))))), ?_⟩
    cases bs with
    | nil => exact absurd rfl ok.walk.ne
    | cons b bs =>
    have hbl : bs.length ≤ 900 := by have := ok.walk.len; rw [List.length_map, List.length_cons] at this; omega
    refine ⟨_, rfl, v, n, b, bs, rfl, hfam, ok.walk.n1000, ok.few _ List.mem_cons_self, hbl, ok.tails, fun H1 s1 => ?_⟩
    have hrl : rxs.length = rows.length := paired_len hrx
    refine ⟨_, rfl, _, rfl, ra, rxs, rfl, Or.inl (SqL.mk (s1 _ _ hra)), _, _, _, rfl, dq_int _, ?_, _, rfl, iteF ?_⟩
    · rw [ok.cnt, hrl]
      exact dq_int _
    refine ⟨_, rfl, _, rfl, _, _, rfl, rfl, (by show (0 : Int) < 2; decide), rfl, _, rfl, ?_⟩
    have hev : countC n ((b :: bs).map (·.2)) % 2 = 0 := by
      rw [ok.cnt]
      have := ok.even
      omega
    refine iteNS (by show V.int (countC n ((b :: bs).map (·.2)) % 2) = V.int 0; rw [hev]) ?_
    refine ⟨_, rfl, v, n, b :: bs, rfl, hfam.same s1, ok.walk, fun da dxs H2 nda s2 hda hdx => ?_⟩
    rw [ok.eqr] at hdx
    have s12 := s1.trans s2
    refine ⟨_, rfl, _, rfl, _, _, _, rfl, rows_dq hda hdx ok.sm, rows_dq (s12 _ _ hra) (Rws.same s12 hrx) ok.sm, _, rfl, iteF ?_⟩
    have hdl : dxs.length ≤ 100000 := by rw [paired_len hdx]; exact ok.sm.few
    -- told is spoiled
    have ndH : H da = none := s1.free nda
    refine ⟨_, rfl, Or.inl ⟨rfl, _, SqL.mk hda⟩, by decide, fun p np => ?_⟩
    have s3 := Same.new (o := .tup []) np
    refine ⟨da, dxs, _, rfl, rfl, s3 _ _ hda, Nat.lt_of_le_of_lt hdl (by decide), ?_⟩
    have s4 : Same H1 (upd (upd H2 p (.tup [])) da (.lst (dxs ++ [V.ref p]))) := Same.mut (s2.trans s3) nda
    have h4 : (upd (upd H2 p (.tup [])) da (.lst (dxs ++ [V.ref p]))) da = some (.lst (dxs ++ [V.ref p])) := upd_same
    generalize upd (upd H2 p (.tup [])) da (.lst (dxs ++ [V.ref p])) = H4 at s4 h4
    refine ⟨by decide, fun p5 n5 => ⟨by show 1 ≤ sizeLine; decide, fun p6 n6 => ?_⟩⟩
    have s5 := Same.new (o := .tup [V.int 0]) n5
    have s6 := Same.new (o := .tup [V.ref p5]) n6
    have s56 := s5.trans s6
    refine ⟨_, rfl, da, _, 0, 0, rfl, rfl, s56 _ _ h4, ?_, ?_⟩
    · unfold ixN
      rw [if_pos (by decide), if_pos (by rw [List.length_append]; show (0 : Int) < ((dxs.length + 1 : Nat) : Int); omega)]
      rfl
    have s7 : Same H1 (upd (upd (upd H4 p5 (.tup [V.int 0])) p6 (.tup [V.ref p5])) da (.lst ((dxs ++ [V.ref p]).set 0 (V.ref p6)))) := Same.mut (s4.trans s56) nda
    generalize upd (upd (upd H4 p5 (.tup [V.int 0])) p6 (.tup [V.ref p5])) da (.lst ((dxs ++ [V.ref p]).set 0 (V.ref p6))) = H7 at s7
    have s17 := s1.trans s7
    refine ⟨_, rfl, v, n, b :: bs, rfl, hfam.same s17, ok.walk, fun ea exs H8 nea s8 hea hex => ?_⟩
    rw [ok.eqr] at hex
    have s18 := s17.trans s8
    refine ⟨_, rfl, _, _, _, rfl, rows_dq hea hex ok.sm, rows_dq (s18 _ _ hra) (Rws.same s18 hrx) ok.sm, _, rfl, iteT ?_⟩
    -- list(walk_partitions(family))
    refine ⟨_, rfl, _, _, ⟨v, n, b :: bs, rfl, hfam.same s18, ok.walk, rfl, rfl⟩, ?_, fun S nS => ⟨fun h => h nS, ?_⟩⟩
    · rw [List.length_map]
      exact Nat.le_trans ok.walk.rows (by decide)
    · rw [ok.eqr]
      refine ⟨fun (outs : List Out) (ys : List V) (H' : Hp) => ∃ rr done : List (List (List Int)), outs = rr.map outRow ∧ done ++ rr = rows ∧ Same H8 H' ∧ H' S = some (.lst ys) ∧ Rws H' ys done, ⟨rows, [], rfl, rfl, Same.new nS, upd_same, .nil⟩, fun q r ys H' hq hS x H9 s9 hx => ?_, fun ys H' H9 hq s9 => ?_⟩
      · obtain ⟨rr, done, e1, e2, s', h', hd⟩ := hq
        cases rr with
        | nil => cases e1
        | cons row rr =>
        injection e1 with e1 e1'
        subst e1 e1'
        have h9 := s9 _ _ h'
        exact ⟨rr, done ++ [row], rfl, by rw [← e2]; simp, Same.mut (s'.trans s9) nS, upd_same, (stab_rw S).paired h9 (paired_snoc (Rws.same s9 hd) hx)⟩
      · obtain ⟨rr, done, e1, e2, s', h', hd⟩ := hq
        obtain rfl : rr = [] := List.map_eq_nil_iff.mp e1.symm
        rw [List.append_nil] at e2
        subst e2
        have s19 := s18.trans (s'.trans s9)
        refine ⟨_, rfl, _, _, _, rfl, rows_dq (s9 _ _ h') (Rws.same s9 hd) ok.sm, rows_dq (s19 _ _ hra) (Rws.same s19 hrx) ok.sm, ?_⟩
        exact k _ s19
end
end NA
/-! _law_listed. -/
namespace NA
open PySem PySem.Spec PyProof.Rows L2
def lastE (n : Nat) (rows : List (List (List Int))) : Ways := if 0 < rows.length then [(rng n, (rows.length : Int))] else []
/-- what _law_listed asks -/
structure OkLst (n : Nat) (bs : List (Nat × Rooms)) (rows : List (List (List Int))) : Prop where
  led : OkLed (bs.map (·.2))
  len : bs.length ≤ 900
  ne : bs ≠ []
  last : entries (waysAt (bs.map (·.2)) (bs.map (·.2)).length) = lastE n rows
  prod : OkProd n bs
  zero : (prodAt (bs.map (·.2)) (bs.length - 1)).length = 0
  sm : ∀ es ∈ covers (bs.map (·.2)), es.length ≤ 100000 ∧ ∀ e ∈ es, e.1.length ≤ 1000
  n1000 : n ≤ 1000
theorem En.dq {H : Hp} {v : V} {e : List Int × Int} (h : En H v e) (hl : e.1.length ≤ 1000) : Dq H 2 v (encE e) := by
  obtain ⟨t, x, rfl, ht, hx⟩ := h
  exact .inr ⟨t, _, [encR e.1, .int e.2], rfl, by show 2 ≤ 1000000; decide, .cons (hx.dq (Nat.le_trans hl (by decide))) (.cons (dq_int _) .nil), .inr ⟨ht, rfl⟩⟩
theorem EnL.dq {H : Hp} {v : V} {es : Ways} (h : EnL H v es) (h1 : es.length ≤ 100000) (h2 : ∀ e ∈ es, e.1.length ≤ 1000) : Dq H 3 v (encEs es) := by
  obtain ⟨a, xs, rfl, ha, hx⟩ := h
  refine .inr ⟨a, xs, es.map encE, rfl, by rw [List.length_map]; exact Nat.le_trans h1 (by decide), ?_, .inl ⟨ha, rfl⟩⟩
  have go : ∀ {xs : List V} {es : Ways}, (∀ e ∈ es, e.1.length ≤ 1000) → Paired (En H) xs es → Paired (Dq H 2) xs (es.map encE) := by
    intro xs es hr h
    induction h with
    | nil => exact .nil
    | cons q t ih => exact .cons (q.dq (hr _ List.mem_cons_self)) (ih fun r h => hr r (List.mem_cons_of_mem _ h))
  exact go h2 hx
theorem led_dq {H : Hp} {a : Addr} {xs : List V} {ls : List Ways} (ha : H a = some (.lst xs)) (hx : Paired (EnL H) xs ls) (hl : ls.length ≤ 100000) (sm : ∀ es ∈ ls, es.length ≤ 100000 ∧ ∀ e ∈ es, e.1.length ≤ 1000) : Dq H 4 (.ref a) (.list (ls.map encEs)) := by
  refine .inr ⟨a, xs, ls.map encEs, rfl, by rw [List.length_map]; exact Nat.le_trans hl (by decide), ?_, .inl ⟨ha, rfl⟩⟩
  have go : ∀ {xs : List V} {ls : List Ways}, (∀ es ∈ ls, es.length ≤ 100000 ∧ ∀ e ∈ es, e.1.length ≤ 1000) → Paired (EnL H) xs ls → Paired (Dq H 3) xs (ls.map encEs) := by
    intro xs es hr h
    induction h with
    | nil => exact .nil
    | cons q t ih => exact .cons (q.dq (hr _ List.mem_cons_self).1 (hr _ List.mem_cons_self).2) (ih fun r h => hr r (List.mem_cons_of_mem _ h))
  exact go sm hx
theorem stab_ent (D : Addr) : Stab D EnT := ⟨fun s h => h.same s, fun {H v d xs ys} hD h => by
  obtain ⟨t, zs, e, h, p⟩ := h
  refine ⟨t, zs, e, ?_, (stab_en D).paired hD p⟩
  rw [upd_ne (fun z => by rw [z, hD] at h; cases h)]
  exact h⟩
theorem lastSum_eq {n : Nat} {bs : List (Nat × Rooms)} {rows : List (List (List Int))} (ok : OkLst n bs rows) : lastSum (bs.map (·.2)) = (rows.length : Nat) := by
  unfold lastSum
  rw [ok.last]
  unfold lastE
  by_cases h : 0 < rows.length
  · rw [if_pos h]
    show (rows.length : Int) + 0 = _
    rw [Int.add_zero]
  · rw [if_neg h]
    have : rows.length = 0 := by omega
    rw [this] <;> rfl
section
variable {P : Program} {w : World} {K : PySem.W.Frag} {mg : Str → Option Value} {base : Heap} {CB CF : Addr}
abbrev sListed : Stmt := top 47
abbrev nListed : List Str := ["_law_family", "_law_n", "_law_books", "_law_rows", "_law_lists", "_law_told", "_law_last", "_law_one"]
def spListed (CB CF : Addr) : Sp := fun vs H Q _ => ∃ (v : V) (n : Nat) (u y : V) (bs : List (Nat × Rooms)) (rows : List (List (List Int))), vs = [v, .int n, u, y] ∧ FamAt CB CF H v n bs ∧ BkL H u (bs.map (·.2)) ∧ RwL H y rows ∧ OkLst n bs rows ∧ ∀ H', Same H H' → Q (.bl true) H'
theorem scListed : FnScope nListed ["_law_family", "_law_n", "_law_books", "_law_rows"] (defScope sListed) := ⟨rfl, rfl, rfl, by decide +kernel, rfl, by decide +kernel, by decide +kernel⟩
theorem ok_listed (F : DefC K mg "_law_listed" sListed ["_law_family", "_law_n", "_law_books", "_law_rows"]) (B : Bl mg) (cV : Cal P w K mg base 2 "_law_covers" spCovers) (cL : Cal P w K mg base 3 "ledger" (spLedger CB CF)) (cS : ∀ k : Nat, Cal P w K mg base (k + 1) "_law_same" (spSame k))
    (cP : Cal P w K mg base 5 "parity" (spParity CB CF)) (cK : Cal P w K mg base 4 "check_ledger" (spCheck CB CF)) : Cal P w K mg base 6 "_law_listed" (spListed CB CF) := by
  refine cal_mk F scListed (fun vs H Q E h => ?_) (fun f cdv A outer sh H vs Q E hr h => ?_)
  · obtain ⟨v, n, u, y, bs, rows, rfl, _⟩ := h
    rfl
  · obtain ⟨v, n, u, y, bs, rows, rfl, hfam, hbk, ⟨ra, rxs, rfl, hra, hrx⟩, ok, k⟩ := h
    have nd := scListed.nd
    have hlb : (bs.map (fun c : Nat × Rooms => c.2)).length = bs.length := List.length_map _
    refine ⟨_, pss_cons (ps_set (i := 4) nd rfl (Or.inl rfl) (pe_c cV hr (by decide) (pa_cons (pv 2) pa_nil)))
      (pss_cons (ps_set (i := 5) nd rfl (Or.inl rfl) (pe_c cL hr (by decide) (pa_cons (pv 0) pa_nil)))
      (pss_cons (ps_if (pt_not (pt_val (pe_c (cS 4) hr (by decide) (pa_cons (pv 5) (pa_cons (pv 4) pa_nil))))) pss_never pss_nil)
      (pss_cons (ps_expr (pe_bm PySem.F.plainAttrs_list PySem.F.slot_list_append PySem.F.type_list_append mt_append (pe_ix ix_list (pv 5) (pe_un un_neg pe_int) (fun _ _ => rfl)) (pa_cons (pe_tup (pa_cons (pe_tup (pa_cons pe_int pa_nil)) (pa_cons pe_int pa_nil))) pa_nil)))
      (pss_cons (ps_asg (pe_lst pa_nil) (pg_sub (pv 5) pe_int set_list))
      (pss_cons (ps_set (i := 5) nd rfl (Or.inl rfl) (pe_c cL hr (by decide) (pa_cons (pv 0) pa_nil)))
      (pss_cons (ps_set (i := 6) nd rfl (Or.inl rfl) (pe_lst pa_nil))
      (Evl.pss_cut (ps_if (pt_cmpR op_gt (b_len B (pv 3)) pe_int (nomark _)) (pss_one (ps_set (i := 6) nd rfl (Or.inl rfl) (pe_lst (pa_cons (pe_tup (pa_cons (pe_tupRg rfl rfl B.tuple (prg_1 rfl B.range (pv 1))) (pa_cons (b_len B (pv 3)) pa_nil))) pa_nil)))) pss_nil)
      (pss_cons (ps_if (PW.pt (pw_or (pt_not (pt_val (pe_c (cS 4) hr (by decide) (pa_cons (pv 5) (pa_cons (pv 4) pa_nil))))) (pw_or (pt_not (pt_val (pe_c (cS 3) hr (by decide) (pa_cons (pe_ix ix_list (pv 5) (pe_un un_neg pe_int) (fun _ _ => rfl)) (pa_cons (pv 6) pa_nil))))) (pw_or1 (pt_not (pt_val (pe_c (cS 0) hr (by decide) (pa_cons (pe_c cP hr (by decide) (pa_cons (pv 0) pa_nil)) (pa_cons pe_int pa_nil))))))))) pss_never pss_nil)
      (pss_cons (ps_if (pt_not (pt_val (pe_c (cS 0) hr (by decide) (pa_cons (pe_c cK hr (by decide) (pa_cons (pv 0) (pa_cons (pv 4) pa_nil))) (pa_cons (b_len B (pv 3)) pa_nil))))) pss_never pss_nil)
      (pss_one (ps_ret (pe_c (cS 0) hr (by decide) (pa_cons (pe_c cK hr (by decide) (pa_cons (pv 0) (pa_cons (b_tuple B (pe_lc (own := [("_law_one", 7)]) (g := gName 7) (tt := tYes) (te := tCB (rTupQ K) (tCons (tVar 7) tNil)) rfl nd (pi_list (pv 4))
        (blkOk_by (N := nListed) (sc := defScope sListed) (by decide +kernel)) (fun _ _ _ _ _ => pg_name (i := 7) nd rfl (Or.inl rfl)) (fun _ _ _ _ _ => pts_nil) (fun _ _ _ _ _ => b_tuple B (pv 7)))) pa_nil))) (pa_cons (b_len B (pv 3)) pa_nil)))))))))))))), ?_⟩
    have hbl : bs.length ≤ 1000 := by have := ok.len; omega
    have hcl : (covers (bs.map (fun c : Nat × Rooms => c.2))).length ≤ 100000 := by rw [covers_len, hlb]; omega
    have hcov : ∀ es ∈ covers (bs.map (fun c : Nat × Rooms => c.2)), es.length ≤ 100000 := fun es he => (ok.sm es he).1
    -- the law's lists
    refine ⟨_, rfl, u, bs.map (·.2), rfl, hbk, ok.led, by rw [hlb]; exact hbl, fun la lxs H1 nla s1 hla hlx => ?_⟩
    have hlx1 : Paired (EnL H1) lxs (covers (bs.map (fun c : Nat × Rooms => c.2))) := Paired.mono' (fun _ _ z => z.enl) hlx
    refine ⟨_, rfl, v, n, bs, rfl, hfam.same s1, ok.led, hbl, fun da dxs H2 nda s2 hda hdx => ?_⟩
    have hlx2 : Paired (EnL H2) lxs (covers (bs.map (fun c : Nat × Rooms => c.2))) := Paired.mono' (fun _ _ z => z.same s2) hlx1
    have hdx2 : Paired (EnL H2) dxs (covers (bs.map (fun c : Nat × Rooms => c.2))) := Paired.mono' (fun _ _ z => z.enl) hdx
    refine ⟨_, rfl, _, rfl, _, _, _, rfl, led_dq hda hdx2 hcl ok.sm, led_dq (s2 _ _ hla) hlx2 hcl ok.sm, _, rfl, iteF ?_⟩
    -- told[-1].append
    have hdl : dxs.length = bs.length + 1 := by rw [paired_len hdx, covers_len, hlb]
    obtain ⟨pv', hpv, hpm⟩ := paired_get' hdx (covers_last (bs.map (fun c : Nat × Rooms => c.2)))
    rw [hlb] at hpv
    obtain ⟨pa, pxs, rfl, npa, hpa, hpx⟩ := hpm
    have hpl : pxs.length ≤ 100000 := by rw [paired_len hpx]; exact hcov _ (List.mem_of_getElem? (covers_last _))
    refine ⟨_, rfl, 1, rfl, da, dxs, _, .ref pa, rfl, rfl, SqL.mk hda, atI_end hdl hpv, Or.inl ⟨rfl, _, SqL.mk hpa⟩, by decide, fun p1 n1 => ⟨by show 2 ≤ sizeLine; decide, fun p2 n2 => ?_⟩⟩
    have t1 := Same.new (o := .tup [V.int 0]) n1
    have t2 := Same.new (o := .tup [V.ref p1, V.int 3]) n2
    have t12 := t1.trans t2
    refine ⟨pa, pxs, _, rfl, rfl, t12 _ _ hpa, Nat.lt_of_le_of_lt hpl (by decide), ?_⟩
    have s3 : Same H1 (upd (upd (upd H2 p1 (.tup [V.int 0])) p2 (.tup [V.ref p1, V.int 3])) pa (.lst (pxs ++ [V.ref p2]))) := Same.mut (s2.trans t12) npa
    have h3 : ∃ zs, (upd (upd (upd H2 p1 (.tup [V.int 0])) p2 (.tup [V.ref p1, V.int 3])) pa (.lst (pxs ++ [V.ref p2]))) da = some (.lst zs) ∧ 0 < zs.length := by
      by_cases e : da = pa
      · refine ⟨pxs ++ [V.ref p2], by rw [e, upd_same], by rw [List.length_append]; exact Nat.succ_pos _⟩
      · refine ⟨dxs, by rw [upd_ne e]; exact t12 _ _ hda, by omega⟩
    generalize upd (upd (upd H2 p1 (.tup [V.int 0])) p2 (.tup [V.ref p1, V.int 3])) pa (.lst (pxs ++ [V.ref p2])) = H3 at s3 h3
    obtain ⟨zs, hz, hzl⟩ := h3
    -- told[0] = []
    refine ⟨by decide, fun p3 n3 => ?_⟩
    have t3 := Same.new (o := .lst []) n3
    refine ⟨_, rfl, da, zs, 0, 0, rfl, rfl, t3 _ _ hz, ?_, ?_⟩
    · unfold ixN
      rw [if_pos (by decide), if_pos (by show (0 : Int) < ((zs.length : Nat) : Int); omega)]
      rfl
    have s4 : Same H1 (upd (upd H3 p3 (.lst [])) da (.lst (zs.set 0 (V.ref p3)))) := Same.mut (s3.trans t3) nda
    generalize upd (upd H3 p3 (.lst [])) da (.lst (zs.set 0 (V.ref p3))) = H4 at s4
    have s14 := s1.trans s4
    -- the ledger again
    refine ⟨_, rfl, v, n, bs, rfl, hfam.same s14, ok.led, hbl, fun ea exs H5 nea s5 hea hex => ?_⟩
    have s15 := s14.trans s5
    have s45 := s4.trans s5
    have hex5 : Paired (EnL H5) exs (covers (bs.map (fun c : Nat × Rooms => c.2))) := Paired.mono' (fun _ _ z => z.enl) hex
    refine ⟨by decide, fun p6 n6 => ?_⟩
    have t6 := Same.new (o := .lst []) n6
    have h6 : (upd H5 p6 (.lst [])) p6 = some (.lst []) := upd_same
    generalize upd H5 p6 (.lst []) = H6 at t6 h6
    have s16 := s15.trans t6
    have hrl : rxs.length = rows.length := paired_len hrx
    -- the cut
    refine ⟨fun σ H' => ∃ lv, σ = [some v, some (.int n), some u, some (.ref ra), some (.ref la), some (.ref ea), some lv, none] ∧ Same H6 H' ∧ EnL H' lv (lastE n rows), ?_, ?_⟩
    · refine ⟨_, rfl, ra, rxs, rfl, Or.inl (SqL.mk (s16 _ _ hra)), _, _, rfl, rfl, _, rfl, ?_⟩
      rw [hrl]
      refine ite2 (fun hh => ?_) (fun hh => ?_)
      · have hh' : 0 < rows.length := by have := of_decide_eq_true hh; omega
        have hn := ok.n1000
        refine ⟨_, rfl, n, rfl, ⟨by omega, by omega, by omega, by omega, by omega⟩, fun q1 m1 => ?_⟩
        rw [rgV_rng]
        have t7 := Same.new (o := .tup ((rng n).map V.int)) m1
        refine ⟨_, rfl, ra, rxs, rfl, Or.inl (SqL.mk ((s16.trans t7) _ _ hra)), ?_⟩
        refine ⟨by show 2 ≤ sizeLine; decide, fun q2 m2 => ⟨by show 1 ≤ sizeLine; decide, fun q3 m3 => ?_⟩⟩
        have t8 := Same.new (o := .tup [V.ref q1, V.int (rxs.length : Nat)]) m2
        have t9 := Same.new (o := .lst [V.ref q2]) m3
        refine ⟨_, rfl, (t7.trans t8).trans t9, q3, _, rfl, upd_same, ?_⟩
        unfold lastE
        rw [if_pos hh']
        exact .cons ⟨q2, .ref q1, rfl, by rw [t9 _ _ upd_same, hrl], ⟨q1, rfl, t9 _ _ (t8 _ _ upd_same)⟩⟩ .nil
      · have hh' : ¬ 0 < rows.length := fun z => hh (decide_eq_true (by omega))
        refine ⟨_, rfl, Same.refl _, p6, [], rfl, h6, ?_⟩
        unfold lastE
        rw [if_neg hh']
        exact .nil
    · rintro σ H7 ⟨lv, rfl, s7, hlv⟩
      have s17 := s16.trans s7
      have s57 := t6.trans s7
      have s47 := s45.trans s57
      have hex7 : Paired (EnL H7) exs (covers (bs.map (fun c : Nat × Rooms => c.2))) := Paired.mono' (fun _ _ z => z.same s57) hex5
      have hlx7 : Paired (EnL H7) lxs (covers (bs.map (fun c : Nat × Rooms => c.2))) := Paired.mono' (fun _ _ z => z.same s47) hlx1
      have hel : exs.length = bs.length + 1 := by rw [paired_len hex, covers_len, hlb]
      obtain ⟨ev', hev, hem⟩ := paired_get' hex7 (covers_last (bs.map (fun c : Nat × Rooms => c.2)))
      rw [hlb] at hev
      rw [ok.last] at hem
      have hsl : (lastE n rows).length ≤ 100000 ∧ ∀ e ∈ lastE n rows, e.1.length ≤ 1000 := by
        rw [← ok.last]
        exact ok.sm _ (List.mem_of_getElem? (covers_last _))
      have hfam7 := hfam.same s17
      refine ⟨_, rfl, _, rfl, _, _, _, rfl, led_dq (s57 _ _ hea) hex7 hcl ok.sm, led_dq (s47 _ _ hla) hlx7 hcl ok.sm, _, rfl, ?_⟩
      refine iteF ?_
      refine ⟨_, rfl, 1, rfl, ea, exs, _, ev', rfl, rfl, SqL.mk (s57 _ _ hea), atI_end hel hev, _, rfl, _, _, _, rfl, hem.dq hsl.1 hsl.2, hlv.dq hsl.1 hsl.2, _, rfl, ?_⟩
      refine iteF ?_
      refine ⟨_, rfl, v, n, bs, rfl, hfam7, ok.ne, hbl, ok.prod, by have := ok.zero; omega, fun H8 s8 => ?_⟩
      rw [ok.zero]
      refine ⟨_, _, _, rfl, dq_int _, dq_int _, _, rfl, iteF ?_⟩
      -- check_ledger(family, lists)
      have s18 := s17.trans s8
      have s48 := s47.trans s8
      have hlx8 : Paired (EnL H8) lxs (covers (bs.map (fun c : Nat × Rooms => c.2))) := Paired.mono' (fun _ _ z => z.same s8) hlx7
      refine ⟨_, rfl, _, rfl, v, n, bs, la, lxs, rfl, hfam.same s18, ok.led, hbl, Or.inl ⟨s48 _ _ hla, hlx8⟩, hcov, fun H9 s9 => ?_⟩
      rw [lastSum_eq ok]
      have s19 := s18.trans s9
      have s49 := s48.trans s9
      refine ⟨_, rfl, ra, rxs, rfl, Or.inl (SqL.mk (s19 _ _ hra)), _, _, _, rfl, dq_int _, by rw [hrl]; exact dq_int _, _, rfl, iteF ?_⟩
      -- .. as tuples
      refine ⟨_, rfl, _, rfl, la, rfl, ⟨lxs, SqL.mk (s49 _ _ hla)⟩, fun D hD => ?_⟩
      have hlx9 : Paired (EnL H9) lxs (covers (bs.map (fun c : Nat × Rooms => c.2))) := Paired.mono' (fun _ _ z => z.same s9) hlx8
      refine lc_build walk_list (covers (bs.map (fun c : Nat × Rooms => c.2))) (paired_len hlx9) (fun es => [es]) (stab_ent D) hcl hD (fun H3 s3 => SqL.mk (s3 _ _ (s49 _ _ hla))) (fun i s x HA HB k1 k0 ei sA y q1 q0 => ?_) (fun ys HA sA hy hp => ?_)
      · obtain ⟨rfl, hy⟩ := y
        obtain ⟨es, he, hm⟩ := paired_get hlx9 hy
        obtain rfl : es = s := by rw [ei] at he; exact (Option.some.inj he).symm
        obtain ⟨xa, xxs, rfl, hxa, hxx⟩ := hm.same sA
        refine ⟨rfl, yesT ⟨_, rfl, xa, xxs, rfl, SqL.mk hxa, fun l nl => ?_⟩⟩
        have tA := Same.new (o := .tup xxs) nl
        exact q1 _ _ tA es rfl ⟨l, xxs, rfl, upd_same, Paired.mono' (fun _ _ z => z.same tA) hxx⟩
      · rw [flatMap_one, List.map_id'] at hp
        have s1A := s19.trans sA
        refine ⟨D, ys, rfl, SqL.mk hy, fun tp ntp => ?_⟩
        have tB := Same.new (o := .tup ys) ntp
        have s1B := s1A.trans tB
        refine ⟨v, n, bs, tp, ys, rfl, hfam.same s1B, ok.led, hbl, Or.inr ⟨upd_same, Paired.mono' (fun _ _ z => z.same tB) hp⟩, hcov, fun HC sC => ?_⟩
        rw [lastSum_eq ok]
        have s1C := s1B.trans sC
        exact ⟨_, rfl, ra, rxs, rfl, Or.inl (SqL.mk (s1C _ _ hra)), _, _, _, rfl, dq_int _, by rw [hrl]; exact dq_int _, k _ s1C⟩
end
end NA
/-! _law_joined. -/
namespace NA
open PySem PySem.Spec PyProof.Rows L2
/-- the rooms with an odd number -/
def oddE (es : Ways) : Rooms := (es.filter fun e => decide (e.2 % 2 = 1)).map (·.1)
/-- what _law_joined asks -/
structure OkJoin (n : Nat) (bs : List (Nat × Rooms)) : Prop where
  led : OkLed (bs.map (·.2))
  len : bs.length ≤ 900
  ne : bs ≠ []
  prod : OkProd n bs
  due : ∀ j, j < bs.length → oddE (entries (waysAt (bs.map (·.2)) (j + 1))) = prodAt (bs.map (·.2)) j
  tog : ∀ j, j < bs.length → ∀ e ∈ togs (prodAt (bs.map (·.2)) j), e.2 ≠ 1
  ev : ∀ j, j < bs.length → EvB (prodAt (bs.map (·.2)) j)
  few : ∀ j, j < bs.length → (prodAt (bs.map (·.2)) j).length ≤ 100000
  sm : ∀ es ∈ covers (bs.map (·.2)), es.length ≤ 100000
  zero : (prodAt (bs.map (·.2)) (bs.length - 1)).length = 0
theorem rd_lslL {K : PySem.W.Frag} {H : Hp} {a : Addr} {xs : List V} {Q : VK} (h : H a = some (.lst xs)) (k : Nat) (hk : k ≤ xs.length) (q : ∀ p H', Same H H' → H' p = some (.lst (xs.take k)) → Q (.ref p) H') : rSlL K (.ref a) none (some (k : Int)) H Q := by
  refine ⟨a, xs, rfl, SqL.mk h, fun p hp => q p _ (Same.new hp) ?_⟩
  rw [upd_same]
  unfold cutV
  rw [HT.sIx_none, HT.sIx_nat, Nat.min_eq_left hk] <;> rfl
theorem covers_at {bs : List Rooms} {j : Nat} (h : j ≤ bs.length) : (covers bs)[j]? = some (entries (waysAt bs j)) := by
  unfold covers
  rw [List.getElem?_map, List.getElem?_range (by omega)] <;> rfl
section
variable {P : Program} {w : World} {K : PySem.W.Frag} {mg : Str → Option Value} {base : Heap} {CB CF : Addr}
abbrev sJoined : Stmt := top 48
abbrev nJoined : List Str := ["_law_family", "_law_n", "_law_sizes_here", "_law_books", "_law_lists", "_law_whole", "_law_at", "_law_due", "_law_room", "_law_number"]
def spJoined (CB CF : Addr) : Sp := fun vs H Q _ => ∃ (v : V) (n : Nat) (z u : V) (bs : List (Nat × Rooms)), vs = [v, .int n, z, u] ∧ FamAt CB CF H v n bs ∧ InL H z (bs.map fun b => (b.1 : Int)) ∧ BkL H u (bs.map (·.2)) ∧ OkJoin n bs ∧ ∀ H', Same H H' → Q (.bl true) H'
theorem scJoined : FnScope nJoined ["_law_family", "_law_n", "_law_sizes_here", "_law_books"] (defScope sJoined) := ⟨rfl, rfl, rfl, by decide +kernel, rfl, by decide +kernel, by decide +kernel⟩
theorem ok_joined (F : DefC K mg "_law_joined" sJoined ["_law_family", "_law_n", "_law_sizes_here", "_law_books"]) (B : Bl mg) (T : TC K mg CB CF) (cV : Cal P w K mg base 2 "_law_covers" spCovers) (cS : ∀ k : Nat, Cal P w K mg base (k + 1) "_law_same" (spSame k))
    (cO : Cal P w K mg base 2 "_law_odd_faces" spOf) (cE : Prp P w K mg base 4 CB "is_even" (spIsEven CB)) (cG : Mtd P w K mg base 1 CF "__getitem__" (spFGet CB CF)) (hfn : ∀ f, Meth K CF "__getitem__" f → PySem.W.fnIn K f = true) (cM : Mtd P w K mg base 4 CB "__mul__" (spMul CB)) (cL : Mtd P w K mg base 1 CB "__len__" (spBLen CB)) :
    Cal P w K mg base 6 "_law_joined" (spJoined CB CF) := by
  refine cal_mk F scJoined (fun vs H Q E h => ?_) (fun f cdv A outer sh H vs Q E hr h => ?_)
  · obtain ⟨v, n, z, u, bs, rfl, _⟩ := h
    rfl
  · obtain ⟨v, n, z, u, bs, rfl, hfam, ⟨za, rfl, hza⟩, hbk, ok, k⟩ := h
    have nd := scJoined.nd
    have hlb : (bs.map (fun c : Nat × Rooms => c.2)).length = bs.length := List.length_map _
    obtain ⟨fG, fdG, psG, FG, mG, bG⟩ := cG.ex
    obtain ⟨fM, fdM, psM, FM, mM, bM⟩ := cM.ex
    obtain ⟨fL, fdL, psL, FL, mL, bL⟩ := cL.ex
    refine ⟨_, pss_cons (ps_set (i := 4) nd rfl (Or.inl rfl) (pe_c cV hr (by decide) (pa_cons (pv 3) pa_nil)))
      (pss_cons (ps_set (i := 5) nd rfl (Or.inl rfl) (pe_subOwn (pv 0) pe_int mG (hfn _ mG) FG (hr.mono (by decide)) bG (fun _ _ => rfl)))
      (pss_cons (ps_for PassesOwn.never rfl (pi_range1 rfl B.range (pa_cons (b_len B (pv 2)) pa_nil)) (pg_name (i := 6) nd rfl (Or.inl rfl))
        (Evl.pss_cut (ps_if (pt_cmpR op_gt (pv 6) pe_int (nomark _)) (pss_one (ps_set (i := 5) nd rfl (Or.inl rfl) (pe_op (op_mulOwn mM T.sf FM (hr.mono (by decide)) bM) (pv 5) (pe_subOwn (pv 0) (pv 6) mG (hfn _ mG) FG (hr.mono (by decide)) bG (fun _ _ => rfl))))) pss_nil)
        (pss_cons (ps_setLc (i := 7) (own := [("_law_room", 8), ("_law_number", 9)]) (g := gTup K 2 (gCons (gName 8) (gCons (gName 9) gNil))) rfl nd rfl rfl (sw_true rfl rfl rfl (by decide +kernel)) (pi_list (pe_ix ix_list (pv 4) (pe_op op_add (pv 6) pe_int) (fun _ _ => rfl)))
          (blkOk_by (N := nJoined) (sc := defScope sJoined) (by decide +kernel)) (fun _ _ _ _ _ => pg_tup rfl (pgs_cons (pg_name (i := 8) nd rfl (Or.inl rfl)) (pgs_cons (pg_name (i := 9) nd rfl (Or.inl rfl)) pgs_nil))) (fun _ _ _ _ _ => pts_one (pt_cmpR op_eq (pe_op op_mod (b_int B (pv 9)) pe_int) pe_int (nomark _))) (fun _ _ _ _ _ => pv 8))
        (pss_cons (ps_if (PW.pt (pw_or (pt_not (pt_val (pe_callB call_isi rfl B.isinstance (by decide +kernel) (pa_cons (pv 5) (pa_cons (pe_glob (v := .ref CB) rfl T.mgB rfl) pa_nil))))) (pw_or1 (pt_cmpR op_gt (b_len B (pe_c cO hr (by decide) (pa_cons (pv 7) pa_nil))) pe_int (nomark _))))) pss_never pss_nil)
        (pss_cons (ps_if (pt_not (pt_val (pe_c (cS 3) hr (by decide) (pa_cons (pe_lst (pa_cons (pe_fld (pv 5) rfl) (pa_cons (pe_fld (pv 5) rfl) (pa_cons (pe_fld (pv 5) rfl) pa_nil))))
          (pa_cons (pe_lst (pa_cons (pv 1) (pa_cons (b_sum B (pe_slice sl_list (pv 2) po_none (po_some (pe_op op_add (pv 6) pe_int)))) (pa_cons (b_tuple B (pv 7)) pa_nil)))) pa_nil))))) pss_never pss_nil)
        (pss_one (ps_if (pt_not (pt_val (pe_c (cS 0) hr (by decide) (pa_cons (pe_pr cE T.clB hr (by decide) (pv 5)) (pa_cons pe_bl pa_nil))))) pss_never pss_nil)))))))
      (pss_one (ps_ret (pe_cmpR op_eq (pe_callB (cr_lenOwn mL FL (hr.mono (by decide)) bL) rfl B.len PySem.boot_len (pa_cons (pv 5) pa_nil)) pe_int (nomark _)))))), ?_⟩
    have hbl : bs.length ≤ 1000 := by have := ok.len; omega
    have hpos : 0 < bs.length := List.length_pos_iff.mpr ok.ne
    refine ⟨_, rfl, u, bs.map (·.2), rfl, hbk, ok.led, by rw [hlb]; exact hbl, fun la lxs H1 nla s1 hla hlx => ?_⟩
    have hlx1 : Paired (EnL H1) lxs (covers (bs.map (fun c : Nat × Rooms => c.2))) := Paired.mono' (fun _ _ z => z.enl) hlx
    obtain ⟨b0, hb0⟩ : ∃ b0, bs[0]? = some b0 := ⟨bs[0], by simp [hpos]⟩
    obtain ⟨a, dx, tb, xb, rfl, ha, htb, hxb⟩ := id hfam
    refine ⟨_, rfl, a, dx, _, rfl, s1 _ _ ha, .ref a, n, bs, 0, b0, rfl, hfam.same s1, hb0, fun w0 hw0 => ?_⟩
    have hzl : ((bs.map fun b : Nat × Rooms => (b.1 : Int)).map V.int).length = bs.length := by rw [List.length_map, List.length_map]
    refine ⟨_, rfl, za, _, rfl, Or.inl (SqL.mk (s1 _ _ hza)), _, rfl, by rw [hzl]; omega, by rw [hzl]; omega, ?_⟩
    rw [hzl]
    refine for_range (lo := 0) (n := ((bs.length : Nat) : Int).toNat) (fun i σ H' => ∃ wv c d, σ = [some (.ref a), some (.int n), some (.ref za), some u, some (.ref la), some wv, c, d, none, none] ∧ Same H1 H' ∧ BookAt CB H' wv n (sumS (bs.take (i - 1 + 1)), prodAt (bs.map (·.2)) (i - 1)))
      ⟨w0, none, none, rfl, Same.refl _, ?_⟩ ?_ ?_
    · have e : (sumS (bs.take 1), prodAt (bs.map (·.2)) 0) = b0 := by
        cases bs with
        | nil => cases hb0
        | cons c cs =>
          cases hb0
          exact Prod.ext (by simp [sumS]) rfl
      show BookAt CB H1 w0 n (sumS (bs.take 1), prodAt (bs.map (·.2)) 0)
      rw [e]
      exact hw0
    · rintro i σ H2 hi ⟨wv, c, d, rfl, s2, hwv⟩
      have hil : i < bs.length := by omega
      rw [Int.zero_add]
      refine ⟨fun σ H' => ∃ wv, σ = [some (.ref a), some (.int n), some (.ref za), some u, some (.ref la), some wv, some (.int (i : Nat)), d, none, none] ∧ Same H1 H' ∧ BookAt CB H' wv n (sumS (bs.take (i + 1)), prodAt (bs.map (·.2)) i), ?_, ?_⟩
      · refine ⟨_, rfl, _, _, rfl, rfl, _, rfl, ite2 (fun hh => ?_) (fun hh => ?_)⟩
        · have hh' : 0 < i := by have := of_decide_eq_true hh; omega
          obtain ⟨j, rfl⟩ : ∃ j, i = j + 1 := ⟨i - 1, by omega⟩
          obtain ⟨b, hb⟩ : ∃ b, bs[j + 1]? = some b := ⟨bs[j + 1], by simp [hil]⟩
          have s12 := s1.trans s2
          refine ⟨_, rfl, _, rfl, _, rfl, a, dx, _, rfl, s12 _ _ ha, .ref a, n, bs, j + 1, b, rfl, hfam.same s12, hb, fun y hy => ?_⟩
          obtain ⟨a3, dx3, t3, x3, e3, ha3, ht3, hx3⟩ := id hwv
          obtain ⟨a4, dx4, t4, x4, e4, ha4, ht4, hx4⟩ := id hy
          refine ⟨a3, dx3, _, a4, dx4, _, e3, e4, ha3, ha4, wv, y, n, _, b.1, _, b.2, by rw [e3, e4], hwv, hy, ok.prod j b hb, fun v' H3 s3 h3 => ?_⟩
          refine ⟨v', rfl, s2.trans s3, ?_⟩
          rw [sumS_snoc hb, prodAt_succ (map_get (fun b : Nat × Rooms => b.2) hb)]
          exact h3
        · have hh' : i = 0 := by
            have : ¬ (0 < i) := fun z => hh (decide_eq_true (by show (0 : Int) < (i : Int); omega))
            omega
          subst hh'
          exact ⟨wv, rfl, s2, hwv⟩
      · rintro σ H3 ⟨wv, rfl, s3, hwv⟩
        have hla3 := s3 _ _ hla
        obtain ⟨lv, hlv, hlm⟩ := paired_get' (Paired.mono' (fun _ _ z => z.same s3) hlx1) (covers_at (bs := bs.map (fun c : Nat × Rooms => c.2)) (j := i + 1) (by rw [hlb]; exact hil))
        obtain ⟨ea, exs, rfl, hea, hex⟩ := hlm
        refine ⟨_, rfl, _, rfl, _, _, rfl, rfl, la, lxs, i + 1, .ref ea, rfl, rfl, SqL.mk hla3, atI_nat hlv, ea, rfl, ⟨exs, SqL.mk hea⟩, fun D hD => ?_⟩
        have hsm := ok.sm _ (List.mem_of_getElem? (covers_at (bs := bs.map (fun c : Nat × Rooms => c.2)) (j := i + 1) (by rw [hlb]; exact hil)))
        refine lc_build walk_list (entries (waysAt (bs.map (fun c : Nat × Rooms => c.2)) (i + 1))) (paired_len hex) (fun e => if decide (V.int (e.2 % 2) = V.int 1) = true then [e.1] else []) (stab_rm D) hsm hD (fun H' s => SqL.mk (s _ _ hea)) (fun j e x H4 H' k1 k0 ei s4 y q1 q0 => ?_) (fun ys H4 s4 hy hp => ?_)
        · obtain ⟨rfl, hy⟩ := y
          obtain ⟨e', he, hm⟩ := paired_get hex hy
          obtain rfl : e' = e := by rw [ei] at he; exact (Option.some.inj he).symm
          obtain ⟨t, xr, rfl, ht, hxr⟩ := hm.same s4
          refine ⟨t, _, rfl, SqT.mk ht, rfl, xr, _, rfl, .int e'.2, _, rfl, rfl, rfl, _, rfl, _, rfl, _, _, rfl, rfl, (by show (0 : Int) < 2; decide), rfl, _, rfl, ?_⟩
          refine ite2 (fun hh => ?_) (fun hh => ?_)
          · exact ⟨_, rfl, q1 _ _ (Same.refl _) e'.1 (by rw [if_pos hh]) hxr⟩
          · exact q0 _ (Same.refl _) (by rw [if_neg hh])
        · have e1 : (entries (waysAt (bs.map (fun c : Nat × Rooms => c.2)) (i + 1))).flatMap (fun e => if decide (V.int (e.2 % 2) = V.int 1) = true then [e.1] else []) = prodAt (bs.map (fun c : Nat × Rooms => c.2)) i := by
            rw [flatMap_ifm (fun e : List Int × Int => decide (V.int (e.2 % 2) = V.int 1)) (fun e => e.1), ← ok.due i hil]
            unfold oddE
            congr 2
            funext e
            rw [decI]
          rw [e1] at hp
          have s14 := s3.trans s4
          have hwv4 := hwv.same s4
          obtain ⟨a3, dx3, t3, x3, rfl, ha3, ht3, hx3⟩ := id hwv4
          refine ⟨_, rfl, .ref a3, .ref CB, .ref CB, _, true, rfl, .own CB, .base (.ins ha3 T.clB T.hb1 T.hc1 T.hc2 T.hb2), T.kit, _, rfl, iteF ?_⟩
          have hev := ok.ev i hil
          refine ⟨_, rfl, .ref D, _, rfl, ⟨D, ys, rfl, hy, hp⟩, hev.short, hev.few, ok.tog i hil, fun v5 H5 s5 h5 => ?_⟩
          obtain ⟨p5, ys5, rfl, hp5, hys5⟩ := h5
          cases hys5
          refine ⟨p5, _, rfl, Or.inl (SqL.mk hp5), _, _, rfl, rfl, _, rfl, iteF ?_⟩
          -- [places, size, rooms]
          refine ⟨_, rfl, a3, CB, dx3, _, _, rfl, s5 _ _ ha3, T.clB, T.bP, bkP _ _ _, _, rfl, a3, CB, dx3, _, _, rfl, s5 _ _ ha3, T.clB, T.bS, bkS _ _ _, _, rfl, a3, CB, dx3, _, _, rfl, s5 _ _ ha3, T.clB, T.bR, bkR _ _ _, by show 3 ≤ sizeLine; decide, fun p6 n6 => ?_⟩
          have s6 := Same.new (o := .lst [V.int (n : Nat), V.int (sumS (bs.take (i + 1)) : Nat), V.ref t3]) n6
          have h6 : (upd H5 p6 (.lst [V.int (n : Nat), V.int (sumS (bs.take (i + 1)) : Nat), V.ref t3])) p6 = some (.lst [V.int (n : Nat), V.int (sumS (bs.take (i + 1)) : Nat), V.ref t3]) := upd_same
          generalize upd H5 p6 (.lst [V.int (n : Nat), V.int (sumS (bs.take (i + 1)) : Nat), V.ref t3]) = H6 at s6 h6
          have s16 := (((s1.trans s3).trans s4).trans s5).trans s6
          refine ⟨_, rfl, _, rfl, _, rfl, _, _, rfl, rfl, _, rfl, ?_⟩
          rw [show ((i : Int) + 1) = ((i + 1 : Nat) : Int) from rfl]
          refine rd_lslL (s16 _ _ hza) (i + 1) (by rw [hzl]; exact hil) fun p7 H7 s7 h7 => ?_
          rw [← List.map_take] at h7
          have s57 := s6.trans s7
          refine ⟨p7, _, rfl, SqL.mk h7, ?_⟩
          have esum : ((bs.map fun b : Nat × Rooms => (b.1 : Int)).take (i + 1)).sum = ((sumS (bs.take (i + 1)) : Nat) : Int) := by rw [← List.map_take, sum_sizes]
          rw [esum]
          refine ⟨_, rfl, D, ys, rfl, SqL.mk ((s5.trans s57) _ _ hy), fun p8 n8 => ?_⟩
          have s8 := Same.new (o := .tup ys) n8
          refine ⟨by show 3 ≤ sizeLine; decide, fun p9 n9 => ?_⟩
          have s9 := Same.new (o := .lst [V.int (n : Nat), V.int (sumS (bs.take (i + 1)) : Nat), V.ref p8]) n9
          have s59 := (s57.trans s8).trans s9
          have s79 := (s7.trans s8).trans s9
          have h8 : (upd H7 p8 (.tup ys)) p8 = some (.tup ys) := upd_same
          have hsh : ∀ r ∈ prodAt (bs.map (fun c : Nat × Rooms => c.2)) i, r.length ≤ 1000000 := fun r hr => Nat.le_trans (hev.short r hr) (by decide)
          have hfw : (prodAt (bs.map (fun c : Nat × Rooms => c.2)) i).length ≤ 1000000 := Nat.le_trans (ok.few i hil) (by decide)
          have d1 : Dq (upd (upd H7 p8 (.tup ys)) p9 (.lst [V.int (n : Nat), V.int (sumS (bs.take (i + 1)) : Nat), V.ref p8])) 3 (.ref p6) (.list [.int (n : Nat), .int (sumS (bs.take (i + 1)) : Nat), encRow (prodAt (bs.map (fun c : Nat × Rooms => c.2)) i)]) := by
            refine .inr ⟨p6, _, _, rfl, by show 3 ≤ 1000000; decide, .cons (dq_int _) (.cons (dq_int _) (.cons ?_ .nil)), .inl ⟨s79 _ _ h6, rfl⟩⟩
            exact Rw.dq ⟨t3, x3, rfl, (s5.trans s59) _ _ ht3, Rms.same (s5.trans s59) hx3⟩ hfw hsh
          have d2 : Dq (upd (upd H7 p8 (.tup ys)) p9 (.lst [V.int (n : Nat), V.int (sumS (bs.take (i + 1)) : Nat), V.ref p8])) 3 (.ref p9) (.list [.int (n : Nat), .int (sumS (bs.take (i + 1)) : Nat), encRow (prodAt (bs.map (fun c : Nat × Rooms => c.2)) i)]) := by
            refine .inr ⟨p9, _, _, rfl, by show 3 ≤ 1000000; decide, .cons (dq_int _) (.cons (dq_int _) (.cons ?_ .nil)), .inl ⟨upd_same, rfl⟩⟩
            exact Rw.dq ⟨p8, ys, rfl, s9 _ _ h8, Rms.same (s5.trans s59) hp⟩ hfw hsh
          refine ⟨_, _, _, rfl, d1, d2, _, rfl, iteF ?_⟩
          have s49 := s5.trans s59
          refine ⟨_, rfl, a3, dx3, _, rfl, s49 _ _ ha3, .ref a3, n, _, _, rfl, hwv4.same s49, hev, fun HA sA => ?_⟩
          refine ⟨_, _, .bool true, rfl, (.inr ⟨true, rfl, rfl⟩), (.inr ⟨true, rfl, rfl⟩), _, rfl, iteF ?_⟩
          have s4A := s49.trans sA
          exact ⟨_, _, _, rfl, (s3.trans s4).trans s4A, hwv4.same s4A⟩
    · rintro σ H2 ⟨wv, c, d, rfl, s2, hwv⟩
      have e1 : ((bs.length : Nat) : Int).toNat = bs.length := by omega
      rw [e1] at hwv
      obtain ⟨a3, dx3, t3, x3, e3, ha3, ht3, hx3⟩ := id hwv
      refine ⟨_, rfl, a3, dx3, _, by rw [e3], ha3, wv, n, _, _, by rw [e3], hwv, _, rfl, ⟨by omega, ?_⟩, ?_⟩
      · have := ok.zero
        omega
      · rw [ok.zero]
        exact ⟨rfl, k _ (s1.trans s2)⟩
end
end NA
/-! A family as it should be, and what is asked of it. -/
namespace NA
open PySem PySem.Spec PyProof.Rows L2
structure Fam (n : Nat) (bs : List (Nat × Rooms)) : Prop where
  n1 : 1 ≤ n
  n7 : n ≤ 7
  pos : ∀ b ∈ bs, 1 ≤ b.1
  sum : sumS bs = n
  vb : ∀ b ∈ bs, Vb n b.1 b.2
  ev : ∀ b ∈ bs, EvB b.2
abbrev permB (row : List Int) (bs : List (Nat × Rooms)) : List (Nat × Rooms) := row.map fun k => bs.getD k.toNat (0, [])
abbrev permR (row : List Int) (one : List (List Int)) : List (List Int) := row.map fun k => one.getD k.toNat []
structure PlainK : Prop where
  evn : ∀ n s ws, 1 ≤ s → s ≤ n → n ≤ 7 → ws.Sublist (wholes n s) → Vb n s (evn ws) ∧ EvB (evn ws)
  pb : ∀ n bs, Fam n bs → PB (bs.map (·.2))
  cnt : ∀ n bs, Fam n bs → OkCnt n (bs.map (·.2)) (parts (bs.map (·.2)) [])
  lst : ∀ n bs, Fam n bs → OkLst n bs (parts (bs.map (·.2)) [])
  joi : ∀ n bs, Fam n bs → OkJoin n bs
  turn : ∀ n bs row, Fam n bs → row.Perm (rng bs.length) → srtRow ((parts (bs.map (·.2)) []).map (permR row)) = parts ((permB row bs).map (·.2)) []
theorem sum_ge_len : ∀ {l : List Nat}, (∀ x ∈ l, 1 ≤ x) → l.length ≤ l.sum
  | [], _ => Nat.le_refl _
  | a :: l, h => by
    have h1 := sum_ge_len (l := l) fun x hx => h x (List.mem_cons_of_mem _ hx)
    have h2 := h a List.mem_cons_self
    rw [List.length_cons, List.sum_cons]
    omega
theorem Fam.len {n : Nat} {bs : List (Nat × Rooms)} (F : Fam n bs) : bs.length ≤ n := by
  have h := sum_ge_len (l := bs.map (·.1)) fun x hx => by
    obtain ⟨b, hb, rfl⟩ := List.mem_map.mp hx
    exact F.pos b hb
  rw [List.length_map] at h
  have := F.sum
  unfold sumS at this
  omega
theorem Fam.ne {n : Nat} {bs : List (Nat × Rooms)} (F : Fam n bs) : bs ≠ [] := fun z => by
  have h1 := F.sum
  have h2 := F.n1
  rw [z] at h1
  unfold sumS at h1
  simp at h1
  omega
theorem mem_le_sum : ∀ {l : List Nat} {x : Nat}, x ∈ l → x ≤ l.sum
  | [], _, h => by cases h
  | a :: l, x, h => by
    rw [List.sum_cons]
    rcases List.mem_cons.mp h with h | h
    · omega
    · have := mem_le_sum h
      omega
theorem Fam.le {n : Nat} {bs : List (Nat × Rooms)} (F : Fam n bs) {b : Nat × Rooms} (h : b ∈ bs) : b.1 ≤ n := by
  have := mem_le_sum (l := bs.map (·.1)) (List.mem_map_of_mem h)
  have h2 := F.sum
  unfold sumS at h2
  omega
theorem Fam.perm {n : Nat} {bs bs' : List (Nat × Rooms)} (p : bs'.Perm bs) (F : Fam n bs) : Fam n bs' :=
  ⟨F.n1, F.n7, fun b h => F.pos b (p.mem_iff.mp h), by
    have h := (p.map (fun b : Nat × Rooms => b.1)).sum_nat
    unfold sumS
    rw [h]
    exact F.sum, fun b h => F.vb b (p.mem_iff.mp h), fun b h => F.ev b (p.mem_iff.mp h)⟩
theorem range_get {α : Type} (df : α) (l : List α) : (List.range l.length).map (fun i => l.getD i df) = l := by
  apply List.ext_getElem?
  intro i
  rw [List.getElem?_map]
  by_cases h : i < l.length
  · rw [List.getElem?_range h]
    simp [List.getD, h]
  · rw [List.getElem?_eq_none (by rw [List.length_range]; omega), List.getElem?_eq_none (by omega)] <;> rfl
theorem permB_perm {row : List Int} {bs : List (Nat × Rooms)} (h : row.Perm (rng bs.length)) : (permB row bs).Perm bs := by
  have h1 := h.map (fun k : Int => bs.getD k.toNat (0, []))
  have h2 : (rng bs.length).map (fun k : Int => bs.getD k.toNat (0, [])) = bs := by
    unfold rng
    rw [List.map_map]
    exact range_get (0, []) bs
  rw [h2] at h1
  exact h1
theorem sumS_app (a b : List (Nat × Rooms)) : sumS (a ++ b) = sumS a + sumS b := by
  unfold sumS
  rw [List.map_append, List.sum_append]
theorem replB_mem {bs : List (Nat × Rooms)} {i : Nat} {b c : Nat × Rooms} (h : c ∈ replB bs i b) : c ∈ bs ∨ c = b := by
  unfold replB at h
  rcases List.mem_append.mp h with h | h
  · rcases List.mem_append.mp h with h | h
    · exact .inl (List.mem_of_mem_take h)
    · exact .inr (List.mem_singleton.mp h)
  · exact .inl (List.mem_of_mem_drop h)
theorem Fam.repl {n : Nat} {bs : List (Nat × Rooms)} (F : Fam n bs) {i : Nat} {b : Nat × Rooms} (hi : i < bs.length) (hs : b.1 = (bs.getD i (0, [])).1) (hv : Vb n b.1 b.2) (he : EvB b.2) : Fam n (replB bs i b) := by
  have hg : bs.getD i (0, []) ∈ bs := by simp [List.getD, hi]
  refine ⟨F.n1, F.n7, fun c hc => ?_, ?_, fun c hc => ?_, fun c hc => ?_⟩
  · rcases replB_mem hc with h | rfl
    · exact F.pos c h
    · rw [hs]
      exact F.pos _ hg
  · have e : bs = bs.take i ++ [bs.getD i (0, [])] ++ bs.drop (i + 1) := by
      rw [List.append_assoc]
      have : bs.drop i = bs.getD i (0, []) :: bs.drop (i + 1) := by
        rw [List.drop_eq_getElem_cons hi]
        simp [List.getD, hi]
      show bs = bs.take i ++ (bs.getD i (0, []) :: bs.drop (i + 1))
      rw [← this, List.take_append_drop]
    have h := F.sum
    rw [e, sumS_app, sumS_app] at h
    unfold replB
    rw [sumS_app, sumS_app]
    have e1 : sumS [b] = sumS [bs.getD i (0, [])] := by
      unfold sumS
      rw [List.map_cons, List.map_cons, hs] <;> rfl
    rw [e1]
    exact h
  · rcases replB_mem hc with h | rfl
    · exact F.vb c h
    · exact hv
  · rcases replB_mem hc with h | rfl
    · exact F.ev c h
    · exact he
end NA
/-! _law_family_drawn. -/
namespace NA
open PySem PySem.Spec PyProof.Rows L2
theorem RmL.wr {H : Hp} {D : Addr} {xs ys : List V} {v : V} {rs : List (List Int)} (hD : H D = some (.lst xs)) (ne : v ≠ .ref D) (h : RmL H v rs) : RmL (upd H D (.lst ys)) v rs := by
  obtain ⟨a, zs, rfl, h, r⟩ := h
  exact ⟨a, zs, rfl, by rw [upd_ne (fun z => ne (by rw [z]))]; exact h, (stab_rm D).paired hD r⟩
section
variable {P : Program} {w : World} {K : PySem.W.Frag} {mg : Str → Option Value} {base : Heap}
abbrev sDrawn : Stmt := top 42
abbrev nDrawn : List Str := ["_law_script", "_law_n", "_law_base", "_law_sizes_here", "_law_books", "_law_rows", "_law_turn", "_law_k", "_law_at", "_law_spot"]
/-- a family drawn: sizes, books, rows -/
def Drawn (H : Hp) (n : Nat) (sz bk rw : V) (bs : List (Nat × Rooms)) : Prop := Fam n bs ∧ InL H sz (bs.map fun b => (b.1 : Int)) ∧ BkL H bk (bs.map (·.2)) ∧ RwL H rw (parts (bs.map (·.2)) [])
def spDrawn (K : PySem.W.Frag) : Sp := fun vs H Q _ => ∃ (l : Addr) (ns : List Int) (n j : Nat), vs = [.ref l, .int n, .int j] ∧ SqL K H l (ns.map V.int) ∧ j ≤ 900 ∧ 1 ≤ n ∧ n ≤ 7 ∧ ∀ bs t sz bk rw H', Same H H' → H' t = some (.tup [sz, bk, rw]) → Drawn H' n sz bk rw bs → Q (.ref t) H'
theorem scDrawn : FnScope nDrawn ["_law_script", "_law_n", "_law_base"] (defScope sDrawn) := ⟨rfl, rfl, rfl, by decide +kernel, rfl, by decide +kernel, by decide +kernel⟩
theorem ok_drawn (F : DefC K mg "_law_family_drawn" sDrawn ["_law_script", "_law_n", "_law_base"]) (B : Bl mg) (PL : PlainK) (cC : Cal P w K mg base 1 "_law_cell" (spCellN K)) (cZ : Cal P w K mg base 1 "_law_sizes" spSizes) (cE : Cal P w K mg base 14 "_law_even_rooms" spEven)
    (cP : Cal P w K mg base 13 "_law_partitions" spPartsU) : Cal P w K mg base 15 "_law_family_drawn" (spDrawn K) := by
  refine cal_mk F scDrawn (fun vs H Q E h => ?_) (fun f cdv A outer sh H vs Q E hr h => ?_)
  · obtain ⟨l, ns, n, j, rfl, _⟩ := h
    rfl
  · obtain ⟨l, ns, n, j, rfl, hl, hj, hn1, hn7, k⟩ := h
    have nd := scDrawn.nd
    refine ⟨_, pss_cons (ps_set (i := 3) nd rfl (Or.inl rfl) (pe_lst pa_nil))
      (pss_cons (ps_set (i := 4) nd rfl (Or.inl rfl) (pe_lst pa_nil))
      (pss_cons (ps_set (i := 5) nd rfl (Or.inl rfl) (pe_lst pa_nil))
      (pss_cons (ps_for PassesOwn.never rfl (pi_range1 rfl B.range (pa_cons pe_int pa_nil)) (pg_name (i := 6) nd rfl (Or.inl rfl))
        (pss_one (ps_if (pt_cmpR op_eq (b_len B (pv 5)) pe_int (nomark _))
          (pss_cons (ps_set (i := 7) nd rfl (Or.inl rfl) (pe_op op_add (pv 2) (pe_op op_mul pe_int (pv 6))))
          (pss_cons (ps_set (i := 3) nd rfl (Or.inl rfl) (pe_c cZ hr (by decide) (pa_cons (pv 1) (pa_cons (pe_c cC hr (by decide) (pa_cons (pv 0) (pa_cons (pv 7) pa_nil))) pa_nil))))
          (pss_cons (ps_set (i := 4) nd rfl (Or.inl rfl) (pe_lst pa_nil))
          (pss_cons (ps_for PassesOwn.never rfl (pi_range1 rfl B.range (pa_cons (b_len B (pv 3)) pa_nil)) (pg_name (i := 8) nd rfl (Or.inl rfl))
            (pss_cons (ps_set (i := 9) nd rfl (Or.inl rfl) (pe_op op_add (pe_op op_add (pv 7) pe_int) (pv 8)))
            (Evl.pss_cut (ps_if (pt_cmpR op_eq (pe_op op_mod (b_int B (pe_c cC hr (by decide) (pa_cons (pv 0) (pa_cons pe_int pa_nil)))) pe_int) pe_int (nomark _))
              (pss_one (ps_set (i := 9) nd rfl (Or.inl rfl) (pe_op op_add (pv 7) (pe_ix ix_list (pv 3) (pv 8) (fun _ _ => rfl))))) pss_nil)
            (pss_one (ps_expr (pe_bm PySem.F.plainAttrs_list PySem.F.slot_list_append PySem.F.type_list_append mt_append (pv 4)
              (pa_cons (pe_c cE hr (by decide) (pa_cons (pv 1) (pa_cons (pe_ix ix_list (pv 3) (pv 8) (fun _ _ => rfl)) (pa_cons (pe_c cC hr (by decide) (pa_cons (pv 0) (pa_cons (pv 9) pa_nil))) pa_nil)))) pa_nil)))))))
          (pss_one (ps_set (i := 5) nd rfl (Or.inl rfl) (pe_c cP hr (by decide) (pa_cons (pv 4) (pa_cons (pe_tup pa_nil) pa_nil)))))))))
          pss_nil)))
      (pss_one (ps_ret (pe_tup (pa_cons (pv 3) (pa_cons (pv 4) (pa_cons (pv 5) pa_nil))))))))), ?_⟩
    -- three empty lists
    refine ⟨by decide, fun p1 n1 => ⟨by decide, fun p2 n2 => ⟨by decide, fun p3 n3 => ?_⟩⟩⟩
    have s1 := Same.new (o := .lst []) n1
    have s2 := Same.new (o := .lst []) n2
    have s3 := Same.new (o := .lst []) n3
    have s13 := (s1.trans s2).trans s3
    have h3 : (upd (upd (upd H p1 (.lst [])) p2 (.lst [])) p3 (.lst [])) p3 = some (.lst []) := upd_same
    generalize upd (upd (upd H p1 (.lst [])) p2 (.lst [])) p3 (.lst []) = H1 at s13 h3
    refine ⟨_, rfl, by decide, by decide, for_range (lo := 0) (n := (3 : Int).toNat) (fun i σ H' => ∃ sv bv ra c d e g xs, σ = [some (.ref l), some (.int n), some (.int j), some sv, some bv, some (.ref ra), c, d, e, g] ∧ Same H H' ∧ H' ra = some (.lst xs) ∧ ((i = 0 ∧ xs = []) ∨ ∃ bs, Drawn H' n sv bv (.ref ra) bs))
      ⟨_, _, p3, none, none, none, none, [], rfl, s13, h3, Or.inl ⟨rfl, rfl⟩⟩ ?_ ?_⟩
    · rintro i σ H2 hi ⟨sv, bv, ra, c, d, e, g, xs, rfl, s2, hra, hst⟩
      have hi3 : i < 3 := by omega
      rw [Int.zero_add]
      refine ⟨_, rfl, ra, xs, rfl, Or.inl (SqL.mk hra), rfl, _, rfl, ite2 (fun hh => ?_) (fun hh => ?_)⟩
      · refine ⟨_, rfl, _, rfl, _, _, rfl, rfl, .inl ⟨by omega, by omega⟩, _, _, rfl, rfl, ?_⟩
        have ek : ((j : Int) + 8 * (i : Int)) = ((j + 8 * i : Nat) : Int) := by omega
        have s20 := s2
        refine ⟨_, rfl, _, rfl, _, rfl, l, ns, j + 8 * i, rfl, s2.seq hl, by omega, fun c1 => ?_⟩
        refine ⟨n, c1, rfl, hn1, by omega, fun ss hss hs1 hsum sa H3 nsa s3 hsa => ?_⟩
        refine ⟨by decide, fun ba nba => ?_⟩
        have s4 := Same.new (o := .lst []) nba
        have h4 : (upd H3 ba (.lst [])) ba = some (.lst []) := upd_same
        have hsa4 := s4 _ _ hsa
        have s24 := (s2.trans s3).trans s4
        have nba2 : H ba = none := (s2.trans s3).free nba
        generalize upd H3 ba (.lst []) = H4 at h4 hsa4 s24
        have hsl : ss.length ≤ 7 := by
          have h1 := sum_ge_len (l := ss.map Int.toNat) fun x hx => by
            obtain ⟨y, hy, rfl⟩ := List.mem_map.mp hx
            have := hs1 y hy
            omega
          rw [List.length_map] at h1
          have h2 : ∀ {l : List Int}, (∀ x ∈ l, 1 ≤ x) → ((l.map Int.toNat).sum : Int) = l.sum := by
            intro l
            induction l with
            | nil => intro _; rfl
            | cons a l ih =>
              intro h
              have := ih fun x hx => h x (List.mem_cons_of_mem _ hx)
              have h3 := h a List.mem_cons_self
              rw [List.map_cons, List.sum_cons, List.sum_cons]
              omega
          have h3 := h2 hs1
          omega
        refine ⟨_, rfl, sa, _, rfl, Or.inl (SqL.mk hsa4), _, rfl, by rw [List.length_map]; omega, by rw [List.length_map]; omega, ?_⟩
        have hsale : sa ≠ ba := fun z => by rw [z, nba] at hsa; cases hsa
        have hxle : ∀ {m : Nat} {x : Int}, ss[m]? = some x → ∃ s : Nat, x = (s : Int) ∧ 1 ≤ s ∧ s ≤ n := by
          intro m x hx
          have hm := List.mem_of_getElem? hx
          have h1 := hs1 x hm
          have h2 : ∀ {l : List Int} {x : Int}, (∀ x ∈ l, 1 ≤ x) → x ∈ l → x ≤ l.sum ∧ 0 ≤ l.sum := by
            intro l
            induction l with
            | nil => intro x _ h; cases h
            | cons a l ih =>
              intro x h hx
              have h3 := h a List.mem_cons_self
              rw [List.sum_cons]
              have h5 : ∀ {l : List Int}, (∀ x ∈ l, 1 ≤ x) → 0 ≤ l.sum := by
                intro l
                induction l with
                | nil => intro _; exact Int.le_refl _
                | cons a l ih =>
                  intro h
                  have := ih fun x hx => h x (List.mem_cons_of_mem _ hx)
                  have h3 := h a List.mem_cons_self
                  rw [List.sum_cons]
                  omega
              have h6 := h5 fun x hx => h x (List.mem_cons_of_mem _ hx)
              rcases List.mem_cons.mp hx with hx | hx
              · omega
              · have := (ih (x := x) (fun x hx => h x (List.mem_cons_of_mem _ hx)) hx).1
                omega
          have h4 := (h2 hs1 hm).1
          exact ⟨x.toNat, by omega, by omega, by omega⟩
        refine for_range (lo := 0) (n := ((ss.map V.int).length : Int).toNat) (fun m σ H' => ∃ (d e : Option V) (xs : List V) (bs : List (Nat × Rooms)), σ = [some (.ref l), some (.int n), some (.int j), some (.ref sa), some (.ref ba), some (.ref ra), some (.int i), some (.int ((j + 8 * i : Nat) : Int)), d, e] ∧ Same H H' ∧ H' sa = some (.lst (ss.map V.int)) ∧ H' ba = some (.lst xs) ∧
            (∀ x ∈ xs, x ≠ V.ref ba) ∧ Paired (RmL H') xs (bs.map (·.2)) ∧ bs.map (fun b => (b.1 : Int)) = ss.take m ∧ ∀ b ∈ bs, 1 ≤ b.1 ∧ Vb n b.1 b.2 ∧ EvB b.2)
          ⟨e, g, [], [], rfl, s24, hsa4, h4, (fun x hx => by cases hx), .nil, rfl, (fun x hx => by cases hx)⟩ ?_ ?_
        · rintro m σ H5 hm ⟨d, e, xs, bs, rfl, s5, hsa5, hba5, hne5, hp5, hbs, hall⟩
          rw [List.length_map, Int.toNat_natCast] at hm
          rw [Int.zero_add]
          have hmx : ss[m]? = some ss[m] := by simp [hm]
          obtain ⟨sz, hsz, hsz1, hszn⟩ := hxle hmx
          rw [hsz] at hmx
          have hmv : (ss.map V.int)[m]? = some (V.int (sz : Nat)) := by rw [List.getElem?_map, hmx] <;> rfl
          refine ⟨_, rfl, _, _, rfl, rfl, _, rfl, _, _, rfl, rfl, ?_⟩
          refine ⟨fun σ H' => H5 = H' ∧ ∃ q : Nat, q ≤ 1000 ∧ σ = [some (.ref l), some (.int n), some (.int j), some (.ref sa), some (.ref ba), some (.ref ra), some (.int i), some (.int ((j + 8 * i : Nat) : Int)), some (.int (m : Nat)), some (.int (q : Nat))], ?_, ?_⟩
          · refine ⟨_, rfl, l, ns, 3, rfl, s5.seq hl, by decide, fun c2 => ?_⟩
            refine ⟨_, rfl, _, _, rfl, rfl, (by show (0 : Int) < 3; decide), rfl, _, rfl, ite2 (fun _ => ?_) (fun _ => ?_)⟩
            · refine ⟨_, rfl, _, rfl, _, rfl, sa, _, m, _, rfl, rfl, SqL.mk hsa5, atI_nat hmv, _, _, rfl, rfl, ?_⟩
              exact ⟨rfl, j + 8 * i + sz, by omega, rfl⟩
            · exact ⟨rfl, j + 8 * i + 1 + m, by omega, rfl⟩
          · rintro σ H' ⟨rfl, q, hq, rfl⟩
            refine ⟨_, rfl, Or.inl ⟨rfl, _, SqL.mk hba5⟩, ?_⟩
            refine ⟨_, rfl, _, rfl, _, rfl, sa, _, m, _, rfl, rfl, SqL.mk hsa5, atI_nat hmv, _, rfl, _, rfl, l, ns, q, rfl, s5.seq hl, hq, fun c3 => ?_⟩
            refine ⟨n, sz, c3, rfl, hsz1, by omega, hn1, by omega, fun ws hws D ys H6 nD s6 hD hp6 => ?_⟩
            have hba6 := s6 _ _ hba5
            have hxl : xs.length = m := by
              have h1 := paired_len hp5
              have h2 := congrArg List.length hbs
              rw [List.length_map, List.length_take] at h2
              rw [List.length_map] at h1
              omega
            have nDb : V.ref D ≠ V.ref ba := fun z => by
              injection z with z
              rw [z, hba5] at nD
              cases nD
            refine ⟨ba, xs, _, rfl, rfl, hba6, small_l (by omega), ?_⟩
            obtain ⟨hv, hev⟩ := PL.evn n sz ws hsz1 hszn hn7 hws
            refine ⟨_, _, xs ++ [V.ref D], bs ++ [(sz, evn ws)], rfl, Same.mut (s5.trans s6) nba2, by rw [upd_ne hsale]; exact s6 _ _ hsa5, upd_same, fun x hx => ?_, ?_, ?_, fun b hb => ?_⟩
            · rcases List.mem_append.mp hx with h | h
              · exact hne5 x h
              · rw [List.mem_singleton] at h
                rw [h]
                exact nDb
            · rw [List.map_append]
              refine paired_app ?_ (.cons (RmL.wr hba6 nDb ⟨D, ys, rfl, hD, hp6⟩) .nil)
              generalize bs.map (fun b : Nat × Rooms => b.2) = es at hp5
              generalize hzz : xs ++ [V.ref D] = zz
              clear hzz
              have go : ∀ {ws : List V} {es : List Rooms}, (∀ x ∈ ws, x ≠ V.ref ba) → Paired (RmL H5) ws es → Paired (RmL (upd H6 ba (.lst zz))) ws es := by
                intro ws es hne hp
                induction hp with
                | nil => exact .nil
                | cons h t ih => exact .cons (RmL.wr hba6 (hne _ List.mem_cons_self) (h.same s6)) (ih fun x hx => hne x (List.mem_cons_of_mem _ hx))
              exact go hne5 hp5
            · rw [List.map_append, hbs, take_snoc hmx] <;> rfl
            · rcases List.mem_append.mp hb with h | h
              · exact hall b h
              · rw [List.mem_singleton] at h
                rw [h]
                exact ⟨hsz1, hv, hev⟩
        · rintro σ H5 ⟨d, e, xs, bs, rfl, s5, hsa5, hba5, hne5, hp5, hbs, hall⟩
          rw [List.length_map, Int.toNat_natCast, List.take_length] at hbs
          have fam : Fam n bs := ⟨hn1, hn7, fun b hb => (hall b hb).1, by
            have h1 := sum_sizes bs
            rw [hbs, hsum] at h1
            omega, fun b hb => (hall b hb).2.1, fun b hb => (hall b hb).2.2⟩
          have hbl := fam.len
          have hbk : BkL H5 (.ref ba) (bs.map (fun b : Nat × Rooms => b.2)) := ⟨ba, xs, rfl, hba5, hp5⟩
          refine ⟨_, rfl, by decide, fun pe npe => ?_⟩
          have s6 := Same.new (o := .tup []) npe
          refine ⟨bs.length, by omega, .ref ba, .ref pe, bs.map (fun b : Nat × Rooms => b.2), [], rfl, hbk.same s6, ⟨pe, rfl, upd_same⟩, List.length_map _, PL.pb n bs fam, by rw [List.length_nil]; omega, fun rd rxs H7 nrd s7 hrd hrx => ?_⟩
          have s67 := s6.trans s7
          refine ⟨.ref sa, .ref ba, rd, _, _, d, e, rxs, rfl, s5.trans s67, hrd, Or.inr ⟨bs, fam, ⟨sa, rfl, ?_⟩, hbk.same s67, ⟨rd, rxs, rfl, hrd, hrx⟩⟩⟩
          rw [hbs]
          exact s67 _ _ hsa5
      · refine ⟨sv, bv, ra, _, d, e, g, xs, rfl, s2, hra, ?_⟩
        rcases hst with ⟨_, rfl⟩ | h
        · exact absurd (decide_eq_true rfl) hh
        · exact Or.inr h
    · rintro σ H2 ⟨sv, bv, ra, c, d, e, g, xs, rfl, s2, hra, hst⟩
      rcases hst with ⟨h, _⟩ | ⟨bs, h⟩
      · exact absurd h (by decide)
      · refine ⟨_, rfl, _, rfl, _, rfl, by show 3 ≤ sizeLine; decide, fun t nt => ?_⟩
        have s3 := Same.new (o := .tup [sv, bv, V.ref ra]) nt
        exact k bs t sv bv (.ref ra) _ (s2.trans s3) upd_same ⟨h.1, h.2.1.same s3, h.2.2.1.same s3, h.2.2.2.same s3⟩
end
end NA
/-! law. -/
namespace NA
open PySem PySem.Spec PyProof.Rows L2
section
variable {P : Program} {w : World} {K : PySem.W.Frag} {mg : Str → Option Value} {base : Heap} {CB CF : Addr}
abbrev sLaw : Stmt := top 49
abbrev nLaw : List Str := ["_law_script", "_law_n", "_law_sizes_here", "_law_books", "_law_rows", "_law_at", "_law_made", "_law_family", "_law_row", "_law_turned", "_law_due", "_law_rooms_here", "_law_others", "_law_changed", "_law_k", "_law_one"]
theorem made_book {H : Hp} {n s : Nat} {v : V} {b : Rooms} {R : VK} {x dxn : Addr} (nx : H x = none) (ndx : H dxn = none) (hv : RmL H v b) (vb : Vb n s b) (h1 : 1 ≤ s) (h2 : s ≤ n) (h3 : n ≤ 12) (h4 : b.length ≤ 100000) (q : ∀ H', Same H H' → BookAt CB H' (.ref x) n (s, b) → R .non H') :
    spBInit CB [.ref x, .int n, .int s, v] (upd (upd H dxn (.own x)) x (.ins CB dxn [])) R E0 := by
  have sX : Same H (upd (upd H dxn (.own x)) x (.ins CB dxn [])) := fun b o e => by
    rw [upd_ne (ne_of_none e nx), upd_ne (ne_of_none e ndx)]
    exact e
  refine ⟨x, dxn, n, s, v, b, rfl, upd_same, hv.same sX, vb, h1, h2, h3, h4, fun t' xs3 H4 nt kp h4 ht4 hx4 => ?_⟩
  exact q _ (fun b o e => kp b o (sX b o e) (ne_of_none e nx)) ⟨x, dxn, t', xs3, rfl, h4, ht4, hx4⟩
theorem made_fam {H : Hp} {n : Nat} {a : Addr} {xs : List V} {bs : List (Nat × Rooms)} {R : VK} {x dxn : Addr} (nx : H x = none) (ndx : H dxn = none) (ha : H a = some (.lst xs)) (hx : PBk CB H n xs bs) (F : Fam n bs) (q : ∀ H', Same H H' → FamAt CB CF H' (.ref x) n bs → R .non H') :
    spFInit CB CF [.ref x, .ref a] (upd (upd H dxn (.own x)) x (.ins CF dxn [])) R E0 := by
  have sX : Same H (upd (upd H dxn (.own x)) x (.ins CF dxn [])) := fun b o e => by
    rw [upd_ne (ne_of_none e nx), upd_ne (ne_of_none e ndx)]
    exact e
  have hl := F.len
  have hn := F.n7
  refine ⟨x, dxn, n, a, xs, bs, rfl, upd_same, sX _ _ ha, hx.same sX, F.ne, F.sum, by omega, F.ev, fun t' H4 nt kp h4 ht4 => ?_⟩
  have s4 : Same H H4 := fun b o e => kp b o (sX b o e) (ne_of_none e nx)
  exact q _ s4 ⟨x, dxn, t', xs, rfl, h4, ht4, hx.same s4⟩
theorem stab_bk (n : Nat) (D : Addr) : Stab D (fun H v b => BookAt CB H v n b) := ⟨fun s h => h.same s, fun {H v d xs ys} hD h => by
  obtain ⟨a, dx, t, zs, e, ha, ht, hz⟩ := h
  exact ⟨a, dx, t, zs, e, by rw [upd_ne (fun z => by rw [z, hD] at ha; cases ha)]; exact ha, by rw [upd_ne (fun z => by rw [z, hD] at ht; cases ht)]; exact ht, (stab_rm D).paired hD hz⟩⟩
theorem stab_rml (D : Addr) : Stab D (fun H v rs => RmL H v rs ∧ v ≠ .ref D) := ⟨fun s h => ⟨h.1.same s, h.2⟩, fun hD h => ⟨RmL.wr hD h.2 h.1, h.2⟩⟩
theorem perm_at {row : List Int} {m i : Nat} {k : Int} (h : row.Perm (rng m)) (e : row[i]? = some k) : ∃ j : Nat, k = (j : Int) ∧ j < m := by
  have h1 := h.mem_iff.mp (List.mem_of_getElem? e)
  unfold rng at h1
  obtain ⟨j, hj, rfl⟩ := List.mem_map.mp h1
  exact ⟨j, rfl, List.mem_range.mp hj⟩
/-- [xs[k] for k in row] -/
theorem lc_perm {δ : Type} {R : Hp → V → δ → Prop} {te : TE} {σ : L2.St} {J : It} {G : Hp → Prop} {H : Hp} {D : Addr} {row : List Int} {xs : List V} {m nn : Nat} {Qd : Hp → Prop} (w0 : Walk J nn G (YAt (row.map V.int))) (hn : nn = row.length) (f : Nat → δ)
    (S : Stab D R) (hp : row.Perm (rng m)) (hm : m ≤ 12) (hD : H D = none) (hG : ∀ H', Same H H' → G H')
    (el : ∀ k y, k < m → xs[k]? = some y → R H y (f k)) (hxl : xs.length = m)
    (hte : ∀ k H' (Q : VK) y, k < m → Same H H' → xs[k]? = some y → Q y H' → te ((wipe σ [14]).set 14 (some (.int (k : Nat)))) H' Q)
    (hw : ∀ x, wipe ((wipe σ [14]).set 14 (some x)) [14] = wipe σ [14])
    (done : ∀ ys H', Same H H' → H' D = some (.lst ys) → Paired (R H') ys (row.map fun k => f k.toNat) → Qd H') :
    ∃ W : Nat → Nat → Hp → Prop, (∃ m, W 0 m (upd H D (.lst []))) ∧ ∀ i m H, W i m H →
      (J.stop i H ∧ Qd H) ∨ (J.go i H ∧ ∃ Nx : Hp → Prop, (∀ H', Nx H' → ∃ m', m' < m ∧ W (i + 1) m' H') ∧ ∀ x H', J.yld i H x H' → gName 14 x (wipe σ [14]) H' fun σ2 H2 => wipe σ2 [14] = wipe σ [14] ∧ tYes σ2 H2 fun b H3 =>
        if b = true then te σ2 H3 fun y H4 => ∃ acc, H4 D = some (.lst acc) ∧ acc.length < sizeLine ∧ Nx (upd H4 D (.lst (acc ++ [y]))) else Nx H3) := by
  have hrl : row.length ≤ 100000 := by
    have := hp.length_eq
    rw [rng_len] at this
    omega
  refine lc_build w0 row hn (fun k => [f k.toNat]) S hrl hD hG (fun i s x H4 H' k1 k0 es s4 y q1 q0 => ?_) (fun ys H3 s3 hy hp3 => ?_)
  · obtain ⟨rfl, hy⟩ := y
    rw [List.getElem?_map, es] at hy
    injection hy with hy
    subst hy
    obtain ⟨j, rfl, hj⟩ := perm_at hp es
    have hjx : xs[j]? = some xs[j] := by simp [hxl, hj]
    refine ⟨hw _, yesT ?_⟩
    refine hte j _ _ _ hj s4 hjx ?_
    exact q1 _ _ (Same.refl _) _ rfl (S.up s4 (el j _ hj hjx))
  · rw [flatMap_one] at hp3
    exact done ys H3 s3 hy hp3
theorem rd_lslR {H : Hp} {a : Addr} {xs : List V} {Q : VK} (h : H a = some (.lst xs)) (k : Nat) (hk : k ≤ xs.length) (q : ∀ p H', Same H H' → H' p = some (.lst (xs.drop k)) → Q (.ref p) H') : rSlL K (.ref a) (some (k : Int)) none H Q := by
  refine ⟨a, xs, rfl, SqL.mk h, fun p hp => q p _ (Same.new hp) ?_⟩
  rw [upd_same]
  unfold cutV
  rw [HT.sIx_none, HT.sIx_nat, Nat.min_eq_left hk, List.take_of_length_le (by rw [List.length_drop]; omega)]
theorem n_at (i : Nat) (hi : i < 16) : ∃ n : Nat, 1 ≤ n ∧ n ≤ 7 ∧ ([V.int 6, V.int 5, V.int 4, V.int 7, V.int 5, V.int 6, V.int 3, V.int 2, V.int 6, V.int 5, V.int 4, V.int 7, V.int 5, V.int 4, V.int 3, V.int 1] : List V)[i]? = some (V.int (n : Nat)) := by
  match i, hi with
  | 0, _ => exact ⟨6, by decide, by decide, rfl⟩
  | 1, _ => exact ⟨5, by decide, by decide, rfl⟩
  | 2, _ => exact ⟨4, by decide, by decide, rfl⟩
  | 3, _ => exact ⟨7, by decide, by decide, rfl⟩
  | 4, _ => exact ⟨5, by decide, by decide, rfl⟩
  | 5, _ => exact ⟨6, by decide, by decide, rfl⟩
  | 6, _ => exact ⟨3, by decide, by decide, rfl⟩
  | 7, _ => exact ⟨2, by decide, by decide, rfl⟩
  | 8, _ => exact ⟨6, by decide, by decide, rfl⟩
  | 9, _ => exact ⟨5, by decide, by decide, rfl⟩
  | 10, _ => exact ⟨4, by decide, by decide, rfl⟩
  | 11, _ => exact ⟨7, by decide, by decide, rfl⟩
  | 12, _ => exact ⟨5, by decide, by decide, rfl⟩
  | 13, _ => exact ⟨4, by decide, by decide, rfl⟩
  | 14, _ => exact ⟨3, by decide, by decide, rfl⟩
  | 15, _ => exact ⟨1, by decide, by decide, rfl⟩
  | i + 16, h => omega
/-- law's: a list of at most 63 ints is handed in, True comes out -/
def spLaw (K : PySem.W.Frag) : Sp := fun vs H Q _ => ∃ (a : Addr) (ns : List Int), vs = [.ref a] ∧ SqL K H a (ns.map V.int) ∧ ns.length ≤ 63 ∧ ∀ H', Q (.bl true) H'
/-- the outer block's names in sorted([tuple([..]) ..]) -/
abbrev scOuter : Scope := { kind := .function, names := [(".0", .local), ("_law_one", .cell), ("tuple", .globalImplicit), ("_law_row", .cell)], isGenerator := false, isCoroutine := false }
theorem scLaw : FnScope nLaw ["_law_script"] (defScope sLaw) := ⟨rfl, rfl, rfl, by decide +kernel, rfl, by decide +kernel, by decide +kernel⟩
theorem ok_law {f : Addr} {fd : FuncData} (F : Fun K "law" "law" sLaw f fd) (B : Bl mg) (T : TC K mg CB CF) (PL : PlainK)
    (cC : Cal P w K mg base 1 "_law_cell" (spCellN K)) (cD : Cal P w K mg base 15 "_law_family_drawn" (spDrawn K)) (cB : Ini P w K mg base 2 "Book" CB (spBInit CB)) (cF : Ini P w K mg base 4 "Family" CF (spFInit CB CF))
    (cN : Cal P w K mg base 32 "_law_counted" (spCounted CB CF)) (cL : Cal P w K mg base 6 "_law_listed" (spListed CB CF)) (cJ : Cal P w K mg base 6 "_law_joined" (spJoined CB CF)) (cO : Cal P w K mg base 1 "_law_order" spOrder)
    (cE : Cal P w K mg base 14 "_law_even_rooms" spEven) (cR : Mtd P w K mg base 6 CF "replaced" (spRepl CB CF)) (cP : Cal P w K mg base 13 "_law_partitions" spPartsU) (cS : ∀ k : Nat, Cal P w K mg base (k + 1) "_law_same" (spSame k)) (cT : Cal P w K mg base 5 "count_partitions" (spCountP CB CF)) :
    FnOk P w K mg base CX0 33 f fd ["_law_script"] (spLaw K) := by
  refine F.ok scLaw (fun vs H Q E h => ?_) (fun cdv A outer sh H vs Q E hr h => ?_)
  · obtain ⟨a, ns, rfl, _⟩ := h
    rfl
  · obtain ⟨a, ns, rfl, hS, hlen, k⟩ := h
    have nd := scLaw.nd
    refine ⟨_, pss_cons (ps_set (i := 1) nd rfl (Or.inr rfl) (pe_ix ix_list (pe_lst (pa_cons pe_int (pa_cons pe_int (pa_cons pe_int (pa_cons pe_int (pa_cons pe_int (pa_cons pe_int (pa_cons pe_int (pa_cons pe_int (pa_cons pe_int (pa_cons pe_int (pa_cons pe_int (pa_cons pe_int (pa_cons pe_int (pa_cons pe_int (pa_cons pe_int (pa_cons pe_int pa_nil)))))))))))))))))
        (pe_op op_mod (b_int B (pe_c cC hr (by decide) (pa_cons (pv 0) (pa_cons pe_int pa_nil)))) pe_int) (fun _ _ => rfl)))
      (pss_cons (ps_asg (pe_c cD hr (by decide) (pa_cons (pv 0) (pa_cons (pv 1) (pa_cons pe_int pa_nil)))) (pg_tup rfl (pgs_cons (pg_name (i := 2) nd rfl (Or.inr rfl)) (pgs_cons (pg_name (i := 3) nd rfl (Or.inr rfl)) (pgs_cons (pg_name (i := 4) nd rfl (Or.inl rfl)) pgs_nil)))))
      (pss_cons (ps_set (i := 6) nd rfl (Or.inr rfl) (pe_lc (own := [("_law_at", 5)]) (g := gName 5) (tt := tYes) rfl nd (pi_range1 rfl B.range (pa_cons (b_len B (pv 2)) pa_nil)) (blkOk_by (N := nLaw) (sc := defScope sLaw) (by decide +kernel))
          (fun _ _ _ _ _ => pg_name (i := 5) nd rfl (Or.inl rfl)) (fun _ _ _ _ _ => pts_nil) (fun _ _ _ _ _ => pe_mk cB hr (by decide) (pa_cons (pv 1) (pa_cons (pe_ix (r := rIxL K) ix_list (pv 2) (pv 5) (fun _ _ => rfl)) (pa_cons (pe_ix (r := rIxL K) ix_list (pv 3) (pv 5) (fun _ _ => rfl)) pa_nil))))))
      (pss_cons (ps_set (i := 7) nd rfl (Or.inl rfl) (pe_mk cF hr (by decide) (pa_cons (pv 6) pa_nil)))
      (pss_cons (ps_if (PW.pt (pw_or (pt_not (pt_val (pe_c cN hr (by decide) (pa_cons (pv 7) (pa_cons (pv 4) pa_nil))))) (pw_or1 (pt_not (pt_val (pe_c cL hr (by decide) (pa_cons (pv 7) (pa_cons (pv 1) (pa_cons (pv 3) (pa_cons (pv 4) pa_nil)))))))))) pss_never pss_nil)
      (pss_cons (ps_if (pt_not (pt_val (pe_c cJ hr (by decide) (pa_cons (pv 7) (pa_cons (pv 1) (pa_cons (pv 2) (pa_cons (pv 3) pa_nil))))))) pss_never pss_nil)
      (pss_cons (ps_set (i := 8) nd rfl (Or.inr rfl) (pe_c cO hr (by decide) (pa_cons (pe_c cC hr (by decide) (pa_cons (pv 0) (pa_cons pe_int pa_nil))) (pa_cons (b_len B (pv 2)) pa_nil))))
      (pss_cons (ps_set (i := 9) nd rfl (Or.inl rfl) (pe_mk cF hr (by decide) (pa_cons (pe_lc (own := [("_law_k", 14)]) (g := gName 14) (tt := tYes) (te := tOp (rIxL K) (tVar 6) (tVar 14)) rfl nd (pi_list (pv 8)) (blkOk_by (N := nLaw) (sc := defScope sLaw) (by decide +kernel)) (fun _ _ _ _ _ => pg_name (i := 14) nd rfl (Or.inl rfl)) (fun _ _ _ _ _ => pts_nil) (fun _ _ _ _ _ => pe_ix ix_list (pv 6) (pv 14) (fun _ _ => rfl))) pa_nil)))
      (pss_cons (ps_set (i := 10) nd rfl (Or.inl rfl) (b_sortRow B hr (pe_lc (own := [("_law_one", 15)]) (g := gName 15) (tt := tYes) (te := tCB (rTupQ K) (tCons (tLc (iList K (tVar 8)) (gName 14) tYes (tOp (rIxT K) (tVar 15) (tVar 14)) [14]) tNil)) rfl nd (pi_list (pv 4)) (blkOk_by (N := nLaw) (sc := defScope sLaw) (by decide +kernel))
          (fun _ _ _ _ _ => pg_name (i := 15) nd rfl (Or.inr rfl)) (fun _ _ _ _ _ => pts_nil) (fun _ _ _ _ _ => b_tuple B (pe_lc (own := [("_law_k", 14)]) (g := gName 14) (tt := tYes) (te := tOp (rIxT K) (tVar 15) (tVar 14)) rfl nd (pi_list (pv 8)) (blkOk_by (N := nLaw) (sc := scOuter) (by decide +kernel)) (fun _ _ _ _ _ => pg_name (i := 14) nd rfl (Or.inl rfl)) (fun _ _ _ _ _ => pts_nil) (fun _ _ _ _ _ => pe_ix ix_tup (pv 15) (pv 14) (fun _ _ => rfl)))))))
      (pss_cons (ps_if (PW.pt (pw_or (pt_not (pt_val (pe_c cN hr (by decide) (pa_cons (pv 9) (pa_cons (pv 10) pa_nil))))) (pw_or1 (pt_not (pt_val (pe_c cJ hr (by decide) (pa_cons (pv 9) (pa_cons (pv 1) (pa_cons (pe_lc (own := [("_law_k", 14)]) (g := gName 14) (tt := tYes) (te := tOp (rIxL K) (tVar 2) (tVar 14)) rfl nd (pi_list (pv 8)) (blkOk_by (N := nLaw) (sc := defScope sLaw) (by decide +kernel)) (fun _ _ _ _ _ => pg_name (i := 14) nd rfl (Or.inl rfl)) (fun _ _ _ _ _ => pts_nil) (fun _ _ _ _ _ => pe_ix ix_list (pv 2) (pv 14) (fun _ _ => rfl))) (pa_cons (pe_lc (own := [("_law_k", 14)]) (g := gName 14) (tt := tYes) (te := tOp (rIxL K) (tVar 3) (tVar 14)) rfl nd (pi_list (pv 8)) (blkOk_by (N := nLaw) (sc := defScope sLaw) (by decide +kernel)) (fun _ _ _ _ _ => pg_name (i := 14) nd rfl (Or.inl rfl)) (fun _ _ _ _ _ => pts_nil) (fun _ _ _ _ _ => pe_ix ix_list (pv 3) (pv 14) (fun _ _ => rfl))) pa_nil)))))))))) pss_never pss_nil)
      (pss_cons (ps_set (i := 5) nd rfl (Or.inl rfl) (pe_op op_mod (b_int B (pe_c cC hr (by decide) (pa_cons (pv 0) (pa_cons pe_int pa_nil)))) (b_len B (pv 2))))
      (pss_cons (ps_set (i := 11) nd rfl (Or.inl rfl) (pe_c cE hr (by decide) (pa_cons (pv 1) (pa_cons (pe_ix ix_list (pv 2) (pv 5) (fun _ _ => rfl)) (pa_cons (pe_c cC hr (by decide) (pa_cons (pv 0) (pa_cons pe_int pa_nil))) pa_nil)))))
      (pss_cons (ps_set (i := 12) nd rfl (Or.inl rfl) (pe_op op_cat (pe_op op_cat (pe_slice sl_list (pv 3) po_none (po_some (pv 5))) (pe_lst (pa_cons (pv 11) pa_nil))) (pe_slice sl_list (pv 3) (po_some (pe_op op_add (pv 5) pe_int)) po_none)))
      (pss_cons (ps_set (i := 13) nd rfl (Or.inl rfl) (pe_mt cR T.clF hr (by decide) (pv 7) (pa_cons (pv 5) (pa_cons (pe_mk cB hr (by decide) (pa_cons (pv 1) (pa_cons (pe_ix ix_list (pv 2) (pv 5) (fun _ _ => rfl)) (pa_cons (pv 11) pa_nil)))) pa_nil))))
      (pss_cons (ps_if (pt_not (pt_val (pe_c cN hr (by decide) (pa_cons (pv 13) (pa_cons (pe_c cP hr (by decide) (pa_cons (pv 12) (pa_cons (pe_tup pa_nil) pa_nil))) pa_nil))))) pss_never pss_nil)
      (pss_one (ps_ret (pe_and (pe_c (cS 0) hr (by decide) (pa_cons (pe_c cT hr (by decide) (pa_cons (pv 7) pa_nil)) (pa_cons (b_len B (pv 4)) pa_nil))) (pe_one (pe_c cL hr (by decide) (pa_cons (pv 9) (pa_cons (pv 1) (pa_cons (pe_lc (own := [("_law_k", 14)]) (g := gName 14) (tt := tYes) (te := tOp (rIxL K) (tVar 3) (tVar 14)) rfl nd (pi_list (pv 8)) (blkOk_by (N := nLaw) (sc := defScope sLaw) (by decide +kernel)) (fun _ _ _ _ _ => pg_name (i := 14) nd rfl (Or.inl rfl)) (fun _ _ _ _ _ => pts_nil) (fun _ _ _ _ _ => pe_ix ix_list (pv 3) (pv 14) (fun _ _ => rfl))) (pa_cons (pv 10) pa_nil))))))))))))))))))))))), ?_⟩
    -- n
    refine ⟨by show 16 ≤ sizeLine; decide, fun p0 n0 => ?_⟩
    have s1 := Same.new (o := .lst [V.int 6, V.int 5, V.int 4, V.int 7, V.int 5, V.int 6, V.int 3, V.int 2, V.int 6, V.int 5, V.int 4, V.int 7, V.int 5, V.int 4, V.int 3, V.int 1]) n0
    have h1 : (upd H p0 (.lst [V.int 6, V.int 5, V.int 4, V.int 7, V.int 5, V.int 6, V.int 3, V.int 2, V.int 6, V.int 5, V.int 4, V.int 7, V.int 5, V.int 4, V.int 3, V.int 1])) p0 = some (.lst [V.int 6, V.int 5, V.int 4, V.int 7, V.int 5, V.int 6, V.int 3, V.int 2, V.int 6, V.int 5, V.int 4, V.int 7, V.int 5, V.int 4, V.int 3, V.int 1]) := upd_same
    generalize upd H p0 (.lst [V.int 6, V.int 5, V.int 4, V.int 7, V.int 5, V.int 6, V.int 3, V.int 2, V.int 6, V.int 5, V.int 4, V.int 7, V.int 5, V.int 4, V.int 3, V.int 1]) = H1 at s1 h1
    refine ⟨_, rfl, a, ns, 0, rfl, s1.seq hS, by decide, fun c0 => ?_⟩
    have hc0 := Int.emod_nonneg c0 (b := 16) (by decide)
    have hc1 := Int.emod_lt_of_pos c0 (b := 16) (by decide)
    obtain ⟨n, hn1, hn7, hni⟩ := n_at (c0 % 16).toNat (by omega)
    have e16 : ((c0 % 16).toNat : Int) = c0 % 16 := by omega
    refine ⟨_, rfl, _, _, rfl, rfl, (by show (0 : Int) < 16; decide), p0, _, _, _, rfl, rfl, SqL.mk h1, by rw [← e16]; exact atI_nat hni, ?_⟩
    -- the family
    refine ⟨_, rfl, _, rfl, a, ns, n, 10, rfl, s1.seq hS, by decide, hn1, hn7, fun bs t sz bk rw H2 s2 ht hdr => ?_⟩
    obtain ⟨fam, ⟨sa, rfl, hsa⟩, ⟨ba, bxs, rfl, hba, hbx⟩, ⟨ra, rxs, rfl, hra, hrx⟩⟩ := hdr
    refine ⟨t, _, rfl, SqT.mk ht, rfl, _, _, rfl, _, _, rfl, _, _, rfl, rfl, ?_⟩
    have s12 := s1.trans s2
    have hS2 := s12.seq hS
    have hlm := fam.len
    have hzl : ((bs.map fun b : Nat × Rooms => (b.1 : Int)).map V.int).length = bs.length := by rw [List.length_map, List.length_map]
    have hbxl : bxs.length = bs.length := by rw [paired_len hbx, List.length_map]
    have hszA : ∀ k, k < bs.length → ((bs.map fun b : Nat × Rooms => (b.1 : Int)).map V.int)[k]? = some (V.int ((bs.getD k (0, [])).1 : Nat)) := fun k hk => by
      rw [List.getElem?_map, List.getElem?_map]
      simp [List.getD, hk]
    have hgm : ∀ k, k < bs.length → bs.getD k (0, []) ∈ bs := fun k hk => by
      simp [List.getD, hk]
    have hbkA : ∀ k y, k < bs.length → bxs[k]? = some y → RmL H2 y (bs.getD k (0, [])).2 := fun k y hk hy => by
      obtain ⟨b, hb, hm⟩ := paired_get hbx hy
      rw [List.getElem?_map] at hb
      have : bs[k]? = some (bs.getD k (0, [])) := by simp [List.getD, hk]
      rw [this] at hb
      injection hb with hb
      show RmL H2 y ((fun x : Nat × Rooms => x.2) (bs.getD k (0, [])))
      rw [hb]
      exact hm
    -- the books
    refine ⟨_, rfl, sa, _, rfl, Or.inl (SqL.mk hsa), _, rfl, by rw [hzl]; omega, by rw [hzl]; omega, fun D hD => ?_⟩
    rw [hzl]
    refine lc_build walk_range0 (List.range bs.length) (by rw [List.length_range]; omega) (fun i => [bs.getD i (0, [])]) (stab_bk (CB := CB) n D) (by rw [List.length_range]; omega) hD (fun _ _ => trivial) (fun i s x H3 H' k1 k0 es s3 y q1 q0 => ?_) (fun mxs H3 s3 hm hmx => ?_)
    · obtain ⟨rfl, rfl⟩ := y
      obtain ⟨hi, rfl⟩ := range_at es
      refine ⟨rfl, yesT ?_⟩
      have hby : bxs[i]? = some bxs[i] := by simp [hbxl, hi]
      have hrm := (hbkA i _ hi hby).same s3
      have hmem := hgm i hi
      refine ⟨_, rfl, _, rfl, _, rfl, sa, _, i, _, rfl, rfl, SqL.mk (s3 _ _ hsa), atI_nat (hszA i hi), _, rfl, _, rfl, ba, bxs, i, _, rfl, rfl, SqL.mk (s3 _ _ hba), atI_nat hby, ?_⟩
      intro x dxn nx ndx nex
      refine made_book nx ndx hrm (fam.vb _ hmem) (fam.pos _ hmem) (fam.le hmem) (by omega) ?_ fun H4 s4 hv => ⟨rfl, q1 _ _ s4 _ rfl hv⟩
      have := (PL.cnt n bs fam).few _ (List.mem_map_of_mem hmem)
      exact this
    rw [flatMap_one, range_get] at hmx
    have s13 := s12.trans s3
    -- the family
    refine ⟨_, rfl, fun fx fdx nfx nfdx nfex => ?_⟩
    refine made_fam nfx nfdx hm hmx fam fun H4 s4 hfam => ⟨rfl, ?_⟩
    generalize V.ref fx = fv at hfam
    have s14 := s13.trans s4
    have s24 := s3.trans s4
    have hrw : RwL H2 (.ref ra) (parts (bs.map (·.2)) []) := ⟨ra, rxs, rfl, hra, hrx⟩
    have hbl : BkL H2 (.ref ba) (bs.map (·.2)) := ⟨ba, bxs, rfl, hba, hbx⟩
    have hin : InL H2 (.ref sa) (bs.map fun b => (b.1 : Int)) := ⟨sa, rfl, hsa⟩
    have okC := PL.cnt n bs fam
    have okL := PL.lst n bs fam
    have okJ := PL.joi n bs fam
    refine ⟨_, rfl, _, rfl, fv, .ref ra, n, bs, _, rfl, hfam, hrw.same s24, okC, fun H5 s5 => ⟨_, rfl, iteF ?_⟩⟩
    refine ⟨_, rfl, _, rfl, _, rfl, _, rfl, fv, n, .ref ba, .ref ra, bs, _, rfl, hfam.same s5, hbl.same (s24.trans s5), hrw.same (s24.trans s5), okL, fun H6 s6 => ⟨_, rfl, iteF ?_⟩⟩
    have s46 := s5.trans s6
    refine ⟨_, rfl, _, rfl, _, rfl, _, rfl, fv, n, .ref sa, .ref ba, bs, rfl, hfam.same s46, hin.same (s24.trans s46), hbl.same (s24.trans s46), okJ, fun H7 s7 => ⟨_, rfl, iteF ?_⟩⟩
    have s47 := s46.trans s7
    have s27 := s24.trans s47
    -- the order
    refine ⟨_, rfl, a, ns, 5, rfl, (s14.trans s47).seq hS, by decide, fun c5 => ?_⟩
    refine ⟨_, rfl, sa, _, rfl, Or.inl (SqL.mk (s27 _ _ hsa)), ?_⟩
    rw [hzl]
    refine ⟨bs.length, c5, rfl, by omega, fun row hrow oa H8 noa s8 hoa => ?_⟩
    have s28 := s27.trans s8
    have s38 := (s4.trans s47).trans s8
    have s48 := s47.trans s8
    have hmxl : mxs.length = bs.length := paired_len hmx
    -- the turned family
    refine ⟨_, rfl, oa, rfl, ⟨_, SqL.mk hoa⟩, fun D2 nD2 => ?_⟩
    refine lc_perm (walk_list (K := K)) (List.length_map _) (xs := mxs) (fun k => bs.getD k (0, [])) (stab_bk (CB := CB) n D2) hrow (by omega) nD2 (fun H' s => SqL.mk (s _ _ hoa)) (fun k y hk hy => ?_) hmxl (fun k H' Q y hk s hy q => ?_) (fun _ => ?_) (fun tys H9 s9 hD2 htp => ?_)
    · obtain ⟨b, hb, hbm⟩ := paired_get hmx hy
      have : bs.getD k (0, []) = b := by simp [List.getD, hb]
      rw [this]
      exact hbm.same s38
    · exact ⟨_, rfl, _, rfl, D, mxs, k, y, rfl, rfl, SqL.mk ((s38.trans s) _ _ hm), atI_nat hy, q⟩
    · rfl
    have fam2 := fam.perm (permB_perm hrow)
    have htp' : PBk CB H9 n tys (permB row bs) := htp
    intro tx tdx ntx ntdx ntex
    refine made_fam ntx ntdx hD2 htp' fam2 fun HA sA hturn => ⟨rfl, ?_⟩
    generalize V.ref tx = tv at hturn
    have s2A := (s28.trans s9).trans sA
    have s4A := (s48.trans s9).trans sA
    have s8A := s9.trans sA
    -- the due rows
    have hraA := s2A _ _ hra
    have hrxA : Rws HA rxs (parts (bs.map (·.2)) []) := Rws.same s2A hrx
    refine ⟨_, rfl, ra, rfl, ⟨_, SqL.mk hraA⟩, fun E1 hE1 => ?_⟩
    refine lc_build walk_list (parts (bs.map (·.2)) []) (paired_len hrxA) (fun one => [permR row one]) (stab_rw E1) okC.sm.few hE1 (fun H' s => SqL.mk (s _ _ hraA)) (fun i s x HB H' k1 k0 es sB y q1 q0 => ?_) (fun dys HB sB hdy hdp => ?_)
    · obtain ⟨rfl, hy⟩ := y
      obtain ⟨one, ho, hom⟩ := paired_get hrxA hy
      obtain rfl : one = s := by rw [es] at ho; exact (Option.some.inj ho).symm
      obtain ⟨t1, zs, rfl, ht1, hz1⟩ := hom.same sB
      have hzl1 : zs.length = bs.length := by rw [paired_len hz1, parts_el _ _ one (List.mem_of_getElem? es), List.length_map]
      refine ⟨rfl, yesT ?_⟩
      refine ⟨_, rfl, oa, rfl, ⟨_, SqL.mk ((s8A.trans sB) _ _ hoa)⟩, fun D3 nD3 => ?_⟩
      refine lc_perm (walk_list (K := K)) (List.length_map _) (xs := zs) (fun k => one.getD k []) (stab_rm D3) hrow (by omega) nD3 (fun H' s => SqL.mk ((s8A.trans (sB.trans s)) _ _ hoa)) (fun k y hk hy => ?_) hzl1 (fun k H' Q y hk s hy q => ?_) (fun _ => ?_) (fun ys3 H3' s3' hD3 hp3 => ?_)
      · obtain ⟨r, hr1, hrm⟩ := paired_get hz1 hy
        have : one.getD k [] = r := by simp [List.getD, hr1]
        rw [this]
        exact hrm
      · exact ⟨_, rfl, _, rfl, t1, zs, k, y, rfl, rfl, SqT.mk (s _ _ ht1), atI_nat hy, q⟩
      · rfl
      · refine ⟨D3, ys3, rfl, SqL.mk hD3, fun l nl => ?_⟩
        have sl := Same.new (o := .tup ys3) nl
        exact q1 _ _ (s3'.trans sl) _ rfl ⟨l, ys3, rfl, upd_same, Rms.same sl hp3⟩
    rw [flatMap_one] at hdp
    refine ⟨E1, dys, _, rfl, hdy, hdp, fun r hr' => ?_, fun da dzs nda hdz => ?_⟩
    · obtain ⟨one, hone, rfl⟩ := List.mem_map.mp hr'
      intro z
      have h1 := congrArg List.length z
      rw [List.length_map, hrow.length_eq, rng_len] at h1
      have h2 := List.length_pos_iff.mpr fam.ne
      rw [List.length_nil] at h1
      omega
    have sC := Same.new (o := .lst dzs) nda
    have hda : (upd HB da (.lst dzs)) da = some (.lst dzs) := upd_same
    rw [PL.turn n bs row fam hrow] at hdz
    have hdz2 := Rws.same sC hdz
    generalize upd HB da (.lst dzs) = HC at sC hda hdz2
    have sAC := sB.trans sC
    have s2C := s2A.trans sAC
    have hdue : RwL HC (.ref da) (parts ((permB row bs).map (·.2)) []) := ⟨da, dzs, rfl, hda, hdz2⟩
    refine ⟨_, rfl, _, rfl, tv, .ref da, n, permB row bs, _, rfl, hturn.same sAC, hdue, PL.cnt n _ fam2, fun HD sD => ⟨_, rfl, iteF ?_⟩⟩
    have s2D := s2C.trans sD
    have s8D := (s8A.trans sAC).trans sD
    have hturnD := (hturn.same sAC).same sD
    have hszD : ∀ {H' : Hp}, Same HD H' → H' sa = some (.lst ((bs.map fun b : Nat × Rooms => (b.1 : Int)).map V.int)) := fun s => s _ _ (s2D _ _ hsa)
    have hbaD : ∀ {H' : Hp}, Same HD H' → H' ba = some (.lst bxs) := fun s => s _ _ (s2D _ _ hba)
    have hoaD : ∀ {H' : Hp}, Same HD H' → H' oa = some (.lst (row.map V.int)) := fun s => s _ _ (s8D _ _ hoa)
    -- the turned sizes, the turned books
    refine ⟨_, rfl, _, rfl, _, rfl, oa, rfl, ⟨_, SqL.mk (hoaD (Same.refl _))⟩, fun D5 nD5 => ?_⟩
    refine lc_perm (walk_list (K := K)) (List.length_map _) (xs := (bs.map fun b : Nat × Rooms => (b.1 : Int)).map V.int) (fun k => ((bs.getD k (0, [])).1 : Int)) (stab_int D5) hrow (by omega) nD5 (fun H' s => SqL.mk (hoaD s)) (fun k y hk hy => ?_) hzl (fun k H' Q y hk s hy q => ?_) (fun _ => ?_) (fun zs5 H5' s5' hD5 hp5 => ?_)
    · rw [hszA k hk] at hy
      exact (Option.some.inj hy).symm
    · exact ⟨_, rfl, _, rfl, sa, _, k, y, rfl, rfl, SqL.mk (hszD s), atI_nat hy, q⟩
    · rfl
    refine ⟨_, rfl, oa, rfl, ⟨_, SqL.mk (hoaD s5')⟩, fun D6 nD6 => ?_⟩
    refine lc_perm (walk_list (K := K)) (List.length_map _) (xs := bxs) (fun k => (bs.getD k (0, [])).2) (stab_rml D6) hrow (by omega) nD6 (fun H' s => SqL.mk (hoaD (s5'.trans s))) (fun k y hk hy => ?_) hbxl (fun k H' Q y hk s hy q => ?_) (fun _ => ?_) (fun zs6 H6' s6' hD6 hp6 => ?_)
    · have h1 := (hbkA k y hk hy).same (s2D.trans s5')
      refine ⟨h1, fun z => ?_⟩
      obtain ⟨a1, x1, e1, h1, _⟩ := h1
      rw [e1] at z
      injection z with z
      rw [z, nD6] at h1
      cases h1
    · exact ⟨_, rfl, _, rfl, ba, bxs, k, y, rfl, rfl, SqL.mk (hbaD (s5'.trans s)), atI_nat hy, q⟩
    · rfl
    have sD6 := s5'.trans s6'
    have eT : ((permB row bs).map fun b => (b.1 : Int)) = row.map fun k => ((bs.getD k.toNat (0, [])).1 : Int) := by
      rw [List.map_map] <;> rfl
    have hinT : InL H6' (.ref D5) ((permB row bs).map fun b => (b.1 : Int)) := ⟨D5, rfl, by
      rw [s6' _ _ hD5, paired_isI hp5, eT]⟩
    have hbkT : BkL H6' (.ref D6) ((permB row bs).map (·.2)) := ⟨D6, zs6, rfl, hD6, by
      rw [List.map_map]
      exact Paired.mono' (fun _ _ z => z.1) hp6⟩
    refine ⟨tv, n, .ref D5, .ref D6, permB row bs, rfl, hturnD.same sD6, hinT, hbkT, PL.joi n _ fam2, fun H7' s7' => ⟨_, rfl, iteF ?_⟩⟩
    have sD7 := sD6.trans s7'
    have s27' := s2D.trans sD7
    -- the other book
    refine ⟨_, rfl, a, ns, 6, rfl, (s12.trans s27').seq hS, by decide, fun c6 => ?_⟩
    have hm0 : (0 : Int) < (bs.length : Nat) := by
      have := List.length_pos_iff.mpr fam.ne
      omega
    have hq0 := Int.emod_nonneg c6 (b := (bs.length : Int)) (by omega)
    have hq1 := Int.emod_lt_of_pos c6 hm0
    obtain ⟨q, hq⟩ : ∃ q : Nat, c6 % (bs.length : Int) = (q : Int) := ⟨(c6 % (bs.length : Int)).toNat, by omega⟩
    have hqm : q < bs.length := by omega
    refine ⟨_, rfl, _, rfl, sa, _, rfl, Or.inl (SqL.mk (s27' _ _ hsa)), _, _, rfl, rfl, by rw [hzl]; exact hm0, ?_⟩
    rw [hzl]
    dsimp only
    rw [hq]
    have hgq := hgm q hqm
    have hpq := fam.pos _ hgq
    have hlq := fam.le hgq
    refine ⟨_, rfl, _, rfl, _, rfl, sa, _, q, _, rfl, rfl, SqL.mk (s27' _ _ hsa), atI_nat (hszA q hqm), _, rfl, a, ns, 7, rfl, (s12.trans s27').seq hS, by decide, fun c7 => ?_⟩
    refine ⟨n, (bs.getD q (0, [])).1, c7, rfl, hpq, by omega, hn1, by omega, fun ws hws ea exs HE nea sE hea hex => ?_⟩
    obtain ⟨hvn, hen⟩ := PL.evn n _ ws hpq hlq hn7 hws
    have s2E := s27'.trans sE
    have hnew : RmL HE (.ref ea) (evn ws) := ⟨ea, exs, rfl, hea, hex⟩
    -- the others
    refine ⟨_, rfl, _, rfl, _, rfl, ?_⟩
    refine rd_lslL (s2E _ _ hba) q (by omega) fun p1 HF sF hp1 => ?_
    refine ⟨_, rfl, by show 1 ≤ sizeLine; decide, fun p2 np2 => ?_⟩
    have sG := Same.new (o := .lst [V.ref ea]) np2
    refine ⟨p1, p2, _, _, rfl, rfl, sG _ _ hp1, upd_same, by rw [List.length_take]; exact small_n (by show min q bxs.length + 1 ≤ 100000; omega), fun p3 np3 => ?_⟩
    have sH := Same.new (o := .lst (bxs.take q ++ [V.ref ea])) np3
    have sFH := (sF.trans sG).trans sH
    have hp3 : (upd (upd HF p2 (.lst [V.ref ea])) p3 (.lst (bxs.take q ++ [V.ref ea]))) p3 = some (.lst (bxs.take q ++ [V.ref ea])) := upd_same
    generalize upd (upd HF p2 (.lst [V.ref ea])) p3 (.lst (bxs.take q ++ [V.ref ea])) = HI at sFH hp3
    refine ⟨_, rfl, _, rfl, _, _, rfl, rfl, _, rfl, ?_⟩
    refine noPart ?_
    rw [show ((q : Int) + 1) = ((q + 1 : Nat) : Int) from rfl]
    refine rd_lslR (K := K) ((s2E.trans sFH) _ _ hba) (q + 1) (by omega) fun p4 HJ sJ hp4 => ?_
    refine ⟨p3, p4, _, _, rfl, rfl, sJ _ _ hp3, hp4, by rw [List.length_append, List.length_take, List.length_drop]; exact small_n (by show min q bxs.length + 1 + (bxs.length - (q + 1)) ≤ 100000; omega), fun p5 np5 => ?_⟩
    have sK := Same.new (o := .lst (bxs.take q ++ [V.ref ea] ++ bxs.drop (q + 1))) np5
    have sEK := (sFH.trans sJ).trans sK
    have hp5' : (upd HJ p5 (.lst (bxs.take q ++ [V.ref ea] ++ bxs.drop (q + 1)))) p5 = some (.lst (bxs.take q ++ [V.ref ea] ++ bxs.drop (q + 1))) := upd_same
    generalize upd HJ p5 (.lst (bxs.take q ++ [V.ref ea] ++ bxs.drop (q + 1))) = HK at sEK hp5'
    have s2K := s2E.trans sEK
    have fam3 : Fam n (replB bs q ((bs.getD q (0, [])).1, evn ws)) := fam.repl hqm rfl hvn hen
    have hoth : BkL HK (.ref p5) ((replB bs q ((bs.getD q (0, [])).1, evn ws)).map (·.2)) := by
      refine ⟨p5, _, rfl, hp5', ?_⟩
      unfold replB
      rw [List.map_append, List.map_append, List.map_take, List.map_drop]
      have hbxK : Paired (RmL HK) bxs (bs.map (·.2)) := Paired.mono' (fun _ _ z => z.same s2K) hbx
      have htk : ∀ {l : List V} {m : List Rooms}, Paired (RmL HK) l m → ∀ k, Paired (RmL HK) (l.take k) (m.take k) ∧ Paired (RmL HK) (l.drop k) (m.drop k) := by
        intro l m h
        induction h with
        | nil => intro k; cases k <;> exact ⟨.nil, .nil⟩
        | cons h t ih =>
          intro k
          cases k with
          | zero => exact ⟨.nil, .cons h t⟩
          | succ k => exact ⟨.cons h (ih k).1, (ih k).2⟩
      exact paired_app (paired_app (htk hbxK q).1 (.cons (hnew.same sEK) .nil)) (htk hbxK (q + 1)).2
    -- the changed family
    have hfamK := hfam.same (((((s47.trans s8).trans s9).trans sA).trans sAC).trans ((sD.trans sD7).trans (sE.trans sEK)))
    obtain ⟨fa, fdx2, ft, fxs, rfl, hfa, hft, hfx⟩ := id hfamK
    refine ⟨_, rfl, fa, fdx2, _, rfl, hfa, fmNo _ _ (by decide +kernel) (by decide +kernel), _, rfl, _, rfl, _, rfl, _, rfl, sa, _, q, _, rfl, rfl, SqL.mk (s2K _ _ hsa), atI_nat (hszA q hqm), _, rfl, ?_⟩
    intro x dxn nx ndx nex
    have hevl : (evn ws).length ≤ 100000 := (PL.cnt n _ fam3).few _ (List.mem_map.mpr ⟨((bs.getD q (0, [])).1, evn ws), by unfold replB; simp, rfl⟩)
    refine made_book nx ndx (hnew.same sEK) hvn hpq hlq (by omega) hevl fun HL sL hbook => ⟨rfl, ?_⟩
    refine ⟨.ref fa, n, bs, q, .ref x, _, rfl, hfamK.same sL, hqm, by omega, hbook, fam3.sum, fam3.ev, fun cv HM sM hch => ?_⟩
    have sKM := sL.trans sM
    have s2M := s2K.trans sKM
    -- counted(changed, partitions(others, ()))
    refine ⟨_, rfl, _, rfl, by decide, fun pe npe => ?_⟩
    have sN := Same.new (o := .tup []) npe
    have hl3 := fam3.len
    refine ⟨_, by omega, .ref p5, .ref pe, (replB bs q ((bs.getD q (0, [])).1, evn ws)).map (·.2), [], rfl, hoth.same (sKM.trans sN), ⟨pe, rfl, upd_same⟩, List.length_map _, PL.pb n _ fam3, by rw [List.length_nil]; omega, fun rb rbxs HO nrb sO hrb hrbx => ?_⟩
    have sMO := sN.trans sO
    refine ⟨cv, .ref rb, n, _, _, rfl, hch.same sMO, ⟨rb, rbxs, rfl, hrb, hrbx⟩, PL.cnt n _ fam3, fun HP sP => ⟨_, rfl, iteF ?_⟩⟩
    have sKP := (sKM.trans sMO).trans sP
    have s2P := s2K.trans sKP
    have hturnP := (hturnD.same (sD7.trans (sE.trans sEK))).same sKP
    have hdueP := (hdue.same (sD.trans (sD7.trans (sE.trans sEK)))).same sKP
    have hfamP := hfamK.same sKP
    have hoaP := ((s8D.trans (sD7.trans (sE.trans sEK))).trans sKP) _ _ hoa
    have hbP := s2P _ _ hba
    -- count_partitions(family) again
    obtain ⟨b0, bs0, hbs⟩ : ∃ b0 bs0, bs = b0 :: bs0 := by
      cases bs with
      | nil => exact absurd rfl fam.ne
      | cons b0 bs0 => exact ⟨b0, bs0, rfl⟩
    have hcnt := okC.cnt
    have hfew0 := okC.few b0.2 (by rw [hbs]; exact List.mem_cons_self)
    have htl0 := okC.tails
    have hl0 : bs.length = bs0.length + 1 := by rw [hbs] <;> rfl
    rw [hbs] at hcnt htl0
    refine ⟨_, rfl, .ref fa, n, b0, bs0, rfl, hbs ▸ hfamP, by omega, hfew0, by omega, htl0, fun HQ sQ => ?_⟩
    have s2Q := s2P.trans sQ
    refine ⟨_, rfl, ra, rxs, rfl, Or.inl (SqL.mk (s2Q _ _ hra)), _, _, _, rfl, dq_int _, ?_, ?_⟩
    · rw [hcnt, paired_len hrx, hbs]
      exact dq_int _
    refine ⟨_, rfl, iteT ?_⟩
    refine ⟨_, rfl, _, rfl, ?_⟩
    refine ⟨_, rfl, oa, rfl, ⟨_, SqL.mk (sQ _ _ hoaP)⟩, fun D7 nD7 => ?_⟩
    refine lc_perm (walk_list (K := K)) (List.length_map _) (xs := bxs) (fun k => (bs.getD k (0, [])).2) (stab_rml D7) hrow (by omega) nD7 (fun H' s => SqL.mk ((sQ.trans s) _ _ hoaP)) (fun k y hk hy => ?_) hbxl (fun k H' Q y hk s hy q => ?_) (fun _ => ?_) (fun zs7 H7' s7'' hD7 hp7 => ?_)
    · have h1 := (hbkA k y hk hy).same s2Q
      refine ⟨h1, fun z => ?_⟩
      obtain ⟨a1, x1, e1, h1, _⟩ := h1
      rw [e1] at z
      injection z with z
      rw [z, nD7] at h1
      cases h1
    · exact ⟨_, rfl, _, rfl, ba, bxs, k, y, rfl, rfl, SqL.mk ((sQ.trans s) _ _ hbP), atI_nat hy, q⟩
    · rfl
    have sP7 := sQ.trans s7''
    have hbkT7 : BkL H7' (.ref D7) ((permB row bs).map (·.2)) := ⟨D7, zs7, rfl, hD7, by
      rw [List.map_map]
      exact Paired.mono' (fun _ _ z => z.1) hp7⟩
    exact ⟨_, rfl, tv, n, .ref D7, .ref da, permB row bs, _, rfl, hturnP.same sP7, hbkT7, hdueP.same sP7, PL.lst n _ fam2, fun H8' s8' => k H8'⟩
end
end NA
/-! The plain law, 1: sums over lists, evenness, tallies. -/
namespace NA
open PySem PySem.Spec PyProof.Rows L2
def sm {α : Type} (g : α → Nat) (L : List α) : Nat := (L.map g).sum
section
variable {α β : Type}
theorem sm_nil (g : α → Nat) : sm g [] = 0 := rfl
theorem sm_cons (g : α → Nat) (a : α) (L : List α) : sm g (a :: L) = g a + sm g L := by unfold sm; rw [List.map_cons, List.sum_cons]
theorem sm_app (g : α → Nat) (L M : List α) : sm g (L ++ M) = sm g L + sm g M := by unfold sm; rw [List.map_append, List.sum_append]
theorem sm_flat (g : β → Nat) (F : α → List β) : ∀ L : List α, sm g (L.flatMap F) = sm (fun x => sm g (F x)) L
  | [] => rfl
  | a :: L => by rw [List.flatMap_cons, sm_app, sm_cons, sm_flat g F L]
theorem sm_map (g : β → Nat) (f : α → β) (L : List α) : sm g (L.map f) = sm (fun x => g (f x)) L := by
  unfold sm
  rw [List.map_map] <;> rfl
theorem sm_perm (g : α → Nat) {L M : List α} (p : L.Perm M) : sm g L = sm g M := (p.map g).sum_nat
theorem sm_congr {g h : α → Nat} : ∀ {L : List α}, (∀ x ∈ L, g x = h x) → sm g L = sm h L
  | [], _ => rfl
  | a :: L, q => by rw [sm_cons, sm_cons, q a List.mem_cons_self, sm_congr fun x hx => q x (List.mem_cons_of_mem _ hx)]
theorem sm_mod {g h : α → Nat} : ∀ {L : List α}, (∀ x ∈ L, g x % 2 = h x % 2) → sm g L % 2 = sm h L % 2
  | [], _ => rfl
  | a :: L, q => by
    have h1 := q a List.mem_cons_self
    have h2 := sm_mod (L := L) fun x hx => q x (List.mem_cons_of_mem _ hx)
    rw [sm_cons, sm_cons]
    omega
theorem sm_add (g h : α → Nat) : ∀ L : List α, sm (fun x => g x + h x) L = sm g L + sm h L
  | [] => rfl
  | a :: L => by
    rw [sm_cons, sm_cons, sm_cons, sm_add g h L]
    omega
theorem sm_filter (g : α → Nat) (p : α → Bool) : ∀ L : List α, sm g (L.filter p) = sm (fun x => if p x = true then g x else 0) L
  | [] => rfl
  | a :: L => by
    rw [List.filter_cons, sm_cons]
    by_cases h : p a = true
    · rw [if_pos h, if_pos h, sm_cons, sm_filter g p L]
    · rw [if_neg h, if_neg h, sm_filter g p L]
      omega
theorem sm_zero : ∀ L : List α, sm (fun _ => 0) L = 0
  | [] => rfl
  | a :: L => by rw [sm_cons, sm_zero L]
theorem sm_swap (f : α → β → Nat) (M : List β) : ∀ L : List α, sm (fun x => sm (fun y => f x y) M) L = sm (fun y => sm (fun x => f x y) L) M
  | [] => (sm_zero M).symm
  | a :: L => by
    rw [sm_cons, sm_swap f M L, ← sm_add]
    exact sm_congr fun y _ => (sm_cons (fun x => f x y) a L).symm
theorem sm_rep (g : α → Nat) (a : α) : ∀ n, sm g (List.replicate n a) = n * g a
  | 0 => by simp [sm]
  | n + 1 => by rw [List.replicate_succ, sm_cons, sm_rep g a n, Nat.succ_mul]; omega
theorem sm_if0 (p : α → Bool) (F : α → β) (h : β → Nat) (L : List α) : sm h ((L.filter p).map F) = sm (fun x => if p x = true then h (F x) else 0) L := by
  rw [sm_map, sm_filter]
end
abbrev Rm' := List Int
def ind (k : List Int) : List Int → Nat := fun x => if x = k then 1 else 0
theorem count_sm (k : List Int) : ∀ L : List (List Int), L.count k = sm (ind k) L
  | [] => rfl
  | a :: L => by
    rw [List.count_cons, sm_cons, count_sm k L]
    unfold ind
    by_cases h : a = k
    · subst h
      simp
      omega
    · simp [h]
def Ev (L : List (List Int)) : Prop := ∀ g : List Int → Nat, sm g L % 2 = 0
def Eq2 (L M : List (List Int)) : Prop := ∀ g : List Int → Nat, sm g L % 2 = sm g M % 2
theorem ev_count_aux : ∀ (n : Nat) (L : List (List Int)), L.length ≤ n → (∀ k, L.count k % 2 = 0) → Ev L
  | _, [], _, _ => fun _ => rfl
  | 0, _ :: _, h, _ => by rw [List.length_cons] at h; omega
  | n + 1, a :: L, hl, hc => by
    have h1 := hc a
    rw [List.count_cons_self] at h1
    have hm : a ∈ L := List.count_pos_iff.mp (by omega)
    obtain ⟨s, t, rfl⟩ := List.append_of_mem hm
    have hp : (a :: (s ++ a :: t)).Perm (a :: a :: (s ++ t)) := List.Perm.cons a List.perm_middle
    have ih := ev_count_aux n (s ++ t) (by rw [List.length_cons, List.length_append, List.length_cons] at hl; rw [List.length_append]; omega) fun k => by
      have h2 := hc k
      rw [hp.count_eq, List.count_cons, List.count_cons] at h2
      split at h2 <;> omega
    intro g
    rw [sm_perm g hp, sm_cons, sm_cons]
    have := ih g
    omega
theorem ev_count {L : List (List Int)} (h : ∀ k, L.count k % 2 = 0) : Ev L := ev_count_aux L.length L (Nat.le_refl _) h
theorem Ev.count {L : List (List Int)} (h : Ev L) (k : List Int) : L.count k % 2 = 0 := by
  rw [count_sm]
  exact h _
theorem Ev.app {L M : List (List Int)} (h : Ev L) (q : Ev M) : Ev (L ++ M) := fun g => by
  have h1 := h g
  have h2 := q g
  rw [sm_app]
  omega
theorem ev_of_app {L M : List (List Int)} (h : Ev (L ++ M)) : Eq2 L M := fun g => by
  have h1 := h g
  rw [sm_app] at h1
  omega
theorem eq2_of_count {L M : List (List Int)} (h : ∀ k, L.count k % 2 = M.count k % 2) : Eq2 L M := ev_of_app (ev_count fun k => by
  have := h k
  rw [List.count_append]
  omega)
theorem Eq2.count {L M : List (List Int)} (h : Eq2 L M) (k : List Int) : L.count k % 2 = M.count k % 2 := by
  rw [count_sm, count_sm]
  exact h _
theorem Eq2.flat {L M : List (List Int)} (h : Eq2 L M) (F : List Int → List (List Int)) : Eq2 (L.flatMap F) (M.flatMap F) := fun g => by
  rw [sm_flat, sm_flat]
  exact h _
theorem Eq2.symm {L M : List (List Int)} (h : Eq2 L M) : Eq2 M L := fun g => (h g).symm
theorem Eq2.trans {L M N : List (List Int)} (h : Eq2 L M) (q : Eq2 M N) : Eq2 L N := fun g => (h g).trans (q g)
theorem Eq2.ev {L M : List (List Int)} (h : Eq2 L M) (q : Ev M) : Ev L := fun g => (h g).trans (q g)
theorem Ev.flat {L : List (List Int)} (h : Ev L) (F : List Int → List (List Int)) : Ev (L.flatMap F) := fun g => by
  rw [sm_flat]
  exact h _
/-! ### tallies -/
def expW (w : Ways) : List (List Int) := w.flatMap fun e => List.replicate e.2.toNat e.1
structure Tal (w : Ways) (L : List (List Int)) : Prop where
  nd : (w.map (·.1)).Nodup
  pos : ∀ e ∈ w, 0 < e.2
  perm : L.Perm (expW w)
theorem putA_new {w : Ways} {k : List Int} (v : Int) (h : k ∉ w.map (·.1)) : putA w k v = w ++ [(k, v)] := by
  unfold putA
  rw [if_neg fun z => h ?_]
  obtain ⟨e, he, hk⟩ := List.any_eq_true.mp z
  exact List.mem_map.mpr ⟨e, he, of_decide_eq_true hk⟩
theorem putA_eq {w : Ways} {e : List Int × Int} (v : Int) (h : e.1 ∉ w.map (·.1)) : putA (e :: w) e.1 v = (e.1, v) :: w := by
  unfold putA
  rw [if_pos (by rw [List.any_cons, decide_eq_true rfl, Bool.true_or]), List.map_cons, if_pos rfl]
  congr 1
  have : ∀ x ∈ w, (if x.1 = e.1 then (x.1, v) else x) = x := fun x hx => if_neg fun z => h (by rw [← z]; exact List.mem_map_of_mem hx)
  rw [List.map_congr_left this, List.map_id']
theorem putA_ne {w : Ways} {e : List Int × Int} {k : List Int} (v : Int) (h : e.1 ≠ k) : putA (e :: w) k v = e :: putA w k v := by
  unfold putA
  rw [List.any_cons, decide_eq_false h, Bool.false_or, List.map_cons, if_neg h]
  split <;> rfl
theorem getD_eq {w : Ways} {e : List Int × Int} : getD (e :: w) e.1 = e.2 := by
  unfold getD getA
  rw [List.find?_cons, decide_eq_true rfl] <;> rfl
theorem getD_ne {w : Ways} {e : List Int × Int} {k : List Int} (h : e.1 ≠ k) : getD (e :: w) k = getD w k := by
  unfold getD getA
  rw [List.find?_cons, decide_eq_false h]
theorem getD_nil (k : List Int) : getD [] k = 0 := rfl
theorem getD_out : ∀ {w : Ways} {k : List Int}, k ∉ w.map (·.1) → getD w k = 0
  | [], _, _ => rfl
  | e :: w, k, h => by
    rw [List.map_cons, List.mem_cons, not_or] at h
    rw [getD_ne (fun z => h.1 z.symm), getD_out h.2]
theorem expW_cons (e : List Int × Int) (w : Ways) : expW (e :: w) = List.replicate e.2.toNat e.1 ++ expW w := by
  unfold expW
  rw [List.flatMap_cons]
theorem put_exp : ∀ {w : Ways} (k : List Int) (n : Int), 0 ≤ n → (w.map (·.1)).Nodup → (∀ e ∈ w, 0 < e.2) → (expW (putA w k (getD w k + n))).Perm (List.replicate n.toNat k ++ expW w)
  | [], k, n, hn, _, _ => by
    rw [getD_nil, Int.zero_add]
    show (expW [(k, n)]).Perm _
    rw [expW_cons]
  | e :: w, k, n, hn, hd, hp => by
    rw [List.map_cons, List.nodup_cons] at hd
    by_cases h : e.1 = k
    · subst h
      rw [getD_eq, putA_eq _ hd.1, expW_cons, expW_cons]
      have he := hp e List.mem_cons_self
      have : (e.2 + n).toNat = n.toNat + e.2.toNat := by omega
      show (List.replicate (e.2 + n).toNat e.1 ++ expW w).Perm _
      rw [this, ← List.replicate_append_replicate, List.append_assoc]
    · rw [getD_ne h, putA_ne _ h, expW_cons, expW_cons]
      have ih := put_exp (w := w) k n hn hd.2 fun x hx => hp x (List.mem_cons_of_mem _ hx)
      refine (List.Perm.append_left _ ih).trans ?_
      rw [← List.append_assoc, ← List.append_assoc]
      exact List.Perm.append_right _ List.perm_append_comm
theorem putA_mem {β : Type} {w : List (List Int × β)} {k : List Int} {v : β} : ∀ e ∈ putA w k v, e = (k, v) ∨ e ∈ w := by
  intro e he
  unfold putA at he
  split at he
  · obtain ⟨x, hx, rfl⟩ := List.mem_map.mp he
    split
    · rename_i h
      exact .inl (by rw [← h])
    · exact .inr hx
  · rcases List.mem_append.mp he with h | h
    · exact .inr h
    · exact .inl (List.mem_singleton.mp h)
theorem getD_pos : ∀ {w : Ways} (k : List Int), (∀ e ∈ w, 0 < e.2) → 0 ≤ getD w k
  | [], _, _ => Int.le_refl _
  | e :: w, k, h => by
    by_cases q : e.1 = k
    · subst q
      rw [getD_eq]
      exact Int.le_of_lt (h e List.mem_cons_self)
    · rw [getD_ne q]
      exact getD_pos k fun x hx => h x (List.mem_cons_of_mem _ hx)
theorem Tal.put {w : Ways} {L : List (List Int)} (t : Tal w L) (k : List Int) {n : Int} (hn : 0 < n) : Tal (putA w k (getD w k + n)) (List.replicate n.toNat k ++ L) := by
  refine ⟨putA_nd _ _ t.nd, fun e he => ?_, ((List.Perm.append_left _ t.perm)).trans (put_exp k n (Int.le_of_lt hn) t.nd t.pos).symm⟩
  rcases putA_mem e he with rfl | h
  · have := getD_pos k t.pos
    show 0 < getD w k + n
    omega
  · exact t.pos e h
theorem Tal.congr {w : Ways} {L M : List (List Int)} (t : Tal w L) (p : M.Perm L) : Tal w M := ⟨t.nd, t.pos, p.trans t.perm⟩
theorem tal_nil : Tal [] [] := ⟨List.nodup_nil, (fun _ h => by cases h), List.Perm.refl _⟩
theorem count_exp : ∀ {w : Ways} (k : List Int), (w.map (·.1)).Nodup → (∀ e ∈ w, 0 < e.2) → ((expW w).count k : Int) = getD w k
  | [], _, _, _ => rfl
  | e :: w, k, hd, hp => by
    rw [List.map_cons, List.nodup_cons] at hd
    have ih := count_exp (w := w) k hd.2 fun x hx => hp x (List.mem_cons_of_mem _ hx)
    have he := hp e List.mem_cons_self
    rw [expW_cons, List.count_append, List.count_replicate]
    by_cases h : e.1 = k
    · subst h
      rw [getD_eq]
      rw [getD_out hd.1] at ih
      simp
      omega
    · rw [getD_ne h]
      simp [h]
      exact ih
theorem Tal.getD {w : Ways} {L : List (List Int)} (t : Tal w L) (k : List Int) : NA.getD w k = (L.count k : Int) := by
  rw [t.perm.count_eq]
  exact (count_exp k t.nd t.pos).symm
theorem Tal.mem {w : Ways} {L : List (List Int)} (t : Tal w L) (k : List Int) : k ∈ w.map (·.1) ↔ k ∈ L := by
  rw [t.perm.mem_iff]
  unfold expW
  rw [List.mem_flatMap, List.mem_map]
  constructor
  · rintro ⟨e, he, rfl⟩
    have := t.pos e he
    exact ⟨e, he, List.mem_replicate.mpr ⟨by omega, rfl⟩⟩
  · rintro ⟨e, he, h⟩
    exact ⟨e, he, (List.mem_replicate.mp h).2.symm⟩
end NA
/-! The plain law, 2: joins, rows, the walk. -/
namespace NA
open PySem PySem.Spec PyProof.Rows L2
theorem perm_of_sm {L M : List (List Int)} (h : ∀ g, sm g L = sm g M) : L.Perm M := by
  rw [List.perm_iff_count]
  intro k
  rw [count_sm, count_sm]
  exact h _
theorem sm_mul {α : Type} (n : Nat) (g : α → Nat) : ∀ L : List α, sm (fun x => n * g x) L = n * sm g L
  | [] => rfl
  | a :: L => by rw [sm_cons, sm_cons, sm_mul n g L, Nat.mul_add]
/-! ### sorted ints -/
theorem srtI_perm (l : List Int) : (srtI l).Perm l := List.mergeSort_perm _ _
theorem srtI_sorted (l : List Int) : (srtI l).Pairwise (· ≤ ·) := by
  have h := List.pairwise_mergeSort (le := leI) (fun a b c h1 h2 => by
    unfold leI at *
    have h1 := of_decide_eq_true h1
    have h2 := of_decide_eq_true h2
    exact decide_eq_true (Int.le_trans h1 h2)) (fun a b => by
    unfold leI
    rw [Bool.or_eq_true, decide_eq_true_eq, decide_eq_true_eq]
    omega) l
  exact h.imp fun q => of_decide_eq_true q
theorem sorted_eq {l m : List Int} (p : l.Perm m) (h : l.Pairwise (· ≤ ·)) (q : m.Pairwise (· ≤ ·)) : l = m :=
  List.Perm.eq_of_pairwise (le := (· ≤ ·)) (fun a b _ _ h1 h2 => Int.le_antisymm h1 h2) h q p
theorem srtI_congr {l m : List Int} (p : l.Perm m) : srtI l = srtI m := sorted_eq ((srtI_perm l).trans (p.trans (srtI_perm m).symm)) (srtI_sorted l) (srtI_sorted m)
theorem asc_le {l : List Int} (h : l.Pairwise (· < ·)) : l.Pairwise (· ≤ ·) := h.imp fun q => Int.le_of_lt q
theorem asc_nd {l : List Int} (h : l.Pairwise (· < ·)) : l.Nodup := h.imp fun q => Int.ne_of_lt q
theorem nd_asc {l : List Int} (h : l.Pairwise (· ≤ ·)) (q : l.Nodup) : l.Pairwise (· < ·) := (h.and q).imp fun z => by
  have := z.1
  have := z.2
  omega
theorem srtI_asc {l : List Int} (h : l.Nodup) : (srtI l).Pairwise (· < ·) := nd_asc (srtI_sorted l) ((srtI_perm l).nodup_iff.mpr h)
theorem asc_eq {l m : List Int} (h : l.Pairwise (· < ·)) (q : m.Pairwise (· < ·)) (e : ∀ x, x ∈ l ↔ x ∈ m) : l = m :=
  sorted_eq ((List.perm_ext_iff_of_nodup (asc_nd h) (asc_nd q)).mpr e) (asc_le h) (asc_le q)
/-! ### no place in common -/
theorem dj_iff {c r : List Int} : disj c r = true ↔ ∀ p ∈ r, p ∉ c := by
  unfold disj
  rw [List.all_eq_true]
  exact ⟨fun h p hp => of_decide_eq_true (h p hp), fun h p hp => decide_eq_true (h p hp)⟩
theorem disj_eq {a b c d : List Int} (h : (∀ p ∈ b, p ∉ a) ↔ (∀ p ∈ d, p ∉ c)) : disj a b = disj c d := by
  rw [Bool.eq_iff_iff, dj_iff, dj_iff]
  exact h
theorem disj_nil (r : List Int) : disj [] r = true := dj_iff.mpr fun p _ h => nomatch h
theorem disj_comm (c r : List Int) : disj c r = disj r c := disj_eq ⟨fun h p hp hq => h p hq hp, fun h p hp hq => h p hq hp⟩
theorem disj_app (a b r : List Int) : disj (a ++ b) r = (disj a r && disj b r) := by
  rw [Bool.eq_iff_iff, Bool.and_eq_true, dj_iff, dj_iff, dj_iff]
  exact ⟨fun h => ⟨fun p hp hq => h p hp (List.mem_append_left _ hq), fun p hp hq => h p hp (List.mem_append_right _ hq)⟩, fun h p hp hq => (List.mem_append.mp hq).elim (h.1 p hp) (h.2 p hp)⟩
theorem disj_app' (a r q : List Int) : disj a (r ++ q) = (disj a r && disj a q) := by rw [disj_comm, disj_app, disj_comm r a, disj_comm q a]
theorem disj_srt (l r : List Int) : disj (srtI l) r = disj l r := disj_eq ⟨fun h p hp hq => h p hp ((srtI_perm l).mem_iff.mpr hq), fun h p hp hq => h p hp ((srtI_perm l).mem_iff.mp hq)⟩
/-! ### joins -/
def Pj (c r : List Int) : List (List Int) := if disj c r = true then [uni c r] else []
def J (A b : List (List Int)) : List (List Int) := A.flatMap fun c => b.flatMap (Pj c)
theorem sm_Pj (g : List Int → Nat) (c r : List Int) : sm g (Pj c r) = if disj c r = true then g (uni c r) else 0 := by
  unfold Pj
  split
  · rw [sm_cons, sm_nil, Nat.add_zero]
  · rfl
theorem sm_J (g : List Int → Nat) (A b : List (List Int)) : sm g (J A b) = sm (fun c => sm (fun r => if disj c r = true then g (uni c r) else 0) b) A := by
  unfold J
  rw [sm_flat]
  refine sm_congr fun c _ => ?_
  rw [sm_flat]
  exact sm_congr fun r _ => sm_Pj g c r
theorem J_perm {A A' : List (List Int)} (p : A.Perm A') (b : List (List Int)) : (J A b).Perm (J A' b) := perm_of_sm fun g => by
  rw [sm_J, sm_J]
  exact sm_perm _ p
theorem Pj_map (c : List Int) (b : List (List Int)) : b.flatMap (Pj c) = (b.filter (disj c)).map (uni c) := flatMap_ifm (disj c) (uni c) b
theorem tal_R (c : List Int) {n : Int} (hn : 0 < n) : ∀ (b : List (List Int)) {w : Ways} {L : List (List Int)}, Tal w L → Tal (b.foldl (extR n c) w) ((b.flatMap fun r => if disj c r = true then List.replicate n.toNat (uni c r) else []) ++ L)
  | [], w, L, t => t
  | r :: b, w, L, t => by
    rw [List.foldl_cons, List.flatMap_cons]
    have h1 : Tal (extR n c w r) ((if disj c r = true then List.replicate n.toNat (uni c r) else []) ++ L) := by
      unfold extR
      by_cases h : disj c r = true
      · rw [if_pos h, if_pos h]
        exact t.put _ hn
      · rw [if_neg h, if_neg h]
        exact t
    have h2 := tal_R c hn b h1
    refine h2.congr ?_
    rw [← List.append_assoc]
    exact List.Perm.append_right _ List.perm_append_comm
theorem tal_C (b : List (List Int)) : ∀ (es : Ways), (∀ e ∈ es, 0 < e.2) → ∀ {w : Ways} {L : List (List Int)}, Tal w L → Tal (es.foldl (extC b) w) ((es.flatMap fun e => b.flatMap fun r => if disj e.1 r = true then List.replicate e.2.toNat (uni e.1 r) else []) ++ L)
  | [], _, w, L, t => t
  | e :: es, hp, w, L, t => by
    rw [List.foldl_cons, List.flatMap_cons]
    have h1 := tal_R e.1 (hp e List.mem_cons_self) b t
    have h2 := tal_C b es (fun x hx => hp x (List.mem_cons_of_mem _ hx)) (w := extC b w e) h1
    refine h2.congr ?_
    rw [← List.append_assoc]
    exact List.Perm.append_right _ List.perm_append_comm
theorem tal_ext {w : Ways} {L : List (List Int)} (t : Tal w L) (b : List (List Int)) : Tal (ext w b) (J L b) := by
  have h := tal_C b w t.pos tal_nil
  rw [List.append_nil] at h
  refine h.congr (perm_of_sm fun g => ?_)
  rw [sm_J, sm_perm _ t.perm, sm_flat]
  unfold expW
  rw [sm_flat]
  refine sm_congr fun e _ => ?_
  rw [sm_rep, sm_flat, ← sm_mul]
  refine sm_congr fun r _ => ?_
  split
  · rw [sm_rep]
  · rw [Nat.mul_zero] <;> rfl
theorem tal_one0 : Tal one0 [[]] := ⟨by unfold one0; simp, fun e he => by unfold one0 at he; rw [List.mem_singleton] at he; rw [he]; decide, by unfold one0 expW; simp⟩
/-! ### rows -/
def cov (row : List (List Int)) : List Int := srtI row.flatten
theorem uni_cov (row : List (List Int)) (r : List Int) : uni (cov row) r = cov (row ++ [r]) := by
  unfold uni cov
  refine srtI_congr ?_
  rw [List.flatten_append, List.flatten_cons, List.flatten_nil, List.append_nil]
  exact List.Perm.append_right _ (srtI_perm _)
theorem uni_cov' (row : List (List Int)) (r : List Int) : uni (cov row) r = cov (r :: row) := by
  unfold uni cov
  refine srtI_congr ?_
  rw [List.flatten_cons]
  exact (List.Perm.append_right _ (srtI_perm _)).trans List.perm_append_comm
theorem parts_met : ∀ (bs : List Rooms) (met : List Int), parts bs met = (parts bs []).filter fun row => disj met row.flatten
  | [], met => by
    rw [parts, parts, List.filter_cons, if_pos (by rw [List.flatten_nil]; rfl), List.filter_nil]
  | b :: bs, met => by
    rw [parts, parts, List.filter_flatMap]
    congr 1
    funext r
    rw [if_pos (disj_nil r), List.filter_map, List.nil_append, parts_met bs r, List.filter_filter, parts_met bs (met ++ r)]
    by_cases h : disj met r = true
    · rw [if_pos h]
      congr 1
      refine List.filter_congr fun row _ => ?_
      show disj (met ++ r) row.flatten = (disj met (r :: row).flatten && disj r row.flatten)
      rw [List.flatten_cons, disj_app', h, disj_app, Bool.true_and]
    · rw [if_neg h, List.filter_eq_nil_iff.mpr fun row _ => ?_]
      · rfl
      · show ¬ (disj met (r :: row).flatten && disj r row.flatten) = true
        rw [List.flatten_cons, disj_app']
        simp [h]
theorem parts_cons (b : Rooms) (bs : List Rooms) : parts (b :: bs) [] = b.flatMap fun r => ((parts bs []).filter fun row => disj r row.flatten).map (r :: ·) := by
  rw [parts]
  congr 1
  funext r
  rw [if_pos (disj_nil r), List.nil_append, parts_met bs r]
theorem parts_snoc (b : Rooms) : ∀ (bs : List Rooms) (met : List Int), parts (bs ++ [b]) met = (parts bs met).flatMap fun row => (b.filter fun r => disj (met ++ row.flatten) r).map fun r => row ++ [r]
  | [], met => by
    show parts [b] met = _
    rw [parts, parts, List.flatMap_cons, List.flatMap_nil, List.append_nil, List.flatten_nil, List.append_nil]
    have : ∀ r, (if disj met r = true then (parts [] (met ++ r)).map (r :: ·) else []) = if disj met r = true then [[r]] else [] := fun r => by rw [parts] <;> rfl
    rw [show (fun r => if disj met r = true then (parts [] (met ++ r)).map (r :: ·) else []) = fun r => if disj met r = true then [[r]] else [] from funext this]
    exact flatMap_ifm (disj met) (fun r => [r]) b
  | b0 :: bs, met => by
    show parts (b0 :: (bs ++ [b])) met = _
    rw [parts, parts, List.flatMap_assoc]
    congr 1
    funext r
    by_cases h : disj met r = true
    · rw [if_pos h, if_pos h, parts_snoc b bs (met ++ r), List.map_flatMap, List.flatMap_map]
      congr 1
      funext row
      rw [List.map_map, List.flatten_cons, List.append_assoc] <;> rfl
    · rw [if_neg h, if_neg h] <;> rfl
def U (bs : List Rooms) : List (List Int) := bs.foldl J [[]]
theorem U_snoc (bs : List Rooms) (b : Rooms) : U (bs ++ [b]) = J (U bs) b := by
  unfold U
  rw [List.foldl_append] <;> rfl
theorem U_rows_aux : ∀ (n : Nat) (bs : List Rooms), bs.length = n → U bs = (parts bs []).map cov
  | 0, bs, h => by
    obtain rfl := List.eq_nil_of_length_eq_zero h
    show [[]] = (parts [] []).map cov
    rw [parts]
    show [[]] = [srtI []]
    simp [srtI]
  | n + 1, bs, h => by
    rcases List.eq_nil_or_concat bs with rfl | ⟨cs, b, rfl⟩
    · cases h
    · rw [List.concat_eq_append] at h ⊢
      rw [List.length_append] at h
      have ih := U_rows_aux n cs (by simpa using h)
      rw [U_snoc, ih, parts_snoc, List.map_flatMap]
      unfold J
      rw [List.flatMap_map]
      congr 1
      funext row
      rw [Pj_map, List.map_map, List.nil_append]
      have e1 : b.filter (disj (cov row)) = b.filter fun r => disj row.flatten r := List.filter_congr fun r _ => disj_srt _ _
      rw [e1]
      exact List.map_congr_left fun r _ => uni_cov row r
theorem U_rows (bs : List Rooms) : U bs = (parts bs []).map cov := U_rows_aux _ bs rfl
theorem tal_ways {bs : List Rooms} : ∀ j, j ≤ bs.length → Tal (waysAt bs j) (U (bs.take j))
  | 0, _ => by
    show Tal one0 (U [])
    exact tal_one0
  | j + 1, h => by
    have hb : bs[j]? = some bs[j] := by simp
    rw [waysAt_snoc hb, take_snoc hb, U_snoc]
    exact tal_ext (tal_ways j (by omega)) _
def Vt : List Rooms → List (List Int)
  | [] => [[]]
  | b :: bs => J (Vt bs) b
theorem tal_tails : ∀ (bs : List Rooms) (t : Ways) (ts : List Ways), tailsW bs = t :: ts → Tal t (Vt bs)
  | [], t, ts, h => by
    cases h
    exact tal_one0
  | b :: bs, t, ts, h => by
    obtain ⟨t', ts', h'⟩ := tailsW_ne bs
    rw [tailsW_cons h'] at h
    cases h
    exact tal_ext (tal_tails bs t' ts' h') b
theorem V_rows : ∀ bs : List Rooms, (Vt bs).Perm ((parts bs []).map cov)
  | [] => by
    show [[]].Perm ((parts [] []).map cov)
    rw [parts]
    show [[]].Perm [srtI []]
    simp [srtI]
  | b :: bs => by
    refine (J_perm (V_rows bs) b).trans (perm_of_sm fun g => ?_)
    rw [sm_J, sm_map, sm_swap, sm_map, parts_cons, sm_flat]
    refine sm_congr fun r _ => ?_
    rw [sm_if0]
    refine sm_congr fun row _ => ?_
    show (if disj (cov row) r = true then g (uni (cov row) r) else 0) = if disj r row.flatten = true then g (cov (r :: row)) else 0
    rw [uni_cov', show disj (cov row) r = disj r row.flatten from (disj_srt _ _).trans (disj_comm _ _)]
end NA
/-! The plain law, 3: the walk hands out the rows. -/
namespace NA
open PySem PySem.Spec PyProof.Rows L2
abbrev snds (bs : List (Nat × Rooms)) : List Rooms := bs.map (fun c : Nat × Rooms => c.2)
def Sz (bs : List (Nat × Rooms)) : Prop := ∀ c ∈ bs, ∀ r ∈ c.2, r.length = c.1 ∧ r.Pairwise (· < ·)
theorem Sz.tail {c : Nat × Rooms} {bs : List (Nat × Rooms)} (h : Sz (c :: bs)) : Sz bs := fun d hd => h d (List.mem_cons_of_mem _ hd)
theorem sumS_cons (c : Nat × Rooms) (bs : List (Nat × Rooms)) : sumS (c :: bs) = c.1 + sumS bs := by
  unfold sumS
  rw [List.map_cons, List.sum_cons]
theorem parts_row : ∀ {bs : List (Nat × Rooms)} {met : List Int} {row : List (List Int)}, Sz bs → row ∈ parts (snds bs) met → row.flatten.length = sumS bs ∧ row.flatten.Nodup ∧ ∀ p ∈ row.flatten, p ∉ met
  | [], met, row, _, h => by
    change row ∈ parts [] met at h
    rw [parts, List.mem_singleton] at h
    rw [h]
    exact ⟨rfl, List.nodup_nil, fun _ z => nomatch z⟩
  | c :: bs, met, row, hs, h => by
    change row ∈ parts (c.2 :: snds bs) met at h
    rw [parts, List.mem_flatMap] at h
    obtain ⟨r, hr, h⟩ := h
    split at h
    · rename_i hd
      obtain ⟨row', hr', rfl⟩ := List.mem_map.mp h
      obtain ⟨h1, h2, h3⟩ := parts_row hs.tail hr'
      obtain ⟨hl, ha⟩ := hs c List.mem_cons_self r hr
      rw [List.flatten_cons, sumS_cons]
      refine ⟨by rw [List.length_append, h1, hl], List.nodup_append.mpr ⟨asc_nd ha, h2, fun a q b hb => ?_⟩, fun p hp => ?_⟩
      · intro e
        subst e
        exact h3 a hb (List.mem_append_right _ q)
      · rcases List.mem_append.mp hp with hp | hp
        · exact dj_iff.mp hd p hp
        · exact fun z => h3 p hp (List.mem_append_left _ z)
    · cases h
theorem getA_some {w : Ways} {k : List Int} : (getA w k).isSome = true ↔ k ∈ w.map (·.1) := by
  unfold getA
  rw [Option.isSome_map, List.find?_isSome, List.mem_map]
  exact ⟨fun ⟨e, he, hk⟩ => ⟨e, he, of_decide_eq_true hk⟩, fun ⟨e, he, hk⟩ => ⟨e, he, decide_eq_true hk⟩⟩
/-- what is left of a room's places -/
theorem len_split (left r : List Int) : (left.filter fun p => decide (p ∈ r)).length + (left.filter fun p => decide (p ∉ r)).length = left.length := by
  induction left with
  | nil => rfl
  | cons a l ih =>
    rw [List.filter_cons, List.filter_cons]
    by_cases h : a ∈ r
    · simp only [decide_eq_true h, decide_eq_false (not_not_intro h), if_true]
      simp at ih ⊢
      omega
    · simp only [decide_eq_false h, decide_eq_true h, if_true]
      simp at ih ⊢
      omega
theorem sub_of_len {l m : List Int} (hl : l.Nodup) (hm : m.Nodup) (hs : l ⊆ m) (hn : m.length ≤ l.length) : m ⊆ l := by
  intro x hx
  by_cases h : x ∈ l
  · exact h
  · have h1 : (x :: l).Nodup := List.nodup_cons.mpr ⟨h, hl⟩
    have h2 := h1.length_le_of_subset (l₂ := m) (by
      intro y hy
      rcases List.mem_cons.mp hy with rfl | hy
      · exact hx
      · exact hs hy)
    rw [List.length_cons] at h2
    omega
theorem row_rest {left r : List Int} {row : List (List Int)} (hl : left.Pairwise (· < ·)) (hr : r.Pairwise (· < ·)) (hn : row.flatten.Nodup) (hc : left.length = r.length + row.flatten.length) :
    decide (cov row = left.filter fun p => decide (p ∉ r)) = (disj r row.flatten && decide (cov (r :: row) = left)) := by
  rw [Bool.eq_iff_iff, Bool.and_eq_true, decide_eq_true_eq, decide_eq_true_eq, dj_iff]
  have hp : (cov row).Perm row.flatten := srtI_perm row.flatten
  have hp2 : (cov (r :: row)).Perm (r ++ row.flatten) := srtI_perm (r :: row).flatten
  constructor
  · intro e
    have hm : ∀ p, p ∈ row.flatten ↔ p ∈ left ∧ p ∉ r := fun p => by
      have h1 : p ∈ cov row ↔ p ∈ row.flatten := hp.mem_iff
      rw [← h1, e, List.mem_filter, decide_eq_true_eq]
    have hd : ∀ p ∈ row.flatten, p ∉ r := fun p h => ((hm p).mp h).2
    refine ⟨hd, ?_⟩
    have h1 := congrArg List.length e
    have h2 := len_split left r
    have h3 : (cov row).length = row.flatten.length := hp.length_eq
    have hsub : r ⊆ left.filter fun p => decide (p ∈ r) := sub_of_len (List.Nodup.sublist List.filter_sublist (asc_nd hl)) (asc_nd hr) (fun x hx => of_decide_eq_true (List.mem_filter.mp hx).2) (by omega)
    refine asc_eq (srtI_asc (List.nodup_append.mpr ⟨asc_nd hr, hn, fun a q b hb z => hd b hb (z ▸ q)⟩)) hl fun x => ?_
    rw [hp2.mem_iff, List.mem_append, hm x]
    constructor
    · rintro (h | h)
      · exact (List.mem_filter.mp (hsub h)).1
      · exact h.1
    · intro h
      by_cases q : x ∈ r
      · exact .inl q
      · exact .inr ⟨h, q⟩
  · rintro ⟨hd, e⟩
    refine asc_eq (srtI_asc hn) (List.Pairwise.sublist List.filter_sublist hl) fun x => ?_
    rw [hp.mem_iff, List.mem_filter, decide_eq_true_eq, ← e, hp2.mem_iff, List.mem_append]
    exact ⟨fun h => ⟨.inr h, hd x h⟩, fun h => h.1.elim (fun q => absurd q h.2) id⟩
theorem flat_congr {α β : Type} {f g : α → List β} : ∀ {l : List α}, (∀ a ∈ l, f a = g a) → l.flatMap f = l.flatMap g
  | [], _ => rfl
  | a :: l, h => by rw [List.flatMap_cons, List.flatMap_cons, h a List.mem_cons_self, flat_congr fun x hx => h x (List.mem_cons_of_mem _ hx)]
theorem cov_nil : cov [] = [] := by
  show srtI [] = []
  simp [srtI]
theorem walk_parts : ∀ (bs : List (Nat × Rooms)) (left : List Int), bs ≠ [] → Sz bs → left.Pairwise (· < ·) → left.length = sumS bs →
    walkC ((snds bs).zip (tailsW (snds bs).tail)) left = (parts (snds bs) []).filter fun row => decide (cov row = left)
  | [], _, h, _, _, _ => absurd rfl h
  | c :: bs, left, _, hs, hl, hc => by
    obtain ⟨t, ts, ht⟩ := tailsW_ne (snds bs)
    have hts := tailsW_len (snds bs)
    rw [ht] at hts
    have htl : ts.length = (snds bs).length := by rw [List.length_cons] at hts; omega
    have e0 : (snds (c :: bs)).zip (tailsW (snds (c :: bs)).tail) = (c.2, t) :: (snds bs).zip ts := by
      show (c.2 :: snds bs).zip (tailsW (snds bs)) = _
      rw [ht] <;> rfl
    rw [e0, walkC]
    show _ = (parts (c.2 :: snds bs) []).filter _
    rw [parts_cons, List.filter_flatMap]
    refine flat_congr fun r hr => ?_
    obtain ⟨hrl, hra⟩ := hs c List.mem_cons_self r hr
    rw [List.filter_map, List.filter_filter]
    have hrest : ∀ row ∈ parts (snds bs) [], decide (cov row = left.filter fun p => decide (p ∉ r)) = (decide (cov (r :: row) = left) && disj r row.flatten) := fun row hrow => by
      obtain ⟨h1, h2, _⟩ := parts_row hs.tail hrow
      rw [row_rest hl hra h2 (by rw [hc, sumS_cons, hrl, h1]), Bool.and_comm]
    have e1 : (parts (snds bs) []).filter (fun row => ((fun row => decide (cov row = left)) ∘ fun x => r :: x) row && disj r row.flatten) = (parts (snds bs) []).filter fun row => decide (cov row = left.filter fun p => decide (p ∉ r)) :=
      List.filter_congr fun row hrow => (hrest row hrow).symm
    rw [e1]
    have hkey : (getA t (left.filter fun p => decide (p ∉ r))).isSome = true ↔ ∃ row ∈ parts (snds bs) [], cov row = left.filter fun p => decide (p ∉ r) := by
      rw [getA_some, (tal_tails _ _ _ ht).mem, (V_rows _).mem_iff, List.mem_map]
    show (if (getA t (left.filter fun p => decide (p ∉ r))).isSome = true then _ else _) = _
    by_cases hk : (getA t (left.filter fun p => decide (p ∉ r))).isSome = true
    · rw [if_pos hk]
      obtain ⟨row0, hrow0, hcov0⟩ := hkey.mp hk
      cases bs with
      | nil =>
        show [[r]] = ((parts [] []).filter _).map _
        change row0 ∈ parts [] [] at hrow0
        rw [parts, List.mem_singleton] at hrow0
        subst hrow0
        rw [parts, List.filter_cons, if_pos (decide_eq_true hcov0)] <;> rfl
      | cons d bs =>
        obtain ⟨t', ts', ht'⟩ := tailsW_ne (snds bs)
        have htt : ts = tailsW (snds bs) := by
          have : tailsW (snds (d :: bs)) = ext t' d.2 :: t' :: ts' := tailsW_cons ht'
          rw [ht] at this
          injection this with _ h2
          rw [h2, ht']
        have hz : ((snds (d :: bs)).zip ts).isEmpty = false := by
          rw [htt, ht'] <;> rfl
        rw [hz]
        show (walkC _ _).map _ = _
        obtain ⟨g1, g2, _⟩ := parts_row hs.tail hrow0
        have ih := walk_parts (d :: bs) (left.filter fun p => decide (p ∉ r)) (by simp) hs.tail (List.Pairwise.sublist List.filter_sublist hl) (by rw [← hcov0, ← g1]; exact (srtI_perm _).length_eq)
        rw [htt]
        show ((walkC ((snds (d :: bs)).zip (tailsW (snds (d :: bs)).tail)) _).map _) = _
        rw [ih] <;> rfl
    · rw [if_neg hk, List.filter_eq_nil_iff.mpr fun row hrow z => hk (hkey.mpr ⟨row, hrow, of_decide_eq_true z⟩)]
      rfl
theorem count_walk {n : Nat} {c : Nat × Rooms} {bs : List (Nat × Rooms)} (hs : Sz (c :: bs)) (hn : n = sumS (c :: bs)) (hr : (rng n).Pairwise (· < ·)) : countC n (snds (c :: bs)) = (((parts (snds (c :: bs)) []).filter fun row => decide (cov row = rng n)).length : Nat) := by
  obtain ⟨t, ts, ht⟩ := tailsW_ne (snds bs)
  have e0 : countC n (snds (c :: bs)) = (c.2.map fun r => getD t ((rng n).filter fun p => decide (p ∉ r))).sum := by
    show countC n (c.2 :: snds bs) = _
    rw [countC]
    simp only [ht]
    rfl
  rw [e0]
  show _ = ((((parts (c.2 :: snds bs) []).filter _).length : Nat) : Int)
  rw [parts_cons, List.filter_flatMap, List.length_flatMap]
  have hb : ∀ r ∈ c.2, getD t ((rng n).filter fun p => decide (p ∉ r)) = ((((((parts (snds bs) []).filter fun row => disj r row.flatten).map (r :: ·)).filter fun row => decide (cov row = rng n)).length : Nat) : Int) := fun r hr' => by
    obtain ⟨hrl, hra⟩ := hs c List.mem_cons_self r hr'
    rw [(tal_tails _ _ _ ht).getD, (V_rows _).count_eq, List.filter_map, List.length_map, List.filter_filter, List.count_eq_countP, List.countP_map, List.countP_eq_length_filter]
    congr 2
    refine List.filter_congr fun row hrow => ?_
    obtain ⟨h1, h2, _⟩ := parts_row hs.tail hrow
    have h3 := row_rest hr hra h2 (by rw [rng_len, hn, sumS_cons, hrl, h1])
    rw [Bool.and_comm] at h3
    show (cov row == _) = _
    rw [show (cov row == (rng n).filter fun p => decide (p ∉ r)) = decide (cov row = (rng n).filter fun p => decide (p ∉ r)) from by rw [Bool.eq_iff_iff, beq_iff_eq, decide_eq_true_eq], h3] <;> rfl
  have go : ∀ l : Rooms, (∀ r ∈ l, r ∈ c.2) → (l.map fun r => getD t ((rng n).filter fun p => decide (p ∉ r))).sum = (((l.map fun r => ((((parts (snds bs) []).filter fun row => disj r row.flatten).map (r :: ·)).filter fun row => decide (cov row = rng n)).length).sum : Nat) : Int) := by
    intro l
    induction l with
    | nil => intro _; rfl
    | cons r l ih =>
      intro h
      rw [List.map_cons, List.sum_cons, List.map_cons, List.sum_cons, ih fun x hx => h x (List.mem_cons_of_mem _ hx), hb r (h r List.mem_cons_self)]
      omega
  exact go c.2 fun r h => h
end NA
/-! The plain law, 4: boundaries. -/
namespace NA
open PySem PySem.Spec PyProof.Rows L2
theorem faces_cons (a : Int) (r : List Int) : faces (a :: r) = r :: (faces r).map (a :: ·) := by
  unfold faces
  rw [List.length_cons, List.range_succ_eq_map, List.map_cons, List.map_map, List.map_map]
  rfl
theorem faces_erase : ∀ {l : List Int}, l.Nodup → faces l = l.map fun x => l.erase x
  | [], _ => rfl
  | a :: r, h => by
    rw [List.nodup_cons] at h
    rw [faces_cons, faces_erase h.2, List.map_cons, List.erase_cons_head, List.map_map]
    congr 1
    refine List.map_congr_left fun x hx => ?_
    have hne : a ≠ x := fun z => h.1 (z ▸ hx)
    show a :: r.erase x = (a :: r).erase x
    rw [List.erase_cons_tail (by simpa using hne)]
abbrev bd (L : List (List Int)) : List (List Int) := L.flatMap faces
theorem ev_each {L : List (List Int)} {F : List Int → List (List Int)} (h : ∀ x ∈ L, Ev (F x)) : Ev (L.flatMap F) := fun g => by
  rw [sm_flat]
  have := sm_mod (g := fun x => sm g (F x)) (h := fun _ => 0) (L := L) fun x hx => h x hx g
  rw [this, sm_zero]
theorem bd_bd : ∀ w : List Int, Ev (bd (faces w))
  | [] => fun g => rfl
  | a :: r => fun g => by
    show sm g ((faces (a :: r)).flatMap faces) % 2 = 0
    rw [faces_cons, List.flatMap_cons, sm_app, List.flatMap_map, sm_flat]
    have h1 : sm (fun f => sm g (faces (a :: f))) (faces r) = sm g (faces r) + sm (fun f => g (a :: f)) (bd (faces r)) := by
      rw [sm_flat, ← sm_add]
      refine sm_congr fun f _ => ?_
      rw [faces_cons, sm_cons, sm_map]
    rw [h1]
    have h2 := bd_bd r fun f => g (a :: f)
    omega
theorem uni_erase_l {c r : List Int} {x : Int} (h : x ∈ c) : (uni c r).erase x = uni (c.erase x) r := by
  unfold uni
  refine sorted_eq ?_ (List.Pairwise.sublist List.erase_sublist (srtI_sorted _)) (srtI_sorted _)
  have h1 := (srtI_perm (c ++ r)).erase x
  rw [List.erase_append_left _ h] at h1
  exact h1.trans (srtI_perm _).symm
theorem uni_erase_r {c r : List Int} {x : Int} (h : x ∉ c) : (uni c r).erase x = uni c (r.erase x) := by
  unfold uni
  refine sorted_eq ?_ (List.Pairwise.sublist List.erase_sublist (srtI_sorted _)) (srtI_sorted _)
  have h1 := (srtI_perm (c ++ r)).erase x
  rw [List.erase_append_right _ h] at h1
  exact h1.trans (srtI_perm _).symm
theorem uni_nd {c r : List Int} (hc : c.Nodup) (hr : r.Nodup) (hd : disj c r = true) : (uni c r).Nodup :=
  (srtI_perm _).nodup_iff.mpr (List.nodup_append.mpr ⟨hc, hr, fun a ha b hb e => dj_iff.mp hd b hb (e ▸ ha)⟩)
theorem disj_erase_l {c r : List Int} (x : Int) (h : disj c r = true) : disj (c.erase x) r = true := dj_iff.mpr fun p hp q => dj_iff.mp h p hp (List.mem_of_mem_erase q)
theorem disj_erase_r {c r : List Int} (x : Int) (h : disj c r = true) : disj c (r.erase x) = true := dj_iff.mpr fun p hp q => dj_iff.mp h p (List.mem_of_mem_erase hp) q
theorem leib (c r : List Int) (hc : c.Nodup) (hr : r.Nodup) (g : List Int → Nat) :
    sm (fun y => sm g (faces y)) (Pj c r) % 2 = (sm (fun c' => sm g (Pj c' r)) (faces c) + sm (fun r' => sm g (Pj c r')) (faces r)) % 2 := by
  have eA : sm (fun c' => sm g (Pj c' r)) (faces c) = sm (fun x => if disj (c.erase x) r = true then g (uni (c.erase x) r) else 0) c := by
    rw [faces_erase hc, sm_map]
    exact sm_congr fun x _ => sm_Pj g _ _
  have eB : sm (fun r' => sm g (Pj c r')) (faces r) = sm (fun x => if disj c (r.erase x) = true then g (uni c (r.erase x)) else 0) r := by
    rw [faces_erase hr, sm_map]
    exact sm_congr fun x _ => sm_Pj g _ _
  rw [eA, eB]
  by_cases h : disj c r = true
  · unfold Pj
    rw [if_pos h, sm_cons, sm_nil, Nat.add_zero, faces_erase (uni_nd hc hr h), sm_map, sm_perm _ (show (uni c r).Perm (c ++ r) from srtI_perm _), sm_app]
    congr 2
    · refine sm_congr fun x hx => ?_
      rw [if_pos (disj_erase_l x h), uni_erase_l hx]
    · refine sm_congr fun x hx => ?_
      rw [if_pos (disj_erase_r x h), uni_erase_r (dj_iff.mp h x hx)]
  · have e0 : sm (fun y => sm g (faces y)) (Pj c r) = 0 := by
      unfold Pj
      rw [if_neg h] <;> rfl
    have hex : ∃ y, y ∈ r ∧ y ∈ c := Classical.byContradiction fun z => h (dj_iff.mpr fun p hp q => z ⟨p, hp, q⟩)
    obtain ⟨y, hyr, hyc⟩ := hex
    have fA : sm (fun x => if disj (c.erase x) r = true then g (uni (c.erase x) r) else 0) c = sm (fun x => if disj (c.erase x) r = true then g (uni (c.erase x) r) else 0) (c.filter fun x => decide (x ∈ r)) := by
      rw [sm_filter]
      refine sm_congr fun x hx => ?_
      by_cases q : x ∈ r
      · rw [if_pos (decide_eq_true q)]
      · rw [if_neg (fun z => q (of_decide_eq_true z)), if_neg fun z => dj_iff.mp z y hyr ?_]
        exact (List.mem_erase_of_ne fun (e : y = x) => q (e ▸ hyr)).mpr hyc
    have fB : sm (fun x => if disj c (r.erase x) = true then g (uni c (r.erase x)) else 0) r = sm (fun x => if disj c (r.erase x) = true then g (uni c (r.erase x)) else 0) (r.filter fun x => decide (x ∈ c)) := by
      rw [sm_filter]
      refine sm_congr fun x hx => ?_
      by_cases q : x ∈ c
      · rw [if_pos (decide_eq_true q)]
      · rw [if_neg (fun z => q (of_decide_eq_true z)), if_neg fun z => dj_iff.mp z y ?_ hyc]
        exact (List.mem_erase_of_ne fun (e : y = x) => q (e ▸ hyc)).mpr hyr
    have hpm : (c.filter fun x => decide (x ∈ r)).Perm (r.filter fun x => decide (x ∈ c)) := by
      refine (List.perm_ext_iff_of_nodup (List.Nodup.sublist List.filter_sublist hc) (List.Nodup.sublist List.filter_sublist hr)).mpr fun x => ?_
      rw [List.mem_filter, List.mem_filter, decide_eq_true_eq, decide_eq_true_eq, And.comm]
    have fC : sm (fun x => if disj (c.erase x) r = true then g (uni (c.erase x) r) else 0) (r.filter fun x => decide (x ∈ c)) = sm (fun x => if disj c (r.erase x) = true then g (uni c (r.erase x)) else 0) (r.filter fun x => decide (x ∈ c)) := by
      refine sm_congr fun x hx => ?_
      obtain ⟨hxr, hxc⟩ := List.mem_filter.mp hx
      have hxc := of_decide_eq_true hxc
      have e1 : disj (c.erase x) r = disj c (r.erase x) := by
        rw [Bool.eq_iff_iff, dj_iff, dj_iff]
        constructor
        · intro q p hp hpc
          obtain ⟨h1, h2⟩ := (List.Nodup.mem_erase_iff hr).mp hp
          exact q p h2 ((List.Nodup.mem_erase_iff hc).mpr ⟨h1, hpc⟩)
        · intro q p hp hpc
          obtain ⟨h1, h2⟩ := (List.Nodup.mem_erase_iff hc).mp hpc
          exact q p ((List.Nodup.mem_erase_iff hr).mpr ⟨h1, hp⟩) h2
      have e2 : uni (c.erase x) r = uni c (r.erase x) := by
        unfold uni
        refine srtI_congr ?_
        have p1 : c.Perm (x :: c.erase x) := List.perm_cons_erase hxc
        have p2 : r.Perm (x :: r.erase x) := List.perm_cons_erase hxr
        exact ((List.Perm.append_left _ p2).trans List.perm_middle).trans (List.Perm.append_right (r.erase x) p1).symm
      rw [e1, e2]
    rw [e0, fA, fB, sm_perm _ hpm, fC]
    omega
theorem J_ev {A b : List (List Int)} (hA : ∀ c ∈ A, c.Nodup) (hb : ∀ r ∈ b, r.Nodup) (eA : Ev (bd A)) (eb : Ev (bd b)) : Ev (bd (J A b)) := fun g => by
  unfold bd J
  rw [sm_flat, sm_flat]
  have h1 : sm (fun c => sm (fun y => sm g (faces y)) (b.flatMap (Pj c))) A % 2 = sm (fun c => sm (fun r => sm (fun c' => sm g (Pj c' r)) (faces c)) b + sm (fun r => sm (fun r' => sm g (Pj c r')) (faces r)) b) A % 2 := by
    refine sm_mod fun c hc => ?_
    rw [sm_flat, ← sm_add]
    exact sm_mod fun r hr => leib c r (hA c hc) (hb r hr) g
  rw [h1, sm_add]
  have h2 : sm (fun c => sm (fun r => sm (fun c' => sm g (Pj c' r)) (faces c)) b) A % 2 = 0 := by
    rw [sm_swap]
    refine (sm_mod (h := fun _ => 0) fun r _ => ?_).trans (by rw [sm_zero])
    rw [← sm_flat (fun c' => sm g (Pj c' r)) faces A]
    exact eA fun c' => sm g (Pj c' r)
  have h3 : sm (fun c => sm (fun r => sm (fun r' => sm g (Pj c r')) (faces r)) b) A % 2 = 0 := by
    refine (sm_mod (h := fun _ => 0) fun c _ => ?_).trans (by rw [sm_zero])
    rw [← sm_flat (fun r' => sm g (Pj c r')) faces b]
    exact eb fun r' => sm g (Pj c r')
  omega
end NA
/-! The plain law, 5: how many. -/
namespace NA
open PySem PySem.Spec PyProof.Rows L2
def sub : Nat → List Int → List (List Int)
  | 0, _ => [[]]
  | _ + 1, [] => []
  | s + 1, x :: l => (sub s l).map (x :: ·) ++ sub (s + 1) l
def bin : Nat → Nat → Nat
  | _, 0 => 1
  | 0, _ + 1 => 0
  | a + 1, s + 1 => bin a s + bin a (s + 1)
theorem sub_len : ∀ (s : Nat) (l : List Int), (sub s l).length = bin l.length s
  | 0, l => by cases l <;> rfl
  | s + 1, [] => rfl
  | s + 1, x :: l => by
    rw [sub, List.length_append, List.length_map, sub_len s l, sub_len (s + 1) l, List.length_cons, bin]
theorem sub_mem : ∀ {r l : List Int}, r.Sublist l → r ∈ sub r.length l
  | [], l, _ => by cases l <;> simp [sub]
  | a :: r, _, .cons x (l₂ := l) h => by
    rw [List.length_cons, sub]
    have ih := sub_mem h
    rw [List.length_cons] at ih
    exact List.mem_append_right _ ih
  | a :: r, _, .cons₂ _ h => by
    rw [List.length_cons, sub]
    exact List.mem_append_left _ (List.mem_map.mpr ⟨r, sub_mem h, rfl⟩)
theorem bin_pow : ∀ a s, bin a s ≤ 2 ^ a
  | a, 0 => by rw [bin]; exact Nat.one_le_two_pow
  | 0, s + 1 => by rw [bin]; omega
  | a + 1, s + 1 => by
    have h1 := bin_pow a s
    have h2 := bin_pow a (s + 1)
    rw [bin, Nat.pow_succ]
    omega
theorem bin_zero : ∀ a s, a < s → bin a s = 0
  | a, 0, h => by omega
  | 0, s + 1, _ => rfl
  | a + 1, s + 1, h => by rw [bin, bin_zero a s (by omega), bin_zero a (s + 1) (by omega)]
/-- all sublists -/
def subs : List Int → List (List Int)
  | [] => [[]]
  | x :: l => (subs l).map (x :: ·) ++ subs l
theorem subs_len : ∀ l : List Int, (subs l).length = 2 ^ l.length
  | [] => rfl
  | x :: l => by
    rw [subs, List.length_append, List.length_map, subs_len l, List.length_cons, Nat.pow_succ]
    omega
theorem subs_mem : ∀ {r l : List Int}, r.Sublist l → r ∈ subs l
  | _, [], h => by
    cases h
    exact List.mem_singleton.mpr rfl
  | _, x :: l, .cons _ h => List.mem_append_right _ (subs_mem h)
  | _, x :: l, .cons₂ _ h => List.mem_append_left _ (List.mem_map.mpr ⟨_, subs_mem h, rfl⟩)
theorem asc_sub {r l : List Int} (hr : r.Pairwise (· < ·)) (hl : l.Pairwise (· < ·)) (h : r ⊆ l) : r.Sublist l ∧ l.filter (fun p => decide (p ∈ r)) = r := by
  have e : l.filter (fun p => decide (p ∈ r)) = r := asc_eq (List.Pairwise.sublist List.filter_sublist hl) hr fun x => by
    rw [List.mem_filter, decide_eq_true_eq]
    exact ⟨fun z => z.2, fun z => ⟨h z, z⟩⟩
  refine ⟨?_, e⟩
  have h2 : (l.filter fun p => decide (p ∈ r)).Sublist l := List.filter_sublist
  rw [e] at h2
  exact h2
theorem rng_asc (n : Nat) : (rng n).Pairwise (· < ·) := by
  unfold rng
  rw [List.pairwise_map]
  exact List.pairwise_lt_range.imp fun h => by
    show (_ : Int) < _
    exact Int.ofNat_lt.mpr h
theorem mem_rng {n : Nat} {p : Int} : p ∈ rng n ↔ 0 ≤ p ∧ p < n := by
  unfold rng
  rw [List.mem_map]
  constructor
  · rintro ⟨i, hi, rfl⟩
    have := List.mem_range.mp hi
    exact ⟨Int.natCast_nonneg i, Int.ofNat_lt.mpr this⟩
  · rintro ⟨h1, h2⟩
    exact ⟨p.toNat, List.mem_range.mpr (by omega), by show ((p.toNat : Nat) : Int) = p; omega⟩
def fct : Nat → Nat
  | 0 => 1
  | n + 1 => (n + 1) * fct n
/-- rows at most, by the sizes -/
def Bd : List Nat → Nat → Nat
  | [], _ => 1
  | s :: ss, a => bin a s * Bd ss (a - s)
theorem bin_fct : ∀ a, a < 8 → ∀ s, s < 8 → bin a s * fct (a - s) ≤ fct a := by decide +kernel
theorem bin_fct2 : ∀ a, a < 8 → ∀ s, s < 8 → 2 ≤ s → 2 * (bin a s * fct (a - s)) ≤ fct a := by decide +kernel
theorem Bd_fct : ∀ (ss : List Nat) (a : Nat), a < 8 → Bd ss a ≤ fct a
  | [], a, h => by
    have : ∀ a, a < 8 → 1 ≤ fct a := by decide +kernel
    exact this a h
  | s :: ss, a, h => by
    rw [Bd]
    by_cases q : s < 8
    · exact Nat.le_trans (Nat.mul_le_mul_left _ (Bd_fct ss (a - s) (by omega))) (bin_fct a h s q)
    · rw [bin_zero a s (by omega), Nat.zero_mul]
      exact Nat.zero_le _
theorem Bd_fct2 : ∀ (ss : List Nat) (a : Nat), a < 8 → (∃ s ∈ ss, 2 ≤ s) → 2 * Bd ss a ≤ fct a
  | [], a, _, h => by
    obtain ⟨s, hs, _⟩ := h
    cases hs
  | s :: ss, a, h, hx => by
    rw [Bd]
    by_cases q : s < 8
    · by_cases h2 : 2 ≤ s
      · have h3 := Bd_fct ss (a - s) (by omega)
        have h4 := bin_fct2 a h s q h2
        exact Nat.le_trans (Nat.mul_le_mul_left _ (Nat.mul_le_mul_left _ h3)) h4
      · obtain ⟨z, hz, hz2⟩ := hx
        have h3 := Bd_fct2 ss (a - s) (by omega) ⟨z, by
          rcases List.mem_cons.mp hz with e | e
          · omega
          · exact e, hz2⟩
        have h4 := bin_fct a h s q
        have h5 : 2 * (bin a s * Bd ss (a - s)) = bin a s * (2 * Bd ss (a - s)) := Nat.mul_left_comm _ _ _
        rw [h5]
        exact Nat.le_trans (Nat.mul_le_mul_left _ h3) h4
    · rw [bin_zero a s (by omega), Nat.zero_mul, Nat.mul_zero]
      exact Nat.zero_le _
theorem len_if {α β : Type} (p : α → Bool) (f : α → List β) (M : Nat) : ∀ b : List α, (∀ r ∈ b, p r = true → (f r).length ≤ M) → (b.flatMap fun r => if p r = true then f r else []).length ≤ (b.filter p).length * M
  | [], _ => Nat.zero_le _
  | r :: b, h => by
    have ih := len_if p f M b fun x hx => h x (List.mem_cons_of_mem _ hx)
    rw [List.flatMap_cons, List.length_append, List.filter_cons]
    by_cases q : p r = true
    · have := h r List.mem_cons_self q
      rw [if_pos q, if_pos q, List.length_cons, Nat.succ_mul]
      omega
    · rw [if_neg q, if_neg q]
      show 0 + _ ≤ _
      omega
/-- the places not met -/
def avail (n : Nat) (met : List Int) : List Int := (rng n).filter fun p => decide (p ∉ met)
theorem avail_asc (n : Nat) (met : List Int) : (avail n met).Pairwise (· < ·) := List.Pairwise.sublist List.filter_sublist (rng_asc n)
theorem Vr.sub {n s : Nat} {r : List Int} (v : Vr n s r) : r ⊆ rng n := fun p hp => mem_rng.mpr (v.lo p hp)
theorem avail_in {n s : Nat} {r met : List Int} (v : Vr n s r) (h : disj met r = true) : r ⊆ avail n met := fun p hp => List.mem_filter.mpr ⟨v.sub hp, decide_eq_true (dj_iff.mp h p hp)⟩
theorem avail_less {n s : Nat} {r met : List Int} (v : Vr n s r) (h : disj met r = true) : (avail n (met ++ r)).length = (avail n met).length - s ∧ s ≤ (avail n met).length := by
  have h1 := (asc_sub v.srt (avail_asc n met) (avail_in v h)).2
  have h2 := len_split (avail n met) r
  rw [h1, v.len] at h2
  have e : avail n (met ++ r) = (avail n met).filter fun p => decide (p ∉ r) := by
    unfold avail
    rw [List.filter_filter]
    refine List.filter_congr fun p _ => ?_
    rw [Bool.eq_iff_iff, Bool.and_eq_true, decide_eq_true_eq, decide_eq_true_eq, decide_eq_true_eq, List.mem_append, not_or, And.comm]
  rw [e]
  omega
theorem book_few {n s : Nat} {b : Rooms} (v : Vb n s b) (met : List Int) : (b.filter (disj met)).length ≤ bin (avail n met).length s := by
  rw [← sub_len]
  refine (List.Nodup.sublist List.filter_sublist v.nd).length_le_of_subset fun r hr => ?_
  obtain ⟨h1, h2⟩ := List.mem_filter.mp hr
  have vr := v.rm r h1
  have h3 := sub_mem (asc_sub vr.srt (avail_asc n met) (avail_in vr h2)).1
  rw [vr.len] at h3
  exact h3
theorem parts_few {n : Nat} : ∀ {bs : List (Nat × Rooms)} (met : List Int), (∀ c ∈ bs, Vb n c.1 c.2) → (parts (snds bs) met).length ≤ Bd (bs.map (·.1)) (avail n met).length
  | [], met, _ => by
    show (parts [] met).length ≤ 1
    rw [parts]
    exact Nat.le_refl _
  | c :: bs, met, h => by
    show (parts (c.2 :: snds bs) met).length ≤ bin (avail n met).length c.1 * Bd (bs.map (·.1)) ((avail n met).length - c.1)
    rw [parts]
    have hc := h c List.mem_cons_self
    refine Nat.le_trans (len_if (disj met) (fun r => (parts (snds bs) (met ++ r)).map (r :: ·)) (Bd (bs.map (·.1)) ((avail n met).length - c.1)) c.2 fun r hr hd => ?_) (Nat.mul_le_mul_right _ (book_few hc met))
    rw [List.length_map, ← (avail_less (hc.rm r hr) hd).1]
    exact parts_few (met ++ r) fun d hd => h d (List.mem_cons_of_mem _ hd)
theorem avail_nil (n : Nat) : avail n [] = rng n := by
  unfold avail
  rw [List.filter_eq_self]
  intro p _
  exact decide_eq_true fun z => nomatch z
theorem avail_le (n : Nat) (met : List Int) : (avail n met).length ≤ n := by
  have := (List.filter_sublist (l := rng n) (p := fun p => decide (p ∉ met))).length_le
  rw [rng_len] at this
  exact this
theorem sm_one {α : Type} : ∀ L : List α, sm (fun _ => 1) L = L.length
  | [] => rfl
  | a :: L => by rw [sm_cons, sm_one L, List.length_cons]; omega
theorem rows_5000 {n : Nat} {bs : List (Nat × Rooms)} (n7 : n ≤ 7) (ne : bs ≠ []) (pos : ∀ b ∈ bs, 1 ≤ b.1) (vb : ∀ b ∈ bs, Vb n b.1 b.2) (ev : ∀ b ∈ bs, Ev (bd b.2)) : (parts (snds bs) []).length ≤ 5000 := by
  have h1 := parts_few [] vb
  rw [avail_nil, rng_len] at h1
  by_cases h6 : n < 7
  · have h2 := Bd_fct (bs.map (·.1)) n (by omega)
    have h3 : ∀ n, n < 7 → fct n ≤ 5000 := by decide +kernel
    have := h3 n h6
    omega
  · have hn : n = 7 := by omega
    subst hn
    have e7 : fct 7 = 5040 := by decide +kernel
    by_cases hx : ∃ s ∈ bs.map (·.1), 2 ≤ s
    · have h2 := Bd_fct2 (bs.map (·.1)) 7 (by omega) hx
      rw [e7] at h2
      omega
    · cases bs with
      | nil => exact absurd rfl ne
      | cons c bs =>
        have hc1 : c.1 = 1 := by
          have h2 := pos c List.mem_cons_self
          have : ¬ 2 ≤ c.1 := fun z => hx ⟨c.1, List.mem_map_of_mem List.mem_cons_self, z⟩
          omega
        have hv := vb c List.mem_cons_self
        have hlen : c.2.length % 2 = 0 := by
          have h2 := ev c List.mem_cons_self fun _ => 1
          rw [sm_flat] at h2
          rw [← sm_one c.2, ← h2]
          congr 1
          refine sm_congr fun r hr => ?_
          rw [sm_one]
          have h3 := (hv.rm r hr).len
          rw [hc1] at h3
          show 1 = (faces r).length
          rw [faces_count, h3]
        have h7 : c.2.length ≤ 7 := by
          have h2 := book_few hv []
          rw [avail_nil, rng_len, hc1, List.filter_eq_self.mpr fun r _ => disj_nil r] at h2
          exact h2
        show (parts (c.2 :: snds bs) []).length ≤ 5000
        rw [parts]
        have h3 := len_if (disj []) (fun r => (parts (snds bs) ([] ++ r)).map (r :: ·)) 720 c.2 fun r hr hd => by
          rw [List.length_map]
          have h4 := parts_few ([] ++ r) (n := 7) fun d hd => vb d (List.mem_cons_of_mem _ hd)
          have h5 := (avail_less (hv.rm r hr) hd).1
          rw [avail_nil, rng_len, hc1] at h5
          rw [h5] at h4
          have h6 := Bd_fct (bs.map (·.1)) (7 - 1) (by omega)
          have e6 : fct (7 - 1) = 720 := by decide +kernel
          omega
        have h4 := (List.filter_sublist (l := c.2) (p := disj [])).length_le
        have h5 : c.2.length ≤ 6 := by omega
        have h6 : (c.2.filter (disj [])).length * 720 ≤ 6 * 720 := Nat.mul_le_mul_right _ (by omega)
        omega
end NA
/-! The plain law, 6: tallies of faces, the books drawn. -/
namespace NA
open PySem PySem.Spec PyProof.Rows L2
theorem tal_inc : ∀ (l : List (List Int)) {w : Ways} {L : List (List Int)}, Tal w L → Tal (l.foldl incF w) (l ++ L)
  | [], _, _, t => t
  | k :: l, w, L, t => by
    have h1 : Tal (incF w k) ([k] ++ L) := t.put k (n := 1) (by decide)
    refine (tal_inc l h1).congr ?_
    show ((k :: l) ++ L).Perm (l ++ (k :: L))
    exact List.perm_middle.symm
theorem tal_F (b : Rooms) : Tal (tallyF b) (bd b) := (tal_inc (bd b) tal_nil).congr (by rw [List.append_nil])
theorem Tal.val {w : Ways} {L : List (List Int)} (t : Tal w L) {e : List Int × Int} (h : e ∈ w) : e.2 = (L.count e.1 : Int) := by
  rw [← t.getD]
  unfold NA.getD
  rw [getA_mem t.nd h] <;> rfl
theorem evB_of {b : Rooms} (h1 : ∀ r ∈ b, r.length ≤ 7) (h2 : b.length ≤ 1000) (h : Ev (bd b)) : EvB b := by
  refine ⟨fun r hr => Nat.le_trans (h1 r hr) (by decide), ?_, fun e he => ?_⟩
  · have := flatMap_len faces 7 b fun r hr => by rw [faces_count]; exact h1 r hr
    omega
  · rw [(tal_F b).val he]
    have := h.count e.1
    omega
theorem EvB.ev {b : Rooms} (h : EvB b) : Ev (bd b) := ev_count fun k => by
  have t := tal_F b
  by_cases q : k ∈ (tallyF b).map (·.1)
  · obtain ⟨e, he, rfl⟩ := List.mem_map.mp q
    have h1 := h.even e he
    rw [t.val he] at h1
    omega
  · rw [t.mem] at q
    rw [List.count_eq_zero_of_not_mem q]
/-! ### toggles -/
theorem getD_put : ∀ {w : Ways} (x k : List Int) (v : Int), (w.map (·.1)).Nodup → getD (putA w x v) k = if x = k then v else getD w k
  | [], x, k, v, _ => by
    show getD [(x, v)] k = _
    by_cases h : x = k
    · subst h
      rw [if_pos rfl]
      exact getD_eq (e := (x, v))
    · rw [if_neg h]
      exact getD_ne (e := (x, v)) h
  | e :: w, x, k, v, hd => by
    rw [List.map_cons, List.nodup_cons] at hd
    by_cases h : e.1 = x
    · subst h
      rw [putA_eq _ hd.1]
      by_cases q : e.1 = k
      · rw [if_pos q, ← q]
        exact getD_eq (e := (e.1, v))
      · rw [if_neg q, getD_ne q]
        exact getD_ne (e := (e.1, v)) q
    · rw [putA_ne _ h]
      by_cases q : e.1 = k
      · rw [← q, getD_eq, if_neg fun z => h z.symm, getD_eq]
      · rw [getD_ne q, getD_ne q]
        exact getD_put x k v hd.2
theorem tog_fold : ∀ (l : List (List Int)) {w : Ways} (k : List Int), (w.map (·.1)).Nodup → getD (l.foldl togF w) k = if l.count k % 2 = 0 then getD w k else 1 - getD w k
  | [], w, k, _ => by
    rw [List.count_nil]
    exact (if_pos rfl).symm
  | x :: l, w, k, hd => by
    have hd' : ((togF w x).map (·.1)).Nodup := putA_nd _ _ hd
    rw [List.foldl_cons, tog_fold l k hd', List.count_cons]
    have e : getD (togF w x) k = if x = k then 1 - getD w x else getD w k := getD_put x k _ hd
    rw [e]
    by_cases h : x = k
    · subst h
      simp only [if_true, beq_self_eq_true]
      by_cases q : l.count x % 2 = 0
      · rw [if_pos q, if_neg (by omega)]
      · rw [if_neg q, if_pos (by omega)]
        omega
    · rw [if_neg h]
      have : (x == k) = false := by simpa using h
      rw [this]
      rfl
theorem togs_val (b : Rooms) (k : List Int) : getD (togs b) k = ((bd b).count k % 2 : Nat) := by
  have h := tog_fold (bd b) (w := []) k List.nodup_nil
  show getD ((bd b).foldl togF []) k = _
  rw [h, getD_nil]
  split <;> omega
theorem togs_el {b : Rooms} {e : List Int × Int} (h : e ∈ togs b) : e.2 = ((bd b).count e.1 % 2 : Nat) := by
  rw [← togs_val]
  unfold getD
  rw [getA_mem (togs_nd b) h] <;> rfl
theorem togs_ev {b : Rooms} (h : Ev (bd b)) : ∀ e ∈ togs b, e.2 ≠ 1 := fun e he => by
  rw [togs_el he]
  have := h.count e.1
  omega
/-! ### sorted rooms -/
theorem leR_tot (a b : List Int) : (leR a b || leR b a) = true := by
  unfold leR
  by_cases h : b < a
  · rw [decide_eq_false (lt_asymR h), Bool.not_false, Bool.or_true]
  · rw [decide_eq_false h, Bool.not_false, Bool.true_or]
theorem leR_trans (a b c : List Int) (h1 : leR a b = true) (h2 : leR b c = true) : leR a c = true := by
  unfold leR at *
  rw [Bool.not_eq_true'] at *
  have h1 := of_decide_eq_false h1
  have h2 := of_decide_eq_false h2
  exact decide_eq_false fun h => (List.lt_irrefl a) (by
    have h3 : ¬ c < b := h2
    have h4 : ¬ b < a := h1
    exact absurd h (List.not_lt.mpr (List.le_trans (List.not_lt.mp h4) (List.not_lt.mp h3))))
theorem srtR_lt {b : Rooms} (h : b.Nodup) : (srtR b).Pairwise (· < ·) := by
  have h1 := List.pairwise_mergeSort (le := leR) leR_trans leR_tot b
  have h2 : (srtR b).Nodup := (srtR_perm b).nodup_iff.mpr h
  refine (h1.and h2).imp fun {x y} z => ?_
  have h3 : leR x y = true := z.1
  unfold leR at h3
  rw [Bool.not_eq_true'] at h3
  have h3 := of_decide_eq_false h3
  exact Classical.byContradiction fun q => z.2 (List.le_antisymm (List.not_lt.mp h3) (List.not_lt.mp q))
theorem ltR_eq {l m : Rooms} (h : l.Pairwise (· < ·)) (q : m.Pairwise (· < ·)) (e : ∀ x, x ∈ l ↔ x ∈ m) : l = m := by
  refine List.Perm.eq_of_pairwise (le := (· < ·)) (fun a b _ _ h1 h2 => absurd h2 (lt_asymR h1)) h q ?_
  exact (List.perm_ext_iff_of_nodup (h.imp lt_neR) (q.imp lt_neR)).mpr e
/-! ### the books drawn -/
theorem evn_mem (ws : Rooms) (k : List Int) : k ∈ evn ws ↔ (bd ws).count k % 2 = 1 := by
  unfold evn
  rw [(srtR_perm _).mem_iff, List.mem_map]
  constructor
  · rintro ⟨e, he, rfl⟩
    obtain ⟨h1, h2⟩ := List.mem_filter.mp he
    have h2 := of_decide_eq_true h2
    rw [togs_el h1] at h2
    omega
  · intro h
    have h1 := togs_val ws k
    have h2 : k ∈ (togs ws).map (·.1) := Classical.byContradiction fun z => by
      rw [getD_out z] at h1
      omega
    obtain ⟨e, he, rfl⟩ := List.mem_map.mp h2
    refine ⟨e, List.mem_filter.mpr ⟨he, decide_eq_true ?_⟩, rfl⟩
    rw [togs_el he, h] <;> rfl
theorem evn_nd (ws : Rooms) : (((togs ws).filter fun e => decide (e.2 = 1)).map (·.1)).Nodup :=
  List.Nodup.sublist (List.Sublist.map _ List.filter_sublist) (togs_nd ws)
theorem evn_ev (ws : Rooms) : Ev (bd (evn ws)) := by
  have h1 : Eq2 (evn ws) (bd ws) := eq2_of_count fun k => by
    have hn : (evn ws).Nodup := (srtR_perm _).nodup_iff.mpr (evn_nd ws)
    rw [List.Nodup.count hn]
    have := evn_mem ws k
    split
    · rename_i h
      have := this.mp h
      omega
    · rename_i h
      have : ¬ (bd ws).count k % 2 = 1 := fun z => h (this.mpr z)
      omega
  refine (h1.flat faces).ev ?_
  show Ev ((ws.flatMap faces).flatMap faces)
  rw [List.flatMap_assoc]
  exact ev_each fun w _ => bd_bd w
theorem combos_sub : ∀ (s : Nat) (items : List Int), ∀ r ∈ combos s items, r.Sublist items
  | 0, items, r, h => by
    rw [combos, List.mem_singleton] at h
    rw [h]
    exact List.nil_sublist _
  | s + 1, items, r, h => by
    rw [combos, List.mem_flatMap] at h
    obtain ⟨k, hk, h⟩ := h
    obtain ⟨q, hq, rfl⟩ := List.mem_map.mp h
    have hk := List.mem_range.mp hk
    have ih := combos_sub s _ q hq
    have hl : k < items.length := by omega
    have e : items.drop k = items.getD k 0 :: items.drop (k + 1) := by
      rw [List.drop_eq_getElem_cons hl]
      simp [List.getD, hl]
    refine List.Sublist.trans ?_ (List.drop_sublist k items)
    rw [e]
    exact ih.cons₂ _
theorem faces_sub : ∀ {l f : List Int}, f ∈ faces l → f.Sublist l
  | l, f, h => by
    unfold faces at h
    obtain ⟨i, _, rfl⟩ := List.mem_map.mp h
    exact List.eraseIdx_sublist _ _
theorem evn_vb {n s : Nat} {ws : Rooms} (h1 : 1 ≤ s) (hn : s ≤ n) (hw : ws.Sublist (wholes n s)) : Vb n s (evn ws) := by
  refine ⟨fun r hr => ?_, srtR_lt (evn_nd ws)⟩
  have h := (evn_mem ws r).mp hr
  have hm : r ∈ bd ws := List.count_pos_iff.mp (by omega)
  obtain ⟨w, hwm, hf⟩ := List.mem_flatMap.mp hm
  have hwm := hw.subset hwm
  unfold wholes at hwm
  obtain ⟨q, hq, rfl⟩ := List.mem_map.mp hwm
  have hqs := combos_sub _ _ q hq
  have hql := combos_el _ _ q hq
  have hasc : (q ++ [(n : Int) - 1]).Pairwise (· < ·) := by
    rw [List.pairwise_append]
    refine ⟨List.Pairwise.sublist hqs (rng_asc _), List.pairwise_singleton _ _, fun a ha b hb => ?_⟩
    rw [List.mem_singleton] at hb
    have := (mem_rng.mp (hqs.subset ha)).2
    omega
  have hfs := faces_sub hf
  have hfl := faces_len hf
  refine ⟨List.Pairwise.sublist hfs hasc, fun p hp => ?_, ?_⟩
  · rcases List.mem_append.mp (hfs.subset hp) with h | h
    · have := mem_rng.mp (hqs.subset h)
      omega
    · rw [List.mem_singleton] at h
      omega
  · rw [List.length_append, hql] at hfl
    show r.length = s
    simp at hfl
    exact hfl
theorem vb_len {n s : Nat} {b : Rooms} (v : Vb n s b) (h : n ≤ 7) : b.length ≤ 128 := by
  have h1 := book_few v []
  rw [avail_nil, rng_len, List.filter_eq_self.mpr fun r _ => disj_nil r] at h1
  have h2 := bin_pow n s
  have h3 : 2 ^ n ≤ 2 ^ 7 := Nat.pow_le_pow_right (by decide) h
  omega
theorem vr_len {n s : Nat} {r : List Int} (v : Vr n s r) : r.length ≤ n := by
  have := (asc_sub v.srt (rng_asc n) v.sub).1.length_le
  rw [rng_len] at this
  exact this
theorem vb_evB {n s : Nat} {b : Rooms} (v : Vb n s b) (h : n ≤ 7) (e : Ev (bd b)) : EvB b :=
  evB_of (fun r hr => Nat.le_trans (vr_len (v.rm r hr)) h) (Nat.le_trans (vb_len v h) (by decide)) e
end NA
/-! The plain law, 7: ways, products. -/
namespace NA
open PySem PySem.Spec PyProof.Rows L2
abbrev Vbs (n : Nat) (bs : List (Nat × Rooms)) : Prop := ∀ c ∈ bs, Vb n c.1 c.2
theorem Vbs.sz {n : Nat} {bs : List (Nat × Rooms)} (h : Vbs n bs) : Sz bs := fun c hc r hr => ⟨((h c hc).rm r hr).len, ((h c hc).rm r hr).srt⟩
theorem parts_in : ∀ {bs : List Rooms} {met : List Int} {row : List (List Int)}, row ∈ parts bs met → ∀ r ∈ row, ∃ b ∈ bs, r ∈ b
  | [], met, row, h, r, hr => by
    rw [parts, List.mem_singleton] at h
    rw [h] at hr
    cases hr
  | b :: bs, met, row, h, r, hr => by
    rw [parts, List.mem_flatMap] at h
    obtain ⟨q, hq, h⟩ := h
    split at h
    · obtain ⟨row', hr', rfl⟩ := List.mem_map.mp h
      rcases List.mem_cons.mp hr with rfl | hr
      · exact ⟨b, List.mem_cons_self, hq⟩
      · obtain ⟨c, hc, h2⟩ := parts_in hr' r hr
        exact ⟨c, List.mem_cons_of_mem _ hc, h2⟩
    · cases h
theorem row_vr {n : Nat} {bs : List (Nat × Rooms)} {met : List Int} {row : List (List Int)} (h : Vbs n bs) (hr : row ∈ parts (snds bs) met) : ∀ r ∈ row, ∃ s, Vr n s r := fun r hm => by
  obtain ⟨b, hb, hrb⟩ := parts_in hr r hm
  obtain ⟨c, hc, rfl⟩ := List.mem_map.mp hb
  exact ⟨c.1, (h c hc).rm r hrb⟩
theorem cov_vr {n : Nat} {bs : List (Nat × Rooms)} {row : List (List Int)} (h : Vbs n bs) (hr : row ∈ parts (snds bs) []) : Vr n (sumS bs) (cov row) := by
  obtain ⟨h1, h2, _⟩ := parts_row h.sz hr
  refine ⟨srtI_asc h2, fun p hp => ?_, ?_⟩
  · have hp : p ∈ row.flatten := (srtI_perm _).mem_iff.mp hp
    obtain ⟨r, hrr, hpr⟩ := List.mem_flatten.mp hp
    obtain ⟨s, v⟩ := row_vr h hr r hrr
    exact v.lo p hpr
  · rw [← h1]
    exact (srtI_perm _).length_eq
theorem U_vr {n : Nat} {bs : List (Nat × Rooms)} (h : Vbs n bs) {c : List Int} (hc : c ∈ U (snds bs)) : Vr n (sumS bs) c := by
  rw [U_rows] at hc
  obtain ⟨row, hr, rfl⟩ := List.mem_map.mp hc
  exact cov_vr h hr
theorem V_vr {n : Nat} {bs : List (Nat × Rooms)} (h : Vbs n bs) {c : List Int} (hc : c ∈ Vt (snds bs)) : Vr n (sumS bs) c := by
  rw [(V_rows _).mem_iff] at hc
  obtain ⟨row, hr, rfl⟩ := List.mem_map.mp hc
  exact cov_vr h hr
theorem tal_few {n s : Nat} {w : Ways} {L : List (List Int)} (t : Tal w L) (h : ∀ c ∈ L, Vr n s c) (n7 : n ≤ 7) : w.length ≤ 128 ∧ ∀ e ∈ w, Vr n s e.1 := by
  have hv : ∀ e ∈ w, Vr n s e.1 := fun e he => h _ ((t.mem _).mp (List.mem_map_of_mem he))
  refine ⟨?_, hv⟩
  have h1 := t.nd.length_le_of_subset (l₂ := subs (rng n)) fun k hk => by
    obtain ⟨e, he, rfl⟩ := List.mem_map.mp hk
    have v := hv e he
    exact subs_mem (asc_sub v.srt (rng_asc n) v.sub).1
  rw [List.length_map, subs_len, rng_len] at h1
  have h3 : 2 ^ n ≤ 2 ^ 7 := Nat.pow_le_pow_right (by decide) n7
  omega
theorem okx_ext {n s s2 : Nat} {w : Ways} {L : List (List Int)} {b : Rooms} (t : Tal w L) (h : ∀ c ∈ L, Vr n s c) (v : Vb n s2 b) (n7 : n ≤ 7) : OkExt w b := by
  obtain ⟨h1, h2⟩ := tal_few t h n7
  refine ⟨t.nd, fun e he => ?_, fun r hr => ?_, ?_⟩
  · have := vr_len (h2 e he)
    omega
  · have := vr_len (v.rm r hr)
    omega
  · have h3 := vb_len v n7
    have h4 : w.length * b.length ≤ 128 * 128 := Nat.mul_le_mul h1 h3
    omega
theorem J_vr {n s1 s2 : Nat} {A b : List (List Int)} (hA : ∀ c ∈ A, Vr n s1 c) (hb : ∀ r ∈ b, Vr n s2 r) : ∀ k ∈ J A b, Vr n (s1 + s2) k := fun k hk => by
  unfold J at hk
  obtain ⟨c, hc, hk⟩ := List.mem_flatMap.mp hk
  obtain ⟨r, hr, hk⟩ := List.mem_flatMap.mp hk
  unfold Pj at hk
  split at hk
  · rename_i hd
    rw [List.mem_singleton] at hk
    subst hk
    have vc := hA c hc
    have vr := hb r hr
    have hp : (uni c r).Perm (c ++ r) := srtI_perm _
    refine ⟨srtI_asc (List.nodup_append.mpr ⟨asc_nd vc.srt, asc_nd vr.srt, fun a ha b hb e => dj_iff.mp hd b hb (e ▸ ha)⟩), fun p hp' => ?_, by rw [hp.length_eq, List.length_append, vc.len, vr.len]⟩
    rcases List.mem_append.mp (hp.mem_iff.mp hp') with q | q
    · exact vc.lo p q
    · exact vr.lo p q
  · cases hk
theorem okx_tails {n : Nat} (n7 : n ≤ 7) : ∀ {bs : List (Nat × Rooms)}, Vbs n bs → OkTails (snds bs)
  | [], _ => trivial
  | c :: bs, h => by
    have ht : Vbs n bs := fun d hd => h d (List.mem_cons_of_mem _ hd)
    refine ⟨okx_tails n7 ht, fun t ts e => ?_⟩
    exact okx_ext (tal_tails _ _ _ e) (fun c hc => V_vr ht hc) (h c List.mem_cons_self) n7
theorem Fam.vbs {n : Nat} {bs : List (Nat × Rooms)} (F : Fam n bs) : Vbs n bs := F.vb
theorem take_snds (bs : List (Nat × Rooms)) (j : Nat) : (snds bs).take j = snds (bs.take j) := by
  unfold snds
  rw [List.map_take]
theorem Vbs.take {n : Nat} {bs : List (Nat × Rooms)} (h : Vbs n bs) (j : Nat) : Vbs n (bs.take j) := fun c hc => h c (List.mem_of_mem_take hc)
theorem ways_tal {bs : List (Nat × Rooms)} {j : Nat} (h : j ≤ bs.length) : Tal (waysAt (snds bs) j) (U (snds (bs.take j))) := by
  have := tal_ways (bs := snds bs) j (by rw [List.length_map]; exact h)
  rw [take_snds] at this
  exact this
theorem sum_pos {n : Nat} {bs : List (Nat × Rooms)} (F : Fam n bs) {j : Nat} (h : j < bs.length) : 1 ≤ sumS (bs.take (j + 1)) := by
  have hb : bs[j]? = some bs[j] := by simp [h]
  rw [sumS_snoc hb]
  have := F.pos _ (List.mem_of_getElem? hb)
  omega
theorem sum_le {n : Nat} {bs : List (Nat × Rooms)} (F : Fam n bs) (j : Nat) : sumS (bs.take j) ≤ n := by
  have h := F.sum
  rw [← List.take_append_drop j bs, sumS_app] at h
  omega
theorem Fam.led {n : Nat} {bs : List (Nat × Rooms)} (F : Fam n bs) : OkLed (snds bs) := by
  have hl : (snds bs).length = bs.length := List.length_map _
  refine ⟨fun j b hb => ?_, fun j hj e he => ?_, fun j hj => ?_⟩
  · have hj : j < (snds bs).length := (List.getElem?_eq_some_iff.mp hb).1
    have hm := List.mem_of_getElem? hb
    obtain ⟨c, hc, rfl⟩ := List.mem_map.mp hm
    exact okx_ext (ways_tal (by omega)) (fun c hc => U_vr (F.vbs.take j) hc) (F.vb c hc) F.n7
  · have h1 := (tal_few (ways_tal (bs := bs) (j := j + 1) (by omega)) (fun c hc => U_vr (F.vbs.take (j + 1)) hc) F.n7).2 e he
    intro z
    have h2 := h1.len
    rw [z] at h2
    have h3 := sum_pos F (j := j) (by omega)
    rw [List.length_nil] at h2
    omega
  · have h1 := (tal_few (ways_tal (bs := bs) (j := j) (by omega)) (fun c hc => U_vr (F.vbs.take j) hc) F.n7).1
    omega
/-! ### odd parts -/
theorem oddE_entries (w : Ways) : oddE (entries w) = oddR w := by
  unfold oddE entries oddR
  rw [List.filter_map, List.map_map]
  show List.map (fun k => k) _ = _
  rw [List.map_id'] <;> rfl
theorem oddR_mem {w : Ways} {L : List (List Int)} (t : Tal w L) (k : List Int) : k ∈ oddR w ↔ L.count k % 2 = 1 := by
  unfold oddR
  rw [List.mem_filter, decide_eq_true_eq, (srtR_perm _).mem_iff, t.mem, t.getD]
  constructor
  · rintro ⟨_, h⟩
    omega
  · intro h
    exact ⟨List.count_pos_iff.mp (by omega), by omega⟩
theorem oddR_lt {w : Ways} {L : List (List Int)} (t : Tal w L) : (oddR w).Pairwise (· < ·) := List.Pairwise.sublist List.filter_sublist (srtR_lt t.nd)
theorem oddR_nd {w : Ways} {L : List (List Int)} (t : Tal w L) : (oddR w).Nodup := (oddR_lt t).imp lt_neR
theorem oddR_eq2 {w : Ways} {L : List (List Int)} (t : Tal w L) : Eq2 (oddR w) L := eq2_of_count fun k => by
  rw [List.Nodup.count (oddR_nd t)]
  have := oddR_mem t k
  split
  · rename_i h
    have := this.mp h
    omega
  · rename_i h
    have : ¬ L.count k % 2 = 1 := fun z => h (this.mpr z)
    omega
theorem oddR_same {w w' : Ways} {L L' : List (List Int)} (t : Tal w L) (t' : Tal w' L') (h : Eq2 L L') : oddR w = oddR w' := ltR_eq (oddR_lt t) (oddR_lt t') fun k => by
  rw [oddR_mem t, oddR_mem t', h.count k]
theorem tal_units {P : Rooms} (h : P.Nodup) : Tal (P.map fun r => (r, (1 : Int))) P := by
  refine ⟨by rw [List.map_map]; show (List.map (fun r => r) P).Nodup; rw [List.map_id']; exact h, fun e he => ?_, ?_⟩
  · obtain ⟨r, _, rfl⟩ := List.mem_map.mp he
    show (0 : Int) < 1
    decide
  · unfold expW
    rw [List.flatMap_map]
    show P.Perm (P.flatMap fun r => [r])
    rw [flatMap_one, List.map_id']
theorem U_one {n s : Nat} {b : Rooms} (v : Vb n s b) : U [b] = b := by
  show J [[]] b = b
  unfold J
  rw [List.flatMap_cons, List.flatMap_nil, List.append_nil, Pj_map, List.filter_eq_self.mpr fun r _ => disj_nil r]
  have : ∀ r ∈ b, uni [] r = r := fun r hr => srtI_id (v.rm r hr).srt
  rw [List.map_congr_left this, List.map_id']
theorem prod_odd {n : Nat} {bs : List (Nat × Rooms)} (F : Fam n bs) : ∀ j, j < bs.length → prodAt (snds bs) j = oddR (waysAt (snds bs) (j + 1))
  | 0, h => by
    cases bs with
    | nil => cases h
    | cons c bs =>
      have v := F.vb c List.mem_cons_self
      have t := ways_tal (bs := c :: bs) (j := 1) (by rw [List.length_cons]; omega)
      show c.2 = _
      refine ltR_eq v.srt (oddR_lt t) fun k => ?_
      rw [oddR_mem t]
      show _ ↔ (U [c.2]).count k % 2 = 1
      rw [U_one v, List.Nodup.count v.nd]
      split
      · rename_i q
        exact ⟨fun _ => rfl, fun _ => q⟩
      · rename_i q
        exact ⟨fun z => absurd z q, fun z => by cases z⟩
  | j + 1, h => by
    have ih := prod_odd F j (by omega)
    have hb : bs[j + 1]? = some bs[j + 1] := by simp
    have hb2 := map_get (fun c : Nat × Rooms => c.2) hb
    have t := ways_tal (bs := bs) (j := j + 1) (by omega)
    have t2 := ways_tal (bs := bs) (j := j + 2) (by omega)
    rw [prodAt_succ hb2, ih]
    refine oddR_same (tal_ext (tal_units (oddR_nd t)) _) t2 ?_
    have e : U (snds (bs.take (j + 2))) = J (U (snds (bs.take (j + 1)))) bs[j + 1].2 := by
      rw [← take_snds, take_snoc hb2, U_snoc, take_snds]
    rw [e]
    exact (oddR_eq2 t).flat _
theorem U_ev_aux {n : Nat} : ∀ (k : Nat) (bs : List (Nat × Rooms)), bs.length = k → Vbs n bs → (∀ b ∈ bs, Ev (bd b.2)) → Ev (bd (U (snds bs)))
  | 0, bs, h, _, _ => by
    obtain rfl := List.eq_nil_of_length_eq_zero h
    exact fun g => rfl
  | k + 1, bs, h, hv, he => by
    rcases List.eq_nil_or_concat bs with rfl | ⟨cs, b, rfl⟩
    · cases h
    · rw [List.concat_eq_append] at h hv he ⊢
      have e : snds (cs ++ [b]) = snds cs ++ [b.2] := by
        unfold snds
        rw [List.map_append] <;> rfl
      have hvc : Vbs n cs := fun c hc => hv c (List.mem_append_left _ hc)
      have hvb := hv b (List.mem_append_right _ (List.mem_singleton.mpr rfl))
      rw [e, U_snoc]
      refine J_ev (fun c hc => asc_nd (U_vr hvc hc).srt) (fun r hr => asc_nd (hvb.rm r hr).srt) (U_ev_aux k cs (by rw [List.length_append] at h; simpa using h) hvc fun c hc => he c (List.mem_append_left _ hc)) (he b (List.mem_append_right _ (List.mem_singleton.mpr rfl)))
theorem Fam.evs {n : Nat} {bs : List (Nat × Rooms)} (F : Fam n bs) : ∀ b ∈ bs, Ev (bd b.2) := fun b hb => (F.ev b hb).ev
theorem U_ev {n : Nat} {bs : List (Nat × Rooms)} (F : Fam n bs) (j : Nat) : Ev (bd (U (snds (bs.take j)))) := U_ev_aux (n := n) _ _ rfl (F.vbs.take j) fun b hb => F.evs b (List.mem_of_mem_take hb)
theorem prod_vb {n : Nat} {bs : List (Nat × Rooms)} (F : Fam n bs) {j : Nat} (h : j < bs.length) : Vb n (sumS (bs.take (j + 1))) (prodAt (snds bs) j) := by
  have t := ways_tal (bs := bs) (j := j + 1) (by omega)
  rw [prod_odd F j h]
  refine ⟨fun r hr => ?_, oddR_lt t⟩
  have h1 := (oddR_mem t r).mp hr
  exact U_vr (F.vbs.take (j + 1)) (List.count_pos_iff.mp (by omega))
theorem prod_ev {n : Nat} {bs : List (Nat × Rooms)} (F : Fam n bs) {j : Nat} (h : j < bs.length) : Ev (bd (prodAt (snds bs) j)) := by
  have t := ways_tal (bs := bs) (j := j + 1) (by omega)
  rw [prod_odd F j h]
  exact ((oddR_eq2 t).flat faces).ev (U_ev F (j + 1))
theorem Fam.prod {n : Nat} {bs : List (Nat × Rooms)} (F : Fam n bs) : OkProd n bs := fun j b hb => by
  have hj : j + 1 < bs.length := (List.getElem?_eq_some_iff.mp hb).1
  have hm := List.mem_of_getElem? hb
  have vp := prod_vb F (j := j) (by omega)
  have vp2 := prod_vb F hj
  have vb := F.vb b hm
  have tu := tal_units vp.nd
  have te := tal_ext tu b.2
  have hn7 := F.n7
  have hf := tal_few te (J_vr vp.rm vb.rm) F.n7
  have hs := sum_pos F (j := j) (by omega)
  have hs2 := sum_le F (j + 1 + 1)
  rw [sumS_snoc hb] at hs2 vp2
  rw [prodAt_succ (map_get (fun c : Nat × Rooms => c.2) hb)] at vp2
  refine ⟨okx_ext tu vp.rm vb F.n7, ?_, fun e he z => ?_, vp2, hs, hs2, by omega⟩
  · have := hf.1
    show (ext ((prodAt (snds bs) j).map fun r => (r, (1 : Int))) b.2).length ≤ 100000
    omega
  · have h1 := (hf.2 e he).len
    rw [z, List.length_nil] at h1
    omega
end NA
/-! The plain law, 8: what is asked of a family holds. -/
namespace NA
open PySem PySem.Spec PyProof.Rows L2
theorem cov_all {n : Nat} {bs : List (Nat × Rooms)} (F : Fam n bs) {row : List (List Int)} (h : row ∈ parts (snds bs) []) : cov row = rng n := by
  have v := cov_vr F.vbs h
  have hs : cov row ⊆ rng n := v.sub
  have h2 := sub_of_len (asc_nd v.srt) (asc_nd (rng_asc n)) hs (by rw [rng_len, v.len, F.sum]; exact Nat.le_refl _)
  exact asc_eq v.srt (rng_asc n) fun x => ⟨fun z => hs z, fun z => h2 z⟩
theorem U_all {n : Nat} {bs : List (Nat × Rooms)} (F : Fam n bs) : U (snds bs) = List.replicate (parts (snds bs) []).length (rng n) := by
  rw [U_rows]
  have : ∀ row ∈ parts (snds bs) [], cov row = rng n := fun row h => cov_all F h
  rw [List.map_congr_left this, List.map_const']
theorem rows_even {n : Nat} {bs : List (Nat × Rooms)} (F : Fam n bs) : (parts (snds bs) []).length % 2 = 0 := by
  have h := U_ev F bs.length
  rw [List.take_length, U_all F] at h
  have hg := h fun r => if (0 : Int) ∈ r then 0 else 1
  rw [sm_flat, sm_rep] at hg
  obtain ⟨m, rfl⟩ : ∃ m, n = m + 1 := ⟨n - 1, by have := F.n1; omega⟩
  have er : rng (m + 1) = 0 :: (List.range m).map fun i => ((i + 1 : Nat) : Int) := by
    unfold rng
    rw [List.range_succ_eq_map, List.map_cons, List.map_map] <;> rfl
  have e1 : sm (fun r : List Int => if (0 : Int) ∈ r then 0 else 1) (faces (rng (m + 1))) = 1 := by
    rw [er, faces_cons, sm_cons, sm_map, if_neg, sm_congr (h := fun _ => 0) fun f _ => if_pos List.mem_cons_self, sm_zero]
    intro z
    obtain ⟨i, _, e⟩ := List.mem_map.mp z
    omega
  rw [e1, Nat.mul_one] at hg
  exact hg
theorem last_odd {n : Nat} {bs : List (Nat × Rooms)} (F : Fam n bs) : prodAt (snds bs) (bs.length - 1) = [] := by
  have hp := List.length_pos_iff.mpr F.ne
  have t := ways_tal (bs := bs) (j := bs.length) (Nat.le_refl _)
  rw [prod_odd F _ (by omega), show bs.length - 1 + 1 = bs.length by omega]
  rw [List.eq_nil_iff_forall_not_mem]
  intro k hk
  rw [oddR_mem t, List.take_length, U_all F, List.count_replicate] at hk
  have := rows_even F
  split at hk <;> omega
theorem last_entries {n : Nat} {bs : List (Nat × Rooms)} (F : Fam n bs) : entries (waysAt (snds bs) (snds bs).length) = lastE n (parts (snds bs) []) := by
  have hl : (snds bs).length = bs.length := List.length_map _
  have t := ways_tal (bs := bs) (j := bs.length) (Nat.le_refl _)
  rw [List.take_length, U_all F] at t
  rw [hl]
  generalize waysAt (snds bs) bs.length = w at t
  unfold lastE
  have hv : getD w (rng n) = ((parts (snds bs) []).length : Int) := by
    rw [t.getD, List.count_replicate_self]
  by_cases h : 0 < (parts (snds bs) []).length
  · rw [if_pos h]
    have hk : w.map (·.1) = [rng n] := by
      have hall : ∀ k ∈ w.map (·.1), k = rng n := fun k hk => (List.mem_replicate.mp ((t.mem k).mp hk)).2
      have hin : rng n ∈ w.map (·.1) := (t.mem _).mpr (List.mem_replicate.mpr ⟨by omega, rfl⟩)
      have hnd := t.nd
      generalize w.map (·.1) = ks at hall hin hnd
      match ks, hall, hin, hnd with
      | [], _, hin, _ => cases hin
      | [k], hall, _, _ => rw [hall k List.mem_cons_self]
      | k :: k' :: ks, hall, _, hnd =>
        have h1 := hall k List.mem_cons_self
        have h2 := hall k' (List.mem_cons_of_mem _ List.mem_cons_self)
        rw [List.nodup_cons] at hnd
        exact absurd (by rw [h1, h2]; exact List.mem_cons_self) hnd.1
    unfold entries
    rw [hk]
    have : srtR [rng n] = [rng n] := by simp [srtR]
    rw [this, List.map_cons, hv] <;> rfl
  · rw [if_neg h]
    have hk : w.map (·.1) = [] := by
      rw [List.eq_nil_iff_forall_not_mem]
      intro k hk
      have := (List.mem_replicate.mp ((t.mem k).mp hk)).1
      omega
    unfold entries
    rw [hk]
    have : srtR [] = [] := by simp [srtR]
    rw [this] <;> rfl
theorem walk_all {n : Nat} {bs : List (Nat × Rooms)} (F : Fam n bs) : walkR n (snds bs) = parts (snds bs) [] := by
  have h := walk_parts bs (rng n) F.ne F.vbs.sz (rng_asc n) (by rw [rng_len, F.sum])
  rw [List.filter_eq_self.mpr fun row hr => decide_eq_true (cov_all F hr)] at h
  rw [← h]
  cases bs with
  | nil => exact absurd rfl F.ne
  | cons c bs => rfl
theorem count_all {n : Nat} {bs : List (Nat × Rooms)} (F : Fam n bs) : countC n (snds bs) = ((parts (snds bs) []).length : Nat) := by
  cases bs with
  | nil => exact absurd rfl F.ne
  | cons c bs =>
    rw [count_walk F.vbs.sz F.sum.symm (rng_asc n), List.filter_eq_self.mpr fun row hr => decide_eq_true (cov_all F hr)]
theorem Fam.rows {n : Nat} {bs : List (Nat × Rooms)} (F : Fam n bs) : (parts (snds bs) []).length ≤ 5000 := rows_5000 F.n7 F.ne F.pos F.vb F.evs
theorem Fam.rowlen {n : Nat} {bs : List (Nat × Rooms)} (F : Fam n bs) {row : List (List Int)} (h : row ∈ parts (snds bs) []) : row.length ≤ 7 ∧ ∀ r ∈ row, r.length ≤ 7 := by
  have h1 := parts_el _ _ row h
  have h2 := F.len
  have h3 := F.n7
  rw [List.length_map] at h1
  refine ⟨by omega, fun r hr => ?_⟩
  obtain ⟨s, v⟩ := row_vr F.vbs h r hr
  have := vr_len v
  omega
theorem Fam.tails {n : Nat} {bs : List (Nat × Rooms)} (F : Fam n bs) : OkTails (snds bs).tail := by
  cases bs with
  | nil => exact absurd rfl F.ne
  | cons c bs => exact okx_tails F.n7 fun d hd => F.vb d (List.mem_cons_of_mem _ hd)
theorem fam_cnt {n : Nat} {bs : List (Nat × Rooms)} (F : Fam n bs) : OkCnt n (snds bs) (parts (snds bs) []) := by
  have h7 := F.n7
  have hl := F.len
  refine ⟨⟨fun z => F.ne (List.map_eq_nil_iff.mp z), F.tails, by rw [List.length_map]; omega, by omega, by rw [walk_all F]; exact F.rows, fun row hr => ?_⟩, F.tails, fun b hb => ?_, count_all F, walk_all F, rows_even F, ⟨Nat.le_trans F.rows (by decide), fun row hr => ?_⟩⟩
  · rw [walk_all F] at hr
    exact Nat.le_trans (F.rowlen hr).1 (by decide)
  · obtain ⟨c, hc, rfl⟩ := List.mem_map.mp hb
    exact Nat.le_trans (vb_len (F.vb c hc) h7) (by decide)
  · have h := F.rowlen hr
    exact ⟨Nat.le_trans h.1 (by decide), fun r hr => Nat.le_trans (h.2 r hr) (by decide)⟩
theorem fam_pb {n : Nat} {bs : List (Nat × Rooms)} (F : Fam n bs) : PB (snds bs) := by
  have h7 := F.n7
  refine ⟨fun k met => ?_, fun b hb r hr => ?_⟩
  · have e : (snds bs).drop k = snds (bs.drop k) := by
      unfold snds
      rw [List.map_drop]
    rw [e]
    have h1 := parts_few (n := n) (bs := bs.drop k) met fun c hc => F.vb c (List.mem_of_mem_drop hc)
    have h2 := avail_le n met
    have h3 := Bd_fct ((bs.drop k).map (·.1)) (avail n met).length (by omega)
    have h4 : ∀ a, a < 8 → fct a ≤ 100000 := by decide +kernel
    have := h4 (avail n met).length (by omega)
    omega
  · obtain ⟨c, hc, rfl⟩ := List.mem_map.mp hb
    have := vr_len ((F.vb c hc).rm r hr)
    omega
theorem cov_el {n : Nat} {bs : List (Nat × Rooms)} (F : Fam n bs) : ∀ es ∈ covers (snds bs), es.length ≤ 100000 ∧ ∀ e ∈ es, e.1.length ≤ 1000 := fun es he => by
  have h7 := F.n7
  unfold covers at he
  obtain ⟨j, hj, rfl⟩ := List.mem_map.mp he
  have hj := List.mem_range.mp hj
  rw [List.length_map] at hj
  have h := tal_few (ways_tal (bs := bs) (j := j) (by omega)) (fun c hc => U_vr (F.vbs.take j) hc) F.n7
  unfold entries
  refine ⟨?_, fun e he => ?_⟩
  · rw [List.length_map, (srtR_perm _).length_eq, List.length_map]
    have := h.1
    omega
  · obtain ⟨k, hk, rfl⟩ := List.mem_map.mp he
    obtain ⟨x, hx, rfl⟩ := List.mem_map.mp ((srtR_perm _).mem_iff.mp hk)
    have := vr_len (h.2 x hx)
    show x.1.length ≤ 1000
    omega
theorem fam_lst {n : Nat} {bs : List (Nat × Rooms)} (F : Fam n bs) : OkLst n bs (parts (snds bs) []) := by
  have h7 := F.n7
  have hl := F.len
  exact ⟨F.led, by omega, F.ne, last_entries F, F.prod, by rw [last_odd F] <;> rfl, cov_el F, by omega⟩
theorem fam_joi {n : Nat} {bs : List (Nat × Rooms)} (F : Fam n bs) : OkJoin n bs := by
  have h7 := F.n7
  have hl := F.len
  refine ⟨F.led, by omega, F.ne, F.prod, fun j hj => ?_, fun j hj => togs_ev (prod_ev F hj), fun j hj => vb_evB (prod_vb F hj) h7 (prod_ev F hj), fun j hj => Nat.le_trans (vb_len (prod_vb F hj) h7) (by decide), fun es he => (cov_el F es he).1, by rw [last_odd F] <;> rfl⟩
  rw [oddE_entries, prod_odd F j hj]
end NA
/-! The plain law, 9: the books in another order. -/
namespace NA
open PySem PySem.Spec PyProof.Rows L2
theorem rng_get {m i : Nat} (h : i < m) : (rng m)[i]? = some (i : Int) := by
  unfold rng
  rw [List.getElem?_map, List.getElem?_range h] <;> rfl
theorem idx_row {row : List Int} {m : Nat} (h : row.Perm (rng m)) {i : Nat} (hi : i < m) : row.idxOf (i : Int) < m ∧ row[row.idxOf (i : Int)]? = some (i : Int) := by
  have hm : (i : Int) ∈ row := h.mem_iff.mpr (List.mem_of_getElem? (rng_get hi))
  have h1 := List.idxOf_lt_length_of_mem hm
  have hl : row.length = m := by rw [h.length_eq, rng_len]
  refine ⟨by omega, ?_⟩
  rw [List.getElem?_eq_getElem h1, List.getElem_idxOf h1]
theorem row_idx {row : List Int} {m : Nat} (h : row.Perm (rng m)) {i : Nat} {k : Int} (hi : row[i]? = some k) : row.idxOf k = i := by
  have hnd : row.Nodup := h.nodup_iff.mpr (asc_nd (rng_asc m))
  have hm := List.mem_of_getElem? hi
  have h1 := List.idxOf_lt_length_of_mem hm
  have h2 : row[row.idxOf k]? = some k := by rw [List.getElem?_eq_getElem h1, List.getElem_idxOf h1]
  obtain ⟨h3, h4⟩ := List.getElem?_eq_some_iff.mp hi
  have h5 := List.pairwise_iff_getElem.mp hnd
  have h6 : row[row.idxOf k]'h1 = row[i]'h3 := by rw [h4, List.getElem_idxOf h1]
  rcases Nat.lt_trichotomy (row.idxOf k) i with q | q | q
  · exact absurd h6 (h5 _ _ h1 h3 q)
  · exact q
  · exact absurd h6.symm (h5 _ _ h3 h1 q)
theorem perm_int {row : List Int} {m : Nat} (h : row.Perm (rng m)) {i : Nat} {k : Int} (hi : row[i]? = some k) : ∃ j : Nat, k = (j : Int) ∧ j < m := by
  have h1 := mem_rng.mp (h.mem_iff.mp (List.mem_of_getElem? hi))
  exact ⟨k.toNat, by omega, by omega⟩
theorem perm_get {α : Type} (df : α) {row : List Int} (l : List α) (h : row.Perm (rng l.length)) : (row.map fun k => l.getD k.toNat df).Perm l := by
  have h1 := h.map (fun k : Int => l.getD k.toNat df)
  have h2 : (rng l.length).map (fun k : Int => l.getD k.toNat df) = l := by
    unfold rng
    rw [List.map_map]
    exact range_get df l
  rw [h2] at h1
  exact h1
/-- the way back -/
def backR (row : List Int) (m : Nat) (q : List (List Int)) : List (List Int) := (rng m).map fun i => q.getD (row.idxOf i) []
theorem backR_get {row : List Int} {m : Nat} {q : List (List Int)} {i : Nat} (h : i < m) : (backR row m q)[i]? = some (q.getD (row.idxOf (i : Int)) []) := by
  unfold backR
  rw [List.getElem?_map, rng_get h] <;> rfl
theorem back_perm {row : List Int} {m : Nat} (h : row.Perm (rng m)) {one : List (List Int)} (hl : one.length = m) : backR row m (permR row one) = one := by
  apply List.ext_getElem?
  intro i
  by_cases hi : i < m
  · obtain ⟨h1, h2⟩ := idx_row h hi
    rw [backR_get hi, List.getD_eq_getElem?_getD, List.getElem?_map, h2]
    have : one[i]? = some one[i] := by simp [hl, hi]
    rw [this]
    show some (one.getD ((i : Int)).toNat []) = _
    rw [Int.toNat_natCast, List.getD_eq_getElem?_getD, this] <;> rfl
  · rw [List.getElem?_eq_none (by unfold backR; rw [List.length_map, rng_len]; omega), List.getElem?_eq_none (by omega)]
theorem perm_back {row : List Int} {m : Nat} (h : row.Perm (rng m)) {q : List (List Int)} (hl : q.length = m) : permR row (backR row m q) = q := by
  apply List.ext_getElem?
  intro i
  have hrl : row.length = m := by rw [h.length_eq, rng_len]
  by_cases hi : i < m
  · have hk : row[i]? = some row[i] := by simp [hrl, hi]
    obtain ⟨j, hj, hjm⟩ := perm_int h hk
    rw [hj] at hk
    have h1 := row_idx h hk
    rw [List.getElem?_map, hk]
    show some ((backR row m q).getD ((j : Int)).toNat []) = _
    rw [Int.toNat_natCast, List.getD_eq_getElem?_getD, backR_get hjm, h1]
    show some (q.getD i []) = _
    have : q[i]? = some q[i] := by simp [hl, hi]
    rw [List.getD_eq_getElem?_getD, this] <;> rfl
  · rw [List.getElem?_eq_none (by rw [List.length_map]; omega), List.getElem?_eq_none (by omega)]
/-! ### the rows, said otherwise -/
structure IsRow (bs : List Rooms) (met : List Int) (row : List (List Int)) : Prop where
  len : row.length = bs.length
  at_ : ∀ (i : Nat) (r : List Int) (b : Rooms), row[i]? = some r → bs[i]? = some b → r ∈ b
  met : ∀ r ∈ row, disj met r = true
  pw : row.Pairwise fun a b => disj a b = true
theorem parts_iff : ∀ (bs : List Rooms) (met : List Int) (row : List (List Int)), row ∈ parts bs met ↔ IsRow bs met row
  | [], met, row => by
    rw [parts, List.mem_singleton]
    constructor
    · rintro rfl
      exact ⟨rfl, (fun i r b h => by cases h), (fun r h => nomatch h), .nil⟩
    · intro h
      exact List.eq_nil_of_length_eq_zero h.len
  | b :: bs, met, row => by
    rw [parts, List.mem_flatMap]
    constructor
    · rintro ⟨r, hr, h⟩
      split at h
      · rename_i hd
        obtain ⟨row', hr', rfl⟩ := List.mem_map.mp h
        obtain ⟨h1, h2, h3, h4⟩ := (parts_iff bs (met ++ r) row').mp hr'
        have h5 : ∀ q ∈ row', disj met q = true ∧ disj r q = true := fun q hq => by
          have := h3 q hq
          rw [disj_app, Bool.and_eq_true] at this
          exact this
        refine ⟨by rw [List.length_cons, List.length_cons, h1], fun i q c hi hc => ?_, fun q hq => ?_, List.pairwise_cons.mpr ⟨fun q hq => (h5 q hq).2, h4⟩⟩
        · cases i with
          | zero =>
            cases hi
            cases hc
            exact hr
          | succ i => exact h2 i q c hi hc
        · rcases List.mem_cons.mp hq with rfl | hq
          · exact hd
          · exact (h5 q hq).1
      · cases h
    · rintro ⟨h1, h2, h3, h4⟩
      cases row with
      | nil => cases h1
      | cons r row =>
        have hd := h3 r List.mem_cons_self
        rw [List.pairwise_cons] at h4
        refine ⟨r, h2 0 r b rfl rfl, ?_⟩
        rw [if_pos hd]
        refine List.mem_map.mpr ⟨row, (parts_iff bs (met ++ r) row).mpr ⟨by rw [List.length_cons, List.length_cons] at h1; omega, fun i q c hi hc => h2 (i + 1) q c hi hc, fun q hq => ?_, h4.2⟩, rfl⟩
        rw [disj_app, Bool.and_eq_true]
        exact ⟨h3 q (List.mem_cons_of_mem _ hq), h4.1 q hq⟩
theorem parts_lt : ∀ (bs : List Rooms) (met : List Int), (∀ b ∈ bs, b.Pairwise (· < ·)) → (parts bs met).Pairwise (· < ·)
  | [], met, _ => by
    rw [parts]
    exact List.pairwise_singleton _ _
  | b :: bs, met, h => by
    rw [parts, List.pairwise_flatMap]
    refine ⟨fun r _ => ?_, (h b List.mem_cons_self).imp fun {r r'} hlt x hx y hy => ?_⟩
    · split
      · rw [List.pairwise_map]
        exact (parts_lt bs (met ++ r) fun c hc => h c (List.mem_cons_of_mem _ hc)).imp fun z => List.cons_lt_cons_iff.mpr (.inr ⟨rfl, z⟩)
      · exact .nil
    · split at hx
      · split at hy
        · obtain ⟨x', _, rfl⟩ := List.mem_map.mp hx
          obtain ⟨y', _, rfl⟩ := List.mem_map.mp hy
          exact List.cons_lt_cons_iff.mpr (.inl hlt)
        · cases hy
      · cases hx
/-! ### sorted rows -/
theorem ltRow_irr : ∀ a : List (List Int), ¬ a < a
  | [], h => by cases h
  | x :: a, h => by
    rcases List.cons_lt_cons_iff.mp h with h | h
    · exact List.lt_irrefl x h
    · exact ltRow_irr a h.2
theorem ltRow_trans : ∀ {a b c : List (List Int)}, a < b → b < c → a < c
  | [], [], _, h, _ => by cases h
  | [], _ :: _, [], _, h => by cases h
  | [], _ :: _, _ :: _, _, _ => List.nil_lt_cons _ _
  | _ :: _, [], _, h, _ => by cases h
  | _ :: _, _ :: _, [], _, h => by cases h
  | x :: a, y :: b, z :: c, h1, h2 => by
    rw [List.cons_lt_cons_iff] at *
    rcases h1 with h1 | ⟨rfl, h1⟩
    · rcases h2 with h2 | ⟨rfl, _⟩
      · exact .inl (List.lt_trans h1 h2)
      · exact .inl h1
    · rcases h2 with h2 | ⟨rfl, h2⟩
      · exact .inl h2
      · exact .inr ⟨rfl, ltRow_trans h1 h2⟩
theorem ltRow_tri : ∀ a b : List (List Int), a < b ∨ a = b ∨ b < a
  | [], [] => .inr (.inl rfl)
  | [], _ :: _ => .inl (List.nil_lt_cons _ _)
  | _ :: _, [] => .inr (.inr (List.nil_lt_cons _ _))
  | x :: a, y :: b => by
    rw [List.cons_lt_cons_iff, List.cons_lt_cons_iff]
    have hx : x < y ∨ x = y ∨ y < x := by
      by_cases h1 : x < y
      · exact .inl h1
      · by_cases h2 : y < x
        · exact .inr (.inr h2)
        · exact .inr (.inl (List.le_antisymm (List.not_lt.mp h2) (List.not_lt.mp h1)))
    rcases hx with h | rfl | h
    · exact .inl (.inl h)
    · rcases ltRow_tri a b with q | rfl | q
      · exact .inl (.inr ⟨rfl, q⟩)
      · exact .inr (.inl rfl)
      · exact .inr (.inr (.inr ⟨rfl, q⟩))
    · exact .inr (.inr (.inl h))
theorem leRow_iff {a b : List (List Int)} : leRow a b = true ↔ ¬ b < a := by
  unfold leRow
  rw [Bool.not_eq_true', decide_eq_false_iff_not]
theorem srtRow_eq {X Y : List (List (List Int))} (p : X.Perm Y) (h : Y.Pairwise (· < ·)) : srtRow X = Y := by
  have h1 := List.pairwise_mergeSort (le := leRow) (fun a b c h1 h2 => by
    rw [leRow_iff] at *
    intro h
    rcases ltRow_tri b a with q | rfl | q
    · exact h1 q
    · exact h2 h
    · exact h2 (ltRow_trans h q)) (fun a b => by
    rw [Bool.or_eq_true, leRow_iff, leRow_iff]
    by_cases h : b < a
    · exact .inr fun q => ltRow_irr _ (ltRow_trans h q)
    · exact .inl h) X
  refine List.Perm.eq_of_pairwise (le := fun a b => leRow a b = true) (fun a b _ _ h1 h2 => ?_) h1 (h.imp fun z => leRow_iff.mpr fun q => ltRow_irr _ (ltRow_trans z q)) ((List.mergeSort_perm X leRow).trans p)
  rcases ltRow_tri a b with q | e | q
  · exact absurd q (leRow_iff.mp h2)
  · exact e
  · exact absurd q (leRow_iff.mp h1)
theorem fam_turn {n : Nat} {bs : List (Nat × Rooms)} {row : List Int} (F : Fam n bs) (h : row.Perm (rng bs.length)) : srtRow ((parts (snds bs) []).map (permR row)) = parts (snds (permB row bs)) [] := by
  have hrl : row.length = bs.length := by rw [h.length_eq, rng_len]
  have F2 := F.perm (permB_perm h)
  have hsl : (snds bs).length = bs.length := List.length_map _
  have hlt : ∀ {m : Nat} {cs : List (Nat × Rooms)}, Vbs m cs → ∀ b ∈ snds cs, b.Pairwise (· < ·) := fun v b hb => by
    obtain ⟨c, hc, rfl⟩ := List.mem_map.mp hb
    exact (v c hc).srt
  have hY := parts_lt (snds (permB row bs)) [] (hlt F2.vbs)
  have hX := parts_lt (snds bs) [] (hlt F.vbs)
  refine srtRow_eq ?_ hY
  have hne : ∀ {a b : List (List Int)}, a < b → a ≠ b := fun z e => by
    rw [e] at z
    exact ltRow_irr _ z
  have hXn : ((parts (snds bs) []).map (permR row)).Nodup := by
    show List.Pairwise _ _
    rw [List.pairwise_map]
    refine List.Pairwise.imp_of_mem (fun {a b} ha hb hlt e => hne hlt ?_) hX
    rw [← back_perm h (((parts_iff _ _ a).mp ha).len.trans hsl), ← back_perm h (((parts_iff _ _ b).mp hb).len.trans hsl), e]
  refine (List.perm_ext_iff_of_nodup hXn (hY.imp hne)).mpr fun q => ?_
  have hat : ∀ {i : Nat} {k : Nat}, row[i]? = some (k : Int) → k < bs.length → (snds (permB row bs))[i]? = (snds bs)[k]? := fun {i k} hi hk => by
    unfold snds permB
    rw [List.getElem?_map, List.getElem?_map, hi, List.getElem?_map]
    have : bs[k]? = some bs[k] := by simp [hk]
    rw [this]
    show some ((bs.getD ((k : Int)).toNat (0, [])).2) = some bs[k].2
    rw [Int.toNat_natCast, List.getD_eq_getElem?_getD, this] <;> rfl
  rw [List.mem_map]
  constructor
  · rintro ⟨one, hone, rfl⟩
    have I := (parts_iff _ _ one).mp hone
    have hol : one.length = bs.length := I.len.trans hsl
    refine (parts_iff _ _ _).mpr ⟨by rw [List.length_map, List.length_map, List.length_map], fun i r b hi hb => ?_, fun r _ => disj_nil r, ?_⟩
    · rw [List.getElem?_map] at hi
      cases e : row[i]? with
      | none => rw [e] at hi; cases hi
      | some k =>
        obtain ⟨j, rfl, hj⟩ := perm_int h e
        rw [e] at hi
        injection hi with hi
        have hoj : one[j]? = some one[j] := by simp [hol, hj]
        have e2 : one.getD j [] = one[j] := by rw [List.getD_eq_getElem?_getD, hoj] <;> rfl
        have e3 : one.getD ((j : Int)).toNat [] = r := hi
        rw [Int.toNat_natCast, e2] at e3
        rw [hat e hj] at hb
        rw [← e3]
        exact I.at_ j _ b hoj hb
    · have hp := perm_get [] one (row := row) (by rw [hol]; exact h)
      exact (hp.pairwise_iff (fun {x y} z => by rw [disj_comm]; exact z)).mpr I.pw
  · intro hq
    have I := (parts_iff _ _ q).mp hq
    have hql : q.length = bs.length := by rw [I.len, List.length_map, List.length_map, hrl]
    have hpb := perm_back h hql
    refine ⟨backR row bs.length q, ?_, hpb⟩
    have hbl : (backR row bs.length q).length = bs.length := by
      unfold backR
      rw [List.length_map, rng_len]
    refine (parts_iff _ _ _).mpr ⟨hbl.trans hsl.symm, fun i r b hi hb => ?_, fun r _ => disj_nil r, ?_⟩
    · have him : i < bs.length := by
        have := (List.getElem?_eq_some_iff.mp hi).1
        omega
      obtain ⟨h1, h2⟩ := idx_row h him
      rw [backR_get him] at hi
      injection hi with hi
      have hqp : q[row.idxOf (i : Int)]? = some (q[row.idxOf (i : Int)]'(by omega)) := by
        rw [List.getElem?_eq_getElem]
      rw [List.getD_eq_getElem?_getD, hqp] at hi
      have hi : q[row.idxOf (i : Int)]'(by omega) = r := hi
      rw [hi] at hqp
      refine I.at_ _ r b hqp ?_
      rw [hat h2 him]
      exact hb
    · have hp := perm_get [] (backR row bs.length q) (row := row) (by rw [hbl]; exact h)
      have e : (row.map fun k => (backR row bs.length q).getD k.toNat []) = q := hpb
      rw [e] at hp
      exact (hp.pairwise_iff (fun {x y} z => by rw [disj_comm]; exact z)).mp I.pw
theorem plain_all : PlainK where
  evn n s ws h1 hn h7 hw := ⟨evn_vb h1 hn hw, vb_evB (evn_vb h1 hn hw) h7 (evn_ev ws)⟩
  pb n bs F := fam_pb F
  cnt n bs F := fam_cnt F
  lst n bs F := fam_lst F
  joi n bs F := fam_joi F
  turn n bs row F h := fam_turn F h
end NA
/-! All defs together; what the top owes. -/
namespace NA
open PySem PySem.Spec PyProof.Rows L2
section
variable {P : Program} {w : World} {K : PySem.W.Frag} {mg : Str → Option Value} {base : Heap} {CB CF : Addr}
structure Defs (K : PySem.W.Frag) (mg : Str → Option Value) (CB CF : Addr) : Prop where
  bl : Bl mg
  tc : TC K mg CB CF
  lp : LpC K mg
  gfn : ∀ f, Meth K CF "__getitem__" f → PySem.W.fnIn K f = true
  d_faces : DefC K mg "faces" sFaces ["room"]
  d_merged : DefC K mg "merged" sMerged ["first", "second"]
  d_complement : DefC K mg "complement" sComplement ["places", "room"]
  d_shuffle_sign : DefC K mg "shuffle_sign" sShuffle ["first", "second"]
  d_room_fault : DefC K mg "room_fault" sFault ["places", "size", "room"]
  d_extended_ways : DefC K mg "extended_ways" sExt ["ways", "rooms"]
  d_law_longer : DefC K mg "_law_longer" sLonger ["_law_ways", "_law_rooms_here"]
  d_tail_ways : DefC K mg "tail_ways" sTails ["choices"]
  d_count_choices : DefC K mg "count_choices" sCountC ["places", "choices"]
  d_face_counts : DefC K mg "face_counts" sFc ["rooms"]
  d_law_odd_faces : DefC K mg "_law_odd_faces" sOf ["_law_rooms_here"]
  d_law_rooms : DefC K mg "_law_rooms" sRooms ["_law_items", "_law_size"]
  d_law_even_rooms : DefC K mg "_law_even_rooms" sEven ["_law_n", "_law_size", "_law_cell_here"]
  d_law_sizes : DefC K mg "_law_sizes" sSizes ["_law_n", "_law_cell_here"]
  d_law_order : DefC K mg "_law_order" sOrder ["_law_cell_here", "_law_n"]
  d_law_cell : DefC K mg "_law_cell" sCell ["_law_script", "_law_k"]
  d_law_partitions : DefC K mg "_law_partitions" sParts ["_law_books", "_law_met"]
  d_law_covers : DefC K mg "_law_covers" sCovers ["_law_books"]
  d_ledger : DefC K mg "ledger" sLedger ["family"]
  d_count_partitions : DefC K mg "count_partitions" sCountP ["family"]
  d_parity : DefC K mg "parity" sParity ["family"]
  d_walk_choices : DefC K mg "walk_choices" sWalk ["choices", "tails", "left", "at"]
  d_list_choices : DefC K mg "list_choices" sListC ["places", "choices", "most"]
  d_walk_partitions : DefC K mg "walk_partitions" sWalkP ["family"]
  d_law_same : DefC K mg "_law_same" sSame ["_law_actual", "_law_due"]
  d_check_ledger : DefC K mg "check_ledger" sCheck ["family", "told"]
  d_law_counted : DefC K mg "_law_counted" sCounted ["_law_family", "_law_rows"]
  d_law_listed : DefC K mg "_law_listed" sListed ["_law_family", "_law_n", "_law_books", "_law_rows"]
  d_law_joined : DefC K mg "_law_joined" sJoined ["_law_family", "_law_n", "_law_sizes_here", "_law_books"]
  d_law_family_drawn : DefC K mg "_law_family_drawn" sDrawn ["_law_script", "_law_n", "_law_base"]
  m_CB_odd_faces : MetC K CB "odd_faces" "Book.odd_faces" sOdd ["self"]
  m_CB_len : MetC K CB "__len__" "Book.__len__" sBLen ["self"]
  m_CB_mul : MetC K CB "__mul__" "Book.__mul__" sMul ["self", "other"]
  m_CF_iter : MetC K CF "__iter__" "Family.__iter__" sFIter ["self"]
  m_CF_getitem : MetC K CF "__getitem__" "Family.__getitem__" sFGet ["self", "at"]
  m_CF_replaced : MetC K CF "replaced" "Family.replaced" sRepl ["self", "at", "book"]
  m_CB_init : IniC K mg CB "Book" "Book.__init__" sBInit ["self", "places", "size", "rooms"]
  m_CF_init : IniC K mg CF "Family" "Family.__init__" sFInit ["self", "books"]
  m_CB_is_even : PrpC K CB "is_even" "Book.is_even" sIsEven ["self"]
theorem all_fn {f : Addr} {fd : FuncData} (F : Fun K "law" "law" sLaw f fd) (D : Defs K mg CB CF) : FnOk P w K mg base CX0 33 f fd ["_law_script"] (spLaw K) := by
  have B := D.bl
  have T := D.tc
  have faces := ok_faces (P := P) (w := w) (base := base) D.d_faces B
  have merged := ok_merged (P := P) (w := w) (base := base) D.d_merged B
  have complement := ok_complement (P := P) (w := w) (base := base) D.d_complement B
  have shuffle := ok_shuffle (P := P) (w := w) (base := base) D.d_shuffle_sign B
  have fault := ok_fault (P := P) (w := w) (base := base) D.d_room_fault B
  have ext := ok_ext D.d_extended_ways B shuffle merged
  have longer := ok_longer (P := P) (w := w) (base := base) D.d_law_longer B
  have tails := ok_tails D.d_tail_ways B ext
  have countC := ok_countC D.d_count_choices B tails complement
  have fc := ok_fc D.d_face_counts B faces
  have off := ok_of (P := P) (w := w) (base := base) D.d_law_odd_faces B
  have rooms := ok_rooms (P := P) (w := w) (base := base) D.d_law_rooms B
  have even := ok_even D.d_law_even_rooms B rooms
  have sizes := ok_sizes (P := P) (w := w) (base := base) D.d_law_sizes B
  have order := ok_order (P := P) (w := w) (base := base) D.d_law_order B
  have cell := ok_cell (P := P) (w := w) (base := base) D.d_law_cell B
  have partsU := ok_partsU (P := P) (w := w) (base := base) D.d_law_partitions B
  have covers := ok_covers D.d_law_covers B longer
  have binit := ok_binit D.m_CB_init B T fault
  have odd := ok_odd D.m_CB_odd_faces B T fc
  have iseven := ok_iseven D.m_CB_is_even B T odd
  have blen := ok_blen (P := P) (w := w) (base := base) D.m_CB_len B T
  have mul := ok_mul D.m_CB_mul B T shuffle merged binit
  have finit := ok_finit D.m_CF_init B T odd
  have fiter := ok_fiter (P := P) (w := w) (base := base) D.m_CF_iter B T
  have fget := ok_fget (P := P) (w := w) (base := base) D.m_CF_getitem T
  have repl := ok_repl D.m_CF_replaced B T finit
  have ledger := ok_ledger D.d_ledger B T ext fiter
  have countP := ok_countP D.d_count_partitions T countC fiter
  have parity := ok_parity D.d_parity B T fget D.gfn mul blen
  have walk := ok_walk (P := P) (w := w) (base := base) D.d_walk_choices B
  have listC := ok_listC D.d_list_choices B tails walk
  have walkP := ok_walkP D.d_walk_partitions B T tails walk fiter
  have same := ok_same (P := P) (w := w) (base := base) D.d_law_same B
  have listP := ok_listP D.lp T listC fiter
  have check := ok_check D.d_check_ledger B ledger
  have counted := ok_counted D.d_law_counted B T countP same listP walkP
  have listed := ok_listed D.d_law_listed B covers ledger same parity check
  have joined := ok_joined D.d_law_joined B T covers same off iseven fget D.gfn mul blen
  have drawn := ok_drawn D.d_law_family_drawn B plain_all cell sizes even partsU
  exact ok_law F B T plain_all cell drawn binit finit counted listed joined order even repl partsU same countP
end
section
variable {K : PySem.W.Frag} {h : Heap} {mg : Str → Option Value} {x qual m : Str} {st : Stmt} {ps : List Str} {f p C : Addr} {oc : Value} {od an : Option Addr} {osl : Array (Option Value)} {kV doc pm cdv ct : Value}
theorem defC_mk (X : K.In h) (G : h.Ns mainGlobals mg) (a : PySem.W.nsIn K mainGlobals x = some (some (.ref f))) (l : K.lookup f = some ⟨oc, od, .func (PySem.W.fnOf x x (defArgs st) (defBody st) (defScope st) .none kV doc pm an cdv ct), osl⟩)
    (c : PySem.W.codeIn K cdv x = true) (k : PySem.W.keepIn K (.ref f) = true) (b : ∀ fd, Fun K x x st f fd → Binds K fd ps []) : DefC K mg x st ps := ⟨f, _, fun_mk l c k, PySem.W.mg_of X G a, b _ (fun_mk l c k)⟩
theorem metC_mk (a : PySem.W.findIn K (.ref C) m = some (some (.ref f))) (i : PySem.W.isFn K (.ref f) = true) (l : K.lookup f = some ⟨oc, od, .func (PySem.W.fnOf m qual (defArgs st) (defBody st) (defScope st) .none kV doc pm an cdv ct), osl⟩)
    (c : PySem.W.codeIn K cdv qual = true) (k : PySem.W.keepIn K (.ref f) = true) (b : ∀ fd, Fun K m qual st f fd → Binds K fd ps []) : MetC K C m qual st ps := ⟨f, _, fun_mk l c k, ⟨a, i, k⟩, b _ (fun_mk l c k)⟩
theorem iniC_mk (X : K.In h) (G : h.Ns mainGlobals mg) (g : PySem.W.nsIn K mainGlobals x = some (some (.ref C))) (mk : PySem.W.makesIn K C = true) (kc : PySem.W.keepIn K (.ref C) = true) (a : PySem.W.findIn K (.ref C) "__init__" = some (some (.ref f))) (i : PySem.W.isFn K (.ref f) = true)
    (l : K.lookup f = some ⟨oc, od, .func (PySem.W.fnOf "__init__" qual (defArgs st) (defBody st) (defScope st) .none kV doc pm an cdv ct), osl⟩)
    (c : PySem.W.codeIn K cdv qual = true) (k : PySem.W.keepIn K (.ref f) = true) (b : ∀ fd, Fun K "__init__" qual st f fd → Binds K fd ps []) : IniC K mg C x qual st ps := ⟨f, _, fun_mk l c k, ⟨mk, a, i, kc⟩, PySem.W.mg_of X G g, b _ (fun_mk l c k)⟩
theorem prpC_mk {rest : List Value} (a : PySem.W.findIn K (.ref C) m = some (some (.ref p))) (g : PySem.W.specialIn K (.ref p) "__get__" = some (some (.builtin "property.__get__"))) (t : PySem.W.takesIn K (.ref p) = some true) (r : PySem.W.recIn K p "property" = some (.ref f :: rest))
    (l : K.lookup f = some ⟨oc, od, .func (PySem.W.fnOf m qual (defArgs st) (defBody st) (defScope st) .none kV doc pm an cdv ct), osl⟩)
    (c : PySem.W.codeIn K cdv qual = true) (k : PySem.W.keepIn K (.ref f) = true) (b : ∀ fd, Fun K m qual st f fd → Binds K fd ps []) : PrpC K C m qual st ps := ⟨f, p, _, fun_mk l c k, ⟨a, g, t, ⟨rest, r⟩⟩, b _ (fun_mk l c k)⟩
theorem lpC_mk {D : Addr} (X : K.In h) (G : h.Ns mainGlobals mg) (a : PySem.W.nsIn K mainGlobals "list_partitions" = some (some (.ref f))) (l : K.lookup f = some ⟨oc, od, .func (PySem.W.fnOf "list_partitions" "list_partitions" (defArgs sListP) (defBody sListP) (defScope sListP) .none (.ref D) doc pm an cdv ct), osl⟩)
    (c : PySem.W.codeIn K cdv "list_partitions" = true) (k : PySem.W.keepIn K (.ref f) = true) {u : Value} (d : PySem.W.nsIn K D "most" = some (some u)) (hu : RelV (V.int 5000) u) : LpC K mg :=
  ⟨f, _, ⟨⟨oc, od, .none, .ref D, doc, pm, an, cdv, ct, osl, rfl, l, c, .inl ⟨rfl, rfl⟩, .inr ⟨D, rfl, fun q hq => by rw [List.mem_singleton] at hq; subst hq; exact ⟨u, d, hu⟩⟩⟩, k⟩, PySem.W.mg_of X G a⟩
theorem funL_mk (X : K.In h) (G : h.Ns mainGlobals mg) {fa : Addr} (hfa : mg "law" = some (.ref fa)) (a : PySem.W.nsIn K mainGlobals "law" = some (some (.ref f))) (l : K.lookup f = some ⟨oc, od, .func (PySem.W.fnOf "law" "law" (defArgs sLaw) (defBody sLaw) (defScope sLaw) .none kV doc pm an cdv ct), osl⟩)
    (c : PySem.W.codeIn K cdv "law" = true) (k : PySem.W.keepIn K (.ref f) = true) : ∃ fd : FuncData, (∀ (s : Shared) (v : Value), BindsTo s fd ⟨[v], []⟩ [("_law_script", v)]) ∧ Fun K "law" "law" sLaw fa fd := by
  have e := hfa.symm.trans (PySem.W.mg_of X G a)
  cases e
  exact ⟨_, fun s v => .of_eq rfl, fun_mk l c k⟩
theorem bl_mk (X : K.In h) (G : h.Ns mainGlobals mg) (len_ : PySem.W.nsIn K mainGlobals "len" = some none) (sorted_ : PySem.W.nsIn K mainGlobals "sorted" = some none) (list_ : PySem.W.nsIn K mainGlobals "list" = some none) (tuple_ : PySem.W.nsIn K mainGlobals "tuple" = some none) (set_ : PySem.W.nsIn K mainGlobals "set" = some none) (range_ : PySem.W.nsIn K mainGlobals "range" = some none) (enumerate_ : PySem.W.nsIn K mainGlobals "enumerate" = some none) (sum_ : PySem.W.nsIn K mainGlobals "sum" = some none) (abs_ : PySem.W.nsIn K mainGlobals "abs" = some none) (int_ : PySem.W.nsIn K mainGlobals "int" = some none) (isinstance_ : PySem.W.nsIn K mainGlobals "isinstance" = some none) (reversed_ : PySem.W.nsIn K mainGlobals "reversed" = some none) (iter_ : PySem.W.nsIn K mainGlobals "iter" = some none) (bool_ : PySem.W.nsIn K mainGlobals "bool" = some none) (str_ : PySem.W.nsIn K mainGlobals "str" = some none) : Bl mg :=
  ⟨PySem.W.mg_none_of X G len_, PySem.W.mg_none_of X G sorted_, PySem.W.mg_none_of X G list_, PySem.W.mg_none_of X G tuple_, PySem.W.mg_none_of X G set_, PySem.W.mg_none_of X G range_, PySem.W.mg_none_of X G enumerate_, PySem.W.mg_none_of X G sum_, PySem.W.mg_none_of X G abs_, PySem.W.mg_none_of X G int_, PySem.W.mg_none_of X G isinstance_, PySem.W.mg_none_of X G reversed_, PySem.W.mg_none_of X G iter_, PySem.W.mg_none_of X G bool_, PySem.W.mg_none_of X G str_⟩
theorem tc_mk {CB CF : Addr} (X : K.In h) (G : h.Ns mainGlobals mg) (gB : PySem.W.nsIn K mainGlobals "Book" = some (some (.ref CB))) (gF : PySem.W.nsIn K mainGlobals "Family" = some (some (.ref CF)))
    (b1 : PySem.W.plainGet K CB Str.empty = true) (b2 : PySem.W.hasDictIn K CB = true) (b3 : PySem.W.plainOver K CB = true) (b4 : PySem.W.findIn K (.ref CB) "__setattr__" = some (some (.builtin "object.__setattr__")))
    (b5 : PySem.W.findIn K (.ref CB) "places" = some none) (b6 : PySem.W.findIn K (.ref CB) "size" = some none) (b7 : PySem.W.findIn K (.ref CB) "rooms" = some none)
    {mc u : Value} (b8 : PySem.W.readsIn K CB mc = true) (b9 : PySem.W.specialIn K (.ref CB) "__getattribute__" = some (some (.builtin "type.__getattribute__"))) (b10 : PySem.W.findCls K (.ref CB) mc "MOST_PLACES" = some (.val u)) (b11 : RelV (V.int 12) u)
    (b12 : PySem.W.findIn K (.ref CB) "__class__" = some (some (.builtin "object.__class__"))) (b13 : PySem.W.specialIn K (.builtin "object.__class__") "__get__" = some (some (.builtin "getset_descriptor.__get__"))) (b14 : PySem.W.takesIn K (.builtin "object.__class__") = some true)
    (b15 : PySem.W.mroIn K CB (.type "object") = some true) (b17 : PySem.W.selfFirst K CB = true)
    (f1 : PySem.W.plainGet K CF Str.empty = true) (f2 : PySem.W.hasDictIn K CF = true) (f3 : PySem.W.plainOver K CF = true) (f4 : PySem.W.findIn K (.ref CF) "__setattr__" = some (some (.builtin "object.__setattr__")))
    (f5 : PySem.W.findIn K (.ref CF) "places" = some none) (f6 : PySem.W.findIn K (.ref CF) "books" = some none) : TC K mg CB CF where
  clB := ⟨b1, b2, b3, b4⟩
  bP := b5
  bS := b6
  bR := b7
  mgB := PySem.W.mg_of X G gB
  most := ⟨mc, u, ⟨b8, b9⟩, ⟨b10, b11⟩⟩
  hb1 := b12
  hc1 := b13
  hc2 := b14
  hb2 := b15
  kit := by simp [PySem.W.kitOne]
  sf := b17
  clF := ⟨f1, f2, f3, f4⟩
  fP := f5
  fB := f6
  mgF := PySem.W.mg_of X G gF
theorem getfn_mk {C : Addr} (a : PySem.W.findIn K (.ref C) "__getitem__" = some (some (.ref f))) (h : PySem.W.fnIn K f = true) : ∀ g, Meth K C "__getitem__" g → PySem.W.fnIn K g = true := fun g m => by
  have e := a.symm.trans m.at_
  cases e
  exact h
end
section
variable {K : PySem.W.Frag} {h : Heap} {mg : Str → Option Value} {x qual m : Str} {st : Stmt} {ps : List Str} {f p CB CF : Addr} {oc : Value} {od an : Option Addr} {osl : Array (Option Value)} {kV doc pm cdv ct : Value}
theorem thenp {A B : Prop} (a : A) (f : A → B) : B := f a
theorem metB_mk (T : TC K mg CB CF) (a : PySem.W.findIn K (.ref CB) m = some (some (.ref f))) (i : PySem.W.isFn K (.ref f) = true) (l : K.lookup f = some ⟨oc, od, .func (PySem.W.fnOf m qual (defArgs st) (defBody st) (defScope st) .none kV doc pm an cdv ct), osl⟩)
    (c : PySem.W.codeIn K cdv qual = true) (k : PySem.W.keepIn K (.ref f) = true) (b : ∀ fd, Fun K m qual st f fd → Binds K fd ps []) : MetC K CB m qual st ps := metC_mk a i l c k b
theorem iniB_mk (X : K.In h) (G : h.Ns mainGlobals mg) (T : TC K mg CB CF) (g : PySem.W.nsIn K mainGlobals x = some (some (.ref CB))) (mk : PySem.W.makesIn K CB = true) (kc : PySem.W.keepIn K (.ref CB) = true) (a : PySem.W.findIn K (.ref CB) "__init__" = some (some (.ref f))) (i : PySem.W.isFn K (.ref f) = true)
    (l : K.lookup f = some ⟨oc, od, .func (PySem.W.fnOf "__init__" qual (defArgs st) (defBody st) (defScope st) .none kV doc pm an cdv ct), osl⟩)
    (c : PySem.W.codeIn K cdv qual = true) (k : PySem.W.keepIn K (.ref f) = true) (b : ∀ fd, Fun K "__init__" qual st f fd → Binds K fd ps []) : IniC K mg CB x qual st ps := iniC_mk X G g mk kc a i l c k b
theorem metF_mk (T : TC K mg CB CF) (a : PySem.W.findIn K (.ref CF) m = some (some (.ref f))) (i : PySem.W.isFn K (.ref f) = true) (l : K.lookup f = some ⟨oc, od, .func (PySem.W.fnOf m qual (defArgs st) (defBody st) (defScope st) .none kV doc pm an cdv ct), osl⟩)
    (c : PySem.W.codeIn K cdv qual = true) (k : PySem.W.keepIn K (.ref f) = true) (b : ∀ fd, Fun K m qual st f fd → Binds K fd ps []) : MetC K CF m qual st ps := metC_mk a i l c k b
theorem iniF_mk (X : K.In h) (G : h.Ns mainGlobals mg) (T : TC K mg CB CF) (g : PySem.W.nsIn K mainGlobals x = some (some (.ref CF))) (mk : PySem.W.makesIn K CF = true) (kc : PySem.W.keepIn K (.ref CF) = true) (a : PySem.W.findIn K (.ref CF) "__init__" = some (some (.ref f))) (i : PySem.W.isFn K (.ref f) = true)
    (l : K.lookup f = some ⟨oc, od, .func (PySem.W.fnOf "__init__" qual (defArgs st) (defBody st) (defScope st) .none kV doc pm an cdv ct), osl⟩)
    (c : PySem.W.codeIn K cdv qual = true) (k : PySem.W.keepIn K (.ref f) = true) (b : ∀ fd, Fun K "__init__" qual st f fd → Binds K fd ps []) : IniC K mg CF x qual st ps := iniC_mk X G g mk kc a i l c k b
theorem prpB_mk (T : TC K mg CB CF) {rest : List Value} (a : PySem.W.findIn K (.ref CB) m = some (some (.ref p))) (g : PySem.W.specialIn K (.ref p) "__get__" = some (some (.builtin "property.__get__"))) (t : PySem.W.takesIn K (.ref p) = some true) (r : PySem.W.recIn K p "property" = some (.ref f :: rest))
    (l : K.lookup f = some ⟨oc, od, .func (PySem.W.fnOf m qual (defArgs st) (defBody st) (defScope st) .none kV doc pm an cdv ct), osl⟩)
    (c : PySem.W.codeIn K cdv qual = true) (k : PySem.W.keepIn K (.ref f) = true) (b : ∀ fd, Fun K m qual st f fd → Binds K fd ps []) : PrpC K CB m qual st ps := prpC_mk a g t r l c k b
theorem getfnF_mk (T : TC K mg CB CF) (a : PySem.W.findIn K (.ref CF) "__getitem__" = some (some (.ref f))) (h : PySem.W.fnIn K f = true) : ∀ g, Meth K CF "__getitem__" g → PySem.W.fnIn K g = true := getfn_mk a h
end
section
variable {K : PySem.W.Frag} {f : Addr} {fd : FuncData}
theorem bi_d_faces (F : Fun K "faces" "faces" sFaces f fd) : Binds K fd ["room"] [] := F.binds (ps := ["room"]) fun _ _ _ _ _ _ us hl => match us, hl with | [_], _ => rfl
theorem bi_d_merged (F : Fun K "merged" "merged" sMerged f fd) : Binds K fd ["first", "second"] [] := F.binds (ps := ["first", "second"]) fun _ _ _ _ _ _ us hl => match us, hl with | [_, _], _ => rfl
theorem bi_d_complement (F : Fun K "complement" "complement" sComplement f fd) : Binds K fd ["places", "room"] [] := F.binds (ps := ["places", "room"]) fun _ _ _ _ _ _ us hl => match us, hl with | [_, _], _ => rfl
theorem bi_d_shuffle_sign (F : Fun K "shuffle_sign" "shuffle_sign" sShuffle f fd) : Binds K fd ["first", "second"] [] := F.binds (ps := ["first", "second"]) fun _ _ _ _ _ _ us hl => match us, hl with | [_, _], _ => rfl
theorem bi_d_room_fault (F : Fun K "room_fault" "room_fault" sFault f fd) : Binds K fd ["places", "size", "room"] [] := F.binds (ps := ["places", "size", "room"]) fun _ _ _ _ _ _ us hl => match us, hl with | [_, _, _], _ => rfl
theorem bi_d_extended_ways (F : Fun K "extended_ways" "extended_ways" sExt f fd) : Binds K fd ["ways", "rooms"] [] := F.binds (ps := ["ways", "rooms"]) fun _ _ _ _ _ _ us hl => match us, hl with | [_, _], _ => rfl
theorem bi_d_law_longer (F : Fun K "_law_longer" "_law_longer" sLonger f fd) : Binds K fd ["_law_ways", "_law_rooms_here"] [] := F.binds (ps := ["_law_ways", "_law_rooms_here"]) fun _ _ _ _ _ _ us hl => match us, hl with | [_, _], _ => rfl
theorem bi_d_tail_ways (F : Fun K "tail_ways" "tail_ways" sTails f fd) : Binds K fd ["choices"] [] := F.binds (ps := ["choices"]) fun _ _ _ _ _ _ us hl => match us, hl with | [_], _ => rfl
theorem bi_d_count_choices (F : Fun K "count_choices" "count_choices" sCountC f fd) : Binds K fd ["places", "choices"] [] := F.binds (ps := ["places", "choices"]) fun _ _ _ _ _ _ us hl => match us, hl with | [_, _], _ => rfl
theorem bi_d_face_counts (F : Fun K "face_counts" "face_counts" sFc f fd) : Binds K fd ["rooms"] [] := F.binds (ps := ["rooms"]) fun _ _ _ _ _ _ us hl => match us, hl with | [_], _ => rfl
theorem bi_d_law_odd_faces (F : Fun K "_law_odd_faces" "_law_odd_faces" sOf f fd) : Binds K fd ["_law_rooms_here"] [] := F.binds (ps := ["_law_rooms_here"]) fun _ _ _ _ _ _ us hl => match us, hl with | [_], _ => rfl
theorem bi_d_law_rooms (F : Fun K "_law_rooms" "_law_rooms" sRooms f fd) : Binds K fd ["_law_items", "_law_size"] [] := F.binds (ps := ["_law_items", "_law_size"]) fun _ _ _ _ _ _ us hl => match us, hl with | [_, _], _ => rfl
theorem bi_d_law_even_rooms (F : Fun K "_law_even_rooms" "_law_even_rooms" sEven f fd) : Binds K fd ["_law_n", "_law_size", "_law_cell_here"] [] := F.binds (ps := ["_law_n", "_law_size", "_law_cell_here"]) fun _ _ _ _ _ _ us hl => match us, hl with | [_, _, _], _ => rfl
theorem bi_d_law_sizes (F : Fun K "_law_sizes" "_law_sizes" sSizes f fd) : Binds K fd ["_law_n", "_law_cell_here"] [] := F.binds (ps := ["_law_n", "_law_cell_here"]) fun _ _ _ _ _ _ us hl => match us, hl with | [_, _], _ => rfl
theorem bi_d_law_order (F : Fun K "_law_order" "_law_order" sOrder f fd) : Binds K fd ["_law_cell_here", "_law_n"] [] := F.binds (ps := ["_law_cell_here", "_law_n"]) fun _ _ _ _ _ _ us hl => match us, hl with | [_, _], _ => rfl
theorem bi_d_law_cell (F : Fun K "_law_cell" "_law_cell" sCell f fd) : Binds K fd ["_law_script", "_law_k"] [] := F.binds (ps := ["_law_script", "_law_k"]) fun _ _ _ _ _ _ us hl => match us, hl with | [_, _], _ => rfl
theorem bi_d_law_partitions (F : Fun K "_law_partitions" "_law_partitions" sParts f fd) : Binds K fd ["_law_books", "_law_met"] [] := F.binds (ps := ["_law_books", "_law_met"]) fun _ _ _ _ _ _ us hl => match us, hl with | [_, _], _ => rfl
theorem bi_d_law_covers (F : Fun K "_law_covers" "_law_covers" sCovers f fd) : Binds K fd ["_law_books"] [] := F.binds (ps := ["_law_books"]) fun _ _ _ _ _ _ us hl => match us, hl with | [_], _ => rfl
theorem bi_d_ledger (F : Fun K "ledger" "ledger" sLedger f fd) : Binds K fd ["family"] [] := F.binds (ps := ["family"]) fun _ _ _ _ _ _ us hl => match us, hl with | [_], _ => rfl
theorem bi_d_count_partitions (F : Fun K "count_partitions" "count_partitions" sCountP f fd) : Binds K fd ["family"] [] := F.binds (ps := ["family"]) fun _ _ _ _ _ _ us hl => match us, hl with | [_], _ => rfl
theorem bi_d_parity (F : Fun K "parity" "parity" sParity f fd) : Binds K fd ["family"] [] := F.binds (ps := ["family"]) fun _ _ _ _ _ _ us hl => match us, hl with | [_], _ => rfl
theorem bi_d_walk_choices (F : Fun K "walk_choices" "walk_choices" sWalk f fd) : Binds K fd ["choices", "tails", "left", "at"] [] := F.binds (ps := ["choices", "tails", "left", "at"]) fun _ _ _ _ _ _ us hl => match us, hl with | [_, _, _, _], _ => rfl
theorem bi_d_list_choices (F : Fun K "list_choices" "list_choices" sListC f fd) : Binds K fd ["places", "choices", "most"] [] := F.binds (ps := ["places", "choices", "most"]) fun _ _ _ _ _ _ us hl => match us, hl with | [_, _, _], _ => rfl
theorem bi_d_walk_partitions (F : Fun K "walk_partitions" "walk_partitions" sWalkP f fd) : Binds K fd ["family"] [] := F.binds (ps := ["family"]) fun _ _ _ _ _ _ us hl => match us, hl with | [_], _ => rfl
theorem bi_d_law_same (F : Fun K "_law_same" "_law_same" sSame f fd) : Binds K fd ["_law_actual", "_law_due"] [] := F.binds (ps := ["_law_actual", "_law_due"]) fun _ _ _ _ _ _ us hl => match us, hl with | [_, _], _ => rfl
theorem bi_d_check_ledger (F : Fun K "check_ledger" "check_ledger" sCheck f fd) : Binds K fd ["family", "told"] [] := F.binds (ps := ["family", "told"]) fun _ _ _ _ _ _ us hl => match us, hl with | [_, _], _ => rfl
theorem bi_d_law_counted (F : Fun K "_law_counted" "_law_counted" sCounted f fd) : Binds K fd ["_law_family", "_law_rows"] [] := F.binds (ps := ["_law_family", "_law_rows"]) fun _ _ _ _ _ _ us hl => match us, hl with | [_, _], _ => rfl
theorem bi_d_law_listed (F : Fun K "_law_listed" "_law_listed" sListed f fd) : Binds K fd ["_law_family", "_law_n", "_law_books", "_law_rows"] [] := F.binds (ps := ["_law_family", "_law_n", "_law_books", "_law_rows"]) fun _ _ _ _ _ _ us hl => match us, hl with | [_, _, _, _], _ => rfl
theorem bi_d_law_joined (F : Fun K "_law_joined" "_law_joined" sJoined f fd) : Binds K fd ["_law_family", "_law_n", "_law_sizes_here", "_law_books"] [] := F.binds (ps := ["_law_family", "_law_n", "_law_sizes_here", "_law_books"]) fun _ _ _ _ _ _ us hl => match us, hl with | [_, _, _, _], _ => rfl
theorem bi_d_law_family_drawn (F : Fun K "_law_family_drawn" "_law_family_drawn" sDrawn f fd) : Binds K fd ["_law_script", "_law_n", "_law_base"] [] := F.binds (ps := ["_law_script", "_law_n", "_law_base"]) fun _ _ _ _ _ _ us hl => match us, hl with | [_, _, _], _ => rfl
theorem bi_m_CB_odd_faces (F : Fun K "odd_faces" "Book.odd_faces" sOdd f fd) : Binds K fd ["self"] [] := F.binds (ps := ["self"]) fun _ _ _ _ _ _ us hl => match us, hl with | [_], _ => rfl
theorem bi_m_CB_len (F : Fun K "__len__" "Book.__len__" sBLen f fd) : Binds K fd ["self"] [] := F.binds (ps := ["self"]) fun _ _ _ _ _ _ us hl => match us, hl with | [_], _ => rfl
theorem bi_m_CB_mul (F : Fun K "__mul__" "Book.__mul__" sMul f fd) : Binds K fd ["self", "other"] [] := F.binds (ps := ["self", "other"]) fun _ _ _ _ _ _ us hl => match us, hl with | [_, _], _ => rfl
theorem bi_m_CF_iter (F : Fun K "__iter__" "Family.__iter__" sFIter f fd) : Binds K fd ["self"] [] := F.binds (ps := ["self"]) fun _ _ _ _ _ _ us hl => match us, hl with | [_], _ => rfl
theorem bi_m_CF_getitem (F : Fun K "__getitem__" "Family.__getitem__" sFGet f fd) : Binds K fd ["self", "at"] [] := F.binds (ps := ["self", "at"]) fun _ _ _ _ _ _ us hl => match us, hl with | [_, _], _ => rfl
theorem bi_m_CF_replaced (F : Fun K "replaced" "Family.replaced" sRepl f fd) : Binds K fd ["self", "at", "book"] [] := F.binds (ps := ["self", "at", "book"]) fun _ _ _ _ _ _ us hl => match us, hl with | [_, _, _], _ => rfl
theorem bi_m_CB_init (F : Fun K "__init__" "Book.__init__" sBInit f fd) : Binds K fd ["self", "places", "size", "rooms"] [] := F.binds (ps := ["self", "places", "size", "rooms"]) fun _ _ _ _ _ _ us hl => match us, hl with | [_, _, _, _], _ => rfl
theorem bi_m_CF_init (F : Fun K "__init__" "Family.__init__" sFInit f fd) : Binds K fd ["self", "books"] [] := F.binds (ps := ["self", "books"]) fun _ _ _ _ _ _ us hl => match us, hl with | [_, _], _ => rfl
theorem bi_m_CB_is_even (F : Fun K "is_even" "Book.is_even" sIsEven f fd) : Binds K fd ["self"] [] := F.binds (ps := ["self"]) fun _ _ _ _ _ _ us hl => match us, hl with | [_], _ => rfl
end
theorem walk {l : PySem.W.OpenLaw} {q : Program} {loose : List Str} {XP : (Str → Option Value) → Heap → Prop} {YP : World → Heap → Prop} {d : DefRec} {K : Params → PySem.W.Frag} (hn : l.most = some 63) (hdf : d.params.defaults = [])
    (hY : ∀ (w : World) (h : Heap), YP w h → (K w.params).In h)
    (F : ∀ (w : World) (mg : Str → Option Value) (fa : Addr) (h : Heap), (K w.params).In h → h.Ns mainGlobals mg → mg d.name = some (.ref fa) →
      ∃ fd : FuncData, (∀ (s : Shared) (u : Value), BindsTo s fd ⟨[u], []⟩ [("_law_script", u)]) ∧ ∀ base : Heap, (K w.params).In base → base.Ns mainGlobals mg → FnOk l.prog w (K w.params) mg base CX0 33 fa fd ["_law_script"] (spLaw (K w.params))) :
    PySem.W.WalkO q loose XP YP l.row.toRowW d [] (fun f vs => PySem.call f vs) :=
  L2.walk_of (n := 63) (k := 33) (x := "_law_script") (CX := fun _ => CX0) (sp := fun w => spLaw (K w.params)) hn (by decide) hdf ⟨rfl, by decide, by decide⟩ hY F (fun _ _ a ns hl _ hS => ⟨a, ns, rfl, hS, hl, fun _ => rfl⟩) fun _ _ _ _ _ z => z
end NA
open PySem PySem.W PyProof.Rows
set_option maxRecDepth 100000 in
set_option maxHeartbeats 0 in
theorem PySem.Challenge.cw_neveralone_k55_whole_never_an_odd_number_holds : PySem.Challenge.rw_neveralone_k55_whole_never_an_odd_number.Holds := by
  w_on; o_law; k_head; (case hw => w_witness2)
  k_fill
  refine NA.walk (l := PySem.Challenge.rw_neveralone_k55_whole_never_an_odd_number) rfl rfl (fun w h Y => PySem.W.kIn_of Y) ?F
  case F =>
    intro w mg fa h KX G hmg
    refine' NA.thenp (NA.bl_mk KX G ?len_ ?sorted_ ?list_ ?tuple_ ?set_ ?range_ ?enumerate_ ?sum_ ?abs_ ?int_ ?isinstance_ ?reversed_ ?iter_ ?bool_ ?str_) (fun bl => ?_)
    (case len_ => k_is)
    (case sorted_ => k_is)
    (case list_ => k_is)
    (case tuple_ => k_is)
    (case set_ => k_is)
    (case range_ => k_is)
    (case enumerate_ => k_is)
    (case sum_ => k_is)
    (case abs_ => k_is)
    (case int_ => k_is)
    (case isinstance_ => k_is)
    (case reversed_ => k_is)
    (case iter_ => k_is)
    (case bool_ => k_is)
    (case str_ => k_is)
    refine' NA.thenp (NA.tc_mk (mc := .type "type") KX G ?gB ?gF ?b1 ?b2 ?b3 ?b4 ?b5 ?b6 ?b7 ?b8 ?b9 ?b10 ?b11 ?b12 ?b13 ?b14 ?b15 ?b17 ?f1 ?f2 ?f3 ?f4 ?f5 ?f6) (fun tc => ?_)
    (case gB => k_is)
    (case gF => k_is)
    (case b1 => k_is)
    (case b2 => k_is)
    (case b3 => k_is)
    (case b4 => k_is)
    (case b5 => k_is)
    (case b6 => k_is)
    (case b7 => k_is)
    (case b8 => k_is)
    (case b9 => k_is)
    (case b10 => k_is)
    (case b11 => exact ⟨_, rfl⟩)
    (case b12 => k_is)
    (case b13 => k_is)
    (case b14 => k_is)
    (case b15 => k_is)
    (case b17 => k_is)
    (case f1 => k_is)
    (case f2 => k_is)
    (case f3 => k_is)
    (case f4 => k_is)
    (case f5 => k_is)
    (case f6 => k_is)
    refine' NA.thenp (NA.lpC_mk KX G ?a ?l ?c ?k ?d ?hu) (fun lp => ?_)
    (case a => k_is)
    (case l => k_is)
    (case c => k_is)
    (case k => k_is)
    (case d => k_is)
    (case hu => exact ⟨_, rfl⟩)
    refine' NA.thenp (NA.getfnF_mk tc ?a ?h) (fun gfn => ?_)
    (case a => k_is)
    (case h => k_is)
    refine' NA.thenp (NA.defC_mk (x := "faces") (st := NA.sFaces) (ps := ["room"]) KX G ?a ?l ?c ?k (fun _ F => NA.bi_d_faces F)) (fun d_faces => ?_)
    (case a => k_is)
    (case l => k_is)
    (case c => k_is)
    (case k => k_is)
    refine' NA.thenp (NA.defC_mk (x := "merged") (st := NA.sMerged) (ps := ["first", "second"]) KX G ?a ?l ?c ?k (fun _ F => NA.bi_d_merged F)) (fun d_merged => ?_)
    (case a => k_is)
    (case l => k_is)
    (case c => k_is)
    (case k => k_is)
    refine' NA.thenp (NA.defC_mk (x := "complement") (st := NA.sComplement) (ps := ["places", "room"]) KX G ?a ?l ?c ?k (fun _ F => NA.bi_d_complement F)) (fun d_complement => ?_)
    (case a => k_is)
    (case l => k_is)
    (case c => k_is)
    (case k => k_is)
    refine' NA.thenp (NA.defC_mk (x := "shuffle_sign") (st := NA.sShuffle) (ps := ["first", "second"]) KX G ?a ?l ?c ?k (fun _ F => NA.bi_d_shuffle_sign F)) (fun d_shuffle_sign => ?_)
    (case a => k_is)
    (case l => k_is)
    (case c => k_is)
    (case k => k_is)
    refine' NA.thenp (NA.defC_mk (x := "room_fault") (st := NA.sFault) (ps := ["places", "size", "room"]) KX G ?a ?l ?c ?k (fun _ F => NA.bi_d_room_fault F)) (fun d_room_fault => ?_)
    (case a => k_is)
    (case l => k_is)
    (case c => k_is)
    (case k => k_is)
    refine' NA.thenp (NA.defC_mk (x := "extended_ways") (st := NA.sExt) (ps := ["ways", "rooms"]) KX G ?a ?l ?c ?k (fun _ F => NA.bi_d_extended_ways F)) (fun d_extended_ways => ?_)
    (case a => k_is)
    (case l => k_is)
    (case c => k_is)
    (case k => k_is)
    refine' NA.thenp (NA.defC_mk (x := "_law_longer") (st := NA.sLonger) (ps := ["_law_ways", "_law_rooms_here"]) KX G ?a ?l ?c ?k (fun _ F => NA.bi_d_law_longer F)) (fun d_law_longer => ?_)
    (case a => k_is)
    (case l => k_is)
    (case c => k_is)
    (case k => k_is)
    refine' NA.thenp (NA.defC_mk (x := "tail_ways") (st := NA.sTails) (ps := ["choices"]) KX G ?a ?l ?c ?k (fun _ F => NA.bi_d_tail_ways F)) (fun d_tail_ways => ?_)
    (case a => k_is)
    (case l => k_is)
    (case c => k_is)
    (case k => k_is)
    refine' NA.thenp (NA.defC_mk (x := "count_choices") (st := NA.sCountC) (ps := ["places", "choices"]) KX G ?a ?l ?c ?k (fun _ F => NA.bi_d_count_choices F)) (fun d_count_choices => ?_)
    (case a => k_is)
    (case l => k_is)
    (case c => k_is)
    (case k => k_is)
    refine' NA.thenp (NA.defC_mk (x := "face_counts") (st := NA.sFc) (ps := ["rooms"]) KX G ?a ?l ?c ?k (fun _ F => NA.bi_d_face_counts F)) (fun d_face_counts => ?_)
    (case a => k_is)
    (case l => k_is)
    (case c => k_is)
    (case k => k_is)
    refine' NA.thenp (NA.defC_mk (x := "_law_odd_faces") (st := NA.sOf) (ps := ["_law_rooms_here"]) KX G ?a ?l ?c ?k (fun _ F => NA.bi_d_law_odd_faces F)) (fun d_law_odd_faces => ?_)
    (case a => k_is)
    (case l => k_is)
    (case c => k_is)
    (case k => k_is)
    refine' NA.thenp (NA.defC_mk (x := "_law_rooms") (st := NA.sRooms) (ps := ["_law_items", "_law_size"]) KX G ?a ?l ?c ?k (fun _ F => NA.bi_d_law_rooms F)) (fun d_law_rooms => ?_)
    (case a => k_is)
    (case l => k_is)
    (case c => k_is)
    (case k => k_is)
    refine' NA.thenp (NA.defC_mk (x := "_law_even_rooms") (st := NA.sEven) (ps := ["_law_n", "_law_size", "_law_cell_here"]) KX G ?a ?l ?c ?k (fun _ F => NA.bi_d_law_even_rooms F)) (fun d_law_even_rooms => ?_)
    (case a => k_is)
    (case l => k_is)
    (case c => k_is)
    (case k => k_is)
    refine' NA.thenp (NA.defC_mk (x := "_law_sizes") (st := NA.sSizes) (ps := ["_law_n", "_law_cell_here"]) KX G ?a ?l ?c ?k (fun _ F => NA.bi_d_law_sizes F)) (fun d_law_sizes => ?_)
    (case a => k_is)
    (case l => k_is)
    (case c => k_is)
    (case k => k_is)
    refine' NA.thenp (NA.defC_mk (x := "_law_order") (st := NA.sOrder) (ps := ["_law_cell_here", "_law_n"]) KX G ?a ?l ?c ?k (fun _ F => NA.bi_d_law_order F)) (fun d_law_order => ?_)
    (case a => k_is)
    (case l => k_is)
    (case c => k_is)
    (case k => k_is)
    refine' NA.thenp (NA.defC_mk (x := "_law_cell") (st := NA.sCell) (ps := ["_law_script", "_law_k"]) KX G ?a ?l ?c ?k (fun _ F => NA.bi_d_law_cell F)) (fun d_law_cell => ?_)
    (case a => k_is)
    (case l => k_is)
    (case c => k_is)
    (case k => k_is)
    refine' NA.thenp (NA.defC_mk (x := "_law_partitions") (st := NA.sParts) (ps := ["_law_books", "_law_met"]) KX G ?a ?l ?c ?k (fun _ F => NA.bi_d_law_partitions F)) (fun d_law_partitions => ?_)
    (case a => k_is)
    (case l => k_is)
    (case c => k_is)
    (case k => k_is)
    refine' NA.thenp (NA.defC_mk (x := "_law_covers") (st := NA.sCovers) (ps := ["_law_books"]) KX G ?a ?l ?c ?k (fun _ F => NA.bi_d_law_covers F)) (fun d_law_covers => ?_)
    (case a => k_is)
    (case l => k_is)
    (case c => k_is)
    (case k => k_is)
    refine' NA.thenp (NA.defC_mk (x := "ledger") (st := NA.sLedger) (ps := ["family"]) KX G ?a ?l ?c ?k (fun _ F => NA.bi_d_ledger F)) (fun d_ledger => ?_)
    (case a => k_is)
    (case l => k_is)
    (case c => k_is)
    (case k => k_is)
    refine' NA.thenp (NA.defC_mk (x := "count_partitions") (st := NA.sCountP) (ps := ["family"]) KX G ?a ?l ?c ?k (fun _ F => NA.bi_d_count_partitions F)) (fun d_count_partitions => ?_)
    (case a => k_is)
    (case l => k_is)
    (case c => k_is)
    (case k => k_is)
    refine' NA.thenp (NA.defC_mk (x := "parity") (st := NA.sParity) (ps := ["family"]) KX G ?a ?l ?c ?k (fun _ F => NA.bi_d_parity F)) (fun d_parity => ?_)
    (case a => k_is)
    (case l => k_is)
    (case c => k_is)
    (case k => k_is)
    refine' NA.thenp (NA.defC_mk (x := "walk_choices") (st := NA.sWalk) (ps := ["choices", "tails", "left", "at"]) KX G ?a ?l ?c ?k (fun _ F => NA.bi_d_walk_choices F)) (fun d_walk_choices => ?_)
    (case a => k_is)
    (case l => k_is)
    (case c => k_is)
    (case k => k_is)
    refine' NA.thenp (NA.defC_mk (x := "list_choices") (st := NA.sListC) (ps := ["places", "choices", "most"]) KX G ?a ?l ?c ?k (fun _ F => NA.bi_d_list_choices F)) (fun d_list_choices => ?_)
    (case a => k_is)
    (case l => k_is)
    (case c => k_is)
    (case k => k_is)
    refine' NA.thenp (NA.defC_mk (x := "walk_partitions") (st := NA.sWalkP) (ps := ["family"]) KX G ?a ?l ?c ?k (fun _ F => NA.bi_d_walk_partitions F)) (fun d_walk_partitions => ?_)
    (case a => k_is)
    (case l => k_is)
    (case c => k_is)
    (case k => k_is)
    refine' NA.thenp (NA.defC_mk (x := "_law_same") (st := NA.sSame) (ps := ["_law_actual", "_law_due"]) KX G ?a ?l ?c ?k (fun _ F => NA.bi_d_law_same F)) (fun d_law_same => ?_)
    (case a => k_is)
    (case l => k_is)
    (case c => k_is)
    (case k => k_is)
    refine' NA.thenp (NA.defC_mk (x := "check_ledger") (st := NA.sCheck) (ps := ["family", "told"]) KX G ?a ?l ?c ?k (fun _ F => NA.bi_d_check_ledger F)) (fun d_check_ledger => ?_)
    (case a => k_is)
    (case l => k_is)
    (case c => k_is)
    (case k => k_is)
    refine' NA.thenp (NA.defC_mk (x := "_law_counted") (st := NA.sCounted) (ps := ["_law_family", "_law_rows"]) KX G ?a ?l ?c ?k (fun _ F => NA.bi_d_law_counted F)) (fun d_law_counted => ?_)
    (case a => k_is)
    (case l => k_is)
    (case c => k_is)
    (case k => k_is)
    refine' NA.thenp (NA.defC_mk (x := "_law_listed") (st := NA.sListed) (ps := ["_law_family", "_law_n", "_law_books", "_law_rows"]) KX G ?a ?l ?c ?k (fun _ F => NA.bi_d_law_listed F)) (fun d_law_listed => ?_)
    (case a => k_is)
    (case l => k_is)
    (case c => k_is)
    (case k => k_is)
    refine' NA.thenp (NA.defC_mk (x := "_law_joined") (st := NA.sJoined) (ps := ["_law_family", "_law_n", "_law_sizes_here", "_law_books"]) KX G ?a ?l ?c ?k (fun _ F => NA.bi_d_law_joined F)) (fun d_law_joined => ?_)
    (case a => k_is)
    (case l => k_is)
    (case c => k_is)
    (case k => k_is)
    refine' NA.thenp (NA.defC_mk (x := "_law_family_drawn") (st := NA.sDrawn) (ps := ["_law_script", "_law_n", "_law_base"]) KX G ?a ?l ?c ?k (fun _ F => NA.bi_d_law_family_drawn F)) (fun d_law_family_drawn => ?_)
    (case a => k_is)
    (case l => k_is)
    (case c => k_is)
    (case k => k_is)
    refine' NA.thenp (NA.metB_mk (m := "odd_faces") (qual := "Book.odd_faces") (st := NA.sOdd) (ps := ["self"]) tc ?a ?i ?l ?c ?k (fun _ F => NA.bi_m_CB_odd_faces F)) (fun m_CB_odd_faces => ?_)
    (case a => k_is)
    (case i => k_is)
    (case l => k_is)
    (case c => k_is)
    (case k => k_is)
    refine' NA.thenp (NA.metB_mk (m := "__len__") (qual := "Book.__len__") (st := NA.sBLen) (ps := ["self"]) tc ?a ?i ?l ?c ?k (fun _ F => NA.bi_m_CB_len F)) (fun m_CB_len => ?_)
    (case a => k_is)
    (case i => k_is)
    (case l => k_is)
    (case c => k_is)
    (case k => k_is)
    refine' NA.thenp (NA.metB_mk (m := "__mul__") (qual := "Book.__mul__") (st := NA.sMul) (ps := ["self", "other"]) tc ?a ?i ?l ?c ?k (fun _ F => NA.bi_m_CB_mul F)) (fun m_CB_mul => ?_)
    (case a => k_is)
    (case i => k_is)
    (case l => k_is)
    (case c => k_is)
    (case k => k_is)
    refine' NA.thenp (NA.metF_mk (m := "__iter__") (qual := "Family.__iter__") (st := NA.sFIter) (ps := ["self"]) tc ?a ?i ?l ?c ?k (fun _ F => NA.bi_m_CF_iter F)) (fun m_CF_iter => ?_)
    (case a => k_is)
    (case i => k_is)
    (case l => k_is)
    (case c => k_is)
    (case k => k_is)
    refine' NA.thenp (NA.metF_mk (m := "__getitem__") (qual := "Family.__getitem__") (st := NA.sFGet) (ps := ["self", "at"]) tc ?a ?i ?l ?c ?k (fun _ F => NA.bi_m_CF_getitem F)) (fun m_CF_getitem => ?_)
    (case a => k_is)
    (case i => k_is)
    (case l => k_is)
    (case c => k_is)
    (case k => k_is)
    refine' NA.thenp (NA.metF_mk (m := "replaced") (qual := "Family.replaced") (st := NA.sRepl) (ps := ["self", "at", "book"]) tc ?a ?i ?l ?c ?k (fun _ F => NA.bi_m_CF_replaced F)) (fun m_CF_replaced => ?_)
    (case a => k_is)
    (case i => k_is)
    (case l => k_is)
    (case c => k_is)
    (case k => k_is)
    refine' NA.thenp (NA.iniB_mk (x := "Book") (qual := "Book.__init__") (st := NA.sBInit) (ps := ["self", "places", "size", "rooms"]) KX G tc ?g ?mk ?kc ?a ?i ?l ?c ?k (fun _ F => NA.bi_m_CB_init F)) (fun m_CB_init => ?_)
    (case g => k_is)
    (case mk => k_is)
    (case kc => k_is)
    (case a => k_is)
    (case i => k_is)
    (case l => k_is)
    (case c => k_is)
    (case k => k_is)
    refine' NA.thenp (NA.iniF_mk (x := "Family") (qual := "Family.__init__") (st := NA.sFInit) (ps := ["self", "books"]) KX G tc ?g ?mk ?kc ?a ?i ?l ?c ?k (fun _ F => NA.bi_m_CF_init F)) (fun m_CF_init => ?_)
    (case g => k_is)
    (case mk => k_is)
    (case kc => k_is)
    (case a => k_is)
    (case i => k_is)
    (case l => k_is)
    (case c => k_is)
    (case k => k_is)
    refine' NA.thenp (NA.prpB_mk (m := "is_even") (qual := "Book.is_even") (st := NA.sIsEven) (ps := ["self"]) tc ?a ?g ?t ?r ?l ?c ?k (fun _ F => NA.bi_m_CB_is_even F)) (fun m_CB_is_even => ?_)
    (case a => k_is)
    (case g => k_is)
    (case t => k_is)
    (case r => k_is)
    (case l => k_is)
    (case c => k_is)
    (case k => k_is)
    refine' NA.thenp (NA.funL_mk KX G hmg ?a ?l ?c ?k) (fun fl => ?_)
    (case a => k_is)
    (case l => k_is)
    (case c => k_is)
    (case k => k_is)
    obtain ⟨fd, hb, F⟩ := fl
    exact ⟨fd, hb, fun base _ _ => NA.all_fn F ⟨bl, tc, lp, gfn, d_faces, d_merged, d_complement, d_shuffle_sign, d_room_fault, d_extended_ways, d_law_longer, d_tail_ways, d_count_choices, d_face_counts, d_law_odd_faces, d_law_rooms, d_law_even_rooms, d_law_sizes, d_law_order, d_law_cell, d_law_partitions, d_law_covers, d_ledger, d_count_partitions, d_parity, d_walk_choices, d_list_choices, d_walk_partitions, d_law_same, d_check_ledger, d_law_counted, d_law_listed, d_law_joined, d_law_family_drawn, m_CB_odd_faces, m_CB_len, m_CB_mul, m_CF_iter, m_CF_getitem, m_CF_replaced, m_CB_init, m_CF_init, m_CB_is_even⟩⟩
