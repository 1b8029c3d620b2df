import PyProof.Rows.All
import Wide.All
import OpenK.AllK
import Wide.FinOn
import HandS.ForMost
import HandS.ForExc
import HandS.Walk
import HandS.Gcd
import HandS.Wide
import HandS.IsInst
import HandS.Style
import HandS.SortInts
import HandS.TupLe
import HandS.TryOnly
import HandS.ExcOwn
import HandS.ExcValue
import HandS.ExcIs
import HandS.SetFor
import HandS.Strs
import HandS.Text
import KE.GoesEnum
import KE.GoesMore
import KE.KRevSl
import HandS.Defaults
import HandS.HeadHook2
import HandS.HeadEnd
import HandS.HeadHook4
import HandS.Head2
import HandS.Words
import PySem.Challenge.RW_wholefurther_k76_whole_common_divisors_o
set_option Elab.async false
set_option linter.all false
set_option maxRecDepth 100000
set_option maxHeartbeats 4000000
/-! TL1: cells, states, results; what stays. -/
namespace TL
open PySem L2

abbrev D := PyData
abbrev St := L2.St

/-! ### data over a heap that grows -/
theorem sqt_mono {K : PySem.W.Frag} {H H' : Hp} {a : Addr} {xs : List V} (e : Same H H') (h : SqT K H a xs) : SqT K H' a xs := by
  rcases h with (h | ⟨o, h⟩) | h
  · exact .inl (.inl (e _ _ h))
  · exact .inl (.inr ⟨o, e _ _ h⟩)
  · exact .inr h
theorem rd_mono {H H' : Hp} {a : Addr} {u : HO} (e : Same H H') (h : Rd H a u) : Rd H' a u := by
  rcases h with h | ⟨o, h⟩
  · exact .inl (e _ _ h)
  · exact .inr ⟨o, e _ _ h⟩
/-! v stands for d in H: none, bools, ints, texts, lists (tracked or locked), tuples (these, or written ones) -/
mutual
inductive Tp (K : PySem.W.Frag) (H : Hp) : V → PyData → Prop
  | non : Tp K H .non .none
  | bl (b : Bool) : Tp K H (.bl b) (.bool b)
  | int (i : Int) : Tp K H (.int i) (.int i)
  | str (x : Str) : Tp K H (.str x) (.str x)
  | lst {a : Addr} {xs : List V} {ds : List PyData} : Rd H a (.lst xs) → TpAll K H xs ds → Tp K H (.ref a) (.list ds)
  | tup {a : Addr} {xs : List V} {ds : List PyData} : SqT K H a xs → TpAll K H xs ds → Tp K H (.ref a) (.tuple ds)
inductive TpAll (K : PySem.W.Frag) (H : Hp) : List V → List PyData → Prop
  | nil : TpAll K H [] []
  | cons {v : V} {vs : List V} {d : PyData} {ds : List PyData} : Tp K H v d → TpAll K H vs ds → TpAll K H (v :: vs) (d :: ds)
end
section
variable {K : PySem.W.Frag} {G H : Hp}
mutual
theorem Tp.dp : ∀ (d : PyData) (v : V), Tp K G v d → Dp K G v d
  | .none, _, h => by cases h; exact .non
  | .bool b, _, h => by cases h; exact .bl b
  | .int i, _, h => by cases h; exact .int i
  | .str x, _, h => by cases h; exact .str x
  | .list ds, _, h => by
    cases h with
    | lst hs ha => exact .lst (.inl hs) (TpAll.dp ds _ ha)
  | .tuple ds, _, h => by
    cases h with
    | tup hs ha => exact .tup hs (TpAll.dp ds _ ha)
  | .dict _, _, h => by cases h
theorem TpAll.dp : ∀ (ds : List PyData) (vs : List V), TpAll K G vs ds → DpAll K G vs ds
  | [], _, h => by cases h; exact .nil
  | d :: ds, _, h => by
    cases h with
    | cons h1 h2 => exact .cons (Tp.dp d _ h1) (TpAll.dp ds _ h2)
end
mutual
theorem tp_mono (e : Same G H) : ∀ (d : PyData) (v : V), Tp K G v d → Tp K H v d
  | .none, _, h => by cases h; exact .non
  | .bool b, _, h => by cases h; exact .bl b
  | .int i, _, h => by cases h; exact .int i
  | .str x, _, h => by cases h; exact .str x
  | .list ds, _, h => by
    cases h with
    | lst hs ha => exact .lst (rd_mono e hs) (tpAll_mono e ds _ ha)
  | .tuple ds, _, h => by
    cases h with
    | tup hs ha => exact .tup (sqt_mono e hs) (tpAll_mono e ds _ ha)
  | .dict _, _, h => by cases h
theorem tpAll_mono (e : Same G H) : ∀ (ds : List PyData) (vs : List V), TpAll K G vs ds → TpAll K H vs ds
  | [], _, h => by cases h; exact .nil
  | d :: ds, _, h => by
    cases h with
    | cons h1 h2 => exact .cons (tp_mono e d _ h1) (tpAll_mono e ds _ h2)
end
theorem TpAll.length {vs : List V} {ds : List D} (h : TpAll K G vs ds) : vs.length = ds.length := by
  induction ds generalizing vs with
  | nil => cases h; rfl
  | cons d ds ih => cases h with | cons h1 h2 => simp [ih h2]
theorem TpAll.get {vs : List V} {ds : List D} (h : TpAll K G vs ds) {i : Nat} {d : D} (e : ds[i]? = some d) : ∃ v, vs[i]? = some v ∧ Tp K G v d := by
  induction ds generalizing vs i with
  | nil => simp at e
  | cons d' ds ih =>
    cases h with
    | cons h1 h2 =>
      cases i with
      | zero => simp at e; subst e; exact ⟨_, rfl, h1⟩
      | succ i => simpa using ih h2 (by simpa using e)
theorem TpAll.getV {vs : List V} {ds : List D} (h : TpAll K G vs ds) {i : Nat} {v : V} (e : vs[i]? = some v) : ∃ d, ds[i]? = some d ∧ Tp K G v d := by
  induction ds generalizing vs i with
  | nil => cases h; simp at e
  | cons d' ds ih =>
    cases h with
    | cons h1 h2 =>
      cases i with
      | zero => simp at e; subst e; exact ⟨_, rfl, h1⟩
      | succ i => simpa using ih h2 (by simpa using e)
theorem TpAll.append {vs ws : List V} {ds es : List D} (h : TpAll K G vs ds) (h' : TpAll K G ws es) : TpAll K G (vs ++ ws) (ds ++ es) := by
  induction ds generalizing vs with
  | nil => cases h; exact h'
  | cons d ds ih => cases h with | cons h1 h2 => exact .cons h1 (ih h2)
theorem TpAll.take {vs : List V} {ds : List D} (h : TpAll K G vs ds) (n : Nat) : TpAll K G (vs.take n) (ds.take n) := by
  induction ds generalizing vs n with
  | nil => cases h; simp; exact .nil
  | cons d ds ih => cases h with | cons h1 h2 => cases n with
    | zero => simp; exact .nil
    | succ n => simp; exact .cons h1 (ih h2 n)
theorem TpAll.drop {vs : List V} {ds : List D} (h : TpAll K G vs ds) (n : Nat) : TpAll K G (vs.drop n) (ds.drop n) := by
  induction ds generalizing vs n with
  | nil => cases h; simp; exact .nil
  | cons d ds ih => cases h with | cons h1 h2 => cases n with
    | zero => simp; exact .cons h1 h2
    | succ n => simp; exact ih h2 n
theorem TpAll.reverse {vs : List V} {ds : List D} (h : TpAll K G vs ds) : TpAll K G vs.reverse ds.reverse := by
  induction ds generalizing vs with
  | nil => cases h; exact .nil
  | cons d ds ih => cases h with | cons h1 h2 => simp; exact (ih h2).append (.cons h1 .nil)
theorem TpAll.set {vs : List V} {ds : List D} (h : TpAll K G vs ds) (i : Nat) {v : V} {d : D} (hv : Tp K G v d) : TpAll K G (vs.set i v) (ds.set i d) := by
  induction ds generalizing vs i with
  | nil => cases h; exact .nil
  | cons d' ds ih => cases h with | cons h1 h2 => cases i with
    | zero => exact .cons hv h2
    | succ i => exact .cons h1 (ih h2 i)
theorem TpAll.eraseIdx {vs : List V} {ds : List D} (h : TpAll K G vs ds) (i : Nat) : TpAll K G (vs.eraseIdx i) (ds.eraseIdx i) := by
  induction ds generalizing vs i with
  | nil => cases h; exact .nil
  | cons d' ds ih => cases h with | cons h1 h2 => cases i with
    | zero => exact h2
    | succ i => exact .cons h1 (ih h2 i)
theorem TpAll.rep {vs : List V} {ds : List D} (h : TpAll K G vs ds) : ∀ k : Nat, TpAll K G (List.replicate k vs).flatten (List.replicate k ds).flatten
  | 0 => .nil
  | k + 1 => by rw [List.replicate_succ, List.replicate_succ, List.flatten_cons, List.flatten_cons]; exact h.append (h.rep k)
theorem tpAll_ints {ns : List Int} : ∀ {vs : List V}, TpAll K G vs (ns.map PyData.int) → vs = ns.map V.int := by
  induction ns with
  | nil => intro vs h; cases h; rfl
  | cons n ns ih => intro vs h; cases h with | cons h1 h2 => cases h1; rw [ih h2]; rfl
theorem tpAll_of_ints {ns : List Int} : TpAll K G (ns.map V.int) (ns.map PyData.int) := by
  induction ns with
  | nil => exact .nil
  | cons n ns ih => exact .cons (.int n) ih
theorem tpAll_bools {ns : List Bool} : ∀ {vs : List V}, TpAll K G vs (ns.map PyData.bool) → vs = ns.map V.bl := by
  induction ns with
  | nil => intro vs h; cases h; rfl
  | cons n ns ih => intro vs h; cases h with | cons h1 h2 => cases h1; rw [ih h2]; rfl
theorem tpAll_strs {ns : List Str} : ∀ {vs : List V}, TpAll K G vs (ns.map PyData.str) → vs = ns.map V.str := by
  induction ns with
  | nil => intro vs h; cases h; rfl
  | cons n ns ih => intro vs h; cases h with | cons h1 h2 => cases h1; rw [ih h2]; rfl
theorem tpAll_of_strs {ns : List Str} : TpAll K G (ns.map V.str) (ns.map PyData.str) := by
  induction ns with
  | nil => exact .nil
  | cons n ns ih => exact .cons (.str n) ih
end

/-! ### cells -/
/-- un: nothing is known. da: data that never changes again. ol: a list of the def's own. bw: the own list in slot i, looked at. ex: a caught exception of the class so named -/
inductive Cell where
  | un | da (d : D) | ol (ds : List D) | bw (i : Nat) | ex (nm : Str)
def Cell.own : Cell → Bool
  | .ol _ => true
  | _ => false
structure Err where
  nm : Str
  fld : Option (Str × D)
/-- the written part, the classes' addresses by their names -/
structure Th where
  K : PySem.W.Frag
  ca : Str → Addr
/-- a caught exception of a class, as a value -/
def ExV (cls : Value) (a : Addr) : HO := .ext fun h => ∃ (oe : Obj) (vs : Array Value), h.get? a = some oe ∧ Zc cls none oe ∧ oe.data = .fields vs

def CAt (T : Th) (σ : St) (G H : Hp) (c : Cell) (o : Option (Option V)) : Prop := match c with
  | .un => True
  | .da d => ∃ v, o = some (some v) ∧ Tp T.K G v d
  | .ol ds => ∃ p vs, o = some (some (.ref p)) ∧ G p = none ∧ H p = some (.lst vs) ∧ TpAll T.K G vs ds
  | .bw i => o = σ[i]?
  | .ex nm => ∃ a, o = some (some (.ref a)) ∧ G a = some (ExV (.ref (T.ca nm)) a)
def Own (σ : St) (cs : List Cell) (p : Addr) : Prop := ∃ (i : Nat) (c : Cell), cs[i]? = some c ∧ c.own = true ∧ σ[i]? = some (some (.ref p))
/-- slots against cells -/
structure SRel (T : Th) (σ : St) (cs : List Cell) (G H : Hp) : Prop where
  len : σ.length = cs.length
  ex : Same G H
  at_ : ∀ (i : Nat) (c : Cell), cs[i]? = some c → CAt T σ G H c (σ[i]?)
  nobw : ∀ (i j : Nat), cs[i]? ≠ some (.bw j)
  sep : ∀ (i j : Nat) (p : Addr) (ci cj : Cell), i ≠ j → cs[i]? = some ci → cs[j]? = some cj → ci.own = true → cj.own = true → σ[i]? = some (some (.ref p)) → σ[j]? ≠ some (some (.ref p))
/-- from one state to a later one -/
structure Nxt (np : Nat) (σ : St) (cs : List Cell) (G H : Hp) (σ' : St) (cs' : List Cell) (G' H' : Hp) : Prop where
  ex : Same G G'
  new : ∀ p, G p = none → G' p ≠ none → H p = none ∨ Own σ cs p
  keep : ∀ p o, H p = some o → ¬ Own σ cs p → H' p = some o
  own : ∀ p, Own σ' cs' p → Own σ cs p ∨ H p = none
  dom : ∀ p, H p ≠ none → H' p ≠ none
  par : ∀ (i : Nat) (p : Addr) (c : Cell), i < np → cs[i]? = some c → c.own = true → σ[i]? = some (some (.ref p)) → σ'[i]? = some (some (.ref p)) ∧ ∃ c', cs'[i]? = some c' ∧ c'.own = true
/-- a value against its cell; H0: the heap ahead of it -/
def VAt (T : Th) (σ : St) (cs : List Cell) (G H0 H : Hp) (c : Cell) (v : V) : Prop :=
  CAt T σ G H c (some (some v)) ∧ (c.own = true → ∀ p, v = .ref p → ¬ Own σ cs p ∧ H0 p = none)
/-- a value that is handed back: what is own of it is new, or was own at the start -/
def RVAt (T : Th) (σ : St) (cs : List Cell) (H : Hp) (σ' : St) (cs' : List Cell) (G' H' : Hp) (c : Cell) (v : V) : Prop :=
  CAt T σ' G' H' c (some (some v)) ∧ (c.own = true → ∀ p, v = .ref p → ¬ Own σ' cs' p ∧ (H p = none ∨ Own σ cs p))
def ErrAt (T : Th) (G H : Hp) (e : Err) (d : Option Addr) : Prop := match e.fld with
  | none => d = none
  | some (f, x) => ∃ a v, d = some a ∧ H a = some (.xd [(f, v)]) ∧ Tp T.K G v x

section
variable {T : Th} {np : Nat} {σ σ1 σ2 : St} {cs cs1 cs2 : List Cell} {G G1 G2 H H0 H1 H2 : Hp}
theorem Nxt.refl : Nxt np σ cs G H σ cs G H :=
  ⟨Same.refl _, fun _ a b => absurd a b, fun _ _ h _ => h, fun _ h => .inl h, fun _ h => h, fun i p c _ h1 h2 h3 => ⟨h3, c, h1, h2⟩⟩
theorem Nxt.back (a : Nxt np σ cs G H σ1 cs1 G1 H1) {p : Addr} (h : H1 p = none) : H p = none := by
  cases e : H p with
  | none => rfl
  | some o => exact absurd h (a.dom p (by rw [e]; simp))
theorem Nxt.trans (a : Nxt np σ cs G H σ1 cs1 G1 H1) (b : Nxt np σ1 cs1 G1 H1 σ2 cs2 G2 H2) : Nxt np σ cs G H σ2 cs2 G2 H2 := by
  refine ⟨a.ex.trans b.ex, fun p h1 h2 => ?_, fun p o h1 h2 => ?_, fun p h => ?_, fun p h => b.dom p (a.dom p h), fun i p c hi h1 h2 h3 => ?_⟩
  · by_cases e : G1 p = none
    · rcases b.new p e h2 with h | h
      · exact .inl (a.back h)
      · exact (a.own p h).symm
    · exact a.new p h1 e
  · refine b.keep p o (a.keep p o h1 h2) fun h => ?_
    rcases a.own p h with h | h
    · exact h2 h
    · rw [h1] at h; cases h
  · rcases b.own p h with h | h
    · exact a.own p h
    · exact .inr (a.back h)
  · obtain ⟨e1, c', e2, e3⟩ := a.par i p c hi h1 h2 h3
    exact b.par i p c' hi e2 e3 e1
theorem own_ref {c : Cell} {o : Option (Option V)} (h : CAt T σ G H c o) (ho : c.own = true) : ∃ p, o = some (some (.ref p)) ∧ G p = none ∧ H p ≠ none := by
  cases c with
  | ol ds => obtain ⟨p, vs, e, g, h, _⟩ := h; exact ⟨p, e, g, by rw [h]; simp⟩
  | un => cases ho
  | da d => cases ho
  | bw i => cases ho
  | ex nm => cases ho
theorem SRel.own_no (R : SRel T σ cs G H) {p : Addr} (h : Own σ cs p) : G p = none ∧ H p ≠ none := by
  obtain ⟨i, c, h1, h2, h3⟩ := h
  obtain ⟨q, e, g, k⟩ := own_ref (R.at_ i c h1) h2
  rw [h3] at e
  cases e
  exact ⟨g, k⟩
/-- a value stays what it is -/
theorem VAt.on {c : Cell} {v : V} (h : VAt T σ cs G H0 H c v) (n : Nxt np σ cs G H σ cs1 G1 H1) : VAt T σ cs1 G1 H0 H1 c v := by
  obtain ⟨h, f⟩ := h
  cases c with
  | un => exact ⟨trivial, fun z => nomatch z⟩
  | da d =>
    obtain ⟨w, e, h⟩ := h
    exact ⟨⟨w, e, tp_mono n.ex d w h⟩, fun z => nomatch z⟩
  | bw i => exact ⟨h, fun z => nomatch z⟩
  | ex nm =>
    obtain ⟨a, e, h⟩ := h
    exact ⟨⟨a, e, n.ex _ _ h⟩, fun z => nomatch z⟩
  | ol ds =>
    obtain ⟨p, vs, e, g, h, k⟩ := h
    cases e
    obtain ⟨f1, f2⟩ := f rfl p rfl
    have hp : H1 p = some (.lst vs) := n.keep p _ h f1
    refine ⟨⟨p, vs, rfl, ?_, hp, tpAll_mono n.ex ds vs k⟩, fun _ q e => ?_⟩
    · cases z : G1 p with
      | none => rfl
      | some o =>
        rcases n.new p g (by rw [z]; simp) with q | q
        · rw [h] at q; cases q
        · exact absurd q f1
    · cases e
      refine ⟨fun q => ?_, f2⟩
      rcases n.own p q with q | q
      · exact f1 q
      · rw [h] at q; cases q
/-- where the start of the evaluation lies further back -/
theorem VAt.since {c : Cell} {v : V} (h : VAt T σ cs G H1 H2 c v) (b : ∀ p, H1 p = none → H p = none) : VAt T σ cs G H H2 c v :=
  ⟨h.1, fun ho p e => ⟨(h.2 ho p e).1, b p (h.2 ho p e).2⟩⟩
end

/-! ### results -/
inductive ER where
  | val (c : Cell) (cs : List Cell) | err (e : Err) (cs : List Cell) | bad
def ER.bind (r : ER) (k : Cell → List Cell → ER) : ER := match r with
  | .val c cs => k c cs
  | .err e cs => .err e cs
  | .bad => .bad
@[simp] theorem ER.bind_val (c : Cell) (cs : List Cell) (k : Cell → List Cell → ER) : (ER.val c cs).bind k = k c cs := rfl
@[simp] theorem ER.bind_err (e : Err) (cs : List Cell) (k : Cell → List Cell → ER) : (ER.err e cs).bind k = .err e cs := rfl
@[simp] theorem ER.bind_bad (k : Cell → List Cell → ER) : ER.bad.bind k = .bad := rfl
inductive TR where
  | val (b : Bool) (cs : List Cell) | err (e : Err) (cs : List Cell) | bad
def TR.bind (r : TR) (k : Bool → List Cell → TR) : TR := match r with
  | .val c cs => k c cs
  | .err e cs => .err e cs
  | .bad => .bad
@[simp] theorem TR.bind_val (c : Bool) (cs : List Cell) (k : Bool → List Cell → TR) : (TR.val c cs).bind k = k c cs := rfl
@[simp] theorem TR.bind_err (e : Err) (cs : List Cell) (k : Bool → List Cell → TR) : (TR.err e cs).bind k = .err e cs := rfl
@[simp] theorem TR.bind_bad (k : Bool → List Cell → TR) : TR.bad.bind k = .bad := rfl
/-- several values, one after another -/
inductive AR where
  | val (c : List Cell) (cs : List Cell) | err (e : Err) (cs : List Cell) | bad
def AR.bind (r : AR) (k : List Cell → List Cell → AR) : AR := match r with
  | .val c cs => k c cs
  | .err e cs => .err e cs
  | .bad => .bad
@[simp] theorem AR.bind_val (c : List Cell) (cs : List Cell) (k : List Cell → List Cell → AR) : (AR.val c cs).bind k = k c cs := rfl
@[simp] theorem AR.bind_err (e : Err) (cs : List Cell) (k : List Cell → List Cell → AR) : (AR.err e cs).bind k = .err e cs := rfl
@[simp] theorem AR.bind_bad (k : List Cell → List Cell → AR) : AR.bad.bind k = .bad := rfl
inductive SR where
  | nx (cs : List Cell) | rt (c : Cell) (cs : List Cell) | bk (cs : List Cell) | ct (cs : List Cell) | err (e : Err) (cs : List Cell) | bad
def SR.bind (r : SR) (k : List Cell → SR) : SR := match r with
  | .nx cs => k cs
  | r => r
@[simp] theorem SR.bind_nx (cs : List Cell) (k : List Cell → SR) : (SR.nx cs).bind k = k cs := rfl
@[simp] theorem SR.bind_rt (c : Cell) (cs : List Cell) (k : List Cell → SR) : (SR.rt c cs).bind k = .rt c cs := rfl
@[simp] theorem SR.bind_bk (cs : List Cell) (k : List Cell → SR) : (SR.bk cs).bind k = .bk cs := rfl
@[simp] theorem SR.bind_ct (cs : List Cell) (k : List Cell → SR) : (SR.ct cs).bind k = .ct cs := rfl
@[simp] theorem SR.bind_err (e : Err) (cs : List Cell) (k : List Cell → SR) : (SR.err e cs).bind k = .err e cs := rfl
@[simp] theorem SR.bind_bad (k : List Cell → SR) : SR.bad.bind k = .bad := rfl

/-- the address of an own value among some -/
def OwnV : List Cell → List V → Addr → Prop
  | c :: r, v :: vs, p => (c.own = true ∧ v = .ref p) ∨ OwnV r vs p
  | _, _, _ => False
/-- values against their cells; own ones stand apart -/
def VAts (T : Th) (σ : St) (cs : List Cell) (G H0 H : Hp) : List Cell → List V → Prop
  | [], [] => True
  | c :: r, v :: vs => VAt T σ cs G H0 H c v ∧ VAts T σ cs G H0 H r vs ∧ (c.own = true → ∀ p, v = .ref p → ¬ OwnV r vs p)
  | _, _ => False
theorem VAts.fresh {T : Th} {σ : St} {cs : List Cell} {G H0 H : Hp} {p : Addr} : ∀ {c : List Cell} {vs : List V}, VAts T σ cs G H0 H c vs → OwnV c vs p → H0 p = none
  | [], [], _, z => z.elim
  | c :: r, v :: vs, h, z => by
    rcases z with ⟨h1, h2⟩ | z
    · exact (h.1.2 h1 p h2).2
    · exact VAts.fresh h.2.1 z
  | [], _ :: _, h, _ => h.elim
  | _ :: _, [], h, _ => h.elim

section
variable (T : Th) (np : Nat) (W : WX)
def EGood (Q : VK) (σ : St) (cs : List Cell) (G H : Hp) : ER → Prop
  | .val c cs' => ∀ G' H' v, Nxt np σ cs G H σ cs' G' H' → SRel T σ cs' G' H' → VAt T σ cs' G' H H' c v → Q v H'
  | .err e cs' => ∀ G' H' d, Nxt np σ cs G H σ cs' G' H' → SRel T σ cs' G' H' → ErrAt T G' H' e d → W (.ref (T.ca e.nm)) d σ H'
  | .bad => False
def TGood (Q : Bool → Hp → Prop) (σ : St) (cs : List Cell) (G H : Hp) : TR → Prop
  | .val b cs' => ∀ G' H', Nxt np σ cs G H σ cs' G' H' → SRel T σ cs' G' H' → Q b H'
  | .err e cs' => ∀ G' H' d, Nxt np σ cs G H σ cs' G' H' → SRel T σ cs' G' H' → ErrAt T G' H' e d → W (.ref (T.ca e.nm)) d σ H'
  | .bad => False
def AGood (Q : List V → Hp → Prop) (σ : St) (cs : List Cell) (G H : Hp) : AR → Prop
  | .val c cs' => ∀ G' H' vs, Nxt np σ cs G H σ cs' G' H' → SRel T σ cs' G' H' → VAts T σ cs' G' H H' c vs → Q vs H'
  | .err e cs' => ∀ G' H' d, Nxt np σ cs G H σ cs' G' H' → SRel T σ cs' G' H' → ErrAt T G' H' e d → W (.ref (T.ca e.nm)) d σ H'
  | .bad => False
def SGood (D : Ends) (σ : St) (cs : List Cell) (G H : Hp) : SR → Prop
  | .nx cs' => ∀ σ' G' H', Nxt np σ cs G H σ' cs' G' H' → SRel T σ' cs' G' H' → D.nx σ' H'
  | .bk cs' => ∀ σ' G' H', Nxt np σ cs G H σ' cs' G' H' → SRel T σ' cs' G' H' → D.bk σ' H'
  | .ct cs' => ∀ σ' G' H', Nxt np σ cs G H σ' cs' G' H' → SRel T σ' cs' G' H' → D.ct σ' H'
  | .rt c cs' => ∀ σ' G' H' v, Nxt np σ cs G H σ' cs' G' H' → SRel T σ' cs' G' H' → RVAt T σ cs H σ' cs' G' H' c v → D.rt v H'
  | .err e cs' => ∀ σ' G' H' d, Nxt np σ cs G H σ' cs' G' H' → SRel T σ' cs' G' H' → ErrAt T G' H' e d → W (.ref (T.ca e.nm)) d σ' H'
  | .bad => False
def rE (f : List Cell → ER) : TE := fun σ H Q => ∃ cs G, SRel T σ cs G H ∧ EGood T np W Q σ cs G H (f cs)
def rT (f : List Cell → TR) : TT := fun σ H Q => ∃ cs G, SRel T σ cs G H ∧ TGood T np W Q σ cs G H (f cs)
def rA (f : List Cell → AR) : TA := fun σ H Q => ∃ cs G, SRel T σ cs G H ∧ AGood T np W Q σ cs G H (f cs)
def rS (f : List Cell → SR) : TS := fun D σ H => ∃ cs G, SRel T σ cs G H ∧ SGood T np W D σ cs G H (f cs)
end

section
variable {T : Th} {np : Nat} {W : WX} {σ σ1 σ2 : St} {cs cs1 cs2 : List Cell} {G G1 G2 H H0 H1 H2 : Hp}
theorem rE_run {f : List Cell → ER} {Q : VK} (R : SRel T σ cs G H) (g : EGood T np W Q σ cs G H (f cs)) : rE T np W f σ H Q := ⟨cs, G, R, g⟩
theorem rT_run {f : List Cell → TR} {Q : Bool → Hp → Prop} (R : SRel T σ cs G H) (g : TGood T np W Q σ cs G H (f cs)) : rT T np W f σ H Q := ⟨cs, G, R, g⟩
theorem rA_run {f : List Cell → AR} {Q : List V → Hp → Prop} (R : SRel T σ cs G H) (g : AGood T np W Q σ cs G H (f cs)) : rA T np W f σ H Q := ⟨cs, G, R, g⟩
theorem rS_run {f : List Cell → SR} {D : Ends} (R : SRel T σ cs G H) (g : SGood T np W D σ cs G H (f cs)) : rS T np W f D σ H := ⟨cs, G, R, g⟩

/-- from a later state -/
theorem EGood.on {r : ER} {Q : VK} (g : EGood T np W Q σ cs G H r) (n : Nxt np σ cs G H σ cs1 G1 H1) : EGood T np W Q σ cs1 G1 H1 r := by
  cases r with
  | val c cs' => exact fun G' H' v n' R a => g G' H' v (n.trans n') R (a.since fun p => n.back)
  | err e cs' => exact fun G' H' d n' R a => g G' H' d (n.trans n') R a
  | bad => exact g
theorem TGood.on {r : TR} {Q : Bool → Hp → Prop} (g : TGood T np W Q σ cs G H r) (n : Nxt np σ cs G H σ cs1 G1 H1) : TGood T np W Q σ cs1 G1 H1 r := by
  cases r with
  | val c cs' => exact fun G' H' n' R => g G' H' (n.trans n') R
  | err e cs' => exact fun G' H' d n' R a => g G' H' d (n.trans n') R a
  | bad => exact g
theorem VAts.since : ∀ {c : List Cell} {vs : List V}, VAts T σ cs G H1 H2 c vs → (∀ p, H1 p = none → H p = none) → VAts T σ cs G H H2 c vs
  | [], [], _, _ => trivial
  | c :: r, v :: vs, h, b => ⟨h.1.since b, VAts.since h.2.1 b, h.2.2⟩
  | [], _ :: _, h, _ => h.elim
  | _ :: _, [], h, _ => h.elim
theorem VAts.on : ∀ {c : List Cell} {vs : List V}, VAts T σ cs G H0 H c vs → Nxt np σ cs G H σ cs1 G1 H1 → VAts T σ cs1 G1 H0 H1 c vs
  | [], [], _, _ => trivial
  | c :: r, v :: vs, h, n => ⟨h.1.on n, VAts.on h.2.1 n, h.2.2⟩
  | [], _ :: _, h, _ => h.elim
  | _ :: _, [], h, _ => h.elim
theorem AGood.on {r : AR} {Q : List V → Hp → Prop} (g : AGood T np W Q σ cs G H r) (n : Nxt np σ cs G H σ cs1 G1 H1) : AGood T np W Q σ cs1 G1 H1 r := by
  cases r with
  | val c cs' => exact fun G' H' v n' R a => g G' H' v (n.trans n') R (a.since fun p => n.back)
  | err e cs' => exact fun G' H' d n' R a => g G' H' d (n.trans n') R a
  | bad => exact g
theorem SGood.on {r : SR} {D : Ends} (g : SGood T np W D σ cs G H r) (n : Nxt np σ cs G H σ1 cs1 G1 H1) : SGood T np W D σ1 cs1 G1 H1 r := by
  cases r with
  | nx cs' => exact fun σ' G' H' n' R => g σ' G' H' (n.trans n') R
  | bk cs' => exact fun σ' G' H' n' R => g σ' G' H' (n.trans n') R
  | ct cs' => exact fun σ' G' H' n' R => g σ' G' H' (n.trans n') R
  | rt c cs' => exact fun σ' G' H' v n' R a => g σ' G' H' v (n.trans n') R ⟨a.1, fun ho p e => ⟨(a.2 ho p e).1, by
      rcases (a.2 ho p e).2 with h | h
      · exact .inl (n.back h)
      · exact (n.own p h).symm⟩⟩
  | err e cs' => exact fun σ' G' H' d n' R a => g σ' G' H' d (n.trans n') R a
  | bad => exact g

end
/-- an expression's value handed to a test -/
def ER.toT (r : ER) (k : Cell → List Cell → TR) : TR := match r with
  | .val c cs => k c cs
  | .err e cs => .err e cs
  | .bad => .bad
@[simp] theorem ER.toT_val (c : Cell) (cs : List Cell) (k : Cell → List Cell → TR) : (ER.val c cs).toT k = k c cs := rfl
@[simp] theorem ER.toT_err (e : Err) (cs : List Cell) (k : Cell → List Cell → TR) : (ER.err e cs).toT k = .err e cs := rfl
@[simp] theorem ER.toT_bad (k : Cell → List Cell → TR) : ER.bad.toT k = .bad := rfl
def ER.toS (r : ER) (k : Cell → List Cell → SR) : SR := match r with
  | .val c cs => k c cs
  | .err e cs => .err e cs
  | .bad => .bad
@[simp] theorem ER.toS_val (c : Cell) (cs : List Cell) (k : Cell → List Cell → SR) : (ER.val c cs).toS k = k c cs := rfl
@[simp] theorem ER.toS_err (e : Err) (cs : List Cell) (k : Cell → List Cell → SR) : (ER.err e cs).toS k = .err e cs := rfl
@[simp] theorem ER.toS_bad (k : Cell → List Cell → SR) : ER.bad.toS k = .bad := rfl
def ER.toA (r : ER) (k : Cell → List Cell → AR) : AR := match r with
  | .val c cs => k c cs
  | .err e cs => .err e cs
  | .bad => .bad
@[simp] theorem ER.toA_val (c : Cell) (cs : List Cell) (k : Cell → List Cell → AR) : (ER.val c cs).toA k = k c cs := rfl
@[simp] theorem ER.toA_err (e : Err) (cs : List Cell) (k : Cell → List Cell → AR) : (ER.err e cs).toA k = .err e cs := rfl
@[simp] theorem ER.toA_bad (k : Cell → List Cell → AR) : ER.bad.toA k = .bad := rfl
def TR.toE (r : TR) (k : Bool → List Cell → ER) : ER := match r with
  | .val c cs => k c cs
  | .err e cs => .err e cs
  | .bad => .bad
@[simp] theorem TR.toE_val (c : Bool) (cs : List Cell) (k : Bool → List Cell → ER) : (TR.val c cs).toE k = k c cs := rfl
@[simp] theorem TR.toE_err (e : Err) (cs : List Cell) (k : Bool → List Cell → ER) : (TR.err e cs).toE k = .err e cs := rfl
@[simp] theorem TR.toE_bad (k : Bool → List Cell → ER) : TR.bad.toE k = .bad := rfl
def TR.toS (r : TR) (k : Bool → List Cell → SR) : SR := match r with
  | .val c cs => k c cs
  | .err e cs => .err e cs
  | .bad => .bad
@[simp] theorem TR.toS_val (c : Bool) (cs : List Cell) (k : Bool → List Cell → SR) : (TR.val c cs).toS k = k c cs := rfl
@[simp] theorem TR.toS_err (e : Err) (cs : List Cell) (k : Bool → List Cell → SR) : (TR.err e cs).toS k = .err e cs := rfl
@[simp] theorem TR.toS_bad (k : Bool → List Cell → SR) : TR.bad.toS k = .bad := rfl
def AR.toE (r : AR) (k : List Cell → List Cell → ER) : ER := match r with
  | .val c cs => k c cs
  | .err e cs => .err e cs
  | .bad => .bad
@[simp] theorem AR.toE_val (c : List Cell) (cs : List Cell) (k : List Cell → List Cell → ER) : (AR.val c cs).toE k = k c cs := rfl
@[simp] theorem AR.toE_err (e : Err) (cs : List Cell) (k : List Cell → List Cell → ER) : (AR.err e cs).toE k = .err e cs := rfl
@[simp] theorem AR.toE_bad (k : List Cell → List Cell → ER) : AR.bad.toE k = .bad := rfl
def AR.toS (r : AR) (k : List Cell → List Cell → SR) : SR := match r with
  | .val c cs => k c cs
  | .err e cs => .err e cs
  | .bad => .bad
@[simp] theorem AR.toS_val (c : List Cell) (cs : List Cell) (k : List Cell → List Cell → SR) : (AR.val c cs).toS k = k c cs := rfl
@[simp] theorem AR.toS_err (e : Err) (cs : List Cell) (k : List Cell → List Cell → SR) : (AR.err e cs).toS k = .err e cs := rfl
@[simp] theorem AR.toS_bad (k : List Cell → List Cell → SR) : AR.bad.toS k = .bad := rfl
section
variable {T : Th} {np : Nat} {W : WX} {σ σ1 σ2 : St} {cs cs1 cs2 : List Cell} {G G1 G2 H H0 H1 H2 : Hp}
theorem TGood.imp {r : TR} {Q Q' : Bool → Hp → Prop} (g : TGood T np W Q σ cs G H r) (k : ∀ b H, Q b H → Q' b H) : TGood T np W Q' σ cs G H r := by
  cases r with
  | val c cs' => exact fun G' H' n R => k _ _ (g G' H' n R)
  | err e cs' => exact g
  | bad => exact g
theorem EGood.bind {r : ER} {k : Cell → List Cell → ER} {Q Q' : VK} (g : EGood T np W Q σ cs G H (r.bind k)) (n : Nxt np σ cs G H σ cs1 G1 H1)
    (hk : ∀ c cs' G' H' v, Nxt np σ cs1 G1 H1 σ cs' G' H' → SRel T σ cs' G' H' → VAt T σ cs' G' H1 H' c v → EGood T np W Q σ cs G H (k c cs') → Q' v H') : EGood T np W Q' σ cs1 G1 H1 r := by
  cases r with
  | val c cs' => exact fun G' H' v m R a => hk c cs' G' H' v m R a g
  | err e cs' => exact fun G' H' d m R a => g G' H' d (n.trans m) R a
  | bad => exact g
theorem TGood.toT {r : ER} {k : Cell → List Cell → TR} {Q : Bool → Hp → Prop} {Q' : VK} (g : TGood T np W Q σ cs G H (r.toT k)) (n : Nxt np σ cs G H σ cs1 G1 H1)
    (hk : ∀ c cs' G' H' v, Nxt np σ cs1 G1 H1 σ cs' G' H' → SRel T σ cs' G' H' → VAt T σ cs' G' H1 H' c v → TGood T np W Q σ cs G H (k c cs') → Q' v H') : EGood T np W Q' σ cs1 G1 H1 r := by
  cases r with
  | val c cs' => exact fun G' H' v m R a => hk c cs' G' H' v m R a g
  | err e cs' => exact fun G' H' d m R a => g G' H' d (n.trans m) R a
  | bad => exact g
theorem SGood.toS {r : ER} {k : Cell → List Cell → SR} {D : Ends} {Q' : VK} (g : SGood T np W D σ cs G H (r.toS k)) (n : Nxt np σ cs G H σ cs1 G1 H1)
    (hk : ∀ c cs' G' H' v, Nxt np σ cs1 G1 H1 σ cs' G' H' → SRel T σ cs' G' H' → VAt T σ cs' G' H1 H' c v → SGood T np W D σ cs G H (k c cs') → Q' v H') : EGood T np W Q' σ cs1 G1 H1 r := by
  cases r with
  | val c cs' => exact fun G' H' v m R a => hk c cs' G' H' v m R a g
  | err e cs' => exact fun G' H' d m R a => g σ G' H' d (n.trans m) R a
  | bad => exact g
theorem AGood.toA {r : ER} {k : Cell → List Cell → AR} {Q : List V → Hp → Prop} {Q' : VK} (g : AGood T np W Q σ cs G H (r.toA k)) (n : Nxt np σ cs G H σ cs1 G1 H1)
    (hk : ∀ c cs' G' H' v, Nxt np σ cs1 G1 H1 σ cs' G' H' → SRel T σ cs' G' H' → VAt T σ cs' G' H1 H' c v → AGood T np W Q σ cs G H (k c cs') → Q' v H') : EGood T np W Q' σ cs1 G1 H1 r := by
  cases r with
  | val c cs' => exact fun G' H' v m R a => hk c cs' G' H' v m R a g
  | err e cs' => exact fun G' H' d m R a => g G' H' d (n.trans m) R a
  | bad => exact g
theorem AGood.bind {r : AR} {k : List Cell → List Cell → AR} {Q Q' : List V → Hp → Prop} (g : AGood T np W Q σ cs G H (r.bind k)) (n : Nxt np σ cs G H σ cs1 G1 H1)
    (hk : ∀ c cs' G' H' v, Nxt np σ cs1 G1 H1 σ cs' G' H' → SRel T σ cs' G' H' → VAts T σ cs' G' H1 H' c v → AGood T np W Q σ cs G H (k c cs') → Q' v H') : AGood T np W Q' σ cs1 G1 H1 r := by
  cases r with
  | val c cs' => exact fun G' H' v m R a => hk c cs' G' H' v m R a g
  | err e cs' => exact fun G' H' d m R a => g G' H' d (n.trans m) R a
  | bad => exact g
theorem TGood.bind {r : TR} {k : Bool → List Cell → TR} {Q Q' : Bool → Hp → Prop} (g : TGood T np W Q σ cs G H (r.bind k)) (n : Nxt np σ cs G H σ cs1 G1 H1)
    (hk : ∀ b cs' G' H', Nxt np σ cs1 G1 H1 σ cs' G' H' → SRel T σ cs' G' H' → TGood T np W Q σ cs G H (k b cs') → Q' b H') : TGood T np W Q' σ cs1 G1 H1 r := by
  cases r with
  | val c cs' => exact fun G' H' m R => hk c cs' G' H' m R g
  | err e cs' => exact fun G' H' d m R a => g G' H' d (n.trans m) R a
  | bad => exact g
theorem TGood.ofE {r : TR} {k : Bool → List Cell → ER} {Q : VK} {Q' : Bool → Hp → Prop} (g : EGood T np W Q σ cs G H (r.toE k)) (n : Nxt np σ cs G H σ cs1 G1 H1)
    (hk : ∀ b cs' G' H', Nxt np σ cs1 G1 H1 σ cs' G' H' → SRel T σ cs' G' H' → EGood T np W Q σ cs G H (k b cs') → Q' b H') : TGood T np W Q' σ cs1 G1 H1 r := by
  cases r with
  | val c cs' => exact fun G' H' m R => hk c cs' G' H' m R g
  | err e cs' => exact fun G' H' d m R a => g G' H' d (n.trans m) R a
  | bad => exact g
theorem TGood.ofS {r : TR} {k : Bool → List Cell → SR} {D : Ends} {Q' : Bool → Hp → Prop} (g : SGood T np W D σ cs G H (r.toS k)) (n : Nxt np σ cs G H σ cs1 G1 H1)
    (hk : ∀ b cs' G' H', Nxt np σ cs1 G1 H1 σ cs' G' H' → SRel T σ cs' G' H' → SGood T np W D σ cs G H (k b cs') → Q' b H') : TGood T np W Q' σ cs1 G1 H1 r := by
  cases r with
  | val c cs' => exact fun G' H' m R => hk c cs' G' H' m R g
  | err e cs' => exact fun G' H' d m R a => g σ G' H' d (n.trans m) R a
  | bad => exact g
theorem AGood.ofE {r : AR} {k : List Cell → List Cell → ER} {Q : VK} {Q' : List V → Hp → Prop} (g : EGood T np W Q σ cs G H (r.toE k)) (n : Nxt np σ cs G H σ cs1 G1 H1)
    (hk : ∀ b cs' G' H' vs, Nxt np σ cs1 G1 H1 σ cs' G' H' → SRel T σ cs' G' H' → VAts T σ cs' G' H1 H' b vs → EGood T np W Q σ cs G H (k b cs') → Q' vs H') : AGood T np W Q' σ cs1 G1 H1 r := by
  cases r with
  | val c cs' => exact fun G' H' vs m R a => hk c cs' G' H' vs m R a g
  | err e cs' => exact fun G' H' d m R a => g G' H' d (n.trans m) R a
  | bad => exact g
theorem AGood.ofS {r : AR} {k : List Cell → List Cell → SR} {D : Ends} {Q' : List V → Hp → Prop} (g : SGood T np W D σ cs G H (r.toS k)) (n : Nxt np σ cs G H σ cs1 G1 H1)
    (hk : ∀ b cs' G' H' vs, Nxt np σ cs1 G1 H1 σ cs' G' H' → SRel T σ cs' G' H' → VAts T σ cs' G' H1 H' b vs → SGood T np W D σ cs G H (k b cs') → Q' vs H') : AGood T np W Q' σ cs1 G1 H1 r := by
  cases r with
  | val c cs' => exact fun G' H' vs m R a => hk c cs' G' H' vs m R a g
  | err e cs' => exact fun G' H' d m R a => g σ G' H' d (n.trans m) R a
  | bad => exact g
theorem SGood.bind {r : SR} {k : List Cell → SR} {D : Ends} {N : St → Hp → Prop} (g : SGood T np W D σ cs G H (r.bind k))
    (hk : ∀ cs' σ' G' H', Nxt np σ cs G H σ' cs' G' H' → SRel T σ' cs' G' H' → SGood T np W D σ' cs' G' H' (k cs') → N σ' H') : SGood T np W { D with nx := N } σ cs G H r := by
  cases r with
  | nx cs' => exact fun σ' G' H' n R => hk cs' σ' G' H' n R (SGood.on (r := k cs') g n)
  | rt c cs' => exact g
  | bk cs' => exact g
  | ct cs' => exact g
  | err e cs' => exact g
  | bad => exact g
end

/-! ### weakening a rule -/
theorem pe_imp {X : Cx} {e : Expr} {t t' : TE} (h : PE X e t) (k : ∀ σ H Q, t' σ H Q → t σ H Q) : PE X e t' := ⟨fun pins s σ H Q I w => h.run pins s σ H Q I (k σ H Q w)⟩
theorem pt_imp {X : Cx} {e : Expr} {t t' : TT} (h : PT X e t) (k : ∀ σ H Q, t' σ H Q → t σ H Q) : PT X e t' := ⟨fun pins s σ H Q I w => h.run pins s σ H Q I (k σ H Q w)⟩
theorem pw_imp {X : Cx} {e : Expr} {t t' : TT} (h : PW X e t) (k : ∀ σ H Q, t' σ H Q → t σ H Q) : PW X e t' := ⟨fun wh pins s σ H Q I w => h.run wh pins s σ H Q I (k σ H Q w)⟩
theorem pa_imp {X : Cx} {e : List Expr} {t t' : TA} (h : PA X e t) (k : ∀ σ H Q, t' σ H Q → t σ H Q) : PA X e t' := ⟨fun pos pins s σ H Q I w => h.run pos pins s σ H Q I (k σ H Q w)⟩
theorem ps_imp {X : Cx} {e : Stmt} {t t' : TS} (h : PS X e t) (k : ∀ D σ H, t' D σ H → t D σ H) : PS X e t' := ⟨fun pins s σ H D I w => h.run pins s σ H D I (k D σ H w)⟩
theorem pss_imp {X : Cx} {e : List Stmt} {t t' : TS} (h : PSs X e t) (k : ∀ D σ H, t' D σ H → t D σ H) : PSs X e t' := ⟨fun pins s σ H D I w => h.run pins s σ H D I (k D σ H w)⟩
end TL
set_option Elab.async false
set_option linter.all false
set_option maxRecDepth 100000
set_option maxHeartbeats 4000000
/-! TL2: expressions. -/
namespace TL
open PySem L2

/-! ### a value that is looked at -/
def pk (c : Cell) (cs : List Cell) : Option D := match c with
  | .da d => some d
  | .ol ds => some (.list ds)
  | .bw i => match cs[i]? with
    | some (.ol ds) => some (.list ds)
    | _ => none
  | _ => none
@[simp] theorem pk_da (d : D) (cs : List Cell) : pk (.da d) cs = some d := rfl
@[simp] theorem pk_ol (ds : List D) (cs : List Cell) : pk (.ol ds) cs = some (.list ds) := rfl
/-- v stands for d: data, or an own list of data -/
def Pk (K : PySem.W.Frag) (G H : Hp) (v : V) (d : D) : Prop := Tp K G v d ∨ ∃ p vs ds, v = .ref p ∧ d = .list ds ∧ H p = some (.lst vs) ∧ TpAll K G vs ds
inductive PkAll (K : PySem.W.Frag) (G H : Hp) : List V → List D → Prop
  | nil : PkAll K G H [] []
  | cons {v : V} {vs : List V} {d : D} {ds : List D} : Pk K G H v d → PkAll K G H vs ds → PkAll K G H (v :: vs) (d :: ds)
section
variable {T : Th} {np : Nat} {W : WX} {σ σ1 σ2 : St} {cs cs1 cs2 : List Cell} {G G1 G2 G' H H0 H1 H2 H' : Hp} {K : PySem.W.Frag}
theorem pk_at {c : Cell} {v : V} {d : D} (R : SRel T σ cs G H) (h : VAt T σ cs G H0 H c v) (e : pk c cs = some d) : Pk T.K G H v d := by
  obtain ⟨h, _⟩ := h
  cases c with
  | un => cases e
  | ex nm => cases e
  | da d' =>
    cases e
    obtain ⟨w, e, h⟩ := h
    cases e
    exact .inl h
  | ol ds =>
    cases e
    obtain ⟨p, vs, e, g, h, k⟩ := h
    cases e
    exact .inr ⟨p, vs, ds, rfl, rfl, h, k⟩
  | bw i =>
    have e : (match cs[i]? with | some (.ol ds) => some (PyData.list ds) | _ => none) = some d := e
    split at e
    · rename_i ds hc
      cases e
      have h : some (some v) = σ[i]? := h
      obtain ⟨p, vs, e, g, h2, k⟩ := R.at_ i _ hc
      rw [← h] at e
      cases e
      exact .inr ⟨p, vs, ds, rfl, rfl, h2, k⟩
    · cases e
theorem Pk.tp {v : V} {d : D} (e : Same G H) (h : Pk K G H v d) : Tp K H v d := by
  rcases h with h | ⟨p, vs, ds, rfl, rfl, h, k⟩
  · exact tp_mono e d v h
  · exact .lst (Rd.of h) (tpAll_mono e ds vs k)
theorem Pk.int {v : V} {i : Int} (h : Pk K G H v (.int i)) : v = .int i := by
  rcases h with h | ⟨p, vs, ds, _, e, _⟩
  · cases h; rfl
  · cases e
theorem Pk.bool {v : V} {i : Bool} (h : Pk K G H v (.bool i)) : v = .bl i := by
  rcases h with h | ⟨p, vs, ds, _, e, _⟩
  · cases h; rfl
  · cases e
theorem Pk.str {v : V} {i : Str} (h : Pk K G H v (.str i)) : v = .str i := by
  rcases h with h | ⟨p, vs, ds, _, e, _⟩
  · cases h; rfl
  · cases e
theorem Pk.none {v : V} (h : Pk K G H v .none) : v = .non := by
  rcases h with h | ⟨p, vs, ds, _, e, _⟩
  · cases h; rfl
  · cases e
theorem Pk.list {v : V} {ds : List D} (e : Same G H) (h : Pk K G H v (.list ds)) : ∃ p vs, v = .ref p ∧ Rd H p (.lst vs) ∧ TpAll K G vs ds := by
  rcases h with h | ⟨p, vs, ds', rfl, e', h, k⟩
  · cases h with
    | lst hs ha => exact ⟨_, _, rfl, rd_mono e hs, ha⟩
  · cases e'
    exact ⟨p, vs, rfl, Rd.of h, k⟩
theorem Pk.tuple {v : V} {ds : List D} (e : Same G H) (h : Pk K G H v (.tuple ds)) : ∃ p vs, v = .ref p ∧ SqT K H p vs ∧ TpAll K G vs ds := by
  rcases h with h | ⟨p, vs, ds', rfl, e', h, k⟩
  · cases h with
    | tup hs ha => exact ⟨_, _, rfl, sqt_mono e hs, ha⟩
  · cases e'
def pkAll : List Cell → List Cell → Option (List D)
  | [], _ => some []
  | c :: r, cs => match pk c cs, pkAll r cs with
    | some d, some ds => some (d :: ds)
    | _, _ => none
@[simp] theorem pkAll_nil (cs : List Cell) : pkAll [] cs = some [] := rfl
theorem pkAll_at (R : SRel T σ cs G H) : ∀ {c : List Cell} {vs : List V} {ds : List D}, VAts T σ cs G H0 H c vs → pkAll c cs = some ds → PkAll T.K G H vs ds
  | [], [], _, _, e => by cases e; exact .nil
  | c :: r, v :: vs, ds, h, e => by
    unfold pkAll at e
    split at e
    · rename_i d ds' h1 h2
      cases e
      exact .cons (pk_at R h.1 h1) (pkAll_at R h.2.1 h2)
    · cases e
  | [], _ :: _, _, h, _ => h.elim
  | _ :: _, [], _, h, _ => h.elim

/-! ### what an operation on data leaves -/
structure Pure (G H G' H' : Hp) : Prop where
  ex : Same G G'
  up : Same H H'
  in_ : Same G' H'
  new : ∀ q, G q = Option.none → G' q ≠ Option.none → H q = Option.none
theorem Pure.refl (h : Same G H) : Pure G H G H := ⟨Same.refl _, Same.refl _, h, fun _ a b => absurd a b⟩
theorem same_new {p : Addr} {o : HO} (hp : H p = Option.none) : Same H (upd H p o) := fun b u e => by rw [upd_ne (ne_of_none e hp)]; exact e
theorem same_upd2 {p : Addr} {o : HO} (h : Same G H) : Same (upd G p o) (upd H p o) := fun b u e => by
  by_cases hb : b = p
  · subst hb; rw [upd_same] at e ⊢; exact e
  · rw [upd_ne hb] at e ⊢; exact h b u e
theorem Pure.obj {p : Addr} {o : HO} (h : Same G H) (hp : H p = Option.none) : Pure G H (upd G p o) (upd H p o) :=
  ⟨same_new (h.free hp), same_new hp, same_upd2 h, fun q h1 h2 => by
    by_cases hq : q = p
    · rw [hq]; exact hp
    · rw [upd_ne hq] at h2; exact absurd h1 h2⟩
theorem Pure.own {p : Addr} {o : HO} (h : Same G H) (hp : H p = Option.none) : Pure G H G (upd H p o) :=
  ⟨Same.refl _, same_new hp, h.trans (same_new hp), fun _ a b => absurd a b⟩
theorem SRel.pure (R : SRel T σ cs G H) (p : Pure G H G' H') : SRel T σ cs G' H' ∧ Nxt np σ cs G H σ cs G' H' := by
  have on : ∀ q, Own σ cs q → G' q = Option.none := fun q h => by
    obtain ⟨g, k⟩ := R.own_no h
    cases e : G' q with
    | none => rfl
    | some o => exact absurd (p.new q g (by rw [e]; simp)) k
  refine ⟨⟨R.len, p.in_, fun i c hc => ?_, R.nobw, R.sep⟩, ⟨p.ex, fun q a b => .inl (p.new q a b), fun q o h _ => p.up q o h, fun q h => .inl h, fun q h => ?_, fun i q c _ h1 h2 h3 => ⟨h3, c, h1, h2⟩⟩⟩
  · have h := R.at_ i c hc
    cases c with
    | un => trivial
    | da d => obtain ⟨v, e, h⟩ := h; exact ⟨v, e, tp_mono p.ex d v h⟩
    | bw j => exact h
    | ex nm => obtain ⟨a, e, h⟩ := h; exact ⟨a, e, p.ex _ _ h⟩
    | ol ds =>
      obtain ⟨q, vs, e, g, h, k⟩ := h
      exact ⟨q, vs, e, on q ⟨i, _, hc, rfl, e⟩, p.up _ _ h, tpAll_mono p.ex ds vs k⟩
  · cases e : H q with
    | none => exact absurd e h
    | some o => rw [p.up q o e]; simp
/-- a result: data, or a new list -/
def RAt (K : PySem.W.Frag) (G H0 H : Hp) (c : Cell) (v : V) : Prop := match c with
  | .da d => Tp K G v d
  | .ol ds => ∃ p vs, v = .ref p ∧ H0 p = Option.none ∧ G p = Option.none ∧ H p = some (.lst vs) ∧ TpAll K G vs ds
  | _ => False
theorem RAt.vat {c : Cell} {v : V} (R : SRel T σ cs G H) (a : RAt T.K G' H H' c v) : VAt T σ cs G' H H' c v := by
  cases c with
  | da d => exact ⟨⟨v, rfl, a⟩, fun z => nomatch z⟩
  | ol ds =>
    obtain ⟨p, vs, rfl, h0, g, h, k⟩ := a
    exact ⟨⟨p, vs, rfl, g, h, k⟩, fun _ q e => by cases e; exact ⟨fun z => absurd h0 (R.own_no z).2, h0⟩⟩
  | un => exact a.elim
  | bw i => exact a.elim
  | ex nm => exact a.elim
theorem EGood.pure {c : Cell} {v : V} {Q : VK} (R : SRel T σ cs G H) (g : EGood T np W Q σ cs G H (.val c cs)) (p : Pure G H G' H') (a : RAt T.K G' H H' c v) : Q v H' := by
  obtain ⟨R', n⟩ := R.pure (np := np) p
  exact g G' H' v n R' (a.vat R)
end

/-- two values in, by what they stand for -/
def OpD (K : PySem.W.Frag) (r : R2) (p : D → D → Option Cell) : Prop := ∀ (G H : Hp) (v w : V) (a b : D) (c : Cell) (Q : VK), Same G H → Pk K G H v a → Pk K G H w b → p a b = some c →
  (∀ G' H' v', Pure G H G' H' → RAt K G' H H' c v' → Q v' H') → r v w H Q
def UnD (K : PySem.W.Frag) (r : V → Hp → VK → Prop) (p : D → Option Cell) : Prop := ∀ (G H : Hp) (v : V) (a : D) (c : Cell) (Q : VK), Same G H → Pk K G H v a → p a = some c →
  (∀ G' H' v', Pure G H G' H' → RAt K G' H H' c v' → Q v' H') → r v H Q
def CallD (K : PySem.W.Frag) (r : List V → Hp → VK → Prop) (p : List D → Option Cell) : Prop := ∀ (G H : Hp) (vs : List V) (ds : List D) (c : Cell) (Q : VK), Same G H → PkAll K G H vs ds → p ds = some c →
  (∀ G' H' v', Pure G H G' H' → RAt K G' H H' c v' → Q v' H') → r vs H Q
def ofO (o : Option Cell) (cs : List Cell) : ER := match o with
  | some c => .val c cs
  | none => .bad
@[simp] theorem ofO_some (c : Cell) (cs : List Cell) : ofO (some c) cs = .val c cs := rfl
@[simp] theorem ofO_none (cs : List Cell) : ofO none cs = .bad := rfl
def k2 (p : D → D → Option Cell) (a b : Cell) (cs : List Cell) : ER := match pk a cs, pk b cs with
  | some x, some y => ofO (p x y) cs
  | _, _ => .bad
@[simp] theorem k2_da (p : D → D → Option Cell) (a b : D) (cs : List Cell) : k2 p (.da a) (.da b) cs = ofO (p a b) cs := rfl
def k1 (p : D → Option Cell) (a : Cell) (cs : List Cell) : ER := match pk a cs with
  | some x => ofO (p x) cs
  | _ => .bad
@[simp] theorem k1_da (p : D → Option Cell) (a : D) (cs : List Cell) : k1 p (.da a) cs = ofO (p a) cs := rfl
def kn (p : List D → Option Cell) (c : List Cell) (cs : List Cell) : ER := match pkAll c cs with
  | some x => ofO (p x) cs
  | _ => .bad
/-- two operands -/
def e2 (p : D → D → Option Cell) (f g : List Cell → ER) (cs : List Cell) : ER := (f cs).bind fun a cs1 => (g cs1).bind fun b cs2 => k2 p a b cs2
def e1 (p : D → Option Cell) (f : List Cell → ER) (cs : List Cell) : ER := (f cs).bind fun a cs1 => k1 p a cs1
def en (p : List D → Option Cell) (f : List Cell → AR) (cs : List Cell) : ER := (f cs).toE fun a cs1 => kn p a cs1
section
variable {ca : Str → Addr} {np : Nat} {W : WX} {K : PySem.W.Frag} {σ : St} {cs : List Cell} {G H H0 H01 : Hp} {Q : VK}
theorem k2_ok {r : R2} {p : D → D → Option Cell} {a b : Cell} {v w : V} (hp : OpD K r p) (R : SRel ⟨K, ca⟩ σ cs G H) (ha : VAt ⟨K, ca⟩ σ cs G H0 H a v) (hb : VAt ⟨K, ca⟩ σ cs G H01 H b w) (g : EGood ⟨K, ca⟩ np W Q σ cs G H (k2 p a b cs)) : r v w H Q := by
  unfold k2 at g
  split at g
  · rename_i x y h1 h2
    cases e : p x y with
    | none => rw [e] at g; exact g.elim
    | some c =>
      rw [e] at g
      exact hp G H v w x y c Q R.ex (pk_at R ha h1) (pk_at R hb h2) e fun G' H' v' pu a => g.pure R pu a
  · exact g.elim
theorem k1_ok {r : V → Hp → VK → Prop} {p : D → Option Cell} {a : Cell} {v : V} (hp : UnD K r p) (R : SRel ⟨K, ca⟩ σ cs G H) (ha : VAt ⟨K, ca⟩ σ cs G H0 H a v) (g : EGood ⟨K, ca⟩ np W Q σ cs G H (k1 p a cs)) : r v H Q := by
  unfold k1 at g
  split at g
  · rename_i x h1
    cases e : p x with
    | none => rw [e] at g; exact g.elim
    | some c =>
      rw [e] at g
      exact hp G H v x c Q R.ex (pk_at R ha h1) e fun G' H' v' pu a => g.pure R pu a
  · exact g.elim
theorem kn_ok {r : List V → Hp → VK → Prop} {p : List D → Option Cell} {a : List Cell} {vs : List V} (hp : CallD K r p) (R : SRel ⟨K, ca⟩ σ cs G H) (ha : VAts ⟨K, ca⟩ σ cs G H0 H a vs) (g : EGood ⟨K, ca⟩ np W Q σ cs G H (kn p a cs)) : r vs H Q := by
  unfold kn at g
  split at g
  · rename_i x h1
    cases e : p x with
    | none => rw [e] at g; exact g.elim
    | some c =>
      rw [e] at g
      exact hp G H vs x c Q R.ex (pkAll_at R ha h1) e fun G' H' v' pu a => g.pure R pu a
  · exact g.elim
theorem e2_ok {r : R2} {p : D → D → Option Cell} {f g : List Cell → ER} (hp : OpD K r p) : ∀ σ H Q, rE ⟨K, ca⟩ np W (e2 p f g) σ H Q → tOp r (rE ⟨K, ca⟩ np W f) (rE ⟨K, ca⟩ np W g) σ H Q := by
  rintro σ H Q ⟨cs, G, R, h⟩
  refine rE_run R (EGood.bind h .refl fun a cs1 G1 H1 v n1 R1 a1 h1 => ?_)
  exact rE_run R1 (EGood.bind h1 n1 fun b cs2 G2 H2 w n2 R2 a2 h2 => k2_ok hp R2 (a1.on n2) a2 (h2.on (n1.trans n2)))
theorem e1_ok {r : V → Hp → VK → Prop} {p : D → Option Cell} {f : List Cell → ER} (hp : UnD K r p) : ∀ σ H Q, rE ⟨K, ca⟩ np W (e1 p f) σ H Q → tUn r (rE ⟨K, ca⟩ np W f) σ H Q := by
  rintro σ H Q ⟨cs, G, R, h⟩
  exact rE_run R (EGood.bind h .refl fun a cs1 G1 H1 v n1 R1 a1 h1 => k1_ok hp R1 a1 (h1.on n1))
theorem en_ok {r : List V → Hp → VK → Prop} {p : List D → Option Cell} {f : List Cell → AR} (hp : CallD K r p) : ∀ σ H Q, rE ⟨K, ca⟩ np W (en p f) σ H Q → tCB r (rA ⟨K, ca⟩ np W f) σ H Q := by
  rintro σ H Q ⟨cs, G, R, h⟩
  exact rA_run R (AGood.ofE h .refl fun a cs1 G1 H1 v n1 R1 a1 h1 => kn_ok hp R1 a1 (h1.on n1))
end

/-! ### several values -/
def aNil (cs : List Cell) : AR := .val [] cs
def aCons (f : List Cell → ER) (g : List Cell → AR) (cs : List Cell) : AR := (f cs).toA fun c cs1 => (g cs1).bind fun r cs2 => .val (c :: r) cs2
section
variable {X : Cx} {T : Th} {np : Nat} {W : WX} {pos : Pos}
theorem da_nil : PA X [] (rA T np W aNil) := pa_imp pa_nil fun σ H Q ⟨cs, G, R, h⟩ => h G H [] Nxt.refl R trivial
theorem da_cons {e : Expr} {es : List Expr} {f : List Cell → ER} {g : List Cell → AR} (ha : PE X e (rE T np W f)) (hr : PA X es (rA T np W g)) (hs : starEach (e :: es) X.env = (false, eval e X.env) :: starEach es X.env := by rfl) : PA X (e :: es) (rA T np W (aCons f g)) := by
  refine pa_imp (pa_cons ha hr hs) ?_
  rintro σ H Q ⟨cs, G, R, h⟩
  refine rE_run R (AGood.toA h .refl fun c cs1 G1 H1 v n1 R1 a1 h1 => rA_run R1 (AGood.bind h1 n1 fun r cs2 G2 H2 vs n2 R2 a2 h2 => ?_))
  refine h2 G2 H2 (v :: vs) (n1.trans n2) R2 ⟨a1.on n2, a2.since fun p => n1.back, fun ho p e z => ?_⟩
  obtain ⟨q, e', _, hq⟩ := own_ref a1.1 ho
  rw [e] at e'
  cases e'
  exact hq (a2.fresh z)
end
end TL
set_option Elab.async false
set_option linter.all false
set_option maxRecDepth 100000
set_option maxHeartbeats 4000000
/-! TL3: names, constants, tests, operators. -/
namespace TL
open PySem L2

theorem OpR.or {X : Cx} {f : Value → Value → Sem Value} {r r' : R2} (h : OpR X f r) (h' : OpR X f r') : OpR X f (fun x y H Q => r x y H Q ∨ r' x y H Q) := by
  intro pins s σ H x y v u Q I rx ry hh
  rcases hh with hh | hh
  · exact h pins s σ H x y v u Q I rx ry hh
  · exact h' pins s σ H x y v u Q I rx ry hh

/-! ### names and constants -/
def evVar (i : Nat) (cs : List Cell) : ER := match cs[i]? with
  | some (.da d) => .val (.da d) cs
  | some (.ol _) => .val (.bw i) cs
  | some (.ex n) => .val (.ex n) cs
  | _ => .bad
def evC (d : D) (cs : List Cell) : ER := .val (.da d) cs
section
variable {X : Cx} {T : Th} {np : Nat} {W : WX} {pos : Pos}
theorem de_var (i : Nat) {x : Str} (hN : X.N[i]? = some x := by rfl) (hv : Vis X.env.scope x := by first | exact Or.inl rfl | exact Or.inr (Or.inl rfl) | exact Or.inr (Or.inr rfl)) (hd : (x == ("__debug__" : Str)) = false := by decide)
    (hcd : (x == ("__classdict__" : Str)) = false := by decide) : PE X (.Name x pos) (rE T np W (evVar i)) := by
  refine pe_imp (pv i hN hv hd hcd) ?_
  rintro σ H Q ⟨cs, G, R, h⟩
  unfold evVar at h
  split at h
  · rename_i d hc
    obtain ⟨v, e, hv⟩ := R.at_ i _ hc
    exact ⟨v, e, h G H v .refl R ⟨⟨v, rfl, hv⟩, fun z => nomatch z⟩⟩
  · rename_i ds hc
    obtain ⟨p, vs, e, g, hp, k⟩ := R.at_ i _ hc
    exact ⟨_, e, h G H _ .refl R ⟨e.symm, fun z => nomatch z⟩⟩
  · rename_i n hc
    obtain ⟨a, e, ha⟩ := R.at_ i _ hc
    exact ⟨_, e, h G H _ .refl R ⟨⟨a, rfl, ha⟩, fun z => nomatch z⟩⟩
  · exact h.elim
/-- a value that is known, the same in all heaps -/
theorem de_const {e : Expr} {v : V} {d : D} (he : PE X e (tC v)) (hd : ∀ G, Tp T.K G v d) : PE X e (rE T np W (evC d)) := by
  refine pe_imp he ?_
  rintro σ H Q ⟨cs, G, R, h⟩
  exact h G H v .refl R ⟨⟨v, rfl, hd G⟩, fun z => nomatch z⟩
theorem de_int {i j} : PE X (.Constant (.int i) j pos) (rE T np W (evC (.int i))) := de_const pe_int fun _ => .int i
theorem de_bool {i j} : PE X (.Constant (.bool i) j pos) (rE T np W (evC (.bool i))) := de_const pe_bl fun _ => .bl i
theorem de_none {j} : PE X (.Constant .none j pos) (rE T np W (evC .none)) := de_const pe_non fun _ => .non
theorem de_str {i j} : PE X (.Constant (.str i) j pos) (rE T np W (evC (.str i))) := de_const pe_str fun _ => .str i
/-- a module's constant: an int -/
theorem de_globI {x : Str} {i : Int} (hm : ∃ t, X.mg x = some (.int i t)) (hg : Gl X x := by rfl) (hd : (x == ("__debug__" : Str)) = false := by decide) : PE X (.Name x pos) (rE T np W (evC (.int i))) := by
  obtain ⟨t, hm⟩ := hm
  exact de_const (v := .int i) (pe_glob hg hm ⟨t, rfl⟩ hd) fun _ => .int i
theorem de_globS {x : Str} {i : Str} (hm : ∃ t, X.mg x = some (.str i t)) (hg : Gl X x := by rfl) (hd : (x == ("__debug__" : Str)) = false := by decide) : PE X (.Name x pos) (rE T np W (evC (.str i))) := by
  obtain ⟨t, hm⟩ := hm
  exact de_const (v := .str i) (pe_glob hg hm ⟨t, rfl⟩ hd) fun _ => .str i
end

/-! ### freezing -/
def fzC (np : Nat) (c : Cell) (cs : List Cell) : ER := match c with
  | .da d => .val (.da d) cs
  | .ol ds => .val (.da (.list ds)) cs
  | .bw i => match cs[i]? with
    | some (.ol ds) => if np ≤ i then .val (.da (.list ds)) (cs.set i (.da (.list ds))) else .bad
    | _ => .bad
  | .ex n => .val (.ex n) cs
  | .un => .bad
@[simp] theorem fzC_da (np : Nat) (d : D) (cs : List Cell) : fzC np (.da d) cs = .val (.da d) cs := rfl
@[simp] theorem fzC_ol (np : Nat) (d : List D) (cs : List Cell) : fzC np (.ol d) cs = .val (.da (.list d)) cs := rfl
@[simp] theorem fzC_ex (np : Nat) (n : Str) (cs : List Cell) : fzC np (.ex n) cs = .val (.ex n) cs := rfl
def fz (np : Nat) (f : List Cell → ER) (cs : List Cell) : ER := (f cs).bind fun c cs1 => fzC np c cs1
section
variable {T : Th} {np : Nat} {W : WX} {σ σ0 : St} {cs cs0 : List Cell} {G G0 H H0 : Hp} {p : Addr} {vs : List V} {ds : List D}
theorem same_frz (h : Same G H) (hp : H p = some (.lst vs)) : Same (upd G p (.lst vs)) H := fun b o e => by
  by_cases hb : b = p
  · subst hb; rw [upd_same] at e; rw [hp]; exact e
  · rw [upd_ne hb] at e; exact h b o e
/-- a new list becomes data -/
theorem freeze_new (R : SRel T σ cs G H) (n : Nxt np σ0 cs0 G0 H0 σ cs G H) (hp : H p = some (.lst vs)) (g : G p = none) (no : ¬ Own σ cs p) (h0 : H0 p = none) :
    SRel T σ cs (upd G p (.lst vs)) H ∧ Nxt np σ0 cs0 G0 H0 σ cs (upd G p (.lst vs)) H := by
  have sm : Same G (upd G p (.lst vs)) := same_new g
  refine ⟨⟨R.len, same_frz R.ex hp, fun i c hc => ?_, R.nobw, R.sep⟩, ⟨n.ex.trans sm, fun q h1 h2 => ?_, n.keep, n.own, n.dom, n.par⟩⟩
  · have h := R.at_ i c hc
    cases c with
    | un => trivial
    | da d => obtain ⟨v, e, h⟩ := h; exact ⟨v, e, tp_mono sm d v h⟩
    | bw j => exact h
    | ex nm => obtain ⟨a, e, h⟩ := h; exact ⟨a, e, sm _ _ h⟩
    | ol es =>
      obtain ⟨q, ws, e, g', h, k⟩ := h
      have hq : q ≠ p := fun z => no ⟨i, _, hc, rfl, by rw [e, z]⟩
      exact ⟨q, ws, e, by rw [upd_ne hq]; exact g', h, tpAll_mono sm es ws k⟩
  · by_cases hq : q = p
    · rw [hq]; exact .inl h0
    · rw [upd_ne hq] at h2; exact n.new q h1 h2
theorem own_set {i : Nat} {c : Cell} {q : Addr} (hc : c.own = false) (h : Own σ (cs.set i c) q) : Own σ cs q := by
  obtain ⟨j, c', h1, h2, h3⟩ := h
  by_cases hj : i = j
  · subst hj
    have : (cs.set i c)[i]? = some c ∨ (cs.set i c)[i]? = none := by
      by_cases hl : i < cs.length
      · left; rw [List.getElem?_set_self hl]
      · right; exact List.getElem?_eq_none (by simpa using hl)
    rcases this with e | e
    · rw [e] at h1; cases h1; rw [hc] at h2; cases h2
    · rw [e] at h1; cases h1
  · rw [List.getElem?_set_ne hj] at h1
    exact ⟨j, c', h1, h2, h3⟩
/-- the own list in slot i becomes data -/
theorem freeze_slot {i : Nat} (R : SRel T σ cs G H) (hc : cs[i]? = some (.ol ds)) (hi : np ≤ i) : ∃ p vs, σ[i]? = some (some (.ref p)) ∧ H p = some (.lst vs) ∧ TpAll T.K G vs ds ∧
    SRel T σ (cs.set i (.da (.list ds))) (upd G p (.lst vs)) H ∧ Nxt np σ cs G H σ (cs.set i (.da (.list ds))) (upd G p (.lst vs)) H := by
  obtain ⟨p, vs, e, g, h, k⟩ := R.at_ i _ hc
  have sm : Same G (upd G p (.lst vs)) := same_new g
  have hl : i < cs.length := (List.getElem?_eq_some_iff.mp hc).1
  have ow : Own σ cs p := ⟨i, _, hc, rfl, e⟩
  refine ⟨p, vs, e, h, k, ⟨by rw [List.length_set]; exact R.len, same_frz R.ex h, fun j c hj => ?_, fun j l hj => ?_, fun j l q cj cl hjl h1 h2 h3 h4 => ?_⟩, ⟨sm, fun q h1 h2 => ?_, fun q o h _ => h, fun q h => .inl (own_set rfl h), fun _ h => h, fun j q c hj h1 h2 h3 => ⟨h3, c, ?_, h2⟩⟩⟩
  · by_cases hij : i = j
    · subst hij
      rw [List.getElem?_set_self hl] at hj
      cases hj
      exact ⟨_, e, .lst (Rd.of upd_same) (tpAll_mono sm ds vs k)⟩
    · rw [List.getElem?_set_ne hij] at hj
      have h' := R.at_ j c hj
      cases c with
      | un => trivial
      | da d => obtain ⟨v, e, h⟩ := h'; exact ⟨v, e, tp_mono sm d v h⟩
      | bw l => exact h'
      | ex nm => obtain ⟨a, e, h⟩ := h'; exact ⟨a, e, sm _ _ h⟩
      | ol es =>
        obtain ⟨q, ws, e', g', h, k⟩ := h'
        have hq : q ≠ p := fun z => R.sep i j p _ _ hij hc hj rfl rfl e (by rw [e', z])
        exact ⟨q, ws, e', by rw [upd_ne hq]; exact g', h, tpAll_mono sm es ws k⟩
  · by_cases hij : i = j
    · subst hij; rw [List.getElem?_set_self hl] at hj; cases hj
    · rw [List.getElem?_set_ne hij] at hj; exact R.nobw j l hj
  · have hj : i ≠ j := fun z => by subst z; rw [List.getElem?_set_self hl] at h1; cases h1; cases h3
    have hl' : i ≠ l := fun z => by subst z; rw [List.getElem?_set_self hl] at h2; cases h2; cases h4
    rw [List.getElem?_set_ne hj] at h1
    rw [List.getElem?_set_ne hl'] at h2
    exact R.sep j l q cj cl hjl h1 h2 h3 h4
  · by_cases hq : q = p
    · rw [hq]; exact .inr ow
    · rw [upd_ne hq] at h2; exact absurd h1 h2
  · rw [List.getElem?_set_ne (by omega)]; exact h1
theorem de_fz {X : Cx} {e : Expr} {f : List Cell → ER} (h : PE X e (rE T np W f)) : PE X e (rE T np W (fz np f)) := by
  refine pe_imp h ?_
  rintro σ H Q ⟨cs, G, R, h⟩
  refine rE_run R (EGood.bind h .refl fun c cs1 G1 H1 v n1 R1 a1 h1 => ?_)
  cases c with
  | un => exact h1.elim
  | da d => exact h1 G1 H1 v n1 R1 a1
  | ex nm => exact h1 G1 H1 v n1 R1 a1
  | ol ds =>
    obtain ⟨⟨p, vs, e, g, hp, k⟩, fr⟩ := a1
    cases e
    obtain ⟨f1, f2⟩ := fr rfl p rfl
    obtain ⟨R2, n2⟩ := freeze_new R1 n1 hp g f1 f2
    exact h1 _ H1 _ n2 R2 ⟨⟨_, rfl, .lst (Rd.of upd_same) (tpAll_mono (same_new g) ds vs k)⟩, fun z => nomatch z⟩
  | bw i =>
    have h1 : EGood T np W Q σ cs G H (match cs1[i]? with | some (.ol ds) => if np ≤ i then .val (.da (.list ds)) (cs1.set i (.da (.list ds))) else .bad | _ => .bad) := h1
    split at h1
    · rename_i ds hc
      by_cases hi : np ≤ i
      · rw [if_pos hi] at h1
        obtain ⟨p, vs, e, hp, k, R2, n2⟩ := freeze_slot (np := np) R1 hc hi
        have ev : some (some v) = σ[i]? := a1.1
        rw [e] at ev
        cases ev
        have g : G1 p = none := (R1.own_no ⟨i, _, hc, rfl, e⟩).1
        exact h1 _ H1 _ (n1.trans n2) R2 ⟨⟨_, rfl, .lst (Rd.of upd_same) (tpAll_mono (same_new g) ds vs k)⟩, fun z => nomatch z⟩
      · rw [if_neg hi] at h1; exact h1.elim
    · exact h1.elim
end

/-! ### tests -/
def truD : D → Option Bool
  | .none => some false
  | .bool b => some b
  | .int i => some (i != 0)
  | .str y => if y.length ≤ sizeLine then some ((y.length : Int) != 0) else none
  | .list xs => some (!xs.isEmpty)
  | .tuple xs => some (!xs.isEmpty)
  | .dict _ => none
def bOf (c : Cell) (cs : List Cell) : TR := match pk c cs with
  | some (.bool b) => .val b cs
  | _ => .bad
@[simp] theorem bOf_da (b : Bool) (cs : List Cell) : bOf (.da (.bool b)) cs = .val b cs := rfl
def tOf (c : Cell) (cs : List Cell) : TR := match (pk c cs).bind truD with
  | some b => .val b cs
  | _ => .bad
/-- a value that is a bool, as a test; any value by its truth -/
def tB (f : List Cell → ER) (cs : List Cell) : TR := (f cs).toT bOf
def tU (f : List Cell → ER) (cs : List Cell) : TR := (f cs).toT tOf
section
variable {X : Cx} {T : Th} {np : Nat} {W : WX} {pos : Pos} {σ : St} {cs : List Cell} {G H H0 : Hp} {Q : Bool → Hp → Prop}
theorem bOf_ok {c : Cell} {v : V} (R : SRel T σ cs G H) (a : VAt T σ cs G H0 H c v) (h : TGood T np W Q σ cs G H (bOf c cs)) : ∃ b, v = .bl b ∧ Q b H := by
  unfold bOf at h
  split at h
  · rename_i b e
    exact ⟨b, (pk_at R a e).bool, h G H .refl R⟩
  · exact h.elim
theorem dt_cmp {e : Expr} {t : TE} {f : List Cell → ER} (h : PT X e (tTest t)) (k : ∀ σ H Q, rE T np W f σ H Q → t σ H Q) : PT X e (rT T np W (tB f)) := by
  refine pt_imp h ?_
  rintro σ H Q ⟨cs, G, R, h⟩
  exact k σ H _ (rE_run R (TGood.toT h .refl fun c cs1 G1 H1 v n1 R1 a1 h1 => bOf_ok R1 a1 (h1.on n1)))
theorem dt_B {e : Expr} {f : List Cell → ER} (h : PE X e (rE T np W f)) (he : ∀ whole, isTrue e X.env whole = (do let v ← whole; standAt e.pos; holding [v] (truthy v)) := by intro _; rfl) : PT X e (rT T np W (tB f)) := by
  refine pt_imp (pt_val h he) ?_
  rintro σ H Q ⟨cs, G, R, h⟩
  exact rE_run R (TGood.toT h .refl fun c cs1 G1 H1 v n1 R1 a1 h1 => bOf_ok R1 a1 (h1.on n1))
end
section
variable {X : Cx} {ca : Str → Addr} {np : Nat} {W : WX} {pos : Pos}
theorem dt_U {e : Expr} {f : List Cell → ER} (h : PE X e (rE ⟨X.K, ca⟩ np W f)) (he : ∀ whole, isTrue e X.env whole = (do let v ← whole; standAt e.pos; holding [v] (truthy v)) := by intro _; rfl) : PT X e (rT ⟨X.K, ca⟩ np W (tU f)) := by
  refine pt_imp (pt_truth h he) ?_
  rintro σ H Q ⟨cs, G, R, h⟩
  refine rE_run R (TGood.toT h .refl fun c cs1 G1 H1 v n1 R1 a1 h1 => ?_)
  unfold tOf at h1
  cases e : pk c cs1 with
  | none => rw [e] at h1; exact h1.elim
  | some d =>
    rw [e] at h1
    have p := pk_at R1 a1 e
    have h1 : TGood ⟨X.K, ca⟩ np W Q σ cs G H (match truD d with | some b => .val b cs1 | _ => .bad) := h1
    cases d with
    | none => rw [p.none]; exact ⟨false, rfl, h1 G1 H1 n1 R1⟩
    | bool b => rw [p.bool]; exact ⟨b, rfl, h1 G1 H1 n1 R1⟩
    | int i => rw [p.int]; exact ⟨_, rfl, h1 G1 H1 n1 R1⟩
    | str y =>
      rw [p.str]
      by_cases hy : y.length ≤ sizeLine
      · have e : truD (.str y) = some ((y.length : Int) != 0) := if_pos hy
        rw [e] at h1
        exact ⟨_, ⟨hy, rfl⟩, h1 G1 H1 n1 R1⟩
      · have e : truD (.str y) = none := if_neg hy
        rw [e] at h1
        exact h1.elim
    | list ds =>
      obtain ⟨q, vs, rfl, hs, ha⟩ := p.list R1.ex
      have e : (!vs.isEmpty) = !ds.isEmpty := by have := ha.length; cases vs <;> cases ds <;> simp_all
      exact ⟨_, .inl ⟨vs, .inl hs, e.symm⟩, h1 G1 H1 n1 R1⟩
    | tuple ds =>
      obtain ⟨q, vs, rfl, hs, ha⟩ := p.tuple R1.ex
      have e : (!vs.isEmpty) = !ds.isEmpty := by have := ha.length; cases vs <;> cases ds <;> simp_all
      exact ⟨_, .inr (.inl ⟨vs, hs, e.symm⟩), h1 G1 H1 n1 R1⟩
    | dict kvs => exact h1.elim
end
/-! and, or, not -/
def tAnd (f g : List Cell → TR) (cs : List Cell) : TR := (f cs).bind fun b cs1 => if b = true then g cs1 else .val false cs1
def tOr (f g : List Cell → TR) (cs : List Cell) : TR := (f cs).bind fun b cs1 => if b = true then .val true cs1 else g cs1
def tNot (f : List Cell → TR) (cs : List Cell) : TR := (f cs).bind fun b cs1 => .val (!b) cs1
def vAnd (f g : List Cell → ER) (cs : List Cell) : ER := (f cs).bind fun c cs1 => match pk c cs1 with
  | some (.bool b) => if b = true then g cs1 else .val (.da (.bool false)) cs1
  | _ => .bad
def vOr (f g : List Cell → ER) (cs : List Cell) : ER := (f cs).bind fun c cs1 => match pk c cs1 with
  | some (.bool b) => if b = true then .val (.da (.bool true)) cs1 else g cs1
  | _ => .bad
def vNot (f : List Cell → ER) (cs : List Cell) : ER := (f cs).bind fun c cs1 => match pk c cs1 with
  | some (.bool b) => .val (.da (.bool (!b))) cs1
  | _ => .bad
def vIf (t : List Cell → TR) (f g : List Cell → ER) (cs : List Cell) : ER := (t cs).toE fun b cs1 => if b = true then f cs1 else g cs1
section
variable {X : Cx} {T : Th} {np : Nat} {W : WX} {pos : Pos} {a b : Expr} {rest : List Expr}
theorem dw_and {f g : List Cell → TR} (ha : PT X a (rT T np W f)) (hb : PW X (.BoolOp .And (b :: rest) pos) (rT T np W g)) : PW X (.BoolOp .And (a :: b :: rest) pos) (rT T np W (tAnd f g)) := by
  refine pw_imp (pw_and ha hb) ?_
  rintro σ H Q ⟨cs, G, R, h⟩
  refine rT_run R (TGood.bind h .refl fun b cs1 G1 H1 n1 R1 h1 => ?_)
  cases b with
  | true => exact rT_run R1 (h1.on n1)
  | false => exact h1 G1 H1 n1 R1
theorem dw_or {f g : List Cell → TR} (ha : PT X a (rT T np W f)) (hb : PW X (.BoolOp .Or (b :: rest) pos) (rT T np W g)) : PW X (.BoolOp .Or (a :: b :: rest) pos) (rT T np W (tOr f g)) := by
  refine pw_imp (pw_or ha hb) ?_
  rintro σ H Q ⟨cs, G, R, h⟩
  refine rT_run R (TGood.bind h .refl fun b cs1 G1 H1 n1 R1 h1 => ?_)
  cases b with
  | false => exact rT_run R1 (h1.on n1)
  | true => exact h1 G1 H1 n1 R1
theorem dt_not {f : List Cell → TR} (ha : PT X a (rT T np W f)) : PT X (.UnaryOp .Not a pos) (rT T np W (tNot f)) := by
  refine pt_imp (pt_not ha) ?_
  rintro σ H Q ⟨cs, G, R, h⟩
  exact rT_run R (TGood.bind h .refl fun b cs1 G1 H1 n1 R1 h1 => h1 G1 H1 n1 R1)
theorem da_true {cs : List Cell} {σ : St} {G H H0 : Hp} {b : Bool} : VAt T σ cs G H0 H (.da (.bool b)) (.bl b) := ⟨⟨_, rfl, .bl b⟩, fun z => nomatch z⟩
theorem de_and {f g : List Cell → ER} (ha : PE X a (rE T np W f)) (hb : PE X (.BoolOp .And (b :: rest) pos) (rE T np W g)) : PE X (.BoolOp .And (a :: b :: rest) pos) (rE T np W (vAnd f g)) := by
  refine pe_imp (pe_and ha hb) ?_
  rintro σ H Q ⟨cs, G, R, h⟩
  refine rE_run R (EGood.bind h .refl fun c cs1 G1 H1 v n1 R1 a1 h1 => ?_)
  split at h1
  · rename_i b e
    refine ⟨b, (pk_at R1 a1 e).bool, ?_⟩
    cases b with
    | true => exact rE_run R1 (EGood.on (r := g cs1) h1 n1)
    | false => exact h1 G1 H1 (.bl false) n1 R1 da_true
  · exact h1.elim
theorem de_or {f g : List Cell → ER} (ha : PE X a (rE T np W f)) (hb : PE X (.BoolOp .Or (b :: rest) pos) (rE T np W g)) : PE X (.BoolOp .Or (a :: b :: rest) pos) (rE T np W (vOr f g)) := by
  refine pe_imp (pe_or ha hb) ?_
  rintro σ H Q ⟨cs, G, R, h⟩
  refine rE_run R (EGood.bind h .refl fun c cs1 G1 H1 v n1 R1 a1 h1 => ?_)
  split at h1
  · rename_i b e
    refine ⟨b, (pk_at R1 a1 e).bool, ?_⟩
    cases b with
    | false => exact rE_run R1 (EGood.on (r := g cs1) h1 n1)
    | true => exact h1 G1 H1 (.bl true) n1 R1 da_true
  · exact h1.elim
theorem de_not {f : List Cell → ER} (ha : PE X a (rE T np W f)) : PE X (.UnaryOp .Not a pos) (rE T np W (vNot f)) := by
  refine pe_imp (pe_not ha) ?_
  rintro σ H Q ⟨cs, G, R, h⟩
  refine rE_run R (EGood.bind h .refl fun c cs1 G1 H1 v n1 R1 a1 h1 => ?_)
  split at h1
  · rename_i b e
    exact ⟨b, (pk_at R1 a1 e).bool, h1 G1 H1 (.bl (!b)) n1 R1 da_true⟩
  · exact h1.elim
theorem de_if {c : Expr} {t : List Cell → TR} {f g : List Cell → ER} (hc : PT X c (rT T np W t)) (ha : PE X a (rE T np W f)) (hb : PE X b (rE T np W g)) : PE X (.IfExp c a b pos) (rE T np W (vIf t f g)) := by
  refine pe_imp (pe_ifExp hc ha hb) ?_
  rintro σ H Q ⟨cs, G, R, h⟩
  refine rT_run R (TGood.ofE h .refl fun b cs1 G1 H1 n1 R1 h1 => ?_)
  cases b with
  | true => exact rE_run R1 (EGood.on (r := f cs1) h1 n1)
  | false => exact rE_run R1 (EGood.on (r := g cs1) h1 n1)
end
/-! is None -/
def vIsN (f : List Cell → ER) (cs : List Cell) : ER := (f cs).bind fun c cs1 => match pk c cs1 with
  | some .none => .val (.da (.bool true)) cs1
  | some _ => .val (.da (.bool false)) cs1
  | none => match c with
    | .ex _ => .val (.da (.bool false)) cs1
    | _ => .bad
def vNotN (f : List Cell → ER) : List Cell → ER := vNot (vIsN f)
section
variable {X : Cx} {T : Th} {np : Nat} {W : WX} {pos : Pos} {a : Expr}
theorem isN_ok {f : List Cell → ER} {neg : Bool} : ∀ σ H Q, rE T np W (fun cs => (vIsN f cs).bind fun c cs1 => match pk c cs1 with | some (.bool b) => .val (.da (.bool (if neg then !b else b))) cs1 | _ => .bad) σ H Q →
    rE T np W f σ H fun x H1 => Q (.bl (if neg then !decide (x = .non) else decide (x = .non))) H1 := by
  rintro σ H Q ⟨cs, G, R, h⟩
  cases e : f cs with
  | bad => simp only [vIsN, e, ER.bind_bad] at h; exact h.elim
  | err e' cs' => refine rE_run R ?_; simp only [vIsN, e, ER.bind_err] at h ⊢; exact h
  | val c cs1 =>
    refine rE_run R ?_
    rw [e]
    intro G1 H1 v n1 R1 a1
    simp only [vIsN, e, ER.bind_val] at h
    cases hp : pk c cs1 with
    | none =>
      rw [hp] at h
      cases c with
      | ex nm =>
        obtain ⟨⟨q, e1, _⟩, _⟩ := a1
        cases e1
        have h2 := h G1 H1 (.bl (if neg then !false else false)) n1 R1 da_true
        have : decide (V.ref q = V.non) = false := rfl
        rw [this]; exact h2
      | un => exact h.elim
      | da d => cases hp
      | ol d => cases hp
      | bw i => exact h.elim
    | some d =>
      rw [hp] at h
      have p := pk_at R1 a1 hp
      have key : ∀ b : Bool, decide (v = V.non) = b → EGood T np W Q σ cs G H (.val (.da (.bool (if neg then !b else b))) cs1) → Q (.bl (if neg then !decide (v = .non) else decide (v = .non))) H1 := fun b eb g => by
        rw [eb]; exact g G1 H1 _ n1 R1 da_true
      cases d with
      | none => rw [p.none] at key ⊢; exact key true rfl h
      | bool b => rw [p.bool] at key ⊢; exact key false rfl h
      | int i => rw [p.int] at key ⊢; exact key false rfl h
      | str i => rw [p.str] at key ⊢; exact key false rfl h
      | list ds => obtain ⟨q, vs, e1, _⟩ := p.list R1.ex; rw [e1] at key ⊢; exact key false rfl h
      | tuple ds => obtain ⟨q, vs, e1, _⟩ := p.tuple R1.ex; rw [e1] at key ⊢; exact key false rfl h
      | dict kvs =>
        rcases p with p | ⟨_, _, _, _, e1, _⟩
        · cases p
        · cases e1
theorem isN_id {f : List Cell → ER} (cs : List Cell) : ((vIsN f cs).bind fun c cs1 => match pk c cs1 with | some (.bool b) => .val (.da (.bool (if false = true then !b else b))) cs1 | _ => .bad) = vIsN f cs := by
  unfold vIsN
  cases f cs with
  | bad => rfl
  | err e c => rfl
  | val c cs1 =>
    simp only [ER.bind_val]
    cases hp : pk c cs1 with
    | none => cases c <;> rfl
    | some d => cases d <;> rfl
theorem de_isN {f : List Cell → ER} {j pos'} (ha : PE X a (rE T np W f)) : PE X (.Compare a [.Is] [.Constant .none j pos'] pos) (rE T np W (vIsN f)) := by
  refine pe_imp (pe_cmp (pc_isN ha)) ?_
  rintro σ H Q ⟨cs, G, R, h⟩
  refine isN_ok (neg := false) σ H Q ⟨cs, G, R, ?_⟩
  dsimp only
  rw [isN_id]
  exact h
theorem de_notN {f : List Cell → ER} {j pos'} (ha : PE X a (rE T np W f)) : PE X (.Compare a [.IsNot] [.Constant .none j pos'] pos) (rE T np W (vNotN f)) := by
  refine pe_imp (pe_cmp (pc_notN ha)) ?_
  rintro σ H Q ⟨cs, G, R, h⟩
  exact isN_ok (neg := true) σ H Q ⟨cs, G, R, h⟩
theorem dt_isN {f : List Cell → ER} {j pos'} (ha : PE X a (rE T np W f)) : PT X (.Compare a [.Is] [.Constant .none j pos'] pos) (rT T np W (tB (vIsN f))) := by
  refine pt_imp (pt_cmp (pc_isN ha)) ?_
  rintro σ H Q ⟨cs, G, R, h⟩
  refine isN_ok (neg := false) σ H (fun x H1 => ∃ c, x = .bl c ∧ Q c H1) ⟨cs, G, R, ?_⟩
  dsimp only
  rw [isN_id]
  exact TGood.toT h .refl fun c cs1 G1 H1 v n1 R1 a1 h1 => bOf_ok R1 a1 (h1.on n1)
theorem dt_notN {f : List Cell → ER} {j pos'} (ha : PE X a (rE T np W f)) : PT X (.Compare a [.IsNot] [.Constant .none j pos'] pos) (rT T np W (tB (vNotN f))) := by
  refine pt_imp (pt_cmp (pc_notN ha)) ?_
  rintro σ H Q ⟨cs, G, R, h⟩
  exact isN_ok (neg := true) σ H (fun x H1 => ∃ c, x = .bl c ∧ Q c H1) ⟨cs, G, R, TGood.toT h .refl fun c cs1 G1 H1 v n1 R1 a1 h1 => bOf_ok R1 a1 (h1.on n1)⟩
end
end TL
set_option Elab.async false
set_option linter.all false
set_option maxRecDepth 100000
set_option maxHeartbeats 4000000
/-! TL4: operators on data. -/
namespace TL
open PySem L2
section
variable {K : PySem.W.Frag} {X : Cx}

/-! ### results -/
/-- a new list -/
theorem fin_lst {G H : Hp} {Q : VK} {ds : List D} {vs : List V} (e : Same G H) (q : ∀ G' H' v', Pure G H G' H' → RAt K G' H H' (.ol ds) v' → Q v' H') (h : TpAll K G vs ds) : ∀ p, H p = none → Q (.ref p) (upd H p (.lst vs)) := fun p hp =>
  q G _ _ (.own e hp) ⟨p, vs, rfl, hp, e.free hp, upd_same, h⟩
/-- a new tuple -/
theorem fin_tup {G H : Hp} {Q : VK} {ds : List D} {vs : List V} (e : Same G H) (q : ∀ G' H' v', Pure G H G' H' → RAt K G' H H' (.da (.tuple ds)) v' → Q v' H') (h : TpAll K G vs ds) : ∀ p, H p = none → Q (.ref p) (upd H p (.tup vs)) := fun p hp =>
  q (upd G p (.tup vs)) _ _ (.obj e hp) (.tup (SqT.of upd_same) (tpAll_mono (same_new (e.free hp)) ds vs h))
theorem fin_da {G H : Hp} {Q : VK} {d : D} {v : V} (e : Same G H) (q : ∀ G' H' v', Pure G H G' H' → RAt K G' H H' (.da d) v' → Q v' H') (h : Tp K G v d) : Q v H := q G H v (.refl e) h

/-! ### + -/
def rCatR : R2 := fun x y H Q => ∃ l b xs zs, x = .ref l ∧ y = .ref b ∧ Rd H l (.lst xs) ∧ Rd H b (.lst zs) ∧ xs.length + zs.length ≤ sizeLine ∧ ∀ p, H p = none → Q (.ref p) (upd H p (.lst (xs ++ zs)))
theorem op_catR : OpR X (binaryOp .Add) rCatR := by
  intro pins s σ H x y v u Q I rx ry h
  obtain ⟨l, b, xs, zs, rfl, rfl, hH, hB, hz, q⟩ := h
  cases rx
  cases ry
  obtain ⟨z, its, n, r, e⟩ := hH.ok I.hok
  obtain ⟨z2, its2, n2, r2, e2⟩ := hB.ok I.hok
  have hl := r.length
  have hl2 := r2.length
  refine PySem.P.add_list e e2 ?_ (by rw [List.size_toArray, List.size_toArray]; omega)
  have ea : its.toArray ++ its2.toArray = (its ++ its2).toArray := by simp
  rw [ea]
  exact ⟨.ref _, _, I.lnew (t' := s.toks) (r.append r2) (by rw [List.length_append]; omega), rfl, q _ I.fresh⟩
def rAddS : R2 := fun x y H Q => ∃ i j, x = .str i ∧ y = .str j ∧ i.length + j.length ≤ sizeLine ∧ Q (.str (i ++ j)) H
def rAddA (K : PySem.W.Frag) : R2 := fun x y H Q => rI0 (fun i j => .int (i + j)) x y H Q ∨ rAddS x y H Q ∨ rCatR x y H Q ∨ rCatT K x y H Q
theorem op_addA : OpR X (binaryOp .Add) (rAddA X.K) := OpR.or op_add (OpR.or op_add_str (OpR.or op_catR op_catT))
def pAdd : D → D → Option Cell
  | .int i, .int j => some (.da (.int (i + j)))
  | .str a, .str b => if a.length + b.length ≤ sizeLine then some (.da (.str (a ++ b))) else none
  | .list xs, .list ys => if xs.length + ys.length ≤ sizeLine then some (.ol (xs ++ ys)) else none
  | .tuple xs, .tuple ys => if xs ≠ [] ∧ ys ≠ [] ∧ xs.length + ys.length ≤ sizeLine then some (.da (.tuple (xs ++ ys))) else none
  | _, _ => none
theorem ne_nil_of {G : Hp} {vs : List V} {ds : List D} (h : TpAll K G vs ds) (e : ds ≠ []) : vs ≠ [] := by
  cases h with
  | nil => exact absurd rfl e
  | cons _ _ => simp
theorem opd_add : OpD K (rAddA K) pAdd := by
  intro G H v w a b c Q e h1 h2 hp q
  unfold pAdd at hp
  split at hp
  · cases hp
    rw [h1.int, h2.int]
    exact .inl ⟨_, _, rfl, rfl, fin_da e q (.int _)⟩
  · split at hp
    · cases hp
      rename_i hl
      rw [h1.str, h2.str]
      exact .inr (.inl ⟨_, _, rfl, rfl, hl, fin_da e q (.str _)⟩)
    · cases hp
  · split at hp
    · cases hp
      rename_i hl
      obtain ⟨p1, vs, rfl, r1, t1⟩ := h1.list e
      obtain ⟨p2, ws, rfl, r2, t2⟩ := h2.list e
      exact .inr (.inr (.inl ⟨_, _, _, _, rfl, rfl, r1, r2, by rw [t1.length, t2.length]; exact hl, fin_lst e q (t1.append t2)⟩))
    · cases hp
  · split at hp
    · cases hp
      rename_i hl
      obtain ⟨p1, vs, rfl, r1, t1⟩ := h1.tuple e
      obtain ⟨p2, ws, rfl, r2, t2⟩ := h2.tuple e
      exact .inr (.inr (.inr ⟨_, _, _, _, rfl, rfl, r1, r2, ne_nil_of t1 hl.1, by rw [t1.length, t2.length]; exact hl.2.2, fun z => absurd z (ne_nil_of t2 hl.2.1), fun _ => fin_tup e q (t1.append t2)⟩))
    · cases hp
  · cases hp

/-! ### -, *, //, %, ** -/
def pSub : D → D → Option Cell
  | .int i, .int j => some (.da (.int (i - j)))
  | _, _ => none
theorem opd_sub : OpD K (rI0 fun i j => .int (i - j)) pSub := by
  intro G H v w a b c Q e h1 h2 hp q
  unfold pSub at hp
  split at hp
  · cases hp
    rw [h1.int, h2.int]
    exact ⟨_, _, rfl, rfl, fin_da e q (.int _)⟩
  · cases hp
def mulOk (i j : Int) : Bool := decide (i.natAbs < 2 ^ 64) || decide (j.natAbs < 2 ^ 64) || decide (i.natAbs.log2 + j.natAbs.log2 < 1000000)
theorem mulOk_l {i j : Int} (h : i.natAbs < 2 ^ 64) : mulOk i j = true := by unfold mulOk; simp [h]
theorem mulOk_r {i j : Int} (h : j.natAbs < 2 ^ 64) : mulOk i j = true := by unfold mulOk; simp [h]
theorem mulOk_w {i j : Int} {a b : Nat} (ha : i.natAbs < 2 ^ a) (hb : j.natAbs < 2 ^ b) (h0 : 0 < a) (h1 : 0 < b) (h : a + b ≤ 1000000) : mulOk i j = true := by
  have : i.natAbs.log2 + j.natAbs.log2 < 1000000 := wide_mul ha hb h0 h1 h
  unfold mulOk
  simp only [this, decide_true, Bool.or_true]
def rRepR : R2 := fun x y H Q => ∃ l k xs, x = .ref l ∧ y = .int k ∧ Rd H l (.lst xs) ∧ -(2 ^ 63) ≤ k ∧ k < 2 ^ 63 ∧ xs.length * k.toNat ≤ sizeLine ∧
  ∀ p, H p = none → Q (.ref p) (upd H p (.lst (List.replicate k.toNat xs).flatten))
def rMulA : R2 := fun x y H Q => rI CMul (fun i j => .int (i * j)) x y H Q ∨ rI CMulW (fun i j => .int (i * j)) x y H Q ∨ rRep x y H Q
theorem op_mulA : OpR X (binaryOp .Mult) rMulA := OpR.or op_mul (OpR.or op_mulW op_rep)
def pMul : D → D → Option Cell
  | .int i, .int j => if mulOk i j = true then some (.da (.int (i * j))) else none
  | _, _ => none
theorem opd_mul : OpD K rMulA pMul := by
  intro G H v w a b c Q e h1 h2 hp q
  unfold pMul at hp
  split at hp
  · split at hp
    · cases hp
      rename_i i j hm
      rw [h1.int, h2.int]
      unfold mulOk at hm
      simp only [Bool.or_eq_true, decide_eq_true_eq] at hm
      rcases hm with (hm | hm) | hm
      · exact .inl ⟨_, _, rfl, rfl, .inl (by constructor <;> omega), fin_da e q (.int _)⟩
      · exact .inl ⟨_, _, rfl, rfl, .inr (by constructor <;> omega), fin_da e q (.int _)⟩
      · exact .inr (.inl ⟨_, _, rfl, rfl, hm, fin_da e q (.int _)⟩)
    · cases hp
  · cases hp
def rDivA : R2 := fun x y H Q => rI CDivW (fun i j => .int (i / j)) x y H Q ∨ rI CDivN (fun i j => .int (i.fdiv j)) x y H Q
theorem op_divA : OpR X (binaryOp .FloorDiv) rDivA := OpR.or op_fdivW op_fdivN
def divOk (j : Int) : Bool := decide (0 < j) && decide (j.natAbs.log2 < 9000)
theorem divOk_s {j : Int} (h : 0 < j) (h2 : j < 2 ^ 64) : divOk j = true := by
  have : CDivW 0 j := wide_div (b := 64) h (by omega) (by decide) (by decide)
  unfold divOk
  simp only [this.1, this.2, decide_true, Bool.and_true]
theorem divOk_w {j : Int} {b : Nat} (h : 0 < j) (h2 : j.natAbs < 2 ^ b) (h0 : 0 < b) (h9 : b ≤ 9000) : divOk j = true := by
  have : CDivW 0 j := wide_div h h2 h0 h9
  unfold divOk
  simp only [this.1, this.2, decide_true, Bool.and_true]
def pDiv : D → D → Option Cell
  | .int i, .int j => if divOk j = true then some (.da (.int (i / j))) else if j < 0 ∧ j.natAbs < 1073741824 then some (.da (.int (i.fdiv j))) else none
  | _, _ => none
theorem opd_div : OpD K rDivA pDiv := by
  intro G H v w a b c Q e h1 h2 hp q
  unfold pDiv at hp
  split at hp
  · split at hp
    · cases hp
      rename_i i j hm
      rw [h1.int, h2.int]
      unfold divOk at hm
      simp only [Bool.and_eq_true, decide_eq_true_eq] at hm
      exact .inl ⟨_, _, rfl, rfl, hm, fin_da e q (.int _)⟩
    · split at hp
      · cases hp
        rename_i i j _ hm
        rw [h1.int, h2.int]
        exact .inr ⟨_, _, rfl, rfl, ⟨by omega, hm.2⟩, fin_da e q (.int _)⟩
      · cases hp
  · cases hp
def rModA : R2 := fun x y H Q => rI (fun _ j => 0 < j) (fun i j => .int (i % j)) x y H Q ∨ rI (fun _ j => j ≠ 0) (fun i j => .int (i.fmod j)) x y H Q
theorem op_modA : OpR X (binaryOp .Mod) rModA := OpR.or op_mod op_modN
def pMod : D → D → Option Cell
  | .int i, .int j => if 0 < j then some (.da (.int (i % j))) else if j < 0 then some (.da (.int (i.fmod j))) else none
  | _, _ => none
theorem opd_mod : OpD K rModA pMod := by
  intro G H v w a b c Q e h1 h2 hp q
  unfold pMod at hp
  split at hp
  · split at hp
    · cases hp
      rename_i i j hm
      rw [h1.int, h2.int]
      exact .inl ⟨_, _, rfl, rfl, hm, fin_da e q (.int _)⟩
    · split at hp
      · cases hp
        rename_i i j _ hm
        rw [h1.int, h2.int]
        exact .inr ⟨_, _, rfl, rfl, (by omega), fin_da e q (.int _)⟩
      · cases hp
  · cases hp
def pPow : D → D → Option Cell
  | .int i, .int j => if 0 ≤ j ∧ j ≤ 1000000 ∧ i.natAbs < 2 ^ 64 then some (.da (.int (i ^ j.toNat))) else none
  | _, _ => none
theorem opd_pow : OpD K (rI CPow fun i j => .int (i ^ j.toNat)) pPow := by
  intro G H v w a b c Q e h1 h2 hp q
  unfold pPow at hp
  split at hp
  · split at hp
    · cases hp
      rename_i i j hm
      rw [h1.int, h2.int]
      exact ⟨_, _, rfl, rfl, hm, fin_da e q (.int _)⟩
    · cases hp
  · cases hp
def pRep : D → D → Option Cell
  | .list xs, .int k => if -(2 ^ 63) ≤ k ∧ k < 2 ^ 63 ∧ xs.length * k.toNat ≤ sizeLine then some (.ol (List.replicate k.toNat xs).flatten) else none
  | _, _ => none
def pNeg : D → Option Cell
  | .int i => some (.da (.int (-i)))
  | _ => none
theorem und_neg : UnD K (rU fun i => .int (-i)) pNeg := by
  intro G H v a c Q e h1 hp q
  unfold pNeg at hp
  split at hp
  · cases hp
    rw [h1.int]
    exact ⟨_, rfl, fin_da e q (.int _)⟩
  · cases hp

/-! ### comparisons -/
def pCmp (f : Int → Int → Bool) : D → D → Option Cell
  | .int i, .int j => some (.da (.bool (f i j)))
  | _, _ => none
theorem opd_cmp {f : Int → Int → Bool} : OpD K (rI0 fun i j => .bl (f i j)) (pCmp f) := by
  intro G H v w a b c Q e h1 h2 hp q
  unfold pCmp at hp
  split at hp
  · cases hp
    rw [h1.int, h2.int]
    exact ⟨_, _, rfl, rfl, fin_da e q (.bl _)⟩
  · cases hp
abbrev fLt : Int → Int → Bool := fun i j => decide (i < j)
abbrev fLe : Int → Int → Bool := fun i j => decide (i ≤ j)
abbrev fGt : Int → Int → Bool := fun i j => decide (j < i)
abbrev fGe : Int → Int → Bool := fun i j => decide (j ≤ i)
/-- == of flat data -/
def eqF : D → D → Option Bool
  | .int i, .int j => some (decide (i = j))
  | .str i, .str j => some (decide (i = j))
  | .bool i, .bool j => some (decide (i = j))
  | .none, .none => some true
  | .none, .int _ => some false
  | .int _, .none => some false
  | .none, .str _ => some false
  | .str _, .none => some false
  | .none, .bool _ => some false
  | .bool _, .none => some false
  | .int _, .str _ => some false
  | .str _, .int _ => some false
  | _, _ => none
def pEq (a b : D) : Option Cell := match eqF a b with
  | some k => some (.da (.bool k))
  | none => if SeqAt.shaped a = true ∧ SeqAt.shaped b = true then some (.da (.bool (PyData.eqv a b))) else none
def pNe (a b : D) : Option Cell := match eqF a b with
  | some k => some (.da (.bool (!k)))
  | none => if SeqAt.shaped a = true ∧ SeqAt.shaped b = true then some (.da (.bool (!PyData.eqv a b))) else none
theorem eqF_ok {G H : Hp} {v w : V} {a b : D} {k : Bool} (h1 : Pk K G H v a) (h2 : Pk K G H w b) (e : eqF a b = some k) : scal v w = true ∧ decide (v = w) = k := by
  unfold eqF at e
  split at e <;> first | (cases e; done) | skip
  all_goals cases e
  all_goals first
    | (rw [h1.int, h2.int]; exact ⟨rfl, by rw [dec_int, Bool.beq_eq_decide_eq]⟩)
    | (rw [h1.str, h2.str]; exact ⟨rfl, by rw [dec_str, Bool.beq_eq_decide_eq]⟩)
    | (rw [h1.bool, h2.bool]; exact ⟨rfl, by rw [dec_bl, Bool.beq_eq_decide_eq]⟩)
    | (rw [h1.none, h2.none]; exact ⟨rfl, rfl⟩)
    | (rw [h1.none, h2.int]; exact ⟨rfl, rfl⟩)
    | (rw [h1.int, h2.none]; exact ⟨rfl, rfl⟩)
    | (rw [h1.none, h2.str]; exact ⟨rfl, rfl⟩)
    | (rw [h1.str, h2.none]; exact ⟨rfl, rfl⟩)
    | (rw [h1.none, h2.bool]; exact ⟨rfl, rfl⟩)
    | (rw [h1.bool, h2.none]; exact ⟨rfl, rfl⟩)
    | (rw [h1.int, h2.str]; exact ⟨rfl, rfl⟩)
    | (rw [h1.str, h2.int]; exact ⟨rfl, rfl⟩)
def rEqA (K : PySem.W.Frag) : R2 := fun x y H Q => rEq x y H Q ∨ rEqD K x y H Q
def rNeA (K : PySem.W.Frag) : R2 := fun x y H Q => rNe x y H Q ∨ rNeD K x y H Q
theorem op_eqA (hu : X.A.units + 64 < cLine) : OpR X (compareOp .Eq) (rEqA X.K) := OpR.or op_eq (op_eqD hu)
theorem op_neA (hu : X.A.units + 64 < cLine) : OpR X (compareOp .NotEq) (rNeA X.K) := OpR.or op_ne (op_neD hu)
theorem opd_eq : OpD K (rEqA K) pEq := by
  intro G H v w a b c Q e h1 h2 hp q
  unfold pEq at hp
  split at hp
  · cases hp
    rename_i k hk
    obtain ⟨s1, s2⟩ := eqF_ok h1 h2 hk
    exact .inl ⟨s1, by rw [s2]; exact fin_da e q (.bl _)⟩
  · split at hp
    · cases hp
      rename_i hs
      exact .inr ⟨a, b, Tp.dp a v (h1.tp e), Tp.dp b w (h2.tp e), hs.1, hs.2, fin_da e q (.bl _)⟩
    · cases hp
theorem opd_ne : OpD K (rNeA K) pNe := by
  intro G H v w a b c Q e h1 h2 hp q
  unfold pNe at hp
  split at hp
  · cases hp
    rename_i k hk
    obtain ⟨s1, s2⟩ := eqF_ok h1 h2 hk
    exact .inl ⟨s1, by rw [s2]; exact fin_da e q (.bl _)⟩
  · split at hp
    · cases hp
      rename_i hs
      exact .inr ⟨a, b, Tp.dp a v (h1.tp e), Tp.dp b w (h2.tp e), hs.1, hs.2, fin_da e q (.bl _)⟩
    · cases hp

/-! ### in -/
def toV : D → V
  | .none => .non
  | .bool b => .bl b
  | .int i => .int i
  | .str x => .str x
  | _ => .ref 0
def flatD : D → Bool
  | .none => true
  | .bool _ => true
  | .int _ => true
  | .str _ => true
  | _ => false
theorem Tp.flat {G : Hp} {v : V} {d : D} (h : Tp K G v d) (f : flatD d = true) : v = toV d ∧ flatV v = true := by
  cases d with
  | none => cases h; exact ⟨rfl, rfl⟩
  | bool b => cases h; exact ⟨rfl, rfl⟩
  | int i => cases h; exact ⟨rfl, rfl⟩
  | str x => cases h; exact ⟨rfl, rfl⟩
  | list ds => cases f
  | tuple ds => cases f
  | dict ds => cases f
theorem TpAll.flat {G : Hp} : ∀ {ds : List D} {vs : List V}, TpAll K G vs ds → ds.all flatD = true → vs = ds.map toV ∧ vs.all flatV = true
  | [], _, h, _ => by cases h; exact ⟨rfl, rfl⟩
  | d :: ds, _, h, f => by
    cases h with
    | cons h1 h2 =>
      rw [List.all_cons, Bool.and_eq_true] at f
      obtain ⟨e1, e2⟩ := h1.flat f.1
      obtain ⟨e3, e4⟩ := TpAll.flat h2 f.2
      exact ⟨by rw [e1, e3]; rfl, by rw [List.all_cons, e2, e4]; rfl⟩
theorem Pk.flat {G H : Hp} {v : V} {d : D} (h : Pk K G H v d) (f : flatD d = true) : v = toV d ∧ flatV v = true := by
  rcases h with h | ⟨_, _, _, _, e, _⟩
  · exact h.flat f
  · rw [e] at f; cases f
def inD (x : D) (ds : List D) : Bool := inV (toV x) (ds.map toV)
def pIn (neg : Bool) : D → D → Option Cell
  | x, .list ds => if flatD x = true ∧ ds.all flatD = true then some (.da (.bool (if neg then !inD x ds else inD x ds))) else none
  | x, .tuple ds => if flatD x = true ∧ ds.all flatD = true then some (.da (.bool (if neg then !inD x ds else inD x ds))) else none
  | .str i, .str j => some (.da (.bool (if neg then !(!(Builtin.Str.occurrences j i 0 j.length 1).isEmpty) else !(Builtin.Str.occurrences j i 0 j.length 1).isEmpty)))
  | _, _ => none
def rInS (neg : Bool) : R2 := fun x y H Q => ∃ i j, x = .str i ∧ y = .str j ∧ Q (.bl (if neg then !(!(Builtin.Str.occurrences j i 0 j.length 1).isEmpty) else !(Builtin.Str.occurrences j i 0 j.length 1).isEmpty)) H
def rInA (K : PySem.W.Frag) (neg : Bool) : R2 := fun x y H Q => rIn K neg x y H Q ∨ rInS neg x y H Q
theorem op_inA : OpR X (compareOp .In) (rInA X.K false) := OpR.or op_in_seq op_in_str
theorem op_niA : OpR X (compareOp .NotIn) (rInA X.K true) := OpR.or op_notIn_seq L2.op_notIn_str
theorem opd_in {neg : Bool} : OpD K (rInA K neg) (pIn neg) := by
  intro G H v w a b c Q e h1 h2 hp q
  unfold pIn at hp
  split at hp
  · split at hp
    · cases hp
      rename_i hf
      obtain ⟨p, vs, rfl, r, t⟩ := h2.list e
      obtain ⟨e1, f1⟩ := h1.flat hf.1
      obtain ⟨e2, f2⟩ := t.flat hf.2
      refine .inl ⟨p, vs, rfl, .inl (.inl r), f1, f2, ?_⟩
      rw [e1, e2]
      exact fin_da e q (.bl _)
    · cases hp
  · split at hp
    · cases hp
      rename_i hf
      obtain ⟨p, vs, rfl, r, t⟩ := h2.tuple e
      obtain ⟨e1, f1⟩ := h1.flat hf.1
      obtain ⟨e2, f2⟩ := t.flat hf.2
      refine .inl ⟨p, vs, rfl, .inr r, f1, f2, ?_⟩
      rw [e1, e2]
      exact fin_da e q (.bl _)
    · cases hp
  · cases hp
    rw [h1.str, h2.str]
    exact .inr ⟨_, _, rfl, rfl, fin_da e q (.bl _)⟩
  · cases hp

/-! ### items -/
def pIx : D → D → Option Cell
  | .list ds, .int i => (atI ds i).map Cell.da
  | .tuple ds, .int i => (atI ds i).map Cell.da
  | .str z, .int i => if z.length ≤ sizeLine then (atI z.cps.toList i).map fun c => Cell.da (.str ⟨#[c]⟩) else none
  | _, _ => none
theorem atI_tp {G : Hp} {vs : List V} {ds : List D} {i : Int} {d : D} (t : TpAll K G vs ds) (h : atI ds i = some d) : ∃ v, atI vs i = some v ∧ Tp K G v d := by
  unfold atI at h ⊢
  rw [t.length]
  cases e : ixN ds.length i with
  | none => rw [e] at h; cases h
  | some j =>
    rw [e] at h
    exact t.get h
theorem opd_ix : OpD K (rIx K) pIx := by
  intro G H v w a b c Q e h1 h2 hp q
  unfold pIx at hp
  split at hp
  · rename_i ds i
    obtain ⟨p, vs, rfl, r, t⟩ := h1.list e
    obtain ⟨d, hd, rfl⟩ := Option.map_eq_some_iff.mp hp
    obtain ⟨v, hv, tv⟩ := atI_tp t hd
    rw [h2.int]
    exact .inl ⟨p, vs, i, v, rfl, rfl, .inl r, hv, fin_da e q tv⟩
  · rename_i ds i
    obtain ⟨p, vs, rfl, r, t⟩ := h1.tuple e
    obtain ⟨d, hd, rfl⟩ := Option.map_eq_some_iff.mp hp
    obtain ⟨v, hv, tv⟩ := atI_tp t hd
    rw [h2.int]
    exact .inr (.inl ⟨p, vs, i, v, rfl, rfl, r, hv, fin_da e q tv⟩)
  · rename_i z i
    split at hp
    · rename_i hz
      obtain ⟨c, hc, rfl⟩ := Option.map_eq_some_iff.mp hp
      rw [h1.str, h2.int]
      exact .inr (.inr ⟨z, i, c, rfl, rfl, hz, hc, fin_da e q (.str _)⟩)
    · cases hp
  · cases hp
end

/-! ### as rules -/
section
variable {X : Cx} {ca : Str → Addr} {np : Nat} {W : WX} {pos : Pos} {a b : Expr} {f g : List Cell → ER}
theorem de_add (ha : PE X a (rE ⟨X.K, ca⟩ np W f)) (hb : PE X b (rE ⟨X.K, ca⟩ np W g)) : PE X (.BinOp a .Add b pos) (rE ⟨X.K, ca⟩ np W (e2 pAdd f g)) := pe_imp (pe_op op_addA ha hb) (e2_ok opd_add)
theorem de_sub (ha : PE X a (rE ⟨X.K, ca⟩ np W f)) (hb : PE X b (rE ⟨X.K, ca⟩ np W g)) : PE X (.BinOp a .Sub b pos) (rE ⟨X.K, ca⟩ np W (e2 pSub f g)) := pe_imp (pe_op op_sub ha hb) (e2_ok opd_sub)
theorem de_mul (ha : PE X a (rE ⟨X.K, ca⟩ np W f)) (hb : PE X b (rE ⟨X.K, ca⟩ np W g)) : PE X (.BinOp a .Mult b pos) (rE ⟨X.K, ca⟩ np W (e2 pMul f g)) := pe_imp (pe_op op_mulA ha hb) (e2_ok opd_mul)
theorem de_div (ha : PE X a (rE ⟨X.K, ca⟩ np W f)) (hb : PE X b (rE ⟨X.K, ca⟩ np W g)) : PE X (.BinOp a .FloorDiv b pos) (rE ⟨X.K, ca⟩ np W (e2 pDiv f g)) := pe_imp (pe_op op_divA ha hb) (e2_ok opd_div)
theorem de_mod (ha : PE X a (rE ⟨X.K, ca⟩ np W f)) (hb : PE X b (rE ⟨X.K, ca⟩ np W g)) : PE X (.BinOp a .Mod b pos) (rE ⟨X.K, ca⟩ np W (e2 pMod f g)) := pe_imp (pe_op op_modA ha hb) (e2_ok opd_mod)
theorem de_pow (ha : PE X a (rE ⟨X.K, ca⟩ np W f)) (hb : PE X b (rE ⟨X.K, ca⟩ np W g)) : PE X (.BinOp a .Pow b pos) (rE ⟨X.K, ca⟩ np W (e2 pPow f g)) := pe_imp (pe_op op_pow ha hb) (e2_ok opd_pow)
theorem de_neg (ha : PE X a (rE ⟨X.K, ca⟩ np W f)) : PE X (.UnaryOp .USub a pos) (rE ⟨X.K, ca⟩ np W (e1 pNeg f)) := pe_imp (pe_un un_neg ha) (e1_ok und_neg)
theorem de_ix (ha : PE X a (rE ⟨X.K, ca⟩ np W f)) (hb : PE X b (rE ⟨X.K, ca⟩ np W g)) (hs : PlainIx b := by exact fun _ _ => rfl) : PE X (.Subscript a b pos) (rE ⟨X.K, ca⟩ np W (e2 pIx f g)) := pe_imp (pe_ix ix_seq ha hb hs) (e2_ok opd_ix)
/-- a comparison as a value, as a test, by its rule -/
theorem de_cmp {op : CmpOp} {r : R2} {p : D → D → Option Cell} (ho : OpR X (compareOp op) r) (hp : OpD X.K r p) (ha : PE X a (rE ⟨X.K, ca⟩ np W f)) (hb : PE X b (rE ⟨X.K, ca⟩ np W g)) (hm : behindInMarks op b = false := by first | exact nobehind _ (by decide) (by decide) | rfl) :
    PE X (.Compare a [op] [b] pos) (rE ⟨X.K, ca⟩ np W (e2 p f g)) := pe_imp (pe_cmpR ho ha hb hm) (e2_ok hp)
theorem dt_cmpR {op : CmpOp} {r : R2} {p : D → D → Option Cell} (ho : OpR X (compareOp op) r) (hp : OpD X.K r p) (ha : PE X a (rE ⟨X.K, ca⟩ np W f)) (hb : PE X b (rE ⟨X.K, ca⟩ np W g)) (hm : behindInMarks op b = false := by first | exact nobehind _ (by decide) (by decide) | rfl) :
    PT X (.Compare a [op] [b] pos) (rT ⟨X.K, ca⟩ np W (tB (e2 p f g))) := dt_cmp (pt_cmpR ho ha hb hm) (e2_ok hp)
end
end TL
set_option Elab.async false
set_option linter.all false
set_option maxRecDepth 100000
set_option maxHeartbeats 4000000
/-! TL5: chains, displays, slices, built-in functions. -/
namespace TL
open PySem L2

/-! ### a < b <= c -/
section
variable {X : Cx} {ca : Str → Addr} {np : Nat} {W : WX} {pos : Pos} {a b c : Expr} {f g h : List Cell → ER}
/-- what a comparison of data says -/
def OpB (K : PySem.W.Frag) (r : R2) (p : D → D → Option Bool) : Prop := ∀ (G H : Hp) (v w : V) (a b : D) (k : Bool) (Q : VK), Same G H → Pk K G H v a → Pk K G H w b → p a b = some k → Q (.bl k) H → r v w H Q
def qCmp (f : Int → Int → Bool) : D → D → Option Bool
  | .int i, .int j => some (f i j)
  | _, _ => none
theorem opb_cmp {K : PySem.W.Frag} {f : Int → Int → Bool} : OpB K (rI0 fun i j => .bl (f i j)) (qCmp f) := by
  intro G H v w a b k Q e h1 h2 hp q
  unfold qCmp at hp
  split at hp
  · cases hp
    rw [h1.int, h2.int]
    exact ⟨_, _, rfl, rfl, q⟩
  · cases hp
def q2 (p : D → D → Option Bool) (a b : Cell) (cs : List Cell) : TR := match pk a cs, pk b cs with
  | some x, some y => match p x y with
    | some k => .val k cs
    | none => .bad
  | _, _ => .bad
@[simp] theorem q2_int (f : Int → Int → Bool) (i j : Int) (cs : List Cell) : q2 (qCmp f) (.da (.int i)) (.da (.int j)) cs = .val (f i j) cs := rfl
def t3 (p p' : D → D → Option Bool) (f g h : List Cell → ER) (cs : List Cell) : TR := (f cs).toT fun a cs1 => (g cs1).toT fun b cs2 => (q2 p a b cs2).bind fun k cs2 => if k = true then (h cs2).toT fun c cs3 => q2 p' b c cs3 else .val false cs2
def e3 (p p' : D → D → Option Bool) (f g h : List Cell → ER) (cs : List Cell) : ER := (t3 p p' f g h cs).toE fun k cs => .val (.da (.bool k)) cs
theorem q2_ok {T : Th} {r : R2} {p : D → D → Option Bool} {σ : St} {cs : List Cell} {G H H0 H01 : Hp} {x y : Cell} {v w : V} (hp : OpB T.K r p) (R : SRel T σ cs G H) (ha : VAt T σ cs G H0 H x v) (hb : VAt T σ cs G H01 H y w) {k : Bool} {cs' : List Cell}
    (e : q2 p x y cs = .val k cs') {Q : VK} (q : Q (.bl k) H) : cs' = cs ∧ r v w H Q := by
  unfold q2 at e
  split at e
  · rename_i d d' h1 h2
    split at e
    · rename_i k' hk
      cases e
      exact ⟨rfl, hp G H v w d d' k Q R.ex (pk_at R ha h1) (pk_at R hb h2) hk q⟩
    · cases e
  · cases e
theorem t3_ok {r r' : R2} {p p' : D → D → Option Bool} (hp : OpB X.K r p) (hp' : OpB X.K r' p') {Q : VK} : ∀ (σ : St) (H : Hp), rT ⟨X.K, ca⟩ np W (t3 p p' f g h) σ H (fun k H1 => Q (.bl k) H1) →
    tChain r r' (rE ⟨X.K, ca⟩ np W f) (rE ⟨X.K, ca⟩ np W g) (rE ⟨X.K, ca⟩ np W h) σ H Q := by
  rintro σ H ⟨cs, G, R, hh⟩
  refine rE_run R (TGood.toT hh .refl fun x cs1 G1 H1 v n1 R1 a1 h1 => rE_run R1 (TGood.toT h1 n1 fun y cs2 G2 H2 w n2 R2 a2 h2 => ?_))
  cases e : q2 p x y cs2 with
  | bad => rw [e] at h2; exact h2.elim
  | err e' c' => exfalso; unfold q2 at e; split at e <;> (try split at e) <;> cases e
  | val k cs' =>
    rw [e, TR.bind_val] at h2
    have n02 := n1.trans n2
    have key : ∀ {Q' : VK}, Q' (.bl k) H2 → r v w H2 Q' := fun q => (q2_ok hp R2 (a1.on n2) a2 e q).2
    obtain ⟨rfl, _⟩ := q2_ok (Q := fun _ _ => True) hp R2 (a1.on n2) a2 e trivial
    refine key ⟨k, rfl, ?_⟩
    cases k with
    | false => exact h2 G2 H2 n02 R2
    | true =>
      refine rE_run R2 (TGood.toT h2 n02 fun z cs3 G3 H3 u n3 R3 a3 h3 => ?_)
      cases e3 : q2 p' y z cs3 with
      | bad => rw [e3] at h3; exact h3.elim
      | err e' c' => exfalso; unfold q2 at e3; split at e3 <;> (try split at e3) <;> cases e3
      | val k2 cs' =>
        rw [e3] at h3
        obtain ⟨rfl, _⟩ := q2_ok (Q := fun _ _ => True) hp' R3 (a2.on n3) a3 e3 trivial
        exact (q2_ok (Q := Q) hp' R3 (a2.on n3) a3 e3 (h3 G3 H3 (n02.trans n3) R3)).2
theorem dt_chain {op op' : CmpOp} {r r' : R2} {p p' : D → D → Option Bool} (ho : OpR X (compareOp op) r) (ho' : OpR X (compareOp op') r') (hp : OpB X.K r p) (hp' : OpB X.K r' p') (ha : PE X a (rE ⟨X.K, ca⟩ np W f)) (hb : PE X b (rE ⟨X.K, ca⟩ np W g)) (hc : PE X c (rE ⟨X.K, ca⟩ np W h))
    (hm : lastMarks [op, op'] [b, c] = false := by with_unfolding_all rfl) : PT X (.Compare a [op, op'] [b, c] pos) (rT ⟨X.K, ca⟩ np W (t3 p p' f g h)) :=
  pt_imp (pt_chain ho ho' ha hb hc hm) fun σ H Q ⟨cs, G, R, hh⟩ => t3_ok (Q := fun z H1 => ∃ k, z = .bl k ∧ Q k H1) hp hp' σ H ⟨cs, G, R, TGood.imp hh fun k H1 q => ⟨k, rfl, q⟩⟩
theorem de_chain {op op' : CmpOp} {r r' : R2} {p p' : D → D → Option Bool} (ho : OpR X (compareOp op) r) (ho' : OpR X (compareOp op') r') (hp : OpB X.K r p) (hp' : OpB X.K r' p') (ha : PE X a (rE ⟨X.K, ca⟩ np W f)) (hb : PE X b (rE ⟨X.K, ca⟩ np W g)) (hc : PE X c (rE ⟨X.K, ca⟩ np W h))
    (hm : lastMarks [op, op'] [b, c] = false := by with_unfolding_all rfl) : PE X (.Compare a [op, op'] [b, c] pos) (rE ⟨X.K, ca⟩ np W (e3 p p' f g h)) :=
  pe_imp (pe_chain ho ho' ha hb hc hm) fun σ H Q ⟨cs, G, R, hh⟩ => t3_ok hp hp' σ H ⟨cs, G, R, TGood.ofE hh .refl fun k cs1 G1 H1 n1 R1 h1 => h1 G1 H1 (.bl k) n1 R1 da_true⟩
end

/-! ### displays -/
def dAll : List Cell → Option (List D)
  | [] => some []
  | .da d :: r => (dAll r).map (d :: ·)
  | _ :: _ => none
@[simp] theorem dAll_nil : dAll [] = some [] := rfl
@[simp] theorem dAll_cons (d : D) (r : List Cell) : dAll (.da d :: r) = (dAll r).map (d :: ·) := rfl
def eTup (f : List Cell → AR) (cs : List Cell) : ER := (f cs).toE fun c cs1 => match dAll c with
  | some ds => if ds.length ≤ sizeLine then .val (.da (.tuple ds)) cs1 else .bad
  | none => .bad
def eLst (f : List Cell → AR) (cs : List Cell) : ER := (f cs).toE fun c cs1 => match dAll c with
  | some ds => if ds.length ≤ sizeLine then .val (.ol ds) cs1 else .bad
  | none => .bad
theorem dAll_at {T : Th} {σ : St} {cs : List Cell} {G H0 H : Hp} : ∀ {c : List Cell} {vs : List V} {ds : List D}, VAts T σ cs G H0 H c vs → dAll c = some ds → TpAll T.K G vs ds
  | [], [], _, _, e => by cases e; exact .nil
  | .da d :: r, v :: vs, ds, h, e => by
    obtain ⟨ds', e', rfl⟩ := Option.map_eq_some_iff.mp e
    obtain ⟨w, e2, t⟩ := h.1.1
    cases e2
    exact .cons t (dAll_at h.2.1 e')
  | .un :: _, _, _, _, e => by cases e
  | .ol _ :: _, _, _, _, e => by cases e
  | .bw _ :: _, _, _, _, e => by cases e
  | .ex _ :: _, _, _, _, e => by cases e
  | [], _ :: _, _, h, _ => h.elim
  | .da _ :: _, [], _, h, _ => h.elim
section
variable {X : Cx} {ca : Str → Addr} {np : Nat} {W : WX} {pos : Pos} {es : List Expr} {f : List Cell → AR}
theorem de_tup {k} (h : PA X es (rA ⟨X.K, ca⟩ np W f)) : PE X (.Tuple es k pos) (rE ⟨X.K, ca⟩ np W (eTup f)) := by
  refine pe_imp (pe_tup h) ?_
  rintro σ H Q ⟨cs, G, R, hh⟩
  refine rA_run R (AGood.ofE hh .refl fun c cs1 G1 H1 vs n1 R1 a1 h1 => ?_)
  split at h1
  · rename_i ds e
    have t := dAll_at a1 e
    by_cases hl : ds.length ≤ sizeLine
    · rw [if_pos hl] at h1
      exact ⟨by rw [t.length]; exact hl, fin_tup R1.ex (fun G' H' v' p a => (h1.on n1).pure R1 p a) t⟩
    · rw [if_neg hl] at h1; exact h1.elim
  · exact h1.elim
theorem de_lst (h : PA X es (rA ⟨X.K, ca⟩ np W f)) : PE X (.List es pos) (rE ⟨X.K, ca⟩ np W (eLst f)) := by
  refine pe_imp (pe_lst h) ?_
  rintro σ H Q ⟨cs, G, R, hh⟩
  refine rA_run R (AGood.ofE hh .refl fun c cs1 G1 H1 vs n1 R1 a1 h1 => ?_)
  split at h1
  · rename_i ds e
    have t := dAll_at a1 e
    by_cases hl : ds.length ≤ sizeLine
    · rw [if_pos hl] at h1
      exact ⟨by rw [t.length]; exact hl, fin_lst R1.ex (fun G' H' v' p a => (h1.on n1).pure R1 p a) t⟩
    · rw [if_neg hl] at h1; exact h1.elim
  · exact h1.elim
end

/-! ### slices -/
inductive OR where
  | val (o : Option Int) (cs : List Cell) | err (e : Err) (cs : List Cell) | bad
def OR.toE (r : OR) (k : Option Int → List Cell → ER) : ER := match r with
  | .val c cs => k c cs
  | .err e cs => .err e cs
  | .bad => .bad
@[simp] theorem OR.toE_val (c : Option Int) (cs : List Cell) (k : Option Int → List Cell → ER) : (OR.val c cs).toE k = k c cs := rfl
@[simp] theorem OR.toE_err (e : Err) (cs : List Cell) (k : Option Int → List Cell → ER) : (OR.err e cs).toE k = .err e cs := rfl
@[simp] theorem OR.toE_bad (k : Option Int → List Cell → ER) : OR.bad.toE k = .bad := rfl
def oNone (cs : List Cell) : OR := .val none cs
def oSome (f : List Cell → ER) (cs : List Cell) : OR := match f cs with
  | .val (.da (.int i)) cs1 => .val (some i) cs1
  | .err e cs1 => .err e cs1
  | _ => .bad
section
variable (T : Th) (np : Nat) (W : WX)
def OGood (Q : Option Int → Hp → Prop) (σ : St) (cs : List Cell) (G H : Hp) : OR → Prop
  | .val b cs' => ∀ G' H', Nxt np σ cs G H σ cs' G' H' → SRel T σ cs' G' H' → Q b H'
  | .err e cs' => ∀ G' H' d, Nxt np σ cs G H σ cs' G' H' → SRel T σ cs' G' H' → ErrAt T G' H' e d → W (.ref (T.ca e.nm)) d σ H'
  | .bad => False
def rO (f : List Cell → OR) : TO := fun σ H Q => ∃ cs G, SRel T σ cs G H ∧ OGood T np W Q σ cs G H (f cs)
end
section
variable {T : Th} {np : Nat} {W : WX} {σ : St} {cs cs1 : List Cell} {G H G1 H1 : Hp} {X : Cx} {e : Expr}
theorem OGood.ofE {r : OR} {k : Option Int → List Cell → ER} {Q : VK} {Q' : Option Int → Hp → Prop} (g : EGood T np W Q σ cs G H (r.toE k)) (n : Nxt np σ cs G H σ cs1 G1 H1)
    (hk : ∀ b cs' G' H', Nxt np σ cs1 G1 H1 σ cs' G' H' → SRel T σ cs' G' H' → EGood T np W Q σ cs G H (k b cs') → Q' b H') : OGood T np W Q' σ cs1 G1 H1 r := by
  cases r with
  | val c cs' => exact fun G' H' m R => hk c cs' G' H' m R g
  | err e cs' => exact fun G' H' d m R a => g G' H' d (n.trans m) R a
  | bad => exact g
theorem do_none : PO X none (rO T np W oNone) := ⟨fun pins s σ H Q I ⟨cs, G, R, h⟩ => po_none.run pins s σ H Q I (h G H .refl R)⟩
theorem do_some {f : List Cell → ER} (h : PE X e (rE T np W f)) : PO X (some e) (rO T np W (oSome f)) := by
  refine ⟨fun pins s σ H Q I ⟨cs, G, R, hh⟩ => (po_some h).run pins s σ H Q I (rE_run R ?_)⟩
  unfold oSome at hh
  cases e : f cs with
  | bad => rw [e] at hh; exact hh.elim
  | err e' c => rw [e] at hh; exact hh
  | val c cs1 =>
    rw [e] at hh
    intro G1 H1 v n1 R1 a1
    cases c with
    | da d =>
      obtain ⟨w, e2, t⟩ := a1.1
      cases e2
      cases d with
      | int i => cases t; exact ⟨i, rfl, hh G1 H1 n1 R1⟩
      | _ => exact hh.elim
    | _ => exact hh.elim
end
def cutD {α : Type} (xs : List α) (lo hi : Option Int) : List α := (xs.drop (HT.sIx xs.length 0 lo)).take (HT.sIx xs.length xs.length hi - HT.sIx xs.length 0 lo)
def pSl (d : D) (lo hi : Option Int) : Option Cell := match d with
  | .list ds => some (.ol (cutD ds lo hi))
  | .tuple ds => if HT.sIx ds.length 0 lo = 0 ∧ HT.sIx ds.length ds.length hi = ds.length then none else some (.da (.tuple (cutD ds lo hi)))
  | .str z => if z.length ≤ sizeLine then some (.da (.str (cutS z lo hi))) else none
  | _ => none
def eSl (f : List Cell → ER) (g h : List Cell → OR) (cs : List Cell) : ER := (f cs).bind fun c cs1 => (g cs1).toE fun lo cs2 => (h cs2).toE fun hi cs3 => match pk c cs3 with
  | some d => ofO (pSl d lo hi) cs3
  | none => .bad
def pRev : D → Option Cell
  | .list ds => some (.ol ds.reverse)
  | _ => none
theorem tpAll_cut {K : PySem.W.Frag} {G : Hp} {vs : List V} {ds : List D} (t : TpAll K G vs ds) (lo hi : Option Int) : TpAll K G (cutV vs lo hi) (cutD ds lo hi) := by
  unfold cutV cutD
  rw [t.length]
  exact (t.drop _).take _
def rSlAll (K : PySem.W.Frag) : V → Option Int → Option Int → Hp → VK → Prop := fun x lo hi H Q => rSlL K x lo hi H Q ∨ rSlT K x lo hi H Q ∨ rSlS x lo hi H Q
section
variable {X : Cx} {ca : Str → Addr} {np : Nat} {W : WX} {pos p2 : Pos} {e : Expr} {l u : Option Expr} {f : List Cell → ER} {g h : List Cell → OR}
theorem de_slice (he : PE X e (rE ⟨X.K, ca⟩ np W f)) (hl : PO X l (rO ⟨X.K, ca⟩ np W g)) (hu : PO X u (rO ⟨X.K, ca⟩ np W h)) : PE X (.Subscript e (.Slice l u none p2) pos) (rE ⟨X.K, ca⟩ np W (eSl f g h)) := by
  refine pe_imp (pe_slice (r := rSlAll X.K) (SlR.or sl_list (SlR.or sl_tup sl_str)) he hl hu) ?_
  rintro σ H Q ⟨cs, G, R, hh⟩
  refine rE_run R (EGood.bind hh .refl fun c cs1 G1 H1 v n1 R1 a1 h1 => ⟨cs1, G1, R1, OGood.ofE h1 n1 fun lo cs2 G2 H2 n2 R2 h2 => ⟨cs2, G2, R2, OGood.ofE h2 (n1.trans n2) fun hi cs3 G3 H3 n3 R3 h3 => ?_⟩⟩)
  have n13 := n2.trans n3
  have n03 := n1.trans n13
  split at h3
  · rename_i d ed
    have p := pk_at R3 (a1.on n13) ed
    cases ep : pSl d lo hi with
    | none => rw [ep] at h3; exact h3.elim
    | some c' =>
      rw [ep] at h3
      have fin : ∀ G' H' v', Pure G3 H3 G' H' → RAt X.K G' H3 H' c' v' → Q v' H' := fun G' H' v' pu a => (h3.on n03).pure R3 pu a
      unfold pSl at ep
      split at ep
      · cases ep
        obtain ⟨q, vs, rfl, r, t⟩ := p.list R3.ex
        exact .inl ⟨q, vs, rfl, .inl r, fin_lst R3.ex fin (tpAll_cut t lo hi)⟩
      · split at ep
        · cases ep
        · cases ep
          rename_i hw
          obtain ⟨q, vs, rfl, r, t⟩ := p.tuple R3.ex
          exact .inr (.inl ⟨q, vs, rfl, r, by rw [t.length]; exact hw, fin_tup R3.ex fin (tpAll_cut t lo hi)⟩)
      · split at ep
        · cases ep
          rename_i hz
          rw [p.str]
          exact .inr (.inr ⟨_, rfl, hz, fin_da R3.ex fin (.str _)⟩)
        · cases ep
      · cases ep
  · exact h3.elim
theorem de_rev {k : Nat} {p1 p3 p4 : Pos} (he : PE X e (rE ⟨X.K, ca⟩ np W f)) : PE X (.Subscript e (.Slice none none (some (.UnaryOp .USub (.Constant (.int 1) k p1) p3)) p4) pos) (rE ⟨X.K, ca⟩ np W (e1 pRev f)) := by
  refine pe_imp (pe_revL he) ?_
  rintro σ H Q ⟨cs, G, R, hh⟩
  refine rE_run R (EGood.bind hh .refl fun c cs1 G1 H1 v n1 R1 a1 h1 => ?_)
  unfold k1 at h1
  split at h1
  · rename_i d ed
    have p := pk_at R1 a1 ed
    cases ep : pRev d with
    | none => rw [ep] at h1; exact h1.elim
    | some c' =>
      rw [ep] at h1
      unfold pRev at ep
      split at ep
      · cases ep
        obtain ⟨q, vs, rfl, r, t⟩ := p.list R1.ex
        exact ⟨q, vs, rfl, .inl r, fin_lst R1.ex (fun G' H' v' pu a => (h1.on n1).pure R1 pu a) t.reverse⟩
      · cases ep
  · exact h1.elim
end

/-! ### built-in functions -/
section
variable {K : PySem.W.Frag}
def pLen : List D → Option Cell
  | [.list ds] => some (.da (.int ds.length))
  | [.tuple ds] => some (.da (.int ds.length))
  | [.str z] => if z.length ≤ sizeLine then some (.da (.int z.length)) else none
  | _ => none
theorem pkAll_one {G H : Hp} {vs : List V} {d : D} (h : PkAll K G H vs [d]) : ∃ v, vs = [v] ∧ Pk K G H v d := by
  cases h with
  | cons h1 h2 => cases h2; exact ⟨_, rfl, h1⟩
theorem pkAll_two {G H : Hp} {vs : List V} {d d' : D} (h : PkAll K G H vs [d, d']) : ∃ v w, vs = [v, w] ∧ Pk K G H v d ∧ Pk K G H w d' := by
  cases h with
  | cons h1 h2 =>
    obtain ⟨w, rfl, h3⟩ := pkAll_one h2
    exact ⟨_, w, rfl, h1, h3⟩
theorem cd_len {X : Cx} : CallR X (.builtin "len") (fun xs H Q => (∃ p ys, xs = [.ref p] ∧ (SqL X.K H p ys ∨ SqT X.K H p ys) ∧ Q (.int ys.length) H) ∨ ∃ z, xs = [.str z] ∧ z.length ≤ sizeLine ∧ Q (.int z.length) H) := call_len_seq.or call_len_str
theorem opd_len : CallD K (fun xs H Q => (∃ p ys, xs = [.ref p] ∧ (SqL K H p ys ∨ SqT K H p ys) ∧ Q (.int ys.length) H) ∨ ∃ z, xs = [.str z] ∧ z.length ≤ sizeLine ∧ Q (.int z.length) H) pLen := by
  intro G H vs ds c Q e h hp q
  unfold pLen at hp
  split at hp
  · cases hp
    obtain ⟨v, rfl, p⟩ := pkAll_one h
    obtain ⟨a, ws, rfl, r, t⟩ := p.list e
    exact .inl ⟨a, ws, rfl, .inl (.inl r), by rw [t.length]; exact fin_da e q (.int _)⟩
  · cases hp
    obtain ⟨v, rfl, p⟩ := pkAll_one h
    obtain ⟨a, ws, rfl, r, t⟩ := p.tuple e
    exact .inl ⟨a, ws, rfl, .inr r, by rw [t.length]; exact fin_da e q (.int _)⟩
  · split at hp
    · cases hp
      rename_i hz
      obtain ⟨v, rfl, p⟩ := pkAll_one h
      rw [p.str]
      exact .inr ⟨_, rfl, hz, fin_da e q (.int _)⟩
    · cases hp
  · cases hp
def pAbs : List D → Option Cell
  | [.int i] => some (.da (.int (if i < 0 then -i else i)))
  | _ => none
theorem opd_abs : CallD K (fun xs H Q => ∃ i, xs = [.int i] ∧ Q (.int (if i < 0 then -i else i)) H) pAbs := by
  intro G H vs ds c Q e h hp q
  unfold pAbs at hp
  split at hp
  · cases hp
    obtain ⟨v, rfl, p⟩ := pkAll_one h
    rw [p.int]
    exact ⟨_, rfl, fin_da e q (.int _)⟩
  · cases hp
def pInt2 (f : Int → Int → Int) : List D → Option Cell
  | [.int i, .int j] => some (.da (.int (f i j)))
  | _ => none
theorem opd_int2 {f : Int → Int → Int} : CallD K (fun xs H Q => ∃ i j, xs = [.int i, .int j] ∧ Q (.int (f i j)) H) (pInt2 f) := by
  intro G H vs ds c Q e h hp q
  unfold pInt2 at hp
  split at hp
  · cases hp
    obtain ⟨v, w, rfl, p, p'⟩ := pkAll_two h
    rw [p.int, p'.int]
    exact ⟨_, _, rfl, fin_da e q (.int _)⟩
  · cases hp
abbrev fMax : Int → Int → Int := fun i j => if j > i then j else i
abbrev fMin : Int → Int → Int := fun i j => if j < i then j else i
abbrev fGcd : Int → Int → Int := fun i j => ((Nat.gcd i.natAbs j.natAbs : Nat) : Int)
def pInt : List D → Option Cell
  | [.int i] => some (.da (.int i))
  | [.bool k] => some (.da (.int (if k then 1 else 0)))
  | _ => none
theorem opd_int : CallD K (fun xs H Q => (∃ i, xs = [.int i] ∧ Q (.int i) H) ∨ ∃ k, xs = [.bl k] ∧ Q (.int (if k then 1 else 0)) H) pInt := by
  intro G H vs ds c Q e h hp q
  unfold pInt at hp
  split at hp
  · cases hp
    obtain ⟨v, rfl, p⟩ := pkAll_one h
    rw [p.int]
    exact .inl ⟨_, rfl, fin_da e q (.int _)⟩
  · cases hp
    obtain ⟨v, rfl, p⟩ := pkAll_one h
    rw [p.bool]
    exact .inr ⟨_, rfl, fin_da e q (.int _)⟩
  · cases hp
def intsOf : List D → Option (List Int)
  | [] => some []
  | .int i :: r => (intsOf r).map (i :: ·)
  | _ :: _ => none
theorem intsOf_eq : ∀ {ds : List D} {ns : List Int}, intsOf ds = some ns → ds = ns.map PyData.int
  | [], _, e => by cases e; rfl
  | .int i :: r, _, e => by
    obtain ⟨ns, e', rfl⟩ := Option.map_eq_some_iff.mp e
    rw [intsOf_eq e']; rfl
  | .none :: _, _, e => by cases e
  | .bool _ :: _, _, e => by cases e
  | .str _ :: _, _, e => by cases e
  | .list _ :: _, _, e => by cases e
  | .tuple _ :: _, _, e => by cases e
  | .dict _ :: _, _, e => by cases e
@[simp] theorem intsOf_map (ns : List Int) : intsOf (ns.map PyData.int) = some ns := by
  induction ns with
  | nil => rfl
  | cons n ns ih => show (intsOf (ns.map PyData.int)).map (n :: ·) = _; rw [ih]; rfl
def boolsOf : List D → Option (List Bool)
  | [] => some []
  | .bool i :: r => (boolsOf r).map (i :: ·)
  | _ :: _ => none
theorem boolsOf_eq : ∀ {ds : List D} {ns : List Bool}, boolsOf ds = some ns → ds = ns.map PyData.bool
  | [], _, e => by cases e; rfl
  | .bool i :: r, _, e => by
    obtain ⟨ns, e', rfl⟩ := Option.map_eq_some_iff.mp e
    rw [boolsOf_eq e']; rfl
  | .none :: _, _, e => by cases e
  | .int _ :: _, _, e => by cases e
  | .str _ :: _, _, e => by cases e
  | .list _ :: _, _, e => by cases e
  | .tuple _ :: _, _, e => by cases e
  | .dict _ :: _, _, e => by cases e
@[simp] theorem boolsOf_map (ns : List Bool) : boolsOf (ns.map PyData.bool) = some ns := by
  induction ns with
  | nil => rfl
  | cons n ns ih => show (boolsOf (ns.map PyData.bool)).map (n :: ·) = _; rw [ih]; rfl
/-- a function of a list of ints -/
def pInts (f : List Int → Option Cell) : List D → Option Cell
  | [.list ds] => (intsOf ds).bind f
  | _ => none
def pBools (f : List Bool → Option Cell) : List D → Option Cell
  | [.list ds] => (boolsOf ds).bind f
  | _ => none
theorem pInts_at {G H : Hp} {f : List Int → Option Cell} {vs : List V} {ds : List D} {c : Cell} (e : Same G H) (h : PkAll K G H vs ds) (hp : pInts f ds = some c) : ∃ a ns, vs = [.ref a] ∧ Rd H a (.lst (ns.map V.int)) ∧ f ns = some c := by
  unfold pInts at hp
  split at hp
  · obtain ⟨v, rfl, p⟩ := pkAll_one h
    obtain ⟨a, ws, rfl, r, t⟩ := p.list e
    obtain ⟨ns, en, ef⟩ := Option.bind_eq_some_iff.mp hp
    have z := intsOf_eq en
    subst z
    have z := tpAll_ints t
    subst z
    exact ⟨a, ns, rfl, r, ef⟩
  · cases hp
theorem pBools_at {G H : Hp} {f : List Bool → Option Cell} {vs : List V} {ds : List D} {c : Cell} (e : Same G H) (h : PkAll K G H vs ds) (hp : pBools f ds = some c) : ∃ a ns, vs = [.ref a] ∧ Rd H a (.lst (ns.map V.bl)) ∧ f ns = some c := by
  unfold pBools at hp
  split at hp
  · obtain ⟨v, rfl, p⟩ := pkAll_one h
    obtain ⟨a, ws, rfl, r, t⟩ := p.list e
    obtain ⟨ns, en, ef⟩ := Option.bind_eq_some_iff.mp hp
    have z := boolsOf_eq en
    subst z
    have z := tpAll_bools t
    subst z
    exact ⟨a, ns, rfl, r, ef⟩
  · cases hp
theorem opd_sum : CallD K (rSum K) (pInts fun ns => some (.da (.int ns.sum))) := by
  intro G H vs ds c Q e h hp q
  obtain ⟨a, ns, rfl, r, ef⟩ := pInts_at e h hp
  cases ef
  exact ⟨a, ns, rfl, .inl r, fin_da e q (.int _)⟩
def lMax (ns : List Int) : Int := ns.foldl (fun a b => if a < b then b else a) (ns.headD 0)
theorem lMax_go : ∀ (ns : List Int) (a m : Int), (m = a ∨ m ∈ ns) → a ≤ m → (∀ y ∈ ns, y ≤ m) → ns.foldl (fun a b => if a < b then b else a) a = m
  | [], a, m, h, _, _ => by rcases h with h | h; exact h.symm; cases h
  | n :: ns, a, m, h, h1, h2 => by
    rw [List.foldl_cons]
    have hn := h2 n List.mem_cons_self
    refine lMax_go ns _ m ?_ (by split <;> omega) fun y hy => h2 y (List.mem_cons_of_mem _ hy)
    rcases h with h | h
    · left; split <;> omega
    · rcases List.mem_cons.mp h with h | h
      · left; split <;> omega
      · exact .inr h
theorem lMax_eq {ns : List Int} {m : Int} (h : m ∈ ns) (h2 : ∀ y ∈ ns, y ≤ m) : lMax ns = m := by
  cases ns with
  | nil => cases h
  | cons n ns => exact lMax_go _ _ _ (.inr h) (h2 n List.mem_cons_self) h2
theorem opd_max : CallD K (rMax K) (pInts fun ns => if 0 < ns.length then some (.da (.int (lMax ns))) else none) := by
  intro G H vs ds c Q e h hp q
  obtain ⟨a, ns, rfl, r, ef⟩ := pInts_at e h hp
  split at ef
  · cases ef
    rename_i hl
    exact ⟨a, ns, rfl, .inl r, hl, fun m h1 h2 => by rw [← lMax_eq h1 h2]; exact fin_da e q (.int _)⟩
  · cases ef
theorem opd_all : CallD K (rAll K) (pBools fun ns => some (.da (.bool (ns.all id)))) := by
  intro G H vs ds c Q e h hp q
  obtain ⟨a, ns, rfl, r, ef⟩ := pBools_at e h hp
  cases ef
  exact ⟨a, ns, rfl, .inl r, fin_da e q (.bl _)⟩
theorem opd_any : CallD K (rAny K) (pBools fun ns => some (.da (.bool (ns.any id)))) := by
  intro G H vs ds c Q e h hp q
  obtain ⟨a, ns, rfl, r, ef⟩ := pBools_at e h hp
  cases ef
  exact ⟨a, ns, rfl, .inl r, fin_da e q (.bl _)⟩
def pListOf : List D → Option Cell
  | [.list ds] => some (.ol ds)
  | [.tuple ds] => some (.ol ds)
  | _ => none
theorem opd_listOf : CallD K (fun xs H Q => ∃ p ys, xs = [.ref p] ∧ (SqL K H p ys ∨ SqT K H p ys) ∧ ∀ l, H l = none → Q (.ref l) (upd H l (.lst ys))) pListOf := by
  intro G H vs ds c Q e h hp q
  unfold pListOf at hp
  split at hp
  · cases hp
    obtain ⟨v, rfl, p⟩ := pkAll_one h
    obtain ⟨a, ws, rfl, r, t⟩ := p.list e
    exact ⟨a, ws, rfl, .inl (.inl r), fin_lst e q t⟩
  · cases hp
    obtain ⟨v, rfl, p⟩ := pkAll_one h
    obtain ⟨a, ws, rfl, r, t⟩ := p.tuple e
    exact ⟨a, ws, rfl, .inr r, fin_lst e q t⟩
  · cases hp
def pTupOf : List D → Option Cell
  | [.list ds] => some (.da (.tuple ds))
  | [.tuple ds] => some (.da (.tuple ds))
  | _ => none
theorem opd_tupOf : CallD K (fun xs H Q => ∃ p ys, xs = [.ref p] ∧ ((SqL K H p ys ∧ ∀ l, H l = none → Q (.ref l) (upd H l (.tup ys))) ∨ (SqT K H p ys ∧ Q (.ref p) H))) pTupOf := by
  intro G H vs ds c Q e h hp q
  unfold pTupOf at hp
  split at hp
  · cases hp
    obtain ⟨v, rfl, p⟩ := pkAll_one h
    obtain ⟨a, ws, rfl, r, t⟩ := p.list e
    exact ⟨a, ws, rfl, .inl ⟨.inl r, fin_tup e q t⟩⟩
  · cases hp
    obtain ⟨v, rfl, p⟩ := pkAll_one h
    rcases p with p | ⟨_, _, _, _, e', _⟩
    · cases p with
      | tup hs ha => exact ⟨_, _, rfl, .inr ⟨sqt_mono e hs, fin_da e q (.tup hs ha)⟩⟩
    · cases e'
  · cases hp
/-- the ints in rising order -/
def sortI (ns : List Int) : List Int := ns.mergeSort (fun a b => decide (a ≤ b))
theorem sortI_perm (ns : List Int) : (sortI ns).Perm ns := List.mergeSort_perm ..
theorem sortI_up (ns : List Int) : (sortI ns).Pairwise (· ≤ ·) := by
  have := List.pairwise_mergeSort (le := fun a b : Int => decide (a ≤ b)) (fun a b c => by simp; omega) (fun a b => by simp; omega) ns
  exact this.imp (by simp)
theorem up_eq : ∀ {xs ys : List Int}, xs.Perm ys → xs.Pairwise (· ≤ ·) → ys.Pairwise (· ≤ ·) → xs = ys := fun p h1 h2 =>
  p.eq_of_pairwise (fun a b _ _ => Int.le_antisymm) h1 h2
theorem opd_sorted : CallD K (rSortedI K) (pInts fun ns => some (.ol ((sortI ns).map PyData.int))) := by
  intro G H vs ds c Q e h hp q
  obtain ⟨a, ns, rfl, r, ef⟩ := pInts_at e h hp
  cases ef
  refine ⟨a, ns, rfl, .inl r, fun ns' p h1 h2 hp => ?_⟩
  have z : ns' = sortI ns := up_eq (h1.trans (sortI_perm ns).symm) h2 (sortI_up ns)
  subst z
  exact fin_lst e q tpAll_of_ints p hp
end
end TL
set_option Elab.async false
set_option linter.all false
set_option maxRecDepth 100000
set_option maxHeartbeats 4000000
/-! TL6: statements. -/
namespace TL
open PySem L2

/-! ### stores -/
def canSet (np i : Nat) (cs : List Cell) : Bool := decide (np ≤ i) || !(match cs[i]? with
  | some c => c.own
  | none => false)
theorem canSet_loc {np i : Nat} {cs : List Cell} (h : np ≤ i) : canSet np i cs = true := by unfold canSet; simp [h]
section
variable {T : Th} {np : Nat} {σ σ0 : St} {cs cs0 : List Cell} {G G0 H H0 : Hp} {c : Cell} {v : V} {i : Nat}
theorem cat_slots {σ' : St} {o : Option (Option V)} (h : CAt T σ G H c o) (hb : ∀ j, c ≠ .bw j) : CAt T σ' G H c o := by
  cases c with
  | un => trivial
  | da d => exact h
  | ol ds => exact h
  | ex nm => exact h
  | bw j => exact absurd rfl (hb j)
theorem own_store {q : Addr} (h : Own (σ.set i (some v)) (cs.set i c) q) : Own σ cs q ∨ (c.own = true ∧ v = .ref q) := by
  obtain ⟨j, c', h1, h2, h3⟩ := h
  by_cases hj : i = j
  · subst hj
    by_cases hl : i < cs.length
    · rw [List.getElem?_set_self hl] at h1
      cases h1
      by_cases hs : i < σ.length
      · rw [List.getElem?_set_self hs] at h3
        cases h3
        exact .inr ⟨h2, rfl⟩
      · rw [List.getElem?_eq_none (by simpa using hs)] at h3; cases h3
    · rw [List.getElem?_eq_none (by simpa using hl)] at h1; cases h1
  · rw [List.getElem?_set_ne hj] at h1 h3
    exact .inl ⟨j, c', h1, h2, h3⟩
theorem store_ok1 (R : SRel T σ cs G H) (h : CAt T σ G H c (some (some v))) (hb : ∀ j, c ≠ .bw j) (no : c.own = true → ∀ p, v = .ref p → ¬ Own σ cs p) : SRel T (σ.set i (some v)) (cs.set i c) G H := by
  refine ⟨by rw [List.length_set, List.length_set]; exact R.len, R.ex, fun j c' hj => ?_, fun j l hj => ?_, fun j l q cj cl hjl h1 h2 h3 h4 h5 h6 => ?_⟩
  · by_cases hij : i = j
    · subst hij
      by_cases hl : i < cs.length
      · rw [List.getElem?_set_self hl] at hj
        cases hj
        rw [List.getElem?_set_self (by rw [R.len]; exact hl)]
        exact cat_slots h hb
      · rw [List.getElem?_eq_none (by simpa using hl)] at hj; cases hj
    · rw [List.getElem?_set_ne hij] at hj ⊢
      exact cat_slots (R.at_ j c' hj) fun l z => R.nobw j l (z ▸ hj)
  · by_cases hij : i = j
    · subst hij
      by_cases hl : i < cs.length
      · rw [List.getElem?_set_self hl] at hj; cases hj; exact hb l rfl
      · rw [List.getElem?_eq_none (by simpa using hl)] at hj; cases hj
    · rw [List.getElem?_set_ne hij] at hj; exact R.nobw j l hj
  · by_cases hj : i = j
    · subst hj
      have hl : i ≠ l := hjl
      rw [List.getElem?_set_ne hl] at h2 h6
      by_cases hlt : i < cs.length
      · rw [List.getElem?_set_self hlt] at h1
        cases h1
        rw [List.getElem?_set_self (by rw [R.len]; exact hlt)] at h5
        cases h5
        exact no h3 q rfl ⟨l, cl, h2, h4, h6⟩
      · rw [List.getElem?_eq_none (by simpa using hlt)] at h1; cases h1
    · rw [List.getElem?_set_ne hj] at h1 h5
      by_cases hl : i = l
      · subst hl
        by_cases hlt : i < cs.length
        · rw [List.getElem?_set_self hlt] at h2
          cases h2
          rw [List.getElem?_set_self (by rw [R.len]; exact hlt)] at h6
          cases h6
          exact no h4 q rfl ⟨j, cj, h1, h3, h5⟩
        · rw [List.getElem?_eq_none (by simpa using hlt)] at h2; cases h2
      · rw [List.getElem?_set_ne hl] at h2 h6
        exact R.sep j l q cj cl hjl h1 h2 h3 h4 h5 h6
theorem store_nxt (n : Nxt np σ0 cs0 G0 H0 σ cs G H) (cn : canSet np i cs = true) (no : c.own = true → ∀ p, v = .ref p → H0 p = none ∨ Own σ0 cs0 p) : Nxt np σ0 cs0 G0 H0 (σ.set i (some v)) (cs.set i c) G H := by
  refine ⟨n.ex, n.new, n.keep, fun q h => ?_, n.dom, fun j q c' hj h1 h2 h3 => ?_⟩
  · rcases own_store h with h | ⟨h1, h2⟩
    · exact n.own q h
    · exact (no h1 q h2).symm
  · obtain ⟨e1, c'', e2, e3⟩ := n.par j q c' hj h1 h2 h3
    have hij : i ≠ j := fun z => by
      subst z
      unfold canSet at cn
      rw [e2] at cn
      simp only [e3, Bool.or_eq_true, decide_eq_true_eq] at cn
      rcases cn with cn | cn
      · omega
      · cases cn
    rw [List.getElem?_set_ne hij, List.getElem?_set_ne hij]
    exact ⟨e1, c'', e2, e3⟩
end
/-- the cell stored at slot i -/
def setC (np i : Nat) (c : Cell) (cs : List Cell) : SR := match fzOwn np c cs with
  | some (c', cs') => if canSet np i cs' = true then .nx (cs'.set i c') else .bad
  | none => .bad
where fzOwn (np : Nat) (c : Cell) (cs : List Cell) : Option (Cell × List Cell) := match c with
  | .da d => some (.da d, cs)
  | .ol ds => some (.ol ds, cs)
  | .ex n => some (.ex n, cs)
  | .bw j => match cs[j]? with
    | some (.ol ds) => if np ≤ j then some (.da (.list ds), cs.set j (.da (.list ds))) else none
    | _ => none
  | .un => none
section
variable {T : Th} {np : Nat} {W : WX} {σ σ0 : St} {cs cs0 : List Cell} {G G0 H H0 : Hp} {c : Cell} {v : V} {i : Nat} {D : Ends}
theorem setC_ok (R : SRel T σ cs G H) (n : Nxt np σ0 cs0 G0 H0 σ cs G H) (a : VAt T σ cs G H0 H c v) (g : SGood T np W D σ0 cs0 G0 H0 (setC np i c cs)) : D.nx (σ.set i (some v)) H := by
  unfold setC at g
  split at g
  · rename_i c' cs' e
    split at g
    · rename_i cn
      have key : ∀ (c1 : Cell) (cs1 : List Cell) (G1 : Hp), c' = c1 → cs' = cs1 → SRel T σ cs1 G1 H → Nxt np σ0 cs0 G0 H0 σ cs1 G1 H → VAt T σ cs1 G1 H0 H c1 v → (∀ j, c1 ≠ .bw j) → D.nx (σ.set i (some v)) H := by
        rintro _ _ G1 rfl rfl R1 n1 a1 hb
        exact g _ G1 H (store_nxt n1 cn fun h p e => .inl (a1.2 h p e).2) (store_ok1 R1 a1.1 hb fun h p e => (a1.2 h p e).1)
      cases c with
      | un => cases e
      | da d => cases e; exact key _ _ _ rfl rfl R n a fun j z => nomatch z
      | ol ds => cases e; exact key _ _ _ rfl rfl R n a fun j z => nomatch z
      | ex nm => cases e; exact key _ _ _ rfl rfl R n a fun j z => nomatch z
      | bw j =>
        have e : (match cs[j]? with | some (.ol ds) => if np ≤ j then some ((.da (.list ds) : Cell), cs.set j (.da (.list ds))) else none | _ => none) = some (c', cs') := e
        split at e
        · rename_i ds hc
          split at e
          · rename_i hj
            cases e
            obtain ⟨p, vs, ep, hp, k, R2, n2⟩ := freeze_slot (np := np) R hc hj
            have ev : some (some v) = σ[j]? := a.1
            rw [ep] at ev
            cases ev
            have g0 : G p = none := (R.own_no ⟨j, _, hc, rfl, ep⟩).1
            exact key _ _ _ rfl rfl R2 (n.trans n2) ⟨⟨_, rfl, .lst (Rd.of upd_same) (tpAll_mono (same_new g0) ds vs k)⟩, fun z => nomatch z⟩ fun j z => nomatch z
          · cases e
        · cases e
    · exact g.elim
  · exact g.elim
end
def sSet (np i : Nat) (f : List Cell → ER) (cs : List Cell) : SR := (f cs).toS fun c cs1 => setC np i c cs1
def sDrop (f : List Cell → ER) (cs : List Cell) : SR := (f cs).toS fun _ cs1 => .nx cs1
/-- handed back -/
def retC (np : Nat) (c : Cell) (cs : List Cell) : SR := match c with
  | .da d => .rt (.da d) cs
  | .ol ds => .rt (.ol ds) cs
  | .bw j => match cs[j]? with
    | some (.ol ds) => if np ≤ j then .rt (.ol ds) (cs.set j .un) else .bad
    | _ => .bad
  | _ => .bad
@[simp] theorem retC_da (np : Nat) (d : D) (cs : List Cell) : retC np (.da d) cs = .rt (.da d) cs := rfl
@[simp] theorem retC_ol (np : Nat) (d : List D) (cs : List Cell) : retC np (.ol d) cs = .rt (.ol d) cs := rfl
def sRet (np : Nat) (f : List Cell → ER) (cs : List Cell) : SR := (f cs).toS fun c cs1 => retC np c cs1
def sRetN (cs : List Cell) : SR := .rt (.da .none) cs
def sIf (t : List Cell → TR) (f g : List Cell → SR) (cs : List Cell) : SR := (t cs).toS fun b cs1 => if b = true then f cs1 else g cs1
def sSeq (f g : List Cell → SR) (cs : List Cell) : SR := (f cs).bind g
def sNext (cs : List Cell) : SR := .nx cs
section
variable {X : Cx} {T : Th} {np : Nat} {W : WX} {pos : Pos} {e : Expr} {f : List Cell → ER}
theorem ds_set {i : Nat} {x : Str} {pos' : Pos} (hN : X.N.Nodup) (hi : X.N[i]? = some x) (he : PE X e (rE T np W f)) (hx : Loc X.env.scope x := by first | exact Or.inl rfl | exact Or.inr rfl) (hs : swapsWith e (some (.Name x pos')) pos.line X.env = pure false := by rfl)
    (hf : X.fn x = true ∨ X.env.scope.names.lookup x = some .local := by first | exact .inl rfl | exact .inr rfl) : PS X (.Assign [.Name x pos'] e pos) (rS T np W (sSet np i f)) := by
  refine ps_imp (ps_set hN hi hx he hs hf) ?_
  rintro D σ H ⟨cs, G, R, h⟩
  exact rE_run R (SGood.toS h .refl fun c cs1 G1 H1 v n1 R1 a1 h1 => setC_ok R1 n1 a1 h1)
theorem ds_drop (he : PE X e (rE T np W f)) (hs : swapsWith e none pos.line X.env = pure false := by rfl) : PS X (.Expr e pos) (rS T np W (sDrop f)) := by
  refine ps_imp (ps_expr he hs) ?_
  rintro D σ H ⟨cs, G, R, h⟩
  exact rE_run R (SGood.toS h .refl fun c cs1 G1 H1 v n1 R1 a1 h1 => h1 σ G1 H1 n1 R1)
theorem ds_ret (he : PE X e (rE T np W f)) : PS X (.Return (some e) pos) (rS T np W (sRet np f)) := by
  refine ps_imp (ps_ret he) ?_
  rintro D σ H ⟨cs, G, R, h⟩
  refine rE_run R (SGood.toS h .refl fun c cs1 G1 H1 v n1 R1 a1 h1 => ?_)
  cases c with
  | un => exact h1.elim
  | ex nm => exact h1.elim
  | da d => exact h1 σ G1 H1 v n1 R1 ⟨a1.1, fun z => nomatch z⟩
  | ol ds => exact h1 σ G1 H1 v n1 R1 ⟨a1.1, fun ho p e => ⟨(a1.2 ho p e).1, .inl (a1.2 ho p e).2⟩⟩
  | bw j =>
    have h1 : SGood T np W D σ cs G H (match cs1[j]? with | some (.ol ds) => if np ≤ j then .rt (.ol ds) (cs1.set j .un) else .bad | _ => .bad) := h1
    split at h1
    · rename_i ds hc
      split at h1
      · rename_i hj
        have ev : some (some v) = σ[j]? := a1.1
        obtain ⟨p, vs, ep, gp, hp, k⟩ := R1.at_ j _ hc
        rw [ep] at ev
        cases ev
        have hl : j < cs1.length := (List.getElem?_eq_some_iff.mp hc).1
        have oset : ∀ q, Own σ (cs1.set j .un) q → Own σ cs1 q := fun q h => own_set (c := .un) rfl h
        have n2 : Nxt np σ cs G H σ (cs1.set j .un) G1 H1 := ⟨n1.ex, n1.new, n1.keep, fun q h => n1.own q (oset q h), n1.dom, fun l q c' hlt e1 e2 e3 => by
          obtain ⟨x1, c'', x2, x3⟩ := n1.par l q c' hlt e1 e2 e3
          exact ⟨x1, c'', by rw [List.getElem?_set_ne (by omega)]; exact x2, x3⟩⟩
        have R2 : SRel T σ (cs1.set j .un) G1 H1 := ⟨by rw [List.length_set]; exact R1.len, R1.ex, fun l c' hc' => by
            by_cases hjl : j = l
            · subst hjl; rw [List.getElem?_set_self hl] at hc'; cases hc'; trivial
            · rw [List.getElem?_set_ne hjl] at hc'; exact R1.at_ l c' hc', fun l m hc' => by
            by_cases hjl : j = l
            · subst hjl; rw [List.getElem?_set_self hl] at hc'; cases hc'
            · rw [List.getElem?_set_ne hjl] at hc'; exact R1.nobw l m hc', fun l m q cl cm hlm e1 e2 e3 e4 => by
            have h1 : j ≠ l := fun z => by subst z; rw [List.getElem?_set_self hl] at e1; cases e1; cases e3
            have h2 : j ≠ m := fun z => by subst z; rw [List.getElem?_set_self hl] at e2; cases e2; cases e4
            rw [List.getElem?_set_ne h1] at e1
            rw [List.getElem?_set_ne h2] at e2
            exact R1.sep l m q cl cm hlm e1 e2 e3 e4⟩
        refine h1 σ G1 H1 (.ref p) n2 R2 ⟨⟨p, vs, rfl, gp, hp, k⟩, fun _ q e => ?_⟩
        cases e
        refine ⟨fun ⟨l, c', e1, e2, e3⟩ => ?_, ?_⟩
        · have hjl : j ≠ l := fun z => by subst z; rw [List.getElem?_set_self hl] at e1; cases e1; cases e2
          rw [List.getElem?_set_ne hjl] at e1
          exact R1.sep j l p _ c' hjl hc e1 rfl e2 ep e3
        · exact (n1.own p ⟨j, _, hc, rfl, ep⟩).symm
      · exact h1.elim
    · exact h1.elim
theorem ds_retN : PS X (.Return none pos) (rS T np W sRetN) := by
  refine ps_imp ps_retN ?_
  rintro D σ H ⟨cs, G, R, h⟩
  exact h σ G H .non .refl R ⟨⟨_, rfl, .non⟩, fun z => nomatch z⟩
theorem ds_if {c : Expr} {a b : List Stmt} {t : List Cell → TR} {f g : List Cell → SR} (hc : PT X c (rT T np W t)) (ha : PSs X a (rS T np W f)) (hb : PSs X b (rS T np W g)) : PS X (.If c a b pos) (rS T np W (sIf t f g)) := by
  refine ps_imp (ps_if hc ha hb) ?_
  rintro D σ H ⟨cs, G, R, h⟩
  refine rT_run R (TGood.ofS h .refl fun b cs1 G1 H1 n1 R1 h1 => ?_)
  cases b with
  | true => exact rS_run R1 (SGood.on (r := f cs1) h1 n1)
  | false => exact rS_run R1 (SGood.on (r := g cs1) h1 n1)
theorem dss_cons {st : Stmt} {rest : List Stmt} {f g : List Cell → SR} (h1 : PS X st (rS T np W f)) (h2 : PSs X rest (rS T np W g)) : PSs X (st :: rest) (rS T np W (sSeq f g)) := by
  refine pss_imp (pss_cons h1 h2) ?_
  rintro D σ H ⟨cs, G, R, h⟩
  exact rS_run R (SGood.bind h fun cs1 σ1 G1 H1 n1 R1 h1 => rS_run R1 h1)
theorem dss_one {st : Stmt} {f : List Cell → SR} (h1 : PS X st (rS T np W f)) : PSs X [st] (rS T np W f) := pss_one h1
theorem dss_nil : PSs X [] (rS T np W sNext) := by
  refine pss_imp pss_nil ?_
  rintro D σ H ⟨cs, G, R, h⟩
  exact h σ G H .refl R
theorem ds_pass : PS X (.Pass pos) (rS T np W sNext) := by
  refine ps_imp ps_pass ?_
  rintro D σ H ⟨cs, G, R, h⟩
  exact h σ G H .refl R
theorem ds_break : PS X (.Break pos) (rS T np W fun cs => .bk cs) := by
  refine ps_imp ps_break ?_
  rintro D σ H ⟨cs, G, R, h⟩
  exact h σ G H .refl R
theorem ds_continue : PS X (.Continue pos) (rS T np W fun cs => .ct cs) := by
  refine ps_imp ps_continue ?_
  rintro D σ H ⟨cs, G, R, h⟩
  exact h σ G H .refl R
end

/-! ### lists of one's own, changed -/
/-- the content of the own list in slot i -/
def olAt (i : Nat) (cs : List Cell) : Option (List D) := match cs[i]? with
  | some (.ol ds) => some ds
  | _ => none
section
variable {T : Th} {np : Nat} {σ σ0 : St} {cs cs0 : List Cell} {G G0 H H0 : Hp} {i : Nat} {ds : List D}
/-- the own list in slot i gets other items -/
theorem change_ok (R : SRel T σ cs G H) (n : Nxt np σ0 cs0 G0 H0 σ cs G H) (e : cs[i]? = some (.ol ds)) : ∃ p vs, σ[i]? = some (some (.ref p)) ∧ H p = some (.lst vs) ∧ TpAll T.K G vs ds ∧
    ∀ (ws : List V) (es : List D), TpAll T.K G ws es → SRel T σ (cs.set i (.ol es)) G (upd H p (.lst ws)) ∧ Nxt np σ0 cs0 G0 H0 σ (cs.set i (.ol es)) G (upd H p (.lst ws)) := by
  obtain ⟨p, vs, ep, gp, hp, k⟩ := R.at_ i _ e
  have hl : i < cs.length := (List.getElem?_eq_some_iff.mp e).1
  refine ⟨p, vs, ep, hp, k, fun ws es t => ?_⟩
  have ow : Own σ cs p := ⟨i, _, e, rfl, ep⟩
  have oset : ∀ q, Own σ (cs.set i (.ol es)) q → Own σ cs q := fun q ⟨j, c, h1, h2, h3⟩ => by
    by_cases hij : i = j
    · subst hij; exact ⟨i, _, e, rfl, h3⟩
    · rw [List.getElem?_set_ne hij] at h1; exact ⟨j, c, h1, h2, h3⟩
  refine ⟨⟨by rw [List.length_set]; exact R.len, fun b o hb => ?_, fun j c hc => ?_, fun j l hc => ?_, fun j l q cj cl hjl h1 h2 h3 h4 h5 h6 => ?_⟩, ⟨n.ex, n.new, fun q o h hn => ?_, fun q h => n.own q (oset q h), fun q h => ?_, fun j q c hj h1 h2 h3 => ?_⟩⟩
  · have hbp : b ≠ p := fun z => by rw [z, gp] at hb; cases hb
    rw [upd_ne hbp]
    exact R.ex b o hb
  · by_cases hij : i = j
    · subst hij
      rw [List.getElem?_set_self hl] at hc
      cases hc
      exact ⟨p, ws, ep, gp, upd_same, t⟩
    · rw [List.getElem?_set_ne hij] at hc
      have h := R.at_ j c hc
      cases c with
      | un => trivial
      | da d => exact h
      | bw l => exact h
      | ex nm => exact h
      | ol fs =>
        obtain ⟨q, us, e', g', h, k'⟩ := h
        have hq : q ≠ p := fun z => R.sep i j p _ _ hij e hc rfl rfl ep (by rw [e', z])
        exact ⟨q, us, e', g', by rw [upd_ne hq]; exact h, k'⟩
  · by_cases hij : i = j
    · subst hij; rw [List.getElem?_set_self hl] at hc; cases hc
    · rw [List.getElem?_set_ne hij] at hc; exact R.nobw j l hc
  · have x1 : ∃ c, cs[j]? = some c ∧ c.own = true := by
      by_cases hij : i = j
      · subst hij; exact ⟨_, e, rfl⟩
      · rw [List.getElem?_set_ne hij] at h1; exact ⟨_, h1, h3⟩
    have x2 : ∃ c, cs[l]? = some c ∧ c.own = true := by
      by_cases hij : i = l
      · subst hij; exact ⟨_, e, rfl⟩
      · rw [List.getElem?_set_ne hij] at h2; exact ⟨_, h2, h4⟩
    obtain ⟨c1, y1, z1⟩ := x1
    obtain ⟨c2, y2, z2⟩ := x2
    exact R.sep j l q c1 c2 hjl y1 y2 z1 z2 h5 h6
  · by_cases hq : q = p
    · subst hq
      rcases n.own q ow with h' | h'
      · exact absurd h' hn
      · rw [h] at h'; cases h'
    · rw [upd_ne hq]; exact n.keep q o h hn
  · by_cases hq : q = p
    · rw [hq, upd_same]; simp
    · rw [upd_ne hq]; exact n.dom q h
  · obtain ⟨x1, c'', x2, x3⟩ := n.par j q c hj h1 h2 h3
    refine ⟨x1, ?_⟩
    by_cases hij : i = j
    · subst hij; rw [List.getElem?_set_self hl]; exact ⟨_, rfl, rfl⟩
    · rw [List.getElem?_set_ne hij]; exact ⟨c'', x2, x3⟩
end
/-- x.append(e), x in slot i -/
def sApp (i : Nat) (f : List Cell → ER) (cs : List Cell) : SR := match olAt i cs with
  | none => .bad
  | some _ => (f cs).toS fun c cs1 => match c with
    | .da d => match olAt i cs1 with
      | some ds => if ds.length < sizeLine then .nx (cs1.set i (.ol (ds ++ [d]))) else .bad
      | none => .bad
    | _ => .bad
/-- x[g] = f, x in slot i -/
def sPut (i : Nat) (f g : List Cell → ER) (cs : List Cell) : SR := (f cs).toS fun c cs1 => match olAt i cs1 with
  | none => .bad
  | some _ => (g cs1).toS fun k cs2 => match c, k with
    | .da d, .da (.int z) => match olAt i cs2 with
      | some ds => match ixN ds.length z with
        | some j => .nx (cs2.set i (.ol (ds.set j d)))
        | none => .bad
      | none => .bad
    | _, _ => .bad
theorem olAt_eq {i : Nat} {cs : List Cell} {ds : List D} (h : olAt i cs = some ds) : cs[i]? = some (.ol ds) := by
  unfold olAt at h
  split at h
  · cases h; assumption
  · cases h
section
variable {X : Cx} {ca : Str → Addr} {np : Nat} {W : WX} {pos apos spos : Pos} {e b : Expr} {f g : List Cell → ER} {pl : Sem Bool}
theorem ds_app {i : Nat} {x : Str} {xpos : Pos} (ho : PE X (.Name x xpos) (tVar i)) (he : PE X e (rE ⟨X.K, ca⟩ np W f)) {st : Stmt}
    (rule : ∀ {to : TE} {t : TA}, PE X (.Name x xpos) to → PA X [e] t → PS X st (tDrop (tBM X.K "list" rAppend to t)))
    (hs : starEach [e] X.env = (false, eval e X.env) :: starEach [] X.env := by rfl) : PS X st (rS ⟨X.K, ca⟩ np W (sApp i f)) := by
  refine ps_imp (rule ho (pa_cons he pa_nil hs)) ?_
  rintro D σ H ⟨cs, G, R, h⟩
  unfold sApp at h
  split at h
  · exact h.elim
  · rename_i ds0 e0
    obtain ⟨p, vs, ep, gp, hp, k⟩ := R.at_ i _ (olAt_eq e0)
    refine ⟨.ref p, ep, .inl ⟨rfl, _, SqL.of hp⟩, ?_⟩
    refine rE_run R (SGood.toS h .refl fun c cs1 G1 H1 v n1 R1 a1 h1 => ?_)
    split at h1
    · rename_i d
      split at h1
      · rename_i ds hds
        split at h1
        · rename_i hlen
          obtain ⟨p', vs', ep', hp', k', up⟩ := change_ok R1 n1 (olAt_eq hds)
          rw [ep] at ep'
          cases ep'
          obtain ⟨w, e2, t⟩ := a1.1
          cases e2
          obtain ⟨R2, n2⟩ := up (vs' ++ [v]) (ds ++ [d]) (k'.append (.cons t .nil))
          exact ⟨p, vs', v, rfl, rfl, hp', by rw [k'.length]; exact hlen, h1 σ G1 _ n2 R2⟩
        · exact h1.elim
      · exact h1.elim
    · exact h1.elim
theorem ds_put {i : Nat} {x : Str} {xpos : Pos} (ho : PE X (.Name x xpos) (tVar i)) (he : PE X e (rE ⟨X.K, ca⟩ np W f)) (hb : PE X b (rE ⟨X.K, ca⟩ np W g)) {st : Stmt}
    (rule : ∀ {te to ti : TE}, PE X e te → PE X (.Name x xpos) to → PE X b ti → PS X st (tAsg te (gSub to ti rSetL))) : PS X st (rS ⟨X.K, ca⟩ np W (sPut i f g)) := by
  refine ps_imp (rule he ho hb) ?_
  rintro D σ H ⟨cs, G, R, h⟩
  refine rE_run R (SGood.toS h .refl fun c cs1 G1 H1 v n1 R1 a1 h1 => ?_)
  split at h1
  · exact h1.elim
  · rename_i ds0 e0
    obtain ⟨p, vs, ep, gp, hp, k⟩ := R1.at_ i _ (olAt_eq e0)
    refine ⟨.ref p, ep, ?_⟩
    refine rE_run R1 (SGood.toS h1 n1 fun kc cs2 G2 H2 u n2 R2 a2 h2 => ?_)
    split at h2
    · rename_i d z
      split at h2
      · rename_i ds hds
        split at h2
        · rename_i j hj
          obtain ⟨p', vs', ep', hp', k', up⟩ := change_ok R2 (n1.trans n2) (olAt_eq hds)
          rw [ep] at ep'
          cases ep'
          obtain ⟨w, e2, t⟩ := (a1.on n2).1
          cases e2
          obtain ⟨w, e2, t2⟩ := a2.1
          cases e2
          cases t2
          obtain ⟨R3, n3⟩ := up (vs'.set j v) (ds.set j d) (k'.set j t)
          exact ⟨p, vs', z, j, rfl, rfl, hp', by rw [k'.length]; exact hj, h2 σ G2 _ n3 R3⟩
        · exact h2.elim
      · exact h2.elim
    · exact h2.elim
end
end TL
set_option Elab.async false
set_option linter.all false
set_option maxRecDepth 100000
set_option maxHeartbeats 4000000
/-! TL7: targets and loops. -/
namespace TL
open PySem L2

/-! ### targets -/
def gN (np i : Nat) (d : D) (cs : List Cell) : Option (List Cell) := if canSet np i cs = true then some (cs.set i (.da d)) else none
def gsNil (ds : List D) (cs : List Cell) : Option (List Cell) := match ds with
  | [] => some cs
  | _ :: _ => none
def gsCons (g : D → List Cell → Option (List Cell)) (h : List D → List Cell → Option (List Cell)) (ds : List D) (cs : List Cell) : Option (List Cell) := match ds with
  | d :: r => (g d cs).bind (h r)
  | [] => none
/-- the items of a tuple, of a list -/
def gT (n : Nat) (h : List D → List Cell → Option (List Cell)) (d : D) (cs : List Cell) : Option (List Cell) := match d with
  | .tuple ds => if ds.length = n then h ds cs else none
  | .list ds => if ds.length = n then h ds cs else none
  | _ => none
def gL (n : Nat) (h : List D → List Cell → Option (List Cell)) (d : D) (cs : List Cell) : Option (List Cell) := match d with
  | .list ds => if ds.length = n then h ds cs else none
  | _ => none
/-- all slots but these are as they were -/
def But (ts : List Nat) (σ σ' : St) : Prop := σ'.length = σ.length ∧ ∀ j, j ∉ ts → σ'[j]? = σ[j]?
theorem But.refl {ts : List Nat} {σ : St} : But ts σ σ := ⟨rfl, fun _ _ => rfl⟩
theorem But.trans {ts us : List Nat} {σ σ1 σ2 : St} (a : But ts σ σ1) (b : But us σ1 σ2) : But (ts ++ us) σ σ2 :=
  ⟨b.1.trans a.1, fun j hj => (b.2 j fun z => hj (List.mem_append_right _ z)).trans (a.2 j fun z => hj (List.mem_append_left _ z))⟩
def GGood (T : Th) (np : Nat) (ts : List Nat) (Q : St → Hp → Prop) (σ : St) (cs : List Cell) (G H : Hp) : Option (List Cell) → Prop
  | some cs' => ∀ σ' G' H', Nxt np σ cs G H σ' cs' G' H' → SRel T σ' cs' G' H' → But ts σ σ' → Q σ' H'
  | none => False
def rG (T : Th) (np : Nat) (ts : List Nat) (g : D → List Cell → Option (List Cell)) : TG := fun v σ H Q => ∃ cs G d, SRel T σ cs G H ∧ Tp T.K G v d ∧ GGood T np ts Q σ cs G H (g d cs)
def rGs (T : Th) (np : Nat) (ts : List Nat) (g : List D → List Cell → Option (List Cell)) : TGs := fun vs σ H Q => ∃ cs G ds, SRel T σ cs G H ∧ TpAll T.K G vs ds ∧ GGood T np ts Q σ cs G H (g ds cs)
theorem pg_imp {X : Cx} {e : Expr} {t t' : TG} (h : PG X e t) (k : ∀ v σ H Q, t' v σ H Q → t v σ H Q) : PG X e t' := ⟨fun pins s σ H v u Q I r w => h.run pins s σ H v u Q I r (k v σ H Q w)⟩
theorem pgs_imp {X : Cx} {e : List Expr} {t t' : TGs} (h : PGs X e t) (k : ∀ v σ H Q, t' v σ H Q → t v σ H Q) : PGs X e t' := ⟨fun pins s σ H v u Q I r w => h.run pins s σ H v u Q I r (k v σ H Q w)⟩
section
variable {X : Cx} {T : Th} {np : Nat} {pos : Pos} {W : WX} {ca : Str → Addr} {ts us : List Nat}
theorem dg_name {i : Nat} {x : Str} (hN : X.N.Nodup) (hi : X.N[i]? = some x := by rfl) (hx : Loc X.env.scope x := by first | exact Or.inl rfl | exact Or.inr rfl) (hf : X.fn x = true ∨ X.env.scope.names.lookup x = some .local := by first | exact .inl rfl | exact .inr rfl) : PG X (.Name x pos) (rG T np [i] (gN np i)) := by
  refine pg_imp (pg_name hN hi hx hf) ?_
  rintro v σ H Q ⟨cs, G, d, R, t, h⟩
  unfold gN at h
  split at h
  · rename_i cn
    refine h _ G H (store_nxt .refl cn fun z => nomatch z) (store_ok1 R ⟨v, rfl, t⟩ (fun j z => nomatch z) fun z => nomatch z) ⟨List.length_set, fun j hj => ?_⟩
    rw [List.getElem?_set_ne (fun z => hj (by simp [z]))]
  · exact h.elim
theorem dgs_nil : PGs X [] (rGs T np [] gsNil) := by
  refine pgs_imp pgs_nil ?_
  rintro v σ H Q ⟨cs, G, d, R, t, h⟩
  cases t with
  | nil => exact ⟨rfl, h σ G H .refl R .refl⟩
  | cons _ _ => exact h.elim
theorem dgs_cons {e : Expr} {es : List Expr} {g : D → List Cell → Option (List Cell)} {h : List D → List Cell → Option (List Cell)} (h1 : PG X e (rG T np ts g)) (h2 : PGs X es (rGs T np us h))
    (hs : (assignEach (e :: es) X.env).map (·.2) = assign e X.env :: (assignEach es X.env).map (·.2) := by rfl) : PGs X (e :: es) (rGs T np (ts ++ us) (gsCons g h)) := by
  refine pgs_imp (pgs_cons h1 h2 hs) ?_
  rintro v σ H Q ⟨cs, G, d, R, t, hh⟩
  cases t with
  | nil => exact hh.elim
  | @cons v vs d ds t1 t2 =>
    refine ⟨_, _, rfl, cs, G, _, R, t1, ?_⟩
    have hh : GGood T np (ts ++ us) Q σ cs G H ((g d cs).bind (h ds)) := hh
    cases eg : g d cs with
    | none => rw [eg] at hh; exact hh.elim
    | some cs1 =>
      rw [eg] at hh
      have hh : GGood T np (ts ++ us) Q σ cs G H (h ds cs1) := hh
      intro σ' G' H' n R' b'
      refine ⟨cs1, G', _, R', tpAll_mono n.ex _ _ t2, ?_⟩
      cases eh : h ds cs1 with
      | none => rw [eh] at hh; exact hh.elim
      | some cs2 => rw [eh] at hh; exact fun σ2 G2 H2 n2 R2 b2 => hh σ2 G2 H2 (n.trans n2) R2 (b'.trans b2)
theorem pg_or {X : Cx} {e : Expr} {t t' : TG} (h : PG X e t) (h' : PG X e t') : PG X e (fun v σ H Q => t v σ H Q ∨ t' v σ H Q) := ⟨fun pins s σ H v u Q I r w => w.elim (h.run pins s σ H v u Q I r) (h'.run pins s σ H v u Q I r)⟩
theorem dg_tup {es : List Expr} {k n : Nat} {h : List D → List Cell → Option (List Cell)} (hc : X.calm = true) (hh : PGs X es (rGs ⟨X.K, ca⟩ np ts h))
    (hn : (assignEach es X.env).length = n := by rfl) (hst : (assignEach es X.env).findIdx? (·.1) = none := by rfl) : PG X (.Tuple es k pos) (rG ⟨X.K, ca⟩ np ts (gT n h)) := by
  refine pg_imp (pg_or (pg_tup hc hh hn hst) (pg_lst hc hh hn hst)) ?_
  rintro v σ H Q ⟨cs, G, d, R, t, w⟩
  unfold gT at w
  split at w
  · rename_i ds
    split at w
    · rename_i hl
      cases t with
      | tup hs ha => exact .inl ⟨_, _, rfl, sqt_mono R.ex hs, by rw [ha.length]; exact hl, cs, G, ds, R, ha, w⟩
    · exact w.elim
  · rename_i ds
    split at w
    · rename_i hl
      cases t with
      | lst hs ha => exact .inr ⟨_, _, rfl, .inl (rd_mono R.ex hs), by rw [ha.length]; exact hl, cs, G, ds, R, ha, w⟩
    · exact w.elim
  · exact w.elim
theorem dg_lst {es : List Expr} {k n : Nat} {h : List D → List Cell → Option (List Cell)} (hc : X.calm = true) (hh : PGs X es (rGs ⟨X.K, ca⟩ np ts h))
    (hn : (assignEach es X.env).length = n := by rfl) (hst : (assignEach es X.env).findIdx? (·.1) = none := by rfl) : PG X (.Tuple es k pos) (rG ⟨X.K, ca⟩ np ts (gL n h)) := by
  refine pg_imp (pg_lst hc hh hn hst) ?_
  rintro v σ H Q ⟨cs, G, d, R, t, w⟩
  unfold gL at w
  split at w
  · rename_i ds
    split at w
    · rename_i hl
      cases t with
      | lst hs ha => exact ⟨_, _, rfl, .inl (rd_mono R.ex hs), by rw [ha.length]; exact hl, cs, G, ds, R, ha, w⟩
    · exact w.elim
  · exact w.elim
/-- target = value, the value frozen -/
def sAsg (f : List Cell → ER) (g : D → List Cell → Option (List Cell)) (cs : List Cell) : SR := (f cs).toS fun c cs1 => match c with
  | .da d => match g d cs1 with
    | some cs2 => .nx cs2
    | none => .bad
  | _ => .bad
theorem ds_asg {tg e : Expr} {f : List Cell → ER} {g : D → List Cell → Option (List Cell)} (he : PE X e (rE T np W f)) (hg : PG X tg (rG T np ts g)) (hs : swapsWithSole [tg] e pos.line X.env = pure false := by rfl) (hw : swappedStores [tg] e X.env = pure none := by rfl)
    (h1 : (assignEach [tg] X.env).map (·.2) = [assign tg X.env] := by rfl) : PS X (.Assign [tg] e pos) (rS T np W (sAsg f g)) := by
  refine ps_imp (ps_asg he hg hs hw h1) ?_
  rintro D σ H ⟨cs, G, R, h⟩
  refine rE_run R (SGood.toS h .refl fun c cs1 G1 H1 v n1 R1 a1 h1 => ?_)
  split at h1
  · rename_i d
    obtain ⟨w, e, t⟩ := a1.1
    cases e
    cases eg : g d cs1 with
    | none => rw [eg] at h1; exact h1.elim
    | some cs2 =>
      rw [eg] at h1
      refine ⟨cs1, G1, d, R1, t, ?_⟩
      rw [eg]
      exact fun σ' G' H' n' R' _ => h1 σ' G' H' (n1.trans n') R'
  · exact h1.elim
end
/-- a, b = x, y with local names -/
def flatC : Cell → Bool
  | .da _ => true
  | .ol _ => true
  | .ex _ => true
  | _ => false
def put1 (np i : Nat) (c : Cell) (cs : List Cell) : Option (List Cell) := if canSet np i cs = true then some (cs.set i c) else none
def sPar (np i j : Nat) (f : List Cell → AR) (cs : List Cell) : SR := (f cs).toS fun c cs1 => match c with
  | [a, b] => if flatC a = true ∧ flatC b = true then match (put1 np i a cs1).bind (put1 np j b) with
    | some cs2 => .nx cs2
    | none => .bad
    else .bad
  | _ => .bad
section
variable {X : Cx} {T : Th} {np : Nat} {pos : Pos} {W : WX}
theorem flatC_bw {c : Cell} (h : flatC c = true) : ∀ j, c ≠ .bw j := fun j z => by rw [z] at h; cases h
theorem ds_par {i j : Nat} {x y : Str} {a b : Expr} {f : List Cell → AR} {px py pt : Pos} {kt k2 pt2} (hc : X.calm = true) (hN : X.N.Nodup) (hi : X.N[i]? = some x) (hj : X.N[j]? = some y) (hij : i ≠ j)
    (hx : X.env.scope.names.lookup x = some .local) (hy : X.env.scope.names.lookup y = some .local) (ha : PA X [a, b] (rA T np W f))
    (hw : swappedStores [.Tuple [.Name x px, .Name y py] kt pt] (.Tuple [a, b] k2 pt2) X.env = pure (some [x, y]))
    (hs : swapsWithSole [.Tuple [.Name x px, .Name y py] kt pt] (.Tuple [a, b] k2 pt2) pos.line X.env = pure false := by rfl) :
    PS X (.Assign [.Tuple [.Name x px, .Name y py] kt pt] (.Tuple [a, b] k2 pt2) pos) (rS T np W (sPar np i j f)) := by
  refine ps_imp (ps_par hc hN hi hj hij hx hy ha hw hs) ?_
  rintro D σ H ⟨cs, G, R, h⟩
  refine rA_run R (AGood.ofS h .refl fun c cs1 G1 H1 vs n1 R1 a1 h1 => ?_)
  match c, vs, a1, h1 with
  | [a, b], [v, w], a1, h1 =>
    have h1 : SGood T np W D σ cs G H (if flatC a = true ∧ flatC b = true then match (put1 np i a cs1).bind (put1 np j b) with
      | some cs2 => .nx cs2
      | none => .bad
      else .bad) := h1
    split at h1
    · rename_i hf
      split at h1
      · rename_i cs2 e
        obtain ⟨cs3, e1, e2⟩ := Option.bind_eq_some_iff.mp e
        unfold put1 at e1 e2
        split at e1
        · rename_i c1
          cases e1
          split at e2
          · rename_i c2
            cases e2
            obtain ⟨va, ⟨vb, _, _⟩, sp⟩ := a1
            have R2 := store_ok1 (i := i) R1 va.1 (flatC_bw hf.1) fun ho p e => (va.2 ho p e).1
            have n2 := store_nxt (i := i) (v := v) (c := a) n1 c1 fun ho p e => .inl (va.2 ho p e).2
            have nb : b.own = true → ∀ p, w = .ref p → ¬ Own (σ.set i (some v)) (cs1.set i a) p := fun ho p e z => by
              rcases own_store z with z | ⟨z1, z2⟩
              · exact (vb.2 ho p e).1 z
              · exact sp z1 p z2 (.inl ⟨ho, e⟩)
            have R3 := store_ok1 (i := j) (v := w) R2 (cat_slots (σ' := σ.set i (some v)) vb.1 (flatC_bw hf.2)) (flatC_bw hf.2) nb
            have n3 := store_nxt (i := j) (v := w) (c := b) n2 c2 fun ho p e => .inl (vb.2 ho p e).2
            exact ⟨v, w, rfl, h1 _ G1 H1 n3 R3⟩
          · cases e2
        · cases e1
      · exact h1.elim
    · exact h1.elim
  | [], _, _, h1 => exact h1.elim
  | [_], _, _, h1 => exact h1.elim
  | _ :: _ :: _ :: _, _, _, h1 => exact h1.elim
  | [_, _], [], a1, _ => exact a1.elim
  | [_, _], [_], a1, _ => exact a1.2.1.elim
  | [_, _], _ :: _ :: _ :: _, a1, _ => exact a1.2.1.2.1.elim
end

/-! ### what is walked -/
inductive IR where
  | val (items : List D) (cs : List Cell) | err (e : Err) (cs : List Cell) | bad
def IR.toS (r : IR) (k : List D → List Cell → SR) : SR := match r with
  | .val c cs => k c cs
  | .err e cs => .err e cs
  | .bad => .bad
@[simp] theorem IR.toS_val (c : List D) (cs : List Cell) (k : List D → List Cell → SR) : (IR.val c cs).toS k = k c cs := rfl
@[simp] theorem IR.toS_err (e : Err) (cs : List Cell) (k : List D → List Cell → SR) : (IR.err e cs).toS k = .err e cs := rfl
@[simp] theorem IR.toS_bad (k : List D → List Cell → SR) : IR.bad.toS k = .bad := rfl
def IR.toE (r : IR) (k : List D → List Cell → ER) : ER := match r with
  | .val c cs => k c cs
  | .err e cs => .err e cs
  | .bad => .bad
@[simp] theorem IR.toE_val (c : List D) (cs : List Cell) (k : List D → List Cell → ER) : (IR.val c cs).toE k = k c cs := rfl
@[simp] theorem IR.toE_err (e : Err) (cs : List Cell) (k : List D → List Cell → ER) : (IR.err e cs).toE k = .err e cs := rfl
@[simp] theorem IR.toE_bad (k : List D → List Cell → ER) : IR.bad.toE k = .bad := rfl
/-- the iterator gives just these -/
structure Src (K : PySem.W.Frag) (J : It) (items : List D) (G : Hp) : Prop where
  go : ∀ i G1 H1, i < items.length → Same G G1 → Same G1 H1 → J.go i H1
  yld : ∀ i G1 H1 x H2, i < items.length → Same G G1 → Same G1 H1 → J.yld i H1 x H2 → ∃ G2 d, Pure G1 H1 G2 H2 ∧ items[i]? = some d ∧ Tp K G2 x d
  stop : ∀ G1 H1, Same G G1 → Same G1 H1 → J.stop items.length H1
def IGood (T : Th) (np : Nat) (W : WX) (R : It → Hp → Prop) (σ : St) (cs : List Cell) (G H : Hp) : IR → Prop
  | .val items cs' => ∀ G' H' J, Nxt np σ cs G H σ cs' G' H' → SRel T σ cs' G' H' → Src T.K J items G' → R J H'
  | .err e cs' => ∀ G' H' d, Nxt np σ cs G H σ cs' G' H' → SRel T σ cs' G' H' → ErrAt T G' H' e d → W (.ref (T.ca e.nm)) d σ H'
  | .bad => False
def rI (T : Th) (np : Nat) (W : WX) (f : List Cell → IR) : TI := fun σ H R => ∃ cs G, SRel T σ cs G H ∧ IGood T np W R σ cs G H (f cs)
theorem pi_imp {X : Cx} {tg e : Expr} {t t' : TI} (h : PI X tg e t) (k : ∀ σ H R, t' σ H R → t σ H R) : PI X tg e t' := ⟨fun pins s σ H R I w => h.run pins s σ H R I (k σ H R w)⟩
theorem pi_or {X : Cx} {tg e : Expr} {t t' : TI} (h : PI X tg e t) (h' : PI X tg e t') : PI X tg e (fun σ H R => t σ H R ∨ t' σ H R) := ⟨fun pins s σ H R I w => w.elim (h.run pins s σ H R I) (h'.run pins s σ H R I)⟩
section
variable {X : Cx} {ca : Str → Addr} {np : Nat} {W : WX} {pos p : Pos} {tg e : Expr} {K : PySem.W.Frag} {G : Hp}
theorem src_list {a : Addr} {vs : List V} {ds : List D} (r : Rd G a (.lst vs)) (t : TpAll K G vs ds) : Src K (Itl K a) ds G := by
  refine ⟨fun i G1 H1 hi s1 s2 => ?_, fun i G1 H1 x H2 hi s1 s2 y => ?_, fun G1 H1 s1 s2 => ⟨vs, .inl (rd_mono (s1.trans s2) r), by rw [t.length]; exact Nat.le_refl _⟩⟩
  · obtain ⟨v, hv, _⟩ := t.get (List.getElem?_eq_getElem hi)
    exact ⟨vs, v, .inl (rd_mono (s1.trans s2) r), hv⟩
  · obtain ⟨rfl, y⟩ := y
    have hx := y vs (.inl (rd_mono (s1.trans s2) r))
    obtain ⟨d, hd, td⟩ := t.getV hx
    exact ⟨G1, d, .refl s2, hd, tp_mono s1 d x td⟩
theorem src_tup {a : Addr} {vs : List V} {ds : List D} (r : SqT K G a vs) (t : TpAll K G vs ds) : Src K (Itt K a) ds G := by
  refine ⟨fun i G1 H1 hi s1 s2 => ?_, fun i G1 H1 x H2 hi s1 s2 y => ?_, fun G1 H1 s1 s2 => ⟨vs, sqt_mono (s1.trans s2) r, by rw [t.length]; exact Nat.le_refl _⟩⟩
  · obtain ⟨v, hv, _⟩ := t.get (List.getElem?_eq_getElem hi)
    exact ⟨vs, v, sqt_mono (s1.trans s2) r, hv⟩
  · obtain ⟨rfl, y⟩ := y
    have hx := y vs (sqt_mono (s1.trans s2) r)
    obtain ⟨d, hd, td⟩ := t.getV hx
    exact ⟨G1, d, .refl s2, hd, tp_mono s1 d x td⟩
def signs (z : Str) : List D := z.cps.toList.map fun c => PyData.str ⟨#[c]⟩
theorem src_str {z : Str} : Src K (Its z) (signs z) G := by
  have hl : (signs z).length = z.cps.size := by unfold signs; simp
  refine ⟨fun i G1 H1 hi s1 s2 => ?_, fun i G1 H1 x H2 hi s1 s2 y => ?_, fun G1 H1 s1 s2 => ?_⟩
  · show i < z.cps.size
    omega
  · obtain ⟨rfl, c, hc, rfl⟩ := y
    refine ⟨G1, .str ⟨#[c]⟩, .refl s2, ?_, .str _⟩
    unfold signs
    rw [List.getElem?_map, Array.getElem?_toList, hc]; rfl
  · show z.cps.size ≤ _
    omega
def rangeD (lo : Int) (n : Nat) : List D := (List.range n).map fun i => PyData.int (lo + (i : Nat))
theorem src_range {lo : Int} {n : Nat} : Src K (Itr lo n) (rangeD lo n) G := by
  have hl : (rangeD lo n).length = n := by unfold rangeD; simp
  refine ⟨fun i G1 H1 hi s1 s2 => ?_, fun i G1 H1 x H2 hi s1 s2 y => ?_, fun G1 H1 s1 s2 => ?_⟩
  · show i < n
    omega
  · obtain ⟨rfl, rfl⟩ := y
    refine ⟨G1, .int (lo + (i : Nat)), .refl s2, ?_, .int _⟩
    unfold rangeD
    rw [List.getElem?_map, List.getElem?_range (by omega)]; rfl
  · show n ≤ _
    omega
/-- a list, a tuple, a text -/
def iSeq (np : Nat) (f : List Cell → ER) (cs : List Cell) : IR := match fz np f cs with
  | .val (.da (.list ds)) cs1 => .val ds cs1
  | .val (.da (.tuple ds)) cs1 => .val ds cs1
  | .val (.da (.str z)) cs1 => .val (signs z) cs1
  | .err e cs1 => .err e cs1
  | _ => .bad
theorem di_seq {f : List Cell → ER} (he0 : PE X e (rE ⟨X.K, ca⟩ np W f)) : PI X tg e (rI ⟨X.K, ca⟩ np W (iSeq np f)) := by
  have he := de_fz he0
  refine pi_imp (pi_or (pi_list he) (pi_or (pi_tup he) (pi_str he))) ?_
  rintro σ H R ⟨cs, G, S, h⟩
  unfold iSeq at h
  cases ef : fz np f cs with
  | bad => rw [ef] at h; exact h.elim
  | err e' c' => rw [ef] at h; exact .inl (rE_run S (by rw [ef]; exact h))
  | val c cs1 =>
    rw [ef] at h
    cases c with
    | da d =>
      cases d with
      | list ds =>
        refine .inl (rE_run S ?_)
        rw [ef]
        intro G1 H1 v n1 R1 a1
        obtain ⟨w, e, t⟩ := a1.1
        cases e
        cases t with
        | lst hs ha => exact ⟨_, rfl, ⟨_, .inl (rd_mono R1.ex hs)⟩, h G1 H1 _ n1 R1 (src_list hs ha)⟩
      | tuple ds =>
        refine .inr (.inl (rE_run S ?_))
        rw [ef]
        intro G1 H1 v n1 R1 a1
        obtain ⟨w, e, t⟩ := a1.1
        cases e
        cases t with
        | tup hs ha => exact ⟨_, rfl, ⟨_, sqt_mono R1.ex hs⟩, h G1 H1 _ n1 R1 (src_tup hs ha)⟩
      | str z =>
        refine .inr (.inr (rE_run S ?_))
        rw [ef]
        intro G1 H1 v n1 R1 a1
        obtain ⟨w, e, t⟩ := a1.1
        cases e
        cases t
        exact ⟨z, rfl, h G1 H1 _ n1 R1 src_str⟩
      | _ => exact h.elim
    | _ => exact h.elim
def rngOk (i : Int) : Bool := decide (-(2 ^ 62) ≤ i) && decide (i < 2 ^ 62)
def iRange1 (f : List Cell → AR) (cs : List Cell) : IR := match f cs with
  | .val [.da (.int j)] cs1 => if rngOk j = true then .val (rangeD 0 j.toNat) cs1 else .bad
  | .err e cs1 => .err e cs1
  | _ => .bad
def iRange2 (f : List Cell → AR) (cs : List Cell) : IR := match f cs with
  | .val [.da (.int i), .da (.int j)] cs1 => if rngOk i = true ∧ rngOk j = true then .val (rangeD i (j - i).toNat) cs1 else .bad
  | .err e cs1 => .err e cs1
  | _ => .bad
theorem di_range1 {a : Expr} {f : List Cell → AR} (hm : X.mg "range" = none) (ha : PA X [a] (rA ⟨X.K, ca⟩ np W f)) (hg : Gl X "range" := by rfl) (hs : starEach [a] X.env = [(false, eval a X.env)] := by rfl) : PI X tg (.Call (.Name "range" p) [a] [] pos) (rI ⟨X.K, ca⟩ np W (iRange1 f)) := by
  refine pi_imp (pi_range1 hg hm ha hs) ?_
  rintro σ H R ⟨cs, G, S, h⟩
  refine rA_run S ?_
  unfold iRange1 at h
  split at h
  · rename_i j cs1 e
    rw [e]
    split at h
    · rename_i hj
      unfold rngOk at hj
      simp only [Bool.and_eq_true, decide_eq_true_eq] at hj
      intro G1 H1 vs n1 R1 a1
      match vs, a1 with
      | [v], a1 =>
        obtain ⟨w, e, t⟩ := a1.1.1
        cases e
        cases t
        exact ⟨j, rfl, hj.1, hj.2, h G1 H1 _ n1 R1 src_range⟩
    · exact h.elim
  · rename_i e' cs1 e
    rw [e]
    exact h
  · exact h.elim
theorem di_range2 {a b : Expr} {f : List Cell → AR} (hm : X.mg "range" = none) (ha : PA X [a, b] (rA ⟨X.K, ca⟩ np W f)) (hg : Gl X "range" := by rfl) (hs : starEach [a, b] X.env = [(false, eval a X.env), (false, eval b X.env)] := by rfl) (hs2 : starEach [b] X.env = [(false, eval b X.env)] := by rfl) :
    PI X tg (.Call (.Name "range" p) [a, b] [] pos) (rI ⟨X.K, ca⟩ np W (iRange2 f)) := by
  refine pi_imp (pi_range2 hg hm ha hs hs2) ?_
  rintro σ H R ⟨cs, G, S, h⟩
  refine rA_run S ?_
  unfold iRange2 at h
  split at h
  · rename_i i j cs1 e
    rw [e]
    split at h
    · rename_i hj
      unfold rngOk at hj
      simp only [Bool.and_eq_true, decide_eq_true_eq] at hj
      intro G1 H1 vs n1 R1 a1
      match vs, a1 with
      | [v, u], a1 =>
        obtain ⟨w, e, t⟩ := a1.1.1
        cases e
        cases t
        obtain ⟨w, e, t⟩ := a1.2.1.1.1
        cases e
        cases t
        exact ⟨i, j, rfl, ⟨hj.1.1, hj.1.2, hj.2.1, hj.2.2⟩, h G1 H1 _ n1 R1 src_range⟩
    · exact h.elim
  · rename_i e' cs1 e
    rw [e]
    exact h
  · exact h.elim
/-! enumerate, zip, reversed of lists -/
def enumD (ds : List D) : List D := (List.range ds.length).map fun i => PyData.tuple [.int (i : Nat), ds.getD i .none]
theorem src_enum {a : Addr} {vs : List V} {ds : List D} (r : Rd G a (.lst vs)) (t : TpAll K G vs ds) : Src K (Ite K a) (enumD ds) G := by
  have hl : (enumD ds).length = ds.length := by unfold enumD; simp
  refine ⟨fun i G1 H1 hi s1 s2 => ?_, fun i G1 H1 x H2 hi s1 s2 y => ?_, fun G1 H1 s1 s2 => ⟨vs, .inl (rd_mono (s1.trans s2) r), by rw [t.length, hl]; exact Nat.le_refl _⟩⟩
  · obtain ⟨v, hv, _⟩ := t.get (List.getElem?_eq_getElem (show i < ds.length by omega))
    exact ⟨vs, v, .inl (rd_mono (s1.trans s2) r), hv⟩
  · obtain ⟨T, v, rfl, hT, rfl, y⟩ := y
    have hx := y vs (.inl (rd_mono (s1.trans s2) r))
    obtain ⟨d, hd, td⟩ := t.getV hx
    refine ⟨upd G1 T (.tup [.int (i : Nat), v]), .tuple [.int (i : Nat), d], .obj s2 hT, ?_, .tup (SqT.of upd_same) (.cons (.int _) (.cons (tp_mono (s1.trans (same_new (s2.free hT))) d v td) .nil))⟩
    unfold enumD
    rw [List.getElem?_map, List.getElem?_range (by omega), Option.map_some, List.getD_eq_getElem?_getD, hd]; rfl
def iEnumL (np : Nat) (f : List Cell → AR) (cs : List Cell) : IR := match f cs with
  | .val [.da (.list ds)] cs1 => .val (enumD ds) cs1
  | .err e cs1 => .err e cs1
  | _ => .bad
theorem di_enum {elts : List Expr} {kk : Nat} {tpos : Pos} {f : List Cell → AR} (hm : X.mg "enumerate" = none) (ha : PA X [e] (rA ⟨X.K, ca⟩ np W f)) (hg : Gl X "enumerate" := by rfl) (hs : starEach [e] X.env = [(false, eval e X.env)] := by rfl) :
    PI X (.Tuple elts kk tpos) (.Call (.Name "enumerate" p) [e] [] pos) (rI ⟨X.K, ca⟩ np W (iEnumL np f)) := by
  refine pi_imp (pi_enum hg hm ha hs) ?_
  rintro σ H R ⟨cs, G, S, h⟩
  refine rA_run S ?_
  unfold iEnumL at h
  split at h
  · rename_i ds cs1 e
    rw [e]
    intro G1 H1 vs n1 R1 a1
    match vs, a1 with
    | [v], a1 =>
      obtain ⟨w, e, t⟩ := a1.1.1
      cases e
      cases t with
      | lst hs ha => exact ⟨_, _, rfl, .inl (rd_mono R1.ex hs), h G1 H1 _ n1 R1 (src_enum hs ha)⟩
  · rename_i e' cs1 e
    rw [e]
    exact h
  · exact h.elim
theorem src_rev {a : Addr} {vs : List V} {ds : List D} (r : Rd G a (.lst vs)) (t : TpAll K G vs ds) : Src K (Itv K a vs.length) ds.reverse G := by
  have hl := t.length
  refine ⟨fun i G1 H1 hi s1 s2 => ?_, fun i G1 H1 x H2 hi s1 s2 y => ?_, fun G1 H1 s1 s2 => by show vs.length ≤ _; rw [List.length_reverse]; omega⟩
  · rw [List.length_reverse] at hi
    obtain ⟨v, hv, _⟩ := t.get (List.getElem?_eq_getElem (show vs.length - 1 - i < ds.length by omega))
    exact ⟨by omega, vs, v, .inl (rd_mono (s1.trans s2) r), hv⟩
  · rw [List.length_reverse] at hi
    obtain ⟨rfl, y⟩ := y
    have hx := y vs (.inl (rd_mono (s1.trans s2) r))
    obtain ⟨d, hd, td⟩ := t.getV hx
    refine ⟨G1, d, .refl s2, ?_, tp_mono s1 d x td⟩
    rw [List.getElem?_reverse (by omega), ← hl]; exact hd
def iRevL (f : List Cell → AR) (cs : List Cell) : IR := match f cs with
  | .val [.da (.list ds)] cs1 => .val ds.reverse cs1
  | .err e cs1 => .err e cs1
  | _ => .bad
theorem di_rev {f : List Cell → AR} (hm : X.mg "reversed" = none) (ha : PA X [e] (rA ⟨X.K, ca⟩ np W f)) (hg : Gl X "reversed" := by rfl) (hs : starEach [e] X.env = [(false, eval e X.env)] := by rfl) :
    PI X tg (.Call (.Name "reversed" p) [e] [] pos) (rI ⟨X.K, ca⟩ np W (iRevL f)) := by
  refine pi_imp (pi_reversed hg hm ha hs) ?_
  rintro σ H R ⟨cs, G, S, h⟩
  refine rA_run S ?_
  unfold iRevL at h
  split at h
  · rename_i ds cs1 e
    rw [e]
    intro G1 H1 vs n1 R1 a1
    match vs, a1 with
    | [v], a1 =>
      obtain ⟨w, e, t⟩ := a1.1.1
      cases e
      cases t with
      | lst hs ha => exact ⟨_, _, rfl, .inl (rd_mono R1.ex hs), h G1 H1 _ n1 R1 (src_rev hs ha)⟩
  · rename_i e' cs1 e
    rw [e]
    exact h
  · exact h.elim
def zipD (ds es : List D) : List D := (ds.zip es).map fun p => PyData.tuple [p.1, p.2]
theorem src_zip {a b : Addr} {vs ws : List V} {ds es : List D} (r : Rd G a (.lst vs)) (t : TpAll K G vs ds) (r' : Rd G b (.lst ws)) (t' : TpAll K G ws es) : Src K (Itz K a b) (zipD ds es) G := by
  have hl : (zipD ds es).length = min ds.length es.length := by unfold zipD; simp
  have h1 := t.length
  have h2 := t'.length
  refine ⟨fun i G1 H1 hi s1 s2 => ?_, fun i G1 H1 x H2 hi s1 s2 y => ?_, fun G1 H1 s1 s2 => ⟨vs, ws, .inl (rd_mono (s1.trans s2) r), .inl (rd_mono (s1.trans s2) r'), by rw [hl]; omega⟩⟩
  · obtain ⟨v, hv, _⟩ := t.get (List.getElem?_eq_getElem (show i < ds.length by omega))
    obtain ⟨w, hw, _⟩ := t'.get (List.getElem?_eq_getElem (show i < es.length by omega))
    exact ⟨vs, ws, v, w, .inl (rd_mono (s1.trans s2) r), .inl (rd_mono (s1.trans s2) r'), hv, hw⟩
  · obtain ⟨T, v, w, rfl, hT, rfl, y, y'⟩ := y
    obtain ⟨d, hd, td⟩ := t.getV (y vs (.inl (rd_mono (s1.trans s2) r)))
    obtain ⟨d', hd', td'⟩ := t'.getV (y' ws (.inl (rd_mono (s1.trans s2) r')))
    have sm : Same G (upd G1 T (.tup [v, w])) := s1.trans (same_new (s2.free hT))
    refine ⟨upd G1 T (.tup [v, w]), .tuple [d, d'], .obj s2 hT, ?_, .tup (SqT.of upd_same) (.cons (tp_mono sm d v td) (.cons (tp_mono sm d' w td') .nil))⟩
    unfold zipD
    rw [List.getElem?_map, (List.getElem?_zip_eq_some (z := (d, d'))).mpr ⟨hd, hd'⟩]; rfl
def iZipL (f : List Cell → AR) (cs : List Cell) : IR := match f cs with
  | .val [.da (.list ds), .da (.list es)] cs1 => .val (zipD ds es) cs1
  | .err e cs1 => .err e cs1
  | _ => .bad
theorem di_zip {e2 : Expr} {elts : List Expr} {kk : Nat} {tpos : Pos} {f : List Cell → AR} (hm : X.mg "zip" = none) (ha : PA X [e, e2] (rA ⟨X.K, ca⟩ np W f)) (hg : Gl X "zip" := by rfl) (hs : starEach [e, e2] X.env = (false, eval e X.env) :: starEach [e2] X.env := by rfl) (hpl : (backTo pos (starEach [e2] X.env)).any (·.1) = false := by rfl) :
    PI X (.Tuple elts kk tpos) (.Call (.Name "zip" p) [e, e2] [] pos) (rI ⟨X.K, ca⟩ np W (iZipL f)) := by
  refine pi_imp (pi_zip hg hm ha hs hpl) ?_
  rintro σ H R ⟨cs, G, S, h⟩
  refine rA_run S ?_
  unfold iZipL at h
  split at h
  · rename_i ds es cs1 e
    rw [e]
    intro G1 H1 vs n1 R1 a1
    match vs, a1 with
    | [v, u], a1 =>
      obtain ⟨w, e, t⟩ := a1.1.1
      cases e
      obtain ⟨w, e, t'⟩ := a1.2.1.1.1
      cases e
      cases t with
      | lst hs ha => cases t' with
        | lst hs' ha' => exact ⟨_, _, _, _, rfl, .inl (rd_mono R1.ex hs), .inl (rd_mono R1.ex hs'), h G1 H1 _ n1 R1 (src_zip hs ha hs' ha')⟩
  · rename_i e' cs1 e
    rw [e]
    exact h
  · exact h.elim
end

/-! ### for -/
def forGo (tgt : D → List Cell → Option (List Cell)) (body : List Cell → SR) : List D → List Cell → SR
  | [], cs => .nx cs
  | d :: ds, cs => match tgt d cs with
    | none => .bad
    | some cs1 => match body cs1 with
      | .nx cs2 => forGo tgt body ds cs2
      | .ct cs2 => forGo tgt body ds cs2
      | .bk cs2 => .nx cs2
      | .rt c cs2 => .rt c cs2
      | .err e cs2 => .err e cs2
      | .bad => .bad
def sFor (src : List Cell → IR) (tgt : D → List Cell → Option (List Cell)) (body : List Cell → SR) (cs : List Cell) : SR := (src cs).toS fun items cs1 => forGo tgt body items cs1
section
variable {X : Cx} {T : Th} {np : Nat} {W : WX} {pos : Pos}
theorem ds_for {ts : List Nat} {tg iter : Expr} {body : List Stmt} {src : List Cell → IR} {tgt : D → List Cell → Option (List Cell)} {f : List Cell → SR} (hp : PassesOwn (model X.prog X.w) X.A X.env X.xe) (hc : X.calm = true) (hi : PI X tg iter (rI T np W src)) (hg : PG X tg (rG T np ts tgt)) (hb : PSs X body (rS T np W f))
    (hs : ∀ x, foldedSetIterable iter X.env x = pure x := by intro _; rfl) : PS X (.For tg iter body [] pos) (rS T np W (sFor src tgt f)) := by
  refine ps_imp (ps_for hp hc hi hg hb hs) ?_
  rintro D σ H ⟨cs, G, R, h⟩
  refine ⟨cs, G, R, ?_⟩
  unfold sFor at h
  cases ei : src cs with
  | bad => rw [ei] at h; exact h.elim
  | err e c => rw [ei] at h; exact fun G' H' d n R' a => h σ G' H' d n R' a
  | val items cs1 =>
    rw [ei, IR.toS_val] at h
    intro G1 H1 J n1 R1 S
    refine ⟨fun i m σ' H' => m = items.length - i ∧ i ≤ items.length ∧ ∃ cs' G', Same G1 G' ∧ SRel T σ' cs' G' H' ∧ SGood T np W D σ' cs' G' H' (forGo tgt f (items.drop i) cs'),
      ⟨items.length, by simp, Nat.zero_le _, cs1, G1, Same.refl _, R1, h.on n1⟩, ?_⟩
    rintro i m σ' H' ⟨rfl, hi, cs', G', s', R', g'⟩
    by_cases hlt : i < items.length
    · refine .inr ⟨S.go i G' H' hlt s' R'.ex, fun σ2 H2 => ∃ cs2 G2, Same G1 G2 ∧ SRel T σ2 cs2 G2 H2 ∧ SGood T np W D σ2 cs2 G2 H2 (forGo tgt f (items.drop (i + 1)) cs2),
        fun σ2 H2 ⟨cs2, G2, s2, R2, g2⟩ => ⟨items.length - (i + 1), by omega, rfl, by omega, cs2, G2, s2, R2, g2⟩, fun x H2 y => ?_⟩
      obtain ⟨G2, d, pu, hd, td⟩ := S.yld i G' H' x H2 hlt s' R'.ex y
      obtain ⟨R2, n2⟩ := R'.pure (np := np) pu
      have ed : items.drop i = d :: items.drop (i + 1) := by
        rw [List.drop_eq_getElem_cons hlt]
        have e := List.getElem?_eq_getElem hlt
        rw [hd] at e
        cases e
        rfl
      rw [ed] at g'
      unfold forGo at g'
      refine ⟨cs', G2, d, R2, td, ?_⟩
      cases et : tgt d cs' with
      | none => rw [et] at g'; exact g'.elim
      | some cs3 =>
        rw [et] at g'
        intro σ3 G3 H3 n3 R3 _
        have n23 := n2.trans n3
        have s3 : Same G1 G3 := s'.trans n23.ex
        refine ⟨cs3, G3, R3, ?_⟩
        have g' : SGood T np W D σ' cs' G' H' (match f cs3 with
          | .nx cs2 => forGo tgt f (items.drop (i + 1)) cs2
          | .ct cs2 => forGo tgt f (items.drop (i + 1)) cs2
          | .bk cs2 => .nx cs2
          | .rt c cs2 => .rt c cs2
          | .err e cs2 => .err e cs2
          | .bad => .bad) := g'
        cases ef : f cs3 with
        | nx cs4 => rw [ef] at g'; exact fun σ4 G4 H4 n4 R4 => ⟨cs4, G4, s3.trans n4.ex, R4, SGood.on (r := forGo tgt f (items.drop (i + 1)) cs4) g' (n23.trans n4)⟩
        | ct cs4 => rw [ef] at g'; exact fun σ4 G4 H4 n4 R4 => ⟨cs4, G4, s3.trans n4.ex, R4, SGood.on (r := forGo tgt f (items.drop (i + 1)) cs4) g' (n23.trans n4)⟩
        | bk cs4 => rw [ef] at g'; exact fun σ4 G4 H4 n4 R4 => g' σ4 G4 H4 (n23.trans n4) R4
        | rt c cs4 => rw [ef] at g'; exact SGood.on (D := D) (r := .rt c cs4) g' n23
        | err e cs4 => rw [ef] at g'; exact SGood.on (D := D) (r := .err e cs4) g' n23
        | bad => rw [ef] at g'; exact g'.elim
    · have e : i = items.length := by omega
      subst e
      rw [List.drop_length] at g'
      exact .inl ⟨S.stop G' H' s' R'.ex, g' σ' G' H' .refl R'⟩
end

/-! ### while -/
def whileN (t : List Cell → TR) (f : List Cell → SR) : Nat → List Cell → SR
  | 0, _ => .bad
  | n + 1, cs => (t cs).toS fun b cs1 => if b = true then match f cs1 with
      | .nx cs2 => whileN t f n cs2
      | .ct cs2 => whileN t f n cs2
      | .bk cs2 => .nx cs2
      | .rt c cs2 => .rt c cs2
      | .err e cs2 => .err e cs2
      | .bad => .bad
    else .nx cs1
theorem whileN_up {t : List Cell → TR} {f : List Cell → SR} : ∀ {n : Nat} {cs : List Cell}, whileN t f n cs ≠ .bad → whileN t f (n + 1) cs = whileN t f n cs
  | 0, _, h => absurd rfl h
  | n + 1, cs, h => by
    have e1 : ∀ m, whileN t f (m + 1) cs = (t cs).toS fun b cs1 => if b = true then match f cs1 with
      | .nx cs2 => whileN t f m cs2
      | .ct cs2 => whileN t f m cs2
      | .bk cs2 => .nx cs2
      | .rt c cs2 => .rt c cs2
      | .err e cs2 => .err e cs2
      | .bad => .bad
    else .nx cs1 := fun _ => rfl
    rw [e1] at h
    rw [e1, e1]
    cases et : t cs with
    | bad => rfl
    | err e c => rfl
    | val b cs1 =>
      rw [et] at h
      simp only [TR.toS_val] at h ⊢
      cases b with
      | false => rfl
      | true =>
        simp only [if_true] at h ⊢
        cases ef : f cs1 with
        | nx cs2 => rw [ef] at h; exact whileN_up h
        | ct cs2 => rw [ef] at h; exact whileN_up h
        | bk cs2 => rfl
        | rt c cs2 => rfl
        | err e cs2 => rfl
        | bad => rfl
theorem whileN_le {t : List Cell → TR} {f : List Cell → SR} {n m : Nat} {cs : List Cell} (h : whileN t f n cs ≠ .bad) (hm : n ≤ m) : whileN t f m cs = whileN t f n cs := by
  induction m with
  | zero => have : n = 0 := by omega
            subst this; rfl
  | succ m ih =>
    by_cases e : n = m + 1
    · rw [e]
    · have ih := ih (by omega)
      rw [← ih]
      exact whileN_up (by rw [ih]; exact h)
open Classical in
/-- the loop's end, if it comes to one -/
noncomputable def sWhile (t : List Cell → TR) (f : List Cell → SR) (cs : List Cell) : SR := if h : ∃ n, whileN t f n cs ≠ .bad then whileN t f (Classical.choose h) cs else .bad
theorem sWhile_eq {t : List Cell → TR} {f : List Cell → SR} {n : Nat} {cs : List Cell} {r : SR} (h : whileN t f n cs = r) (hr : r ≠ .bad) : sWhile t f cs = r := by
  have ex : ∃ n, whileN t f n cs ≠ .bad := ⟨n, by rw [h]; exact hr⟩
  unfold sWhile
  rw [dif_pos ex]
  have h2 := Classical.choose_spec ex
  rw [← whileN_le h2 (Nat.le_max_left _ n), ← h]
  exact whileN_le (by rw [h]; exact hr) (Nat.le_max_right _ n)
section
variable {X : Cx} {T : Th} {np : Nat} {W : WX} {pos : Pos}
theorem ds_while {c : Expr} {body : List Stmt} {t : List Cell → TR} {f : List Cell → SR} (hp : PassesOwn (model X.prog X.w) X.A X.env X.xe) (hc : PT X c (rT T np W t)) (hb : PSs X body (rS T np W f)) : PS X (.While c body [] pos) (rS T np W (sWhile t f)) := by
  refine ps_imp (ps_while hp hc hb) ?_
  rintro D σ H ⟨cs, G, R, h⟩
  by_cases ex : ∃ n, whileN t f n cs ≠ .bad
  · unfold sWhile at h
    rw [dif_pos ex] at h
    refine ⟨fun m σ' H' => ∃ cs' G', SRel T σ' cs' G' H' ∧ SGood T np W D σ' cs' G' H' (whileN t f m cs'), ⟨_, cs, G, R, h⟩, ?_⟩
    rintro m σ' H' ⟨cs', G', R', g'⟩
    cases m with
    | zero => exact g'.elim
    | succ m =>
      refine ⟨cs', G', R', TGood.ofS g' .refl fun b cs1 G1 H1 n1 R1 g1 => ?_⟩
      cases b with
      | false => exact g1 σ' G1 H1 n1 R1
      | true =>
        have g1 : SGood T np W D σ' cs' G' H' (match f cs1 with
          | .nx cs2 => whileN t f m cs2
          | .ct cs2 => whileN t f m cs2
          | .bk cs2 => .nx cs2
          | .rt c cs2 => .rt c cs2
          | .err e cs2 => .err e cs2
          | .bad => .bad) := g1
        rw [if_pos rfl]
        refine ⟨fun σ2 H2 => ∃ cs2 G2, SRel T σ2 cs2 G2 H2 ∧ SGood T np W D σ2 cs2 G2 H2 (whileN t f m cs2), fun σ2 H2 ⟨cs2, G2, R2, g2⟩ => ⟨m, by omega, cs2, G2, R2, g2⟩, cs1, G1, R1, ?_⟩
        cases ef : f cs1 with
        | nx cs4 => rw [ef] at g1; exact fun σ4 G4 H4 n4 R4 => ⟨cs4, G4, R4, SGood.on (r := whileN t f m cs4) g1 (n1.trans n4)⟩
        | ct cs4 => rw [ef] at g1; exact fun σ4 G4 H4 n4 R4 => ⟨cs4, G4, R4, SGood.on (r := whileN t f m cs4) g1 (n1.trans n4)⟩
        | bk cs4 => rw [ef] at g1; exact fun σ4 G4 H4 n4 R4 => g1 σ4 G4 H4 (n1.trans n4) R4
        | rt c cs4 => rw [ef] at g1; exact SGood.on (D := D) (r := .rt c cs4) g1 n1
        | err e cs4 => rw [ef] at g1; exact SGood.on (D := D) (r := .err e cs4) g1 n1
        | bad => rw [ef] at g1; exact g1.elim
  · unfold sWhile at h
    rw [dif_neg ex] at h
    exact h.elim
end
end TL
set_option Elab.async false
set_option linter.all false
set_option maxRecDepth 100000
set_option maxHeartbeats 4000000
/-! TL8: list comprehensions. -/
namespace TL
open PySem L2

def wipeC (cs : List Cell) : List Nat → List Cell
  | [] => cs
  | v :: vs => (wipeC cs vs).set v .un
/-- the cells of the block's own names as they were ahead -/
def backC (cs0 cs : List Cell) : List Nat → List Cell
  | [] => cs
  | v :: vs => match cs0[v]? with
    | some c => (backC cs0 cs vs).set v c
    | none => backC cs0 cs vs
theorem wipeC_length (cs : List Cell) : ∀ vs, (wipeC cs vs).length = cs.length
  | [] => rfl
  | v :: vs => by unfold wipeC; rw [List.length_set, wipeC_length cs vs]
theorem wipeC_in {cs : List Cell} {i : Nat} : ∀ {vs : List Nat}, i ∈ vs → ∀ c, (wipeC cs vs)[i]? = some c → c = .un
  | v :: vs, h, c, e => by
    unfold wipeC at e
    by_cases hv : v = i
    · subst hv
      by_cases hl : v < (wipeC cs vs).length
      · rw [List.getElem?_set_self hl] at e; cases e; rfl
      · rw [List.getElem?_eq_none (by simpa using hl)] at e; cases e
    · rw [List.getElem?_set_ne hv] at e
      exact wipeC_in ((List.mem_cons.mp h).resolve_left fun z => hv z.symm) c e
theorem wipeC_out {cs : List Cell} {i : Nat} : ∀ {vs : List Nat}, i ∉ vs → (wipeC cs vs)[i]? = cs[i]?
  | [], _ => rfl
  | v :: vs, h => by
    unfold wipeC
    rw [List.getElem?_set_ne (fun z => h (by simp [z]))]
    exact wipeC_out fun z => h (List.mem_cons_of_mem _ z)
theorem wipe_out {σ : St} {i : Nat} : ∀ {vs : List Nat}, i ∉ vs → (wipe σ vs)[i]? = σ[i]?
  | [], _ => rfl
  | v :: vs, h => by
    unfold wipe
    rw [List.getElem?_set_ne (fun z => h (by simp [z]))]
    exact wipe_out fun z => h (List.mem_cons_of_mem _ z)
theorem wipe_in {σ : St} {i : Nat} (hl : i < σ.length) : ∀ {vs : List Nat}, i ∈ vs → (wipe σ vs)[i]? = some none
  | v :: vs, h => by
    unfold wipe
    by_cases hv : v = i
    · subst hv
      rw [List.getElem?_set_self (by rw [wipe_length]; exact hl)]
    · rw [List.getElem?_set_ne hv]
      exact wipe_in hl ((List.mem_cons.mp h).resolve_left fun z => hv z.symm)
theorem backC_length (cs0 cs : List Cell) : ∀ vs, (backC cs0 cs vs).length = cs.length
  | [] => rfl
  | v :: vs => by
    unfold backC
    split
    · rw [List.length_set, backC_length cs0 cs vs]
    · exact backC_length cs0 cs vs
theorem backC_in {cs0 cs : List Cell} (hl : cs0.length = cs.length) {i : Nat} (hi : i < cs.length) : ∀ {vs : List Nat}, i ∈ vs → (backC cs0 cs vs)[i]? = cs0[i]?
  | v :: vs, h => by
    unfold backC
    by_cases hv : v = i
    · subst hv
      have e : cs0[v]? = some (cs0[v]'(by omega)) := List.getElem?_eq_getElem (by omega)
      rw [e]
      simp only
      rw [List.getElem?_set_self (by rw [backC_length]; exact hi)]
    · have ih := backC_in hl hi (vs := vs) ((List.mem_cons.mp h).resolve_left fun z => hv z.symm)
      split
      · rw [List.getElem?_set_ne hv]; exact ih
      · exact ih
theorem backC_out {cs0 cs : List Cell} {i : Nat} : ∀ {vs : List Nat}, i ∉ vs → (backC cs0 cs vs)[i]? = cs[i]?
  | [], _ => rfl
  | v :: vs, h => by
    unfold backC
    have ih := backC_out (cs0 := cs0) (cs := cs) (vs := vs) fun z => h (List.mem_cons_of_mem _ z)
    split
    · rw [List.getElem?_set_ne (fun z => h (by simp [z]))]; exact ih
    · exact ih

section
variable {T : Th} {np : Nat} {σ σ2 : St} {cs cs2 : List Cell} {G G0 H H0 : Hp} {vs : List Nat}
theorem srel_wipe (R : SRel T σ cs G H) (vs : List Nat) : SRel T (wipe σ vs) (wipeC cs vs) G H := by
  have out : ∀ {i : Nat} {c : Cell}, (wipeC cs vs)[i]? = some c → c ≠ .un → i ∉ vs ∧ cs[i]? = some c := fun {i c} e hc => by
    have h : i ∉ vs := fun z => hc (wipeC_in z c e)
    exact ⟨h, by rw [← wipeC_out h]; exact e⟩
  refine ⟨by rw [wipe_length, wipeC_length]; exact R.len, R.ex, fun i c hc => ?_, fun i j hc => ?_, fun i j p ci cj hij h1 h2 h3 h4 h5 h6 => ?_⟩
  · by_cases hu : c = .un
    · subst hu; trivial
    · obtain ⟨h, e⟩ := out hc hu
      rw [wipe_out h]
      exact cat_slots (R.at_ i c e) fun j z => R.nobw i j (z ▸ e)
  · exact R.nobw i j (out hc (fun z => nomatch z)).2
  · obtain ⟨a1, a2⟩ := out h1 (fun z => by rw [z] at h3; cases h3)
    obtain ⟨b1, b2⟩ := out h2 (fun z => by rw [z] at h4; cases h4)
    rw [wipe_out a1] at h5
    rw [wipe_out b1] at h6
    exact R.sep i j p ci cj hij a2 b2 h3 h4 h5 h6
theorem own_wipe {p : Addr} (h : Own (wipe σ vs) (wipeC cs vs) p) : Own σ cs p ∧ ∃ i c, i ∉ vs ∧ cs[i]? = some c ∧ c.own = true ∧ σ[i]? = some (some (.ref p)) := by
  obtain ⟨i, c, h1, h2, h3⟩ := h
  have hi : i ∉ vs := fun z => by rw [wipeC_in z c h1] at h2; cases h2
  rw [wipeC_out hi] at h1
  rw [wipe_out hi] at h3
  exact ⟨⟨i, c, h1, h2, h3⟩, i, c, hi, h1, h2, h3⟩
/-- the end of a turn: the block's own names are forgotten -/
theorem nxt_wipe {σ1 : St} {cs1 : List Cell} {G1 H1 : Hp} (hu : ∀ i ∈ vs, ∀ c, cs1[i]? = some c → c.own = false) (n : Nxt np σ1 cs1 G1 H1 σ2 cs2 G H) : Nxt np σ1 cs1 G1 H1 (wipe σ2 vs) (wipeC cs2 vs) G H := by
  refine ⟨n.ex, n.new, n.keep, fun p h => n.own p (own_wipe h).1, n.dom, fun i p c hi h1 h2 h3 => ?_⟩
  obtain ⟨e1, c', e2, e3⟩ := n.par i p c hi h1 h2 h3
  have hi : i ∉ vs := fun z => by have := hu i z c h1; rw [h2] at this; cases this
  rw [wipe_out hi, wipeC_out hi]
  exact ⟨e1, c', e2, e3⟩
theorem wipe_but {ts : List Nat} (b : But ts σ σ2) (h : ∀ j ∈ ts, j ∈ vs) : wipe σ2 vs = wipe σ vs := by
  apply List.ext_getElem?
  intro i
  by_cases hi : i ∈ vs
  · by_cases hl : i < σ.length
    · rw [wipe_in hl hi, wipe_in (by rw [b.1]; exact hl) hi]
    · rw [List.getElem?_eq_none (by rw [wipe_length, b.1]; omega), List.getElem?_eq_none (by rw [wipe_length]; omega)]
  · rw [wipe_out hi, wipe_out hi]
    exact b.2 i fun z => hi (h i z)
theorem wipe_wipe (σ : St) (vs : List Nat) : wipe (wipe σ vs) vs = wipe σ vs := by
  apply List.ext_getElem?
  intro i
  by_cases hi : i ∈ vs
  · by_cases hl : i < σ.length
    · rw [wipe_in (by rw [wipe_length]; exact hl) hi, wipe_in hl hi]
    · rw [List.getElem?_eq_none (by rw [wipe_length, wipe_length]; omega), List.getElem?_eq_none (by rw [wipe_length]; omega)]
  · rw [wipe_out hi]
/-- a list that nobody knows is laid, or changed -/
theorem lay_ok {Dd : Addr} {o : HO} (R : SRel T σ cs G H) (g : G Dd = none) (no : ¬ Own σ cs Dd) : SRel T σ cs G (upd H Dd o) := by
  refine ⟨R.len, fun b u hb => ?_, fun i c hc => ?_, R.nobw, R.sep⟩
  · rw [upd_ne (fun z => by rw [z, g] at hb; cases hb)]; exact R.ex b u hb
  · have h := R.at_ i c hc
    cases c with
    | un => trivial
    | da d => exact h
    | bw j => exact h
    | ex nm => exact h
    | ol ds =>
      obtain ⟨q, ws, e, g', h, k⟩ := h
      have hq : q ≠ Dd := fun z => no ⟨i, _, hc, rfl, by rw [e, z]⟩
      exact ⟨q, ws, e, g', by rw [upd_ne hq]; exact h, k⟩
theorem lay_nxt {Dd : Addr} {o : HO} {σ1 : St} {cs1 : List Cell} {G1 H1 : Hp} (n : Nxt np σ1 cs1 G1 H1 σ cs G H) (h1 : H1 Dd = none) : Nxt np σ1 cs1 G1 H1 σ cs G (upd H Dd o) := by
  refine ⟨n.ex, n.new, fun p u hp hn => ?_, n.own, fun p hp => ?_, n.par⟩
  · rw [upd_ne (fun z => by rw [z, h1] at hp; cases hp)]; exact n.keep p u hp hn
  · by_cases hq : p = Dd
    · rw [hq, upd_same]; simp
    · rw [upd_ne hq]; exact n.dom p hp
end

def lcGo (vs : List Nat) (tgt : D → List Cell → Option (List Cell)) (tt : List Cell → TR) (f : List Cell → ER) : List D → List Cell → Option (List D × List Cell)
  | [], cs => some ([], cs)
  | d :: ds, cs => match tgt d cs with
    | none => none
    | some cs1 => match tt cs1 with
      | .val true cs2 => match f cs2 with
        | .val (.da e) cs3 => (lcGo vs tgt tt f ds (wipeC cs3 vs)).map fun r => (e :: r.1, r.2)
        | _ => none
      | .val false cs2 => lcGo vs tgt tt f ds (wipeC cs2 vs)
      | _ => none
/-- [f for tgt in src if tt]: vs, the slots of its own names -/
def eLc (vs : List Nat) (src : List Cell → IR) (tgt : D → List Cell → Option (List Cell)) (tt : List Cell → TR) (f : List Cell → ER) (cs : List Cell) : ER := (src cs).toE fun items cs1 =>
  if items.length ≤ sizeLine then match lcGo vs tgt tt f items (wipeC cs1 vs) with
    | some r => .val (.ol r.1) (backC cs1 r.2 vs)
    | none => .bad
  else .bad
def tTrue (cs : List Cell) : TR := .val true cs
abbrev W0 : WX := fun _ _ _ _ => False
theorem dts_nil {X : Cx} {T : Th} {np : Nat} : PTs X [] (rT T np W0 tTrue) := ⟨fun pins s σ H Q I ⟨cs, G, R, h⟩ => pts_nil.run pins s σ H Q I (h G H .refl R)⟩
theorem dts_one {X : Cx} {T : Th} {np : Nat} {c : Expr} {t : List Cell → TR} (h : PT X c (rT T np W0 t)) : PTs X [c] (rT T np W0 t) := pts_one h
section
variable {T : Th} {np : Nat} {W : WX} {src : List Cell → IR} {ts vs : List Nat} {tgt : D → List Cell → Option (List Cell)} {tt : List Cell → TR} {f : List Cell → ER}
/-- what a turn of the comprehension keeps: the new list at Dd within -/
def LcSt (T : Th) (np : Nat) (vs ts : List Nat) (tgt : D → List Cell → Option (List Cell)) (tt : List Cell → TR) (f : List Cell → ER) (items : List D) (σ : St) (csA csE : List Cell) (G1 H1 : Hp) (Dd : Addr) (res : List D) (i : Nat) (H : Hp) : Prop :=
  ∃ cs G acc accV rest, SRel T (wipe σ vs) cs G H ∧ Nxt np (wipe σ vs) csA G1 H1 (wipe σ vs) cs G H ∧ G Dd = none ∧ ¬ Own (wipe σ vs) cs Dd ∧ H Dd = some (.lst accV) ∧ TpAll T.K G accV acc ∧ acc.length ≤ i ∧ (∀ j ∈ vs, ∀ c, cs[j]? = some c → c.own = false) ∧
    lcGo vs tgt tt f (items.drop i) cs = some (rest, csE) ∧ res = acc ++ rest
theorem lc_ok (hv : ∀ j ∈ ts, j ∈ vs) : ∀ (σ : St) (H : Hp) (Q : VK), rE T np W (eLc vs src tgt tt f) σ H Q → tLc (rI T np W src) (rG T np ts tgt) (rT T np W0 tt) (rE T np W0 f) vs σ H Q := by
  rintro σ H Q ⟨cs, G, R, h⟩
  refine ⟨cs, G, R, ?_⟩
  unfold eLc at h
  cases ei : src cs with
  | bad => rw [ei] at h; exact h.elim
  | err e c => rw [ei] at h; exact h
  | val items cs1 =>
    rw [ei, IR.toE_val] at h
    intro G1 H1 J n1 R1 S Dd hDd
    have gDd : G1 Dd = none := R1.ex.free hDd
    split at h
    · rename_i hlen
      split at h
      · rename_i r er
        obtain ⟨res, csE⟩ := r
        have noD : ¬ Own σ cs1 Dd := fun z => (R1.own_no z).2 hDd
        have noD' : ¬ Own (wipe σ vs) (wipeC cs1 vs) Dd := fun z => noD (own_wipe z).1
        have RW := srel_wipe R1 vs
        have hun : ∀ (cs : List Cell), ∀ j ∈ vs, ∀ c, (wipeC cs vs)[j]? = some c → c.own = false := fun cs j hj c e => by rw [wipeC_in hj c e]; rfl
        refine ⟨fun i m H' => m = items.length - i ∧ i ≤ items.length ∧ LcSt T np vs ts tgt tt f items σ (wipeC cs1 vs) csE G1 H1 Dd res i H',
          ⟨items.length, by simp, Nat.zero_le _, wipeC cs1 vs, G1, [], [], res, lay_ok RW gDd noD', lay_nxt .refl hDd, gDd, noD', upd_same, .nil, Nat.le_refl _, hun cs1, er, rfl⟩, ?_⟩
        rintro i m H' ⟨rfl, hi, cs', G', acc, accV, rest, R', n', g', no', hD', ta, hl', hu', el, eres⟩
        by_cases hlt : i < items.length
        · refine .inr ⟨S.go i G' H' hlt n'.ex R'.ex, LcSt T np vs ts tgt tt f items σ (wipeC cs1 vs) csE G1 H1 Dd res (i + 1), fun H2 q => ⟨items.length - (i + 1), by omega, rfl, by omega, q⟩, fun x H2 y => ?_⟩
          obtain ⟨G2, d, pu, hd, td⟩ := S.yld i G' H' x H2 hlt n'.ex R'.ex y
          obtain ⟨R2, n2⟩ := R'.pure (np := np) pu
          have ed : items.drop i = d :: items.drop (i + 1) := by
            rw [List.drop_eq_getElem_cons hlt]
            have e := List.getElem?_eq_getElem hlt
            rw [hd] at e
            cases e
            rfl
          rw [ed] at el
          unfold lcGo at el
          refine ⟨cs', G2, d, R2, td, ?_⟩
          cases et : tgt d cs' with
          | none => rw [et] at el; cases el
          | some cs3 =>
            rw [et] at el
            intro σ3 G3 H3 n3 R3 b3
            have ew : wipe σ3 vs = wipe σ vs := by rw [wipe_but b3 hv, wipe_wipe]
            refine ⟨ew, cs3, G3, R3, ?_⟩
            have n23 := n2.trans n3
            -- what holds of the new list behind a step of this turn
            have still : ∀ {σ4 : St} {cs4 : List Cell} {G4 H4 : Hp}, Nxt np (wipe σ vs) cs' G' H' σ4 cs4 G4 H4 → G4 Dd = none ∧ ¬ Own σ4 cs4 Dd ∧ H4 Dd = some (.lst accV) := fun {σ4 cs4 G4 H4} n => by
              refine ⟨?_, fun z => ?_, n.keep Dd _ hD' no'⟩
              · cases e : G4 Dd with
                | none => rfl
                | some o =>
                  rcases n.new Dd g' (by rw [e]; simp) with z | z
                  · rw [hD'] at z; cases z
                  · exact absurd z no'
              · rcases n.own Dd z with z | z
                · exact no' z
                · rw [hD'] at z; cases z
            have el : (match tt cs3 with
              | .val true cs2 => match f cs2 with
                | .val (.da e) cs3 => (lcGo vs tgt tt f (items.drop (i + 1)) (wipeC cs3 vs)).map fun r => (e :: r.1, r.2)
                | _ => none
              | .val false cs2 => lcGo vs tgt tt f (items.drop (i + 1)) (wipeC cs2 vs)
              | _ => none) = some (rest, csE) := el
            cases ett : tt cs3 with
            | bad => rw [ett] at el; cases el
            | err e c => rw [ett] at el; cases el
            | val b cs4 =>
              rw [ett] at el
              intro G4 H4 n4 R4
              have n24 := n23.trans n4
              cases b with
              | false =>
                have el : lcGo vs tgt tt f (items.drop (i + 1)) (wipeC cs4 vs) = some (rest, csE) := el
                rw [if_neg Bool.false_ne_true]
                obtain ⟨s1, s2, s3⟩ := still n24
                have nw := nxt_wipe (vs := vs) hu' n24
                have Rw := srel_wipe R4 vs
                rw [ew] at nw Rw
                refine ⟨wipeC cs4 vs, G4, acc, accV, rest, Rw, n'.trans nw, s1, fun z => ?_, s3, tpAll_mono nw.ex acc accV ta, by omega, hun cs4, el, eres⟩
                rw [← ew] at z
                exact s2 (own_wipe z).1
              | true =>
                rw [if_pos rfl]
                have el : (match f cs4 with
                  | .val (.da e) cs3 => (lcGo vs tgt tt f (items.drop (i + 1)) (wipeC cs3 vs)).map fun r => (e :: r.1, r.2)
                  | _ => none) = some (rest, csE) := el
                refine ⟨cs4, G4, R4, ?_⟩
                cases ef : f cs4 with
                | bad => rw [ef] at el; cases el
                | err e c => rw [ef] at el; cases el
                | val c cs5 =>
                  rw [ef] at el
                  intro G5 H5 v n5 R5 a5
                  cases c with
                  | da e =>
                    obtain ⟨⟨rest', csE'⟩, e1, e2⟩ := Option.map_eq_some_iff.mp el
                    cases e2
                    have n25 := n24.trans n5
                    obtain ⟨s1, s2, s3⟩ := still n25
                    have nw := nxt_wipe (vs := vs) hu' n25
                    have Rw := srel_wipe R5 vs
                    rw [ew] at nw Rw
                    have nD : ¬ Own (wipe σ vs) (wipeC cs5 vs) Dd := fun z => by
                      rw [← ew] at z
                      exact s2 (own_wipe z).1
                    obtain ⟨w, e3, tv⟩ := a5.1
                    cases e3
                    refine ⟨accV, s3, by rw [ta.length]; omega, wipeC cs5 vs, G5, acc ++ [e], accV ++ [v], rest', lay_ok Rw s1 nD, lay_nxt (n'.trans nw) hDd, s1, nD, upd_same, (tpAll_mono nw.ex acc accV ta).append (.cons tv .nil), by simp; omega, hun cs5, e1, by rw [eres]; simp⟩
                  | un => cases el
                  | ol x => cases el
                  | bw x => cases el
                  | ex x => cases el
        · have e : i = items.length := by omega
          subst e
          refine .inl ⟨S.stop G' H' n'.ex R'.ex, ?_⟩
          rw [List.drop_length] at el
          obtain ⟨rfl, rfl⟩ : rest = [] ∧ cs' = csE := by
            have el : some (([] : List D), cs') = some (rest, csE) := el
            simp only [Option.some.injEq, Prod.mk.injEq] at el
            exact ⟨el.1.symm, el.2⟩
          rw [List.append_nil] at eres
          subst eres
          have hlc : cs1.length = cs'.length := by
            have z1 := R1.len
            have z2 := R'.len
            rw [wipe_length] at z2
            omega
          -- the cells behind: the block's own names as ahead
          have own_in : ∀ {j : Nat} {c : Cell} {p : Addr}, j ∈ vs → cs1[j]? = some c → c.own = true → σ[j]? = some (some (.ref p)) → ¬ Own (wipe σ vs) (wipeC cs1 vs) p := fun {j c p} hj e1 e2 e3 z => by
            obtain ⟨_, i, c', hi, x1, x2, x3⟩ := own_wipe z
            exact R1.sep j i p c c' (fun q => hi (q ▸ hj)) e1 x1 e2 x2 e3 x3
          have fin_at : ∀ {j : Nat} {c : Cell}, (backC cs1 cs' vs)[j]? = some c → (j ∈ vs ∧ cs1[j]? = some c) ∨ (j ∉ vs ∧ cs'[j]? = some c) := fun {j c} e => by
            by_cases hj : j ∈ vs
            · by_cases hl : j < cs'.length
              · exact .inl ⟨hj, by rw [← backC_in hlc hl hj]; exact e⟩
              · rw [List.getElem?_eq_none (by rw [backC_length]; omega)] at e; cases e
            · exact .inr ⟨hj, by rw [← backC_out hj]; exact e⟩
          have old_own : ∀ {p : Addr}, Own (wipe σ vs) cs' p → (∃ j c, j ∉ vs ∧ cs'[j]? = some c ∧ c.own = true ∧ σ[j]? = some (some (.ref p))) := fun {p} ⟨j, c, x1, x2, x3⟩ => by
            have hj : j ∉ vs := fun z => by have := hu' j z c x1; rw [x2] at this; cases this
            rw [wipe_out hj] at x3
            exact ⟨j, c, hj, x1, x2, x3⟩
          have RF : SRel T σ (backC cs1 cs' vs) G' H' := by
            refine ⟨by rw [backC_length, ← hlc]; exact R1.len, R'.ex, fun j c e => ?_, fun j l e => ?_, fun j l p cj cl hjl e1 e2 o1 o2 s1 s2 => ?_⟩
            · rcases fin_at e with ⟨hj, e⟩ | ⟨hj, e⟩
              · have h := R1.at_ j c e
                cases c with
                | un => trivial
                | da d => obtain ⟨v, ev, t⟩ := h; exact ⟨v, ev, tp_mono n'.ex d v t⟩
                | bw l => exact absurd e (R1.nobw j l)
                | ex nm => obtain ⟨a, ea, t⟩ := h; exact ⟨a, ea, n'.ex _ _ t⟩
                | ol ds =>
                  obtain ⟨p, us, ep, gp, hp, k⟩ := h
                  have no := own_in hj e rfl ep
                  refine ⟨p, us, ep, ?_, n'.keep p _ hp no, tpAll_mono n'.ex ds us k⟩
                  cases z : G' p with
                  | none => rfl
                  | some o =>
                    rcases n'.new p gp (by rw [z]; simp) with q | q
                    · rw [hp] at q; cases q
                    · exact absurd q no
              · have h := R'.at_ j c e
                rw [wipe_out hj] at h
                exact cat_slots h fun l z => R'.nobw j l (z ▸ e)
            · rcases fin_at e with ⟨hj, e⟩ | ⟨hj, e⟩
              · exact R1.nobw j l e
              · exact R'.nobw j l e
            · have mix : ∀ {j l : Nat} {cj cl : Cell}, j ∈ vs → cs1[j]? = some cj → cj.own = true → σ[j]? = some (some (.ref p)) → l ∉ vs → cs'[l]? = some cl → cl.own = true → σ[l]? = some (some (.ref p)) → False := fun {j l cj cl} hj x1 x2 x3 hl y1 y2 y3 => by
                have z : Own (wipe σ vs) cs' p := ⟨l, cl, y1, y2, by rw [wipe_out hl]; exact y3⟩
                rcases n'.own p z with z | z
                · exact own_in hj x1 x2 x3 z
                · exact (R1.own_no ⟨j, cj, x1, x2, x3⟩).2 z
              rcases fin_at e1 with ⟨hj, e1⟩ | ⟨hj, e1⟩
              · rcases fin_at e2 with ⟨hl, e2⟩ | ⟨hl, e2⟩
                · exact R1.sep j l p cj cl hjl e1 e2 o1 o2 s1 s2
                · exact mix hj e1 o1 s1 hl e2 o2 s2
              · rcases fin_at e2 with ⟨hl, e2⟩ | ⟨hl, e2⟩
                · exact mix hl e2 o2 s2 hj e1 o1 s1
                · exact R'.sep j l p cj cl hjl e1 e2 o1 o2 (by rw [wipe_out hj]; exact s1) (by rw [wipe_out hl]; exact s2)
          have nF : Nxt np σ cs1 G1 H1 σ (backC cs1 cs' vs) G' H' := by
            refine ⟨n'.ex, fun p a b => (n'.new p a b).imp id fun z => (own_wipe z).1, fun p o a b => n'.keep p o a fun z => b (own_wipe z).1, fun p ⟨j, c, x1, x2, x3⟩ => ?_, n'.dom, fun j p c hj x1 x2 x3 => ⟨x3, ?_⟩⟩
            · rcases fin_at x1 with ⟨hj, x1⟩ | ⟨hj, x1⟩
              · exact .inl ⟨j, c, x1, x2, x3⟩
              · exact (n'.own p ⟨j, c, x1, x2, by rw [wipe_out hj]; exact x3⟩).imp (fun z => (own_wipe z).1) id
            · by_cases hv : j ∈ vs
              · exact ⟨c, by rw [backC_in hlc (by rw [← hlc]; exact (List.getElem?_eq_some_iff.mp x1).1) hv]; exact x1, x2⟩
              · obtain ⟨_, c', z1, z2⟩ := n'.par j p c hj (by rw [wipeC_out hv]; exact x1) x2 (by rw [wipe_out hv]; exact x3)
                exact ⟨c', by rw [backC_out hv]; exact z1, z2⟩
          refine h G' H' (.ref Dd) (n1.trans nF) RF ⟨⟨Dd, accV, rfl, g', hD', ta⟩, fun _ p e => ?_⟩
          cases e
          refine ⟨fun ⟨j, c, x1, x2, x3⟩ => ?_, n1.back hDd⟩
          rcases fin_at x1 with ⟨hj, x1⟩ | ⟨hj, x1⟩
          · exact noD ⟨j, c, x1, x2, x3⟩
          · exact no' ⟨j, c, x1, x2, by rw [wipe_out hj]; exact x3⟩
      · exact h.elim
    · exact h.elim
end
section
variable {X : Cx} {T : Th} {np : Nat} {W : WX} {pos spos : Pos} {ts : List Nat}
theorem de_lc {elt tg iter : Expr} {ifs : List Expr} {scope : Scope} {own : List (Str × Nat)} {src : List Cell → IR} {tgt : D → List Cell → Option (List Cell)} {tt : List Cell → TR} {f : List Cell → ER} (hc : X.calm = true) (hN : X.N.Nodup) (hi : PI X tg iter (rI T np W src)) (ok : BlkOk X.N X.env.scope scope own)
    (hg : ∀ (s : Shared) (H : Hp) (C : Addr) (cl : List (Str × Addr)) (fp : List Addr), PG (X.blk s H scope (compEnvC scope cl C X.env) fp) tg (rG T np ts tgt)) (ht : ∀ (s : Shared) (H : Hp) (C : Addr) (cl : List (Str × Addr)) (fp : List Addr), PTs (X.blk s H scope (compEnvC scope cl C X.env) fp) ifs (rT T np W0 tt))
    (he : ∀ (s : Shared) (H : Hp) (C : Addr) (cl : List (Str × Addr)) (fp : List Addr), PE (X.blk s H scope (compEnvC scope cl C X.env) fp) elt (rE T np W0 f)) (hv : ∀ j ∈ ts, j ∈ own.map (·.2) := by decide) (hs : ∀ x, foldedSetIterable iter X.env x = pure x := by intro _; rfl) :
    PE X (.ListComp elt [⟨tg, iter, ifs, 0⟩] scope pos) (rE T np W (eLc (own.map (·.2)) src tgt tt f)) := pe_imp (pe_lc hc hN hi ok hg ht he hs) (lc_ok hv)
theorem ds_setLc {i : Nat} {y : Str} {py : Pos} {elt tg iter : Expr} {ifs : List Expr} {scope : Scope} {own : List (Str × Nat)} {src : List Cell → IR} {tgt : D → List Cell → Option (List Cell)} {tt : List Cell → TR} {f : List Cell → ER} (hc : X.calm = true) (hN : X.N.Nodup) (hy : X.N[i]? = some y) (hyl : X.env.scope.names.lookup y = some .local)
    (hsw : swapsWith (.ListComp elt [⟨tg, iter, ifs, 0⟩] scope pos) (some (.Name y py)) spos.line X.env = pure true) (hi : PI X tg iter (rI T np W src)) (ok : BlkOk X.N X.env.scope scope own)
    (hg : ∀ (s : Shared) (H : Hp) (C : Addr) (cl : List (Str × Addr)) (fp : List Addr), PG (X.blk s H scope (compEnvC scope cl C X.env) fp) tg (rG T np ts tgt)) (ht : ∀ (s : Shared) (H : Hp) (C : Addr) (cl : List (Str × Addr)) (fp : List Addr), PTs (X.blk s H scope (compEnvC scope cl C X.env) fp) ifs (rT T np W0 tt))
    (he : ∀ (s : Shared) (H : Hp) (C : Addr) (cl : List (Str × Addr)) (fp : List Addr), PE (X.blk s H scope (compEnvC scope cl C X.env) fp) elt (rE T np W0 f)) (hv : ∀ j ∈ ts, j ∈ own.map (·.2) := by decide) (hs : ∀ x, foldedSetIterable iter X.env x = pure x := by intro _; rfl) :
    PS X (.Assign [.Name y py] (.ListComp elt [⟨tg, iter, ifs, 0⟩] scope pos) spos) (rS T np W (sSet np i (eLc (own.map (·.2)) src tgt tt f))) := by
  refine ps_imp (ps_setLc hc hN hy hyl hsw hi ok hg ht he hs) ?_
  rintro D σ H ⟨cs, G, R, h⟩
  exact lc_ok hv σ H _ (rE_run R (SGood.toS h .refl fun c cs1 G1 H1 v n1 R1 a1 h1 => setC_ok R1 n1 a1 h1))
end
end TL
set_option Elab.async false
set_option linter.all false
set_option maxRecDepth 100000
set_option maxHeartbeats 4000000
/-! TL9: defs, their mirrors as promises, calls. -/
namespace TL
open PySem L2

/-! ### a def's mirror at a call -/
/-- behind a call: own arguments as the def left them, the others as they were -/
def outC : List Cell → List Cell → List Cell
  | a :: as, c :: cs => (if a.own = true then c else a) :: outC as cs
  | as, _ => as
@[simp] theorem outC_nil (cs : List Cell) : outC [] cs = [] := by cases cs <;> rfl
@[simp] theorem outC_da (d : D) (as : List Cell) (c : Cell) (cs : List Cell) : outC (.da d :: as) (c :: cs) = .da d :: outC as cs := rfl
@[simp] theorem outC_ol (d : List D) (as : List Cell) (c : Cell) (cs : List Cell) : outC (.ol d :: as) (c :: cs) = c :: outC as cs := rfl
theorem outC_length : ∀ (as cs : List Cell), (outC as cs).length = as.length
  | [], cs => by rw [outC_nil]
  | a :: as, [] => rfl
  | a :: as, c :: cs => by simp [outC, outC_length as cs]
theorem outC_at : ∀ (as cs : List Cell) (i : Nat) (a : Cell), as[i]? = some a → (outC as cs)[i]? = some (if a.own = true then (cs[i]?).getD a else a)
  | [], _, _, _, h => by simp at h
  | a :: as, [], i, b, h => by
    show (a :: as)[i]? = _
    rw [h]
    simp
  | a :: as, c :: cs, 0, b, h => by
    simp at h
    subst h
    rfl
  | a :: as, c :: cs, i + 1, b, h => by
    have h' : as[i]? = some b := by simpa using h
    have := outC_at as cs i b h'
    simpa [outC] using this
/-- nl: how many names there are besides the parameters -/
def callM (nl : Nat) (f : List Cell → SR) (as : List Cell) : ER := match f (as ++ List.replicate nl .un) with
  | .nx cs => .val (.da .none) (outC as cs)
  | .rt (.da d) cs => .val (.da d) (outC as cs)
  | .rt (.ol ds) cs => .val (.ol ds) (outC as cs)
  | .err e cs => .err e (outC as cs)
  | _ => .bad
section
variable {T : Th} {np nl : Nat} {σ' : St} {as cs' : List Cell} {G G' H H' : Hp} {vs : List V}
abbrev sl (vs : List V) : St := vs.map some
theorem own_pad {p : Addr} (hl : as.length = vs.length) : Own (sl vs ++ List.replicate nl none) (as ++ List.replicate nl .un) p ↔ Own (sl vs) as p := by
  constructor
  · rintro ⟨i, c, h1, h2, h3⟩
    by_cases hi : i < as.length
    · rw [List.getElem?_append_left hi] at h1
      rw [List.getElem?_append_left (by simp [← hl]; exact hi)] at h3
      exact ⟨i, c, h1, h2, h3⟩
    · rw [List.getElem?_append_right (by omega), List.getElem?_replicate] at h1
      split at h1
      · cases h1; cases h2
      · cases h1
  · rintro ⟨i, c, h1, h2, h3⟩
    have hi : i < as.length := (List.getElem?_eq_some_iff.mp h1).1
    exact ⟨i, c, by rw [List.getElem?_append_left hi]; exact h1, h2, by rw [List.getElem?_append_left (by simp [← hl]; exact hi)]; exact h3⟩
theorem srel_pad (R : SRel T (sl vs) as G H) : SRel T (sl vs ++ List.replicate nl none) (as ++ List.replicate nl .un) G H := by
  have hl : as.length = vs.length := by have := R.len; simp at this; omega
  have old : ∀ {i : Nat} {c : Cell}, (as ++ List.replicate nl Cell.un)[i]? = some c → c ≠ .un → i < as.length ∧ as[i]? = some c ∧ (sl vs ++ List.replicate nl none)[i]? = (sl vs)[i]? := fun {i c} h hc => by
    by_cases hi : i < as.length
    · rw [List.getElem?_append_left hi] at h
      exact ⟨hi, h, List.getElem?_append_left (by simp [← hl]; exact hi)⟩
    · rw [List.getElem?_append_right (by omega), List.getElem?_replicate] at h
      split at h
      · cases h; exact absurd rfl hc
      · cases h
  refine ⟨by simp [hl], R.ex, fun i c hc => ?_, fun i j hc => ?_, fun i j p ci cj hij h1 h2 h3 h4 h5 h6 => ?_⟩
  · by_cases hu : c = .un
    · subst hu; trivial
    · obtain ⟨_, e, e2⟩ := old hc hu
      rw [e2]
      exact cat_slots (R.at_ i c e) fun j z => R.nobw i j (z ▸ e)
  · exact R.nobw i j (old hc (fun z => nomatch z)).2.1
  · obtain ⟨_, a1, a2⟩ := old h1 (fun z => by rw [z] at h3; cases h3)
    obtain ⟨_, b1, b2⟩ := old h2 (fun z => by rw [z] at h4; cases h4)
    rw [a2] at h5
    rw [b2] at h6
    exact R.sep i j p ci cj hij a1 b1 h3 h4 h5 h6
/-- what a def leaves, seen by its caller -/
theorem out_ok (hl : vs.length = np) (R : SRel T (sl vs) as G H) (n : Nxt np (sl vs ++ List.replicate nl none) (as ++ List.replicate nl .un) G H σ' cs' G' H') (R' : SRel T σ' cs' G' H') :
    Nxt np (sl vs) as G H (sl vs) (outC as cs') G' H' ∧ SRel T (sl vs) (outC as cs') G' H' ∧ (∀ p, Own (sl vs) (outC as cs') p → Own (sl vs) as p ∧ Own σ' cs' p) := by
  have la : as.length = vs.length := by have := R.len; simp at this; omega
  have mine : ∀ {i : Nat} {a : Cell} {p : Addr}, as[i]? = some a → a.own = true → (sl vs)[i]? = some (some (.ref p)) → σ'[i]? = some (some (.ref p)) ∧ ∃ c', cs'[i]? = some c' ∧ c'.own = true := fun {i a p} h1 h2 h3 => by
    have hi : i < as.length := (List.getElem?_eq_some_iff.mp h1).1
    exact n.par i p a (by omega) (by rw [List.getElem?_append_left hi]; exact h1) h2 (by rw [List.getElem?_append_left (by simp [← la]; exact hi)]; exact h3)
  -- what stands in the cells behind
  have got : ∀ {i : Nat} {c : Cell}, (outC as cs')[i]? = some c → ∃ a, as[i]? = some a ∧ ((a.own = false ∧ c = a) ∨ (a.own = true ∧ c.own = true ∧ cs'[i]? = some c ∧ ∃ p, (sl vs)[i]? = some (some (.ref p)) ∧ σ'[i]? = some (some (.ref p)))) := fun {i c} h => by
    have hi : i < as.length := by rw [← outC_length as cs']; exact (List.getElem?_eq_some_iff.mp h).1
    have ea := List.getElem?_eq_getElem hi
    refine ⟨_, ea, ?_⟩
    rw [outC_at as cs' i _ ea] at h
    cases ho : (as[i]).own with
    | false => rw [ho] at h; cases h; exact .inl ⟨rfl, rfl⟩
    | true =>
      rw [ho] at h
      obtain ⟨p, e, _, _⟩ := own_ref (R.at_ i _ ea) ho
      obtain ⟨e1, c', e2, e3⟩ := mine ea ho e
      rw [e2] at h
      cases h
      exact .inr ⟨rfl, e3, e2, p, e, e1⟩
  have ownO : ∀ p, Own (sl vs) (outC as cs') p → Own (sl vs) as p ∧ Own σ' cs' p := fun p ⟨i, c, h1, h2, h3⟩ => by
    obtain ⟨a, ea, ⟨x, y⟩ | ⟨x, y, z, q, e, e'⟩⟩ := got h1
    · rw [y, x] at h2; cases h2
    · rw [h3] at e
      cases e
      exact ⟨⟨i, a, ea, x, h3⟩, ⟨i, c, z, h2, e'⟩⟩
  refine ⟨⟨n.ex, fun p a b => (n.new p a b).imp id (own_pad la).mp, fun p o a b => n.keep p o a fun z => b ((own_pad la).mp z), fun p h => .inl (ownO p h).1, n.dom, fun i p c hi h1 h2 h3 => ⟨h3, ?_⟩⟩, ⟨by rw [outC_length]; exact R.len, R'.ex, fun i c hc => ?_, fun i j hc => ?_, fun i j p ci cj hij h1 h2 h3 h4 h5 h6 => ?_⟩, ownO⟩
  · obtain ⟨e1, c', e2, e3⟩ := mine h1 h2 h3
    refine ⟨c', ?_, e3⟩
    rw [outC_at as cs' i c h1, if_pos h2, e2]
    rfl
  · obtain ⟨a, ea, ⟨x, rfl⟩ | ⟨x, y, z, p, e, e'⟩⟩ := got hc
    · have h := R.at_ i c ea
      cases c with
      | un => trivial
      | da d => obtain ⟨v, ev, t⟩ := h; exact ⟨v, ev, tp_mono n.ex d v t⟩
      | bw l => exact absurd ea (R.nobw i l)
      | ex nm => obtain ⟨q, eq, t⟩ := h; exact ⟨q, eq, n.ex _ _ t⟩
      | ol ds => cases x
    · have h := R'.at_ i c z
      cases c with
      | ol ds =>
        obtain ⟨q, us, eq, r⟩ := h
        rw [e'] at eq
        cases eq
        exact ⟨p, us, e, r⟩
      | un => cases y
      | da d => cases y
      | bw i => cases y
      | ex nm => cases y
  · obtain ⟨a, ea, ⟨x, rfl⟩ | ⟨x, y, z, p, e, e'⟩⟩ := got hc
    · exact R.nobw i j ea
    · cases y
  · obtain ⟨a, ea, ⟨x, rfl⟩ | ⟨x, y, z, q, e, e'⟩⟩ := got h1
    · rw [x] at h3; cases h3
    · obtain ⟨b, eb, ⟨x2, rfl⟩ | ⟨x2, y2, z2, q2, e2, e2'⟩⟩ := got h2
      · rw [x2] at h4; cases h4
      · exact R.sep i j p a b hij ea eb x x2 h5 h6
end
/-- what a wish about exceptions is at a call -/
abbrev wx (E : XK) : WX := fun c d _ H => E c d H
/-- THE PROMISE of a def with the mirror m at calls -/
def spM (T : Th) (np : Nat) (m : List Cell → ER) : Sp := fun vs H Q E => vs.length = np ∧ rE T np (wx E) m (sl vs) H Q
/-- the body's reading from the promise -/
theorem body_ok {T : Th} {np nl : Nat} {f : List Cell → SR} {vs : List V} {H : Hp} {Q : VK} {E : XK} (hl : vs.length = np) (h : rE T np (wx E) (callM nl f) (sl vs) H Q) :
    rS T np (wx E) f { nx := fun _ H' => Q .non H', rt := Q } (sl vs ++ List.replicate nl none) H := by
  obtain ⟨as, G, R, h⟩ := h
  refine ⟨_, G, srel_pad R, ?_⟩
  unfold callM at h
  have rv : ∀ {σ' : St} {cs' : List Cell} {G' H' : Hp} {c : Cell} {v : V}, Nxt np (sl vs ++ List.replicate nl none) (as ++ List.replicate nl .un) G H σ' cs' G' H' → SRel T σ' cs' G' H' → RVAt T (sl vs ++ List.replicate nl none) (as ++ List.replicate nl .un) H σ' cs' G' H' c v → (∀ j, c ≠ .bw j) →
      VAt T (sl vs) (outC as cs') G' H H' c v := fun {σ' cs' G' H' c v} n R' a hb => by
    obtain ⟨n2, R2, ow⟩ := out_ok hl R n R'
    have la : as.length = vs.length := by have := R.len; simp at this; omega
    refine ⟨cat_slots a.1 hb, fun ho p e => ⟨fun z => (a.2 ho p e).1 (ow p z).2, (a.2 ho p e).2.elim id fun z => ?_⟩⟩
    have z' := (own_pad la).mp z
    obtain ⟨i, b, h1, h2, h3⟩ := z'
    have hi : i < as.length := (List.getElem?_eq_some_iff.mp h1).1
    obtain ⟨e1, c', e2, e3⟩ := n.par i p b (by omega) (by rw [List.getElem?_append_left hi]; exact h1) h2 (by rw [List.getElem?_append_left (by simp [← la]; exact hi)]; exact h3)
    exact absurd ⟨i, c', e2, e3, e1⟩ (a.2 ho p e).1
  cases e : f (as ++ List.replicate nl .un) with
  | nx cs' =>
    rw [e] at h
    intro σ' G' H' n R'
    obtain ⟨n2, R2, _⟩ := out_ok hl R n R'
    exact h G' H' .non n2 R2 ⟨⟨.non, rfl, .non⟩, fun z => nomatch z⟩
  | rt c cs' =>
    rw [e] at h
    intro σ' G' H' v n R' a
    obtain ⟨n2, R2, _⟩ := out_ok hl R n R'
    cases c with
    | da d => exact h G' H' v n2 R2 (rv n R' a fun j z => nomatch z)
    | ol ds => exact h G' H' v n2 R2 (rv n R' a fun j z => nomatch z)
    | un => exact h.elim
    | bw i => exact h.elim
    | ex nm => exact h.elim
  | err x cs' =>
    rw [e] at h
    intro σ' G' H' d n R' a
    obtain ⟨n2, R2, _⟩ := out_ok hl R n R'
    exact h G' H' d n2 R2 a
  | bk cs' => rw [e] at h; exact h.elim
  | ct cs' => rw [e] at h; exact h.elim
  | bad => rw [e] at h; exact h.elim

/-! ### a call, seen by the caller -/
def noBw (i : Nat) : List Cell → Bool
  | [] => true
  | .bw j :: r => !(i == j) && noBw i r
  | _ :: r => noBw i r
/-- the arguments' cells as the def gets them -/
def passC (cs : List Cell) : List Cell → Option (List Cell)
  | [] => some []
  | .da d :: r => (passC cs r).map (.da d :: ·)
  | .bw i :: r => if noBw i r = true then (match cs[i]? with
    | some (.ol ds) => (passC cs r).map (.ol ds :: ·)
    | _ => none) else none
  | _ => none
/-- the caller's cells behind the call -/
def backA (cs : List Cell) : List Cell → List Cell → List Cell
  | .bw i :: r, c :: os => (backA cs r os).set i c
  | _ :: r, _ :: os => backA cs r os
  | _, _ => cs
@[simp] theorem passC_nil (cs : List Cell) : passC cs [] = some [] := rfl
@[simp] theorem passC_da (cs : List Cell) (d : D) (r : List Cell) : passC cs (.da d :: r) = (passC cs r).map (.da d :: ·) := rfl
@[simp] theorem backA_nil (cs os : List Cell) : backA cs [] os = cs := by cases os <;> rfl
@[simp] theorem backA_da (cs : List Cell) (d : D) (r : List Cell) (c : Cell) (os : List Cell) : backA cs (.da d :: r) (c :: os) = backA cs r os := rfl
@[simp] theorem backA_bw (cs : List Cell) (i : Nat) (r : List Cell) (c : Cell) (os : List Cell) : backA cs (.bw i :: r) (c :: os) = (backA cs r os).set i c := rfl
theorem backA_length (cs : List Cell) : ∀ (a os : List Cell), (backA cs a os).length = cs.length
  | [], os => by rw [backA_nil]
  | c :: r, [] => by cases c <;> rfl
  | c :: r, o :: os => by cases c <;> simp [backA, backA_length cs r os]
theorem backA_out {cs : List Cell} {j : Nat} : ∀ {a os : List Cell}, (∀ k : Nat, a[k]? ≠ some (.bw j)) → (backA cs a os)[j]? = cs[j]?
  | [], os, _ => by rw [backA_nil]
  | c :: r, [], _ => by cases c <;> rfl
  | c :: r, o :: os, h => by
    have ih := backA_out (cs := cs) (j := j) (a := r) (os := os) fun k z => h (k + 1) (by simpa using z)
    cases c with
    | bw i =>
      have hi : i ≠ j := fun z => h 0 (by rw [z]; rfl)
      show ((backA cs r os).set i o)[j]? = _
      rw [List.getElem?_set_ne hi]
      exact ih
    | un => exact ih
    | da d => exact ih
    | ol d => exact ih
    | ex d => exact ih
theorem noBw_at {i : Nat} : ∀ {r : List Cell}, noBw i r = true → ∀ k : Nat, r[k]? ≠ some (.bw i)
  | [], _, k, z => by simp at z
  | c :: r, h, 0, z => by
    simp at z
    subst z
    simp [noBw] at h
  | c :: r, h, k + 1, z => by
    have z' : r[k]? = some (.bw i) := by simpa using z
    refine noBw_at (r := r) ?_ k z'
    cases c with
    | bw j => simp [noBw] at h; exact h.2
    | un => exact h
    | da d => exact h
    | ol d => exact h
    | ex d => exact h
theorem passC_length {cs : List Cell} : ∀ {a as : List Cell}, passC cs a = some as → as.length = a.length
  | [], as, h => by cases h; rfl
  | c :: r, as, h => by
    cases c with
    | da d =>
      obtain ⟨x, e, rfl⟩ := Option.map_eq_some_iff.mp h
      simp [passC_length e]
    | bw i =>
      unfold passC at h
      split at h
      · split at h
        · obtain ⟨x, e, rfl⟩ := Option.map_eq_some_iff.mp h
          simp [passC_length e]
        · cases h
      · cases h
    | un => cases h
    | ol d => cases h
    | ex d => cases h
theorem passC_at {cs : List Cell} : ∀ {a as : List Cell} {k : Nat} {c : Cell}, passC cs a = some as → as[k]? = some c → (∃ d, c = .da d ∧ a[k]? = some (.da d)) ∨ (∃ i ds, c = .ol ds ∧ a[k]? = some (.bw i) ∧ cs[i]? = some (.ol ds))
  | [], as, k, c, h, e => by cases h; simp at e
  | x :: r, as, k, c, h, e => by
    cases x with
    | da d =>
      obtain ⟨y, e', rfl⟩ := Option.map_eq_some_iff.mp h
      cases k with
      | zero => simp at e; subst e; exact .inl ⟨d, rfl, rfl⟩
      | succ k =>
        have e2 : y[k]? = some c := by simpa using e
        simpa using passC_at e' e2
    | bw i =>
      unfold passC at h
      split at h
      · split at h
        · rename_i hi
          obtain ⟨y, e', rfl⟩ := Option.map_eq_some_iff.mp h
          cases k with
          | zero => simp at e; subst e; exact .inr ⟨i, _, rfl, rfl, hi⟩
          | succ k =>
            have e2 : y[k]? = some c := by simpa using e
            simpa using passC_at e' e2
        · cases h
      · cases h
    | un => cases h
    | ol d => cases h
    | ex d => cases h
theorem passC_one {cs : List Cell} {i : Nat} : ∀ {a as : List Cell} {k l : Nat}, passC cs a = some as → a[k]? = some (.bw i) → a[l]? = some (.bw i) → k = l
  | [], as, k, l, h, e, _ => by simp at e
  | x :: r, as, k, l, h, e1, e2 => by
    have hd : ∀ {n : Nat}, x = .bw i → r[n]? = some (.bw i) → False := fun {n} hx e => by
      subst hx
      unfold passC at h
      split at h
      · rename_i hn
        exact noBw_at hn n e
      · cases h
    have tl : ∃ as', passC cs r = some as' := by
      cases x with
      | da d => obtain ⟨y, e', _⟩ := Option.map_eq_some_iff.mp h; exact ⟨y, e'⟩
      | bw j =>
        unfold passC at h
        split at h
        · split at h
          · obtain ⟨y, e', _⟩ := Option.map_eq_some_iff.mp h; exact ⟨y, e'⟩
          · cases h
        · cases h
      | un => cases h
      | ol d => cases h
      | ex d => cases h
    obtain ⟨as', ha⟩ := tl
    cases k with
    | zero =>
      cases l with
      | zero => rfl
      | succ l => exact (hd (by simpa using e1) (by simpa using e2)).elim
    | succ k =>
      cases l with
      | zero => exact (hd (by simpa using e2) (by simpa using e1)).elim
      | succ l => rw [passC_one (k := k) (l := l) ha (by simpa using e1) (by simpa using e2)]
theorem backA_in {cs : List Cell} {j : Nat} {c : Cell} : ∀ {a os : List Cell} {k : Nat}, (∀ l, a[l]? = some (.bw j) → l = k) → a[k]? = some (.bw j) → os[k]? = some c → j < cs.length → (backA cs a os)[j]? = some c
  | [], os, k, _, h, _, _ => by simp at h
  | x :: r, [], k, _, _, h, _ => by simp at h
  | x :: r, o :: os, 0, hu, h1, h2, hj => by
    simp at h1 h2
    subst h1 h2
    show ((backA cs r os).set j o)[j]? = _
    rw [List.getElem?_set_self (by rw [backA_length]; exact hj)]
  | x :: r, o :: os, k + 1, hu, h1, h2, hj => by
    have ih := backA_in (cs := cs) (j := j) (c := c) (a := r) (os := os) (k := k) (fun l z => by have := hu (l + 1) (by simpa using z); omega) (by simpa using h1) (by simpa using h2) hj
    cases x with
    | bw i =>
      have hi : i ≠ j := fun z => by have := hu 0 (by rw [z]; rfl); omega
      show ((backA cs r os).set i o)[j]? = _
      rw [List.getElem?_set_ne hi]
      exact ih
    | un => exact ih
    | da d => exact ih
    | ol d => exact ih
    | ex d => exact ih
theorem VAts.at {T : Th} {σ : St} {cs : List Cell} {G H0 H : Hp} : ∀ {c : List Cell} {vs : List V} {k : Nat} {x : Cell}, VAts T σ cs G H0 H c vs → c[k]? = some x → ∃ v, vs[k]? = some v ∧ VAt T σ cs G H0 H x v
  | [], vs, k, x, _, h => by simp at h
  | c :: r, [], k, x, h, _ => h.elim
  | c :: r, v :: vs, 0, x, h, e => by simp at e; subst e; exact ⟨v, rfl, h.1⟩
  | c :: r, v :: vs, k + 1, x, h, e => by simpa using VAts.at (k := k) h.2.1 (by simpa using e)
theorem VAts.len {T : Th} {σ : St} {cs : List Cell} {G H0 H : Hp} : ∀ {c : List Cell} {vs : List V}, VAts T σ cs G H0 H c vs → vs.length = c.length
  | [], [], _ => rfl
  | c :: r, [], h => h.elim
  | [], v :: vs, h => h.elim
  | c :: r, v :: vs, h => by simp [VAts.len h.2.1]
/-- values against their cells, place by place -/
structure VIs (T : Th) (σ : St) (cs : List Cell) (G H0 H : Hp) (a : List Cell) (vs : List V) : Prop where
  len : vs.length = a.length
  at_ : ∀ {k : Nat} {x : Cell}, a[k]? = some x → ∃ v, vs[k]? = some v ∧ VAt T σ cs G H0 H x v
theorem VAts.is {T : Th} {σ : St} {cs : List Cell} {G H0 H : Hp} {a : List Cell} {vs : List V} (h : VAts T σ cs G H0 H a vs) : VIs T σ cs G H0 H a vs := ⟨h.len, h.at⟩
section
variable {T : Th} {np np' : Nat} {σ : St} {cs a as os : List Cell} {G G' H H' H0 : Hp} {vs : List V}
theorem pass_ok (R : SRel T σ cs G H) (va : VIs T σ cs G H0 H a vs) (e : passC cs a = some as) : SRel T (sl vs) as G H ∧ (∀ p, Own (sl vs) as p → Own σ cs p) ∧ (∀ (k i : Nat) (p : Addr), a[k]? = some (.bw i) → (sl vs)[k]? = some (some (.ref p)) → σ[i]? = some (some (.ref p))) := by
  have slot : ∀ {k i : Nat}, a[k]? = some (.bw i) → (sl vs)[k]? = σ[i]? := fun {k i} h => by
    obtain ⟨v, ev, x⟩ := va.at_ h
    have x' : some (some v) = σ[i]? := x.1
    rw [← x', List.getElem?_map, ev]
    rfl
  refine ⟨⟨by rw [passC_length e, List.length_map, va.len], R.ex, fun k c hc => ?_, fun k j hc => ?_, fun k l p ck cl hkl h1 h2 h3 h4 h5 h6 => ?_⟩, fun p ⟨k, c, h1, h2, h3⟩ => ?_, fun k i p h1 h2 => ?_⟩
  · rcases passC_at e hc with ⟨d, rfl, h⟩ | ⟨i, ds, rfl, h, hi⟩
    · obtain ⟨v, ev, x⟩ := va.at_ h
      obtain ⟨w, ew, t⟩ := x.1
      cases ew
      exact ⟨v, by rw [List.getElem?_map, ev]; rfl, t⟩
    · obtain ⟨p, us, ep, r⟩ := R.at_ i _ hi
      exact ⟨p, us, (slot h).trans ep, r⟩
  · rcases passC_at e hc with ⟨d, z, h⟩ | ⟨i, ds, z, h, hi⟩ <;> cases z
  · rcases passC_at e h1 with ⟨d, rfl, h⟩ | ⟨i, ds, rfl, h, hi⟩
    · cases h3
    · rcases passC_at e h2 with ⟨d, rfl, h'⟩ | ⟨j, ds', rfl, h', hj⟩
      · cases h4
      · have hij : i ≠ j := fun z => hkl (passC_one e h (z ▸ h'))
        rw [slot h] at h5
        rw [slot h'] at h6
        exact R.sep i j p _ _ hij hi hj rfl rfl h5 h6
  · rcases passC_at e h1 with ⟨d, rfl, h⟩ | ⟨i, ds, rfl, h, hi⟩
    · cases h2
    · exact ⟨i, _, hi, rfl, (slot h).symm.trans h3⟩
  · exact (slot h1).symm.trans h2
/-- behind the call the caller's state goes on -/
theorem back_ok (hl : vs.length = np') (R : SRel T σ cs G H) (va : VIs T σ cs G H0 H a vs) (e : passC cs a = some as) (n : Nxt np' (sl vs) as G H (sl vs) os G' H') (R' : SRel T (sl vs) os G' H') :
    Nxt np σ cs G H σ (backA cs a os) G' H' ∧ SRel T σ (backA cs a os) G' H' ∧ (∀ p, Own σ (backA cs a os) p → Own σ cs p) := by
  obtain ⟨R0, ow, slot⟩ := pass_ok R va e
  have la : as.length = a.length := passC_length e
  have lv : vs.length = a.length := va.len
  have bwOf : ∀ {k i : Nat}, a[k]? = some (.bw i) → ∃ ds, cs[i]? = some (.ol ds) ∧ as[k]? = some (.ol ds) := fun {k i} h => by
    have hk : k < as.length := by rw [la]; exact (List.getElem?_eq_some_iff.mp h).1
    have ek := List.getElem?_eq_getElem hk
    rcases passC_at e ek with ⟨d, z, h'⟩ | ⟨j, ds, z, h', hj⟩
    · rw [h] at h'; cases h'
    · rw [h] at h'
      cases h'
      rw [z] at ek
      exact ⟨ds, hj, ek⟩
  have got : ∀ {j : Nat} {c : Cell}, (backA cs a os)[j]? = some c → ((∀ k : Nat, a[k]? ≠ some (Cell.bw j)) ∧ cs[j]? = some c) ∨ (∃ (k : Nat) (p : Addr) (ds : List D), a[k]? = some (Cell.bw j) ∧ os[k]? = some c ∧ c.own = true ∧ cs[j]? = some (.ol ds) ∧ σ[j]? = some (some (V.ref p)) ∧ (sl vs)[k]? = some (some (V.ref p))) := fun {j c} h => by
    by_cases hb : ∃ k : Nat, a[k]? = some (.bw j)
    · obtain ⟨k, hk⟩ := hb
      obtain ⟨ds, e1, e2⟩ := bwOf hk
      obtain ⟨p, us, e3, _⟩ := R0.at_ k _ e2
      have hkn : k < np' := by rw [← hl, lv]; exact (List.getElem?_eq_some_iff.mp hk).1
      obtain ⟨_, c', e4, e5⟩ := n.par k p _ hkn e2 rfl e3
      have hj : j < cs.length := (List.getElem?_eq_some_iff.mp e1).1
      rw [backA_in (fun l z => passC_one e z hk) hk e4 hj] at h
      cases h
      exact .inr ⟨k, p, ds, hk, e4, e5, e1, slot k j p hk e3, e3⟩
    · have hb' : ∀ k : Nat, a[k]? ≠ some (.bw j) := fun k z => hb ⟨k, z⟩
      rw [backA_out hb'] at h
      exact .inl ⟨hb', h⟩
  have ownB : ∀ p, Own σ (backA cs a os) p → Own σ cs p := fun p ⟨j, c, h1, h2, h3⟩ => by
    rcases got h1 with ⟨_, h⟩ | ⟨k, q, ds, x1, x2, x3, x4, x5, x6⟩
    · exact ⟨j, c, h, h2, h3⟩
    · exact ⟨j, _, x4, rfl, h3⟩
  refine ⟨⟨n.ex, fun p h1 h2 => (n.new p h1 h2).imp id (ow p), fun p o h1 h2 => n.keep p o h1 fun z => h2 (ow p z), fun p h => .inl (ownB p h), n.dom, fun j p c hj h1 h2 h3 => ⟨h3, ?_⟩⟩,
    ⟨by rw [backA_length]; exact R.len, R'.ex, fun j c hc => ?_, fun j l hc => ?_, fun i j p ci cj hij h1 h2 h3 h4 h5 h6 => ?_⟩, ownB⟩
  · have hj' : j < (backA cs a os).length := by rw [backA_length]; exact (List.getElem?_eq_some_iff.mp h1).1
    have ej := List.getElem?_eq_getElem hj'
    refine ⟨_, ej, ?_⟩
    rcases got ej with ⟨_, h⟩ | ⟨k, q, ds, x1, x2, x3, x4, x5, x6⟩
    · rw [h1] at h; cases h; exact h2
    · exact x3
  · rcases got hc with ⟨hb, h⟩ | ⟨k, q, ds, x1, x2, x3, x4, x5, x6⟩
    · have t := R.at_ j c h
      cases c with
      | un => trivial
      | da d => obtain ⟨v, ev, t⟩ := t; exact ⟨v, ev, tp_mono n.ex d v t⟩
      | bw l => exact absurd h (R.nobw j l)
      | ex nm => obtain ⟨q, eq, t⟩ := t; exact ⟨q, eq, n.ex _ _ t⟩
      | ol ds =>
        obtain ⟨p, us, ep, gp, hp, kk⟩ := t
        -- not one of the borrowed
        have no : ¬ Own (sl vs) as p := fun ⟨k, c', y1, y2, y3⟩ => by
          rcases passC_at e y1 with ⟨d, rfl, hh⟩ | ⟨i, ds', rfl, hh, hi⟩
          · cases y2
          · have hij : i ≠ j := fun z => hb k (z ▸ hh)
            exact R.sep i j p _ _ hij hi h rfl rfl (slot k i p hh y3) ep
        refine ⟨p, us, ep, ?_, n.keep p _ hp no, tpAll_mono n.ex ds us kk⟩
        cases z : G' p with
        | none => rfl
        | some o =>
          rcases n.new p gp (by rw [z]; simp) with q | q
          · rw [hp] at q; cases q
          · exact absurd q no
    · have t := R'.at_ k c x2
      cases c with
      | ol ds' =>
        obtain ⟨p', us, ep, r⟩ := t
        rw [x6] at ep
        cases ep
        exact ⟨q, us, x5, r⟩
      | un => cases x3
      | da d => cases x3
      | bw i => cases x3
      | ex nm => cases x3
  · rcases got hc with ⟨hb, h⟩ | ⟨k, q, ds, x1, x2, x3, x4, x5, x6⟩
    · exact R.nobw j l h
    · cases x3
  · have src : ∀ {i : Nat} {c : Cell}, (backA cs a os)[i]? = some c → c.own = true → ∃ c', cs[i]? = some c' ∧ c'.own = true := fun {i c} h1 h2 => by
      rcases got h1 with ⟨_, h⟩ | ⟨k, q, ds, x1, x2, x3, x4, x5, x6⟩
      · exact ⟨c, h, h2⟩
      · exact ⟨_, x4, rfl⟩
    obtain ⟨c1, y1, y2⟩ := src h1 h3
    obtain ⟨c2, z1, z2⟩ := src h2 h4
    exact R.sep i j p c1 c2 hij y1 z1 y2 z2 h5 h6
end
/-- f(..) -/
def callE (n : Nat) (m : List Cell → ER) (a cs : List Cell) : ER := if a.length = n then (match passC cs a with
  | none => .bad
  | some as => match m as with
    | .val c os => .val c (backA cs a os)
    | .err e os => .err e (backA cs a os)
    | .bad => .bad) else .bad
def eCall (n : Nat) (m : List Cell → ER) (f : List Cell → AR) (cs : List Cell) : ER := (f cs).toE fun a cs1 => callE n m a cs1
theorem call_ok {T : Th} {np np' : Nat} {W : WX} {m : List Cell → ER} {σ : St} {cs a : List Cell} {G H H0 : Hp} {vs : List V} {Q : VK} (hm : ∀ as c os, m as = .val c os → ∀ j, c ≠ .bw j) (R : SRel T σ cs G H) (va : VIs T σ cs G H0 H a vs) (g : EGood T np W Q σ cs G H (callE np' m a cs)) :
    spM T np' m vs H Q (WE W σ) := by
  unfold callE at g
  by_cases ha : a.length = np'
  case neg => rw [if_neg ha] at g; exact g.elim
  rw [if_pos ha] at g
  have hl : vs.length = np' := va.len.trans ha
  cases e : passC cs a with
  | none => rw [e] at g; exact g.elim
  | some as =>
    rw [e] at g
    refine ⟨hl, as, G, (pass_ok R va e).1, ?_⟩
    cases em : m as with
    | bad => simp only [em] at g; exact g.elim
    | val c os =>
      simp only [em] at g
      intro G' H' v n R' x
      obtain ⟨n2, R2, ow⟩ := back_ok (np := np) hl R va e n R'
      refine g G' H' v n2 R2 ⟨cat_slots x.1 (hm as c os em), fun ho p ep => ⟨fun z => ?_, (x.2 ho p ep).2⟩⟩
      have z' := (R.own_no (ow p z)).2
      exact z' (x.2 ho p ep).2
    | err er os =>
      simp only [em] at g
      intro G' H' d n R' x
      obtain ⟨n2, R2, ow⟩ := back_ok (np := np) hl R va e n R'
      exact g G' H' d n2 R2 x
theorem callM_nobw {nl : Nat} {f : List Cell → SR} (as : List Cell) (c : Cell) (os : List Cell) (h : callM nl f as = .val c os) (j : Nat) : c ≠ .bw j := by
  unfold callM at h
  split at h <;> first | (cases h; exact fun z => nomatch z) | cases h

/-! ### what a def promises: FnOk where the guards are none -/
structure FnG (P : Program) (w : World) (K : PySem.W.Frag) (mg : Str → Option Value) (base : Heap) (k : Nat) (f : Addr) (fd : FuncData) (ps : List Str) (sp : Sp) : Prop where
  len : ∀ vs H Q E, sp vs H Q E → vs.length = ps.length
  run : ∀ (A : Around) (outer : List Env) (s : Shared) (H : Hp) (args : Args) (us : List Value) (vs : List V) (Q : VK) (E : XK), Room k A → A.guards = some [] → Env0 P w K mg base A outer s H → BindsTo s fd args (ps.zip us) → Vals vs us → sp vs H Q E →
    codeAny (model P w) A (.call (.ref f) args) (CR (L2.CX P w) outer P w H s Q E) s
theorem FnG.mono {P : Program} {w : World} {K : PySem.W.Frag} {mg : Str → Option Value} {base : Heap} {j k : Nat} {f : Addr} {fd : FuncData} {ps : List Str} {sp : Sp} (F : FnG P w K mg base j f fd ps sp) (h : j ≤ k) : FnG P w K mg base k f fd ps sp :=
  ⟨F.len, fun A outer s H args us vs Q E hr => F.run A outer s H args us vs Q E (hr.mono h)⟩
section
variable {P : Program} {w : World} {K : PySem.W.Frag} {mg : Str → Option Value} {base : Heap}
/-- the context of a def's body -/
abbrev bodyX (P : Program) (w : World) (K : PySem.W.Frag) (mg : Str → Option Value) (base : Heap) (N : List Str) (qual : Str) (st : Stmt) (f : Addr) (cdv : Value) (A : Around) (outer : List Env) (s : Shared) (H : Hp) (E : XK) : Cx :=
  cxOf (L2.CX P w) P w K mg base N qual (defScope st) f cdv A outer s H E
theorem fnG_of {x qual : Str} {st : Stmt} {f : Addr} {fd : FuncData} {N ps : List Str} {k : Nat} {sp : Sp} (F : L2.Fun K x qual st f fd) (S : FnScope N ps (defScope st)) (len : ∀ vs H Q E, sp vs H Q E → vs.length = ps.length)
    (go : ∀ (cdv : Value) (A : Around) (outer : List Env) (s : Shared) (H : Hp) (vs : List V) (Q : VK) (E : XK), Room k (bodyX P w K mg base N qual st f cdv A outer s H E).A → (bodyX P w K mg base N qual st f cdv A outer s H E).A.guards = some [] → sp vs H Q E →
      ∃ t, PSs (bodyX P w K mg base N qual st f cdv A outer s H E) (defBody st) t ∧ t { nx := fun _ H' => Q .non H', rt := Q } (L2.start N vs) H) : FnG P w K mg base (k + 1) f fd ps sp := by
  obtain ⟨oc, od, kV, doc, pm, an, cdv, ct, osl, rfl, lk, hcd⟩ := F.ex
  refine ⟨len, fun A outer s H args us vs Q E hr hgd e0 hb r hsp => ?_⟩
  have here : ∀ b o, base.get? b = some o → s.heap.get? b = some o := fun b o e => (e0.bs b o e).1
  have kin : K.In s.heap := e0.mod.kin.keeps here
  refine codeAny_call_function hr.depth (kin _ _ lk) rfl S.co S.gen rfl (PySem.W.codeRec_of kin hcd) (hb _ _ _ _ ?_)
  refine wpAny_newFunctionEnv_cells S.kind (fun y hy => ?_) fun env he s1 inC => ?_
  · obtain ⟨n, v⟩ := y
    have hn := (List.of_mem_zip hy).1
    exact (S.par n hn).imp id fun q => ⟨q, PySem.W.cellsFrom_some _ _ _ (.inl q)⟩
  · subst he
    refine ⟨(e0.mod.nolimit.keeps here).keeps inC.toInCall.keep, codeAny_func ?_⟩
    obtain ⟨t, ht, hq⟩ := go cdv A outer s H vs Q E (hr.deeper _) hgd hsp
    have I0 := inv_start (CX := L2.CX P w) (E := E) S hr.hd e0 (len _ _ _ _ hsp) r inC
    have shut : ∀ {σ' : St} {H' : Hp} {s' : Shared} {v : V} {u : Value}, Inv (bodyX P w K mg base N qual st f cdv A outer s H E) [] σ' H' s' → RelV v u → Q v H' → CE outer P w H s Q u s' := fun J rv q => ⟨_, _, J.os, J.bare, J.base, J.hok, rv, q⟩
    refine wpAny_mono (ht.run [] s1 (L2.start N vs) H _ I0 hq) (fun fl s' hs => ?_) fun _ _ hs => hs
    cases fl with
    | next => obtain ⟨_, _, J, q⟩ := hs; exact shut (v := V.non) J rfl q
    | ret u => obtain ⟨_, _, _, J, rv, q⟩ := hs; exact shut J rv q
    | cont => exact hs.choose_spec.choose_spec.2.elim
    | brk => exact hs.choose_spec.choose_spec.2.elim
/-- THE RULE: a def whose body reads as the mirror f -/
theorem fnG_mirror {ca : Str → Addr} {x qual : Str} {st : Stmt} {fa : Addr} {fd : FuncData} {N ps : List Str} {k nl : Nat} {f : List Cell → SR} (F : L2.Fun K x qual st fa fd) (S : FnScope N ps (defScope st)) (hn : N.length = ps.length + nl)
    (go : ∀ (cdv : Value) (A : Around) (outer : List Env) (s : Shared) (H : Hp) (E : XK), Room k (bodyX P w K mg base N qual st fa cdv A outer s H E).A → (bodyX P w K mg base N qual st fa cdv A outer s H E).A.guards = some [] →
      Takes (bodyX P w K mg base N qual st fa cdv A outer s H E) (wx E) → PSs (bodyX P w K mg base N qual st fa cdv A outer s H E) (defBody st) (rS ⟨K, ca⟩ ps.length (wx E) f)) : FnG P w K mg base (k + 1) fa fd ps (spM ⟨K, ca⟩ ps.length (callM nl f)) := by
  refine fnG_of F S (fun vs H Q E h => h.1) fun cdv A outer s H vs Q E hr hgd hsp => ⟨_, go cdv A outer s H E hr hgd (takes_of rfl rfl rfl rfl), ?_⟩
  have e : L2.start N vs = sl vs ++ List.replicate nl none := by
    unfold L2.start
    rw [hsp.1, hn, Nat.add_sub_cancel_left]
  rw [e]
  exact body_ok hsp.1 hsp.2
end

/-! ### calls -/
section
variable {X : Cx} {k : Nat} {f : Addr} {fd : FuncData} {ps ks : List Str} {sp : Sp} {W : WX} {x : Str} {p pos : Pos} {e : Expr} {es : List Expr} {kws : List Keyword}
theorem run_g {pins : List (Addr × Obj)} {σ : St} {H : Hp} {s : Shared} {Q : VK} {us : List Value} {vs : List V} {args : Args} (F : FnG X.prog X.w X.K X.mg X.base k f fd ps sp) (hr : Room k X.A) (hgd : X.A.guards = some []) (hx : PassesAt (L2.CX X.prog X.w) X σ (WE W σ)) (hb : BindsTo s fd args (ps.zip us))
    (I : Inv X pins σ H s) (r : Vals vs us) (h : sp vs H Q (WE W σ)) : wpAny (model X.prog X.w) X.A (call (.ref f) args.pos args.kw) (EP X pins σ Q) X.xe s := by
  refine wpAny_call (codeAny_mono (F.run X.A X.stack s H args us vs Q (WE W σ) hr hgd I.env0 hb r h) fun res s' hq => ?_)
  match res, hq with
  | .error ex, hq => exact hx pins H s ex s' I hq
  | .ok (.ret u), hq => exact I.after hq
variable {T : Th} {np : Nat} {m : List Cell → ER} {fa : List Cell → AR}
theorem de_call {ca : Str → Addr} (hm' : ∀ as c os, m as = .val c os → ∀ j, c ≠ .bw j) (F : FnG X.prog X.w X.K X.mg X.base k f fd ps (spM ⟨X.K, ca⟩ ps.length m)) (hr : Room k X.A) (hgd : X.A.guards = some []) (hx : ∀ σ, PassesAt (L2.CX X.prog X.w) X σ (WE W σ)) (hg : Gl X x) (hm : X.mg x = some (.ref f)) (hk : PySem.W.keepIn X.K (.ref f) = true) (hb : Binds X.K fd ps [])
    (ha : PA X (e :: es) (rA ⟨X.K, ca⟩ np W fa)) (hdb : (x == ("__debug__" : Str)) = false := by decide) (he : starEach (e :: es) X.env = (false, eval e X.env) :: starEach es X.env := by rfl)
    (hpl : (backTo pos (starEach es X.env)).any (·.1) = false := by rfl) : PE X (.Call (.Name x p) (e :: es) [] pos) (rE ⟨X.K, ca⟩ np W (eCall ps.length m fa)) := by
  refine ⟨fun pins s σ H Q I ⟨cs, G, R, h⟩ => ?_⟩
  refine wpAny_Call_Name_kw (ld_glob I hg hm ?_ hdb)
  have step : rA ⟨X.K, ca⟩ np W fa σ H fun vs H1 => spM ⟨X.K, ca⟩ ps.length m vs H1 Q (WE W σ) := rA_run R (AGood.ofE h .refl fun a cs1 G1 H1 vs n1 R1 a1 h1 => call_ok hm' R1 a1.is (h1.on n1))
  refine PySem.W.callWith_K (h₀ := X.base) I.ok.mod.kin hk (thn (ha.run pos pins s σ H _ I step) fun us s1 ⟨vs, H1, I1, r, q⟩ => ⟨I1.kIn, ?_⟩) he hpl
  have b := hb s1 us I1.kIn (by rw [List.append_nil, ← r.length]; exact q.1)
  rw [List.append_nil] at b
  exact run_g F hr hgd (hx σ) b I1 r q
theorem de_call0 {ca : Str → Addr} (hm' : ∀ as c os, m as = .val c os → ∀ j, c ≠ .bw j) (F : FnG X.prog X.w X.K X.mg X.base k f fd ps (spM ⟨X.K, ca⟩ ps.length m)) (hr : Room k X.A) (hgd : X.A.guards = some []) (hx : ∀ σ, PassesAt (L2.CX X.prog X.w) X σ (WE W σ)) (hg : Gl X x) (hm : X.mg x = some (.ref f)) (hk : PySem.W.keepIn X.K (.ref f) = true) (hb : Binds X.K fd ps [])
    (hdb : (x == ("__debug__" : Str)) = false := by decide) : PE X (.Call (.Name x p) [] [] pos) (rE ⟨X.K, ca⟩ np W (eCall ps.length m aNil)) := by
  refine ⟨fun pins s σ H Q I ⟨cs, G, R, h⟩ => ?_⟩
  refine wpAny_Call_Name_kw (ld_glob I hg hm ?_ hdb)
  have q : spM ⟨X.K, ca⟩ ps.length m [] H Q (WE W σ) := call_ok (a := []) hm' R (VAts.is (T := ⟨X.K, ca⟩) (σ := σ) (cs := cs) (G := G) (H0 := H) (H := H) (a := []) (vs := []) trivial) h
  have b := hb s [] I.kIn (by rw [← q.1]; rfl)
  exact PySem.W.callWith_K0 I.kIn hk (run_g (us := []) F hr hgd (hx σ) b I .nil q)

/-! ### calls with keywords alone -/
def permL {α : Type} (π : List Nat) (xs : List α) : List α := π.filterMap fun i => xs[i]?
theorem permL_vals {vs : List V} {us : List Value} (r : Vals vs us) : ∀ π : List Nat, Vals (permL π vs) (permL π us)
  | [] => .nil
  | i :: π => by
    unfold permL
    rw [List.filterMap_cons, List.filterMap_cons]
    cases e : vs[i]? with
    | none =>
      have e2 : us[i]? = none := by
        rw [List.getElem?_eq_none_iff] at e ⊢
        rw [← r.length]
        exact e
      rw [e2]
      exact permL_vals r π
    | some v =>
      obtain ⟨u, hu, ru⟩ := r.get e
      rw [hu]
      exact .cons ru (permL_vals r π)
theorem permL_is {T : Th} {σ : St} {cs : List Cell} {G H0 H : Hp} {a : List Cell} {vs : List V} (va : VIs T σ cs G H0 H a vs) : ∀ π : List Nat, VIs T σ cs G H0 H (permL π a) (permL π vs)
  | [] => ⟨rfl, fun h => by simp [permL] at h⟩
  | i :: π => by
    have ih := permL_is va π
    have hn : a[i]? = none ↔ vs[i]? = none := by rw [List.getElem?_eq_none_iff, List.getElem?_eq_none_iff, va.len]
    cases e : a[i]? with
    | none =>
      have e2 := hn.mp e
      have h1 : permL (i :: π) a = permL π a := by unfold permL; rw [List.filterMap_cons, e]
      have h2 : permL (i :: π) vs = permL π vs := by unfold permL; rw [List.filterMap_cons, e2]
      rw [h1, h2]
      exact ih
    | some x =>
      obtain ⟨v, hv, hx⟩ := va.at_ e
      have h1 : permL (i :: π) a = x :: permL π a := by unfold permL; rw [List.filterMap_cons, e]
      have h2 : permL (i :: π) vs = v :: permL π vs := by unfold permL; rw [List.filterMap_cons, hv]
      rw [h1, h2]
      refine ⟨by simp [ih.len], fun {k y} h => ?_⟩
      cases k with
      | zero => simp at h; subst h; exact ⟨v, rfl, hx⟩
      | succ k => simpa using ih.at_ (k := k) (by simpa using h)
theorem pk_imp2 {X : Cx} {kws : List Keyword} {t t' : TA} (h : PK X kws t) (k : ∀ σ H Q, t' σ H Q → t σ H Q) : PK X kws t' := ⟨fun pos pins s σ H Q I w => h.run pos pins s σ H Q I (k σ H Q w)⟩
theorem dk_nil : PK X [] (rA T np W aNil) := pk_imp2 pk_nil fun σ H Q ⟨cs, G, R, h⟩ => h G H [] Nxt.refl R trivial
theorem dk_cons {nm : Option Str} {kpos : Pos} {g : List Cell → ER} {h : List Cell → AR} (ha : PE X e (rE T np W g)) (hr : PK X kws (rA T np W h)) : PK X (⟨nm, e, kpos⟩ :: kws) (rA T np W (aCons g h)) := by
  refine pk_imp2 (pk_cons ha hr) ?_
  rintro σ H Q ⟨cs, G, R, h⟩
  refine rE_run R (AGood.toA h .refl fun c cs1 G1 H1 v n1 R1 a1 h1 => rA_run R1 (AGood.bind h1 n1 fun r cs2 G2 H2 vs n2 R2 a2 h2 => ?_))
  refine h2 G2 H2 (v :: vs) (n1.trans n2) R2 ⟨a1.on n2, a2.since fun p => n1.back, fun ho p e z => ?_⟩
  obtain ⟨q, e', _, hq⟩ := own_ref a1.1 ho
  rw [e] at e'
  cases e'
  exact hq (a2.fresh z)
/-- f(k = e, ..) -/
def eCallK (n : Nat) (m : List Cell → ER) (π : List Nat) (f : List Cell → AR) (cs : List Cell) : ER := (f cs).toE fun a cs1 => if a.length = n then callE n m (permL π a) cs1 else .bad
/-- how keywords alone bind -/
def KwBinds (fd : FuncData) (ps ks : List Str) (π : List Nat) : Prop := ∀ (s : Shared) (ws : List Value), ws.length = ps.length → BindsTo s fd ⟨[], ks.zip ws⟩ (ps.zip (permL π ws))
theorem de_callK {ca : Str → Addr} {π : List Nat} (hm' : ∀ as c os, m as = .val c os → ∀ j, c ≠ .bw j) (F : FnG X.prog X.w X.K X.mg X.base k f fd ps (spM ⟨X.K, ca⟩ ps.length m)) (hr : Room k X.A) (hgd : X.A.guards = some []) (hx : ∀ σ, PassesAt (L2.CX X.prog X.w) X σ (WE W σ)) (hg : Gl X x) (hm : X.mg x = some (.ref f)) (hk : PySem.W.keepIn X.K (.ref f) = true) (hb : KwBinds fd ps ks π)
    (ha : PK X kws (rA ⟨X.K, ca⟩ np W fa)) (hall : (backToKw pos (keywordEach kws X.env)).all (·.1.isSome) = true := by rfl) (hks : (backToKw pos (keywordEach kws X.env)).filterMap (·.1) = ks := by rfl) (hdb : (x == ("__debug__" : Str)) = false := by decide)
    (hpl : ((backTo pos (starEach [] X.env)).any (·.1) || (backToKw pos (keywordEach kws X.env)).any (·.1.isNone)) = false := by rfl) : PE X (.Call (.Name x p) [] kws pos) (rE ⟨X.K, ca⟩ np W (eCallK ps.length m π fa)) := by
  refine ⟨fun pins s σ H Q I ⟨cs, G, R, h⟩ => ?_⟩
  refine wpAny_Call_Name_kw (ld_glob I hg hm ?_ hdb)
  have step : rA ⟨X.K, ca⟩ np W fa σ H fun vs H1 => vs.length = ps.length ∧ spM ⟨X.K, ca⟩ ps.length m (permL π vs) H1 Q (WE W σ) := rA_run R (AGood.ofE h .refl fun a cs1 G1 H1 vs n1 R1 a1 h1 => by
    split at h1
    · rename_i hl
      exact ⟨a1.is.len.trans hl, call_ok hm' R1 (permL_is a1.is π) (h1.on n1)⟩
    · exact h1.elim)
  refine PySem.W.callWith_KW0 (h₀ := X.base) I.ok.mod.kin hk hall (thn (ha.run pos pins s σ H _ I step) fun ws s1 ⟨vs, H1, I1, r, q⟩ => ⟨I1.kIn, ?_⟩) hpl
  rw [hks]
  have rp := permL_vals r π
  exact run_g (args := ⟨[], ks.zip ws⟩) F hr hgd (hx σ) (hb s1 ws (by rw [← r.length]; exact q.1)) I1 rp q.2
end
end TL
set_option Elab.async false
set_option linter.all false
set_option maxRecDepth 100000
set_option maxHeartbeats 4000000
/-! TL10: exceptions: raise; a caught one that stays known behind its suite. -/
namespace TL
open PySem L2

/-! ### raise -/
def sRaise (nm : Str) (cs : List Cell) : SR := .err ⟨nm, none⟩ cs
/-- an exception class of the program without own __init__ -/
structure XC (K : PySem.W.Frag) (mg : Str → Option Value) (x : Str) (C : Addr) : Prop where
  base : ∃ (bmB : List Value) (B newId initId : String), ExcBaseFacts B newId initId bmB ∧ PySem.W.excIn K C bmB newId = true
  mg : mg x = some (.ref C)
  kp : PySem.W.keepIn K (.ref C) = true
  rs : ∀ X : Cx, X.K = K → Raises X (.ref C)
section
variable {X : Cx} {ca : Str → Addr} {np : Nat} {W : WX} {x m : Str} {j : Nat} {p p2 p3 pos : Pos}
theorem ds_raise (C : XC X.K X.mg x (ca x)) (hc : X.calm = true) (tk : Takes X W) (hg : Gl X x) (hdb : (x == ("__debug__" : Str)) = false := by decide) : PS X (.Raise (some (.Call (.Name x p) [.Constant (.str m) j p2] [] p3)) none pos) (rS ⟨X.K, ca⟩ np W (sRaise x)) := by
  obtain ⟨⟨bmB, B, newId, initId, F, q⟩, gC, kC, rs⟩ := C
  refine ps_imp (ps_raise hc tk (pmk_own F q gC kC (rs X rfl) hg hdb)) ?_
  rintro D σ H ⟨cs, G, R, h⟩
  exact h σ G H none .refl R rfl
end

/-! ### a caught exception is tracked -/
theorem exV_ok {P : Program} {w : World} {H : Hp} {h : Heap} {a : Addr} {cls : Value} {oe : Obj} {vs : Array Value} (e : h.get? a = some oe) (z : Zc cls none oe) (d : oe.data = .fields vs) : ObjOk P w H h a (ExV cls a) :=
  ⟨⟨oe, vs, e, z, d⟩, ⟨oe, e⟩, fun _ _ ⟨o, v, q, r⟩ k => ⟨o, v, k o q, r⟩⟩
abbrev _root_.L2.Cx.hot (X : Cx) (ea : Addr) : Cx := { X with A := X.A.mark (some (.ref ea)), calm := false, xe := fun _ _ => False }
section
variable {X : Cx} {pins : List (Addr × Obj)} {σ : St} {H : Hp} {s : Shared}
theorem inv_track {a : Addr} {cls : Value} {oe : Obj} {vs : Array Value} (I : Inv X pins σ H s) (n0 : X.s_0.heap.get? a = none) (hn : H a = none) (hp : ∀ p ∈ X.pn ++ pins, p.1 ≠ a) (he : s.heap.get? a = some oe) (z : Zc cls none oe) (hd : oe.data = .fields vs) :
    Inv X pins σ (upd H a (ExV cls a)) s := by
  have at0 : ∀ {b : Addr} {o : Obj}, X.s_0.heap.get? b = some o → b ≠ a := fun {b o} e q => by rw [q, n0] at e; cases e
  have tr : ∀ {b : Addr} {u : HO}, H b = some u → (upd H a (ExV cls a)) b = some u := fun {b u} e => by rw [upd_ne (ne_of_none e hn)]; exact e
  refine ⟨I.ok, I.os, I.bare, ⟨I.base.keep, I.base.slot, fun b o e n q => ?_, I.base.there, fun b xs e => tr (I.base.tups b xs e), fun b o xs e => tr (I.base.frzs b o xs e), fun b ps e => ?_⟩, I.loc, I.cell, ?_, fun y c e => ?_, fun p q => ?_, HOk.laidN I.hok (fun _ _ k => k) hn (exV_ok he z hd), I.len⟩
  · rw [upd_ne (at0 e)]
    exact I.base.free b o e n q
  · obtain ⟨more, e2⟩ := I.base.tbls b ps e
    exact ⟨more, tr e2⟩
  · obtain ⟨m, ⟨o, es, ep, ho, hdd, _⟩, _⟩ := I.loc
    rw [upd_ne fun q => ?_]
    · exact I.free
    · rw [q, he] at ho
      cases ho
      rw [hd] at hdd
      cases hdd
  · obtain ⟨v, o, ho, hc⟩ := I.cell y c e
    rw [upd_ne fun q => ?_]
    · exact I.freeC y c e
    · rw [q, he] at ho
      cases ho
      rw [hd] at hc
      cases hc
  · obtain ⟨g1, g2, g3⟩ := I.pin p q
    exact ⟨g1, by rw [upd_ne (hp p q)]; exact g2, g3⟩
theorem inv_hot (I : Inv X pins σ H s) (ea : Addr) : Inv (X.hot ea) pins σ H s :=
  have k := I.ok
  ⟨⟨k.mod, k.kind, k.glob, k.blt, k.above, k.inj, k.has, k.cab, (fun z => absurd (show false = true from z) Bool.false_ne_true), k.frames, k.stk, k.exf, k.bs, k.bsz, k.noex, k.exfs, k.funs, k.frf⟩, I.os, I.bare, I.base, I.loc, I.cell, I.free, I.freeC, I.pin, I.hok, I.len⟩
theorem inv_cool {ea : Addr} (I : Inv (X.hot ea) pins σ H s) (k : X.Ok) : Inv X pins σ H s := ⟨k, I.os, I.bare, I.base, I.loc, I.cell, I.free, I.freeC, I.pin, I.hok, I.len⟩
end
/-- the name i of the clause goes behind the suite -/
def goneAt (i : Nat) (D : Ends) : Ends := { nx := fun σ H => D.nx (σ.set i none) H, rt := D.rt, bk := fun σ H => D.bk (σ.set i none) H, ct := fun σ H => D.ct (σ.set i none) H }
def wKeep (K : PySem.W.Frag) (c : Value) (i : Nat) (ts : TS) (Wout : WX) (D : Ends) : WX := fun cls d σ H =>
  ∃ b, PySem.W.exmOne K cls c = some b ∧ (b = true → d = none ∧ ∀ a, H a = none → ts (goneAt i D) (σ.set i (some (.ref a))) (upd H a (ExV cls a))) ∧ (b = false → Wout cls d σ H)
section
variable {X : Cx} {x n : Str} {c : Value} {i : Nat} {body suite : List Stmt} {b₀ : Stmt} {np pos pos' : Pos} {tb : WX → TS} {ts : TS} {Wout : WX}
theorem ps_try_keep (hs : X.stack = X.env :: X.outer) (hf : X.env.frame = some X.env.locals) (hex : X.ex = []) (hN : X.N.Nodup) (hi : X.N[i]? = some n) (hln : X.env.kindOf n = some .local) (hc : Names X x c) (tk : Takes X Wout)
    (hb : ∀ (W : WX) (pn : List (Addr × Obj)) (xe : Value → Shared → Prop), Takes (X.tr pn xe) W → PassesOwn (model X.prog X.w) X.A X.env xe → PSs (X.tr pn xe) body (tb W)) (hsu : ∀ ea : Addr, PSs (X.hot ea) (b₀ :: suite) ts) :
    PS X (.Try body [.ExceptHandler (some (.Name x np)) (some n) (b₀ :: suite) pos'] [] [] pos) (fun D σ H => tb (wKeep X.K c i ts Wout D) D σ H) := by
  refine ⟨fun pins s σ H D I h => ?_⟩
  have k := I.ok
  have frm : X.A.frames = some (X.env :: X.outer) := k.frames.trans (congrArg some hs)
  refine wpAny_Try_except ?_
  refine wpAny_mono ((hb (wKeep X.K c i ts Wout D) (X.pn ++ pins) (fun e t1 => wpAny (model X.prog X.w) X.A (noteFrame e X.env) (fun _ t2 => wpAny (model X.prog X.w) X.A (setFlight e none) (fun _ t3 =>
    wpAny (model X.prog X.w) X.A (handleBy e X.env [.ExceptHandler (some (.Name x np)) (some n) (b₀ :: suite) pos']) (SP X pins D) X.xe t3) X.xe t2) X.xe t1) (fun u t0 air => ?_) PassesOwn.looking).run [] s σ H D (I.toTry _) h) (fun fl t1 ends => ?_) (fun e t1 z => z)
  · obtain ⟨ea, gr, sq, pins1, σ1, H1, cls, d, rfl, J0, nb, up, sky, na, os, ag, b, hb1, yes, no⟩ := air
    have J : Inv X pins σ1 H1 sq := J0.ofTry k
    rw [hs] at sky
    show wpAny (model X.prog X.w) X.A (noteFrame (.ref ea) X.env) _ _ _
    refine Sky.land Zc.steady frm hf sky fun h3 fl3 up3 => ?_
    have J3 : Inv X pins σ1 H1 { t0 with heap := h3 } := J.landed nb fl3.1 (up.trans up3) os ag
    obtain ⟨o3, v3, e3, z3, d3⟩ := fl3.there
    -- where the exception's object lies
    have offF : ea ∉ frs X.stack := fun hm => by
      rw [hs] at hm
      obtain ⟨_, o, e, nf⟩ := fl3.2.2.1.mem hm
      rw [e3] at e
      cases e
      exact nf _ d3
    have offS : sq.heap.get? ea = none := by
      cases q : sq.heap.get? ea with
      | none => rfl
      | some o =>
        have z := nb ea o q offF
        rw [fl3.2.1] at z
        cases z
    have off0 : X.s_0.heap.get? ea = none := by
      cases q : X.s_0.heap.get? ea with
      | none => rfl
      | some o =>
        obtain ⟨o', z⟩ := J.base.there ea o q (by rw [hex]; exact fun z => nomatch z)
        rw [offS] at z
        cases z
    have offP : ∀ p ∈ X.pn ++ pins, p.1 ≠ ea := fun p hp q => by
      have z := (J.pin p hp).1
      rw [q, offS] at z
      cases z
    refine wpAny_handleBy_cons (codeAny_handlers_test ?_) (fun q => nomatch q)
    have ty : PySem.W.Looks (model X.prog X.w) h3 (typeOf (.ref ea)) cls := fun A Q E t kk q => wpAny_typeOf_ref (kk _ _ e3) (by rw [z3.1]; exact q)
    have hit := PySem.W.exm_one (M := model X.prog X.w) J3.kIn ty hb1
    have H3 := inv_hot J3 ea
    have named : ∀ {Q : Value → Shared → Prop} {E : Value → Shared → Prop}, Q c { t0 with heap := h3 } → wpAny (model X.prog X.w) (X.A.mark (some (.ref ea))) (eval (.Name x np) X.env) Q E { t0 with heap := h3 } := fun {Q E} q => by
      obtain ⟨hg, hdbg, hm | ⟨hm, hv, hnn⟩⟩ := hc
      · exact ld_glob (X := X.hot ea) H3 hg hm q hdbg
      · exact ld_blt (X := X.hot ea) H3 hg hm hv q hnn hdbg
    refine named (hit.here ?_)
    cases b with
    | false =>
      show wpAny _ X.A (handleBy (.ref ea) X.env []) _ _ _
      refine wpAny_handleBy_nil ?_
      obtain ⟨k1, k2, k3, oe, vs, tb', oT, ts', he, hz, hd, h1, hr⟩ := id fl3
      unfold PySem.passOn
      refine wpAny_bind (wpAny_field he hd h1 ?_)
      rw [if_neg (by simp : ¬ ((Value.ref tb' == Value.none) = true))]
      have away : wpAny (model X.prog X.w) X.A (setFlight (.ref ea) X.env.frame) (fun _ t4 => wpAny (model X.prog X.w) X.A (throw (.ref ea) : Sem Flow) (SP X pins D) X.xe t4) X.xe { t0 with heap := h3 } := by
        rw [hf]
        refine HandSPX.setFlight_upZ fl3 fun h4 hh4 up4 => wpAny_throw (tk _ _ ⟨ea, gr, sq, pins, σ1, H1, cls, d, rfl, J, nb, (up.trans up3).trans up4, .inr (.inr (by rw [hs]; exact hh4)), na, os, ag, no rfl⟩)
      first
        | exact wpAny_bind (wpAny_pure (wpAny_bind away))
        | exact wpAny_bind away
    | true =>
      obtain ⟨rfl, go⟩ := yes rfl
      refine codeAny_handlers_suite_as ?_
      refine HandSPX.lands_againZ fl3 fun h4 fl4 up4 => ?_
      have J4 : Inv X pins σ1 H1 { t0 with heap := h4 } := J.landed nb fl4.1 ((up.trans up3).trans up4) os ag
      obtain ⟨o4, v4, e4, z4, d4⟩ := fl4.there
      have K4 := inv_hot (inv_track J4 off0 na offP e4 z4 d4) ea
      refine store_ok (X := X.hot ea) (v := .ref ea) K4 hN hi (.inl hln) rfl (fun t5 I5 => ?_) (.inr hln)
      refine wpAny_mono ((hsu ea).run pins t5 _ _ _ I5 (go ea na)) (fun fl t6 e6 => ?_) fun _ _ z => z.elim
      have drop : ∀ {σ6 : St} {H6 : Hp} {Q : Shared → Prop}, Inv (X.hot ea) pins σ6 H6 t6 → (∀ t7, Inv X pins (σ6.set i none) H6 t7 → Q t7) → wpAny (model X.prog X.w) X.A (do bindName X.env n .none; unbindBehindTheSuite X.env n pos') (fun _ t7 => Q t7) X.xe t6 := fun I6 q => gone_ok (inv_cool I6 k) hN hi hln q
      match fl, e6 with
      | .next, ⟨_, _, I6, q⟩ => exact drop I6 fun t7 I7 => ⟨_, _, I7, q⟩
      | .brk, ⟨_, _, I6, q⟩ => exact drop I6 fun t7 I7 => ⟨_, _, I7, q⟩
      | .cont, ⟨_, _, I6, q⟩ => exact drop I6 fun t7 I7 => ⟨_, _, I7, q⟩
      | .ret u, ⟨_, _, _, I6, r, q⟩ => exact drop I6 fun t7 I7 => ⟨_, _, _, I7, r, q⟩
  · match fl, ends with
    | .next, ⟨_, _, I1, q⟩ => exact wpAny_execs_nil ⟨_, _, I1.ofTry k, q⟩
    | .brk, ⟨_, _, I1, q⟩ => exact ⟨_, _, I1.ofTry k, q⟩
    | .cont, ⟨_, _, I1, q⟩ => exact ⟨_, _, I1.ofTry k, q⟩
    | .ret u, ⟨_, _, _, I1, r, q⟩ => exact ⟨_, _, _, I1.ofTry k, r, q⟩
end
/-! ### try .. except X as e, as a mirror -/
def goneC (np i : Nat) : SR → SR
  | .nx cs => if canSet np i cs = true then .nx (cs.set i .un) else .bad
  | .bk cs => if canSet np i cs = true then .bk (cs.set i .un) else .bad
  | .ct cs => if canSet np i cs = true then .ct (cs.set i .un) else .bad
  | .rt c cs => .rt c cs
  | _ => .bad
/-- i: the slot of the clause's name; hit: does the clause's class take an exception of this name -/
def sTry (np i : Nat) (hit : Str → Option Bool) (f g : List Cell → SR) (cs : List Cell) : SR := match f cs with
  | .err e cs1 => match hit e.nm with
    | some true => match e.fld with
      | none => if canSet np i cs1 = true then goneC np i (g (cs1.set i (.ex e.nm))) else .bad
      | some _ => .bad
    | some false => .err e cs1
    | none => .bad
  | r => r
section
variable {T : Th} {np i : Nat} {σ σ0 : St} {cs cs0 : List Cell} {G G0 H H0 : Hp}
theorem srel_drop (R : SRel T σ cs G H) : SRel T (σ.set i none) (cs.set i .un) G H := by
  have out : ∀ {j : Nat} {c : Cell}, (cs.set i .un)[j]? = some c → c ≠ .un → i ≠ j ∧ cs[j]? = some c := fun {j c} e hc => by
    by_cases hij : i = j
    · subst hij
      by_cases hl : i < cs.length
      · rw [List.getElem?_set_self hl] at e; cases e; exact absurd rfl hc
      · rw [List.getElem?_eq_none (by simpa using hl)] at e; cases e
    · rw [List.getElem?_set_ne hij] at e
      exact ⟨hij, e⟩
  refine ⟨by rw [List.length_set, List.length_set]; exact R.len, R.ex, fun j c hc => ?_, fun j l hc => R.nobw j l (out hc (fun z => nomatch z)).2, fun j l p cj cl hjl h1 h2 h3 h4 h5 h6 => ?_⟩
  · by_cases hu : c = .un
    · subst hu; trivial
    · obtain ⟨hij, e⟩ := out hc hu
      rw [List.getElem?_set_ne hij]
      exact cat_slots (R.at_ j c e) fun l z => R.nobw j l (z ▸ e)
  · obtain ⟨a1, a2⟩ := out h1 (fun z => by rw [z] at h3; cases h3)
    obtain ⟨b1, b2⟩ := out h2 (fun z => by rw [z] at h4; cases h4)
    rw [List.getElem?_set_ne a1] at h5
    rw [List.getElem?_set_ne b1] at h6
    exact R.sep j l p cj cl hjl a2 b2 h3 h4 h5 h6
theorem nxt_drop (n : Nxt np σ0 cs0 G0 H0 σ cs G H) (cn : canSet np i cs = true) : Nxt np σ0 cs0 G0 H0 (σ.set i none) (cs.set i .un) G H := by
  refine ⟨n.ex, n.new, n.keep, fun p ⟨j, c, h1, h2, h3⟩ => ?_, n.dom, fun j p c hj h1 h2 h3 => ?_⟩
  · have hij : i ≠ j := fun z => by
      subst z
      by_cases hl : i < cs.length
      · rw [List.getElem?_set_self hl] at h1; cases h1; cases h2
      · rw [List.getElem?_eq_none (by simpa using hl)] at h1; cases h1
    rw [List.getElem?_set_ne hij] at h1 h3
    exact n.own p ⟨j, c, h1, h2, h3⟩
  · obtain ⟨e1, c', e2, e3⟩ := n.par j p c hj h1 h2 h3
    have hij : i ≠ j := fun z => by
      subst z
      unfold canSet at cn
      rw [e2] at cn
      simp only [e3, Bool.or_eq_true, decide_eq_true_eq] at cn
      rcases cn with cn | cn
      · omega
      · cases cn
    rw [List.getElem?_set_ne hij, List.getElem?_set_ne hij]
    exact ⟨e1, c', e2, e3⟩
theorem gone_good {W W' : WX} {D : Ends} {r : SR} (g : SGood T np W D σ0 cs0 G0 H0 (goneC np i r)) : SGood T np W' (goneAt i D) σ0 cs0 G0 H0 r := by
  cases r with
  | nx cs =>
    have g : SGood T np W D σ0 cs0 G0 H0 (if canSet np i cs = true then .nx (cs.set i .un) else .bad) := g
    by_cases cn : canSet np i cs = true
    · rw [if_pos cn] at g
      exact fun σ' G' H' n R => g _ G' H' (nxt_drop n cn) (srel_drop R)
    · rw [if_neg cn] at g
      exact g.elim
  | bk cs =>
    have g : SGood T np W D σ0 cs0 G0 H0 (if canSet np i cs = true then .bk (cs.set i .un) else .bad) := g
    by_cases cn : canSet np i cs = true
    · rw [if_pos cn] at g
      exact fun σ' G' H' n R => g _ G' H' (nxt_drop n cn) (srel_drop R)
    · rw [if_neg cn] at g
      exact g.elim
  | ct cs =>
    have g : SGood T np W D σ0 cs0 G0 H0 (if canSet np i cs = true then .ct (cs.set i .un) else .bad) := g
    by_cases cn : canSet np i cs = true
    · rw [if_pos cn] at g
      exact fun σ' G' H' n R => g _ G' H' (nxt_drop n cn) (srel_drop R)
    · rw [if_neg cn] at g
      exact g.elim
  | rt c cs => exact g
  | err e cs => exact g.elim
  | bad => exact g.elim
end
section
variable {X : Cx} {ca : Str → Addr} {np : Nat} {W : WX} {x n : Str} {c : Value} {i : Nat} {body suite : List Stmt} {b₀ : Stmt} {np' pos pos' : Pos} {hit : Str → Option Bool} {f g : List Cell → SR}
theorem ds_try (hs : X.stack = X.env :: X.outer) (hf : X.env.frame = some X.env.locals) (hex : X.ex = []) (hN : X.N.Nodup) (hi : X.N[i]? = some n) (hln : X.env.kindOf n = some .local) (hc : Names X x c) (tk : Takes X W) (hh : ∀ nm b, hit nm = some b → PySem.W.exmOne X.K (.ref (ca nm)) c = some b)
    (hb : ∀ (W : WX) (pn : List (Addr × Obj)) (xe : Value → Shared → Prop), Takes (X.tr pn xe) W → PassesOwn (model X.prog X.w) X.A X.env xe → PSs (X.tr pn xe) body (rS ⟨X.K, ca⟩ np W f)) (hsu : ∀ ea : Addr, PSs (X.hot ea) (b₀ :: suite) (rS ⟨X.K, ca⟩ np W0 g)) :
    PS X (.Try body [.ExceptHandler (some (.Name x np')) (some n) (b₀ :: suite) pos'] [] [] pos) (rS ⟨X.K, ca⟩ np W (sTry np i hit f g)) := by
  refine ps_imp (ps_try_keep hs hf hex hN hi hln hc tk hb hsu) ?_
  rintro D σ H ⟨cs, G, R, h⟩
  refine ⟨cs, G, R, ?_⟩
  unfold sTry at h
  cases e : f cs with
  | nx cs1 => rw [e] at h; exact h
  | rt c1 cs1 => rw [e] at h; exact h
  | bk cs1 => rw [e] at h; exact h
  | ct cs1 => rw [e] at h; exact h
  | bad => rw [e] at h; exact h
  | err er cs1 =>
    rw [e] at h
    intro σ1 G1 H1 d n1 R1 ea
    simp only at h
    split at h
    · rename_i hy
      refine ⟨true, hh _ _ hy, fun _ => ?_, fun z => nomatch z⟩
      split at h
      · rename_i hfl
        split at h
        · rename_i cn
          have hd : d = none := by unfold ErrAt at ea; rw [hfl] at ea; exact ea
          refine ⟨hd, fun a ha => ?_⟩
          have ga : G1 a = none := R1.ex.free ha
          obtain ⟨R2, n2⟩ := R1.pure (np := np) (Pure.obj (o := ExV (.ref (ca er.nm)) a) R1.ex ha)
          have R3 := store_ok1 (i := i) (c := .ex er.nm) (v := .ref a) R2 ⟨a, rfl, upd_same⟩ (fun j z => nomatch z) (fun z => nomatch z)
          have n3 := store_nxt (i := i) (c := .ex er.nm) (v := .ref a) (n1.trans n2) cn (fun z => nomatch z)
          exact ⟨_, _, R3, SGood.on (gone_good h) n3⟩
        · exact h.elim
      · exact h.elim
    · rename_i hn
      exact ⟨false, hh _ _ hn, fun z => (nomatch z), fun _ => h σ1 G1 H1 d n1 R1 ea⟩
    · exact h.elim
end
end TL
set_option Elab.async false
set_option linter.all false
set_option maxRecDepth 100000
set_option maxHeartbeats 4000000
/-! TL11: set(list of ints) of many items with few members, sorted behind it. -/
namespace TL
open PySem L2

theorem nodup_le {α : Type} [DecidableEq α] : ∀ {l B : List α}, l.Nodup → (∀ x ∈ l, x ∈ B) → l.length ≤ B.length
  | [], _, _, _ => Nat.zero_le _
  | x :: l, B, hd, hs => by
    obtain ⟨h1, h2⟩ := List.nodup_cons.mp hd
    have hx := hs x List.mem_cons_self
    have ih := nodup_le (B := B.erase x) h2 fun y hy => (List.mem_erase_of_ne (fun z : y = x => h1 (by rw [← z]; exact hy))).mpr (hs y (List.mem_cons_of_mem _ hy))
    rw [List.length_erase_of_mem hx] at ih
    have := List.length_pos_of_mem hx
    rw [List.length_cons]
    omega
theorem setR_few {w : World} {h : Heap} {a : Addr} {S : Int → Bool} {n : Nat} {B : List Int} (R : SetR w h a S n) (hB : ∀ k, S k = true → k ∈ B) : n ≤ B.length := by
  obtain ⟨o, es, ep, t, _, _, _, _, nd, mem, _, _, hn, _⟩ := R
  have := nodup_le nd fun k hk => hB k ((mem k).mpr hk)
  rw [List.length_map, Array.length_toList, hn] at this
  exact this
section
variable {P : Program} {w : World} {A : Around} {E : Value → Shared → Prop} {s : Shared}
open PyProof.Rows in
theorem set_loop {I : Addr} {fp wr : List Addr} {GG : Array GenState → Array GenState → Prop} {n : Nat} {Pv : Nat → Value → Prop} {Sv : Nat → Shared → Prop} {R : Result → Shared → Prop} (Wk : WalksS P w A.in1 I fp wr GG n Pv Sv) (S : Addr) (off : S ∉ fp) (ns B : List Int) (en : n = ns.length)
    (hB : ∀ k ∈ ns, k ∈ B) (room : B.length + 1 < scanBound) (vals : ∀ i v, Pv i v → ∃ k t, ns[i]? = some k ∧ v = .int k t) :
    ∀ (left i : Nat) (t : Shared), n - i = left → i ≤ n → Sv i t → (∃ c, SetR w t.heap S (fun j => decide (j ∈ ns.take i)) c) →
      (∀ t' c, Moved (S :: wr) GG t t' → SetR w t'.heap S (fun j => decide (j ∈ ns)) c → R (.ok (.ret .none)) t') → codeAny (model P w) A (.builtin "set.update.loop" ⟨[.ref S, .ref I], []⟩) R t := by
  have offW : S ∉ wr := fun z => off (Wk.sub _ z)
  have wide : ∀ b ∈ wr, b ∈ S :: wr := fun b => List.mem_cons_of_mem _
  have few : ∀ {i c : Nat} {h : Heap}, SetR w h S (fun j => decide (j ∈ ns.take i)) c → c + 1 < scanBound := fun {i c h} q => by
    have := setR_few (B := B) q fun k hk => hB k (List.mem_of_mem_take (of_decide_eq_true hk))
    omega
  intro left
  induction left with
  | zero =>
    rintro i t e le at_ ⟨c, hc⟩ fin
    have ei : ns.take i = ns := List.take_of_length_le (by omega)
    have ei' : i = n := by omega
    refine codeAny_builtin F.entry_set_update_loop ?_
    rw [Around.under_plainId F.plain_set_update_loop _]
    show wpAny _ A.in1 (pyNext (.ref I) >>= _) _ _ t
    refine wpAny_bind (Wk.done t _ _ (ei' ▸ at_) fun t1 mv => ?_)
    rw [ei] at hc
    show wpAny _ A.in1 (ret Value.none) _ _ t1
    exact wpAny_pure (fin t1 c (mv.mono wide) (hc.at fun o q => mv.heap S o offW q))
  | succ left ih =>
    rintro i t e le at_ ⟨c, hc⟩ fin
    have lt : i < n := by omega
    refine codeAny_builtin F.entry_set_update_loop ?_
    rw [Around.under_plainId F.plain_set_update_loop _]
    show wpAny _ A.in1 (pyNext (.ref I) >>= _) _ _ t
    refine wpAny_bind (Wk.item i t _ _ lt at_ fun v t1 pv at1 mv => ?_)
    obtain ⟨z, tk, ez, rfl⟩ := vals i v pv
    have hc1 : SetR w t1.heap S (fun j => decide (j ∈ ns.take i)) c := hc.at fun o q => mv.heap S o offW q
    show wpAny _ A.in1 (holding [Value.int z tk] (setAdd S (.int z tk)) >>= _) _ _ t1
    refine wpAny_bind (wpAny_holding ?_)
    unfold setAdd
    refine wpAny_holding (wpAny_bind ((intKind P w).pyHash (k := z) (intKind_is _ _ _ _) ?_))
    refine setR_add_hashed (s := { t1 with toks := t1.toks + 1 }) hc1 (few hc1) fun h2 sb hc2 => ?_
    have hc3 := hc2.congr (S' := fun j => decide (j ∈ ns.take (i + 1))) fun j => by
      rw [List.take_add_one, ez]
      simp [List.mem_append]
    have oth : ∀ b, b ≠ S → h2.get? b = t1.heap.get? b := fun b hb => sb.2 b hb
    refine wpAny_pure ⟨plainId_quiet F.plain_set_update_loop _, ih (i + 1) _ (by omega) lt (Wk.frame _ t1 _ _ at1 (Nat.le_succ _) fun b hb o q => ?_) ⟨_, hc3⟩ fun t2 c2 mv2 hc4 => fin t2 c2 ?_ hc4⟩
    · rw [oth b fun z => off (z ▸ hb)]
      exact q
    · refine Moved.trans Wk.gtrans ((mv.mono wide).then_heap (Nat.le_succ _) fun b o hb q => ?_) mv2
      rw [oth b fun z => hb (z ▸ List.mem_cons_self)]
      exact q
abbrev set0 (w : World) : Obj := { cls := .type "set", dict := none, data := .set #[] 0 (.fresh 0 0 (!w.params.followText "set-order")) }
abbrev lit0 (l : Addr) : Obj := { cls := .type "list_iterator", data := .fields #[.ref l, .int 0 0] }
set_option maxHeartbeats 6400000 in
open PyProof.Rows in
/-- set(l), l a list of ints -/
theorem set_of_list {l : Addr} {items : Array Value} (ns B : List Int) {Q : Value → Shared → Prop} (hh : A.handled = none) (hl : s.heap.IsList l items) (hit : IntsAre items.toList ns) (hB : ∀ k ∈ ns, k ∈ B) (room : B.length + 1 < scanBound)
    (h : ∀ (h' : Heap) (tk c : Nat), SetR w h' s.heap.objs.size (fun j => decide (j ∈ ns)) c → (∀ b o, s.heap.get? b = some o → h'.get? b = some o) → Q (.ref s.heap.objs.size) { s with heap := h', toks := tk }) :
    wpAny (model P w) A (call (.type "set") [.ref l]) Q E s := by
  have size_eq : items.size = ns.length := by
    have q := IntsAre.length hit
    rwa [Array.length_toList] at q
  obtain ⟨cc, tl, hmro⟩ := F.called_set.mro
  have hmade := F.called_set.made
  have hsub := F.called_set.sub
  refine wpAny_call (codeAny_of_tree (show wpAny _ _ (callAny (.type "set") _) _ _ _ from ?_))
  refine wpAny_pure ⟨Code.quiet_builtin _ (by decide +kernel), codeAny_builtin F.entry_type_call ?_⟩
  rw [Around.under_plain (weight_type_call_type "set" [.ref l] []) rfl]
  have h1 := F.called_set.notType
  have h2 := F.called_set.canCreate
  have hct := F.typeCall_set_1 (.ref l)
  repeat (any_goals (first | assumption | wp_step))
  refine codeAny_mono (code_set_led1 (.ref l) (E := E) (Q₁ := fun u t => u = .ref s.heap.objs.size ∧ t = { s with heap := s.heap.push (set0 w) }) ⟨rfl, rfl⟩) fun r t hr => ?_
  match r, hr with
  | .error e, hr => exact hr
  | .ok (.ret u), hr =>
    obtain ⟨rfl, rfl⟩ := hr
    have atS : (s.heap.push (set0 w)).get? s.heap.objs.size = some (set0 w) := Heap.get?_push_size _ rfl
    have hT : Shared.TypeIs { s with heap := s.heap.push (set0 w) } (.ref s.heap.objs.size) "set" := ⟨_, atS, rfl⟩
    have hli := F.called_set.init.lookup
    have hbi := F.called_set.init.bind (.ref s.heap.objs.size)
    repeat (any_goals (first | assumption | wp_step))
    refine codeAny_mono (codeAny_call_builtin (R := wants (fun r t => r = .none ∧ ∃ h' tk c, t = { s with heap := h', toks := tk } ∧ SetR w h' s.heap.objs.size (fun j => decide (j ∈ ns)) c ∧ (∀ b o, s.heap.get? b = some o → h'.get? b = some o)) E) F.called_set.init.plain F.entry_set_init (check_set_init_1 hT ?_)) fun r2 t2 hr2 => ?_
    · obtain ⟨⟨ocls, odict, odata, oslots⟩, hol, hcl, nl, hdl⟩ := hl
      simp only at hcl hdl
      subst hcl hdl
      have hol1 : (s.heap.push (set0 w)).get? l = some { cls := .type "list", dict := odict, data := .seq items nl, slots := oslots } := Heap.get?_push_of_some _ hol
      have hsls := F.sub_list_set
      have hslf := F.sub_list_frozenset
      have hne : (Value.type "list" == Value.type "dict") = false := by decide
      have isl : (s.heap.push (set0 w)).IsList l items := ⟨_, hol1, rfl, nl, rfl⟩
      unfold Builtin.«set.__init__» noKeywords Builtin.Frozenset.updateFrom
      generalize hPI : pyIter = PI
      wp_walk
      subst hPI
      refine wpAny_pyIter_list isl (wpAny_bind (wpAny_runValue ?_))
      have lS : l < s.heap.objs.size := Heap.lt_size hol
      have h3 : A.in1.in1.in1.handled = none := by simp [hh]
      have sz : (s.heap.push (set0 w)).objs.size = s.heap.objs.size + 1 := Heap.size_push ..
      have nI : l ≠ (s.heap.push (set0 w)).objs.size := by rw [sz]; exact Nat.ne_of_lt (Nat.lt_succ_of_lt lS)
      have nS : s.heap.objs.size ∉ [(s.heap.push (set0 w)).objs.size, l] := by
        simp only [List.mem_cons, List.not_mem_nil, or_false, not_or, sz]
        exact ⟨Nat.ne_of_lt (Nat.lt_succ_self _), Nat.ne_of_gt lS⟩
      have vals : ∀ (i : Nat) (v : Value), items[i]? = some v → ∃ k t, ns[i]? = some k ∧ v = .int k t := fun i v hv => by
        have hi : i < ns.length := by rw [← size_eq]; exact (Array.getElem?_eq_some_iff.mp hv).1
        obtain ⟨t, q⟩ := PyProof.Rows.IntsAre.int_at hit i v (by rw [Array.getElem?_toList]; exact hv)
        refine ⟨ns[i], t, List.getElem?_eq_getElem hi, ?_⟩
        rw [q, List.getD_eq_getElem?_getD, List.getElem?_eq_getElem hi] <;> rfl
      refine set_loop ((Walks.list h3 _ l nI items).toS) s.heap.objs.size nS ns B size_eq hB room vals (items.size - 0) 0 _ (by omega) (Nat.zero_le _) ⟨⟨_, Heap.get?_push_size _ rfl, rfl, rfl⟩, isl.push _⟩ ?_ ?_
      · exact ⟨0, setR_new_at (Heap.get?_push_of_some _ atS)⟩
      · rintro ⟨h4, g4, d4, tk4, os4⟩ c4 mv hc4
        obtain rfl : g4 = s.gens := mv.gens
        obtain rfl : d4 = s.drawn := mv.drawn
        obtain rfl : os4 = s.os := mv.os
        show wpAny _ _ _ _ _ _
        refine wpAny_pure ?_
        show wpAny _ _ (ret Value.none) _ _ _
        refine wpAny_pure ⟨rfl, h4, tk4, c4, rfl, hc4, fun b o q => mv.heap b o ?_ (Heap.get?_push_of_some _ (Heap.get?_push_of_some _ q))⟩
        have hb := Heap.lt_size q
        simp only [List.mem_cons, List.not_mem_nil, or_false, not_or, sz]
        exact ⟨Nat.ne_of_lt hb, Nat.ne_of_lt (Nat.lt_succ_of_lt hb)⟩
    · match r2, hr2 with
      | .error e, hr2 => exact hr2
      | .ok (.ret u), hr2 =>
        obtain ⟨rfl, h4, tk4, c4, rfl, hc4, kp⟩ := hr2
        repeat (any_goals (first | assumption | wp_step))
        exact h _ _ _ hc4 kp
end
/-! ### sorted(set(l)) -/
def distinct : List Int → List Int
  | [] => []
  | x :: l => if x ∈ distinct l then distinct l else x :: distinct l
theorem mem_distinct {x : Int} : ∀ {l : List Int}, x ∈ distinct l ↔ x ∈ l
  | [] => Iff.rfl
  | y :: l => by
    have ih := mem_distinct (x := x) (l := l)
    unfold distinct
    split
    · rename_i h
      rw [ih, List.mem_cons]
      exact ⟨.inr, fun z => z.elim (fun e => by rw [e]; exact mem_distinct.mp h) id⟩
    · rw [List.mem_cons, List.mem_cons, ih]
theorem nodup_distinct : ∀ l : List Int, (distinct l).Nodup
  | [] => List.nodup_nil
  | y :: l => by
    unfold distinct
    split
    · exact nodup_distinct l
    · rename_i h
      exact List.nodup_cons.mpr ⟨h, nodup_distinct l⟩
/-- the members, ascending -/
def asc (ns : List Int) : List Int := sortI (distinct ns)
theorem asc_mem {x : Int} {ns : List Int} : x ∈ asc ns ↔ x ∈ ns := (sortI_perm _).mem_iff.trans mem_distinct
theorem asc_up (ns : List Int) : (asc ns).Pairwise (· < ·) := lt_of_le_nodup _ (sortI_up _) ((sortI_perm _).nodup_iff.mpr (nodup_distinct ns))
theorem up_unique : ∀ {xs ys : List Int}, xs.Pairwise (· < ·) → ys.Pairwise (· < ·) → (∀ k, k ∈ xs ↔ k ∈ ys) → xs = ys
  | [], [], _, _, _ => rfl
  | [], y :: ys, _, _, h => absurd ((h y).mpr List.mem_cons_self) (by simp)
  | x :: xs, [], _, _, h => absurd ((h x).mp List.mem_cons_self) (by simp)
  | x :: xs, y :: ys, hx, hy, h => by
    obtain ⟨x1, x2⟩ := List.pairwise_cons.mp hx
    obtain ⟨y1, y2⟩ := List.pairwise_cons.mp hy
    have e : x = y := by
      rcases List.mem_cons.mp ((h x).mp List.mem_cons_self) with e | e
      · exact e
      · rcases List.mem_cons.mp ((h y).mpr List.mem_cons_self) with e2 | e2
        · exact e2.symm
        · have := y1 x e
          have := x1 y e2
          omega
    subst e
    rw [up_unique x2 y2 fun k => ⟨fun hk => ?_, fun hk => ?_⟩]
    · rcases List.mem_cons.mp ((h k).mp (List.mem_cons_of_mem _ hk)) with e | e
      · have := x1 k hk; omega
      · exact e
    · rcases List.mem_cons.mp ((h k).mpr (List.mem_cons_of_mem _ hk)) with e | e
      · have := y1 k hk; omega
      · exact e
theorem asc_eq {xs ys : List Int} (h : ∀ k, k ∈ xs ↔ k ∈ ys) : asc xs = asc ys := up_unique (asc_up _) (asc_up _) fun k => asc_mem.trans ((h k).trans asc_mem.symm)
/-- set(l), l a list of ints with at most 63 members -/
def rSetL (w : World) : List V → Hp → VK → Prop := fun xs H Q => ∃ a ns, xs = [V.ref a] ∧ Rd H a (.lst (ns.map V.int)) ∧ (distinct ns).length < 64 ∧ ∀ p c, H p = none → c < 64 → Q (.ref p) (upd H p (SetO w p (fun j => decide (j ∈ ns)) c))
theorem cr_setL {X : Cx} (hc : X.calm = true) : CallR X (.type "set") (rSetL X.w) := by
  intro pins s σ H xs us Q I r h
  obtain ⟨a, ns, rfl, hr, few, q⟩ := h
  rw [Vals.ref1 r]
  obtain ⟨its, rv, pl, _⟩ := I.list (.inl hr)
  refine set_of_list ns (distinct ns) (I.ok.hd hc) pl.isList (by simpa using Vals.ints rv) (fun k hk => mem_distinct.mpr hk) (Nat.lt_of_le_of_lt (Nat.succ_le_of_lt few) (by unfold scanBound; decide)) fun h' tk c R kp => ?_
  exact ⟨.ref _, _, I.laid (t' := tk) kp (Nat.le_refl _) (setO_new R), rfl, q _ c (I.hok.fresh (Nat.le_refl s.heap.objs.size)) (Nat.lt_of_le_of_lt (setR_few (B := distinct ns) R fun k hk => mem_distinct.mpr (of_decide_eq_true hk)) few)⟩
def pSortSet : List D → Option Cell := pInts fun ns => if (distinct ns).length < 64 then some (.ol ((asc ns).map PyData.int)) else none
theorem opd_sortSet {K : PySem.W.Frag} {w : World} : CallD K (fun vs H Q => rSetL w vs H fun x H1 => rSortedSet w [x] H1 Q) pSortSet := by
  intro G H vs ds c Q e h hp q
  obtain ⟨a, ns, rfl, r, ef⟩ := pInts_at e h hp
  split at ef
  · rename_i few
    cases ef
    refine ⟨a, ns, rfl, r, few, fun b n hb hn => ⟨b, _, n, rfl, upd_same, hn, fun ms p up mem _ hp => ?_⟩⟩
    have em : ms = asc ns := up_unique up (asc_up ns) fun k => (mem k).trans (decide_eq_true_iff.trans asc_mem.symm)
    subst em
    have hpb : b ≠ p := fun z => by rw [z, upd_same] at hp; cases hp
    have hp0 : H p = none := by rw [upd_ne (Ne.symm hpb)] at hp; exact hp
    have s1 := same_new (H := H) (o := SetO w b (fun j => decide (j ∈ ns)) n) hb
    have s2 := same_new (H := upd H b (SetO w b (fun j => decide (j ∈ ns)) n)) (o := .lst ((asc ns).map V.int)) hp
    exact q G _ _ ⟨.refl _, s1.trans s2, (e.trans s1).trans s2, fun _ a b => absurd a b⟩ ⟨p, _, rfl, hp0, e.free hp0, upd_same, tpAll_of_ints⟩
  · cases ef
section
variable {X : Cx} {ca : Str → Addr} {np : Nat} {W : WX} {e : Expr} {p1 p2 q1 q2 : Pos} {f : List Cell → AR}
theorem de_sortSet (hc : X.calm = true) (hm : X.mg "sorted" = none) (hm2 : X.mg "set" = none) (ha : PA X [e] (rA ⟨X.K, ca⟩ np W f)) (hg : Gl X "sorted" := by rfl) (hg2 : Gl X "set" := by rfl)
    (n1 : starEach [e] X.env = (false, eval e X.env) :: starEach [] X.env := by rfl) (n2 : starEach [.Call (.Name "set" p2) [e] [] q2] X.env = (false, eval (.Call (.Name "set" p2) [e] [] q2) X.env) :: starEach [] X.env := by rfl) :
    PE X (.Call (.Name "sorted" p1) [.Call (.Name "set" p2) [e] [] q2] [] q1) (rE ⟨X.K, ca⟩ np W (en pSortSet f)) :=
  pe_imp (pe_callB (cr_sortedSet hc) hg hm PyProof.Rows.boot_sorted (pa_cons (pe_callTy (cr_setL hc) hg2 hm2 PyProof.Rows.boot_set ha (he := n1)) pa_nil n2) (he := n2)) fun σ H Q h => en_ok (opd_sortSet (w := X.w)) σ H Q h
end
end TL
set_option Elab.async false
set_option linter.all false
set_option maxRecDepth 100000
set_option maxHeartbeats 4000000
/-! TL12: enumerate of a tuple, t[::-1] of a tuple. -/
namespace TL
open PySem L2

theorem filterMap_same {α β : Type} {f g : α → Option β} : ∀ {l : List α}, (∀ x ∈ l, f x = g x) → l.filterMap f = l.filterMap g
  | [], _ => rfl
  | x :: l, h => by
    rw [List.filterMap_cons, List.filterMap_cons, h x List.mem_cons_self, filterMap_same fun y hy => h y (List.mem_cons_of_mem _ hy)]
/-! ### t[::-1] -/
section
variable {prog : Program} {w : World} {A : Around} {E : Value → Shared → Prop} {s : Shared}
theorem adjust_back (n : Nat) : Builtin.Slice.sliceAdjust none none (-1) (n : Int) = ((n : Int) - 1, -1) := by simp [Builtin.Slice.sliceAdjust]
theorem places_back (n : Nat) : Builtin.Slice.slicePlaces ((n : Int) - 1) (-1) (-1) = n := by
  unfold Builtin.Slice.slicePlaces
  rw [if_neg (by decide)]
  by_cases h : (n : Int) - 1 > -1
  · rw [if_pos h]
    have e : ((n : Int) - 1 - -1 - 1) / (- -1) = (n : Int) - 1 := by
      rw [show (- -1 : Int) = 1 by decide, Int.ediv_one]
      omega
    rw [e]
    omega
  · rw [if_neg h]
    omega
theorem pick_back (xs : Array Value) : ((List.range xs.size).filterMap fun (m : Nat) => xs[(((xs.size : Int) - 1) + (m : Int) * (-1)).toNat]?).toArray = xs.toList.reverse.toArray := by
  have e : ∀ m ∈ List.range xs.size, xs[(((xs.size : Int) - 1) + (m : Int) * (-1)).toNat]? = xs[xs.size - 1 - m]? := fun m hm => by
    have := List.mem_range.mp hm
    congr 1
    omega
  have e2 : ((List.range xs.size).filterMap fun (m : Nat) => xs[(((xs.size : Int) - 1) + (m : Int) * (-1)).toNat]?) = (List.range xs.size).filterMap fun m => xs[xs.size - 1 - m]? := filterMap_same e
  rw [e2]
  have e3 : (List.range xs.size).filterMap (fun m => xs[xs.size - 1 - m]?) = ((List.range xs.size).map fun m => xs.size - 1 - m).filterMap fun k => xs[k]? := by rw [List.filterMap_map]; rfl
  rw [e3, PySem.W.krv_range, List.filterMap_reverse, PySem.W.krv_all]
open PyProof.Rows in
theorem tuple_back {t sl : Addr} {items : Array Value} {vs : Value} {Q : Value → Shared → Prop} (ht : IsTup s.heap t items) (hs : s.heap.IsSliceOf sl .none .none vs) (ps : IsPart vs (some (-1)))
    (h : Q (.ref s.heap.objs.size) { s with heap := s.heap.push { cls := .type "tuple", data := .seq items.toList.reverse.toArray } }) (hsz : items.size ≤ sizeLine) : wpAny (model prog w) A (getItem (.ref t) (.ref sl)) Q E s := by
  have fits : sizeOk (.seq items.toList.reverse.toArray) := by
    show items.toList.reverse.toArray.size ≤ sizeLine
    simpa using hsz
  obtain ⟨os, hos, hcs, hds⟩ := id hs
  have isSl : s.TypeIs (.ref sl) "slice" := ⟨os, hos, hcs⟩
  unfold getItem
  try with_reducible refine wpAny_holding ?_
  first | refine wpAny_bind (wpAny_pure ?_) | skip
  refine wpAny_bind (wpAny_sequenceKey ht.typeIs (by decide) (wpAny_bind (wpAny_callSpecial?_slot (name := Str.ofString "__getitem__") ht.typeIs PyProof.Rows.slot_tuple_getitem (wpAny_call_entry PyProof.Rows.slot_tuple_getitem ht.typeIs entry_tuple_getitem ?_ (args_tuple_getitem _ _)))))
  show wpAny _ _ (Builtin.Tuple.tupleItemsOf (.ref t) >>= _) _ _ s
  refine wpAny_bind (tupleItemsOf_ ht (wpAny_bind (wpAny_typeOf isSl ?_)))
  rw [if_pos (by decide)]
  have applied : ∀ {Q' : Int × Int × Nat → Shared → Prop} {A' : Around} {E' : Value → Shared → Prop}, Q' ((items.size : Int) - 1, -1, items.size) s → wpAny (model prog w) A' (Builtin.Slice.sliceApplied (.ref sl) (pure (items.size : Int))) Q' E' s := fun {Q' A' E'} q => by
    unfold Builtin.Slice.sliceApplied Builtin.Slice.sliceFields
    refine wpAny_bind (wpAny_bind (wpAny_field hos hds (x := .none) rfl (wpAny_bind (wpAny_field hos hds (x := .none) rfl (wpAny_bind (wpAny_field hos hds (x := vs) rfl (wpAny_pure ?_)))))))
    refine wpAny_bind (HT.slicePart_ ps ?_)
    show wpAny _ _ (if ((-1 : Int) == 0) = true then _ else _) _ _ s
    rw [if_neg (by decide)]
    refine wpAny_bind (slicePart_none (wpAny_bind (slicePart_none (wpAny_bind (wpAny_pure ?_)))))
    show wpAny _ _ (match Builtin.Slice.sliceAdjust none none (-1) (items.size : Int) with | (lo, hi) => pure (lo, (-1 : Int), Builtin.Slice.slicePlaces lo hi (-1))) _ _ s
    rw [adjust_back]
    show wpAny _ _ (pure ((items.size : Int) - 1, (-1 : Int), Builtin.Slice.slicePlaces ((items.size : Int) - 1) (-1) (-1))) _ _ s
    rw [places_back]
    exact wpAny_pure q
  refine wpAny_bind (applied ?_)
  show wpAny _ _ (if (((items.size : Int) - 1) == 0 && (-1 : Int) == 1 && items.size == items.size) = true then _ else _) _ _ s
  rw [if_neg (show ¬ ((((items.size : Int) - 1) == 0 && (-1 : Int) == 1 && items.size == items.size) = true) by rw [show ((-1 : Int) == 1) = false by decide]; simp), pick_back]
  first
    | exact wpAny_bind (m := Builtin.Tuple.tupleExact _) (wpAny_newObj_type (wpAny_pure ⟨_, rfl, wpAny_pure h⟩) fits)
    | exact wpAny_bind (m := Builtin.Tuple.tupleExact _) (wpAny_newObj_type (wpAny_bind (wpAny_pure (wpAny_pure ⟨_, rfl, wpAny_pure h⟩))) fits)
    | exact wpAny_bind (wpAny_bind (m := Builtin.Tuple.tupleExact _) (wpAny_newObj_type (wpAny_pure (wpAny_pure ⟨_, rfl, wpAny_pure h⟩)) fits))
    | exact wpAny_bind (wpAny_bind (m := Builtin.Tuple.tupleExact _) (wpAny_newObj_type (wpAny_pure ⟨_, rfl, wpAny_pure h⟩) fits))
end

def pRevA : D → Option Cell
  | .list ds => some (.ol ds.reverse)
  | .tuple ds => some (.da (.tuple ds.reverse))
  | _ => none
def tRevA (K : PySem.W.Frag) (te : TE) : TE := fun σ H Q => te σ H fun x H1 => ∃ a xs, x = .ref a ∧ ((SqL K H1 a xs ∧ ∀ p, H1 p = none → Q (.ref p) (upd H1 p (.lst xs.reverse))) ∨ (SqT K H1 a xs ∧ ∀ p, H1 p = none → Q (.ref p) (upd H1 p (.tup xs.reverse))))
section
variable {X : Cx} {ca : Str → Addr} {np : Nat} {W : WX} {e : Expr} {te : TE} {k : Nat} {p1 p2 p3 pos : Pos} {f : List Cell → ER}
open PyProof.Rows in
theorem pe_revA (he : PE X e te) : PE X (.Subscript e (.Slice none none (some (.UnaryOp .USub (.Constant (.int 1) k p1) p2)) p3) pos) (tRevA X.K te) := by
  refine ⟨fun pins s σ H Q I h => PyProof.Rows.Subscript_ (thn (he.run pins s σ H _ I h) fun v s1 ⟨x, H1, I1, r1, q1⟩ => ?_)⟩
  obtain ⟨a, xs, rfl, q⟩ := q1
  cases r1
  have one : PO X (some (.UnaryOp .USub (.Constant (.int 1) k p1) p2)) (tPart (tUn (rU fun i => .int (-i)) (tC (.int 1)))) := po_some (pe_un un_neg pe_int)
  refine wpAny_Slice (thn (po_none.run pins s1 σ H1 (fun o H2 => o = none ∧ H2 = H1) I1 ⟨rfl, rfl⟩) fun vl s2 ⟨_, _, I2, pl, el, e2⟩ => ?_)
  subst el e2
  refine thn (po_none.run pins s2 σ _ (fun o H3 => o = none ∧ H3 = _) I2 ⟨rfl, rfl⟩) fun vu s3 ⟨_, H3, I3, pu, eu, e3⟩ => ?_
  subst eu e3
  refine thn (one.run pins s3 σ H3 (fun o H4 => o = some (-1) ∧ H4 = H3) I3 ⟨1, rfl, -1, rfl, rfl, rfl⟩) fun vs s4 ⟨_, H4, I4, ps, eo, e4⟩ => ?_
  subst eo e4
  cases pl
  cases pu
  have I5 : Inv X pins σ H4 { s4 with heap := s4.heap.push { cls := .type "slice", data := .fields #[.none, .none, vs] } } := I4.kept (t' := s4.toks) fun b ob z => Heap.get?_push_of_some _ z
  show wpAny (model X.prog X.w) X.A (subscriptTail e (.Slice none none (some (.UnaryOp .USub (.Constant (.int 1) k p1) p2)) p3) (.ref a) (.ref s4.heap.objs.size)) (EP X pins σ Q) X.xe { s4 with heap := s4.heap.push { cls := .type "slice", data := .fields #[.none, .none, vs] } }
  have new : ∀ (o : HO) (ob : Obj), ob.isFreed = false → (∀ H' h', h'.get? (s4.heap.push { cls := .type "slice", data := .fields #[.none, .none, vs] }).objs.size = some ob → ObjOk X.prog X.w H' h' (s4.heap.push { cls := .type "slice", data := .fields #[.none, .none, vs] }).objs.size o) → (∀ p, H4 p = none → Q (.ref p) (upd H4 p o)) →
      EP X pins σ Q (.ref (s4.heap.push { cls := .type "slice", data := .fields #[.none, .none, vs] }).objs.size) { s4 with heap := (s4.heap.push { cls := .type "slice", data := .fields #[.none, .none, vs] }).push ob } := fun o ob hfr hok q => by
    exact ⟨.ref _, _, I5.laid (t' := s4.toks) (o := o) (fun b u z => Heap.get?_push_of_some _ z) (Nat.le_refl _) (hok _ _ (Heap.get?_push_size _ hfr)), rfl, q _ (I5.hok.fresh (Nat.le_refl _))⟩
  rcases q with ⟨hx, q⟩ | ⟨hx, q⟩
  · obtain ⟨its, r, ht, hz⟩ := I5.list hx
    have hl := r.length
    refine PyProof.Rows.tail_any (ops := [.ref a, .ref s4.heap.objs.size]) ht.isList.typeIs (PySem.slot_list_getitem.lookup) ?_ (by with_unfolding_all rfl)
    refine wpAny_getItem_list_slice ht.isList (Heap.IsSliceOf.new _ .none .none vs) .none .none ps (by decide) ?_ (by rw [List.size_toArray]; omega)
    rw [PySem.W.krv_pick]
    exact new (.lst xs.reverse) _ rfl (fun H' h' z => ⟨by rw [List.length_reverse]; exact hz, _, 0, r.reverse, z⟩) q
  · obtain ⟨its, r, ht, hz⟩ := I5.tuple hx
    have hl := r.length
    refine PyProof.Rows.tail_any (ops := [.ref a, .ref s4.heap.objs.size]) ht.typeIs PyProof.Rows.slot_tuple_getitem.lookup ?_ (by with_unfolding_all rfl)
    refine tuple_back ht (Heap.IsSliceOf.new _ .none .none vs) ps ?_ (by rw [List.size_toArray]; omega)
    exact new (.tup xs.reverse) _ rfl (fun H' h' z => ⟨by rw [List.length_reverse]; exact hz, _, r.reverse, ⟨_, z, rfl, 0, by simp⟩⟩) q
theorem de_revA (he : PE X e (rE ⟨X.K, ca⟩ np W f)) : PE X (.Subscript e (.Slice none none (some (.UnaryOp .USub (.Constant (.int 1) k p1) p2)) p3) pos) (rE ⟨X.K, ca⟩ np W (e1 pRevA f)) := by
  refine pe_imp (pe_revA he) ?_
  rintro σ H Q ⟨cs, G, R, hh⟩
  refine rE_run R (EGood.bind hh .refl fun c cs1 G1 H1 v n1 R1 a1 h1 => ?_)
  unfold k1 at h1
  split at h1
  · rename_i d ed
    have p := pk_at R1 a1 ed
    cases ep : pRevA d with
    | none => rw [ep] at h1; exact h1.elim
    | some c' =>
      rw [ep] at h1
      unfold pRevA at ep
      split at ep
      · cases ep
        obtain ⟨q, vs, rfl, r, t⟩ := p.list R1.ex
        exact ⟨q, vs, rfl, .inl ⟨.inl r, fin_lst R1.ex (fun G' H' v' pu a => (h1.on n1).pure R1 pu a) t.reverse⟩⟩
      · cases ep
        obtain ⟨q, vs, rfl, r, t⟩ := p.tuple R1.ex
        exact ⟨q, vs, rfl, .inr ⟨r, fin_tup R1.ex (fun G' H' v' pu a => (h1.on n1).pure R1 pu a) t.reverse⟩⟩
      · cases ep
  · exact h1.elim
end
end TL
set_option Elab.async false
set_option linter.all false
set_option maxRecDepth 100000
set_option maxHeartbeats 4000000
/-! TL13: enumerate of a tuple; isinstance; a list repeated; joined texts; gcd. -/
namespace TL
open PySem L2

/-! ### enumerate of a tuple -/
theorem meets_enum1 {v : Value} {o : Obj} {Hv : Heap → Prop} (B : Begins v o Hv) :
    Meets (Builtin.«enumerate.__new__» ⟨[.type "enumerate", v], []⟩) (fun _ R s => Hv s.heap ∧ R (.ok (.ret (.ref (s.heap.push o).objs.size))) { s with heap := (s.heap.push o).push { cls := .type "enumerate", data := .fields #[.none, .bool false, .ref s.heap.objs.size, rawInt 0, .none, .none] } }) :=
  .of_wp fun prog w A R s h => by
    obtain ⟨hp, g, d, tk, os⟩ := s
    obtain ⟨at_, h⟩ := h
    have hsub := sub_enumerate
    have begun : ∀ {A' : Around} {E : Value → Shared → Prop} {Q : Value → Shared → Prop}, Q (.ref hp.objs.size) ⟨hp.push o, g, d, tk, os⟩ → wpAny (model prog w) A' (pyIter v) Q E ⟨hp, g, d, tk, os⟩ := fun q => B.iter prog w _ _ ⟨hp, g, d, tk, os⟩ _ at_ q
    wp_walk using begun
    refine wpAny_stack_any fun st => wpAny_pure ?_
    split
    · rename_i c _ _ _ _ _
      cases (c == Value.type "enumerate") <;> (wp_walk using begun; exact ⟨_, rfl, h⟩)
    · wp_walk using begun
      exact ⟨_, rfl, h⟩
section
variable {prog : Program} {w : World} {A : Around} {E : Value → Shared → Prop} {s : Shared}
theorem enum_of {v : Value} {o : Obj} {Hv : Heap → Prop} {Q : Value → Shared → Prop} (B : Begins v o Hv) (at_ : Hv s.heap)
    (h : ∀ h', IsEnum h' (s.heap.objs.size + 1) s.heap.objs.size 0 .none → h'.get? s.heap.objs.size = some o → (∀ b u, s.heap.get? b = some u → h'.get? b = some u) → Q (.ref (s.heap.objs.size + 1)) { s with heap := h' }) : wpAny (model prog w) A (call (.type "enumerate") [v]) Q E s := by
  refine callType_new F.called_enumerate (by decide) (F.typeCall_enumerate_1 _) (F.newCall_enumerate_1 _) (fun obj => F.args_object_init_2 obj _) F.entry_enumerate_new (meets_enum1 B) ⟨at_, ?_⟩
  have sz : (s.heap.push o).objs.size = s.heap.objs.size + 1 := Heap.size_push ..
  have isE := Heap.get?_push_size (s.heap.push o) (o := { cls := .type "enumerate", data := .fields #[.none, .bool false, .ref s.heap.objs.size, rawInt 0, .none, .none] }) rfl
  rw [sz] at isE
  show _ ∧ _
  rw [sz]
  exact ⟨⟨_, isE, rfl⟩, h _ isE (Heap.get?_push_of_some _ (Heap.get?_push_size _ B.free)) fun b u q => Heap.get?_push_of_some _ (Heap.get?_push_of_some _ q)⟩
end
/-- the tuple at a, each item in a new pair -/
def IteT (K : PySem.W.Frag) (a : Addr) : It :=
  ⟨fun i H => ∃ (xs : List V) (x : V), SqT K H a xs ∧ xs[i]? = some x, fun i H v H' => ∃ p x, v = .ref p ∧ H p = none ∧ H' = upd H p (.tup [.int (i : Nat), x]) ∧ ∀ xs, SqT K H a xs → xs[i]? = some x, fun i H => ∃ xs : List V, SqT K H a xs ∧ xs.length ≤ i⟩
theorem tup_one {X : Cx} {pins : List (Addr × Obj)} {σ : St} {H : Hp} {s : Shared} {a : Addr} {xs ys : List V} (I : Inv X pins σ H s) (h : SqT X.K H a xs) (h' : SqT X.K H a ys) : xs = ys := by
  obtain ⟨its, r, ⟨o, h1, c1, n, d1⟩, _⟩ := I.tuple h
  obtain ⟨its', r', ⟨o', h1', c1', n', d1'⟩, _⟩ := I.tuple h'
  rw [h1] at h1'
  cases h1'
  rw [d1] at d1'
  cases d1'
  exact Vals.inj r r'
theorem turn_enumT {P : Program} {w : World} {K : PySem.W.Frag} {elts : List Expr} {kk : Nat} {tpos : Pos} (a e it : Addr) :
    Turn P w K (.Tuple elts kk tpos) (IteT K a) [e, it] e (fun i h => (∃ old, IsEnum h e it ((i : Nat) : Int) old) ∧ h.IsTupleIter it a i ∧ e ≠ it) where
  mem := by simp
  obj := fun i h st b hb => by
    obtain ⟨⟨old, he⟩, ⟨o, ho, hc, hd⟩, _⟩ := st
    rcases List.mem_cons.mp hb with rfl | hb
    · exact ⟨_, he, fun v q => nomatch q⟩
    · rw [List.mem_singleton.mp hb]
      exact ⟨o, ho, fun v q => by rw [hd] at q; cases q⟩
  keep := fun i h h' st k => by
    obtain ⟨⟨old, he⟩, hi, hne⟩ := st
    exact ⟨⟨old, k e (by simp) _ he⟩, hi.at fun o q => k it (by simp) o q, hne⟩
  item := by
    intro X hP hw hK hc i pins s σ H E I hf st hg
    subst hP hw hK
    obtain ⟨⟨old, he⟩, hit, hne⟩ := st
    obtain ⟨xs, x, hq, hx⟩ := hg
    obtain ⟨its, rv, ht, hz⟩ := I.tuple hq
    obtain ⟨u, hu, ru⟩ := rv.get hx
    have hel : e < s.heap.objs.size := Heap.lt_size he
    have hil : it < s.heap.objs.size := by obtain ⟨_, q, _⟩ := hit; exact Heap.lt_size q
    have tI : s.heap.IsTuple a its.toArray := ht
    have ai : a ≠ it := fun z => by
      obtain ⟨o, h1, _, n, d1⟩ := ht
      obtain ⟨o2, h2, _, d2⟩ := hit
      rw [z, h2] at h1
      cases h1
      rw [d2] at d1
      cases d1
    have ae : a ≠ e := fun z => by
      obtain ⟨o, h1, _, n, d1⟩ := ht
      rw [z, he] at h1
      cases h1
      cases d1
    have lt : i < its.toArray.size := by rw [List.size_toArray]; exact (List.getElem?_eq_some_iff.mp hu).1
    refine wpAny_pyNext_enum_itemD (Draws.tuple (A := X.A.in1) (I.ok.hd hc) it a ai its.toArray) he ⟨hit, tI⟩ lt hne (by simp only [List.mem_cons, List.not_mem_nil, or_false, not_or]; exact ⟨hne, Ne.symm ae⟩) fun y h' tk hy ho st' hT hsz hk => ?_
    have ey : y = u := by simpa [hu] using hy.symm
    subst ey
    refine ⟨_, rfl, wpAny_letOwnedTupleGo_enum (s := { s with heap := h', toks := tk + 1 }) ho fun h2 he2 sb => ?_⟩
    have hT2 := (sb.2 _ (Nat.ne_of_gt hel)).trans hT
    have new : ObjOk X.prog X.w (upd H s.heap.objs.size (.tup [.int (i : Nat), x])) h2 s.heap.objs.size (.tup [.int (i : Nat), x]) := ⟨(by decide : 2 ≤ sizeLine), [.int i tk, y], .cons ⟨_, rfl⟩ (.cons ru .nil), ⟨_, hT2, rfl, _, rfl⟩⟩
    have J : Inv X pins σ (upd H s.heap.objs.size (.tup [.int (i : Nat), x])) { s with heap := h2, toks := tk + 1 } :=
      I.turnedNew (ch := [e, it]) (fun b ob hb q => (sb.2 b (fun z => hb (by simp [z]))).trans (hk b ob (fun z => hb (by simp [z])) (fun z => hb (by simp [z])) q)) hf (Nat.le_refl _) new
    refine ⟨.ref s.heap.objs.size, _, J, rfl, ⟨_, x, rfl, I.hok.fresh (Nat.le_refl _), rfl, fun ys hy => by rw [tup_one I hy hq]; exact hx⟩, ⟨⟨y, ?_⟩, st'.1.at fun o q => (sb.2 it (Ne.symm hne)).trans q, hne⟩, fun b hb => ?_⟩
    · rw [show ((i + 1 : Nat) : Int) = (i : Int) + 1 by omega]
      exact he2
    · have hb' : b < s.heap.objs.size := by
        rcases List.mem_cons.mp hb with z | z
        · rw [z]; exact hel
        · rw [List.mem_singleton.mp z]; exact hil
      rw [upd_ne (Nat.ne_of_lt hb')]
      exact (hf b hb).1
  done := by
    intro X hP hw hK hc i pins s σ H E I hf st hg
    subst hP hw hK
    obtain ⟨⟨old, he⟩, hit, hne⟩ := st
    obtain ⟨xs, hq, hx⟩ := hg
    obtain ⟨its, rv, ht, hz⟩ := I.tuple hq
    obtain ⟨f0, f1, f2, f3, f4, f5⟩ := hf it (by simp)
    have hl := rv.length
    have last : its.toArray[i]? = none := by simp; omega
    have Dz : Draws X.prog X.w X.A.in1 it [it, a] i (fun _ _ => False) (fun j h => h.IsTupleIter it a j ∧ h.IsTuple a its.toArray ∧ j = i) :=
      { live := fun _ _ st => let ⟨o, ho, _⟩ := st.1; ⟨o, ho⟩
        frame := fun _ _ _ st k => ⟨st.1.at fun o z => k it (by simp) o z, st.2.1.at fun o z => k a (by simp) o z, st.2.2⟩
        item := fun j t Q E lt st _ => by
          have := st.2.2
          omega
        done := fun t Q E st q => wpAny_nextOf_tuple_end (I.ok.hd hc) st.1 st.2.1 last q }
    exact wpAny_pyNext_enum_endD Dz he ⟨hit, ht, rfl⟩ fun h' eb => ⟨rfl, I.turned (t' := s.toks) (fun b o hb q => eb b o hb q) f0 f1 f3 f4 f5⟩
  self := fun A i s Q E st h => let ⟨⟨_, he⟩, _⟩ := st; wpAny_pyIter_enum he h

def iEnumT (K : PySem.W.Frag) (ta : TA) : TI := fun σ H R => ta σ H fun vs H1 => ∃ a xs, vs = [.ref a] ∧ ((SqL K H1 a xs ∧ R (Ite K a) H1) ∨ (SqT K H1 a xs ∧ R (IteT K a) H1))
theorem pi_enumA {X : Cx} {e : Expr} {ta : TA} {p pos tpos : Pos} {elts : List Expr} {kk : Nat} (hg : Gl X "enumerate") (hm : X.mg "enumerate" = none) (ha : PA X [e] ta) (hs : starEach [e] X.env = [(false, eval e X.env)] := by rfl) :
    PI X (.Tuple elts kk tpos) (.Call (.Name "enumerate" p) [e] [] pos) (iEnumT X.K ta) := by
  refine ⟨fun pins s σ H R I h => PyProof.Rows.Call_ (ld_blt I hg hm PyProof.Rows.boot_enumerate (PyProof.Rows.callWith_type1 (thn (ha.run pos pins s σ H _ I h) fun us s1 ⟨vs, H1, I1, r1, q1⟩ => ?_) hs rfl))⟩
  obtain ⟨a, xs, rfl, q⟩ := q1
  rw [Vals.ref1 r1]
  have below : ∀ b ∈ [s1.heap.objs.size + 1, s1.heap.objs.size], s1.heap.objs.size ≤ b := fun b hb => by
    rcases List.mem_cons.mp hb with z | z
    · rw [z]; exact Nat.le_succ _
    · rw [List.mem_singleton.mp z]; exact Nat.le_refl _
  rcases q with ⟨hq, q⟩ | ⟨hq, q⟩
  · obtain ⟨its, rv, pl, _⟩ := I1.list hq
    refine call_enumerate_list pl.isList fun h' he hit hsz hk => wpAny_pyIter_enum he ?_
    have J : Inv X pins σ H1 { s1 with heap := h' } := I1.kept (t' := s1.toks) hk
    exact ⟨_, _, _, _, H1, rfl, J, turn_enum a _ _, ⟨⟨.none, he⟩, hit, Nat.succ_ne_self _⟩, fun b hb => I1.fpOk (below b hb) (I1.hok.fresh (below b hb)), q⟩
  · obtain ⟨its, rv, pt, _⟩ := I1.tuple hq
    refine enum_of (begins_tuple a its.toArray) pt fun h' he hit hk => wpAny_pyIter_enum he ?_
    have J : Inv X pins σ H1 { s1 with heap := h' } := I1.kept (t' := s1.toks) hk
    exact ⟨_, _, _, _, H1, rfl, J, turn_enumT a _ _, ⟨⟨.none, he⟩, ⟨_, hit, rfl, rfl⟩, Nat.succ_ne_self _⟩, fun b hb => I1.fpOk (below b hb) (I1.hok.fresh (below b hb)), q⟩
section
variable {K : PySem.W.Frag} {G : Hp}
theorem src_enumT {a : Addr} {vs : List V} {ds : List D} (r : SqT K G a vs) (t : TpAll K G vs ds) : Src K (IteT K a) (enumD ds) G := by
  have hl : (enumD ds).length = ds.length := by unfold enumD; simp
  refine ⟨fun i G1 H1 hi s1 s2 => ?_, fun i G1 H1 x H2 hi s1 s2 y => ?_, fun G1 H1 s1 s2 => ⟨vs, sqt_mono (s1.trans s2) r, by rw [t.length, hl]; exact Nat.le_refl _⟩⟩
  · obtain ⟨v, hv, _⟩ := t.get (List.getElem?_eq_getElem (show i < ds.length by omega))
    exact ⟨vs, v, sqt_mono (s1.trans s2) r, hv⟩
  · obtain ⟨p, v, rfl, hp, rfl, y⟩ := y
    obtain ⟨d, hd, td⟩ := t.getV (y vs (sqt_mono (s1.trans s2) r))
    refine ⟨upd G1 p (.tup [.int (i : Nat), v]), .tuple [.int (i : Nat), d], .obj s2 hp, ?_, .tup (SqT.of upd_same) (.cons (.int _) (.cons (tp_mono (s1.trans (same_new (s2.free hp))) d v td) .nil))⟩
    unfold enumD
    rw [List.getElem?_map, List.getElem?_range (by omega), Option.map_some, List.getD_eq_getElem?_getD, hd]; rfl
end
def iEnumA (f : List Cell → AR) (cs : List Cell) : IR := match f cs with
  | .val [.da (.list ds)] cs1 => .val (enumD ds) cs1
  | .val [.da (.tuple ds)] cs1 => .val (enumD ds) cs1
  | .err e cs1 => .err e cs1
  | _ => .bad
section
variable {X : Cx} {ca : Str → Addr} {np : Nat} {W : WX} {e : Expr} {p pos : Pos}
theorem di_enumA {elts : List Expr} {kk : Nat} {tpos : Pos} {f : List Cell → AR} (hm : X.mg "enumerate" = none) (ha : PA X [e] (rA ⟨X.K, ca⟩ np W f)) (hg : Gl X "enumerate" := by rfl) (hs : starEach [e] X.env = [(false, eval e X.env)] := by rfl) :
    PI X (.Tuple elts kk tpos) (.Call (.Name "enumerate" p) [e] [] pos) (rI ⟨X.K, ca⟩ np W (iEnumA f)) := by
  refine pi_imp (pi_enumA hg hm ha hs) ?_
  rintro σ H R ⟨cs, G, S, h⟩
  refine rA_run S ?_
  unfold iEnumA at h
  split at h
  · rename_i ds cs1 e
    rw [e]
    intro G1 H1 vs n1 R1 a1
    match vs, a1 with
    | [v], a1 =>
      obtain ⟨w, e, t⟩ := a1.1.1
      cases e
      cases t with
      | lst hs ha => exact ⟨_, _, rfl, .inl ⟨.inl (rd_mono R1.ex hs), h G1 H1 _ n1 R1 (src_enum hs ha)⟩⟩
  · rename_i ds cs1 e
    rw [e]
    intro G1 H1 vs n1 R1 a1
    match vs, a1 with
    | [v], a1 =>
      obtain ⟨w, e, t⟩ := a1.1.1
      cases e
      cases t with
      | tup hs ha => exact ⟨_, _, rfl, .inr ⟨sqt_mono R1.ex hs, h G1 H1 _ n1 R1 (src_enumT hs ha)⟩⟩
  · rename_i e' cs1 e
    rw [e]
    exact h
  · exact h.elim
end

/-! ### isinstance -/
def tyOf : D → String
  | .none => "NoneType"
  | .bool _ => "bool"
  | .int _ => "int"
  | .str _ => "str"
  | .list _ => "list"
  | .tuple _ => "tuple"
  | .dict _ => "dict"
theorem Pk.ty {K : PySem.W.Frag} {G H : Hp} {v : V} {d : D} (e : Same G H) (h : Pk K G H v d) : TyX K H v (.type (tyOf d)) := by
  have lst : ∀ {a : Addr} {xs : List V}, Rd H a (.lst xs) → TyX K H (.ref a) (.type "list") := fun r => by
    rcases r with r | ⟨o, r⟩
    · exact .base (.lst r)
    · exact .base (.frz r)
  rcases h with h | ⟨p, vs, ds, rfl, rfl, hp, _⟩
  · cases h with
    | non => exact .base .non
    | bl b => exact .base (.bl b)
    | int i => exact .base (.int i)
    | str x => exact .base (.str x)
    | lst r t => exact lst (rd_mono e r)
    | tup r t =>
      rcases sqt_mono e r with (r | ⟨o, r⟩) | ⟨o, its, n, k, c, _⟩
      · exact .base (.tup r)
      · exact .fTuple r
      · exact .kTuple k c
  · exact .base (.lst hp)
/-- a caught exception is asked -/
def rIsX (K : PySem.W.Frag) : List V → Hp → VK → Prop := fun xs H Q => ∃ (a C : Addr) (c : V) (u : Value) (b : Bool), xs = [.ref a, c] ∧ H a = some (ExV (.ref C) a) ∧ ClsV c u ∧ ExcC K C ∧ PySem.W.kitOne K (.ref C) u = some b ∧ Q (.bl b) H
def rIsA (K : PySem.W.Frag) : List V → Hp → VK → Prop := fun xs H Q => rIsi K xs H Q ∨ rIsX K xs H Q
theorem cr_isX {X : Cx} : CallR X (.builtin "isinstance") (rIsX X.K) := by
  intro pins s σ H xs us Q I r h
  obtain ⟨a, C, c, u, b, rfl, ha, k, EC, e, q⟩ := h
  obtain ⟨u1, u2, rfl, r1, r2⟩ := vals2 r
  cases r1
  have e2 := k.eq r2
  subst e2
  obtain ⟨⟨oe, vs, get, z, fl⟩, _, _⟩ := I.hok a _ ha
  have J : PySem.W.InstAt s.heap a oe C none := by
    obtain ⟨oc, od, oda, osl⟩ := oe
    obtain ⟨h1, h2⟩ := z
    simp only at h1 h2 fl
    subst h1 h2 fl
    exact ⟨get, rfl, rfl, trivial⟩
  exact PySem.W.kia_one (PySem.W.handS_kitx_exc EC.hg EC.hk EC.hs EC.hd EC.ha EC.hn EC.ht EC.hm) I.kIn J e (fun z => nomatch z) fun tk => ⟨.bl b, H, I.tok tk, rfl, q⟩
theorem cr_isA {X : Cx} : CallR X (.builtin "isinstance") (rIsA X.K) := fun pins s σ H xs us Q I r h => h.elim (call_isi pins s σ H xs us Q I r) (cr_isX pins s σ H xs us Q I r)
def isiC (hd : D → Option Bool) (hx : Str → Option Bool) (c : Cell) (cs : List Cell) : ER := match c with
  | .ex nm => (match hx nm with
    | some b => .val (.da (.bool b)) cs
    | none => .bad)
  | c => match (pk c cs).bind hd with
    | some b => .val (.da (.bool b)) cs
    | none => .bad
def vIsi (hd : D → Option Bool) (hx : Str → Option Bool) (f : List Cell → ER) (cs : List Cell) : ER := (f cs).bind fun c cs1 => isiC hd hx c cs1
@[simp] theorem isiC_da (hd : D → Option Bool) (hx : Str → Option Bool) (d : D) (cs : List Cell) : isiC hd hx (.da d) cs = match hd d with
  | some b => .val (.da (.bool b)) cs
  | none => .bad := rfl
section
variable {X : Cx} {ca : Str → Addr} {np : Nat} {W : WX} {e ce : Expr} {p pos : Pos} {f : List Cell → ER} {hd : D → Option Bool} {hx : Str → Option Bool} {cv : V} {u : Value}
theorem de_isi (hm : X.mg "isinstance" = none) (he : PE X e (rE ⟨X.K, ca⟩ np W f)) (hce : PE X ce (tC cv)) (k : ClsV cv u) (kd : ∀ d b, hd d = some b → PySem.W.kitOne X.K (.type (tyOf d)) u = some b) (kx : ∀ nm b, hx nm = some b → ExcC X.K (ca nm) ∧ PySem.W.kitOne X.K (.ref (ca nm)) u = some b) (hg : Gl X "isinstance" := by rfl)
    (hs1 : starEach [e, ce] X.env = (false, eval e X.env) :: starEach [ce] X.env := by rfl) (hs2 : starEach [ce] X.env = (false, eval ce X.env) :: starEach [] X.env := by rfl) (hpl : (backTo pos (starEach [ce] X.env)).any (·.1) = false := by rfl) :
    PE X (.Call (.Name "isinstance" p) [e, ce] [] pos) (rE ⟨X.K, ca⟩ np W (vIsi hd hx f)) := by
  refine pe_imp (pe_callB cr_isA hg hm PyProof.Rows.boot_isinstance (pa_cons he (pa_cons hce pa_nil hs2) hs1) (he := hs1) (hpl := hpl)) ?_
  rintro σ H Q ⟨cs, G, R, h⟩
  refine rE_run R (EGood.bind h .refl fun c cs1 G1 H1 v n1 R1 a1 h1 => ?_)
  show rIsA X.K [v, cv] H1 Q
  have fin : ∀ b, EGood ⟨X.K, ca⟩ np W Q σ cs G H (.val (.da (.bool b)) cs1) → Q (.bl b) H1 := fun b h => h G1 H1 (.bl b) n1 R1 ⟨⟨_, rfl, .bl b⟩, fun z => nomatch z⟩
  have dat : (∀ d, pk c cs1 = some d → ∀ b, hd d = some b → Q (.bl b) H1 → rIsA X.K [v, cv] H1 Q) := fun d ed b eb q => .inl ⟨v, cv, _, u, b, rfl, k, Pk.ty R1.ex (pk_at R1 a1 ed), kd d b eb, q⟩
  have oth : (∀ nm, c ≠ .ex nm) → rIsA X.K [v, cv] H1 Q := fun ne => by
    have h2 : EGood ⟨X.K, ca⟩ np W Q σ cs G H (match (pk c cs1).bind hd with | some b => .val (.da (.bool b)) cs1 | none => .bad) := by
      cases c with
      | ex nm => exact absurd rfl (ne nm)
      | un => exact h1
      | da d => exact h1
      | ol d => exact h1
      | bw d => exact h1
    split at h2
    · rename_i b eb
      obtain ⟨d, ed, ehd⟩ := Option.bind_eq_some_iff.mp eb
      exact dat d ed b ehd (fin b h2)
    · exact h2.elim
  cases c with
  | ex nm =>
    have h2 : EGood ⟨X.K, ca⟩ np W Q σ cs G H (match hx nm with | some b => .val (.da (.bool b)) cs1 | none => .bad) := h1
    split at h2
    · rename_i b eb
      obtain ⟨a, ea, t⟩ := a1.1
      cases ea
      obtain ⟨k1, k2⟩ := kx nm b eb
      exact .inr ⟨a, _, cv, u, b, rfl, R1.ex _ _ t, k, k1, k2, fin b h2⟩
    · exact h2.elim
  | un => exact oth fun nm z => nomatch z
  | da d => exact oth fun nm z => nomatch z
  | ol d => exact oth fun nm z => nomatch z
  | bw d => exact oth fun nm z => nomatch z
end
/-- a built-in type -/
def isT (n : String) (d : D) : Option Bool := kitB (tyOf d) n
theorem isT_ok {K : PySem.W.Frag} {n : String} (d : D) (b : Bool) (h : isT n d = some b) : PySem.W.kitOne K (.type (tyOf d)) (.type n) = some b := kit_ty h
end TL
set_option Elab.async false
set_option linter.all false
set_option maxRecDepth 100000
set_option maxHeartbeats 4000000
/-! TL14: a list repeated; joined texts; gcd; repr. -/
namespace TL
open PySem L2

/-! ### [..] * n -/
def repC (c : Cell) (d : D) (cs : List Cell) : ER := match c, d with
  | .ol ds, .int k => if -(2 ^ 63) ≤ k ∧ k < 2 ^ 63 ∧ ds.length * k.toNat ≤ sizeLine then .val (.ol (List.replicate k.toNat ds).flatten) cs else .bad
  | _, _ => .bad
def eRep (f g : List Cell → ER) (cs : List Cell) : ER := (f cs).bind fun a cs1 => (g cs1).bind fun b cs2 => match pk b cs2 with
  | some d => repC a d cs2
  | none => .bad
section
variable {X : Cx} {ca : Str → Addr} {np : Nat} {W : WX} {a b : Expr} {pos : Pos} {f g : List Cell → ER}
theorem de_rep (ha : PE X a (rE ⟨X.K, ca⟩ np W f)) (hb : PE X b (rE ⟨X.K, ca⟩ np W g)) : PE X (.BinOp a .Mult b pos) (rE ⟨X.K, ca⟩ np W (eRep f g)) := by
  refine pe_imp (pe_op op_rep ha hb) ?_
  rintro σ H Q ⟨cs, G, R, hh⟩
  refine rE_run R (EGood.bind hh .refl fun c cs1 G1 H1 v n1 R1 a1 h1 => rE_run R1 (EGood.bind h1 n1 fun c2 cs2 G2 H2 v2 n2 R2 a2 h2 => ?_))
  split at h2
  · rename_i d ed
    unfold repC at h2
    split at h2
    · rename_i ds k
      split at h2
      · rename_i hk
        obtain ⟨k1, k2, k3⟩ := hk
        obtain ⟨⟨p, vs, ep, gp, hp, t⟩, _⟩ := a1.on n2
        cases ep
        have ev := (pk_at R2 a2 ed).int
        subst ev
        exact ⟨p, k, vs, rfl, rfl, hp, k1, k2, by rw [t.length]; exact k3, fin_lst R2.ex (fun G' H' v' pu a => (h2.on (n1.trans n2)).pure R2 pu a) (t.rep k.toNat)⟩
      · exact h2.elim
    · exact h2.elim
  · exact h2.elim
end

/-! ### sep.join(texts) -/
def strsOf : List D → Option (List Str)
  | [] => some []
  | .str x :: r => (strsOf r).map (x :: ·)
  | _ => none
theorem strsOf_eq : ∀ {ds : List D} {ys : List Str}, strsOf ds = some ys → ds = ys.map PyData.str
  | [], _, h => by cases h; rfl
  | d :: ds, ys, h => by
    cases d with
    | str x =>
      obtain ⟨r, e, rfl⟩ := Option.map_eq_some_iff.mp h
      rw [strsOf_eq e]
      rfl
    | none => cases h
    | bool x => cases h
    | int x => cases h
    | list x => cases h
    | tuple x => cases h
    | dict x => cases h
@[simp] theorem strsOf_map (ys : List Str) : strsOf (ys.map PyData.str) = some ys := by
  induction ys with
  | nil => rfl
  | cons y ys ih => simp [strsOf, ih]
def pJoin : D → D → Option Cell
  | .str a, .list ds => match strsOf ds with
    | some ys => if (ys.map (·.length)).sum + ys.length * a.length ≤ 16777216 then some (.da (.str (Txt.join a ys))) else none
    | none => none
  | _, _ => none
section
variable {X : Cx} {ca : Str → Addr} {np : Nat} {W : WX} {o e : Expr} {apos pos : Pos} {f g : List Cell → ER}
theorem de_join (ho : PE X o (rE ⟨X.K, ca⟩ np W f)) (he : PE X e (rE ⟨X.K, ca⟩ np W g)) (hs : starEach [e] X.env = [(false, eval e X.env)] := by rfl) (hbase : attributeBase o "join" X.env (eval o X.env) = eval o X.env := by rfl) (hline : (apos.endLine == pos.line) = true := by rfl) :
    PE X (.Call (.Attribute o "join" apos) [e] [] pos) (rE ⟨X.K, ca⟩ np W (fun cs => (f cs).bind fun a cs1 => match a with | .da (.str x) => (g cs1).bind fun b cs2 => k2 pJoin (.da (.str x)) b cs2 | _ => .bad)) := by
  refine pe_imp (pe_join ho he hs hbase hline) ?_
  rintro σ H Q ⟨cs, G, R, hh⟩
  refine rE_run R (EGood.bind hh .refl fun c cs1 G1 H1 v n1 R1 a1 h1 => ?_)
  split at h1
  · rename_i x
    obtain ⟨w, ew, t⟩ := a1.1
    cases ew
    cases t
    refine ⟨⟨x, rfl⟩, rE_run R1 (EGood.bind h1 n1 fun c2 cs2 G2 H2 v2 n2 R2 a2 h2 => ?_)⟩
    unfold k2 at h2
    split at h2
    · rename_i d1 d2 e1 e2
      cases e1
      cases ep : pJoin (.str x) d2 with
      | none => rw [ep] at h2; exact h2.elim
      | some c' =>
        rw [ep] at h2
        have p := pk_at R2 a2 e2
        unfold pJoin at ep
        split at ep
        · rename_i e1
          cases e1
          split at ep
          · rename_i ys ey
            split at ep
            · rename_i hz
              cases ep
              obtain ⟨q, vs, rfl, r, t⟩ := p.list R2.ex
              rw [strsOf_eq ey] at t
              have ev := tpAll_strs t
              subst ev
              exact ⟨x, q, ys, rfl, rfl, .inl (.inl r), hz, fin_da R2.ex (fun G' H' v' pu a => (h2.on (n1.trans n2)).pure R2 pu a) (.str _)⟩
            · cases ep
          · cases ep
        · cases ep
    · exact h2.elim
  · exact h1.elim
end

/-! ### gcd -/
theorem opd_gcd {K : PySem.W.Frag} : CallD K rGcd (pInt2 fun a b => ((Nat.gcd a.natAbs b.natAbs : Nat) : Int)) := opd_int2
section
variable {X : Cx} {ca : Str → Addr} {np : Nat} {W : WX} {x : Str} {e : Expr} {es : List Expr} {p pos : Pos} {f : List Cell → AR}
theorem de_gcd (hm : X.mg x = some (.builtin "math.gcd")) (ha : PA X (e :: es) (rA ⟨X.K, ca⟩ np W f)) (hg : Gl X x := by rfl) (hdb : (x == ("__debug__" : Str)) = false := by decide) (he : starEach (e :: es) X.env = (false, eval e X.env) :: starEach es X.env := by rfl) (hpl : (backTo pos (starEach es X.env)).any (·.1) = false := by rfl) :
    PE X (.Call (.Name x p) (e :: es) [] pos) (rE ⟨X.K, ca⟩ np W (en (pInt2 fun a b => ((Nat.gcd a.natAbs b.natAbs : Nat) : Int)) f)) := pe_imp (pe_callBfun cr_gcd hg hm ha hdb he hpl) (en_ok opd_gcd)
end

/-! ### repr -/
mutual
theorem tp_noDict {K : PySem.W.Frag} {G : Hp} : ∀ (d : D) (v : V), Tp K G v d → d.hasDict = false
  | .none, _, _ => rfl
  | .bool _, _, _ => rfl
  | .int _, _, _ => rfl
  | .str _, _, _ => rfl
  | .list ds, _, h => by cases h with | lst _ t => simp only [PyData.hasDict]; exact tpAll_noDict ds _ t
  | .tuple ds, _, h => by cases h with | tup _ t => simp only [PyData.hasDict]; exact tpAll_noDict ds _ t
  | .dict _, _, h => by cases h
theorem tpAll_noDict {K : PySem.W.Frag} {G : Hp} : ∀ (ds : List D) (vs : List V), TpAll K G vs ds → PyData.hasDictAll ds = false
  | [], _, _ => by simp only [PyData.hasDictAll]
  | d :: ds, _, h => by cases h with | cons h1 h2 => simp only [PyData.hasDictAll, tp_noDict d _ h1, tpAll_noDict ds _ h2, Bool.or_false]
end
/-- the text of d may be made -/
def repOk (d : D) : Bool := d.showable && decide (d.shown.length ≤ sizeLine) && decide (d.depth ≤ 100)
def pRepr : List D → Option Cell
  | [d] => if repOk d = true then some (.da (.str d.shown)) else none
  | _ => none
def rRepr (K : PySem.W.Frag) : List V → Hp → VK → Prop := fun xs H Q => ∃ x d, xs = [x] ∧ Tp K H x d ∧ repOk d = true ∧ Q (.str d.shown) H
theorem cr_repr {X : Cx} {k : Nat} (hr : Room k X.A) (hgd : X.A.guards = some []) : CallR X (.builtin "repr") (rRepr X.K) := by
  intro pins s σ H xs us Q I r h
  obtain ⟨x, d, rfl, t, ok, q⟩ := h
  cases r with
  | cons ru rn =>
    rename_i u us'
    cases rn
    obtain ⟨as, rd⟩ := Dp.reads I d x _ t.dp ru
    have nd := tp_noDict d x t
    unfold repOk at ok
    simp only [Bool.and_eq_true, decide_eq_true_eq] at ok
    obtain ⟨⟨ok1, ok2⟩, ok3⟩ := ok
    have room := hr.un
    have fin : ∀ h' tk t', (∀ b o, s.heap.get? b = some o → h'.get? b = some o) → EP X pins σ Q (.str d.shown t') { s with heap := h', toks := tk } := fun h' tk t' kp => ⟨.str d.shown, H, I.kept (t' := tk) kp, ⟨_, rfl⟩, q⟩
    cases d with
    | none => cases t; cases ru; exact P.repr_of_none (fin s.heap _ _ fun _ _ e => e)
    | bool b =>
      cases t
      cases ru
      refine P.repr_of_bool ?_
      exact fin s.heap _ _ fun _ _ e => e
    | int i =>
      cases t
      obtain ⟨tk, rfl⟩ := ru
      simp only [PyData.showable, decide_eq_true_eq] at ok1
      exact P.repr_of_int ok1 (fin s.heap _ _ fun _ _ e => e)
    | str y =>
      cases t
      obtain ⟨tk, rfl⟩ := ru
      refine P.repr_of_str (fin s.heap _ _ fun _ _ e => e) ?_
      simpa [PyData.shown] using ok2
    | list ds =>
      cases t
      cases ru
      exact repr_of_reads' rd ok1 (PyData.noDict_hsm nd) hgd (by omega) (fun _ _ e => e) (fun h' t' tk kp => fin h' tk t' kp) ok2
    | tuple ds =>
      cases t
      cases ru
      exact repr_of_reads' rd ok1 (PyData.noDict_hsm nd) hgd (by omega) (fun _ _ e => e) (fun h' t' tk kp => fin h' tk t' kp) ok2
    | dict _ => cases t
theorem opd_repr {K : PySem.W.Frag} : CallD K (rRepr K) pRepr := by
  intro G H vs ds c Q e h hp q
  unfold pRepr at hp
  split at hp
  · split at hp
    · rename_i ok
      cases hp
      obtain ⟨v, rfl, p⟩ := pkAll_one h
      exact ⟨v, _, rfl, p.tp e, ok, fin_da e q (.str _)⟩
    · cases hp
  · cases hp
section
variable {X : Cx} {ca : Str → Addr} {np k : Nat} {W : WX} {e : Expr} {p pos : Pos} {f : List Cell → AR}
theorem de_repr (hr : Room k X.A) (hgd : X.A.guards = some []) (hm : X.mg "repr" = none) (ha : PA X [e] (rA ⟨X.K, ca⟩ np W f)) (hg : Gl X "repr" := by rfl) (he : starEach [e] X.env = (false, eval e X.env) :: starEach [] X.env := by rfl) :
    PE X (.Call (.Name "repr" p) [e] [] pos) (rE ⟨X.K, ca⟩ np W (en pRepr f)) := pe_imp (pe_callB (cr_repr hr hgd) hg hm (by decide +kernel) ha (he := he)) (en_ok opd_repr)
end
end TL
set_option Elab.async false
set_option linter.all false
set_option maxRecDepth 100000
set_option maxHeartbeats 4000000
/-! TL15: three names at once; defs by names; the end of a law. -/
namespace TL
open PySem L2

/-! ### a, b, c = x, y, z -/
def sPar3 (np i j l : Nat) (f : List Cell → AR) (cs : List Cell) : SR := (f cs).toS fun c cs1 => match c with
  | [.da a, .da b, .da d] => match ((put1 np i (.da a) cs1).bind (put1 np j (.da b))).bind (put1 np l (.da d)) with
    | some cs2 => .nx cs2
    | none => .bad
  | _ => .bad
section
variable {X : Cx} {T : Th} {np : Nat} {pos : Pos} {W : WX}
theorem put_da {i : Nat} {d : D} {v : V} {σ σ0 : St} {cs cs0 cs' : List Cell} {G G0 H H0 : Hp} (R : SRel T σ cs G H) (n : Nxt np σ0 cs0 G0 H0 σ cs G H) (t : Tp T.K G v d) (e : put1 np i (.da d) cs = some cs') :
    SRel T (σ.set i (some v)) cs' G H ∧ Nxt np σ0 cs0 G0 H0 (σ.set i (some v)) cs' G H := by
  unfold put1 at e
  split at e
  · rename_i c1
    cases e
    exact ⟨store_ok1 R ⟨v, rfl, t⟩ (fun j z => nomatch z) (fun z => nomatch z), store_nxt n c1 (fun z => nomatch z)⟩
  · cases e
theorem ds_par3 {i j l : Nat} {x y z : Str} {a b c : Expr} {f : List Cell → AR} {px py pz pt : Pos} {kt k2 pt2} (hc : X.calm = true) (hN : X.N.Nodup) (hi : X.N[i]? = some x) (hj : X.N[j]? = some y) (hl : X.N[l]? = some z) (hij : i ≠ j) (hil : i ≠ l) (hjl : j ≠ l)
    (hx : X.env.scope.names.lookup x = some .local) (hy : X.env.scope.names.lookup y = some .local) (hz : X.env.scope.names.lookup z = some .local) (ha : PA X [a, b, c] (rA T np W f))
    (hw : swappedStores [.Tuple [.Name x px, .Name y py, .Name z pz] kt pt] (.Tuple [a, b, c] k2 pt2) X.env = pure (some [x, y, z]))
    (hs : swapsWithSole [.Tuple [.Name x px, .Name y py, .Name z pz] kt pt] (.Tuple [a, b, c] k2 pt2) pos.line X.env = pure false := by rfl) :
    PS X (.Assign [.Tuple [.Name x px, .Name y py, .Name z pz] kt pt] (.Tuple [a, b, c] k2 pt2) pos) (rS T np W (sPar3 np i j l f)) := by
  refine ps_imp (ps_par3 hc hN hi hj hl hij hil hjl hx hy hz ha hw hs) ?_
  rintro D σ H ⟨cs, G, R, h⟩
  refine rA_run R (AGood.ofS h .refl fun c cs1 G1 H1 vs n1 R1 a1 h1 => ?_)
  split at h1
  · rename_i d1 d2 d3
    match vs, a1 with
    | [u, v, w], a1 =>
      obtain ⟨⟨⟨_, e1, t1⟩, _⟩, ⟨⟨⟨_, e2, t2⟩, _⟩, ⟨⟨⟨_, e3, t3⟩, _⟩, _⟩, _⟩, _⟩ := a1
      cases e1
      cases e2
      cases e3
      split at h1
      · rename_i cs2 e
        obtain ⟨cs3, e', p3⟩ := Option.bind_eq_some_iff.mp e
        obtain ⟨cs4, p1, p2⟩ := Option.bind_eq_some_iff.mp e'
        obtain ⟨R2, n2⟩ := put_da R1 n1 t1 p1
        obtain ⟨R3, n3⟩ := put_da R2 n2 t2 p2
        obtain ⟨R4, n4⟩ := put_da R3 n3 t3 p3
        exact ⟨u, v, w, rfl, h1 _ G1 H1 n4 R4⟩
      · exact h1.elim
  · exact h1.elim
end

/-! ### a def of the text, by its name -/
abbrev FunN (K : PySem.W.Frag) (x : Str) (st : Stmt) (f : Addr) (fd : FuncData) : Prop := FunD K x x (defArgs st) (defBody st) (defScope st) [] [] f fd
theorem FunN.fun_ {K : PySem.W.Frag} {x : Str} {st : Stmt} {f : Addr} {fd : FuncData} (F : FunN K x st f fd) : L2.Fun K x x st f fd := by
  obtain ⟨⟨oc, od, dV, kV, doc, pm, an, cdv, ct, osl, rfl, lk, hcd, hD, _⟩, kp⟩ := F
  rcases hD with ⟨_, rfl⟩ | ⟨e, _⟩
  · exact ⟨⟨oc, od, kV, doc, pm, an, cdv, ct, osl, rfl, lk, hcd⟩, kp⟩
  · exact absurd rfl e
theorem FunN.kw {K : PySem.W.Frag} {x : Str} {st : Stmt} {f : Addr} {fd : FuncData} {ps ks : List Str} {π : List Nat} (F : FunN K x st f fd)
    (h : ∀ (kV doc pm : Value) (an : Option Addr) (cdv ct : Value) (ws : List Value), ws.length = ps.length → bindArgs (PySem.W.fnOf x x (defArgs st) (defBody st) (defScope st) .none kV doc pm an cdv ct) ⟨[], ks.zip ws⟩ = pure (ps.zip (permL π ws))) : KwBinds fd ps ks π := by
  obtain ⟨oc, od, kV, doc, pm, an, cdv, ct, osl, rfl, lk, hcd⟩ := F.fun_.ex
  exact fun s ws hl => .of_eq (h kV doc pm an cdv ct ws hl)
/-- the def named x stands behind the top with the promise of the mirror m -/
structure At (P : Program) (w : World) (K : PySem.W.Frag) (mg : Str → Option Value) (base : Heap) (ca : Str → Addr) (k : Nat) (x : Str) (st : Stmt) (ps : List Str) (m : List Cell → ER) : Prop where
  fn : ∃ (f : Addr) (fd : FuncData), FunN K x st f fd ∧ mg x = some (.ref f) ∧ Binds K fd ps [] ∧ FnG P w K mg base k f fd ps (spM ⟨K, ca⟩ ps.length m)
  nobw : ∀ as c os, m as = .val c os → ∀ j, c ≠ .bw j
section
variable {X : Cx} {ca : Str → Addr} {np k j : Nat} {W : WX} {x : Str} {st : Stmt} {ps ks : List Str} {m : List Cell → ER} {e : Expr} {es : List Expr} {kws : List Keyword} {f : List Cell → AR} {p pos : Pos} {π : List Nat}
theorem de_at (F : At X.prog X.w X.K X.mg X.base ca j x st ps m) (hr : Room k X.A) (hgd : X.A.guards = some []) (hx : ∀ σ, PassesAt (L2.CX X.prog X.w) X σ (WE W σ)) (ha : PA X (e :: es) (rA ⟨X.K, ca⟩ np W f)) (hj : j ≤ k := by decide) (hg : Gl X x := by rfl) (hdb : (x == ("__debug__" : Str)) = false := by decide)
    (he : starEach (e :: es) X.env = (false, eval e X.env) :: starEach es X.env := by rfl) (hpl : (backTo pos (starEach es X.env)).any (·.1) = false := by rfl) : PE X (.Call (.Name x p) (e :: es) [] pos) (rE ⟨X.K, ca⟩ np W (eCall ps.length m f)) := by
  obtain ⟨⟨fa, fd, F, hm, hb, G⟩, nb⟩ := F
  exact de_call nb (G.mono hj) hr hgd hx hg hm F.kp hb ha hdb he hpl
theorem de_atK (F : At X.prog X.w X.K X.mg X.base ca j x st ps m) (hr : Room k X.A) (hgd : X.A.guards = some []) (hx : ∀ σ, PassesAt (L2.CX X.prog X.w) X σ (WE W σ)) (ha : PK X kws (rA ⟨X.K, ca⟩ np W f))
    (hkw : ∀ (kV doc pm : Value) (an : Option Addr) (cdv ct : Value) (ws : List Value), ws.length = ps.length → bindArgs (PySem.W.fnOf x x (defArgs st) (defBody st) (defScope st) .none kV doc pm an cdv ct) ⟨[], ks.zip ws⟩ = pure (ps.zip (permL π ws)))
    (hj : j ≤ k := by decide) (hks : (backToKw pos (keywordEach kws X.env)).filterMap (·.1) = ks := by rfl) (hg : Gl X x := by rfl) (hdb : (x == ("__debug__" : Str)) = false := by decide)
    (hall : (backToKw pos (keywordEach kws X.env)).all (·.1.isSome) = true := by rfl) (hpl : ((backTo pos (starEach [] X.env)).any (·.1) || (backToKw pos (keywordEach kws X.env)).any (·.1.isNone)) = false := by rfl) : PE X (.Call (.Name x p) [] kws pos) (rE ⟨X.K, ca⟩ np W (eCallK ps.length m π f)) := by
  obtain ⟨⟨fa, fd, F, hm, hb, G⟩, nb⟩ := F
  exact de_callK nb (G.mono hj) hr hgd hx hg hm F.kp (F.kw hkw) ha hall hks hdb hpl
theorem pass_w0 : ∀ σ, PassesAt (L2.CX X.prog X.w) X σ (WE W0 σ) := fun σ _ _ _ _ _ _ c => by
  obtain ⟨_, _, _, _, _, _, _, _, _, _, _, _, z⟩ := c
  exact z.elim
end
section
variable {P : Program} {w : World} {K : PySem.W.Frag} {mg : Str → Option Value} {base : Heap} {ca : Str → Addr}
theorem at_mirror {x : Str} {st : Stmt} {N ps : List Str} {k nl : Nat} {f : List Cell → SR} (hF : ∃ (fa : Addr) (fd : FuncData), FunN K x st fa fd ∧ mg x = some (.ref fa)) (S : FnScope N ps (defScope st)) (hn : N.length = ps.length + nl)
    (hb : ∀ (kV doc pm : Value) (an : Option Addr) (cdv ct : Value) (us : List Value), us.length = ps.length → bindArgs (PySem.W.fnOf x x (defArgs st) (defBody st) (defScope st) .none kV doc pm an cdv ct) ⟨us, []⟩ = pure (ps.zip us))
    (go : ∀ (fa : Addr) (cdv : Value) (A : Around) (outer : List Env) (s : Shared) (H : Hp) (E : XK), Room k (bodyX P w K mg base N x st fa cdv A outer s H E).A → (bodyX P w K mg base N x st fa cdv A outer s H E).A.guards = some [] →
      Takes (bodyX P w K mg base N x st fa cdv A outer s H E) (wx E) → PSs (bodyX P w K mg base N x st fa cdv A outer s H E) (defBody st) (rS ⟨K, ca⟩ ps.length (wx E) f)) : At P w K mg base ca (k + 1) x st ps (callM nl f) := by
  obtain ⟨fa, fd, F, hm⟩ := hF
  exact ⟨⟨fa, fd, F, hm, F.bindsN hb, fnG_mirror F.fun_ S hn (go fa)⟩, callM_nobw⟩
theorem At.mono {x : Str} {st : Stmt} {ps : List Str} {j k : Nat} {m : List Cell → ER} (F : At P w K mg base ca j x st ps m) (h : j ≤ k) : At P w K mg base ca k x st ps m := by
  obtain ⟨⟨fa, fd, F, hm, hb, G⟩, nb⟩ := F
  exact ⟨⟨fa, fd, F, hm, hb, G.mono h⟩, nb⟩
/-- a def of which nothing is asked: its mirror says nothing -/
theorem at_none {x : Str} {st : Stmt} {ps : List Str} {k : Nat} (hF : ∃ (fa : Addr) (fd : FuncData), FunN K x st fa fd ∧ mg x = some (.ref fa))
    (hb : ∀ (kV doc pm : Value) (an : Option Addr) (cdv ct : Value) (us : List Value), us.length = ps.length → bindArgs (PySem.W.fnOf x x (defArgs st) (defBody st) (defScope st) .none kV doc pm an cdv ct) ⟨us, []⟩ = pure (ps.zip us)) : At P w K mg base ca k x st ps fun _ => .bad := by
  obtain ⟨fa, fd, F, hm⟩ := hF
  refine ⟨⟨fa, fd, F, hm, F.bindsN hb, ⟨fun vs H Q E h => h.1, fun A outer s H args us vs Q E _ _ _ _ _ h => ?_⟩⟩, fun as c os h => nomatch h⟩
  obtain ⟨_, cs, G, _, h⟩ := h
  exact h.elim
end

/-! ### the end of a law -/
open PyProof.Rows in
theorem end_call {P : Program} {w : World} {K : PySem.W.Frag} {mg mb : Str → Option Value} {ca : Str → Addr} {k : Nat} {a : Addr} {x y : Str} {st : Stmt} {fa : Addr} {m : List Cell → ER} {t : Shared} {vs : List Value} {ns : List Int} (KX : K.In t.heap) (hns : t.heap.Ns mainGlobals mg) (hb : t.heap.Ns builtinsNs mb)
    (hbb : ∀ x : Str, x ≠ "__name__" → mb x = bootBuiltins x) (hlim : t.heap.NoLimit) (hg : t.gens = #[]) (ha : t.heap.get? a = some { cls := .type "list", data := .seq vs.toArray }) (hi : PyProof.Rows.IntsAre vs ns) (hl : ns.length ≤ sizeLine) (hr : Room k callerA) (hm : mg x = some (.ref fa)) (noL : ∀ b o, K.lookup b = some o → o.cls ≠ .type "list")
    (F : ∀ base : Heap, K.In base → base.Ns mainGlobals mg → At P w K mg base ca k x st [y] m) (hsp : ∃ cs, m [.da (.list (ns.map PyData.int))] = .val (.da (.bool true)) cs) :
    codeAny (model P w) callerA (.call (.ref fa) ⟨[.ref a], []⟩) (fun r s' => r = .ok (.ret (.bool true)) ∧ OldK t.heap s'.heap ∧ s'.os = t.os ∧ AllBare s'.gens) t := by
  have lenV := hi.length
  have go : ∀ H : Hp, (∀ b u, H b = some u → b = a ∧ u = .frz { cls := .type "list", data := .seq vs.toArray } (.lst (ns.map V.int))) → (H a ≠ none → K.lookup a = none) → HOk P w H t.heap → Tp K H (.ref a) (.list (ns.map PyData.int)) →
      codeAny (model P w) callerA (.call (.ref fa) ⟨[.ref a], []⟩) (fun r s' => r = .ok (.ret (.bool true)) ∧ OldK t.heap s'.heap ∧ s'.os = t.os ∧ AllBare s'.gens) t := by
    intro H only off hok tp
    -- the ground: all but what is tracked
    have keepG : ∀ {b : Addr} {o : Obj}, t.heap.get? b = some o → H b = none → (hidT t.heap H).get? b = some o := fun e n => hidT_get e n
    have nsG : ∀ {b : Addr} {m : Str → Option Value}, t.heap.Ns b m → (hidT t.heap H).Ns b m := fun {b m} ⟨o, es, ep, e, d, r⟩ => by
      refine ⟨o, es, ep, keepG e ?_, d, r⟩
      cases q : H b with
      | none => rfl
      | some u =>
        obtain ⟨rfl, _⟩ := only b u q
        rw [ha] at e
        cases e
        cases d
    have inG : K.In (hidT t.heap H) := fun b o e => keepG (KX b o e) (by
      cases q : H b with
      | none => rfl
      | some u =>
        obtain ⟨rfl, _⟩ := only b u q
        rw [off (by rw [q]; simp)] at e
        cases e)
    have modG : L2.Mod K mg (hidT t.heap H) := ⟨inG, nsG hns, ⟨mb, nsG hb, hbb⟩, let ⟨mc, h1, h2⟩ := hlim; ⟨mc, nsG h1, h2⟩⟩
    have env : Env0 P w K mg (hidT t.heap H) callerA [] t H := ⟨rfl, modG, fun b o e => of_hidT e, Nat.le_of_eq (hidT_size _ _), trivial, (fun b hb => nomatch hb), hok, .of_eq hg⟩
    obtain ⟨⟨f', fd, FN, hm', bd, Fg⟩, _⟩ := F _ inG (nsG hns)
    rw [hm] at hm'
    cases hm'
    have bt := bd t [.ref a] KX rfl
    obtain ⟨cs, em⟩ := hsp
    have prom : spM ⟨K, ca⟩ 1 m [.ref a] H (fun v _ => v = .bl true) fun _ _ _ => False := by
      refine ⟨rfl, [.da (.list (ns.map PyData.int))], H, ⟨rfl, .refl H, fun i c hc => ?_, fun i j hc => ?_, fun i j p ci cj hij h1 h2 h3 => ?_⟩, ?_⟩
      · cases i with
        | zero => cases hc; exact ⟨.ref a, rfl, tp⟩
        | succ i => simp at hc
      · cases i with
        | zero => cases hc
        | succ i => simp at hc
      · cases i with
        | zero => cases h1; cases h3
        | succ i => simp at h1
      · rw [em]
        intro G' H' v n R x
        obtain ⟨w, e, t⟩ := x.1
        cases e
        cases t
        rfl
    refine codeAny_mono (Fg.run callerA [] t H ⟨[.ref a], []⟩ [.ref a] [.ref a] _ _ hr rfl env (by simpa using bt) (.cons rfl .nil) prom) fun r s' h => ?_
    match r, h with
    | .error e, h =>
      obtain ⟨_, _, _, _, _, _, _, _, _, _, _, _, z⟩ := h
      exact z.elim
    | .ok (.ret u), h =>
      obtain ⟨v, H', os, bare, un, hok', r', q⟩ := h
      subst q
      cases r'
      refine ⟨rfl, OldK.of_keep fun b o e => ?_, os, bare⟩
      cases q : H b with
      | none => exact un.keep b o e q (fun z => nomatch z) (by simp)
      | some u =>
        obtain ⟨rfl, rfl⟩ := only b u q
        have h2 := hok' b _ (un.frzs b _ _ q)
        rw [ha] at e
        cases e
        exact h2.1
  cases kl : K.lookup a with
  | some o =>
    have e := KX a o kl
    rw [ha] at e
    cases e
    exact absurd rfl (noL a _ kl)
  | none =>
    refine go (fun b => if b = a then some (.frz { cls := .type "list", data := .seq vs.toArray } (.lst (ns.map V.int))) else none) (fun b u e => ?_) (fun _ => kl) (fun b u e => ?_) (.lst (.inr ⟨_, if_pos rfl⟩) tpAll_of_ints)
    · by_cases h : b = a
      · have z := (if_pos h).symm.trans e
        cases z
        exact ⟨h, rfl⟩
      · have z := (if_neg h).symm.trans e
        cases z
    · by_cases h : b = a
      · have z := (if_pos h).symm.trans e
        cases z
        subst h
        exact ⟨ha, by rw [List.length_map]; exact hl, vs, _, vals_ints hi, ha⟩
      · have z := (if_neg h).symm.trans e
        cases z
end TL
set_option Elab.async false
set_option linter.all false
set_option maxRecDepth 100000
set_option maxHeartbeats 4000000
/-! TL16: short words for printed walks; facts of classes as tables. -/
namespace TL
open PySem L2

def pSum : List D → Option Cell := pInts fun ns => some (.da (.int ns.sum))
def pMax1 : List D → Option Cell := pInts fun ns => if 0 < ns.length then some (.da (.int (lMax ns))) else none
def pAll : List D → Option Cell := pBools fun ns => some (.da (.bool (ns.all id)))
def pAny : List D → Option Cell := pBools fun ns => some (.da (.bool (ns.any id)))
def pSorted : List D → Option Cell := pInts fun ns => some (.ol ((sortI ns).map PyData.int))
def pGcd : List D → Option Cell := pInt2 fun a b => ((Nat.gcd a.natAbs b.natAbs : Nat) : Int)
def fMax2 : Int → Int → Int := fun i j => if j > i then j else i
def fMin2 : Int → Int → Int := fun i j => if j < i then j else i
def eJoin (f g : List Cell → ER) (cs : List Cell) : ER := (f cs).bind fun a cs1 => match a with
  | .da (.str x) => (g cs1).bind fun b cs2 => k2 pJoin (.da (.str x)) b cs2
  | _ => .bad

/-! ### facts of classes -/
/-- what a class with this name answers -/
def tab (l : List (Str × Bool)) (nm : Str) : Option Bool := l.lookup nm
theorem tab_at : ∀ {l : List (Str × Bool)} {nm : Str} {b : Bool}, tab l nm = some b → (nm, b) ∈ l
  | [], _, _, h => by cases h
  | (x, c) :: l, nm, b, h => by
    unfold tab at h
    rw [List.lookup_cons] at h
    split at h
    · rename_i e
      cases h
      rw [eq_of_beq e]
      exact List.mem_cons_self
    · exact List.mem_cons_of_mem _ (tab_at h)
def excB (K : PySem.W.Frag) (D : Addr) : Bool :=
  decide (PySem.W.findIn K (.ref D) "__getattribute__" = some (some (.builtin "BaseException.__getattribute__"))) && decide (PySem.W.findIn K (.ref D) "__getattr__" = some none) && decide (PySem.W.subIn K (.ref D) (.type "BaseException") = some true) && PySem.W.hasDictIn K D &&
  decide (PySem.W.findIn K (.ref D) "__class__" = some (some (.builtin "object.__class__"))) && decide (PySem.W.specialIn K (.builtin "object.__class__") "__get__" = some (some (.builtin "getset_descriptor.__get__"))) && decide (PySem.W.takesIn K (.builtin "object.__class__") = some true) && decide (PySem.W.mroIn K D (.type "object") = some true)
theorem excB_ok {K : PySem.W.Frag} {D : Addr} (h : excB K D = true) : ExcC K D := by
  unfold excB at h
  simp only [Bool.and_eq_true, decide_eq_true_eq] at h
  obtain ⟨⟨⟨⟨⟨⟨⟨h1, h2⟩, h3⟩, h4⟩, h5⟩, h6⟩, h7⟩, h8⟩ := h
  exact ⟨h1, h2, h3, h4, h5, h6, h7, h8⟩
/-- isinstance(e, y) by the names of the classes that come -/
def isiB (K : PySem.W.Frag) (l : List (Str × Bool)) (u : Value) : Bool := l.all fun p => excB K (He.ga K p.1) && decide (PySem.W.kitOne K (.ref (He.ga K p.1)) u = some p.2)
theorem isiB_ok {K : PySem.W.Frag} {l : List (Str × Bool)} {u : Value} (h : isiB K l u = true) : ∀ nm b, tab l nm = some b → ExcC K (He.ga K nm) ∧ PySem.W.kitOne K (.ref (He.ga K nm)) u = some b := fun nm b e => by
  have q := List.all_eq_true.mp h _ (tab_at e)
  simp only [Bool.and_eq_true, decide_eq_true_eq] at q
  exact ⟨excB_ok q.1, q.2⟩
def exmB (K : PySem.W.Frag) (l : List (Str × Bool)) (c : Value) : Bool := l.all fun p => decide (PySem.W.exmOne K (.ref (He.ga K p.1)) c = some p.2)
theorem exmB_ok {K : PySem.W.Frag} {l : List (Str × Bool)} {c : Value} (h : exmB K l c = true) : ∀ nm b, tab l nm = some b → PySem.W.exmOne K (.ref (He.ga K nm)) c = some b := fun nm b e => of_decide_eq_true (List.all_eq_true.mp h _ (tab_at e))
/-- no list stands in the written part -/
def noL (K : PySem.W.Frag) : Bool := K.all fun p => match p.2.cls with
  | .type n => n != "list"
  | _ => true
end TL
set_option Elab.async false
set_option linter.all false
set_option maxRecDepth 100000
set_option maxHeartbeats 4000000
/-! TL22: calls that are handed new lists. -/
namespace TL
open PySem L2
/-- data, or a list of one's own -/
def freshC : Cell → Bool
  | .da _ => true
  | .ol _ => true
  | _ => false
def callF (n : Nat) (m : List Cell → ER) (a cs : List Cell) : ER := if a.length = n ∧ a.all freshC = true then (match m a with
  | .val c _ => .val c cs
  | .err e _ => .err e cs
  | .bad => .bad) else .bad
/-- f(..), the arguments new lists or data: the lists are the def's own then -/
def eCallF (n : Nat) (m : List Cell → ER) (f : List Cell → AR) (cs : List Cell) : ER := (f cs).toE fun a cs1 => callF n m a cs1
section
variable {T : Th} {np np' : Nat} {σ : St} {cs cs0 a os : List Cell} {G G' G0 H H' H0 : Hp} {vs : List V}
theorem ownV_at {p : Addr} : ∀ {a : List Cell} {vs : List V} {k : Nat} {c : Cell}, a[k]? = some c → c.own = true → vs[k]? = some (.ref p) → OwnV a vs p
  | [], _, k, c, h, _, _ => by simp at h
  | _ :: _, [], k, c, _, _, h => by simp at h
  | x :: r, v :: vs, 0, c, h1, h2, h3 => by
    simp at h1 h3
    subst h1 h3
    exact .inl ⟨h2, rfl⟩
  | x :: r, v :: vs, k + 1, c, h1, h2, h3 => .inr (ownV_at (k := k) (by simpa using h1) h2 (by simpa using h3))
theorem VAts.apart {p : Addr} : ∀ {a : List Cell} {vs : List V} {i j : Nat} {ci cj : Cell}, VAts T σ cs G H0 H a vs → i ≠ j → a[i]? = some ci → a[j]? = some cj → ci.own = true → cj.own = true → vs[i]? = some (.ref p) → vs[j]? ≠ some (.ref p)
  | [], _, i, j, ci, cj, _, _, h, _, _, _, _ => by simp at h
  | _ :: _, [], i, j, ci, cj, h, _, _, _, _, _, _ => h.elim
  | x :: r, v :: vs, 0, 0, ci, cj, _, h, _, _, _, _, _ => absurd rfl h
  | x :: r, v :: vs, 0, j + 1, ci, cj, h, _, h1, h2, h3, h4, h5 => fun h6 => by
    simp at h1 h5
    subst h1
    exact h.2.2 h3 p h5 (ownV_at (k := j) (by simpa using h2) h4 (by simpa using h6))
  | x :: r, v :: vs, i + 1, 0, ci, cj, h, _, h1, h2, h3, h4, h5 => fun h6 => by
    simp at h2 h6
    subst h2
    exact h.2.2 h4 p h6 (ownV_at (k := i) (by simpa using h1) h3 (by simpa using h5))
  | x :: r, v :: vs, i + 1, j + 1, ci, cj, h, hij, h1, h2, h3, h4, h5 => fun h6 =>
    VAts.apart (i := i) (j := j) h.2.1 (by omega) (by simpa using h1) (by simpa using h2) h3 h4 (by simpa using h5) (by simpa using h6)
theorem fresh_at {k : Nat} {c : Cell} (ha : a.all freshC = true) (h : a[k]? = some c) : freshC c = true := List.all_eq_true.mp ha c (List.mem_of_getElem? h)
theorem fresh_in (R : SRel T σ cs G H) (va : VAts T σ cs G H0 H a vs) (ha : a.all freshC = true) : SRel T (sl vs) a G H ∧ ∀ p, Own (sl vs) a p → ¬ Own σ cs p ∧ H0 p = none := by
  have slot : ∀ {k : Nat} {v : V}, (sl vs)[k]? = some (some v) → vs[k]? = some v := fun {k v} h => by
    rw [List.getElem?_map] at h
    obtain ⟨x, e, h⟩ := Option.map_eq_some_iff.mp h
    cases h
    exact e
  refine ⟨⟨by rw [List.length_map, va.len], R.ex, fun k c hc => ?_, fun k j hc => ?_, fun i j p ci cj hij h1 h2 h3 h4 h5 h6 => ?_⟩, fun p ⟨k, c, h1, h2, h3⟩ => ?_⟩
  · obtain ⟨v, ev, x⟩ := va.at hc
    have e : (sl vs)[k]? = some (some v) := by rw [List.getElem?_map, ev]; rfl
    rw [e]
    exact cat_slots x.1 fun j z => by have := fresh_at ha hc; rw [z] at this; cases this
  · have := fresh_at ha hc
    cases this
  · exact va.apart hij h1 h2 h3 h4 (slot h5) (slot h6)
  · obtain ⟨v, ev, x⟩ := va.at h1
    have e := slot h3
    rw [ev] at e
    cases e
    exact x.2 h2 p rfl
theorem fresh_back (n1 : Nxt np σ cs0 G0 H0 σ cs G H) (R : SRel T σ cs G H) (va : VAts T σ cs G H0 H a vs) (ha : a.all freshC = true) (n : Nxt np' (sl vs) a G H (sl vs) os G' H') (R' : SRel T (sl vs) os G' H') : Nxt np σ cs0 G0 H0 σ cs G' H' ∧ SRel T σ cs G' H' := by
  obtain ⟨R0, ow⟩ := fresh_in R va ha
  refine ⟨⟨n1.ex.trans n.ex, fun p h1 h2 => ?_, fun p o h1 h2 => n.keep p o (n1.keep p o h1 h2) fun z => ?_, n1.own, fun p h => n.dom p (n1.dom p h), n1.par⟩, ⟨R.len, R'.ex, fun i c hc => ?_, R.nobw, R.sep⟩⟩
  · by_cases e : G p = none
    · rcases n.new p e h2 with h | h
      · exact .inl (n1.back h)
      · exact .inl (ow p h).2
    · exact n1.new p h1 e
  · have := (ow p z).2
    rw [h1] at this
    cases this
  · have t := R.at_ i c hc
    cases c with
    | un => trivial
    | da d => obtain ⟨v, ev, t⟩ := t; exact ⟨v, ev, tp_mono n.ex d v t⟩
    | bw l => exact t
    | ex nm => obtain ⟨q, eq, t⟩ := t; exact ⟨q, eq, n.ex _ _ t⟩
    | ol ds =>
      obtain ⟨p, us, ep, gp, hp, kk⟩ := t
      have no : ¬ Own (sl vs) a p := fun z => (ow p z).1 ⟨i, _, hc, rfl, ep⟩
      refine ⟨p, us, ep, ?_, n.keep p _ hp no, tpAll_mono n.ex ds us kk⟩
      cases z : G' p with
      | none => rfl
      | some o =>
        rcases n.new p gp (by rw [z]; simp) with q | q
        · rw [hp] at q; cases q
        · exact absurd q no
end
section
variable {X : Cx} {k : Nat} {f : Addr} {fd : FuncData} {ps ks : List Str} {W : WX} {x : Str} {p pos : Pos} {e : Expr} {es : List Expr} {np : Nat} {m : List Cell → ER} {fa : List Cell → AR}
theorem callF_ok {T : Th} {np np' : Nat} {W : WX} {m : List Cell → ER} {σ : St} {cs cs0 a : List Cell} {G G0 H H0 : Hp} {vs : List V} {Q : VK} (hm : ∀ as c os, m as = .val c os → ∀ j, c ≠ .bw j) (n1 : Nxt np σ cs0 G0 H0 σ cs G H) (R : SRel T σ cs G H) (va : VAts T σ cs G H0 H a vs) (g : EGood T np W Q σ cs0 G0 H0 (callF np' m a cs)) :
    spM T np' m vs H Q (WE W σ) := by
  unfold callF at g
  by_cases ha : a.length = np' ∧ a.all freshC = true
  case neg => rw [if_neg ha] at g; exact g.elim
  rw [if_pos ha] at g
  refine ⟨va.len.trans ha.1, a, G, (fresh_in R va ha.2).1, ?_⟩
  cases em : m a with
  | bad => simp only [em] at g; exact g.elim
  | val c os =>
    simp only [em] at g
    intro G' H' v n R' y
    obtain ⟨n2, R2⟩ := fresh_back n1 R va ha.2 n R'
    refine g G' H' v n2 R2 ⟨cat_slots y.1 (hm a c os em), fun ho p ep => ⟨fun z => ?_, n1.back (y.2 ho p ep).2⟩⟩
    exact (R.own_no z).2 (y.2 ho p ep).2
  | err er os =>
    simp only [em] at g
    intro G' H' d n R' y
    obtain ⟨n2, R2⟩ := fresh_back n1 R va ha.2 n R'
    exact g G' H' d n2 R2 y
theorem de_callF {ca : Str → Addr} (hm' : ∀ as c os, m as = .val c os → ∀ j, c ≠ .bw j) (F : FnG X.prog X.w X.K X.mg X.base k f fd ps (spM ⟨X.K, ca⟩ ps.length m)) (hr : Room k X.A) (hgd : X.A.guards = some []) (hx : ∀ σ, PassesAt (L2.CX X.prog X.w) X σ (WE W σ)) (hg : Gl X x) (hm : X.mg x = some (.ref f)) (hk : PySem.W.keepIn X.K (.ref f) = true) (hb : Binds X.K fd ps [])
    (ha : PA X (e :: es) (rA ⟨X.K, ca⟩ np W fa)) (hdb : (x == ("__debug__" : Str)) = false := by decide) (he : starEach (e :: es) X.env = (false, eval e X.env) :: starEach es X.env := by rfl)
    (hpl : (backTo pos (starEach es X.env)).any (·.1) = false := by rfl) : PE X (.Call (.Name x p) (e :: es) [] pos) (rE ⟨X.K, ca⟩ np W (eCallF ps.length m fa)) := by
  refine ⟨fun pins s σ H Q I ⟨cs, G, R, h⟩ => ?_⟩
  refine wpAny_Call_Name_kw (ld_glob I hg hm ?_ hdb)
  have step : rA ⟨X.K, ca⟩ np W fa σ H fun vs H1 => spM ⟨X.K, ca⟩ ps.length m vs H1 Q (WE W σ) := rA_run R (AGood.ofE h .refl fun a cs1 G1 H1 vs n1 R1 a1 h1 => callF_ok hm' n1 R1 a1 h1)
  refine PySem.W.callWith_K (h₀ := X.base) I.ok.mod.kin hk (thn (ha.run pos pins s σ H _ I step) fun us s1 ⟨vs, H1, I1, r, q⟩ => ⟨I1.kIn, ?_⟩) he hpl
  have b := hb s1 us I1.kIn (by rw [List.append_nil, ← r.length]; exact q.1)
  rw [List.append_nil] at b
  exact run_g F hr hgd (hx σ) b I1 r q
theorem de_atF {ca : Str → Addr} {j : Nat} {st : Stmt} {fb : List Cell → AR} (F : At X.prog X.w X.K X.mg X.base ca j x st ps m) (hr : Room k X.A) (hgd : X.A.guards = some []) (hx : ∀ σ, PassesAt (L2.CX X.prog X.w) X σ (WE W σ)) (ha : PA X (e :: es) (rA ⟨X.K, ca⟩ np W fb)) (hj : j ≤ k := by decide) (hg : Gl X x := by rfl) (hdb : (x == ("__debug__" : Str)) = false := by decide)
    (he : starEach (e :: es) X.env = (false, eval e X.env) :: starEach es X.env := by rfl) (hpl : (backTo pos (starEach es X.env)).any (·.1) = false := by rfl) : PE X (.Call (.Name x p) (e :: es) [] pos) (rE ⟨X.K, ca⟩ np W (eCallF ps.length m fb)) := by
  obtain ⟨⟨fa, fd, F, hm, hb, G⟩, nb⟩ := F
  exact de_callF nb (G.mono hj) hr hgd hx hg hm F.kp hb ha hdb he hpl
end
end TL
set_option Elab.async false
set_option linter.all false
set_option maxRecDepth 100000
set_option maxHeartbeats 4000000
/-! TL17: a law's head over the layer. -/
namespace TL
open PySem L2
theorem lookup_mem {α : Type} : ∀ {l : List (Addr × α)} {a : Addr} {o : α}, l.lookup a = some o → (a, o) ∈ l
  | [], _, _, h => by cases h
  | (b, u) :: l, a, o, h => by
    rw [List.lookup_cons] at h
    split at h
    · rename_i e
      cases h
      rw [eq_of_beq e]
      exact List.mem_cons_self
    · exact List.mem_cons_of_mem _ (lookup_mem h)
theorem noL_ok {K : PySem.W.Frag} (h : noL K = true) : ∀ b o, K.lookup b = some o → o.cls ≠ .type "list" := fun b o e z => by
  have q := List.all_eq_true.mp h (b, o) (lookup_mem e)
  simp only [z] at q
  exact absurd q (by decide)
theorem xc_of {K : PySem.W.Frag} {mg : Str → Option Value} {x : Str} (hm : mg x = some (.ref (He.ga K x))) (c : (He.Fa.exc x).ok K = true) : XC K mg x (He.ga K x) := by
  obtain ⟨c1, c2, c3, c4⟩ := He.exc_ok c
  exact ⟨⟨_, _, _, _, PySem.F.excBase_ValueError, c1⟩, hm, c2, fun X e => raises_own (by rw [e]; exact c3) (by rw [e]; exact c4)⟩
abbrev dd (x : Str) (st : Stmt) : He.DefD := ⟨(x, none), x, x, defArgs st, defBody st, defScope st, [], []⟩
theorem fun_of {fa : List He.Fa} {fn : List He.DefD} {K : PySem.W.Frag} {h : Heap} {mg : Str → Option Value} (X : K.In h) (G : h.Ns mainGlobals mg) (c : He.SaysD fa fn K) {x : Str} {st : Stmt} (i j : Nat) (h1 : fn[i]? = some (dd x st) := by rfl) (h2 : fa[j]? = some (.glo x) := by rfl) :
    ∃ (f : Addr) (fd : FuncData), FunN K x st f fd ∧ mg x = some (.ref f) := by
  obtain ⟨fd, F⟩ := c.def_ i (d := dd x st) h1
  exact ⟨_, fd, F, He.glo_ok X G (c.fact j h2)⟩
/-- a fact of the module's own names that the hook's Bool tells -/
theorem glob_of {K : PySem.W.Frag} {h : Heap} {mg : Str → Option Value} (X : K.In h) (G : h.Ns mainGlobals mg) {x : Str} {v : Value} (c : He.eqO (PySem.W.nsIn K mainGlobals x) (some (some v)) = true) : mg x = some v := PySem.W.mg_of X G (He.eqO_ok c)
theorem walk_tl {l : PySem.W.OpenLaw} {n k : Nat} {q : Program} {loose : List Str} {XP : (Str → Option Value) → Heap → Prop} {YP : World → Heap → Prop} {d : DefRec} {y : Str} {m : List Cell → ER} {st : Stmt} (hn : l.most = some n) (hn2 : n ≤ sizeLine) (hdf : d.params.defaults = []) (hr : Room k callerA)
    (F : ∀ (w : World) (mg : Str → Option Value) (h : Heap), YP w h → h.Ns mainGlobals mg → ∃ (K : PySem.W.Frag), K.In h ∧ noL K = true ∧ ∀ base : Heap, K.In base → base.Ns mainGlobals mg → At l.prog w K mg base (He.ga K) k d.name st [y] m)
    (hm : ∀ ns : List Int, ns.length ≤ n → ∃ cs, m [.da (.list (ns.map PyData.int))] = .val (.da (.bool true)) cs) : PySem.W.WalkO q loose XP YP l.row.toRowW d [] (fun f vs => PySem.call f vs) := by
  refine Att.attach_call hn hdf fun w s₀ t mg mb fa o pm cd doc a vs ns G Y ho hd hcd hmg hobj hints hlen hg => ?_
  obtain ⟨K, KX, nl, hF⟩ := F w mg _ Y G.T.g
  exact end_call KX G.T.g G.T.b G.T.builtins G.T.nolimit hg hobj hints (Nat.le_trans hlen hn2) hr hmg (noL_ok nl) hF (hm ns hlen)
/-- the same over the head that k_head lays (it serves imports) -/
theorem walk_tlK {l : PySem.W.OpenLaw} {n k : Nat} {q : Program} {loose : List Str} {XP : (Str → Option Value) → Heap → Prop} {YP : World → Heap → Prop} {d : DefRec} {K : Params → PySem.W.Frag} {y : Str} {m : List Cell → ER} {st : Stmt} (hn : l.most = some n) (hn2 : n ≤ sizeLine) (hdf : d.params.defaults = []) (hr : Room k callerA)
    (hY : ∀ (w : World) (h : Heap), YP w h → (K w.params).In h) (nl : ∀ P : Params, noL (K P) = true)
    (F : ∀ (w : World) (mg : Str → Option Value) (base : Heap), (K w.params).In base → base.Ns mainGlobals mg → At l.prog w (K w.params) mg base (He.ga (K w.params)) k d.name st [y] m)
    (hm : ∀ ns : List Int, ns.length ≤ n → ∃ cs, m [.da (.list (ns.map PyData.int))] = .val (.da (.bool true)) cs) : PySem.W.WalkO q loose XP YP l.row.toRowW d [] (fun f vs => PySem.call f vs) :=
  walk_tl (l := l) hn hn2 hdf hr (fun w mg h Y G => ⟨K w.params, hY w h Y, nl w.params, fun base X1 G1 => F w mg base X1 G1⟩) hm
end TL
set_option Elab.async false
set_option linter.all false
set_option maxRecDepth 100000
set_option maxHeartbeats 4000000
/-! TL18: reckoning with mirrors. -/
namespace TL
open PySem L2
@[simp] theorem setC_da (np i : Nat) (d : D) (cs : List Cell) : setC np i (.da d) cs = if canSet np i cs = true then .nx (cs.set i (.da d)) else .bad := rfl
@[simp] theorem setC_ol (np i : Nat) (d : List D) (cs : List Cell) : setC np i (.ol d) cs = if canSet np i cs = true then .nx (cs.set i (.ol d)) else .bad := rfl
@[simp] theorem setC_ex (np i : Nat) (n : Str) (cs : List Cell) : setC np i (.ex n) cs = if canSet np i cs = true then .nx (cs.set i (.ex n)) else .bad := rfl
theorem canSet_eq (np i : Nat) (cs : List Cell) : canSet np i cs = (decide (np ≤ i) || !(match cs[i]? with
  | some c => c.own
  | none => false)) := rfl
@[simp] theorem own_da (d : D) : Cell.own (.da d) = false := rfl
@[simp] theorem own_un : Cell.own .un = false := rfl
@[simp] theorem own_ex (n : Str) : Cell.own (.ex n) = false := rfl
@[simp] theorem own_ol (d : List D) : Cell.own (.ol d) = true := rfl
@[simp] theorem tU_bool {f : List Cell → ER} {cs cs1 : List Cell} {b : Bool} (h : f cs = .val (.da (.bool b)) cs1) : tU f cs = .val b cs1 := by
  unfold tU
  rw [h]
  rfl
theorem whileN_go {t : List Cell → TR} {f : List Cell → SR} {n : Nat} {cs cs1 cs2 : List Cell} (h : t cs = .val true cs1) (h2 : f cs1 = .nx cs2) : whileN t f (n + 1) cs = whileN t f n cs2 := by
  rw [whileN, h, TR.toS_val, if_pos rfl]
  simp only [h2]
theorem whileN_end {t : List Cell → TR} {f : List Cell → SR} {n : Nat} {cs cs1 : List Cell} (h : t cs = .val false cs1) : whileN t f (n + 1) cs = .nx cs1 := by
  rw [whileN, h]
  rfl
/-- a loop of greatest common divisors -/
theorem euclid {t : List Cell → TR} {f : List Cell → SR} (h1 : ∀ a b : Nat, 0 < b → t [.da (.int a), .da (.int b)] = .val true [.da (.int a), .da (.int b)]) (h0 : ∀ a : Nat, t [.da (.int a), .da (.int 0)] = .val false [.da (.int a), .da (.int 0)])
    (hf : ∀ a b : Nat, 0 < b → f [.da (.int a), .da (.int b)] = .nx [.da (.int b), .da (.int ((a % b : Nat) : Int))]) (a b : Nat) : sWhile t f [.da (.int a), .da (.int b)] = .nx [.da (.int (Nat.gcd a b)), .da (.int 0)] := by
  have go : ∀ n a b : Nat, b < n → whileN t f n [.da (.int a), .da (.int b)] = .nx [.da (.int (Nat.gcd a b)), .da (.int 0)] := by
    intro n
    induction n with
    | zero => intro a b h; omega
    | succ n ih =>
      intro a b h
      by_cases hb : b = 0
      · subst hb
        rw [Nat.gcd_zero_right]
        exact whileN_end (h0 a)
      · have hb : 0 < b := Nat.pos_of_ne_zero hb
        rw [whileN_go (h1 a b hb) (hf a b hb), ih b (a % b) (Nat.lt_of_lt_of_le (Nat.mod_lt _ hb) (by omega)), Nat.gcd_comm b, ← Nat.gcd_rec, Nat.gcd_comm]
  exact sWhile_eq (go (b + 1) a b (Nat.lt_succ_self b)) fun z => nomatch z
theorem forGo_nx {tgt : D → List Cell → Option (List Cell)} {body : List Cell → SR} {d : D} {ds : List D} {cs cs1 cs2 : List Cell} (h1 : tgt d cs = some cs1) (h2 : body cs1 = .nx cs2) : forGo tgt body (d :: ds) cs = forGo tgt body ds cs2 := by
  rw [forGo, h1]
  simp only [h2]
@[simp] theorem forGo_nil (tgt : D → List Cell → Option (List Cell)) (body : List Cell → SR) (cs : List Cell) : forGo tgt body [] cs = .nx cs := rfl
theorem abs_int (i : Int) : (if i < 0 then -i else i) = ((i.natAbs : Nat) : Int) := by split <;> omega
/-! ### loops -/
theorem forGo_fold {β : Type} {tgt : D → List Cell → Option (List Cell)} {body : List Cell → SR} (cell : β → List Cell) (step : β → D → β) : ∀ (ds : List D) (b : β), (∀ b, ∀ d ∈ ds, ∃ cs1, tgt d (cell b) = some cs1 ∧ body cs1 = .nx (cell (step b d))) → forGo tgt body ds (cell b) = .nx (cell (ds.foldl step b))
  | [], _, _ => rfl
  | d :: ds, b, h => by
    obtain ⟨cs1, h1, h2⟩ := h b d List.mem_cons_self
    rw [forGo_nx h1 h2]
    exact forGo_fold cell step ds (step b d) fun b d hd => h b d (List.mem_cons_of_mem _ hd)
/-- the same, where what holds of the state is kept -/
theorem forGo_inv {tgt : D → List Cell → Option (List Cell)} {body : List Cell → SR} (I : List D → List Cell → Prop) : ∀ (ds pre : List D) (cs : List Cell), I pre cs → (∀ pre d cs, I pre cs → d ∈ ds → ∃ cs1 cs2, tgt d cs = some cs1 ∧ body cs1 = .nx cs2 ∧ I (pre ++ [d]) cs2) → ∃ cs', forGo tgt body ds cs = .nx cs' ∧ I (pre ++ ds) cs'
  | [], pre, cs, h0, _ => ⟨cs, rfl, by rw [List.append_nil]; exact h0⟩
  | d :: ds, pre, cs, h0, h => by
    obtain ⟨cs1, cs2, h1, h2, h3⟩ := h pre d cs h0 List.mem_cons_self
    obtain ⟨cs', e, hI⟩ := forGo_inv I ds (pre ++ [d]) cs2 h3 fun pre d cs hi hd => h pre d cs hi (List.mem_cons_of_mem _ hd)
    exact ⟨cs', by rw [forGo_nx h1 h2]; exact e, by rw [List.append_assoc] at hI; exact hI⟩
theorem lcGo_yes {vs : List Nat} {tgt : D → List Cell → Option (List Cell)} {tt : List Cell → TR} {f : List Cell → ER} {d e : D} {ds : List D} {cs cs1 cs2 cs3 : List Cell} (h1 : tgt d cs = some cs1) (h2 : tt cs1 = .val true cs2) (h3 : f cs2 = .val (.da e) cs3) :
    lcGo vs tgt tt f (d :: ds) cs = (lcGo vs tgt tt f ds (wipeC cs3 vs)).map fun r => (e :: r.1, r.2) := by
  rw [lcGo, h1]
  simp only [h2, h3]
theorem lcGo_no {vs : List Nat} {tgt : D → List Cell → Option (List Cell)} {tt : List Cell → TR} {f : List Cell → ER} {d : D} {ds : List D} {cs cs1 cs2 : List Cell} (h1 : tgt d cs = some cs1) (h2 : tt cs1 = .val false cs2) :
    lcGo vs tgt tt f (d :: ds) cs = lcGo vs tgt tt f ds (wipeC cs2 vs) := by
  rw [lcGo, h1]
  simp only [h2]
/-- a comprehension that leaves the cells as they are -/
theorem lcGo_keep {vs : List Nat} {tgt : D → List Cell → Option (List Cell)} {tt : List Cell → TR} {f : List Cell → ER} {p : D → Bool} {g : D → D} {cs : List Cell} : ∀ (ds : List D), (∀ d ∈ ds, ∃ cs1, tgt d cs = some cs1 ∧ wipeC cs1 vs = cs ∧ tt cs1 = .val (p d) cs1 ∧ (p d = true → f cs1 = .val (.da (g d)) cs1)) →
    lcGo vs tgt tt f ds cs = some ((ds.filter p).map g, cs)
  | [], _ => rfl
  | d :: ds, h => by
    obtain ⟨cs1, h1, hw, h2, h3⟩ := h d List.mem_cons_self
    have ih := lcGo_keep ds fun d hd => h d (List.mem_cons_of_mem _ hd)
    cases hp : p d with
    | true =>
      rw [hp] at h2
      rw [lcGo_yes h1 h2 (h3 hp), hw, ih, List.filter_cons_of_pos hp]
      rfl
    | false =>
      rw [hp] at h2
      rw [lcGo_no h1 h2, hw, ih, List.filter_cons_of_neg (by rw [hp]; exact Bool.false_ne_true)]
theorem eLc_keep {vs : List Nat} {src : List Cell → IR} {tgt : D → List Cell → Option (List Cell)} {tt : List Cell → TR} {f : List Cell → ER} {p : D → Bool} {g : D → D} {cs cs1 : List Cell} {ds : List D} (hs : src cs = .val ds cs1) (hz : ds.length ≤ sizeLine)
    (h : ∀ d ∈ ds, ∃ cs2, tgt d (wipeC cs1 vs) = some cs2 ∧ wipeC cs2 vs = wipeC cs1 vs ∧ tt cs2 = .val (p d) cs2 ∧ (p d = true → f cs2 = .val (.da (g d)) cs2)) : eLc vs src tgt tt f cs = .val (.ol ((ds.filter p).map g)) (backC cs1 (wipeC cs1 vs) vs) := by
  unfold eLc
  rw [hs, IR.toE_val, if_pos hz, lcGo_keep ds h]
theorem filter_yes {α : Type} (l : List α) : l.filter (fun _ => true) = l := List.filter_eq_self.mpr fun _ _ => rfl
theorem eLc_map {vs : List Nat} {src : List Cell → IR} {tgt : D → List Cell → Option (List Cell)} {f : List Cell → ER} {g : D → D} {cs cs1 : List Cell} {ds : List D} (hs : src cs = .val ds cs1) (hz : ds.length ≤ sizeLine)
    (h : ∀ d ∈ ds, ∃ cs2, tgt d (wipeC cs1 vs) = some cs2 ∧ wipeC cs2 vs = wipeC cs1 vs ∧ f cs2 = .val (.da (g d)) cs2) : eLc vs src tgt tTrue f cs = .val (.ol (ds.map g)) (backC cs1 (wipeC cs1 vs) vs) := by
  have q := eLc_keep (tt := tTrue) (p := fun _ => true) (g := g) (f := f) (tgt := tgt) hs hz fun d hd => by
    obtain ⟨cs2, a, b, c⟩ := h d hd
    exact ⟨cs2, a, b, rfl, fun _ => c⟩
  rw [q, filter_yes]
@[simp] theorem pAll_map (bs : List Bool) : pAll [.list (bs.map PyData.bool)] = some (.da (.bool (bs.all id))) := by
  show (boolsOf (bs.map PyData.bool)).bind _ = _
  rw [boolsOf_map]
  rfl
@[simp] theorem pAny_map (bs : List Bool) : pAny [.list (bs.map PyData.bool)] = some (.da (.bool (bs.any id))) := by
  show (boolsOf (bs.map PyData.bool)).bind _ = _
  rw [boolsOf_map]
  rfl
@[simp] theorem pMax1_map (ns : List Int) : pMax1 [.list (ns.map PyData.int)] = if 0 < ns.length then some (.da (.int (lMax ns))) else none := by
  show (intsOf (ns.map PyData.int)).bind _ = _
  rw [intsOf_map]
  rfl
@[simp] theorem pSum_map (ns : List Int) : pSum [.list (ns.map PyData.int)] = some (.da (.int ns.sum)) := by
  show (intsOf (ns.map PyData.int)).bind _ = _
  rw [intsOf_map]
  rfl
@[simp] theorem pSortSet_map (ns : List Int) : pSortSet [.list (ns.map PyData.int)] = if (distinct ns).length < 64 then some (.ol ((asc ns).map PyData.int)) else none := by
  show (intsOf (ns.map PyData.int)).bind _ = _
  rw [intsOf_map]
  rfl
theorem trues (ds : List D) : ∃ bs : List Bool, ds.map (fun _ => PyData.bool true) = bs.map PyData.bool ∧ bs.all id = true := ⟨ds.map fun _ => true, by simp, by simp⟩
theorem atI_of {α : Type} (xs : List α) (j : Nat) : atI xs (j : Int) = xs[j]? := by
  unfold atI ixN
  rw [if_pos (Int.natCast_nonneg j)]
  by_cases h : j < xs.length
  · rw [if_pos (by omega), Option.bind_some, Int.toNat_natCast]
  · rw [if_neg (by omega), List.getElem?_eq_none (by omega)]
    rfl
@[simp] theorem atI_0 {α : Type} (xs : List α) : atI xs 0 = xs[0]? := atI_of xs 0
@[simp] theorem atI_1 {α : Type} (xs : List α) : atI xs 1 = xs[1]? := atI_of xs 1
@[simp] theorem atI_2 {α : Type} (xs : List α) : atI xs 2 = xs[2]? := atI_of xs 2
@[simp] theorem atI_3 {α : Type} (xs : List α) : atI xs 3 = xs[3]? := atI_of xs 3
@[simp] theorem atI_end {α : Type} (xs : List α) : atI xs (-1) = xs.getLast? := by
  unfold atI ixN
  rw [if_neg (by decide)]
  by_cases h : 1 ≤ xs.length
  · rw [if_pos (by omega), Option.bind_some, List.getLast?_eq_getElem?]
    congr 1
    omega
  · have e : xs = [] := List.length_eq_zero_iff.mp (by omega)
    subst e
    rw [if_neg (by simp)]
    rfl
theorem forGo_ix' {tgt : D → List Cell → Option (List Cell)} {body : List Cell → SR} {item : Nat → D} (I : Nat → List Cell → Prop) {n : Nat} (h : ∀ i cs, i < n → I i cs → ∃ cs1 cs2, tgt (item i) cs = some cs1 ∧ body cs1 = .nx cs2 ∧ I (i + 1) cs2) :
    ∀ (k s : Nat) (cs : List Cell), s + k = n → I s cs → ∃ cs', forGo tgt body ((List.range' s k).map item) cs = .nx cs' ∧ I n cs'
  | 0, s, cs, e, h0 => ⟨cs, rfl, by rw [← e]; exact h0⟩
  | k + 1, s, cs, e, h0 => by
    obtain ⟨cs1, cs2, h1, h2, h3⟩ := h s cs (by omega) h0
    obtain ⟨cs', e', hI⟩ := forGo_ix' I h k (s + 1) cs2 (by omega) h3
    exact ⟨cs', by rw [List.range'_succ, List.map_cons, forGo_nx h1 h2]; exact e', hI⟩
/-- a loop by the places of its items -/
theorem forGo_ix {tgt : D → List Cell → Option (List Cell)} {body : List Cell → SR} {item : Nat → D} (I : Nat → List Cell → Prop) {n : Nat} (h : ∀ i cs, i < n → I i cs → ∃ cs1 cs2, tgt (item i) cs = some cs1 ∧ body cs1 = .nx cs2 ∧ I (i + 1) cs2) {cs : List Cell} (h0 : I 0 cs) :
    ∃ cs', forGo tgt body ((List.range n).map item) cs = .nx cs' ∧ I n cs' := by
  rw [List.range_eq_range']
  exact forGo_ix' I h n 0 cs (by omega) h0
theorem cut_to {α : Type} (xs : List α) (j : Nat) : cutD xs none (some (j : Int)) = xs.take j := by
  unfold cutD
  rw [HT.sIx_none, HT.sIx_nat, List.drop_zero, Nat.sub_zero]
  by_cases h : j ≤ xs.length
  · rw [Nat.min_eq_left h]
  · rw [Nat.min_eq_right (by omega), List.take_of_length_le (Nat.le_refl _), List.take_of_length_le (by omega)]
theorem cut_from {α : Type} (xs : List α) (j : Nat) : cutD xs (some (j : Int)) none = xs.drop j := by
  unfold cutD
  rw [HT.sIx_none, HT.sIx_nat]
  by_cases h : j ≤ xs.length
  · rw [Nat.min_eq_left h, List.take_of_length_le (by rw [List.length_drop]; exact Nat.le_refl _)]
  · rw [Nat.min_eq_right (by omega), List.drop_of_length_le (Nat.le_refl _), List.drop_of_length_le (by omega)]
    simp
theorem cut_last {α : Type} (xs : List α) : cutD xs none (some (-1)) = xs.dropLast := by
  unfold cutD
  rw [HT.sIx_none, List.drop_zero, List.dropLast_eq_take]
  congr 1
  unfold HT.sIx
  simp
  omega
@[simp] theorem cut_1 {α : Type} (xs : List α) : cutD xs (some 1) none = xs.drop 1 := cut_from xs 1
@[simp] theorem cut_t1 {α : Type} (xs : List α) : cutD xs none (some 1) = xs.take 1 := cut_to xs 1
/-! ### data that are compared -/
structure Sh (n : Nat) (d : D) : Prop where
  lay : d.canLay0 = true
  dep : d.depth ≤ n
theorem canLayAll_of : ∀ {ds : List D}, (∀ d ∈ ds, d.canLay0 = true) → PyData.canLayAll0 ds = true
  | [], _ => by simp only [PyData.canLayAll0]
  | d :: ds, h => by simp only [PyData.canLayAll0, h d List.mem_cons_self, canLayAll_of fun e he => h e (List.mem_cons_of_mem _ he), Bool.and_self]
theorem depthAll_of {n : Nat} : ∀ {ds : List D}, (∀ d ∈ ds, d.depth ≤ n) → PyData.depthAll ds ≤ n
  | [], _ => by simp only [PyData.depthAll]; exact Nat.zero_le _
  | d :: ds, h => by
    simp only [PyData.depthAll]
    exact Nat.max_le.mpr ⟨h d List.mem_cons_self, depthAll_of fun e he => h e (List.mem_cons_of_mem _ he)⟩
theorem Sh.int (n : Nat) (i : Int) : Sh n (.int i) := ⟨by simp only [PyData.canLay0], by simp only [PyData.depth]; exact Nat.zero_le _⟩
theorem Sh.non (n : Nat) : Sh n .none := ⟨by simp only [PyData.canLay0], by simp only [PyData.depth]; exact Nat.zero_le _⟩
theorem Sh.bool (n : Nat) (i : Bool) : Sh n (.bool i) := ⟨by simp only [PyData.canLay0], by simp only [PyData.depth]; exact Nat.zero_le _⟩
theorem Sh.lst {n : Nat} {ds : List D} (h : ∀ d ∈ ds, Sh n d) : Sh (n + 1) (.list ds) :=
  ⟨by simp only [PyData.canLay0]; exact canLayAll_of fun d hd => (h d hd).lay, by simp only [PyData.depth]; exact Nat.succ_le_succ (depthAll_of fun d hd => (h d hd).dep)⟩
theorem Sh.tup {n : Nat} {ds : List D} (h : ∀ d ∈ ds, Sh n d) : Sh (n + 1) (.tuple ds) :=
  ⟨by simp only [PyData.canLay0]; exact canLayAll_of fun d hd => (h d hd).lay, by simp only [PyData.depth]; exact Nat.succ_le_succ (depthAll_of fun d hd => (h d hd).dep)⟩
theorem Sh.ok {n : Nat} {d : D} (h : Sh n d) (hn : n ≤ 64) : SeqAt.shaped d = true := by
  unfold SeqAt.shaped
  rw [h.lay, decide_eq_true (Nat.le_trans h.dep hn)]
  rfl
theorem Sh.ints {n : Nat} (ns : List Int) : Sh (n + 1) (.list (ns.map .int)) := .lst fun d hd => by
  obtain ⟨i, _, rfl⟩ := List.mem_map.mp hd
  exact .int n i
theorem Sh.intsT {n : Nat} (ns : List Int) : Sh (n + 1) (.tuple (ns.map .int)) := .tup fun d hd => by
  obtain ⟨i, _, rfl⟩ := List.mem_map.mp hd
  exact .int n i
theorem pEq_of {a b : D} {n m : Nat} (e : eqF a b = none) (ha : Sh n a) (hb : Sh m b) (hn : n ≤ 64 := by decide) (hm : m ≤ 64 := by decide) : pEq a b = some (.da (.bool (PyData.eqv a b))) := by
  unfold pEq
  rw [e]
  show (if _ then _ else _) = _
  rw [if_pos ⟨ha.ok hn, hb.ok hm⟩]
theorem pNe_of {a b : D} {n m : Nat} (e : eqF a b = none) (ha : Sh n a) (hb : Sh m b) (hn : n ≤ 64 := by decide) (hm : m ≤ 64 := by decide) : pNe a b = some (.da (.bool (!PyData.eqv a b))) := by
  unfold pNe
  rw [e]
  show (if _ then _ else _) = _
  rw [if_pos ⟨ha.ok hn, hb.ok hm⟩]
theorem eqvAll_ints : ∀ xs ys : List Int, PyData.eqvAll (xs.map .int) (ys.map .int) = decide (xs = ys)
  | [], [] => by simp [PyData.eqvAll]
  | [], y :: ys => by simp [PyData.eqvAll]
  | x :: xs, [] => by simp [PyData.eqvAll]
  | x :: xs, y :: ys => by
    rw [List.map_cons, List.map_cons]
    simp only [PyData.eqvAll, PyData.eqv, eqvAll_ints xs ys]
    by_cases h : x = y <;> by_cases h2 : xs = ys <;> simp [h, h2]
theorem eqv_nil (ds : List D) : PyData.eqv (.list ds) (.list []) = ds.isEmpty := by
  cases ds <;> simp [PyData.eqv, PyData.eqvAll]
theorem cut_to' {α : Type} (xs : List α) (j : Nat) : cutD xs none (some ((j : Int) + 1)) = xs.take (j + 1) := cut_to xs (j + 1)
theorem cut_from' {α : Type} (xs : List α) (j : Nat) : cutD xs (some ((j : Int) + 1)) none = xs.drop (j + 1) := cut_from xs (j + 1)
@[simp] theorem sz0 : (0 ≤ sizeLine) = True := eq_true (by decide)
@[simp] theorem sz1 : (1 ≤ sizeLine) = True := eq_true (by decide)
@[simp] theorem sz2 : (2 ≤ sizeLine) = True := eq_true (by decide)
@[simp] theorem sz3 : (3 ≤ sizeLine) = True := eq_true (by decide)
@[simp] theorem sz4 : (4 ≤ sizeLine) = True := eq_true (by decide)
@[simp] theorem sz5 : (5 ≤ sizeLine) = True := eq_true (by decide)
@[simp] theorem sz6 : (6 ≤ sizeLine) = True := eq_true (by decide)
@[simp] theorem sz7 : (7 ≤ sizeLine) = True := eq_true (by decide)
@[simp] theorem sz8 : (8 ≤ sizeLine) = True := eq_true (by decide)
theorem rng_small {c : Int} (h0 : 0 ≤ c) (h : c ≤ 1000000000) : rngOk c = true := by
  unfold rngOk
  rw [decide_eq_true (show -(2 ^ 62) ≤ c by omega), decide_eq_true (show c < 2 ^ 62 by omega)]
  rfl
theorem flat_one (d : D) (k : Nat) : (List.replicate k [d]).flatten = List.replicate k d := by
  induction k with
  | zero => rfl
  | succ k ih => rw [List.replicate_succ, List.flatten_cons, ih, List.replicate_succ]; rfl
theorem repC_one (d : D) {k : Int} (j : Nat) (e : k = j) (h : j ≤ 1000) (cs : List Cell) : repC (.ol [d]) (.int k) cs = .val (.ol (List.replicate j d)) cs := by
  unfold repC
  have h1 : -(2 ^ 63) ≤ k := by omega
  have h2 : k < 2 ^ 63 := by omega
  have h3 : [d].length * k.toNat ≤ sizeLine := by
    rw [List.length_singleton, Nat.one_mul, e, Int.toNat_natCast]
    exact Nat.le_trans h (by decide)
  show (if _ then _ else _) = _
  rw [if_pos ⟨h1, h2, h3⟩, e, Int.toNat_natCast, flat_one]
@[simp] theorem pk_bw (i : Nat) (cs : List Cell) : pk (.bw i) cs = match cs[i]? with
  | some (.ol ds) => some (.list ds)
  | _ => none := rfl
@[simp] theorem fzC_bw (np i : Nat) (cs : List Cell) : fzC np (.bw i) cs = match cs[i]? with
  | some (.ol ds) => if np ≤ i then .val (.da (.list ds)) (cs.set i (.da (.list ds))) else .bad
  | _ => .bad := rfl
@[simp] theorem retC_bw (np i : Nat) (cs : List Cell) : retC np (.bw i) cs = match cs[i]? with
  | some (.ol ds) => if np ≤ i then .rt (.ol ds) (cs.set i .un) else .bad
  | _ => .bad := rfl
theorem e2_val {p : D → D → Option Cell} {f g : List Cell → ER} {cs cs1 cs2 : List Cell} {a b c : Cell} {x y : D} (h1 : f cs = .val a cs1) (h2 : g cs1 = .val b cs2) (h3 : pk a cs2 = some x) (h4 : pk b cs2 = some y) (h5 : p x y = some c) : e2 p f g cs = .val c cs2 := by
  unfold e2
  rw [h1, ER.bind_val, h2, ER.bind_val]
  unfold k2
  rw [h3, h4]
  show ofO (p x y) cs2 = _
  rw [h5]
  rfl
theorem eRep_val {f g : List Cell → ER} {cs cs1 cs2 : List Cell} {b : Cell} {ds : List D} {y : D} {r : ER} (h1 : f cs = .val (.ol ds) cs1) (h2 : g cs1 = .val b cs2) (h4 : pk b cs2 = some y) (h5 : repC (.ol ds) y cs2 = r) : eRep f g cs = r := by
  unfold eRep
  rw [h1, ER.bind_val, h2, ER.bind_val, h4]
  exact h5
theorem pAdd_lists {xs ys : List D} (h : xs.length + ys.length ≤ sizeLine) : pAdd (.list xs) (.list ys) = some (.ol (xs ++ ys)) := if_pos h
theorem sSeq_nx {f g : List Cell → SR} {cs cs1 : List Cell} {r : SR} (h1 : f cs = .nx cs1) (h2 : g cs1 = r) : sSeq f g cs = r := by
  unfold sSeq
  rw [h1]
  exact h2
theorem sRet_ol {np : Nat} {f : List Cell → ER} {cs cs1 : List Cell} {ds : List D} (h : f cs = .val (.ol ds) cs1) : sRet np f cs = .rt (.ol ds) cs1 := by
  unfold sRet
  rw [h]
  rfl
theorem sRet_da {np : Nat} {f : List Cell → ER} {cs cs1 : List Cell} {d : D} (h : f cs = .val (.da d) cs1) : sRet np f cs = .rt (.da d) cs1 := by
  unfold sRet
  rw [h]
  rfl
theorem callM_ol {nl : Nat} {f : List Cell → SR} {as cs : List Cell} {ds : List D} (h : f (as ++ List.replicate nl .un) = .rt (.ol ds) cs) : callM nl f as = .val (.ol ds) (outC as cs) := by
  unfold callM
  rw [h]
theorem callM_da {nl : Nat} {f : List Cell → SR} {as cs : List Cell} {d : D} (h : f (as ++ List.replicate nl .un) = .rt (.da d) cs) : callM nl f as = .val (.da d) (outC as cs) := by
  unfold callM
  rw [h]
theorem callM_nx {nl : Nat} {f : List Cell → SR} {as cs : List Cell} (h : f (as ++ List.replicate nl .un) = .nx cs) : callM nl f as = .val (.da .none) (outC as cs) := by
  unfold callM
  rw [h]
theorem callM_err {nl : Nat} {f : List Cell → SR} {as cs : List Cell} {e : Err} (h : f (as ++ List.replicate nl .un) = .err e cs) : callM nl f as = .err e (outC as cs) := by
  unfold callM
  rw [h]
theorem passC_da' (cs : List Cell) : ∀ ds : List D, passC cs (ds.map Cell.da) = some (ds.map Cell.da)
  | [] => rfl
  | d :: ds => by rw [List.map_cons, passC_da, passC_da' cs ds]; rfl
theorem backA_da' (cs : List Cell) : ∀ (ds : List D) (os : List Cell), backA cs (ds.map Cell.da) os = cs
  | [], os => backA_nil cs os
  | d :: ds, [] => rfl
  | d :: ds, o :: os => by rw [List.map_cons, backA_da, backA_da' cs ds os]
theorem eCall_da {n : Nat} {m : List Cell → ER} {f : List Cell → AR} {cs cs1 os : List Cell} {c : Cell} (ds : List D) (h1 : f cs = .val (ds.map Cell.da) cs1) (h2 : ds.length = n) (h3 : m (ds.map Cell.da) = .val c os) : eCall n m f cs = .val c cs1 := by
  unfold eCall
  rw [h1, AR.toE_val]
  unfold callE
  rw [if_pos (by rw [List.length_map]; exact h2), passC_da']
  simp only [h3]
  rw [backA_da']
theorem eCall_da_err {n : Nat} {m : List Cell → ER} {f : List Cell → AR} {cs cs1 os : List Cell} {e : Err} (ds : List D) (h1 : f cs = .val (ds.map Cell.da) cs1) (h2 : ds.length = n) (h3 : m (ds.map Cell.da) = .err e os) : eCall n m f cs = .err e cs1 := by
  unfold eCall
  rw [h1, AR.toE_val]
  unfold callE
  rw [if_pos (by rw [List.length_map]; exact h2), passC_da']
  simp only [h3]
  rw [backA_da']
theorem aCons_val {f : List Cell → ER} {g : List Cell → AR} {cs cs1 cs2 : List Cell} {c : Cell} {r : List Cell} (h1 : f cs = .val c cs1) (h2 : g cs1 = .val r cs2) : aCons f g cs = .val (c :: r) cs2 := by
  unfold aCons
  rw [h1, ER.toA_val, h2]
  rfl
theorem fz_da {np : Nat} {f : List Cell → ER} {cs cs1 : List Cell} {d : D} (h : f cs = .val (.da d) cs1) : fz np f cs = .val (.da d) cs1 := by
  unfold fz
  rw [h]
  rfl
theorem fz_ol {np : Nat} {f : List Cell → ER} {cs cs1 : List Cell} {d : List D} (h : f cs = .val (.ol d) cs1) : fz np f cs = .val (.da (.list d)) cs1 := by
  unfold fz
  rw [h]
  rfl
end TL
set_option Elab.async false
set_option linter.all false
set_option maxRecDepth 100000
set_option maxHeartbeats 4000000
/-! TL19: more reckoning with mirrors. -/
namespace TL
open PySem L2
theorem sSeq_err {f g : List Cell → SR} {cs cs1 : List Cell} {e : Err} (h1 : f cs = .err e cs1) : sSeq f g cs = .err e cs1 := by
  unfold sSeq
  rw [h1]
  rfl
theorem sSeq_rt {f g : List Cell → SR} {cs cs1 : List Cell} {c : Cell} (h1 : f cs = .rt c cs1) : sSeq f g cs = .rt c cs1 := by
  unfold sSeq
  rw [h1]
  rfl
theorem sIf_true {t : List Cell → TR} {f g : List Cell → SR} {cs cs1 : List Cell} {r : SR} (h : t cs = .val true cs1) (h2 : f cs1 = r) : sIf t f g cs = r := by
  unfold sIf
  rw [h]
  exact h2
theorem sIf_false {t : List Cell → TR} {f g : List Cell → SR} {cs cs1 : List Cell} {r : SR} (h : t cs = .val false cs1) (h2 : g cs1 = r) : sIf t f g cs = r := by
  unfold sIf
  rw [h]
  exact h2
theorem sDrop_val {f : List Cell → ER} {cs cs1 : List Cell} {c : Cell} (h : f cs = .val c cs1) : sDrop f cs = .nx cs1 := by
  unfold sDrop
  rw [h]
  rfl
theorem sDrop_err {f : List Cell → ER} {cs cs1 : List Cell} {c : Err} (h : f cs = .err c cs1) : sDrop f cs = .err c cs1 := by
  unfold sDrop
  rw [h]
  rfl
theorem sSet_da {np i : Nat} {f : List Cell → ER} {cs cs1 : List Cell} {d : D} (h : f cs = .val (.da d) cs1) (hc : canSet np i cs1 = true := by rfl) : sSet np i f cs = .nx (cs1.set i (.da d)) := by
  unfold sSet
  rw [h]
  show setC np i (.da d) cs1 = _
  rw [setC_da, if_pos hc]
theorem sSet_ol {np i : Nat} {f : List Cell → ER} {cs cs1 : List Cell} {d : List D} (h : f cs = .val (.ol d) cs1) (hc : canSet np i cs1 = true := by rfl) : sSet np i f cs = .nx (cs1.set i (.ol d)) := by
  unfold sSet
  rw [h]
  show setC np i (.ol d) cs1 = _
  rw [setC_ol, if_pos hc]
theorem sSet_err {np i : Nat} {f : List Cell → ER} {cs cs1 : List Cell} {e : Err} (h : f cs = .err e cs1) : sSet np i f cs = .err e cs1 := by
  unfold sSet
  rw [h]
  rfl
theorem sRet_err {np : Nat} {f : List Cell → ER} {cs cs1 : List Cell} {e : Err} (h : f cs = .err e cs1) : sRet np f cs = .err e cs1 := by
  unfold sRet
  rw [h]
  rfl
theorem fz_err {np : Nat} {f : List Cell → ER} {cs cs1 : List Cell} {e : Err} (h : f cs = .err e cs1) : fz np f cs = .err e cs1 := by
  unfold fz
  rw [h]
  rfl
theorem outC_das : ∀ (ds : List D) (cs : List Cell), outC (ds.map Cell.da) cs = ds.map Cell.da
  | [], cs => outC_nil cs
  | d :: ds, [] => rfl
  | d :: ds, c :: cs => by rw [List.map_cons, outC_da, outC_das ds cs]
/-- a def whose arguments are all data leaves them as they are -/
theorem callM_rt {nl : Nat} {f : List Cell → SR} {ds : List D} {cs : List Cell} {d : D} (h : f (ds.map Cell.da ++ List.replicate nl .un) = .rt (.da d) cs) : callM nl f (ds.map Cell.da) = .val (.da d) (ds.map Cell.da) := by
  rw [callM_da h, outC_das]
theorem callM_rtl {nl : Nat} {f : List Cell → SR} {ds : List D} {cs : List Cell} {d : List D} (h : f (ds.map Cell.da ++ List.replicate nl .un) = .rt (.ol d) cs) : callM nl f (ds.map Cell.da) = .val (.ol d) (ds.map Cell.da) := by
  rw [callM_ol h, outC_das]
theorem callM_er {nl : Nat} {f : List Cell → SR} {ds : List D} {cs : List Cell} {e : Err} (h : f (ds.map Cell.da ++ List.replicate nl .un) = .err e cs) : callM nl f (ds.map Cell.da) = .err e (ds.map Cell.da) := by
  rw [callM_err h, outC_das]
theorem callM_n {nl : Nat} {f : List Cell → SR} {ds : List D} {cs : List Cell} (h : f (ds.map Cell.da ++ List.replicate nl .un) = .nx cs) : callM nl f (ds.map Cell.da) = .val (.da .none) (ds.map Cell.da) := by
  rw [callM_nx h, outC_das]
theorem forGo_rt {tgt : D → List Cell → Option (List Cell)} {body : List Cell → SR} {d : D} {ds : List D} {cs cs1 cs2 : List Cell} {c : Cell} (h1 : tgt d cs = some cs1) (h2 : body cs1 = .rt c cs2) : forGo tgt body (d :: ds) cs = .rt c cs2 := by
  rw [forGo, h1]
  simp only [h2]
theorem forGo_bk {tgt : D → List Cell → Option (List Cell)} {body : List Cell → SR} {d : D} {ds : List D} {cs cs1 cs2 : List Cell} (h1 : tgt d cs = some cs1) (h2 : body cs1 = .bk cs2) : forGo tgt body (d :: ds) cs = .nx cs2 := by
  rw [forGo, h1]
  simp only [h2]
theorem sFor_of {src : List Cell → IR} {tgt : D → List Cell → Option (List Cell)} {body : List Cell → SR} {cs cs1 : List Cell} {ds : List D} {r : SR} (h : src cs = .val ds cs1) (h2 : forGo tgt body ds cs1 = r) : sFor src tgt body cs = r := by
  unfold sFor
  rw [h]
  exact h2
theorem rangeD_0 (n : Nat) : rangeD 0 n = (List.range n).map fun i => PyData.int (i : Nat) := by unfold rangeD; simp
theorem iRange1_of {f : List Cell → AR} {cs cs1 : List Cell} {n : Nat} (h : f cs = .val [.da (.int (n : Nat))] cs1) (hn : n ≤ 1000000000 := by omega) : iRange1 f cs = .val ((List.range n).map fun i => PyData.int (i : Nat)) cs1 := by
  unfold iRange1
  rw [h]
  show (if _ then _ else _) = _
  rw [if_pos (rng_small (by omega) (by omega)), Int.toNat_natCast, rangeD_0]
/-! ### texts that repr makes are short -/
structure Rp (n w : Nat) (d : D) : Prop where
  show_ : d.showable = true
  leaves : d.leavesShort 13 = true
  weight : d.weight ≤ w
  depth : d.depth ≤ n
theorem Rp.mono {n w n' w' : Nat} {d : D} (h : Rp n w d) (hn : n ≤ n') (hw : w ≤ w') : Rp n' w' d := ⟨h.show_, h.leaves, Nat.le_trans h.weight hw, Nat.le_trans h.depth hn⟩
theorem Rp.int {i : Int} (n : Nat) (h1 : -999999999999 ≤ i) (h2 : i ≤ 999999999999) : Rp n 40 (.int i) := by
  have h40 : i.natAbs < 2 ^ 40 := by
    have : (2 : Nat) ^ 40 = 1099511627776 := by decide
    omega
  have hl : i.natAbs = 0 ∨ i.natAbs.log2 < 40 := by
    by_cases z : i.natAbs = 0
    · exact .inl z
    · exact .inr ((Nat.log2_lt z).mpr h40)
  have hl' : i.natAbs.log2 < 40 := by
    rcases hl with z | z
    · rw [z]; decide
    · exact z
  refine ⟨?_, ?_, ?_, ?_⟩
  · simp only [PyData.showable, decide_eq_true_eq]; omega
  · simp only [PyData.leavesShort, decide_eq_true_eq]; exact PyData.shown_int_le2 h1 h2
  · simp only [PyData.weight]
    split <;> omega
  · simp only [PyData.depth]; exact Nat.zero_le _
theorem Rp.non (n w : Nat) : Rp n w .none := ⟨rfl, rfl, by simp only [PyData.weight]; exact Nat.zero_le _, by simp only [PyData.depth]; exact Nat.zero_le _⟩
theorem Rp.str {x : Str} {w : Nat} (n : Nat) (h : (x.cps.toList.all fun c => decide (c < 16 ^ 8)) = true) (hw : x.cps.size ≤ w) : Rp n w (.str x) := ⟨rfl, by simp only [PyData.leavesShort]; exact h, by simp only [PyData.weight]; exact hw, by simp only [PyData.depth]; exact Nat.zero_le _⟩
theorem showAll_of : ∀ {ds : List D}, (∀ d ∈ ds, d.showable = true) → PyData.showableAll ds = true
  | [], _ => by simp only [PyData.showableAll]
  | d :: ds, h => by simp only [PyData.showableAll, h d List.mem_cons_self, showAll_of fun e he => h e (List.mem_cons_of_mem _ he), Bool.and_self]
theorem leavesAll_of : ∀ {ds : List D}, (∀ d ∈ ds, d.leavesShort 13 = true) → PyData.leavesShortAll 13 ds = true
  | [], _ => by simp only [PyData.leavesShortAll]
  | d :: ds, h => by simp only [PyData.leavesShortAll, h d List.mem_cons_self, leavesAll_of fun e he => h e (List.mem_cons_of_mem _ he), Bool.and_self]
theorem weightAll_of {w : Nat} : ∀ {ds : List D}, (∀ d ∈ ds, d.weight ≤ w) → PyData.weightAll ds ≤ ds.length * (w + 1)
  | [], _ => by simp only [PyData.weightAll]; exact Nat.zero_le _
  | d :: ds, h => by
    have h1 := h d List.mem_cons_self
    have h2 := weightAll_of fun e he => h e (List.mem_cons_of_mem _ he)
    simp only [PyData.weightAll, List.length_cons]
    rw [Nat.succ_mul]
    omega
theorem Rp.lst {n w : Nat} {ds : List D} (h : ∀ d ∈ ds, Rp n w d) : Rp (n + 1) (ds.length * (w + 1)) (.list ds) :=
  ⟨by simp only [PyData.showable]; exact showAll_of fun d hd => (h d hd).show_, by simp only [PyData.leavesShort]; exact leavesAll_of fun d hd => (h d hd).leaves,
   by simp only [PyData.weight]; exact weightAll_of fun d hd => (h d hd).weight, by simp only [PyData.depth]; exact Nat.succ_le_succ (depthAll_of fun d hd => (h d hd).depth)⟩
theorem Rp.tup {n w : Nat} {ds : List D} (h : ∀ d ∈ ds, Rp n w d) : Rp (n + 1) (ds.length * (w + 1)) (.tuple ds) :=
  ⟨by simp only [PyData.showable]; exact showAll_of fun d hd => (h d hd).show_, by simp only [PyData.leavesShort]; exact leavesAll_of fun d hd => (h d hd).leaves,
   by simp only [PyData.weight]; exact weightAll_of fun d hd => (h d hd).weight, by simp only [PyData.depth]; exact Nat.succ_le_succ (depthAll_of fun d hd => (h d hd).depth)⟩
theorem Rp.ok {n w : Nat} {d : D} (h : Rp n w d) (hn : n ≤ 100) (hw : w ≤ 1048576) : repOk d = true := by
  unfold repOk
  have hd : d.depth ≤ 100 := Nat.le_trans h.depth hn
  have hs : d.shown.length ≤ sizeLine := PyData.shown_fits (by decide) (by decide) h.leaves (Nat.le_trans h.weight (Nat.le_trans hw (by decide)))
  rw [h.show_, decide_eq_true hs, decide_eq_true hd]
  rfl
theorem pRepr_of {d : D} (h : repOk d = true) : pRepr [d] = some (.da (.str d.shown)) := if_pos h
/-! ### one argument -/
theorem en1 {p : List D → Option Cell} {f : List Cell → ER} {cs cs1 : List Cell} {c r : Cell} {d : D} (h : f cs = .val c cs1) (hk : pk c cs1 = some d) (hp : p [d] = some r) : en p (aCons f aNil) cs = .val r cs1 := by
  unfold en
  rw [aCons_val h (rfl : aNil _ = .val [] _), AR.toE_val]
  unfold kn pkAll
  rw [hk, pkAll_nil]
  show ofO (p [d]) cs1 = _
  rw [hp]
  rfl
theorem en1_err {p : List D → Option Cell} {f : List Cell → ER} {cs cs1 : List Cell} {e : Err} (h : f cs = .err e cs1) : en p (aCons f aNil) cs = .err e cs1 := by
  unfold en aCons
  rw [h]
  rfl
theorem len_ol {f : List Cell → ER} {cs cs1 : List Cell} {ds : List D} (h : f cs = .val (.ol ds) cs1) : en pLen (aCons f aNil) cs = .val (.da (.int ds.length)) cs1 := en1 h rfl rfl
theorem len_list {f : List Cell → ER} {cs cs1 : List Cell} {ds : List D} (h : f cs = .val (.da (.list ds)) cs1) : en pLen (aCons f aNil) cs = .val (.da (.int ds.length)) cs1 := en1 h rfl rfl
theorem len_tup {f : List Cell → ER} {cs cs1 : List Cell} {ds : List D} (h : f cs = .val (.da (.tuple ds)) cs1) : en pLen (aCons f aNil) cs = .val (.da (.int ds.length)) cs1 := en1 h rfl rfl
theorem e2_da {p : D → D → Option Cell} {f g : List Cell → ER} {cs cs1 cs2 : List Cell} {x y : D} {c : Cell} (h1 : f cs = .val (.da x) cs1) (h2 : g cs1 = .val (.da y) cs2) (h5 : p x y = some c) : e2 p f g cs = .val c cs2 := e2_val h1 h2 rfl rfl h5
theorem tB_val {f : List Cell → ER} {cs cs1 : List Cell} {b : Bool} (h : f cs = .val (.da (.bool b)) cs1) : tB f cs = .val b cs1 := by
  unfold tB
  rw [h]
  rfl
theorem tNot_val {f : List Cell → TR} {cs cs1 : List Cell} {b : Bool} (h : f cs = .val b cs1) : tNot f cs = .val (!b) cs1 := by
  unfold tNot
  rw [h]
  rfl
theorem tAnd_false {f g : List Cell → TR} {cs cs1 : List Cell} (h : f cs = .val false cs1) : tAnd f g cs = .val false cs1 := by
  unfold tAnd
  rw [h]
  rfl
theorem tAnd_true {f g : List Cell → TR} {cs cs1 : List Cell} {r : TR} (h : f cs = .val true cs1) (h2 : g cs1 = r) : tAnd f g cs = r := by
  unfold tAnd
  rw [h]
  exact h2
theorem tOr_true {f g : List Cell → TR} {cs cs1 : List Cell} (h : f cs = .val true cs1) : tOr f g cs = .val true cs1 := by
  unfold tOr
  rw [h]
  rfl
theorem tOr_false {f g : List Cell → TR} {cs cs1 : List Cell} {r : TR} (h : f cs = .val false cs1) (h2 : g cs1 = r) : tOr f g cs = r := by
  unfold tOr
  rw [h]
  exact h2
theorem vAnd_false {f g : List Cell → ER} {cs cs1 : List Cell} (h : f cs = .val (.da (.bool false)) cs1) : vAnd f g cs = .val (.da (.bool false)) cs1 := by
  unfold vAnd
  rw [h]
  rfl
theorem vAnd_true {f g : List Cell → ER} {cs cs1 : List Cell} {r : ER} (h : f cs = .val (.da (.bool true)) cs1) (h2 : g cs1 = r) : vAnd f g cs = r := by
  unfold vAnd
  rw [h]
  exact h2
theorem vIf_true {t : List Cell → TR} {f g : List Cell → ER} {cs cs1 : List Cell} {r : ER} (h : t cs = .val true cs1) (h2 : f cs1 = r) : vIf t f g cs = r := by
  unfold vIf
  rw [h]
  exact h2
theorem vIf_false {t : List Cell → TR} {f g : List Cell → ER} {cs cs1 : List Cell} {r : ER} (h : t cs = .val false cs1) (h2 : g cs1 = r) : vIf t f g cs = r := by
  unfold vIf
  rw [h]
  exact h2
end TL
set_option Elab.async false
set_option linter.all false
set_option maxRecDepth 100000
set_option maxHeartbeats 4000000
/-! TL20: draws. -/
namespace TL
open PySem L2
theorem pMul_of {x y : Int} (h : mulOk x y = true) : pMul (.int x) (.int y) = some (.da (.int (x * y))) := if_pos h
theorem pDiv_of {x y : Int} (h : divOk y = true) : pDiv (.int x) (.int y) = some (.da (.int (x / y))) := if_pos h
theorem pMod_of {x y : Int} (h : 0 < y) : pMod (.int x) (.int y) = some (.da (.int (x % y))) := if_pos h
theorem pPow_of {x : Int} {k : Nat} (h : x.natAbs < 2 ^ 64) (hk : k ≤ 1000000) : pPow (.int x) (.int k) = some (.da (.int (x ^ k))) := by
  show (if _ then _ else _) = _
  rw [if_pos ⟨by omega, by omega, h⟩, Int.toNat_natCast]
theorem passC_ol {cs cs1 : List Cell} {fs : List D} (i : Nat) (ds : List D) (h : cs[i]? = some (.ol fs)) : passC cs (.bw i :: ds.map Cell.da) = some (.ol fs :: ds.map Cell.da) := by
  have nb : ∀ ds : List D, noBw i (ds.map Cell.da) = true := fun ds => by
    induction ds with
    | nil => rfl
    | cons d ds ih => exact ih
  unfold passC
  rw [if_pos (nb ds), h]
  show (passC cs (ds.map Cell.da)).map _ = _
  rw [passC_da']
  rfl
/-- a call whose first argument is an own list, the others data -/
theorem eCall_bw {n i : Nat} {m : List Cell → ER} {f : List Cell → AR} {cs cs1 os : List Cell} {c c' : Cell} {fs : List D} (ds : List D) (h1 : f cs = .val (.bw i :: ds.map Cell.da) cs1) (hi : cs1[i]? = some (.ol fs)) (h2 : ds.length + 1 = n) (h3 : m (.ol fs :: ds.map Cell.da) = .val c (c' :: os)) : eCall n m f cs = .val c (cs1.set i c') := by
  unfold eCall
  rw [h1, AR.toE_val]
  unfold callE
  rw [if_pos (by rw [List.length_cons, List.length_map]; exact h2), passC_ol (cs1 := cs1) i ds hi]
  simp only [h3]
  rw [backA_bw, backA_da']
/-! ### the feed -/
/-- a feed behind at most n draws -/
def Fd (n : Nat) (fs : List D) : Prop := ∃ a b c : Int, fs = [.int a, .int b, .int c] ∧ 0 ≤ a ∧ 0 ≤ b ∧ b < 10 ^ 40 ∧ 0 ≤ c ∧ c ≤ n
theorem Fd.mono {n k : Nat} {fs : List D} (h : Fd n fs) (hk : n ≤ k) : Fd k fs := by
  obtain ⟨a, b, c, e, h1, h2, h3, h4, h5⟩ := h
  exact ⟨a, b, c, e, h1, h2, h3, h4, by omega⟩
def b_draw : List Cell → SR := (sSeq (sIf (tB (e2 (pCmp fGt) (e2 pIx (evVar 0) (evC (.int 0))) (evC (.int 0)))) (sSeq (sSet 2 2 (e2 pDiv (e2 pIx (evVar 0) (evC (.int 0))) (evVar 1)))
  (sSeq (sSet 2 3 (e2 pSub (e2 pIx (evVar 0) (evC (.int 0))) (e2 pMul (evVar 2) (evVar 1))))
  (sSeq (sPut 0 (fz 2 (evVar 2)) (evC (.int 0)))
  (sRet 2 (evVar 3))))) sNext)
  (sSeq (sPut 0 (fz 2 (e2 pAdd (e2 pIx (evVar 0) (evC (.int 2))) (evC (.int 1)))) (evC (.int 2)))
  (sSeq (sSet 2 4 (e2 pAdd (e2 pIx (evVar 0) (evC (.int 1))) (e2 pMul (evC (.int 6700417)) (e2 pIx (evVar 0) (evC (.int 2))))))
  (sSeq (sSet 2 4 (e2 pMod (en pInt (aCons (e2 pAdd (e2 pMul (e2 pMul (evVar 4) (evVar 4)) (evVar 4)) (e2 pMul (evC (.int 15485863)) (e2 pIx (evVar 0) (evC (.int 2))))) aNil)) (e2 pAdd (e2 pPow (evC (.int 10)) (evC (.int 43))) (evC (.int 57)))))
  (sSeq (sSet 2 4 (e2 pMod (en pInt (aCons (e2 pAdd (e2 pMul (evVar 4) (evVar 4)) (evC (.int 32452843))) aNil)) (e2 pAdd (e2 pPow (evC (.int 10)) (evC (.int 38))) (evC (.int 133)))))
  (sRet 2 (e2 pMod (en pInt (aCons (e2 pDiv (evVar 4) (e2 pPow (evC (.int 10)) (evC (.int 9)))) aNil)) (evVar 1))))))))
def m_draw : List Cell → ER := callM 3 b_draw
theorem pInt_of {f : List Cell → ER} {cs cs1 : List Cell} {i : Int} (h : f cs = .val (.da (.int i)) cs1) : en pInt (aCons f aNil) cs = .val (.da (.int i)) cs1 := en1 h rfl rfl
theorem draw_ok {n : Nat} {fs : List D} (hf : Fd n fs) {k : Int} (hk : 1 ≤ k) (hk2 : k < 2 ^ 60) (hn : n ≤ 1000000) : ∃ (r : Int) (fs' : List D), Fd (n + 1) fs' ∧ 0 ≤ r ∧ r < k ∧ m_draw [.ol fs, .da (.int k)] = .val (.da (.int r)) [.ol fs', .da (.int k)] := by
  obtain ⟨a, b, c, rfl, ha, hb, hb2, hc, hc2⟩ := hf
  have dk : divOk k = true := divOk_s (by omega) (by omega)
  by_cases h0 : 0 < a
  · have t : tB (e2 (pCmp fGt) (e2 pIx (evVar 0) (evC (.int 0))) (evC (.int 0))) [.ol [.int a, .int b, .int c], .da (.int k), .un, .un, .un] = .val true [.ol [.int a, .int b, .int c], .da (.int k), .un, .un, .un] :=
      tB_val (e2_da (x := .int a) (y := .int 0) rfl rfl (by show some (Cell.da (.bool (decide (0 < a)))) = _; rw [decide_eq_true h0]))
    have mk : mulOk (a / k) k = true := mulOk_r (by omega)
    have s1 := sSet_da (np := 2) (i := 2) (e2_da (f := e2 pIx (evVar 0) (evC (.int 0))) (g := evVar 1) (cs := [.ol [.int a, .int b, .int c], .da (.int k), .un, .un, .un]) rfl rfl (pDiv_of (x := a) dk))
    have s2 := sSet_da (np := 2) (i := 3) (e2_da (f := e2 pIx (evVar 0) (evC (.int 0))) (g := e2 pMul (evVar 2) (evVar 1)) (x := .int a) (y := .int (a / k * k)) (cs := [.ol [.int a, .int b, .int c], .da (.int k), .da (.int (a / k)), .un, .un]) (p := pSub) rfl (e2_da (x := .int (a / k)) (y := .int k) rfl rfl (pMul_of mk)) rfl)
    refine ⟨a - a / k * k, [.int (a / k), .int b, .int c], ⟨a / k, b, c, rfl, Int.ediv_nonneg ha (by omega), hb, hb2, hc, by omega⟩, ?_, ?_, ?_⟩
    · have := Int.emod_nonneg a (show k ≠ 0 by omega)
      have := Int.emod_add_mul_ediv a k
      rw [Int.mul_comm] at this
      omega
    · have := Int.emod_lt_of_pos a (show 0 < k by omega)
      have := Int.emod_add_mul_ediv a k
      rw [Int.mul_comm] at this
      omega
    · exact callM_da (cs := [.ol [.int (a / k), .int b, .int c], .da (.int k), .da (.int (a / k)), .da (.int (a - a / k * k)), .un]) (sSeq_rt (sIf_true t (sSeq_nx s1 (sSeq_nx s2 (sSeq_nx rfl rfl)))))
  · have t : tB (e2 (pCmp fGt) (e2 pIx (evVar 0) (evC (.int 0))) (evC (.int 0))) [.ol [.int a, .int b, .int c], .da (.int k), .un, .un, .un] = .val false [.ol [.int a, .int b, .int c], .da (.int k), .un, .un, .un] :=
      tB_val (e2_da (x := .int a) (y := .int 0) rfl rfl (by show some (Cell.da (.bool (decide (0 < a)))) = _; rw [decide_eq_false h0]))
    have h140 : (10 : Int) ^ 40 < 2 ^ 139 := by decide
    obtain ⟨x1, q1⟩ : ∃ x, x = b + 6700417 * (c + 1) := ⟨_, rfl⟩
    obtain ⟨x2, q2⟩ : ∃ x, x = (x1 * x1 * x1 + 15485863 * (c + 1)) % (10 ^ 43 + 57) := ⟨_, rfl⟩
    obtain ⟨x3, q3⟩ : ∃ x, x = (x2 * x2 + 32452843) % (10 ^ 38 + 133) := ⟨_, rfl⟩
    have p43 : (0 : Int) < 10 ^ 43 + 57 := by decide
    have p38 : (0 : Int) < 10 ^ 38 + 133 := by decide
    have b1 : x1.natAbs < 2 ^ 140 := by
      have : (2 : Nat) ^ 140 = 1393796574908163946345982392040522594123776 := by decide
      omega
    have b11 : (x1 * x1).natAbs < 2 ^ 280 := by
      rw [Int.natAbs_mul]
      exact Nat.lt_of_lt_of_le (Nat.mul_lt_mul'' b1 b1) (by decide)
    have b2 : x2.natAbs < 2 ^ 150 := by
      have := Int.emod_nonneg (x1 * x1 * x1 + 15485863 * (c + 1)) (show (10 : Int) ^ 43 + 57 ≠ 0 by decide)
      have := Int.emod_lt_of_pos (x1 * x1 * x1 + 15485863 * (c + 1)) p43
      have : (2 : Nat) ^ 150 = 1427247692705959881058285969449495136382746624 := by decide
      omega
    have m0 : mulOk 6700417 (c + 1) = true := mulOk_l (by decide)
    have m1 : mulOk x1 x1 = true := mulOk_w b1 b1 (by decide) (by decide) (by decide)
    have m2 : mulOk (x1 * x1) x1 = true := mulOk_w b11 b1 (by decide) (by decide) (by decide)
    have m3 : mulOk 15485863 (c + 1) = true := mulOk_l (by decide)
    have m4 : mulOk x2 x2 = true := mulOk_w b2 b2 (by decide) (by decide) (by decide)
    have d9 : divOk (10 ^ 9) = true := divOk_s (by decide) (by decide)
    let fs' : List D := [.int a, .int b, .int (c + 1)]
    let cs (x : Cell) : List Cell := [.ol fs', .da (.int k), .un, .un, x]
    have i2 : ∀ x, e2 pIx (evVar 0) (evC (.int 2)) (cs x) = .val (.da (.int (c + 1))) (cs x) := fun x => rfl
    have s1 : sSet 2 4 (TL.e2 pAdd (TL.e2 pIx (evVar 0) (evC (.int 1))) (TL.e2 pMul (evC (.int 6700417)) (TL.e2 pIx (evVar 0) (evC (.int 2))))) (cs .un) = .nx (cs (.da (.int x1))) := by
      rw [q1]
      exact sSet_da (e2_da (x := .int b) (y := .int (6700417 * (c + 1))) rfl (e2_da (x := .int 6700417) (y := .int (c + 1)) rfl (i2 _) (pMul_of m0)) rfl)
    have s2 : sSet 2 4 (TL.e2 pMod (en pInt (aCons (TL.e2 pAdd (TL.e2 pMul (TL.e2 pMul (evVar 4) (evVar 4)) (evVar 4)) (TL.e2 pMul (evC (.int 15485863)) (TL.e2 pIx (evVar 0) (evC (.int 2))))) aNil)) (TL.e2 pAdd (TL.e2 pPow (evC (.int 10)) (evC (.int 43))) (evC (.int 57)))) (cs (.da (.int x1))) = .nx (cs (.da (.int x2))) := by
      rw [q2]
      exact sSet_da (np := 2) (i := 4) (cs1 := cs (.da (.int x1))) (e2_da (x := .int (x1 * x1 * x1 + 15485863 * (c + 1))) (y := .int (10 ^ 43 + 57)) (pInt_of (e2_da (p := pAdd) (x := .int (x1 * x1 * x1)) (y := .int (15485863 * (c + 1))) (e2_da (x := .int (x1 * x1)) (y := .int x1) (e2_da (x := .int x1) (y := .int x1) rfl rfl (pMul_of m1)) rfl (pMul_of m2)) (e2_da (x := .int 15485863) (y := .int (c + 1)) rfl (i2 _) (pMul_of m3)) rfl)) rfl (pMod_of p43))
    have s3 : sSet 2 4 (TL.e2 pMod (en pInt (aCons (TL.e2 pAdd (TL.e2 pMul (evVar 4) (evVar 4)) (evC (.int 32452843))) aNil)) (TL.e2 pAdd (TL.e2 pPow (evC (.int 10)) (evC (.int 38))) (evC (.int 133)))) (cs (.da (.int x2))) = .nx (cs (.da (.int x3))) := by
      rw [q3]
      exact sSet_da (np := 2) (i := 4) (cs1 := cs (.da (.int x2))) (e2_da (x := .int (x2 * x2 + 32452843)) (y := .int (10 ^ 38 + 133)) (pInt_of (e2_da (p := pAdd) (x := .int (x2 * x2)) (y := .int 32452843) (e2_da (x := .int x2) (y := .int x2) rfl rfl (pMul_of m4)) rfl rfl)) rfl (pMod_of p38))
    have s4 : sRet 2 (TL.e2 pMod (en pInt (aCons (TL.e2 pDiv (evVar 4) (TL.e2 pPow (evC (.int 10)) (evC (.int 9)))) aNil)) (evVar 1)) (cs (.da (.int x3))) = .rt (.da (.int (x3 / 10 ^ 9 % k))) (cs (.da (.int x3))) :=
      sRet_da (e2_da (x := .int (x3 / 10 ^ 9)) (y := .int k) (pInt_of (e2_da (x := .int x3) (y := .int (10 ^ 9)) rfl rfl (pDiv_of d9))) rfl (pMod_of (by omega)))
    refine ⟨x3 / 10 ^ 9 % k, fs', ⟨a, b, c + 1, rfl, ha, hb, hb2, by omega, by omega⟩, Int.emod_nonneg _ (by omega), Int.emod_lt_of_pos _ (by omega), ?_⟩
    exact callM_da (cs := cs (.da (.int x3))) (sSeq_nx (cs1 := [.ol [.int a, .int b, .int c], .da (.int k), .un, .un, .un]) (sIf_false t rfl) (sSeq_nx (cs1 := cs .un) rfl (sSeq_nx s1 (sSeq_nx s2 (sSeq_nx s3 s4)))))
def b_one : List Cell → SR := (sRet 2 (e2 pIx (evVar 1) (eCall 2 m_draw (aCons (evVar 0) (aCons (fz 2 (en pLen (aCons (evVar 1) aNil))) aNil)))))
def m_one : List Cell → ER := callM 0 b_one
theorem atI_int {α : Type} {xs : List α} {r : Int} (h0 : 0 ≤ r) (h : r < xs.length) : ∃ x, x ∈ xs ∧ atI xs r = some x := by
  obtain ⟨j, rfl⟩ := Int.eq_ofNat_of_zero_le h0
  have hj : j < xs.length := by omega
  exact ⟨xs[j], List.getElem_mem hj, by rw [atI_of, List.getElem?_eq_getElem hj]⟩
/-- one of several things -/
theorem one_ok {n : Nat} {fs : List D} (hf : Fd n fs) (things : List D) (h0 : 0 < things.length) (hn : n ≤ 1000000) (hl : things.length ≤ 1000000) : ∃ (d : D) (fs' : List D), Fd (n + 1) fs' ∧ d ∈ things ∧ m_one [.ol fs, .da (.list things)] = .val (.da d) [.ol fs', .da (.list things)] := by
  obtain ⟨r, fs', hf', r0, r1, e⟩ := draw_ok hf (k := things.length) (by omega) (by omega) hn
  obtain ⟨d, hd, ed⟩ := atI_int (xs := things) r0 r1
  have c := eCall_bw (n := 2) (i := 0) (f := aCons (evVar 0) (aCons (fz 2 (en pLen (aCons (evVar 1) aNil))) aNil)) (cs := [.ol fs, .da (.list things)]) [.int things.length] (aCons_val rfl (aCons_val (fz_da (len_list rfl)) rfl)) rfl rfl e
  refine ⟨d, fs', hf', hd, callM_da (cs := [.ol fs', .da (.list things)]) (sRet_da (e2_val (x := .list things) (y := .int r) rfl c rfl rfl ?_))⟩
  show (atI things r).map Cell.da = _
  rw [ed]
  rfl
/-! ### the feed made -/
def b_feed : List Cell → SR := (sSeq (sSet 2 2 (e2 pAdd (e2 pMul (evC (.int 977)) (evVar 1)) (en pSum (aCons (eSl (evVar 0) oNone (oSome (evC (.int 1)))) aNil))))
  (sSeq (sIf (tB (e2 (pCmp fLt) (evVar 1) (en pLen (aCons (evVar 0) aNil)))) (sSet 2 2 (e2 pIx (evVar 0) (evVar 1))) sNext)
  (sRet 2 (eLst (aCons (fz 2 (en (pInt2 fMax) (aCons (evC (.int 0)) (aCons (e2 pSub (evVar 2) (e2 pPow (evC (.int 10)) (evC (.int 18)))) aNil)))) (aCons (e2 pMod (en pInt (aCons (e2 pAdd (e2 pMul (evVar 2) (evC (.int 19))) (e2 pMul (evC (.int 7)) (evVar 1))) aNil)) (e2 pAdd (e2 pPow (evC (.int 10)) (evC (.int 39))) (evC (.int 23)))) (aCons (evC (.int 0)) aNil)))))))
def m_feed : List Cell → ER := callM 1 b_feed
theorem feed_ok (ns : List Int) (k : Nat) : ∃ fs, Fd 0 fs ∧ m_feed [.da (.list (ns.map .int)), .da (.int k)] = .val (.ol fs) [.da (.list (ns.map .int)), .da (.int k)] := by
  let cs (x : Cell) : List Cell := [.da (.list (ns.map .int)), .da (.int k), x]
  have sl : eSl (evVar 0) oNone (oSome (evC (.int 1))) (cs .un) = .val (.ol ((ns.take 1).map .int)) (cs .un) := by
    show ER.val (.ol (cutD (ns.map PyData.int) none (some 1))) (cs .un) = _
    rw [cut_t1, List.map_take]
  have sm : en pSum (aCons (eSl (evVar 0) oNone (oSome (evC (.int 1)))) aNil) (cs .un) = .val (.da (.int (ns.take 1).sum)) (cs .un) := en1 sl rfl (pSum_map _)
  have s1 := sSet_da (np := 2) (i := 2) (e2_da (p := pAdd) (x := .int (977 * k)) (y := .int (ns.take 1).sum) (f := e2 pMul (evC (.int 977)) (evVar 1)) (e2_da (x := .int 977) (y := .int k) (cs := cs .un) rfl rfl (pMul_of (mulOk_l (by decide)))) sm rfl)
  have body : ∃ z : Int, sIf (tB (e2 (pCmp fLt) (evVar 1) (en pLen (aCons (evVar 0) aNil)))) (sSet 2 2 (e2 pIx (evVar 0) (evVar 1))) sNext (cs (.da (.int (977 * k + (ns.take 1).sum)))) = .nx (cs (.da (.int z))) := by
    have t : tB (e2 (pCmp fLt) (evVar 1) (en pLen (aCons (evVar 0) aNil))) (cs (.da (.int (977 * k + (ns.take 1).sum)))) = .val (decide ((k : Int) < (ns.map PyData.int).length)) (cs (.da (.int (977 * k + (ns.take 1).sum)))) := tB_val (e2_da (x := .int k) (y := .int (ns.map PyData.int).length) rfl (len_list rfl) rfl)
    by_cases h : (k : Int) < (ns.map PyData.int).length
    · rw [decide_eq_true h] at t
      have hk : k < ns.length := by rw [List.length_map] at h; omega
      refine ⟨ns[k], sIf_true t (sSet_da (e2_da (x := .list (ns.map .int)) (y := .int k) rfl rfl ?_))⟩
      show (atI (ns.map PyData.int) (k : Int)).map Cell.da = _
      rw [atI_of, List.getElem?_map, List.getElem?_eq_getElem hk]
      rfl
    · rw [decide_eq_false h] at t
      exact ⟨_, sIf_false t rfl⟩
  obtain ⟨z, s2⟩ := body
  have a1 : fz 2 (en (pInt2 fMax) (aCons (evC (.int 0)) (aCons (e2 pSub (evVar 2) (e2 pPow (evC (.int 10)) (evC (.int 18)))) aNil))) (cs (.da (.int z))) = .val (.da (.int (fMax 0 (z - 10 ^ 18)))) (cs (.da (.int z))) := rfl
  have a2 : e2 pMod (en pInt (aCons (e2 pAdd (e2 pMul (evVar 2) (evC (.int 19))) (e2 pMul (evC (.int 7)) (evVar 1))) aNil)) (e2 pAdd (e2 pPow (evC (.int 10)) (evC (.int 39))) (evC (.int 23))) (cs (.da (.int z))) = .val (.da (.int ((z * 19 + 7 * k) % (10 ^ 39 + 23)))) (cs (.da (.int z))) :=
    e2_da (x := .int (z * 19 + 7 * k)) (y := .int (10 ^ 39 + 23)) (pInt_of (e2_da (p := pAdd) (x := .int (z * 19)) (y := .int (7 * k)) (e2_da (x := .int z) (y := .int 19) rfl rfl (pMul_of (mulOk_r (by decide)))) (e2_da (x := .int 7) (y := .int k) rfl rfl (pMul_of (mulOk_l (by decide)))) rfl)) rfl (pMod_of (by decide))
  refine ⟨[.int (fMax 0 (z - 10 ^ 18)), .int ((z * 19 + 7 * k) % (10 ^ 39 + 23)), .int 0], ⟨_, _, _, rfl, ?_, Int.emod_nonneg _ (by decide), Int.lt_trans (Int.emod_lt_of_pos _ (by decide)) (by decide), by decide, by decide⟩, ?_⟩
  · show 0 ≤ (if z - 10 ^ 18 > 0 then z - 10 ^ 18 else 0)
    split <;> omega
  · refine callM_rtl (nl := 1) (ds := [.list (ns.map .int), .int k]) (cs := cs (.da (.int z))) (sSeq_nx s1 (sSeq_nx s2 (sRet_ol ?_)))
    unfold eLst
    rw [aCons_val a1 (aCons_val a2 (rfl : aCons (evC (.int 0)) aNil _ = .val [.da (.int 0)] _))]
    rfl
end TL
set_option Elab.async false
set_option linter.all false
set_option maxRecDepth 100000
set_option maxHeartbeats 4000000
/-! TL21: stores into own lists, comprehensions that draw. -/
namespace TL
open PySem L2
theorem ixN_at {n j : Nat} (h : j < n) : ixN n (j : Int) = some j := by
  unfold ixN
  rw [if_pos (Int.natCast_nonneg j), if_pos (by omega), Int.toNat_natCast]
theorem sPut_da {i : Nat} {f g : List Cell → ER} {cs cs1 cs2 : List Cell} {d : D} {z : Int} {ds es : List D} {j : Nat} (hf : f cs = .val (.da d) cs1) (h1 : olAt i cs1 = some es) (hg : g cs1 = .val (.da (.int z)) cs2) (h2 : olAt i cs2 = some ds) (hj : ixN ds.length z = some j) : sPut i f g cs = .nx (cs2.set i (.ol (ds.set j d))) := by
  unfold sPut
  rw [hf]
  simp only [ER.toS_val]
  rw [h1]
  simp only
  rw [hg]
  simp only [ER.toS_val]
  rw [h2]
  simp only
  rw [hj]
/-- a comprehension whose items change the state: what holds of it is kept -/
theorem lcGo_inv {vs : List Nat} {tgt : D → List Cell → Option (List Cell)} {tt : List Cell → TR} {f : List Cell → ER} (I : Nat → List Cell → Prop) (P : D → Prop) (N : Nat) : ∀ (ds : List D) (i : Nat) (cs : List Cell), i + ds.length ≤ N →
    (∀ i d cs, i < N → d ∈ ds → I i cs → ∃ cs1 cs3 e, tgt d cs = some cs1 ∧ tt cs1 = .val true cs1 ∧ f cs1 = .val (.da e) cs3 ∧ P e ∧ I (i + 1) (wipeC cs3 vs)) → I i cs →
    ∃ es cs', lcGo vs tgt tt f ds cs = some (es, cs') ∧ es.length = ds.length ∧ (∀ e ∈ es, P e) ∧ I (i + ds.length) cs'
  | [], i, cs, _, _, h => ⟨[], cs, rfl, rfl, fun e he => by simp at he, h⟩
  | d :: ds, i, cs, hN, h, hI => by
    rw [List.length_cons] at hN
    obtain ⟨cs1, cs3, e, h1, h2, h3, hP, h4⟩ := h i d cs (by omega) List.mem_cons_self hI
    obtain ⟨es, cs', g, hl, hp, hI'⟩ := lcGo_inv I P N ds (i + 1) (wipeC cs3 vs) (by omega) (fun i d cs hi hd => h i d cs hi (List.mem_cons_of_mem _ hd)) h4
    refine ⟨e :: es, cs', ?_, by rw [List.length_cons, List.length_cons, hl], fun x hx => ?_, ?_⟩
    · rw [lcGo_yes h1 h2 h3, g]
      rfl
    · rcases List.mem_cons.mp hx with rfl | hx
      · exact hP
      · exact hp x hx
    · rw [List.length_cons, show i + (ds.length + 1) = i + 1 + ds.length by omega]
      exact hI'
theorem eLc_of {vs : List Nat} {src : List Cell → IR} {tgt : D → List Cell → Option (List Cell)} {tt : List Cell → TR} {f : List Cell → ER} {cs cs1 cs2 : List Cell} {ds es : List D} (hs : src cs = .val ds cs1) (hz : ds.length ≤ sizeLine) (h : lcGo vs tgt tt f ds (wipeC cs1 vs) = some (es, cs2)) : eLc vs src tgt tt f cs = .val (.ol es) (backC cs1 cs2 vs) := by
  unfold eLc
  rw [hs, IR.toE_val, if_pos hz, h]
/-- data that are ints -/
theorem ints_of : ∀ {ds : List D}, (∀ d ∈ ds, ∃ i : Int, d = .int i) → ∃ ns : List Int, ds = ns.map .int ∧ ns.length = ds.length
  | [], _ => ⟨[], rfl, rfl⟩
  | d :: ds, h => by
    obtain ⟨i, rfl⟩ := h d List.mem_cons_self
    obtain ⟨ns, rfl, hl⟩ := ints_of fun e he => h e (List.mem_cons_of_mem _ he)
    exact ⟨i :: ns, rfl, by rw [List.length_cons, List.length_cons, hl]⟩
theorem eLst_of {f : List Cell → AR} {cs cs1 : List Cell} (ds : List D) (h : f cs = .val (ds.map Cell.da) cs1) (hl : ds.length ≤ 1000) : eLst f cs = .val (.ol ds) cs1 := by
  have hd : ∀ ds : List D, dAll (ds.map Cell.da) = some ds := fun ds => by
    induction ds with
    | nil => rfl
    | cons d ds ih => rw [List.map_cons, dAll_cons, ih]; rfl
  unfold eLst
  rw [h, AR.toE_val, hd]
  exact if_pos (Nat.le_trans hl (by decide))
theorem eTup_of {f : List Cell → AR} {cs cs1 : List Cell} (ds : List D) (h : f cs = .val (ds.map Cell.da) cs1) (hl : ds.length ≤ 1000) : eTup f cs = .val (.da (.tuple ds)) cs1 := by
  have hd : ∀ ds : List D, dAll (ds.map Cell.da) = some ds := fun ds => by
    induction ds with
    | nil => rfl
    | cons d ds ih => rw [List.map_cons, dAll_cons, ih]; rfl
  unfold eTup
  rw [h, AR.toE_val, hd]
  exact if_pos (Nat.le_trans hl (by decide))
/-- a draw of an int at a call -/
theorem draw_call {n i : Nat} {cs cs1 : List Cell} {fs : List D} {k : Int} {f : List Cell → AR} (hf : Fd n fs) (hi : cs1[i]? = some (.ol fs)) (h : f cs = .val [.bw i, .da (.int k)] cs1) (hk : 1 ≤ k) (hk2 : k < 2 ^ 60) (hn : n ≤ 1000000) : ∃ (r : Int) (fs' : List D), Fd (n + 1) fs' ∧ 0 ≤ r ∧ r < k ∧ eCall 2 m_draw f cs = .val (.da (.int r)) (cs1.set i (.ol fs')) := by
  obtain ⟨r, fs', h1, h2, h3, e⟩ := draw_ok hf hk hk2 hn
  exact ⟨r, fs', h1, h2, h3, eCall_bw (n := 2) (i := i) [.int k] h hi rfl e⟩
theorem one_call {n i : Nat} {cs cs1 : List Cell} {fs : List D} {things : List D} {f : List Cell → AR} (hf : Fd n fs) (hi : cs1[i]? = some (.ol fs)) (h : f cs = .val [.bw i, .da (.list things)] cs1) (h0 : 0 < things.length) (hl : things.length ≤ 1000000) (hn : n ≤ 1000000) : ∃ (d : D) (fs' : List D), Fd (n + 1) fs' ∧ d ∈ things ∧ eCall 2 m_one f cs = .val (.da d) (cs1.set i (.ol fs')) := by
  obtain ⟨d, fs', h1, h2, e⟩ := one_ok hf things h0 hn hl
  exact ⟨d, fs', h1, h2, eCall_bw (n := 2) (i := i) [.list things] h hi rfl e⟩
theorem sSeq_assoc (f g h : List Cell → SR) : sSeq (sSeq f g) h = sSeq f (sSeq g h) := funext fun cs => by
  unfold sSeq
  cases f cs <;> rfl
theorem sRet_bw {np i : Nat} {f : List Cell → ER} {cs cs1 : List Cell} {ds : List D} (h : f cs = .val (.bw i) cs1) (hi : cs1[i]? = some (.ol ds)) (hn : np ≤ i) : sRet np f cs = .rt (.ol ds) (cs1.set i .un) := by
  unfold sRet
  rw [h, ER.toS_val, retC_bw, hi]
  exact if_pos hn
theorem tU_b {f : List Cell → ER} {cs cs1 : List Cell} {b : Bool} (h : f cs = .val (.da (.bool b)) cs1) : tU f cs = .val b cs1 := tU_bool h
theorem sPar_of {np i j : Nat} {f : List Cell → AR} {cs cs1 : List Cell} {a b : Cell} (h : f cs = .val [a, b] cs1) (ha : flatC a = true) (hb : flatC b = true) (hi : np ≤ i) (hj : np ≤ j) : sPar np i j f cs = .nx ((cs1.set i a).set j b) := by
  have cs_ : ∀ k, np ≤ k → ∀ cs, canSet np k cs = true := fun k hk cs => by rw [TL.canSet_eq, decide_eq_true hk]; rfl
  unfold sPar
  rw [h, AR.toS_val]
  show (if flatC a = true ∧ flatC b = true then _ else _) = _
  rw [if_pos ⟨ha, hb⟩]
  unfold put1
  rw [if_pos (cs_ i hi _), Option.bind_some, if_pos (cs_ j hj _)]
theorem aCons_err1 {f : List Cell → ER} {g : List Cell → AR} {cs cs1 : List Cell} {e : Err} (h : f cs = .err e cs1) : aCons f g cs = .err e cs1 := by
  unfold aCons
  rw [h]
  rfl
theorem aCons_err2 {f : List Cell → ER} {g : List Cell → AR} {cs cs1 cs2 : List Cell} {c : Cell} {e : Err} (h1 : f cs = .val c cs1) (h2 : g cs1 = .err e cs2) : aCons f g cs = .err e cs2 := by
  unfold aCons
  rw [h1, ER.toA_val, h2]
  rfl
theorem eTup_err {f : List Cell → AR} {cs cs1 : List Cell} {e : Err} (h : f cs = .err e cs1) : eTup f cs = .err e cs1 := by
  unfold eTup
  rw [h]
  rfl
theorem eLst_err {f : List Cell → AR} {cs cs1 : List Cell} {e : Err} (h : f cs = .err e cs1) : eLst f cs = .err e cs1 := by
  unfold eLst
  rw [h]
  rfl
theorem sTry_nx {np i : Nat} {hit : Str → Option Bool} {f g : List Cell → SR} {cs cs1 : List Cell} (h : f cs = .nx cs1) : sTry np i hit f g cs = .nx cs1 := by
  unfold sTry
  rw [h]
theorem sTry_hit {np i : Nat} {hit : Str → Option Bool} {f g : List Cell → SR} {cs cs1 cs2 : List Cell} {nm : Str} (h : f cs = .err ⟨nm, none⟩ cs1) (hh : hit nm = some true) (hn : np ≤ i) (h2 : g (cs1.set i (.ex nm)) = .nx cs2) : sTry np i hit f g cs = .nx (cs2.set i .un) := by
  have c : ∀ cs, canSet np i cs = true := fun cs => by rw [TL.canSet_eq, decide_eq_true hn]; rfl
  unfold sTry
  rw [h]
  simp only [hh, c, if_true, h2]
  unfold goneC
  simp only [c, if_true]
theorem vIsi_ex {hd : D → Option Bool} {hx : Str → Option Bool} {f : List Cell → ER} {cs cs1 : List Cell} {nm : Str} {b : Bool} (h : f cs = .val (.ex nm) cs1) (hb : hx nm = some b) : vIsi hd hx f cs = .val (.da (.bool b)) cs1 := by
  unfold vIsi
  rw [h, ER.bind_val]
  unfold isiC
  simp only [hb]
theorem eJoin_ol {f g : List Cell → ER} {cs cs1 cs2 : List Cell} {x : Str} {ds : List D} {c : Cell} (h : f cs = .val (.da (.str x)) cs1) (h2 : g cs1 = .val (.ol ds) cs2) (hj : pJoin (.str x) (.list ds) = some c) : eJoin f g cs = .val c cs2 := by
  unfold eJoin
  rw [h, ER.bind_val, h2]
  simp only [ER.bind_val]
  unfold k2
  simp only [pk_da, pk_ol, hj, ofO_some]
theorem pEq_dec {a b : D} {k : Bool} (h0 : eqF a b = none) (h1 : SeqAt.shaped a = true) (h2 : SeqAt.shaped b = true) (h3 : PyData.eqv a b = k) : pEq a b = some (.da (.bool k)) := by
  unfold pEq
  rw [h0]
  show (if _ then _ else _) = _
  rw [if_pos ⟨h1, h2⟩, h3]
theorem pJoin_of {a x : Str} {ys : List Str} (h1 : (ys.map (·.length)).sum + ys.length * a.length ≤ 16777216) (h2 : Txt.join a ys = x) : pJoin (.str a) (.list (ys.map .str)) = some (.da (.str x)) := by
  unfold pJoin
  simp only [strsOf_map]
  rw [if_pos h1, h2]
theorem sAsg_of {f : List Cell → ER} {g : D → List Cell → Option (List Cell)} {cs cs1 cs2 : List Cell} {d : D} (h : f cs = .val (.da d) cs1) (h2 : g d cs1 = some cs2) : sAsg f g cs = .nx cs2 := by
  unfold sAsg
  rw [h, ER.toS_val]
  show (match g d cs1 with | some cs2 => SR.nx cs2 | none => SR.bad) = _
  rw [h2]
end TL
set_option Elab.async false
set_option linter.all false
set_option maxRecDepth 100000
set_option maxHeartbeats 4000000

/-! K76A: the mirrors, printed by gen.py. -/
namespace K76
open PySem L2 TL
noncomputable section
def top (i : Nat) : Stmt := PySem.Challenge.pw_wholefurther_k76_whole_common_divisors_o.main.body.getD i (.Pass ⟨0, 0, 0, 0⟩)
def hx_BadNumber : Str → Option Bool := tab [("BadNumber", true), ("BadPolynomial", false), ("BadTarget", false), ("NoChoice", false), ("NotInteger", false), ("TooMany", false)]
def hx_NoChoice : Str → Option Bool := tab [("BadNumber", false), ("BadPolynomial", false), ("BadTarget", false), ("NoChoice", true), ("NotInteger", false), ("TooMany", false)]
def hx_TooMany : Str → Option Bool := tab [("BadNumber", false), ("BadPolynomial", false), ("BadTarget", false), ("NoChoice", false), ("NotInteger", false), ("TooMany", true)]
def hit_WholeError : Str → Option Bool := tab [("BadNumber", true), ("BadPolynomial", true), ("BadTarget", true), ("NoChoice", true), ("NotInteger", true), ("TooMany", true)]
/-! ### _law_draw -/
abbrev s__law_draw : Stmt := top 55
theorem S__law_draw : FnScope ["feed", "many", "rest", "got", "stir"] ["feed", "many"] (defScope s__law_draw) := ⟨rfl, rfl, rfl, by decide +kernel, rfl, by decide +kernel, by decide +kernel⟩
def b__law_draw : List Cell → SR := (sSeq (sIf (tB (e2 (pCmp fGt) (e2 pIx (evVar 0) (evC (.int 0))) (evC (.int 0)))) (sSeq (sSet 2 2 (e2 pDiv (e2 pIx (evVar 0) (evC (.int 0))) (evVar 1)))
  (sSeq (sSet 2 3 (e2 pSub (e2 pIx (evVar 0) (evC (.int 0))) (e2 pMul (evVar 2) (evVar 1))))
  (sSeq (sPut 0 (fz 2 (evVar 2)) (evC (.int 0)))
  (sRet 2 (evVar 3))))) sNext)
  (sSeq (sPut 0 (fz 2 (e2 pAdd (e2 pIx (evVar 0) (evC (.int 2))) (evC (.int 1)))) (evC (.int 2)))
  (sSeq (sSet 2 4 (e2 pAdd (e2 pIx (evVar 0) (evC (.int 1))) (e2 pMul (evC (.int 6700417)) (e2 pIx (evVar 0) (evC (.int 2))))))
  (sSeq (sSet 2 4 (e2 pMod (en pInt (aCons (e2 pAdd (e2 pMul (e2 pMul (evVar 4) (evVar 4)) (evVar 4)) (e2 pMul (evC (.int 15485863)) (e2 pIx (evVar 0) (evC (.int 2))))) aNil)) (e2 pAdd (e2 pPow (evC (.int 10)) (evC (.int 43))) (evC (.int 57)))))
  (sSeq (sSet 2 4 (e2 pMod (en pInt (aCons (e2 pAdd (e2 pMul (evVar 4) (evVar 4)) (evC (.int 32452843))) aNil)) (e2 pAdd (e2 pPow (evC (.int 10)) (evC (.int 38))) (evC (.int 133)))))
  (sRet 2 (e2 pMod (en pInt (aCons (e2 pDiv (evVar 4) (e2 pPow (evC (.int 10)) (evC (.int 9)))) aNil)) (evVar 1))))))))
def m__law_draw : List Cell → ER := callM 3 b__law_draw
/-! ### _law_one -/
abbrev s__law_one : Stmt := top 56
theorem S__law_one : FnScope ["feed", "things"] ["feed", "things"] (defScope s__law_one) := ⟨rfl, rfl, rfl, by decide +kernel, rfl, by decide +kernel, by decide +kernel⟩
def b__law_one : List Cell → SR := (sRet 2 (e2 pIx (evVar 1) (eCall 2 m__law_draw (aCons (evVar 0) (aCons (fz 2 (en pLen (aCons (evVar 1) aNil))) aNil)))))
def m__law_one : List Cell → ER := callM 0 b__law_one
/-! ### _law_tops -/
abbrev s__law_tops : Stmt := top 61
theorem S__law_tops : FnScope ["feed", "size", "found", "turn"] ["feed"] (defScope s__law_tops) := ⟨rfl, rfl, rfl, by decide +kernel, rfl, by decide +kernel, by decide +kernel⟩
def b__law_tops : List Cell → SR := (sSeq (sSet 1 1 (eCall 2 m__law_one (aCons (evVar 0) (aCons (fz 1 (eLst (aCons (evC (.int 1)) (aCons (evC (.int 2)) (aCons (evC (.int 3)) (aCons (evC (.int 5)) (aCons (evC (.int 5)) (aCons (evC (.int 30)) aNil)))))))) aNil))))
  (sSeq (sSet 1 2 (eLc [3] (iRange1 (aCons (eCall 2 m__law_one (aCons (evVar 0) (aCons (fz 1 (eLst (aCons (evC (.int 2)) (aCons (evC (.int 2)) (aCons (evC (.int 3)) aNil))))) aNil))) aNil)) (gN 1 3) tTrue (e2 pSub (eCall 2 m__law_draw (aCons (evVar 0) (aCons (fz 1 (e2 pAdd (e2 pMul (evC (.int 2)) (evVar 1)) (evC (.int 1)))) aNil))) (evVar 1))))
  (sRet 1 (e2 pAdd (eSl (evVar 2) oNone (oSome (e1 pNeg (evC (.int 1))))) (eLst (aCons (fz 1 (vIf (tB (e2 pNe (e2 pIx (evVar 2) (e1 pNeg (evC (.int 1)))) (evC (.int 0)))) (e2 pIx (evVar 2) (e1 pNeg (evC (.int 1)))) (evC (.int 1)))) aNil))))))
def m__law_tops : List Cell → ER := callM 3 b__law_tops
/-! ### _law_times -/
abbrev s__law_times : Stmt := top 59
theorem S__law_times : FnScope ["one", "other", "found", "at", "top", "place", "more"] ["one", "other"] (defScope s__law_times) := ⟨rfl, rfl, rfl, by decide +kernel, rfl, by decide +kernel, by decide +kernel⟩
def b__law_times : List Cell → SR := (sSeq (sSet 2 2 (eRep (eLst (aCons (evC (.int 0)) aNil)) (e2 pSub (e2 pAdd (en pLen (aCons (evVar 0) aNil)) (en pLen (aCons (evVar 1) aNil))) (evC (.int 1)))))
  (sSeq (sFor (iEnumA (aCons (fz 2 (evVar 0)) aNil)) (gT 2 (gsCons (gN 2 3) (gsCons (gN 2 4) gsNil)))
  (sFor (iEnumA (aCons (fz 2 (evVar 1)) aNil)) (gT 2 (gsCons (gN 2 5) (gsCons (gN 2 6) gsNil)))
  (sPut 2 (fz 2 (e2 pAdd (e2 pIx (evVar 2) (e2 pAdd (evVar 3) (evVar 5))) (e2 pMul (evVar 4) (evVar 6)))) (e2 pAdd (evVar 3) (evVar 5)))))
  (sRet 2 (evVar 2))))
def m__law_times : List Cell → ER := callM 5 b__law_times
/-! ### _law_fits -/
abbrev s__law_fits : Stmt := top 62
theorem S__law_fits : FnScope ["tops", "top"] ["tops"] (defScope s__law_fits) := ⟨rfl, rfl, rfl, by decide +kernel, rfl, by decide +kernel, by decide +kernel⟩
def b__law_fits : List Cell → SR := (sRet 1 (vAnd (e3 (qCmp fLe) (qCmp fLe) (evC (.int 2)) (en pLen (aCons (evVar 0) aNil)) (evC (.int 3))) (vAnd (e2 pNe (e2 pIx (evVar 0) (e1 pNeg (evC (.int 1)))) (evC (.int 0))) (e2 (pCmp fLe) (en pMax1 (aCons (eLc [1] (iSeq 1 (evVar 0)) (gN 1 1) tTrue (fz 1 (en pAbs (aCons (evVar 1) aNil)))) aNil)) (evC (.int 30))))))
def m__law_fits : List Cell → ER := callM 1 b__law_fits
/-! ### _law_two -/
abbrev s__law_two : Stmt := top 63
theorem S__law_two : FnScope ["feed", "one", "other", "way", "made", "scale", "step", "top", "part", "found", "tops"] ["feed"] (defScope s__law_two) := ⟨rfl, rfl, rfl, by decide +kernel, rfl, by decide +kernel, by decide +kernel⟩
def b__law_two : List Cell → SR := (sSeq (sPar3 1 1 2 3 (aCons (fz 1 (eCall 1 m__law_tops (aCons (evVar 0) aNil))) (aCons (fz 1 (eCall 1 m__law_tops (aCons (evVar 0) aNil))) (aCons (fz 1 (eCall 2 m__law_draw (aCons (evVar 0) (aCons (evC (.int 6)) aNil)))) aNil))))
  (sSeq (sSet 1 4 (en pListOf (aCons (evVar 2) aNil)))
  (sSeq (sIf (tB (e2 pEq (evVar 3) (evC (.int 0)))) (sSeq (sAsg (eTup (aCons (e2 pSub (eCall 2 m__law_draw (aCons (evVar 0) (aCons (evC (.int 5)) aNil))) (evC (.int 2))) (aCons (e2 pSub (eCall 2 m__law_draw (aCons (evVar 0) (aCons (evC (.int 9)) aNil))) (evC (.int 4))) aNil))) (gT 2 (gsCons (gN 1 5) (gsCons (gN 1 6) gsNil))))
  (sSeq (sSet 1 4 (eLc [7] (iSeq 1 (evVar 1)) (gN 1 7) tTrue (fz 1 (e2 pMul (evVar 5) (evVar 7)))))
  (sSet 1 4 (e2 pAdd (eLst (aCons (fz 1 (e2 pAdd (e2 pIx (evVar 4) (evC (.int 0))) (evVar 6))) (aCons (e2 pSub (e2 pAdd (e2 pIx (evVar 4) (evC (.int 1))) (eCall 2 m__law_draw (aCons (evVar 0) (aCons (evC (.int 3)) aNil)))) (evC (.int 1))) aNil))) (eSl (evVar 4) (oSome (evC (.int 2))) oNone))))) sNext)
  (sSeq (sIf (tB (e2 pEq (evVar 3) (evC (.int 1)))) (sSeq (sSet 1 5 (eCall 2 m__law_one (aCons (evVar 0) (aCons (fz 1 (eLst (aCons (evC (.int 2)) (aCons (evC (.int 3)) (aCons (evC (.int 6)) aNil))))) aNil))))
  (sPar 1 1 4 (aCons (eLc [7] (iSeq 1 (evVar 1)) (gN 1 7) tTrue (fz 1 (e2 pMul (evVar 5) (evVar 7)))) (aCons (eLc [7] (iSeq 1 (evVar 2)) (gN 1 7) tTrue (fz 1 (e2 pMul (evVar 5) (evVar 7)))) aNil)))) sNext)
  (sSeq (sIf (tB (e2 pEq (evVar 3) (evC (.int 2)))) (sPar 1 1 4 (aCons (eLst (aCons (fz 1 (e2 pMul (evC (.int 2)) (eCall 2 m__law_draw (aCons (evVar 0) (aCons (evC (.int 3)) aNil))))) (aCons (evC (.int 1)) (aCons (fz 1 (eCall 2 m__law_one (aCons (evVar 0) (aCons (fz 1 (eLst (aCons (evC (.int 1)) (aCons (e1 pNeg (evC (.int 1))) aNil)))) aNil)))) aNil)))) (aCons (eLst (aCons (e2 pSub (e2 pMul (evC (.int 2)) (eCall 2 m__law_draw (aCons (evVar 0) (aCons (evC (.int 5)) aNil)))) (evC (.int 4))) (aCons (fz 1 (eCall 2 m__law_one (aCons (evVar 0) (aCons (fz 1 (eLst (aCons (evC (.int 1)) (aCons (evC (.int 3)) aNil)))) aNil)))) (aCons (fz 1 (eCall 2 m__law_one (aCons (evVar 0) (aCons (fz 1 (eLst (aCons (evC (.int 1)) (aCons (e1 pNeg (evC (.int 1))) (aCons (evC (.int 3)) aNil))))) aNil)))) aNil)))) aNil))) sNext)
  (sSeq (sIf (tB (e2 pEq (evVar 3) (evC (.int 3)))) (sSeq (sSet 1 8 (eLst (aCons (e2 pSub (eCall 2 m__law_draw (aCons (evVar 0) (aCons (evC (.int 7)) aNil))) (evC (.int 3))) (aCons (evC (.int 1)) aNil))))
  (sPar 1 1 4 (aCons (eCall 2 m__law_times (aCons (fz 1 (evVar 8)) (aCons (fz 1 (eLst (aCons (e2 pSub (eCall 2 m__law_draw (aCons (evVar 0) (aCons (evC (.int 5)) aNil))) (evC (.int 2))) (aCons (fz 1 (eCall 2 m__law_one (aCons (evVar 0) (aCons (fz 1 (eLst (aCons (evC (.int 1)) (aCons (evC (.int 2)) aNil)))) aNil)))) aNil)))) aNil))) (aCons (eCall 2 m__law_one (aCons (evVar 0) (aCons (fz 1 (eLst (aCons (fz 1 (evVar 8)) (aCons (fz 1 (eCall 2 m__law_times (aCons (fz 1 (evVar 8)) (aCons (fz 1 (eLst (aCons (e2 pSub (eCall 2 m__law_draw (aCons (evVar 0) (aCons (evC (.int 5)) aNil))) (evC (.int 2))) (aCons (evC (.int 1)) aNil)))) aNil)))) (aCons (fz 1 (evVar 2)) aNil))))) aNil))) aNil)))) sNext)
  (sSeq (sSet 1 9 (eLc [10] (iSeq 1 (eTup (aCons (fz 1 (evVar 1)) (aCons (fz 1 (evVar 4)) aNil)))) (gN 1 10) tTrue (fz 1 (vIf (tU (eCall 1 m__law_fits (aCons (fz 1 (evVar 10)) aNil))) (en pTupOf (aCons (evVar 10) aNil)) (eTup (aCons (evC (.int 1)) (aCons (evC (.int 2)) aNil)))))))
  (sRet 1 (vIf (tB (e2 pEq (eCall 2 m__law_draw (aCons (evVar 0) (aCons (evC (.int 2)) aNil))) (evC (.int 0)))) (evVar 9) (e1 pRevA (evVar 9)))))))))))
def m__law_two : List Cell → ER := callM 10 b__law_two
/-! ### _law_root_in -/
abbrev s__law_root_in : Stmt := top 64
theorem S__law_root_in : FnScope ["one", "other", "found", "many", "at", "top", "part", "turn"] ["one", "other"] (defScope s__law_root_in) := ⟨rfl, rfl, rfl, by decide +kernel, rfl, by decide +kernel, by decide +kernel⟩
def b__law_root_in : List Cell → SR := (sSeq (sPar 2 2 3 (aCons (evC (.int 0)) (aCons (e2 pSub (en pLen (aCons (evVar 1) aNil)) (evC (.int 1))) aNil)))
  (sSeq (sFor (iEnumA (aCons (fz 2 (evVar 1)) aNil)) (gT 2 (gsCons (gN 2 4) (gsCons (gN 2 5) gsNil)))
  (sSeq (sSet 2 6 (evVar 5))
  (sSeq (sFor (iRange1 (aCons (evVar 4) aNil)) (gN 2 7)
  (sSet 2 6 (e2 pMul (evVar 6) (e1 pNeg (e2 pIx (evVar 0) (evC (.int 0)))))))
  (sSeq (sFor (iRange1 (aCons (e2 pSub (evVar 3) (evVar 4)) aNil)) (gN 2 7)
  (sSet 2 6 (e2 pMul (evVar 6) (e2 pIx (evVar 0) (evC (.int 1))))))
  (sSet 2 2 (e2 pAdd (evVar 2) (evVar 6)))))))
  (sRet 2 (evVar 2))))
def m__law_root_in : List Cell → ER := callM 6 b__law_root_in
/-! ### _law_resultant -/
abbrev s__law_resultant : Stmt := top 65
theorem S__law_resultant : FnScope ["one", "other", "c", "b", "a", "f", "e", "d"] ["one", "other"] (defScope s__law_resultant) := ⟨rfl, rfl, rfl, by decide +kernel, rfl, by decide +kernel, by decide +kernel⟩
def b__law_resultant : List Cell → SR := (sSeq (sIf (tB (e2 pEq (en pLen (aCons (evVar 0) aNil)) (evC (.int 2)))) (sRet 2 (eCall 2 m__law_root_in (aCons (fz 2 (evVar 0)) (aCons (fz 2 (evVar 1)) aNil)))) sNext)
  (sSeq (sIf (tB (e2 pEq (en pLen (aCons (evVar 1) aNil)) (evC (.int 2)))) (sRet 2 (eCall 2 m__law_root_in (aCons (fz 2 (evVar 1)) (aCons (fz 2 (evVar 0)) aNil)))) sNext)
  (sSeq (sAsg (fz 2 (evVar 0)) (gT 3 (gsCons (gN 2 2) (gsCons (gN 2 3) (gsCons (gN 2 4) gsNil)))))
  (sSeq (sAsg (fz 2 (evVar 1)) (gT 3 (gsCons (gN 2 5) (gsCons (gN 2 6) (gsCons (gN 2 7) gsNil)))))
  (sRet 2 (e2 pSub (e2 pMul (e2 pSub (e2 pMul (evVar 4) (evVar 5)) (e2 pMul (evVar 7) (evVar 2))) (e2 pSub (e2 pMul (evVar 4) (evVar 5)) (e2 pMul (evVar 7) (evVar 2)))) (e2 pMul (e2 pSub (e2 pMul (evVar 4) (evVar 6)) (e2 pMul (evVar 7) (evVar 3))) (e2 pSub (e2 pMul (evVar 3) (evVar 5)) (e2 pMul (evVar 6) (evVar 2))))))))))
def m__law_resultant : List Cell → ER := callM 6 b__law_resultant
/-! ### is_integer -/
abbrev s_is_integer : Stmt := top 13
theorem S_is_integer : FnScope ["thing"] ["thing"] (defScope s_is_integer) := ⟨rfl, rfl, rfl, by decide +kernel, rfl, by decide +kernel, by decide +kernel⟩
def b_is_integer : List Cell → SR := (sRet 1 (vAnd (vIsi (isT "int") (fun _ => none) (evVar 0)) (vNot (vIsi (isT "bool") (fun _ => none) (evVar 0)))))
def m_is_integer : List Cell → ER := callM 0 b_is_integer
/-! ### in_range -/
abbrev s_in_range : Stmt := top 14
theorem S_in_range : FnScope ["thing", "low", "high"] ["thing", "low", "high"] (defScope s_in_range) := ⟨rfl, rfl, rfl, by decide +kernel, rfl, by decide +kernel, by decide +kernel⟩
def b_in_range : List Cell → SR := (sRet 3 (vAnd (eCall 1 m_is_integer (aCons (fz 3 (evVar 0)) aNil)) (e3 (qCmp fLe) (qCmp fLe) (evVar 1) (evVar 0) (evVar 2))))
def m_in_range : List Cell → ER := callM 0 b_in_range
/-! ### ascends -/
abbrev s_ascends : Stmt := top 15
theorem S_ascends : FnScope ["things", "low", "high", "at"] ["things", "low", "high"] (defScope s_ascends) := ⟨rfl, rfl, rfl, by decide +kernel, rfl, by decide +kernel, by decide +kernel⟩
def b_ascends : List Cell → SR := (sSeq (sIf (tOr (tNot (tU (vIsi (isT "tuple") (fun _ => none) (evVar 0)))) (tB (e2 pEq (en pLen (aCons (evVar 0) aNil)) (evC (.int 0))))) (sRet 3 (evC (.bool false))) sNext)
  (sSeq (sFor (iRange1 (aCons (en pLen (aCons (evVar 0) aNil)) aNil)) (gN 3 3)
  (sSeq (sIf (tNot (tU (eCall 3 m_in_range (aCons (fz 3 (e2 pIx (evVar 0) (evVar 3))) (aCons (fz 3 (evVar 1)) (aCons (fz 3 (evVar 2)) aNil)))))) (sRet 3 (evC (.bool false))) sNext)
  (sIf (tAnd (tB (e2 (pCmp fGt) (evVar 3) (evC (.int 0)))) (tB (e2 (pCmp fGe) (e2 pIx (evVar 0) (e2 pSub (evVar 3) (evC (.int 1)))) (e2 pIx (evVar 0) (evVar 3))))) (sRet 3 (evC (.bool false))) sNext)))
  (sRet 3 (evC (.bool true)))))
def m_ascends : List Cell → ER := callM 1 b_ascends
/-! ### leaf_fits -/
abbrev s_leaf_fits : Stmt := top 17
theorem S_leaf_fits : FnScope ["thing", "kind"] ["thing"] (defScope s_leaf_fits) := ⟨rfl, rfl, rfl, by decide +kernel, rfl, by decide +kernel, by decide +kernel⟩
def b_leaf_fits : List Cell → SR := (sSeq (sSet 1 1 (e2 pIx (evVar 0) (evC (.int 0))))
  (sSeq (sIf (tB (e2 pEq (evVar 1) (evC (.str "rests")))) (sRet 1 (vAnd (e2 pEq (en pLen (aCons (evVar 0) aNil)) (evC (.int 3))) (vAnd (eCall 3 m_in_range (aCons (fz 1 (e2 pIx (evVar 0) (evC (.int 1)))) (aCons (evC (.int 1)) (aCons (evC (.int 60)) aNil)))) (eCall 3 m_ascends (aCons (fz 1 (e2 pIx (evVar 0) (evC (.int 2)))) (aCons (evC (.int 0)) (aCons (e2 pSub (e2 pIx (evVar 0) (evC (.int 1))) (evC (.int 1))) aNil))))))) sNext)
  (sSeq (sIf (tB (e2 pEq (evVar 1) (evC (.str "list")))) (sRet 1 (vAnd (e2 pEq (en pLen (aCons (evVar 0) aNil)) (evC (.int 2))) (vAnd (eCall 3 m_ascends (aCons (fz 1 (e2 pIx (evVar 0) (evC (.int 1)))) (aCons (e1 pNeg (evC (.int 100))) (aCons (evC (.int 100)) aNil)))) (e2 (pCmp fLe) (en pLen (aCons (e2 pIx (evVar 0) (evC (.int 1))) aNil)) (evC (.int 12)))))) sNext)
  (sSeq (sIf (tB (e2 pEq (evVar 1) (evC (.str "powers")))) (sRet 1 (vAnd (e2 pEq (en pLen (aCons (evVar 0) aNil)) (evC (.int 2))) (eCall 3 m_in_range (aCons (fz 1 (e2 pIx (evVar 0) (evC (.int 1)))) (aCons (evC (.int 2)) (aCons (evC (.int 10)) aNil)))))) sNext)
  (sRet 1 (vAnd (e2 pEq (en pLen (aCons (evVar 0) aNil)) (evC (.int 1))) (vOr (e2 pEq (evVar 1) (evC (.str "squares"))) (e2 pEq (evVar 1) (evC (.str "primes"))))))))))
def m_leaf_fits : List Cell → ER := callM 1 b_leaf_fits
/-! ### move_fits -/
abbrev s_move_fits : Stmt := top 16
theorem S_move_fits : FnScope ["a", "b"] ["a", "b"] (defScope s_move_fits) := ⟨rfl, rfl, rfl, by decide +kernel, rfl, by decide +kernel, by decide +kernel⟩
def b_move_fits : List Cell → SR := (sRet 2 (vAnd (eCall 3 m_in_range (aCons (fz 2 (evVar 0)) (aCons (e1 pNeg (evC (.int 20))) (aCons (evC (.int 20)) aNil)))) (vAnd (e2 pNe (evVar 0) (evC (.int 0))) (eCall 3 m_in_range (aCons (fz 2 (evVar 1)) (aCons (e1 pNeg (evC (.int 200))) (aCons (evC (.int 200)) aNil)))))))
def m_move_fits : List Cell → ER := callM 0 b_move_fits
/-! ### tuples_in -/
abbrev s_tuples_in : Stmt := top 18
theorem S_tuples_in : FnScope ["thing", "levels", "factor", "plain", "kind", "inner", "first", "second"] ["thing", "levels", "factor", "plain"] (defScope s_tuples_in) := ⟨rfl, rfl, rfl, by decide +kernel, rfl, by decide +kernel, by decide +kernel⟩
def b_tuples_in (r : List Cell → ER) : List Cell → SR := (sSeq (sIf (tOr (tB (e2 pEq (evVar 1) (evC (.int 0)))) (tOr (tNot (tU (vIsi (isT "tuple") (fun _ => none) (evVar 0)))) (tB (e2 pEq (en pLen (aCons (evVar 0) aNil)) (evC (.int 0)))))) (sRet 4 (evC (.int 0))) sNext)
  (sSeq (sSet 4 4 (e2 pIx (evVar 0) (evC (.int 0))))
  (sSeq (sIf (tB (e2 pEq (evVar 4) (evC (.str "moved")))) (sSeq (sIf (tOr (tB (e2 pNe (en pLen (aCons (evVar 0) aNil)) (evC (.int 4)))) (tOr (tNot (tU (eCall 2 m_move_fits (aCons (fz 4 (e2 pIx (evVar 0) (evC (.int 2)))) (aCons (fz 4 (e2 pIx (evVar 0) (evC (.int 3)))) aNil))))) (tB (e2 (pCmp fGt) (en pAbs (aCons (e2 pMul (evVar 2) (e2 pIx (evVar 0) (evC (.int 2)))) aNil)) (evC (.int 400)))))) (sRet 4 (evC (.int 0))) sNext)
  (sSeq (sSet 4 5 (eCall 4 (r) (aCons (fz 4 (e2 pIx (evVar 0) (evC (.int 1)))) (aCons (e2 pSub (evVar 1) (evC (.int 1))) (aCons (fz 4 (e2 pMul (evVar 2) (e2 pIx (evVar 0) (evC (.int 2))))) (aCons (fz 4 (evVar 3)) aNil))))))
  (sRet 4 (vIf (tB (e2 pEq (evVar 5) (evC (.int 0)))) (evC (.int 0)) (e2 pAdd (evVar 5) (evC (.int 1))))))) sNext)
  (sSeq (sIf (tB (e2 pEq (evVar 4) (evC (.str "either")))) (sSeq (sIf (tB (e2 pNe (en pLen (aCons (evVar 0) aNil)) (evC (.int 3)))) (sRet 4 (evC (.int 0))) sNext)
  (sSeq (sSet 4 6 (eCall 4 (r) (aCons (fz 4 (e2 pIx (evVar 0) (evC (.int 1)))) (aCons (e2 pSub (evVar 1) (evC (.int 1))) (aCons (fz 4 (evVar 2)) (aCons (evC (.bool true)) aNil))))))
  (sSeq (sSet 4 7 (eCall 4 (r) (aCons (fz 4 (e2 pIx (evVar 0) (evC (.int 2)))) (aCons (e2 pSub (evVar 1) (evC (.int 1))) (aCons (fz 4 (evVar 2)) (aCons (evC (.bool true)) aNil))))))
  (sRet 4 (vIf (tOr (tB (e2 pEq (evVar 6) (evC (.int 0)))) (tB (e2 pEq (evVar 7) (evC (.int 0))))) (evC (.int 0)) (e2 pAdd (e2 pAdd (evVar 6) (evVar 7)) (evC (.int 1)))))))) sNext)
  (sSeq (sIf (tOr (tNot (tU (eCall 1 m_leaf_fits (aCons (fz 4 (evVar 0)) aNil)))) (tAnd (tU (evVar 3)) (tAnd (tB (e2 pNe (evVar 4) (evC (.str "rests")))) (tB (e2 pNe (evVar 4) (evC (.str "list"))))))) (sRet 4 (evC (.int 0))) sNext)
  (sRet 4 (evC (.int 1))))))))
def m_tuples_in : Nat → List Cell → ER
  | 0 => fun _ => .bad
  | n + 1 => callM 4 (b_tuples_in (m_tuples_in n))
/-! ### is_set -/
abbrev s_is_set : Stmt := top 19
theorem S_is_set : FnScope ["thing"] ["thing"] (defScope s_is_set) := ⟨rfl, rfl, rfl, by decide +kernel, rfl, by decide +kernel, by decide +kernel⟩
def b_is_set : List Cell → SR := (sRet 1 (e3 (qCmp fLt) (qCmp fLe) (evC (.int 0)) (eCall 4 (m_tuples_in 7) (aCons (fz 1 (evVar 0)) (aCons (evC (.int 6)) (aCons (evC (.int 1)) (aCons (evC (.bool false)) aNil))))) (evC (.int 12))))
def m_is_set : List Cell → ER := callM 0 b_is_set
/-! ### check_rests -/
abbrev s_check_rests : Stmt := top 36
theorem S_check_rests : FnScope ["numbers"] ["numbers"] (defScope s_check_rests) := ⟨rfl, rfl, rfl, by decide +kernel, rfl, by decide +kernel, by decide +kernel⟩
def b_check_rests : List Cell → SR := (sIf (tOr (tNot (tU (eCall 1 m_is_set (aCons (fz 1 (evVar 0)) aNil)))) (tB (e2 pNe (e2 pIx (evVar 0) (evC (.int 0))) (evC (.str "rests"))))) (sRaise "BadTarget") sNext)
def m_check_rests : List Cell → ER := callM 0 b_check_rests
/-! ### is_smooth -/
abbrev s_is_smooth : Stmt := top 25
theorem S_is_smooth : FnScope ["number", "divisor"] ["number"] (defScope s_is_smooth) := ⟨rfl, rfl, rfl, by decide +kernel, rfl, by decide +kernel, by decide +kernel⟩
def b_is_smooth : List Cell → SR := (sSeq (sSet 1 1 (evC (.int 2)))
  (sSeq (sWhile (tAnd (tB (e2 (pCmp fGt) (evVar 0) (evC (.int 1000000)))) (tB (e2 (pCmp fLe) (evVar 1) (evC (.int 1000000)))))
  (sIf (tB (e2 pEq (e2 pMod (evVar 0) (evVar 1)) (evC (.int 0)))) (sSet 1 0 (e2 pDiv (evVar 0) (evVar 1))) (sIf (tB (e2 (pCmp fGt) (e2 pMul (evVar 1) (evVar 1)) (evVar 0))) (sRet 1 (evC (.bool false))) (sSet 1 1 (e2 pAdd (e2 pAdd (evVar 1) (evC (.int 1))) (e2 pMod (evVar 1) (evC (.int 2))))))))
  (sRet 1 (e2 (pCmp fLe) (evVar 0) (evC (.int 1000000))))))
def m_is_smooth : List Cell → ER := callM 1 b_is_smooth
/-! ### fits -/
abbrev s_fits : Stmt := top 27
theorem S_fits : FnScope ["tops", "bottom", "top"] ["tops", "bottom"] (defScope s_fits) := ⟨rfl, rfl, rfl, by decide +kernel, rfl, by decide +kernel, by decide +kernel⟩
def b_fits : List Cell → SR := (sSeq (sIf (tOr (tB (e2 (pCmp fGt) (en pLen (aCons (evVar 0) aNil)) (evC (.int 11)))) (tNot (tU (eCall 3 m_in_range (aCons (fz 2 (evVar 1)) (aCons (evC (.int 1)) (aCons (evC (.int 1000000000000000000000000000000000000000000000000000000000000)) aNil))))))) (sRet 2 (evC (.bool false))) sNext)
  (sRet 2 (en pAll (aCons (eLc [2] (iSeq 2 (evVar 0)) (gN 2 2) tTrue (fz 2 (eCall 3 m_in_range (aCons (fz 2 (evVar 2)) (aCons (e2 pSub (evC (.int 1)) (evC (.int 1000000000000000000000000000000000000000000000000000000000000))) (aCons (e2 pSub (evC (.int 1000000000000000000000000000000000000000000000000000000000000)) (evC (.int 1))) aNil)))))) aNil))))
def m_fits : List Cell → ER := callM 1 b_fits
/-! ### common_divisor -/
abbrev s_common_divisor : Stmt := top 20
theorem S_common_divisor : FnScope ["first", "second"] ["first", "second"] (defScope s_common_divisor) := ⟨rfl, rfl, rfl, by decide +kernel, rfl, by decide +kernel, by decide +kernel⟩
def b_common_divisor : List Cell → SR := (sSeq (sSet 2 0 (en pAbs (aCons (evVar 0) aNil)))
  (sSeq (sSet 2 1 (en pAbs (aCons (evVar 1) aNil)))
  (sSeq (sWhile (tB (e2 pNe (evVar 1) (evC (.int 0))))
  (sPar 2 0 1 (aCons (fz 2 (evVar 1)) (aCons (e2 pMod (evVar 0) (evVar 1)) aNil))))
  (sRet 2 (evVar 0)))))
def m_common_divisor : List Cell → ER := callM 0 b_common_divisor
/-! ### divisor_of -/
abbrev s_divisor_of : Stmt := top 26
theorem S_divisor_of : FnScope ["bottom", "tops", "common", "top"] ["bottom", "tops"] (defScope s_divisor_of) := ⟨rfl, rfl, rfl, by decide +kernel, rfl, by decide +kernel, by decide +kernel⟩
def b_divisor_of : List Cell → SR := (sSeq (sSet 2 2 (evVar 0))
  (sSeq (sFor (iSeq 2 (evVar 1)) (gN 2 3)
  (sSet 2 2 (eCall 2 m_common_divisor (aCons (fz 2 (evVar 2)) (aCons (fz 2 (evVar 3)) aNil)))))
  (sRet 2 (evVar 2))))
def m_divisor_of : List Cell → ER := callM 2 b_divisor_of
/-! ### is_polynomial -/
abbrev s_is_polynomial : Stmt := top 28
theorem S_is_polynomial : FnScope ["thing", "tops", "bottom"] ["thing"] (defScope s_is_polynomial) := ⟨rfl, rfl, rfl, by decide +kernel, rfl, by decide +kernel, by decide +kernel⟩
def b_is_polynomial : List Cell → SR := (sSeq (sIf (tOr (tNot (tU (vIsi (isT "tuple") (fun _ => none) (evVar 0)))) (tOr (tB (e2 pNe (en pLen (aCons (evVar 0) aNil)) (evC (.int 2)))) (tNot (tU (vIsi (isT "tuple") (fun _ => none) (e2 pIx (evVar 0) (evC (.int 0)))))))) (sRet 1 (evC (.bool false))) sNext)
  (sSeq (sAsg (fz 1 (evVar 0)) (gT 2 (gsCons (gN 1 1) (gsCons (gN 1 2) gsNil))))
  (sSeq (sIf (tOr (tNot (tU (eCall 2 m_fits (aCons (fz 1 (evVar 1)) (aCons (fz 1 (evVar 2)) aNil))))) (tAnd (tB (e2 (pCmp fGt) (en pLen (aCons (evVar 1) aNil)) (evC (.int 0)))) (tB (e2 pEq (e2 pIx (evVar 1) (e1 pNeg (evC (.int 1)))) (evC (.int 0)))))) (sRet 1 (evC (.bool false))) sNext)
  (sRet 1 (vAnd (e2 pEq (eCall 2 m_divisor_of (aCons (fz 1 (evVar 2)) (aCons (fz 1 (evVar 1)) aNil))) (evC (.int 1))) (eCall 1 m_is_smooth (aCons (fz 1 (evVar 2)) aNil)))))))
def m_is_polynomial : List Cell → ER := callM 2 b_is_polynomial
/-! ### check_polynomial -/
abbrev s_check_polynomial : Stmt := top 29
theorem S_check_polynomial : FnScope ["thing"] ["thing"] (defScope s_check_polynomial) := ⟨rfl, rfl, rfl, by decide +kernel, rfl, by decide +kernel, by decide +kernel⟩
def b_check_polynomial : List Cell → SR := (sIf (tNot (tU (eCall 1 m_is_polynomial (aCons (fz 1 (evVar 0)) aNil)))) (sRaise "BadPolynomial") sNext)
def m_check_polynomial : List Cell → ER := callM 0 b_check_polynomial
/-! ### check_integer_polynomial -/
abbrev s_check_integer_polynomial : Stmt := top 34
theorem S_check_integer_polynomial : FnScope ["polynomial"] ["polynomial"] (defScope s_check_integer_polynomial) := ⟨rfl, rfl, rfl, by decide +kernel, rfl, by decide +kernel, by decide +kernel⟩
def b_check_integer_polynomial : List Cell → SR := (sSeq (sDrop (eCall 1 m_check_polynomial (aCons (fz 1 (evVar 0)) aNil)))
  (sIf (tB (e2 pNe (e2 pIx (evVar 0) (evC (.int 1))) (evC (.int 1)))) (sRaise "NotInteger") sNext))
def m_check_integer_polynomial : List Cell → ER := callM 0 b_check_integer_polynomial
/-! ### check_low -/
abbrev s_check_low : Stmt := top 41
theorem S_check_low : FnScope ["polynomial", "top"] ["polynomial"] (defScope s_check_low) := ⟨rfl, rfl, rfl, by decide +kernel, rfl, by decide +kernel, by decide +kernel⟩
def b_check_low : List Cell → SR := (sSeq (sDrop (eCall 1 m_check_integer_polynomial (aCons (fz 1 (evVar 0)) aNil)))
  (sSeq (sIf (tNot (t3 (qCmp fLe) (qCmp fLe) (evC (.int 2)) (en pLen (aCons (e2 pIx (evVar 0) (evC (.int 0))) aNil)) (evC (.int 3)))) (sRaise "BadPolynomial") sNext)
  (sIf (tNot (tU (en pAll (aCons (eLc [1] (iSeq 1 (e2 pIx (evVar 0) (evC (.int 0)))) (gN 1 1) tTrue (fz 1 (eCall 3 m_in_range (aCons (fz 1 (evVar 1)) (aCons (e1 pNeg (evC (.int 30))) (aCons (evC (.int 30)) aNil)))))) aNil)))) (sRaise "BadPolynomial") sNext)))
def m_check_low : List Cell → ER := callM 1 b_check_low
/-! ### determinant -/
abbrev s_determinant : Stmt := top 43
theorem S_determinant : FnScope ["rows", "total", "sign", "at", "entry", "row"] ["rows"] (defScope s_determinant) := ⟨rfl, rfl, rfl, by decide +kernel, rfl, by decide +kernel, by decide +kernel⟩
def b_determinant (r : List Cell → ER) : List Cell → SR := (sSeq (sIf (tB (e2 pEq (evVar 0) (eLst aNil))) (sRet 1 (evC (.int 1))) sNext)
  (sSeq (sAsg (eTup (aCons (evC (.int 0)) (aCons (evC (.int 1)) aNil))) (gT 2 (gsCons (gN 1 1) (gsCons (gN 1 2) gsNil))))
  (sSeq (sFor (iEnumA (aCons (fz 1 (e2 pIx (evVar 0) (evC (.int 0)))) aNil)) (gT 2 (gsCons (gN 1 3) (gsCons (gN 1 4) gsNil)))
  (sSeq (sSet 1 1 (e2 pAdd (evVar 1) (e2 pMul (e2 pMul (evVar 2) (evVar 4)) (eCall 1 (r) (aCons (fz 1 (eLc [5] (iSeq 1 (eSl (evVar 0) (oSome (evC (.int 1))) oNone)) (gN 1 5) tTrue (fz 1 (e2 pAdd (eSl (evVar 5) oNone (oSome (evVar 3))) (eSl (evVar 5) (oSome (e2 pAdd (evVar 3) (evC (.int 1)))) oNone))))) aNil)))))
  (sSet 1 2 (e1 pNeg (evVar 2)))))
  (sRet 1 (evVar 1)))))
def m_determinant : Nat → List Cell → ER
  | 0 => fun _ => .bad
  | n + 1 => callM 5 (b_determinant (m_determinant n))
/-! ### shifted_rows -/
abbrev s_shifted_rows : Stmt := top 42
theorem S_shifted_rows : FnScope ["tops", "count", "wide", "row", "at"] ["tops", "count", "wide"] (defScope s_shifted_rows) := ⟨rfl, rfl, rfl, by decide +kernel, rfl, by decide +kernel, by decide +kernel⟩
def b_shifted_rows : List Cell → SR := (sSeq (sSet 3 3 (e1 pRevA (en pListOf (aCons (evVar 0) aNil))))
  (sRet 3 (eLc [4] (iRange1 (aCons (evVar 1) aNil)) (gN 3 4) tTrue (fz 3 (e2 pAdd (e2 pAdd (eRep (eLst (aCons (evC (.int 0)) aNil)) (evVar 4)) (evVar 3)) (eRep (eLst (aCons (evC (.int 0)) aNil)) (e2 pSub (e2 pSub (evVar 2) (en pLen (aCons (evVar 3) aNil))) (evVar 4))))))))
def m_shifted_rows : List Cell → ER := callM 2 b_shifted_rows
/-! ### resultant_of -/
abbrev s_resultant_of : Stmt := top 44
theorem S_resultant_of : FnScope ["tops", "others", "wide"] ["tops", "others"] (defScope s_resultant_of) := ⟨rfl, rfl, rfl, by decide +kernel, rfl, by decide +kernel, by decide +kernel⟩
def b_resultant_of : List Cell → SR := (sSeq (sSet 2 2 (e2 pSub (e2 pAdd (en pLen (aCons (evVar 0) aNil)) (en pLen (aCons (evVar 1) aNil))) (evC (.int 2))))
  (sRet 2 (eCall 1 (m_determinant 5) (aCons (fz 2 (e2 pAdd (eCall 3 m_shifted_rows (aCons (fz 2 (evVar 0)) (aCons (e2 pSub (en pLen (aCons (evVar 1) aNil)) (evC (.int 1))) (aCons (fz 2 (evVar 2)) aNil)))) (eCall 3 m_shifted_rows (aCons (fz 2 (evVar 1)) (aCons (e2 pSub (en pLen (aCons (evVar 0) aNil)) (evC (.int 1))) (aCons (fz 2 (evVar 2)) aNil)))))) aNil))))
def m_resultant_of : List Cell → ER := callM 1 b_resultant_of
/-! ### check_three -/
abbrev s_check_three : Stmt := top 47
theorem S_check_three : FnScope ["numbers", "polynomial", "other"] ["numbers", "polynomial", "other"] (defScope s_check_three) := ⟨rfl, rfl, rfl, by decide +kernel, rfl, by decide +kernel, by decide +kernel⟩
def b_check_three : List Cell → SR := (sSeq (sDrop (eCall 1 m_check_rests (aCons (fz 3 (evVar 0)) aNil)))
  (sSeq (sDrop (eCall 1 m_check_low (aCons (fz 3 (evVar 1)) aNil)))
  (sSeq (sDrop (eCall 1 m_check_low (aCons (fz 3 (evVar 2)) aNil)))
  (sIf (tB (e2 pEq (eCall 2 m_resultant_of (aCons (fz 3 (e2 pIx (evVar 1) (evC (.int 0)))) (aCons (fz 3 (e2 pIx (evVar 2) (evC (.int 0)))) aNil))) (evC (.int 0)))) (sRaise "NoChoice") sNext))))
def m_check_three : List Cell → ER := callM 0 b_check_three
/-! ### period_with -/
abbrev s_period_with : Stmt := top 48
theorem S_period_with : FnScope ["numbers", "polynomial", "other", "whole"] ["numbers", "polynomial", "other"] (defScope s_period_with) := ⟨rfl, rfl, rfl, by decide +kernel, rfl, by decide +kernel, by decide +kernel⟩
def b_period_with : List Cell → SR := (sSeq (sSet 3 3 (e2 pMul (en pAbs (aCons (eCall 2 m_resultant_of (aCons (fz 3 (e2 pIx (evVar 1) (evC (.int 0)))) (aCons (fz 3 (e2 pIx (evVar 2) (evC (.int 0)))) aNil))) aNil)) (e2 pIx (evVar 0) (evC (.int 1)))))
  (sSeq (sIf (tB (e2 (pCmp fGt) (evVar 3) (evC (.int 100000)))) (sRaise "TooMany") sNext)
  (sRet 3 (evVar 3))))
def m_period_with : List Cell → ER := callM 1 b_period_with
/-! ### top_value -/
abbrev s_top_value : Stmt := top 30
theorem S_top_value : FnScope ["tops", "number", "total", "top"] ["tops", "number"] (defScope s_top_value) := ⟨rfl, rfl, rfl, by decide +kernel, rfl, by decide +kernel, by decide +kernel⟩
def b_top_value : List Cell → SR := (sSeq (sSet 2 2 (evC (.int 0)))
  (sSeq (sFor (iRevL (aCons (fz 2 (en pListOf (aCons (evVar 0) aNil))) aNil)) (gN 2 3)
  (sSet 2 2 (e2 pAdd (e2 pMul (evVar 2) (evVar 1)) (evVar 3))))
  (sRet 2 (evVar 2))))
def m_top_value : List Cell → ER := callM 2 b_top_value
/-! ### shared_at -/
abbrev s_shared_at : Stmt := top 46
theorem S_shared_at : FnScope ["polynomial", "other", "number"] ["polynomial", "other", "number"] (defScope s_shared_at) := ⟨rfl, rfl, rfl, by decide +kernel, rfl, by decide +kernel, by decide +kernel⟩
def b_shared_at : List Cell → SR := (sRet 3 (en pGcd (aCons (eCall 2 m_top_value (aCons (fz 3 (e2 pIx (evVar 0) (evC (.int 0)))) (aCons (fz 3 (evVar 2)) aNil))) (aCons (eCall 2 m_top_value (aCons (fz 3 (e2 pIx (evVar 1) (evC (.int 0)))) (aCons (fz 3 (evVar 2)) aNil))) aNil))))
def m_shared_at : List Cell → ER := callM 0 b_shared_at
/-! ### all_shared -/
abbrev s_all_shared : Stmt := top 49
theorem S_all_shared : FnScope ["numbers", "polynomial", "other", "period", "there", "number"] ["numbers", "polynomial", "other"] (defScope s_all_shared) := ⟨rfl, rfl, rfl, by decide +kernel, rfl, by decide +kernel, by decide +kernel⟩
def b_all_shared : List Cell → SR := (sSeq (sSet 3 3 (eCall 3 m_period_with (aCons (fz 3 (evVar 0)) (aCons (fz 3 (evVar 1)) (aCons (fz 3 (evVar 2)) aNil)))))
  (sSeq (sSet 3 4 (eLc [5] (iRange1 (aCons (evVar 3) aNil)) (gN 3 5) (tB (e2 (pIn false) (e2 pMod (evVar 5) (e2 pIx (evVar 0) (evC (.int 1)))) (e2 pIx (evVar 0) (evC (.int 2))))) (fz 3 (evVar 5))))
  (sRet 3 (eLc [5] (iSeq 3 (evVar 4)) (gN 3 5) tTrue (fz 3 (eCall 3 m_shared_at (aCons (fz 3 (evVar 1)) (aCons (fz 3 (evVar 2)) (aCons (fz 3 (evVar 5)) aNil)))))))))
def m_all_shared : List Cell → ER := callM 3 b_all_shared
/-! ### common_values -/
abbrev s_common_values : Stmt := top 50
theorem S_common_values : FnScope ["numbers", "polynomial", "other"] ["numbers", "polynomial", "other"] (defScope s_common_values) := ⟨rfl, rfl, rfl, by decide +kernel, rfl, by decide +kernel, by decide +kernel⟩
def b_common_values : List Cell → SR := (sSeq (sDrop (eCall 3 m_check_three (aCons (fz 3 (evVar 0)) (aCons (fz 3 (evVar 1)) (aCons (fz 3 (evVar 2)) aNil)))))
  (sRet 3 (en pSortSet (aCons (eCall 3 m_all_shared (aCons (fz 3 (evVar 0)) (aCons (fz 3 (evVar 1)) (aCons (fz 3 (evVar 2)) aNil)))) aNil))))
def m_common_values : List Cell → ER := callM 0 b_common_values
/-! ### lowest -/
abbrev s_lowest : Stmt := top 32
theorem S_lowest : FnScope ["above", "below", "common"] ["above", "below"] (defScope s_lowest) := ⟨rfl, rfl, rfl, by decide +kernel, rfl, by decide +kernel, by decide +kernel⟩
def b_lowest : List Cell → SR := (sSeq (sSet 2 2 (eCall 2 m_common_divisor (aCons (fz 2 (evVar 0)) (aCons (fz 2 (evVar 1)) aNil))))
  (sSeq (sIf (tB (e2 (pCmp fLt) (evVar 1) (evC (.int 0)))) (sSet 2 2 (e1 pNeg (evVar 2))) sNext)
  (sRet 2 (eTup (aCons (e2 pDiv (evVar 0) (evVar 2)) (aCons (e2 pDiv (evVar 1) (evVar 2)) aNil))))))
def m_lowest : List Cell → ER := callM 1 b_lowest
/-! ### common_share -/
abbrev s_common_share : Stmt := top 51
theorem S_common_share : FnScope ["numbers", "polynomial", "other", "divisor", "found", "one"] ["numbers", "polynomial", "other", "divisor"] (defScope s_common_share) := ⟨rfl, rfl, rfl, by decide +kernel, rfl, by decide +kernel, by decide +kernel⟩
def b_common_share : List Cell → SR := (sSeq (sDrop (eCall 3 m_check_three (aCons (fz 4 (evVar 0)) (aCons (fz 4 (evVar 1)) (aCons (fz 4 (evVar 2)) aNil)))))
  (sSeq (sIf (tOr (tNot (tU (eCall 1 m_is_integer (aCons (fz 4 (evVar 3)) aNil)))) (tB (e2 (pCmp fLt) (evVar 3) (evC (.int 1))))) (sRaise "BadNumber") sNext)
  (sSeq (sSet 4 4 (eCall 3 m_all_shared (aCons (fz 4 (evVar 0)) (aCons (fz 4 (evVar 1)) (aCons (fz 4 (evVar 2)) aNil)))))
  (sRet 4 (eCall 2 m_lowest (aCons (fz 4 (en pLen (aCons (eLc [5] (iSeq 4 (evVar 4)) (gN 4 5) (tB (e2 pEq (evVar 5) (evVar 3))) (fz 4 (evVar 5))) aNil))) (aCons (fz 4 (en pLen (aCons (evVar 4) aNil))) aNil)))))))
def m_common_share : List Cell → ER := callM 2 b_common_share
/-! ### least_coprime -/
abbrev s_least_coprime : Stmt := top 52
theorem S_least_coprime : FnScope ["numbers", "polynomial", "other", "period", "size", "number"] ["numbers", "polynomial", "other"] (defScope s_least_coprime) := ⟨rfl, rfl, rfl, by decide +kernel, rfl, by decide +kernel, by decide +kernel⟩
def b_least_coprime : List Cell → SR := (sSeq (sDrop (eCall 3 m_check_three (aCons (fz 3 (evVar 0)) (aCons (fz 3 (evVar 1)) (aCons (fz 3 (evVar 2)) aNil)))))
  (sSeq (sSet 3 3 (eCall 3 m_period_with (aCons (fz 3 (evVar 0)) (aCons (fz 3 (evVar 1)) (aCons (fz 3 (evVar 2)) aNil)))))
  (sSeq (sFor (iRange1 (aCons (evVar 3) aNil)) (gN 3 4)
  (sFor (iSeq 3 (eTup (aCons (fz 3 (evVar 4)) (aCons (e1 pNeg (evVar 4)) aNil)))) (gN 3 5)
  (sIf (tAnd (tB (e2 (pIn false) (e2 pMod (evVar 5) (e2 pIx (evVar 0) (evC (.int 1)))) (e2 pIx (evVar 0) (evC (.int 2))))) (tB (e2 pEq (eCall 3 m_shared_at (aCons (fz 3 (evVar 1)) (aCons (fz 3 (evVar 2)) (aCons (fz 3 (evVar 5)) aNil)))) (evC (.int 1))))) (sRet 3 (evVar 5)) sNext)))
  (sRet 3 (evC .none)))))
def m_least_coprime : List Cell → ER := callM 3 b_least_coprime
/-! ### _law_told -/
abbrev s__law_told : Stmt := top 66
theorem S__law_told : FnScope ["way", "numbers", "one", "other", "divisor", "found", "caught", "error", "kinds", "word", "kind"] ["way", "numbers", "one", "other", "divisor"] (defScope s__law_told) := ⟨rfl, rfl, rfl, by decide +kernel, rfl, by decide +kernel, by decide +kernel⟩
def b__law_told : List Cell → SR := (sSeq (sAsg (eTup (aCons (eTup (aCons (evC (.str "none")) (aCons (evC .none) aNil))) (aCons (evC .none) aNil))) (gT 2 (gsCons (gN 5 5) (gsCons (gN 5 6) gsNil))))
  (sSeq (sTry 5 7 hit_WholeError (sIf (tB (e2 pEq (evVar 0) (evC (.int 0)))) (sSet 5 5 (eTup (aCons (evC (.str "told")) (aCons (fz 5 (eCall 3 m_common_values (aCons (fz 5 (evVar 1)) (aCons (fz 5 (evVar 2)) (aCons (fz 5 (evVar 3)) aNil))))) aNil)))) (sIf (tB (e2 pEq (evVar 0) (evC (.int 1)))) (sSet 5 5 (eTup (aCons (evC (.str "told")) (aCons (fz 5 (eCall 4 m_common_share (aCons (fz 5 (evVar 1)) (aCons (fz 5 (evVar 2)) (aCons (fz 5 (evVar 3)) (aCons (fz 5 (evVar 4)) aNil)))))) aNil)))) (sSet 5 5 (eTup (aCons (evC (.str "told")) (aCons (fz 5 (eCall 3 m_least_coprime (aCons (fz 5 (evVar 1)) (aCons (fz 5 (evVar 2)) (aCons (fz 5 (evVar 3)) aNil))))) aNil))))))
  (sSet 5 6 (evVar 7)))
  (sSeq (sIf (tB (vIsN (evVar 6))) (sRet 5 (evVar 5)) sNext)
  (sSeq (sSet 5 8 (eLst (aCons (fz 5 (vIsi (fun _ => none) hx_NoChoice (evVar 6))) (aCons (fz 5 (vIsi (fun _ => none) hx_TooMany (evVar 6))) (aCons (fz 5 (vIsi (fun _ => none) hx_BadNumber (evVar 6))) aNil)))))
  (sRet 5 (eTup (aCons (evC (.str "error")) (aCons (fz 5 (eJoin (evC (.str "")) (eLc [9, 10] (iZipL (aCons (fz 5 (eLst (aCons (evC (.str "choice")) (aCons (evC (.str "many")) (aCons (evC (.str "number")) aNil))))) (aCons (fz 5 (evVar 8)) aNil))) (gT 2 (gsCons (gN 5 9) (gsCons (gN 5 10) gsNil))) (tU (evVar 10)) (fz 5 (evVar 9))))) aNil))))))))
def m__law_told : List Cell → ER := callM 6 b__law_told
/-! ### _law_refused_right -/
abbrev s__law_refused_right : Stmt := top 67
theorem S__law_refused_right : FnScope ["feed", "numbers", "one", "other", "word", "odd", "due", "found", "way"] ["feed", "numbers", "one", "other", "word"] (defScope s__law_refused_right) := ⟨rfl, rfl, rfl, by decide +kernel, rfl, by decide +kernel, by decide +kernel⟩
def b__law_refused_right : List Cell → SR := (sSeq (sPar 5 5 6 (aCons (eCall 2 m__law_one (aCons (evVar 0) (aCons (fz 5 (eLst (aCons (evC (.int 0)) (aCons (e1 pNeg (evC (.int 1))) (aCons (evC .none) (aCons (evC (.bool true)) (aCons (evC (.str "1")) (aCons (eTup (aCons (evC (.int 1)) aNil)) aNil)))))))) aNil))) (aCons (eTup (aCons (evC (.str "error")) (aCons (fz 5 (evVar 4)) aNil))) aNil)))
  (sSeq (sSet 5 7 (e2 pAdd (eLc [8] (iRange1 (aCons (evC (.int 3)) aNil)) (gN 5 8) tTrue (fz 5 (eCall 5 m__law_told (aCons (fz 5 (evVar 8)) (aCons (fz 5 (evVar 1)) (aCons (fz 5 (evVar 2)) (aCons (fz 5 (evVar 3)) (aCons (evC (.int 1)) aNil)))))))) (eLst (aCons (fz 5 (eCall 5 m__law_told (aCons (evC (.int 1)) (aCons (fz 5 (evVar 1)) (aCons (fz 5 (evVar 2)) (aCons (fz 5 (evVar 3)) (aCons (fz 5 (evVar 5)) aNil))))))) aNil))))
  (sRet 5 (e2 pEq (evVar 7) (eLst (aCons (fz 5 (evVar 6)) (aCons (fz 5 (evVar 6)) (aCons (fz 5 (evVar 6)) (aCons (eTup (aCons (evC (.str "error")) (aCons (fz 5 (vIf (tB (e2 pEq (evVar 4) (evC (.str "choice")))) (evC (.str "choice")) (evC (.str "number")))) aNil))) aNil)))))))))
def m__law_refused_right : List Cell → ER := callM 4 b__law_refused_right
/-! ### _law_divisor -/
abbrev s__law_divisor : Stmt := top 57
theorem S__law_divisor : FnScope ["one", "other"] ["one", "other"] (defScope s__law_divisor) := ⟨rfl, rfl, rfl, by decide +kernel, rfl, by decide +kernel, by decide +kernel⟩
def b__law_divisor : List Cell → SR := (sSeq (sPar 2 0 1 (aCons (en pAbs (aCons (evVar 0) aNil)) (aCons (en pAbs (aCons (evVar 1) aNil)) aNil)))
  (sSeq (sWhile (tB (e2 (pCmp fGt) (evVar 1) (evC (.int 0))))
  (sPar 2 0 1 (aCons (fz 2 (evVar 1)) (aCons (e2 pMod (en pInt (aCons (evVar 0) aNil)) (evVar 1)) aNil))))
  (sRet 2 (evVar 0))))
def m__law_divisor : List Cell → ER := callM 0 b__law_divisor
/-! ### _law_lowest -/
abbrev s__law_lowest : Stmt := top 60
theorem S__law_lowest : FnScope ["tops", "bottom", "row", "turn", "common", "top"] ["tops", "bottom"] (defScope s__law_lowest) := ⟨rfl, rfl, rfl, by decide +kernel, rfl, by decide +kernel, by decide +kernel⟩
def b__law_lowest : List Cell → SR := (sSeq (sSet 2 2 (en pListOf (aCons (evVar 0) aNil)))
  (sSeq (sFor (iRange1 (aCons (en pLen (aCons (evVar 0) aNil)) aNil)) (gN 2 3)
  (sIf (tAnd (tB (e2 pNe (evVar 2) (eLst aNil))) (tB (e2 pEq (e2 pIx (evVar 2) (e1 pNeg (evC (.int 1)))) (evC (.int 0))))) (sSet 2 2 (eSl (evVar 2) oNone (oSome (e1 pNeg (evC (.int 1)))))) sNext))
  (sSeq (sSet 2 4 (en pAbs (aCons (evVar 1) aNil)))
  (sSeq (sFor (iSeq 2 (evVar 2)) (gN 2 5)
  (sSet 2 4 (eCall 2 m__law_divisor (aCons (fz 2 (evVar 4)) (aCons (fz 2 (evVar 5)) aNil)))))
  (sSeq (sSet 2 4 (vIf (tB (e2 (pCmp fGt) (evVar 1) (evC (.int 0)))) (evVar 4) (e1 pNeg (evVar 4))))
  (sRet 2 (eTup (aCons (fz 2 (en pTupOf (aCons (eLc [5] (iSeq 2 (evVar 2)) (gN 2 5) tTrue (e2 pDiv (evVar 5) (evVar 4))) aNil))) (aCons (e2 pDiv (evVar 1) (evVar 4)) aNil)))))))))
def m__law_lowest : List Cell → ER := callM 4 b__law_lowest
/-! ### _law_value -/
abbrev s__law_value : Stmt := top 58
theorem S__law_value : FnScope ["tops", "x", "found", "top"] ["tops", "x"] (defScope s__law_value) := ⟨rfl, rfl, rfl, by decide +kernel, rfl, by decide +kernel, by decide +kernel⟩
def b__law_value : List Cell → SR := (sSeq (sSet 2 2 (evC (.int 0)))
  (sSeq (sFor (iSeq 2 (e1 pRevA (evVar 0))) (gN 2 3)
  (sSet 2 2 (e2 pAdd (e2 pMul (evVar 2) (evVar 1)) (evVar 3))))
  (sRet 2 (evVar 2))))
def m__law_value : List Cell → ER := callM 2 b__law_value
/-! ### _law_common -/
abbrev s__law_common : Stmt := top 68
theorem S__law_common : FnScope ["one", "other", "x"] ["one", "other", "x"] (defScope s__law_common) := ⟨rfl, rfl, rfl, by decide +kernel, rfl, by decide +kernel, by decide +kernel⟩
def b__law_common : List Cell → SR := (sRet 3 (eCall 2 m__law_divisor (aCons (fz 3 (eCall 2 m__law_value (aCons (fz 3 (e2 pIx (evVar 0) (evC (.int 0)))) (aCons (fz 3 (evVar 2)) aNil)))) (aCons (fz 3 (eCall 2 m__law_value (aCons (fz 3 (e2 pIx (evVar 1) (evC (.int 0)))) (aCons (fz 3 (evVar 2)) aNil)))) aNil))))
def m__law_common : List Cell → ER := callM 0 b__law_common
/-! ### _law_shares_right -/
abbrev s__law_shares_right : Stmt := top 69
theorem S__law_shares_right : FnScope ["feed", "numbers", "one", "other", "found", "whole", "total", "every", "divisor", "due", "told", "common"] ["feed", "numbers", "one", "other", "found", "whole"] (defScope s__law_shares_right) := ⟨rfl, rfl, rfl, by decide +kernel, rfl, by decide +kernel, by decide +kernel⟩
def b__law_shares_right : List Cell → SR := (sSeq (sPar 6 6 7 (aCons (evC (.int 0)) (aCons (en pSortSet (aCons (evVar 4) aNil)) aNil)))
  (sSeq (sFor (iSeq 6 (evVar 7)) (gN 6 8)
  (sSeq (sSet 6 9 (en pLen (aCons (eLc [10] (iSeq 6 (evVar 4)) (gN 6 10) (tB (e2 pEq (evVar 10) (evVar 8))) (evC (.int 1))) aNil)))
  (sSeq (sSet 6 11 (eCall 2 m__law_divisor (aCons (fz 6 (evVar 9)) (aCons (fz 6 (en pLen (aCons (evVar 4) aNil))) aNil))))
  (sSeq (sIf (tB (e2 pNe (en pRepr (aCons (fz 6 (eCall 5 m__law_told (aCons (evC (.int 1)) (aCons (fz 6 (evVar 1)) (aCons (fz 6 (evVar 2)) (aCons (fz 6 (evVar 3)) (aCons (fz 6 (evVar 8)) aNil))))))) aNil)) (en pRepr (aCons (eTup (aCons (evC (.str "told")) (aCons (eTup (aCons (e2 pDiv (evVar 9) (evVar 11)) (aCons (e2 pDiv (en pLen (aCons (evVar 4) aNil)) (evVar 11)) aNil))) aNil))) aNil)))) (sRet 6 (evC (.bool false))) sNext)
  (sSet 6 6 (e2 pAdd (evVar 6) (evVar 9)))))))
  (sSeq (sSet 6 8 (eCall 2 m__law_one (aCons (evVar 0) (aCons (fz 6 (eLst (aCons (evC (.int 1)) (aCons (evC (.int 2)) (aCons (fz 6 (evVar 5)) (aCons (fz 6 (e2 pAdd (evVar 5) (evC (.int 1)))) (aCons (fz 6 (e2 pMul (evC (.int 2)) (evVar 5))) (aCons (e2 pPow (evC (.int 10)) (evC (.int 30))) (aCons (fz 6 (e2 pIx (evVar 7) (e1 pNeg (evC (.int 1))))) aNil))))))))) aNil))))
  (sSeq (sSet 6 9 (en pLen (aCons (eLc [10] (iSeq 6 (evVar 4)) (gN 6 10) (tB (e2 pEq (evVar 10) (evVar 8))) (evC (.int 1))) aNil)))
  (sSeq (sSet 6 11 (eCall 2 m__law_divisor (aCons (fz 6 (evVar 9)) (aCons (fz 6 (en pLen (aCons (evVar 4) aNil))) aNil))))
  (sSeq (sIf (tB (e2 pNe (en pRepr (aCons (fz 6 (eCallK 4 m_common_share [3, 2, 1, 0] (aCons (fz 6 (evVar 8)) (aCons (fz 6 (evVar 3)) (aCons (fz 6 (evVar 2)) (aCons (fz 6 (evVar 1)) aNil)))))) aNil)) (en pRepr (aCons (eTup (aCons (e2 pDiv (evVar 9) (evVar 11)) (aCons (e2 pDiv (en pLen (aCons (evVar 4) aNil)) (evVar 11)) aNil))) aNil)))) (sRet 6 (evC (.bool false))) sNext)
  (sRet 6 (vAnd (e2 pEq (evVar 6) (en pLen (aCons (evVar 4) aNil))) (e2 pEq (eCall 5 m__law_told (aCons (evC (.int 1)) (aCons (fz 6 (evVar 1)) (aCons (fz 6 (evVar 2)) (aCons (fz 6 (evVar 3)) (aCons (fz 6 (eCall 2 m__law_one (aCons (evVar 0) (aCons (fz 6 (eLst (aCons (evC (.int 0)) (aCons (e1 pNeg (evC (.int 1))) (aCons (evC .none) (aCons (evC (.bool true)) (aCons (evC (.str "1")) (aCons (eTup (aCons (evC (.int 1)) aNil)) aNil)))))))) aNil)))) aNil)))))) (eTup (aCons (evC (.str "error")) (aCons (evC (.str "number")) aNil))))))))))))
def m__law_shares_right : List Cell → ER := callM 6 b__law_shares_right
/-! ### resultant -/
abbrev s_resultant : Stmt := top 45
theorem S_resultant : FnScope ["polynomial", "other"] ["polynomial", "other"] (defScope s_resultant) := ⟨rfl, rfl, rfl, by decide +kernel, rfl, by decide +kernel, by decide +kernel⟩
def b_resultant : List Cell → SR := (sSeq (sDrop (eCall 1 m_check_low (aCons (fz 2 (evVar 0)) aNil)))
  (sSeq (sDrop (eCall 1 m_check_low (aCons (fz 2 (evVar 1)) aNil)))
  (sRet 2 (eCall 2 m_resultant_of (aCons (fz 2 (e2 pIx (evVar 0) (evC (.int 0)))) (aCons (fz 2 (e2 pIx (evVar 1) (evC (.int 0)))) aNil))))))
def m_resultant : List Cell → ER := callM 0 b_resultant
/-! ### _law_all_right -/
abbrev s__law_all_right : Stmt := top 70
theorem S__law_all_right : FnScope ["feed", "numbers", "one", "other", "whole", "period", "there", "x", "found", "due", "told", "nearest", "size", "some", "scale", "many", "rows", "more", "first", "second"] ["feed", "numbers", "one", "other", "whole"] (defScope s__law_all_right) := ⟨rfl, rfl, rfl, by decide +kernel, rfl, by decide +kernel, by decide +kernel⟩
def b__law_all_right : List Cell → SR := (sSeq (sSet 5 5 (e2 pDiv (e2 pMul (evVar 4) (e2 pIx (evVar 1) (evC (.int 1)))) (eCall 2 m__law_divisor (aCons (fz 5 (evVar 4)) (aCons (fz 5 (e2 pIx (evVar 1) (evC (.int 1)))) aNil)))))
  (sSeq (sSet 5 6 (eLc [7] (iRange1 (aCons (evVar 5) aNil)) (gN 5 7) (tB (e2 (pIn false) (e2 pMod (en pInt (aCons (evVar 7) aNil)) (e2 pIx (evVar 1) (evC (.int 1)))) (e2 pIx (evVar 1) (evC (.int 2))))) (fz 5 (evVar 7))))
  (sSeq (sSet 5 8 (eLc [7] (iSeq 5 (evVar 6)) (gN 5 7) tTrue (fz 5 (eCall 3 m__law_common (aCons (fz 5 (evVar 2)) (aCons (fz 5 (evVar 3)) (aCons (fz 5 (evVar 7)) aNil)))))))
  (sSeq (sSet 5 9 (en pSortSet (aCons (evVar 8) aNil)))
  (sSeq (sIf (tOr (tB (e2 pNe (en pRepr (aCons (fz 5 (eLst (aCons (fz 5 (eCall 3 m_common_values (aCons (fz 5 (evVar 1)) (aCons (fz 5 (evVar 2)) (aCons (fz 5 (evVar 3)) aNil))))) (aCons (fz 5 (eCallK 3 m_common_values [2, 1, 0] (aCons (fz 5 (evVar 2)) (aCons (fz 5 (evVar 3)) (aCons (fz 5 (evVar 1)) aNil))))) aNil)))) aNil)) (en pRepr (aCons (fz 5 (eLst (aCons (fz 5 (evVar 9)) (aCons (fz 5 (evVar 9)) aNil)))) aNil)))) (tB (e2 pNe (eLc [10] (iSeq 5 (evVar 9)) (gN 5 10) (tB (e2 pNe (e2 pMod (en pInt (aCons (evVar 4) aNil)) (evVar 10)) (evC (.int 0)))) (evC (.int 1))) (eLst aNil)))) (sRet 5 (evC (.bool false))) sNext)
  (sSeq (sSet 5 11 (evC .none))
  (sSeq (sFor (iRange1 (aCons (vIf (tB (e2 (pIn false) (evC (.int 1)) (evVar 9))) (evVar 5) (evC (.int 0))) aNil)) (gN 5 12)
  (sSeq (sSet 5 13 (eLc [7] (iSeq 5 (eTup (aCons (fz 5 (evVar 12)) (aCons (e1 pNeg (evVar 12)) aNil)))) (gN 5 7) (tAnd (tB (e2 (pIn false) (e2 pMod (en pInt (aCons (evVar 7) aNil)) (e2 pIx (evVar 1) (evC (.int 1)))) (e2 pIx (evVar 1) (evC (.int 2))))) (tB (e2 pEq (eCall 3 m__law_common (aCons (fz 5 (evVar 2)) (aCons (fz 5 (evVar 3)) (aCons (fz 5 (evVar 7)) aNil)))) (evC (.int 1))))) (fz 5 (evVar 7))))
  (sIf (tB (e2 pNe (evVar 13) (eLst aNil))) (sSeq (sSet 5 11 (e2 pIx (evVar 13) (evC (.int 0))))
  (fun cs => .bk cs)) sNext)))
  (sSeq (sIf (tB (e2 pNe (en pRepr (aCons (fz 5 (eLst (aCons (fz 5 (eCall 3 m_least_coprime (aCons (fz 5 (evVar 1)) (aCons (fz 5 (evVar 2)) (aCons (fz 5 (evVar 3)) aNil))))) (aCons (fz 5 (eCallK 3 m_least_coprime [2, 1, 0] (aCons (fz 5 (evVar 2)) (aCons (fz 5 (evVar 3)) (aCons (fz 5 (evVar 1)) aNil))))) aNil)))) aNil)) (en pRepr (aCons (fz 5 (eLst (aCons (fz 5 (evVar 11)) (aCons (fz 5 (evVar 11)) aNil)))) aNil)))) (sRet 5 (evC (.bool false))) sNext)
  (sSeq (sAsg (eTup (aCons (fz 5 (eCall 2 m__law_one (aCons (evVar 0) (aCons (fz 5 (eLst (aCons (evC (.int 1)) (aCons (e1 pNeg (evC (.int 1))) (aCons (evC (.int 2)) aNil))))) aNil)))) (aCons (fz 5 (en (pInt2 fMax) (aCons (en pLen (aCons (e2 pIx (evVar 2) (evC (.int 0))) aNil)) (aCons (en pLen (aCons (e2 pIx (evVar 3) (evC (.int 0))) aNil)) aNil)))) aNil))) (gT 2 (gsCons (gN 5 14) (gsCons (gN 5 15) gsNil))))
  (sSeq (sSet 5 16 (eLc [10] (iSeq 5 (eTup (aCons (fz 5 (evVar 2)) (aCons (fz 5 (evVar 3)) aNil)))) (gN 5 10) tTrue (fz 5 (e2 pAdd (en pListOf (aCons (e2 pIx (evVar 10) (evC (.int 0))) aNil)) (eRep (eLst (aCons (evC (.int 0)) aNil)) (e2 pSub (evVar 15) (en pLen (aCons (e2 pIx (evVar 10) (evC (.int 0))) aNil))))))))
  (sSeq (sSet 5 17 (eCall 2 m__law_lowest (aCons (fz 5 (eLc [18, 19] (iZipL (aCons (fz 5 (e2 pIx (evVar 16) (evC (.int 0)))) (aCons (fz 5 (e2 pIx (evVar 16) (evC (.int 1)))) aNil))) (gT 2 (gsCons (gN 5 18) (gsCons (gN 5 19) gsNil))) tTrue (fz 5 (e2 pAdd (evVar 18) (e2 pMul (evVar 14) (evVar 19)))))) (aCons (evC (.int 1)) aNil))))
  (sSeq (sIf (tAnd (tU (eCall 1 m__law_fits (aCons (fz 5 (vIf (tB (e2 pNe (e2 pIx (evVar 17) (evC (.int 0))) (eTup aNil))) (e2 pIx (evVar 17) (evC (.int 0))) (eTup (aCons (evC (.int 0)) aNil)))) aNil))) (tAnd (tB (e2 pNe (eCall 2 m_resultant (aCons (fz 5 (evVar 17)) (aCons (fz 5 (evVar 3)) aNil))) (evC (.int 0)))) (tAnd (tB (e2 (pCmp fLe) (e2 pMul (en pAbs (aCons (eCall 2 m_resultant (aCons (fz 5 (evVar 17)) (aCons (fz 5 (evVar 3)) aNil))) aNil)) (e2 pIx (evVar 1) (evC (.int 1)))) (evC (.int 6000)))) (tB (e2 pNe (eCall 3 m_common_values (aCons (fz 5 (evVar 1)) (aCons (fz 5 (evVar 17)) (aCons (fz 5 (evVar 3)) aNil)))) (evVar 9)))))) (sRet 5 (evC (.bool false))) sNext)
  (sSeq (sSet 5 10 (eCall 3 m_common_values (aCons (fz 5 (evVar 1)) (aCons (fz 5 (evVar 2)) (aCons (fz 5 (evVar 3)) aNil)))))
  (sSeq (sApp 10 (evC .none))
  (sRet 5 (vAnd (e2 pEq (en pRepr (aCons (fz 5 (eCall 3 m_common_values (aCons (fz 5 (evVar 1)) (aCons (fz 5 (evVar 2)) (aCons (fz 5 (evVar 3)) aNil))))) aNil)) (en pRepr (aCons (fz 5 (evVar 9)) aNil))) (eCall 6 m__law_shares_right (aCons (evVar 0) (aCons (fz 5 (evVar 1)) (aCons (fz 5 (evVar 2)) (aCons (fz 5 (evVar 3)) (aCons (fz 5 (evVar 8)) (aCons (fz 5 (evVar 4)) aNil)))))))))))))))))))))))
def m__law_all_right : List Cell → ER := callM 15 b__law_all_right
/-! ### _law_right -/
abbrev s__law_right : Stmt := top 71
theorem S__law_right : FnScope ["feed", "m", "numbers", "turn", "tops", "others", "one", "other", "due", "turned"] ["feed"] (defScope s__law_right) := ⟨rfl, rfl, rfl, by decide +kernel, rfl, by decide +kernel, by decide +kernel⟩
def b__law_right : List Cell → SR := (sSeq (sSet 1 1 (eCall 2 m__law_one (aCons (evVar 0) (aCons (fz 1 (eLst (aCons (evC (.int 1)) (aCons (evC (.int 1)) (aCons (evC (.int 2)) (aCons (evC (.int 3)) (aCons (evC (.int 4)) (aCons (evC (.int 5)) (aCons (evC (.int 6)) (aCons (evC (.int 10)) (aCons (evC (.int 60)) aNil))))))))))) aNil))))
  (sSeq (sSet 1 2 (eTup (aCons (evC (.str "rests")) (aCons (fz 1 (evVar 1)) (aCons (fz 1 (en pTupOf (aCons (en pSortSet (aCons (eLc [3] (iRange1 (aCons (e2 pAdd (evC (.int 1)) (eCall 2 m__law_draw (aCons (evVar 0) (aCons (evC (.int 3)) aNil)))) aNil)) (gN 1 3) tTrue (fz 1 (eCall 2 m__law_draw (aCons (evVar 0) (aCons (fz 1 (evVar 1)) aNil))))) aNil)) aNil))) aNil)))))
  (sSeq (sAsg (fz 1 (eCall 1 m__law_two (aCons (evVar 0) aNil))) (gT 2 (gsCons (gN 1 4) (gsCons (gN 1 5) gsNil))))
  (sSeq (sPar3 1 6 7 8 (aCons (eTup (aCons (fz 1 (evVar 4)) (aCons (evC (.int 1)) aNil))) (aCons (eTup (aCons (fz 1 (evVar 5)) (aCons (evC (.int 1)) aNil))) (aCons (fz 1 (eCall 2 m__law_resultant (aCons (fz 1 (evVar 4)) (aCons (fz 1 (evVar 5)) aNil)))) aNil))))
  (sSeq (sSet 1 9 (vIf (tAnd (tB (e2 pEq (en pLen (aCons (evVar 4) aNil)) (evC (.int 2)))) (tB (e2 pEq (en pLen (aCons (evVar 5) aNil)) (evC (.int 2))))) (e1 pNeg (evVar 8)) (evVar 8)))
  (sSeq (sIf (tB (e2 pNe (en pRepr (aCons (fz 1 (eLst (aCons (fz 1 (eCall 2 m_resultant (aCons (fz 1 (evVar 6)) (aCons (fz 1 (evVar 7)) aNil)))) (aCons (fz 1 (eCallK 2 m_resultant [1, 0] (aCons (fz 1 (evVar 7)) (aCons (fz 1 (evVar 6)) aNil)))) (aCons (fz 1 (eCall 2 m_resultant (aCons (fz 1 (evVar 7)) (aCons (fz 1 (evVar 6)) aNil)))) aNil))))) aNil)) (en pRepr (aCons (fz 1 (eLst (aCons (fz 1 (evVar 8)) (aCons (fz 1 (evVar 8)) (aCons (fz 1 (evVar 9)) aNil))))) aNil)))) (sRet 1 (evC (.bool false))) sNext)
  (sSeq (sIf (tB (e2 pEq (evVar 8) (evC (.int 0)))) (sRet 1 (eCall 5 m__law_refused_right (aCons (evVar 0) (aCons (fz 1 (evVar 2)) (aCons (fz 1 (evVar 6)) (aCons (fz 1 (evVar 7)) (aCons (evC (.str "choice")) aNil))))))) sNext)
  (sSeq (sIf (tB (e2 (pCmp fGt) (e2 pMul (en pAbs (aCons (evVar 8) aNil)) (evVar 1)) (evC (.int 100000)))) (sRet 1 (eCall 5 m__law_refused_right (aCons (evVar 0) (aCons (fz 1 (evVar 2)) (aCons (fz 1 (evVar 6)) (aCons (fz 1 (evVar 7)) (aCons (evC (.str "many")) aNil))))))) sNext)
  (sRet 1 (vOr (e2 (pCmp fGt) (e2 pMul (en pAbs (aCons (evVar 8) aNil)) (evVar 1)) (evC (.int 6000))) (eCall 5 m__law_all_right (aCons (evVar 0) (aCons (fz 1 (evVar 2)) (aCons (fz 1 (evVar 6)) (aCons (fz 1 (evVar 7)) (aCons (fz 1 (en pAbs (aCons (evVar 8) aNil))) aNil))))))))))))))))
def m__law_right : List Cell → ER := callM 9 b__law_right
/-! ### _law_feed -/
abbrev s__law_feed : Stmt := top 54
theorem S__law_feed : FnScope ["script", "k", "cell"] ["script", "k"] (defScope s__law_feed) := ⟨rfl, rfl, rfl, by decide +kernel, rfl, by decide +kernel, by decide +kernel⟩
def b__law_feed : List Cell → SR := (sSeq (sSet 2 2 (e2 pAdd (e2 pMul (evC (.int 977)) (evVar 1)) (en pSum (aCons (eSl (evVar 0) oNone (oSome (evC (.int 1)))) aNil))))
  (sSeq (sIf (tB (e2 (pCmp fLt) (evVar 1) (en pLen (aCons (evVar 0) aNil)))) (sSet 2 2 (e2 pIx (evVar 0) (evVar 1))) sNext)
  (sRet 2 (eLst (aCons (fz 2 (en (pInt2 fMax) (aCons (evC (.int 0)) (aCons (e2 pSub (evVar 2) (e2 pPow (evC (.int 10)) (evC (.int 18)))) aNil)))) (aCons (e2 pMod (en pInt (aCons (e2 pAdd (e2 pMul (evVar 2) (evC (.int 19))) (e2 pMul (evC (.int 7)) (evVar 1))) aNil)) (e2 pAdd (e2 pPow (evC (.int 10)) (evC (.int 39))) (evC (.int 23)))) (aCons (evC (.int 0)) aNil)))))))
def m__law_feed : List Cell → ER := callM 1 b__law_feed
/-! ### law -/
abbrev s_law : Stmt := top 72
theorem S_law : FnScope ["script", "k"] ["script"] (defScope s_law) := ⟨rfl, rfl, rfl, by decide +kernel, rfl, by decide +kernel, by decide +kernel⟩
def b_law : List Cell → SR := (sSeq (sFor (iRange1 (aCons (en (pInt2 fMax) (aCons (evC (.int 1)) (aCons (en (pInt2 fMin) (aCons (en pLen (aCons (evVar 0) aNil)) (aCons (evC (.int 4)) aNil))) aNil))) aNil)) (gN 1 1)
  (sIf (tNot (tU (eCallF 1 m__law_right (aCons (eCall 2 m__law_feed (aCons (fz 1 (evVar 0)) (aCons (fz 1 (evVar 1)) aNil))) aNil)))) (sRet 1 (evC (.bool false))) sNext))
  (sRet 1 (evC (.bool true))))
def m_law : List Cell → ER := callM 1 b_law
/-- what is asked of the written part -/
structure Fx (K : PySem.W.Frag) (mg : Str → Option Value) : Prop where
  d__law_draw : ∃ (fa : Addr) (fd : FuncData), FunN K "_law_draw" s__law_draw fa fd ∧ mg "_law_draw" = some (.ref fa)
  d__law_one : ∃ (fa : Addr) (fd : FuncData), FunN K "_law_one" s__law_one fa fd ∧ mg "_law_one" = some (.ref fa)
  d__law_tops : ∃ (fa : Addr) (fd : FuncData), FunN K "_law_tops" s__law_tops fa fd ∧ mg "_law_tops" = some (.ref fa)
  d__law_times : ∃ (fa : Addr) (fd : FuncData), FunN K "_law_times" s__law_times fa fd ∧ mg "_law_times" = some (.ref fa)
  d__law_fits : ∃ (fa : Addr) (fd : FuncData), FunN K "_law_fits" s__law_fits fa fd ∧ mg "_law_fits" = some (.ref fa)
  d__law_two : ∃ (fa : Addr) (fd : FuncData), FunN K "_law_two" s__law_two fa fd ∧ mg "_law_two" = some (.ref fa)
  d__law_root_in : ∃ (fa : Addr) (fd : FuncData), FunN K "_law_root_in" s__law_root_in fa fd ∧ mg "_law_root_in" = some (.ref fa)
  d__law_resultant : ∃ (fa : Addr) (fd : FuncData), FunN K "_law_resultant" s__law_resultant fa fd ∧ mg "_law_resultant" = some (.ref fa)
  d_is_integer : ∃ (fa : Addr) (fd : FuncData), FunN K "is_integer" s_is_integer fa fd ∧ mg "is_integer" = some (.ref fa)
  d_in_range : ∃ (fa : Addr) (fd : FuncData), FunN K "in_range" s_in_range fa fd ∧ mg "in_range" = some (.ref fa)
  d_ascends : ∃ (fa : Addr) (fd : FuncData), FunN K "ascends" s_ascends fa fd ∧ mg "ascends" = some (.ref fa)
  d_leaf_fits : ∃ (fa : Addr) (fd : FuncData), FunN K "leaf_fits" s_leaf_fits fa fd ∧ mg "leaf_fits" = some (.ref fa)
  d_move_fits : ∃ (fa : Addr) (fd : FuncData), FunN K "move_fits" s_move_fits fa fd ∧ mg "move_fits" = some (.ref fa)
  d_tuples_in : ∃ (fa : Addr) (fd : FuncData), FunN K "tuples_in" s_tuples_in fa fd ∧ mg "tuples_in" = some (.ref fa)
  d_is_set : ∃ (fa : Addr) (fd : FuncData), FunN K "is_set" s_is_set fa fd ∧ mg "is_set" = some (.ref fa)
  d_check_rests : ∃ (fa : Addr) (fd : FuncData), FunN K "check_rests" s_check_rests fa fd ∧ mg "check_rests" = some (.ref fa)
  d_is_smooth : ∃ (fa : Addr) (fd : FuncData), FunN K "is_smooth" s_is_smooth fa fd ∧ mg "is_smooth" = some (.ref fa)
  d_fits : ∃ (fa : Addr) (fd : FuncData), FunN K "fits" s_fits fa fd ∧ mg "fits" = some (.ref fa)
  d_common_divisor : ∃ (fa : Addr) (fd : FuncData), FunN K "common_divisor" s_common_divisor fa fd ∧ mg "common_divisor" = some (.ref fa)
  d_divisor_of : ∃ (fa : Addr) (fd : FuncData), FunN K "divisor_of" s_divisor_of fa fd ∧ mg "divisor_of" = some (.ref fa)
  d_is_polynomial : ∃ (fa : Addr) (fd : FuncData), FunN K "is_polynomial" s_is_polynomial fa fd ∧ mg "is_polynomial" = some (.ref fa)
  d_check_polynomial : ∃ (fa : Addr) (fd : FuncData), FunN K "check_polynomial" s_check_polynomial fa fd ∧ mg "check_polynomial" = some (.ref fa)
  d_check_integer_polynomial : ∃ (fa : Addr) (fd : FuncData), FunN K "check_integer_polynomial" s_check_integer_polynomial fa fd ∧ mg "check_integer_polynomial" = some (.ref fa)
  d_check_low : ∃ (fa : Addr) (fd : FuncData), FunN K "check_low" s_check_low fa fd ∧ mg "check_low" = some (.ref fa)
  d_determinant : ∃ (fa : Addr) (fd : FuncData), FunN K "determinant" s_determinant fa fd ∧ mg "determinant" = some (.ref fa)
  d_shifted_rows : ∃ (fa : Addr) (fd : FuncData), FunN K "shifted_rows" s_shifted_rows fa fd ∧ mg "shifted_rows" = some (.ref fa)
  d_resultant_of : ∃ (fa : Addr) (fd : FuncData), FunN K "resultant_of" s_resultant_of fa fd ∧ mg "resultant_of" = some (.ref fa)
  d_check_three : ∃ (fa : Addr) (fd : FuncData), FunN K "check_three" s_check_three fa fd ∧ mg "check_three" = some (.ref fa)
  d_period_with : ∃ (fa : Addr) (fd : FuncData), FunN K "period_with" s_period_with fa fd ∧ mg "period_with" = some (.ref fa)
  d_top_value : ∃ (fa : Addr) (fd : FuncData), FunN K "top_value" s_top_value fa fd ∧ mg "top_value" = some (.ref fa)
  d_shared_at : ∃ (fa : Addr) (fd : FuncData), FunN K "shared_at" s_shared_at fa fd ∧ mg "shared_at" = some (.ref fa)
  d_all_shared : ∃ (fa : Addr) (fd : FuncData), FunN K "all_shared" s_all_shared fa fd ∧ mg "all_shared" = some (.ref fa)
  d_common_values : ∃ (fa : Addr) (fd : FuncData), FunN K "common_values" s_common_values fa fd ∧ mg "common_values" = some (.ref fa)
  d_lowest : ∃ (fa : Addr) (fd : FuncData), FunN K "lowest" s_lowest fa fd ∧ mg "lowest" = some (.ref fa)
  d_common_share : ∃ (fa : Addr) (fd : FuncData), FunN K "common_share" s_common_share fa fd ∧ mg "common_share" = some (.ref fa)
  d_least_coprime : ∃ (fa : Addr) (fd : FuncData), FunN K "least_coprime" s_least_coprime fa fd ∧ mg "least_coprime" = some (.ref fa)
  d__law_told : ∃ (fa : Addr) (fd : FuncData), FunN K "_law_told" s__law_told fa fd ∧ mg "_law_told" = some (.ref fa)
  d__law_refused_right : ∃ (fa : Addr) (fd : FuncData), FunN K "_law_refused_right" s__law_refused_right fa fd ∧ mg "_law_refused_right" = some (.ref fa)
  d__law_divisor : ∃ (fa : Addr) (fd : FuncData), FunN K "_law_divisor" s__law_divisor fa fd ∧ mg "_law_divisor" = some (.ref fa)
  d__law_lowest : ∃ (fa : Addr) (fd : FuncData), FunN K "_law_lowest" s__law_lowest fa fd ∧ mg "_law_lowest" = some (.ref fa)
  d__law_value : ∃ (fa : Addr) (fd : FuncData), FunN K "_law_value" s__law_value fa fd ∧ mg "_law_value" = some (.ref fa)
  d__law_common : ∃ (fa : Addr) (fd : FuncData), FunN K "_law_common" s__law_common fa fd ∧ mg "_law_common" = some (.ref fa)
  d__law_shares_right : ∃ (fa : Addr) (fd : FuncData), FunN K "_law_shares_right" s__law_shares_right fa fd ∧ mg "_law_shares_right" = some (.ref fa)
  d_resultant : ∃ (fa : Addr) (fd : FuncData), FunN K "resultant" s_resultant fa fd ∧ mg "resultant" = some (.ref fa)
  d__law_all_right : ∃ (fa : Addr) (fd : FuncData), FunN K "_law_all_right" s__law_all_right fa fd ∧ mg "_law_all_right" = some (.ref fa)
  d__law_right : ∃ (fa : Addr) (fd : FuncData), FunN K "_law_right" s__law_right fa fd ∧ mg "_law_right" = some (.ref fa)
  d__law_feed : ∃ (fa : Addr) (fd : FuncData), FunN K "_law_feed" s__law_feed fa fd ∧ mg "_law_feed" = some (.ref fa)
  d_law : ∃ (fa : Addr) (fd : FuncData), FunN K "law" s_law fa fd ∧ mg "law" = some (.ref fa)
  n_abs : mg "abs" = none
  n_all : mg "all" = none
  n_bool : mg "bool" = none
  n_enumerate : mg "enumerate" = none
  n_int : mg "int" = none
  n_isinstance : mg "isinstance" = none
  n_len : mg "len" = none
  n_list : mg "list" = none
  n_max : mg "max" = none
  n_min : mg "min" = none
  n_range : mg "range" = none
  n_repr : mg "repr" = none
  n_reversed : mg "reversed" = none
  n_set : mg "set" = none
  n_sorted : mg "sorted" = none
  n_sum : mg "sum" = none
  n_tuple : mg "tuple" = none
  n_zip : mg "zip" = none
  i_FACTOR_LIMIT : ∃ t, mg "FACTOR_LIMIT" = some (.int 400 t)
  i_LEVELS : ∃ t, mg "LEVELS" = some (.int 6 t)
  i_LIMIT : ∃ t, mg "LIMIT" = some (.int 1000000000000000000000000000000000000000000000000000000000000 t)
  i_MOST_RESTS : ∃ t, mg "MOST_RESTS" = some (.int 100000 t)
  i_MOST_TOP : ∃ t, mg "MOST_TOP" = some (.int 30 t)
  i_MOST_TOPS_commons : ∃ t, mg "MOST_TOPS_commons" = some (.int 3 t)
  i_MOST_TOPS_polynomials : ∃ t, mg "MOST_TOPS_polynomials" = some (.int 11 t)
  i_PRIME_LIMIT : ∃ t, mg "PRIME_LIMIT" = some (.int 1000000 t)
  i_TUPLES : ∃ t, mg "TUPLES" = some (.int 12 t)
  x_gcd : mg "gcd" = some (.builtin "math.gcd")
  c_BadNumber : XC K mg "BadNumber" (He.ga K "BadNumber")
  c_BadPolynomial : XC K mg "BadPolynomial" (He.ga K "BadPolynomial")
  c_BadTarget : XC K mg "BadTarget" (He.ga K "BadTarget")
  c_NoChoice : XC K mg "NoChoice" (He.ga K "NoChoice")
  c_NotInteger : XC K mg "NotInteger" (He.ga K "NotInteger")
  c_TooMany : XC K mg "TooMany" (He.ga K "TooMany")
  c_WholeError : XC K mg "WholeError" (He.ga K "WholeError")
  k_BadNumber : ∀ nm b, hx_BadNumber nm = some b → ExcC K (He.ga K nm) ∧ PySem.W.kitOne K (.ref (He.ga K nm)) (.ref (He.ga K "BadNumber")) = some b
  k_NoChoice : ∀ nm b, hx_NoChoice nm = some b → ExcC K (He.ga K nm) ∧ PySem.W.kitOne K (.ref (He.ga K nm)) (.ref (He.ga K "NoChoice")) = some b
  k_TooMany : ∀ nm b, hx_TooMany nm = some b → ExcC K (He.ga K nm) ∧ PySem.W.kitOne K (.ref (He.ga K nm)) (.ref (He.ga K "TooMany")) = some b
  e_WholeError : ∀ nm b, hit_WholeError nm = some b → PySem.W.exmOne K (.ref (He.ga K nm)) (.ref (He.ga K "WholeError")) = some b
end
end K76
set_option Elab.async false
set_option linter.all false
set_option maxRecDepth 100000
set_option maxHeartbeats 4000000

/-! K76B: the walks, printed by gen.py. -/
namespace K76
open PySem L2 TL
section
variable {P : Program} {w : World} {K : PySem.W.Frag} {mg : Str → Option Value} {base : Heap}
theorem g__law_draw (F : Fx K mg) : At P w K mg base (He.ga K) 1 "_law_draw" s__law_draw ["feed", "many"] m__law_draw := at_mirror F.d__law_draw S__law_draw rfl (fun _ _ _ _ _ _ us hl => match us, hl with | [_, _], _ => rfl) fun fa cdv A outer s H E hr hgd tk => by
  have S := S__law_draw
  have hu := hr.units
  exact (dss_cons (ds_if (dt_cmpR op_gt opd_cmp (de_ix (de_var 0) de_int) de_int) (dss_cons (ds_set (i := 2) S.nd rfl (de_div (de_ix (de_var 0) de_int) (de_var 1)))
  (dss_cons (ds_set (i := 3) S.nd rfl (de_sub (de_ix (de_var 0) de_int) (de_mul (de_var 2) (de_var 1))))
  (dss_cons (ds_put (pv 0) (de_fz (de_var 2)) de_int (fun he ho hb => ps_asg he (pg_sub ho hb set_list)))
  (dss_one (ds_ret (de_var 3)))))) dss_nil)
  (dss_cons (ds_put (pv 0) (de_fz (de_add (de_ix (de_var 0) de_int) de_int)) de_int (fun he ho hb => ps_asg he (pg_sub ho hb set_list)))
  (dss_cons (ds_set (i := 4) S.nd rfl (de_add (de_ix (de_var 0) de_int) (de_mul de_int (de_ix (de_var 0) de_int))))
  (dss_cons (ds_set (i := 4) S.nd rfl (de_mod (pe_imp (pe_callTy call_int1 rfl F.n_int PyProof.Rows.boot_int (da_cons (de_add (de_mul (de_mul (de_var 4) (de_var 4)) (de_var 4)) (de_mul de_int (de_ix (de_var 0) de_int))) da_nil)) (en_ok opd_int)) (de_add (de_pow de_int de_int) de_int)))
  (dss_cons (ds_set (i := 4) S.nd rfl (de_mod (pe_imp (pe_callTy call_int1 rfl F.n_int PyProof.Rows.boot_int (da_cons (de_add (de_mul (de_var 4) (de_var 4)) de_int) da_nil)) (en_ok opd_int)) (de_add (de_pow de_int de_int) de_int)))
  (dss_one (ds_ret (de_mod (pe_imp (pe_callTy call_int1 rfl F.n_int PyProof.Rows.boot_int (da_cons (de_div (de_var 4) (de_pow de_int de_int)) da_nil)) (en_ok opd_int)) (de_var 1)))))))))
theorem g__law_one (F : Fx K mg) : At P w K mg base (He.ga K) 2 "_law_one" s__law_one ["feed", "things"] m__law_one := at_mirror F.d__law_one S__law_one rfl (fun _ _ _ _ _ _ us hl => match us, hl with | [_, _], _ => rfl) fun fa cdv A outer s H E hr hgd tk => by
  have S := S__law_one
  have hu := hr.units
  exact (dss_one (ds_ret (de_ix (de_var 1) (de_at (g__law_draw F) hr hgd (passAt tk) (da_cons (de_var 0) (da_cons (de_fz (pe_imp (pe_callB cd_len rfl F.n_len PySem.boot_len (da_cons (de_var 1) da_nil)) (en_ok opd_len))) da_nil))))))
theorem g__law_tops (F : Fx K mg) : At P w K mg base (He.ga K) 3 "_law_tops" s__law_tops ["feed"] m__law_tops := at_mirror F.d__law_tops S__law_tops rfl (fun _ _ _ _ _ _ us hl => match us, hl with | [_], _ => rfl) fun fa cdv A outer s H E hr hgd tk => by
  have S := S__law_tops
  have hu := hr.units
  exact (dss_cons (ds_set (i := 1) S.nd rfl (de_at (g__law_one F) hr hgd (passAt tk) (da_cons (de_var 0) (da_cons (de_fz (de_lst (da_cons de_int (da_cons de_int (da_cons de_int (da_cons de_int (da_cons de_int (da_cons de_int da_nil)))))))) da_nil))))
  (dss_cons (ds_setLc (own := [("turn", 3)]) (i := 2) rfl S.nd rfl rfl rfl (di_range1 F.n_range (da_cons (de_at (g__law_one F) hr hgd (passAt tk) (da_cons (de_var 0) (da_cons (de_fz (de_lst (da_cons de_int (da_cons de_int (da_cons de_int da_nil))))) da_nil))) da_nil)) (blkOk_by rfl) (fun _ _ _ _ _ => (dg_name (i := 3) S.nd)) (fun _ _ _ _ _ => dts_nil) (fun _ _ _ _ _ => (de_sub (de_at (g__law_draw F) hr hgd pass_w0 (da_cons (de_var 0) (da_cons (de_fz (de_add (de_mul de_int (de_var 1)) de_int)) da_nil))) (de_var 1))))
  (dss_one (ds_ret (de_add (de_slice (de_var 2) do_none (do_some (de_neg de_int))) (de_lst (da_cons (de_fz (de_if (dt_cmpR (op_neA hu) opd_ne (de_ix (de_var 2) (de_neg de_int)) de_int) (de_ix (de_var 2) (de_neg de_int)) de_int)) da_nil)))))))
theorem g__law_times (F : Fx K mg) : At P w K mg base (He.ga K) 1 "_law_times" s__law_times ["one", "other"] m__law_times := at_mirror F.d__law_times S__law_times rfl (fun _ _ _ _ _ _ us hl => match us, hl with | [_, _], _ => rfl) fun fa cdv A outer s H E hr hgd tk => by
  have S := S__law_times
  have hu := hr.units
  exact (dss_cons (ds_set (i := 2) S.nd rfl (de_rep (de_lst (da_cons de_int da_nil)) (de_sub (de_add (pe_imp (pe_callB cd_len rfl F.n_len PySem.boot_len (da_cons (de_var 0) da_nil)) (en_ok opd_len)) (pe_imp (pe_callB cd_len rfl F.n_len PySem.boot_len (da_cons (de_var 1) da_nil)) (en_ok opd_len))) de_int)))
  (dss_cons (ds_for (passes_of rfl) rfl (di_enumA F.n_enumerate (da_cons (de_fz (de_var 0)) da_nil)) (dg_tup rfl (dgs_cons (dg_name (i := 3) S.nd) (dgs_cons (dg_name (i := 4) S.nd) dgs_nil))) (dss_one (ds_for (passes_of rfl) rfl (di_enumA F.n_enumerate (da_cons (de_fz (de_var 1)) da_nil)) (dg_tup rfl (dgs_cons (dg_name (i := 5) S.nd) (dgs_cons (dg_name (i := 6) S.nd) dgs_nil))) (dss_one (ds_put (pv 2) (de_fz (de_add (de_ix (de_var 2) (de_add (de_var 3) (de_var 5))) (de_mul (de_var 4) (de_var 6)))) (de_add (de_var 3) (de_var 5)) (fun he ho hb => ps_asg he (pg_sub ho hb set_list)))))))
  (dss_one (ds_ret (de_var 2)))))
theorem g__law_fits (F : Fx K mg) : At P w K mg base (He.ga K) 1 "_law_fits" s__law_fits ["tops"] m__law_fits := at_mirror F.d__law_fits S__law_fits rfl (fun _ _ _ _ _ _ us hl => match us, hl with | [_], _ => rfl) fun fa cdv A outer s H E hr hgd tk => by
  have S := S__law_fits
  have hu := hr.units
  exact (dss_one (ds_ret (de_and (de_chain op_le op_le opb_cmp opb_cmp de_int (pe_imp (pe_callB cd_len rfl F.n_len PySem.boot_len (da_cons (de_var 0) da_nil)) (en_ok opd_len)) de_int) (de_and (de_cmp (op_neA hu) opd_ne (de_ix (de_var 0) (de_neg de_int)) de_int) (pe_one (de_cmp op_le opd_cmp (pe_imp (pe_callB (cr_max rfl) rfl F.n_max PyProof.Rows.boot_max (da_cons (de_lc (own := [("top", 1)]) rfl S.nd (di_seq (de_var 0)) (blkOk_by rfl) (fun _ _ _ _ _ => (dg_name (i := 1) S.nd)) (fun _ _ _ _ _ => dts_nil) (fun _ _ _ _ _ => (de_fz (pe_imp (pe_callB call_abs rfl F.n_abs PyProof.Rows.boot_abs (da_cons (de_var 1) da_nil)) (en_ok opd_abs))))) da_nil)) (en_ok opd_max)) de_int))))))
theorem g__law_two (F : Fx K mg) : At P w K mg base (He.ga K) 4 "_law_two" s__law_two ["feed"] m__law_two := at_mirror F.d__law_two S__law_two rfl (fun _ _ _ _ _ _ us hl => match us, hl with | [_], _ => rfl) fun fa cdv A outer s H E hr hgd tk => by
  have S := S__law_two
  have hu := hr.units
  exact (dss_cons (ds_par3 (i := 1) (j := 2) (l := 3) rfl S.nd rfl rfl rfl (by decide) (by decide) (by decide) rfl rfl rfl (da_cons (de_fz (de_at (g__law_tops F) hr hgd (passAt tk) (da_cons (de_var 0) da_nil))) (da_cons (de_fz (de_at (g__law_tops F) hr hgd (passAt tk) (da_cons (de_var 0) da_nil))) (da_cons (de_fz (de_at (g__law_draw F) hr hgd (passAt tk) (da_cons (de_var 0) (da_cons de_int da_nil)))) da_nil))) rfl)
  (dss_cons (ds_set (i := 4) S.nd rfl (pe_imp (pe_callTy call_list_of rfl F.n_list PyProof.Rows.boot_list (da_cons (de_var 2) da_nil)) (en_ok opd_listOf)))
  (dss_cons (ds_if (dt_cmpR (op_eqA hu) opd_eq (de_var 3) de_int) (dss_cons (ds_asg (de_tup (da_cons (de_sub (de_at (g__law_draw F) hr hgd (passAt tk) (da_cons (de_var 0) (da_cons de_int da_nil))) de_int) (da_cons (de_sub (de_at (g__law_draw F) hr hgd (passAt tk) (da_cons (de_var 0) (da_cons de_int da_nil))) de_int) da_nil))) (dg_tup rfl (dgs_cons (dg_name (i := 5) S.nd) (dgs_cons (dg_name (i := 6) S.nd) dgs_nil))))
  (dss_cons (ds_setLc (own := [("top", 7)]) (i := 4) rfl S.nd rfl rfl rfl (di_seq (de_var 1)) (blkOk_by rfl) (fun _ _ _ _ _ => (dg_name (i := 7) S.nd)) (fun _ _ _ _ _ => dts_nil) (fun _ _ _ _ _ => (de_fz (de_mul (de_var 5) (de_var 7)))))
  (dss_one (ds_set (i := 4) S.nd rfl (de_add (de_lst (da_cons (de_fz (de_add (de_ix (de_var 4) de_int) (de_var 6))) (da_cons (de_sub (de_add (de_ix (de_var 4) de_int) (de_at (g__law_draw F) hr hgd (passAt tk) (da_cons (de_var 0) (da_cons de_int da_nil)))) de_int) da_nil))) (de_slice (de_var 4) (do_some de_int) do_none)))))) dss_nil)
  (dss_cons (ds_if (dt_cmpR (op_eqA hu) opd_eq (de_var 3) de_int) (dss_cons (ds_set (i := 5) S.nd rfl (de_at (g__law_one F) hr hgd (passAt tk) (da_cons (de_var 0) (da_cons (de_fz (de_lst (da_cons de_int (da_cons de_int (da_cons de_int da_nil))))) da_nil))))
  (dss_one (ds_par (i := 1) (j := 4) rfl S.nd rfl rfl (by decide) rfl rfl (da_cons (de_lc (own := [("top", 7)]) rfl S.nd (di_seq (de_var 1)) (blkOk_by rfl) (fun _ _ _ _ _ => (dg_name (i := 7) S.nd)) (fun _ _ _ _ _ => dts_nil) (fun _ _ _ _ _ => (de_fz (de_mul (de_var 5) (de_var 7))))) (da_cons (de_lc (own := [("top", 7)]) rfl S.nd (di_seq (de_var 2)) (blkOk_by rfl) (fun _ _ _ _ _ => (dg_name (i := 7) S.nd)) (fun _ _ _ _ _ => dts_nil) (fun _ _ _ _ _ => (de_fz (de_mul (de_var 5) (de_var 7))))) da_nil)) rfl))) dss_nil)
  (dss_cons (ds_if (dt_cmpR (op_eqA hu) opd_eq (de_var 3) de_int) (dss_one (ds_par (i := 1) (j := 4) rfl S.nd rfl rfl (by decide) rfl rfl (da_cons (de_lst (da_cons (de_fz (de_mul de_int (de_at (g__law_draw F) hr hgd (passAt tk) (da_cons (de_var 0) (da_cons de_int da_nil))))) (da_cons de_int (da_cons (de_fz (de_at (g__law_one F) hr hgd (passAt tk) (da_cons (de_var 0) (da_cons (de_fz (de_lst (da_cons de_int (da_cons (de_neg de_int) da_nil)))) da_nil)))) da_nil)))) (da_cons (de_lst (da_cons (de_sub (de_mul de_int (de_at (g__law_draw F) hr hgd (passAt tk) (da_cons (de_var 0) (da_cons de_int da_nil)))) de_int) (da_cons (de_fz (de_at (g__law_one F) hr hgd (passAt tk) (da_cons (de_var 0) (da_cons (de_fz (de_lst (da_cons de_int (da_cons de_int da_nil)))) da_nil)))) (da_cons (de_fz (de_at (g__law_one F) hr hgd (passAt tk) (da_cons (de_var 0) (da_cons (de_fz (de_lst (da_cons de_int (da_cons (de_neg de_int) (da_cons de_int da_nil))))) da_nil)))) da_nil)))) da_nil)) rfl)) dss_nil)
  (dss_cons (ds_if (dt_cmpR (op_eqA hu) opd_eq (de_var 3) de_int) (dss_cons (ds_set (i := 8) S.nd rfl (de_lst (da_cons (de_sub (de_at (g__law_draw F) hr hgd (passAt tk) (da_cons (de_var 0) (da_cons de_int da_nil))) de_int) (da_cons de_int da_nil))))
  (dss_one (ds_par (i := 1) (j := 4) rfl S.nd rfl rfl (by decide) rfl rfl (da_cons (de_at (g__law_times F) hr hgd (passAt tk) (da_cons (de_fz (de_var 8)) (da_cons (de_fz (de_lst (da_cons (de_sub (de_at (g__law_draw F) hr hgd (passAt tk) (da_cons (de_var 0) (da_cons de_int da_nil))) de_int) (da_cons (de_fz (de_at (g__law_one F) hr hgd (passAt tk) (da_cons (de_var 0) (da_cons (de_fz (de_lst (da_cons de_int (da_cons de_int da_nil)))) da_nil)))) da_nil)))) da_nil))) (da_cons (de_at (g__law_one F) hr hgd (passAt tk) (da_cons (de_var 0) (da_cons (de_fz (de_lst (da_cons (de_fz (de_var 8)) (da_cons (de_fz (de_at (g__law_times F) hr hgd (passAt tk) (da_cons (de_fz (de_var 8)) (da_cons (de_fz (de_lst (da_cons (de_sub (de_at (g__law_draw F) hr hgd (passAt tk) (da_cons (de_var 0) (da_cons de_int da_nil))) de_int) (da_cons de_int da_nil)))) da_nil)))) (da_cons (de_fz (de_var 2)) da_nil))))) da_nil))) da_nil)) rfl))) dss_nil)
  (dss_cons (ds_setLc (own := [("tops", 10)]) (i := 9) rfl S.nd rfl rfl rfl (di_seq (de_tup (da_cons (de_fz (de_var 1)) (da_cons (de_fz (de_var 4)) da_nil)))) (blkOk_by rfl) (fun _ _ _ _ _ => (dg_name (i := 10) S.nd)) (fun _ _ _ _ _ => dts_nil) (fun _ _ _ _ _ => (de_fz (de_if (dt_U (de_at (g__law_fits F) hr hgd pass_w0 (da_cons (de_fz (de_var 10)) da_nil))) (pe_imp (pe_callTy call_tuple_of rfl F.n_tuple PyProof.Rows.boot_tuple (da_cons (de_var 10) da_nil)) (en_ok opd_tupOf)) (de_tup (da_cons de_int (da_cons de_int da_nil)))))))
  (dss_one (ds_ret (de_if (dt_cmpR (op_eqA hu) opd_eq (de_at (g__law_draw F) hr hgd (passAt tk) (da_cons (de_var 0) (da_cons de_int da_nil))) de_int) (de_var 9) (de_revA (de_var 9))))))))))))
theorem g__law_root_in (F : Fx K mg) : At P w K mg base (He.ga K) 1 "_law_root_in" s__law_root_in ["one", "other"] m__law_root_in := at_mirror F.d__law_root_in S__law_root_in rfl (fun _ _ _ _ _ _ us hl => match us, hl with | [_, _], _ => rfl) fun fa cdv A outer s H E hr hgd tk => by
  have S := S__law_root_in
  have hu := hr.units
  exact (dss_cons (ds_par (i := 2) (j := 3) rfl S.nd rfl rfl (by decide) rfl rfl (da_cons de_int (da_cons (de_sub (pe_imp (pe_callB cd_len rfl F.n_len PySem.boot_len (da_cons (de_var 1) da_nil)) (en_ok opd_len)) de_int) da_nil)) rfl)
  (dss_cons (ds_for (passes_of rfl) rfl (di_enumA F.n_enumerate (da_cons (de_fz (de_var 1)) da_nil)) (dg_tup rfl (dgs_cons (dg_name (i := 4) S.nd) (dgs_cons (dg_name (i := 5) S.nd) dgs_nil))) (dss_cons (ds_set (i := 6) S.nd rfl (de_var 5))
  (dss_cons (ds_for (passes_of rfl) rfl (di_range1 F.n_range (da_cons (de_var 4) da_nil)) (dg_name (i := 7) S.nd) (dss_one (ds_set (i := 6) S.nd rfl (de_mul (de_var 6) (de_neg (de_ix (de_var 0) de_int))))))
  (dss_cons (ds_for (passes_of rfl) rfl (di_range1 F.n_range (da_cons (de_sub (de_var 3) (de_var 4)) da_nil)) (dg_name (i := 7) S.nd) (dss_one (ds_set (i := 6) S.nd rfl (de_mul (de_var 6) (de_ix (de_var 0) de_int)))))
  (dss_one (ds_set (i := 2) S.nd rfl (de_add (de_var 2) (de_var 6))))))))
  (dss_one (ds_ret (de_var 2)))))
theorem g__law_resultant (F : Fx K mg) : At P w K mg base (He.ga K) 2 "_law_resultant" s__law_resultant ["one", "other"] m__law_resultant := at_mirror F.d__law_resultant S__law_resultant rfl (fun _ _ _ _ _ _ us hl => match us, hl with | [_, _], _ => rfl) fun fa cdv A outer s H E hr hgd tk => by
  have S := S__law_resultant
  have hu := hr.units
  exact (dss_cons (ds_if (dt_cmpR (op_eqA hu) opd_eq (pe_imp (pe_callB cd_len rfl F.n_len PySem.boot_len (da_cons (de_var 0) da_nil)) (en_ok opd_len)) de_int) (dss_one (ds_ret (de_at (g__law_root_in F) hr hgd (passAt tk) (da_cons (de_fz (de_var 0)) (da_cons (de_fz (de_var 1)) da_nil))))) dss_nil)
  (dss_cons (ds_if (dt_cmpR (op_eqA hu) opd_eq (pe_imp (pe_callB cd_len rfl F.n_len PySem.boot_len (da_cons (de_var 1) da_nil)) (en_ok opd_len)) de_int) (dss_one (ds_ret (de_at (g__law_root_in F) hr hgd (passAt tk) (da_cons (de_fz (de_var 1)) (da_cons (de_fz (de_var 0)) da_nil))))) dss_nil)
  (dss_cons (ds_asg (de_fz (de_var 0)) (dg_tup rfl (dgs_cons (dg_name (i := 2) S.nd) (dgs_cons (dg_name (i := 3) S.nd) (dgs_cons (dg_name (i := 4) S.nd) dgs_nil)))))
  (dss_cons (ds_asg (de_fz (de_var 1)) (dg_tup rfl (dgs_cons (dg_name (i := 5) S.nd) (dgs_cons (dg_name (i := 6) S.nd) (dgs_cons (dg_name (i := 7) S.nd) dgs_nil)))))
  (dss_one (ds_ret (de_sub (de_mul (de_sub (de_mul (de_var 4) (de_var 5)) (de_mul (de_var 7) (de_var 2))) (de_sub (de_mul (de_var 4) (de_var 5)) (de_mul (de_var 7) (de_var 2)))) (de_mul (de_sub (de_mul (de_var 4) (de_var 6)) (de_mul (de_var 7) (de_var 3))) (de_sub (de_mul (de_var 3) (de_var 5)) (de_mul (de_var 6) (de_var 2)))))))))))
theorem g_is_integer (F : Fx K mg) : At P w K mg base (He.ga K) 1 "is_integer" s_is_integer ["thing"] m_is_integer := at_mirror F.d_is_integer S_is_integer rfl (fun _ _ _ _ _ _ us hl => match us, hl with | [_], _ => rfl) fun fa cdv A outer s H E hr hgd tk => by
  have S := S_is_integer
  have hu := hr.units
  exact (dss_one (ds_ret (de_and (de_isi F.n_isinstance (de_var 0) (pe_bltn (v := .ty "int") rfl F.n_int PyProof.Rows.boot_int rfl) (.ty "int") isT_ok (fun _ _ h => nomatch h)) (pe_one (de_not (de_isi F.n_isinstance (de_var 0) (pe_bltn (v := .ty "bool") rfl F.n_bool PyProof.Rows.boot_bool rfl) (.ty "bool") isT_ok (fun _ _ h => nomatch h)))))))
theorem g_in_range (F : Fx K mg) : At P w K mg base (He.ga K) 2 "in_range" s_in_range ["thing", "low", "high"] m_in_range := at_mirror F.d_in_range S_in_range rfl (fun _ _ _ _ _ _ us hl => match us, hl with | [_, _, _], _ => rfl) fun fa cdv A outer s H E hr hgd tk => by
  have S := S_in_range
  have hu := hr.units
  exact (dss_one (ds_ret (de_and (de_at (g_is_integer F) hr hgd (passAt tk) (da_cons (de_fz (de_var 0)) da_nil)) (pe_one (de_chain op_le op_le opb_cmp opb_cmp (de_var 1) (de_var 0) (de_var 2))))))
theorem g_ascends (F : Fx K mg) : At P w K mg base (He.ga K) 3 "ascends" s_ascends ["things", "low", "high"] m_ascends := at_mirror F.d_ascends S_ascends rfl (fun _ _ _ _ _ _ us hl => match us, hl with | [_, _, _], _ => rfl) fun fa cdv A outer s H E hr hgd tk => by
  have S := S_ascends
  have hu := hr.units
  exact (dss_cons (ds_if (PW.pt (dw_or (dt_not (dt_U (de_isi F.n_isinstance (de_var 0) (pe_bltn (v := .ty "tuple") rfl F.n_tuple PyProof.Rows.boot_tuple rfl) (.ty "tuple") isT_ok (fun _ _ h => nomatch h)))) (pw_or1 (dt_cmpR (op_eqA hu) opd_eq (pe_imp (pe_callB cd_len rfl F.n_len PySem.boot_len (da_cons (de_var 0) da_nil)) (en_ok opd_len)) de_int)))) (dss_one (ds_ret de_bool)) dss_nil)
  (dss_cons (ds_for (passes_of rfl) rfl (di_range1 F.n_range (da_cons (pe_imp (pe_callB cd_len rfl F.n_len PySem.boot_len (da_cons (de_var 0) da_nil)) (en_ok opd_len)) da_nil)) (dg_name (i := 3) S.nd) (dss_cons (ds_if (dt_not (dt_U (de_at (g_in_range F) hr hgd (passAt tk) (da_cons (de_fz (de_ix (de_var 0) (de_var 3))) (da_cons (de_fz (de_var 1)) (da_cons (de_fz (de_var 2)) da_nil)))))) (dss_one (ds_ret de_bool)) dss_nil)
  (dss_one (ds_if (PW.pt (dw_and (dt_cmpR op_gt opd_cmp (de_var 3) de_int) (pw_and1 (dt_cmpR op_ge opd_cmp (de_ix (de_var 0) (de_sub (de_var 3) de_int)) (de_ix (de_var 0) (de_var 3)))))) (dss_one (ds_ret de_bool)) dss_nil))))
  (dss_one (ds_ret de_bool))))
theorem g_leaf_fits (F : Fx K mg) : At P w K mg base (He.ga K) 4 "leaf_fits" s_leaf_fits ["thing"] m_leaf_fits := at_mirror F.d_leaf_fits S_leaf_fits rfl (fun _ _ _ _ _ _ us hl => match us, hl with | [_], _ => rfl) fun fa cdv A outer s H E hr hgd tk => by
  have S := S_leaf_fits
  have hu := hr.units
  exact (dss_cons (ds_set (i := 1) S.nd rfl (de_ix (de_var 0) de_int))
  (dss_cons (ds_if (dt_cmpR (op_eqA hu) opd_eq (de_var 1) de_str) (dss_one (ds_ret (de_and (de_cmp (op_eqA hu) opd_eq (pe_imp (pe_callB cd_len rfl F.n_len PySem.boot_len (da_cons (de_var 0) da_nil)) (en_ok opd_len)) de_int) (de_and (de_at (g_in_range F) hr hgd (passAt tk) (da_cons (de_fz (de_ix (de_var 0) de_int)) (da_cons de_int (da_cons de_int da_nil)))) (pe_one (de_at (g_ascends F) hr hgd (passAt tk) (da_cons (de_fz (de_ix (de_var 0) de_int)) (da_cons de_int (da_cons (de_sub (de_ix (de_var 0) de_int) de_int) da_nil))))))))) dss_nil)
  (dss_cons (ds_if (dt_cmpR (op_eqA hu) opd_eq (de_var 1) de_str) (dss_one (ds_ret (de_and (de_cmp (op_eqA hu) opd_eq (pe_imp (pe_callB cd_len rfl F.n_len PySem.boot_len (da_cons (de_var 0) da_nil)) (en_ok opd_len)) de_int) (de_and (de_at (g_ascends F) hr hgd (passAt tk) (da_cons (de_fz (de_ix (de_var 0) de_int)) (da_cons (de_neg de_int) (da_cons de_int da_nil)))) (pe_one (de_cmp op_le opd_cmp (pe_imp (pe_callB cd_len rfl F.n_len PySem.boot_len (da_cons (de_ix (de_var 0) de_int) da_nil)) (en_ok opd_len)) de_int)))))) dss_nil)
  (dss_cons (ds_if (dt_cmpR (op_eqA hu) opd_eq (de_var 1) de_str) (dss_one (ds_ret (de_and (de_cmp (op_eqA hu) opd_eq (pe_imp (pe_callB cd_len rfl F.n_len PySem.boot_len (da_cons (de_var 0) da_nil)) (en_ok opd_len)) de_int) (pe_one (de_at (g_in_range F) hr hgd (passAt tk) (da_cons (de_fz (de_ix (de_var 0) de_int)) (da_cons de_int (da_cons de_int da_nil)))))))) dss_nil)
  (dss_one (ds_ret (de_and (de_cmp (op_eqA hu) opd_eq (pe_imp (pe_callB cd_len rfl F.n_len PySem.boot_len (da_cons (de_var 0) da_nil)) (en_ok opd_len)) de_int) (pe_one (de_or (de_cmp (op_eqA hu) opd_eq (de_var 1) de_str) (pe_one (de_cmp (op_eqA hu) opd_eq (de_var 1) de_str)))))))))))
theorem g_move_fits (F : Fx K mg) : At P w K mg base (He.ga K) 3 "move_fits" s_move_fits ["a", "b"] m_move_fits := at_mirror F.d_move_fits S_move_fits rfl (fun _ _ _ _ _ _ us hl => match us, hl with | [_, _], _ => rfl) fun fa cdv A outer s H E hr hgd tk => by
  have S := S_move_fits
  have hu := hr.units
  exact (dss_one (ds_ret (de_and (de_at (g_in_range F) hr hgd (passAt tk) (da_cons (de_fz (de_var 0)) (da_cons (de_neg de_int) (da_cons de_int da_nil)))) (de_and (de_cmp (op_neA hu) opd_ne (de_var 0) de_int) (pe_one (de_at (g_in_range F) hr hgd (passAt tk) (da_cons (de_fz (de_var 1)) (da_cons (de_neg de_int) (da_cons de_int da_nil)))))))))
theorem h_tuples_in (F : Fx K mg) : ∀ n, At P w K mg base (He.ga K) (4 + n) "tuples_in" s_tuples_in ["thing", "levels", "factor", "plain"] (m_tuples_in n)
  | 0 => at_none F.d_tuples_in (fun _ _ _ _ _ _ us hl => match us, hl with | [_, _, _, _], _ => rfl)
  | n + 1 => at_mirror F.d_tuples_in S_tuples_in rfl (fun _ _ _ _ _ _ us hl => match us, hl with | [_, _, _, _], _ => rfl) fun fa cdv A outer s H E hr hgd tk => by
    have ih := h_tuples_in F n
    have S := S_tuples_in
    have hu := hr.units
    exact (dss_cons (ds_if (PW.pt (dw_or (dt_cmpR (op_eqA hu) opd_eq (de_var 1) de_int) (dw_or (dt_not (dt_U (de_isi F.n_isinstance (de_var 0) (pe_bltn (v := .ty "tuple") rfl F.n_tuple PyProof.Rows.boot_tuple rfl) (.ty "tuple") isT_ok (fun _ _ h => nomatch h)))) (pw_or1 (dt_cmpR (op_eqA hu) opd_eq (pe_imp (pe_callB cd_len rfl F.n_len PySem.boot_len (da_cons (de_var 0) da_nil)) (en_ok opd_len)) de_int))))) (dss_one (ds_ret de_int)) dss_nil)
  (dss_cons (ds_set (i := 4) S.nd rfl (de_ix (de_var 0) de_int))
  (dss_cons (ds_if (dt_cmpR (op_eqA hu) opd_eq (de_var 4) de_str) (dss_cons (ds_if (PW.pt (dw_or (dt_cmpR (op_neA hu) opd_ne (pe_imp (pe_callB cd_len rfl F.n_len PySem.boot_len (da_cons (de_var 0) da_nil)) (en_ok opd_len)) de_int) (dw_or (dt_not (dt_U (de_at (hj := by show _ ≤ 4 + n; omega) (g_move_fits F) hr hgd (passAt tk) (da_cons (de_fz (de_ix (de_var 0) de_int)) (da_cons (de_fz (de_ix (de_var 0) de_int)) da_nil))))) (pw_or1 (dt_cmpR op_gt opd_cmp (pe_imp (pe_callB call_abs rfl F.n_abs PyProof.Rows.boot_abs (da_cons (de_mul (de_var 2) (de_ix (de_var 0) de_int)) da_nil)) (en_ok opd_abs)) (de_globI F.i_FACTOR_LIMIT)))))) (dss_one (ds_ret de_int)) dss_nil)
  (dss_cons (ds_set (i := 5) S.nd rfl (de_at (hj := Nat.le_refl _) ih hr hgd (passAt tk) (da_cons (de_fz (de_ix (de_var 0) de_int)) (da_cons (de_sub (de_var 1) de_int) (da_cons (de_fz (de_mul (de_var 2) (de_ix (de_var 0) de_int))) (da_cons (de_fz (de_var 3)) da_nil))))))
  (dss_one (ds_ret (de_if (dt_cmpR (op_eqA hu) opd_eq (de_var 5) de_int) de_int (de_add (de_var 5) de_int)))))) dss_nil)
  (dss_cons (ds_if (dt_cmpR (op_eqA hu) opd_eq (de_var 4) de_str) (dss_cons (ds_if (dt_cmpR (op_neA hu) opd_ne (pe_imp (pe_callB cd_len rfl F.n_len PySem.boot_len (da_cons (de_var 0) da_nil)) (en_ok opd_len)) de_int) (dss_one (ds_ret de_int)) dss_nil)
  (dss_cons (ds_set (i := 6) S.nd rfl (de_at (hj := Nat.le_refl _) ih hr hgd (passAt tk) (da_cons (de_fz (de_ix (de_var 0) de_int)) (da_cons (de_sub (de_var 1) de_int) (da_cons (de_fz (de_var 2)) (da_cons de_bool da_nil))))))
  (dss_cons (ds_set (i := 7) S.nd rfl (de_at (hj := Nat.le_refl _) ih hr hgd (passAt tk) (da_cons (de_fz (de_ix (de_var 0) de_int)) (da_cons (de_sub (de_var 1) de_int) (da_cons (de_fz (de_var 2)) (da_cons de_bool da_nil))))))
  (dss_one (ds_ret (de_if (PW.pt (dw_or (dt_cmpR (op_eqA hu) opd_eq (de_var 6) de_int) (pw_or1 (dt_cmpR (op_eqA hu) opd_eq (de_var 7) de_int)))) de_int (de_add (de_add (de_var 6) (de_var 7)) de_int))))))) dss_nil)
  (dss_cons (ds_if (PW.pt (dw_or (dt_not (dt_U (de_at (hj := by show _ ≤ 4 + n; omega) (g_leaf_fits F) hr hgd (passAt tk) (da_cons (de_fz (de_var 0)) da_nil)))) (pw_or1 (PW.pt (dw_and (dt_U (de_var 3)) (dw_and (dt_cmpR (op_neA hu) opd_ne (de_var 4) de_str) (pw_and1 (dt_cmpR (op_neA hu) opd_ne (de_var 4) de_str)))))))) (dss_one (ds_ret de_int)) dss_nil)
  (dss_one (ds_ret de_int)))))))
theorem g_tuples_in (F : Fx K mg) : At P w K mg base (He.ga K) 11 "tuples_in" s_tuples_in ["thing", "levels", "factor", "plain"] (m_tuples_in 7) := h_tuples_in F 7
theorem g_is_set (F : Fx K mg) : At P w K mg base (He.ga K) 12 "is_set" s_is_set ["thing"] m_is_set := at_mirror F.d_is_set S_is_set rfl (fun _ _ _ _ _ _ us hl => match us, hl with | [_], _ => rfl) fun fa cdv A outer s H E hr hgd tk => by
  have S := S_is_set
  have hu := hr.units
  exact (dss_one (ds_ret (de_chain op_lt op_le opb_cmp opb_cmp de_int (de_at (g_tuples_in F) hr hgd (passAt tk) (da_cons (de_fz (de_var 0)) (da_cons (de_globI F.i_LEVELS) (da_cons de_int (da_cons de_bool da_nil))))) (de_globI F.i_TUPLES))))
theorem g_check_rests (F : Fx K mg) : At P w K mg base (He.ga K) 13 "check_rests" s_check_rests ["numbers"] m_check_rests := at_mirror F.d_check_rests S_check_rests rfl (fun _ _ _ _ _ _ us hl => match us, hl with | [_], _ => rfl) fun fa cdv A outer s H E hr hgd tk => by
  have S := S_check_rests
  have hu := hr.units
  exact (dss_one (ds_if (PW.pt (dw_or (dt_not (dt_U (de_at (g_is_set F) hr hgd (passAt tk) (da_cons (de_fz (de_var 0)) da_nil)))) (pw_or1 (dt_cmpR (op_neA hu) opd_ne (de_ix (de_var 0) de_int) de_str)))) (dss_one (ds_raise F.c_BadTarget rfl tk rfl)) dss_nil))
theorem g_is_smooth (F : Fx K mg) : At P w K mg base (He.ga K) 1 "is_smooth" s_is_smooth ["number"] m_is_smooth := at_mirror F.d_is_smooth S_is_smooth rfl (fun _ _ _ _ _ _ us hl => match us, hl with | [_], _ => rfl) fun fa cdv A outer s H E hr hgd tk => by
  have S := S_is_smooth
  have hu := hr.units
  exact (dss_cons (ds_set (i := 1) S.nd rfl de_int)
  (dss_cons (ds_while (passes_of rfl) (PW.pt (dw_and (dt_cmpR op_gt opd_cmp (de_var 0) (de_globI F.i_PRIME_LIMIT)) (pw_and1 (dt_cmpR op_le opd_cmp (de_var 1) (de_globI F.i_PRIME_LIMIT))))) (dss_one (ds_if (dt_cmpR (op_eqA hu) opd_eq (de_mod (de_var 0) (de_var 1)) de_int) (dss_one (ds_set (i := 0) S.nd rfl (de_div (de_var 0) (de_var 1)))) (dss_one (ds_if (dt_cmpR op_gt opd_cmp (de_mul (de_var 1) (de_var 1)) (de_var 0)) (dss_one (ds_ret de_bool)) (dss_one (ds_set (i := 1) S.nd rfl (de_add (de_add (de_var 1) de_int) (de_mod (de_var 1) de_int)))))))))
  (dss_one (ds_ret (de_cmp op_le opd_cmp (de_var 0) (de_globI F.i_PRIME_LIMIT))))))
theorem g_fits (F : Fx K mg) : At P w K mg base (He.ga K) 3 "fits" s_fits ["tops", "bottom"] m_fits := at_mirror F.d_fits S_fits rfl (fun _ _ _ _ _ _ us hl => match us, hl with | [_, _], _ => rfl) fun fa cdv A outer s H E hr hgd tk => by
  have S := S_fits
  have hu := hr.units
  exact (dss_cons (ds_if (PW.pt (dw_or (dt_cmpR op_gt opd_cmp (pe_imp (pe_callB cd_len rfl F.n_len PySem.boot_len (da_cons (de_var 0) da_nil)) (en_ok opd_len)) (de_globI F.i_MOST_TOPS_polynomials)) (pw_or1 (dt_not (dt_U (de_at (g_in_range F) hr hgd (passAt tk) (da_cons (de_fz (de_var 1)) (da_cons de_int (da_cons (de_globI F.i_LIMIT) da_nil))))))))) (dss_one (ds_ret de_bool)) dss_nil)
  (dss_one (ds_ret (pe_imp (pe_callB (cr_all rfl) rfl F.n_all PyProof.Rows.boot_all (da_cons (de_lc (own := [("top", 2)]) rfl S.nd (di_seq (de_var 0)) (blkOk_by rfl) (fun _ _ _ _ _ => (dg_name (i := 2) S.nd)) (fun _ _ _ _ _ => dts_nil) (fun _ _ _ _ _ => (de_fz (de_at (g_in_range F) hr hgd pass_w0 (da_cons (de_fz (de_var 2)) (da_cons (de_sub de_int (de_globI F.i_LIMIT)) (da_cons (de_sub (de_globI F.i_LIMIT) de_int) da_nil))))))) da_nil)) (en_ok opd_all)))))
theorem g_common_divisor (F : Fx K mg) : At P w K mg base (He.ga K) 1 "common_divisor" s_common_divisor ["first", "second"] m_common_divisor := at_mirror F.d_common_divisor S_common_divisor rfl (fun _ _ _ _ _ _ us hl => match us, hl with | [_, _], _ => rfl) fun fa cdv A outer s H E hr hgd tk => by
  have S := S_common_divisor
  have hu := hr.units
  exact (dss_cons (ds_set (i := 0) S.nd rfl (pe_imp (pe_callB call_abs rfl F.n_abs PyProof.Rows.boot_abs (da_cons (de_var 0) da_nil)) (en_ok opd_abs)))
  (dss_cons (ds_set (i := 1) S.nd rfl (pe_imp (pe_callB call_abs rfl F.n_abs PyProof.Rows.boot_abs (da_cons (de_var 1) da_nil)) (en_ok opd_abs)))
  (dss_cons (ds_while (passes_of rfl) (dt_cmpR (op_neA hu) opd_ne (de_var 1) de_int) (dss_one (ds_par (i := 0) (j := 1) rfl S.nd rfl rfl (by decide) rfl rfl (da_cons (de_fz (de_var 1)) (da_cons (de_mod (de_var 0) (de_var 1)) da_nil)) rfl)))
  (dss_one (ds_ret (de_var 0))))))
theorem g_divisor_of (F : Fx K mg) : At P w K mg base (He.ga K) 2 "divisor_of" s_divisor_of ["bottom", "tops"] m_divisor_of := at_mirror F.d_divisor_of S_divisor_of rfl (fun _ _ _ _ _ _ us hl => match us, hl with | [_, _], _ => rfl) fun fa cdv A outer s H E hr hgd tk => by
  have S := S_divisor_of
  have hu := hr.units
  exact (dss_cons (ds_set (i := 2) S.nd rfl (de_var 0))
  (dss_cons (ds_for (passes_of rfl) rfl (di_seq (de_var 1)) (dg_name (i := 3) S.nd) (dss_one (ds_set (i := 2) S.nd rfl (de_at (g_common_divisor F) hr hgd (passAt tk) (da_cons (de_fz (de_var 2)) (da_cons (de_fz (de_var 3)) da_nil))))))
  (dss_one (ds_ret (de_var 2)))))
theorem g_is_polynomial (F : Fx K mg) : At P w K mg base (He.ga K) 4 "is_polynomial" s_is_polynomial ["thing"] m_is_polynomial := at_mirror F.d_is_polynomial S_is_polynomial rfl (fun _ _ _ _ _ _ us hl => match us, hl with | [_], _ => rfl) fun fa cdv A outer s H E hr hgd tk => by
  have S := S_is_polynomial
  have hu := hr.units
  exact (dss_cons (ds_if (PW.pt (dw_or (dt_not (dt_U (de_isi F.n_isinstance (de_var 0) (pe_bltn (v := .ty "tuple") rfl F.n_tuple PyProof.Rows.boot_tuple rfl) (.ty "tuple") isT_ok (fun _ _ h => nomatch h)))) (dw_or (dt_cmpR (op_neA hu) opd_ne (pe_imp (pe_callB cd_len rfl F.n_len PySem.boot_len (da_cons (de_var 0) da_nil)) (en_ok opd_len)) de_int) (pw_or1 (dt_not (dt_U (de_isi F.n_isinstance (de_ix (de_var 0) de_int) (pe_bltn (v := .ty "tuple") rfl F.n_tuple PyProof.Rows.boot_tuple rfl) (.ty "tuple") isT_ok (fun _ _ h => nomatch h)))))))) (dss_one (ds_ret de_bool)) dss_nil)
  (dss_cons (ds_asg (de_fz (de_var 0)) (dg_tup rfl (dgs_cons (dg_name (i := 1) S.nd) (dgs_cons (dg_name (i := 2) S.nd) dgs_nil))))
  (dss_cons (ds_if (PW.pt (dw_or (dt_not (dt_U (de_at (g_fits F) hr hgd (passAt tk) (da_cons (de_fz (de_var 1)) (da_cons (de_fz (de_var 2)) da_nil))))) (pw_or1 (PW.pt (dw_and (dt_cmpR op_gt opd_cmp (pe_imp (pe_callB cd_len rfl F.n_len PySem.boot_len (da_cons (de_var 1) da_nil)) (en_ok opd_len)) de_int) (pw_and1 (dt_cmpR (op_eqA hu) opd_eq (de_ix (de_var 1) (de_neg de_int)) de_int))))))) (dss_one (ds_ret de_bool)) dss_nil)
  (dss_one (ds_ret (de_and (de_cmp (op_eqA hu) opd_eq (de_at (g_divisor_of F) hr hgd (passAt tk) (da_cons (de_fz (de_var 2)) (da_cons (de_fz (de_var 1)) da_nil))) de_int) (pe_one (de_at (g_is_smooth F) hr hgd (passAt tk) (da_cons (de_fz (de_var 2)) da_nil)))))))))
theorem g_check_polynomial (F : Fx K mg) : At P w K mg base (He.ga K) 5 "check_polynomial" s_check_polynomial ["thing"] m_check_polynomial := at_mirror F.d_check_polynomial S_check_polynomial rfl (fun _ _ _ _ _ _ us hl => match us, hl with | [_], _ => rfl) fun fa cdv A outer s H E hr hgd tk => by
  have S := S_check_polynomial
  have hu := hr.units
  exact (dss_one (ds_if (dt_not (dt_U (de_at (g_is_polynomial F) hr hgd (passAt tk) (da_cons (de_fz (de_var 0)) da_nil)))) (dss_one (ds_raise F.c_BadPolynomial rfl tk rfl)) dss_nil))
theorem g_check_integer_polynomial (F : Fx K mg) : At P w K mg base (He.ga K) 6 "check_integer_polynomial" s_check_integer_polynomial ["polynomial"] m_check_integer_polynomial := at_mirror F.d_check_integer_polynomial S_check_integer_polynomial rfl (fun _ _ _ _ _ _ us hl => match us, hl with | [_], _ => rfl) fun fa cdv A outer s H E hr hgd tk => by
  have S := S_check_integer_polynomial
  have hu := hr.units
  exact (dss_cons (ds_drop (de_at (g_check_polynomial F) hr hgd (passAt tk) (da_cons (de_fz (de_var 0)) da_nil)))
  (dss_one (ds_if (dt_cmpR (op_neA hu) opd_ne (de_ix (de_var 0) de_int) de_int) (dss_one (ds_raise F.c_NotInteger rfl tk rfl)) dss_nil)))
theorem g_check_low (F : Fx K mg) : At P w K mg base (He.ga K) 7 "check_low" s_check_low ["polynomial"] m_check_low := at_mirror F.d_check_low S_check_low rfl (fun _ _ _ _ _ _ us hl => match us, hl with | [_], _ => rfl) fun fa cdv A outer s H E hr hgd tk => by
  have S := S_check_low
  have hu := hr.units
  exact (dss_cons (ds_drop (de_at (g_check_integer_polynomial F) hr hgd (passAt tk) (da_cons (de_fz (de_var 0)) da_nil)))
  (dss_cons (ds_if (dt_not (dt_chain op_le op_le opb_cmp opb_cmp de_int (pe_imp (pe_callB cd_len rfl F.n_len PySem.boot_len (da_cons (de_ix (de_var 0) de_int) da_nil)) (en_ok opd_len)) (de_globI F.i_MOST_TOPS_commons))) (dss_one (ds_raise F.c_BadPolynomial rfl tk rfl)) dss_nil)
  (dss_one (ds_if (dt_not (dt_U (pe_imp (pe_callB (cr_all rfl) rfl F.n_all PyProof.Rows.boot_all (da_cons (de_lc (own := [("top", 1)]) rfl S.nd (di_seq (de_ix (de_var 0) de_int)) (blkOk_by rfl) (fun _ _ _ _ _ => (dg_name (i := 1) S.nd)) (fun _ _ _ _ _ => dts_nil) (fun _ _ _ _ _ => (de_fz (de_at (g_in_range F) hr hgd pass_w0 (da_cons (de_fz (de_var 1)) (da_cons (de_neg (de_globI F.i_MOST_TOP)) (da_cons (de_globI F.i_MOST_TOP) da_nil))))))) da_nil)) (en_ok opd_all)))) (dss_one (ds_raise F.c_BadPolynomial rfl tk rfl)) dss_nil))))
theorem h_determinant (F : Fx K mg) : ∀ n, At P w K mg base (He.ga K) (0 + n) "determinant" s_determinant ["rows"] (m_determinant n)
  | 0 => at_none F.d_determinant (fun _ _ _ _ _ _ us hl => match us, hl with | [_], _ => rfl)
  | n + 1 => at_mirror F.d_determinant S_determinant rfl (fun _ _ _ _ _ _ us hl => match us, hl with | [_], _ => rfl) fun fa cdv A outer s H E hr hgd tk => by
    have ih := h_determinant F n
    have S := S_determinant
    have hu := hr.units
    exact (dss_cons (ds_if (dt_cmpR (op_eqA hu) opd_eq (de_var 0) (de_lst da_nil)) (dss_one (ds_ret de_int)) dss_nil)
  (dss_cons (ds_asg (de_tup (da_cons de_int (da_cons de_int da_nil))) (dg_tup rfl (dgs_cons (dg_name (i := 1) S.nd) (dgs_cons (dg_name (i := 2) S.nd) dgs_nil))))
  (dss_cons (ds_for (passes_of rfl) rfl (di_enumA F.n_enumerate (da_cons (de_fz (de_ix (de_var 0) de_int)) da_nil)) (dg_tup rfl (dgs_cons (dg_name (i := 3) S.nd) (dgs_cons (dg_name (i := 4) S.nd) dgs_nil))) (dss_cons (ds_set (i := 1) S.nd rfl (de_add (de_var 1) (de_mul (de_mul (de_var 2) (de_var 4)) (de_at (hj := Nat.le_refl _) ih hr hgd (passAt tk) (da_cons (de_fz (de_lc (own := [("row", 5)]) rfl S.nd (di_seq (de_slice (de_var 0) (do_some de_int) do_none)) (blkOk_by rfl) (fun _ _ _ _ _ => (dg_name (i := 5) S.nd)) (fun _ _ _ _ _ => dts_nil) (fun _ _ _ _ _ => (de_fz (de_add (de_slice (de_var 5) do_none (do_some (de_var 3))) (de_slice (de_var 5) (do_some (de_add (de_var 3) de_int)) do_none)))))) da_nil)))))
  (dss_one (ds_set (i := 2) S.nd rfl (de_neg (de_var 2))))))
  (dss_one (ds_ret (de_var 1))))))
theorem g_determinant (F : Fx K mg) : At P w K mg base (He.ga K) 5 "determinant" s_determinant ["rows"] (m_determinant 5) := h_determinant F 5
theorem g_shifted_rows (F : Fx K mg) : At P w K mg base (He.ga K) 1 "shifted_rows" s_shifted_rows ["tops", "count", "wide"] m_shifted_rows := at_mirror F.d_shifted_rows S_shifted_rows rfl (fun _ _ _ _ _ _ us hl => match us, hl with | [_, _, _], _ => rfl) fun fa cdv A outer s H E hr hgd tk => by
  have S := S_shifted_rows
  have hu := hr.units
  exact (dss_cons (ds_set (i := 3) S.nd rfl (de_revA (pe_imp (pe_callTy call_list_of rfl F.n_list PyProof.Rows.boot_list (da_cons (de_var 0) da_nil)) (en_ok opd_listOf))))
  (dss_one (ds_ret (de_lc (own := [("at", 4)]) rfl S.nd (di_range1 F.n_range (da_cons (de_var 1) da_nil)) (blkOk_by rfl) (fun _ _ _ _ _ => (dg_name (i := 4) S.nd)) (fun _ _ _ _ _ => dts_nil) (fun _ _ _ _ _ => (de_fz (de_add (de_add (de_rep (de_lst (da_cons de_int da_nil)) (de_var 4)) (de_var 3)) (de_rep (de_lst (da_cons de_int da_nil)) (de_sub (de_sub (de_var 2) (pe_imp (pe_callB cd_len rfl F.n_len PySem.boot_len (da_cons (de_var 3) da_nil)) (en_ok opd_len))) (de_var 4))))))))))
theorem g_resultant_of (F : Fx K mg) : At P w K mg base (He.ga K) 6 "resultant_of" s_resultant_of ["tops", "others"] m_resultant_of := at_mirror F.d_resultant_of S_resultant_of rfl (fun _ _ _ _ _ _ us hl => match us, hl with | [_, _], _ => rfl) fun fa cdv A outer s H E hr hgd tk => by
  have S := S_resultant_of
  have hu := hr.units
  exact (dss_cons (ds_set (i := 2) S.nd rfl (de_sub (de_add (pe_imp (pe_callB cd_len rfl F.n_len PySem.boot_len (da_cons (de_var 0) da_nil)) (en_ok opd_len)) (pe_imp (pe_callB cd_len rfl F.n_len PySem.boot_len (da_cons (de_var 1) da_nil)) (en_ok opd_len))) de_int))
  (dss_one (ds_ret (de_at (g_determinant F) hr hgd (passAt tk) (da_cons (de_fz (de_add (de_at (g_shifted_rows F) hr hgd (passAt tk) (da_cons (de_fz (de_var 0)) (da_cons (de_sub (pe_imp (pe_callB cd_len rfl F.n_len PySem.boot_len (da_cons (de_var 1) da_nil)) (en_ok opd_len)) de_int) (da_cons (de_fz (de_var 2)) da_nil)))) (de_at (g_shifted_rows F) hr hgd (passAt tk) (da_cons (de_fz (de_var 1)) (da_cons (de_sub (pe_imp (pe_callB cd_len rfl F.n_len PySem.boot_len (da_cons (de_var 0) da_nil)) (en_ok opd_len)) de_int) (da_cons (de_fz (de_var 2)) da_nil)))))) da_nil)))))
theorem g_check_three (F : Fx K mg) : At P w K mg base (He.ga K) 14 "check_three" s_check_three ["numbers", "polynomial", "other"] m_check_three := at_mirror F.d_check_three S_check_three rfl (fun _ _ _ _ _ _ us hl => match us, hl with | [_, _, _], _ => rfl) fun fa cdv A outer s H E hr hgd tk => by
  have S := S_check_three
  have hu := hr.units
  exact (dss_cons (ds_drop (de_at (g_check_rests F) hr hgd (passAt tk) (da_cons (de_fz (de_var 0)) da_nil)))
  (dss_cons (ds_drop (de_at (g_check_low F) hr hgd (passAt tk) (da_cons (de_fz (de_var 1)) da_nil)))
  (dss_cons (ds_drop (de_at (g_check_low F) hr hgd (passAt tk) (da_cons (de_fz (de_var 2)) da_nil)))
  (dss_one (ds_if (dt_cmpR (op_eqA hu) opd_eq (de_at (g_resultant_of F) hr hgd (passAt tk) (da_cons (de_fz (de_ix (de_var 1) de_int)) (da_cons (de_fz (de_ix (de_var 2) de_int)) da_nil))) de_int) (dss_one (ds_raise F.c_NoChoice rfl tk rfl)) dss_nil)))))
theorem g_period_with (F : Fx K mg) : At P w K mg base (He.ga K) 7 "period_with" s_period_with ["numbers", "polynomial", "other"] m_period_with := at_mirror F.d_period_with S_period_with rfl (fun _ _ _ _ _ _ us hl => match us, hl with | [_, _, _], _ => rfl) fun fa cdv A outer s H E hr hgd tk => by
  have S := S_period_with
  have hu := hr.units
  exact (dss_cons (ds_set (i := 3) S.nd rfl (de_mul (pe_imp (pe_callB call_abs rfl F.n_abs PyProof.Rows.boot_abs (da_cons (de_at (g_resultant_of F) hr hgd (passAt tk) (da_cons (de_fz (de_ix (de_var 1) de_int)) (da_cons (de_fz (de_ix (de_var 2) de_int)) da_nil))) da_nil)) (en_ok opd_abs)) (de_ix (de_var 0) de_int)))
  (dss_cons (ds_if (dt_cmpR op_gt opd_cmp (de_var 3) (de_globI F.i_MOST_RESTS)) (dss_one (ds_raise F.c_TooMany rfl tk rfl)) dss_nil)
  (dss_one (ds_ret (de_var 3)))))
theorem g_top_value (F : Fx K mg) : At P w K mg base (He.ga K) 1 "top_value" s_top_value ["tops", "number"] m_top_value := at_mirror F.d_top_value S_top_value rfl (fun _ _ _ _ _ _ us hl => match us, hl with | [_, _], _ => rfl) fun fa cdv A outer s H E hr hgd tk => by
  have S := S_top_value
  have hu := hr.units
  exact (dss_cons (ds_set (i := 2) S.nd rfl de_int)
  (dss_cons (ds_for (passes_of rfl) rfl (di_rev F.n_reversed (da_cons (de_fz (pe_imp (pe_callTy call_list_of rfl F.n_list PyProof.Rows.boot_list (da_cons (de_var 0) da_nil)) (en_ok opd_listOf))) da_nil)) (dg_name (i := 3) S.nd) (dss_one (ds_set (i := 2) S.nd rfl (de_add (de_mul (de_var 2) (de_var 1)) (de_var 3)))))
  (dss_one (ds_ret (de_var 2)))))
theorem g_shared_at (F : Fx K mg) : At P w K mg base (He.ga K) 2 "shared_at" s_shared_at ["polynomial", "other", "number"] m_shared_at := at_mirror F.d_shared_at S_shared_at rfl (fun _ _ _ _ _ _ us hl => match us, hl with | [_, _, _], _ => rfl) fun fa cdv A outer s H E hr hgd tk => by
  have S := S_shared_at
  have hu := hr.units
  exact (dss_one (ds_ret (de_gcd F.x_gcd (da_cons (de_at (g_top_value F) hr hgd (passAt tk) (da_cons (de_fz (de_ix (de_var 0) de_int)) (da_cons (de_fz (de_var 2)) da_nil))) (da_cons (de_at (g_top_value F) hr hgd (passAt tk) (da_cons (de_fz (de_ix (de_var 1) de_int)) (da_cons (de_fz (de_var 2)) da_nil))) da_nil)))))
theorem g_all_shared (F : Fx K mg) : At P w K mg base (He.ga K) 8 "all_shared" s_all_shared ["numbers", "polynomial", "other"] m_all_shared := at_mirror F.d_all_shared S_all_shared rfl (fun _ _ _ _ _ _ us hl => match us, hl with | [_, _, _], _ => rfl) fun fa cdv A outer s H E hr hgd tk => by
  have S := S_all_shared
  have hu := hr.units
  exact (dss_cons (ds_set (i := 3) S.nd rfl (de_at (g_period_with F) hr hgd (passAt tk) (da_cons (de_fz (de_var 0)) (da_cons (de_fz (de_var 1)) (da_cons (de_fz (de_var 2)) da_nil)))))
  (dss_cons (ds_setLc (own := [("number", 5)]) (i := 4) rfl S.nd rfl rfl rfl (di_range1 F.n_range (da_cons (de_var 3) da_nil)) (blkOk_by rfl) (fun _ _ _ _ _ => (dg_name (i := 5) S.nd)) (fun _ _ _ _ _ => (dts_one (dt_cmpR op_inA opd_in (de_mod (de_var 5) (de_ix (de_var 0) de_int)) (de_ix (de_var 0) de_int)))) (fun _ _ _ _ _ => (de_fz (de_var 5))))
  (dss_one (ds_ret (de_lc (own := [("number", 5)]) rfl S.nd (di_seq (de_var 4)) (blkOk_by rfl) (fun _ _ _ _ _ => (dg_name (i := 5) S.nd)) (fun _ _ _ _ _ => dts_nil) (fun _ _ _ _ _ => (de_fz (de_at (g_shared_at F) hr hgd pass_w0 (da_cons (de_fz (de_var 1)) (da_cons (de_fz (de_var 2)) (da_cons (de_fz (de_var 5)) da_nil)))))))))))
theorem g_common_values (F : Fx K mg) : At P w K mg base (He.ga K) 15 "common_values" s_common_values ["numbers", "polynomial", "other"] m_common_values := at_mirror F.d_common_values S_common_values rfl (fun _ _ _ _ _ _ us hl => match us, hl with | [_, _, _], _ => rfl) fun fa cdv A outer s H E hr hgd tk => by
  have S := S_common_values
  have hu := hr.units
  exact (dss_cons (ds_drop (de_at (g_check_three F) hr hgd (passAt tk) (da_cons (de_fz (de_var 0)) (da_cons (de_fz (de_var 1)) (da_cons (de_fz (de_var 2)) da_nil)))))
  (dss_one (ds_ret (de_sortSet rfl F.n_sorted F.n_set (da_cons (de_at (g_all_shared F) hr hgd (passAt tk) (da_cons (de_fz (de_var 0)) (da_cons (de_fz (de_var 1)) (da_cons (de_fz (de_var 2)) da_nil)))) da_nil)))))
theorem g_lowest (F : Fx K mg) : At P w K mg base (He.ga K) 2 "lowest" s_lowest ["above", "below"] m_lowest := at_mirror F.d_lowest S_lowest rfl (fun _ _ _ _ _ _ us hl => match us, hl with | [_, _], _ => rfl) fun fa cdv A outer s H E hr hgd tk => by
  have S := S_lowest
  have hu := hr.units
  exact (dss_cons (ds_set (i := 2) S.nd rfl (de_at (g_common_divisor F) hr hgd (passAt tk) (da_cons (de_fz (de_var 0)) (da_cons (de_fz (de_var 1)) da_nil))))
  (dss_cons (ds_if (dt_cmpR op_lt opd_cmp (de_var 1) de_int) (dss_one (ds_set (i := 2) S.nd rfl (de_neg (de_var 2)))) dss_nil)
  (dss_one (ds_ret (de_tup (da_cons (de_div (de_var 0) (de_var 2)) (da_cons (de_div (de_var 1) (de_var 2)) da_nil)))))))
theorem g_common_share (F : Fx K mg) : At P w K mg base (He.ga K) 15 "common_share" s_common_share ["numbers", "polynomial", "other", "divisor"] m_common_share := at_mirror F.d_common_share S_common_share rfl (fun _ _ _ _ _ _ us hl => match us, hl with | [_, _, _, _], _ => rfl) fun fa cdv A outer s H E hr hgd tk => by
  have S := S_common_share
  have hu := hr.units
  exact (dss_cons (ds_drop (de_at (g_check_three F) hr hgd (passAt tk) (da_cons (de_fz (de_var 0)) (da_cons (de_fz (de_var 1)) (da_cons (de_fz (de_var 2)) da_nil)))))
  (dss_cons (ds_if (PW.pt (dw_or (dt_not (dt_U (de_at (g_is_integer F) hr hgd (passAt tk) (da_cons (de_fz (de_var 3)) da_nil)))) (pw_or1 (dt_cmpR op_lt opd_cmp (de_var 3) de_int)))) (dss_one (ds_raise F.c_BadNumber rfl tk rfl)) dss_nil)
  (dss_cons (ds_set (i := 4) S.nd rfl (de_at (g_all_shared F) hr hgd (passAt tk) (da_cons (de_fz (de_var 0)) (da_cons (de_fz (de_var 1)) (da_cons (de_fz (de_var 2)) da_nil)))))
  (dss_one (ds_ret (de_at (g_lowest F) hr hgd (passAt tk) (da_cons (de_fz (pe_imp (pe_callB cd_len rfl F.n_len PySem.boot_len (da_cons (de_lc (own := [("one", 5)]) rfl S.nd (di_seq (de_var 4)) (blkOk_by rfl) (fun _ _ _ _ _ => (dg_name (i := 5) S.nd)) (fun _ _ _ _ _ => (dts_one (dt_cmpR (op_eqA hu) opd_eq (de_var 5) (de_var 3)))) (fun _ _ _ _ _ => (de_fz (de_var 5)))) da_nil)) (en_ok opd_len))) (da_cons (de_fz (pe_imp (pe_callB cd_len rfl F.n_len PySem.boot_len (da_cons (de_var 4) da_nil)) (en_ok opd_len))) da_nil))))))))
theorem g_least_coprime (F : Fx K mg) : At P w K mg base (He.ga K) 15 "least_coprime" s_least_coprime ["numbers", "polynomial", "other"] m_least_coprime := at_mirror F.d_least_coprime S_least_coprime rfl (fun _ _ _ _ _ _ us hl => match us, hl with | [_, _, _], _ => rfl) fun fa cdv A outer s H E hr hgd tk => by
  have S := S_least_coprime
  have hu := hr.units
  exact (dss_cons (ds_drop (de_at (g_check_three F) hr hgd (passAt tk) (da_cons (de_fz (de_var 0)) (da_cons (de_fz (de_var 1)) (da_cons (de_fz (de_var 2)) da_nil)))))
  (dss_cons (ds_set (i := 3) S.nd rfl (de_at (g_period_with F) hr hgd (passAt tk) (da_cons (de_fz (de_var 0)) (da_cons (de_fz (de_var 1)) (da_cons (de_fz (de_var 2)) da_nil)))))
  (dss_cons (ds_for (passes_of rfl) rfl (di_range1 F.n_range (da_cons (de_var 3) da_nil)) (dg_name (i := 4) S.nd) (dss_one (ds_for (passes_of rfl) rfl (di_seq (de_tup (da_cons (de_fz (de_var 4)) (da_cons (de_neg (de_var 4)) da_nil)))) (dg_name (i := 5) S.nd) (dss_one (ds_if (PW.pt (dw_and (dt_cmpR op_inA opd_in (de_mod (de_var 5) (de_ix (de_var 0) de_int)) (de_ix (de_var 0) de_int)) (pw_and1 (dt_cmpR (op_eqA hu) opd_eq (de_at (g_shared_at F) hr hgd (passAt tk) (da_cons (de_fz (de_var 1)) (da_cons (de_fz (de_var 2)) (da_cons (de_fz (de_var 5)) da_nil)))) de_int)))) (dss_one (ds_ret (de_var 5))) dss_nil)))))
  (dss_one (ds_ret de_none)))))
theorem g__law_told (F : Fx K mg) : At P w K mg base (He.ga K) 16 "_law_told" s__law_told ["way", "numbers", "one", "other", "divisor"] m__law_told := at_mirror F.d__law_told S__law_told rfl (fun _ _ _ _ _ _ us hl => match us, hl with | [_, _, _, _, _], _ => rfl) fun fa cdv A outer s H E hr hgd tk => by
  have S := S__law_told
  have hu := hr.units
  exact (dss_cons (ds_asg (de_tup (da_cons (de_tup (da_cons de_str (da_cons de_none da_nil))) (da_cons de_none da_nil))) (dg_tup rfl (dgs_cons (dg_name (i := 5) S.nd) (dgs_cons (dg_name (i := 6) S.nd) dgs_nil))))
  (dss_cons (ds_try (i := 7) rfl rfl rfl S.nd rfl rfl ⟨rfl, by decide, .inl F.c_WholeError.mg⟩ tk F.e_WholeError (fun _ _ _ tk hp => (dss_one (ds_if (dt_cmpR (op_eqA hu) opd_eq (de_var 0) de_int) (dss_one (ds_set (i := 5) S.nd rfl (de_tup (da_cons de_str (da_cons (de_fz (de_at (g_common_values F) hr hgd (passAt tk) (da_cons (de_fz (de_var 1)) (da_cons (de_fz (de_var 2)) (da_cons (de_fz (de_var 3)) da_nil))))) da_nil))))) (dss_one (ds_if (dt_cmpR (op_eqA hu) opd_eq (de_var 0) de_int) (dss_one (ds_set (i := 5) S.nd rfl (de_tup (da_cons de_str (da_cons (de_fz (de_at (g_common_share F) hr hgd (passAt tk) (da_cons (de_fz (de_var 1)) (da_cons (de_fz (de_var 2)) (da_cons (de_fz (de_var 3)) (da_cons (de_fz (de_var 4)) da_nil)))))) da_nil))))) (dss_one (ds_set (i := 5) S.nd rfl (de_tup (da_cons de_str (da_cons (de_fz (de_at (g_least_coprime F) hr hgd (passAt tk) (da_cons (de_fz (de_var 1)) (da_cons (de_fz (de_var 2)) (da_cons (de_fz (de_var 3)) da_nil))))) da_nil)))))))))) (fun _ => (dss_one (ds_set (i := 6) S.nd rfl (de_var 7)))))
  (dss_cons (ds_if (dt_isN (de_var 6)) (dss_one (ds_ret (de_var 5))) dss_nil)
  (dss_cons (ds_set (i := 8) S.nd rfl (de_lst (da_cons (de_fz (de_isi F.n_isinstance (de_var 6) (pe_glob (v := .ref (He.ga K "NoChoice")) rfl F.c_NoChoice.mg rfl) (.own _) (fun _ _ h => nomatch h) F.k_NoChoice)) (da_cons (de_fz (de_isi F.n_isinstance (de_var 6) (pe_glob (v := .ref (He.ga K "TooMany")) rfl F.c_TooMany.mg rfl) (.own _) (fun _ _ h => nomatch h) F.k_TooMany)) (da_cons (de_fz (de_isi F.n_isinstance (de_var 6) (pe_glob (v := .ref (He.ga K "BadNumber")) rfl F.c_BadNumber.mg rfl) (.own _) (fun _ _ h => nomatch h) F.k_BadNumber)) da_nil)))))
  (dss_one (ds_ret (de_tup (da_cons de_str (da_cons (de_fz (de_join de_str (de_lc (own := [("word", 9), ("kind", 10)]) rfl S.nd (di_zip F.n_zip (da_cons (de_fz (de_lst (da_cons de_str (da_cons de_str (da_cons de_str da_nil))))) (da_cons (de_fz (de_var 8)) da_nil))) (blkOk_by rfl) (fun _ _ _ _ _ => (dg_tup rfl (dgs_cons (dg_name (i := 9) S.nd) (dgs_cons (dg_name (i := 10) S.nd) dgs_nil)))) (fun _ _ _ _ _ => (dts_one (dt_U (de_var 10)))) (fun _ _ _ _ _ => (de_fz (de_var 9)))))) da_nil)))))))))
theorem g__law_refused_right (F : Fx K mg) : At P w K mg base (He.ga K) 17 "_law_refused_right" s__law_refused_right ["feed", "numbers", "one", "other", "word"] m__law_refused_right := at_mirror F.d__law_refused_right S__law_refused_right rfl (fun _ _ _ _ _ _ us hl => match us, hl with | [_, _, _, _, _], _ => rfl) fun fa cdv A outer s H E hr hgd tk => by
  have S := S__law_refused_right
  have hu := hr.units
  exact (dss_cons (ds_par (i := 5) (j := 6) rfl S.nd rfl rfl (by decide) rfl rfl (da_cons (de_at (g__law_one F) hr hgd (passAt tk) (da_cons (de_var 0) (da_cons (de_fz (de_lst (da_cons de_int (da_cons (de_neg de_int) (da_cons de_none (da_cons de_bool (da_cons de_str (da_cons (de_tup (da_cons de_int da_nil)) da_nil)))))))) da_nil))) (da_cons (de_tup (da_cons de_str (da_cons (de_fz (de_var 4)) da_nil))) da_nil)) rfl)
  (dss_cons (ds_set (i := 7) S.nd rfl (de_add (de_lc (own := [("way", 8)]) rfl S.nd (di_range1 F.n_range (da_cons de_int da_nil)) (blkOk_by rfl) (fun _ _ _ _ _ => (dg_name (i := 8) S.nd)) (fun _ _ _ _ _ => dts_nil) (fun _ _ _ _ _ => (de_fz (de_at (g__law_told F) hr hgd pass_w0 (da_cons (de_fz (de_var 8)) (da_cons (de_fz (de_var 1)) (da_cons (de_fz (de_var 2)) (da_cons (de_fz (de_var 3)) (da_cons de_int da_nil))))))))) (de_lst (da_cons (de_fz (de_at (g__law_told F) hr hgd (passAt tk) (da_cons de_int (da_cons (de_fz (de_var 1)) (da_cons (de_fz (de_var 2)) (da_cons (de_fz (de_var 3)) (da_cons (de_fz (de_var 5)) da_nil))))))) da_nil))))
  (dss_one (ds_ret (de_cmp (op_eqA hu) opd_eq (de_var 7) (de_lst (da_cons (de_fz (de_var 6)) (da_cons (de_fz (de_var 6)) (da_cons (de_fz (de_var 6)) (da_cons (de_tup (da_cons de_str (da_cons (de_fz (de_if (dt_cmpR (op_eqA hu) opd_eq (de_var 4) de_str) de_str de_str)) da_nil))) da_nil))))))))))
theorem g__law_divisor (F : Fx K mg) : At P w K mg base (He.ga K) 1 "_law_divisor" s__law_divisor ["one", "other"] m__law_divisor := at_mirror F.d__law_divisor S__law_divisor rfl (fun _ _ _ _ _ _ us hl => match us, hl with | [_, _], _ => rfl) fun fa cdv A outer s H E hr hgd tk => by
  have S := S__law_divisor
  have hu := hr.units
  exact (dss_cons (ds_par (i := 0) (j := 1) rfl S.nd rfl rfl (by decide) rfl rfl (da_cons (pe_imp (pe_callB call_abs rfl F.n_abs PyProof.Rows.boot_abs (da_cons (de_var 0) da_nil)) (en_ok opd_abs)) (da_cons (pe_imp (pe_callB call_abs rfl F.n_abs PyProof.Rows.boot_abs (da_cons (de_var 1) da_nil)) (en_ok opd_abs)) da_nil)) rfl)
  (dss_cons (ds_while (passes_of rfl) (dt_cmpR op_gt opd_cmp (de_var 1) de_int) (dss_one (ds_par (i := 0) (j := 1) rfl S.nd rfl rfl (by decide) rfl rfl (da_cons (de_fz (de_var 1)) (da_cons (de_mod (pe_imp (pe_callTy call_int1 rfl F.n_int PyProof.Rows.boot_int (da_cons (de_var 0) da_nil)) (en_ok opd_int)) (de_var 1)) da_nil)) rfl)))
  (dss_one (ds_ret (de_var 0)))))
theorem g__law_lowest (F : Fx K mg) : At P w K mg base (He.ga K) 2 "_law_lowest" s__law_lowest ["tops", "bottom"] m__law_lowest := at_mirror F.d__law_lowest S__law_lowest rfl (fun _ _ _ _ _ _ us hl => match us, hl with | [_, _], _ => rfl) fun fa cdv A outer s H E hr hgd tk => by
  have S := S__law_lowest
  have hu := hr.units
  exact (dss_cons (ds_set (i := 2) S.nd rfl (pe_imp (pe_callTy call_list_of rfl F.n_list PyProof.Rows.boot_list (da_cons (de_var 0) da_nil)) (en_ok opd_listOf)))
  (dss_cons (ds_for (passes_of rfl) rfl (di_range1 F.n_range (da_cons (pe_imp (pe_callB cd_len rfl F.n_len PySem.boot_len (da_cons (de_var 0) da_nil)) (en_ok opd_len)) da_nil)) (dg_name (i := 3) S.nd) (dss_one (ds_if (PW.pt (dw_and (dt_cmpR (op_neA hu) opd_ne (de_var 2) (de_lst da_nil)) (pw_and1 (dt_cmpR (op_eqA hu) opd_eq (de_ix (de_var 2) (de_neg de_int)) de_int)))) (dss_one (ds_set (i := 2) S.nd rfl (de_slice (de_var 2) do_none (do_some (de_neg de_int))))) dss_nil)))
  (dss_cons (ds_set (i := 4) S.nd rfl (pe_imp (pe_callB call_abs rfl F.n_abs PyProof.Rows.boot_abs (da_cons (de_var 1) da_nil)) (en_ok opd_abs)))
  (dss_cons (ds_for (passes_of rfl) rfl (di_seq (de_var 2)) (dg_name (i := 5) S.nd) (dss_one (ds_set (i := 4) S.nd rfl (de_at (g__law_divisor F) hr hgd (passAt tk) (da_cons (de_fz (de_var 4)) (da_cons (de_fz (de_var 5)) da_nil))))))
  (dss_cons (ds_set (i := 4) S.nd rfl (de_if (dt_cmpR op_gt opd_cmp (de_var 1) de_int) (de_var 4) (de_neg (de_var 4))))
  (dss_one (ds_ret (de_tup (da_cons (de_fz (pe_imp (pe_callTy call_tuple_of rfl F.n_tuple PyProof.Rows.boot_tuple (da_cons (de_lc (own := [("top", 5)]) rfl S.nd (di_seq (de_var 2)) (blkOk_by rfl) (fun _ _ _ _ _ => (dg_name (i := 5) S.nd)) (fun _ _ _ _ _ => dts_nil) (fun _ _ _ _ _ => (de_div (de_var 5) (de_var 4)))) da_nil)) (en_ok opd_tupOf))) (da_cons (de_div (de_var 1) (de_var 4)) da_nil))))))))))
theorem g__law_value (F : Fx K mg) : At P w K mg base (He.ga K) 1 "_law_value" s__law_value ["tops", "x"] m__law_value := at_mirror F.d__law_value S__law_value rfl (fun _ _ _ _ _ _ us hl => match us, hl with | [_, _], _ => rfl) fun fa cdv A outer s H E hr hgd tk => by
  have S := S__law_value
  have hu := hr.units
  exact (dss_cons (ds_set (i := 2) S.nd rfl de_int)
  (dss_cons (ds_for (passes_of rfl) rfl (di_seq (de_revA (de_var 0))) (dg_name (i := 3) S.nd) (dss_one (ds_set (i := 2) S.nd rfl (de_add (de_mul (de_var 2) (de_var 1)) (de_var 3)))))
  (dss_one (ds_ret (de_var 2)))))
theorem g__law_common (F : Fx K mg) : At P w K mg base (He.ga K) 2 "_law_common" s__law_common ["one", "other", "x"] m__law_common := at_mirror F.d__law_common S__law_common rfl (fun _ _ _ _ _ _ us hl => match us, hl with | [_, _, _], _ => rfl) fun fa cdv A outer s H E hr hgd tk => by
  have S := S__law_common
  have hu := hr.units
  exact (dss_one (ds_ret (de_at (g__law_divisor F) hr hgd (passAt tk) (da_cons (de_fz (de_at (g__law_value F) hr hgd (passAt tk) (da_cons (de_fz (de_ix (de_var 0) de_int)) (da_cons (de_fz (de_var 2)) da_nil)))) (da_cons (de_fz (de_at (g__law_value F) hr hgd (passAt tk) (da_cons (de_fz (de_ix (de_var 1) de_int)) (da_cons (de_fz (de_var 2)) da_nil)))) da_nil)))))
theorem g__law_shares_right (F : Fx K mg) : At P w K mg base (He.ga K) 17 "_law_shares_right" s__law_shares_right ["feed", "numbers", "one", "other", "found", "whole"] m__law_shares_right := at_mirror F.d__law_shares_right S__law_shares_right rfl (fun _ _ _ _ _ _ us hl => match us, hl with | [_, _, _, _, _, _], _ => rfl) fun fa cdv A outer s H E hr hgd tk => by
  have S := S__law_shares_right
  have hu := hr.units
  exact (dss_cons (ds_par (i := 6) (j := 7) rfl S.nd rfl rfl (by decide) rfl rfl (da_cons de_int (da_cons (de_sortSet rfl F.n_sorted F.n_set (da_cons (de_var 4) da_nil)) da_nil)) rfl)
  (dss_cons (ds_for (passes_of rfl) rfl (di_seq (de_var 7)) (dg_name (i := 8) S.nd) (dss_cons (ds_set (i := 9) S.nd rfl (pe_imp (pe_callB cd_len rfl F.n_len PySem.boot_len (da_cons (de_lc (own := [("told", 10)]) rfl S.nd (di_seq (de_var 4)) (blkOk_by rfl) (fun _ _ _ _ _ => (dg_name (i := 10) S.nd)) (fun _ _ _ _ _ => (dts_one (dt_cmpR (op_eqA hu) opd_eq (de_var 10) (de_var 8)))) (fun _ _ _ _ _ => de_int)) da_nil)) (en_ok opd_len)))
  (dss_cons (ds_set (i := 11) S.nd rfl (de_at (g__law_divisor F) hr hgd (passAt tk) (da_cons (de_fz (de_var 9)) (da_cons (de_fz (pe_imp (pe_callB cd_len rfl F.n_len PySem.boot_len (da_cons (de_var 4) da_nil)) (en_ok opd_len))) da_nil))))
  (dss_cons (ds_if (dt_cmpR (op_neA hu) opd_ne (de_repr hr hgd F.n_repr (da_cons (de_fz (de_at (g__law_told F) hr hgd (passAt tk) (da_cons de_int (da_cons (de_fz (de_var 1)) (da_cons (de_fz (de_var 2)) (da_cons (de_fz (de_var 3)) (da_cons (de_fz (de_var 8)) da_nil))))))) da_nil)) (de_repr hr hgd F.n_repr (da_cons (de_tup (da_cons de_str (da_cons (de_tup (da_cons (de_div (de_var 9) (de_var 11)) (da_cons (de_div (pe_imp (pe_callB cd_len rfl F.n_len PySem.boot_len (da_cons (de_var 4) da_nil)) (en_ok opd_len)) (de_var 11)) da_nil))) da_nil))) da_nil))) (dss_one (ds_ret de_bool)) dss_nil)
  (dss_one (ds_set (i := 6) S.nd rfl (de_add (de_var 6) (de_var 9))))))))
  (dss_cons (ds_set (i := 8) S.nd rfl (de_at (g__law_one F) hr hgd (passAt tk) (da_cons (de_var 0) (da_cons (de_fz (de_lst (da_cons de_int (da_cons de_int (da_cons (de_fz (de_var 5)) (da_cons (de_fz (de_add (de_var 5) de_int)) (da_cons (de_fz (de_mul de_int (de_var 5))) (da_cons (de_pow de_int de_int) (da_cons (de_fz (de_ix (de_var 7) (de_neg de_int))) da_nil))))))))) da_nil))))
  (dss_cons (ds_set (i := 9) S.nd rfl (pe_imp (pe_callB cd_len rfl F.n_len PySem.boot_len (da_cons (de_lc (own := [("told", 10)]) rfl S.nd (di_seq (de_var 4)) (blkOk_by rfl) (fun _ _ _ _ _ => (dg_name (i := 10) S.nd)) (fun _ _ _ _ _ => (dts_one (dt_cmpR (op_eqA hu) opd_eq (de_var 10) (de_var 8)))) (fun _ _ _ _ _ => de_int)) da_nil)) (en_ok opd_len)))
  (dss_cons (ds_set (i := 11) S.nd rfl (de_at (g__law_divisor F) hr hgd (passAt tk) (da_cons (de_fz (de_var 9)) (da_cons (de_fz (pe_imp (pe_callB cd_len rfl F.n_len PySem.boot_len (da_cons (de_var 4) da_nil)) (en_ok opd_len))) da_nil))))
  (dss_cons (ds_if (dt_cmpR (op_neA hu) opd_ne (de_repr hr hgd F.n_repr (da_cons (de_fz (de_atK (ks := ["divisor", "other", "polynomial", "numbers"]) (π := [3, 2, 1, 0]) (g_common_share F) hr hgd (passAt tk) (dk_cons (de_fz (de_var 8)) (dk_cons (de_fz (de_var 3)) (dk_cons (de_fz (de_var 2)) (dk_cons (de_fz (de_var 1)) dk_nil)))) (fun _ _ _ _ _ _ ws hl => match ws, hl with | [_, _, _, _], _ => rfl))) da_nil)) (de_repr hr hgd F.n_repr (da_cons (de_tup (da_cons (de_div (de_var 9) (de_var 11)) (da_cons (de_div (pe_imp (pe_callB cd_len rfl F.n_len PySem.boot_len (da_cons (de_var 4) da_nil)) (en_ok opd_len)) (de_var 11)) da_nil))) da_nil))) (dss_one (ds_ret de_bool)) dss_nil)
  (dss_one (ds_ret (de_and (de_cmp (op_eqA hu) opd_eq (de_var 6) (pe_imp (pe_callB cd_len rfl F.n_len PySem.boot_len (da_cons (de_var 4) da_nil)) (en_ok opd_len))) (pe_one (de_cmp (op_eqA hu) opd_eq (de_at (g__law_told F) hr hgd (passAt tk) (da_cons de_int (da_cons (de_fz (de_var 1)) (da_cons (de_fz (de_var 2)) (da_cons (de_fz (de_var 3)) (da_cons (de_fz (de_at (g__law_one F) hr hgd (passAt tk) (da_cons (de_var 0) (da_cons (de_fz (de_lst (da_cons de_int (da_cons (de_neg de_int) (da_cons de_none (da_cons de_bool (da_cons de_str (da_cons (de_tup (da_cons de_int da_nil)) da_nil)))))))) da_nil)))) da_nil)))))) (de_tup (da_cons de_str (da_cons de_str da_nil))))))))))))))
theorem g_resultant (F : Fx K mg) : At P w K mg base (He.ga K) 8 "resultant" s_resultant ["polynomial", "other"] m_resultant := at_mirror F.d_resultant S_resultant rfl (fun _ _ _ _ _ _ us hl => match us, hl with | [_, _], _ => rfl) fun fa cdv A outer s H E hr hgd tk => by
  have S := S_resultant
  have hu := hr.units
  exact (dss_cons (ds_drop (de_at (g_check_low F) hr hgd (passAt tk) (da_cons (de_fz (de_var 0)) da_nil)))
  (dss_cons (ds_drop (de_at (g_check_low F) hr hgd (passAt tk) (da_cons (de_fz (de_var 1)) da_nil)))
  (dss_one (ds_ret (de_at (g_resultant_of F) hr hgd (passAt tk) (da_cons (de_fz (de_ix (de_var 0) de_int)) (da_cons (de_fz (de_ix (de_var 1) de_int)) da_nil)))))))
theorem g__law_all_right (F : Fx K mg) : At P w K mg base (He.ga K) 18 "_law_all_right" s__law_all_right ["feed", "numbers", "one", "other", "whole"] m__law_all_right := at_mirror F.d__law_all_right S__law_all_right rfl (fun _ _ _ _ _ _ us hl => match us, hl with | [_, _, _, _, _], _ => rfl) fun fa cdv A outer s H E hr hgd tk => by
  have S := S__law_all_right
  have hu := hr.units
  exact (dss_cons (ds_set (i := 5) S.nd rfl (de_div (de_mul (de_var 4) (de_ix (de_var 1) de_int)) (de_at (g__law_divisor F) hr hgd (passAt tk) (da_cons (de_fz (de_var 4)) (da_cons (de_fz (de_ix (de_var 1) de_int)) da_nil)))))
  (dss_cons (ds_setLc (own := [("x", 7)]) (i := 6) rfl S.nd rfl rfl rfl (di_range1 F.n_range (da_cons (de_var 5) da_nil)) (blkOk_by rfl) (fun _ _ _ _ _ => (dg_name (i := 7) S.nd)) (fun _ _ _ _ _ => (dts_one (dt_cmpR op_inA opd_in (de_mod (pe_imp (pe_callTy call_int1 rfl F.n_int PyProof.Rows.boot_int (da_cons (de_var 7) da_nil)) (en_ok opd_int)) (de_ix (de_var 1) de_int)) (de_ix (de_var 1) de_int)))) (fun _ _ _ _ _ => (de_fz (de_var 7))))
  (dss_cons (ds_setLc (own := [("x", 7)]) (i := 8) rfl S.nd rfl rfl rfl (di_seq (de_var 6)) (blkOk_by rfl) (fun _ _ _ _ _ => (dg_name (i := 7) S.nd)) (fun _ _ _ _ _ => dts_nil) (fun _ _ _ _ _ => (de_fz (de_at (g__law_common F) hr hgd pass_w0 (da_cons (de_fz (de_var 2)) (da_cons (de_fz (de_var 3)) (da_cons (de_fz (de_var 7)) da_nil)))))))
  (dss_cons (ds_set (i := 9) S.nd rfl (de_sortSet rfl F.n_sorted F.n_set (da_cons (de_var 8) da_nil)))
  (dss_cons (ds_if (PW.pt (dw_or (dt_cmpR (op_neA hu) opd_ne (de_repr hr hgd F.n_repr (da_cons (de_fz (de_lst (da_cons (de_fz (de_at (g_common_values F) hr hgd (passAt tk) (da_cons (de_fz (de_var 1)) (da_cons (de_fz (de_var 2)) (da_cons (de_fz (de_var 3)) da_nil))))) (da_cons (de_fz (de_atK (ks := ["other", "polynomial", "numbers"]) (π := [2, 1, 0]) (g_common_values F) hr hgd (passAt tk) (dk_cons (de_fz (de_var 2)) (dk_cons (de_fz (de_var 3)) (dk_cons (de_fz (de_var 1)) dk_nil))) (fun _ _ _ _ _ _ ws hl => match ws, hl with | [_, _, _], _ => rfl))) da_nil)))) da_nil)) (de_repr hr hgd F.n_repr (da_cons (de_fz (de_lst (da_cons (de_fz (de_var 9)) (da_cons (de_fz (de_var 9)) da_nil)))) da_nil))) (pw_or1 (dt_cmpR (op_neA hu) opd_ne (de_lc (own := [("told", 10)]) rfl S.nd (di_seq (de_var 9)) (blkOk_by rfl) (fun _ _ _ _ _ => (dg_name (i := 10) S.nd)) (fun _ _ _ _ _ => (dts_one (dt_cmpR (op_neA hu) opd_ne (de_mod (pe_imp (pe_callTy call_int1 rfl F.n_int PyProof.Rows.boot_int (da_cons (de_var 4) da_nil)) (en_ok opd_int)) (de_var 10)) de_int))) (fun _ _ _ _ _ => de_int)) (de_lst da_nil))))) (dss_one (ds_ret de_bool)) dss_nil)
  (dss_cons (ds_set (i := 11) S.nd rfl de_none)
  (dss_cons (ds_for (passes_of rfl) rfl (di_range1 F.n_range (da_cons (de_if (dt_cmpR op_inA opd_in de_int (de_var 9)) (de_var 5) de_int) da_nil)) (dg_name (i := 12) S.nd) (dss_cons (ds_setLc (own := [("x", 7)]) (i := 13) rfl S.nd rfl rfl rfl (di_seq (de_tup (da_cons (de_fz (de_var 12)) (da_cons (de_neg (de_var 12)) da_nil)))) (blkOk_by rfl) (fun _ _ _ _ _ => (dg_name (i := 7) S.nd)) (fun _ _ _ _ _ => (dts_one (PW.pt (dw_and (dt_cmpR op_inA opd_in (de_mod (pe_imp (pe_callTy call_int1 rfl F.n_int PyProof.Rows.boot_int (da_cons (de_var 7) da_nil)) (en_ok opd_int)) (de_ix (de_var 1) de_int)) (de_ix (de_var 1) de_int)) (pw_and1 (dt_cmpR (op_eqA hu) opd_eq (de_at (g__law_common F) hr hgd pass_w0 (da_cons (de_fz (de_var 2)) (da_cons (de_fz (de_var 3)) (da_cons (de_fz (de_var 7)) da_nil)))) de_int)))))) (fun _ _ _ _ _ => (de_fz (de_var 7))))
  (dss_one (ds_if (dt_cmpR (op_neA hu) opd_ne (de_var 13) (de_lst da_nil)) (dss_cons (ds_set (i := 11) S.nd rfl (de_ix (de_var 13) de_int))
  (dss_one ds_break)) dss_nil))))
  (dss_cons (ds_if (dt_cmpR (op_neA hu) opd_ne (de_repr hr hgd F.n_repr (da_cons (de_fz (de_lst (da_cons (de_fz (de_at (g_least_coprime F) hr hgd (passAt tk) (da_cons (de_fz (de_var 1)) (da_cons (de_fz (de_var 2)) (da_cons (de_fz (de_var 3)) da_nil))))) (da_cons (de_fz (de_atK (ks := ["other", "polynomial", "numbers"]) (π := [2, 1, 0]) (g_least_coprime F) hr hgd (passAt tk) (dk_cons (de_fz (de_var 2)) (dk_cons (de_fz (de_var 3)) (dk_cons (de_fz (de_var 1)) dk_nil))) (fun _ _ _ _ _ _ ws hl => match ws, hl with | [_, _, _], _ => rfl))) da_nil)))) da_nil)) (de_repr hr hgd F.n_repr (da_cons (de_fz (de_lst (da_cons (de_fz (de_var 11)) (da_cons (de_fz (de_var 11)) da_nil)))) da_nil))) (dss_one (ds_ret de_bool)) dss_nil)
  (dss_cons (ds_asg (de_tup (da_cons (de_fz (de_at (g__law_one F) hr hgd (passAt tk) (da_cons (de_var 0) (da_cons (de_fz (de_lst (da_cons de_int (da_cons (de_neg de_int) (da_cons de_int da_nil))))) da_nil)))) (da_cons (de_fz (pe_imp (pe_callB (call_max2 rfl) rfl F.n_max PyProof.Rows.boot_max (da_cons (pe_imp (pe_callB cd_len rfl F.n_len PySem.boot_len (da_cons (de_ix (de_var 2) de_int) da_nil)) (en_ok opd_len)) (da_cons (pe_imp (pe_callB cd_len rfl F.n_len PySem.boot_len (da_cons (de_ix (de_var 3) de_int) da_nil)) (en_ok opd_len)) da_nil))) (en_ok opd_int2))) da_nil))) (dg_tup rfl (dgs_cons (dg_name (i := 14) S.nd) (dgs_cons (dg_name (i := 15) S.nd) dgs_nil))))
  (dss_cons (ds_setLc (own := [("told", 10)]) (i := 16) rfl S.nd rfl rfl rfl (di_seq (de_tup (da_cons (de_fz (de_var 2)) (da_cons (de_fz (de_var 3)) da_nil)))) (blkOk_by rfl) (fun _ _ _ _ _ => (dg_name (i := 10) S.nd)) (fun _ _ _ _ _ => dts_nil) (fun _ _ _ _ _ => (de_fz (de_add (pe_imp (pe_callTy call_list_of rfl F.n_list PyProof.Rows.boot_list (da_cons (de_ix (de_var 10) de_int) da_nil)) (en_ok opd_listOf)) (de_rep (de_lst (da_cons de_int da_nil)) (de_sub (de_var 15) (pe_imp (pe_callB cd_len rfl F.n_len PySem.boot_len (da_cons (de_ix (de_var 10) de_int) da_nil)) (en_ok opd_len))))))))
  (dss_cons (ds_set (i := 17) S.nd rfl (de_at (g__law_lowest F) hr hgd (passAt tk) (da_cons (de_fz (de_lc (own := [("first", 18), ("second", 19)]) rfl S.nd (di_zip F.n_zip (da_cons (de_fz (de_ix (de_var 16) de_int)) (da_cons (de_fz (de_ix (de_var 16) de_int)) da_nil))) (blkOk_by rfl) (fun _ _ _ _ _ => (dg_tup rfl (dgs_cons (dg_name (i := 18) S.nd) (dgs_cons (dg_name (i := 19) S.nd) dgs_nil)))) (fun _ _ _ _ _ => dts_nil) (fun _ _ _ _ _ => (de_fz (de_add (de_var 18) (de_mul (de_var 14) (de_var 19))))))) (da_cons de_int da_nil))))
  (dss_cons (ds_if (PW.pt (dw_and (dt_U (de_at (g__law_fits F) hr hgd (passAt tk) (da_cons (de_fz (de_if (dt_cmpR (op_neA hu) opd_ne (de_ix (de_var 17) de_int) (de_tup da_nil)) (de_ix (de_var 17) de_int) (de_tup (da_cons de_int da_nil)))) da_nil))) (dw_and (dt_cmpR (op_neA hu) opd_ne (de_at (g_resultant F) hr hgd (passAt tk) (da_cons (de_fz (de_var 17)) (da_cons (de_fz (de_var 3)) da_nil))) de_int) (dw_and (dt_cmpR op_le opd_cmp (de_mul (pe_imp (pe_callB call_abs rfl F.n_abs PyProof.Rows.boot_abs (da_cons (de_at (g_resultant F) hr hgd (passAt tk) (da_cons (de_fz (de_var 17)) (da_cons (de_fz (de_var 3)) da_nil))) da_nil)) (en_ok opd_abs)) (de_ix (de_var 1) de_int)) de_int) (pw_and1 (dt_cmpR (op_neA hu) opd_ne (de_at (g_common_values F) hr hgd (passAt tk) (da_cons (de_fz (de_var 1)) (da_cons (de_fz (de_var 17)) (da_cons (de_fz (de_var 3)) da_nil)))) (de_var 9))))))) (dss_one (ds_ret de_bool)) dss_nil)
  (dss_cons (ds_set (i := 10) S.nd rfl (de_at (g_common_values F) hr hgd (passAt tk) (da_cons (de_fz (de_var 1)) (da_cons (de_fz (de_var 2)) (da_cons (de_fz (de_var 3)) da_nil)))))
  (dss_cons (ds_app (pv 10) de_none (fun ho ha => ps_expr (pe_bm PySem.F.plainAttrs_list PySem.F.slot_list_append PySem.F.type_list_append mt_append ho ha)))
  (dss_one (ds_ret (de_and (de_cmp (op_eqA hu) opd_eq (de_repr hr hgd F.n_repr (da_cons (de_fz (de_at (g_common_values F) hr hgd (passAt tk) (da_cons (de_fz (de_var 1)) (da_cons (de_fz (de_var 2)) (da_cons (de_fz (de_var 3)) da_nil))))) da_nil)) (de_repr hr hgd F.n_repr (da_cons (de_fz (de_var 9)) da_nil))) (pe_one (de_at (g__law_shares_right F) hr hgd (passAt tk) (da_cons (de_var 0) (da_cons (de_fz (de_var 1)) (da_cons (de_fz (de_var 2)) (da_cons (de_fz (de_var 3)) (da_cons (de_fz (de_var 8)) (da_cons (de_fz (de_var 4)) da_nil)))))))))))))))))))))))))
theorem g__law_right (F : Fx K mg) : At P w K mg base (He.ga K) 19 "_law_right" s__law_right ["feed"] m__law_right := at_mirror F.d__law_right S__law_right rfl (fun _ _ _ _ _ _ us hl => match us, hl with | [_], _ => rfl) fun fa cdv A outer s H E hr hgd tk => by
  have S := S__law_right
  have hu := hr.units
  exact (dss_cons (ds_set (i := 1) S.nd rfl (de_at (g__law_one F) hr hgd (passAt tk) (da_cons (de_var 0) (da_cons (de_fz (de_lst (da_cons de_int (da_cons de_int (da_cons de_int (da_cons de_int (da_cons de_int (da_cons de_int (da_cons de_int (da_cons de_int (da_cons de_int da_nil))))))))))) da_nil))))
  (dss_cons (ds_set (i := 2) S.nd rfl (de_tup (da_cons de_str (da_cons (de_fz (de_var 1)) (da_cons (de_fz (pe_imp (pe_callTy call_tuple_of rfl F.n_tuple PyProof.Rows.boot_tuple (da_cons (de_sortSet rfl F.n_sorted F.n_set (da_cons (de_lc (own := [("turn", 3)]) rfl S.nd (di_range1 F.n_range (da_cons (de_add de_int (de_at (g__law_draw F) hr hgd (passAt tk) (da_cons (de_var 0) (da_cons de_int da_nil)))) da_nil)) (blkOk_by rfl) (fun _ _ _ _ _ => (dg_name (i := 3) S.nd)) (fun _ _ _ _ _ => dts_nil) (fun _ _ _ _ _ => (de_fz (de_at (g__law_draw F) hr hgd pass_w0 (da_cons (de_var 0) (da_cons (de_fz (de_var 1)) da_nil)))))) da_nil)) da_nil)) (en_ok opd_tupOf))) da_nil)))))
  (dss_cons (ds_asg (de_fz (de_at (g__law_two F) hr hgd (passAt tk) (da_cons (de_var 0) da_nil))) (dg_tup rfl (dgs_cons (dg_name (i := 4) S.nd) (dgs_cons (dg_name (i := 5) S.nd) dgs_nil))))
  (dss_cons (ds_par3 (i := 6) (j := 7) (l := 8) rfl S.nd rfl rfl rfl (by decide) (by decide) (by decide) rfl rfl rfl (da_cons (de_tup (da_cons (de_fz (de_var 4)) (da_cons de_int da_nil))) (da_cons (de_tup (da_cons (de_fz (de_var 5)) (da_cons de_int da_nil))) (da_cons (de_fz (de_at (g__law_resultant F) hr hgd (passAt tk) (da_cons (de_fz (de_var 4)) (da_cons (de_fz (de_var 5)) da_nil)))) da_nil))) rfl)
  (dss_cons (ds_set (i := 9) S.nd rfl (de_if (PW.pt (dw_and (dt_cmpR (op_eqA hu) opd_eq (pe_imp (pe_callB cd_len rfl F.n_len PySem.boot_len (da_cons (de_var 4) da_nil)) (en_ok opd_len)) de_int) (pw_and1 (dt_cmpR (op_eqA hu) opd_eq (pe_imp (pe_callB cd_len rfl F.n_len PySem.boot_len (da_cons (de_var 5) da_nil)) (en_ok opd_len)) de_int)))) (de_neg (de_var 8)) (de_var 8)))
  (dss_cons (ds_if (dt_cmpR (op_neA hu) opd_ne (de_repr hr hgd F.n_repr (da_cons (de_fz (de_lst (da_cons (de_fz (de_at (g_resultant F) hr hgd (passAt tk) (da_cons (de_fz (de_var 6)) (da_cons (de_fz (de_var 7)) da_nil)))) (da_cons (de_fz (de_atK (ks := ["other", "polynomial"]) (π := [1, 0]) (g_resultant F) hr hgd (passAt tk) (dk_cons (de_fz (de_var 7)) (dk_cons (de_fz (de_var 6)) dk_nil)) (fun _ _ _ _ _ _ ws hl => match ws, hl with | [_, _], _ => rfl))) (da_cons (de_fz (de_at (g_resultant F) hr hgd (passAt tk) (da_cons (de_fz (de_var 7)) (da_cons (de_fz (de_var 6)) da_nil)))) da_nil))))) da_nil)) (de_repr hr hgd F.n_repr (da_cons (de_fz (de_lst (da_cons (de_fz (de_var 8)) (da_cons (de_fz (de_var 8)) (da_cons (de_fz (de_var 9)) da_nil))))) da_nil))) (dss_one (ds_ret de_bool)) dss_nil)
  (dss_cons (ds_if (dt_cmpR (op_eqA hu) opd_eq (de_var 8) de_int) (dss_one (ds_ret (de_at (g__law_refused_right F) hr hgd (passAt tk) (da_cons (de_var 0) (da_cons (de_fz (de_var 2)) (da_cons (de_fz (de_var 6)) (da_cons (de_fz (de_var 7)) (da_cons de_str da_nil)))))))) dss_nil)
  (dss_cons (ds_if (dt_cmpR op_gt opd_cmp (de_mul (pe_imp (pe_callB call_abs rfl F.n_abs PyProof.Rows.boot_abs (da_cons (de_var 8) da_nil)) (en_ok opd_abs)) (de_var 1)) de_int) (dss_one (ds_ret (de_at (g__law_refused_right F) hr hgd (passAt tk) (da_cons (de_var 0) (da_cons (de_fz (de_var 2)) (da_cons (de_fz (de_var 6)) (da_cons (de_fz (de_var 7)) (da_cons de_str da_nil)))))))) dss_nil)
  (dss_one (ds_ret (de_or (de_cmp op_gt opd_cmp (de_mul (pe_imp (pe_callB call_abs rfl F.n_abs PyProof.Rows.boot_abs (da_cons (de_var 8) da_nil)) (en_ok opd_abs)) (de_var 1)) de_int) (pe_one (de_at (g__law_all_right F) hr hgd (passAt tk) (da_cons (de_var 0) (da_cons (de_fz (de_var 2)) (da_cons (de_fz (de_var 6)) (da_cons (de_fz (de_var 7)) (da_cons (de_fz (pe_imp (pe_callB call_abs rfl F.n_abs PyProof.Rows.boot_abs (da_cons (de_var 8) da_nil)) (en_ok opd_abs))) da_nil))))))))))))))))))
theorem g__law_feed (F : Fx K mg) : At P w K mg base (He.ga K) 1 "_law_feed" s__law_feed ["script", "k"] m__law_feed := at_mirror F.d__law_feed S__law_feed rfl (fun _ _ _ _ _ _ us hl => match us, hl with | [_, _], _ => rfl) fun fa cdv A outer s H E hr hgd tk => by
  have S := S__law_feed
  have hu := hr.units
  exact (dss_cons (ds_set (i := 2) S.nd rfl (de_add (de_mul de_int (de_var 1)) (pe_imp (pe_callB (cr_sum rfl) rfl F.n_sum PyProof.Rows.boot_sum (da_cons (de_slice (de_var 0) do_none (do_some de_int)) da_nil)) (en_ok opd_sum))))
  (dss_cons (ds_if (dt_cmpR op_lt opd_cmp (de_var 1) (pe_imp (pe_callB cd_len rfl F.n_len PySem.boot_len (da_cons (de_var 0) da_nil)) (en_ok opd_len))) (dss_one (ds_set (i := 2) S.nd rfl (de_ix (de_var 0) (de_var 1)))) dss_nil)
  (dss_one (ds_ret (de_lst (da_cons (de_fz (pe_imp (pe_callB (call_max2 rfl) rfl F.n_max PyProof.Rows.boot_max (da_cons de_int (da_cons (de_sub (de_var 2) (de_pow de_int de_int)) da_nil))) (en_ok opd_int2))) (da_cons (de_mod (pe_imp (pe_callTy call_int1 rfl F.n_int PyProof.Rows.boot_int (da_cons (de_add (de_mul (de_var 2) de_int) (de_mul de_int (de_var 1))) da_nil)) (en_ok opd_int)) (de_add (de_pow de_int de_int) de_int)) (da_cons de_int da_nil))))))))
theorem g_law (F : Fx K mg) : At P w K mg base (He.ga K) 20 "law" s_law ["script"] m_law := at_mirror F.d_law S_law rfl (fun _ _ _ _ _ _ us hl => match us, hl with | [_], _ => rfl) fun fa cdv A outer s H E hr hgd tk => by
  have S := S_law
  have hu := hr.units
  exact (dss_cons (ds_for (passes_of rfl) rfl (di_range1 F.n_range (da_cons (pe_imp (pe_callB (call_max2 rfl) rfl F.n_max PyProof.Rows.boot_max (da_cons de_int (da_cons (pe_imp (pe_callB (call_min2 rfl) rfl F.n_min PyProof.Rows.boot_min (da_cons (pe_imp (pe_callB cd_len rfl F.n_len PySem.boot_len (da_cons (de_var 0) da_nil)) (en_ok opd_len)) (da_cons de_int da_nil))) (en_ok opd_int2)) da_nil))) (en_ok opd_int2)) da_nil)) (dg_name (i := 1) S.nd) (dss_one (ds_if (dt_not (dt_U (de_atF (g__law_right F) hr hgd (passAt tk) (da_cons (de_at (g__law_feed F) hr hgd (passAt tk) (da_cons (de_fz (de_var 0)) (da_cons (de_fz (de_var 1)) da_nil))) da_nil)))) (dss_one (ds_ret de_bool)) dss_nil)))
  (dss_one (ds_ret de_bool)))
end
end K76
set_option Elab.async false
set_option linter.all false
set_option maxRecDepth 100000
set_option maxHeartbeats 4000000
/-! K76D: what the mirrors compute. -/
namespace K76
open PySem L2 TL
theorem kit_int_int : kitB "int" "int" = some true := by decide +kernel
theorem kit_bool_int : kitB "bool" "int" = some true := by decide +kernel
theorem isT_int_int (i : Int) : isT "int" (.int i) = some true := by show kitB "int" "int" = _; decide +kernel
theorem isT_int_bool (i : Int) : isT "bool" (.int i) = some false := by show kitB "int" "bool" = _; decide +kernel
theorem isT_int_tuple (i : Int) : isT "tuple" (.int i) = some false := by show kitB "int" "tuple" = _; decide +kernel
theorem isT_tuple_tuple (i : List D) : isT "tuple" (.tuple i) = some true := by show kitB "tuple" "tuple" = _; decide +kernel
theorem isT_none_int : isT "int" .none = some false := by show kitB "NoneType" "int" = _; decide +kernel
theorem isT_bool_int (b : Bool) : isT "int" (.bool b) = some true := by show kitB "bool" "int" = _; decide +kernel
theorem isT_bool_bool (b : Bool) : isT "bool" (.bool b) = some true := by show kitB "bool" "bool" = _; decide +kernel
theorem isT_str_int (b : Str) : isT "int" (.str b) = some false := by show kitB "str" "int" = _; decide +kernel
theorem isT_tuple_int (b : List D) : isT "int" (.tuple b) = some false := by show kitB "tuple" "int" = _; decide +kernel
local macro_rules | `(tactic| trivial) => `(tactic| simp [callM, sSeq, sIf, sSet, TL.canSet_eq, sRet, sRetN, sNext, evVar, evC, e2, e1, en, k2, k1, kn, pkAll, ofO, pAdd, pSub, pCmp, pNeg, tU, tOf, truD, TL.tB, bOf, TL.tAnd, TL.tOr, TL.tNot, vAnd, vOr, vNot, vIf, fz, aNil, aCons, sPar, sPar3, put1, flatC, gN, gT, gsCons, gsNil, sAsg, vIsi, eTup, eLst, dAll, eCall, callE, isT_int_int, isT_int_bool, isT_int_tuple, isT_tuple_tuple, isT_none_int, isT_bool_int, isT_bool_bool, isT_str_int, isT_tuple_int, t3, e3, qCmp, sRaise, sDrop, pMul, pListOf, iRevL, iEnumA, eSl, oNone, oSome, pSl, OR.toE_val, pGcd, pInt2, pAbs, abs_int, pMod, pNe, pEq, eqF, pLen, pInt, pIx, iSeq, wipeC, backC, cut_to, cut_from, cut_to', cut_from', eRep, iRange1, iRange2, *])
theorem is_integer_int (i : Int) : m_is_integer [.da (.int i)] = .val (.da (.bool true)) [.da (.int i)] := by
  unfold m_is_integer b_is_integer
  trivial
theorem in_range_int (i lo hi : Int) : m_in_range [.da (.int i), .da (.int lo), .da (.int hi)] = .val (.da (.bool (decide (lo ≤ i) && decide (i ≤ hi)))) [.da (.int i), .da (.int lo), .da (.int hi)] := by
  unfold m_in_range b_in_range
  have h := is_integer_int i
  by_cases h1 : lo ≤ i <;> by_cases h2 : i ≤ hi <;> trivial
theorem common_divisor_int (a b : Int) : m_common_divisor [.da (.int a), .da (.int b)] = .val (.da (.int (Int.gcd a b))) [.da (.int a), .da (.int b)] := by
  unfold m_common_divisor b_common_divisor
  have h := euclid (t := TL.tB (e2 pNe (evVar 1) (evC (.int 0)))) (f := sPar 2 0 1 (aCons (fz 2 (evVar 1)) (aCons (e2 pMod (evVar 0) (evVar 1)) aNil))) (fun a b hb => ?_) (fun a => ?_) (fun a b hb => ?_) a.natAbs b.natAbs
  · have e : Int.gcd a b = Nat.gcd a.natAbs b.natAbs := rfl
    trivial
  · have hb' : ¬ b = 0 := by omega
    trivial
  · trivial
  · have hb' : 0 < (b : Int) := by omega
    trivial
theorem is_smooth_one : m_is_smooth [.da (.int 1)] = .val (.da (.bool true)) [.da (.int 1)] := by
  unfold m_is_smooth b_is_smooth
  have h : sWhile (TL.tAnd (TL.tB (e2 (pCmp fGt) (evVar 0) (evC (.int 1000000)))) (TL.tB (e2 (pCmp fLe) (evVar 1) (evC (.int 1000000)))))
      (sIf (TL.tB (e2 pEq (e2 pMod (evVar 0) (evVar 1)) (evC (.int 0)))) (sSet 1 0 (e2 pDiv (evVar 0) (evVar 1))) (sIf (TL.tB (e2 (pCmp fGt) (e2 pMul (evVar 1) (evVar 1)) (evVar 0))) (sRet 1 (evC (.bool false))) (sSet 1 1 (e2 pAdd (e2 pAdd (evVar 1) (evC (.int 1))) (e2 pMod (evVar 1) (evC (.int 2)))))))
      [.da (.int 1), .da (.int 2)] = .nx [.da (.int 1), .da (.int 2)] := sWhile_eq (n := 1) (whileN_end (by trivial)) fun z => nomatch z
  trivial
theorem divisor_of_one (ts : List Int) : m_divisor_of [.da (.int 1), .da (.tuple (ts.map .int))] = .val (.da (.int 1)) [.da (.int 1), .da (.tuple (ts.map .int))] := by
  unfold m_divisor_of b_divisor_of
  obtain ⟨cs', e, j, hj⟩ := forGo_inv (tgt := gN 2 3) (body := sSet 2 2 (eCall 2 m_common_divisor (aCons (fz 2 (evVar 2)) (aCons (fz 2 (evVar 3)) aNil)))) (fun _ cs => ∃ j, cs = [.da (.int 1), .da (.tuple (ts.map .int)), .da (.int 1), j]) (ts.map .int) [] [.da (.int 1), .da (.tuple (ts.map .int)), .da (.int 1), .un] ⟨.un, rfl⟩
    (fun pre d cs hi hd => by
      obtain ⟨j, rfl⟩ := hi
      obtain ⟨t, _, rfl⟩ := List.mem_map.mp hd
      have h := common_divisor_int 1 t
      refine ⟨[.da (.int 1), .da (.tuple (ts.map .int)), .da (.int 1), .da (.int t)], [.da (.int 1), .da (.tuple (ts.map .int)), .da (.int 1), .da (.int t)], by trivial, ?_, ⟨_, rfl⟩⟩
      trivial)
  subst hj
  have e2 : sFor (iSeq 2 (evVar 1)) (gN 2 3) (sSet 2 2 (eCall 2 m_common_divisor (aCons (fz 2 (evVar 2)) (aCons (fz 2 (evVar 3)) aNil)))) [.da (.int 1), .da (.tuple (ts.map .int)), .da (.int 1), .un] = .nx [.da (.int 1), .da (.tuple (ts.map .int)), .da (.int 1), j] := by
    unfold sFor
    have : iSeq 2 (evVar 1) [.da (.int 1), .da (.tuple (ts.map .int)), .da (.int 1), .un] = .val (ts.map .int) [.da (.int 1), .da (.tuple (ts.map .int)), .da (.int 1), .un] := by trivial
    rw [this]
    exact e
  trivial
/-- tops as they come: of degree 1 or 2, none above 30 -/
structure Tops (ts : List Int) : Prop where
  two : 2 ≤ ts.length
  three : ts.length ≤ 3
  last : ∀ t, ts.getLast? = some t → t ≠ 0
  small : ∀ t ∈ ts, -30 ≤ t ∧ t ≤ 30
abbrev dT (ts : List Int) : D := .tuple (ts.map .int)
abbrev dP (ts : List Int) : D := .tuple [dT ts, .int 1]
theorem fits_ok {ts : List Int} (h : Tops ts) : m_fits [.da (dT ts), .da (.int 1)] = .val (.da (.bool true)) [.da (dT ts), .da (.int 1)] := by
  unfold m_fits b_fits
  have h1 := in_range_int 1 1 1000000000000000000000000000000000000000000000000000000000000
  have hl := h.three
  have e := eLc_map (vs := [2]) (src := iSeq 2 (evVar 0)) (tgt := gN 2 2) (f := fz 2 (eCall 3 m_in_range (aCons (fz 2 (evVar 2)) (aCons (e2 pSub (evC (.int 1)) (evC (.int 1000000000000000000000000000000000000000000000000000000000000))) (aCons (e2 pSub (evC (.int 1000000000000000000000000000000000000000000000000000000000000)) (evC (.int 1))) aNil)))))
    (g := fun _ => .bool true) (cs := [.da (dT ts), .da (.int 1), .un]) (cs1 := [.da (dT ts), .da (.int 1), .un]) (ds := ts.map .int) (by trivial) (by rw [List.length_map]; exact Nat.le_trans hl (by decide)) fun d hd => by
      obtain ⟨t, ht, rfl⟩ := List.mem_map.mp hd
      have hr := in_range_int t (-999999999999999999999999999999999999999999999999999999999999) 999999999999999999999999999999999999999999999999999999999999
      obtain ⟨s1, s2⟩ := h.small t ht
      have q1 : (-999999999999999999999999999999999999999999999999999999999999 : Int) ≤ t := by omega
      have q2 : t ≤ (999999999999999999999999999999999999999999999999999999999999 : Int) := by omega
      rw [decide_eq_true q1, decide_eq_true q2] at hr
      refine ⟨[.da (dT ts), .da (.int 1), .da (.int t)], by trivial, by trivial, ?_⟩
      trivial
  obtain ⟨bs, e3, e4⟩ := trues (ts.map .int)
  rw [e3] at e
  have hl' : ¬ (11 : Int) < ts.length := by omega
  trivial
theorem last_of {ts : List Int} (h : 2 ≤ ts.length) : ∃ t, ts.getLast? = some t ∧ (ts.map PyData.int).getLast? = some (.int t) := by
  cases e : ts.getLast? with
  | none => rw [List.getLast?_eq_none_iff] at e; subst e; simp at h
  | some t => exact ⟨t, rfl, by rw [List.getLast?_map, e]; rfl⟩
theorem is_polynomial_ok {ts : List Int} (h : Tops ts) : m_is_polynomial [.da (dP ts)] = .val (.da (.bool true)) [.da (dP ts)] := by
  unfold m_is_polynomial b_is_polynomial
  have h1 := fits_ok h
  have h2 := divisor_of_one ts
  have h3 := is_smooth_one
  obtain ⟨t, e1, e2⟩ := last_of h.two
  have h4 := h.last t e1
  have h5 := h.two
  trivial
theorem check_polynomial_ok {ts : List Int} (h : Tops ts) : m_check_polynomial [.da (dP ts)] = .val (.da .none) [.da (dP ts)] := by
  unfold m_check_polynomial b_check_polynomial
  have h1 := is_polynomial_ok h
  trivial
theorem check_integer_ok {ts : List Int} (h : Tops ts) : m_check_integer_polynomial [.da (dP ts)] = .val (.da .none) [.da (dP ts)] := by
  unfold m_check_integer_polynomial b_check_integer_polynomial
  have h1 := check_polynomial_ok h
  trivial
theorem check_low_ok {ts : List Int} (h : Tops ts) : m_check_low [.da (dP ts)] = .val (.da .none) [.da (dP ts)] := by
  unfold m_check_low b_check_low
  have h1 := check_integer_ok h
  have e := eLc_map (vs := [1]) (src := iSeq 1 (e2 pIx (evVar 0) (evC (.int 0)))) (tgt := gN 1 1) (f := fz 1 (eCall 3 m_in_range (aCons (fz 1 (evVar 1)) (aCons (e1 pNeg (evC (.int 30))) (aCons (evC (.int 30)) aNil)))))
    (g := fun _ => .bool true) (cs := [.da (dP ts), .un]) (cs1 := [.da (dP ts), .un]) (ds := ts.map .int) (by trivial) (by rw [List.length_map]; exact Nat.le_trans h.three (by decide)) fun d hd => by
      obtain ⟨t, ht, rfl⟩ := List.mem_map.mp hd
      have hr := in_range_int t (-30) 30
      obtain ⟨s1, s2⟩ := h.small t ht
      rw [decide_eq_true s1, decide_eq_true s2] at hr
      refine ⟨[.da (dP ts), .da (.int t)], by trivial, by trivial, ?_⟩
      trivial
  obtain ⟨bs, e3, e4⟩ := trues (ts.map .int)
  rw [e3] at e
  have h2 := h.two
  have h3 := h.three
  have q2 : (2 : Int) ≤ ts.length := by omega
  have q3 : (ts.length : Int) ≤ 3 := by omega
  trivial
/-- the value of tops -/
def vl (ts : List Int) (x : Int) : Int := ts.foldr (fun a acc => acc * x + a) 0
theorem fold_vl (x : Int) (ts : List Int) : ∀ (c : Cell), ∃ j, ((ts.map PyData.int).reverse.foldl (fun (b : Int × Cell) d => (match d with | .int t => b.1 * x + t | _ => b.1, Cell.da d)) (0, c)) = (vl ts x, j) := by
  intro c
  rw [List.foldl_reverse]
  induction ts with
  | nil => exact ⟨c, rfl⟩
  | cons t ts ih =>
    obtain ⟨j, e⟩ := ih
    rw [List.map_cons, List.foldr_cons, e]
    exact ⟨_, rfl⟩
/-- x is not too great -/
abbrev Fit (x : Int) : Prop := x.natAbs < 2 ^ 64
theorem horner (x : Int) (hx : Fit x) (ds : List D) (hd : ∀ d ∈ ds, ∃ t, d = .int t) (a : D) (c : Cell) : forGo (gN 2 3) (sSet 2 2 (e2 pAdd (e2 pMul (evVar 2) (evVar 1)) (evVar 3))) ds [.da a, .da (.int x), .da (.int 0), c] =
    .nx [.da a, .da (.int x), .da (.int (ds.foldl (fun (b : Int × Cell) d => (match d with | .int t => b.1 * x + t | _ => b.1, Cell.da d)) (0, c)).1), (ds.foldl (fun (b : Int × Cell) d => (match d with | .int t => b.1 * x + t | _ => b.1, Cell.da d)) (0, c)).2] :=
  forGo_fold (fun b : Int × Cell => [.da a, .da (.int x), .da (.int b.1), b.2]) _ ds (0, c) fun b d hd' => by
    obtain ⟨t, rfl⟩ := hd d hd'
    have h := mulOk_r (i := b.1) hx
    refine ⟨[.da a, .da (.int x), .da (.int b.1), .da (.int t)], by trivial, by trivial⟩
theorem top_value_int (ts : List Int) (x : Int) (hx : Fit x) : m_top_value [.da (dT ts), .da (.int x)] = .val (.da (.int (vl ts x))) [.da (dT ts), .da (.int x)] := by
  unfold m_top_value b_top_value
  obtain ⟨j, e⟩ := fold_vl x ts .un
  have h := horner x hx (ts.map .int).reverse (fun d hd => by
    obtain ⟨t, _, rfl⟩ := List.mem_map.mp (List.mem_reverse.mp hd)
    exact ⟨t, rfl⟩) (dT ts) .un
  rw [e] at h
  have h2 : sFor (iRevL (aCons (fz 2 (en pListOf (aCons (evVar 0) aNil))) aNil)) (gN 2 3) (sSet 2 2 (e2 pAdd (e2 pMul (evVar 2) (evVar 1)) (evVar 3))) [.da (dT ts), .da (.int x), .da (.int 0), .un] = .nx [.da (dT ts), .da (.int x), .da (.int (vl ts x)), j] := by
    unfold sFor
    have : iRevL (aCons (fz 2 (en pListOf (aCons (evVar 0) aNil))) aNil) [.da (dT ts), .da (.int x), .da (.int 0), .un] = .val (ts.map .int).reverse [.da (dT ts), .da (.int x), .da (.int 0), .un] := by trivial
    rw [this]
    exact h
  trivial
theorem shared_at_int (ts us : List Int) (x : Int) (hx : Fit x) : m_shared_at [.da (dP ts), .da (dP us), .da (.int x)] = .val (.da (.int (Int.gcd (vl ts x) (vl us x)))) [.da (dP ts), .da (dP us), .da (.int x)] := by
  unfold m_shared_at b_shared_at
  have h1 := top_value_int ts x hx
  have h2 := top_value_int us x hx
  have h3 : Int.gcd (vl ts x) (vl us x) = Nat.gcd (vl ts x).natAbs (vl us x).natAbs := rfl
  trivial
/-! ### determinants -/
abbrev dR (r : List Int) : D := .list (r.map .int)
abbrev dM (rows : List (List Int)) : D := .list (rows.map dR)
/-- the rows below without the column at -/
def minor (rows : List (List Int)) (at_ : Nat) : List (List Int) := rows.tail.map fun r => r.take at_ ++ r.drop (at_ + 1)
def sg : Nat → Int
  | 0 => 1
  | n + 1 => -sg n
theorem sg_small : ∀ n, sg n = 1 ∨ sg n = -1
  | 0 => .inl rfl
  | n + 1 => by
    rcases sg_small n with h | h
    · exact .inr (by show -sg n = -1; rw [h])
    · exact .inl (by show -sg n = 1; rw [h]; rfl)
mutual
def det : Nat → List (List Int) → Int
  | 0, _ => 1
  | n + 1, rows => dsum n rows (rows.headD []).length
/-- the sum of the first k terms -/
def dsum : Nat → List (List Int) → Nat → Int
  | _, _, 0 => 0
  | n, rows, k + 1 => dsum n rows k + sg k * (rows.headD []).getD k 0 * det n (minor rows k)
end
theorem sh_dM (rows : List (List Int)) : Sh 2 (dM rows) := .lst fun d hd => by
  obtain ⟨r, _, rfl⟩ := List.mem_map.mp hd
  exact .ints r
theorem sh_nil : SeqAt.shaped (.list []) = true := Sh.ok (n := 1) (.lst (fun d hd => by simp at hd)) (by decide)
theorem sh_rows (rows : List (List Int)) : SeqAt.shaped (dM rows) = true := (sh_dM rows).ok (by decide)
theorem eqv_rows (r : List Int) (rows : List (List Int)) : PyData.eqv (dM (r :: rows)) (.list []) = false := by rw [eqv_nil]; rfl
theorem sg_fit {e : Int} (h : Fit e) (i : Nat) : Fit (sg i * e) := by
  rcases sg_small i with q | q <;> rw [q]
  · rw [Int.one_mul]; exact h
  · rw [Int.neg_mul, Int.one_mul]; show (-e).natAbs < _; rw [Int.natAbs_neg]; exact h
abbrev minorE : List Cell → ER := eLc [5] (iSeq 1 (eSl (evVar 0) (oSome (evC (.int 1))) oNone)) (gN 1 5) tTrue (fz 1 (e2 pAdd (eSl (evVar 5) oNone (oSome (evVar 3))) (eSl (evVar 5) (oSome (e2 pAdd (evVar 3) (evC (.int 1)))) oNone)))
theorem minor_ok (r0 : List Int) (rest : List (List Int)) (hz : ∀ r ∈ rest, r.length ≤ 5) (hl : rest.length ≤ 5) (a b c : D) (i : Nat) : minorE [.da (dM (r0 :: rest)), .da a, .da b, .da (.int i), .da c, .un] = .val (.ol ((minor (r0 :: rest) i).map dR)) [.da (dM (r0 :: rest)), .da a, .da b, .da (.int i), .da c, .un] := by
  have e := eLc_map (vs := [5]) (src := iSeq 1 (eSl (evVar 0) (oSome (evC (.int 1))) oNone)) (tgt := gN 1 5) (f := fz 1 (e2 pAdd (eSl (evVar 5) oNone (oSome (evVar 3))) (eSl (evVar 5) (oSome (e2 pAdd (evVar 3) (evC (.int 1)))) oNone)))
    (g := fun d => match d with | .list xs => .list (xs.take i ++ xs.drop (i + 1)) | d => d) (cs := [.da (dM (r0 :: rest)), .da a, .da b, .da (.int i), .da c, .un]) (cs1 := [.da (dM (r0 :: rest)), .da a, .da b, .da (.int i), .da c, .un]) (ds := rest.map dR) (by trivial) (by rw [List.length_map]; exact Nat.le_trans hl (by decide)) fun d hd => by
      obtain ⟨r, hr, rfl⟩ := List.mem_map.mp hd
      have h5 := hz r hr
      have hs : min i r.length + (r.length - (i + 1)) ≤ sizeLine := by
        have : min i r.length ≤ r.length := Nat.min_le_right _ _
        exact Nat.le_trans (show _ ≤ 10 by omega) (by decide)
      refine ⟨[.da (dM (r0 :: rest)), .da a, .da b, .da (.int i), .da c, .da (dR r)], by trivial, by trivial, ?_⟩
      trivial
  have e2 : (rest.map dR).map (fun d => match d with | .list xs => .list (xs.take i ++ xs.drop (i + 1)) | d => d) = (minor (r0 :: rest) i).map dR := by
    unfold minor
    simp [List.map_take, List.map_drop]
  rw [e2] at e
  exact e
theorem minor_len {r0 : List Int} {rest : List (List Int)} {n i : Nat} (hr : ∀ r ∈ rest, r.length = n + 1) (hi : i < n + 1) : ∀ r ∈ minor (r0 :: rest) i, r.length = n := by
  intro r h
  obtain ⟨q, hq, rfl⟩ := List.mem_map.mp h
  have := hr q hq
  rw [List.length_append, List.length_take, List.length_drop]
  omega
theorem minor_fit {r0 : List Int} {rest : List (List Int)} {i : Nat} (hf : ∀ r ∈ r0 :: rest, ∀ t ∈ r, Fit t) : ∀ r ∈ minor (r0 :: rest) i, ∀ t ∈ r, Fit t := by
  intro r h t ht
  obtain ⟨q, hq, rfl⟩ := List.mem_map.mp h
  rcases List.mem_append.mp ht with z | z
  · exact hf q (List.mem_cons_of_mem _ hq) t (List.mem_of_mem_take z)
  · exact hf q (List.mem_cons_of_mem _ hq) t (List.mem_of_mem_drop z)
theorem det_step {n k : Nat} (hn : n ≤ 4) (ih : ∀ (rows : List (List Int)), rows.length = n → (∀ r ∈ rows, r.length = n) → (∀ r ∈ rows, ∀ t ∈ r, Fit t) → m_determinant k [.da (dM rows)] = .val (.da (.int (det n rows))) [.da (dM rows)])
    (r0 : List Int) (rest : List (List Int)) (hl : rest.length = n) (hr0 : r0.length = n + 1) (hr : ∀ r ∈ rest, r.length = n + 1) (hf : ∀ r ∈ r0 :: rest, ∀ t ∈ r, Fit t) : m_determinant (k + 1) [.da (dM (r0 :: rest))] = .val (.da (.int (det (n + 1) (r0 :: rest)))) [.da (dM (r0 :: rest))] := by
  show callM 5 (b_determinant (m_determinant k)) _ = _
  unfold b_determinant
  have h0 := sh_rows (r0 :: rest)
  have h00 := sh_nil
  have h000 := eqv_rows r0 rest
  obtain ⟨cs', e, j3, j4, hI⟩ := forGo_ix (tgt := gT 2 (gsCons (gN 1 3) (gsCons (gN 1 4) gsNil))) (body := sSeq (sSet 1 1 (e2 pAdd (evVar 1) (e2 pMul (e2 pMul (evVar 2) (evVar 4)) (eCall 1 (m_determinant k) (aCons (fz 1 minorE) aNil))))) (sSet 1 2 (e1 pNeg (evVar 2))))
    (item := fun i => PyData.tuple [.int (i : Nat), (r0.map PyData.int).getD i .none]) (fun i cs => ∃ j3 j4, cs = [.da (dM (r0 :: rest)), .da (.int (dsum n (r0 :: rest) i)), .da (.int (sg i)), j3, j4, .un]) (n := r0.length) (fun i cs hi h => by
      obtain ⟨j3, j4, rfl⟩ := h
      have e0 : (r0.map PyData.int).getD i .none = .int (r0.getD i 0) := by
        rw [List.getD_eq_getElem?_getD, List.getElem?_map, List.getD_eq_getElem?_getD, List.getElem?_eq_getElem hi]
        rfl
      have hfe : Fit (r0.getD i 0) := by
        rw [List.getD_eq_getElem?_getD, List.getElem?_eq_getElem hi]
        exact hf r0 List.mem_cons_self _ (List.getElem_mem hi)
      have m1 := mulOk_r (i := sg i) hfe
      have m2 := mulOk_l (j := det n (minor (r0 :: rest) i)) (sg_fit hfe i)
      have hm := minor_ok r0 rest (fun r hq => by have := hr r hq; omega) (by omega) (.int (dsum n (r0 :: rest) i)) (.int (sg i)) (.int (r0.getD i 0)) i
      have hd := ih (minor (r0 :: rest) i) (by show (List.map _ rest).length = n; rw [List.length_map]; exact hl) (minor_len hr (by omega)) (minor_fit hf)
      refine ⟨[.da (dM (r0 :: rest)), .da (.int (dsum n (r0 :: rest) i)), .da (.int (sg i)), .da (.int i), .da (.int (r0.getD i 0)), .un], [.da (dM (r0 :: rest)), .da (.int (dsum n (r0 :: rest) (i + 1))), .da (.int (sg (i + 1))), .da (.int i), .da (.int (r0.getD i 0)), .un], ?_, ?_, _, _, rfl⟩
      · show gT 2 (gsCons (gN 1 3) (gsCons (gN 1 4) gsNil)) (.tuple [.int i, (r0.map PyData.int).getD i .none]) _ = _
        rw [e0]
        trivial
      · have d1 : dsum n (r0 :: rest) (i + 1) = dsum n (r0 :: rest) i + sg i * r0.getD i 0 * det n (minor (r0 :: rest) i) := by rw [dsum]; rfl
        have d2 : sg (i + 1) = -sg i := rfl
        rw [d1, d2]
        generalize r0.getD i 0 = e at *
        trivial) (cs := [.da (dM (r0 :: rest)), .da (.int (dsum n (r0 :: rest) 0)), .da (.int (sg 0)), .un, .un, .un]) ⟨.un, .un, rfl⟩
  have z : dsum n (r0 :: rest) 0 = 0 := by rw [dsum]
  rw [z] at e
  have e1 : sFor (iEnumA (aCons (fz 1 (e2 pIx (evVar 0) (evC (.int 0)))) aNil)) (gT 2 (gsCons (gN 1 3) (gsCons (gN 1 4) gsNil))) (sSeq (sSet 1 1 (e2 pAdd (evVar 1) (e2 pMul (e2 pMul (evVar 2) (evVar 4)) (eCall 1 (m_determinant k) (aCons (fz 1 minorE) aNil))))) (sSet 1 2 (e1 pNeg (evVar 2)))) [.da (dM (r0 :: rest)), .da (.int 0), .da (.int 1), .un, .un, .un] = .nx cs' := by
    unfold sFor
    have q : iEnumA (aCons (fz 1 (e2 pIx (evVar 0) (evC (.int 0)))) aNil) [.da (dM (r0 :: rest)), .da (.int 0), .da (.int 1), .un, .un, .un] = .val (enumD (r0.map .int)) [.da (dM (r0 :: rest)), .da (.int 0), .da (.int 1), .un, .un, .un] := by trivial
    rw [q, IR.toS_val]
    unfold enumD
    rw [List.length_map]
    exact e
  subst hI
  have e5 : det (n + 1) (r0 :: rest) = dsum n (r0 :: rest) r0.length := by rw [det]; rfl
  rw [e5]
  trivial
theorem determinant_ok : ∀ (n k : Nat), n < k → n ≤ 4 → ∀ (rows : List (List Int)), rows.length = n → (∀ r ∈ rows, r.length = n) → (∀ r ∈ rows, ∀ t ∈ r, Fit t) → m_determinant k [.da (dM rows)] = .val (.da (.int (det n rows))) [.da (dM rows)]
  | 0, k + 1, _, _, [], _, _, _ => by
    show callM 5 (b_determinant (m_determinant k)) _ = _
    unfold b_determinant
    have h0 := sh_rows []
    have h00 := sh_nil
    have h000 : PyData.eqv (dM []) (.list []) = true := by rw [eqv_nil]; rfl
    have h1 : det 0 [] = 1 := by rw [det]
    trivial
  | n + 1, k + 1, hk, hn, r0 :: rest, hl, hr, hf => det_step (by omega) (determinant_ok n k (by omega) (by omega)) r0 rest (by simpa using hl) (hr r0 List.mem_cons_self) (fun r h => hr r (List.mem_cons_of_mem _ h)) hf
end K76
set_option Elab.async false
set_option linter.all false
set_option maxRecDepth 100000
set_option maxHeartbeats 4000000
/-! K76E: resultants. -/
namespace K76
open PySem L2 TL
local macro_rules | `(tactic| trivial) => `(tactic| simp [callM, sSeq, sIf, sSet, TL.canSet_eq, sRet, sRetN, sNext, evVar, evC, e2, e1, en, k2, k1, kn, pkAll, ofO, pAdd, pSub, pCmp, pNeg, tU, tOf, truD, TL.tB, bOf, TL.tAnd, TL.tOr, TL.tNot, vAnd, vOr, vNot, vIf, fz, aNil, aCons, sPar, sPar3, put1, flatC, gN, gT, gsCons, gsNil, sAsg, vIsi, eTup, eLst, dAll, eCall, callE, isT_int_int, isT_int_bool, isT_int_tuple, isT_tuple_tuple, isT_none_int, isT_bool_int, isT_bool_bool, isT_str_int, isT_tuple_int, t3, e3, qCmp, sRaise, sDrop, pMul, pListOf, iRevL, iEnumA, eSl, oNone, oSome, pSl, OR.toE_val, pGcd, pInt2, pAbs, abs_int, pMod, pNe, pEq, eqF, pLen, pInt, pIx, iSeq, wipeC, backC, cut_to, cut_from, cut_to', cut_from', eRep, pRevA, iRange1, iRange2, *])
/-- shifted rows -/
def shr (ts : List Int) (c w : Nat) : List (List Int) := (List.range c).map fun i => List.replicate i 0 ++ ts.reverse ++ List.replicate (w - ts.length - i) 0
theorem rep_map (k : Nat) : List.replicate k (PyData.int 0) = (List.replicate k (0 : Int)).map PyData.int := by rw [List.map_replicate]
theorem shifted_rows_ok (ts : List Int) (c w : Nat) (h : ts.length + c ≤ w + 1) (hw : w ≤ 4) (hc : 1 ≤ c) : m_shifted_rows [.da (dT ts), .da (.int c), .da (.int w)] = .val (.ol ((shr ts c w).map dR)) [.da (dT ts), .da (.int c), .da (.int w)] := by
  unfold m_shifted_rows b_shifted_rows
  have hr : rngOk (c : Int) = true := rng_small (by omega) (by omega)
  have hg : rangeD 0 c = (List.range c).map fun i => PyData.int (i : Nat) := by unfold rangeD; simp
  have e := eLc_map (vs := [4]) (src := iRange1 (aCons (evVar 1) aNil)) (tgt := gN 3 4) (f := fz 3 (e2 pAdd (e2 pAdd (eRep (eLst (aCons (evC (.int 0)) aNil)) (evVar 4)) (evVar 3)) (eRep (eLst (aCons (evC (.int 0)) aNil)) (e2 pSub (e2 pSub (evVar 2) (en pLen (aCons (evVar 3) aNil))) (evVar 4)))))
    (g := fun d => match d with | .int i => dR (List.replicate i.toNat 0 ++ ts.reverse ++ List.replicate (w - ts.length - i.toNat) 0) | d => d) (cs := [.da (dT ts), .da (.int c), .da (.int w), .ol ((ts.map PyData.int).reverse), .un]) (cs1 := [.da (dT ts), .da (.int c), .da (.int w), .ol ((ts.map PyData.int).reverse), .un]) (ds := rangeD 0 c) (by trivial)
    (by rw [hg, List.length_map, List.length_range]; exact Nat.le_trans (show c ≤ 8 by omega) (of_eq_true sz8)) fun d hd => by
      rw [hg] at hd
      obtain ⟨i, hi, rfl⟩ := List.mem_map.mp hd
      have hi' := List.mem_range.mp hi
      have q1 := repC_one (.int 0) (k := (i : Int)) i rfl (by omega)
      have q2 := repC_one (.int 0) (k := (w : Int) - ts.length - i) (w - ts.length - i) (by omega) (by omega)
      have z8 : 8 ≤ sizeLine := of_eq_true sz8
      have z1 : i + ts.length ≤ sizeLine := by omega
      have z2 : i + ts.length + (w - ts.length - i) ≤ sizeLine := by omega
      clear hd
      have x1 : (List.replicate i (PyData.int 0)).length + (ts.map PyData.int).reverse.length = i + ts.length := by simp
      have y1 := Nat.le_trans (Nat.le_of_eq x1) z1
      have x2 : (List.replicate i (PyData.int 0) ++ (ts.map PyData.int).reverse).length + (List.replicate (w - ts.length - i) (PyData.int 0)).length = i + ts.length + (w - ts.length - i) := by simp
      have y2 := Nat.le_trans (Nat.le_of_eq x2) z2
      have a0 : (eLst (aCons (evC (.int 0)) aNil)) [.da (dT ts), .da (.int c), .da (.int w), .ol ((ts.map PyData.int).reverse), .da (.int i)] = .val (.ol [.int 0]) [.da (dT ts), .da (.int c), .da (.int w), .ol ((ts.map PyData.int).reverse), .da (.int i)] := by clear q1 q2 z1 z2 x1 y1 x2 y2 z8; trivial
      have a1 := eRep_val (g := evVar 4) a0 (rfl : _ = ER.val (.da (.int i)) _) rfl (q1 _)
      have a2 := e2_val (p := pAdd) (g := evVar 3) a1 (rfl : _ = ER.val (.bw 3) _) rfl rfl (pAdd_lists y1)
      have b1 : (e2 pSub (e2 pSub (evVar 2) (en pLen (aCons (evVar 3) aNil))) (evVar 4)) [.da (dT ts), .da (.int c), .da (.int w), .ol ((ts.map PyData.int).reverse), .da (.int i)] = .val (.da (.int ((w : Int) - ts.length - i))) [.da (dT ts), .da (.int c), .da (.int w), .ol ((ts.map PyData.int).reverse), .da (.int i)] := by clear q1 q2 z1 z2 x1 y1 x2 y2 z8 a0 a1 a2; trivial
      have a3 := eRep_val a0 b1 rfl (q2 _)
      have a4 := e2_val (p := pAdd) a2 a3 rfl rfl (pAdd_lists y2)
      refine ⟨[.da (dT ts), .da (.int c), .da (.int w), .ol ((ts.map PyData.int).reverse), .da (.int i)], by clear q1 q2 z1 z2 x1 y1 x2 y2 z8 a0 a1 a2 a3 a4; trivial, by clear q1 q2 z1 z2 x1 y1 x2 y2 z8 a0 a1 a2 a3 a4; trivial, ?_⟩
      unfold fz
      rw [a4]
      show ER.val (.da (.list _)) _ = ER.val (.da (.list _)) _
      rw [Int.toNat_natCast, rep_map, rep_map, List.map_append, List.map_append, List.map_reverse]
  have e2 : (rangeD 0 c).map (fun d => match d with | .int i => dR (List.replicate i.toNat 0 ++ ts.reverse ++ List.replicate (w - ts.length - i.toNat) 0) | d => d) = (shr ts c w).map dR := by
    rw [hg]
    unfold shr
    rw [List.map_map, List.map_map]
    rfl
  rw [e2] at e
  clear hr hg h hw hc e2
  have A : sSet 3 3 (e1 pRevA (en pListOf (aCons (evVar 0) aNil))) [.da (dT ts), .da (.int c), .da (.int w), .un, .un] = .nx [.da (dT ts), .da (.int c), .da (.int w), .ol ((ts.map PyData.int).reverse), .un] := by clear e; trivial
  exact callM_ol (sSeq_nx A (sRet_ol e))
/-- the resultant as the program has it -/
def res (ts us : List Int) : Int := det (ts.length + us.length - 2) (shr ts (us.length - 1) (ts.length + us.length - 2) ++ shr us (ts.length - 1) (ts.length + us.length - 2))
theorem shr_len (ts : List Int) (c w : Nat) (h : ts.length + c ≤ w + 1) : ∀ r ∈ shr ts c w, r.length = w := by
  intro r hr
  obtain ⟨i, hi, rfl⟩ := List.mem_map.mp hr
  have := List.mem_range.mp hi
  simp
  omega
theorem shr_fit {ts : List Int} (h : ∀ t ∈ ts, -30 ≤ t ∧ t ≤ 30) (c w : Nat) : ∀ r ∈ shr ts c w, ∀ t ∈ r, Fit t := by
  intro r hr t ht
  obtain ⟨i, hi, rfl⟩ := List.mem_map.mp hr
  rw [List.mem_append, List.mem_append] at ht
  rcases ht with (ht | ht) | ht
  · rw [List.eq_of_mem_replicate ht]; decide
  · have := h t (List.mem_reverse.mp ht)
    show t.natAbs < 2 ^ 64
    omega
  · rw [List.eq_of_mem_replicate ht]; decide
theorem resultant_of_ok {ts us : List Int} (h : Tops ts) (h' : Tops us) : m_resultant_of [.da (dT ts), .da (dT us)] = .val (.da (.int (res ts us))) [.da (dT ts), .da (dT us)] := by
  have t2 := h.two
  have t3 := h.three
  have u2 := h'.two
  have u3 := h'.three
  have e1 : ((ts.length : Int) + us.length - 2) = ((ts.length + us.length - 2 : Nat) : Int) := by omega
  have e2' : ((us.length : Int) - 1) = ((us.length - 1 : Nat) : Int) := by omega
  have e3' : ((ts.length : Int) - 1) = ((ts.length - 1 : Nat) : Int) := by omega
  have A : sSet 2 2 (e2 pSub (e2 pAdd (en pLen (aCons (evVar 0) aNil)) (en pLen (aCons (evVar 1) aNil))) (evC (.int 2))) [.da (dT ts), .da (dT us), .un] = .nx [.da (dT ts), .da (dT us), .da (.int ((ts.length + us.length - 2 : Nat) : Int))] := by
    rw [← e1]
    clear e1 e2' e3' t2 t3 u2 u3
    trivial
  have l1 : e2 pSub (en pLen (aCons (evVar 1) aNil)) (evC (.int 1)) [.da (dT ts), .da (dT us), .da (.int ((ts.length + us.length - 2 : Nat) : Int))] = .val (.da (.int ((us.length - 1 : Nat) : Int))) [.da (dT ts), .da (dT us), .da (.int ((ts.length + us.length - 2 : Nat) : Int))] := by
    rw [← e2']
    clear e1 e2' e3' t2 t3 u2 u3 A
    trivial
  have l2 : e2 pSub (en pLen (aCons (evVar 0) aNil)) (evC (.int 1)) [.da (dT ts), .da (dT us), .da (.int ((ts.length + us.length - 2 : Nat) : Int))] = .val (.da (.int ((ts.length - 1 : Nat) : Int))) [.da (dT ts), .da (dT us), .da (.int ((ts.length + us.length - 2 : Nat) : Int))] := by
    rw [← e3']
    clear e1 e2' e3' t2 t3 u2 u3 A l1
    trivial
  have s1 := shifted_rows_ok ts (us.length - 1) (ts.length + us.length - 2) (by omega) (by omega) (by omega)
  have s2 := shifted_rows_ok us (ts.length - 1) (ts.length + us.length - 2) (by omega) (by omega) (by omega)
  have c1 := eCall_da (n := 3) [dT ts, .int ((us.length - 1 : Nat) : Int), .int ((ts.length + us.length - 2 : Nat) : Int)] (aCons_val (f := fz 2 (evVar 0)) (cs := [.da (dT ts), .da (dT us), .da (.int ((ts.length + us.length - 2 : Nat) : Int))]) rfl (aCons_val l1 (aCons_val (f := fz 2 (evVar 2)) (g := aNil) rfl rfl))) rfl s1
  have c2 := eCall_da (n := 3) [dT us, .int ((ts.length - 1 : Nat) : Int), .int ((ts.length + us.length - 2 : Nat) : Int)] (aCons_val (f := fz 2 (evVar 1)) (cs := [.da (dT ts), .da (dT us), .da (.int ((ts.length + us.length - 2 : Nat) : Int))]) rfl (aCons_val l2 (aCons_val (f := fz 2 (evVar 2)) (g := aNil) rfl rfl))) rfl s2
  have z8 : 8 ≤ sizeLine := of_eq_true sz8
  have z : ((shr ts (us.length - 1) (ts.length + us.length - 2)).map dR).length + ((shr us (ts.length - 1) (ts.length + us.length - 2)).map dR).length ≤ sizeLine := by
    have q : ((shr ts (us.length - 1) (ts.length + us.length - 2)).map dR).length + ((shr us (ts.length - 1) (ts.length + us.length - 2)).map dR).length = (us.length - 1) + (ts.length - 1) := by simp [shr]
    exact Nat.le_trans (Nat.le_of_eq q) (Nat.le_trans (show _ ≤ 8 by omega) z8)
  have c3 := e2_val (p := pAdd) c1 c2 rfl rfl (pAdd_lists z)
  rw [← List.map_append] at c3
  have dd := determinant_ok (ts.length + us.length - 2) 5 (by omega) (by omega) (shr ts (us.length - 1) (ts.length + us.length - 2) ++ shr us (ts.length - 1) (ts.length + us.length - 2)) (by simp [shr]; omega)
    (fun r hr => by
      rcases List.mem_append.mp hr with q | q
      · exact shr_len ts _ _ (by omega) r q
      · exact shr_len us _ _ (by omega) r q)
    (fun r hr => by
      rcases List.mem_append.mp hr with q | q
      · exact shr_fit h.small _ _ r q
      · exact shr_fit h'.small _ _ r q)
  have c4 := eCall_da (n := 1) [dM (shr ts (us.length - 1) (ts.length + us.length - 2) ++ shr us (ts.length - 1) (ts.length + us.length - 2))] (aCons_val (fz_ol (np := 2) c3) (rfl : aNil _ = .val [] _)) rfl dd
  exact callM_da (sSeq_nx A (sRet_da c4))
end K76
set_option Elab.async false
set_option linter.all false
set_option maxRecDepth 100000
set_option maxHeartbeats 4000000
/-! K76F: rests, the checks of three. -/
namespace K76
open PySem L2 TL
local macro_rules | `(tactic| trivial) => `(tactic| simp [callM, sSeq, sIf, sSet, TL.canSet_eq, sRet, sRetN, sNext, evVar, evC, e2, e1, en, k2, k1, kn, pkAll, ofO, pAdd, pSub, pCmp, pNeg, tU, tOf, truD, TL.tB, bOf, TL.tAnd, TL.tOr, TL.tNot, vAnd, vOr, vNot, vIf, fz, aNil, aCons, sPar, sPar3, put1, flatC, gN, gT, gsCons, gsNil, sAsg, vIsi, eTup, eLst, dAll, eCall, callE, isT_int_int, isT_int_bool, isT_int_tuple, isT_tuple_tuple, isT_none_int, isT_bool_int, isT_bool_bool, isT_str_int, isT_tuple_int, t3, e3, qCmp, sRaise, sDrop, pMul, pListOf, iRevL, iEnumA, eSl, oNone, oSome, pSl, OR.toE_val, pGcd, pInt2, pAbs, abs_int, pMod, pNe, pEq, eqF, pLen, pInt, pIx, iSeq, wipeC, backC, cut_to, cut_from, cut_to', cut_from', eRep, pRevA, iRange1, iRange2, *])
theorem resultant_ok {ts us : List Int} (h : Tops ts) (h' : Tops us) : m_resultant [.da (dP ts), .da (dP us)] = .val (.da (.int (res ts us))) [.da (dP ts), .da (dP us)] := by
  have c1 := check_low_ok h
  have c2 := check_low_ok h'
  have r := resultant_of_ok h h'
  have d1 : sDrop (eCall 1 m_check_low (aCons (fz 2 (evVar 0)) aNil)) [.da (dP ts), .da (dP us)] = .nx [.da (dP ts), .da (dP us)] := by
    clear c2 r
    trivial
  have d2 : sDrop (eCall 1 m_check_low (aCons (fz 2 (evVar 1)) aNil)) [.da (dP ts), .da (dP us)] = .nx [.da (dP ts), .da (dP us)] := by
    clear c1 r d1
    trivial
  have a1 : fz 2 (e2 pIx (evVar 0) (evC (.int 0))) [.da (dP ts), .da (dP us)] = .val (.da (dT ts)) [.da (dP ts), .da (dP us)] := by
    clear c1 c2 r d1 d2
    trivial
  have a2 : fz 2 (e2 pIx (evVar 1) (evC (.int 0))) [.da (dP ts), .da (dP us)] = .val (.da (dT us)) [.da (dP ts), .da (dP us)] := by
    clear c1 c2 r d1 d2 a1
    trivial
  have c := eCall_da (n := 2) [dT ts, dT us] (aCons_val a1 (aCons_val (g := aNil) a2 rfl)) rfl r
  exact callM_da (sSeq_nx d1 (sSeq_nx d2 (sRet_da c)))
/-- a set of rests -/
structure Rests (m : Int) (rs : List Int) : Prop where
  low : 1 ≤ m
  high : m ≤ 60
  some : rs ≠ []
  few : rs.length ≤ 3
  asc : ∀ (i : Nat) (a b : Int), rs[i]? = .some a → rs[i + 1]? = .some b → a < b
  small : ∀ r ∈ rs, 0 ≤ r ∧ r < m
abbrev dS (m : Int) (rs : List Int) : D := .tuple [.str "rests", .int m, .tuple (rs.map .int)]
theorem ascends_ok {m : Int} {rs : List Int} (h : Rests m rs) : m_ascends [.da (.tuple (rs.map .int)), .da (.int 0), .da (.int (m - 1))] = .val (.da (.bool true)) [.da (.tuple (rs.map .int)), .da (.int 0), .da (.int (m - 1))] := by
  unfold m_ascends b_ascends
  have hn : rs.length ≠ 0 := fun q => h.some (List.length_eq_zero_iff.mp q)
  have n0 : (rs.length : Int) ≠ 0 := by omega
  have hg : rangeD 0 rs.length = (List.range rs.length).map fun i => PyData.int (i : Nat) := by unfold rangeD; simp
  obtain ⟨cs', e, c', rfl⟩ := forGo_ix (tgt := gN 3 3) (body := (sSeq (sIf (tNot (tU (eCall 3 m_in_range (aCons (fz 3 (e2 pIx (evVar 0) (evVar 3))) (aCons (fz 3 (evVar 1)) (aCons (fz 3 (evVar 2)) aNil)))))) (sRet 3 (evC (.bool false))) sNext)
  (sIf (tAnd (tB (e2 (pCmp fGt) (evVar 3) (evC (.int 0)))) (tB (e2 (pCmp fGe) (e2 pIx (evVar 0) (e2 pSub (evVar 3) (evC (.int 1)))) (e2 pIx (evVar 0) (evVar 3))))) (sRet 3 (evC (.bool false))) sNext)))
    (item := fun i => PyData.int (i : Nat)) (n := rs.length) (fun _ cs => ∃ c, cs = [.da (.tuple (rs.map .int)), .da (.int 0), .da (.int (m - 1)), c]) (cs := [.da (.tuple (rs.map .int)), .da (.int 0), .da (.int (m - 1)), .un]) (fun i cs hi hI => by
      obtain ⟨c, rfl⟩ := hI
      refine ⟨[.da (.tuple (rs.map .int)), .da (.int 0), .da (.int (m - 1)), .da (.int i)], [.da (.tuple (rs.map .int)), .da (.int 0), .da (.int (m - 1)), .da (.int i)], by trivial, ?_, ⟨_, rfl⟩⟩
      have g := List.getElem?_eq_getElem hi
      have a1 : atI (rs.map PyData.int) (i : Int) = some (.int rs[i]) := by rw [atI_of, List.getElem?_map, g]; rfl
      obtain ⟨s1, s2⟩ := h.small _ (List.getElem_mem hi)
      have s3 : rs[i] ≤ m - 1 := by omega
      have r := in_range_int rs[i] 0 (m - 1)
      rw [decide_eq_true s1, decide_eq_true s3] at r
      by_cases z : i = 0
      · subst z
        clear s1 s2 s3
        trivial
      · have b1 : atI (rs.map PyData.int) ((i : Int) - 1) = some (.int (rs[i - 1]'(by omega))) := by
          rw [show ((i : Int) - 1) = ((i - 1 : Nat) : Int) by omega, atI_of, List.getElem?_map, List.getElem?_eq_getElem (show i - 1 < rs.length by omega)]; rfl
        have lt := h.asc (i - 1) (rs[i - 1]'(by omega)) rs[i] (List.getElem?_eq_getElem _) (by rw [show i - 1 + 1 = i by omega]; exact g)
        have zi : 0 < i := by omega
        have nl : ¬ (rs[i] ≤ rs[i - 1]'(by omega)) := by omega
        clear s1 s2 s3 lt
        trivial) ⟨_, rfl⟩
  have e' : sFor (iRange1 (aCons (en pLen (aCons (evVar 0) aNil)) aNil)) (gN 3 3) (sSeq (sIf (tNot (tU (eCall 3 m_in_range (aCons (fz 3 (e2 pIx (evVar 0) (evVar 3))) (aCons (fz 3 (evVar 1)) (aCons (fz 3 (evVar 2)) aNil)))))) (sRet 3 (evC (.bool false))) sNext)
  (sIf (tAnd (tB (e2 (pCmp fGt) (evVar 3) (evC (.int 0)))) (tB (e2 (pCmp fGe) (e2 pIx (evVar 0) (e2 pSub (evVar 3) (evC (.int 1)))) (e2 pIx (evVar 0) (evVar 3))))) (sRet 3 (evC (.bool false))) sNext)) [.da (.tuple (rs.map .int)), .da (.int 0), .da (.int (m - 1)), .un] = .nx [.da (.tuple (rs.map .int)), .da (.int 0), .da (.int (m - 1)), c'] := by
    unfold sFor
    have s1 : iRange1 (aCons (en pLen (aCons (evVar 0) aNil)) aNil) [.da (.tuple (rs.map .int)), .da (.int 0), .da (.int (m - 1)), .un] = .val (rangeD 0 rs.length) [.da (.tuple (rs.map .int)), .da (.int 0), .da (.int (m - 1)), .un] := by
      have hr : rngOk (rs.length : Int) = true := rng_small (by omega) (by have := h.few; omega)
      clear e hg
      trivial
    rw [s1, hg]
    exact e
  have l1 : (sIf (tOr (tNot (tU (vIsi (isT "tuple") (fun _ => none) (evVar 0)))) (tB (e2 pEq (en pLen (aCons (evVar 0) aNil)) (evC (.int 0))))) (sRet 3 (evC (.bool false))) sNext) [.da (.tuple (rs.map .int)), .da (.int 0), .da (.int (m - 1)), .un] = .nx [.da (.tuple (rs.map .int)), .da (.int 0), .da (.int (m - 1)), .un] := by
    clear e hg e'
    trivial
  exact callM_da (sSeq_nx l1 (sSeq_nx e' rfl))
theorem leaf_fits_ok {m : Int} {rs : List Int} (h : Rests m rs) : m_leaf_fits [.da (dS m rs)] = .val (.da (.bool true)) [.da (dS m rs)] := by
  have a := ascends_ok h
  have r := in_range_int m 1 60
  rw [decide_eq_true h.low, decide_eq_true h.high] at r
  have q1 : sSet 1 1 (e2 pIx (evVar 0) (evC (.int 0))) [.da (dS m rs), .un] = .nx [.da (dS m rs), .da (.str "rests")] := by
    clear a r
    trivial
  have t1 : TL.tB (e2 pEq (evVar 1) (evC (.str "rests"))) [.da (dS m rs), .da (.str "rests")] = .val true [.da (dS m rs), .da (.str "rests")] := by
    clear a r q1
    trivial
  have c1 : e2 pEq (en pLen (aCons (evVar 0) aNil)) (evC (.int 3)) [.da (dS m rs), .da (.str "rests")] = .val (.da (.bool true)) [.da (dS m rs), .da (.str "rests")] := by
    clear a r q1 t1
    trivial
  have c2 : eCall 3 m_in_range (aCons (fz 1 (e2 pIx (evVar 0) (evC (.int 1)))) (aCons (evC (.int 1)) (aCons (evC (.int 60)) aNil))) [.da (dS m rs), .da (.str "rests")] = .val (.da (.bool true)) [.da (dS m rs), .da (.str "rests")] := by
    clear a q1 t1 c1
    trivial
  have c3 : eCall 3 m_ascends (aCons (fz 1 (e2 pIx (evVar 0) (evC (.int 2)))) (aCons (evC (.int 0)) (aCons (e2 pSub (e2 pIx (evVar 0) (evC (.int 1))) (evC (.int 1))) aNil))) [.da (dS m rs), .da (.str "rests")] = .val (.da (.bool true)) [.da (dS m rs), .da (.str "rests")] := by
    clear r q1 t1 c1 c2
    trivial
  unfold m_leaf_fits b_leaf_fits
  refine callM_da (cs := [.da (dS m rs), .da (.str "rests")]) (sSeq_nx q1 ?_)
  clear a r q1
  simp [sSeq, sIf, sRet, vAnd, fz, *]
theorem tuples_in_ok {m : Int} {rs : List Int} (h : Rests m rs) : m_tuples_in 7 [.da (dS m rs), .da (.int 6), .da (.int 1), .da (.bool false)] = .val (.da (.int 1)) [.da (dS m rs), .da (.int 6), .da (.int 1), .da (.bool false)] := by
  have a := leaf_fits_ok h
  show callM 4 (b_tuples_in (m_tuples_in 6)) _ = _
  generalize m_tuples_in 6 = rr
  have n1 : ¬ (Str.ofString "rests" = Str.ofString "moved") := by decide
  have n2 : ¬ (Str.ofString "rests" = Str.ofString "either") := by decide
  unfold b_tuples_in
  trivial
theorem is_set_ok {m : Int} {rs : List Int} (h : Rests m rs) : m_is_set [.da (dS m rs)] = .val (.da (.bool true)) [.da (dS m rs)] := by
  have a := tuples_in_ok h
  unfold m_is_set b_is_set
  trivial
theorem check_rests_ok {m : Int} {rs : List Int} (h : Rests m rs) : m_check_rests [.da (dS m rs)] = .val (.da .none) [.da (dS m rs)] := by
  have a := is_set_ok h
  unfold m_check_rests b_check_rests
  trivial
end K76
set_option Elab.async false
set_option linter.all false
set_option maxRecDepth 100000
set_option maxHeartbeats 4000000
/-! K76G: the checks of three, periods. -/
namespace K76
open PySem L2 TL
local macro_rules | `(tactic| trivial) => `(tactic| simp [callM, sSeq, sIf, sSet, TL.canSet_eq, sRet, sRetN, sNext, evVar, evC, e2, e1, en, k2, k1, kn, pkAll, ofO, pAdd, pSub, pCmp, pNeg, tU, tOf, truD, TL.tB, bOf, TL.tAnd, TL.tOr, TL.tNot, vAnd, vOr, vNot, vIf, fz, aNil, aCons, sPar, sPar3, put1, flatC, gN, gT, gsCons, gsNil, sAsg, vIsi, eTup, eLst, dAll, eCall, callE, isT_int_int, isT_int_bool, isT_int_tuple, isT_tuple_tuple, isT_none_int, isT_bool_int, isT_bool_bool, isT_str_int, isT_tuple_int, t3, e3, qCmp, sRaise, sDrop, pMul, pListOf, iRevL, iEnumA, eSl, oNone, oSome, pSl, OR.toE_val, pGcd, pInt2, pAbs, abs_int, pMod, pNe, pEq, eqF, pLen, pInt, pIx, iSeq, wipeC, backC, cut_to, cut_from, cut_to', cut_from', eRep, pRevA, iRange1, iRange2, *])
theorem res_call {ts us : List Int} (h : Tops ts) (h' : Tops us) (a : D) (tl : List Cell) : eCall 2 m_resultant_of (aCons (fz 3 (e2 pIx (evVar 1) (evC (.int 0)))) (aCons (fz 3 (e2 pIx (evVar 2) (evC (.int 0)))) aNil)) (.da a :: .da (dP ts) :: .da (dP us) :: tl) = .val (.da (.int (res ts us))) (.da a :: .da (dP ts) :: .da (dP us) :: tl) := by
  have r := resultant_of_ok h h'
  have a1 : fz 3 (e2 pIx (evVar 1) (evC (.int 0))) (.da a :: .da (dP ts) :: .da (dP us) :: tl) = .val (.da (dT ts)) (.da a :: .da (dP ts) :: .da (dP us) :: tl) := by
    clear r
    trivial
  have a2 : fz 3 (e2 pIx (evVar 2) (evC (.int 0))) (.da a :: .da (dP ts) :: .da (dP us) :: tl) = .val (.da (dT us)) (.da a :: .da (dP ts) :: .da (dP us) :: tl) := by
    clear r a1
    trivial
  exact eCall_da (n := 2) [dT ts, dT us] (aCons_val a1 (aCons_val (g := aNil) a2 rfl)) rfl r
abbrev c3 (m : Int) (rs ts us : List Int) : List Cell := [.da (dS m rs), .da (dP ts), .da (dP us)]
theorem three_pre {m : Int} {rs ts us : List Int} (hr : Rests m rs) (h : Tops ts) (h' : Tops us) {g : List Cell → SR} {r : SR} (e : g (c3 m rs ts us) = r) : (sSeq (sDrop (eCall 1 m_check_rests (aCons (fz 3 (evVar 0)) aNil)))
  (sSeq (sDrop (eCall 1 m_check_low (aCons (fz 3 (evVar 1)) aNil)))
  (sSeq (sDrop (eCall 1 m_check_low (aCons (fz 3 (evVar 2)) aNil))) g))) (c3 m rs ts us) = r := by
  have c0 := check_rests_ok hr
  have c1 := check_low_ok h
  have c2 := check_low_ok h'
  have d0 : sDrop (eCall 1 m_check_rests (aCons (fz 3 (evVar 0)) aNil)) (c3 m rs ts us) = .nx (c3 m rs ts us) := by
    clear c1 c2 e
    trivial
  have d1 : sDrop (eCall 1 m_check_low (aCons (fz 3 (evVar 1)) aNil)) (c3 m rs ts us) = .nx (c3 m rs ts us) := by
    clear c0 c2 e d0
    trivial
  have d2 : sDrop (eCall 1 m_check_low (aCons (fz 3 (evVar 2)) aNil)) (c3 m rs ts us) = .nx (c3 m rs ts us) := by
    clear c0 c1 e d0 d1
    trivial
  exact sSeq_nx d0 (sSeq_nx d1 (sSeq_nx d2 e))
theorem check_three_ok {m : Int} {rs ts us : List Int} (hr : Rests m rs) (h : Tops ts) (h' : Tops us) (hz : res ts us ≠ 0) : m_check_three (c3 m rs ts us) = .val (.da .none) (c3 m rs ts us) := by
  have c := res_call h h' (dS m rs) []
  have q : (sIf (tB (e2 pEq (eCall 2 m_resultant_of (aCons (fz 3 (e2 pIx (evVar 1) (evC (.int 0)))) (aCons (fz 3 (e2 pIx (evVar 2) (evC (.int 0)))) aNil))) (evC (.int 0)))) (sRaise "NoChoice") sNext) (c3 m rs ts us) = .nx (c3 m rs ts us) := by
    generalize eCall 2 m_resultant_of _ = f at c ⊢
    trivial
  exact callM_nx (nl := 0) (as := c3 m rs ts us) (f := b_check_three) (three_pre hr h h' q)
theorem check_three_err {m : Int} {rs ts us : List Int} (hr : Rests m rs) (h : Tops ts) (h' : Tops us) (hz : res ts us = 0) : m_check_three (c3 m rs ts us) = .err ⟨"NoChoice", none⟩ (c3 m rs ts us) := by
  have c := res_call h h' (dS m rs) []
  have q : (sIf (tB (e2 pEq (eCall 2 m_resultant_of (aCons (fz 3 (e2 pIx (evVar 1) (evC (.int 0)))) (aCons (fz 3 (e2 pIx (evVar 2) (evC (.int 0)))) aNil))) (evC (.int 0)))) (sRaise "NoChoice") sNext) (c3 m rs ts us) = .err ⟨"NoChoice", none⟩ (c3 m rs ts us) := by
    generalize eCall 2 m_resultant_of _ = f at c ⊢
    trivial
  exact callM_err (nl := 0) (as := c3 m rs ts us) (f := b_check_three) (three_pre hr h h' q)
theorem period_ok {m : Int} {rs ts us : List Int} (hr : Rests m rs) (h : Tops ts) (h' : Tops us) (hw : (res ts us).natAbs * m ≤ 100000) : m_period_with (c3 m rs ts us) = .val (.da (.int ((res ts us).natAbs * m))) (c3 m rs ts us) := by
  have c := res_call h h' (dS m rs) [.un]
  have mk : mulOk ((res ts us).natAbs : Int) m = true := mulOk_r (by have := hr.low; have := hr.high; omega)
  have nw : ¬ ((100000 : Int) < (res ts us).natAbs * m) := by omega
  unfold m_period_with b_period_with
  generalize eCall 2 m_resultant_of _ = f at c ⊢
  clear hw
  trivial
theorem period_err {m : Int} {rs ts us : List Int} (hr : Rests m rs) (h : Tops ts) (h' : Tops us) (hw : (100000 : Int) < (res ts us).natAbs * m) : m_period_with (c3 m rs ts us) = .err ⟨"TooMany", none⟩ (c3 m rs ts us) := by
  have c := res_call h h' (dS m rs) [.un]
  have mk : mulOk ((res ts us).natAbs : Int) m = true := mulOk_r (by have := hr.low; have := hr.high; omega)
  unfold m_period_with b_period_with
  generalize eCall 2 m_resultant_of _ = f at c ⊢
  trivial
end K76
set_option Elab.async false
set_option linter.all false
set_option maxRecDepth 100000
set_option maxHeartbeats 4000000
/-! K76H: shared values. -/
namespace K76
open PySem L2 TL
local macro_rules | `(tactic| trivial) => `(tactic| simp [callM, sSeq, sIf, sSet, TL.canSet_eq, sRet, sRetN, sNext, evVar, evC, e2, e1, en, k2, k1, kn, pkAll, ofO, pAdd, pSub, pCmp, pNeg, tU, tOf, truD, TL.tB, bOf, TL.tAnd, TL.tOr, TL.tNot, vAnd, vOr, vNot, vIf, fz, aNil, aCons, sPar, sPar3, put1, flatC, gN, gT, gsCons, gsNil, sAsg, vIsi, eTup, eLst, dAll, eCall, callE, isT_int_int, isT_int_bool, isT_int_tuple, isT_tuple_tuple, isT_none_int, isT_bool_int, isT_bool_bool, isT_str_int, isT_tuple_int, t3, e3, qCmp, sRaise, sDrop, pMul, pListOf, iRevL, iEnumA, eSl, oNone, oSome, pSl, OR.toE_val, pGcd, pInt2, pAbs, abs_int, pMod, pNe, pEq, eqF, pLen, pInt, pIx, iSeq, wipeC, backC, cut_to, cut_from, cut_to', cut_from', eRep, pRevA, iRange1, iRange2, *])
theorem inV_ints (k : Int) (rs : List Int) : inV (toV (.int k)) ((rs.map PyData.int).map toV) = decide (k ∈ rs) := by
  rw [Bool.eq_iff_iff, decide_eq_true_iff]
  unfold inV
  rw [List.any_eq_true]
  constructor
  · rintro ⟨v, hv, e⟩
    obtain ⟨d, hd, rfl⟩ := List.mem_map.mp hv
    obtain ⟨r, hr, rfl⟩ := List.mem_map.mp hd
    have e' : r = k := by simpa [toV, eqV] using e
    exact e' ▸ hr
  · intro h
    exact ⟨toV (.int k), List.mem_map_of_mem (List.mem_map_of_mem h), by simp [toV, eqV]⟩
theorem pIn_ints (k : Int) (rs : List Int) : pIn false (.int k) (.tuple (rs.map .int)) = some (.da (.bool (decide (k ∈ rs)))) := by
  unfold pIn
  have h : (rs.map PyData.int).all flatD = true := by simp [flatD]
  show (if _ then _ else _) = _
  rw [if_pos ⟨rfl, h⟩]
  unfold inD
  rw [inV_ints]
  rfl
/-- the points of a period that are in the set -/
def there (m : Int) (rs : List Int) (n : Nat) : List Nat := (List.range n).filter fun x => decide ((x : Int) % m ∈ rs)
/-- the common divisor of the values at a point -/
def gv (ts us : List Int) (x : Int) : Int := Int.gcd (vl ts x) (vl us x)
theorem there_D (m : Int) (rs : List Int) (n : Nat) : (rangeD 0 n).filter (fun d => match d with | .int x => decide (x % m ∈ rs) | _ => false) = (there m rs n).map fun x => PyData.int (x : Nat) := by
  have hg : rangeD 0 n = (List.range n).map fun i => PyData.int (i : Nat) := by unfold rangeD; simp
  rw [hg, there, List.filter_map]
  rfl
theorem all_shared_ok {m : Int} {rs ts us : List Int} (hr : Rests m rs) (h : Tops ts) (h' : Tops us) {n : Nat} (hn : (n : Int) = (res ts us).natAbs * m) (hw : n ≤ 100000) : m_all_shared (c3 m rs ts us) = .val (.ol ((there m rs n).map fun x => PyData.int (gv ts us (x : Nat)))) (c3 m rs ts us) := by
  have p := period_ok hr h h' (by omega)
  rw [← hn] at p
  have m1 := hr.low
  have m0 : 0 < m := by omega
  have big : 100000 ≤ sizeLine := by decide
  have A : sSet 3 3 (eCall 3 m_period_with (aCons (fz 3 (evVar 0)) (aCons (fz 3 (evVar 1)) (aCons (fz 3 (evVar 2)) aNil)))) (c3 m rs ts us ++ [.un, .un, .un]) = .nx (c3 m rs ts us ++ [.da (.int n), .un, .un]) := by
    clear hn hw m1 m0 big
    trivial
  have hg : rangeD 0 n = (List.range n).map fun i => PyData.int (i : Nat) := by unfold rangeD; simp
  have s1 : iRange1 (aCons (evVar 3) aNil) (c3 m rs ts us ++ [.da (.int n), .un, .un]) = .val (rangeD 0 n) (c3 m rs ts us ++ [.da (.int n), .un, .un]) := by
    have r := rng_small (c := n) (by omega) (by omega)
    clear p A hn hw m1 m0 big hg
    trivial
  have l1 := eLc_keep (vs := [5]) (src := iRange1 (aCons (evVar 3) aNil)) (tgt := gN 3 5) (tt := tB (e2 (pIn false) (e2 pMod (evVar 5) (e2 pIx (evVar 0) (evC (.int 1)))) (e2 pIx (evVar 0) (evC (.int 2))))) (f := fz 3 (evVar 5))
    (p := fun d => match d with | .int x => decide (x % m ∈ rs) | _ => false) (g := fun d => d) s1 (by rw [hg, List.length_map, List.length_range]; exact Nat.le_trans hw big) fun d hd => by
      rw [hg] at hd
      obtain ⟨i, hi, rfl⟩ := List.mem_map.mp hd
      have q := pIn_ints ((i : Int) % m) rs
      refine ⟨c3 m rs ts us ++ [.da (.int n), .un, .da (.int i)], ?_, ?_, ?_, ?_⟩
      all_goals clear p A s1 hn hw m1 big hg hd hi
      · trivial
      · trivial
      · trivial
      · intro _; trivial
  rw [there_D] at l1
  have B : sSet 3 4 (eLc [5] (iRange1 (aCons (evVar 3) aNil)) (gN 3 5) (tB (e2 (pIn false) (e2 pMod (evVar 5) (e2 pIx (evVar 0) (evC (.int 1)))) (e2 pIx (evVar 0) (evC (.int 2))))) (fz 3 (evVar 5))) (c3 m rs ts us ++ [.da (.int n), .un, .un]) = .nx (c3 m rs ts us ++ [.da (.int n), .ol ((there m rs n).map fun x => PyData.int (x : Nat)), .un]) := by
    unfold sSet
    rw [l1, List.map_id']
    rfl
  have s2 : iSeq 3 (evVar 4) (c3 m rs ts us ++ [.da (.int n), .ol ((there m rs n).map fun x => PyData.int (x : Nat)), .un]) = .val ((there m rs n).map fun x => PyData.int (x : Nat)) (c3 m rs ts us ++ [.da (.int n), .da (.list ((there m rs n).map fun x => PyData.int (x : Nat))), .un]) := by
    clear p A s1 l1 B hn hw m1 m0 big hg
    generalize (there m rs n).map _ = ds
    trivial
  have tl : ((there m rs n).map fun x => PyData.int (x : Nat)).length ≤ sizeLine := by
    rw [List.length_map]
    exact Nat.le_trans (List.length_filter_le _ _) (by rw [List.length_range]; exact Nat.le_trans hw big)
  have l2 := eLc_map (vs := [5]) (src := iSeq 3 (evVar 4)) (tgt := gN 3 5) (f := fz 3 (eCall 3 m_shared_at (aCons (fz 3 (evVar 1)) (aCons (fz 3 (evVar 2)) (aCons (fz 3 (evVar 5)) aNil)))))
    (g := fun d => match d with | .int x => .int (gv ts us x) | d => d) s2 tl fun d hd => by
      obtain ⟨i, hi, rfl⟩ := List.mem_map.mp hd
      have hi' := List.mem_range.mp (List.mem_filter.mp hi).1
      have q := shared_at_int ts us i (show (i : Int).natAbs < 2 ^ 64 by omega)
      refine ⟨c3 m rs ts us ++ [.da (.int n), .da (.list ((there m rs n).map fun x => PyData.int (x : Nat))), .da (.int i)], ?_, ?_, ?_⟩
      all_goals clear p A s1 l1 B s2 tl hn hw m1 big hg hd hi hi'
      all_goals generalize (there m rs n).map _ = ds
      · trivial
      · trivial
      · simp only [gv]
        trivial
  rw [List.map_map] at l2
  have C := sSeq_nx A (sSeq_nx B (sRet_ol (np := 3) l2))
  exact callM_ol (nl := 3) (as := c3 m rs ts us) (f := b_all_shared) C
end K76
set_option Elab.async false
set_option linter.all false
set_option maxRecDepth 100000
set_option maxHeartbeats 4000000
/-! K76M: resultants, closed; the common divisors divide them. -/
namespace K76
open PySem L2 TL
theorem res22 (a b d e : Int) : res [b, a] [e, d] = a * e - b * d := by
  simp [res, shr, det, dsum, minor, sg, List.range, List.range.loop]
  grind
theorem res23 (a b d e f : Int) : res [b, a] [f, e, d] = a * a * f - a * b * e + b * b * d := by
  simp [res, shr, det, dsum, minor, sg, List.range, List.range.loop]
  grind
theorem res32 (a b c d e : Int) : res [c, b, a] [e, d] = a * e * e - b * d * e + c * d * d := by
  simp [res, shr, det, dsum, minor, sg, List.range, List.range.loop]
  grind
theorem res33 (a b c d e f : Int) : res [c, b, a] [f, e, d] = (a * f - d * c) * (a * f - d * c) - (a * e - d * b) * (b * f - e * c) := by
  simp [res, shr, det, dsum, minor, sg, List.range, List.range.loop]
  grind
theorem two_or {ts : List Int} (h : Tops ts) : (∃ b a, ts = [b, a]) ∨ ∃ c b a, ts = [c, b, a] := by
  have h2 := h.two
  have h3 := h.three
  match ts, h2, h3 with
  | [b, a], _, _ => exact .inl ⟨b, a, rfl⟩
  | [c, b, a], _, _ => exact .inr ⟨c, b, a, rfl⟩
theorem res_comb {ts us : List Int} (h : Tops ts) (h' : Tops us) (x : Int) : ∃ u v, res ts us = u * vl ts x + v * vl us x := by
  rcases two_or h with ⟨b, a, rfl⟩ | ⟨c, b, a, rfl⟩ <;> rcases two_or h' with ⟨e, d, rfl⟩ | ⟨f, e, d, rfl⟩
  · exact ⟨-d, a, by rw [res22]; simp [vl]; grind⟩
  · exact ⟨-(a * d * x + a * e - b * d), a * a, by rw [res23]; simp [vl]; grind⟩
  · exact ⟨d * d, -(a * d * x + b * d - a * e), by rw [res32]; simp [vl]; grind⟩
  · exact ⟨-(a * f - c * d - (a * e - b * d) * x) * d + (a * e - b * d) * e, (a * f - c * d - (a * e - b * d) * x) * a - (a * e - b * d) * b, by rw [res33]; simp [vl]; grind⟩
theorem gv_dvd {ts us : List Int} (h : Tops ts) (h' : Tops us) (x : Int) : gv ts us x ∣ res ts us := by
  obtain ⟨u, v, e⟩ := res_comb h h' x
  rw [e]
  exact Int.dvd_add (Int.dvd_trans (Int.gcd_dvd_left ..) (Int.dvd_mul_left ..)) (Int.dvd_trans (Int.gcd_dvd_right ..) (Int.dvd_mul_left ..))
theorem vl_cons (t : Int) (ts : List Int) (x : Int) : vl (t :: ts) x = vl ts x * x + t := rfl
theorem vl_sub (x y : Int) : ∀ ts : List Int, ∃ w, vl ts y = vl ts x + (y - x) * w
  | [] => ⟨0, by simp [vl]⟩
  | t :: ts => by
    obtain ⟨w, e⟩ := vl_sub x y ts
    exact ⟨w * y + vl ts x, by rw [vl_cons, vl_cons, e]; grind⟩
theorem gv_half {ts us : List Int} (h : Tops ts) (h' : Tops us) {x y : Int} (hd : res ts us ∣ y - x) : gv ts us x ∣ gv ts us y := by
  have d := Int.dvd_trans (gv_dvd h h' x) hd
  have half : ∀ vs : List Int, gv ts us x ∣ vl vs x → gv ts us x ∣ vl vs y := fun vs q => by
    obtain ⟨w, e⟩ := vl_sub x y vs
    rw [e]
    exact Int.dvd_add q (Int.dvd_trans d (Int.dvd_mul_right ..))
  exact Int.dvd_coe_gcd (half ts (Int.gcd_dvd_left ..)) (half us (Int.gcd_dvd_right ..))
theorem gv_period {ts us : List Int} (h : Tops ts) (h' : Tops us) {x y : Int} (hd : res ts us ∣ y - x) : gv ts us y = gv ts us x := by
  have a := gv_half h h' hd
  have b := gv_half h h' (x := y) (y := x) (by rw [show x - y = -(y - x) by omega]; exact Int.dvd_neg.mpr hd)
  exact Int.dvd_antisymm (Int.natCast_nonneg _) (Int.natCast_nonneg _) b a
theorem gv_le {ts us : List Int} (h : Tops ts) (h' : Tops us) (hz : res ts us ≠ 0) (x : Int) : 1 ≤ gv ts us x ∧ gv ts us x ≤ (res ts us).natAbs := by
  have d := gv_dvd h h' x
  have n : 0 ≤ gv ts us x := Int.natCast_nonneg _
  have z : gv ts us x ≠ 0 := fun q => hz (Int.zero_dvd.mp (q ▸ d))
  have q := Nat.le_of_dvd (by omega) (Int.natAbs_dvd_natAbs.mpr d)
  omega
/-- sums and other rows at the same points: adding a multiple keeps the common divisor -/
theorem gv_add {ts us ws : List Int} (s : Int) {x : Int} (e : vl ws x = vl ts x + s * vl us x) : gv ws us x = gv ts us x := by
  unfold gv
  rw [e]
  refine congrArg Nat.cast (Nat.dvd_antisymm ?_ ?_)
  · refine Int.natCast_dvd_natCast.mp (Int.dvd_coe_gcd ?_ (Int.gcd_dvd_right ..))
    have a := Int.dvd_sub (Int.gcd_dvd_left (a := vl ts x + s * vl us x) (b := vl us x)) (Int.dvd_trans (Int.gcd_dvd_right (a := vl ts x + s * vl us x) (b := vl us x)) (Int.dvd_mul_left s (vl us x)))
    rw [Int.add_sub_cancel] at a
    exact a
  · refine Int.natCast_dvd_natCast.mp (Int.dvd_coe_gcd ?_ (Int.gcd_dvd_right ..))
    exact Int.dvd_add (Int.gcd_dvd_left ..) (Int.dvd_trans (Int.gcd_dvd_right ..) (Int.dvd_mul_left ..))
theorem gv_comm (ts us : List Int) (x : Int) : gv ts us x = gv us ts x := by unfold gv; rw [Int.gcd_comm]
end K76
set_option Elab.async false
set_option linter.all false
set_option maxRecDepth 100000
set_option maxHeartbeats 4000000
/-! K76N: values and counts over a period. -/
namespace K76
open PySem L2 TL
/-- the values over a period -/
def vals (m : Int) (rs ts us : List Int) (n : Nat) : List Int := (there m rs n).map fun x => gv ts us (x : Nat)
theorem mod_shift {m : Int} {P x : Nat} (hm : m ∣ (P : Int)) : ((x % P : Nat) : Int) % m = (x : Int) % m := by
  obtain ⟨q, e⟩ := hm
  have : (x : Int) = ((x % P : Nat) : Int) + P * ((x / P : Nat) : Int) := by
    have := Nat.mod_add_div x P
    omega
  rw [this, e, Int.mul_assoc, Int.add_mul_emod_self_left]
theorem vals_mem {m : Int} {rs ts us : List Int} (h : Tops ts) (h' : Tops us) {P : Nat} (hp : 0 < P) (hm : m ∣ (P : Int)) (hr : res ts us ∣ (P : Int)) (k : Int) : k ∈ vals m rs ts us P ↔ ∃ x : Nat, (x : Int) % m ∈ rs ∧ gv ts us x = k := by
  unfold vals there
  constructor
  · intro q
    obtain ⟨x, hx, e⟩ := List.mem_map.mp q
    exact ⟨x, of_decide_eq_true (List.mem_filter.mp hx).2, e⟩
  · rintro ⟨x, hx, e⟩
    refine List.mem_map.mpr ⟨x % P, List.mem_filter.mpr ⟨List.mem_range.mpr (Nat.mod_lt _ hp), decide_eq_true ?_⟩, ?_⟩
    · rw [mod_shift hm]; exact hx
    · rw [← e]
      refine gv_period h h' ?_
      have : ((x % P : Nat) : Int) - x = -(P * ((x / P : Nat) : Int)) := by
        have := Nat.mod_add_div x P
        omega
      rw [this]
      exact Int.dvd_neg.mpr (Int.dvd_trans hr (Int.dvd_mul_right ..))
theorem vals_asc {m : Int} {rs ts us : List Int} (h : Tops ts) (h' : Tops us) {P P' : Nat} (hp : 0 < P) (hm : m ∣ (P : Int)) (hr : res ts us ∣ (P : Int)) (hp' : 0 < P') (hm' : m ∣ (P' : Int)) (hr' : res ts us ∣ (P' : Int)) : asc (vals m rs ts us P) = asc (vals m rs ts us P') :=
  asc_eq fun k => (vals_mem h h' hp hm hr k).trans (vals_mem h h' hp' hm' hr' k).symm
/-- how often a periodic test holds -/
theorem count_period (p : Nat → Bool) (L : Nat) (hp : ∀ x, p (x + L) = p x) : ∀ g, ((List.range (g * L)).filter p).length = g * ((List.range L).filter p).length
  | 0 => by simp
  | g + 1 => by
    have ih := count_period p L hp g
    have hq : ∀ g x, p (g * L + x) = p x := fun g x => by
      induction g with
      | zero => rw [Nat.zero_mul, Nat.zero_add]
      | succ g ih => rw [show (g + 1) * L + x = (g * L + x) + L by rw [Nat.succ_mul]; omega, hp, ih]
    rw [Nat.succ_mul, List.range_add, List.filter_append, List.length_append, ih, List.filter_map, List.length_map, show p ∘ (fun x => g * L + x) = p from funext (hq g), Nat.succ_mul]
theorem vals_len {m : Int} {rs ts us : List Int} {L : Nat} (hm : m ∣ (L : Int)) (g : Nat) : (vals m rs ts us (g * L)).length = g * (vals m rs ts us L).length := by
  unfold vals there
  rw [List.length_map, List.length_map]
  refine count_period _ L (fun x => ?_) g
  obtain ⟨q, e⟩ := hm
  rw [Int.natCast_add, e, Int.add_mul_emod_self_left]
theorem vals_count {m : Int} {rs ts us : List Int} (h : Tops ts) (h' : Tops us) {L : Nat} (hm : m ∣ (L : Int)) (hr : res ts us ∣ (L : Int)) (d : Int) (g : Nat) :
    ((vals m rs ts us (g * L)).filter fun v => decide (v = d)).length = g * ((vals m rs ts us L).filter fun v => decide (v = d)).length := by
  unfold vals there
  simp only [List.filter_map, List.length_map, List.filter_filter]
  refine count_period _ L (fun x => ?_) g
  have a : gv ts us ((x + L : Nat) : Int) = gv ts us (x : Nat) := gv_period h h' (by rw [show ((x + L : Nat) : Int) - (x : Nat) = L by omega]; exact hr)
  obtain ⟨q, e⟩ := hm
  have b : ((x + L : Nat) : Int) % m = (x : Int) % m := by rw [Int.natCast_add, e, Int.add_mul_emod_self_left]
  simp only [Function.comp, a, b]
end K76
set_option Elab.async false
set_option linter.all false
set_option maxRecDepth 100000
set_option maxHeartbeats 4000000
/-! K76O: a number of at most 6000 has fewer than 64 divisors. -/
namespace K76
open PySem L2 TL
theorem len_of_sub : ∀ {l k : List Nat}, l.Nodup → (∀ x ∈ l, x ∈ k) → l.length ≤ k.length
  | [], _, _, _ => Nat.zero_le _
  | x :: l, k, hn, hs => by
    have hx := hs x List.mem_cons_self
    have ih := len_of_sub (l := l) (k := k.erase x) (List.nodup_cons.mp hn).2 fun y hy => by
      have ne : y ≠ x := fun e => (List.nodup_cons.mp hn).1 (e ▸ hy)
      exact (List.mem_erase_of_ne ne).mpr (hs y (List.mem_cons_of_mem _ hy))
    rw [List.length_erase_of_mem hx] at ih
    have : 0 < k.length := List.length_pos_of_mem hx
    rw [List.length_cons]
    omega
def cnt (n : Nat) : Nat → Nat
  | 0 => 0
  | d + 1 => (if n % (d + 1) = 0 then 1 else 0) + cnt n d
theorem cnt_filter (n : Nat) : ∀ d, ((List.range (d + 1)).filter fun x => decide (x ≠ 0 ∧ n % x = 0)).length = cnt n d
  | 0 => by simp [cnt, List.range, List.range.loop]
  | d + 1 => by
    rw [List.range_succ, List.filter_append, List.length_append, cnt_filter n d, cnt, Nat.add_comm]
    congr 1
    by_cases h : n % (d + 1) = 0 <;> simp [List.filter_cons, h]
theorem flt_len (p : Nat → Bool) : ∀ l : List Nat, l.length = (l.filter p).length + (l.filter fun x => !p x).length
  | [] => rfl
  | x :: l => by
    have ih := flt_len p l
    cases q : p x <;> simp [List.filter_cons, q] <;> omega
theorem divs_few {n : Nat} (h1 : 1 ≤ n) (h2 : n ≤ 6000) (c : cnt n 77 ≤ 31) {l : List Nat} (hn : l.Nodup) (hd : ∀ x ∈ l, x ∣ n) : l.length < 64 := by
  have a : (l.filter fun x => decide (x ≤ 77)).length ≤ cnt n 77 := by
    rw [← cnt_filter]
    refine len_of_sub (hn.filter _) fun x hx => ?_
    obtain ⟨hx, le⟩ := List.mem_filter.mp hx
    have dv := hd x hx
    have x0 : x ≠ 0 := fun e => by rw [e] at dv; have := Nat.zero_dvd.mp dv; omega
    exact List.mem_filter.mpr ⟨List.mem_range.mpr (by have := of_decide_eq_true le; omega), decide_eq_true ⟨x0, Nat.mod_eq_zero_of_dvd dv⟩⟩
  have b : ((l.filter fun x => !decide (x ≤ 77)).map fun x => n / x).length ≤ cnt n 77 := by
    rw [← cnt_filter]
    refine len_of_sub ?_ fun y hy => ?_
    · refine List.Pairwise.map (R := fun x y => x ≠ y ∧ x ∣ n ∧ y ∣ n) _ (fun x y q e => ?_) ?_
      · obtain ⟨ne, ⟨u, hu⟩, ⟨v, hv⟩⟩ := q
        have x0 : 0 < x := Nat.pos_of_ne_zero fun z => by rw [z, Nat.zero_mul] at hu; omega
        have y0 : 0 < y := Nat.pos_of_ne_zero fun z => by rw [z, Nat.zero_mul] at hv; omega
        have e1 : n / x = u := by rw [hu, Nat.mul_div_cancel_left _ x0]
        have e2 : n / y = v := by rw [hv, Nat.mul_div_cancel_left _ y0]
        have uv : u = v := by rw [← e1, ← e2]; exact e
        have u0 : 0 < u := Nat.pos_of_ne_zero fun z => by rw [z, Nat.mul_zero] at hu; omega
        exact ne (Nat.eq_of_mul_eq_mul_right u0 (by rw [← hu, uv, ← hv]))
      · refine List.Pairwise.imp_of_mem (R := fun x y => x ≠ y) (fun {x y} hx hy ne => ?_) (hn.filter _)
        exact ⟨ne, hd x (List.mem_filter.mp hx).1, hd y (List.mem_filter.mp hy).1⟩
    · obtain ⟨x, hx, rfl⟩ := List.mem_map.mp hy
      obtain ⟨hx, gt⟩ := List.mem_filter.mp hx
      have gt' : 77 < x := by simpa using gt
      obtain ⟨u, hu⟩ := hd x hx
      have e1 : n / x = u := by rw [hu, Nat.mul_div_cancel_left _ (by omega)]
      show _ ∈ _
      rw [e1]
      have u0 : u ≠ 0 := fun z => by rw [z, Nat.mul_zero] at hu; omega
      have u1 : u ≤ 77 := Nat.le_of_not_lt fun q => by
        have := Nat.mul_le_mul (show 78 ≤ x by omega) (show 78 ≤ u by omega)
        omega
      exact List.mem_filter.mpr ⟨List.mem_range.mpr (by omega), decide_eq_true ⟨u0, Nat.mod_eq_zero_of_dvd ⟨x, by rw [hu, Nat.mul_comm]⟩⟩⟩
  have s : l.length = (l.filter fun x => decide (x ≤ 77)).length + (l.filter fun x => !decide (x ≤ 77)).length := by
    exact flt_len _ l
  rw [List.length_map] at b
  omega
end K76
set_option Elab.async false
set_option linter.all false
set_option maxRecDepth 100000
namespace K76
def cntF (n d : Nat) : Nat := Nat.rec (motive := fun _ => Nat) 0 (fun d r => cond (Nat.beq (n % (d + 1)) 0) (r + 1) r) d
def fewF (s k : Nat) : Bool := Nat.rec (motive := fun _ => Bool) true (fun n r => cond (Nat.ble (cntF (s + n + 1) 77) 31) r false) k
theorem fewF0 : fewF 0 500 = true := by decide +kernel
theorem fewF1 : fewF 500 500 = true := by decide +kernel
theorem fewF2 : fewF 1000 500 = true := by decide +kernel
theorem fewF3 : fewF 1500 500 = true := by decide +kernel
theorem fewF4 : fewF 2000 500 = true := by decide +kernel
theorem fewF5 : fewF 2500 500 = true := by decide +kernel
theorem fewF6 : fewF 3000 500 = true := by decide +kernel
theorem fewF7 : fewF 3500 500 = true := by decide +kernel
theorem fewF8 : fewF 4000 500 = true := by decide +kernel
theorem fewF9 : fewF 4500 500 = true := by decide +kernel
theorem fewF10 : fewF 5000 500 = true := by decide +kernel
theorem fewF11 : fewF 5500 500 = true := by decide +kernel
end K76
set_option Elab.async false
set_option linter.all false
set_option maxRecDepth 100000
namespace K76
theorem cntF_eq (n : Nat) : ∀ d, cntF n d = cnt n d
  | 0 => rfl
  | d + 1 => by
    have ih := cntF_eq n d
    show cond (Nat.beq (n % (d + 1)) 0) (cntF n d + 1) (cntF n d) = _
    rw [ih, cnt]
    by_cases h : n % (d + 1) = 0
    · rw [if_pos h, show Nat.beq (n % (d + 1)) 0 = true by rw [h]; rfl, cond_true]; omega
    · rw [if_neg h, Bool.eq_false_iff.mpr (fun q => h (Nat.eq_of_beq_eq_true q)), cond_false]; omega
theorem fewF_at (s : Nat) : ∀ (k : Nat), fewF s k = true → ∀ n, s < n → n ≤ s + k → cnt n 77 ≤ 31
  | 0, _, n, h1, h2 => by omega
  | k + 1, e, n, h1, h2 => by
    have e' : cond (Nat.ble (cntF (s + k + 1) 77) 31) (fewF s k) false = true := e
    cases q : Nat.ble (cntF (s + k + 1) 77) 31
    · rw [q] at e'; exact absurd e' (by simp)
    · rw [q] at e'
      by_cases z : n = s + k + 1
      · rw [z, ← cntF_eq]; exact Nat.le_of_ble_eq_true q
      · exact fewF_at s k e' n h1 (by omega)
end K76
set_option Elab.async false
set_option linter.all false
set_option maxRecDepth 100000
set_option maxHeartbeats 4000000
/-! K76R: few values; common_values. -/
namespace K76
open PySem L2 TL
theorem cnt_few {n : Nat} (h1 : 1 ≤ n) (h2 : n ≤ 6000) : cnt n 77 ≤ 31 := by
  rcases Nat.lt_or_ge 500 n with a | a
  · rcases Nat.lt_or_ge 1000 n with b | b
    · rcases Nat.lt_or_ge 1500 n with c | c
      · rcases Nat.lt_or_ge 2000 n with d | d
        · rcases Nat.lt_or_ge 2500 n with e | e
          · rcases Nat.lt_or_ge 3000 n with f | f
            · rcases Nat.lt_or_ge 3500 n with g | g
              · rcases Nat.lt_or_ge 4000 n with i | i
                · rcases Nat.lt_or_ge 4500 n with j | j
                  · rcases Nat.lt_or_ge 5000 n with k | k
                    · rcases Nat.lt_or_ge 5500 n with l | l
                      · exact fewF_at 5500 500 fewF11 n l h2
                      · exact fewF_at 5000 500 fewF10 n k l
                    · exact fewF_at 4500 500 fewF9 n j k
                  · exact fewF_at 4000 500 fewF8 n i j
                · exact fewF_at 3500 500 fewF7 n g i
              · exact fewF_at 3000 500 fewF6 n f g
            · exact fewF_at 2500 500 fewF5 n e f
          · exact fewF_at 2000 500 fewF4 n d e
        · exact fewF_at 1500 500 fewF3 n c d
      · exact fewF_at 1000 500 fewF2 n b c
    · exact fewF_at 500 500 fewF1 n a b
  · exact fewF_at 0 500 fewF0 n (by omega) (by omega)
theorem vals_few {m : Int} {rs ts us : List Int} (h : Tops ts) (h' : Tops us) (hz : res ts us ≠ 0) (hs : (res ts us).natAbs ≤ 6000) (n : Nat) : (distinct (vals m rs ts us n)).length < 64 := by
  have q := divs_few (n := (res ts us).natAbs) (by omega) hs (cnt_few (by omega) hs) (l := (distinct (vals m rs ts us n)).map Int.natAbs) ?_ ?_
  · rwa [List.length_map] at q
  · refine List.Pairwise.map (R := fun x y => x ≠ y ∧ 0 ≤ x ∧ 0 ≤ y) _ (fun x y q e => q.1 (by omega)) ?_
    refine List.Pairwise.imp_of_mem (R := fun x y => x ≠ y) (fun {x y} hx hy ne => ?_) (nodup_distinct _)
    have pos : ∀ z ∈ distinct (vals m rs ts us n), 0 ≤ z := fun z hz => by
      obtain ⟨x, _, rfl⟩ := List.mem_map.mp (mem_distinct.mp hz)
      exact Int.natCast_nonneg _
    exact ⟨ne, pos x hx, pos y hy⟩
  · intro x hx
    obtain ⟨y, hy, rfl⟩ := List.mem_map.mp hx
    obtain ⟨z, _, rfl⟩ := List.mem_map.mp (mem_distinct.mp hy)
    exact Int.natAbs_dvd_natAbs.mpr (gv_dvd h h' _)
end K76
set_option Elab.async false
set_option linter.all false
set_option maxRecDepth 100000
set_option maxHeartbeats 4000000
/-! K76S: common_values. -/
namespace K76
open PySem L2 TL
local macro_rules | `(tactic| trivial) => `(tactic| simp [callM, sSeq, sIf, sSet, TL.canSet_eq, sRet, sRetN, sNext, evVar, evC, e2, e1, en, k2, k1, kn, pkAll, ofO, pAdd, pSub, pCmp, pNeg, tU, tOf, truD, TL.tB, bOf, TL.tAnd, TL.tOr, TL.tNot, vAnd, vOr, vNot, vIf, fz, aNil, aCons, sPar, sPar3, put1, flatC, gN, gT, gsCons, gsNil, sAsg, vIsi, eTup, eLst, dAll, eCall, callE, isT_int_int, isT_int_bool, isT_int_tuple, isT_tuple_tuple, isT_none_int, isT_bool_int, isT_bool_bool, isT_str_int, isT_tuple_int, t3, e3, qCmp, sRaise, sDrop, pMul, pListOf, iRevL, iEnumA, eSl, oNone, oSome, pSl, OR.toE_val, pGcd, pInt2, pAbs, abs_int, pMod, pNe, pEq, eqF, pLen, pInt, pIx, iSeq, wipeC, backC, cut_to, cut_from, cut_to', cut_from', eRep, pRevA, iRange1, iRange2, *])
theorem ints_map : ∀ ns : List Int, intsOf (ns.map PyData.int) = some ns
  | [] => rfl
  | n :: ns => by show (intsOf (ns.map PyData.int)).map (n :: ·) = _; rw [ints_map ns]; rfl
theorem common_values_ok {m : Int} {rs ts us : List Int} (hr : Rests m rs) (h : Tops ts) (h' : Tops us) (hz : res ts us ≠ 0) {n : Nat} (hn : (n : Int) = (res ts us).natAbs * m) (hw : n ≤ 6000) (hs : (res ts us).natAbs ≤ 6000) : m_common_values (c3 m rs ts us) = .val (.ol ((asc (vals m rs ts us n)).map .int)) (c3 m rs ts us) := by
  have c0 := check_three_ok hr h h' hz
  have a0 := all_shared_ok hr h h' hn (by omega)
  rw [show ((there m rs n).map fun x => PyData.int (gv ts us (x : Nat))) = (vals m rs ts us n).map .int by rw [vals, List.map_map]; rfl] at a0
  have few := vals_few (m := m) (rs := rs) h h' hz hs n
  have P : pSortSet [.list ((vals m rs ts us n).map .int)] = some (.ol ((asc (vals m rs ts us n)).map .int)) := by
    show (intsOf _).bind _ = _
    rw [ints_map, Option.bind_some, if_pos few]
  have A : sDrop (eCall 3 m_check_three (aCons (fz 3 (evVar 0)) (aCons (fz 3 (evVar 1)) (aCons (fz 3 (evVar 2)) aNil)))) (c3 m rs ts us) = .nx (c3 m rs ts us) := by
    clear P few a0
    generalize m_check_three = f at c0 ⊢
    trivial
  have B : eCall 3 m_all_shared (aCons (fz 3 (evVar 0)) (aCons (fz 3 (evVar 1)) (aCons (fz 3 (evVar 2)) aNil))) (c3 m rs ts us) = .val (.ol ((vals m rs ts us n).map .int)) (c3 m rs ts us) := by
    clear P few c0 A
    generalize m_all_shared = f at a0 ⊢
    generalize (vals m rs ts us n).map PyData.int = ds at a0 ⊢
    trivial
  have C : en pSortSet (aCons (eCall 3 m_all_shared (aCons (fz 3 (evVar 0)) (aCons (fz 3 (evVar 1)) (aCons (fz 3 (evVar 2)) aNil)))) aNil) (c3 m rs ts us) = .val (.ol ((asc (vals m rs ts us n)).map .int)) (c3 m rs ts us) := by
    generalize eCall 3 m_all_shared _ = f at B ⊢
    clear few a0 c0 A
    generalize (vals m rs ts us n).map PyData.int = ds at B P ⊢
    trivial
  exact callM_ol (nl := 0) (as := c3 m rs ts us) (f := b_common_values) (sSeq_nx A (sRet_ol C))
end K76
set_option Elab.async false
set_option linter.all false
set_option maxRecDepth 100000
set_option maxHeartbeats 4000000
/-! K76W: lowest, common_share. -/
namespace K76
open PySem L2 TL
local macro_rules | `(tactic| trivial) => `(tactic| simp [callM, sSeq, sIf, sSet, TL.canSet_eq, sRet, sRetN, sNext, evVar, evC, e2, e1, en, k2, k1, kn, pkAll, ofO, pAdd, pSub, pCmp, pNeg, tU, tOf, truD, TL.tB, bOf, TL.tAnd, TL.tOr, TL.tNot, vAnd, vOr, vNot, vIf, fz, aNil, aCons, sPar, sPar3, put1, flatC, gN, gT, gsCons, gsNil, sAsg, vIsi, eTup, eLst, dAll, eCall, callE, isT_int_int, isT_int_bool, isT_int_tuple, isT_tuple_tuple, isT_none_int, isT_bool_int, isT_bool_bool, isT_str_int, isT_tuple_int, t3, e3, qCmp, sRaise, sDrop, pMul, pListOf, iRevL, iEnumA, eSl, oNone, oSome, pSl, OR.toE_val, pGcd, pInt2, pAbs, abs_int, pMod, pNe, pEq, eqF, pLen, pInt, pIx, iSeq, wipeC, backC, cut_to, cut_from, cut_to', cut_from', eRep, pRevA, iRange1, iRange2, *])
theorem lowest_ok (a b : Nat) (hb : 0 < b) (hs : b ≤ 1000000) : m_lowest [.da (.int a), .da (.int b)] = .val (.da (.tuple [.int (a / Nat.gcd a b : Nat), .int (b / Nat.gcd a b : Nat)])) [.da (.int a), .da (.int b)] := by
  have c := common_divisor_int a b
  rw [show Int.gcd (a : Int) b = Nat.gcd a b from rfl] at c
  have g0 : 0 < Nat.gcd a b := Nat.gcd_pos_of_pos_right _ hb
  have g1 : Nat.gcd a b ≤ b := Nat.le_of_dvd hb (Nat.gcd_dvd_right ..)
  have d : divOk (Nat.gcd a b : Int) = true := divOk_s (by omega) (by omega)
  have nb : ¬ ((b : Int) < 0) := by omega
  unfold m_lowest b_lowest
  generalize Nat.gcd a b = g at *
  have p1 : pDiv (.int a) (.int g) = some (.da (.int (a / g : Nat))) := by show (if _ then _ else _) = _; rw [if_pos d]; rfl
  have p2 : pDiv (.int b) (.int g) = some (.da (.int (b / g : Nat))) := by show (if _ then _ else _) = _; rw [if_pos d]; rfl
  clear hs g0 g1 hb
  trivial
end K76
set_option Elab.async false
set_option linter.all false
set_option maxRecDepth 100000
set_option maxHeartbeats 4000000
/-! K76X: common_share, least_coprime. -/
namespace K76
open PySem L2 TL
local macro_rules | `(tactic| trivial) => `(tactic| simp [callM, sSeq, sIf, sSet, TL.canSet_eq, sRet, sRetN, sNext, evVar, evC, e2, e1, en, k2, k1, kn, pkAll, ofO, pAdd, pSub, pCmp, pNeg, tU, tOf, truD, TL.tB, bOf, TL.tAnd, TL.tOr, TL.tNot, vAnd, vOr, vNot, vIf, fz, aNil, aCons, sPar, sPar3, put1, flatC, gN, gT, gsCons, gsNil, sAsg, vIsi, eTup, eLst, dAll, eCall, callE, isT_int_int, isT_int_bool, isT_int_tuple, isT_tuple_tuple, isT_none_int, isT_bool_int, isT_bool_bool, isT_str_int, isT_tuple_int, t3, e3, qCmp, sRaise, sDrop, pMul, pListOf, iRevL, iEnumA, eSl, oNone, oSome, pSl, OR.toE_val, pGcd, pInt2, pAbs, abs_int, pMod, pNe, pEq, eqF, pLen, pInt, pIx, iSeq, wipeC, backC, cut_to, cut_from, cut_to', cut_from', eRep, pRevA, iRange1, iRange2, *])
abbrev d3 (m : Int) (rs ts us : List Int) : List D := [dS m rs, dP ts, dP us]
abbrev d4 (m : Int) (rs ts us : List Int) (d : D) : List D := [dS m rs, dP ts, dP us, d]
abbrev c4 (m : Int) (rs ts us : List Int) (d : D) : List Cell := [.da (dS m rs), .da (dP ts), .da (dP us), .da d]
/-- the first three cells, handed on -/
theorem args3 {np : Nat} {m : Int} {rs ts us : List Int} (tl : List Cell) : aCons (fz np (evVar 0)) (aCons (fz np (evVar 1)) (aCons (fz np (evVar 2)) aNil)) (c3 m rs ts us ++ tl) = .val ((d3 m rs ts us).map Cell.da) (c3 m rs ts us ++ tl) := rfl
theorem call3 {np : Nat} {f : List Cell → ER} {m : Int} {rs ts us : List Int} {c : Cell} {os : List Cell} (h : f (c3 m rs ts us) = .val c os) (tl : List Cell) : eCall 3 f (aCons (fz np (evVar 0)) (aCons (fz np (evVar 1)) (aCons (fz np (evVar 2)) aNil))) (c3 m rs ts us ++ tl) = .val c (c3 m rs ts us ++ tl) :=
  eCall_da (n := 3) (d3 m rs ts us) (args3 tl) rfl h
theorem call3e {np : Nat} {f : List Cell → ER} {m : Int} {rs ts us : List Int} {e : Err} {os : List Cell} (h : f (c3 m rs ts us) = .err e os) (tl : List Cell) : eCall 3 f (aCons (fz np (evVar 0)) (aCons (fz np (evVar 1)) (aCons (fz np (evVar 2)) aNil))) (c3 m rs ts us ++ tl) = .err e (c3 m rs ts us ++ tl) :=
  eCall_da_err (n := 3) (d3 m rs ts us) (args3 tl) rfl h
/-- an object that is no divisor -/
inductive Odd : D → Prop
  | zero : Odd (.int 0)
  | neg : Odd (.int (-1))
  | non : Odd .none
  | bl : Odd (.bool true)
  | str : Odd (.str "1")
  | tup : Odd (.tuple [.int 1])
theorem is_integer_odd {d : D} (h : Odd d) : ∃ b, m_is_integer [.da d] = .val (.da (.bool b)) [.da d] ∧ (b = true → ∃ i : Int, d = .int i ∧ i < 1) := by
  unfold m_is_integer b_is_integer
  cases h
  · exact ⟨true, by trivial, fun _ => ⟨0, rfl, by decide⟩⟩
  · exact ⟨true, by trivial, fun _ => ⟨-1, rfl, by decide⟩⟩
  · exact ⟨false, by trivial, fun h => nomatch h⟩
  · exact ⟨false, by trivial, fun h => nomatch h⟩
  · exact ⟨false, by trivial, fun h => nomatch h⟩
  · exact ⟨false, by trivial, fun h => nomatch h⟩
abbrev oddT : List Cell → TR := tOr (tNot (tU (eCall 1 m_is_integer (aCons (fz 4 (evVar 3)) aNil)))) (tB (e2 (pCmp fLt) (evVar 3) (evC (.int 1))))
theorem odd_test {d : D} (h : Odd d) (m : Int) (rs ts us : List Int) (tl : List Cell) : oddT (c4 m rs ts us d ++ tl) = .val true (c4 m rs ts us d ++ tl) := by
  obtain ⟨b, e, hb⟩ := is_integer_odd h
  have c := eCall_da (n := 1) (f := aCons (fz 4 (evVar 3)) aNil) (cs := c4 m rs ts us d ++ tl) [d] rfl rfl e
  simp only [List.cons_append, List.nil_append] at c
  unfold oddT
  generalize eCall 1 m_is_integer _ = f at c ⊢
  cases b with
  | false => clear h e hb; trivial
  | true =>
    obtain ⟨i, rfl, hi⟩ := hb rfl
    clear h e hb
    trivial
theorem int_test {d : Int} (h : 1 ≤ d) (m : Int) (rs ts us : List Int) (tl : List Cell) : oddT (c4 m rs ts us (.int d) ++ tl) = .val false (c4 m rs ts us (.int d) ++ tl) := by
  have e := is_integer_int d
  have c := eCall_da (n := 1) (f := aCons (fz 4 (evVar 3)) aNil) (cs := c4 m rs ts us (.int d) ++ tl) [.int d] rfl rfl e
  simp only [List.cons_append, List.nil_append] at c
  unfold oddT
  generalize eCall 1 m_is_integer _ = f at c ⊢
  have hd : ¬ d < 1 := by omega
  clear e h
  trivial
theorem common_share_choice {m : Int} {rs ts us : List Int} (hr : Rests m rs) (h : Tops ts) (h' : Tops us) (hz : res ts us = 0) (d : D) : m_common_share (c4 m rs ts us d) = .err ⟨"NoChoice", none⟩ (c4 m rs ts us d) := by
  have a := call3e (np := 4) (check_three_err hr h h' hz) [.da d, .un, .un]
  exact callM_er (nl := 2) (ds := d4 m rs ts us d) (sSeq_err (sDrop_err a))
theorem common_share_odd {m : Int} {rs ts us : List Int} (hr : Rests m rs) (h : Tops ts) (h' : Tops us) (hz : res ts us ≠ 0) {d : D} (hd : Odd d) : m_common_share (c4 m rs ts us d) = .err ⟨"BadNumber", none⟩ (c4 m rs ts us d) := by
  have a := call3 (np := 4) (check_three_ok hr h h' hz) [.da d, .un, .un]
  exact callM_er (nl := 2) (ds := d4 m rs ts us d) (sSeq_nx (sDrop_val a) (sSeq_err (sIf_true (odd_test hd m rs ts us [.un, .un]) rfl)))
theorem all_shared_many {m : Int} {rs ts us : List Int} (hr : Rests m rs) (h : Tops ts) (h' : Tops us) (hw : (100000 : Int) < (res ts us).natAbs * m) : m_all_shared (c3 m rs ts us) = .err ⟨"TooMany", none⟩ (c3 m rs ts us) := by
  have a := call3e (np := 3) (period_err hr h h' hw) [.un, .un, .un]
  exact callM_er (nl := 3) (ds := d3 m rs ts us) (sSeq_err (sSet_err a))
theorem common_share_many {m : Int} {rs ts us : List Int} (hr : Rests m rs) (h : Tops ts) (h' : Tops us) (hz : res ts us ≠ 0) (hw : (100000 : Int) < (res ts us).natAbs * m) {d : Int} (hd : 1 ≤ d) : m_common_share (c4 m rs ts us (.int d)) = .err ⟨"TooMany", none⟩ (c4 m rs ts us (.int d)) := by
  have a := call3 (np := 4) (check_three_ok hr h h' hz) [.da (.int d), .un, .un]
  have b := call3e (np := 4) (all_shared_many hr h h' hw) [.da (.int d), .un, .un]
  exact callM_er (nl := 2) (ds := d4 m rs ts us (.int d)) (sSeq_nx (sDrop_val a) (sSeq_nx (sIf_false (int_test hd m rs ts us [.un, .un]) rfl) (sSeq_err (sSet_err b))))
theorem common_values_choice {m : Int} {rs ts us : List Int} (hr : Rests m rs) (h : Tops ts) (h' : Tops us) (hz : res ts us = 0) : m_common_values (c3 m rs ts us) = .err ⟨"NoChoice", none⟩ (c3 m rs ts us) := by
  have a := call3e (np := 3) (check_three_err hr h h' hz) []
  exact callM_er (nl := 0) (ds := d3 m rs ts us) (sSeq_err (sDrop_err a))
theorem common_values_many {m : Int} {rs ts us : List Int} (hr : Rests m rs) (h : Tops ts) (h' : Tops us) (hz : res ts us ≠ 0) (hw : (100000 : Int) < (res ts us).natAbs * m) : m_common_values (c3 m rs ts us) = .err ⟨"TooMany", none⟩ (c3 m rs ts us) := by
  have a := call3 (np := 3) (check_three_ok hr h h' hz) []
  have b := call3e (np := 3) (all_shared_many hr h h' hw) []
  exact callM_er (nl := 0) (ds := d3 m rs ts us) (sSeq_nx (sDrop_val a) (sRet_err (en1_err b)))
theorem least_choice {m : Int} {rs ts us : List Int} (hr : Rests m rs) (h : Tops ts) (h' : Tops us) (hz : res ts us = 0) : m_least_coprime (c3 m rs ts us) = .err ⟨"NoChoice", none⟩ (c3 m rs ts us) := by
  have a := call3e (np := 3) (check_three_err hr h h' hz) [.un, .un, .un]
  exact callM_er (nl := 3) (ds := d3 m rs ts us) (sSeq_err (sDrop_err a))
theorem least_many {m : Int} {rs ts us : List Int} (hr : Rests m rs) (h : Tops ts) (h' : Tops us) (hz : res ts us ≠ 0) (hw : (100000 : Int) < (res ts us).natAbs * m) : m_least_coprime (c3 m rs ts us) = .err ⟨"TooMany", none⟩ (c3 m rs ts us) := by
  have a := call3 (np := 3) (check_three_ok hr h h' hz) [.un, .un, .un]
  have b := call3e (np := 3) (period_err hr h h' hw) [.un, .un, .un]
  exact callM_er (nl := 3) (ds := d3 m rs ts us) (sSeq_nx (sDrop_val a) (sSeq_err (sSet_err b)))
/-- how many of a list are d -/
def cnt1 (d : Int) (l : List Int) : Nat := (l.filter fun v => decide (v = d)).length
theorem common_share_ok {m : Int} {rs ts us : List Int} (hr : Rests m rs) (h : Tops ts) (h' : Tops us) (hz : res ts us ≠ 0) {n : Nat} (hn : (n : Int) = (res ts us).natAbs * m) (hw : n ≤ 100000) {d : Int} (hd : 1 ≤ d) (h0 : 0 < (vals m rs ts us n).length) :
    m_common_share (c4 m rs ts us (.int d)) = .val (.da (.tuple [.int (cnt1 d (vals m rs ts us n) / Nat.gcd (cnt1 d (vals m rs ts us n)) (vals m rs ts us n).length : Nat), .int ((vals m rs ts us n).length / Nat.gcd (cnt1 d (vals m rs ts us n)) (vals m rs ts us n).length : Nat)])) (c4 m rs ts us (.int d)) := by
  have a := call3 (np := 4) (check_three_ok hr h h' hz) [.da (.int d), .un, .un]
  have b := call3 (np := 4) (all_shared_ok hr h h' hn hw) [.da (.int d), .un, .un]
  rw [show ((there m rs n).map fun x => PyData.int (gv ts us (x : Nat))) = (vals m rs ts us n).map .int by rw [vals, List.map_map]; rfl] at b
  have hv : (vals m rs ts us n).length ≤ 100000 := by
    unfold vals there
    rw [List.length_map]
    exact Nat.le_trans (List.length_filter_le _ _) (by rw [List.length_range]; exact hw)
  have lo := lowest_ok (cnt1 d (vals m rs ts us n)) (vals m rs ts us n).length h0 (by omega)
  generalize hvs : vals m rs ts us n = vs at *
  have B := sSet_ol (np := 4) (i := 4) b
  have big : 100000 ≤ sizeLine := by decide
  have s2 : iSeq 4 (evVar 4) (c4 m rs ts us (.int d) ++ [.ol (vs.map .int), .un]) = .val (vs.map .int) (c4 m rs ts us (.int d) ++ [.da (.list (vs.map .int)), .un]) := rfl
  have l := eLc_keep (vs := [5]) (tgt := gN 4 5) (tt := tB (e2 pEq (evVar 5) (evVar 3))) (f := fz 4 (evVar 5)) (p := fun e => match e with | .int v => decide (v = d) | _ => false) (g := fun e => e) s2 (by rw [List.length_map]; exact Nat.le_trans hv big) fun e he => by
    obtain ⟨v, _, rfl⟩ := List.mem_map.mp he
    refine ⟨c4 m rs ts us (.int d) ++ [.da (.list (vs.map .int)), .da (.int v)], rfl, rfl, ?_, fun _ => rfl⟩
    clear a b lo B s2 he
    trivial
  have hc : ((vs.map PyData.int).filter (fun e => match e with | .int v => decide (v = d) | _ => false)).length = cnt1 d vs := by
    rw [List.filter_map, List.length_map]
    rfl
  have l1 : en pLen (aCons (eLc [5] (iSeq 4 (evVar 4)) (gN 4 5) (tB (e2 pEq (evVar 5) (evVar 3))) (fz 4 (evVar 5))) aNil) (c4 m rs ts us (.int d) ++ [.ol (vs.map .int), .un]) = .val (.da (.int (cnt1 d vs))) (c4 m rs ts us (.int d) ++ [.da (.list (vs.map .int)), .un]) := by
    rw [List.map_id'] at l
    rw [← hc]
    exact len_ol l
  have l2 : fz 4 (en pLen (aCons (evVar 4) aNil)) (c4 m rs ts us (.int d) ++ [.da (.list (vs.map .int)), .un]) = .val (.da (.int (vs.length))) (c4 m rs ts us (.int d) ++ [.da (.list (vs.map .int)), .un]) := by
    clear a b lo B s2 l l1
    trivial
  have L := eCall_da (n := 2) [.int (cnt1 d vs), .int vs.length] (aCons_val (fz_da (np := 4) l1) (aCons_val l2 (rfl : aNil _ = .val [] _))) rfl lo
  exact callM_rt (nl := 2) (ds := d4 m rs ts us (.int d)) (sSeq_nx (sDrop_val a) (sSeq_nx (sIf_false (int_test hd m rs ts us [.un, .un]) rfl) (sSeq_nx B (sRet_da L))))
end K76
set_option Elab.async false
set_option linter.all false
set_option maxRecDepth 100000
set_option maxHeartbeats 4000000
/-! K76Y: least_coprime. -/
namespace K76
open PySem L2 TL
local macro_rules | `(tactic| trivial) => `(tactic| simp [callM, sSeq, sIf, sSet, TL.canSet_eq, sRet, sRetN, sNext, evVar, evC, e2, e1, en, k2, k1, kn, pkAll, ofO, pAdd, pSub, pCmp, pNeg, tU, tOf, truD, TL.tB, bOf, TL.tAnd, TL.tOr, TL.tNot, vAnd, vOr, vNot, vIf, fz, aNil, aCons, sPar, sPar3, put1, flatC, gN, gT, gsCons, gsNil, sAsg, vIsi, eTup, eLst, dAll, eCall, callE, isT_int_int, isT_int_bool, isT_int_tuple, isT_tuple_tuple, isT_none_int, isT_bool_int, isT_bool_bool, isT_str_int, isT_tuple_int, t3, e3, qCmp, sRaise, sDrop, pMul, pListOf, iRevL, iEnumA, eSl, oNone, oSome, pSl, OR.toE_val, pGcd, pInt2, pAbs, abs_int, pMod, pNe, pEq, eqF, pLen, pInt, pIx, iSeq, wipeC, backC, cut_to, cut_from, cut_to', cut_from', eRep, pRevA, iRange1, iRange2, *])
/-- the first that fits, size by size, the size ahead of its negative -/
def near (ok : Int → Bool) : List Nat → Option Int
  | [] => none
  | s :: r => if ok (s : Int) = true then some s else if ok (-(s : Int)) = true then some (-s) else near ok r
def okAt (m : Int) (rs ts us : List Int) (x : Int) : Bool := decide (x % m ∈ rs) && decide (gv ts us x = 1)
def optD : Option Int → D
  | none => .none
  | some i => .int i
abbrev c6 (m : Int) (rs ts us : List Int) (a b c : Cell) : List Cell := [.da (dS m rs), .da (dP ts), .da (dP us), a, b, c]
abbrev okT : List Cell → TR := tAnd (tB (e2 (pIn false) (e2 pMod (evVar 5) (e2 pIx (evVar 0) (evC (.int 1)))) (e2 pIx (evVar 0) (evC (.int 2))))) (tB (e2 pEq (eCall 3 m_shared_at (aCons (fz 3 (evVar 1)) (aCons (fz 3 (evVar 2)) (aCons (fz 3 (evVar 5)) aNil)))) (evC (.int 1))))
theorem okT_at {m : Int} {rs ts us : List Int} (hm : 0 < m) (a b : Cell) (x : Int) (hx : Fit x) : okT (c6 m rs ts us a b (.da (.int x))) = .val (okAt m rs ts us x) (c6 m rs ts us a b (.da (.int x))) := by
  have q := pIn_ints (x % m) rs
  have t1 : tB (e2 (pIn false) (e2 pMod (evVar 5) (e2 pIx (evVar 0) (evC (.int 1)))) (e2 pIx (evVar 0) (evC (.int 2)))) (c6 m rs ts us a b (.da (.int x))) = .val (decide (x % m ∈ rs)) (c6 m rs ts us a b (.da (.int x))) := by
    trivial
  have s := shared_at_int ts us x hx
  have c := eCall_da (n := 3) (f := aCons (fz 3 (evVar 1)) (aCons (fz 3 (evVar 2)) (aCons (fz 3 (evVar 5)) aNil))) (cs := c6 m rs ts us a b (.da (.int x))) [dP ts, dP us, .int x] rfl rfl s
  have t2 : tB (e2 pEq (eCall 3 m_shared_at (aCons (fz 3 (evVar 1)) (aCons (fz 3 (evVar 2)) (aCons (fz 3 (evVar 5)) aNil)))) (evC (.int 1))) (c6 m rs ts us a b (.da (.int x))) = .val (decide (gv ts us x = 1)) (c6 m rs ts us a b (.da (.int x))) :=
    tB_val (e2_da c rfl rfl)
  unfold okAt
  cases e : decide (x % m ∈ rs) with
  | false => rw [e] at t1; exact tAnd_false t1
  | true => rw [e] at t1; rw [Bool.true_and]; exact tAnd_true t1 t2
abbrev nearB : List Cell → SR := sFor (iSeq 3 (eTup (aCons (fz 3 (evVar 4)) (aCons (e1 pNeg (evVar 4)) aNil)))) (gN 3 5) (sIf okT (sRet 3 (evVar 5)) sNext)
theorem nearB_at {m : Int} {rs ts us : List Int} (hm : 0 < m) (a c : Cell) (s : Nat) (hs : s < 2 ^ 64) : nearB (c6 m rs ts us a (.da (.int s)) c) = if okAt m rs ts us s = true then .rt (.da (.int s)) (c6 m rs ts us a (.da (.int s)) (.da (.int s)))
    else if okAt m rs ts us (-s) = true then .rt (.da (.int (-s))) (c6 m rs ts us a (.da (.int s)) (.da (.int (-s)))) else .nx (c6 m rs ts us a (.da (.int s)) (.da (.int (-s)))) := by
  have src : iSeq 3 (eTup (aCons (fz 3 (evVar 4)) (aCons (e1 pNeg (evVar 4)) aNil))) (c6 m rs ts us a (.da (.int s)) c) = .val [.int s, .int (-s)] (c6 m rs ts us a (.da (.int s)) c) := rfl
  have f1 : Fit (s : Int) := by show (s : Int).natAbs < 2 ^ 64; omega
  have f2 : Fit (-(s : Int)) := by show (-(s : Int)).natAbs < 2 ^ 64; omega
  have o1 := okT_at (rs := rs) (ts := ts) (us := us) hm a (.da (.int s)) s f1
  have o2 := okT_at (rs := rs) (ts := ts) (us := us) hm a (.da (.int s)) (-s) f2
  refine sFor_of src ?_
  by_cases h1 : okAt m rs ts us s = true
  · rw [if_pos h1]
    rw [h1] at o1
    exact forGo_rt (cs1 := c6 m rs ts us a (.da (.int s)) (.da (.int s))) rfl (sIf_true o1 rfl)
  · rw [if_neg h1]
    rw [Bool.not_eq_true] at h1
    rw [h1] at o1
    refine (forGo_nx (cs1 := c6 m rs ts us a (.da (.int s)) (.da (.int s))) rfl (sIf_false o1 rfl)).trans ?_
    by_cases h2 : okAt m rs ts us (-s) = true
    · rw [if_pos h2]
      rw [h2] at o2
      exact forGo_rt (cs1 := c6 m rs ts us a (.da (.int s)) (.da (.int (-s)))) rfl (sIf_true o2 rfl)
    · rw [if_neg h2]
      rw [Bool.not_eq_true] at h2
      rw [h2] at o2
      exact forGo_nx (cs1 := c6 m rs ts us a (.da (.int s)) (.da (.int (-s)))) rfl (sIf_false o2 rfl)
theorem nearGo {m : Int} {rs ts us : List Int} (hm : 0 < m) (a : Cell) : ∀ (ss : List Nat), (∀ s ∈ ss, s < 2 ^ 64) → ∀ (b c : Cell), ∃ b' c', forGo (gN 3 4) nearB (ss.map fun i => PyData.int (i : Nat)) (c6 m rs ts us a b c) = match near (okAt m rs ts us) ss with
    | some k => .rt (.da (.int k)) (c6 m rs ts us a b' c')
    | none => .nx (c6 m rs ts us a b' c')
  | [], _, b, c => ⟨b, c, rfl⟩
  | s :: r, hs, b, c => by
    have e := nearB_at (rs := rs) (ts := ts) (us := us) hm a c s (hs s List.mem_cons_self)
    obtain ⟨b', c', ih⟩ := nearGo hm a r (fun s h => hs s (List.mem_cons_of_mem _ h)) (.da (.int s)) (.da (.int (-s)))
    unfold near
    by_cases h1 : okAt m rs ts us s = true
    · rw [if_pos h1] at e ⊢
      exact ⟨_, _, forGo_rt (cs1 := c6 m rs ts us a (.da (.int s)) c) rfl e⟩
    · rw [if_neg h1] at e ⊢
      by_cases h2 : okAt m rs ts us (-s) = true
      · rw [if_pos h2] at e ⊢
        exact ⟨_, _, forGo_rt (cs1 := c6 m rs ts us a (.da (.int s)) c) rfl e⟩
      · rw [if_neg h2] at e ⊢
        exact ⟨b', c', (forGo_nx (cs1 := c6 m rs ts us a (.da (.int s)) c) rfl e).trans ih⟩
theorem least_ok {m : Int} {rs ts us : List Int} (hr : Rests m rs) (h : Tops ts) (h' : Tops us) (hz : res ts us ≠ 0) {n : Nat} (hn : (n : Int) = (res ts us).natAbs * m) (hw : n ≤ 100000) :
    m_least_coprime (c3 m rs ts us) = .val (.da (optD (near (okAt m rs ts us) (List.range n)))) (c3 m rs ts us) := by
  have a := call3 (np := 3) (check_three_ok hr h h' hz) [.un, .un, .un]
  have p := period_ok hr h h' (by omega)
  rw [← hn] at p
  have b := sSet_da (np := 3) (i := 3) (call3 (np := 3) p [.un, .un, .un])
  obtain ⟨b', c', g⟩ := nearGo (rs := rs) (ts := ts) (us := us) (show 0 < m by have := hr.low; omega) (.da (.int n)) (List.range n) (fun s h => by have := List.mem_range.mp h; omega) .un .un
  have src : iRange1 (aCons (evVar 3) aNil) (c6 m rs ts us (.da (.int n)) .un .un) = .val ((List.range n).map fun i => PyData.int (i : Nat)) (c6 m rs ts us (.da (.int n)) .un .un) := iRange1_of rfl
  have l := sFor_of src g
  cases e : near (okAt m rs ts us) (List.range n) with
  | none =>
    rw [e] at l
    exact callM_rt (nl := 3) (ds := d3 m rs ts us) (sSeq_nx (sDrop_val a) (sSeq_nx b (sSeq_nx l rfl)))
  | some k =>
    rw [e] at l
    exact callM_rt (nl := 3) (ds := d3 m rs ts us) (sSeq_nx (sDrop_val a) (sSeq_nx b (sSeq_rt l)))
end K76
set_option Elab.async false
set_option linter.all false
set_option maxRecDepth 100000
set_option maxHeartbeats 4000000
/-! K76T: the law's small functions. -/
namespace K76
open PySem L2 TL
local macro_rules | `(tactic| trivial) => `(tactic| simp [callM, sSeq, sIf, sSet, TL.canSet_eq, sRet, sRetN, sNext, evVar, evC, e2, e1, en, k2, k1, kn, pkAll, ofO, pAdd, pSub, pCmp, pNeg, tU, tOf, truD, TL.tB, bOf, TL.tAnd, TL.tOr, TL.tNot, vAnd, vOr, vNot, vIf, fz, aNil, aCons, sPar, sPar3, put1, flatC, gN, gT, gsCons, gsNil, sAsg, vIsi, eTup, eLst, dAll, eCall, callE, isT_int_int, isT_int_bool, isT_int_tuple, isT_tuple_tuple, isT_none_int, isT_bool_int, isT_bool_bool, isT_str_int, isT_tuple_int, t3, e3, qCmp, sRaise, sDrop, pMul, pListOf, iRevL, iEnumA, eSl, oNone, oSome, pSl, OR.toE_val, pGcd, pInt2, pAbs, abs_int, pMod, pNe, pEq, eqF, pLen, pInt, pIx, iSeq, wipeC, backC, cut_to, cut_from, cut_to', cut_from', eRep, pRevA, iRange1, iRange2, *])
theorem draw_eq : m__law_draw = m_draw := rfl
theorem one_eq : m__law_one = m_one := rfl
theorem feed_eq : m__law_feed = m_feed := rfl
theorem law_divisor_int (a b : Int) : m__law_divisor [.da (.int a), .da (.int b)] = .val (.da (.int (Int.gcd a b))) [.da (.int a), .da (.int b)] := by
  unfold m__law_divisor b__law_divisor
  have h := euclid (t := TL.tB (e2 (pCmp fGt) (evVar 1) (evC (.int 0)))) (f := sPar 2 0 1 (aCons (fz 2 (evVar 1)) (aCons (e2 pMod (en pInt (aCons (evVar 0) aNil)) (evVar 1)) aNil))) (fun a b hb => ?_) (fun a => ?_) (fun a b hb => ?_) a.natAbs b.natAbs
  · have e : Int.gcd a b = Nat.gcd a.natAbs b.natAbs := rfl
    trivial
  · have hb' : ¬ b = 0 := by omega
    trivial
  · trivial
  · have hb' : 0 < (b : Int) := by omega
    trivial
theorem law_value_int (ts : List Int) (x : Int) (hx : Fit x) : m__law_value [.da (dT ts), .da (.int x)] = .val (.da (.int (vl ts x))) [.da (dT ts), .da (.int x)] := by
  unfold m__law_value b__law_value
  obtain ⟨j, e⟩ := fold_vl x ts .un
  have h := horner x hx (ts.map .int).reverse (fun d hd => by
    obtain ⟨t, _, rfl⟩ := List.mem_map.mp (List.mem_reverse.mp hd)
    exact ⟨t, rfl⟩) (dT ts) .un
  rw [e] at h
  have src : iSeq 2 (e1 pRevA (evVar 0)) [.da (dT ts), .da (.int x), .da (.int 0), .un] = .val (ts.map .int).reverse [.da (dT ts), .da (.int x), .da (.int 0), .un] := rfl
  exact callM_rt (nl := 2) (ds := [dT ts, .int x]) (sSeq_nx (cs1 := [.da (dT ts), .da (.int x), .da (.int 0), .un]) rfl (sSeq_nx (sFor_of src h) rfl))
theorem law_common_int (ts us : List Int) (x : Int) (hx : Fit x) : m__law_common [.da (dP ts), .da (dP us), .da (.int x)] = .val (.da (.int (gv ts us x))) [.da (dP ts), .da (dP us), .da (.int x)] := by
  have c1 := eCall_da (n := 2) (f := aCons (fz 3 (e2 pIx (evVar 0) (evC (.int 0)))) (aCons (fz 3 (evVar 2)) aNil)) (cs := [.da (dP ts), .da (dP us), .da (.int x)]) [dT ts, .int x] rfl rfl (law_value_int ts x hx)
  have c2 := eCall_da (n := 2) (f := aCons (fz 3 (e2 pIx (evVar 1) (evC (.int 0)))) (aCons (fz 3 (evVar 2)) aNil)) (cs := [.da (dP ts), .da (dP us), .da (.int x)]) [dT us, .int x] rfl rfl (law_value_int us x hx)
  have c3 := eCall_da (n := 2) [.int (vl ts x), .int (vl us x)] (aCons_val (fz_da (np := 3) c1) (aCons_val (fz_da (np := 3) c2) (rfl : aNil _ = .val [] _))) rfl (law_divisor_int (vl ts x) (vl us x))
  exact callM_rt (nl := 0) (ds := [dP ts, dP us, .int x]) (sRet_da c3)
theorem fold_max (x : Int) : ∀ (ns : List Int) (a : Int), (x ≤ a ∨ x ∈ ns) → x ≤ ns.foldl (fun a b => if a < b then b else a) a
  | [], a, h => by
    rcases h with h | h
    · exact h
    · simp at h
  | n :: ns, a, h => by
    rw [List.foldl_cons]
    refine fold_max x ns _ ?_
    show x ≤ (if a < n then n else a) ∨ x ∈ ns
    rcases h with h | h
    · left; split <;> omega
    · rcases List.mem_cons.mp h with rfl | h
      · left; split <;> omega
      · exact .inr h
theorem le_lMax {x : Int} {ns : List Int} (h : x ∈ ns) : x ≤ lMax ns := fold_max x ns _ (.inr h)
/-- a list or a tuple of ints -/
inductive Ints (ts : List Int) : D → Prop
  | lst : Ints ts (.list (ts.map .int))
  | tup : Ints ts (.tuple (ts.map .int))
theorem law_fits_ok {ts : List Int} {d : D} (hd : Ints ts d) (h0 : ts ≠ []) (hl : ts.length ≤ 1000) : ∃ b : Bool, m__law_fits [.da d] = .val (.da (.bool b)) [.da d] ∧ (b = true → Tops ts) := by
  have lenE : ∀ tl, en pLen (aCons (evVar 0) aNil) (.da d :: tl) = .val (.da (.int ts.length)) (.da d :: tl) := fun tl => by
    cases hd
    · have := len_list (f := evVar 0) (cs := .da (.list (ts.map .int)) :: tl) rfl
      rwa [List.length_map] at this
    · have := len_tup (f := evVar 0) (cs := .da (.tuple (ts.map .int)) :: tl) rfl
      rwa [List.length_map] at this
  obtain ⟨t, et⟩ : ∃ t, ts.getLast? = some t := ⟨_, List.getLast?_eq_some_getLast h0⟩
  have lastE : e2 pIx (evVar 0) (e1 pNeg (evC (.int 1))) [.da d, .un] = .val (.da (.int t)) [.da d, .un] := by
    have q : atI (ts.map PyData.int) (-1) = some (.int t) := by rw [atI_end, List.getLast?_map, et]; rfl
    cases hd
    · exact e2_da (x := .list (ts.map .int)) (y := .int (-1)) rfl rfl (by show (atI (ts.map PyData.int) (-1)).map Cell.da = _; rw [q]; rfl)
    · exact e2_da (x := .tuple (ts.map .int)) (y := .int (-1)) rfl rfl (by show (atI (ts.map PyData.int) (-1)).map Cell.da = _; rw [q]; rfl)
  have srcE : iSeq 1 (evVar 0) [.da d, .un] = .val (ts.map .int) [.da d, .un] := by cases hd <;> rfl
  have absE := eLc_map (vs := [1]) (tgt := gN 1 1) (f := fz 1 (en pAbs (aCons (evVar 1) aNil))) (g := fun e => match e with | .int v => .int (v.natAbs : Nat) | e => e) srcE (by rw [List.length_map]; exact Nat.le_trans hl (by decide)) fun e he => by
    obtain ⟨v, _, rfl⟩ := List.mem_map.mp he
    refine ⟨[.da d, .da (.int v)], rfl, rfl, ?_⟩
    show ER.val (.da (.int (if v < 0 then -v else v))) _ = _
    rw [abs_int]
  rw [List.map_map] at absE
  replace absE : eLc [1] (iSeq 1 (evVar 0)) (gN 1 1) tTrue (fz 1 (en pAbs (aCons (evVar 1) aNil))) [.da d, .un] = .val (.ol ((ts.map fun v : Int => ((v.natAbs : Nat) : Int)).map .int)) [.da d, .un] := by
    rw [List.map_map]
    exact absE
  have maxE : en pMax1 (aCons (eLc [1] (iSeq 1 (evVar 0)) (gN 1 1) tTrue (fz 1 (en pAbs (aCons (evVar 1) aNil)))) aNil) [.da d, .un] = .val (.da (.int (lMax (ts.map fun v : Int => ((v.natAbs : Nat) : Int))))) [.da d, .un] := by
    refine en1 absE rfl ?_
    rw [pMax1_map, if_pos (by rw [List.length_map]; exact List.length_pos_iff.mpr h0)]
  have t1 : e3 (qCmp fLe) (qCmp fLe) (evC (.int 2)) (en pLen (aCons (evVar 0) aNil)) (evC (.int 3)) [.da d, .un] = .val (.da (.bool (decide ((2 : Int) ≤ ts.length) && decide ((ts.length : Int) ≤ 3)))) [.da d, .un] := by
    have := lenE [.un]
    generalize en pLen _ = g at this
    clear absE maxE lenE lastE srcE
    by_cases h2 : (2 : Int) ≤ ts.length <;> trivial
  have t2 : e2 pNe (e2 pIx (evVar 0) (e1 pNeg (evC (.int 1)))) (evC (.int 0)) [.da d, .un] = .val (.da (.bool (!decide (t = 0)))) [.da d, .un] := e2_da lastE rfl rfl
  have t3 : e2 (pCmp fLe) (en pMax1 (aCons (eLc [1] (iSeq 1 (evVar 0)) (gN 1 1) tTrue (fz 1 (en pAbs (aCons (evVar 1) aNil)))) aNil)) (evC (.int 30)) [.da d, .un] = .val (.da (.bool (decide (lMax (ts.map fun v : Int => ((v.natAbs : Nat) : Int)) ≤ 30)))) [.da d, .un] := e2_da maxE rfl rfl
  by_cases h1 : (decide ((2 : Int) ≤ ts.length) && decide ((ts.length : Int) ≤ 3)) = true
  · rw [h1] at t1
    by_cases h2 : (!decide (t = 0)) = true
    · rw [h2] at t2
      refine ⟨decide (lMax (ts.map fun v : Int => ((v.natAbs : Nat) : Int)) ≤ 30), callM_rt (nl := 1) (ds := [d]) (sRet_da (vAnd_true t1 (vAnd_true t2 t3))), fun h3 => ?_⟩
      simp only [Bool.and_eq_true, decide_eq_true_eq] at h1
      have h2' : t ≠ 0 := by simpa using h2
      have h3' := of_decide_eq_true h3
      refine ⟨by omega, by omega, fun t' e => ?_, fun v hv => ?_⟩
      · rw [et] at e; cases e; exact h2'
      · have := le_lMax (List.mem_map_of_mem (f := fun v : Int => ((v.natAbs : Nat) : Int)) hv)
        omega
    · rw [Bool.not_eq_true] at h2
      rw [h2] at t2
      exact ⟨false, callM_rt (nl := 1) (ds := [d]) (sRet_da (vAnd_true t1 (vAnd_false t2))), fun z => nomatch z⟩
  · rw [Bool.not_eq_true] at h1
    rw [h1] at t1
    exact ⟨false, callM_rt (nl := 1) (ds := [d]) (sRet_da (vAnd_false t1)), fun z => nomatch z⟩
end K76
set_option Elab.async false
set_option linter.all false
set_option maxRecDepth 100000
set_option maxHeartbeats 4000000
/-! K76U: the law's resultants. -/
namespace K76
open PySem L2 TL
local macro_rules | `(tactic| trivial) => `(tactic| simp [callM, sSeq, sIf, sSet, TL.canSet_eq, sRet, sRetN, sNext, evVar, evC, e2, e1, en, k2, k1, kn, pkAll, ofO, pAdd, pSub, pCmp, pNeg, tU, tOf, truD, TL.tB, bOf, TL.tAnd, TL.tOr, TL.tNot, vAnd, vOr, vNot, vIf, fz, aNil, aCons, sPar, sPar3, put1, flatC, gN, gT, gsCons, gsNil, sAsg, vIsi, eTup, eLst, dAll, eCall, callE, isT_int_int, isT_int_bool, isT_int_tuple, isT_tuple_tuple, isT_none_int, isT_bool_int, isT_bool_bool, isT_str_int, isT_tuple_int, t3, e3, qCmp, sRaise, sDrop, pMul, pListOf, iRevL, iEnumA, eSl, oNone, oSome, pSl, OR.toE_val, pGcd, pInt2, pAbs, abs_int, pMod, pNe, pEq, eqF, pLen, pInt, pIx, iSeq, wipeC, backC, cut_to, cut_from, cut_to', cut_from', eRep, pRevA, iRange1, iRange2, *])
abbrev S8 (one other : D) (found many at_ : Cell) (top part turn : Cell) : List Cell := [.da one, .da other, found, many, at_, top, part, turn]
/-- a product, factor by factor -/
theorem mulLoop {one other : D} {f m a t : Cell} {F : List Cell → ER} {y : Int} (hy : Fit y) (hF : ∀ p u, F (S8 one other f m a t p u) = .val (.da (.int y)) (S8 one other f m a t p u)) :
    ∀ (ds : List D) (p : Int) (u : Cell), ∃ u', forGo (gN 2 7) (sSet 2 6 (e2 pMul (evVar 6) F)) ds (S8 one other f m a t (.da (.int p)) u) = .nx (S8 one other f m a t (.da (.int (p * y ^ ds.length))) u')
  | [], p, u => ⟨u, by rw [List.length_nil, Int.pow_zero, Int.mul_one]; rfl⟩
  | d :: ds, p, u => by
    obtain ⟨u', ih⟩ := mulLoop hy hF ds (p * y) (.da d)
    refine ⟨u', (forGo_nx (cs1 := S8 one other f m a t (.da (.int p)) (.da d)) (cs2 := S8 one other f m a t (.da (.int (p * y))) (.da d)) rfl (sSet_da (np := 2) (i := 6) (e2_da (f := evVar 6) (x := .int p) (y := .int y) rfl (hF _ _) (pMul_of (mulOk_r hy))))).trans (ih.trans ?_)⟩
    rw [List.length_cons, Int.pow_succ, Int.mul_assoc, Int.mul_comm y]
abbrev rootB : List Cell → SR := (sSeq (sSet 2 6 (evVar 5))
  (sSeq (sFor (iRange1 (aCons (evVar 4) aNil)) (gN 2 7)
  (sSet 2 6 (e2 pMul (evVar 6) (e1 pNeg (e2 pIx (evVar 0) (evC (.int 0)))))))
  (sSeq (sFor (iRange1 (aCons (e2 pSub (evVar 3) (evVar 4)) aNil)) (gN 2 7)
  (sSet 2 6 (e2 pMul (evVar 6) (e2 pIx (evVar 0) (evC (.int 1))))))
  (sSet 2 2 (e2 pAdd (evVar 2) (evVar 6))))))
theorem rootB_at {a b : Int} (ha : Fit a) (hb : Fit b) (other : D) (f t : Int) (n i : Nat) (hn : n ≤ 100) (hi : i ≤ n) (p u : Cell) : ∃ p' u', rootB (S8 (dT [b, a]) other (.da (.int f)) (.da (.int n)) (.da (.int i)) (.da (.int t)) p u) =
    .nx (S8 (dT [b, a]) other (.da (.int (f + t * (-b) ^ i * a ^ (n - i)))) (.da (.int n)) (.da (.int i)) (.da (.int t)) p' u') := by
  have hb' : Fit (-b) := by show (-b).natAbs < _; rw [Int.natAbs_neg]; exact hb
  obtain ⟨u1, l1⟩ := mulLoop (one := dT [b, a]) (other := other) (f := .da (.int f)) (m := .da (.int n)) (a := .da (.int i)) (t := .da (.int t)) (F := e1 pNeg (e2 pIx (evVar 0) (evC (.int 0)))) (y := -b) hb' (fun _ _ => rfl) ((List.range i).map fun j => PyData.int (j : Nat)) t u
  obtain ⟨u2, l2⟩ := mulLoop (one := dT [b, a]) (other := other) (f := .da (.int f)) (m := .da (.int n)) (a := .da (.int i)) (t := .da (.int t)) (F := e2 pIx (evVar 0) (evC (.int 1))) (y := a) ha (fun _ _ => rfl) ((List.range (n - i)).map fun j => PyData.int (j : Nat)) (t * (-b) ^ i) u1
  rw [List.length_map, List.length_range] at l1 l2
  have s1 : iRange1 (aCons (evVar 4) aNil) (S8 (dT [b, a]) other (.da (.int f)) (.da (.int n)) (.da (.int i)) (.da (.int t)) (.da (.int t)) u) = .val ((List.range i).map fun j => PyData.int (j : Nat)) (S8 (dT [b, a]) other (.da (.int f)) (.da (.int n)) (.da (.int i)) (.da (.int t)) (.da (.int t)) u) := iRange1_of rfl
  have s2 : iRange1 (aCons (e2 pSub (evVar 3) (evVar 4)) aNil) (S8 (dT [b, a]) other (.da (.int f)) (.da (.int n)) (.da (.int i)) (.da (.int t)) (.da (.int (t * (-b) ^ i))) u1) = .val ((List.range (n - i)).map fun j => PyData.int (j : Nat)) (S8 (dT [b, a]) other (.da (.int f)) (.da (.int n)) (.da (.int i)) (.da (.int t)) (.da (.int (t * (-b) ^ i))) u1) :=
    iRange1_of (by
      have e : ((n - i : Nat) : Int) = (n : Int) - i := by omega
      rw [e]
      rfl)
  exact ⟨_, u2, sSeq_nx (cs1 := S8 (dT [b, a]) other (.da (.int f)) (.da (.int n)) (.da (.int i)) (.da (.int t)) (.da (.int t)) u) rfl (sSeq_nx (sFor_of s1 l1) (sSeq_nx (sFor_of s2 l2) rfl))⟩
theorem root_go {a b : Int} (ha : Fit a) (hb : Fit b) (other : D) (n : Nat) (hn : n ≤ 100) : ∀ (ts : List Int) (i : Nat) (f : Int) (x1 x2 x3 x4 : Cell), i + ts.length ≤ n + 1 →
    ∃ x1' x2' x3' x4', forGo (gT 2 (gsCons (gN 2 4) (gsCons (gN 2 5) gsNil))) rootB ((ts.zipIdx i).map fun p => PyData.tuple [.int (p.2 : Nat), .int p.1]) (S8 (dT [b, a]) other (.da (.int f)) (.da (.int n)) x1 x2 x3 x4) =
      .nx (S8 (dT [b, a]) other (.da (.int (f + ((ts.zipIdx i).map fun p => p.1 * (-b) ^ p.2 * a ^ (n - p.2)).sum))) (.da (.int n)) x1' x2' x3' x4')
  | [], i, f, x1, x2, x3, x4, _ => ⟨x1, x2, x3, x4, by simp⟩
  | t :: ts, i, f, x1, x2, x3, x4, h => by
    rw [List.length_cons] at h
    obtain ⟨p', u', e⟩ := rootB_at ha hb other f t n i hn (by omega) x3 x4
    obtain ⟨y1, y2, y3, y4, ih⟩ := root_go ha hb other n hn ts (i + 1) (f + t * (-b) ^ i * a ^ (n - i)) (.da (.int i)) (.da (.int t)) p' u' (by omega)
    refine ⟨y1, y2, y3, y4, (forGo_nx (cs1 := S8 (dT [b, a]) other (.da (.int f)) (.da (.int n)) (.da (.int i)) (.da (.int t)) x3 x4) rfl e).trans (ih.trans ?_)⟩
    rw [List.zipIdx_cons, List.map_cons, List.sum_cons, Int.add_assoc]
theorem enum_zip (ts : List Int) : enumD (ts.map .int) = (ts.zipIdx 0).map fun p => PyData.tuple [.int (p.2 : Nat), .int p.1] := by
  unfold enumD
  refine List.ext_getElem? fun i => ?_
  rw [List.length_map, List.getElem?_map, List.getElem?_map, List.getElem?_zipIdx]
  by_cases h : i < ts.length
  · rw [List.getElem?_range h, List.getElem?_eq_getElem h, Option.map_some, Option.map_some, Option.map_some, List.getD_eq_getElem?_getD, List.getElem?_map, List.getElem?_eq_getElem h, Nat.zero_add]
    rfl
  · rw [List.getElem?_eq_none (by rw [List.length_range]; omega), List.getElem?_eq_none (by omega)]
    rfl
theorem root_in_ok {a b : Int} (ha : Fit a) (hb : Fit b) (ts : List Int) (h1 : 1 ≤ ts.length) (h2 : ts.length ≤ 100) : m__law_root_in [.da (dT [b, a]), .da (dT ts)] = .val (.da (.int ((ts.zipIdx 0).map fun p => p.1 * (-b) ^ p.2 * a ^ (ts.length - 1 - p.2)).sum)) [.da (dT [b, a]), .da (dT ts)] := by
  obtain ⟨y1, y2, y3, y4, g⟩ := root_go ha hb (dT ts) (ts.length - 1) (by omega) ts 0 0 .un .un .un .un (by omega)
  rw [← enum_zip, Int.zero_add] at g
  have s0 : sPar 2 2 3 (aCons (evC (.int 0)) (aCons (e2 pSub (en pLen (aCons (evVar 1) aNil)) (evC (.int 1))) aNil)) (S8 (dT [b, a]) (dT ts) .un .un .un .un .un .un) = .nx (S8 (dT [b, a]) (dT ts) (.da (.int 0)) (.da (.int ((ts.length - 1 : Nat) : Int))) .un .un .un .un) := by
    have e : ((ts.length - 1 : Nat) : Int) = ((ts.map PyData.int).length : Int) - 1 := by rw [List.length_map]; omega
    rw [e]
    rfl
  exact callM_rt (nl := 6) (ds := [dT [b, a], dT ts]) (sSeq_nx s0 (sSeq_nx (sFor_of (rfl : iEnumA (aCons (fz 2 (evVar 1)) aNil) _ = .val _ _) g) rfl))
theorem fit_of {ts : List Int} (h : Tops ts) {t : Int} (ht : t ∈ ts) : Fit t := by
  have := h.small t ht
  show t.natAbs < 2 ^ 64
  omega
theorem mul_abs {x y : Int} {p q : Nat} (hx : x.natAbs ≤ p) (hy : y.natAbs ≤ q) : (x * y).natAbs ≤ p * q := by rw [Int.natAbs_mul]; exact Nat.mul_le_mul hx hy
theorem law_resultant_ok {ts us : List Int} (h : Tops ts) (h' : Tops us) : m__law_resultant [.da (dT ts), .da (dT us)] = .val (.da (.int (res ts us))) [.da (dT ts), .da (dT us)] := by
  rcases two_or h with ⟨b, a, rfl⟩ | ⟨c, b, a, rfl⟩
  · have r := root_in_ok (fit_of h (t := a) (by simp)) (fit_of h (t := b) (by simp)) us (by have := h'.two; omega) (by have := h'.three; omega)
    have e : ((us.zipIdx 0).map fun p => p.1 * (-b) ^ p.2 * a ^ (us.length - 1 - p.2)).sum = res [b, a] us := by
      rcases two_or h' with ⟨e, d, rfl⟩ | ⟨f, e, d, rfl⟩
      · rw [res22]; simp; grind
      · rw [res23]; simp; grind
    rw [e] at r
    have c := eCall_da (n := 2) (f := aCons (fz 2 (evVar 0)) (aCons (fz 2 (evVar 1)) aNil)) (cs := [.da (dT [b, a]), .da (dT us), .un, .un, .un, .un, .un, .un]) [dT [b, a], dT us] rfl rfl r
    exact callM_rt (nl := 6) (ds := [dT [b, a], dT us]) (sSeq_rt (sIf_true (cs1 := [.da (dT [b, a]), .da (dT us), .un, .un, .un, .un, .un, .un]) rfl (sRet_da c)))
  · rcases two_or h' with ⟨e, d, rfl⟩ | ⟨f, e, d, rfl⟩
    · have r := root_in_ok (fit_of h' (t := d) (by simp)) (fit_of h' (t := e) (by simp)) [c, b, a] (by simp) (by simp)
      have q : (([c, b, a].zipIdx 0).map fun p => p.1 * (-e) ^ p.2 * d ^ ([c, b, a].length - 1 - p.2)).sum = res [c, b, a] [e, d] := by rw [res32]; simp; grind
      rw [q] at r
      have k := eCall_da (n := 2) (f := aCons (fz 2 (evVar 1)) (aCons (fz 2 (evVar 0)) aNil)) (cs := [.da (dT [c, b, a]), .da (dT [e, d]), .un, .un, .un, .un, .un, .un]) [dT [e, d], dT [c, b, a]] rfl rfl r
      exact callM_rt (nl := 6) (ds := [dT [c, b, a], dT [e, d]]) (sSeq_nx (sIf_false (cs1 := [.da (dT [c, b, a]), .da (dT [e, d]), .un, .un, .un, .un, .un, .un]) rfl rfl) (sSeq_rt (sIf_true (cs1 := [.da (dT [c, b, a]), .da (dT [e, d]), .un, .un, .un, .un, .un, .un]) rfl (sRet_da k))))
    · have sm : ∀ {vs : List Int}, Tops vs → ∀ {t : Int}, t ∈ vs → t.natAbs ≤ 30 := fun hv t ht => by have := hv.small t ht; omega
      have ac := sm h (t := c) (by simp)
      have ab := sm h (t := b) (by simp)
      have aa := sm h (t := a) (by simp)
      have af := sm h' (t := f) (by simp)
      have ae := sm h' (t := e) (by simp)
      have ad := sm h' (t := d) (by simp)
      have fit : ∀ {t : Int}, t.natAbs ≤ 30 → Fit t := fun q => Nat.lt_of_le_of_lt q (by decide)
      have fit2 : ∀ {x y u v : Int}, x.natAbs ≤ 30 → y.natAbs ≤ 30 → u.natAbs ≤ 30 → v.natAbs ≤ 30 → Fit (x * y - u * v) := fun h1 h2 h3 h4 => by
        have := mul_abs h1 h2
        have := mul_abs h3 h4
        show (_ : Int).natAbs < 2 ^ 64
        omega
      let cs : List Cell := [.da (dT [c, b, a]), .da (dT [f, e, d]), .da (.int c), .da (.int b), .da (.int a), .da (.int f), .da (.int e), .da (.int d)]
      have df : ∀ {i j k l : Nat} {x y u v : Int}, evVar i cs = .val (.da (.int x)) cs → evVar j cs = .val (.da (.int y)) cs → evVar k cs = .val (.da (.int u)) cs → evVar l cs = .val (.da (.int v)) cs → x.natAbs ≤ 30 → u.natAbs ≤ 30 →
          e2 pSub (e2 pMul (evVar i) (evVar j)) (e2 pMul (evVar k) (evVar l)) cs = .val (.da (.int (x * y - u * v))) cs := fun {i j k l x y u v} h1 h2 h3 h4 hx hu =>
        e2_da (x := .int (x * y)) (y := .int (u * v)) (e2_da h1 h2 (pMul_of (mulOk_l (fit hx)))) (e2_da h3 h4 (pMul_of (mulOk_l (fit hu)))) rfl
      have d1 := df (i := 4) (j := 5) (k := 7) (l := 2) (x := a) (y := f) (u := d) (v := c) rfl rfl rfl rfl aa ad
      have d2 := df (i := 4) (j := 6) (k := 7) (l := 3) (x := a) (y := e) (u := d) (v := b) rfl rfl rfl rfl aa ad
      have d3 := df (i := 3) (j := 5) (k := 6) (l := 2) (x := b) (y := f) (u := e) (v := c) rfl rfl rfl rfl ab ae
      have fin := e2_da (p := pSub) (e2_da d1 d1 (pMul_of (mulOk_l (fit2 aa af ad ac)))) (e2_da d2 d3 (pMul_of (mulOk_l (fit2 aa ae ad ab)))) rfl
      rw [res33]
      exact callM_rt (nl := 6) (ds := [dT [c, b, a], dT [f, e, d]]) (sSeq_nx (sIf_false (cs1 := [.da (dT [c, b, a]), .da (dT [f, e, d]), .un, .un, .un, .un, .un, .un]) rfl rfl) (sSeq_nx (sIf_false (cs1 := [.da (dT [c, b, a]), .da (dT [f, e, d]), .un, .un, .un, .un, .un, .un]) rfl rfl)
        (sSeq_nx (cs1 := [.da (dT [c, b, a]), .da (dT [f, e, d]), .da (.int c), .da (.int b), .da (.int a), .un, .un, .un]) rfl (sSeq_nx (cs1 := cs) rfl (sRet_da fin)))))
end K76
set_option Elab.async false
set_option linter.all false
set_option maxRecDepth 100000
set_option maxHeartbeats 4000000
/-! K76V: the law's drawn tops. -/
namespace K76
open PySem L2 TL
local macro_rules | `(tactic| trivial) => `(tactic| simp [callM, sSeq, sIf, sSet, TL.canSet_eq, sRet, sRetN, sNext, evVar, evC, e2, e1, en, k2, k1, kn, pkAll, ofO, pAdd, pSub, pCmp, pNeg, tU, tOf, truD, TL.tB, bOf, TL.tAnd, TL.tOr, TL.tNot, vAnd, vOr, vNot, vIf, fz, aNil, aCons, sPar, sPar3, put1, flatC, gN, gT, gsCons, gsNil, sAsg, vIsi, eTup, eLst, dAll, eCall, callE, isT_int_int, isT_int_bool, isT_int_tuple, isT_tuple_tuple, isT_none_int, isT_bool_int, isT_bool_bool, isT_str_int, isT_tuple_int, t3, e3, qCmp, sRaise, sDrop, pMul, pListOf, iRevL, iEnumA, eSl, oNone, oSome, pSl, OR.toE_val, pGcd, pInt2, pAbs, abs_int, pMod, pNe, pEq, eqF, pLen, pInt, pIx, iSeq, wipeC, backC, cut_to, cut_from, cut_to', cut_from', eRep, pRevA, iRange1, iRange2, *])
/-! ### products -/
abbrev L7 (p q : List Int) (xs : List Int) (a t b u : Cell) : List Cell := [.da (.list (p.map .int)), .da (.list (q.map .int)), .ol (xs.map .int), a, t, b, u]
abbrev timesB : List Cell → SR := sPut 2 (fz 2 (e2 pAdd (e2 pIx (evVar 2) (e2 pAdd (evVar 3) (evVar 5))) (e2 pMul (evVar 4) (evVar 6)))) (e2 pAdd (evVar 3) (evVar 5))
theorem timesB_at (p q xs : List Int) {t u : Int} (i j : Nat) (ht : Fit t) (h : i + j < xs.length) : ∃ xs' : List Int, xs'.length = xs.length ∧ timesB (L7 p q xs (.da (.int i)) (.da (.int t)) (.da (.int j)) (.da (.int u))) = .nx (L7 p q xs' (.da (.int i)) (.da (.int t)) (.da (.int j)) (.da (.int u))) := by
  have a : e2 pAdd (evVar 3) (evVar 5) (L7 p q xs (.da (.int i)) (.da (.int t)) (.da (.int j)) (.da (.int u))) = .val (.da (.int ((i + j : Nat) : Int))) (L7 p q xs (.da (.int i)) (.da (.int t)) (.da (.int j)) (.da (.int u))) := e2_da (x := .int i) (y := .int j) rfl rfl rfl
  have g : pIx (.list (xs.map .int)) (.int ((i + j : Nat) : Int)) = some (.da (.int (xs[i + j]))) := by
    show (atI (xs.map PyData.int) ((i + j : Nat) : Int)).map Cell.da = _
    rw [atI_of, List.getElem?_map, List.getElem?_eq_getElem h]
    rfl
  have b := e2_val (cs := L7 p q xs (.da (.int i)) (.da (.int t)) (.da (.int j)) (.da (.int u))) (p := pIx) (f := evVar 2) (a := .bw 2) (b := .da (.int ((i + j : Nat) : Int))) (x := .list (xs.map .int)) rfl a rfl rfl g
  have c := e2_da (p := pMul) (f := evVar 4) (g := evVar 6) (cs := L7 p q xs (.da (.int i)) (.da (.int t)) (.da (.int j)) (.da (.int u))) (x := .int t) (y := .int u) rfl rfl (pMul_of (mulOk_l ht))
  have d := fz_da (np := 2) (e2_da (p := pAdd) b c rfl)
  refine ⟨xs.set (i + j) (xs[i + j] + t * u), List.length_set, ?_⟩
  have e := sPut_da (i := 2) (es := xs.map .int) (ds := xs.map .int) d rfl a rfl (ixN_at (by rw [List.length_map]; exact h))
  rw [show (xs.map PyData.int).set (i + j) (.int (xs[i + j] + t * u)) = (xs.set (i + j) (xs[i + j] + t * u)).map .int from List.map_set.symm] at e
  exact e
theorem timesIn (p q : List Int) {t : Int} (i : Nat) (ht : Fit t) : ∀ (us : List Int) (j : Nat) (xs : List Int) (b u : Cell), i + j + us.length ≤ xs.length →
    ∃ (xs' : List Int) (b' u' : Cell), xs'.length = xs.length ∧ forGo (gT 2 (gsCons (gN 2 5) (gsCons (gN 2 6) gsNil))) timesB ((us.zipIdx j).map fun p => PyData.tuple [.int (p.2 : Nat), .int p.1]) (L7 p q xs (.da (.int i)) (.da (.int t)) b u) = .nx (L7 p q xs' (.da (.int i)) (.da (.int t)) b' u')
  | [], j, xs, b, u, _ => ⟨xs, b, u, rfl, rfl⟩
  | v :: us, j, xs, b, u, h => by
    rw [List.length_cons] at h
    obtain ⟨xs1, l1, e1⟩ := timesB_at p q xs (t := t) (u := v) i j ht (by omega)
    obtain ⟨xs2, b', u', l2, e2⟩ := timesIn p q i ht us (j + 1) xs1 (.da (.int j)) (.da (.int v)) (by omega)
    exact ⟨xs2, b', u', l2.trans l1, (forGo_nx (cs1 := L7 p q xs (.da (.int i)) (.da (.int t)) (.da (.int j)) (.da (.int v))) rfl e1).trans e2⟩
abbrev timesO : List Cell → SR := sFor (iEnumA (aCons (fz 2 (evVar 1)) aNil)) (gT 2 (gsCons (gN 2 5) (gsCons (gN 2 6) gsNil))) timesB
theorem timesOut (p q : List Int) (n : Nat) : ∀ (ts : List Int) (i : Nat) (xs : List Int) (a t b u : Cell), (∀ t ∈ ts, Fit t) → i + ts.length ≤ n → n + q.length ≤ xs.length + 1 →
    ∃ (xs' : List Int) (a' t' b' u' : Cell), xs'.length = xs.length ∧ forGo (gT 2 (gsCons (gN 2 3) (gsCons (gN 2 4) gsNil))) timesO ((ts.zipIdx i).map fun p => PyData.tuple [.int (p.2 : Nat), .int p.1]) (L7 p q xs a t b u) = .nx (L7 p q xs' a' t' b' u')
  | [], i, xs, a, t, b, u, _, _, _ => ⟨xs, a, t, b, u, rfl, rfl⟩
  | v :: ts, i, xs, a, t, b, u, hf, h, hn => by
    rw [List.length_cons] at h
    obtain ⟨xs1, b', u', l1, e1⟩ := timesIn p q (t := v) i (hf v List.mem_cons_self) q 0 xs b u (by omega)
    rw [← enum_zip] at e1
    obtain ⟨xs2, a2, t2, b2, u2, l2, e2⟩ := timesOut p q n ts (i + 1) xs1 (.da (.int i)) (.da (.int v)) b' u' (fun t h => hf t (List.mem_cons_of_mem _ h)) (by omega) (by omega)
    exact ⟨xs2, a2, t2, b2, u2, l2.trans l1, (forGo_nx (cs1 := L7 p q xs (.da (.int i)) (.da (.int v)) b u) rfl (sFor_of (rfl : iEnumA (aCons (fz 2 (evVar 1)) aNil) _ = .val _ _) e1)).trans e2⟩
theorem law_times_ok {p q : List Int} (hp : p.length = 2) (hq : q.length = 2) (hf : ∀ t ∈ p, Fit t) : ∃ xs : List Int, xs.length = 3 ∧ m__law_times [.da (.list (p.map .int)), .da (.list (q.map .int))] = .val (.ol (xs.map .int)) [.da (.list (p.map .int)), .da (.list (q.map .int))] := by
  obtain ⟨xs, a, t, b, u, hl, g⟩ := timesOut p q 2 p 0 [0, 0, 0] .un .un .un .un hf (by omega) (by rw [hq]; decide)
  rw [← enum_zip] at g
  have lp : e2 pSub (e2 pAdd (en pLen (aCons (evVar 0) aNil)) (en pLen (aCons (evVar 1) aNil))) (evC (.int 1)) [.da (.list (p.map .int)), .da (.list (q.map .int)), .un, .un, .un, .un, .un] = .val (.da (.int 3)) [.da (.list (p.map .int)), .da (.list (q.map .int)), .un, .un, .un, .un, .un] := by
    have e1 := len_list (f := evVar 0) (cs := [.da (.list (p.map .int)), .da (.list (q.map .int)), .un, .un, .un, .un, .un]) rfl
    have e2 := len_list (f := evVar 1) (cs := [.da (.list (p.map .int)), .da (.list (q.map .int)), .un, .un, .un, .un, .un]) rfl
    rw [List.length_map, hp] at e1
    rw [List.length_map, hq] at e2
    exact e2_da (e2_da e1 e2 rfl) rfl rfl
  have s0 := sSet_ol (np := 2) (i := 2) (eRep_val (f := eLst (aCons (evC (.int 0)) aNil)) (ds := [.int 0]) rfl lp rfl (repC_one (.int 0) 3 rfl (by decide) _))
  exact ⟨xs, hl, callM_rtl (nl := 5) (ds := [.list (p.map .int), .list (q.map .int)]) (sSeq_nx s0 (sSeq_nx (sFor_of (rfl : iEnumA (aCons (fz 2 (evVar 0)) aNil) _ = .val _ _) g) rfl))⟩
/-! ### lowest terms over 1 -/
theorem vl_zero : ∀ (ts : List Int) (x : Int), ts.getLast? = some 0 → vl ts.dropLast x = vl ts x
  | [], x, h => by simp at h
  | [t], x, h => by
    simp at h
    subst h
    simp [vl]
  | t :: u :: ts, x, h => by
    have ih := vl_zero (u :: ts) x (by simpa [List.getLast?_cons_cons] using h)
    rw [List.dropLast_cons_cons, vl_cons, vl_cons, ih]
theorem gcd_one_left (x : Int) : ((Int.gcd 1 x : Nat) : Int) = 1 := by simp
abbrev lowB : List Cell → SR := sIf (tAnd (tB (e2 pNe (evVar 2) (eLst aNil))) (tB (e2 pEq (e2 pIx (evVar 2) (e1 pNeg (evC (.int 1)))) (evC (.int 0))))) (sSet 2 2 (eSl (evVar 2) oNone (oSome (e1 pNeg (evC (.int 1)))))) sNext
abbrev W6 (xs : List Int) (c t : Cell) (rest : List Cell) : List Cell := .da (.list (xs.map .int)) :: .da (.int 1) :: c :: t :: rest
theorem lowB_at (xs row : List Int) (t : Cell) (rest : List Cell) : ∃ row' : List Int, (∀ x, vl row' x = vl row x) ∧ row'.length ≤ row.length ∧ lowB (W6 xs (.ol (row.map .int)) t rest) = .nx (W6 xs (.ol (row'.map .int)) t rest) := by
  by_cases h0 : row = []
  · subst h0
    refine ⟨[], fun x => rfl, Nat.le_refl _, sIf_false (tAnd_false (tB_val (e2_val (a := .bw 2) (b := .ol []) (x := .list []) (y := .list []) rfl rfl rfl rfl ?_))) rfl⟩
    exact pNe_of (n := 1) (m := 1) rfl (.lst fun d hd => by simp at hd) (.lst fun d hd => by simp at hd)
  · obtain ⟨l, hl⟩ : ∃ t, row.getLast? = some t := ⟨_, List.getLast?_eq_some_getLast h0⟩
    have t1 : tB (e2 pNe (evVar 2) (eLst aNil)) (W6 xs (.ol (row.map .int)) t rest) = .val true (W6 xs (.ol (row.map .int)) t rest) := by
      refine tB_val (e2_val (a := .bw 2) (b := .ol []) (x := .list (row.map .int)) (y := .list []) rfl rfl rfl rfl ?_)
      rw [pNe_of (n := 1) (m := 1) rfl (.ints row) (.lst fun d hd => by simp at hd), eqv_nil]
      cases row with
      | nil => exact absurd rfl h0
      | cons _ _ => rfl
    have q : pIx (.list (row.map .int)) (.int (-1)) = some (.da (.int l)) := by
      show (atI (row.map PyData.int) (-1)).map Cell.da = _
      rw [atI_end, List.getLast?_map, hl]
      rfl
    have t2 : tB (e2 pEq (e2 pIx (evVar 2) (e1 pNeg (evC (.int 1)))) (evC (.int 0))) (W6 xs (.ol (row.map .int)) t rest) = .val (decide (l = 0)) (W6 xs (.ol (row.map .int)) t rest) :=
      tB_val (e2_da (x := .int l) (y := .int 0) (e2_val (a := .bw 2) (b := .da (.int (-1))) (x := .list (row.map .int)) (y := .int (-1)) rfl rfl rfl rfl q) rfl rfl)
    by_cases z : l = 0
    · rw [decide_eq_true z] at t2
      subst z
      refine ⟨row.dropLast, fun x => vl_zero row x hl, by rw [List.length_dropLast]; omega, sIf_true (tAnd_true t1 t2) (sSet_ol (np := 2) (i := 2) (cs1 := W6 xs (.ol (row.map .int)) t rest) ?_)⟩
      show ER.val (.ol (cutD (row.map PyData.int) none (some (-1)))) _ = _
      rw [cut_last, List.map_dropLast]
    · rw [decide_eq_false z] at t2
      exact ⟨row, fun x => rfl, Nat.le_refl _, sIf_false (tAnd_true t1 t2) rfl⟩
theorem lowGo (xs : List Int) (rest : List Cell) : ∀ (ds : List D) (row : List Int) (t : Cell), ∃ (row' : List Int) (t' : Cell), (∀ x, vl row' x = vl row x) ∧ row'.length ≤ row.length ∧ forGo (gN 2 3) lowB ds (W6 xs (.ol (row.map .int)) t rest) = .nx (W6 xs (.ol (row'.map .int)) t' rest)
  | [], row, t => ⟨row, t, fun x => rfl, Nat.le_refl _, rfl⟩
  | d :: ds, row, t => by
    obtain ⟨r1, v1, l1, e1⟩ := lowB_at xs row (.da d) rest
    obtain ⟨r2, t2, v2, l2, e2⟩ := lowGo xs rest ds r1 (.da d)
    exact ⟨r2, t2, fun x => (v2 x).trans (v1 x), Nat.le_trans l2 l1, (forGo_nx (cs1 := W6 xs (.ol (row.map .int)) (.da d) rest) rfl e1).trans e2⟩
theorem gcdGo (xs : List Int) (c t : Cell) : ∀ (row : List Int) (u : Cell), ∃ u', forGo (gN 2 5) (sSet 2 4 (eCall 2 m__law_divisor (aCons (fz 2 (evVar 4)) (aCons (fz 2 (evVar 5)) aNil)))) (row.map .int) (W6 xs c t [.da (.int 1), u]) = .nx (W6 xs c t [.da (.int 1), u'])
  | [], u => ⟨u, rfl⟩
  | v :: row, u => by
    obtain ⟨u', ih⟩ := gcdGo xs c t row (.da (.int v))
    have e := law_divisor_int 1 v
    rw [gcd_one_left] at e
    have c1 := eCall_da (n := 2) (f := aCons (fz 2 (evVar 4)) (aCons (fz 2 (evVar 5)) aNil)) (cs := W6 xs c t [.da (.int 1), .da (.int v)]) [.int 1, .int v] rfl rfl e
    exact ⟨u', (forGo_nx (cs1 := W6 xs c t [.da (.int 1), .da (.int v)]) rfl (sSet_da (np := 2) (i := 4) c1)).trans ih⟩
theorem law_lowest_ok (xs : List Int) (hl : xs.length ≤ 1000) : ∃ row : List Int, (∀ x, vl row x = vl xs x) ∧ row.length ≤ xs.length ∧ m__law_lowest [.da (.list (xs.map .int)), .da (.int 1)] = .val (.da (dP row)) [.da (.list (xs.map .int)), .da (.int 1)] := by
  obtain ⟨row, t, hv, hl2, g⟩ := lowGo xs [.un, .un] ((List.range xs.length).map fun i => PyData.int (i : Nat)) xs .un
  obtain ⟨u, g2⟩ := gcdGo xs (.da (.list (row.map .int))) t row .un
  have s1 : iRange1 (aCons (en pLen (aCons (evVar 0) aNil)) aNil) (W6 xs (.ol (xs.map .int)) .un [.un, .un]) = .val ((List.range xs.length).map fun i => PyData.int (i : Nat)) (W6 xs (.ol (xs.map .int)) .un [.un, .un]) :=
    iRange1_of (aCons_val (by rw [len_list (f := evVar 0) (ds := xs.map .int) rfl, List.length_map]) rfl)
  have s2 : iSeq 2 (evVar 2) (W6 xs (.ol (row.map .int)) t [.da (.int 1), .un]) = .val (row.map .int) (W6 xs (.da (.list (row.map .int))) t [.da (.int 1), .un]) := rfl
  have s3 : iSeq 2 (evVar 2) (W6 xs (.da (.list (row.map .int))) t [.da (.int 1), .un]) = .val (row.map .int) (W6 xs (.da (.list (row.map .int))) t [.da (.int 1), .un]) := rfl
  have l := eLc_map (vs := [5]) (src := iSeq 2 (evVar 2)) (tgt := gN 2 5) (f := e2 pDiv (evVar 5) (evVar 4)) (g := fun e => e) (cs := W6 xs (.da (.list (row.map .int))) t [.da (.int 1), u]) rfl (by rw [List.length_map]; exact Nat.le_trans hl2 (Nat.le_trans hl (by decide))) fun d hd => by
    obtain ⟨v, _, rfl⟩ := List.mem_map.mp hd
    refine ⟨W6 xs (.da (.list (row.map .int))) t [.da (.int 1), .da (.int v)], rfl, rfl, ?_⟩
    have := e2_da (p := pDiv) (f := evVar 5) (g := evVar 4) (cs := W6 xs (.da (.list (row.map .int))) t [.da (.int 1), .da (.int v)]) (x := .int v) (y := .int 1) rfl rfl (pDiv_of (by decide))
    rwa [Int.ediv_one] at this
  rw [List.map_id'] at l
  have T : en pTupOf (aCons (eLc [5] (iSeq 2 (evVar 2)) (gN 2 5) tTrue (e2 pDiv (evVar 5) (evVar 4))) aNil) (W6 xs (.da (.list (row.map .int))) t [.da (.int 1), u]) = .val (.da (dT row)) (W6 xs (.da (.list (row.map .int))) t [.da (.int 1), u]) := en1 l rfl rfl
  have fin : eTup (aCons (fz 2 (en pTupOf (aCons (eLc [5] (iSeq 2 (evVar 2)) (gN 2 5) tTrue (e2 pDiv (evVar 5) (evVar 4))) aNil))) (aCons (e2 pDiv (evVar 1) (evVar 4)) aNil)) (W6 xs (.da (.list (row.map .int))) t [.da (.int 1), u]) = .val (.da (dP row)) (W6 xs (.da (.list (row.map .int))) t [.da (.int 1), u]) := by
    unfold eTup
    rw [aCons_val (fz_da (np := 2) T) (rfl : aCons (e2 pDiv (evVar 1) (evVar 4)) aNil _ = .val [.da (.int 1)] _)]
    rfl
  refine ⟨row, hv, hl2, callM_rt (nl := 4) (ds := [.list (xs.map .int), .int 1]) (sSeq_nx (cs1 := W6 xs (.ol (xs.map .int)) .un [.un, .un]) rfl (sSeq_nx (sFor_of s1 g) (sSeq_nx (cs1 := W6 xs (.ol (row.map .int)) t [.da (.int 1), .un]) rfl (sSeq_nx (sFor_of s2 g2) (sSeq_nx (cs1 := W6 xs (.da (.list (row.map .int))) t [.da (.int 1), u]) rfl (sRet_da fin))))))⟩
end K76
set_option Elab.async false
set_option linter.all false
set_option maxRecDepth 100000
set_option maxHeartbeats 4000000
/-! K76I: the law's drawn tops. -/
namespace K76
open PySem L2 TL
local macro_rules | `(tactic| trivial) => `(tactic| simp [callM, sSeq, sIf, sSet, TL.canSet_eq, sRet, sRetN, sNext, evVar, evC, e2, e1, en, k2, k1, kn, pkAll, ofO, pAdd, pSub, pCmp, pNeg, tU, tOf, truD, TL.tB, bOf, TL.tAnd, TL.tOr, TL.tNot, vAnd, vOr, vNot, vIf, fz, aNil, aCons, sPar, sPar3, put1, flatC, gN, gT, gsCons, gsNil, sAsg, vIsi, eTup, eLst, dAll, eCall, callE, isT_int_int, isT_int_bool, isT_int_tuple, isT_tuple_tuple, isT_none_int, isT_bool_int, isT_bool_bool, isT_str_int, isT_tuple_int, t3, e3, qCmp, sRaise, sDrop, pMul, pListOf, iRevL, iEnumA, eSl, oNone, oSome, pSl, OR.toE_val, pGcd, pInt2, pAbs, abs_int, pMod, pNe, pEq, eqF, pLen, pInt, pIx, iSeq, wipeC, backC, cut_to, cut_from, cut_to', cut_from', eRep, pRevA, iRange1, iRange2, *])
/-- two or three ints -/
structure Few (ts : List Int) : Prop where
  two : 2 ≤ ts.length
  three : ts.length ≤ 3
theorem Few.ne {ts : List Int} (h : Few ts) : ts ≠ [] := fun e => by have := h.two; rw [e] at this; simp at this
theorem dl (n : Nat) : eCall 2 m__law_draw = eCall 2 m_draw := rfl
theorem law_tops_ok {n : Nat} {fs : List D} (hf : Fd n fs) (hn : n ≤ 1000) : ∃ (ts : List Int) (fs' : List D), Fd (n + 5) fs' ∧ Few ts ∧ m__law_tops [.ol fs] = .val (.ol (ts.map .int)) [.ol fs'] := by
  obtain ⟨d, f1, h1, hd, w1⟩ := one_call (n := n) (i := 0) (cs := [.ol fs, .un, .un, .un]) (f := aCons (evVar 0) (aCons (fz 1 (eLst (aCons (evC (.int 1)) (aCons (evC (.int 2)) (aCons (evC (.int 3)) (aCons (evC (.int 5)) (aCons (evC (.int 5)) (aCons (evC (.int 30)) aNil)))))))) aNil)) (things := [.int 1, .int 2, .int 3, .int 5, .int 5, .int 30]) hf rfl rfl (by decide) (by decide) (by omega)
  obtain ⟨s, rfl, s1, s2⟩ : ∃ s : Int, d = .int s ∧ 1 ≤ s ∧ s ≤ 30 := by
    simp only [List.mem_cons, List.not_mem_nil, or_false] at hd
    rcases hd with rfl | rfl | rfl | rfl | rfl | rfl <;> exact ⟨_, rfl, by decide, by decide⟩
  obtain ⟨d, f2, h2, hd, w2⟩ := one_call (n := n + 1) (i := 0) (cs := [.ol f1, .da (.int s), .un, .un]) (f := aCons (evVar 0) (aCons (fz 1 (eLst (aCons (evC (.int 2)) (aCons (evC (.int 2)) (aCons (evC (.int 3)) aNil))))) aNil)) (things := [.int 2, .int 2, .int 3]) h1 rfl rfl (by decide) (by decide) (by omega)
  obtain ⟨k, rfl, k1, k2⟩ : ∃ s : Nat, d = .int s ∧ 2 ≤ s ∧ s ≤ 3 := by
    simp only [List.mem_cons, List.not_mem_nil, or_false] at hd
    rcases hd with rfl | rfl | rfl
    · exact ⟨2, rfl, by decide, by decide⟩
    · exact ⟨2, rfl, by decide, by decide⟩
    · exact ⟨3, rfl, by decide, by decide⟩
  have src : iRange1 (aCons (eCall 2 m__law_one (aCons (evVar 0) (aCons (fz 1 (eLst (aCons (evC (.int 2)) (aCons (evC (.int 2)) (aCons (evC (.int 3)) aNil))))) aNil))) aNil) [.ol f1, .da (.int s), .un, .un] = .val ((List.range k).map fun i => PyData.int (i : Nat)) [.ol f2, .da (.int s), .un, .un] := iRange1_of (aCons_val w2 rfl)
  have m : mulOk 2 s = true := mulOk_l (by decide)
  obtain ⟨es, cs', g, hl, hp, f3, h3, rfl⟩ := lcGo_inv (vs := [3]) (tgt := gN 1 3) (tt := tTrue) (f := TL.e2 pSub (eCall 2 m__law_draw (aCons (evVar 0) (aCons (fz 1 (TL.e2 pAdd (TL.e2 pMul (evC (.int 2)) (evVar 1)) (evC (.int 1)))) aNil))) (evVar 1)) (fun i cs => ∃ f3, Fd (n + 2 + i) f3 ∧ cs = [.ol f3, .da (.int s), .un, .un]) (fun d => ∃ i : Int, d = .int i) 3
    ((List.range k).map fun i => PyData.int (i : Nat)) 0 [.ol f2, .da (.int s), .un, .un] (by rw [List.length_map, List.length_range]; omega) (fun i d cs hi hd hI => by
      obtain ⟨f3, h3, rfl⟩ := hI
      obtain ⟨j, hj, rfl⟩ := List.mem_map.mp hd
      have a : fz 1 (TL.e2 pAdd (TL.e2 pMul (evC (.int 2)) (evVar 1)) (evC (.int 1))) [.ol f3, .da (.int s), .un, .da (.int j)] = .val (.da (.int (2 * s + 1))) [.ol f3, .da (.int s), .un, .da (.int j)] := fz_da (e2_da (x := .int (2 * s)) (y := .int 1) (e2_da (x := .int 2) (y := .int s) rfl rfl (pMul_of m)) rfl rfl)
      obtain ⟨r, f4, h4, _, _, e4⟩ := draw_call (n := n + 2 + i) (i := 0) (cs := [.ol f3, .da (.int s), .un, .da (.int j)]) (k := 2 * s + 1) h3 rfl (aCons_val rfl (aCons_val a rfl)) (by omega) (by omega) (by omega)
      exact ⟨[.ol f3, .da (.int s), .un, .da (.int j)], [.ol f4, .da (.int s), .un, .da (.int j)], .int (r - s), rfl, rfl, e2_da (x := .int r) (y := .int s) e4 rfl rfl, ⟨_, rfl⟩, f4, h4, rfl⟩) ⟨f2, h2, rfl⟩
  rw [List.length_map, List.length_range] at hl h3
  obtain ⟨ts, rfl, hl2⟩ := ints_of hp
  have h3 : Fd (n + 5) f3 := h3.mono (by omega)
  have ft : Few ts := ⟨by omega, by omega⟩
  have L := eLc_of (vs := [3]) (cs := [.ol f1, .da (.int s), .un, .un]) src (by rw [List.length_map, List.length_range]; exact Nat.le_trans k2 (by decide)) g
  have A := sSet_ol (np := 1) (i := 2) L
  obtain ⟨l, el⟩ : ∃ t, ts.getLast? = some t := ⟨_, List.getLast?_eq_some_getLast ft.ne⟩
  let cs : List Cell := [.ol f3, .da (.int s), .ol (ts.map .int), .un]
  have q : pIx (.list (ts.map .int)) (.int (-1)) = some (.da (.int l)) := by
    show (atI (ts.map PyData.int) (-1)).map Cell.da = _
    rw [atI_end, List.getLast?_map, el]
    rfl
  have lst : TL.e2 pIx (evVar 2) (e1 pNeg (evC (.int 1))) cs = .val (.da (.int l)) cs := e2_val (f := evVar 2) (a := .bw 2) (b := .da (.int (-1))) (x := .list (ts.map .int)) (y := .int (-1)) rfl rfl rfl rfl q
  obtain ⟨l', vI⟩ : ∃ l' : Int, vIf (TL.tB (TL.e2 pNe (TL.e2 pIx (evVar 2) (e1 pNeg (evC (.int 1)))) (evC (.int 0)))) (TL.e2 pIx (evVar 2) (e1 pNeg (evC (.int 1)))) (evC (.int 1)) cs = .val (.da (.int l')) cs := by
    have t : TL.tB (TL.e2 pNe (TL.e2 pIx (evVar 2) (e1 pNeg (evC (.int 1)))) (evC (.int 0))) cs = .val (!decide (l = 0)) cs := tB_val (e2_da (x := .int l) (y := .int 0) lst rfl rfl)
    by_cases z : l = 0
    · rw [decide_eq_true z] at t
      exact ⟨1, vIf_false t rfl⟩
    · rw [decide_eq_false z] at t
      exact ⟨l, vIf_true t lst⟩
  have sl : eSl (evVar 2) oNone (oSome (e1 pNeg (evC (.int 1)))) cs = .val (.ol (ts.dropLast.map .int)) cs := by
    show ER.val (.ol (cutD (ts.map PyData.int) none (some (-1)))) _ = _
    rw [cut_last, List.map_dropLast]
  have ll : eLst (aCons (fz 1 (vIf (TL.tB (TL.e2 pNe (TL.e2 pIx (evVar 2) (e1 pNeg (evC (.int 1)))) (evC (.int 0)))) (TL.e2 pIx (evVar 2) (e1 pNeg (evC (.int 1)))) (evC (.int 1)))) aNil) cs = .val (.ol [.int l']) cs := eLst_of [.int l'] (aCons_val (fz_da (np := 1) vI) rfl) (by simp)
  have fin := e2_val (p := pAdd) (a := .ol (ts.dropLast.map .int)) (b := .ol [.int l']) (x := .list (ts.dropLast.map .int)) (y := .list [.int l']) sl ll rfl rfl (pAdd_lists (by rw [List.length_map, List.length_dropLast]; exact Nat.le_trans (show ts.length - 1 + 1 ≤ 3 by omega) (by decide)))
  rw [show (ts.dropLast.map PyData.int) ++ [PyData.int l'] = (ts.dropLast ++ [l']).map .int by rw [List.map_append]; rfl] at fin
  refine ⟨ts.dropLast ++ [l'], f3, h3, ⟨?_, ?_⟩, callM_ol (nl := 3) (cs := cs) (sSeq_nx (cs1 := [.ol f1, .da (.int s), .un, .un]) (sSet_da w1) (sSeq_nx A (sRet_ol fin)))⟩
  · rw [List.length_append, List.length_dropLast, List.length_singleton]; omega
  · rw [List.length_append, List.length_dropLast, List.length_singleton]; omega
end K76
set_option Elab.async false
set_option linter.all false
set_option maxRecDepth 100000
set_option maxHeartbeats 4000000
/-! K76J: two tuples of tops. -/
namespace K76
open PySem L2 TL
local macro_rules | `(tactic| trivial) => `(tactic| simp [callM, sSeq, sIf, sSet, TL.canSet_eq, sRet, sRetN, sNext, evVar, evC, e2, e1, en, k2, k1, kn, pkAll, ofO, pAdd, pSub, pCmp, pNeg, tU, tOf, truD, TL.tB, bOf, TL.tAnd, TL.tOr, TL.tNot, vAnd, vOr, vNot, vIf, fz, aNil, aCons, sPar, sPar3, put1, flatC, gN, gT, gsCons, gsNil, sAsg, vIsi, eTup, eLst, dAll, eCall, callE, isT_int_int, isT_int_bool, isT_int_tuple, isT_tuple_tuple, isT_none_int, isT_bool_int, isT_bool_bool, isT_str_int, isT_tuple_int, t3, e3, qCmp, sRaise, sDrop, pMul, pListOf, iRevL, iEnumA, eSl, oNone, oSome, pSl, OR.toE_val, pGcd, pInt2, pAbs, abs_int, pMod, pNe, pEq, eqF, pLen, pInt, pIx, iSeq, wipeC, backC, cut_to, cut_from, cut_to', cut_from', eRep, pRevA, iRange1, iRange2, *])
/-- a cell that holds a list of ints -/
inductive IC (ts : List Int) : Cell → Prop
  | ol : IC ts (.ol (ts.map .int))
  | da : IC ts (.da (.list (ts.map .int)))
abbrev T11 (fs : List D) (c1 : Cell) (other : List Int) (w : Int) (c4 x5 x6 x7 x8 : Cell) : List Cell := [.ol fs, c1, .da (.list (other.map .int)), .da (.int w), c4, x5, x6, x7, x8, .un, .un]
structure Post (n : Nat) (other : List Int) (w : Int) (cs : List Cell) : Prop where
  ex : ∃ (fs : List D) (one made : List Int) (c1 c4 x5 x6 x7 x8 : Cell), cs = T11 fs c1 other w c4 x5 x6 x7 x8 ∧ Fd n fs ∧ IC one c1 ∧ IC made c4 ∧ Few one ∧ Few made
theorem skip_if {w k : Int} {cs : List Cell} {f : List Cell → SR} (h : w ≠ k) (hc : cs[3]? = some (.da (.int w))) : sIf (tB (e2 pEq (evVar 3) (evC (.int k)))) f sNext cs = .nx cs := by
  have v : evVar 3 cs = .val (.da (.int w)) cs := by unfold evVar; rw [hc]
  refine sIf_false (tB_val (e2_da (x := .int w) (y := .int k) v rfl ?_)) rfl
  show some (Cell.da (.bool (decide (w = k)))) = _
  rw [decide_eq_false h]
theorem take_if {w : Int} {cs : List Cell} {f : List Cell → SR} {r : SR} (hc : cs[3]? = some (.da (.int w))) (h : f cs = r) : sIf (tB (e2 pEq (evVar 3) (evC (.int w)))) f sNext cs = r := by
  have v : evVar 3 cs = .val (.da (.int w)) cs := by unfold evVar; rw [hc]
  refine sIf_true (tB_val (e2_da (x := .int w) (y := .int w) v rfl ?_)) h
  show some (Cell.da (.bool (decide (w = w)))) = _
  rw [decide_eq_true rfl]
abbrev argD (k : Int) : List Cell → AR := aCons (evVar 0) (aCons (evC (.int k)) aNil)
/-- each item times a number -/
abbrev scaleE (i : Nat) : List Cell → ER := eLc [7] (iSeq 1 (evVar i)) (gN 1 7) tTrue (fz 1 (e2 pMul (evVar 5) (evVar 7)))
theorem scale_ok {cs cs1 : List Cell} {i : Nat} {ts : List Int} {s : Int} (hs : Fit s) (hf : Few ts) (src : iSeq 1 (evVar i) cs = .val (ts.map .int) cs1) (h5 : ∀ c, (wipeC cs1 [7] |>.set 7 c)[5]? = some (.da (.int s))) (h7 : 7 < cs1.length) (hb : backC cs1 (wipeC cs1 [7]) [7] = cs1) :
    scaleE i cs = .val (.ol ((ts.map (s * ·)).map .int)) cs1 := by
  have l := eLc_map (vs := [7]) (tgt := gN 1 7) (f := fz 1 (e2 pMul (evVar 5) (evVar 7))) (g := fun d => match d with | .int t => .int (s * t) | d => d) src (by rw [List.length_map]; exact Nat.le_trans hf.three (by decide)) fun d hd => by
    obtain ⟨t, _, rfl⟩ := List.mem_map.mp hd
    refine ⟨(wipeC cs1 [7]).set 7 (.da (.int t)), rfl, ?_, ?_⟩
    · show ((wipeC cs1 [7]).set 7 (.da (.int t))).set 7 .un = _
      rw [List.set_set]
      show (cs1.set 7 .un).set 7 .un = cs1.set 7 .un
      rw [List.set_set]
    · have v5 : evVar 5 ((wipeC cs1 [7]).set 7 (.da (.int t))) = .val (.da (.int s)) ((wipeC cs1 [7]).set 7 (.da (.int t))) := by unfold evVar; rw [h5]
      have v7 : evVar 7 ((wipeC cs1 [7]).set 7 (.da (.int t))) = .val (.da (.int t)) ((wipeC cs1 [7]).set 7 (.da (.int t))) := by
        unfold evVar
        rw [List.getElem?_set_self (by rw [wipeC_length]; exact h7)]
      exact fz_da (np := 1) (e2_da (x := .int s) (y := .int t) v5 v7 (pMul_of (mulOk_l hs)))
  rw [hb, List.map_map] at l
  rw [List.map_map]
  exact l
theorem Few.map {ts : List Int} (h : Few ts) (f : Int → Int) : Few (ts.map f) := ⟨by rw [List.length_map]; exact h.two, by rw [List.length_map]; exact h.three⟩
theorem fit_small {s : Int} (h1 : -1000 ≤ s) (h2 : s ≤ 1000) : Fit s := by show s.natAbs < 2 ^ 64; omega
abbrev way0B : List Cell → SR := (sSeq (sAsg (eTup (aCons (e2 pSub (eCall 2 m__law_draw (aCons (evVar 0) (aCons (evC (.int 5)) aNil))) (evC (.int 2))) (aCons (e2 pSub (eCall 2 m__law_draw (aCons (evVar 0) (aCons (evC (.int 9)) aNil))) (evC (.int 4))) aNil))) (gT 2 (gsCons (gN 1 5) (gsCons (gN 1 6) gsNil))))
  (sSeq (sSet 1 4 (eLc [7] (iSeq 1 (evVar 1)) (gN 1 7) tTrue (fz 1 (e2 pMul (evVar 5) (evVar 7)))))
  (sSet 1 4 (e2 pAdd (eLst (aCons (fz 1 (e2 pAdd (e2 pIx (evVar 4) (evC (.int 0))) (evVar 6))) (aCons (e2 pSub (e2 pAdd (e2 pIx (evVar 4) (evC (.int 1))) (eCall 2 m__law_draw (aCons (evVar 0) (aCons (evC (.int 3)) aNil)))) (evC (.int 1))) aNil))) (eSl (evVar 4) (oSome (evC (.int 2))) oNone)))))
theorem way0 {n : Nat} {fs : List D} {one other : List Int} {w : Int} (hf : Fd n fs) (hn : n ≤ 1000) (h1 : Few one) : ∃ cs, way0B (T11 fs (.da (.list (one.map .int))) other w (.ol (other.map .int)) .un .un .un .un) = .nx cs ∧ Post (n + 6) other w cs := by
  obtain ⟨r1, f1, hf1, a1, b1, w1⟩ := draw_call (i := 0) (cs := T11 fs (.da (.list (one.map .int))) other w (.ol (other.map .int)) .un .un .un .un) (f := argD 5) hf rfl rfl (by decide) (by decide) (by omega)
  obtain ⟨r2, f2, hf2, a2, b2, w2⟩ := draw_call (i := 0) (cs := T11 f1 (.da (.list (one.map .int))) other w (.ol (other.map .int)) .un .un .un .un) (f := argD 9) hf1 rfl rfl (by decide) (by decide) (by omega)
  have t := eTup_of [.int (r1 - 2), .int (r2 - 4)] (aCons_val (e2_da (p := pSub) (x := .int r1) (y := .int 2) w1 rfl rfl) (aCons_val (e2_da (p := pSub) (x := .int r2) (y := .int 4) w2 rfl rfl) (rfl : aNil _ = .val [] _))) (by simp)
  have s1 : sAsg (eTup (aCons (e2 pSub (eCall 2 m__law_draw (aCons (evVar 0) (aCons (evC (.int 5)) aNil))) (evC (.int 2))) (aCons (e2 pSub (eCall 2 m__law_draw (aCons (evVar 0) (aCons (evC (.int 9)) aNil))) (evC (.int 4))) aNil))) (gT 2 (gsCons (gN 1 5) (gsCons (gN 1 6) gsNil))) (T11 fs (.da (.list (one.map .int))) other w (.ol (other.map .int)) .un .un .un .un) =
      .nx (T11 f2 (.da (.list (one.map .int))) other w (.ol (other.map .int)) (.da (.int (r1 - 2))) (.da (.int (r2 - 4))) .un .un) := by
    unfold sAsg
    rw [show eTup (aCons (e2 pSub (eCall 2 m__law_draw (aCons (evVar 0) (aCons (evC (.int 5)) aNil))) (evC (.int 2))) (aCons (e2 pSub (eCall 2 m__law_draw (aCons (evVar 0) (aCons (evC (.int 9)) aNil))) (evC (.int 4))) aNil)) _ = _ from t]
    rfl
  have sc := scale_ok (i := 1) (s := r1 - 2) (cs := T11 f2 (.da (.list (one.map .int))) other w (.ol (other.map .int)) (.da (.int (r1 - 2))) (.da (.int (r2 - 4))) .un .un) (fit_small (by omega) (by omega)) h1 rfl (fun _ => rfl) (by simp) rfl
  have s2 := sSet_ol (np := 1) (i := 4) sc
  have hm := h1.map ((r1 - 2) * ·)
  generalize hts : one.map ((r1 - 2) * ·) = made at *
  match made, hm with
  | m0 :: m1 :: mr, hm =>
    obtain ⟨r3, f3, hf3, a3, b3, w3⟩ := draw_call (i := 0) (cs := T11 f2 (.da (.list (one.map .int))) other w (.ol ((m0 :: m1 :: mr).map .int)) (.da (.int (r1 - 2))) (.da (.int (r2 - 4))) .un .un) (f := argD 3) hf2 rfl rfl (by decide) (by decide) (by omega)
    have g0 : e2 pIx (evVar 4) (evC (.int 0)) (T11 f2 (.da (.list (one.map .int))) other w (.ol ((m0 :: m1 :: mr).map .int)) (.da (.int (r1 - 2))) (.da (.int (r2 - 4))) .un .un) = .val (.da (.int m0)) (T11 f2 (.da (.list (one.map .int))) other w (.ol ((m0 :: m1 :: mr).map .int)) (.da (.int (r1 - 2))) (.da (.int (r2 - 4))) .un .un) := e2_val (f := evVar 4) (a := .bw 4) (b := .da (.int 0)) (x := .list ((m0 :: m1 :: mr).map .int)) (y := .int 0) rfl rfl rfl rfl (by simp [pIx])
    have g1 : e2 pIx (evVar 4) (evC (.int 1)) (T11 f2 (.da (.list (one.map .int))) other w (.ol ((m0 :: m1 :: mr).map .int)) (.da (.int (r1 - 2))) (.da (.int (r2 - 4))) .un .un) = .val (.da (.int m1)) (T11 f2 (.da (.list (one.map .int))) other w (.ol ((m0 :: m1 :: mr).map .int)) (.da (.int (r1 - 2))) (.da (.int (r2 - 4))) .un .un) := e2_val (f := evVar 4) (a := .bw 4) (b := .da (.int 1)) (x := .list ((m0 :: m1 :: mr).map .int)) (y := .int 1) rfl rfl rfl rfl (by simp [pIx])
    have ll := eLst_of [.int (m0 + (r2 - 4)), .int (m1 + r3 - 1)] (aCons_val (fz_da (np := 1) (e2_da (p := pAdd) (g := evVar 6) (x := .int m0) (y := .int (r2 - 4)) g0 rfl rfl))
      (aCons_val (e2_da (p := pSub) (x := .int (m1 + r3)) (y := .int 1) (e2_da (p := pAdd) (x := .int m1) (y := .int r3) g1 w3 rfl) rfl rfl) (rfl : aNil _ = .val [] _))) (by simp)
    have sl : eSl (evVar 4) (oSome (evC (.int 2))) oNone (T11 f3 (.da (.list (one.map .int))) other w (.ol ((m0 :: m1 :: mr).map .int)) (.da (.int (r1 - 2))) (.da (.int (r2 - 4))) .un .un) = .val (.ol (mr.map .int)) (T11 f3 (.da (.list (one.map .int))) other w (.ol ((m0 :: m1 :: mr).map .int)) (.da (.int (r1 - 2))) (.da (.int (r2 - 4))) .un .un) := by
      show ER.val (.ol (cutD ((m0 :: m1 :: mr).map PyData.int) (some (2 : Nat)) none)) _ = _
      rw [cut_from]
      rfl
    have hl : mr.length ≤ 1 := by have := hm.three; simp at this; omega
    have fin := sSet_ol (np := 1) (i := 4) (e2_val (p := pAdd) (x := .list [.int (m0 + (r2 - 4)), .int (m1 + r3 - 1)]) (y := .list (mr.map .int)) ll sl rfl rfl (pAdd_lists (by rw [List.length_map]; exact Nat.le_trans (show 2 + mr.length ≤ 3 by omega) (by decide))))
    exact ⟨_, sSeq_nx s1 (sSeq_nx s2 fin), f3, one, (m0 + (r2 - 4)) :: (m1 + r3 - 1) :: mr, _, _, _, _, _, _, rfl, hf3.mono (by omega), .da, .ol, h1, ⟨by simp, by simp; omega⟩⟩
  | [], hm => exact absurd rfl hm.ne
  | [m0], hm => have := hm.two; simp at this
abbrev way1B : List Cell → SR := (sSeq (sSet 1 5 (eCall 2 m__law_one (aCons (evVar 0) (aCons (fz 1 (eLst (aCons (evC (.int 2)) (aCons (evC (.int 3)) (aCons (evC (.int 6)) aNil))))) aNil))))
  (sPar 1 1 4 (aCons (eLc [7] (iSeq 1 (evVar 1)) (gN 1 7) tTrue (fz 1 (e2 pMul (evVar 5) (evVar 7)))) (aCons (eLc [7] (iSeq 1 (evVar 2)) (gN 1 7) tTrue (fz 1 (e2 pMul (evVar 5) (evVar 7)))) aNil))))
theorem way1 {n : Nat} {fs : List D} {one other : List Int} {w : Int} (hf : Fd n fs) (hn : n ≤ 1000) (h1 : Few one) (h2 : Few other) : ∃ cs, way1B (T11 fs (.da (.list (one.map .int))) other w (.ol (other.map .int)) .un .un .un .un) = .nx cs ∧ Post (n + 6) other w cs := by
  obtain ⟨d, f1, hf1, hd, w1⟩ := one_call (i := 0) (cs := T11 fs (.da (.list (one.map .int))) other w (.ol (other.map .int)) .un .un .un .un) (f := aCons (evVar 0) (aCons (fz 1 (eLst (aCons (evC (.int 2)) (aCons (evC (.int 3)) (aCons (evC (.int 6)) aNil))))) aNil)) (things := [.int 2, .int 3, .int 6]) hf rfl rfl (by decide) (by decide) (by omega)
  obtain ⟨s, rfl, s1, s2⟩ : ∃ s : Int, d = .int s ∧ 1 ≤ s ∧ s ≤ 30 := by
    simp only [List.mem_cons, List.not_mem_nil, or_false] at hd
    rcases hd with rfl | rfl | rfl <;> exact ⟨_, rfl, by decide, by decide⟩
  have c1 := scale_ok (i := 1) (s := s) (cs := T11 f1 (.da (.list (one.map .int))) other w (.ol (other.map .int)) (.da (.int s)) .un .un .un) (fit_small (by omega) (by omega)) h1 rfl (fun _ => rfl) (by simp) rfl
  have c2 := scale_ok (i := 2) (s := s) (cs := T11 f1 (.da (.list (one.map .int))) other w (.ol (other.map .int)) (.da (.int s)) .un .un .un) (fit_small (by omega) (by omega)) h2 rfl (fun _ => rfl) (by simp) rfl
  have p := sPar_of (np := 1) (i := 1) (j := 4) (aCons_val c1 (aCons_val c2 (rfl : aNil _ = .val [] _))) rfl rfl (by decide) (by decide)
  exact ⟨_, sSeq_nx (sSet_da (np := 1) (i := 5) w1) p, f1, one.map (s * ·), other.map (s * ·), _, _, _, _, _, _, rfl, hf1.mono (by omega), .ol, .ol, h1.map _, h2.map _⟩
abbrev way2B : List Cell → SR := (sPar 1 1 4 (aCons (eLst (aCons (fz 1 (e2 pMul (evC (.int 2)) (eCall 2 m__law_draw (aCons (evVar 0) (aCons (evC (.int 3)) aNil))))) (aCons (evC (.int 1)) (aCons (fz 1 (eCall 2 m__law_one (aCons (evVar 0) (aCons (fz 1 (eLst (aCons (evC (.int 1)) (aCons (e1 pNeg (evC (.int 1))) aNil)))) aNil)))) aNil)))) (aCons (eLst (aCons (e2 pSub (e2 pMul (evC (.int 2)) (eCall 2 m__law_draw (aCons (evVar 0) (aCons (evC (.int 5)) aNil)))) (evC (.int 4))) (aCons (fz 1 (eCall 2 m__law_one (aCons (evVar 0) (aCons (fz 1 (eLst (aCons (evC (.int 1)) (aCons (evC (.int 3)) aNil)))) aNil)))) (aCons (fz 1 (eCall 2 m__law_one (aCons (evVar 0) (aCons (fz 1 (eLst (aCons (evC (.int 1)) (aCons (e1 pNeg (evC (.int 1))) (aCons (evC (.int 3)) aNil))))) aNil)))) aNil)))) aNil)))
theorem way2 {n : Nat} {fs : List D} {one other : List Int} {w : Int} (hf : Fd n fs) (hn : n ≤ 1000) : ∃ cs, way2B (T11 fs (.da (.list (one.map .int))) other w (.ol (other.map .int)) .un .un .un .un) = .nx cs ∧ Post (n + 6) other w cs := by
  have intOf : ∀ {d : D} {l : List Int}, d ∈ l.map PyData.int → ∃ i, d = .int i := fun h => by
    obtain ⟨i, _, rfl⟩ := List.mem_map.mp h
    exact ⟨i, rfl⟩
  let S (fs : List D) := T11 fs (.da (.list (one.map .int))) other w (.ol (other.map .int)) .un .un .un .un
  obtain ⟨r1, f1, hf1, a1, b1, w1⟩ := draw_call (i := 0) (cs := S fs) (f := argD 3) hf rfl rfl (by decide) (by decide) (by omega)
  obtain ⟨d2, f2, hf2, hd2, w2⟩ := one_call (i := 0) (cs := S f1) (f := aCons (evVar 0) (aCons (fz 1 (eLst (aCons (evC (.int 1)) (aCons (e1 pNeg (evC (.int 1))) aNil)))) aNil)) (things := [1, -1].map .int) hf1 rfl rfl (by decide) (by decide) (by omega)
  obtain ⟨r3, f3, hf3, a3, b3, w3⟩ := draw_call (i := 0) (cs := S f2) (f := argD 5) hf2 rfl rfl (by decide) (by decide) (by omega)
  obtain ⟨d4, f4, hf4, hd4, w4⟩ := one_call (i := 0) (cs := S f3) (f := aCons (evVar 0) (aCons (fz 1 (eLst (aCons (evC (.int 1)) (aCons (evC (.int 3)) aNil)))) aNil)) (things := [1, 3].map .int) hf3 rfl rfl (by decide) (by decide) (by omega)
  obtain ⟨d5, f5, hf5, hd5, w5⟩ := one_call (i := 0) (cs := S f4) (f := aCons (evVar 0) (aCons (fz 1 (eLst (aCons (evC (.int 1)) (aCons (e1 pNeg (evC (.int 1))) (aCons (evC (.int 3)) aNil))))) aNil)) (things := [1, -1, 3].map .int) hf4 rfl rfl (by decide) (by decide) (by omega)
  obtain ⟨i2, rfl⟩ := intOf hd2
  obtain ⟨i4, rfl⟩ := intOf hd4
  obtain ⟨i5, rfl⟩ := intOf hd5
  have l1 := eLst_of [.int (2 * r1), .int 1, .int i2] (aCons_val (fz_da (np := 1) (e2_da (f := evC (.int 2)) (x := .int 2) (y := .int r1) rfl w1 (pMul_of (mulOk_l (by decide))))) (aCons_val (f := evC (.int 1)) rfl (aCons_val (fz_da (np := 1) w2) (rfl : aNil _ = .val [] _)))) (by simp)
  have l2 := eLst_of [.int (2 * r3 - 4), .int i4, .int i5] (aCons_val (e2_da (p := pSub) (x := .int (2 * r3)) (y := .int 4) (e2_da (f := evC (.int 2)) (x := .int 2) (y := .int r3) rfl w3 (pMul_of (mulOk_l (by decide)))) rfl rfl) (aCons_val (fz_da (np := 1) w4) (aCons_val (fz_da (np := 1) w5) (rfl : aNil _ = .val [] _)))) (by simp)
  have p := sPar_of (np := 1) (i := 1) (j := 4) (aCons_val l1 (aCons_val l2 (rfl : aNil _ = .val [] _))) rfl rfl (by decide) (by decide)
  exact ⟨_, p, f5, [2 * r1, 1, i2], [2 * r3 - 4, i4, i5], _, _, _, _, _, _, rfl, hf5.mono (by omega), .ol, .ol, ⟨by simp, by simp⟩, ⟨by simp, by simp⟩⟩
end K76
set_option Elab.async false
set_option linter.all false
set_option maxRecDepth 100000
set_option maxHeartbeats 4000000
/-! K76K: two tuples of tops, whole. -/
namespace K76
open PySem L2 TL
local macro_rules | `(tactic| trivial) => `(tactic| simp [callM, sSeq, sIf, sSet, TL.canSet_eq, sRet, sRetN, sNext, evVar, evC, e2, e1, en, k2, k1, kn, pkAll, ofO, pAdd, pSub, pCmp, pNeg, tU, tOf, truD, TL.tB, bOf, TL.tAnd, TL.tOr, TL.tNot, vAnd, vOr, vNot, vIf, fz, aNil, aCons, sPar, sPar3, put1, flatC, gN, gT, gsCons, gsNil, sAsg, vIsi, eTup, eLst, dAll, eCall, callE, isT_int_int, isT_int_bool, isT_int_tuple, isT_tuple_tuple, isT_none_int, isT_bool_int, isT_bool_bool, isT_str_int, isT_tuple_int, t3, e3, qCmp, sRaise, sDrop, pMul, pListOf, iRevL, iEnumA, eSl, oNone, oSome, pSl, OR.toE_val, pGcd, pInt2, pAbs, abs_int, pMod, pNe, pEq, eqF, pLen, pInt, pIx, iSeq, wipeC, backC, cut_to, cut_from, cut_to', cut_from', eRep, pRevA, iRange1, iRange2, *])
abbrev way3B : List Cell → SR := (sSeq (sSet 1 8 (eLst (aCons (e2 pSub (eCall 2 m__law_draw (aCons (evVar 0) (aCons (evC (.int 7)) aNil))) (evC (.int 3))) (aCons (evC (.int 1)) aNil))))
  (sPar 1 1 4 (aCons (eCall 2 m__law_times (aCons (fz 1 (evVar 8)) (aCons (fz 1 (eLst (aCons (e2 pSub (eCall 2 m__law_draw (aCons (evVar 0) (aCons (evC (.int 5)) aNil))) (evC (.int 2))) (aCons (fz 1 (eCall 2 m__law_one (aCons (evVar 0) (aCons (fz 1 (eLst (aCons (evC (.int 1)) (aCons (evC (.int 2)) aNil)))) aNil)))) aNil)))) aNil))) (aCons (eCall 2 m__law_one (aCons (evVar 0) (aCons (fz 1 (eLst (aCons (fz 1 (evVar 8)) (aCons (fz 1 (eCall 2 m__law_times (aCons (fz 1 (evVar 8)) (aCons (fz 1 (eLst (aCons (e2 pSub (eCall 2 m__law_draw (aCons (evVar 0) (aCons (evC (.int 5)) aNil))) (evC (.int 2))) (aCons (evC (.int 1)) aNil)))) aNil)))) (aCons (fz 1 (evVar 2)) aNil))))) aNil))) aNil))))
theorem way3 {n : Nat} {fs : List D} {one other : List Int} {w : Int} (hf : Fd n fs) (hn : n ≤ 1000) (h2 : Few other) : ∃ cs, way3B (T11 fs (.da (.list (one.map .int))) other w (.ol (other.map .int)) .un .un .un .un) = .nx cs ∧ Post (n + 6) other w cs := by
  let S (fs : List D) (c : Cell) := T11 fs (.da (.list (one.map .int))) other w (.ol (other.map .int)) .un .un .un c
  obtain ⟨r1, f1, hf1, a1, b1, w1⟩ := draw_call (i := 0) (cs := S fs .un) (f := argD 7) hf rfl rfl (by decide) (by decide) (by omega)
  have l1 := eLst_of [.int (r1 - 3), .int 1] (aCons_val (e2_da (p := pSub) (x := .int r1) (y := .int 3) w1 rfl rfl) (rfl : aCons (evC (.int 1)) aNil _ = .val [.da (.int 1)] _)) (by simp)
  have s1 := sSet_ol (np := 1) (i := 8) l1
  let pt : List Int := [r1 - 3, 1]
  have hpt : ∀ t ∈ pt, Fit t := fun t ht => by
    simp only [pt, List.mem_cons, List.not_mem_nil, or_false] at ht
    rcases ht with rfl | rfl
    · exact fit_small (by omega) (by omega)
    · exact fit_small (by decide) (by decide)
  let P : Cell := .da (.list (pt.map .int))
  obtain ⟨r2, f2, hf2, a2, b2, w2⟩ := draw_call (i := 0) (cs := S f1 P) (f := argD 5) hf1 rfl rfl (by decide) (by decide) (by omega)
  obtain ⟨d3, f3, hf3, hd3, w3⟩ := one_call (i := 0) (cs := S f2 P) (f := aCons (evVar 0) (aCons (fz 1 (eLst (aCons (evC (.int 1)) (aCons (evC (.int 2)) aNil)))) aNil)) (things := [1, 2].map .int) hf2 rfl rfl (by decide) (by decide) (by omega)
  obtain ⟨i3, rfl⟩ : ∃ i, d3 = .int i := by
    obtain ⟨i, _, rfl⟩ := List.mem_map.mp hd3
    exact ⟨i, rfl⟩
  have l2 := fz_ol (np := 1) (eLst_of [.int (r2 - 2), .int i3] (aCons_val (e2_da (p := pSub) (x := .int r2) (y := .int 2) w2 rfl rfl) (aCons_val (fz_da (np := 1) w3) (rfl : aNil _ = .val [] _))) (by simp))
  obtain ⟨p1, hp1, t1⟩ := law_times_ok (p := pt) (q := [r2 - 2, i3]) rfl rfl hpt
  have c1 := eCall_da (n := 2) [.list (pt.map .int), .list ([r2 - 2, i3].map .int)] (aCons_val (f := fz 1 (evVar 8)) (cs := S f1 (.ol (pt.map .int))) (cs1 := S f1 P) rfl (aCons_val l2 (rfl : aNil _ = .val [] _))) rfl t1
  obtain ⟨r4, f4, hf4, a4, b4, w4⟩ := draw_call (i := 0) (cs := S f3 P) (f := argD 5) hf3 rfl rfl (by decide) (by decide) (by omega)
  have l4 := fz_ol (np := 1) (eLst_of [.int (r4 - 2), .int 1] (aCons_val (e2_da (p := pSub) (x := .int r4) (y := .int 2) w4 rfl rfl) (rfl : aCons (evC (.int 1)) aNil _ = .val [.da (.int 1)] _)) (by simp))
  obtain ⟨p2, hp2, t2⟩ := law_times_ok (p := pt) (q := [r4 - 2, 1]) rfl rfl hpt
  have c2 := eCall_da (n := 2) [.list (pt.map .int), .list ([r4 - 2, 1].map .int)] (aCons_val (f := fz 1 (evVar 8)) (cs := S f3 P) (cs1 := S f3 P) rfl (aCons_val l4 (rfl : aNil _ = .val [] _))) rfl t2
  have l5 := fz_ol (np := 1) (eLst_of [.list (pt.map .int), .list (p2.map .int), .list (other.map .int)] (aCons_val (f := fz 1 (evVar 8)) (cs := S f3 P) (cs1 := S f3 P) rfl (aCons_val (fz_ol (np := 1) c2) (rfl : aCons (fz 1 (evVar 2)) aNil _ = .val [.da (.list (other.map .int))] _))) (by simp))
  obtain ⟨d6, f6, hf6, hd6, w6⟩ := one_call (i := 0) (cs := S f3 P) (f := aCons (evVar 0) (aCons (fz 1 (eLst (aCons (fz 1 (evVar 8)) (aCons (fz 1 (eCall 2 m__law_times (aCons (fz 1 (evVar 8)) (aCons (fz 1 (eLst (aCons (e2 pSub (eCall 2 m__law_draw (aCons (evVar 0) (aCons (evC (.int 5)) aNil))) (evC (.int 2))) (aCons (evC (.int 1)) aNil)))) aNil)))) (aCons (fz 1 (evVar 2)) aNil))))) aNil)) (things := [.list (pt.map .int), .list (p2.map .int), .list (other.map .int)]) hf4 rfl (aCons_val (f := evVar 0) rfl (aCons_val l5 (rfl : aNil _ = .val [] _))) (by simp) (by simp) (by omega)
  obtain ⟨made, rfl, hm⟩ : ∃ made : List Int, d6 = .list (made.map .int) ∧ Few made := by
    simp only [List.mem_cons, List.not_mem_nil, or_false] at hd6
    rcases hd6 with rfl | rfl | rfl
    · exact ⟨pt, rfl, by simp [pt], by simp [pt]⟩
    · exact ⟨p2, rfl, by omega, by omega⟩
    · exact ⟨other, rfl, h2⟩
  have p := sPar_of (np := 1) (i := 1) (j := 4) (aCons_val c1 (aCons_val w6 (rfl : aNil _ = .val [] _))) rfl rfl (by decide) (by decide)
  exact ⟨_, sSeq_nx s1 p, f6, p1, made, _, _, _, _, _, _, rfl, hf6.mono (by omega), .ol, .da, ⟨by omega, by omega⟩, hm⟩
theorem sSeq_4 {A B C D R : List Cell → SR} {cs0 cs1 : List Cell} {r : SR} (e : sSeq A (sSeq B (sSeq C D)) cs0 = .nx cs1) (h : R cs1 = r) : sSeq A (sSeq B (sSeq C (sSeq D R))) cs0 = r := by
  rw [show sSeq A (sSeq B (sSeq C (sSeq D R))) = sSeq (sSeq A (sSeq B (sSeq C D))) R by rw [sSeq_assoc, sSeq_assoc, sSeq_assoc]]
  exact sSeq_nx e h
theorem law_two_ok {n : Nat} {fs : List D} (hf : Fd n fs) (hn : n ≤ 100) : ∃ (ts us : List Int) (fs' : List D), Fd (n + 18) fs' ∧ Tops ts ∧ Tops us ∧ m__law_two [.ol fs] = .val (.ol [dT ts, dT us]) [.ol fs'] := by
  let U : List Cell := [.un, .un, .un, .un, .un, .un, .un, .un, .un, .un]
  obtain ⟨one, f1, hf1, fo, t1⟩ := law_tops_ok hf (by omega)
  have c1 := fz_ol (np := 1) (eCall_bw (n := 1) (i := 0) (f := aCons (evVar 0) aNil) (cs := .ol fs :: U) [] rfl rfl rfl t1)
  obtain ⟨other, f2, hf2, fp, t2⟩ := law_tops_ok hf1 (by omega)
  have c2 := fz_ol (np := 1) (eCall_bw (n := 1) (i := 0) (f := aCons (evVar 0) aNil) (cs := .ol f1 :: U) [] rfl rfl rfl t2)
  obtain ⟨w, f3, hf3, a3, b3, w3⟩ := draw_call (i := 0) (cs := .ol f2 :: U) (f := argD 6) hf2 rfl rfl (by decide) (by decide) (by omega)
  have args := aCons_val c1 (aCons_val c2 (aCons_val (fz_da (np := 1) w3) (rfl : aNil _ = .val [] _)))
  have s1 : sPar3 1 1 2 3 (aCons (fz 1 (eCall 1 m__law_tops (aCons (evVar 0) aNil))) (aCons (fz 1 (eCall 1 m__law_tops (aCons (evVar 0) aNil))) (aCons (fz 1 (eCall 2 m__law_draw (aCons (evVar 0) (aCons (evC (.int 6)) aNil)))) aNil))) (.ol fs :: U) = .nx [.ol f3, .da (.list (one.map .int)), .da (.list (other.map .int)), .da (.int w), .un, .un, .un, .un, .un, .un, .un] := by
    unfold sPar3
    rw [show (aCons (fz 1 (eCall 1 m__law_tops (aCons (evVar 0) aNil))) (aCons (fz 1 (eCall 1 m__law_tops (aCons (evVar 0) aNil))) (aCons (fz 1 (eCall 2 m__law_draw (aCons (evVar 0) (aCons (evC (.int 6)) aNil)))) aNil))) _ = _ from args]
    rfl
  have s2 : sSet 1 4 (en pListOf (aCons (evVar 2) aNil)) [.ol f3, .da (.list (one.map .int)), .da (.list (other.map .int)), .da (.int w), .un, .un, .un, .un, .un, .un, .un] = .nx (T11 f3 (.da (.list (one.map .int))) other w (.ol (other.map .int)) .un .un .un .un) := rfl
  have hp : ∃ cs, (fun cs0 => sSeq (sIf (tB (e2 pEq (evVar 3) (evC (.int 0)))) way0B sNext) (sSeq (sIf (tB (e2 pEq (evVar 3) (evC (.int 1)))) way1B sNext) (sSeq (sIf (tB (e2 pEq (evVar 3) (evC (.int 2)))) way2B sNext) (sIf (tB (e2 pEq (evVar 3) (evC (.int 3)))) way3B sNext))) cs0) (T11 f3 (.da (.list (one.map .int))) other w (.ol (other.map .int)) .un .un .un .un) = .nx cs ∧ Post (n + 17) other w cs := by
    have at3 : ∀ {k : Nat} {cs : List Cell}, Post k other w cs → cs[3]? = some (.da (.int w)) := fun h => by
      obtain ⟨fs, one, made, c1, c4, x5, x6, x7, x8, rfl, _⟩ := h.ex
      rfl
    by_cases h0 : w = 0
    · subst h0
      obtain ⟨cs, e, p⟩ := way0 (w := 0) (other := other) (hf3.mono (show n + 5 + 5 + 1 ≤ n + 11 by omega)) (by omega) fo
      exact ⟨cs, sSeq_nx (take_if rfl e) (sSeq_nx (skip_if (by decide) (at3 p)) (sSeq_nx (skip_if (by decide) (at3 p)) (skip_if (by decide) (at3 p)))), p⟩
    · by_cases h1 : w = 1
      · subst h1
        obtain ⟨cs, e, p⟩ := way1 (w := 1) (other := other) (hf3.mono (show n + 5 + 5 + 1 ≤ n + 11 by omega)) (by omega) fo fp
        exact ⟨cs, sSeq_nx (skip_if (by decide) rfl) (sSeq_nx (take_if rfl e) (sSeq_nx (skip_if (by decide) (at3 p)) (skip_if (by decide) (at3 p)))), p⟩
      · by_cases h2 : w = 2
        · subst h2
          obtain ⟨cs, e, p⟩ := way2 (w := 2) (one := one) (other := other) (hf3.mono (show n + 5 + 5 + 1 ≤ n + 11 by omega)) (by omega)
          exact ⟨cs, sSeq_nx (skip_if (by decide) rfl) (sSeq_nx (skip_if (by decide) rfl) (sSeq_nx (take_if rfl e) (skip_if (by decide) (at3 p)))), p⟩
        · by_cases h3 : w = 3
          · subst h3
            obtain ⟨cs, e, p⟩ := way3 (w := 3) (one := one) (other := other) (hf3.mono (show n + 5 + 5 + 1 ≤ n + 11 by omega)) (by omega) fp
            exact ⟨cs, sSeq_nx (skip_if (by decide) rfl) (sSeq_nx (skip_if (by decide) rfl) (sSeq_nx (skip_if (by decide) rfl) (take_if rfl e))), p⟩
          · exact ⟨_, sSeq_nx (skip_if h0 rfl) (sSeq_nx (skip_if h1 rfl) (sSeq_nx (skip_if h2 rfl) (skip_if h3 rfl))), f3, one, other, _, _, _, _, _, _, rfl, hf3.mono (by omega), .da, .ol, fo, fp⟩
  obtain ⟨cs, e, f4, one', made, c1', c4', x5, x6, x7, x8, rfl, hf4, i1, i4, fo', fm⟩ := hp
  have src : iSeq 1 (eTup (aCons (fz 1 (evVar 1)) (aCons (fz 1 (evVar 4)) aNil))) (T11 f4 c1' other w c4' x5 x6 x7 x8) = .val [.list (one'.map .int), .list (made.map .int)] (T11 f4 (.da (.list (one'.map .int))) other w (.da (.list (made.map .int))) x5 x6 x7 x8) := by
    cases i1 <;> cases i4 <;> rfl
  let C (c : Cell) : List Cell := [.ol f4, .da (.list (one'.map .int)), .da (.list (other.map .int)), .da (.int w), .da (.list (made.map .int)), x5, x6, x7, x8, .un, c]
  obtain ⟨es, cs', g, hl, hps, rfl⟩ := lcGo_inv (vs := [10]) (tgt := gN 1 10) (tt := tTrue) (f := fz 1 (vIf (tU (eCall 1 m__law_fits (aCons (fz 1 (evVar 10)) aNil))) (en pTupOf (aCons (evVar 10) aNil)) (eTup (aCons (evC (.int 1)) (aCons (evC (.int 2)) aNil))))) (fun _ cs => cs = C .un) (fun d => ∃ ts, Tops ts ∧ d = dT ts) 2
    [.list (one'.map .int), .list (made.map .int)] 0 (C .un) (by simp) (fun i d cs hi hd hI => by
      subst hI
      obtain ⟨ts, rfl, ft⟩ : ∃ ts : List Int, d = .list (ts.map .int) ∧ Few ts := by
        simp only [List.mem_cons, List.not_mem_nil, or_false] at hd
        rcases hd with rfl | rfl
        · exact ⟨one', rfl, fo'⟩
        · exact ⟨made, rfl, fm⟩
      obtain ⟨b, eb, hb⟩ := law_fits_ok (.lst (ts := ts)) ft.ne (by have := ft.three; omega)
      have k := tU_b (eCall_da (n := 1) (f := aCons (fz 1 (evVar 10)) aNil) (cs := C (.da (.list (ts.map .int)))) [.list (ts.map .int)] rfl rfl eb)
      cases b with
      | true => exact ⟨C (.da (.list (ts.map .int))), C (.da (.list (ts.map .int))), dT ts, rfl, rfl, fz_da (np := 1) (vIf_true k rfl), ⟨ts, hb rfl, rfl⟩, rfl⟩
      | false => exact ⟨C (.da (.list (ts.map .int))), C (.da (.list (ts.map .int))), dT [1, 2], rfl, rfl, fz_da (np := 1) (vIf_false k rfl), ⟨[1, 2], ⟨by decide, by decide, fun t ht => by simp at ht; omega, fun t ht => by simp at ht; omega⟩, rfl⟩, rfl⟩) rfl
  match es, hl, hps, g with
  | [e1, e2], _, hps, g =>
    obtain ⟨ts, ht, rfl⟩ := hps e1 (by simp)
    obtain ⟨us, hu, rfl⟩ := hps e2 (by simp)
    have L := sSet_ol (np := 1) (i := 9) (eLc_of (vs := [10]) src (of_eq_true sz2) g)
    let Z (f : List D) : List Cell := [.ol f, .da (.list (one'.map .int)), .da (.list (other.map .int)), .da (.int w), .da (.list (made.map .int)), x5, x6, x7, x8, .ol [dT ts, dT us], .un]
    obtain ⟨r, f5, hf5, a5, b5, w5⟩ := draw_call (i := 0) (cs := Z f4) (f := argD 2) hf4 rfl rfl (by decide) (by decide) (by omega)
    have tt : TL.tB (TL.e2 pEq (eCall 2 m__law_draw (aCons (evVar 0) (aCons (evC (.int 2)) aNil))) (evC (.int 0))) (Z f4) = .val (decide (r = 0)) (Z f5) := tB_val (e2_da (x := .int r) (y := .int 0) w5 rfl rfl)
    have pre : ∀ {cs'' : List Cell} {ds : List D}, sRet 1 (vIf (TL.tB (TL.e2 pEq (eCall 2 m__law_draw (aCons (evVar 0) (aCons (evC (.int 2)) aNil))) (evC (.int 0)))) (evVar 9) (e1 pRevA (evVar 9))) (Z f4) = .rt (.ol ds) (.ol f5 :: cs'') → m__law_two [.ol fs] = .val (.ol ds) [.ol f5] := fun {cs'' ds} h => by
      refine callM_ol (nl := 10) (cs := .ol f5 :: cs'') (sSeq_nx s1 (sSeq_nx s2 ?_))
      exact sSeq_4 e (sSeq_nx L h)
    by_cases hr : r = 0
    · rw [decide_eq_true hr] at tt
      exact ⟨ts, us, f5, hf5, ht, hu, pre (sRet_bw (np := 1) (i := 9) (ds := [dT ts, dT us]) (vIf_true (f := evVar 9) (g := e1 pRevA (evVar 9)) tt rfl) rfl (by decide))⟩
    · rw [decide_eq_false hr] at tt
      exact ⟨us, ts, f5, hf5, hu, ht, pre (sRet_ol (vIf_false (f := evVar 9) (g := e1 pRevA (evVar 9)) tt rfl))⟩
end K76
set_option Elab.async false
set_option linter.all false
set_option maxRecDepth 100000
set_option maxHeartbeats 4000000
/-! K76_1: what is told. -/
namespace K76
open PySem L2 TL
local macro_rules | `(tactic| trivial) => `(tactic| simp [callM, sSeq, sIf, sSet, TL.canSet_eq, sRet, sRetN, sNext, evVar, evC, e2, e1, en, k2, k1, kn, pkAll, ofO, pAdd, pSub, pCmp, pNeg, tU, tOf, truD, TL.tB, bOf, TL.tAnd, TL.tOr, TL.tNot, vAnd, vOr, vNot, vIf, fz, aNil, aCons, sPar, sPar3, put1, flatC, gN, gT, gsCons, gsNil, sAsg, vIsi, eTup, eLst, dAll, eCall, callE, isT_int_int, isT_int_bool, isT_int_tuple, isT_tuple_tuple, isT_none_int, isT_bool_int, isT_bool_bool, isT_str_int, isT_tuple_int, t3, e3, qCmp, sRaise, sDrop, pMul, pListOf, iRevL, iEnumA, eSl, oNone, oSome, pSl, OR.toE_val, pGcd, pInt2, pAbs, abs_int, pMod, pNe, pEq, eqF, pLen, pInt, pIx, iSeq, wipeC, backC, cut_to, cut_from, cut_to', cut_from', eRep, pRevA, iRange1, iRange2, *])
noncomputable section
abbrev d5 (w : Int) (m : Int) (rs ts us : List Int) (d : D) : List D := [.int w, dS m rs, dP ts, dP us, d]
abbrev c11 (w : Int) (m : Int) (rs ts us : List Int) (d : D) (f k e ks a b : Cell) : List Cell := [.da (.int w), .da (dS m rs), .da (dP ts), .da (dP us), .da d, f, k, e, ks, a, b]
abbrev none2 : D := .tuple [.str "none", .none]
abbrev toldD (x : D) : D := .tuple [.str "told", x]
abbrev errD (x : Str) : D := .tuple [.str "error", .str x]
/-- the word for an error -/
def wordOf (nm : Str) : Option Str := [(("NoChoice" : Str), ("choice" : Str)), ("TooMany", "many"), ("BadNumber", "number")].lookup nm
abbrev tryB : List Cell → SR := (sIf (tB (e2 pEq (evVar 0) (evC (.int 0)))) (sSet 5 5 (eTup (aCons (evC (.str "told")) (aCons (fz 5 (eCall 3 m_common_values (aCons (fz 5 (evVar 1)) (aCons (fz 5 (evVar 2)) (aCons (fz 5 (evVar 3)) aNil))))) aNil)))) (sIf (tB (e2 pEq (evVar 0) (evC (.int 1)))) (sSet 5 5 (eTup (aCons (evC (.str "told")) (aCons (fz 5 (eCall 4 m_common_share (aCons (fz 5 (evVar 1)) (aCons (fz 5 (evVar 2)) (aCons (fz 5 (evVar 3)) (aCons (fz 5 (evVar 4)) aNil)))))) aNil)))) (sSet 5 5 (eTup (aCons (evC (.str "told")) (aCons (fz 5 (eCall 3 m_least_coprime (aCons (fz 5 (evVar 1)) (aCons (fz 5 (evVar 2)) (aCons (fz 5 (evVar 3)) aNil))))) aNil))))))
theorem told_val {w m : Int} {rs ts us : List Int} {d x : D} (h : tryB (c11 w m rs ts us d (.da none2) (.da .none) .un .un .un .un) = .nx (c11 w m rs ts us d (.da (toldD x)) (.da .none) .un .un .un .un)) : m__law_told ((d5 w m rs ts us d).map Cell.da) = .val (.da (toldD x)) ((d5 w m rs ts us d).map Cell.da) :=
  callM_rt (nl := 6) (ds := d5 w m rs ts us d) (sSeq_nx (cs1 := c11 w m rs ts us d (.da none2) (.da .none) .un .un .un .un) rfl (sSeq_nx (sTry_nx h) (sSeq_rt (cs1 := c11 w m rs ts us d (.da (toldD x)) (.da .none) .un .un .un .un) (sIf_true (cs1 := c11 w m rs ts us d (.da (toldD x)) (.da .none) .un .un .un .un) rfl rfl))))
theorem told_err {w m : Int} {rs ts us : List Int} {d : D} {nm x : Str} (hx : wordOf nm = some x) (h : tryB (c11 w m rs ts us d (.da none2) (.da .none) .un .un .un .un) = .err ⟨nm, none⟩ (c11 w m rs ts us d (.da none2) (.da .none) .un .un .un .un)) : m__law_told ((d5 w m rs ts us d).map Cell.da) = .val (.da (errD x)) ((d5 w m rs ts us d).map Cell.da) := by
  have cases3 : (nm = "NoChoice" ∧ x = "choice") ∨ (nm = "TooMany" ∧ x = "many") ∨ (nm = "BadNumber" ∧ x = "number") := by
    unfold wordOf at hx
    simp only [List.lookup_cons] at hx
    split at hx
    · rename_i e
      exact .inl ⟨eq_of_beq e, (Option.some.inj hx).symm⟩
    · split at hx
      · rename_i e
        exact .inr (.inl ⟨eq_of_beq e, (Option.some.inj hx).symm⟩)
      · split at hx
        · rename_i e
          exact .inr (.inr ⟨eq_of_beq e, (Option.some.inj hx).symm⟩)
        · simp at hx
  obtain ⟨hh, b1, b2, b3, h1, h2, h3, hf⟩ : hit_WholeError nm = some true ∧ ∃ b1 b2 b3 : Bool, hx_NoChoice nm = some b1 ∧ hx_TooMany nm = some b2 ∧ hx_BadNumber nm = some b3 ∧ (∀ cs, eLc [9, 10] (iZipL (aCons (fz 5 (eLst (aCons (evC (.str "choice")) (aCons (evC (.str "many")) (aCons (evC (.str "number")) aNil))))) (aCons (fz 5 (evVar 8)) aNil))) (gT 2 (gsCons (gN 5 9) (gsCons (gN 5 10) gsNil))) (tU (evVar 10)) (fz 5 (evVar 9)) (c11 w m rs ts us d (.da none2) (.ex nm) .un (.ol [.bool b1, .bool b2, .bool b3]) .un .un) = .val (.ol [.str x]) cs ∨ cs ≠ c11 w m rs ts us d (.da none2) (.ex nm) .un (.da (.list [.bool b1, .bool b2, .bool b3])) .un .un) ∧ pJoin (.str "") (.list [.str x]) = some (.da (.str x)) := by
    rcases cases3 with ⟨rfl, rfl⟩ | ⟨rfl, rfl⟩ | ⟨rfl, rfl⟩
    · refine ⟨by decide +kernel, true, false, false, by decide +kernel, by decide +kernel, by decide +kernel, fun cs => ?_, pJoin_of (ys := ["choice"]) (by decide +kernel) (by decide +kernel)⟩
      by_cases z : cs = c11 w m rs ts us d (.da none2) (.ex "NoChoice") .un (.da (.list [.bool true, .bool false, .bool false])) .un .un
      · subst z; left; rfl
      · exact .inr z
    · refine ⟨by decide +kernel, false, true, false, by decide +kernel, by decide +kernel, by decide +kernel, fun cs => ?_, pJoin_of (ys := ["many"]) (by decide +kernel) (by decide +kernel)⟩
      by_cases z : cs = c11 w m rs ts us d (.da none2) (.ex "TooMany") .un (.da (.list [.bool false, .bool true, .bool false])) .un .un
      · subst z; left; rfl
      · exact .inr z
    · refine ⟨by decide +kernel, false, false, true, by decide +kernel, by decide +kernel, by decide +kernel, fun cs => ?_, pJoin_of (ys := ["number"]) (by decide +kernel) (by decide +kernel)⟩
      by_cases z : cs = c11 w m rs ts us d (.da none2) (.ex "BadNumber") .un (.da (.list [.bool false, .bool false, .bool true])) .un .un
      · subst z; left; rfl
      · exact .inr z
  have hl := (hf.1 (c11 w m rs ts us d (.da none2) (.ex nm) .un (.da (.list [.bool b1, .bool b2, .bool b3])) .un .un)).resolve_right (fun z => z rfl)
  have st := sTry_hit (np := 5) (i := 7) (g := sSet 5 6 (evVar 7)) h hh (by decide) rfl
  let Z : List Cell := c11 w m rs ts us d (.da none2) (.ex nm) .un .un .un .un
  have v6 : evVar 6 Z = .val (.ex nm) Z := rfl
  have ks := sSet_ol (np := 5) (i := 8) (eLst_of [.bool b1, .bool b2, .bool b3] (aCons_val (fz_da (np := 5) (vIsi_ex (hd := fun _ => none) v6 h1)) (aCons_val (fz_da (np := 5) (vIsi_ex (hd := fun _ => none) v6 h2)) (aCons_val (fz_da (np := 5) (vIsi_ex (hd := fun _ => none) v6 h3)) (rfl : aNil _ = .val [] _)))) (by simp))
  have jn := fz_da (np := 5) (eJoin_ol (f := evC (.str "")) rfl hl hf.2)
  have t := eTup_of [.str "error", .str x] (aCons_val (f := evC (.str "error")) rfl (aCons_val jn (rfl : aNil _ = .val [] _))) (by simp)
  exact callM_rt (nl := 6) (ds := d5 w m rs ts us d) (sSeq_nx (cs1 := c11 w m rs ts us d (.da none2) (.da .none) .un .un .un .un) rfl (sSeq_nx st (sSeq_nx (sIf_false (cs1 := Z) rfl rfl) (sSeq_nx ks (sRet_da t)))))
abbrev a3 : List Cell → AR := aCons (fz 5 (evVar 1)) (aCons (fz 5 (evVar 2)) (aCons (fz 5 (evVar 3)) aNil))
abbrev a4 : List Cell → AR := aCons (fz 5 (evVar 1)) (aCons (fz 5 (evVar 2)) (aCons (fz 5 (evVar 3)) (aCons (fz 5 (evVar 4)) aNil)))
abbrev z11 (w : Int) (m : Int) (rs ts us : List Int) (d : D) : List Cell := c11 w m rs ts us d (.da none2) (.da .none) .un .un .un .un
theorem told0_err {m : Int} {rs ts us : List Int} {d : D} {nm x : Str} {os : List Cell} (hx : wordOf nm = some x) (h : m_common_values (c3 m rs ts us) = .err ⟨nm, none⟩ os) : m__law_told ((d5 0 m rs ts us d).map Cell.da) = .val (.da (errD x)) ((d5 0 m rs ts us d).map Cell.da) := by
  have c := eCall_da_err (n := 3) (f := a3) (cs := z11 0 m rs ts us d) (d3 m rs ts us) rfl rfl h
  exact told_err hx (sIf_true (cs1 := z11 0 m rs ts us d) rfl (sSet_err (eTup_err (aCons_err2 (f := evC (.str "told")) rfl (aCons_err1 (fz_err (np := 5) c))))))
theorem told1_err {m : Int} {rs ts us : List Int} {d : D} {nm x : Str} {os : List Cell} (hx : wordOf nm = some x) (h : m_common_share (c4 m rs ts us d) = .err ⟨nm, none⟩ os) : m__law_told ((d5 1 m rs ts us d).map Cell.da) = .val (.da (errD x)) ((d5 1 m rs ts us d).map Cell.da) := by
  have c := eCall_da_err (n := 4) (f := a4) (cs := z11 1 m rs ts us d) (d4 m rs ts us d) rfl rfl h
  exact told_err hx (sIf_false (cs1 := z11 1 m rs ts us d) rfl (sIf_true (cs1 := z11 1 m rs ts us d) rfl (sSet_err (eTup_err (aCons_err2 (f := evC (.str "told")) rfl (aCons_err1 (fz_err (np := 5) c)))))))
theorem told2_err {m : Int} {rs ts us : List Int} {d : D} {nm x : Str} {os : List Cell} (hx : wordOf nm = some x) (h : m_least_coprime (c3 m rs ts us) = .err ⟨nm, none⟩ os) : m__law_told ((d5 2 m rs ts us d).map Cell.da) = .val (.da (errD x)) ((d5 2 m rs ts us d).map Cell.da) := by
  have c := eCall_da_err (n := 3) (f := a3) (cs := z11 2 m rs ts us d) (d3 m rs ts us) rfl rfl h
  exact told_err hx (sIf_false (cs1 := z11 2 m rs ts us d) rfl (sIf_false (cs1 := z11 2 m rs ts us d) rfl (sSet_err (eTup_err (aCons_err2 (f := evC (.str "told")) rfl (aCons_err1 (fz_err (np := 5) c)))))))
theorem told1_val {m : Int} {rs ts us : List Int} {d x : D} {os : List Cell} (h : m_common_share (c4 m rs ts us d) = .val (.da x) os) : m__law_told ((d5 1 m rs ts us d).map Cell.da) = .val (.da (toldD x)) ((d5 1 m rs ts us d).map Cell.da) := by
  have c := eCall_da (n := 4) (f := a4) (cs := z11 1 m rs ts us d) (d4 m rs ts us d) rfl rfl h
  have t := eTup_of [.str "told", x] (aCons_val (f := evC (.str "told")) rfl (aCons_val (fz_da (np := 5) c) (rfl : aNil _ = .val [] _))) (by simp)
  exact told_val (sIf_false (cs1 := z11 1 m rs ts us d) rfl (sIf_true (cs1 := z11 1 m rs ts us d) rfl (sSet_da (np := 5) (i := 5) t)))
/-! ### refused -/
abbrev oddE : List Cell → AR := aCons (evVar 0) (aCons (fz 5 (eLst (aCons (evC (.int 0)) (aCons (e1 pNeg (evC (.int 1))) (aCons (evC .none) (aCons (evC (.bool true)) (aCons (evC (.str "1")) (aCons (eTup (aCons (evC (.int 1)) aNil)) aNil)))))))) aNil)
abbrev oddL : List D := [.int 0, .int (-1), .none, .bool true, .str "1", .tuple [.int 1]]
theorem odd_of {d : D} (h : d ∈ oddL) : Odd d := by
  simp only [oddL, List.mem_cons, List.not_mem_nil, or_false] at h
  rcases h with rfl | rfl | rfl | rfl | rfl | rfl
  · exact .zero
  · exact .neg
  · exact .non
  · exact .bl
  · exact .str
  · exact .tup
abbrev R9 (fs : List D) (m : Int) (rs ts us : List Int) (word : Str) (a b c e : Cell) : List Cell := [.ol fs, .da (dS m rs), .da (dP ts), .da (dP us), .da (.str word), a, b, c, e]
abbrev lastW (word : Str) : Str := if word = "choice" then "choice" else "number"
theorem refused_ok {n : Nat} {fs : List D} (hf : Fd n fs) (hn : n ≤ 1000) {m : Int} {rs ts us : List Int} {word : Str} (hw : word = "choice" ∨ word = "many")
    (h : ∀ w : Nat, w < 3 → m__law_told ((d5 w m rs ts us (.int 1)).map Cell.da) = .val (.da (errD word)) ((d5 w m rs ts us (.int 1)).map Cell.da))
    (ho : ∀ d, Odd d → m__law_told ((d5 1 m rs ts us d).map Cell.da) = .val (.da (errD (lastW word))) ((d5 1 m rs ts us d).map Cell.da)) :
    ∃ os, m__law_refused_right [.ol fs, .da (dS m rs), .da (dP ts), .da (dP us), .da (.str word)] = .val (.da (.bool true)) os := by
  obtain ⟨d, f1, hf1, hd, w1⟩ := one_call (i := 0) (cs := R9 fs m rs ts us word .un .un .un .un) (f := oddE) (things := oddL) hf rfl rfl (by decide) (by decide) (by omega)
  have od := odd_of hd
  have t := eTup_of [.str "error", .str word] (f := aCons (evC (.str "error")) (aCons (fz 5 (evVar 4)) aNil)) (cs := R9 f1 m rs ts us word .un .un .un .un) rfl (by simp)
  have s1 := sPar_of (np := 5) (i := 5) (j := 6) (aCons_val w1 (aCons_val t (rfl : aNil _ = .val [] _))) rfl rfl (by decide) (by decide)
  let Z (c e : Cell) := R9 f1 m rs ts us word (.da d) (.da (errD word)) c e
  have src : iRange1 (aCons (evC (.int 3)) aNil) (Z .un .un) = .val ((List.range 3).map fun i => PyData.int (i : Nat)) (Z .un .un) := iRange1_of (n := 3) rfl
  have l := eLc_map (vs := [8]) (tgt := gN 5 8) (f := fz 5 (eCall 5 m__law_told (aCons (fz 5 (evVar 8)) (aCons (fz 5 (evVar 1)) (aCons (fz 5 (evVar 2)) (aCons (fz 5 (evVar 3)) (aCons (evC (.int 1)) aNil))))))) (g := fun _ => errD word) src (by decide) fun x hx => by
    obtain ⟨i, hi, rfl⟩ := List.mem_map.mp hx
    have c := eCall_da (n := 5) (f := aCons (fz 5 (evVar 8)) (aCons (fz 5 (evVar 1)) (aCons (fz 5 (evVar 2)) (aCons (fz 5 (evVar 3)) (aCons (evC (.int 1)) aNil))))) (cs := Z .un (.da (.int i))) (d5 i m rs ts us (.int 1)) rfl rfl (h i (List.mem_range.mp hi))
    exact ⟨Z .un (.da (.int i)), rfl, rfl, fz_da (np := 5) c⟩
  have c2 := eCall_da (n := 5) (f := aCons (evC (.int 1)) (aCons (fz 5 (evVar 1)) (aCons (fz 5 (evVar 2)) (aCons (fz 5 (evVar 3)) (aCons (fz 5 (evVar 5)) aNil))))) (cs := Z .un .un) (d5 1 m rs ts us d) rfl rfl (ho d od)
  have l2 := eLst_of [errD (lastW word)] (aCons_val (fz_da (np := 5) c2) (rfl : aNil _ = .val [] _)) (by simp)
  have s2 := sSet_ol (np := 5) (i := 7) (e2_val (p := pAdd) (x := .list [errD word, errD word, errD word]) (y := .list [errD (lastW word)]) l l2 rfl rfl (pAdd_lists (of_eq_true sz4)))
  have fin : ∃ cs, sRet 5 (e2 pEq (evVar 7) (eLst (aCons (fz 5 (evVar 6)) (aCons (fz 5 (evVar 6)) (aCons (fz 5 (evVar 6)) (aCons (eTup (aCons (evC (.str "error")) (aCons (fz 5 (vIf (tB (e2 pEq (evVar 4) (evC (.str "choice")))) (evC (.str "choice")) (evC (.str "number")))) aNil))) aNil)))))) (Z (.ol [errD word, errD word, errD word, errD (lastW word)]) .un) = .rt (.da (.bool true)) cs := by
    rcases hw with rfl | rfl
    · exact ⟨_, sRet_da (e2_val (a := .bw 7) (x := .list [errD "choice", errD "choice", errD "choice", errD "choice"]) (y := .list [errD "choice", errD "choice", errD "choice", errD "choice"]) rfl (eLst_of [errD "choice", errD "choice", errD "choice", errD "choice"] rfl (by simp)) rfl rfl (pEq_dec rfl (by decide +kernel) (by decide +kernel) (by decide +kernel)))⟩
    · exact ⟨_, sRet_da (e2_val (a := .bw 7) (x := .list [errD "many", errD "many", errD "many", errD "number"]) (y := .list [errD "many", errD "many", errD "many", errD "number"]) rfl (eLst_of [errD "many", errD "many", errD "many", errD "number"] rfl (by simp)) rfl rfl (pEq_dec rfl (by decide +kernel) (by decide +kernel) (by decide +kernel)))⟩
  obtain ⟨cs, fin⟩ := fin
  exact ⟨_, callM_da (nl := 4) (sSeq_nx s1 (sSeq_nx s2 fin))⟩
end
end K76
set_option Elab.async false
set_option linter.all false
set_option maxRecDepth 100000
set_option maxHeartbeats 4000000
/-! K76_2: shares. -/
namespace K76
open PySem L2 TL
noncomputable section
local macro_rules | `(tactic| trivial) => `(tactic| simp [callM, sSeq, sIf, sSet, TL.canSet_eq, sRet, sRetN, sNext, evVar, evC, e2, e1, en, k2, k1, kn, pkAll, ofO, pAdd, pSub, pCmp, pNeg, tU, tOf, truD, TL.tB, bOf, TL.tAnd, TL.tOr, TL.tNot, vAnd, vOr, vNot, vIf, fz, aNil, aCons, sPar, sPar3, put1, flatC, gN, gT, gsCons, gsNil, sAsg, vIsi, eTup, eLst, dAll, eCall, callE, isT_int_int, isT_int_bool, isT_int_tuple, isT_tuple_tuple, isT_none_int, isT_bool_int, isT_bool_bool, isT_str_int, isT_tuple_int, t3, e3, qCmp, sRaise, sDrop, pMul, pListOf, iRevL, iEnumA, eSl, oNone, oSome, pSl, OR.toE_val, pGcd, pInt2, pAbs, abs_int, pMod, pNe, pEq, eqF, pLen, pInt, pIx, iSeq, wipeC, backC, cut_to, cut_from, cut_to', cut_from', eRep, pRevA, iRange1, iRange2, *])
theorem cnt1_cons (d v : Int) (vs : List Int) : cnt1 d (v :: vs) = (if v = d then 1 else 0) + cnt1 d vs := by
  unfold cnt1
  rw [List.filter_cons]
  by_cases h : v = d
  · rw [if_pos (decide_eq_true h), if_pos h, List.length_cons, Nat.add_comm]
  · rw [if_neg (by simp [h]), if_neg h, Nat.zero_add]
theorem one_in (v : Int) : ∀ (l : List Int), l.Nodup → v ∈ l → (l.map fun d => if v = d then 1 else 0).sum = 1
  | [], _, h => by simp at h
  | x :: l, hn, h => by
    obtain ⟨h1, h2⟩ := List.nodup_cons.mp hn
    rw [List.map_cons, List.sum_cons]
    by_cases e : v = x
    · rw [if_pos e]
      have : ∀ l : List Int, v ∉ l → (l.map fun d => if v = d then 1 else 0).sum = 0 := fun l => by
        induction l with
        | nil => intro _; rfl
        | cons y l ih =>
          intro hy
          rw [List.map_cons, List.sum_cons, if_neg (fun z => hy (by rw [z]; exact List.mem_cons_self)), ih (fun z => hy (List.mem_cons_of_mem _ z))]
      rw [this l (e ▸ h1)]
    · rw [if_neg e, one_in v l h2 ((List.mem_cons.mp h).resolve_left e)]
theorem sum_add' (f g : Int → Nat) : ∀ l : List Int, (l.map fun d => f d + g d).sum = (l.map f).sum + (l.map g).sum
  | [] => rfl
  | x :: l => by
    rw [List.map_cons, List.map_cons, List.map_cons, List.sum_cons, List.sum_cons, List.sum_cons, sum_add' f g l]
    omega
theorem cnt_sum {l : List Int} (hn : l.Nodup) : ∀ (vs : List Int), (∀ v ∈ vs, v ∈ l) → (l.map fun d => cnt1 d vs).sum = vs.length
  | [], _ => by
    have : ∀ l : List Int, (l.map fun d => cnt1 d []).sum = 0 := fun l => by
      induction l with
      | nil => rfl
      | cons y l ih => rw [List.map_cons, List.sum_cons, ih]; rfl
    exact this l
  | v :: vs, h => by
    have e : (fun d => cnt1 d (v :: vs)) = fun d => (if v = d then 1 else 0) + cnt1 d vs := funext fun d => cnt1_cons d v vs
    rw [e, sum_add', one_in v l hn (h v List.mem_cons_self), cnt_sum hn vs fun w hw => h w (List.mem_cons_of_mem _ hw), List.length_cons, Nat.add_comm]
theorem asc_nodup (vs : List Int) : (asc vs).Nodup := (asc_up vs).imp fun h => by omega
abbrev S12 (fs : List D) (m : Int) (rs ts us vs : List Int) (w : Int) (tot every d due cm : Cell) : List Cell := [.ol fs, .da (dS m rs), .da (dP ts), .da (dP us), .da (.list (vs.map .int)), .da (.int w), tot, every, d, due, .un, cm]
abbrev dueE : List Cell → ER := en pLen (aCons (eLc [10] (iSeq 6 (evVar 4)) (gN 6 10) (tB (e2 pEq (evVar 10) (evVar 8))) (evC (.int 1))) aNil)
theorem dueE_at {fs : List D} {m : Int} {rs ts us vs : List Int} {w : Int} {tot every due cm : Cell} (d : Int) (hl : vs.length ≤ 100000) : dueE (S12 fs m rs ts us vs w tot every (.da (.int d)) due cm) = .val (.da (.int (cnt1 d vs))) (S12 fs m rs ts us vs w tot every (.da (.int d)) due cm) := by
  have l := eLc_keep (vs := [10]) (tgt := gN 6 10) (tt := tB (e2 pEq (evVar 10) (evVar 8))) (f := evC (.int 1)) (p := fun e => match e with | .int v => decide (v = d) | _ => false) (g := fun _ => .int 1) (rfl : iSeq 6 (evVar 4) (S12 fs m rs ts us vs w tot every (.da (.int d)) due cm) = .val (vs.map .int) _) (by rw [List.length_map]; exact Nat.le_trans hl (by decide)) fun e he => by
    obtain ⟨v, _, rfl⟩ := List.mem_map.mp he
    exact ⟨[.ol fs, .da (dS m rs), .da (dP ts), .da (dP us), .da (.list (vs.map .int)), .da (.int w), tot, every, .da (.int d), due, .da (.int v), cm], rfl, rfl, tB_val (e2_da (x := .int v) (y := .int d) rfl rfl rfl), fun _ => rfl⟩
  have hc : (((vs.map PyData.int).filter (fun e => match e with | .int v => decide (v = d) | _ => false)).map fun _ => PyData.int 1).length = cnt1 d vs := by
    rw [List.length_map, List.filter_map, List.length_map]
    rfl
  rw [← hc]
  exact len_ol l
abbrev cmE : List Cell → ER := eCall 2 m__law_divisor (aCons (fz 6 (evVar 9)) (aCons (fz 6 (en pLen (aCons (evVar 4) aNil))) aNil))
theorem lenE_at {fs : List D} {m : Int} {rs ts us vs : List Int} {w : Int} {tot every d due cm : Cell} : en pLen (aCons (evVar 4) aNil) (S12 fs m rs ts us vs w tot every d due cm) = .val (.da (.int vs.length)) (S12 fs m rs ts us vs w tot every d due cm) := by
  have := len_list (f := evVar 4) (cs := S12 fs m rs ts us vs w tot every d due cm) rfl
  rwa [List.length_map] at this
theorem cmE_at {fs : List D} {m : Int} {rs ts us vs : List Int} {w : Int} {tot every d cm : Cell} (k : Nat) : cmE (S12 fs m rs ts us vs w tot every d (.da (.int k)) cm) = .val (.da (.int (Nat.gcd k vs.length))) (S12 fs m rs ts us vs w tot every d (.da (.int k)) cm) :=
  eCall_da (n := 2) [.int k, .int vs.length] (aCons_val (f := fz 6 (evVar 9)) rfl (aCons_val (fz_da (np := 6) lenE_at) rfl)) rfl (law_divisor_int k vs.length)
abbrev shareD (d : Int) (vs : List Int) : D := .tuple [.int (cnt1 d vs / Nat.gcd (cnt1 d vs) vs.length : Nat), .int (vs.length / Nat.gcd (cnt1 d vs) vs.length : Nat)]
abbrev dueT : List Cell → ER := eTup (aCons (e2 pDiv (evVar 9) (evVar 11)) (aCons (e2 pDiv (en pLen (aCons (evVar 4) aNil)) (evVar 11)) aNil))
theorem dueT_at {fs : List D} {m : Int} {rs ts us vs : List Int} {w d : Int} {tot every x : Cell} (h0 : 0 < vs.length) (hl : vs.length ≤ 100000) : dueT (S12 fs m rs ts us vs w tot every x (.da (.int (cnt1 d vs))) (.da (.int (Nat.gcd (cnt1 d vs) vs.length)))) = .val (.da (shareD d vs)) (S12 fs m rs ts us vs w tot every x (.da (.int (cnt1 d vs))) (.da (.int (Nat.gcd (cnt1 d vs) vs.length)))) := by
  have g0 : 0 < Nat.gcd (cnt1 d vs) vs.length := Nat.gcd_pos_of_pos_right _ h0
  have g1 : Nat.gcd (cnt1 d vs) vs.length ≤ vs.length := Nat.le_of_dvd h0 (Nat.gcd_dvd_right ..)
  have dk : divOk (Nat.gcd (cnt1 d vs) vs.length : Int) = true := divOk_s (by omega) (by omega)
  exact eTup_of [_, _] (aCons_val (e2_da (f := evVar 9) (g := evVar 11) (x := .int (cnt1 d vs)) (y := .int (Nat.gcd (cnt1 d vs) vs.length)) rfl rfl (pDiv_of dk)) (aCons_val (e2_da (g := evVar 11) (y := .int (Nat.gcd (cnt1 d vs) vs.length)) lenE_at rfl (pDiv_of dk)) (rfl : aNil _ = .val [] _))) (by simp)
theorem cnt1_le (d : Int) (vs : List Int) : cnt1 d vs ≤ vs.length := List.length_filter_le _ _
theorem share_rep {d : Int} {vs : List Int} (hl : vs.length ≤ 100000) : Rp 1 (2 * 41) (shareD d vs) := by
  have h1 := cnt1_le d vs
  have h2 := Nat.div_le_self (cnt1 d vs) (Nat.gcd (cnt1 d vs) vs.length)
  have h3 := Nat.div_le_self vs.length (Nat.gcd (cnt1 d vs) vs.length)
  unfold shareD
  generalize cnt1 d vs / Nat.gcd (cnt1 d vs) vs.length = p at *
  generalize vs.length / Nat.gcd (cnt1 d vs) vs.length = q at *
  refine Rp.tup (n := 0) (w := 40) (ds := [_, _]) fun x hx => ?_
  simp only [List.mem_cons, List.not_mem_nil, or_false] at hx
  rcases hx with rfl | rfl
  · exact .int 0 (by omega) (by omega)
  · exact .int 0 (by omega) (by omega)
theorem told_rep {x : D} {w : Nat} (h : Rp 1 w x) (hw : w ≤ 1000) (hw2 : 4 ≤ w) : repOk (toldD x) = true := by
  refine Rp.ok (n := 2) (w := 2 * (w + 1)) (Rp.tup (n := 1) (w := w) (ds := [.str "told", x]) fun y hy => ?_) (by decide) (by omega)
  simp only [List.mem_cons, List.not_mem_nil, or_false] at hy
  rcases hy with rfl | rfl
  · exact (Rp.str (w := 4) 1 (by decide +kernel) (by decide +kernel)).mono (by decide) hw2
  · exact h
theorem pNe_str (x : Str) : pNe (.str x) (.str x) = some (.da (.bool false)) := by
  show some (Cell.da (.bool (!decide (x = x)))) = _
  rw [decide_eq_true rfl]
  rfl
abbrev toldE : List Cell → ER := fz 6 (eCall 5 m__law_told (aCons (evC (.int 1)) (aCons (fz 6 (evVar 1)) (aCons (fz 6 (evVar 2)) (aCons (fz 6 (evVar 3)) (aCons (fz 6 (evVar 8)) aNil))))))
abbrev shareB : List Cell → SR := (sSeq (sSet 6 9 dueE)
  (sSeq (sSet 6 11 cmE)
  (sSeq (sIf (tB (e2 pNe (en pRepr (aCons toldE aNil)) (en pRepr (aCons (eTup (aCons (evC (.str "told")) (aCons dueT aNil))) aNil)))) (sRet 6 (evC (.bool false))) sNext)
  (sSet 6 6 (e2 pAdd (evVar 6) (evVar 9))))))
structure Shares (m : Int) (rs ts us vs : List Int) : Prop where
  pos : 0 < vs.length
  len : vs.length ≤ 100000
  share : ∀ d : Int, 1 ≤ d → m_common_share (c4 m rs ts us (.int d)) = .val (.da (shareD d vs)) (c4 m rs ts us (.int d))
  odd : ∀ d, Odd d → m_common_share (c4 m rs ts us d) = .err ⟨"BadNumber", none⟩ (c4 m rs ts us d)
  ge : ∀ v ∈ vs, 1 ≤ v
theorem shareB_at {fs : List D} {m : Int} {rs ts us vs : List Int} (H : Shares m rs ts us vs) {w tot d : Int} {every due cm : Cell} (hd : 1 ≤ d) : ∃ due' cm', shareB (S12 fs m rs ts us vs w (.da (.int tot)) every (.da (.int d)) due cm) = .nx (S12 fs m rs ts us vs w (.da (.int (tot + cnt1 d vs))) every (.da (.int d)) due' cm') := by
  have s1 := sSet_da (np := 6) (i := 9) (dueE_at (fs := fs) (m := m) (rs := rs) (ts := ts) (us := us) (w := w) (tot := .da (.int tot)) (every := every) (due := due) (cm := cm) d H.len)
  have s2 := sSet_da (np := 6) (i := 11) (cmE_at (fs := fs) (m := m) (rs := rs) (ts := ts) (us := us) (vs := vs) (w := w) (tot := .da (.int tot)) (every := every) (d := .da (.int d)) (cm := cm) (cnt1 d vs))
  let Z := S12 fs m rs ts us vs w (.da (.int tot)) every (.da (.int d)) (.da (.int (cnt1 d vs))) (.da (.int (Nat.gcd (cnt1 d vs) vs.length)))
  have c := fz_da (np := 6) (eCall_da (n := 5) (f := aCons (evC (.int 1)) (aCons (fz 6 (evVar 1)) (aCons (fz 6 (evVar 2)) (aCons (fz 6 (evVar 3)) (aCons (fz 6 (evVar 8)) aNil))))) (cs := Z) (d5 1 m rs ts us (.int d)) rfl rfl (told1_val (H.share d hd)))
  have t := eTup_of [.str "told", shareD d vs] (aCons_val (f := evC (.str "told")) (cs := Z) rfl (aCons_val (dueT_at H.pos H.len) (rfl : aNil _ = .val [] _))) (by simp)
  have rp : repOk (toldD (shareD d vs)) = true := told_rep (share_rep H.len) (by decide) (by decide)
  have tt := tB_val (e2_da (p := pNe) (en1 c rfl (pRepr_of rp)) (en1 t rfl (pRepr_of rp)) (pNe_str _))
  exact ⟨_, _, sSeq_nx s1 (sSeq_nx s2 (sSeq_nx (sIf_false tt rfl) (sSet_da (np := 6) (i := 6) (e2_da (p := pAdd) (f := evVar 6) (g := evVar 9) (cs := Z) (x := .int tot) (y := .int (cnt1 d vs)) rfl rfl rfl))))⟩
theorem shareGo {fs : List D} {m : Int} {rs ts us vs : List Int} (H : Shares m rs ts us vs) {w : Int} {every : Cell} : ∀ (ds : List Int) (tot : Int) (x due cm : Cell), (∀ d ∈ ds, 1 ≤ d) → ∃ x' due' cm', forGo (gN 6 8) shareB (ds.map .int) (S12 fs m rs ts us vs w (.da (.int tot)) every x due cm) = .nx (S12 fs m rs ts us vs w (.da (.int (tot + ((ds.map fun d => cnt1 d vs).sum : Nat)))) every x' due' cm')
  | [], tot, x, due, cm, _ => ⟨x, due, cm, by rw [show tot + (((([] : List Int).map fun d => cnt1 d vs).sum : Nat) : Int) = tot by simp]; rfl⟩
  | d :: ds, tot, x, due, cm, h => by
    obtain ⟨due1, cm1, e1⟩ := shareB_at (fs := fs) H (w := w) (tot := tot) (every := every) (due := due) (cm := cm) (h d List.mem_cons_self)
    obtain ⟨x2, due2, cm2, e2⟩ := shareGo (fs := fs) H (w := w) (every := every) ds (tot + cnt1 d vs) (.da (.int d)) due1 cm1 fun y hy => h y (List.mem_cons_of_mem _ hy)
    refine ⟨x2, due2, cm2, (forGo_nx (cs1 := S12 fs m rs ts us vs w (.da (.int tot)) every (.da (.int d)) due cm) rfl e1).trans (e2.trans ?_)⟩
    rw [List.map_cons, List.sum_cons, Int.natCast_add, Int.add_assoc]
theorem shares_right_ok {n : Nat} {fs : List D} (hf : Fd n fs) (hn : n ≤ 1000) {m : Int} {rs ts us vs : List Int} (H : Shares m rs ts us vs) {w : Int} (hw : 1 ≤ w) (hw2 : w ≤ 1000000) (few : (distinct vs).length < 64) : ∃ os, m__law_shares_right [.ol fs, .da (dS m rs), .da (dP ts), .da (dP us), .da (.list (vs.map .int)), .da (.int w)] = .val (.da (.bool true)) os := by
  let S := fun (fs : List D) (tot every d due cm : Cell) => S12 fs m rs ts us vs w tot every d due cm
  have so : en pSortSet (aCons (evVar 4) aNil) (S fs .un .un .un .un .un) = .val (.ol ((asc vs).map .int)) (S fs .un .un .un .un .un) := en1 (f := evVar 4) rfl rfl (by rw [pSortSet_map, if_pos few])
  have s1 := sPar_of (np := 6) (i := 6) (j := 7) (aCons_val (f := evC (.int 0)) rfl (aCons_val so (rfl : aNil _ = .val [] _))) rfl rfl (by decide) (by decide)
  have ge1 : ∀ d ∈ asc vs, 1 ≤ d := fun d hd => H.ge d (asc_mem.mp hd)
  obtain ⟨x, due, cm, g⟩ := shareGo (fs := fs) H (w := w) (every := .da (.list ((asc vs).map .int))) (asc vs) 0 .un .un .un ge1
  rw [cnt_sum (asc_nodup vs) vs fun v hv => asc_mem.mpr hv, Int.zero_add] at g
  have s2 := sFor_of (rfl : iSeq 6 (evVar 7) (S fs (.da (.int 0)) (.ol ((asc vs).map .int)) .un .un .un) = .val ((asc vs).map .int) (S fs (.da (.int 0)) (.da (.list ((asc vs).map .int))) .un .un .un)) g
  obtain ⟨l, el, l1⟩ : ∃ l, (asc vs).getLast? = some l ∧ 1 ≤ l := by
    have ne : asc vs ≠ [] := fun z => by
      obtain ⟨v, hv⟩ := List.exists_mem_of_length_pos H.pos
      have := asc_mem.mpr hv
      rw [z] at this
      simp at this
    exact ⟨_, List.getLast?_eq_some_getLast ne, ge1 _ (List.getLast_mem ne)⟩
  let Z := S fs (.da (.int vs.length)) (.da (.list ((asc vs).map .int))) x due cm
  have q : e2 pIx (evVar 7) (e1 pNeg (evC (.int 1))) Z = .val (.da (.int l)) Z := e2_da (x := .list ((asc vs).map .int)) (y := .int (-1)) rfl rfl (by
    show (atI ((asc vs).map PyData.int) (-1)).map Cell.da = _
    rw [atI_end, List.getLast?_map, el]
    rfl)
  have ll := eLst_of [.int 1, .int 2, .int w, .int (w + 1), .int (2 * w), .int (10 ^ 30), .int l] (cs := Z) (f := aCons (evC (.int 1)) (aCons (evC (.int 2)) (aCons (fz 6 (evVar 5)) (aCons (fz 6 (e2 pAdd (evVar 5) (evC (.int 1)))) (aCons (fz 6 (e2 pMul (evC (.int 2)) (evVar 5))) (aCons (e2 pPow (evC (.int 10)) (evC (.int 30))) (aCons (fz 6 (e2 pIx (evVar 7) (e1 pNeg (evC (.int 1))))) aNil)))))))
    (aCons_val (f := evC (.int 1)) rfl (aCons_val (f := evC (.int 2)) rfl (aCons_val (f := fz 6 (evVar 5)) rfl (aCons_val (f := fz 6 (e2 pAdd (evVar 5) (evC (.int 1)))) rfl (aCons_val (fz_da (np := 6) (e2_da (f := evC (.int 2)) (g := evVar 5) (x := .int 2) (y := .int w) rfl rfl (pMul_of (mulOk_l (by decide))))) (aCons_val (f := e2 pPow (evC (.int 10)) (evC (.int 30))) rfl (aCons_val (fz_da (np := 6) q) (rfl : aNil _ = .val [] _)))))))) (by simp)
  obtain ⟨d, f1, hf1, hd, w1⟩ := one_call (i := 0) (cs := Z) (f := aCons (evVar 0) (aCons (fz 6 (eLst (aCons (evC (.int 1)) (aCons (evC (.int 2)) (aCons (fz 6 (evVar 5)) (aCons (fz 6 (e2 pAdd (evVar 5) (evC (.int 1)))) (aCons (fz 6 (e2 pMul (evC (.int 2)) (evVar 5))) (aCons (e2 pPow (evC (.int 10)) (evC (.int 30))) (aCons (fz 6 (e2 pIx (evVar 7) (e1 pNeg (evC (.int 1))))) aNil))))))))) aNil)) hf rfl (aCons_val (f := evVar 0) rfl (aCons_val (fz_ol (np := 6) ll) (rfl : aNil _ = .val [] _))) (by simp) (by simp) (by omega)
  obtain ⟨i, rfl, i1⟩ : ∃ i : Int, d = .int i ∧ 1 ≤ i := by
    simp only [List.mem_cons, List.not_mem_nil, or_false] at hd
    rcases hd with rfl | rfl | rfl | rfl | rfl | rfl | rfl
    · exact ⟨_, rfl, by decide⟩
    · exact ⟨_, rfl, by decide⟩
    · exact ⟨_, rfl, hw⟩
    · exact ⟨_, rfl, by omega⟩
    · exact ⟨_, rfl, by omega⟩
    · exact ⟨_, rfl, by decide⟩
    · exact ⟨_, rfl, l1⟩
  have s3 := sSet_da (np := 6) (i := 8) w1
  have s4 := sSet_da (np := 6) (i := 9) (dueE_at (fs := f1) (m := m) (rs := rs) (ts := ts) (us := us) (w := w) (tot := .da (.int vs.length)) (every := .da (.list ((asc vs).map .int))) (due := due) (cm := cm) i H.len)
  have s5 := sSet_da (np := 6) (i := 11) (cmE_at (fs := f1) (m := m) (rs := rs) (ts := ts) (us := us) (vs := vs) (w := w) (tot := .da (.int vs.length)) (every := .da (.list ((asc vs).map .int))) (d := .da (.int i)) (cm := cm) (cnt1 i vs))
  let Y := S f1 (.da (.int vs.length)) (.da (.list ((asc vs).map .int))) (.da (.int i)) (.da (.int (cnt1 i vs))) (.da (.int (Nat.gcd (cnt1 i vs) vs.length)))
  have ck : eCallK 4 m_common_share [3, 2, 1, 0] (aCons (fz 6 (evVar 8)) (aCons (fz 6 (evVar 3)) (aCons (fz 6 (evVar 2)) (aCons (fz 6 (evVar 1)) aNil)))) Y = .val (.da (shareD i vs)) Y := by
    have e := H.share i i1
    unfold eCallK
    rw [show aCons (fz 6 (evVar 8)) (aCons (fz 6 (evVar 3)) (aCons (fz 6 (evVar 2)) (aCons (fz 6 (evVar 1)) aNil))) Y = .val [.da (.int i), .da (dP us), .da (dP ts), .da (dS m rs)] Y from rfl, AR.toE_val]
    show callE 4 m_common_share ((d4 m rs ts us (.int i)).map Cell.da) Y = _
    have := eCall_da (n := 4) (m := m_common_share) (f := fun cs => .val ((d4 m rs ts us (.int i)).map Cell.da) cs) (cs := Y) (d4 m rs ts us (.int i)) rfl rfl e
    exact this
  have rp : repOk (shareD i vs) = true := (share_rep H.len).ok (by decide) (by decide)
  have tt := tB_val (e2_da (p := pNe) (en1 (fz_da (np := 6) ck) rfl (pRepr_of rp)) (en1 (dueT_at H.pos H.len) rfl (pRepr_of rp)) (pNe_str _))
  have v1 : e2 pEq (evVar 6) (en pLen (aCons (evVar 4) aNil)) Y = .val (.da (.bool true)) Y := e2_da (f := evVar 6) (x := .int vs.length) (y := .int vs.length) rfl lenE_at (by show some (Cell.da (.bool (decide ((vs.length : Int) = vs.length)))) = _; rw [decide_eq_true rfl])
  obtain ⟨od, f2, hf2, hod, w2⟩ := one_call (i := 0) (cs := Y) (f := aCons (evVar 0) (aCons (fz 6 (eLst (aCons (evC (.int 0)) (aCons (e1 pNeg (evC (.int 1))) (aCons (evC .none) (aCons (evC (.bool true)) (aCons (evC (.str "1")) (aCons (eTup (aCons (evC (.int 1)) aNil)) aNil)))))))) aNil)) (things := oddL) hf1 rfl rfl (by decide) (by decide) (by omega)
  have c5 := eCall_da (n := 5) (f := aCons (evC (.int 1)) (aCons (fz 6 (evVar 1)) (aCons (fz 6 (evVar 2)) (aCons (fz 6 (evVar 3)) (aCons (fz 6 (eCall 2 m__law_one (aCons (evVar 0) (aCons (fz 6 (eLst (aCons (evC (.int 0)) (aCons (e1 pNeg (evC (.int 1))) (aCons (evC .none) (aCons (evC (.bool true)) (aCons (evC (.str "1")) (aCons (eTup (aCons (evC (.int 1)) aNil)) aNil)))))))) aNil)))) aNil))))) (cs := Y) (d5 1 m rs ts us od) (aCons_val (f := evC (.int 1)) rfl (aCons_val (f := fz 6 (evVar 1)) rfl (aCons_val (f := fz 6 (evVar 2)) rfl (aCons_val (f := fz 6 (evVar 3)) rfl (aCons_val (fz_da (np := 6) w2) (rfl : aNil _ = .val [] _)))))) rfl (told1_err (x := "number") (by decide +kernel) (H.odd od (odd_of hod)))
  have v2 := e2_da (p := pEq) c5 (rfl : eTup (aCons (evC (.str "error")) (aCons (evC (.str "number")) aNil)) _ = .val (.da (errD "number")) _) (pEq_dec rfl (by decide +kernel) (by decide +kernel) (by decide +kernel : _ = true))
  exact ⟨_, callM_da (nl := 6) (sSeq_nx s1 (sSeq_nx s2 (sSeq_nx s3 (sSeq_nx s4 (sSeq_nx s5 (sSeq_nx (sIf_false tt rfl) (sRet_da (vAnd_true v1 v2))))))))⟩
end
end K76
set_option Elab.async false
set_option linter.all false
set_option maxRecDepth 100000
set_option maxHeartbeats 4000000
/-! K76_3: periods, plainly. -/
namespace K76
open PySem L2 TL
theorem res_swap {ts us : List Int} (h : Tops ts) (h' : Tops us) : res us ts = (if ts.length = 2 ∧ us.length = 2 then -res ts us else res ts us) := by
  rcases two_or h with ⟨b, a, rfl⟩ | ⟨c, b, a, rfl⟩ <;> rcases two_or h' with ⟨e, d, rfl⟩ | ⟨f, e, d, rfl⟩
  · rw [res22, res22]; simp; grind
  · rw [res23, res32]; simp; grind
  · rw [res32, res23]; simp; grind
  · rw [res33, res33]; simp; grind
theorem res_abs {ts us : List Int} (h : Tops ts) (h' : Tops us) : (res us ts).natAbs = (res ts us).natAbs := by
  rw [res_swap h h']
  split
  · rw [Int.natAbs_neg]
  · rfl
theorem vals_comm (m : Int) (rs ts us : List Int) (n : Nat) : vals m rs us ts n = vals m rs ts us n := by
  unfold vals
  exact congrArg (fun f => List.map f (there m rs n)) (funext fun x => gv_comm us ts x)
/-- what is known of a set of rests and two tuples of tops; P: the common multiple, g how often it goes in the program's period n -/
structure Cx (m : Int) (rs ts us : List Int) (w n P g : Nat) : Prop where
  hr : Rests m rs
  h : Tops ts
  h' : Tops us
  hz : res ts us ≠ 0
  hw : w = (res ts us).natAbs
  hn : (n : Int) = w * m
  n6 : n ≤ 6000
  pos : 0 < P
  gp : n = g * P
  g0 : 0 < g
  mP : m ∣ (P : Int)
  rP : res ts us ∣ (P : Int)
section
variable {m : Int} {rs ts us : List Int} {w n P g : Nat}
theorem Cx.w0 (c : Cx m rs ts us w n P g) : 0 < w := by have := c.hz; have := c.hw; omega
theorem Cx.wn (c : Cx m rs ts us w n P g) : w ≤ n := by
  have a := c.hr.low
  have b := c.hn
  have : (w : Int) * 1 ≤ w * m := Int.mul_le_mul_of_nonneg_left a (by omega)
  omega
theorem Cx.Pn (c : Cx m rs ts us w n P g) : P ≤ n := by
  have a := c.gp
  have b := c.g0
  rw [a]
  exact Nat.le_mul_of_pos_left P b
theorem Cx.rn (c : Cx m rs ts us w n P g) : res ts us ∣ (n : Int) := by
  rw [c.gp, Int.natCast_mul]
  exact Int.dvd_trans c.rP (Int.dvd_mul_left ..)
theorem Cx.mn (c : Cx m rs ts us w n P g) : m ∣ (n : Int) := by
  rw [c.gp, Int.natCast_mul]
  exact Int.dvd_trans c.mP (Int.dvd_mul_left ..)
theorem Cx.n0 (c : Cx m rs ts us w n P g) : 0 < n := by have := c.w0; have := c.wn; omega
theorem Cx.few (c : Cx m rs ts us w n P g) : (distinct (vals m rs ts us P)).length < 64 := vals_few c.h c.h' c.hz (by have := c.hw; have := c.wn; have := c.n6; omega) P
theorem Cx.asc_eq (c : Cx m rs ts us w n P g) : asc (vals m rs ts us n) = asc (vals m rs ts us P) := vals_asc c.h c.h' c.n0 c.mn c.rn c.pos c.mP c.rP
theorem Cx.cv1 (c : Cx m rs ts us w n P g) : m_common_values (c3 m rs ts us) = .val (.ol ((asc (vals m rs ts us P)).map .int)) (c3 m rs ts us) := by
  have e := common_values_ok c.hr c.h c.h' c.hz (n := n) (by rw [c.hn, c.hw]) c.n6 (by have := c.hw; have := c.wn; have := c.n6; omega)
  rw [c.asc_eq] at e
  exact e
theorem Cx.hz' (c : Cx m rs ts us w n P g) : res us ts ≠ 0 := by
  have a := res_abs c.h c.h'
  have b := c.hz
  omega
theorem Cx.cv2 (c : Cx m rs ts us w n P g) : m_common_values (c3 m rs us ts) = .val (.ol ((asc (vals m rs ts us P)).map .int)) (c3 m rs us ts) := by
  have a := res_abs c.h c.h'
  have e := common_values_ok c.hr c.h' c.h c.hz' (n := n) (by rw [c.hn, c.hw, a]) c.n6 (by have := c.hw; have := c.wn; have := c.n6; omega)
  rw [vals_comm, c.asc_eq] at e
  exact e
theorem okAt_comm (m : Int) (rs ts us : List Int) : okAt m rs us ts = okAt m rs ts us := by
  funext x
  unfold okAt
  rw [gv_comm]
theorem near_none {ok : Int → Bool} (h : ∀ x, ok x = false) : ∀ l, near ok l = none
  | [] => rfl
  | s :: l => by
    unfold near
    rw [h, h, near_none h l]
    rfl
theorem near_some {ok : Int → Bool} {x : Nat} (hx : ok x = true) : ∀ l : List Nat, x ∈ l → ∃ k, near ok l = some k
  | [], h => by simp at h
  | s :: l, h => by
    unfold near
    by_cases h1 : ok (s : Int) = true
    · exact ⟨_, if_pos h1⟩
    · rw [if_neg h1]
      by_cases h2 : ok (-(s : Int)) = true
      · exact ⟨_, if_pos h2⟩
      · rw [if_neg h2]
        rcases List.mem_cons.mp h with rfl | h
        · exact absurd hx h1
        · exact near_some hx l h
theorem near_app {ok : Int → Bool} {k : Int} : ∀ (a b : List Nat), near ok a = some k → near ok (a ++ b) = some k
  | [], b, h => by simp [near] at h
  | s :: a, b, h => by
    unfold near at h
    rw [List.cons_append]
    unfold near
    by_cases h1 : ok (s : Int) = true
    · rw [if_pos h1] at h ⊢; exact h
    · rw [if_neg h1] at h ⊢
      by_cases h2 : ok (-(s : Int)) = true
      · rw [if_pos h2] at h ⊢; exact h
      · rw [if_neg h2] at h ⊢
        exact near_app a b h
/-- how far the law looks -/
def look (m : Int) (rs ts us : List Int) (P : Nat) : Nat := if (1 : Int) ∈ asc (vals m rs ts us P) then P else 0
theorem Cx.near_eq (c : Cx m rs ts us w n P g) : near (okAt m rs ts us) (List.range n) = near (okAt m rs ts us) (List.range (look m rs ts us P)) := by
  unfold look
  have vm := vals_mem (m := m) (rs := rs) c.h c.h' c.pos c.mP c.rP 1
  by_cases h1 : (1 : Int) ∈ asc (vals m rs ts us P)
  · rw [if_pos h1]
    obtain ⟨x, hx, e⟩ := List.mem_map.mp (asc_mem.mp h1)
    have hx2 := List.mem_filter.mp hx
    have ok : okAt m rs ts us x = true := by
      unfold okAt
      rw [hx2.2, Bool.true_and]
      exact decide_eq_true e
    obtain ⟨k, hk⟩ := near_some ok (List.range P) hx2.1
    rw [hk]
    have e : n = P + (n - P) := by have := c.Pn; omega
    rw [e, List.range_add]
    exact near_app _ _ hk
  · rw [if_neg h1]
    have all : ∀ x, okAt m rs ts us x = false := fun x => by
      cases q : okAt m rs ts us x with
      | false => rfl
      | true =>
        unfold okAt at q
        simp only [Bool.and_eq_true, decide_eq_true_eq] at q
        refine absurd (asc_mem.mpr (vm.mpr ⟨(x % (P : Int)).toNat, ?_, ?_⟩)) h1
        · have p0 := Int.emod_nonneg x (show (P : Int) ≠ 0 by have := c.pos; omega)
          rw [Int.toNat_of_nonneg p0, Int.emod_emod_of_dvd x c.mP]
          exact q.1
        · have p0 := Int.emod_nonneg x (show (P : Int) ≠ 0 by have := c.pos; omega)
          rw [Int.toNat_of_nonneg p0]
          rw [← q.2]
          refine gv_period c.h c.h' ?_
          have := Int.emod_add_mul_ediv x P
          rw [show x % (P : Int) - x = -(P * (x / P)) by omega]
          exact Int.dvd_neg.mpr (Int.dvd_trans c.rP (Int.dvd_mul_right ..))
    rw [near_none all, near_none all]
theorem Cx.least1 (c : Cx m rs ts us w n P g) : m_least_coprime (c3 m rs ts us) = .val (.da (optD (near (okAt m rs ts us) (List.range (look m rs ts us P))))) (c3 m rs ts us) := by
  have e := least_ok c.hr c.h c.h' c.hz (n := n) (by rw [c.hn, c.hw]) (by have := c.n6; omega)
  rw [c.near_eq] at e
  exact e
theorem Cx.least2 (c : Cx m rs ts us w n P g) : m_least_coprime (c3 m rs us ts) = .val (.da (optD (near (okAt m rs ts us) (List.range (look m rs ts us P))))) (c3 m rs us ts) := by
  have a := res_abs c.h c.h'
  have e := least_ok c.hr c.h' c.h c.hz' (n := n) (by rw [c.hn, c.hw, a]) (by have := c.n6; omega)
  rw [okAt_comm, c.near_eq] at e
  exact e
theorem Cx.vpos (c : Cx m rs ts us w n P g) {Q : Nat} (hQ : 0 < Q) (hm : m ∣ (Q : Int)) : 0 < (vals m rs ts us Q).length := by
  obtain ⟨r, hr⟩ : ∃ r, r ∈ rs := List.exists_mem_of_ne_nil _ c.hr.some
  obtain ⟨r0, r1⟩ := c.hr.small r hr
  have mQ : m ≤ Q := Int.le_of_dvd (by omega) hm
  refine List.length_pos_of_mem (a := gv ts us r.toNat) (List.mem_map.mpr ⟨r.toNat, List.mem_filter.mpr ⟨List.mem_range.mpr (by omega), decide_eq_true ?_⟩, rfl⟩)
  rw [Int.toNat_of_nonneg r0, Int.emod_eq_of_lt r0 r1]
  exact hr
theorem Cx.shares (c : Cx m rs ts us w n P g) : Shares m rs ts us (vals m rs ts us P) := by
  refine ⟨c.vpos c.pos c.mP, ?_, fun d hd => ?_, fun d hd => common_share_odd c.hr c.h c.h' c.hz hd, fun v hv => ?_⟩
  · unfold vals there
    rw [List.length_map]
    exact Nat.le_trans (List.length_filter_le _ _) (by rw [List.length_range]; have := c.Pn; have := c.n6; omega)
  · have e := common_share_ok c.hr c.h c.h' c.hz (n := n) (by rw [c.hn, c.hw]) (by have := c.n6; omega) hd (c.vpos c.n0 c.mn)
    have e1 : cnt1 d (vals m rs ts us n) = g * cnt1 d (vals m rs ts us P) := by
      rw [c.gp]
      exact vals_count c.h c.h' c.mP c.rP d g
    have e2 : (vals m rs ts us n).length = g * (vals m rs ts us P).length := by
      rw [c.gp]
      exact vals_len c.mP g
    rw [e1, e2, Nat.gcd_mul_left, Nat.mul_div_mul_left _ _ c.g0, Nat.mul_div_mul_left _ _ c.g0] at e
    exact e
  · obtain ⟨x, _, rfl⟩ := List.mem_map.mp hv
    exact (gv_le c.h c.h' c.hz _).1
theorem Cx.le (c : Cx m rs ts us w n P g) {v : Int} (hv : v ∈ asc (vals m rs ts us P)) : 1 ≤ v ∧ v ≤ 6000 ∧ (w : Int) % v = 0 := by
  obtain ⟨x, _, rfl⟩ := List.mem_map.mp (asc_mem.mp hv)
  have q := gv_le c.h c.h' c.hz (x : Int)
  refine ⟨q.1, ?_, ?_⟩
  · have := c.hw; have := c.wn; have := c.n6; omega
  · refine Int.emod_eq_zero_of_dvd ?_
    rw [c.hw]
    exact Int.dvd_natAbs.mpr (gv_dvd c.h c.h' _)
end
/-! ### a multiple of the other one added -/
theorem vl_pad (ts : List Int) (k : Nat) (x : Int) : vl (ts ++ List.replicate k 0) x = vl ts x := by
  induction ts with
  | nil =>
    rw [List.nil_append]
    induction k with
    | zero => rfl
    | succ k ih => rw [List.replicate_succ, vl_cons, ih]; simp [vl]
  | cons t ts ih => rw [List.cons_append, vl_cons, vl_cons, ih]
def comb (s : Int) (xs ys : List Int) : List Int := (xs.zip ys).map fun p => p.1 + s * p.2
theorem vl_comb (s x : Int) : ∀ (xs ys : List Int), xs.length = ys.length → vl (comb s xs ys) x = vl xs x + s * vl ys x
  | [], [], _ => by simp [comb, vl]
  | [], y :: ys, h => by simp at h
  | a :: xs, [], h => by simp at h
  | a :: xs, y :: ys, h => by
    have ih := vl_comb s x xs ys (by simpa using h)
    show vl ((a + s * y) :: comb s xs ys) x = _
    rw [vl_cons, vl_cons, vl_cons, ih]
    grind
theorem asc_more {m : Int} {rs ts us row : List Int} {w n P g : Nat} (c : Cx m rs ts us w n P g) {s : Int} (hv : ∀ x, vl row x = vl ts x + s * vl us x) (hr : Tops row) {k : Nat} (hk : (k : Int) = (res row us).natAbs * m) (hz : res row us ≠ 0) : asc (vals m rs row us k) = asc (vals m rs ts us P) := by
  have m1 := c.hr.low
  have k0 : 0 < k := by
    have : 0 < ((res row us).natAbs : Int) * m := Int.mul_pos (by omega) (by omega)
    omega
  refine TL.asc_eq fun j => ?_
  rw [vals_mem hr c.h' k0 (by rw [hk]; exact Int.dvd_mul_left ..) (by rw [hk]; exact Int.dvd_trans (Int.dvd_natAbs.mpr (Int.dvd_refl _)) (Int.dvd_mul_right ..)), vals_mem c.h c.h' c.pos c.mP c.rP]
  constructor
  · rintro ⟨x, h1, h2⟩
    exact ⟨x, h1, by rw [← gv_add s (hv x)]; exact h2⟩
  · rintro ⟨x, h1, h2⟩
    exact ⟨x, h1, by rw [gv_add s (hv x)]; exact h2⟩
end K76
set_option Elab.async false
set_option linter.all false
set_option maxRecDepth 100000
set_option maxHeartbeats 4000000
/-! K76_4: all that is told, printed by gen4.py. -/
namespace K76
open PySem L2 TL
noncomputable section
local macro_rules | `(tactic| trivial) => `(tactic| simp [callM, sSeq, sIf, sSet, TL.canSet_eq, sRet, sRetN, sNext, evVar, evC, e2, e1, en, k2, k1, kn, pkAll, ofO, pAdd, pSub, pCmp, pNeg, tU, tOf, truD, TL.tB, bOf, TL.tAnd, TL.tOr, TL.tNot, vAnd, vOr, vNot, vIf, fz, aNil, aCons, sPar, sPar3, put1, flatC, gN, gT, gsCons, gsNil, sAsg, vIsi, eTup, eLst, dAll, eCall, callE, isT_int_int, isT_int_bool, isT_int_tuple, isT_tuple_tuple, isT_none_int, isT_bool_int, isT_bool_bool, isT_str_int, isT_tuple_int, t3, e3, qCmp, sRaise, sDrop, pMul, pListOf, iRevL, iEnumA, eSl, oNone, oSome, pSl, OR.toE_val, pGcd, pInt2, pAbs, abs_int, pMod, pNe, pEq, eqF, pLen, pInt, pIx, iSeq, wipeC, backC, cut_to, cut_from, cut_to', cut_from', eRep, pRevA, iRange1, iRange2, *])
abbrev inT : List Cell → TR := (tB (e2 (pIn false) (e2 pMod (en pInt (aCons (evVar 7) aNil)) (e2 pIx (evVar 1) (evC (.int 1)))) (e2 pIx (evVar 1) (evC (.int 2)))))
abbrev comE : List Cell → ER := (eCall 3 m__law_common (aCons (fz 5 (evVar 2)) (aCons (fz 5 (evVar 3)) (aCons (fz 5 (evVar 7)) aNil))))
variable {m : Int} {rs ts us : List Int} {w n P g : Nat} {fs : List D}
def inP (m : Int) (rs : List Int) : D → Bool
  | .int x => decide (x % m ∈ rs)
  | _ => false
def gvD (ts us : List Int) : D → D
  | .int x => .int (gv ts us x)
  | d => d
def okD (m : Int) (rs ts us : List Int) : D → Bool
  | .int x => okAt m rs ts us x
  | _ => false
theorem inT_at (hm : 0 < m) (c0 c2 c3 c4 c5 c6 : Cell) (x : Int) (post : List Cell) : inT (c0 :: .da (dS m rs) :: c2 :: c3 :: c4 :: c5 :: c6 :: .da (.int x) :: post) = .val (decide (x % m ∈ rs)) (c0 :: .da (dS m rs) :: c2 :: c3 :: c4 :: c5 :: c6 :: .da (.int x) :: post) :=
  tB_val (e2_da (x := .int (x % m)) (y := .tuple (rs.map .int)) (e2_da (x := .int x) (y := .int m) rfl rfl (pMod_of hm)) rfl (pIn_ints (x % m) rs))
theorem comE_at (c0 c1 c4 c5 c6 : Cell) (x : Int) (hx : Fit x) (post : List Cell) : comE (c0 :: c1 :: .da (dP ts) :: .da (dP us) :: c4 :: c5 :: c6 :: .da (.int x) :: post) = .val (.da (.int (gv ts us x))) (c0 :: c1 :: .da (dP ts) :: .da (dP us) :: c4 :: c5 :: c6 :: .da (.int x) :: post) :=
  eCall_da (n := 3) [dP ts, dP us, .int x] rfl rfl (law_common_int ts us x hx)
theorem there_ok (hm : 0 < m) (hP : P ≤ 6000) : sSet 5 6 (eLc [7] (iRange1 (aCons (evVar 5) aNil)) (gN 5 7) inT (fz 5 (evVar 7))) [.ol fs, .da (dS m rs), .da (dP ts), .da (dP us), .da (.int w), .da (.int P), .un, .un, .un, .un, .un, .un, .un, .un, .un, .un, .un, .un, .un, .un] = .nx [.ol fs, .da (dS m rs), .da (dP ts), .da (dP us), .da (.int w), .da (.int P), .ol ((there m rs P).map fun x => PyData.int (x : Nat)), .un, .un, .un, .un, .un, .un, .un, .un, .un, .un, .un, .un, .un] := by
  have src : iRange1 (aCons (evVar 5) aNil) [.ol fs, .da (dS m rs), .da (dP ts), .da (dP us), .da (.int w), .da (.int P), .un, .un, .un, .un, .un, .un, .un, .un, .un, .un, .un, .un, .un, .un] = .val ((List.range P).map fun i => PyData.int (i : Nat)) [.ol fs, .da (dS m rs), .da (dP ts), .da (dP us), .da (.int w), .da (.int P), .un, .un, .un, .un, .un, .un, .un, .un, .un, .un, .un, .un, .un, .un] := iRange1_of rfl
  have l := eLc_keep (vs := [7]) (tgt := gN 5 7) (tt := inT) (f := fz 5 (evVar 7)) (p := inP m rs) (g := fun d => d) src (by rw [List.length_map, List.length_range]; exact Nat.le_trans hP (by decide)) fun d hd => by
    obtain ⟨i, _, rfl⟩ := List.mem_map.mp hd
    exact ⟨[.ol fs, .da (dS m rs), .da (dP ts), .da (dP us), .da (.int w), .da (.int P), .un, .da (.int i), .un, .un, .un, .un, .un, .un, .un, .un, .un, .un, .un, .un], rfl, rfl, inT_at hm _ _ _ _ _ _ i _, fun _ => rfl⟩
  rw [List.map_id'] at l
  have e : ((List.range P).map fun i => PyData.int (i : Nat)).filter (inP m rs) = (there m rs P).map fun x => PyData.int (x : Nat) := by
    rw [there, List.filter_map]
    rfl
  rw [e] at l
  exact sSet_ol l
theorem found_ok (hP : P ≤ 6000) : sSet 5 8 (eLc [7] (iSeq 5 (evVar 6)) (gN 5 7) tTrue (fz 5 comE)) [.ol fs, .da (dS m rs), .da (dP ts), .da (dP us), .da (.int w), .da (.int P), .ol ((there m rs P).map fun x => PyData.int (x : Nat)), .un, .un, .un, .un, .un, .un, .un, .un, .un, .un, .un, .un, .un] = .nx [.ol fs, .da (dS m rs), .da (dP ts), .da (dP us), .da (.int w), .da (.int P), .da (.list ((there m rs P).map fun x => PyData.int (x : Nat))), .un, .ol ((vals m rs ts us P).map PyData.int), .un, .un, .un, .un, .un, .un, .un, .un, .un, .un, .un] := by
  have src : iSeq 5 (evVar 6) [.ol fs, .da (dS m rs), .da (dP ts), .da (dP us), .da (.int w), .da (.int P), .ol ((there m rs P).map fun x => PyData.int (x : Nat)), .un, .un, .un, .un, .un, .un, .un, .un, .un, .un, .un, .un, .un] = .val ((there m rs P).map fun x => PyData.int (x : Nat)) [.ol fs, .da (dS m rs), .da (dP ts), .da (dP us), .da (.int w), .da (.int P), .da (.list ((there m rs P).map fun x => PyData.int (x : Nat))), .un, .un, .un, .un, .un, .un, .un, .un, .un, .un, .un, .un, .un] := rfl
  have hl : ((there m rs P).map fun x => PyData.int (x : Nat)).length ≤ sizeLine := by
    rw [List.length_map]
    exact Nat.le_trans (List.length_filter_le _ _) (by rw [List.length_range]; exact Nat.le_trans hP (by decide))
  have l := eLc_map (vs := [7]) (tgt := gN 5 7) (f := fz 5 comE) (g := gvD ts us) src hl fun d hd => by
    obtain ⟨i, hi, rfl⟩ := List.mem_map.mp hd
    have hi' := List.mem_range.mp (List.mem_filter.mp hi).1
    exact ⟨[.ol fs, .da (dS m rs), .da (dP ts), .da (dP us), .da (.int w), .da (.int P), .da (.list ((there m rs P).map fun x => PyData.int (x : Nat))), .da (.int i), .un, .un, .un, .un, .un, .un, .un, .un, .un, .un, .un, .un], rfl, rfl, fz_da (np := 5) (comE_at _ _ _ _ _ i (by show (i : Int).natAbs < 2 ^ 64; omega) _)⟩
  rw [List.map_map] at l
  have e : (vals m rs ts us P).map PyData.int = (there m rs P).map (gvD ts us ∘ fun x => PyData.int (x : Nat)) := by
    rw [vals, List.map_map]
    rfl
  rw [e]
  exact sSet_ol l
/-! ### least -/
abbrev nearL : List Cell → SR := (sSeq (sSet 5 13 (eLc [7] (iSeq 5 (eTup (aCons (fz 5 (evVar 12)) (aCons (e1 pNeg (evVar 12)) aNil)))) (gN 5 7) (tAnd inT (tB (e2 pEq comE (evC (.int 1))))) (fz 5 (evVar 7))))
  (sIf (tB (e2 pNe (evVar 13) (eLst aNil))) (sSeq (sSet 5 11 (e2 pIx (evVar 13) (evC (.int 0))))
  (fun cs => .bk cs)) sNext))
theorem pNe_nil (xs : List Int) : pNe (.list (xs.map .int)) (.list []) = some (.da (.bool (!xs.isEmpty))) := by
  rw [pNe_of (n := 1) (m := 1) rfl (.ints xs) (.lst fun d hd => by simp at hd), eqv_nil]
  cases xs <;> rfl
theorem some_at (hm : 0 < m) (x5 x6 x8 x9 x11 x13 : Cell) (s : Nat) (hs : s < 2 ^ 64) : (eLc [7] (iSeq 5 (eTup (aCons (fz 5 (evVar 12)) (aCons (e1 pNeg (evVar 12)) aNil)))) (gN 5 7) (tAnd inT (tB (e2 pEq comE (evC (.int 1))))) (fz 5 (evVar 7))) [.ol fs, .da (dS m rs), .da (dP ts), .da (dP us), .da (.int w), x5, x6, .un, x8, x9, .un, x11, .da (.int s), x13, .un, .un, .un, .un, .un, .un] = .val (.ol (([(s : Int), -(s : Int)].filter fun x => okAt m rs ts us x).map .int)) [.ol fs, .da (dS m rs), .da (dP ts), .da (dP us), .da (.int w), x5, x6, .un, x8, x9, .un, x11, .da (.int s), x13, .un, .un, .un, .un, .un, .un] := by
  have l := eLc_keep (ds := [(s : Int), -(s : Int)].map PyData.int) (vs := [7]) (tgt := gN 5 7) (tt := tAnd inT (tB (e2 pEq comE (evC (.int 1))))) (f := fz 5 (evVar 7)) (p := okD m rs ts us) (g := fun d => d) (rfl : iSeq 5 (eTup (aCons (fz 5 (evVar 12)) (aCons (e1 pNeg (evVar 12)) aNil))) [.ol fs, .da (dS m rs), .da (dP ts), .da (dP us), .da (.int w), x5, x6, .un, x8, x9, .un, x11, .da (.int s), x13, .un, .un, .un, .un, .un, .un] = .val ([(s : Int), -(s : Int)].map .int) [.ol fs, .da (dS m rs), .da (dP ts), .da (dP us), .da (.int w), x5, x6, .un, x8, x9, .un, x11, .da (.int s), x13, .un, .un, .un, .un, .un, .un]) (by rw [List.length_map]; exact of_eq_true sz2) fun d hd => by
    obtain ⟨x, hx, rfl⟩ := List.mem_map.mp hd
    have fx : Fit x := by
      simp only [List.mem_cons, List.not_mem_nil, or_false] at hx
      show x.natAbs < 2 ^ 64
      rcases hx with rfl | rfl <;> omega
    have t1 := inT_at (rs := rs) hm (.ol fs) (.da (dP ts)) (.da (dP us)) (.da (.int w)) x5 x6 x [x8, x9, .un, x11, .da (.int s), x13, .un, .un, .un, .un, .un, .un]
    have t2 : tB (e2 pEq comE (evC (.int 1))) [.ol fs, .da (dS m rs), .da (dP ts), .da (dP us), .da (.int w), x5, x6, .da (.int x), x8, x9, .un, x11, .da (.int s), x13, .un, .un, .un, .un, .un, .un] = .val (decide (gv ts us x = 1)) [.ol fs, .da (dS m rs), .da (dP ts), .da (dP us), .da (.int w), x5, x6, .da (.int x), x8, x9, .un, x11, .da (.int s), x13, .un, .un, .un, .un, .un, .un] := tB_val (e2_da (x := .int (gv ts us x)) (y := .int 1) (comE_at _ _ _ _ _ x fx _) rfl rfl)
    refine ⟨[.ol fs, .da (dS m rs), .da (dP ts), .da (dP us), .da (.int w), x5, x6, .da (.int x), x8, x9, .un, x11, .da (.int s), x13, .un, .un, .un, .un, .un, .un], rfl, rfl, ?_, fun _ => rfl⟩
    show _ = TR.val (okAt m rs ts us x) _
    unfold okAt
    cases e : decide (x % m ∈ rs) with
    | false => rw [e] at t1; exact tAnd_false t1
    | true => rw [e] at t1; rw [Bool.true_and]; exact tAnd_true t1 t2
  rw [List.map_id', List.filter_map] at l
  exact l
theorem nearL_at (hm : 0 < m) (x5 x6 x8 x9 x13 : Cell) (s : Nat) (hs : s < 2 ^ 64) : ∃ y13, nearL [.ol fs, .da (dS m rs), .da (dP ts), .da (dP us), .da (.int w), x5, x6, .un, x8, x9, .un, .da .none, .da (.int s), x13, .un, .un, .un, .un, .un, .un] = if okAt m rs ts us s = true then .bk [.ol fs, .da (dS m rs), .da (dP ts), .da (dP us), .da (.int w), x5, x6, .un, x8, x9, .un, .da (.int s), .da (.int s), y13, .un, .un, .un, .un, .un, .un]
    else if okAt m rs ts us (-s) = true then .bk [.ol fs, .da (dS m rs), .da (dP ts), .da (dP us), .da (.int w), x5, x6, .un, x8, x9, .un, .da (.int (-s)), .da (.int s), y13, .un, .un, .un, .un, .un, .un] else .nx [.ol fs, .da (dS m rs), .da (dP ts), .da (dP us), .da (.int w), x5, x6, .un, x8, x9, .un, .da .none, .da (.int s), y13, .un, .un, .un, .un, .un, .un] := by
  have a := sSet_ol (np := 5) (i := 13) (some_at (rs := rs) (ts := ts) (us := us) (w := w) (fs := fs) hm x5 x6 x8 x9 (.da .none) x13 s hs)
  have t : ∀ l : List Int, tB (e2 pNe (evVar 13) (eLst aNil)) [.ol fs, .da (dS m rs), .da (dP ts), .da (dP us), .da (.int w), x5, x6, .un, x8, x9, .un, .da .none, .da (.int s), .ol (l.map .int), .un, .un, .un, .un, .un, .un] = .val (!l.isEmpty) [.ol fs, .da (dS m rs), .da (dP ts), .da (dP us), .da (.int w), x5, x6, .un, x8, x9, .un, .da .none, .da (.int s), .ol (l.map .int), .un, .un, .un, .un, .un, .un] := fun l => tB_val (e2_val (f := evVar 13) (a := .bw 13) (b := .ol []) (x := .list (l.map .int)) (y := .list []) rfl rfl rfl rfl (pNe_nil l))
  have go : ∀ (k : Int) (r : List Int), sIf (tB (e2 pNe (evVar 13) (eLst aNil))) (sSeq (sSet 5 11 (e2 pIx (evVar 13) (evC (.int 0)))) (fun cs => .bk cs)) sNext [.ol fs, .da (dS m rs), .da (dP ts), .da (dP us), .da (.int w), x5, x6, .un, x8, x9, .un, .da .none, .da (.int s), .ol ((k :: r).map .int), .un, .un, .un, .un, .un, .un] = .bk [.ol fs, .da (dS m rs), .da (dP ts), .da (dP us), .da (.int w), x5, x6, .un, x8, x9, .un, .da (.int k), .da (.int s), .ol ((k :: r).map .int), .un, .un, .un, .un, .un, .un] := fun k r => by
    refine sIf_true (t (k :: r)) (sSeq_nx (sSet_da (np := 5) (i := 11) (d := .int k) (e2_val (p := pIx) (f := evVar 13) (g := evC (.int 0)) (a := .bw 13) (b := .da (.int 0)) (x := .list ((k :: r).map .int)) (y := .int 0) rfl rfl rfl rfl ?_)) rfl)
    show (atI ((k :: r).map PyData.int) 0).map Cell.da = _
    rw [atI_0]
    rfl
  cases h1 : okAt m rs ts us s with
  | true =>
    rw [List.filter_cons_of_pos h1] at a
    exact ⟨_, sSeq_nx a (go _ _)⟩
  | false =>
    rw [List.filter_cons_of_neg (by rw [h1]; exact Bool.false_ne_true)] at a
    cases h2 : okAt m rs ts us (-s) with
    | true =>
      rw [List.filter_cons_of_pos h2] at a
      exact ⟨_, sSeq_nx a (go _ _)⟩
    | false =>
      rw [List.filter_cons_of_neg (by rw [h2]; exact Bool.false_ne_true)] at a
      exact ⟨_, sSeq_nx a (sIf_false (t []) rfl)⟩
theorem nearGo2 (hm : 0 < m) (x5 x6 x8 x9 : Cell) : ∀ (ss : List Nat), (∀ s ∈ ss, s < 2 ^ 64) → ∀ (x12 x13 : Cell), ∃ y12 y13, forGo (gN 5 12) nearL (ss.map fun i => PyData.int (i : Nat)) [.ol fs, .da (dS m rs), .da (dP ts), .da (dP us), .da (.int w), x5, x6, .un, x8, x9, .un, .da .none, x12, x13, .un, .un, .un, .un, .un, .un] = .nx [.ol fs, .da (dS m rs), .da (dP ts), .da (dP us), .da (.int w), x5, x6, .un, x8, x9, .un, .da (optD (near (okAt m rs ts us) ss)), y12, y13, .un, .un, .un, .un, .un, .un]
  | [], _, x12, x13 => ⟨x12, x13, rfl⟩
  | s :: r, hs, x12, x13 => by
    obtain ⟨y13, e⟩ := nearL_at (rs := rs) (ts := ts) (us := us) (w := w) (fs := fs) hm x5 x6 x8 x9 x13 s (hs s List.mem_cons_self)
    unfold near
    by_cases h1 : okAt m rs ts us s = true
    · rw [if_pos h1] at e ⊢
      exact ⟨_, _, forGo_bk (cs1 := [.ol fs, .da (dS m rs), .da (dP ts), .da (dP us), .da (.int w), x5, x6, .un, x8, x9, .un, .da .none, .da (.int s), x13, .un, .un, .un, .un, .un, .un]) rfl e⟩
    · rw [if_neg h1] at e ⊢
      by_cases h2 : okAt m rs ts us (-s) = true
      · rw [if_pos h2] at e ⊢
        exact ⟨_, _, forGo_bk (cs1 := [.ol fs, .da (dS m rs), .da (dP ts), .da (dP us), .da (.int w), x5, x6, .un, x8, x9, .un, .da .none, .da (.int s), x13, .un, .un, .un, .un, .un, .un]) rfl e⟩
      · rw [if_neg h2] at e ⊢
        obtain ⟨z12, z13, ih⟩ := nearGo2 hm x5 x6 x8 x9 r (fun s h => hs s (List.mem_cons_of_mem _ h)) (.da (.int s)) y13
        exact ⟨z12, z13, (forGo_nx (cs1 := [.ol fs, .da (dS m rs), .da (dP ts), .da (dP us), .da (.int w), x5, x6, .un, x8, x9, .un, .da .none, .da (.int s), x13, .un, .un, .un, .un, .un, .un]) rfl e).trans ih⟩
end
end K76
set_option Elab.async false
set_option linter.all false
set_option maxRecDepth 100000
set_option maxHeartbeats 4000000
/-! K76_5: all that is told, printed by gen5.py. -/
namespace K76
open PySem L2 TL
noncomputable section
local macro_rules | `(tactic| trivial) => `(tactic| simp [callM, sSeq, sIf, sSet, TL.canSet_eq, sRet, sRetN, sNext, evVar, evC, e2, e1, en, k2, k1, kn, pkAll, ofO, pAdd, pSub, pCmp, pNeg, tU, tOf, truD, TL.tB, bOf, TL.tAnd, TL.tOr, TL.tNot, vAnd, vOr, vNot, vIf, fz, aNil, aCons, sPar, sPar3, put1, flatC, gN, gT, gsCons, gsNil, sAsg, vIsi, eTup, eLst, dAll, eCall, callE, isT_int_int, isT_int_bool, isT_int_tuple, isT_tuple_tuple, isT_none_int, isT_bool_int, isT_bool_bool, isT_str_int, isT_tuple_int, t3, e3, qCmp, sRaise, sDrop, pMul, pListOf, iRevL, iEnumA, eSl, oNone, oSome, pSl, OR.toE_val, pGcd, pInt2, pAbs, abs_int, pMod, pNe, pEq, eqF, pLen, pInt, pIx, iSeq, wipeC, backC, cut_to, cut_from, cut_to', cut_from', eRep, pRevA, iRange1, iRange2, *])
variable {m : Int} {rs ts us : List Int} {w n P g : Nat} {fs : List D}
theorem call3p {f : List Cell → ER} {c : Cell} {os : List Cell} (h : f (c3 m rs ts us) = .val c os) (c0 : Cell) (post : List Cell) : eCall 3 f (aCons (fz 5 (evVar 1)) (aCons (fz 5 (evVar 2)) (aCons (fz 5 (evVar 3)) aNil))) (c0 :: .da (dS m rs) :: .da (dP ts) :: .da (dP us) :: post) = .val c (c0 :: .da (dS m rs) :: .da (dP ts) :: .da (dP us) :: post) :=
  eCall_da (n := 3) (d3 m rs ts us) rfl rfl h
theorem callK3 {f : List Cell → ER} {c : Cell} {os : List Cell} (h : f (c3 m rs us ts) = .val c os) (c0 : Cell) (post : List Cell) : eCallK 3 f [2, 1, 0] (aCons (fz 5 (evVar 2)) (aCons (fz 5 (evVar 3)) (aCons (fz 5 (evVar 1)) aNil))) (c0 :: .da (dS m rs) :: .da (dP ts) :: .da (dP us) :: post) = .val c (c0 :: .da (dS m rs) :: .da (dP ts) :: .da (dP us) :: post) := by
  unfold eCallK
  rw [show aCons (fz 5 (evVar 2)) (aCons (fz 5 (evVar 3)) (aCons (fz 5 (evVar 1)) aNil)) (c0 :: .da (dS m rs) :: .da (dP ts) :: .da (dP us) :: post) = .val [.da (dP ts), .da (dP us), .da (dS m rs)] (c0 :: .da (dS m rs) :: .da (dP ts) :: .da (dP us) :: post) from rfl, AR.toE_val]
  have := eCall_da (n := 3) (m := f) (f := fun cs => .val ((d3 m rs us ts).map Cell.da) cs) (cs := c0 :: .da (dS m rs) :: .da (dP ts) :: .da (dP us) :: post) (d3 m rs us ts) rfl rfl h
  exact this
theorem pIn_list (k : Int) (l : List Int) : pIn false (.int k) (.list (l.map .int)) = some (.da (.bool (decide (k ∈ l)))) := by
  unfold pIn
  have h : (l.map PyData.int).all flatD = true := by simp [flatD]
  show (if _ then _ else _) = _
  rw [if_pos ⟨rfl, h⟩]
  unfold inD
  rw [inV_ints]
  rfl
theorem asc_len (ns : List Int) : (asc ns).length = (distinct ns).length := (sortI_perm _).length_eq
theorem Cx.rep_due (c : Cx m rs ts us w n P g) : Rp 1 2600 (.list ((asc (vals m rs ts us P)).map PyData.int)) := by
  have h := Rp.lst (n := 0) (w := 40) (ds := (asc (vals m rs ts us P)).map PyData.int) fun d hd => by
    obtain ⟨v, hv, rfl⟩ := List.mem_map.mp hd
    obtain ⟨a, b, _⟩ := c.le hv
    exact .int 0 (by omega) (by omega)
  refine h.mono (Nat.le_refl _) ?_
  have := c.few
  rw [List.length_map, asc_len]
  omega
theorem rep_two {x : D} {n w : Nat} (h : Rp n w x) (hn : n ≤ 90) (hw : w ≤ 100000) : repOk (.list [x, x]) = true := by
  refine Rp.ok (n := n + 1) (w := 2 * (w + 1)) (Rp.lst (n := n) (w := w) (ds := [x, x]) fun y hy => ?_) (by omega) (by omega)
  simp only [List.mem_cons, List.not_mem_nil, or_false, or_self] at hy
  rw [hy]
  exact h
theorem near_at {ok : Int → Bool} {k : Int} : ∀ l : List Nat, near ok l = some k → ∃ s ∈ l, k = s ∨ k = -(s : Int)
  | [], h => by simp [near] at h
  | s :: l, h => by
    unfold near at h
    by_cases h1 : ok (s : Int) = true
    · rw [if_pos h1] at h; exact ⟨s, List.mem_cons_self, .inl (Option.some.inj h).symm⟩
    · rw [if_neg h1] at h
      by_cases h2 : ok (-(s : Int)) = true
      · rw [if_pos h2] at h; exact ⟨s, List.mem_cons_self, .inr (Option.some.inj h).symm⟩
      · rw [if_neg h2] at h
        obtain ⟨t, ht, e⟩ := near_at l h
        exact ⟨t, List.mem_cons_of_mem _ ht, e⟩
theorem Cx.rep_near (c : Cx m rs ts us w n P g) : Rp 0 40 (optD (near (okAt m rs ts us) (List.range (look m rs ts us P)))) := by
  cases e : near (okAt m rs ts us) (List.range (look m rs ts us P)) with
  | none => exact .non 0 40
  | some k =>
    obtain ⟨s, hs, hk⟩ := near_at _ e
    have : s < 6000 := by
      have h := List.mem_range.mp hs
      unfold look at h
      have := c.Pn
      have := c.n6
      split at h <;> omega
    exact .int 0 (by omega) (by omega)
/-! ### the steps -/
theorem period_step (c : Cx m rs ts us w n P g) (hP : (P : Int) = w * m / (Nat.gcd w m.toNat : Nat)) : sSet 5 5 (e2 pDiv (e2 pMul (evVar 4) (e2 pIx (evVar 1) (evC (.int 1)))) (eCall 2 m__law_divisor (aCons (fz 5 (evVar 4)) (aCons (fz 5 (e2 pIx (evVar 1) (evC (.int 1)))) aNil)))) [.ol fs, .da (dS m rs), .da (dP ts), .da (dP us), .da (.int w), .un, .un, .un, .un, .un, .un, .un, .un, .un, .un, .un, .un, .un, .un, .un] = .nx [.ol fs, .da (dS m rs), .da (dP ts), .da (dP us), .da (.int w), .da (.int P), .un, .un, .un, .un, .un, .un, .un, .un, .un, .un, .un, .un, .un, .un] := by
  have m1 := c.hr.low
  have m2 := c.hr.high
  have mk : mulOk (w : Int) m = true := mulOk_r (by omega)
  have em : m = (m.toNat : Int) := by omega
  have dv := law_divisor_int (w : Int) m
  have eg : Int.gcd (w : Int) m = Nat.gcd w m.toNat := by
    show Nat.gcd (w : Int).natAbs m.natAbs = _
    rw [Int.natAbs_natCast]
    congr 1
    omega
  rw [eg] at dv
  have g0 : 0 < Nat.gcd w m.toNat := Nat.gcd_pos_of_pos_right _ (by omega)
  have g1 : Nat.gcd w m.toNat ≤ m.toNat := Nat.le_of_dvd (by omega) (Nat.gcd_dvd_right ..)
  have dk : divOk (Nat.gcd w m.toNat : Int) = true := divOk_s (by omega) (by omega)
  have a := eCall_da (n := 2) (f := aCons (fz 5 (evVar 4)) (aCons (fz 5 (e2 pIx (evVar 1) (evC (.int 1)))) aNil)) (cs := [.ol fs, .da (dS m rs), .da (dP ts), .da (dP us), .da (.int w), .un, .un, .un, .un, .un, .un, .un, .un, .un, .un, .un, .un, .un, .un, .un]) [.int w, .int m] rfl rfl dv
  rw [hP]
  exact sSet_da (np := 5) (i := 5) (e2_da (x := .int (w * m)) (y := .int (Nat.gcd w m.toNat)) (e2_da (f := evVar 4) (g := e2 pIx (evVar 1) (evC (.int 1))) (cs := [.ol fs, .da (dS m rs), .da (dP ts), .da (dP us), .da (.int w), .un, .un, .un, .un, .un, .un, .un, .un, .un, .un, .un, .un, .un, .un, .un]) (x := .int w) (y := .int m) rfl rfl (pMul_of mk)) a (pDiv_of dk))
abbrev if1 : List Cell → SR := (sIf (tOr (tB (e2 pNe (en pRepr (aCons (fz 5 (eLst (aCons (fz 5 (eCall 3 m_common_values (aCons (fz 5 (evVar 1)) (aCons (fz 5 (evVar 2)) (aCons (fz 5 (evVar 3)) aNil))))) (aCons (fz 5 (eCallK 3 m_common_values [2, 1, 0] (aCons (fz 5 (evVar 2)) (aCons (fz 5 (evVar 3)) (aCons (fz 5 (evVar 1)) aNil))))) aNil)))) aNil)) (en pRepr (aCons (fz 5 (eLst (aCons (fz 5 (evVar 9)) (aCons (fz 5 (evVar 9)) aNil)))) aNil)))) (tB (e2 pNe (eLc [10] (iSeq 5 (evVar 9)) (gN 5 10) (tB (e2 pNe (e2 pMod (en pInt (aCons (evVar 4) aNil)) (evVar 10)) (evC (.int 0)))) (evC (.int 1))) (eLst aNil)))) (sRet 5 (evC (.bool false))) sNext)
theorem if1_step (c : Cx m rs ts us w n P g) : if1 [.ol fs, .da (dS m rs), .da (dP ts), .da (dP us), .da (.int w), .da (.int P), .da (.list ((there m rs P).map fun x => PyData.int (x : Nat))), .un, .ol ((vals m rs ts us P).map PyData.int), .ol ((asc (vals m rs ts us P)).map PyData.int), .un, .un, .un, .un, .un, .un, .un, .un, .un, .un] = .nx [.ol fs, .da (dS m rs), .da (dP ts), .da (dP us), .da (.int w), .da (.int P), .da (.list ((there m rs P).map fun x => PyData.int (x : Nat))), .un, .ol ((vals m rs ts us P).map PyData.int), .da (.list ((asc (vals m rs ts us P)).map PyData.int)), .un, .un, .un, .un, .un, .un, .un, .un, .un, .un] := by
  have a1 := fz_ol (np := 5) (call3p c.cv1 (.ol fs) (.da (.int w) :: .da (.int P) :: .da (.list ((there m rs P).map fun x => PyData.int (x : Nat))) :: .un :: .ol ((vals m rs ts us P).map PyData.int) :: .ol ((asc (vals m rs ts us P)).map PyData.int) :: [.un, .un, .un, .un, .un, .un, .un, .un, .un, .un]))
  have a2 := fz_ol (np := 5) (callK3 c.cv2 (.ol fs) (.da (.int w) :: .da (.int P) :: .da (.list ((there m rs P).map fun x => PyData.int (x : Nat))) :: .un :: .ol ((vals m rs ts us P).map PyData.int) :: .ol ((asc (vals m rs ts us P)).map PyData.int) :: [.un, .un, .un, .un, .un, .un, .un, .un, .un, .un]))
  have l1 := fz_ol (np := 5) (eLst_of [.list ((asc (vals m rs ts us P)).map PyData.int), .list ((asc (vals m rs ts us P)).map PyData.int)] (aCons_val a1 (aCons_val a2 (rfl : aNil _ = .val [] _))) (by simp))
  have rp := rep_two c.rep_due (by decide) (by decide)
  have r1 := en1 l1 rfl (pRepr_of rp)
  let Z : List Cell := [.ol fs, .da (dS m rs), .da (dP ts), .da (dP us), .da (.int w), .da (.int P), .da (.list ((there m rs P).map fun x => PyData.int (x : Nat))), .un, .ol ((vals m rs ts us P).map PyData.int), .da (.list ((asc (vals m rs ts us P)).map PyData.int)), .un, .un, .un, .un, .un, .un, .un, .un, .un, .un]
  have l2 : fz 5 (eLst (aCons (fz 5 (evVar 9)) (aCons (fz 5 (evVar 9)) aNil))) [.ol fs, .da (dS m rs), .da (dP ts), .da (dP us), .da (.int w), .da (.int P), .da (.list ((there m rs P).map fun x => PyData.int (x : Nat))), .un, .ol ((vals m rs ts us P).map PyData.int), .ol ((asc (vals m rs ts us P)).map PyData.int), .un, .un, .un, .un, .un, .un, .un, .un, .un, .un] = .val (.da (.list [.list ((asc (vals m rs ts us P)).map PyData.int), .list ((asc (vals m rs ts us P)).map PyData.int)])) Z := fz_ol (np := 5) (eLst_of [.list ((asc (vals m rs ts us P)).map PyData.int), .list ((asc (vals m rs ts us P)).map PyData.int)] rfl (by simp))
  have r2 := en1 l2 rfl (pRepr_of rp)
  have t1 := tB_val (e2_da r1 r2 (pNe_str _))
  have l3 := eLc_keep (vs := [10]) (src := iSeq 5 (evVar 9)) (tgt := gN 5 10) (tt := tB (e2 pNe (e2 pMod (en pInt (aCons (evVar 4) aNil)) (evVar 10)) (evC (.int 0)))) (f := evC (.int 1)) (p := fun _ => false) (g := fun _ => .int 1) (cs := Z) (cs1 := Z) (ds := (asc (vals m rs ts us P)).map PyData.int) rfl (by rw [List.length_map, asc_len]; exact Nat.le_trans (Nat.le_of_lt c.few) (by decide)) fun d hd => by
    obtain ⟨v, hv, rfl⟩ := List.mem_map.mp hd
    obtain ⟨q1, q2, q3⟩ := c.le hv
    have e := e2_da (p := pMod) (f := en pInt (aCons (evVar 4) aNil)) (g := evVar 10) (cs := [.ol fs, .da (dS m rs), .da (dP ts), .da (dP us), .da (.int w), .da (.int P), .da (.list ((there m rs P).map fun x => PyData.int (x : Nat))), .un, .ol ((vals m rs ts us P).map PyData.int), .da (.list ((asc (vals m rs ts us P)).map PyData.int)), .da (.int v), .un, .un, .un, .un, .un, .un, .un, .un, .un]) (x := .int w) (y := .int v) rfl rfl (pMod_of (by omega))
    rw [q3] at e
    exact ⟨_, rfl, rfl, tB_val (e2_da (x := .int 0) (y := .int 0) e rfl rfl), fun z => nomatch z⟩
  rw [show (((asc (vals m rs ts us P)).map PyData.int).filter fun _ => false).map (fun _ => PyData.int 1) = [] by simp] at l3
  have t2 := tB_val (e2_val (p := pNe) (g := eLst aNil) (a := .ol []) (b := .ol []) (x := .list []) (y := .list []) l3 rfl rfl rfl (pNe_nil []))
  exact sIf_false (tOr_false t1 t2) rfl
abbrev forN : List Cell → SR := sFor (iRange1 (aCons (vIf (tB (e2 (pIn false) (evC (.int 1)) (evVar 9))) (evVar 5) (evC (.int 0))) aNil)) (gN 5 12) nearL
theorem forN_step (c : Cx m rs ts us w n P g) : ∃ y12 y13, forN [.ol fs, .da (dS m rs), .da (dP ts), .da (dP us), .da (.int w), .da (.int P), .da (.list ((there m rs P).map fun x => PyData.int (x : Nat))), .un, .ol ((vals m rs ts us P).map PyData.int), .da (.list ((asc (vals m rs ts us P)).map PyData.int)), .un, .da .none, .un, .un, .un, .un, .un, .un, .un, .un] = .nx [.ol fs, .da (dS m rs), .da (dP ts), .da (dP us), .da (.int w), .da (.int P), .da (.list ((there m rs P).map fun x => PyData.int (x : Nat))), .un, .ol ((vals m rs ts us P).map PyData.int), .da (.list ((asc (vals m rs ts us P)).map PyData.int)), .un, .da (optD (near (okAt m rs ts us) (List.range (look m rs ts us P)))), y12, y13, .un, .un, .un, .un, .un, .un] := by
  have hm : 0 < m := by have := c.hr.low; omega
  obtain ⟨y12, y13, g⟩ := nearGo2 (rs := rs) (ts := ts) (us := us) (w := w) (fs := fs) hm (.da (.int P)) (.da (.list ((there m rs P).map fun x => PyData.int (x : Nat)))) (.ol ((vals m rs ts us P).map PyData.int)) (.da (.list ((asc (vals m rs ts us P)).map PyData.int))) (List.range (look m rs ts us P)) (fun s h => by
    have h := List.mem_range.mp h
    have := c.Pn
    have := c.n6
    unfold look at h
    split at h <;> omega) .un .un
  let Z : List Cell := [.ol fs, .da (dS m rs), .da (dP ts), .da (dP us), .da (.int w), .da (.int P), .da (.list ((there m rs P).map fun x => PyData.int (x : Nat))), .un, .ol ((vals m rs ts us P).map PyData.int), .da (.list ((asc (vals m rs ts us P)).map PyData.int)), .un, .da .none, .un, .un, .un, .un, .un, .un, .un, .un]
  have t : tB (e2 (pIn false) (evC (.int 1)) (evVar 9)) Z = .val (decide ((1 : Int) ∈ asc (vals m rs ts us P))) Z := tB_val (e2_da (x := .int 1) (y := .list ((asc (vals m rs ts us P)).map PyData.int)) rfl rfl (pIn_list 1 _))
  have v : vIf (tB (e2 (pIn false) (evC (.int 1)) (evVar 9))) (evVar 5) (evC (.int 0)) Z = .val (.da (.int (look m rs ts us P))) Z := by
    unfold look
    by_cases h : (1 : Int) ∈ asc (vals m rs ts us P)
    · rw [decide_eq_true h] at t
      rw [if_pos h]
      exact vIf_true t rfl
    · rw [decide_eq_false h] at t
      rw [if_neg h]
      exact vIf_false t rfl
  have hl : look m rs ts us P ≤ 6000 := by
    have := c.Pn
    have := c.n6
    unfold look
    split <;> omega
  exact ⟨y12, y13, sFor_of (iRange1_of (aCons_val v (rfl : aNil _ = .val [] _)) (by omega)) g⟩
abbrev if2 : List Cell → SR := (sIf (tB (e2 pNe (en pRepr (aCons (fz 5 (eLst (aCons (fz 5 (eCall 3 m_least_coprime (aCons (fz 5 (evVar 1)) (aCons (fz 5 (evVar 2)) (aCons (fz 5 (evVar 3)) aNil))))) (aCons (fz 5 (eCallK 3 m_least_coprime [2, 1, 0] (aCons (fz 5 (evVar 2)) (aCons (fz 5 (evVar 3)) (aCons (fz 5 (evVar 1)) aNil))))) aNil)))) aNil)) (en pRepr (aCons (fz 5 (eLst (aCons (fz 5 (evVar 11)) (aCons (fz 5 (evVar 11)) aNil)))) aNil)))) (sRet 5 (evC (.bool false))) sNext)
theorem if2_step (c : Cx m rs ts us w n P g) (x5 x6 x7 x8 x9 x10 : Cell) (post : List Cell) : if2 (.ol fs :: .da (dS m rs) :: .da (dP ts) :: .da (dP us) :: .da (.int w) :: x5 :: x6 :: x7 :: x8 :: x9 :: x10 :: .da (optD (near (okAt m rs ts us) (List.range (look m rs ts us P)))) :: post) = .nx (.ol fs :: .da (dS m rs) :: .da (dP ts) :: .da (dP us) :: .da (.int w) :: x5 :: x6 :: x7 :: x8 :: x9 :: x10 :: .da (optD (near (okAt m rs ts us) (List.range (look m rs ts us P)))) :: post) := by
  have a1 := fz_da (np := 5) (call3p c.least1 (.ol fs) (.da (.int w) :: x5 :: x6 :: x7 :: x8 :: x9 :: x10 :: .da (optD (near (okAt m rs ts us) (List.range (look m rs ts us P)))) :: post))
  have a2 := fz_da (np := 5) (callK3 c.least2 (.ol fs) (.da (.int w) :: x5 :: x6 :: x7 :: x8 :: x9 :: x10 :: .da (optD (near (okAt m rs ts us) (List.range (look m rs ts us P)))) :: post))
  have l1 := fz_ol (np := 5) (eLst_of [optD (near (okAt m rs ts us) (List.range (look m rs ts us P))), optD (near (okAt m rs ts us) (List.range (look m rs ts us P)))] (aCons_val a1 (aCons_val a2 (rfl : aNil _ = .val [] _))) (by simp))
  have rp := rep_two c.rep_near (by decide) (by decide)
  have l2 := fz_ol (np := 5) (eLst_of [optD (near (okAt m rs ts us) (List.range (look m rs ts us P))), optD (near (okAt m rs ts us) (List.range (look m rs ts us P)))] (f := aCons (fz 5 (evVar 11)) (aCons (fz 5 (evVar 11)) aNil)) (cs := (.ol fs :: .da (dS m rs) :: .da (dP ts) :: .da (dP us) :: .da (.int w) :: x5 :: x6 :: x7 :: x8 :: x9 :: x10 :: .da (optD (near (okAt m rs ts us) (List.range (look m rs ts us P)))) :: post)) rfl (by simp))
  exact sIf_false (tB_val (e2_da (en1 l1 rfl (pRepr_of rp)) (en1 l2 rfl (pRepr_of rp)) (pNe_str _))) rfl
end
end K76
set_option Elab.async false
set_option linter.all false
set_option maxRecDepth 100000
set_option maxHeartbeats 4000000
/-! K76_6: all that is told, printed by gen6.py. -/
namespace K76
open PySem L2 TL
noncomputable section
local macro_rules | `(tactic| trivial) => `(tactic| simp [callM, sSeq, sIf, sSet, TL.canSet_eq, sRet, sRetN, sNext, evVar, evC, e2, e1, en, k2, k1, kn, pkAll, ofO, pAdd, pSub, pCmp, pNeg, tU, tOf, truD, TL.tB, bOf, TL.tAnd, TL.tOr, TL.tNot, vAnd, vOr, vNot, vIf, fz, aNil, aCons, sPar, sPar3, put1, flatC, gN, gT, gsCons, gsNil, sAsg, vIsi, eTup, eLst, dAll, eCall, callE, isT_int_int, isT_int_bool, isT_int_tuple, isT_tuple_tuple, isT_none_int, isT_bool_int, isT_bool_bool, isT_str_int, isT_tuple_int, t3, e3, qCmp, sRaise, sDrop, pMul, pListOf, iRevL, iEnumA, eSl, oNone, oSome, pSl, OR.toE_val, pGcd, pInt2, pAbs, abs_int, pMod, pNe, pEq, eqF, pLen, pInt, pIx, iSeq, wipeC, backC, cut_to, cut_from, cut_to', cut_from', eRep, pRevA, iRange1, iRange2, *])
variable {m : Int} {rs ts us : List Int} {w n P g : Nat} {fs : List D}
abbrev asg2 : List Cell → SR := (sAsg (eTup (aCons (fz 5 (eCall 2 m__law_one (aCons (evVar 0) (aCons (fz 5 (eLst (aCons (evC (.int 1)) (aCons (e1 pNeg (evC (.int 1))) (aCons (evC (.int 2)) aNil))))) aNil)))) (aCons (fz 5 (en (pInt2 fMax) (aCons (en pLen (aCons (e2 pIx (evVar 2) (evC (.int 0))) aNil)) (aCons (en pLen (aCons (e2 pIx (evVar 3) (evC (.int 0))) aNil)) aNil)))) aNil))) (gT 2 (gsCons (gN 5 14) (gsCons (gN 5 15) gsNil))))
theorem asg2_step {k : Nat} (hf : Fd k fs) (hk : k ≤ 1000) (x5 x6 x8 x9 x11 x12 x13 : Cell) : ∃ (s : Int) (f1 : List D), Fd (k + 1) f1 ∧ -1 ≤ s ∧ s ≤ 2 ∧ asg2 [.ol fs, .da (dS m rs), .da (dP ts), .da (dP us), .da (.int w), x5, x6, .un, x8, x9, .un, x11, x12, x13, .un, .un, .un, .un, .un, .un] = .nx [.ol f1, .da (dS m rs), .da (dP ts), .da (dP us), .da (.int w), x5, x6, .un, x8, x9, .un, x11, x12, x13, .da (.int s), .da (.int (max ts.length us.length : Nat)), .un, .un, .un, .un] := by
  obtain ⟨d, f1, hf1, hd, w1⟩ := one_call (i := 0) (cs := [.ol fs, .da (dS m rs), .da (dP ts), .da (dP us), .da (.int w), x5, x6, .un, x8, x9, .un, x11, x12, x13, .un, .un, .un, .un, .un, .un]) (f := aCons (evVar 0) (aCons (fz 5 (eLst (aCons (evC (.int 1)) (aCons (e1 pNeg (evC (.int 1))) (aCons (evC (.int 2)) aNil))))) aNil)) (things := [.int 1, .int (-1), .int 2]) hf rfl rfl (by decide) (by decide) (by omega)
  obtain ⟨s, rfl, s1, s2⟩ : ∃ s : Int, d = .int s ∧ -1 ≤ s ∧ s ≤ 2 := by
    simp only [List.mem_cons, List.not_mem_nil, or_false] at hd
    rcases hd with rfl | rfl | rfl <;> exact ⟨_, rfl, by decide, by decide⟩
  have l1 := len_tup (f := e2 pIx (evVar 2) (evC (.int 0))) (cs := [.ol f1, .da (dS m rs), .da (dP ts), .da (dP us), .da (.int w), x5, x6, .un, x8, x9, .un, x11, x12, x13, .un, .un, .un, .un, .un, .un]) (ds := ts.map .int) rfl
  have l2 := len_tup (f := e2 pIx (evVar 3) (evC (.int 0))) (cs := [.ol f1, .da (dS m rs), .da (dP ts), .da (dP us), .da (.int w), x5, x6, .un, x8, x9, .un, x11, x12, x13, .un, .un, .un, .un, .un, .un]) (ds := us.map .int) rfl
  rw [List.length_map] at l1 l2
  have mx : en (pInt2 fMax) (aCons (en pLen (aCons (e2 pIx (evVar 2) (evC (.int 0))) aNil)) (aCons (en pLen (aCons (e2 pIx (evVar 3) (evC (.int 0))) aNil)) aNil)) [.ol f1, .da (dS m rs), .da (dP ts), .da (dP us), .da (.int w), x5, x6, .un, x8, x9, .un, x11, x12, x13, .un, .un, .un, .un, .un, .un] = .val (.da (.int (max ts.length us.length : Nat))) [.ol f1, .da (dS m rs), .da (dP ts), .da (dP us), .da (.int w), x5, x6, .un, x8, x9, .un, x11, x12, x13, .un, .un, .un, .un, .un, .un] := by
    unfold en
    rw [show aCons (fun cs => (aCons (e2 pIx (evVar 2) (evC (.int 0))) aNil cs).toE fun a cs1 => kn pLen a cs1) (aCons (fun cs => (aCons (e2 pIx (evVar 3) (evC (.int 0))) aNil cs).toE fun a cs1 => kn pLen a cs1) aNil) [.ol f1, .da (dS m rs), .da (dP ts), .da (dP us), .da (.int w), x5, x6, .un, x8, x9, .un, x11, x12, x13, .un, .un, .un, .un, .un, .un] = _ from aCons_val l1 (aCons_val l2 (rfl : aNil _ = .val [] _)), AR.toE_val]
    show ER.val (.da (.int (if (us.length : Int) > ts.length then (us.length : Int) else ts.length))) _ = _
    have e : (if (us.length : Int) > ts.length then (us.length : Int) else ts.length) = ((max ts.length us.length : Nat) : Int) := by split <;> omega
    rw [e]
  have t := eTup_of [.int s, .int (max ts.length us.length : Nat)] (aCons_val (fz_da (np := 5) w1) (aCons_val (fz_da (np := 5) mx) (rfl : aNil _ = .val [] _))) (by simp)
  exact ⟨s, f1, hf1, s1, s2, sAsg_of t rfl⟩
def pad (M : Nat) (xs : List Int) : List Int := xs ++ List.replicate (M - xs.length) 0
theorem padE_at (x5 x6 x8 x9 x11 x12 x13 : Cell) (s : Int) (M : Nat) (hM : M ≤ 3) (vs : List Int) (hv : vs.length ≤ M) : (fz 5 (e2 pAdd (en pListOf (aCons (e2 pIx (evVar 10) (evC (.int 0))) aNil)) (eRep (eLst (aCons (evC (.int 0)) aNil)) (e2 pSub (evVar 15) (en pLen (aCons (e2 pIx (evVar 10) (evC (.int 0))) aNil)))))) [.ol fs, .da (dS m rs), .da (dP ts), .da (dP us), .da (.int w), x5, x6, .un, x8, x9, .da (dP vs), x11, x12, x13, .da (.int s), .da (.int M), .un, .un, .un, .un] = .val (.da (.list ((pad M vs).map .int))) [.ol fs, .da (dS m rs), .da (dP ts), .da (dP us), .da (.int w), x5, x6, .un, x8, x9, .da (dP vs), x11, x12, x13, .da (.int s), .da (.int M), .un, .un, .un, .un] := by
  have l := len_tup (f := e2 pIx (evVar 10) (evC (.int 0))) (cs := [.ol fs, .da (dS m rs), .da (dP ts), .da (dP us), .da (.int w), x5, x6, .un, x8, x9, .da (dP vs), x11, x12, x13, .da (.int s), .da (.int M), .un, .un, .un, .un]) (ds := vs.map .int) rfl
  rw [List.length_map] at l
  have d := e2_da (p := pSub) (f := evVar 15) (cs := [.ol fs, .da (dS m rs), .da (dP ts), .da (dP us), .da (.int w), x5, x6, .un, x8, x9, .da (dP vs), x11, x12, x13, .da (.int s), .da (.int M), .un, .un, .un, .un]) (x := .int M) (y := .int vs.length) rfl l rfl
  have r := eRep_val (f := eLst (aCons (evC (.int 0)) aNil)) (cs := [.ol fs, .da (dS m rs), .da (dP ts), .da (dP us), .da (.int w), x5, x6, .un, x8, x9, .da (dP vs), x11, x12, x13, .da (.int s), .da (.int M), .un, .un, .un, .un]) (ds := [.int 0]) rfl d rfl (repC_one (.int 0) (k := (M : Int) - vs.length) (M - vs.length) (by omega) (by omega) _)
  have a := e2_val (p := pAdd) (f := en pListOf (aCons (e2 pIx (evVar 10) (evC (.int 0))) aNil)) (cs := [.ol fs, .da (dS m rs), .da (dP ts), .da (dP us), .da (.int w), x5, x6, .un, x8, x9, .da (dP vs), x11, x12, x13, .da (.int s), .da (.int M), .un, .un, .un, .un]) (a := .ol (vs.map .int)) (x := .list (vs.map .int)) (y := .list (List.replicate (M - vs.length) (.int 0))) rfl r rfl rfl (pAdd_lists (by rw [List.length_map, List.length_replicate]; exact Nat.le_trans (show vs.length + (M - vs.length) ≤ 3 by omega) (of_eq_true sz3)))
  have b := fz_ol (np := 5) a
  rw [rep_map, ← List.map_append] at b
  exact b
def padD (M : Nat) : D → D
  | .tuple [.tuple ds, _] => .list (ds ++ List.replicate (M - ds.length) (.int 0))
  | d => d
theorem padD_at (M : Nat) (vs : List Int) : padD M (dP vs) = .list ((pad M vs).map .int) := by
  show PyData.list (vs.map PyData.int ++ List.replicate (M - (vs.map PyData.int).length) (.int 0)) = _
  unfold pad
  rw [List.length_map, rep_map, List.map_append]
theorem rows_step (x5 x6 x8 x9 x11 x12 x13 : Cell) (s : Int) (M : Nat) (hM : M ≤ 3) (h1 : ts.length ≤ M) (h2 : us.length ≤ M) : sSet 5 16 (eLc [10] (iSeq 5 (eTup (aCons (fz 5 (evVar 2)) (aCons (fz 5 (evVar 3)) aNil)))) (gN 5 10) tTrue (fz 5 (e2 pAdd (en pListOf (aCons (e2 pIx (evVar 10) (evC (.int 0))) aNil)) (eRep (eLst (aCons (evC (.int 0)) aNil)) (e2 pSub (evVar 15) (en pLen (aCons (e2 pIx (evVar 10) (evC (.int 0))) aNil))))))) [.ol fs, .da (dS m rs), .da (dP ts), .da (dP us), .da (.int w), x5, x6, .un, x8, x9, .un, x11, x12, x13, .da (.int s), .da (.int M), .un, .un, .un, .un] = .nx [.ol fs, .da (dS m rs), .da (dP ts), .da (dP us), .da (.int w), x5, x6, .un, x8, x9, .un, x11, x12, x13, .da (.int s), .da (.int M), .ol [.list ((pad M ts).map PyData.int), .list ((pad M us).map PyData.int)], .un, .un, .un] := by
  have l := eLc_map (vs := [10]) (src := iSeq 5 (eTup (aCons (fz 5 (evVar 2)) (aCons (fz 5 (evVar 3)) aNil)))) (tgt := gN 5 10) (f := (fz 5 (e2 pAdd (en pListOf (aCons (e2 pIx (evVar 10) (evC (.int 0))) aNil)) (eRep (eLst (aCons (evC (.int 0)) aNil)) (e2 pSub (evVar 15) (en pLen (aCons (e2 pIx (evVar 10) (evC (.int 0))) aNil))))))) (g := padD M) (cs := [.ol fs, .da (dS m rs), .da (dP ts), .da (dP us), .da (.int w), x5, x6, .un, x8, x9, .un, x11, x12, x13, .da (.int s), .da (.int M), .un, .un, .un, .un]) (cs1 := [.ol fs, .da (dS m rs), .da (dP ts), .da (dP us), .da (.int w), x5, x6, .un, x8, x9, .un, x11, x12, x13, .da (.int s), .da (.int M), .un, .un, .un, .un]) (ds := [dP ts, dP us]) rfl (of_eq_true sz2) fun d hd => by
    obtain ⟨vs, rfl, hv⟩ : ∃ vs : List Int, d = dP vs ∧ vs.length ≤ M := by
      simp only [List.mem_cons, List.not_mem_nil, or_false] at hd
      rcases hd with rfl | rfl
      · exact ⟨ts, rfl, h1⟩
      · exact ⟨us, rfl, h2⟩
    refine ⟨[.ol fs, .da (dS m rs), .da (dP ts), .da (dP us), .da (.int w), x5, x6, .un, x8, x9, .da (dP vs), x11, x12, x13, .da (.int s), .da (.int M), .un, .un, .un, .un], rfl, rfl, ?_⟩
    rw [padD_at]
    exact padE_at x5 x6 x8 x9 x11 x12 x13 s M hM vs hv
  rw [List.map_cons, List.map_cons, List.map_nil, padD_at, padD_at] at l
  exact sSet_ol l
abbrev combE : List Cell → ER := (eLc [18, 19] (iZipL (aCons (fz 5 (e2 pIx (evVar 16) (evC (.int 0)))) (aCons (fz 5 (e2 pIx (evVar 16) (evC (.int 1)))) aNil))) (gT 2 (gsCons (gN 5 18) (gsCons (gN 5 19) gsNil))) tTrue (fz 5 (e2 pAdd (evVar 18) (e2 pMul (evVar 14) (evVar 19)))))
def combD (s : Int) : D → D
  | .tuple [.int a, .int b] => .int (a + s * b)
  | d => d
theorem zip_ints (xs ys : List Int) : zipD (xs.map .int) (ys.map .int) = (xs.zip ys).map fun p => PyData.tuple [.int p.1, .int p.2] := by
  unfold zipD
  rw [List.zip_map, List.map_map]
  rfl
theorem combE_at (x5 x6 x8 x9 x11 x12 x13 : Cell) (s : Int) (hs : Fit s) (M : Nat) (xs ys : List Int) (hl : xs.length ≤ 1000) : combE [.ol fs, .da (dS m rs), .da (dP ts), .da (dP us), .da (.int w), x5, x6, .un, x8, x9, .un, x11, x12, x13, .da (.int s), .da (.int M), .ol [.list (xs.map PyData.int), .list (ys.map PyData.int)], .un, .un, .un] = .val (.ol ((comb s xs ys).map .int)) [.ol fs, .da (dS m rs), .da (dP ts), .da (dP us), .da (.int w), x5, x6, .un, x8, x9, .un, x11, x12, x13, .da (.int s), .da (.int M), .ol [.list (xs.map PyData.int), .list (ys.map PyData.int)], .un, .un, .un] := by
  have src : iZipL (aCons (fz 5 (e2 pIx (evVar 16) (evC (.int 0)))) (aCons (fz 5 (e2 pIx (evVar 16) (evC (.int 1)))) aNil)) [.ol fs, .da (dS m rs), .da (dP ts), .da (dP us), .da (.int w), x5, x6, .un, x8, x9, .un, x11, x12, x13, .da (.int s), .da (.int M), .ol [.list (xs.map PyData.int), .list (ys.map PyData.int)], .un, .un, .un] = .val ((xs.zip ys).map fun p => PyData.tuple [.int p.1, .int p.2]) [.ol fs, .da (dS m rs), .da (dP ts), .da (dP us), .da (.int w), x5, x6, .un, x8, x9, .un, x11, x12, x13, .da (.int s), .da (.int M), .ol [.list (xs.map PyData.int), .list (ys.map PyData.int)], .un, .un, .un] := by
    rw [← zip_ints]
    rfl
  have l := eLc_map (vs := [18, 19]) (tgt := gT 2 (gsCons (gN 5 18) (gsCons (gN 5 19) gsNil))) (f := fz 5 (e2 pAdd (evVar 18) (e2 pMul (evVar 14) (evVar 19)))) (g := combD s) src (by rw [List.length_map, List.length_zip]; exact Nat.le_trans (Nat.min_le_left ..) (Nat.le_trans hl (by decide))) fun d hd => by
    obtain ⟨⟨a, b⟩, _, rfl⟩ := List.mem_map.mp hd
    exact ⟨[.ol fs, .da (dS m rs), .da (dP ts), .da (dP us), .da (.int w), x5, x6, .un, x8, x9, .un, x11, x12, x13, .da (.int s), .da (.int M), .ol [.list (xs.map PyData.int), .list (ys.map PyData.int)], .un, .da (.int a), .da (.int b)], rfl, rfl, fz_da (np := 5) (e2_da (p := pAdd) (f := evVar 18) (x := .int a) (y := .int (s * b)) rfl (e2_da (f := evVar 14) (g := evVar 19) (x := .int s) (y := .int b) rfl rfl (pMul_of (mulOk_l hs))) rfl)⟩
  rw [List.map_map] at l
  unfold comb
  rw [List.map_map]
  exact l
theorem comb_len (s : Int) (xs ys : List Int) : (comb s xs ys).length ≤ xs.length := by
  unfold comb
  rw [List.length_map, List.length_zip]
  exact Nat.min_le_left ..
theorem pad_len (M : Nat) (xs : List Int) (h : xs.length ≤ M) : (pad M xs).length = M := by
  unfold pad
  rw [List.length_append, List.length_replicate]
  omega
theorem more_step (x5 x6 x8 x9 x11 x12 x13 : Cell) (s : Int) (hs : Fit s) (M : Nat) (hM : M ≤ 3) (h1 : ts.length ≤ M) (h2 : us.length ≤ M) : ∃ row : List Int, (∀ x, vl row x = vl ts x + s * vl us x) ∧ row.length ≤ 3 ∧ sSet 5 17 (eCall 2 m__law_lowest (aCons (fz 5 combE) (aCons (evC (.int 1)) aNil))) [.ol fs, .da (dS m rs), .da (dP ts), .da (dP us), .da (.int w), x5, x6, .un, x8, x9, .un, x11, x12, x13, .da (.int s), .da (.int M), .ol [.list ((pad M ts).map PyData.int), .list ((pad M us).map PyData.int)], .un, .un, .un] = .nx [.ol fs, .da (dS m rs), .da (dP ts), .da (dP us), .da (.int w), x5, x6, .un, x8, x9, .un, x11, x12, x13, .da (.int s), .da (.int M), .ol [.list ((pad M ts).map PyData.int), .list ((pad M us).map PyData.int)], .da (dP row), .un, .un] := by
  have p1 := pad_len M ts h1
  have p2 := pad_len M us h2
  have a := combE_at (rs := rs) (ts := ts) (us := us) (m := m) (w := w) (fs := fs) x5 x6 x8 x9 x11 x12 x13 s hs M (pad M ts) (pad M us) (by omega)
  have cl := comb_len s (pad M ts) (pad M us)
  obtain ⟨row, hv, hl, e⟩ := law_lowest_ok (comb s (pad M ts) (pad M us)) (by omega)
  refine ⟨row, fun x => ?_, by omega, sSet_da (np := 5) (i := 17) (eCall_da (n := 2) [.list ((comb s (pad M ts) (pad M us)).map .int), .int 1] (aCons_val (fz_ol (np := 5) a) (rfl : aCons (evC (.int 1)) aNil _ = .val [.da (.int 1)] _)) rfl e)⟩
  rw [hv, vl_comb s x _ _ (by rw [p1, p2])]
  unfold pad
  rw [vl_pad, vl_pad]
/-! ### the other rows give the same -/
abbrev fitsA : List Cell → ER := (fz 5 (vIf (tB (e2 pNe (e2 pIx (evVar 17) (evC (.int 0))) (eTup aNil))) (e2 pIx (evVar 17) (evC (.int 0))) (eTup (aCons (evC (.int 0)) aNil))))
abbrev resE : List Cell → ER := (eCall 2 m_resultant (aCons (fz 5 (evVar 17)) (aCons (fz 5 (evVar 3)) aNil)))
abbrev cvM : List Cell → ER := (eCall 3 m_common_values (aCons (fz 5 (evVar 1)) (aCons (fz 5 (evVar 17)) (aCons (fz 5 (evVar 3)) aNil))))
abbrev if3 : List Cell → SR := (sIf (tAnd (tU (eCall 1 m__law_fits (aCons fitsA aNil))) (tAnd (tB (e2 pNe resE (evC (.int 0)))) (tAnd (tB (e2 (pCmp fLe) (e2 pMul (en pAbs (aCons resE aNil)) (e2 pIx (evVar 1) (evC (.int 1)))) (evC (.int 6000)))) (tB (e2 pNe cvM (evVar 9)))))) (sRet 5 (evC (.bool false))) sNext)
theorem pNe_nilT (xs : List Int) : pNe (.tuple (xs.map .int)) (.tuple []) = some (.da (.bool (!xs.isEmpty))) := by
  rw [pNe_of (n := 1) (m := 1) rfl (.intsT xs) (.tup fun d hd => by simp at hd)]
  cases xs <;> simp [PyData.eqv, PyData.eqvAll]
theorem if3_step (c : Cx m rs ts us w n P g) (x5 x6 x8 x11 x12 x13 x16 : Cell) (s : Int) (M : Nat) (row : List Int) (hv : ∀ x, vl row x = vl ts x + s * vl us x) (hl : row.length ≤ 3) : if3 [.ol fs, .da (dS m rs), .da (dP ts), .da (dP us), .da (.int w), x5, x6, .un, x8, .da (.list ((asc (vals m rs ts us P)).map PyData.int)), .un, x11, x12, x13, .da (.int s), .da (.int M), x16, .da (dP row), .un, .un] = .nx [.ol fs, .da (dS m rs), .da (dP ts), .da (dP us), .da (.int w), x5, x6, .un, x8, .da (.list ((asc (vals m rs ts us P)).map PyData.int)), .un, x11, x12, x13, .da (.int s), .da (.int M), x16, .da (dP row), .un, .un] := by
  let Z : List Cell := [.ol fs, .da (dS m rs), .da (dP ts), .da (dP us), .da (.int w), x5, x6, .un, x8, .da (.list ((asc (vals m rs ts us P)).map PyData.int)), .un, x11, x12, x13, .da (.int s), .da (.int M), x16, .da (dP row), .un, .un]
  have m1 := c.hr.low
  have m2 := c.hr.high
  have q : ∃ b : Bool, tU (eCall 1 m__law_fits (aCons fitsA aNil)) Z = .val b Z ∧ (b = true → Tops row) := by
    have t : tB (e2 pNe (e2 pIx (evVar 17) (evC (.int 0))) (eTup aNil)) Z = .val (!row.isEmpty) Z := tB_val (e2_da (x := .tuple (row.map .int)) (y := .tuple []) rfl rfl (pNe_nilT row))
    by_cases h0 : row = []
    · subst h0
      obtain ⟨b, eb, hb⟩ := law_fits_ok (.tup (ts := [0])) (by simp) (by simp)
      have a : fitsA Z = .val (.da (.tuple ([0].map .int))) Z := fz_da (np := 5) (vIf_false t rfl)
      refine ⟨b, tU_b (eCall_da (n := 1) [.tuple ([0].map .int)] (aCons_val a (rfl : aNil _ = .val [] _)) rfl eb), fun z => ?_⟩
      have := (hb z).two
      simp at this
    · obtain ⟨b, eb, hb⟩ := law_fits_ok (.tup (ts := row)) h0 (by omega)
      have t' : tB (e2 pNe (e2 pIx (evVar 17) (evC (.int 0))) (eTup aNil)) Z = .val true Z := by
        rw [t]
        cases row with
        | nil => exact absurd rfl h0
        | cons _ _ => rfl
      have a : fitsA Z = .val (.da (dT row)) Z := fz_da (np := 5) (vIf_true t' rfl)
      exact ⟨b, tU_b (eCall_da (n := 1) [dT row] (aCons_val a (rfl : aNil _ = .val [] _)) rfl eb), hb⟩
  obtain ⟨b, tb, hb⟩ := q
  cases b with
  | false => exact sIf_false (tAnd_false tb) rfl
  | true =>
    have hR := hb rfl
    have r : resE Z = .val (.da (.int (res row us))) Z := eCall_da (n := 2) (f := aCons (fz 5 (evVar 17)) (aCons (fz 5 (evVar 3)) aNil)) (cs := Z) [dP row, dP us] rfl rfl (resultant_ok hR c.h')
    have t1 : tB (e2 pNe resE (evC (.int 0))) Z = .val (!decide (res row us = 0)) Z := tB_val (e2_da (x := .int (res row us)) (y := .int 0) r rfl rfl)
    by_cases z : res row us = 0
    · rw [decide_eq_true z] at t1
      exact sIf_false (tAnd_true tb (tAnd_false t1)) rfl
    · rw [decide_eq_false z] at t1
      have ab : en pAbs (aCons resE aNil) Z = .val (.da (.int (res row us).natAbs)) Z := en1 r rfl (by show some (Cell.da (.int (if res row us < 0 then -res row us else res row us))) = _; rw [abs_int])
      have mk : mulOk ((res row us).natAbs : Int) m = true := mulOk_r (by omega)
      have pr := e2_da (f := en pAbs (aCons resE aNil)) (g := e2 pIx (evVar 1) (evC (.int 1))) (x := .int (res row us).natAbs) (y := .int m) ab rfl (pMul_of mk)
      have t2 : tB (e2 (pCmp fLe) (e2 pMul (en pAbs (aCons resE aNil)) (e2 pIx (evVar 1) (evC (.int 1)))) (evC (.int 6000))) Z = .val (decide (((res row us).natAbs : Int) * m ≤ 6000)) Z := tB_val (e2_da (x := .int ((res row us).natAbs * m)) (y := .int 6000) pr rfl rfl)
      by_cases le : ((res row us).natAbs : Int) * m ≤ 6000
      · rw [decide_eq_true le] at t2
        obtain ⟨k, hk⟩ : ∃ k : Nat, (k : Int) = (res row us).natAbs * m := ⟨((res row us).natAbs * m).toNat, Int.toNat_of_nonneg (Int.mul_nonneg (by omega) (by omega))⟩
        have na : (res row us).natAbs ≤ 6000 := by
          have : ((res row us).natAbs : Int) * 1 ≤ (res row us).natAbs * m := Int.mul_le_mul_of_nonneg_left m1 (by omega)
          omega
        have cvr := common_values_ok c.hr hR c.h' z (n := k) hk (by omega) na
        rw [asc_more c hv hR hk z] at cvr
        have cv : cvM Z = .val (.ol ((asc (vals m rs ts us P)).map PyData.int)) Z := eCall_da (n := 3) (f := aCons (fz 5 (evVar 1)) (aCons (fz 5 (evVar 17)) (aCons (fz 5 (evVar 3)) aNil))) (cs := Z) [dS m rs, dP row, dP us] rfl rfl cvr
        have eq : PyData.eqv (.list ((asc (vals m rs ts us P)).map PyData.int)) (.list ((asc (vals m rs ts us P)).map PyData.int)) = true := by
          show PyData.eqvAll _ _ = true
          rw [eqvAll_ints, decide_eq_true rfl]
        have t3 : tB (e2 pNe cvM (evVar 9)) Z = .val false Z := tB_val (e2_val (a := .ol ((asc (vals m rs ts us P)).map PyData.int)) (b := .da (.list ((asc (vals m rs ts us P)).map PyData.int))) (x := .list ((asc (vals m rs ts us P)).map PyData.int)) (y := .list ((asc (vals m rs ts us P)).map PyData.int)) cv rfl rfl rfl (by rw [pNe_of (n := 1) (m := 1) rfl (.ints _) (.ints _), eq]; rfl))
        exact sIf_false (tAnd_true tb (tAnd_true t1 (tAnd_true t2 t3))) rfl
      · rw [decide_eq_false le] at t2
        exact sIf_false (tAnd_true tb (tAnd_true t1 (tAnd_false t2))) rfl
end
end K76
set_option Elab.async false
set_option linter.all false
set_option maxRecDepth 100000
set_option maxHeartbeats 4000000
/-! K76_7: the law, printed by gen7.py. -/
namespace K76
open PySem L2 TL
noncomputable section
local macro_rules | `(tactic| trivial) => `(tactic| simp [callM, sSeq, sIf, sSet, TL.canSet_eq, sRet, sRetN, sNext, evVar, evC, e2, e1, en, k2, k1, kn, pkAll, ofO, pAdd, pSub, pCmp, pNeg, tU, tOf, truD, TL.tB, bOf, TL.tAnd, TL.tOr, TL.tNot, vAnd, vOr, vNot, vIf, fz, aNil, aCons, sPar, sPar3, put1, flatC, gN, gT, gsCons, gsNil, sAsg, vIsi, eTup, eLst, dAll, eCall, callE, isT_int_int, isT_int_bool, isT_int_tuple, isT_tuple_tuple, isT_none_int, isT_bool_int, isT_bool_bool, isT_str_int, isT_tuple_int, t3, e3, qCmp, sRaise, sDrop, pMul, pListOf, iRevL, iEnumA, eSl, oNone, oSome, pSl, OR.toE_val, pGcd, pInt2, pAbs, abs_int, pMod, pNe, pEq, eqF, pLen, pInt, pIx, iSeq, wipeC, backC, cut_to, cut_from, cut_to', cut_from', eRep, pRevA, iRange1, iRange2, *])
theorem sApp_of {i : Nat} {f : List Cell → ER} {cs cs1 : List Cell} {d : D} {ds es : List D} (h0 : olAt i cs = some es) (h : f cs = .val (.da d) cs1) (h1 : olAt i cs1 = some ds) (hl : ds.length < sizeLine) : sApp i f cs = .nx (cs1.set i (.ol (ds ++ [d]))) := by
  unfold sApp
  rw [h0]
  simp only
  rw [h]
  simp only [ER.toS_val]
  rw [h1]
  exact if_pos hl
theorem callM_len {nl : Nat} {f : List Cell → SR} {as os : List Cell} {c : Cell} (h : callM nl f as = .val c os) : os.length = as.length := by
  unfold callM at h
  split at h <;> first | (cases h; exact outC_length _ _) | cases h
theorem pEq_str (x : Str) : pEq (.str x) (.str x) = some (.da (.bool true)) := by
  show some (Cell.da (.bool (decide (x = x)))) = _
  rw [decide_eq_true rfl]
section
variable {m : Int} {rs ts us : List Int} {w n P g : Nat} {fs : List D}
theorem all_right_ok (c : Cx m rs ts us w n P g) (hP : (P : Int) = w * m / (Nat.gcd w m.toNat : Nat)) {k : Nat} (hf : Fd k fs) (hk : k ≤ 900) : ∃ os, m__law_all_right [.ol fs, .da (dS m rs), .da (dP ts), .da (dP us), .da (.int w)] = .val (.da (.bool true)) os := by
  have hm : 0 < m := by have := c.hr.low; omega
  have P6 : P ≤ 6000 := by have := c.Pn; have := c.n6; omega
  have st1 := period_step (fs := fs) c hP
  have st2 := there_ok (rs := rs) (ts := ts) (us := us) (w := w) (fs := fs) hm P6
  have st3 := found_ok (m := m) (rs := rs) (ts := ts) (us := us) (w := w) (fs := fs) P6
  have st4 : sSet 5 9 (en pSortSet (aCons (evVar 8) aNil)) [.ol fs, .da (dS m rs), .da (dP ts), .da (dP us), .da (.int w), .da (.int P), .da (.list ((there m rs P).map fun x => PyData.int (x : Nat))), .un, .ol ((vals m rs ts us P).map PyData.int), .un, .un, .un, .un, .un, .un, .un, .un, .un, .un, .un] = .nx [.ol fs, .da (dS m rs), .da (dP ts), .da (dP us), .da (.int w), .da (.int P), .da (.list ((there m rs P).map fun x => PyData.int (x : Nat))), .un, .ol ((vals m rs ts us P).map PyData.int), .ol ((asc (vals m rs ts us P)).map PyData.int), .un, .un, .un, .un, .un, .un, .un, .un, .un, .un] := sSet_ol (en1 (f := evVar 8) (cs := [.ol fs, .da (dS m rs), .da (dP ts), .da (dP us), .da (.int w), .da (.int P), .da (.list ((there m rs P).map fun x => PyData.int (x : Nat))), .un, .ol ((vals m rs ts us P).map PyData.int), .un, .un, .un, .un, .un, .un, .un, .un, .un, .un, .un]) rfl rfl (by rw [pSortSet_map, if_pos c.few]))
  have st5 := if1_step (fs := fs) c
  obtain ⟨y12, y13, st7⟩ := forN_step (fs := fs) c
  have st8 := if2_step (fs := fs) c (.da (.int P)) (.da (.list ((there m rs P).map fun x => PyData.int (x : Nat)))) .un (.ol ((vals m rs ts us P).map PyData.int)) (.da (.list ((asc (vals m rs ts us P)).map PyData.int))) .un [y12, y13, .un, .un, .un, .un, .un, .un]
  obtain ⟨s, f1, hf1, s1, s2, st9⟩ := asg2_step (m := m) (rs := rs) (ts := ts) (us := us) (w := w) hf (by omega) (.da (.int P)) (.da (.list ((there m rs P).map fun x => PyData.int (x : Nat)))) (.ol ((vals m rs ts us P).map PyData.int)) (.da (.list ((asc (vals m rs ts us P)).map PyData.int))) (.da (optD (near (okAt m rs ts us) (List.range (look m rs ts us P))))) y12 y13
  obtain ⟨M, hM⟩ : ∃ M, M = max ts.length us.length := ⟨_, rfl⟩
  rw [← hM] at st9
  have t3 := c.h.three
  have u3 := c.h'.three
  have M3 : M ≤ 3 := by omega
  have tM : ts.length ≤ M := by omega
  have uM : us.length ≤ M := by omega
  have st10 := rows_step (m := m) (rs := rs) (ts := ts) (us := us) (w := w) (fs := f1) (.da (.int P)) (.da (.list ((there m rs P).map fun x => PyData.int (x : Nat)))) (.ol ((vals m rs ts us P).map PyData.int)) (.da (.list ((asc (vals m rs ts us P)).map PyData.int))) (.da (optD (near (okAt m rs ts us) (List.range (look m rs ts us P))))) y12 y13 s M M3 tM uM
  obtain ⟨row, hv, hl, st11⟩ := more_step (m := m) (rs := rs) (ts := ts) (us := us) (w := w) (fs := f1) (.da (.int P)) (.da (.list ((there m rs P).map fun x => PyData.int (x : Nat)))) (.ol ((vals m rs ts us P).map PyData.int)) (.da (.list ((asc (vals m rs ts us P)).map PyData.int))) (.da (optD (near (okAt m rs ts us) (List.range (look m rs ts us P))))) y12 y13 s (fit_small (by omega) (by omega)) M M3 tM uM
  have st12 := if3_step (fs := f1) c (.da (.int P)) (.da (.list ((there m rs P).map fun x => PyData.int (x : Nat)))) (.ol ((vals m rs ts us P).map PyData.int)) (.da (optD (near (okAt m rs ts us) (List.range (look m rs ts us P))))) y12 y13 (.ol [.list ((pad M ts).map PyData.int), .list ((pad M us).map PyData.int)]) s M row hv hl
  have st13 : sSet 5 10 (eCall 3 m_common_values (aCons (fz 5 (evVar 1)) (aCons (fz 5 (evVar 2)) (aCons (fz 5 (evVar 3)) aNil)))) [.ol f1, .da (dS m rs), .da (dP ts), .da (dP us), .da (.int w), .da (.int P), .da (.list ((there m rs P).map fun x => PyData.int (x : Nat))), .un, .ol ((vals m rs ts us P).map PyData.int), .da (.list ((asc (vals m rs ts us P)).map PyData.int)), .un, .da (optD (near (okAt m rs ts us) (List.range (look m rs ts us P)))), y12, y13, .da (.int s), .da (.int M), .ol [.list ((pad M ts).map PyData.int), .list ((pad M us).map PyData.int)], .da (dP row), .un, .un] = .nx [.ol f1, .da (dS m rs), .da (dP ts), .da (dP us), .da (.int w), .da (.int P), .da (.list ((there m rs P).map fun x => PyData.int (x : Nat))), .un, .ol ((vals m rs ts us P).map PyData.int), .da (.list ((asc (vals m rs ts us P)).map PyData.int)), .ol ((asc (vals m rs ts us P)).map PyData.int), .da (optD (near (okAt m rs ts us) (List.range (look m rs ts us P)))), y12, y13, .da (.int s), .da (.int M), .ol [.list ((pad M ts).map PyData.int), .list ((pad M us).map PyData.int)], .da (dP row), .un, .un] := sSet_ol (np := 5) (i := 10) (call3p c.cv1 (.ol f1) (.da (.int w) :: .da (.int P) :: .da (.list ((there m rs P).map fun x => PyData.int (x : Nat))) :: .un :: .ol ((vals m rs ts us P).map PyData.int) :: .da (.list ((asc (vals m rs ts us P)).map PyData.int)) :: .un :: .da (optD (near (okAt m rs ts us) (List.range (look m rs ts us P)))) :: y12 :: y13 :: .da (.int s) :: .da (.int M) :: .ol [.list ((pad M ts).map PyData.int), .list ((pad M us).map PyData.int)] :: .da (dP row) :: [.un, .un]))
  have dl : (((asc (vals m rs ts us P)).map PyData.int) : List D).length < sizeLine := by
    rw [List.length_map, asc_len]
    exact Nat.lt_of_lt_of_le c.few (by decide)
  have st14 : sApp 10 (evC .none) [.ol f1, .da (dS m rs), .da (dP ts), .da (dP us), .da (.int w), .da (.int P), .da (.list ((there m rs P).map fun x => PyData.int (x : Nat))), .un, .ol ((vals m rs ts us P).map PyData.int), .da (.list ((asc (vals m rs ts us P)).map PyData.int)), .ol ((asc (vals m rs ts us P)).map PyData.int), .da (optD (near (okAt m rs ts us) (List.range (look m rs ts us P)))), y12, y13, .da (.int s), .da (.int M), .ol [.list ((pad M ts).map PyData.int), .list ((pad M us).map PyData.int)], .da (dP row), .un, .un] = .nx [.ol f1, .da (dS m rs), .da (dP ts), .da (dP us), .da (.int w), .da (.int P), .da (.list ((there m rs P).map fun x => PyData.int (x : Nat))), .un, .ol ((vals m rs ts us P).map PyData.int), .da (.list ((asc (vals m rs ts us P)).map PyData.int)), .ol ((asc (vals m rs ts us P)).map PyData.int ++ [.none]), .da (optD (near (okAt m rs ts us) (List.range (look m rs ts us P)))), y12, y13, .da (.int s), .da (.int M), .ol [.list ((pad M ts).map PyData.int), .list ((pad M us).map PyData.int)], .da (dP row), .un, .un] := sApp_of (i := 10) (es := (asc (vals m rs ts us P)).map PyData.int) (ds := (asc (vals m rs ts us P)).map PyData.int) (d := .none) rfl rfl rfl dl
  let Z : List Cell := [.ol f1, .da (dS m rs), .da (dP ts), .da (dP us), .da (.int w), .da (.int P), .da (.list ((there m rs P).map fun x => PyData.int (x : Nat))), .un, .ol ((vals m rs ts us P).map PyData.int), .da (.list ((asc (vals m rs ts us P)).map PyData.int)), .ol ((asc (vals m rs ts us P)).map PyData.int ++ [.none]), .da (optD (near (okAt m rs ts us) (List.range (look m rs ts us P)))), y12, y13, .da (.int s), .da (.int M), .ol [.list ((pad M ts).map PyData.int), .list ((pad M us).map PyData.int)], .da (dP row), .un, .un]
  have rp : repOk (.list ((asc (vals m rs ts us P)).map PyData.int)) = true := c.rep_due.ok (by decide) (by decide)
  have r1 := en1 (fz_ol (np := 5) (call3p c.cv1 (.ol f1) (.da (.int w) :: .da (.int P) :: .da (.list ((there m rs P).map fun x => PyData.int (x : Nat))) :: .un :: .ol ((vals m rs ts us P).map PyData.int) :: .da (.list ((asc (vals m rs ts us P)).map PyData.int)) :: .ol ((asc (vals m rs ts us P)).map PyData.int ++ [.none]) :: .da (optD (near (okAt m rs ts us) (List.range (look m rs ts us P)))) :: y12 :: y13 :: .da (.int s) :: .da (.int M) :: .ol [.list ((pad M ts).map PyData.int), .list ((pad M us).map PyData.int)] :: .da (dP row) :: [.un, .un]))) rfl (pRepr_of rp)
  have r2 : en pRepr (aCons (fz 5 (evVar 9)) aNil) Z = .val (.da (.str (PyData.list ((asc (vals m rs ts us P)).map PyData.int)).shown)) Z := en1 (f := fz 5 (evVar 9)) (cs := Z) rfl rfl (pRepr_of rp)
  have e1 := e2_da (p := pEq) r1 r2 (pEq_str _)
  obtain ⟨os, sh⟩ := shares_right_ok hf1 (by omega) c.shares (w := (w : Int)) (by have := c.w0; omega) (by have := c.wn; have := c.n6; omega) c.few
  have ol := callM_len sh
  match os, ol, sh with
  | c' :: os', _, sh =>
    have cl := eCall_bw (n := 6) (i := 0) (m := m__law_shares_right) (f := aCons (evVar 0) (aCons (fz 5 (evVar 1)) (aCons (fz 5 (evVar 2)) (aCons (fz 5 (evVar 3)) (aCons (fz 5 (evVar 8)) (aCons (fz 5 (evVar 4)) aNil)))))) (cs := Z) [dS m rs, dP ts, dP us, .list ((vals m rs ts us P).map PyData.int), .int w] rfl rfl rfl sh
    exact ⟨_, callM_da (nl := 15) (sSeq_nx st1 (sSeq_nx st2 (sSeq_nx st3 (sSeq_nx st4 (sSeq_nx st5 (sSeq_nx (cs1 := [.ol fs, .da (dS m rs), .da (dP ts), .da (dP us), .da (.int w), .da (.int P), .da (.list ((there m rs P).map fun x => PyData.int (x : Nat))), .un, .ol ((vals m rs ts us P).map PyData.int), .da (.list ((asc (vals m rs ts us P)).map PyData.int)), .un, .da .none, .un, .un, .un, .un, .un, .un, .un, .un]) rfl (sSeq_nx st7 (sSeq_nx st8 (sSeq_nx st9 (sSeq_nx st10 (sSeq_nx st11 (sSeq_nx st12 (sSeq_nx st13 (sSeq_nx st14 (sRet_da (vAnd_true e1 cl))))))))))))))))⟩
end
end
end K76
set_option Elab.async false
set_option linter.all false
set_option maxRecDepth 100000
set_option maxHeartbeats 4000000
/-! K76_8: the law, printed by gen8.py. -/
namespace K76
open PySem L2 TL
noncomputable section
local macro_rules | `(tactic| trivial) => `(tactic| simp [callM, sSeq, sIf, sSet, TL.canSet_eq, sRet, sRetN, sNext, evVar, evC, e2, e1, en, k2, k1, kn, pkAll, ofO, pAdd, pSub, pCmp, pNeg, tU, tOf, truD, TL.tB, bOf, TL.tAnd, TL.tOr, TL.tNot, vAnd, vOr, vNot, vIf, fz, aNil, aCons, sPar, sPar3, put1, flatC, gN, gT, gsCons, gsNil, sAsg, vIsi, eTup, eLst, dAll, eCall, callE, isT_int_int, isT_int_bool, isT_int_tuple, isT_tuple_tuple, isT_none_int, isT_bool_int, isT_bool_bool, isT_str_int, isT_tuple_int, t3, e3, qCmp, sRaise, sDrop, pMul, pListOf, iRevL, iEnumA, eSl, oNone, oSome, pSl, OR.toE_val, pGcd, pInt2, pAbs, abs_int, pMod, pNe, pEq, eqF, pLen, pInt, pIx, iSeq, wipeC, backC, cut_to, cut_from, cut_to', cut_from', eRep, pRevA, iRange1, iRange2, *])
theorem vOr_true {f g : List Cell → ER} {cs cs1 : List Cell} (h : f cs = .val (.da (.bool true)) cs1) : vOr f g cs = .val (.da (.bool true)) cs1 := by
  unfold vOr
  rw [h]
  rfl
theorem vOr_false {f g : List Cell → ER} {cs cs1 : List Cell} {r : ER} (h : f cs = .val (.da (.bool false)) cs1) (h2 : g cs1 = r) : vOr f g cs = r := by
  unfold vOr
  rw [h]
  exact h2
theorem res_small {ts us : List Int} (h : Tops ts) (h' : Tops us) : (res ts us).natAbs ≤ 999999999 := by
  have sm : ∀ {vs : List Int}, Tops vs → ∀ {t : Int}, t ∈ vs → t.natAbs ≤ 30 := fun hv t ht => by have := hv.small t ht; omega
  rcases two_or h with ⟨b, a, rfl⟩ | ⟨c, b, a, rfl⟩ <;> rcases two_or h' with ⟨e, d, rfl⟩ | ⟨f, e, d, rfl⟩
  · have aa := sm h (t := a) (by simp); have ab := sm h (t := b) (by simp); have ad := sm h' (t := d) (by simp); have ae := sm h' (t := e) (by simp)
    rw [res22]
    have := mul_abs aa ae
    have := mul_abs ab ad
    omega
  · have aa := sm h (t := a) (by simp); have ab := sm h (t := b) (by simp); have ad := sm h' (t := d) (by simp); have ae := sm h' (t := e) (by simp); have af := sm h' (t := f) (by simp)
    rw [res23]
    have := mul_abs (mul_abs aa aa) af
    have := mul_abs (mul_abs aa ab) ae
    have := mul_abs (mul_abs ab ab) ad
    omega
  · have aa := sm h (t := a) (by simp); have ab := sm h (t := b) (by simp); have ac := sm h (t := c) (by simp); have ad := sm h' (t := d) (by simp); have ae := sm h' (t := e) (by simp)
    rw [res32]
    have := mul_abs (mul_abs aa ae) ae
    have := mul_abs (mul_abs ab ad) ae
    have := mul_abs (mul_abs ac ad) ad
    omega
  · have aa := sm h (t := a) (by simp); have ab := sm h (t := b) (by simp); have ac := sm h (t := c) (by simp); have ad := sm h' (t := d) (by simp); have ae := sm h' (t := e) (by simp); have af := sm h' (t := f) (by simp)
    rw [res33]
    have m1 := mul_abs aa af
    have m2 := mul_abs ad ac
    have m3 := mul_abs aa ae
    have m4 := mul_abs ad ab
    have m5 := mul_abs ab af
    have m6 := mul_abs ae ac
    have k1 : (a * f - d * c).natAbs ≤ 1800 := by omega
    have k2 : (a * e - d * b).natAbs ≤ 1800 := by omega
    have k3 : (b * f - e * c).natAbs ≤ 1800 := by omega
    have := mul_abs k1 k1
    have := mul_abs k2 k3
    omega
theorem distinct_len : ∀ xs : List Int, (distinct xs).length ≤ xs.length
  | [] => Nat.le_refl _
  | x :: xs => by
    have := distinct_len xs
    unfold distinct
    split
    · rw [List.length_cons]; omega
    · rw [List.length_cons, List.length_cons]; omega
theorem rests_of {m : Int} {xs : List Int} (h1 : 1 ≤ m) (h2 : m ≤ 60) (h0 : 0 < xs.length) (h3 : xs.length ≤ 3) (hx : ∀ x ∈ xs, 0 ≤ x ∧ x < m) : Rests m (asc xs) := by
  refine ⟨h1, h2, fun z => ?_, ?_, fun i a b ha hb => ?_, fun r hr => hx r (asc_mem.mp hr)⟩
  · obtain ⟨v, hv⟩ := List.exists_mem_of_length_pos h0
    have := asc_mem.mpr hv
    rw [z] at this
    simp at this
  · rw [asc_len]
    exact Nat.le_trans (distinct_len xs) h3
  · obtain ⟨hi, rfl⟩ := List.getElem?_eq_some_iff.mp ha
    obtain ⟨hj, rfl⟩ := List.getElem?_eq_some_iff.mp hb
    exact List.pairwise_iff_getElem.mp (asc_up xs) i (i + 1) hi hj (by omega)
theorem ints_of' {Q : Int → Prop} : ∀ {ds : List D}, (∀ d ∈ ds, ∃ i : Int, d = .int i ∧ Q i) → ∃ ns : List Int, ds = ns.map .int ∧ ns.length = ds.length ∧ ∀ i ∈ ns, Q i
  | [], _ => ⟨[], rfl, rfl, fun i h => by simp at h⟩
  | d :: ds, h => by
    obtain ⟨i, rfl, hi⟩ := h d List.mem_cons_self
    obtain ⟨ns, rfl, hl, hq⟩ := ints_of' fun e he => h e (List.mem_cons_of_mem _ he)
    exact ⟨i :: ns, rfl, by rw [List.length_cons, List.length_cons, hl], fun j hj => by
      rcases List.mem_cons.mp hj with rfl | hj
      · exact hi
      · exact hq j hj⟩
/-- the set of rests -/
theorem set_ok {k : Nat} {fs : List D} (hf : Fd k fs) (hk : k ≤ 100) {m : Int} (h1 : 1 ≤ m) (h2 : m ≤ 60) : ∃ (xs : List Int) (f1 : List D), Fd (k + 4) f1 ∧ 0 < xs.length ∧ xs.length ≤ 3 ∧ (∀ x ∈ xs, 0 ≤ x ∧ x < m) ∧ (eLc [3] (iRange1 (aCons (e2 pAdd (evC (.int 1)) (eCall 2 m__law_draw (aCons (evVar 0) (aCons (evC (.int 3)) aNil)))) aNil)) (gN 1 3) tTrue (fz 1 (eCall 2 m__law_draw (aCons (evVar 0) (aCons (fz 1 (evVar 1)) aNil))))) [.ol fs, .da (.int m), .un, .un, .un, .un, .un, .un, .un, .un] = .val (.ol (xs.map .int)) [.ol f1, .da (.int m), .un, .un, .un, .un, .un, .un, .un, .un] := by
  obtain ⟨r, f1, hf1, a1, b1, w1⟩ := draw_call (i := 0) (cs := [.ol fs, .da (.int m), .un, .un, .un, .un, .un, .un, .un, .un]) (f := argD 3) hf rfl rfl (by decide) (by decide) (by omega)
  obtain ⟨q, rfl⟩ := Int.eq_ofNat_of_zero_le a1
  have src : iRange1 (aCons (e2 pAdd (evC (.int 1)) (eCall 2 m__law_draw (aCons (evVar 0) (aCons (evC (.int 3)) aNil)))) aNil) [.ol fs, .da (.int m), .un, .un, .un, .un, .un, .un, .un, .un] = .val ((List.range (1 + q)).map fun i => PyData.int (i : Nat)) [.ol f1, .da (.int m), .un, .un, .un, .un, .un, .un, .un, .un] := by
    have e := e2_da (p := pAdd) (f := evC (.int 1)) (x := .int 1) (y := .int (q : Nat)) rfl w1 rfl
    rw [show (1 : Int) + (q : Nat) = ((1 + q : Nat) : Int) by omega] at e
    exact iRange1_of (aCons_val e (rfl : aNil _ = .val [] _))
  obtain ⟨es, cs', g, hl, hp, f3, h3, rfl⟩ := lcGo_inv (vs := [3]) (tgt := gN 1 3) (tt := tTrue) (f := fz 1 (eCall 2 m__law_draw (aCons (evVar 0) (aCons (fz 1 (evVar 1)) aNil)))) (fun i cs => ∃ f3, Fd (k + 1 + i) f3 ∧ cs = [.ol f3, .da (.int m), .un, .un, .un, .un, .un, .un, .un, .un]) (fun d => ∃ i : Int, d = .int i ∧ (0 ≤ i ∧ i < m)) 3
    ((List.range (1 + q)).map fun i => PyData.int (i : Nat)) 0 [.ol f1, .da (.int m), .un, .un, .un, .un, .un, .un, .un, .un] (by rw [List.length_map, List.length_range]; omega) (fun i d cs hi hd hI => by
      obtain ⟨f3, h3, rfl⟩ := hI
      obtain ⟨j, hj, rfl⟩ := List.mem_map.mp hd
      obtain ⟨r, f4, h4, r0, r1, e4⟩ := draw_call (i := 0) (cs := [.ol f3, .da (.int m), .un, .da (.int j), .un, .un, .un, .un, .un, .un]) (f := aCons (evVar 0) (aCons (fz 1 (evVar 1)) aNil)) (k := m) h3 rfl rfl (by omega) (by omega) (by omega)
      exact ⟨[.ol f3, .da (.int m), .un, .da (.int j), .un, .un, .un, .un, .un, .un], [.ol f4, .da (.int m), .un, .da (.int j), .un, .un, .un, .un, .un, .un], .int r, rfl, rfl, fz_da (np := 1) e4, ⟨_, rfl, r0, r1⟩, f4, h4, rfl⟩) ⟨f1, hf1, rfl⟩
  rw [List.length_map, List.length_range] at hl h3
  obtain ⟨xs, rfl, hl2, hx⟩ := ints_of' hp
  exact ⟨xs, f3, h3.mono (by omega), by omega, by omega, hx, eLc_of (vs := [3]) src (by rw [List.length_map, List.length_range]; exact Nat.le_trans (show 1 + q ≤ 3 by omega) (of_eq_true sz3)) g⟩
theorem callK2 {ts us : List Int} {f : List Cell → ER} {c : Cell} {os : List Cell} {fs : List D} {m : Int} {rs : List Int} {a b : D} (h : f [.da (dP ts), .da (dP us)] = .val c os) : eCallK 2 f [1, 0] (aCons (fz 1 (evVar 7)) (aCons (fz 1 (evVar 6)) aNil)) [.ol fs, .da (.int m), .da (dS m rs), .un, .da (dT ts), .da (dT us), .da (dP ts), .da (dP us), .da a, .da b] = .val c [.ol fs, .da (.int m), .da (dS m rs), .un, .da (dT ts), .da (dT us), .da (dP ts), .da (dP us), .da a, .da b] := by
  unfold eCallK
  rw [show aCons (fz 1 (evVar 7)) (aCons (fz 1 (evVar 6)) aNil) [.ol fs, .da (.int m), .da (dS m rs), .un, .da (dT ts), .da (dT us), .da (dP ts), .da (dP us), .da a, .da b] = .val [.da (dP us), .da (dP ts)] [.ol fs, .da (.int m), .da (dS m rs), .un, .da (dT ts), .da (dT us), .da (dP ts), .da (dP us), .da a, .da b] from rfl, AR.toE_val]
  have := eCall_da (n := 2) (m := f) (f := fun cs => .val ([dP ts, dP us].map Cell.da) cs) (cs := [.ol fs, .da (.int m), .da (dS m rs), .un, .da (dT ts), .da (dT us), .da (dP ts), .da (dP us), .da a, .da b]) [dP ts, dP us] rfl rfl h
  exact this
/-- the periods of a case -/
theorem cx_of {m : Int} {rs ts us : List Int} (hr : Rests m rs) (h : Tops ts) (h' : Tops us) (hz : res ts us ≠ 0) (h6 : ((res ts us).natAbs : Int) * m ≤ 6000) : ∃ n P g, Cx m rs ts us (res ts us).natAbs n P g ∧ (P : Int) = ((res ts us).natAbs : Int) * m / (Nat.gcd (res ts us).natAbs m.toNat : Nat) := by
  have m1 := hr.low
  obtain ⟨mN, rfl⟩ := Int.eq_ofNat_of_zero_le (show 0 ≤ m by omega)
  have w0 : 0 < (res ts us).natAbs := by omega
  have tn : Int.toNat (mN : Int) = mN := Int.toNat_natCast mN
  rw [tn]
  have gw : Nat.gcd (res ts us).natAbs mN ∣ (res ts us).natAbs := Nat.gcd_dvd_left ..
  have gm : Nat.gcd (res ts us).natAbs mN ∣ mN := Nat.gcd_dvd_right ..
  have g0 : 0 < Nat.gcd (res ts us).natAbs mN := Nat.gcd_pos_of_pos_left _ w0
  have rw_ : res ts us ∣ ((res ts us).natAbs : Int) := Int.dvd_natAbs.mpr (Int.dvd_refl _)
  generalize hw : (res ts us).natAbs = w at *
  generalize hg : Nat.gcd w mN = g at *
  obtain ⟨u, hu⟩ := gw
  obtain ⟨v, hv⟩ := gm
  have u0 : 0 < u := Nat.pos_of_ne_zero fun z => by rw [z, Nat.mul_zero] at hu; omega
  have v0 : 0 < v := Nat.pos_of_ne_zero fun z => by rw [z, Nat.mul_zero] at hv; omega
  have eP : w * mN / g = w * v := by
    rw [hv, ← Nat.mul_assoc, Nat.mul_comm w g, Nat.mul_assoc, Nat.mul_div_cancel_left _ g0]
  have e2 : w * v = u * mN := by rw [hu, hv, Nat.mul_comm g u, Nat.mul_assoc]
  refine ⟨w * mN, w * v, g, ⟨hr, h, h', hz, hw.symm, by rw [Int.natCast_mul], by have : ((w * mN : Nat) : Int) ≤ 6000 := by rw [Int.natCast_mul]; exact h6
                                                                                 omega, Nat.mul_pos w0 v0, ?_, g0, ?_, ?_⟩, ?_⟩
  · rw [hv, ← Nat.mul_assoc, ← Nat.mul_assoc, Nat.mul_comm w g]
  · rw [e2, Int.natCast_mul]
    exact Int.dvd_mul_left ..
  · rw [Int.natCast_mul]
    exact Int.dvd_trans rw_ (Int.dvd_mul_right ..)
  · rw [← eP, Int.natCast_ediv, Int.natCast_mul]
theorem right_ok {fs : List D} (hf : Fd 0 fs) : ∃ os, m__law_right [.ol fs] = .val (.da (.bool true)) os := by
  obtain ⟨d, f1, hf1, hd, w1⟩ := one_call (i := 0) (cs := [.ol fs, .un, .un, .un, .un, .un, .un, .un, .un, .un]) (f := aCons (evVar 0) (aCons (fz 1 (eLst (aCons (evC (.int 1)) (aCons (evC (.int 1)) (aCons (evC (.int 2)) (aCons (evC (.int 3)) (aCons (evC (.int 4)) (aCons (evC (.int 5)) (aCons (evC (.int 6)) (aCons (evC (.int 10)) (aCons (evC (.int 60)) aNil))))))))))) aNil)) (things := [.int 1, .int 1, .int 2, .int 3, .int 4, .int 5, .int 6, .int 10, .int 60]) hf rfl rfl (by decide) (by decide) (by omega)
  obtain ⟨m, rfl, m1, m2⟩ : ∃ s : Int, d = .int s ∧ 1 ≤ s ∧ s ≤ 60 := by
    simp only [List.mem_cons, List.not_mem_nil, or_false] at hd
    rcases hd with rfl | rfl | rfl | rfl | rfl | rfl | rfl | rfl | rfl <;> exact ⟨_, rfl, by decide, by decide⟩
  have s1 := sSet_da (np := 1) (i := 1) w1
  obtain ⟨xs, f2, hf2, x0, x3, hx, we⟩ := set_ok hf1 (by omega) m1 m2
  have hr := rests_of m1 m2 x0 x3 hx
  have ss := en1 (p := pSortSet) (d := .list (xs.map .int)) we rfl (by rw [pSortSet_map, if_pos (Nat.lt_of_le_of_lt (distinct_len xs) (by omega))])
  generalize hrs : asc xs = rs at *
  have tp := en1 (p := pTupOf) (d := .list (rs.map .int)) (r := .da (.tuple (rs.map .int))) ss rfl rfl
  have s2 := sSet_da (np := 1) (i := 2) (eTup_of [.str "rests", .int m, .tuple (rs.map .int)] (aCons_val (f := evC (.str "rests")) (cs := [.ol f1, .da (.int m), .un, .un, .un, .un, .un, .un, .un, .un]) rfl (aCons_val (f := fz 1 (evVar 1)) rfl (aCons_val (fz_da (np := 1) tp) (rfl : aNil _ = .val [] _)))) (by simp))
  obtain ⟨ts, us, f3, hf3, h, h', w3⟩ := law_two_ok hf2 (by omega)
  have c3 := fz_ol (np := 1) (eCall_bw (n := 1) (i := 0) (f := aCons (evVar 0) aNil) (cs := [.ol f2, .da (.int m), .da (dS m rs), .un, .un, .un, .un, .un, .un, .un]) [] rfl rfl rfl w3)
  have s4 : sAsg (fz 1 (eCall 1 m__law_two (aCons (evVar 0) aNil))) (gT 2 (gsCons (gN 1 4) (gsCons (gN 1 5) gsNil))) [.ol f2, .da (.int m), .da (dS m rs), .un, .un, .un, .un, .un, .un, .un] = .nx [.ol f3, .da (.int m), .da (dS m rs), .un, .da (dT ts), .da (dT us), .un, .un, .un, .un] := sAsg_of c3 rfl
  have c4 := eCall_da (n := 2) (f := aCons (fz 1 (evVar 4)) (aCons (fz 1 (evVar 5)) aNil)) (cs := [.ol f3, .da (.int m), .da (dS m rs), .un, .da (dT ts), .da (dT us), .un, .un, .un, .un]) [dT ts, dT us] rfl rfl (law_resultant_ok h h')
  have s5 : sPar3 1 6 7 8 (aCons (eTup (aCons (fz 1 (evVar 4)) (aCons (evC (.int 1)) aNil))) (aCons (eTup (aCons (fz 1 (evVar 5)) (aCons (evC (.int 1)) aNil))) (aCons (fz 1 (eCall 2 m__law_resultant (aCons (fz 1 (evVar 4)) (aCons (fz 1 (evVar 5)) aNil)))) aNil))) [.ol f3, .da (.int m), .da (dS m rs), .un, .da (dT ts), .da (dT us), .un, .un, .un, .un] = .nx [.ol f3, .da (.int m), .da (dS m rs), .un, .da (dT ts), .da (dT us), .da (dP ts), .da (dP us), .da (.int (res ts us)), .un] := by
    unfold sPar3
    rw [aCons_val (f := eTup (aCons (fz 1 (evVar 4)) (aCons (evC (.int 1)) aNil))) (cs := [.ol f3, .da (.int m), .da (dS m rs), .un, .da (dT ts), .da (dT us), .un, .un, .un, .un]) (cs1 := [.ol f3, .da (.int m), .da (dS m rs), .un, .da (dT ts), .da (dT us), .un, .un, .un, .un]) (c := .da (dP ts)) rfl (aCons_val (f := eTup (aCons (fz 1 (evVar 5)) (aCons (evC (.int 1)) aNil))) (cs := [.ol f3, .da (.int m), .da (dS m rs), .un, .da (dT ts), .da (dT us), .un, .un, .un, .un]) (cs1 := [.ol f3, .da (.int m), .da (dS m rs), .un, .da (dT ts), .da (dT us), .un, .un, .un, .un]) (c := .da (dP us)) rfl (aCons_val (fz_da (np := 1) c4) (rfl : aNil _ = .val [] _)))]
    rfl
  have sw := res_swap h h'
  have l4 := len_tup (f := evVar 4) (cs := [.ol f3, .da (.int m), .da (dS m rs), .un, .da (dT ts), .da (dT us), .da (dP ts), .da (dP us), .da (.int (res ts us)), .un]) (ds := ts.map .int) rfl
  have l5 := len_tup (f := evVar 5) (cs := [.ol f3, .da (.int m), .da (dS m rs), .un, .da (dT ts), .da (dT us), .da (dP ts), .da (dP us), .da (.int (res ts us)), .un]) (ds := us.map .int) rfl
  rw [List.length_map] at l4 l5
  have t4 : tB (e2 pEq (en pLen (aCons (evVar 4) aNil)) (evC (.int 2))) [.ol f3, .da (.int m), .da (dS m rs), .un, .da (dT ts), .da (dT us), .da (dP ts), .da (dP us), .da (.int (res ts us)), .un] = .val (decide ((ts.length : Int) = 2)) [.ol f3, .da (.int m), .da (dS m rs), .un, .da (dT ts), .da (dT us), .da (dP ts), .da (dP us), .da (.int (res ts us)), .un] := tB_val (e2_da (x := .int ts.length) (y := .int 2) l4 rfl rfl)
  have t5 : tB (e2 pEq (en pLen (aCons (evVar 5) aNil)) (evC (.int 2))) [.ol f3, .da (.int m), .da (dS m rs), .un, .da (dT ts), .da (dT us), .da (dP ts), .da (dP us), .da (.int (res ts us)), .un] = .val (decide ((us.length : Int) = 2)) [.ol f3, .da (.int m), .da (dS m rs), .un, .da (dT ts), .da (dT us), .da (dP ts), .da (dP us), .da (.int (res ts us)), .un] := tB_val (e2_da (x := .int us.length) (y := .int 2) l5 rfl rfl)
  have tv : vIf (tAnd (tB (e2 pEq (en pLen (aCons (evVar 4) aNil)) (evC (.int 2)))) (tB (e2 pEq (en pLen (aCons (evVar 5) aNil)) (evC (.int 2))))) (e1 pNeg (evVar 8)) (evVar 8) [.ol f3, .da (.int m), .da (dS m rs), .un, .da (dT ts), .da (dT us), .da (dP ts), .da (dP us), .da (.int (res ts us)), .un] = .val (.da (.int (res us ts))) [.ol f3, .da (.int m), .da (dS m rs), .un, .da (dT ts), .da (dT us), .da (dP ts), .da (dP us), .da (.int (res ts us)), .un] := by
    rw [sw]
    by_cases q4 : ts.length = 2
    · rw [decide_eq_true (by omega)] at t4
      by_cases q5 : us.length = 2
      · rw [decide_eq_true (by omega)] at t5
        rw [if_pos ⟨q4, q5⟩]
        exact vIf_true (tAnd_true t4 t5) rfl
      · rw [decide_eq_false (by omega)] at t5
        rw [if_neg (fun z => q5 z.2)]
        exact vIf_false (tAnd_true t4 t5) rfl
    · rw [decide_eq_false (by omega)] at t4
      rw [if_neg (fun z => q4 z.1)]
      exact vIf_false (tAnd_false t4) rfl
  have s6 := sSet_da (np := 1) (i := 9) tv
  let Z : List Cell := [.ol f3, .da (.int m), .da (dS m rs), .un, .da (dT ts), .da (dT us), .da (dP ts), .da (dP us), .da (.int (res ts us)), .da (.int (res us ts))]
  have r1 := fz_da (np := 1) (eCall_da (n := 2) (f := aCons (fz 1 (evVar 6)) (aCons (fz 1 (evVar 7)) aNil)) (cs := Z) [dP ts, dP us] rfl rfl (resultant_ok h h'))
  have r2 := fz_da (np := 1) (callK2 (fs := f3) (m := m) (rs := rs) (a := .int (res ts us)) (b := .int (res us ts)) (resultant_ok h h'))
  have r3 := fz_da (np := 1) (eCall_da (n := 2) (f := aCons (fz 1 (evVar 7)) (aCons (fz 1 (evVar 6)) aNil)) (cs := Z) [dP us, dP ts] rfl rfl (resultant_ok h' h))
  have q1 := fz_ol (np := 1) (eLst_of [.int (res ts us), .int (res ts us), .int (res us ts)] (aCons_val r1 (aCons_val r2 (aCons_val r3 (rfl : aNil _ = .val [] _)))) (by simp))
  have q2 := fz_ol (np := 1) (eLst_of [.int (res ts us), .int (res ts us), .int (res us ts)] (f := aCons (fz 1 (evVar 8)) (aCons (fz 1 (evVar 8)) (aCons (fz 1 (evVar 9)) aNil))) (cs := Z) rfl (by simp))
  have sm := res_small h h'
  have sa := res_abs h h'
  have rp : repOk (.list [.int (res ts us), .int (res ts us), .int (res us ts)]) = true := by
    refine Rp.ok (n := 1) (w := 3 * 41) (Rp.lst (n := 0) (w := 40) (ds := [.int (res ts us), .int (res ts us), .int (res us ts)]) fun y hy => ?_) (by decide) (by decide)
    simp only [List.mem_cons, List.not_mem_nil, or_false] at hy
    rcases hy with rfl | rfl | rfl <;> exact .int 0 (by omega) (by omega)
  have s7 : (sIf (tB (e2 pNe (en pRepr (aCons (fz 1 (eLst (aCons (fz 1 (eCall 2 m_resultant (aCons (fz 1 (evVar 6)) (aCons (fz 1 (evVar 7)) aNil)))) (aCons (fz 1 (eCallK 2 m_resultant [1, 0] (aCons (fz 1 (evVar 7)) (aCons (fz 1 (evVar 6)) aNil)))) (aCons (fz 1 (eCall 2 m_resultant (aCons (fz 1 (evVar 7)) (aCons (fz 1 (evVar 6)) aNil)))) aNil))))) aNil)) (en pRepr (aCons (fz 1 (eLst (aCons (fz 1 (evVar 8)) (aCons (fz 1 (evVar 8)) (aCons (fz 1 (evVar 9)) aNil))))) aNil)))) (sRet 1 (evC (.bool false))) sNext) Z = .nx Z := sIf_false (tB_val (e2_da (en1 q1 rfl (pRepr_of rp)) (en1 q2 rfl (pRepr_of rp)) (pNe_str _))) rfl
  have pre : ∀ {G : List Cell → SR} {cs : List Cell}, G Z = .rt (.da (.bool true)) cs → m__law_right [.ol fs] = .val (.da (.bool true)) (outC [.ol fs] cs) ∨ True := fun _ => .inr trivial
  have t8 : tB (e2 pEq (evVar 8) (evC (.int 0))) Z = .val (decide (res ts us = 0)) Z := tB_val (e2_da (x := .int (res ts us)) (y := .int 0) rfl rfl rfl)
  have ab : en pAbs (aCons (evVar 8) aNil) Z = .val (.da (.int (res ts us).natAbs)) Z := en1 (f := evVar 8) (cs := Z) rfl rfl (by show some (Cell.da (.int (if res ts us < 0 then -res ts us else res ts us))) = _; rw [abs_int])
  have mk : mulOk ((res ts us).natAbs : Int) m = true := mulOk_r (by omega)
  have pr : (e2 pMul (en pAbs (aCons (evVar 8) aNil)) (evVar 1)) Z = .val (.da (.int ((res ts us).natAbs * m))) Z := e2_da (g := evVar 1) (x := .int (res ts us).natAbs) (y := .int m) ab rfl (pMul_of mk)
  by_cases hz : res ts us = 0
  · rw [decide_eq_true hz] at t8
    obtain ⟨os, e⟩ := refused_ok hf3 (by omega) (m := m) (rs := rs) (ts := ts) (us := us) (word := "choice") (.inl rfl) (fun w hw => by
      match w, hw with
      | 0, _ => exact told0_err (by decide +kernel) (common_values_choice hr h h' hz)
      | 1, _ => exact told1_err (by decide +kernel) (common_share_choice hr h h' hz _)
      | 2, _ => exact told2_err (by decide +kernel) (least_choice hr h h' hz)) (fun d hd => told1_err (by decide +kernel) (common_share_choice hr h h' hz d))
    have ol := callM_len e
    match os, ol, e with
    | c' :: os', _, e =>
      have cl := eCall_bw (n := 5) (i := 0) (m := m__law_refused_right) (f := aCons (evVar 0) (aCons (fz 1 (evVar 2)) (aCons (fz 1 (evVar 6)) (aCons (fz 1 (evVar 7)) (aCons (evC (.str "choice")) aNil))))) (cs := Z) [dS m rs, dP ts, dP us, .str "choice"] rfl rfl rfl e
      exact ⟨_, callM_da (nl := 9) (sSeq_nx s1 (sSeq_nx s2 (sSeq_nx s4 (sSeq_nx s5 (sSeq_nx s6 (sSeq_nx s7 (sSeq_rt (sIf_true t8 (sRet_da cl)))))))))⟩
  · rw [decide_eq_false hz] at t8
    have t9 : tB (e2 (pCmp fGt) (e2 pMul (en pAbs (aCons (evVar 8) aNil)) (evVar 1)) (evC (.int 100000))) Z = .val (decide (100000 < ((res ts us).natAbs : Int) * m)) Z := tB_val (e2_da (x := .int ((res ts us).natAbs * m)) (y := .int 100000) pr rfl rfl)
    by_cases hw : (100000 : Int) < (res ts us).natAbs * m
    · rw [decide_eq_true hw] at t9
      obtain ⟨os, e⟩ := refused_ok hf3 (by omega) (m := m) (rs := rs) (ts := ts) (us := us) (word := "many") (.inr rfl) (fun w hw' => by
        match w, hw' with
        | 0, _ => exact told0_err (by decide +kernel) (common_values_many hr h h' hz hw)
        | 1, _ => exact told1_err (by decide +kernel) (common_share_many hr h h' hz hw (by decide))
        | 2, _ => exact told2_err (by decide +kernel) (least_many hr h h' hz hw)) (fun d hd => told1_err (by decide +kernel) (common_share_odd hr h h' hz hd))
      have ol := callM_len e
      match os, ol, e with
      | c' :: os', _, e =>
        have cl := eCall_bw (n := 5) (i := 0) (m := m__law_refused_right) (f := aCons (evVar 0) (aCons (fz 1 (evVar 2)) (aCons (fz 1 (evVar 6)) (aCons (fz 1 (evVar 7)) (aCons (evC (.str "many")) aNil))))) (cs := Z) [dS m rs, dP ts, dP us, .str "many"] rfl rfl rfl e
        exact ⟨_, callM_da (nl := 9) (sSeq_nx s1 (sSeq_nx s2 (sSeq_nx s4 (sSeq_nx s5 (sSeq_nx s6 (sSeq_nx s7 (sSeq_nx (sIf_false t8 rfl) (sSeq_rt (sIf_true t9 (sRet_da cl))))))))))⟩
    · rw [decide_eq_false hw] at t9
      have v1 : e2 (pCmp fGt) (e2 pMul (en pAbs (aCons (evVar 8) aNil)) (evVar 1)) (evC (.int 6000)) Z = .val (.da (.bool (decide (6000 < ((res ts us).natAbs : Int) * m)))) Z := e2_da (x := .int ((res ts us).natAbs * m)) (y := .int 6000) pr rfl rfl
      by_cases h6 : (6000 : Int) < (res ts us).natAbs * m
      · rw [decide_eq_true h6] at v1
        exact ⟨_, callM_da (nl := 9) (sSeq_nx s1 (sSeq_nx s2 (sSeq_nx s4 (sSeq_nx s5 (sSeq_nx s6 (sSeq_nx s7 (sSeq_nx (sIf_false t8 rfl) (sSeq_nx (sIf_false t9 rfl) (sRet_da (vOr_true v1))))))))))⟩
      · rw [decide_eq_false h6] at v1
        obtain ⟨n, P, g, c, hP⟩ := cx_of hr h h' hz (by omega)
        obtain ⟨os, e⟩ := all_right_ok c hP hf3 (by omega)
        have ol := callM_len e
        match os, ol, e with
        | c' :: os', _, e =>
          have cl := eCall_bw (n := 5) (i := 0) (m := m__law_all_right) (f := aCons (evVar 0) (aCons (fz 1 (evVar 2)) (aCons (fz 1 (evVar 6)) (aCons (fz 1 (evVar 7)) (aCons (fz 1 (en pAbs (aCons (evVar 8) aNil))) aNil))))) (cs := Z) [dS m rs, dP ts, dP us, .int (res ts us).natAbs] (aCons_val (f := evVar 0) rfl (aCons_val (f := fz 1 (evVar 2)) rfl (aCons_val (f := fz 1 (evVar 6)) rfl (aCons_val (f := fz 1 (evVar 7)) rfl (aCons_val (fz_da (np := 1) ab) (rfl : aNil _ = .val [] _)))))) rfl rfl e
          exact ⟨_, callM_da (nl := 9) (sSeq_nx s1 (sSeq_nx s2 (sSeq_nx s4 (sSeq_nx s5 (sSeq_nx s6 (sSeq_nx s7 (sSeq_nx (sIf_false t8 rfl) (sSeq_nx (sIf_false t9 rfl) (sRet_da (vOr_false v1 cl))))))))))⟩
theorem law_ok : ∀ ns : List Int, ns.length ≤ 63 → ∃ cs, m_law [.da (.list (ns.map PyData.int))] = .val (.da (.bool true)) cs := by
  intro ns hl
  let N : Nat := (max 1 (min ns.length 4))
  have lenE := len_list (f := evVar 0) (cs := [.da (.list (ns.map .int)), .un]) (ds := ns.map .int) rfl
  rw [List.length_map] at lenE
  have src : iRange1 (aCons (en (pInt2 fMax) (aCons (evC (.int 1)) (aCons (en (pInt2 fMin) (aCons (en pLen (aCons (evVar 0) aNil)) (aCons (evC (.int 4)) aNil))) aNil))) aNil) [.da (.list (ns.map .int)), .un] = .val ((List.range N).map fun i => PyData.int (i : Nat)) [.da (.list (ns.map .int)), .un] := by
    have mn : en (pInt2 fMin) (aCons (en pLen (aCons (evVar 0) aNil)) (aCons (evC (.int 4)) aNil)) [.da (.list (ns.map .int)), .un] = .val (.da (.int (min ns.length 4 : Nat))) [.da (.list (ns.map .int)), .un] := by
      have a := aCons_val lenE (rfl : aCons (evC (.int 4)) aNil _ = .val [.da (.int 4)] _)
      have e : (if (4 : Int) < ns.length then (4 : Int) else ns.length) = ((min ns.length 4 : Nat) : Int) := by split <;> omega
      rw [← e]
      unfold en at a ⊢
      rw [a]
      rfl
    have a := aCons_val (f := evC (.int 1)) rfl (aCons_val mn (rfl : aNil _ = .val [] _))
    refine iRange1_of (aCons_val (f := en (pInt2 fMax) (aCons (evC (.int 1)) (aCons (en (pInt2 fMin) (aCons (en pLen (aCons (evVar 0) aNil)) (aCons (evC (.int 4)) aNil))) aNil))) ?_ (rfl : aNil _ = .val [] _)) (by show N ≤ _; omega)
    have e : (if ((min ns.length 4 : Nat) : Int) > 1 then ((min ns.length 4 : Nat) : Int) else 1) = ((N : Nat) : Int) := by show _ = ((max 1 (min ns.length 4) : Nat) : Int); split <;> omega
    rw [← e]
    unfold en at a ⊢
    rw [a]
    rfl
  obtain ⟨cs', g, x, rfl⟩ := forGo_inv (tgt := gN 1 1) (body := sIf (tNot (tU (eCallF 1 m__law_right (aCons (eCall 2 m__law_feed (aCons (fz 1 (evVar 0)) (aCons (fz 1 (evVar 1)) aNil))) aNil)))) (sRet 1 (evC (.bool false))) sNext) (fun _ cs => ∃ x, cs = [.da (.list (ns.map .int)), x]) ((List.range N).map fun i => PyData.int (i : Nat)) [] [.da (.list (ns.map .int)), .un] ⟨.un, rfl⟩ (fun pre d cs hI hd => by
    obtain ⟨x, rfl⟩ := hI
    obtain ⟨i, _, rfl⟩ := List.mem_map.mp hd
    obtain ⟨fs, hf, e⟩ := feed_ok ns i
    obtain ⟨os, e2⟩ := right_ok hf
    have c := eCall_da (n := 2) (m := m__law_feed) (f := aCons (fz 1 (evVar 0)) (aCons (fz 1 (evVar 1)) aNil)) (cs := [.da (.list (ns.map .int)), .da (.int i)]) [.list (ns.map .int), .int i] rfl rfl e
    have cf : eCallF 1 m__law_right (aCons (eCall 2 m__law_feed (aCons (fz 1 (evVar 0)) (aCons (fz 1 (evVar 1)) aNil))) aNil) [.da (.list (ns.map .int)), .da (.int i)] = .val (.da (.bool true)) [.da (.list (ns.map .int)), .da (.int i)] := by
      unfold eCallF
      rw [aCons_val c (rfl : aNil _ = .val [] _), AR.toE_val]
      unfold callF
      rw [if_pos ⟨rfl, rfl⟩]
      simp only [e2]
    exact ⟨[.da (.list (ns.map .int)), .da (.int i)], [.da (.list (ns.map .int)), .da (.int i)], rfl, sIf_false (tNot_val (tU_b cf)) rfl, ⟨_, rfl⟩⟩)
  exact ⟨_, callM_rt (nl := 1) (ds := [.list (ns.map .int)]) (sSeq_nx (sFor_of src g) rfl)⟩
end
end K76
/-! K76L: the plain law stands in K76_8. -/
set_option Elab.async false
set_option linter.all false
set_option maxRecDepth 100000
set_option maxHeartbeats 0

/-! K76C: the head, printed by gen.py. -/
namespace K76
open PySem L2 TL
def fa0 : List He.Fa := [.glo "_law_draw", .glo "_law_one", .glo "_law_tops", .glo "_law_times", .glo "_law_fits", .glo "_law_two", .glo "_law_root_in", .glo "_law_resultant", .glo "is_integer", .glo "in_range", .glo "ascends", .glo "leaf_fits", .glo "move_fits", .glo "tuples_in", .glo "is_set", .glo "check_rests", .glo "is_smooth", .glo "fits", .glo "common_divisor", .glo "divisor_of", .glo "is_polynomial", .glo "check_polynomial", .glo "check_integer_polynomial", .glo "check_low", .glo "determinant", .glo "shifted_rows", .glo "resultant_of", .glo "check_three", .glo "period_with", .glo "top_value"]
def fa1 : List He.Fa := [.glo "shared_at", .glo "all_shared", .glo "common_values", .glo "lowest", .glo "common_share", .glo "least_coprime", .glo "_law_told", .glo "_law_refused_right", .glo "_law_divisor", .glo "_law_lowest", .glo "_law_value", .glo "_law_common", .glo "_law_shares_right", .glo "resultant", .glo "_law_all_right", .glo "_law_right", .glo "_law_feed", .glo "law", .free "abs", .free "all", .free "bool", .free "enumerate", .free "int", .free "isinstance", .free "len", .free "list", .free "max", .free "min", .free "range", .free "repr"]
def fa2 : List He.Fa := [.free "reversed", .free "set", .free "sorted", .free "sum", .free "tuple", .free "zip", .int "FACTOR_LIMIT" 400, .int "LEVELS" 6, .int "LIMIT" 1000000000000000000000000000000000000000000000000000000000000, .int "MOST_RESTS" 100000, .int "MOST_TOP" 30, .int "MOST_TOPS_commons" 3, .int "MOST_TOPS_polynomials" 11, .int "PRIME_LIMIT" 1000000, .int "TUPLES" 12, .glo "BadNumber", .glo "BadPolynomial", .glo "BadTarget", .glo "NoChoice", .glo "NotInteger", .glo "TooMany", .glo "WholeError", .exc "BadNumber", .exc "BadPolynomial", .exc "BadTarget", .exc "NoChoice", .exc "NotInteger", .exc "TooMany", .exc "WholeError"]
def fa : List He.Fa := fa0 ++ fa1 ++ fa2
def fn0 : List He.DefD := [dd "_law_draw" s__law_draw, dd "_law_one" s__law_one, dd "_law_tops" s__law_tops, dd "_law_times" s__law_times, dd "_law_fits" s__law_fits, dd "_law_two" s__law_two, dd "_law_root_in" s__law_root_in, dd "_law_resultant" s__law_resultant, dd "is_integer" s_is_integer, dd "in_range" s_in_range, dd "ascends" s_ascends, dd "leaf_fits" s_leaf_fits, dd "move_fits" s_move_fits, dd "tuples_in" s_tuples_in, dd "is_set" s_is_set, dd "check_rests" s_check_rests, dd "is_smooth" s_is_smooth, dd "fits" s_fits, dd "common_divisor" s_common_divisor, dd "divisor_of" s_divisor_of, dd "is_polynomial" s_is_polynomial, dd "check_polynomial" s_check_polynomial, dd "check_integer_polynomial" s_check_integer_polynomial, dd "check_low" s_check_low, dd "determinant" s_determinant, dd "shifted_rows" s_shifted_rows, dd "resultant_of" s_resultant_of, dd "check_three" s_check_three, dd "period_with" s_period_with, dd "top_value" s_top_value]
def fn1 : List He.DefD := [dd "shared_at" s_shared_at, dd "all_shared" s_all_shared, dd "common_values" s_common_values, dd "lowest" s_lowest, dd "common_share" s_common_share, dd "least_coprime" s_least_coprime, dd "_law_told" s__law_told, dd "_law_refused_right" s__law_refused_right, dd "_law_divisor" s__law_divisor, dd "_law_lowest" s__law_lowest, dd "_law_value" s__law_value, dd "_law_common" s__law_common, dd "_law_shares_right" s__law_shares_right, dd "resultant" s_resultant, dd "_law_all_right" s__law_all_right, dd "_law_right" s__law_right, dd "_law_feed" s__law_feed, dd "law" s_law]
def fn : List He.DefD := fn0 ++ fn1
def ex (K : PySem.W.Frag) : Bool := noL K && (He.eqO (PySem.W.nsIn K mainGlobals "gcd") (some (some (.builtin "math.gcd"))) && (isiB K [("BadNumber", true), ("BadPolynomial", false), ("BadTarget", false), ("NoChoice", false), ("NotInteger", false), ("TooMany", false)] (.ref (He.ga K "BadNumber")) && (isiB K [("BadNumber", false), ("BadPolynomial", false), ("BadTarget", false), ("NoChoice", true), ("NotInteger", false), ("TooMany", false)] (.ref (He.ga K "NoChoice")) && (isiB K [("BadNumber", false), ("BadPolynomial", false), ("BadTarget", false), ("NoChoice", false), ("NotInteger", false), ("TooMany", true)] (.ref (He.ga K "TooMany")) && (exmB K [("BadNumber", true), ("BadPolynomial", true), ("BadTarget", true), ("NoChoice", true), ("NotInteger", true), ("TooMany", true)] (.ref (He.ga K "WholeError")))))))
theorem fx_of {h : Heap} {K : PySem.W.Frag} {mg : Str → Option Value} (X : K.In h) (G : h.Ns mainGlobals mg) (d : He.SaysD fa fn K) (e : ex K = true) : Fx K mg := by
  obtain ⟨e0, e⟩ := He.ba e
  obtain ⟨eg_gcd, e⟩ := He.ba e
  obtain ⟨ei_BadNumber, e⟩ := He.ba e
  obtain ⟨ei_NoChoice, e⟩ := He.ba e
  obtain ⟨ei_TooMany, e⟩ := He.ba e
  have ee_WholeError := e
  exact ⟨fun_of X G d 0 0,
    fun_of X G d 1 1,
    fun_of X G d 2 2,
    fun_of X G d 3 3,
    fun_of X G d 4 4,
    fun_of X G d 5 5,
    fun_of X G d 6 6,
    fun_of X G d 7 7,
    fun_of X G d 8 8,
    fun_of X G d 9 9,
    fun_of X G d 10 10,
    fun_of X G d 11 11,
    fun_of X G d 12 12,
    fun_of X G d 13 13,
    fun_of X G d 14 14,
    fun_of X G d 15 15,
    fun_of X G d 16 16,
    fun_of X G d 17 17,
    fun_of X G d 18 18,
    fun_of X G d 19 19,
    fun_of X G d 20 20,
    fun_of X G d 21 21,
    fun_of X G d 22 22,
    fun_of X G d 23 23,
    fun_of X G d 24 24,
    fun_of X G d 25 25,
    fun_of X G d 26 26,
    fun_of X G d 27 27,
    fun_of X G d 28 28,
    fun_of X G d 29 29,
    fun_of X G d 30 30,
    fun_of X G d 31 31,
    fun_of X G d 32 32,
    fun_of X G d 33 33,
    fun_of X G d 34 34,
    fun_of X G d 35 35,
    fun_of X G d 36 36,
    fun_of X G d 37 37,
    fun_of X G d 38 38,
    fun_of X G d 39 39,
    fun_of X G d 40 40,
    fun_of X G d 41 41,
    fun_of X G d 42 42,
    fun_of X G d 43 43,
    fun_of X G d 44 44,
    fun_of X G d 45 45,
    fun_of X G d 46 46,
    fun_of X G d 47 47,
    He.free_ok X G (d.fact 48 (f := .free "abs") rfl),
    He.free_ok X G (d.fact 49 (f := .free "all") rfl),
    He.free_ok X G (d.fact 50 (f := .free "bool") rfl),
    He.free_ok X G (d.fact 51 (f := .free "enumerate") rfl),
    He.free_ok X G (d.fact 52 (f := .free "int") rfl),
    He.free_ok X G (d.fact 53 (f := .free "isinstance") rfl),
    He.free_ok X G (d.fact 54 (f := .free "len") rfl),
    He.free_ok X G (d.fact 55 (f := .free "list") rfl),
    He.free_ok X G (d.fact 56 (f := .free "max") rfl),
    He.free_ok X G (d.fact 57 (f := .free "min") rfl),
    He.free_ok X G (d.fact 58 (f := .free "range") rfl),
    He.free_ok X G (d.fact 59 (f := .free "repr") rfl),
    He.free_ok X G (d.fact 60 (f := .free "reversed") rfl),
    He.free_ok X G (d.fact 61 (f := .free "set") rfl),
    He.free_ok X G (d.fact 62 (f := .free "sorted") rfl),
    He.free_ok X G (d.fact 63 (f := .free "sum") rfl),
    He.free_ok X G (d.fact 64 (f := .free "tuple") rfl),
    He.free_ok X G (d.fact 65 (f := .free "zip") rfl),
    He.int_ok X G (d.fact 66 (f := .int "FACTOR_LIMIT" 400) rfl),
    He.int_ok X G (d.fact 67 (f := .int "LEVELS" 6) rfl),
    He.int_ok X G (d.fact 68 (f := .int "LIMIT" 1000000000000000000000000000000000000000000000000000000000000) rfl),
    He.int_ok X G (d.fact 69 (f := .int "MOST_RESTS" 100000) rfl),
    He.int_ok X G (d.fact 70 (f := .int "MOST_TOP" 30) rfl),
    He.int_ok X G (d.fact 71 (f := .int "MOST_TOPS_commons" 3) rfl),
    He.int_ok X G (d.fact 72 (f := .int "MOST_TOPS_polynomials" 11) rfl),
    He.int_ok X G (d.fact 73 (f := .int "PRIME_LIMIT" 1000000) rfl),
    He.int_ok X G (d.fact 74 (f := .int "TUPLES" 12) rfl),
    glob_of X G eg_gcd,
    xc_of (He.glo_ok X G (d.fact 75 (f := .glo "BadNumber") rfl)) (d.fact 82 (f := .exc "BadNumber") rfl),
    xc_of (He.glo_ok X G (d.fact 76 (f := .glo "BadPolynomial") rfl)) (d.fact 83 (f := .exc "BadPolynomial") rfl),
    xc_of (He.glo_ok X G (d.fact 77 (f := .glo "BadTarget") rfl)) (d.fact 84 (f := .exc "BadTarget") rfl),
    xc_of (He.glo_ok X G (d.fact 78 (f := .glo "NoChoice") rfl)) (d.fact 85 (f := .exc "NoChoice") rfl),
    xc_of (He.glo_ok X G (d.fact 79 (f := .glo "NotInteger") rfl)) (d.fact 86 (f := .exc "NotInteger") rfl),
    xc_of (He.glo_ok X G (d.fact 80 (f := .glo "TooMany") rfl)) (d.fact 87 (f := .exc "TooMany") rfl),
    xc_of (He.glo_ok X G (d.fact 81 (f := .glo "WholeError") rfl)) (d.fact 88 (f := .exc "WholeError") rfl),
    isiB_ok ei_BadNumber,
    isiB_ok ei_NoChoice,
    isiB_ok ei_TooMany,
    exmB_ok ee_WholeError⟩
theorem noL_of {K : PySem.W.Frag} (e : ex K = true) : noL K = true := (He.ba e).1
end K76
open PySem PySem.W PyProof.Rows
set_option maxHeartbeats 0 in
theorem PySem.Challenge.cw_wholefurther_k76_whole_common_divisors_o_holds : PySem.Challenge.rw_wholefurther_k76_whole_common_divisors_o.Holds := by
  w_on; o_law; k_head; (case hw => w_witness2)
  k_fill
  refine TL.walk_tlK (l := PySem.Challenge.rw_wholefurther_k76_whole_common_divisors_o) (n := 63) (k := 20) (y := "script") (m := K76.m_law) (st := K76.s_law) rfl (by decide) rfl ⟨rfl, by decide, by decide⟩ (fun w h Y => PySem.W.kIn_of Y) ?nl ?F K76.law_ok
  case nl => exact fun P => K76.noL_of (by kernel_rfl)
  case F => exact fun w mg base X G => K76.g_law (K76.fx_of X G (by show He.obsD K76.fa K76.fn _ = He.valD K76.fn; kernel_rfl) (by kernel_rfl))
