import PyProof.Rows.All
import Wide.All
import OpenK.AllK
import Wide.FinOn
import KE.KStateDown
import HandS.ForMost
import HandS.ForExc
import HandS.TryMany
import HandS.CallSlots
import HandS.Flow
import HandS.Codes
import HandS.IsInst
import HandS.Defaults
import HandS.Words
import HandS.WordsExc
import HandS.Head0
import HandS.Head1
import HandS.Head2
import HandS.HeadEnd
import HandS.HeadHook1
import HandS.HeadHook2
import HandS.StrMore
import HandS.Replace
import PySem.Challenge.RW_turnleaf_k36_checks
set_option Elab.async false
set_option linter.all false
set_option maxRecDepth 100000
set_option maxHeartbeats 4000000
/-! The layer T: values as trees, cells for what is changed; the relation to the abstract heap. -/
namespace T
open PySem PySem.Spec PyProof.Rows L2

abbrev Cs := List Nat
abbrev Ky := Sum Int Cs

inductive TV where
  | non | bl (b : Bool) | int (i : Int) | str (s : Cs)
  | tup (xs : List TV) | lst (xs : List TV) | ref (n : Nat)
  | ob (c : Nat) (ns : List Nat) (xs : List TV)
  | arg (ns : List Int)

inductive Cell where
  | lst (xs : List TV) | dic (kvs : List (Ky × TV)) | ins (c : Nat) (ns : List Nat) (xs : List TV) | dead

abbrev Mem := List Cell
abbrev TSt := List (Option TV)
abbrev St := L2.St

/-- what is fixed: the written part, the classes' addresses, the fields' names -/
structure Gt where
  K : PySem.W.Frag
  ca : Nat → Addr
  fn : Nat → Str
/-- a world: what is frozen, the abstract heap, the cells' addresses -/
structure Wd where
  F : Addr → Prop
  H : Hp
  rho : List Addr
  /-- what is being made, out of reach: a comprehension's list -/
  pd : List (Addr × HO)

/-- the lids of texts, lists -/
abbrev SL : Nat := 16777216
theorem SL_eq : sizeLine = SL := sizeLine_eq
def SOk (s : Cs) : Prop := s.length ≤ SL ∧ ∀ c ∈ s, c < 1114112
def toS (s : Cs) : Str := ⟨s.toArray⟩
def kyK : Ky → Key
  | .inl i => .inl i
  | .inr s => .inr (toS s)

def KL (K : PySem.W.Frag) (a : Addr) (xs : List V) : Prop :=
  ∃ (o : Obj) (its : Array Value) (n : Nat), K.lookup a = some o ∧ o.cls = .type "list" ∧ o.dict = none ∧ o.data = .seq its n ∧ its.size ≤ sizeLine ∧ Vals xs its.toList
def KT (K : PySem.W.Frag) (a : Addr) (xs : List V) : Prop :=
  ∃ (o : Obj) (its : Array Value) (n : Nat), K.lookup a = some o ∧ o.cls = .type "tuple" ∧ o.data = .seq its n ∧ its.size ≤ sizeLine ∧ Vals xs its.toList

def LstAt (w : Wd) (a : Addr) (vs : List V) : Prop := w.F a ∧ w.H a = some (.lst vs)
def TupAt (g : Gt) (w : Wd) (a : Addr) (vs : List V) : Prop := (w.F a ∧ w.H a = some (.tup vs)) ∨ KT g.K a vs

/-- the script -/
def ArgAt (g : Gt) (w : Wd) (a : Addr) (vs : List V) : Prop := (w.F a ∧ ∃ o, w.H a = some (.frz o (.lst vs))) ∨ KL g.K a vs

mutual
inductive Rv (g : Gt) (w : Wd) : TV → V → Prop
  | non : Rv g w .non .non
  | bl (b : Bool) : Rv g w (.bl b) (.bl b)
  | int (i : Int) : Rv g w (.int i) (.int i)
  | str (s : Cs) : SOk s → Rv g w (.str s) (.str (toS s))
  | tup {a : Addr} {vs : List V} {ts : List TV} : TupAt g w a vs → Rvs g w ts vs → Rv g w (.tup ts) (.ref a)
  | lst {a : Addr} {vs : List V} {ts : List TV} : LstAt w a vs → Rvs g w ts vs → Rv g w (.lst ts) (.ref a)
  | ref {n : Nat} {a : Addr} : w.rho[n]? = some a → Rv g w (.ref n) (.ref a)
  | ob {a dx : Addr} {c : Nat} {ns : List Nat} {xs : List TV} {fs : List (Str × V)} : w.F a → w.H a = some (.ins (g.ca c) dx fs) → fs.map (·.1) = ns.map g.fn → Rvs g w xs (fs.map (·.2)) → Rv g w (.ob c ns xs) (.ref a)
  | arg {a : Addr} {ns : List Int} : ArgAt g w a (ns.map V.int) → Rv g w (.arg ns) (.ref a)
inductive Rvs (g : Gt) (w : Wd) : List TV → List V → Prop
  | nil : Rvs g w [] []
  | cons {t : TV} {ts : List TV} {v : V} {vs : List V} : Rv g w t v → Rvs g w ts vs → Rvs g w (t :: ts) (v :: vs)
end

structure Le0 (w w' : Wd) : Prop where
  fz : ∀ a, w.F a → w'.F a ∧ w'.H a = w.H a
  rh : ∀ (n : Nat) (a : Addr), w.rho[n]? = some a → w'.rho[n]? = some a
structure Le (w w' : Wd) : Prop extends Le0 w w' where
  pe : w'.pd = w.pd
theorem Le0.refl (w : Wd) : Le0 w w := ⟨fun _ h => ⟨h, rfl⟩, fun _ _ h => h⟩
theorem Le0.trans {a b c : Wd} (x : Le0 a b) (y : Le0 b c) : Le0 a c :=
  ⟨fun p h => ⟨(y.fz p (x.fz p h).1).1, ((y.fz p (x.fz p h).1).2).trans (x.fz p h).2⟩, fun n p h => y.rh n p (x.rh n p h)⟩
theorem Le.refl (w : Wd) : Le w w := ⟨Le0.refl w, rfl⟩
theorem Le.trans {a b c : Wd} (x : Le a b) (y : Le b c) : Le a c := ⟨x.toLe0.trans y.toLe0, y.pe.trans x.pe⟩
theorem Le0.lst {w w' : Wd} (l : Le0 w w') {a : Addr} {vs : List V} (h : LstAt w a vs) : LstAt w' a vs := ⟨(l.fz a h.1).1, (l.fz a h.1).2.trans h.2⟩
theorem Le0.arg {g : Gt} {w w' : Wd} (l : Le0 w w') {a : Addr} {vs : List V} (h : ArgAt g w a vs) : ArgAt g w' a vs := by
  rcases h with ⟨f, o, e⟩ | h
  · exact .inl ⟨(l.fz a f).1, o, (l.fz a f).2.trans e⟩
  · exact .inr h
theorem Le0.tup {g : Gt} {w w' : Wd} (l : Le0 w w') {a : Addr} {vs : List V} (h : TupAt g w a vs) : TupAt g w' a vs := by
  rcases h with ⟨f, e⟩ | h
  · exact .inl ⟨(l.fz a f).1, (l.fz a f).2.trans e⟩
  · exact .inr h
mutual
theorem Rv.mono0 {g : Gt} {w w' : Wd} (l : Le0 w w') : ∀ {t : TV} {v : V}, Rv g w t v → Rv g w' t v
  | _, _, .non => .non
  | _, _, .bl b => .bl b
  | _, _, .int b => .int b
  | _, _, .str b h => .str b h
  | _, _, .tup h r => .tup (l.tup h) (Rvs.mono0 l r)
  | _, _, .lst h r => .lst (l.lst h) (Rvs.mono0 l r)
  | _, _, .ref h => .ref (l.rh _ _ h)
  | _, _, .ob f e n r => .ob (l.fz _ f).1 ((l.fz _ f).2.trans e) n (Rvs.mono0 l r)
  | _, _, .arg h => .arg (l.arg h)
theorem Rvs.mono0 {g : Gt} {w w' : Wd} (l : Le0 w w') : ∀ {t : List TV} {v : List V}, Rvs g w t v → Rvs g w' t v
  | _, _, .nil => .nil
  | _, _, .cons h r => .cons (Rv.mono0 l h) (Rvs.mono0 l r)
end
theorem Rv.mono {g : Gt} {w w' : Wd} {t : TV} {v : V} (h : Rv g w t v) (l : Le w w') : Rv g w' t v := Rv.mono0 l.toLe0 h
theorem Rvs.mono {g : Gt} {w w' : Wd} {t : List TV} {v : List V} (h : Rvs g w t v) (l : Le w w') : Rvs g w' t v := Rvs.mono0 l.toLe0 h
theorem ArgAt.sq {g : Gt} {w : Wd} {a : Addr} {vs : List V} (h : ArgAt g w a vs) : SqL g.K w.H a vs := by
  rcases h with ⟨_, o, e⟩ | h
  · exact .inl (.inr ⟨o, e⟩)
  · exact .inr h
theorem LstAt.sq {K : PySem.W.Frag} {w : Wd} {a : Addr} {vs : List V} (h : LstAt w a vs) : SqL K w.H a vs := .inl (.inl h.2)
theorem TupAt.sq {g : Gt} {w : Wd} {a : Addr} {vs : List V} (h : TupAt g w a vs) : SqT g.K w.H a vs := by
  rcases h with ⟨_, e⟩ | h
  · exact .inl (.inl e)
  · exact .inr h

section
variable {g : Gt} {w : Wd}
theorem Rvs.of_ints : ∀ (ns : List Int), Rvs g w (ns.map TV.int) (ns.map V.int)
  | [] => .nil
  | n :: ns => .cons (.int n) (Rvs.of_ints ns)
theorem Rvs.length : ∀ {ts : List TV} {vs : List V}, Rvs g w ts vs → ts.length = vs.length
  | _, _, .nil => rfl
  | _, _, .cons _ r => congrArg Nat.succ (Rvs.length r)
theorem Rvs.get : ∀ {ts : List TV} {vs : List V} {i : Nat} {t : TV}, Rvs g w ts vs → ts[i]? = some t → ∃ v, vs[i]? = some v ∧ Rv g w t v
  | _, _, _, _, .nil, e => by simp at e
  | _, _, 0, _, .cons h r, e => by simp at e; subst e; exact ⟨_, rfl, h⟩
  | _, _, i + 1, t, .cons h r, e => by
    obtain ⟨v, h1, h2⟩ := Rvs.get (i := i) (t := t) r (by simpa using e)
    exact ⟨v, by simpa using h1, h2⟩
theorem Rvs.append : ∀ {ts us : List TV} {vs ws : List V}, Rvs g w ts vs → Rvs g w us ws → Rvs g w (ts ++ us) (vs ++ ws)
  | _, _, _, _, .nil, q => q
  | _, _, _, _, .cons h r, q => .cons h (Rvs.append r q)
theorem Rvs.take : ∀ {ts : List TV} {vs : List V} (n : Nat), Rvs g w ts vs → Rvs g w (ts.take n) (vs.take n)
  | _, _, 0, _ => .nil
  | _, _, _ + 1, .nil => .nil
  | _, _, n + 1, .cons h r => .cons h (Rvs.take n r)
theorem Rvs.drop : ∀ {ts : List TV} {vs : List V} (n : Nat), Rvs g w ts vs → Rvs g w (ts.drop n) (vs.drop n)
  | _, _, 0, h => h
  | _, _, _ + 1, .nil => .nil
  | _, _, n + 1, .cons h r => Rvs.drop n r
theorem Rvs.reverse : ∀ {ts : List TV} {vs : List V}, Rvs g w ts vs → Rvs g w ts.reverse vs.reverse
  | _, _, .nil => .nil
  | _, _, .cons h r => by
    rw [List.reverse_cons, List.reverse_cons]
    exact Rvs.append (Rvs.reverse r) (.cons h .nil)
theorem Rvs.set : ∀ {ts : List TV} {vs : List V} (i : Nat) {t : TV} {v : V}, Rvs g w ts vs → Rv g w t v → Rvs g w (ts.set i t) (vs.set i v)
  | _, _, _, _, _, .nil, _ => .nil
  | _, _, 0, _, _, .cons _ r, q => .cons q r
  | _, _, i + 1, _, _, .cons h r, q => .cons h (Rvs.set i r q)
theorem Rvs.eraseIdx : ∀ {ts : List TV} {vs : List V} (i : Nat), Rvs g w ts vs → Rvs g w (ts.eraseIdx i) (vs.eraseIdx i)
  | _, _, _, .nil => .nil
  | _, _, 0, .cons _ r => r
  | _, _, i + 1, .cons h r => .cons h (Rvs.eraseIdx i r)
theorem Rvs.ints : ∀ {ns : List Int} {vs : List V}, Rvs g w (ns.map TV.int) vs → vs = ns.map V.int
  | [], _, .nil => rfl
  | _ :: _, _, .cons h r => by cases h; rw [Rvs.ints r]; rfl
theorem Rvs.strs : ∀ {ns : List Cs} {vs : List V}, Rvs g w (ns.map TV.str) vs → vs = ns.map fun s => V.str (toS s)
  | [], _, .nil => rfl
  | _ :: _, _, .cons h r => by cases h; rw [Rvs.strs r]; rfl
end

inductive RKs (g : Gt) (w : Wd) : List (Ky × TV) → List (Key × V) → Prop
  | nil : RKs g w [] []
  | cons {k : Ky} {t : TV} {v : V} {ks : List (Ky × TV)} {hs : List (Key × V)} : Rv g w t v → RKs g w ks hs → RKs g w ((k, t) :: ks) ((kyK k, v) :: hs)
theorem RKs.mono0 {g : Gt} {w w' : Wd} (l : Le0 w w') : ∀ {ks : List (Ky × TV)} {hs : List (Key × V)}, RKs g w ks hs → RKs g w' ks hs
  | _, _, .nil => .nil
  | _, _, .cons h r => .cons (Rv.mono0 l h) (RKs.mono0 l r)
theorem RKs.mono {g : Gt} {w w' : Wd} {ks : List (Ky × TV)} {hs : List (Key × V)} (h : RKs g w ks hs) (l : Le w w') : RKs g w' ks hs := RKs.mono0 l.toLe0 h

/-- what stands at a cell's address -/
def COk (g : Gt) (w : Wd) : Cell → Addr → Prop
  | .lst ts, a => ¬ w.F a ∧ ∃ vs, w.H a = some (.lst vs) ∧ Rvs g w ts vs
  | .dic ks, a => ¬ w.F a ∧ ∃ hs, w.H a = some (.dK hs) ∧ RKs g w ks hs
  | .ins c ns xs, a => ¬ w.F a ∧ ∃ dx fs, w.H a = some (.ins (g.ca c) dx fs) ∧ fs.map (·.1) = ns.map g.fn ∧ Rvs g w xs (fs.map (·.2))
  | .dead, _ => True
structure Rep (g : Gt) (w : Wd) (m : Mem) : Prop where
  dom : ∀ a, w.F a → ∃ o, w.H a = some o
  len : w.rho.length = m.length
  nd : w.rho.Nodup
  rd : ∀ (n : Nat) (a : Addr), w.rho[n]? = some a → ∃ o, w.H a = some o
  cell : ∀ (n : Nat) (c : Cell) (a : Addr), m[n]? = some c → w.rho[n]? = some a → COk g w c a
  pend : ∀ p ∈ w.pd, w.H p.1 = some p.2 ∧ ¬ w.F p.1 ∧ p.1 ∉ w.rho

/-- a cell's content holds in a later world that keeps its object -/
theorem COk.mono0 {g : Gt} {w w' : Wd} {c : Cell} {a : Addr} (h : COk g w c a) (l : Le0 w w') (hf : ¬ w.F a → ¬ w'.F a) (he : w'.H a = w.H a) : COk g w' c a := by
  cases c with
  | lst ts => obtain ⟨f, vs, e, r⟩ := h; exact ⟨hf f, vs, he.trans e, Rvs.mono0 l r⟩
  | dic ks => obtain ⟨f, vs, e, r⟩ := h; exact ⟨hf f, vs, he.trans e, RKs.mono0 l r⟩
  | ins c ns xs => obtain ⟨f, dx, fs, e, q, r⟩ := h; exact ⟨hf f, dx, fs, he.trans e, q, Rvs.mono0 l r⟩
  | dead => trivial

theorem COk.mono {g : Gt} {w w' : Wd} {c : Cell} {a : Addr} (h : COk g w c a) (l : Le w w') (hf : ¬ w.F a → ¬ w'.F a) (he : w'.H a = w.H a) : COk g w' c a := h.mono0 l.toLe0 hf he
/-- a new frozen object -/
def Wd.fz (w : Wd) (p : Addr) (o : HO) : Wd := ⟨fun a => w.F a ∨ a = p, upd w.H p o, w.rho, w.pd⟩
/-- a new cell -/
def Wd.nw (w : Wd) (p : Addr) (o : HO) : Wd := ⟨w.F, upd w.H p o, w.rho ++ [p], w.pd⟩
/-- a cell's object is changed -/
def Wd.st (w : Wd) (p : Addr) (o : HO) : Wd := ⟨w.F, upd w.H p o, w.rho, w.pd⟩

section
variable {g : Gt} {w : Wd} {m : Mem} {p : Addr} {o : HO}
theorem Rep.fresh (r : Rep g w m) (hp : w.H p = none) : ¬ w.F p ∧ ∀ (n : Nat) (a : Addr), w.rho[n]? = some a → a ≠ p :=
  ⟨fun f => (by obtain ⟨o, e⟩ := r.dom p f; rw [hp] at e; cases e), fun n a e z => (by obtain ⟨o, q⟩ := r.rd n a e; rw [z, hp] at q; cases q)⟩
theorem Rep.leFz (r : Rep g w m) (hp : w.H p = none) : Le w (w.fz p o) :=
  ⟨⟨fun a f => ⟨.inl f, by
    show upd w.H p o a = _
    rw [upd_ne]
    rintro rfl
    exact (r.fresh hp).1 f⟩, fun _ _ h => h⟩, rfl⟩
theorem Rep.pne (r : Rep g w m) (hp : w.H p = none) : ∀ q ∈ w.pd, q.1 ≠ p := fun q hq z => by
  have := (r.pend q hq).1
  rw [z, hp] at this
  cases this
theorem mem_rho {rho : List Addr} {a : Addr} (h : a ∈ rho) : ∃ n : Nat, rho[n]? = some a := by
  obtain ⟨n, hn, e⟩ := List.mem_iff_getElem.mp h
  exact ⟨n, by rw [List.getElem?_eq_getElem hn, e]⟩
theorem Rep.fz (r : Rep g w m) (hp : w.H p = none) : Rep g (w.fz p o) m := by
  have f := r.fresh hp
  refine ⟨fun a h => ?_, r.len, r.nd, fun n a e => ?_, fun n c a hc e => ?_, fun q hq => ?_⟩
  rotate_right
  · obtain ⟨h1, h2, h3⟩ := r.pend q hq
    have ne := r.pne hp q hq
    exact ⟨by show upd w.H p o q.1 = _; rw [upd_ne ne]; exact h1, fun z => z.elim h2 ne, h3⟩
  · rcases h with h | rfl
    · obtain ⟨u, e⟩ := r.dom a h
      refine ⟨u, ?_⟩
      show upd w.H p o a = _
      rw [upd_ne (fun z => by subst z; exact f.1 h)]
      exact e
    · exact ⟨o, upd_same⟩
  · obtain ⟨u, q⟩ := r.rd n a e
    exact ⟨u, by show upd w.H p o a = _; rw [upd_ne (f.2 n a e)]; exact q⟩
  · exact (r.cell n c a hc e).mono (r.leFz hp) (fun h z => z.elim h (f.2 n a e)) (upd_ne (f.2 n a e))
theorem Rep.leNw (r : Rep g w m) (hp : w.H p = none) : Le w (w.nw p o) :=
  ⟨⟨fun a f => ⟨f, by
    show upd w.H p o a = _
    rw [upd_ne]
    rintro rfl
    exact (r.fresh hp).1 f⟩, fun n a h => by
    show (w.rho ++ [p])[n]? = _
    rw [List.getElem?_append_left (List.getElem?_eq_some_iff.mp h).1]
    exact h⟩, rfl⟩
theorem Rep.nw {c : Cell} (r : Rep g w m) (hp : w.H p = none) (hc : COk g (w.nw p o) c p) : Rep g (w.nw p o) (m ++ [c]) := by
  have f := r.fresh hp
  refine ⟨fun a h => ?_, ?_, ?_, fun n a e => ?_, fun n c' a hc' e => ?_, fun q hq => ?_⟩
  rotate_right
  · obtain ⟨h1, h2, h3⟩ := r.pend q hq
    have ne := r.pne hp q hq
    refine ⟨by show upd w.H p o q.1 = _; rw [upd_ne ne]; exact h1, h2, fun z => ?_⟩
    rcases List.mem_append.mp z with z | z
    · exact h3 z
    · exact ne (by simpa using z)
  · obtain ⟨u, e⟩ := r.dom a h
    refine ⟨u, ?_⟩
    show upd w.H p o a = _
    rw [upd_ne (fun z => by subst z; exact f.1 h)]
    exact e
  · show (w.rho ++ [p]).length = (m ++ [c]).length
    simp [r.len]
  · show (w.rho ++ [p]).Nodup
    rw [List.nodup_append]
    refine ⟨r.nd, by simp, fun a ha b hb => ?_⟩
    obtain ⟨n, hn, e⟩ := List.mem_iff_getElem.mp ha
    have : b = p := by simpa using hb
    subst this
    exact f.2 n a (by rw [List.getElem?_eq_getElem hn, e])
  · have e' : (w.rho ++ [p])[n]? = some a := e
    by_cases h : n < w.rho.length
    · rw [List.getElem?_append_left h] at e'
      obtain ⟨u, q⟩ := r.rd n a e'
      exact ⟨u, by show upd w.H p o a = _; rw [upd_ne (f.2 n a e')]; exact q⟩
    · rw [List.getElem?_append_right (by omega)] at e'
      obtain ⟨_, q⟩ := List.getElem?_eq_some_iff.mp e'
      have : a = p := by
        rw [List.getElem_singleton] at q
        exact q.symm
      subst this
      exact ⟨o, upd_same⟩
  · have e' : (w.rho ++ [p])[n]? = some a := e
    by_cases h : n < w.rho.length
    · rw [List.getElem?_append_left h] at e'
      rw [List.getElem?_append_left (by rw [← r.len]; exact h)] at hc'
      exact (r.cell n c' a hc' e').mono (r.leNw hp) (fun h => h) (upd_ne (f.2 n a e'))
    · rw [List.getElem?_append_right (by omega)] at e'
      rw [List.getElem?_append_right (by rw [← r.len]; omega)] at hc'
      obtain ⟨hz, q⟩ := List.getElem?_eq_some_iff.mp e'
      obtain ⟨hz', q'⟩ := List.getElem?_eq_some_iff.mp hc'
      rw [List.getElem_singleton] at q q'
      subst q q'
      exact hc
/-- a cell that is not dead is changed -/
theorem Rep.leSt (hf : ¬ w.F p) : Le w (w.st p o) :=
  ⟨⟨fun a f => ⟨f, by
    show upd w.H p o a = _
    rw [upd_ne]
    rintro rfl
    exact hf f⟩, fun _ _ h => h⟩, rfl⟩
theorem Rep.st {c : Cell} {n : Nat} (r : Rep g w m) (hn : w.rho[n]? = some p) (hf : ¬ w.F p) (hc : COk g (w.st p o) c p) : Rep g (w.st p o) (m.set n c) := by
  refine ⟨fun a h => ?_, ?_, r.nd, fun k a e => ?_, fun k c' a hc' e => ?_, fun q hq => ?_⟩
  rotate_right
  · obtain ⟨h1, h2, h3⟩ := r.pend q hq
    have ne : q.1 ≠ p := fun z => h3 (by rw [z]; exact List.mem_of_getElem? hn)
    exact ⟨by show upd w.H p o q.1 = _; rw [upd_ne ne]; exact h1, h2, h3⟩
  · obtain ⟨u, e⟩ := r.dom a h
    refine ⟨u, ?_⟩
    show upd w.H p o a = _
    rw [upd_ne (fun z => by subst z; exact hf h)]
    exact e
  · show w.rho.length = (m.set n c).length
    rw [List.length_set]
    exact r.len
  · have e' : w.rho[k]? = some a := e
    by_cases z : a = p
    · subst z
      exact ⟨o, upd_same⟩
    · obtain ⟨u, q⟩ := r.rd k a e'
      exact ⟨u, by show upd w.H p o a = _; rw [upd_ne z]; exact q⟩
  · have e' : w.rho[k]? = some a := e
    by_cases z : k = n
    · subst z
      rw [hn] at e'
      have ea : p = a := Option.some.inj e'
      subst ea
      have hk : k < m.length := by rw [← r.len]; exact (List.getElem?_eq_some_iff.mp hn).1
      rw [List.getElem?_set_self hk] at hc'
      have ec : c = c' := Option.some.inj hc'
      subst ec
      exact hc
    · rw [List.getElem?_set_ne (Ne.symm z)] at hc'
      have ne : a ≠ p := fun q => by
        subst q
        obtain ⟨h1, q1⟩ := List.getElem?_eq_some_iff.mp e'
        obtain ⟨h2, q2⟩ := List.getElem?_eq_some_iff.mp hn
        exact z ((List.getElem_inj r.nd).mp (q1.trans q2.symm))
      exact (r.cell k c' a hc' e').mono (Rep.leSt hf) (fun h => h) (upd_ne ne)
/-- a cell is frozen: it is dead from then on -/
theorem Rep.leFr (h : ¬ w.F p) : Le w ⟨fun a => w.F a ∨ a = p, w.H, w.rho, w.pd⟩ := ⟨⟨fun a f => ⟨.inl f, rfl⟩, fun _ _ h => h⟩, rfl⟩
theorem Rep.fr {n : Nat} (r : Rep g w m) (hn : w.rho[n]? = some p) (hf : ¬ w.F p) : Rep g ⟨fun a => w.F a ∨ a = p, w.H, w.rho, w.pd⟩ (m.set n .dead) := by
  refine ⟨fun a h => ?_, ?_, r.nd, r.rd, fun k c' a hc' e => ?_, fun q hq => ?_⟩
  rotate_right
  · obtain ⟨h1, h2, h3⟩ := r.pend q hq
    have ne : q.1 ≠ p := fun z => h3 (by rw [z]; exact List.mem_of_getElem? hn)
    exact ⟨h1, fun z => z.elim h2 ne, h3⟩
  · rcases h with h | rfl
    · exact r.dom a h
    · exact r.rd n _ hn
  · show w.rho.length = (m.set n .dead).length
    rw [List.length_set]
    exact r.len
  · have e' : w.rho[k]? = some a := e
    by_cases z : k = n
    · subst z
      have hk : k < m.length := by rw [← r.len]; exact (List.getElem?_eq_some_iff.mp hn).1
      rw [List.getElem?_set_self hk] at hc'
      have ec : Cell.dead = c' := Option.some.inj hc'
      subst ec
      trivial
    · rw [List.getElem?_set_ne (Ne.symm z)] at hc'
      have ne : a ≠ p := fun q => by
        subst q
        obtain ⟨h1, q1⟩ := List.getElem?_eq_some_iff.mp e'
        obtain ⟨h2, q2⟩ := List.getElem?_eq_some_iff.mp hn
        exact z ((List.getElem_inj r.nd).mp (q1.trans q2.symm))
      exact (r.cell k c' a hc' e').mono (Rep.leFr hf) (fun h z => z.elim h ne) rfl
end
end T

/-! The layer T: results, what is wanted behind them, the operators. -/
namespace T
noncomputable section
open PySem PySem.Spec PyProof.Rows L2

inductive R (α : Type) where
  | ok (a : α) (m : Mem)
  | exc (c : Nat) (ns : List Nat) (xs : List TV) (m : Mem)
  | stuck
def R.bind {α β : Type} : R α → (α → Mem → R β) → R β
  | .ok a m, f => f a m
  | .exc c ns xs m, _ => .exc c ns xs m
  | .stuck, _ => .stuck
theorem R.bind_ok {α β : Type} (a : α) (m : Mem) (f : α → Mem → R β) : (R.ok a m).bind f = f a m := rfl
theorem R.bind_exc {α β : Type} (c : Nat) (ns : List Nat) (xs : List TV) (m : Mem) (f : α → Mem → R β) : (R.exc c ns xs m : R α).bind f = .exc c ns xs m := rfl
theorem R.bind_stuck {α β : Type} (f : α → Mem → R β) : (R.stuck : R α).bind f = .stuck := rfl

/-- an exception: its class, its fields -/
def RX (g : Gt) (w : Wd) (c : Nat) (ns : List Nat) (xs : List TV) (cls : Value) (d : Option Addr) : Prop :=
  cls = .ref (g.ca c) ∧ ((ns = [] ∧ xs = [] ∧ d = none) ∨ ∃ dd fs, d = some dd ∧ w.F dd ∧ w.H dd = some (.xd fs) ∧ fs.map (·.1) = ns.map g.fn ∧ Rvs g w xs (fs.map (·.2)))
theorem RX.mono {g : Gt} {w w' : Wd} {c : Nat} {ns : List Nat} {xs : List TV} {cls : Value} {d : Option Addr} (l : Le w w') (h : RX g w c ns xs cls d) : RX g w' c ns xs cls d := by
  obtain ⟨e, h⟩ := h
  refine ⟨e, ?_⟩
  rcases h with h | ⟨dd, fs, e1, f, e2, e3, r⟩
  · exact .inl h
  · exact .inr ⟨dd, fs, e1, (l.fz _ f).1, (l.fz _ f).2.trans e2, e3, r.mono l⟩

abbrev WEx := Value → Option Addr → Hp → Prop
def PostR {α : Type} (g : Gt) (E : WEx) (P : α → Mem → Wd → Prop) (w : Wd) : R α → Prop
  | .ok a m => ∀ w', Le w w' → Rep g w' m → P a m w'
  | .exc c ns xs m => ∀ w' cls d, Le w w' → Rep g w' m → RX g w' c ns xs cls d → E cls d w'.H
  | .stuck => False
section
variable {α β : Type} {g : Gt} {E : WEx} {P P' : α → Mem → Wd → Prop} {Q : β → Mem → Wd → Prop} {w w' : Wd} {r : R α}
theorem PostR.mono (h : PostR g E P w r) (l : Le w w') : PostR g E P w' r := by
  cases r with
  | ok a m => exact fun w2 l2 => h w2 (l.trans l2)
  | exc c ns xs m => exact fun w2 cls d l2 => h w2 cls d (l.trans l2)
  | stuck => exact h
theorem PostR.imp (h : PostR g E P w r) (k : ∀ a m w', Le w w' → Rep g w' m → P a m w' → P' a m w') : PostR g E P' w r := by
  cases r with
  | ok a m => exact fun w2 l2 r2 => k _ _ _ l2 r2 (h w2 l2 r2)
  | exc c ns xs m => exact h
  | stuck => exact h
theorem PostR.bind {f : α → Mem → R β} (h : PostR g E Q w (r.bind f)) : PostR g E (fun a m w' => PostR g E Q w' (f a m)) w r := by
  cases r with
  | ok a m =>
    intro w2 l2 _
    have h1 : PostR g E Q w (f a m) := h
    exact h1.mono l2
  | exc c ns xs m => exact h
  | stuck => exact h
end
/-- what is wanted of a value -/
abbrev PV (g : Gt) (Q : VK) : TV → Mem → Wd → Prop := fun t _ w' => ∀ v, Rv g w' t v → Q v w'.H
abbrev PB (Q : Bool → Hp → Prop) : Bool → Mem → Wd → Prop := fun b _ w' => Q b w'.H
abbrev PVs (g : Gt) (Q : List V → Hp → Prop) : List TV → Mem → Wd → Prop := fun ts _ w' => ∀ vs, Rvs g w' ts vs → Q vs w'.H

/-- the slots -/
structure RS (g : Gt) (w : Wd) (ts : TSt) (sg : St) : Prop where
  len : ts.length = sg.length
  at_ : ∀ (i : Nat) (t : TV), ts[i]? = some (some t) → ∃ v, sg[i]? = some (some v) ∧ Rv g w t v
theorem RS.mono {g : Gt} {w w' : Wd} {ts : TSt} {sg : St} (h : RS g w ts sg) (l : Le w w') : RS g w' ts sg := ⟨h.len, fun i t e => by
  obtain ⟨v, e1, r⟩ := h.at_ i t e
  exact ⟨v, e1, r.mono l⟩⟩
theorem RS.set {g : Gt} {w : Wd} {ts : TSt} {sg : St} (h : RS g w ts sg) (i : Nat) {t : TV} {v : V} (r : Rv g w t v) : RS g w (ts.set i (some t)) (sg.set i (some v)) := by
  refine ⟨by rw [List.length_set, List.length_set]; exact h.len, fun j u e => ?_⟩
  by_cases q : j = i
  · subst q
    have hj : j < ts.length := by
      have := (List.getElem?_eq_some_iff.mp e).1
      rwa [List.length_set] at this
    rw [List.getElem?_set_self hj] at e
    cases e
    exact ⟨v, by rw [List.getElem?_set_self (by rw [← h.len]; exact hj)], r⟩
  · rw [List.getElem?_set_ne (Ne.symm q)] at e
    obtain ⟨v', e1, r1⟩ := h.at_ j u e
    exact ⟨v', by rw [List.getElem?_set_ne (Ne.symm q)]; exact e1, r1⟩
/-- what is known of slots may be forgotten -/
def wipeT (ts : TSt) : List Nat → TSt
  | [] => ts
  | i :: is => wipeT (ts.set i none) is
theorem RS.unset {g : Gt} {w : Wd} {ts : TSt} {sg : St} (h : RS g w ts sg) (i : Nat) : RS g w (ts.set i none) sg := by
  refine ⟨by rw [List.length_set]; exact h.len, fun j u e => ?_⟩
  by_cases q : j = i
  · subst q
    have hj : j < ts.length := by
      have := (List.getElem?_eq_some_iff.mp e).1
      rwa [List.length_set] at this
    rw [List.getElem?_set_self hj] at e
    cases e
  · rw [List.getElem?_set_ne (Ne.symm q)] at e
    exact h.at_ j u e
theorem RS.wipeT {g : Gt} {w : Wd} {sg : St} : ∀ {is : List Nat} {ts : TSt}, RS g w ts sg → RS g w (T.wipeT ts is) sg
  | [], _, h => h
  | i :: is, _, h => RS.wipeT (is := is) (h.unset i)

abbrev FE := TSt → Mem → R TV
abbrev FB := TSt → Mem → R Bool
abbrev FA := TSt → Mem → R (List TV)
/-- a reading serves a function of the layer -/
def TEok (g : Gt) (W : WX) (te : TE) (f : FE) : Prop := ∀ (ts : TSt) (m : Mem) (w : Wd) (sg : St) (Q : VK), Rep g w m → RS g w ts sg → PostR g (fun c d H => W c d sg H) (PV g Q) w (f ts m) → te sg w.H Q
def TTok (g : Gt) (W : WX) (tt : TT) (f : FB) : Prop := ∀ (ts : TSt) (m : Mem) (w : Wd) (sg : St) (Q : Bool → Hp → Prop), Rep g w m → RS g w ts sg → PostR g (fun c d H => W c d sg H) (PB Q) w (f ts m) → tt sg w.H Q
def TAok (g : Gt) (W : WX) (ta : TA) (f : FA) : Prop := ∀ (ts : TSt) (m : Mem) (w : Wd) (sg : St) (Q : List V → Hp → Prop), Rep g w m → RS g w ts sg → PostR g (fun c d H => W c d sg H) (PVs g Q) w (f ts m) → ta sg w.H Q
def SE (X : Cx) (g : Gt) (W : WX) (e : Expr) (f : FE) : Prop := ∃ te, PE X e te ∧ TEok g W te f
def ST (X : Cx) (g : Gt) (W : WX) (e : Expr) (f : FB) : Prop := ∃ tt, PT X e tt ∧ TTok g W tt f
def SA (X : Cx) (g : Gt) (W : WX) (es : List Expr) (f : FA) : Prop := ∃ ta, PA X es ta ∧ TAok g W ta f

/-! ### values by operators -/
def Op2 (g : Gt) (r : R2) (F : TV → TV → Mem → R TV) : Prop := ∀ (m : Mem) (w : Wd) (x y : TV) (v u : V) (E : WEx) (Q : VK), Rep g w m → Rv g w x v → Rv g w y u → PostR g E (PV g Q) w (F x y m) → r v u w.H Q
def Op1 (g : Gt) (r : V → Hp → VK → Prop) (F : TV → Mem → R TV) : Prop := ∀ (m : Mem) (w : Wd) (x : TV) (v : V) (E : WEx) (Q : VK), Rep g w m → Rv g w x v → PostR g E (PV g Q) w (F x m) → r v w.H Q
def OpN (g : Gt) (r : List V → Hp → VK → Prop) (F : List TV → Mem → R TV) : Prop := ∀ (m : Mem) (w : Wd) (xs : List TV) (vs : List V) (E : WEx) (Q : VK), Rep g w m → Rvs g w xs vs → PostR g E (PV g Q) w (F xs m) → r vs w.H Q
def OpM (g : Gt) (r : V → List V → Hp → VK → Prop) (F : TV → List TV → Mem → R TV) : Prop := ∀ (m : Mem) (w : Wd) (x : TV) (xs : List TV) (v : V) (vs : List V) (E : WEx) (Q : VK), Rep g w m → Rv g w x v → Rvs g w xs vs → PostR g E (PV g Q) w (F x xs m) → r v vs w.H Q

def e2 (F : TV → TV → Mem → R TV) (fa fb : FE) : FE := fun ts m => (fa ts m).bind fun x m1 => (fb ts m1).bind fun y m2 => F x y m2
def e1 (F : TV → Mem → R TV) (fa : FE) : FE := fun ts m => (fa ts m).bind fun x m1 => F x m1
def eN (F : List TV → Mem → R TV) (fa : FA) : FE := fun ts m => (fa ts m).bind fun x m1 => F x m1
def eM (F : TV → List TV → Mem → R TV) (fo : FE) (fa : FA) : FE := fun ts m => (fo ts m).bind fun x m1 => (fa ts m1).bind fun xs m2 => F x xs m2
section
variable {g : Gt} {W : WX} {ta tb : TE} {fa fb : FE}
theorem te_op {r : R2} {F : TV → TV → Mem → R TV} (o : Op2 g r F) (a : TEok g W ta fa) (b : TEok g W tb fb) : TEok g W (tOp r ta tb) (e2 F fa fb) := by
  intro ts m w sg Q rep rs h
  refine a ts m w sg _ rep rs (h.bind.imp fun x m1 w1 l1 rep1 h1 v rv => ?_)
  refine b ts m1 w1 sg _ rep1 (rs.mono l1) (h1.bind.imp fun y m2 w2 l2 rep2 h2 u ru => ?_)
  exact o m2 w2 x y v u _ Q rep2 (rv.mono l2) ru h2
theorem te_un {r : V → Hp → VK → Prop} {F : TV → Mem → R TV} (o : Op1 g r F) (a : TEok g W ta fa) : TEok g W (tUn r ta) (e1 F fa) := by
  intro ts m w sg Q rep rs h
  exact a ts m w sg _ rep rs (h.bind.imp fun x m1 w1 l1 rep1 h1 v rv => o m1 w1 x v _ Q rep1 rv h1)
theorem te_cb {r : List V → Hp → VK → Prop} {F : List TV → Mem → R TV} {t : TA} {f : FA} (o : OpN g r F) (a : TAok g W t f) : TEok g W (tCB r t) (eN F f) := by
  intro ts m w sg Q rep rs h
  exact a ts m w sg _ rep rs (h.bind.imp fun x m1 w1 l1 rep1 h1 v rv => o m1 w1 x v _ Q rep1 rv h1)
/-- arguments -/
def aNil : FA := fun _ m => .ok [] m
def aCons (f : FE) (r : FA) : FA := fun ts m => (f ts m).bind fun x m1 => (r ts m1).bind fun xs m2 => .ok (x :: xs) m2
theorem ta_nil : TAok g W tNil aNil := fun ts m w sg Q rep rs h => h w (Le.refl w) rep [] .nil
theorem ta_cons {t : TA} {f : FA} (a : TEok g W ta fa) (r : TAok g W t f) : TAok g W (tCons ta t) (aCons fa f) := by
  intro ts m w sg Q rep rs h
  refine a ts m w sg _ rep rs (h.bind.imp fun x m1 w1 l1 rep1 h1 v rv => ?_)
  refine r ts m1 w1 sg _ rep1 (rs.mono l1) (h1.bind.imp fun xs m2 w2 l2 rep2 h2 vs rvs => ?_)
  exact h2 w2 (Le.refl _) rep2 (v :: vs) (.cons (rv.mono l2) rvs)
end

/-- a condition that the layer asks for -/
noncomputable def grd {α : Type} (c : Prop) [Decidable c] (r : R α) : R α := @ite _ c (Classical.propDecidable c) r .stuck
theorem grd_pos {α : Type} {c : Prop} [Decidable c] {r : R α} (h : c) : grd c r = r := if_pos h
theorem PostR.grd {α : Type} {g : Gt} {E : WEx} {P : α → Mem → Wd → Prop} {w : Wd} {c : Prop} [Decidable c] {r : R α} (h : PostR g E P w (T.grd c r)) : c ∧ PostR g E P w r := by
  unfold T.grd at h
  by_cases q : c
  · rw [if_pos q] at h; exact ⟨q, h⟩
  · rw [if_neg q] at h; exact h.elim

section
variable {g : Gt} {w : Wd} {m : Mem} {E : WEx} {Q : VK} {p : Addr}
/-- nothing new: the answer as it is -/
theorem PostR.here {t : TV} {v : V} (h : PostR g E (PV g Q) w (.ok t m)) (rep : Rep g w m) (r : Rv g w t v) : Q v w.H := h w (Le.refl w) rep v r
theorem PostR.newL {ts : List TV} {vs : List V} (h : PostR g E (PV g Q) w (.ok (.lst ts) m)) (rep : Rep g w m) (r : Rvs g w ts vs) : ∀ p, w.H p = none → Q (.ref p) (upd w.H p (.lst vs)) := fun p hp =>
  h (w.fz p (.lst vs)) (rep.leFz hp) (rep.fz hp) (.ref p) (.lst ⟨.inr rfl, upd_same⟩ (r.mono (rep.leFz hp)))
theorem PostR.newT {ts : List TV} {vs : List V} (h : PostR g E (PV g Q) w (.ok (.tup ts) m)) (rep : Rep g w m) (r : Rvs g w ts vs) : ∀ p, w.H p = none → Q (.ref p) (upd w.H p (.tup vs)) := fun p hp =>
  h (w.fz p (.tup vs)) (rep.leFz hp) (rep.fz hp) (.ref p) (.tup (.inl ⟨.inr rfl, upd_same⟩) (r.mono (rep.leFz hp)))
theorem PostR.newC {ts : List TV} {vs : List V} (h : PostR g E (PV g Q) w (.ok (.ref m.length) (m ++ [.lst ts]))) (rep : Rep g w m) (r : Rvs g w ts vs) : ∀ p, w.H p = none → Q (.ref p) (upd w.H p (.lst vs)) := fun p hp =>
  h (w.nw p (.lst vs)) (rep.leNw hp) (rep.nw hp ⟨(rep.fresh hp).1, vs, upd_same, r.mono (rep.leNw hp)⟩) (.ref p) (.ref (by
    show (w.rho ++ [p])[m.length]? = some p
    rw [← rep.len, List.getElem?_append_right (Nat.le_refl _), Nat.sub_self]
    rfl))
/-- a new list: frozen, or a cell -/
def mkL (c : Bool) (ts : List TV) (m : Mem) : R TV := match c with
  | false => .ok (.lst ts) m
  | true => .ok (.ref m.length) (m ++ [.lst ts])
theorem PostR.mkL {c : Bool} {ts : List TV} {vs : List V} (h : PostR g E (PV g Q) w (T.mkL c ts m)) (rep : Rep g w m) (r : Rvs g w ts vs) : ∀ p, w.H p = none → Q (.ref p) (upd w.H p (.lst vs)) := by
  cases c with
  | false => exact PostR.newL h rep r
  | true => exact PostR.newC h rep r
end

/-- the items of a list: frozen, or a cell's -/
def lof (m : Mem) : TV → Option (List TV)
  | .lst ts => some ts
  | .ref n => match m[n]? with
    | some (.lst ts) => some ts
    | _ => none
  | _ => none
theorem lof_at {g : Gt} {w : Wd} {m : Mem} {x : TV} {v : V} {ts : List TV} (rep : Rep g w m) (r : Rv g w x v) (h : lof m x = some ts) : ∃ a vs, v = .ref a ∧ w.H a = some (.lst vs) ∧ Rvs g w ts vs := by
  cases r with
  | lst h1 h2 => cases h; exact ⟨_, _, rfl, h1.2, h2⟩
  | ref hn =>
    rename_i n a
    unfold lof at h
    cases e : m[n]? with
    | none => simp [e] at h
    | some c =>
      cases c with
      | lst us =>
        simp [e] at h
        subst h
        obtain ⟨_, vs, h1, h2⟩ := rep.cell n _ a e hn
        exact ⟨a, vs, rfl, h1, h2⟩
      | _ => simp [e] at h
  | _ => cases h
/-- .. or the script's -/
def lofA (m : Mem) : TV → Option (List TV)
  | .arg ns => some (ns.map .int)
  | x => lof m x
theorem lofA_at {g : Gt} {w : Wd} {m : Mem} {x : TV} {v : V} {ts : List TV} (rep : Rep g w m) (r : Rv g w x v) (h : lofA m x = some ts) : ∃ a vs, v = .ref a ∧ SqL g.K w.H a vs ∧ Rvs g w ts vs := by
  cases r with
  | arg h1 => cases h; exact ⟨_, _, rfl, h1.sq, Rvs.of_ints _⟩
  | lst h1 h2 => cases h; exact ⟨_, _, rfl, h1.sq, h2⟩
  | ref hn =>
    obtain ⟨a, vs, e, h1, h2⟩ := lof_at rep (.ref hn) (show lof m _ = some ts from h)
    exact ⟨a, vs, e, .inl (.inl h1), h2⟩
  | _ => cases h
/-- .. of a list or a tuple -/
def sof (m : Mem) : TV → Option (List TV)
  | .tup ts => some ts
  | x => lofA m x
theorem sof_at {g : Gt} {w : Wd} {m : Mem} {x : TV} {v : V} {ts : List TV} (rep : Rep g w m) (r : Rv g w x v) (h : sof m x = some ts) : ∃ a vs, v = .ref a ∧ (SqL g.K w.H a vs ∨ SqT g.K w.H a vs) ∧ Rvs g w ts vs := by
  cases r with
  | tup h1 h2 => cases h; exact ⟨_, _, rfl, .inr h1.sq, h2⟩
  | arg h1 => cases h; exact ⟨_, _, rfl, .inl h1.sq, Rvs.of_ints _⟩
  | lst h1 h2 => cases h; exact ⟨_, _, rfl, .inl h1.sq, h2⟩
  | ref hn =>
    obtain ⟨a, vs, e, h1, h2⟩ := lof_at rep (.ref hn) (show lof m _ = some ts from h)
    exact ⟨a, vs, e, .inl (.inl (.inl h1)), h2⟩
  | _ => cases h

/-! ### arithmetic -/
theorem toS_length (s : Cs) : (toS s).length = s.length := by
  show s.toArray.size = s.length
  simp
theorem toS_append (a b : Cs) : toS a ++ toS b = toS (a ++ b) := by
  show (⟨a.toArray ++ b.toArray⟩ : Str) = ⟨(a ++ b).toArray⟩
  simp
theorem toS_cps (s : Cs) : (toS s).cps.toList = s := by
  show s.toArray.toList = s
  simp
theorem toS_inj {a b : Cs} (h : toS a = toS b) : a = b := by
  have := congrArg (fun s => s.cps.toList) h
  rwa [toS_cps, toS_cps] at this
def opAddL (c : Bool) (x y : TV) (m : Mem) : R TV := match lof m x, lof m y with
  | some a, some b => grd (a.length + b.length ≤ SL) (mkL c (a ++ b) m)
  | _, _ => .stuck
def opAdd (c : Bool) : TV → TV → Mem → R TV
  | .int i, .int j, m => .ok (.int (i + j)) m
  | .str a, .str b, m => grd (a.length + b.length ≤ SL) (.ok (.str (a ++ b)) m)
  | .tup a, .tup b, m => grd (a ≠ [] ∧ b ≠ [] ∧ a.length + b.length ≤ SL) (.ok (.tup (a ++ b)) m)
  | x, y, m => opAddL c x y m
def rAddA (K : PySem.W.Frag) : R2 := fun x y H Q => (∃ i j, x = .int i ∧ y = .int j ∧ Q (.int (i + j)) H) ∨ (∃ i j, x = .str i ∧ y = .str j ∧ i.length + j.length ≤ sizeLine ∧ Q (.str (i ++ j)) H) ∨ rCatT K x y H Q ∨ rCat x y H Q
theorem or_add {X : Cx} : OpR X (binaryOp .Add) (rAddA X.K) := op_add.or (op_add_str.or (op_catT.or op_cat))
theorem o_add {g : Gt} {c : Bool} : Op2 g (rAddA g.K) (opAdd c) := by
  intro m w x y v u E Q rep rx ry h
  have lists : ∀ {x y : TV} {v u : V}, Rv g w x v → Rv g w y u → PostR g E (PV g Q) w (opAddL c x y m) → rAddA g.K v u w.H Q := fun {x y v u} rx ry h => by
    unfold opAddL at h
    cases e1 : lof m x with
    | none => rw [e1] at h; exact h.elim
    | some a =>
      cases e2 : lof m y with
      | none => rw [e1, e2] at h; exact h.elim
      | some b =>
        rw [e1, e2] at h
        obtain ⟨hl, h⟩ := PostR.grd h
        obtain ⟨p, vs, rfl, h1, r1⟩ := lof_at rep rx e1
        obtain ⟨q, us, rfl, h2, r2⟩ := lof_at rep ry e2
        refine .inr (.inr (.inr ⟨p, q, vs, us, rfl, rfl, h1, h2, ?_, h.mkL rep (r1.append r2)⟩))
        rw [← r1.length, ← r2.length, SL_eq]
        exact hl
  unfold opAdd at h
  split at h
  · cases rx; cases ry
    exact .inl ⟨_, _, rfl, rfl, h.here rep (.int _)⟩
  · cases rx; cases ry
    rename_i a b ha hb
    obtain ⟨hl, h⟩ := PostR.grd h
    refine .inr (.inl ⟨_, _, rfl, rfl, ?_, ?_⟩)
    · rw [toS_length, toS_length, SL_eq]; exact hl
    · rw [toS_append]
      refine h.here rep (.str _ ⟨?_, fun c hc => ?_⟩)
      · rw [List.length_append]; exact hl
      · rcases List.mem_append.mp hc with z | z
        · exact ha.2 c z
        · exact hb.2 c z
  · cases rx; cases ry
    rename_i ts xs a vs h1 r1 b us h2 r2
    obtain ⟨⟨n1, n2, hl⟩, h⟩ := PostR.grd h
    refine .inr (.inr (.inl ⟨a, b, vs, us, rfl, rfl, h1.sq, h2.sq, fun z => ?_, ?_, fun z => ?_, fun z => h.newT rep (r1.append r2)⟩))
    · subst z; cases r1; exact n1 rfl
    · rw [← r1.length, ← r2.length, SL_eq]; exact hl
    · subst z; cases r2; exact absurd rfl n2
  · exact lists rx ry h
end
end T

/-! The layer T: more operators by values. -/
namespace T
noncomputable section
open PySem PySem.Spec PyProof.Rows L2

/-! ### ints -/
def opSub : TV → TV → Mem → R TV
  | .int i, .int j, m => .ok (.int (i - j)) m
  | _, _, _ => .stuck
def opMulI (i j : Int) (m : Mem) : R TV := grd ((-18446744073709551616 < i ∧ i < 18446744073709551616) ∨ (-18446744073709551616 < j ∧ j < 18446744073709551616)) (.ok (.int (i * j)) m)
def opMul : TV → TV → Mem → R TV
  | .int i, .int j, m => opMulI i j m
  | _, _, _ => .stuck
def opFdiv : TV → TV → Mem → R TV
  | .int i, .int j, m => grd (0 < j ∧ j < 1073741824) (.ok (.int (i / j)) m)
  | _, _, _ => .stuck
def opMod : TV → TV → Mem → R TV
  | .int i, .int j, m => grd (0 < j) (.ok (.int (i % j)) m)
  | _, _, _ => .stuck
def opPow : TV → TV → Mem → R TV
  | .int i, .int j, m => grd (0 ≤ j ∧ j ≤ 1000000 ∧ i.natAbs < 18446744073709551616) (.ok (.int (i ^ j.toNat)) m)
  | _, _, _ => .stuck
def opNeg : TV → Mem → R TV
  | .int i, m => .ok (.int (-i)) m
  | _, _ => .stuck
section
variable {g : Gt}
theorem o_sub : Op2 g (rI0 fun i j => .int (i - j)) opSub := by
  intro m w x y v u E Q rep rx ry h
  unfold opSub at h
  split at h
  · cases rx; cases ry; exact ⟨_, _, rfl, rfl, h.here rep (.int _)⟩
  · exact h.elim
theorem o_mul : Op2 g (rI CMul fun i j => .int (i * j)) opMul := by
  intro m w x y v u E Q rep rx ry h
  unfold opMul opMulI at h
  split at h
  · cases rx; cases ry
    obtain ⟨hc, h⟩ := PostR.grd h
    refine ⟨_, _, rfl, rfl, ?_, h.here rep (.int _)⟩
    unfold CMul
    rw [show (2 : Int) ^ 64 = 18446744073709551616 by decide]
    exact hc
  · exact h.elim
theorem o_fdiv : Op2 g (rI CDiv fun i j => .int (i / j)) opFdiv := by
  intro m w x y v u E Q rep rx ry h
  unfold opFdiv at h
  split at h
  · cases rx; cases ry
    obtain ⟨hc, h⟩ := PostR.grd h
    exact ⟨_, _, rfl, rfl, hc, h.here rep (.int _)⟩
  · exact h.elim
theorem o_mod : Op2 g (rI (fun _ j => 0 < j) fun i j => .int (i % j)) opMod := by
  intro m w x y v u E Q rep rx ry h
  unfold opMod at h
  split at h
  · cases rx; cases ry
    obtain ⟨hc, h⟩ := PostR.grd h
    exact ⟨_, _, rfl, rfl, hc, h.here rep (.int _)⟩
  · exact h.elim
theorem o_pow : Op2 g (rI CPow fun i j => .int (i ^ j.toNat)) opPow := by
  intro m w x y v u E Q rep rx ry h
  unfold opPow at h
  split at h
  · cases rx; cases ry
    obtain ⟨hc, h⟩ := PostR.grd h
    exact ⟨_, _, rfl, rfl, hc, h.here rep (.int _)⟩
  · exact h.elim
theorem o_neg : Op1 g (rU fun i => .int (-i)) opNeg := by
  intro m w x v E Q rep rx h
  unfold opNeg at h
  split at h
  · cases rx; exact ⟨_, rfl, h.here rep (.int _)⟩
  · exact h.elim
end

/-! ### order -/
def opLt : TV → TV → Mem → R TV
  | .int i, .int j, m => .ok (.bl (decide (i < j))) m
  | .str a, .str b, m => .ok (.bl (decide (a < b))) m
  | _, _, _ => .stuck
def opLe : TV → TV → Mem → R TV
  | .int i, .int j, m => .ok (.bl (decide (i ≤ j))) m
  | _, _, _ => .stuck
def opGt : TV → TV → Mem → R TV
  | .int i, .int j, m => .ok (.bl (decide (j < i))) m
  | _, _, _ => .stuck
def opGe : TV → TV → Mem → R TV
  | .int i, .int j, m => .ok (.bl (decide (j ≤ i))) m
  | _, _, _ => .stuck
def rLtA : R2 := fun x y H Q => rI0 (fun i j => .bl (decide (i < j))) x y H Q ∨ ∃ i j, x = .str i ∧ y = .str j ∧ Q (.bl (decide (i.cps.toList < j.cps.toList))) H
theorem or_lt {X : Cx} : OpR X (compareOp .Lt) rLtA := op_lt.or op_lt_str
section
variable {g : Gt}
theorem o_lt : Op2 g rLtA opLt := by
  intro m w x y v u E Q rep rx ry h
  unfold opLt at h
  split at h
  · cases rx; cases ry; exact .inl ⟨_, _, rfl, rfl, h.here rep (.bl _)⟩
  · cases rx; cases ry
    refine .inr ⟨_, _, rfl, rfl, ?_⟩
    have q := h.here rep (.bl _)
    simp only [toS_cps]
    exact q
  · exact h.elim
theorem o_le : Op2 g (rI0 fun i j => .bl (decide (i ≤ j))) opLe := by
  intro m w x y v u E Q rep rx ry h
  unfold opLe at h
  split at h
  · cases rx; cases ry; exact ⟨_, _, rfl, rfl, h.here rep (.bl _)⟩
  · exact h.elim
theorem o_gt : Op2 g (rI0 fun i j => .bl (decide (j < i))) opGt := by
  intro m w x y v u E Q rep rx ry h
  unfold opGt at h
  split at h
  · cases rx; cases ry; exact ⟨_, _, rfl, rfl, h.here rep (.bl _)⟩
  · exact h.elim
theorem o_ge : Op2 g (rI0 fun i j => .bl (decide (j ≤ i))) opGe := by
  intro m w x y v u E Q rep rx ry h
  unfold opGe at h
  split at h
  · cases rx; cases ry; exact ⟨_, _, rfl, rfl, h.here rep (.bl _)⟩
  · exact h.elim
end

/-! ### is None -/
def isNon : TV → Bool
  | .non => true
  | _ => false
theorem isNon_eq {g : Gt} {w : Wd} {t : TV} {v : V} (r : Rv g w t v) : decide (v = .non) = isNon t := by
  cases r <;> rfl
def opIsN (x : TV) (m : Mem) : R TV := .ok (.bl (isNon x)) m
def opNotN (x : TV) (m : Mem) : R TV := .ok (.bl (!isNon x)) m

/-! ### == of closed data -/
mutual
def cl : TV → Bool
  | .non | .bl _ | .int _ | .str _ => true
  | .tup xs => cls xs
  | .lst xs => cls xs
  | .ref _ | .ob _ _ _ | .arg _ => false
def cls : List TV → Bool
  | [] => true
  | x :: xs => cl x && cls xs
end
mutual
def dpt : TV → Nat
  | .tup xs => dpts xs + 1
  | .lst xs => dpts xs + 1
  | _ => 0
def dpts : List TV → Nat
  | [] => 0
  | x :: xs => max (dpt x) (dpts xs)
end
mutual
def eqT : TV → TV → Bool
  | .non, .non => true
  | .bl a, .bl b => a == b
  | .bl a, .int j => (if a then 1 else 0) == j
  | .int i, .bl b => i == (if b then 1 else 0)
  | .int i, .int j => i == j
  | .str a, .str b => a == b
  | .tup xs, .tup ys => eqTs xs ys
  | .lst xs, .lst ys => eqTs xs ys
  | _, _ => false
def eqTs : List TV → List TV → Bool
  | [], [] => true
  | x :: xs, y :: ys => eqT x y && eqTs xs ys
  | _, _ => false
end
mutual
def pd : TV → PyData
  | .non => .none
  | .bl b => .bool b
  | .int i => .int i
  | .str s => .str (toS s)
  | .tup xs => .tuple (pds xs)
  | .lst xs => .list (pds xs)
  | .ref _ | .ob _ _ _ | .arg _ => .none
def pds : List TV → List PyData
  | [] => []
  | x :: xs => pd x :: pds xs
end
mutual
theorem pd_depth : ∀ t : TV, (pd t).depth = dpt t
  | .non => rfl
  | .bl _ => rfl
  | .int _ => rfl
  | .str _ => rfl
  | .tup xs => by simp only [pd, dpt, PyData.depth, pds_depth xs]
  | .lst xs => by simp only [pd, dpt, PyData.depth, pds_depth xs]
  | .ref _ => rfl
  | .ob _ _ _ => rfl
  | .arg _ => rfl
theorem pds_depth : ∀ ts : List TV, PyData.depthAll (pds ts) = dpts ts
  | [] => rfl
  | x :: xs => by simp only [pds, dpts, PyData.depthAll, pd_depth x, pds_depth xs]
end
theorem toS_beq (a b : Cs) : (toS a == toS b) = (a == b) := by
  rw [Bool.eq_iff_iff, beq_iff_eq, beq_iff_eq]
  exact ⟨toS_inj, fun e => by rw [e]⟩
mutual
theorem pd_eqv : ∀ (s t : TV), cl s = true → cl t = true → PyData.eqv (pd s) (pd t) = eqT s t
  | .non, t, _, h => by
    cases t with
    | ref _ => simp [cl] at h
    | ob _ _ _ => simp [cl] at h
    | arg _ => simp [cl] at h
    | _ => first | rfl | simp [pd, PyData.eqv, eqT]
  | .bl _, t, _, h => by
    cases t with
    | ref _ => simp [cl] at h
    | ob _ _ _ => simp [cl] at h
    | arg _ => simp [cl] at h
    | _ => first | rfl | simp [pd, PyData.eqv, eqT]
  | .int _, t, _, h => by
    cases t with
    | ref _ => simp [cl] at h
    | ob _ _ _ => simp [cl] at h
    | arg _ => simp [cl] at h
    | _ => first | rfl | simp [pd, PyData.eqv, eqT]
  | .str a, t, _, h => by
    cases t with
    | str b => simp only [pd, PyData.eqv, eqT, toS_beq]
    | ref _ => simp [cl] at h
    | ob _ _ _ => simp [cl] at h
    | arg _ => simp [cl] at h
    | _ => first | rfl | simp [pd, PyData.eqv, eqT]
  | .tup xs, t, h1, h => by
    cases t with
    | tup ys => simp only [pd, PyData.eqv, eqT]; exact pds_eqv xs ys (by simpa [cl] using h1) (by simpa [cl] using h)
    | ref _ => simp [cl] at h
    | ob _ _ _ => simp [cl] at h
    | arg _ => simp [cl] at h
    | _ => first | rfl | simp [pd, PyData.eqv, eqT]
  | .lst xs, t, h1, h => by
    cases t with
    | lst ys => simp only [pd, PyData.eqv, eqT]; exact pds_eqv xs ys (by simpa [cl] using h1) (by simpa [cl] using h)
    | ref _ => simp [cl] at h
    | ob _ _ _ => simp [cl] at h
    | arg _ => simp [cl] at h
    | _ => first | rfl | simp [pd, PyData.eqv, eqT]
  | .ref _, _, h, _ => by simp [cl] at h
  | .ob _ _ _, _, h, _ => by simp [cl] at h
  | .arg _, _, h, _ => by simp [cl] at h
theorem pds_eqv : ∀ (s t : List TV), cls s = true → cls t = true → PyData.eqvAll (pds s) (pds t) = eqTs s t
  | [], [], _, _ => by simp [pds, PyData.eqvAll, eqTs]
  | [], _ :: _, _, _ => by simp [pds, PyData.eqvAll, eqTs]
  | _ :: _, [], _, _ => by simp [pds, PyData.eqvAll, eqTs]
  | x :: xs, y :: ys, h1, h2 => by
    simp only [cls, Bool.and_eq_true] at h1 h2
    simp only [pds, PyData.eqvAll, eqTs, pd_eqv x y h1.1 h2.1, pds_eqv xs ys h1.2 h2.2]
end
mutual
theorem pd_dp {g : Gt} {w : Wd} : ∀ {t : TV} {v : V}, Rv g w t v → cl t = true → Dp g.K w.H v (pd t) ∧ (pd t).canLay0 = true
  | _, _, .non, _ => ⟨.non, rfl⟩
  | _, _, .bl _, _ => ⟨.bl _, rfl⟩
  | _, _, .int _, _ => ⟨.int _, rfl⟩
  | _, _, .str s h, _ => ⟨.str _, by
    simp only [pd, PyData.canLay0, PyData.strOk, toS]
    simp
    intro i hi
    exact h.2 i hi⟩
  | _, _, .tup h1 h2, h => by
    have q := pds_dp h2 (by simpa [cl] using h)
    exact ⟨by simp only [pd]; exact .tup h1.sq q.1, by simp only [pd, PyData.canLay0]; exact q.2⟩
  | _, _, .lst h1 h2, h => by
    have q := pds_dp h2 (by simpa [cl] using h)
    exact ⟨by simp only [pd]; exact .lst h1.sq q.1, by simp only [pd, PyData.canLay0]; exact q.2⟩
  | _, _, .ref _, h => by simp [cl] at h
  | _, _, .ob _ _ _ _, h => by simp [cl] at h
  | _, _, .arg _, h => by simp [cl] at h
theorem pds_dp {g : Gt} {w : Wd} : ∀ {t : List TV} {v : List V}, Rvs g w t v → cls t = true → DpAll g.K w.H v (pds t) ∧ PyData.canLayAll0 (pds t) = true
  | _, _, .nil, _ => ⟨.nil, rfl⟩
  | _, _, .cons h r, q => by
    simp only [cls, Bool.and_eq_true] at q
    have a := pd_dp h q.1
    have b := pds_dp r q.2
    exact ⟨.cons a.1 b.1, by simp only [pds, PyData.canLayAll0, a.2, b.2, Bool.and_self]⟩
end
/-- a cell's list as a tree -/
def den (m : Mem) : TV → TV
  | .ref n => match m[n]? with
    | some (.lst ts) => .lst ts
    | _ => .ref n
  | x => x
theorem den_dp {g : Gt} {w : Wd} {m : Mem} {t : TV} {v : V} (rep : Rep g w m) (r : Rv g w t v) (h : cl (den m t) = true) : Dp g.K w.H v (pd (den m t)) ∧ (pd (den m t)).canLay0 = true := by
  cases r with
  | ref hn =>
    rename_i n a
    unfold den at h ⊢
    cases e : m[n]? with
    | none => simp [e, cl] at h
    | some c =>
      cases c with
      | lst us =>
        simp only [e, cl] at h ⊢
        obtain ⟨_, vs, h1, h2⟩ := rep.cell n _ a e hn
        have q := pds_dp h2 h
        exact ⟨by simp only [pd]; exact .lst (.inl (.inl h1)) q.1, by simp only [pd, PyData.canLay0]; exact q.2⟩
      | _ => simp [e, cl] at h
  | ob _ _ _ _ => simp [den, cl] at h
  | arg _ => simp [den, cl] at h
  | non => exact pd_dp .non h
  | bl b => exact pd_dp (.bl b) h
  | int b => exact pd_dp (.int b) h
  | str b q => exact pd_dp (.str b q) h
  | tup h1 h2 => exact pd_dp (.tup h1 h2) h
  | lst h1 h2 => exact pd_dp (.lst h1 h2) h
def opEq (x y : TV) (m : Mem) : R TV := grd ((cl (den m x) && cl (den m y)) = true ∧ dpt (den m x) ≤ 64 ∧ dpt (den m y) ≤ 64) (.ok (.bl (eqT (den m x) (den m y))) m)
def opNe (x y : TV) (m : Mem) : R TV := grd ((cl (den m x) && cl (den m y)) = true ∧ dpt (den m x) ≤ 64 ∧ dpt (den m y) ≤ 64) (.ok (.bl (!eqT (den m x) (den m y))) m)
theorem o_eq {g : Gt} : Op2 g (rEqD g.K) opEq := by
  intro m w x y v u E Q rep rx ry h
  obtain ⟨⟨c, d1, d2⟩, h⟩ := PostR.grd h
  simp only [Bool.and_eq_true] at c
  obtain ⟨p1, q1⟩ := den_dp rep rx c.1
  obtain ⟨p2, q2⟩ := den_dp rep ry c.2
  refine ⟨_, _, p1, p2, ?_, ?_, ?_⟩
  · simp only [SeqAt.shaped, q1, pd_depth, decide_eq_true d1, Bool.and_self]
  · simp only [SeqAt.shaped, q2, pd_depth, decide_eq_true d2, Bool.and_self]
  · rw [pd_eqv _ _ c.1 c.2]
    exact h.here rep (.bl _)
theorem o_ne {g : Gt} : Op2 g (rNeD g.K) opNe := by
  intro m w x y v u E Q rep rx ry h
  obtain ⟨⟨c, d1, d2⟩, h⟩ := PostR.grd h
  simp only [Bool.and_eq_true] at c
  obtain ⟨p1, q1⟩ := den_dp rep rx c.1
  obtain ⟨p2, q2⟩ := den_dp rep ry c.2
  refine ⟨_, _, p1, p2, ?_, ?_, ?_⟩
  · simp only [SeqAt.shaped, q1, pd_depth, decide_eq_true d1, Bool.and_self]
  · simp only [SeqAt.shaped, q2, pd_depth, decide_eq_true d2, Bool.and_self]
  · rw [pd_eqv _ _ c.1 c.2]
    exact h.here rep (.bl _)

/-! ### items, slices, len -/
def ixT (n : Nat) (i : Int) : Option Nat := if 0 ≤ i then (if i < n then some i.toNat else none) else if -(n : Int) ≤ i then some (i + n).toNat else none
theorem ixT_eq (n : Nat) (i : Int) : ixT n i = ixN n i := rfl
def atT {α : Type} (xs : List α) (i : Int) : Option α := (ixT xs.length i).bind fun j => xs[j]?
theorem Rvs.atI {g : Gt} {w : Wd} {ts : List TV} {vs : List V} {i : Int} {t : TV} (r : Rvs g w ts vs) (h : atT ts i = some t) : ∃ v, L2.atI vs i = some v ∧ Rv g w t v := by
  unfold atT at h
  unfold L2.atI
  rw [r.length, ixT_eq] at h
  cases e : ixN vs.length i with
  | none => rw [e] at h; cases h
  | some j =>
    rw [e] at h
    obtain ⟨v, h1, h2⟩ := r.get (i := j) (t := t) h
    exact ⟨v, h1, h2⟩
def opt {α : Type} (o : Option α) (f : α → R TV) : R TV := match o with
  | some a => f a
  | none => .stuck
theorem PostR.opt {α : Type} {g : Gt} {E : WEx} {P : TV → Mem → Wd → Prop} {w : Wd} {o : Option α} {f : α → R TV} (h : PostR g E P w (T.opt o f)) : ∃ a, o = some a ∧ PostR g E P w (f a) := by
  cases o with
  | none => exact h.elim
  | some a => exact ⟨a, rfl, h⟩
def opIdxL (x : TV) (i : Int) (m : Mem) : R TV := opt (sof m x) fun ts => opt (atT ts i) fun t => .ok t m
def opIdx : TV → TV → Mem → R TV
  | .str s, .int i, m => opt (atT s i) fun c => .ok (.str [c]) m
  | x, .int i, m => opIdxL x i m
  | _, _, _ => .stuck
theorem atT_mem {α : Type} {xs : List α} {i : Int} {a : α} (h : atT xs i = some a) : a ∈ xs := by
  unfold atT at h
  cases e : ixT xs.length i with
  | none => rw [e] at h; cases h
  | some j => rw [e] at h; exact List.mem_of_getElem? h
theorem o_idx {g : Gt} : Op2 g (rIx g.K) opIdx := by
  intro m w x y v u E Q rep rx ry h
  unfold opIdx at h
  split at h
  · cases rx; cases ry
    rename_i s i hs
    obtain ⟨c, e, h⟩ := PostR.opt h
    refine .inr (.inr ⟨toS s, i, c, rfl, rfl, ?_, ?_, ?_⟩)
    · rw [toS_length, SL_eq]; exact hs.1
    · rw [toS_cps]; exact e
    · exact h.here rep (.str [c] ⟨by show 1 ≤ SL; decide, fun d hd => by
        have : d = c := by simpa using hd
        rw [this]
        exact hs.2 c (atT_mem e)⟩)
  · cases ry
    rename_i i _
    obtain ⟨ts, e1, h⟩ := PostR.opt h
    obtain ⟨t, e2, h⟩ := PostR.opt h
    obtain ⟨a, vs, rfl, hs, r⟩ := sof_at rep rx e1
    obtain ⟨v, e3, rv⟩ := r.atI e2
    rcases hs with hs | hs
    · exact .inl ⟨a, vs, i, v, rfl, rfl, hs, e3, h.here rep rv⟩
    · exact .inr (.inl ⟨a, vs, i, v, rfl, rfl, hs, e3, h.here rep rv⟩)
  · exact h.elim
def sIxT (n d : Nat) : Option Int → Nat
  | none => d
  | some v => if v < 0 then (v + n).toNat else min v.toNat n
theorem sIxT_eq (n d : Nat) (o : Option Int) : sIxT n d o = HT.sIx n d o := by
  cases o with
  | none => rfl
  | some v =>
    unfold sIxT HT.sIx
    first | rfl | (split <;> split <;> omega) | (split <;> omega)
def cutT {α : Type} (xs : List α) (lo hi : Option Int) : List α := (xs.drop (sIxT xs.length 0 lo)).take (sIxT xs.length xs.length hi - sIxT xs.length 0 lo)
theorem Rvs.cut {g : Gt} {w : Wd} {ts : List TV} {vs : List V} (lo hi : Option Int) (r : Rvs g w ts vs) : Rvs g w (cutT ts lo hi) (cutV vs lo hi) := by
  unfold cutT cutV
  rw [sIxT_eq, sIxT_eq, r.length]
  exact (r.drop _).take _
end
end T

/-! The layer T: built-in functions and methods by values. -/
namespace T
noncomputable section
open PySem PySem.Spec PyProof.Rows L2

/-! ### slices -/
def Sl (g : Gt) (r : V → Option Int → Option Int → Hp → VK → Prop) (F : TV → Option Int → Option Int → Mem → R TV) : Prop := ∀ (m : Mem) (w : Wd) (x : TV) (v : V) (lo hi : Option Int) (E : WEx) (Q : VK), Rep g w m → Rv g w x v → PostR g E (PV g Q) w (F x lo hi m) → r v lo hi w.H Q
def opSlc (c : Bool) : TV → Option Int → Option Int → Mem → R TV
  | .str s, lo, hi, m => .ok (.str (cutT s lo hi)) m
  | .tup ts, lo, hi, m => grd (¬ (sIxT ts.length 0 lo = 0 ∧ sIxT ts.length ts.length hi = ts.length)) (.ok (.tup (cutT ts lo hi)) m)
  | x, lo, hi, m => opt (lofA m x) fun ts => mkL c (cutT ts lo hi) m
def rSlA (K : PySem.W.Frag) : V → Option Int → Option Int → Hp → VK → Prop := fun x lo hi H Q => rSlL K x lo hi H Q ∨ rSlT K x lo hi H Q ∨ rSlS x lo hi H Q
theorem or_slc {X : Cx} : SlR X (rSlA X.K) := sl_list.or (sl_tup.or sl_str)
theorem cutT_sub {α : Type} {xs : List α} {lo hi : Option Int} {a : α} (h : a ∈ cutT xs lo hi) : a ∈ xs := List.mem_of_mem_drop (List.mem_of_mem_take h)
theorem cutT_len {α : Type} (xs : List α) (lo hi : Option Int) : (cutT xs lo hi).length ≤ xs.length := by
  unfold cutT
  rw [List.length_take, List.length_drop]
  omega
theorem SOk.cut {s : Cs} (h : SOk s) (lo hi : Option Int) : SOk (cutT s lo hi) := ⟨Nat.le_trans (cutT_len s lo hi) h.1, fun c hc => h.2 c (cutT_sub hc)⟩
theorem o_slc {g : Gt} {c : Bool} : Sl g (rSlA g.K) (opSlc c) := by
  intro m w x v lo hi E Q rep rx h
  unfold opSlc at h
  split at h
  · cases rx
    rename_i s hs
    refine .inr (.inr ⟨toS s, rfl, ?_, ?_⟩)
    · rw [toS_length, SL_eq]; exact hs.1
    · have e : cutS (toS s) lo hi = toS (cutT s lo hi) := by
        unfold cutS cutT
        rw [toS_cps, toS_length, sIxT_eq, sIxT_eq]
        rfl
      rw [e]
      exact h.here rep (.str _ (hs.cut lo hi))
  · cases rx
    rename_i a vs h1 h2
    obtain ⟨hn, h⟩ := PostR.grd h
    refine .inr (.inl ⟨a, vs, rfl, h1.sq, ?_, h.newT rep (h2.cut lo hi)⟩)
    rw [← h2.length, ← sIxT_eq, ← sIxT_eq]
    exact hn
  · obtain ⟨ts, e, h⟩ := PostR.opt h
    obtain ⟨a, vs, rfl, hl, r⟩ := lofA_at rep rx e
    exact .inl ⟨a, vs, rfl, hl, h.mkL rep (r.cut lo hi)⟩

/-! ### built-in functions -/
section
variable {g : Gt}
theorem Rvs.one {w : Wd} {t : TV} {vs : List V} (h : Rvs g w [t] vs) : ∃ v, vs = [v] ∧ Rv g w t v := by
  cases h with
  | cons a b => cases b; exact ⟨_, rfl, a⟩
theorem Rvs.two {w : Wd} {t u : TV} {vs : List V} (h : Rvs g w [t, u] vs) : ∃ v v', vs = [v, v'] ∧ Rv g w t v ∧ Rv g w u v' := by
  cases h with
  | cons a b =>
    obtain ⟨v, rfl, r⟩ := b.one
    exact ⟨_, v, rfl, a, r⟩
def fLen : List TV → Mem → R TV
  | [.str s], m => .ok (.int s.length) m
  | [x], m => opt (sof m x) fun ts => .ok (.int ts.length) m
  | _, _ => .stuck
theorem o_len : OpN g (fun xs H Q => ∃ x n, xs = [x] ∧ LenV g.K x H n ∧ Q (.int n) H) fLen := by
  intro m w xs vs E Q rep rs h
  unfold fLen at h
  split at h
  · obtain ⟨v, rfl, r⟩ := rs.one
    cases r
    rename_i s hs
    refine ⟨_, s.length, rfl, ⟨?_, ?_⟩, h.here rep (.int _)⟩
    · rw [toS_length, SL_eq]; exact hs.1
    · rw [toS_length]
  · obtain ⟨v, rfl, r⟩ := rs.one
    obtain ⟨ts, e, h⟩ := PostR.opt h
    obtain ⟨a, vs, rfl, hs, r2⟩ := sof_at rep r e
    refine ⟨_, ts.length, rfl, ?_, h.here rep (.int _)⟩
    rcases hs with hs | hs
    · exact .inl ⟨vs, hs, r2.length⟩
    · exact .inr ⟨vs, hs, r2.length⟩
  · exact h.elim
/-- the figures of a number -/
def strI (i : Int) : Cs := (toString i : String).toList.map Char.toNat
theorem toS_strI (i : Int) : (Str.ofString (toString i)) = toS (strI i) := by
  rw [Str.ofString_eq_toList]
  rfl
def fStr : List TV → Mem → R TV
  | [.int i], m => grd (i.natAbs.log2 < 1920 ∧ (strI i).length ≤ SL ∧ ∀ c ∈ strI i, c < 1114112) (.ok (.str (strI i)) m)
  | _, _ => .stuck
theorem o_str : OpN g (fun xs H Q => ∃ i, xs = [.int i] ∧ i.natAbs.log2 < 1920 ∧ Q (.str (toString i)) H) fStr := by
  intro m w xs vs E Q rep rs h
  unfold fStr at h
  split at h
  · obtain ⟨v, rfl, r⟩ := rs.one
    cases r
    obtain ⟨⟨h1, h2⟩, h⟩ := PostR.grd h
    refine ⟨_, rfl, h1, ?_⟩
    rw [toS_strI]
    exact h.here rep (.str _ h2)
  · exact h.elim
def fInt : List TV → Mem → R TV
  | [.int i], m => .ok (.int i) m
  | [.bl b], m => .ok (.int (if b then 1 else 0)) m
  | [.str s], m => opt (PySem.intText? (toS s)) fun n => grd (s.length ≤ 640) (.ok (.int n) m)
  | _, _ => .stuck
def rIntA : List V → Hp → VK → Prop := fun xs H Q => ((∃ i, xs = [.int i] ∧ Q (.int i) H) ∨ ∃ k, xs = [.bl k] ∧ Q (.int (if k then 1 else 0)) H) ∨ ∃ a n, xs = [.str a] ∧ PySem.intText? a = some n ∧ a.length ≤ 640 ∧ Q (.int n) H
theorem or_int {X : Cx} : CallR X (.type "int") rIntA := call_int1.or call_int_str
theorem o_int : OpN g rIntA fInt := by
  intro m w xs vs E Q rep rs h
  unfold fInt at h
  split at h
  · obtain ⟨v, rfl, r⟩ := rs.one
    cases r
    exact .inl (.inl ⟨_, rfl, h.here rep (.int _)⟩)
  · obtain ⟨v, rfl, r⟩ := rs.one
    cases r
    exact .inl (.inr ⟨_, rfl, h.here rep (.int _)⟩)
  · obtain ⟨v, rfl, r⟩ := rs.one
    cases r
    obtain ⟨n, e, h⟩ := PostR.opt h
    obtain ⟨hl, h⟩ := PostR.grd h
    exact .inr ⟨_, n, rfl, e, by rw [toS_length]; exact hl, h.here rep (.int _)⟩
  · exact h.elim
def fAbs : List TV → Mem → R TV
  | [.int i], m => .ok (.int (if i < 0 then -i else i)) m
  | _, _ => .stuck
theorem o_abs : OpN g (fun xs H Q => ∃ i, xs = [.int i] ∧ Q (.int (if i < 0 then -i else i)) H) fAbs := by
  intro m w xs vs E Q rep rs h
  unfold fAbs at h
  split at h
  · obtain ⟨v, rfl, r⟩ := rs.one
    cases r
    exact ⟨_, rfl, h.here rep (.int _)⟩
  · exact h.elim
def fMax : List TV → Mem → R TV
  | [.int i, .int j], m => .ok (.int (if j > i then j else i)) m
  | _, _ => .stuck
def fMin : List TV → Mem → R TV
  | [.int i, .int j], m => .ok (.int (if j < i then j else i)) m
  | _, _ => .stuck
theorem o_max : OpN g (fun xs H Q => ∃ i j, xs = [.int i, .int j] ∧ Q (.int (if j > i then j else i)) H) fMax := by
  intro m w xs vs E Q rep rs h
  unfold fMax at h
  split at h
  · obtain ⟨v, v', rfl, r, r'⟩ := rs.two
    cases r; cases r'
    exact ⟨_, _, rfl, h.here rep (.int _)⟩
  · exact h.elim
theorem o_min : OpN g (fun xs H Q => ∃ i j, xs = [.int i, .int j] ∧ Q (.int (if j < i then j else i)) H) fMin := by
  intro m w xs vs E Q rep rs h
  unfold fMin at h
  split at h
  · obtain ⟨v, v', rfl, r, r'⟩ := rs.two
    cases r; cases r'
    exact ⟨_, _, rfl, h.here rep (.int _)⟩
  · exact h.elim
def fOrd : List TV → Mem → R TV
  | [.str [c]], m => .ok (.int (c : Nat)) m
  | _, _ => .stuck
theorem o_ord : OpN g (fun xs H Q => ∃ x, xs = [.str x] ∧ x.length = 1 ∧ Q (.int (x.cps.getD 0 0 : Nat)) H) fOrd := by
  intro m w xs vs E Q rep rs h
  unfold fOrd at h
  split at h
  · obtain ⟨v, rfl, r⟩ := rs.one
    cases r
    exact ⟨_, rfl, rfl, h.here rep (.int _)⟩
  · exact h.elim
/-- list(x) -/
def fList (c : Bool) : List TV → Mem → R TV
  | [x], m => opt (sof m x) fun ts => mkL c ts m
  | _, _ => .stuck
theorem o_list {c : Bool} : OpN g (fun xs H Q => ∃ p ys, xs = [.ref p] ∧ (SqL g.K H p ys ∨ SqT g.K H p ys) ∧ ∀ l, H l = none → Q (.ref l) (upd H l (.lst ys))) (fList c) := by
  intro m w xs vs E Q rep rs h
  unfold fList at h
  split at h
  · obtain ⟨v, rfl, r⟩ := rs.one
    obtain ⟨ts, e, h⟩ := PostR.opt h
    obtain ⟨a, vs, rfl, hs, r2⟩ := sof_at rep r e
    exact ⟨a, vs, rfl, hs, h.mkL rep r2⟩
  · exact h.elim
/-- isinstance(x, T), T a built-in type -/
def tyT (m : Mem) : TV → Option String
  | .non => some "NoneType"
  | .bl _ => some "bool"
  | .int _ => some "int"
  | .str _ => some "str"
  | .tup _ => some "tuple"
  | .lst _ => some "list"
  | .ref n => (match m[n]? with
    | some (.lst _) => some "list"
    | some (.dic _) => some "dict"
    | _ => none)
  | .ob _ _ _ => none
  | .arg _ => some "list"
theorem tyT_at {w : Wd} {m : Mem} {x : TV} {v : V} {s : String} (rep : Rep g w m) (r : Rv g w x v) (h : tyT m x = some s) : TyX g.K w.H v (.type s) := by
  cases r with
  | non => cases h; exact .base .non
  | bl b => cases h; exact .base (.bl b)
  | int b => cases h; exact .base (.int b)
  | str b _ => cases h; exact .base (.str _)
  | tup h1 h2 =>
    cases h
    rcases h1 with ⟨_, e⟩ | ⟨o, its, n, e, c, _⟩
    · exact .base (.tup e)
    · exact .kTuple e c
  | lst h1 h2 => cases h; exact .base (.lst h1.2)
  | ref hn =>
    rename_i n a
    unfold tyT at h
    cases e : m[n]? with
    | none => simp [e] at h
    | some c =>
      have q := rep.cell n c a e hn
      cases c with
      | lst us =>
        simp [e] at h
        subst h
        obtain ⟨_, vs, h1, h2⟩ := q
        exact .base (.lst h1)
      | dic us =>
        simp [e] at h
        subst h
        obtain ⟨_, vs, h1, h2⟩ := q
        exact .base (.dK h1)
      | _ => simp [e] at h
  | ob _ _ _ _ => cases h
  | arg h1 =>
    cases h
    rcases h1 with ⟨_, o, e⟩ | ⟨o, its, n, e, c, _⟩
    · exact .base (.frz e)
    · exact .kList e c
/-- bool is a kind of int -/
def isaT (a b : String) : Bool := a == b || (a == "bool" && b == "int")
def tyNames : List String := ["NoneType", "bool", "int", "str", "tuple", "list", "dict"]
theorem kit_all : (tyNames.all fun a => tyNames.all fun b => b == "NoneType" || decide (kitB a b = some (isaT a b))) = true := by decide +kernel
def fIsi (T : String) : List TV → Mem → R TV
  | [x], m => opt (tyT m x) fun s => grd (T ∈ tyNames ∧ T ≠ "NoneType") (.ok (.bl (isaT s T)) m)
  | _, _ => .stuck
theorem tyT_mem {m : Mem} {x : TV} {s : String} (h : tyT m x = some s) : s ∈ tyNames := by
  unfold tyT at h
  split at h
  all_goals first | (cases h; done) | (cases h; decide) | (split at h <;> first | (cases h; decide) | cases h)
theorem o_isi {T : String} (m : Mem) (w : Wd) (x : TV) (v : V) (E : WEx) (Q : VK) (rep : Rep g w m) (r : Rv g w x v) (h : PostR g E (PV g Q) w (fIsi T [x] m)) : rIsi g.K [v, .ty T] w.H Q := by
  obtain ⟨s, e, h⟩ := PostR.opt h
  obtain ⟨⟨hT, hN⟩, h⟩ := PostR.grd h
  refine ⟨v, .ty T, .type s, .type T, isaT s T, rfl, .ty T, tyT_at rep r e, kit_ty ?_, h.here rep (.bl _)⟩
  have q := List.all_eq_true.mp (List.all_eq_true.mp kit_all s (tyT_mem e)) T hT
  rcases Bool.or_eq_true_iff.mp q with z | z
  · exact absurd (by simpa using z) hN
  · exact of_decide_eq_true z
end

/-! ### methods -/
section
variable {g : Gt}
/-- sep.join(texts) -/
def joinT (S : Cs) : List Cs → Cs
  | [] => []
  | [p] => p
  | p :: q :: r => p ++ (S ++ joinT S (q :: r))
def strsOf : List TV → Option (List Cs)
  | [] => some []
  | .str s :: r => (strsOf r).map (s :: ·)
  | _ => none
theorem strsOf_eq : ∀ {ts : List TV} {ss : List Cs}, strsOf ts = some ss → ts = ss.map .str
  | [], _, h => by cases h; rfl
  | .str s :: r, ss, h => by
    unfold strsOf at h
    cases e : strsOf r with
    | none => rw [e] at h; cases h
    | some l =>
      rw [e] at h
      cases h
      rw [strsOf_eq e]
      rfl
  | .non :: _, _, h => by cases h
  | .bl _ :: _, _, h => by cases h
  | .int _ :: _, _, h => by cases h
  | .tup _ :: _, _, h => by cases h
  | .lst _ :: _, _, h => by cases h
  | .ref _ :: _, _, h => by cases h
  | .ob _ _ _ :: _, _, h => by cases h
  | .arg _ :: _, _, h => by cases h
theorem strsOf_map (ss : List Cs) : strsOf (ss.map .str) = some ss := by
  induction ss with
  | nil => rfl
  | cons s r ih => show (strsOf (r.map .str)).map (s :: ·) = _; rw [ih]; rfl
theorem join_toS (a : Cs) : ∀ ss : List Cs, Txt.join (toS a) (ss.map toS) = toS (joinT a ss) := by
  intro ss
  have h : TL.tl (Txt.join (toS a) (ss.map toS)) = joinT a ss := by
    rw [TL.join_eq, TL.tl_join]
    have e : (ss.map toS).map TL.tl = ss := by
      rw [List.map_map]
      conv => rhs; rw [← List.map_id ss]
      exact List.map_congr_left fun s _ => toS_cps s
    rw [e, show TL.tl (toS a) = a from toS_cps a]
    induction ss with
    | nil => rfl
    | cons p r ih =>
      cases r with
      | nil => rfl
      | cons q r => exact congrArg (fun z => p ++ (a ++ z)) (ih (List.cons.inj e).2)
  have e2 : ∀ z : Str, z = toS (TL.tl z) := fun z => by
    obtain ⟨⟨l⟩⟩ := z
    rfl
  rw [e2 (Txt.join _ _), h]
theorem joinT_len (S : Cs) : ∀ ss : List Cs, (joinT S ss).length ≤ (ss.map (·.length)).sum + ss.length * S.length
  | [] => Nat.zero_le _
  | [p] => by simp [joinT]
  | p :: q :: r => by
    have ih := joinT_len S (q :: r)
    simp only [joinT, List.length_append, List.map_cons, List.sum_cons, List.length_cons] at ih ⊢
    rw [Nat.add_mul, Nat.one_mul]
    omega
theorem joinT_mem {S : Cs} {c : Nat} : ∀ {ss : List Cs}, c ∈ joinT S ss → c ∈ S ∨ ∃ s ∈ ss, c ∈ s
  | [], h => by cases h
  | [p], h => .inr ⟨p, List.mem_singleton.mpr rfl, h⟩
  | p :: q :: r, h => by
    rcases List.mem_append.mp h with h | h
    · exact .inr ⟨p, List.mem_cons_self, h⟩
    · rcases List.mem_append.mp h with h | h
      · exact .inl h
      · rcases joinT_mem h with h | ⟨s, hs, h⟩
        · exact .inl h
        · exact .inr ⟨s, List.mem_cons_of_mem _ hs, h⟩
theorem Rvs.strOk {w : Wd} : ∀ {ss : List Cs} {vs : List V}, Rvs g w (ss.map TV.str) vs → ∀ s ∈ ss, SOk s
  | [], _, _, s, h => by cases h
  | a :: r, _, .cons h t, s, hs => by
    rcases List.mem_cons.mp hs with rfl | hs
    · cases h; assumption
    · exact Rvs.strOk t s hs
def fJoin (x : TV) (xs : List TV) (m : Mem) : R TV := match x, xs with
  | .str a, [y] => opt (sof m y) fun ts => opt (strsOf ts) fun ss => grd ((ss.map (·.length)).sum + ss.length * a.length ≤ SL) (.ok (.str (joinT a ss)) m)
  | _, _ => .stuck
def rJoin (K : PySem.W.Frag) : V → List V → Hp → VK → Prop := fun x xs H Q => ∃ a p, ∃ ys : List Str, x = .str a ∧ xs = [.ref p] ∧ (SqL K H p (ys.map V.str) ∨ SqT K H p (ys.map V.str)) ∧
    (ys.map (·.length)).sum + ys.length * a.length ≤ 16777216 ∧ Q (.str (Txt.join a ys)) H
theorem o_join : OpM g (rJoin g.K) fJoin := by
  intro m w x xs v vs E Q rep rx rs h
  unfold fJoin at h
  split at h
  · cases rx
    rename_i a y ha
    obtain ⟨v2, rfl, r⟩ := rs.one
    obtain ⟨ts, e1, h⟩ := PostR.opt h
    obtain ⟨ss, e2, h2⟩ := PostR.opt h
    obtain ⟨hl, h3⟩ := PostR.grd h2
    obtain ⟨p, us, rfl, hs, r2⟩ := sof_at rep r e1
    have e3 := strsOf_eq e2
    subst e3
    have e4 := r2.strs
    have ok := r2.strOk
    subst e4
    refine ⟨toS a, p, ss.map toS, rfl, rfl, ?_, ?_, ?_⟩
    · rw [List.map_map]
      exact hs
    · rw [List.map_map, List.length_map, toS_length, show ((fun x => x.length) ∘ toS) = fun s : Cs => s.length from funext toS_length]
      exact hl
    · rw [join_toS]
      refine h3.here rep (.str _ ⟨Nat.le_trans (joinT_len a ss) hl, fun c hc => ?_⟩)
      rcases joinT_mem hc with z | ⟨s, hs, z⟩
      · exact ha.2 c z
      · exact (ok s hs).2 c z
  · exact h.elim
/-- xs.append(y) -/
def fAppend (x : TV) (xs : List TV) (m : Mem) : R TV := match x, xs with
  | .ref n, [y] => (match m[n]? with
    | some (.lst ts) => grd (ts.length < SL) (.ok .non (m.set n (.lst (ts ++ [y]))))
    | _ => .stuck)
  | _, _ => .stuck
theorem PostR.wr {w : Wd} {m : Mem} {E : WEx} {Q : VK} {n : Nat} {a : Addr} {c : Cell} {o : HO} {t : TV} {v : V} (h : PostR g E (PV g Q) w (.ok t (m.set n c))) (rep : Rep g w m) (hn : w.rho[n]? = some a) (hf : ¬ w.F a)
    (hc : COk g (w.st a o) c a) (hv : Rv g (w.st a o) t v) : Q v (upd w.H a o) :=
  h (w.st a o) (Rep.leSt hf) (rep.st hn hf hc) v hv
theorem o_append : OpM g rAppend fAppend := by
  intro m w x xs v vs E Q rep rx rs h
  unfold fAppend at h
  split at h
  · cases rx
    rename_i n y a hn
    obtain ⟨v2, rfl, r⟩ := rs.one
    split at h
    · rename_i ts e
      obtain ⟨hl, h⟩ := PostR.grd h
      obtain ⟨hf, us, h1, r1⟩ := rep.cell n _ a e hn
      refine ⟨a, us, v2, rfl, rfl, h1, by rw [← r1.length, SL_eq]; exact hl, ?_⟩
      exact h.wr rep hn hf ⟨hf, _, upd_same, (r1.mono (Rep.leSt hf)).append (.cons (r.mono (Rep.leSt hf)) .nil)⟩ .non
    · exact h.elim
  · exact h.elim
end

/-! ### in -/
def flatT : TV → Bool
  | .non | .bl _ | .int _ | .str _ => true
  | _ => false
theorem flat_V {g : Gt} {w : Wd} {t : TV} {v : V} (r : Rv g w t v) (h : flatT t = true) : flatV v = true := by
  cases r <;> first | rfl | cases h
theorem flat_Vs {g : Gt} {w : Wd} : ∀ {t : List TV} {v : List V}, Rvs g w t v → t.all flatT = true → v.all flatV = true
  | _, _, .nil, _ => rfl
  | _, _, .cons h r, q => by
    simp only [List.all_cons, Bool.and_eq_true] at q ⊢
    exact ⟨flat_V h q.1, flat_Vs r q.2⟩
theorem eqV_T {g : Gt} {w : Wd} {t u : TV} {v x : V} (r : Rv g w t v) (q : Rv g w u x) (h : flatT t = true) (h' : flatT u = true) : eqV v x = eqT t u := by
  cases r <;> cases q <;> first | (cases h; done) | (cases h'; done) | rfl | simp [eqV, eqT, toS_beq]
theorem inV_T {g : Gt} {w : Wd} {t : TV} {x : V} (r : Rv g w t x) (h : flatT t = true) : ∀ {us : List TV} {vs : List V}, Rvs g w us vs → us.all flatT = true → inV x vs = us.any fun u => eqT u t
  | _, _, .nil, _ => rfl
  | _, _, .cons h1 r1, q => by
    simp only [List.all_cons, Bool.and_eq_true] at q
    have e := eqV_T h1 r q.1 h
    have ih := inV_T r h r1 q.2
    unfold inV at ih ⊢
    rw [List.any_cons, List.any_cons, e, ih]
end
end T

/-! The layer T: more methods of texts. -/
namespace T
noncomputable section
open PySem PySem.Spec PyProof.Rows L2 PySem.StrLaws PySem.Builtin PySem.Builtin.Str

/-! ### text.index(sign) -/
theorem occ_full (s sub : Str) (hi : Nat) : ∀ (l : List Nat) (st : Array Nat × Nat), 1 ≤ st.fst.size → (forIn l st (occBody s sub hi 1)).run.fst = st.fst
  | [], st, h => rfl
  | a :: l, st, h => by
    rw [List.forIn_cons]
    unfold occBody
    rw [if_neg (fun z => by have := z.1.1.1; omega)]
    exact occ_full s sub hi l _ h
def idxT (s : Cs) (c : Nat) : Option Nat := (List.range' 0 (s.length + 1)).find? fun i => s[i]? == some c
theorem occ_find (s : Cs) (c : Nat) : ∀ (l : List Nat) (free : Nat), (∀ i ∈ l, free ≤ i) → l.Pairwise (· < ·) →
    (forIn l ((#[] : Array Nat), free) (occBody (toS s) (toS [c]) s.length 1)).run.fst.toList = (l.find? fun i => s[i]? == some c).toList
  | [], free, _, _ => rfl
  | a :: l, free, hf, hp => by
    rw [List.forIn_cons, List.find?_cons]
    unfold occBody
    have ha : free ≤ a := hf a (List.mem_cons_self ..)
    have one := subAt_one (toS s) c a
    have hlen : (toS s).length = s.length := by show s.toArray.size = _; simp
    have hcp : (toS s).cps.toList = s := rfl
    rw [hlen, hcp] at one
    by_cases hc : s[a]? = some c
    · rw [if_pos ⟨⟨⟨by simp, ha⟩, (one.mpr hc).1⟩, (one.mpr hc).2⟩]
      rw [show (s[a]? == some c) = true from beq_iff_eq.mpr hc]
      have z := occ_full (toS s) (toS [c]) s.length l ((#[] : Array Nat).push a, a + (toS [c]).length) (by simp)
      exact (congrArg Array.toList z).trans rfl
    · rw [if_neg (fun z => hc (one.mp ⟨z.1.2, z.2⟩))]
      rw [show (s[a]? == some c) = false from beq_eq_false_iff_ne.mpr hc]
      exact occ_find s c l free (fun i hi => hf i (List.mem_cons_of_mem _ hi)) (List.pairwise_cons.mp hp).2
theorem occ_idx (s : Cs) (c : Nat) : occurrences (toS s) (toS [c]) 0 (toS s).length 1 = (idxT s c).toList := by
  have hlen : (toS s).length = s.length := by show s.toArray.size = _; simp
  rw [hlen, occ_eq]
  exact occ_find s c _ 0 (fun _ _ => Nat.zero_le _) (List.pairwise_lt_range' 1 (by decide))
theorem idxT_some {s : Cs} {c i : Nat} (h : idxT s c = some i) : s[i]? = some c := by
  have := List.find?_some h
  exact beq_iff_eq.mp this
def rSidx : V → List V → Hp → VK → Prop := fun x xs H Q => ∃ a b i rest, x = .str a ∧ xs = [.str b] ∧ occurrences a b 0 a.length 1 = i :: rest ∧ Q (.int (i : Nat)) H
def fSidx (x : TV) (xs : List TV) (m : Mem) : R TV := match x, xs with
  | .str s, [.str [c]] => (match idxT s c with
    | some i => .ok (.int (i : Nat)) m
    | none => .stuck)
  | _, _ => .stuck
theorem o_sidx {g : Gt} : OpM g rSidx fSidx := by
  intro m w x xs v vs E Q rep rx rs h
  unfold fSidx at h
  split at h
  · cases rx
    rename_i s c hs
    obtain ⟨v2, rfl, r⟩ := rs.one
    cases r
    cases e : idxT s c with
    | none => rw [e] at h; exact h.elim
    | some i =>
      rw [e] at h
      refine ⟨toS s, toS [c], i, [], rfl, rfl, ?_, h.here rep (.int _)⟩
      rw [occ_idx, e]
      rfl
  · exact h.elim
end
end T

/-! The layer T: list(text), text.zfill(n). -/
namespace T
open PySem PySem.Spec PyProof.Rows L2
noncomputable section
theorem vals_of : ∀ {xs : List V} {us : List Value}, us.length = xs.length → (∀ (i : Nat) (x : V) (u : Value), xs[i]? = some x → us[i]? = some u → RelV x u) → Vals xs us
  | [], [], _, _ => .nil
  | [], _ :: _, h, _ => by simp at h
  | _ :: _, [], h, _ => by simp at h
  | x :: xs, u :: us, h, k => .cons (k 0 x u rfl rfl) (vals_of (by simpa using h) fun i y v e1 e2 => k (i + 1) y v (by simpa using e1) (by simpa using e2))
def rLstS : List V → Hp → VK → Prop := fun xs H Q => ∃ x : Str, xs = [.str x] ∧ x.cps.size ≤ sizeLine ∧ ∀ l, H l = none → Q (.ref l) (upd H l (.lst (x.cps.toList.map fun c => V.str ⟨#[c]⟩)))
theorem call_list_text {X : Cx} (hc : X.calm = true) : CallR X (.type "list") rLstS := by
  intro pins s σ H xs us Q I r h
  obtain ⟨x, rfl, hz, q⟩ := h
  obtain ⟨u, rfl, rx⟩ := vals1 r
  obtain ⟨t, rfl⟩ := rx
  refine call_list_str (I.ok.hd hc) x t (fun h' tk acc' c' hk hS hacc => ?_) hz
  have hv : Vals (x.cps.toList.map fun c => V.str ⟨#[c]⟩) acc'.toList := by
    refine vals_of ?_ fun i y v e1 e2 => ?_
    · rw [Array.length_toList, List.length_map, Array.length_toList]
      exact hacc.1
    · obtain ⟨c, t', e3, e4⟩ := hacc.2 i v (by rw [← Array.getElem?_toList]; exact e2)
      rw [List.getElem?_map, Array.getElem?_toList, e3] at e1
      cases e1
      exact ⟨t', e4⟩
  refine ⟨.ref s.heap.objs.size, _, I.laid (t' := tk) hk (Nat.le_refl _)
    (show ObjOk X.prog X.w _ _ _ (.lst (x.cps.toList.map fun c => V.str ⟨#[c]⟩)) from ⟨by rw [List.length_map, Array.length_toList]; exact hz, acc'.toList, c', hv, by rw [Array.toArray_toList]; exact hS⟩), rfl, q _ (I.hok.fresh (Nat.le_refl _))⟩
def fListA (c : Bool) : List TV → Mem → R TV
  | [.str s], m => mkL c (s.map fun d => TV.str [d]) m
  | xs, m => fList c xs m
def rListA (K : PySem.W.Frag) : List V → Hp → VK → Prop := fun xs H Q => (∃ p ys, xs = [.ref p] ∧ (SqL K H p ys ∨ SqT K H p ys) ∧ ∀ l, H l = none → Q (.ref l) (upd H l (.lst ys))) ∨ rLstS xs H Q
theorem call_listA {X : Cx} (hc : X.calm = true) : CallR X (.type "list") (rListA X.K) := CallR.or call_list_of (call_list_text hc)
theorem sgn_vals {g : Gt} {w : Wd} : ∀ {s : Cs}, (∀ c ∈ s, c < 1114112) → Rvs g w (s.map fun d => TV.str [d]) (s.map fun d => V.str ⟨#[d]⟩)
  | [], _ => .nil
  | c :: s, h => .cons (.str [c] ⟨by show 1 ≤ SL; decide, fun e he => by
      have : e = c := by simpa using he
      rw [this]
      exact h c List.mem_cons_self⟩) (sgn_vals fun d hd => h d (List.mem_cons_of_mem _ hd))
theorem o_listA {g : Gt} {c : Bool} : OpN g (rListA g.K) (fListA c) := by
  intro m w xs vs E Q rep rs h
  unfold fListA at h
  split at h
  · obtain ⟨v, rfl, r⟩ := rs.one
    cases r
    rename_i s hs
    refine .inr ⟨toS s, rfl, ?_, ?_⟩
    · show s.toArray.size ≤ _
      rw [SL_eq]
      simpa using hs.1
    · show ∀ l, w.H l = none → Q (.ref l) (upd w.H l (.lst (s.map fun c => V.str ⟨#[c]⟩)))
      exact PostR.mkL h rep (sgn_vals hs.2)
  · exact .inl (o_list m w _ vs E Q rep rs h)
/-! ### text.zfill(n): no sign ahead -/
def fZfill (x : TV) (xs : List TV) (m : Mem) : R TV := match x, xs with
  | .str s, [.int i] => grd (0 ≤ i ∧ i ≤ 1000 ∧ s.head? ≠ some 43 ∧ s.head? ≠ some 45) (.ok (.str (List.replicate (i.toNat - s.length) 48 ++ s)) m)
  | _, _ => .stuck
def rZfill : V → List V → Hp → VK → Prop := fun x xs H Q => ∃ (a : Str) (i : Int), x = .str a ∧ xs = [.int i] ∧ PadOk i = true ∧ Q (.str (Txt.zfill a i)) H
theorem o_zfill {g : Gt} : OpM g rZfill fZfill := by
  intro m w x xs v vs E Q rep rx rs h
  unfold fZfill at h
  split at h
  · cases rx
    rename_i s i hs
    obtain ⟨v2, rfl, r⟩ := rs.one
    cases r
    obtain ⟨⟨h1, h2, h3, h4⟩, h⟩ := PostR.grd h
    refine ⟨toS s, i, rfl, rfl, ?_, ?_⟩
    · unfold PadOk fitsSsize Builtin.Str.tooLong
      simp only [Bool.and_eq_true, Bool.not_eq_true', Bool.or_eq_false_iff, decide_eq_false_iff_not]
      have := SL_eq
      refine ⟨⟨by omega, by omega⟩, ?_⟩
      rw [SL_eq]
      show ¬ 16777216 < i.toNat
      omega
    · have e : Txt.zfill (toS s) i = toS (List.replicate (i.toNat - s.length) 48 ++ s) := by
        have hlen : (toS s).length = s.length := by show s.toArray.size = _; simp
        unfold Txt.zfill
        rw [hlen]
        by_cases q : i ≤ (s.length : Int)
        · rw [if_pos q, show i.toNat - s.length = 0 by omega]
          rfl
        · rw [if_neg q]
          unfold zfilled
          have h0 : (toS s).cps[0]? = s.head? := by
            show s.toArray[0]? = _
            rw [List.getElem?_toArray]
            cases s <;> rfl
          rw [h0]
          have pd : Builtin.Str.padded (toS s) (i.toNat - s.length) 0 48 = toS (List.replicate (i.toNat - s.length) 48 ++ s) := by
            unfold Builtin.Str.padded toS
            simp
          split
          · rename_i z; exact absurd z h3
          · rename_i z; exact absurd z h4
          · exact pd
      rw [e]
      refine h.here rep (.str _ ⟨?_, fun c hc => ?_⟩)
      · have := hs.1
        rw [List.length_append, List.length_replicate]
        show _ ≤ 16777216
        have h5 : s.length ≤ 16777216 := this
        omega
      · rcases List.mem_append.mp hc with z | z
        · rw [List.eq_of_mem_replicate z]
          decide
        · exact hs.2 c z
  · exact h.elim
end
end T

/-! The layer T: the inner text of bodies, what it means, and the look whether it is a given body. -/
namespace T
noncomputable section
open PySem PySem.Spec PyProof.Rows L2

/-! ### in -/
def inB (x y : TV) (m : Mem) : R Bool := match x, y with
  | .str [c], .str z => .ok (decide (c ∈ z)) m
  | x, y => match sof m y with
    | some us => grd ((flatT x && us.all flatT) = true) (.ok (us.any fun u => eqT u x) m)
    | none => .stuck
def opIn (x y : TV) (m : Mem) : R TV := (inB x y m).bind fun b m1 => .ok (.bl b) m1
def opNotIn (x y : TV) (m : Mem) : R TV := (inB x y m).bind fun b m1 => .ok (.bl (!b)) m1

/-! ### the inner text -/
inductive Tg where
  | nm (i : Nat) | tu (is : List Nat)
mutual
inductive E where
  | var (i : Nat) | non | bl (b : Bool) | int (i : Int) | str (s : Cs) | gl (k : Nat)
  | neg (a : E) | bin (k : Nat) (c : Bool) (a b : E) | cmp (k : Nat) (a b : E) | cmp2 (k l : Nat) (a b c : E) | isN (n : Bool) (a : E)
  | and_ (xs : List E) | or_ (xs : List E) | not_ (a : E) | ite (t : B) (a b : E)
  | tup (xs : List E) | lst (c : Bool) (xs : List E) | idx (a i : E) | slc (c : Bool) (a : E) (lo hi : List E)
  | lc (c : Bool) (tg : Tg) (k : Nat) (it : List E) (cnd : List B) (e : E)
  | call (f : Nat) (xs : List E) | blt (k : Nat) (c : Bool) (xs : List E) | isi (a : E) (T : Nat) | mth (k : Nat) (c : Bool) (o : E) (xs : List E)
inductive B where
  | e (a : E) | c (a : E) | not (b : B) | and_ (bs : List B) | or_ (bs : List B)
end
inductive S where
  | set (i : Nat) (e : E)
  | unp (is : List Nat) (e : E)
  | ex (e : E)
  | ret (e : E)
  | ife (t : B) (a b : List S)
  | for_ (tg : Tg) (k : Nat) (it : List E) (kl : List Nat) (b : List S)
  | whi (t : B) (kl : List Nat) (b : List S)
  | brk | cnt | pas
  | fre (i : Nat)

abbrev Sem := List TV → Mem → R TV
/-- what a body leans on: the defs, the module's constants -/
structure Ev where
  fs : Nat → Option Sem
  gl : Nat → TV

def binF : Nat → Bool → TV → TV → Mem → R TV
  | 0, c => opAdd c
  | 1, _ => opSub
  | 2, _ => opMul
  | 3, _ => opFdiv
  | 4, _ => opMod
  | 5, _ => opPow
  | _, _ => fun _ _ _ => .stuck
def cmpF : Nat → TV → TV → Mem → R TV
  | 0 => opLt
  | 1 => opLe
  | 2 => opGt
  | 3 => opGe
  | 4 => opEq
  | 5 => opNe
  | 6 => opIn
  | 7 => opNotIn
  | _ => fun _ _ _ => .stuck
def bltF : Nat → Bool → List TV → Mem → R TV
  | 0, _ => fLen
  | 1, _ => fStr
  | 2, _ => fInt
  | 3, _ => fAbs
  | 4, _ => fMax
  | 5, _ => fMin
  | 6, _ => fOrd
  | 7, c => fListA c
  | _, _ => fun _ _ => .stuck
def mthF : Nat → Bool → TV → List TV → Mem → R TV
  | 0, _ => fJoin
  | 1, _ => fAppend
  | 2, _ => fSidx
  | 3, _ => fZfill
  | _, _ => fun _ _ _ => .stuck
def mthT : Nat → String
  | 0 => "str"
  | 1 => "list"
  | _ => "str"
/-- of the type that the method wants -/
def tyM (T : String) (m : Mem) : TV → Bool
  | .str _ => T == "str"
  | x => T == "list" && (lofA m x).isSome
def isiT : Nat → String
  | 0 => "int"
  | 1 => "bool"
  | 2 => "str"
  | 3 => "list"
  | 4 => "tuple"
  | _ => "dict"
def truT (t : TV) (m : Mem) : R Bool := match t with
  | .non => .ok false m
  | .bl b => .ok b m
  | .int i => .ok (i != 0) m
  | .str s => .ok (!s.isEmpty) m
  | x => match sof m x with
    | some us => .ok (!us.isEmpty) m
    | none => .stuck
def setMany (ts : TSt) : List Nat → List TV → TSt
  | i :: is, x :: xs => setMany (ts.set i (some x)) is xs
  | _, _ => ts
def setT : Tg → TV → TSt → Option TSt
  | .nm i, x, ts => some (ts.set i (some x))
  | .tu is, .tup xs, ts => if xs.length = is.length then some (setMany ts is xs) else none
  | _, _, _ => none
def tgS : Tg → List Nat
  | .nm i => [i]
  | .tu is => is
/-- the items that are walked: 0 a list, 1 a tuple, 2 a text, 3 range(n), 4 range(a, b), 5 reversed(list) -/
noncomputable def oif {α : Type} (c : Prop) (x : α) : Option α := @ite _ c (Classical.propDecidable c) (some x) none
noncomputable def itT : Nat → List TV → Mem → Option (List TV)
  | 0, [x], m => lofA m x
  | 1, [.tup us], _ => some us
  | 2, [.str s], _ => some (s.map fun c => .str [c])
  | 3, [.int n], _ => oif (-4611686018427387904 ≤ n ∧ n < 4611686018427387904) ((List.range n.toNat).map fun (i : Nat) => .int i)
  | 4, [.int a, .int b], _ => oif ((-4611686018427387904 ≤ a ∧ a < 4611686018427387904) ∧ (-4611686018427387904 ≤ b ∧ b < 4611686018427387904)) ((List.range (b - a).toNat).map fun (i : Nat) => .int (a + i))
  | 5, [x], m => (lofA m x).map List.reverse
  | _, _, _ => none
/-- what must stay while it is walked: a cell's list -/
def itC : Nat → List TV → Mem → Mem → Prop
  | 0, [.ref n], m, m' => m'[n]? = m[n]?
  | 5, [.ref n], m, m' => m'[n]? = m[n]?
  | _, _, _, _ => True
def noX {α : Type} : R α → R α
  | .exc _ _ _ _ => .stuck
  | r => r
def toB (t : TV) (m : Mem) : R Bool := match t with
  | .bl b => .ok b m
  | _ => .stuck
abbrev FI := TSt → Mem → R (List TV × (Mem → Prop))
open Classical in
noncomputable def lcL (fc : FB) (fe : FE) (tg : Tg) (C : Mem → Prop) : List TV → List TV → TSt → Mem → R (List TV)
  | [], acc, _, m => grd (C m) (.ok acc m)
  | x :: xs, acc, ts, m => grd (C m) (match setT tg x ts with
    | none => .stuck
    | some ts1 => (fc ts1 m).bind fun b m1 => if b = true then (fe ts1 m1).bind fun y m2 => grd (acc.length < SL) (lcL fc fe tg C xs (acc ++ [y]) ts m2) else lcL fc fe tg C xs acc ts m1)
noncomputable def mkI (k : Nat) (fa : FA) : FI := fun ts m => (fa ts m).bind fun us m1 => match itT k us m1 with
  | some xs => .ok (xs, itC k us m1) m1
  | none => .stuck
mutual
noncomputable def evE (v : Ev) : E → FE
  | .var i => fun ts m => match ts[i]? with
    | some (some t) => .ok t m
    | _ => .stuck
  | .non => fun _ m => .ok .non m
  | .bl b => fun _ m => .ok (.bl b) m
  | .int b => fun _ m => .ok (.int b) m
  | .str b => fun _ m => .ok (.str b) m
  | .gl k => fun _ m => .ok (v.gl k) m
  | .neg a => e1 opNeg (evE v a)
  | .bin k c a b => e2 (binF k c) (evE v a) (evE v b)
  | .cmp k a b => e2 (cmpF k) (evE v a) (evE v b)
  | .cmp2 k l a b c => fun ts m => (evE v a ts m).bind fun x m1 => (evE v b ts m1).bind fun y m2 => (cmpF k x y m2).bind fun z m3 => match z with
    | .bl true => (evE v c ts m3).bind fun u m4 => cmpF l y u m4
    | .bl false => .ok (.bl false) m3
    | _ => .stuck
  | .isN n a => fun ts m => (evE v a ts m).bind fun x m1 => .ok (.bl (n == isNon x)) m1
  | .and_ xs => evAnd v xs
  | .or_ xs => evOr v xs
  | .not_ a => fun ts m => (evE v a ts m).bind fun x m1 => match x with
    | .bl b => .ok (.bl (!b)) m1
    | _ => .stuck
  | .ite t a b => fun ts m => (evB v t ts m).bind fun x m1 => if x = true then evE v a ts m1 else evE v b ts m1
  | .tup xs => fun ts m => (evEs v xs ts m).bind fun us m1 => grd (us.length ≤ SL) (.ok (.tup us) m1)
  | .lst c xs => fun ts m => (evEs v xs ts m).bind fun us m1 => grd (us.length ≤ SL) (mkL c us m1)
  | .idx a i => e2 opIdx (evE v a) (evE v i)
  | .slc c a lo hi => fun ts m => (evE v a ts m).bind fun x m1 => (evO v lo ts m1).bind fun l m2 => (evO v hi ts m2).bind fun h m3 => opSlc c x l h m3
  | .lc c tg k it cnd e => fun ts m => (mkI k (evEs v it) ts m).bind fun us m1 => (noX (lcL (evBs v cnd) (evE v e) tg us.2 us.1 [] (wipeT ts (tgS tg)) m1)).bind fun acc m2 => mkL c acc m2
  | .call f xs => match v.fs f with
    | some s => fun ts m => (evEs v xs ts m).bind s
    | none => fun _ _ => .stuck
  | .blt k c xs => eN (bltF k c) (evEs v xs)
  | .isi a T => fun ts m => (evE v a ts m).bind fun x m1 => fIsi (isiT T) [x] m1
  | .mth k c o xs => fun ts m => (evE v o ts m).bind fun x m1 => grd (tyM (mthT k) m1 x = true) ((evEs v xs ts m1).bind fun us m2 => mthF k c x us m2)
noncomputable def evEs (v : Ev) : List E → FA
  | [] => aNil
  | x :: xs => aCons (evE v x) (evEs v xs)
noncomputable def evO (v : Ev) : List E → TSt → Mem → R (Option Int)
  | [] => fun _ m => .ok none m
  | [a] => fun ts m => (evE v a ts m).bind fun x m1 => match x with
    | .int i => .ok (some i) m1
    | _ => .stuck
  | _ => fun _ _ => .stuck
noncomputable def evB (v : Ev) : B → FB
  | .e a => fun ts m => (evE v a ts m).bind truT
  | .c a => fun ts m => (evE v a ts m).bind toB
  | .not b => fun ts m => (evB v b ts m).bind fun x m1 => .ok (!x) m1
  | .and_ bs => evAll v bs
  | .or_ bs => evAny v bs
noncomputable def evAnd (v : Ev) : List E → FE
  | [] => fun _ _ => .stuck
  | [a] => evE v a
  | a :: b :: r => fun ts m => (evE v a ts m).bind fun x m1 => match x with
    | .bl true => evAnd v (b :: r) ts m1
    | .bl false => .ok (.bl false) m1
    | _ => .stuck
noncomputable def evOr (v : Ev) : List E → FE
  | [] => fun _ _ => .stuck
  | [a] => evE v a
  | a :: b :: r => fun ts m => (evE v a ts m).bind fun x m1 => match x with
    | .bl false => evOr v (b :: r) ts m1
    | .bl true => .ok (.bl true) m1
    | _ => .stuck
noncomputable def evAll (v : Ev) : List B → FB
  | [] => fun _ m => .ok true m
  | [a] => evB v a
  | a :: b :: r => fun ts m => (evB v a ts m).bind fun x m1 => if x = true then evAll v (b :: r) ts m1 else .ok false m1
noncomputable def evAny (v : Ev) : List B → FB
  | [] => fun _ m => .ok false m
  | [a] => evB v a
  | a :: b :: r => fun ts m => (evB v a ts m).bind fun x m1 => if x = true then .ok true m1 else evAny v (b :: r) ts m1
noncomputable def evBs (v : Ev) : List B → FB
  | [] => fun _ m => .ok true m
  | b :: _ => evB v b
end

/-! ### statements -/
inductive Rs where
  | nx (ts : TSt) (m : Mem) | rt (t : TV) (m : Mem) | bk (ts : TSt) (m : Mem) | ct (ts : TSt) (m : Mem)
  | ex (c : Nat) (ns : List Nat) (xs : List TV) (ts : TSt) (m : Mem)
  | stuck
abbrev FS := TSt → Mem → Rs
def R.toS {α : Type} (ts : TSt) (r : R α) (f : α → Mem → Rs) : Rs := match r with
  | .ok a m => f a m
  | .exc c ns xs m => .ex c ns xs ts m
  | .stuck => .stuck
def Rs.seq (r : Rs) (f : FS) : Rs := match r with
  | .nx ts m => f ts m
  | r => r
open Classical in
noncomputable def forL (tg : Tg) (kl : List Nat) (b : FS) (C : Mem → Prop) : List TV → FS
  | [], ts, m => if C m then .nx ts m else .stuck
  | x :: xs, ts, m => if C m then (match setT tg x ts with
    | none => .stuck
    | some ts1 => match b ts1 m with
      | .nx ts2 m2 => forL tg kl b C xs (wipeT ts2 kl) m2
      | .ct ts2 m2 => forL tg kl b C xs (wipeT ts2 kl) m2
      | .bk ts2 m2 => .nx (wipeT ts2 kl) m2
      | r => r) else .stuck
def whiL (t : FB) (kl : List Nat) (b : FS) : Nat → FS
  | 0, _, _ => .stuck
  | n + 1, ts, m => (t ts m).toS ts fun x m1 => if x = true then (match b ts m1 with
      | .nx ts2 m2 => whiL t kl b n (wipeT ts2 kl) m2
      | .ct ts2 m2 => whiL t kl b n (wipeT ts2 kl) m2
      | .bk ts2 m2 => .nx (wipeT ts2 kl) m2
      | r => r) else .nx ts m1
def WF : Nat := 1000000
mutual
noncomputable def evS (v : Ev) : S → FS
  | .set i e => fun ts m => (evE v e ts m).toS ts fun t m1 => .nx (ts.set i (some t)) m1
  | .unp is e => fun ts m => (evE v e ts m).toS ts fun t m1 => match setT (.tu is) t ts with
    | some ts1 => .nx ts1 m1
    | none => .stuck
  | .ex e => fun ts m => (evE v e ts m).toS ts fun _ m1 => .nx ts m1
  | .ret e => fun ts m => (evE v e ts m).toS ts fun t m1 => .rt t m1
  | .ife t a b => fun ts m => (evB v t ts m).toS ts fun x m1 => if x = true then evSs v a ts m1 else evSs v b ts m1
  | .for_ tg k it kl b => fun ts m => (mkI k (evEs v it) ts m).toS ts fun us m1 => forL tg kl (evSs v b) us.2 us.1 (wipeT ts kl) m1
  | .whi t kl b => fun ts m => whiL (evB v t) kl (evSs v b) WF (wipeT ts kl) m
  | .brk => .bk
  | .cnt => .ct
  | .pas => .nx
  | .fre i => fun ts m => match ts[i]? with
    | some (some (.ref n)) => (match m[n]? with
      | some (.lst us) => .nx (ts.set i (some (.lst us))) (m.set n .dead)
      | _ => .stuck)
    | _ => .stuck
noncomputable def evSs (v : Ev) : List S → FS
  | [] => .nx
  | s :: r => fun ts m => (evS v s ts m).seq (evSs v r)
end

/-! ### a def -/
mutual
def below (n : Nat) : TV → Bool
  | .ref k => decide (k < n)
  | .tup xs => belows n xs
  | .lst xs => belows n xs
  | .ob _ _ xs => belows n xs
  | _ => true
def belows (n : Nat) : List TV → Bool
  | [] => true
  | x :: xs => below n x && belows n xs
end
def belowC (n : Nat) : Cell → Bool
  | .lst xs => belows n xs
  | .dic kvs => belows n (kvs.map (·.2))
  | .ins _ _ xs => belows n xs
  | .dead => true
/-- what a def made for itself alone is forgotten -/
def CutOk (m m' : Mem) (xs : List TV) : Prop := belows m.length xs = true ∧ m.length ≤ m'.length ∧ ∀ k, k < m.length → m'[k]? = m[k]? ∨ ∃ c, m'[k]? = some c ∧ belowC m.length c = true
open Classical in
noncomputable def cut (m m' : Mem) (xs : List TV) : Mem := if CutOk m m' xs then m'.take m.length else m'
noncomputable def fin (m : Mem) : Rs → R TV
  | .nx _ m' => .ok .non (cut m m' [])
  | .rt t m' => .ok t (cut m m' [t])
  | .ex c ns xs _ m' => .exc c ns xs (cut m m' xs)
  | _ => .stuck
/-- a def of so many parameters and slots -/
noncomputable def runD (v : Ev) (np ns : Nat) (b : List S) : Sem := fun us m =>
  if us.length = np then fin m (evSs v b (us.map some ++ List.replicate (ns - np) none) m) else .stuck
end
end T

/-! The layer T: the look, and that what it passes means what it says: expressions. -/
namespace T
open PySem PySem.Spec PyProof.Rows L2

structure Ck where
  N : List Str
  sc : Scope
  fnm : List Str
  gnm : List Str
  /-- within a comprehension -/
  blk : Bool := false
  /-- loops may stand -/
  lp : Bool := true
def visB (sc : Scope) (x : Str) : Bool := match sc.names.lookup x with
  | some .local => true
  | some .cell => true
  | some .free => true
  | _ => false
def glB (sc : Scope) (x : Str) : Bool := match sc.names.lookup x with
  | some .globalImplicit => true
  | _ => false
theorem visB_ok {sc : Scope} {x : Str} (h : visB sc x = true) : Vis sc x := by
  unfold visB at h
  unfold Vis
  split at h
  · exact .inl ‹_›
  · exact .inr (.inl ‹_›)
  · exact .inr (.inr ‹_›)
  · cases h
theorem glB_ok {sc : Scope} {x : Str} (h : glB sc x = true) : sc.names.lookup x = some .globalImplicit := by
  unfold glB at h
  split at h
  · assumption
  · cases h
def plainName (x : Str) : Bool := !(x == ("__debug__" : Str)) && !(x == ("__classdict__" : Str))
def isSl : Expr → Bool
  | .Slice _ _ _ _ => true
  | _ => false
def nostar : Expr → Bool
  | .Starred _ _ => false
  | _ => true
def plainT : Expr → Bool
  | .UnaryOp .Not _ _ => false
  | .BoolOp _ _ _ => false
  | .IfExp _ _ _ _ => false
  | .Compare _ _ _ _ => false
  | _ => true
def isCm : Expr → Bool
  | .Compare _ _ _ _ => true
  | _ => false
/-- no super() -/
def noSup : Expr → Bool
  | .Call (.Name _ _) [] [] _ => false
  | _ => true
def binO : Nat → Operator
  | 0 => .Add
  | 1 => .Sub
  | 2 => .Mult
  | 3 => .FloorDiv
  | 4 => .Mod
  | _ => .Pow
def cmpO : Nat → CmpOp
  | 0 => .Lt
  | 1 => .LtE
  | 2 => .Gt
  | 3 => .GtE
  | 4 => .Eq
  | 5 => .NotEq
  | 6 => .In
  | _ => .NotIn
/-- a built-in function: its name, whether it is a type -/
def bltN : Nat → Str
  | 0 => "len"
  | 1 => "str"
  | 2 => "int"
  | 3 => "abs"
  | 4 => "max"
  | 5 => "min"
  | 6 => "ord"
  | _ => "list"
def isiN : Nat → Str
  | 0 => "int"
  | 1 => "bool"
  | 2 => "str"
  | 3 => "list"
  | 4 => "tuple"
  | _ => "dict"
def mthN : Nat → Str
  | 0 => "join"
  | 1 => "append"
  | 2 => "index"
  | _ => "zfill"
/-- the built-in names that are leant on -/
def bltAll : List Str := ["len", "str", "int", "abs", "max", "min", "ord", "list", "isinstance", "bool", "tuple", "dict", "range", "reversed"]
def nm? (l : List Str) (i : Nat) (x : Str) : Bool := decide (l[i]? = some x)
def tgOwn (c : Ck) : Tg → List (Str × Nat)
  | .nm i => [(c.N.getD i "", i)]
  | .tu is => is.map fun i => (c.N.getD i "", i)
def locB (sc : Scope) (x : Str) : Bool := match sc.names.lookup x with
  | some .local => true
  | some .cell => true
  | _ => false
def locO (sc : Scope) (x : Str) : Bool := match sc.names.lookup x with
  | some .local => true
  | _ => false
/-- a target's name -/
def okNm (c : Ck) (i : Nat) : Expr → Bool
  | .Name x _ => nm? c.N i x && (if c.blk then locO c.sc x else locB c.sc x)
  | _ => false
def noSet : Expr → Bool
  | .Set _ _ _ => false
  | _ => true
def okNms (c : Ck) : List Nat → List Expr → Bool
  | [], [] => true
  | i :: is, e :: es => okNm c i e && okNms c is es
  | _, _ => false
def okTg (c : Ck) : Tg → Expr → Bool
  | .nm i, e => okNm c i e
  | .tu is, .Tuple es _ _ => okNms c is es && decide is.Nodup
  | _, _ => false
mutual
def okE (c : Ck) : E → Expr → Bool
  | .var i, .Name x _ => nm? c.N i x && visB c.sc x && plainName x
  | .non, .Constant .none _ _ => true
  | .bl b, .Constant (.bool d) _ _ => b == d
  | .int b, .Constant (.int d) _ _ => decide (b = d)
  | .str b, .Constant (.str d) _ _ => decide (d = toS b) && decide (b.length ≤ SL) && b.all fun c => decide (c < 1114112)
  | .gl k, .Name x _ => nm? c.gnm k x && glB c.sc x && plainName x
  | .neg a, .UnaryOp .USub e _ => okE c a e
  | .bin k _ a b, .BinOp x o y _ => decide (k < 6) && decide (o = binO k) && okE c a x && okE c b y
  | .cmp k a b, .Compare x [o] [y] _ => decide (k < 8) && decide (o = cmpO k) && !behindInMarks o y && okE c a x && okE c b y
  | .cmp2 k l a b d, .Compare x [o, p] [y, z] _ => decide (k < 6) && decide (o = cmpO k) && decide (l < 6) && decide (p = cmpO l) && okE c a x && okE c b y && okE c d z
  | .isN n a, .Compare x [o] [.Constant .none _ _] _ => decide (o = if n then .Is else .IsNot) && okE c a x
  | .and_ xs, .BoolOp .And (y :: ys) _ => okEs c xs (y :: ys)
  | .or_ xs, .BoolOp .Or (y :: ys) _ => okEs c xs (y :: ys)
  | .not_ a, .UnaryOp .Not e _ => okE c a e
  | .ite t a b, .IfExp x y z _ => okB c t x && okE c a y && okE c b z
  | .tup xs, .Tuple es _ _ => okEs c xs es
  | .lst _ xs, .List es _ => okEs c xs es
  | .idx a i, .Subscript x y _ => !isSl y && okE c a x && okE c i y
  | .slc _ a lo hi, .Subscript x (.Slice l h none _) _ => okE c a x && okO c lo l && okO c hi h
  | .call f xs, .Call (.Name x _) (y :: ys) [] _ => nm? c.fnm f x && glB c.sc x && plainName x && okEs c xs (y :: ys)
  | .blt k _ xs, .Call (.Name x _) (y :: ys) [] _ => decide (k < 8) && decide (x = bltN k) && glB c.sc x && okEs c xs (y :: ys)
  | .isi a k, .Call (.Name x _) [y, .Name t _] [] _ => decide (x = "isinstance") && glB c.sc x && nostar y && okE c a y && decide (k < 6) && decide (t = isiN k) && glB c.sc t
  | .mth k _ o xs, .Call (.Attribute x m ap) (y :: ys) [] p => decide (k < 4) && decide (m = mthN k) && noSup x && (ap.endLine == p.line) && decide ((y :: ys).length < 30) && okE c o x && okEs c xs (y :: ys)
  | .lc _ tg k it cnd e, .ListComp elt [⟨t, iter, ifs, 0⟩] scope _ => okI c k it iter && blkC c.N c.sc scope (tgOwn c tg) && okTg { c with sc := relS scope c.sc, blk := true, lp := false } tg t &&
    okBs { c with sc := relS scope c.sc, blk := true, lp := false } cnd ifs && decide (cnd.length ≤ 1) && okE { c with sc := relS scope c.sc, blk := true, lp := false } e elt
  | _, _ => false
def okI (c : Ck) : Nat → List E → Expr → Bool
  | k, [a], e => (decide (k < 3) && noSet e && okE c a e) || (match e with
    | .Call (.Name x _) [y] [] _ => ((k == 3 && decide (x = "range")) || (k == 5 && decide (x = "reversed"))) && glB c.sc x && nostar y && okE c a y
    | _ => false)
  | 4, [a, b], .Call (.Name x _) [y, z] [] _ => decide (x = "range") && glB c.sc x && nostar y && nostar z && okE c a y && okE c b z
  | _, _, _ => false
def okEs (c : Ck) : List E → List Expr → Bool
  | [], [] => true
  | a :: as, e :: es => nostar e && okE c a e && okEs c as es
  | _, _ => false
def okO (c : Ck) : List E → Option Expr → Bool
  | [], none => true
  | [a], some e => okE c a e
  | _, _ => false
def okB (c : Ck) : B → Expr → Bool
  | .e a, e => plainT e && okE c a e
  | .c a, e => !plainT e && isCm e && okE c a e
  | .not b, .UnaryOp .Not e _ => okB c b e
  | .and_ bs, .BoolOp .And (y :: ys) _ => okBs c bs (y :: ys)
  | .or_ bs, .BoolOp .Or (y :: ys) _ => okBs c bs (y :: ys)
  | _, _ => false
def okBs (c : Ck) : List B → List Expr → Bool
  | [], [] => true
  | a :: as, e :: es => okB c a e && okBs c as es
  | _, _ => false
end
end T

/-! The layer T: what the look passes means what it says: expressions. -/
namespace T
open PySem PySem.Spec PyProof.Rows L2

/-- a def's promise -/
def spT (g : Gt) (n : Nat) (s : Sem) : Sp := fun vs H Q E => ∃ (w : Wd) (m : Mem) (us : List TV), w.H = H ∧ Rep g w m ∧ Rvs g w us vs ∧ us.length = n ∧ PostR g E (PV g Q) w (s us m)

structure Ok (g : Gt) (v : Ev) (k : Nat) (c : Ck) (X : Cx) (W : WX) : Prop where
  N : X.N = c.N
  sc : X.env.scope = c.sc
  nd : X.N.Nodup
  K : X.K = g.K
  calm : X.calm = true
  hr : Room k X.A
  tk : Takes X W
  fn : c.blk = false → ∀ x, X.fn x = true
  po : c.lp = true → PassesOwn (model X.prog X.w) X.A X.env X.xe
  blt : ∀ x ∈ bltAll, X.mg x = none
  gls : ∀ (i : Nat) (x : Str), c.gnm[i]? = some x → ∃ u vv, X.mg x = some u ∧ RelV vv u ∧ ∀ w, Rv g w (v.gl i) vv
  fns : ∀ (f : Nat) (s : Sem), v.fs f = some s → ∃ (x : Str) (fa : Addr) (fd : FuncData) (ps : List Str), c.fnm[f]? = some x ∧ X.mg x = some (.ref fa) ∧ PySem.W.keepIn X.K (.ref fa) = true ∧ Binds X.K fd ps [] ∧
    (∀ us m, us.length ≠ ps.length → s us m = .stuck) ∧ FnOk X.prog X.w X.K X.mg X.base (L2.CX X.prog X.w) k fa fd ps (spT g ps.length s)

section
variable {g : Gt} {X : Cx}
def rInS (f : Bool → Bool) : R2 := fun x y H Q => ∃ (c : Nat) (z : Str), x = .str ⟨#[c]⟩ ∧ y = .str z ∧ Q (.bl (f (decide (c ∈ z.cps.toList)))) H
def rInQ (K : PySem.W.Frag) (f : Bool → Bool) : R2 := fun x y H Q => ∃ p xs, y = .ref p ∧ (SqL K H p xs ∨ SqT K H p xs) ∧ flatV x = true ∧ xs.all flatV = true ∧ Q (.bl (f (inV x xs))) H
theorem or_in : OpR X (compareOp .In) (fun x y H Q => rInS id x y H Q ∨ rInQ X.K id x y H Q) := OpR.or op_in_sign op_in_seq
theorem or_notIn : OpR X (compareOp .NotIn) (fun x y H Q => rInS (!·) x y H Q ∨ rInQ X.K (!·) x y H Q) := OpR.or op_notIn_sign op_notIn_seq
theorem o_in (f : Bool → Bool) : Op2 g (fun x y H Q => rInS f x y H Q ∨ rInQ g.K f x y H Q) (fun x y m => (inB x y m).bind fun b m1 => .ok (.bl (f b)) m1) := by
  intro m w x y v u E Q rep rx ry h
  have h0 : PostR g E (PV g Q) w ((inB x y m).bind fun b m1 => .ok (.bl (f b)) m1) := h
  clear h
  unfold inB at h0
  split at h0
  · cases rx; cases ry
    rename_i c z _ _
    refine .inl ⟨c, toS z, rfl, rfl, ?_⟩
    rw [toS_cps]
    exact PostR.here h0 rep (.bl _)
  · cases e : sof m y with
    | none => rw [e] at h0; exact h0.elim
    | some us =>
      rw [e] at h0
      simp only at h0
      by_cases hf : (flatT x && us.all flatT) = true
      · rw [grd_pos hf] at h0
        simp only [Bool.and_eq_true] at hf
        obtain ⟨p, vs, rfl, hs, r⟩ := sof_at rep ry e
        refine .inr ⟨p, vs, rfl, hs, flat_V rx hf.1, flat_Vs r hf.2, ?_⟩
        rw [inV_T rx hf.1 r hf.2]
        exact PostR.here h0 rep (.bl _)
      · unfold grd at h0
        rw [if_neg hf] at h0
        exact h0.elim
theorem bin_ok (hK : X.K = g.K) (c : Bool) : ∀ k, k < 6 → ∃ r, OpR X (binaryOp (binO k)) r ∧ Op2 g r (binF k c)
  | 0, _ => ⟨_, or_add, hK ▸ o_add⟩
  | 1, _ => ⟨_, op_sub, o_sub⟩
  | 2, _ => ⟨_, op_mul, o_mul⟩
  | 3, _ => ⟨_, op_fdiv, o_fdiv⟩
  | 4, _ => ⟨_, op_mod, o_mod⟩
  | 5, _ => ⟨_, op_pow, o_pow⟩
  | n + 6, h => absurd h (by omega)
theorem cmp_ok (hK : X.K = g.K) (hu : X.A.units + 64 < cLine) : ∀ k, k < 8 → ∃ r, OpR X (compareOp (cmpO k)) r ∧ Op2 g r (cmpF k)
  | 0, _ => ⟨_, or_lt, o_lt⟩
  | 1, _ => ⟨_, op_le, o_le⟩
  | 2, _ => ⟨_, op_gt, o_gt⟩
  | 3, _ => ⟨_, op_ge, o_ge⟩
  | 4, _ => ⟨_, op_eqD hu, hK ▸ o_eq⟩
  | 5, _ => ⟨_, op_neD hu, hK ▸ o_ne⟩
  | 6, _ => ⟨_, or_in, hK ▸ o_in id⟩
  | 7, _ => ⟨_, or_notIn, hK ▸ o_in (!·)⟩
  | n + 8, h => absurd h (by omega)
theorem blt_ok (hK : X.K = g.K) (hc : X.calm = true) (c : Bool) : ∀ k, k < 8 → (∃ id r, bootBuiltins (bltN k) = some (.builtin id) ∧ CallR X (.builtin id) r ∧ OpN g r (bltF k c)) ∨ ∃ T r, bootBuiltins (bltN k) = some (.type T) ∧ CallR X (.type T) r ∧ OpN g r (bltF k c)
  | 0, _ => .inl ⟨"len", _, by decide +kernel, call_len, hK ▸ o_len⟩
  | 1, _ => .inr ⟨"str", _, by decide +kernel, call_str_int, o_str⟩
  | 2, _ => .inr ⟨"int", _, by decide +kernel, or_int, o_int⟩
  | 3, _ => .inl ⟨"abs", _, by decide +kernel, call_abs, o_abs⟩
  | 4, _ => .inl ⟨"max", _, by decide +kernel, call_max2 hc, o_max⟩
  | 5, _ => .inl ⟨"min", _, by decide +kernel, call_min2 hc, o_min⟩
  | 6, _ => .inl ⟨"ord", _, by decide +kernel, call_ord, o_ord⟩
  | 7, _ => .inr ⟨"list", _, by decide +kernel, call_listA hc, hK ▸ o_listA⟩
  | n + 8, h => absurd h (by omega)
theorem bltN_all : ∀ k, k < 8 → bltN k ∈ bltAll
  | 0, _ => by decide +kernel
  | 1, _ => by decide +kernel
  | 2, _ => by decide +kernel
  | 3, _ => by decide +kernel
  | 4, _ => by decide +kernel
  | 5, _ => by decide +kernel
  | 6, _ => by decide +kernel
  | 7, _ => by decide +kernel
  | n + 8, h => absurd h (by omega)
theorem isi_ok : ∀ k, k < 6 → isiN k ∈ bltAll ∧ bootBuiltins (isiN k) = some (.type (isiT k))
  | 0, _ => ⟨by decide +kernel, by decide +kernel⟩
  | 1, _ => ⟨by decide +kernel, by decide +kernel⟩
  | 2, _ => ⟨by decide +kernel, by decide +kernel⟩
  | 3, _ => ⟨by decide +kernel, by decide +kernel⟩
  | 4, _ => ⟨by decide +kernel, by decide +kernel⟩
  | 5, _ => ⟨by decide +kernel, by decide +kernel⟩
  | n + 6, h => absurd h (by omega)
theorem mth_ok (hK : X.K = g.K) (c : Bool) : ∀ k, k < 4 → ∃ id r, PlainAttrs (mthT k) ∧ Slot (mthT k) (mthN k) id ∧ typeOf (.builtin id) = pure (.type "method_descriptor") ∧ MtR X id r ∧ OpM g r (mthF k c)
  | 0, _ => ⟨"str.join", _, PySem.F.plainAttrs_str, PySem.F.slot_str_join, PySem.F.type_str_join, mt_join, hK ▸ o_join⟩
  | 1, _ => ⟨"list.append", _, PySem.F.plainAttrs_list, PySem.F.slot_list_append, PySem.F.type_list_append, mt_append, o_append⟩
  | 2, _ => ⟨"str.index", _, PySem.F.plainAttrs_str, PySem.F.slot_str_index, PySem.F.type_str_index, mt_sindex, o_sidx⟩
  | 3, _ => ⟨"str.zfill", _, PySem.F.plainAttrs_str, PySem.F.slot_str_zfill, PySem.F.type_str_zfill, mt_zfill, o_zfill⟩
  | n + 4, h => absurd h (by omega)
theorem bltNe : ∀ x ∈ bltAll, x ≠ "__name__" ∧ (x == ("__debug__" : Str)) = false := by decide +kernel

/-! ### the small facts of the text -/
theorem starEach_ns {e : Expr} {es : List Expr} {env : Env} (h : nostar e = true) : starEach (e :: es) env = (false, eval e env) :: starEach es env := by
  cases e <;> first | rfl | cases h
theorem plain_ns {env : Env} {pos : Pos} : ∀ {es : List Expr}, es.all nostar = true → (backTo pos (starEach es env)).any (·.1) = false
  | [], _ => rfl
  | e :: es, h => by
    simp only [List.all_cons, Bool.and_eq_true] at h
    rw [starEach_ns h.1]
    show (false || _) = false
    rw [Bool.false_or]
    exact plain_ns h.2
theorem few_ns {env : Env} {pos : Pos} : ∀ {es : List Expr}, es.all nostar = true → (backTo pos (starEach es env)).all (fun x => !x.1) = true
  | [], _ => rfl
  | e :: es, h => by
    simp only [List.all_cons, Bool.and_eq_true] at h
    rw [starEach_ns h.1]
    show (true && _) = true
    rw [Bool.true_and]
    exact few_ns h.2
theorem okEs_ns {c : Ck} : ∀ {as : List E} {es : List Expr}, okEs c as es = true → es.all nostar = true
  | [], [], _ => rfl
  | [], _ :: _, h => by simp [okEs] at h
  | _ :: _, [], h => by simp [okEs] at h
  | a :: as, e :: es, h => by
    simp only [okEs, Bool.and_eq_true] at h
    simp only [List.all_cons, Bool.and_eq_true]
    exact ⟨h.1.1, okEs_ns h.2⟩
theorem base_ns {o : Expr} {m : Str} {env : Env} (h : noSup o = true) : attributeBase o m env (eval o env) = eval o env := by
  unfold attributeBase
  split
  · cases h
  · rfl
theorem ix_ns {i : Expr} (h : isSl i = false) : PlainIx i := fun o u => by
  cases i <;> first | rfl | cases h
theorem test_ns {e : Expr} {env : Env} (h : plainT e = true) : ∀ whole, isTrue e env whole = (do let v ← whole; standAt e.pos; holding [v] (truthy v)) := fun whole => by
  cases e <;> first | rfl | (cases h; done) | skip
  rename_i op x p
  cases op <;> first | rfl | cases h
end
end T

/-! The layer T: what the look passes means what it says: the theorem for expressions. -/
namespace T
open PySem PySem.Spec PyProof.Rows L2
section
variable {g : Gt} {X : Cx} {W : WX} {e e' : Expr} {f f' : FE}
theorem SE.of {te : TE} (h : PE X e te) (k : TEok g W te f) : SE X g W e f := ⟨te, h, k⟩
/-- two values, then a step -/
theorem te_and {ta tb : TE} (a : TEok g W ta f) (b : TEok g W tb f') : TEok g W (tAndV ta tb) (fun ts m => (f ts m).bind fun x m1 => match x with
    | .bl true => f' ts m1
    | .bl false => .ok (.bl false) m1
    | _ => .stuck) := by
  intro ts m w sg Q rep rs h
  refine a ts m w sg _ rep rs (h.bind.imp fun x m1 w1 l1 rep1 h1 v rv => ?_)
  cases rv with
  | bl d =>
    cases d with
    | true => exact ⟨true, rfl, by rw [if_pos rfl]; exact b ts m1 w1 sg Q rep1 (rs.mono l1) h1⟩
    | false => exact ⟨false, rfl, by rw [if_neg Bool.false_ne_true]; exact h1.here rep1 (.bl _)⟩
  | _ => exact h1.elim
theorem te_or {ta tb : TE} (a : TEok g W ta f) (b : TEok g W tb f') : TEok g W (tOrV ta tb) (fun ts m => (f ts m).bind fun x m1 => match x with
    | .bl false => f' ts m1
    | .bl true => .ok (.bl true) m1
    | _ => .stuck) := by
  intro ts m w sg Q rep rs h
  refine a ts m w sg _ rep rs (h.bind.imp fun x m1 w1 l1 rep1 h1 v rv => ?_)
  cases rv with
  | bl d =>
    cases d with
    | false => exact ⟨false, rfl, by rw [if_neg Bool.false_ne_true]; exact b ts m1 w1 sg Q rep1 (rs.mono l1) h1⟩
    | true => exact ⟨true, rfl, by rw [if_pos rfl]; exact h1.here rep1 (.bl _)⟩
  | _ => exact h1.elim
theorem te_not {ta : TE} (a : TEok g W ta f) : TEok g W (tNotV ta) (fun ts m => (f ts m).bind fun x m1 => match x with
    | .bl b => .ok (.bl (!b)) m1
    | _ => .stuck) := by
  intro ts m w sg Q rep rs h
  refine a ts m w sg _ rep rs (h.bind.imp fun x m1 w1 l1 rep1 h1 v rv => ?_)
  cases rv with
  | bl d => exact ⟨d, rfl, h1.here rep1 (.bl _)⟩
  | _ => exact h1.elim
theorem te_if {tt : TT} {ta tb : TE} {fb : FB} (t : TTok g W tt fb) (a : TEok g W ta f) (b : TEok g W tb f') : TEok g W (tIf tt ta tb) (fun ts m => (fb ts m).bind fun x m1 => if x = true then f ts m1 else f' ts m1) := by
  intro ts m w sg Q rep rs h
  refine t ts m w sg _ rep rs (h.bind.imp fun x m1 w1 l1 rep1 h1 => ?_)
  cases x with
  | true => rw [if_pos rfl] at h1; exact iteT (a ts m1 w1 sg Q rep1 (rs.mono l1) h1)
  | false => rw [if_neg Bool.false_ne_true] at h1; exact iteF (b ts m1 w1 sg Q rep1 (rs.mono l1) h1)
theorem te_tup {t : TA} {fa : FA} (a : TAok g W t fa) : TEok g W (tTup t) (fun ts m => (fa ts m).bind fun us m1 => grd (us.length ≤ SL) (.ok (.tup us) m1)) := by
  intro ts m w sg Q rep rs h
  refine a ts m w sg _ rep rs (h.bind.imp fun x m1 w1 l1 rep1 h1 vs rv => ?_)
  obtain ⟨hl, h2⟩ := PostR.grd h1
  exact ⟨by rw [← rv.length, SL_eq]; exact hl, h2.newT rep1 rv⟩
theorem te_lst {t : TA} {fa : FA} {c : Bool} (a : TAok g W t fa) : TEok g W (tLst t) (fun ts m => (fa ts m).bind fun us m1 => grd (us.length ≤ SL) (mkL c us m1)) := by
  intro ts m w sg Q rep rs h
  refine a ts m w sg _ rep rs (h.bind.imp fun x m1 w1 l1 rep1 h1 vs rv => ?_)
  obtain ⟨hl, h2⟩ := PostR.grd h1
  exact ⟨by rw [← rv.length, SL_eq]; exact hl, h2.mkL rep1 rv⟩
theorem te_isN {ta : TE} (a : TEok g W ta f) : TEok g W (tIsN ta) (fun ts m => (f ts m).bind fun x m1 => .ok (.bl (true == isNon x)) m1) := by
  intro ts m w sg Q rep rs h
  refine a ts m w sg _ rep rs (h.bind.imp fun x m1 w1 l1 rep1 h1 v rv => ?_)
  have h2 := h1.here rep1 (.bl _)
  rw [Bool.true_beq, ← isNon_eq rv] at h2
  exact h2
theorem te_notN {ta : TE} (a : TEok g W ta f) : TEok g W (tNotN ta) (fun ts m => (f ts m).bind fun x m1 => .ok (.bl (false == isNon x)) m1) := by
  intro ts m w sg Q rep rs h
  refine a ts m w sg _ rep rs (h.bind.imp fun x m1 w1 l1 rep1 h1 v rv => ?_)
  have h2 := h1.here rep1 (.bl _)
  rw [Bool.false_beq, ← isNon_eq rv] at h2
  exact h2
theorem te_chain {r r' : R2} {ta tb tc : TE} {fa fb fc : FE} {F G : TV → TV → Mem → R TV} (o : Op2 g r F) (o' : Op2 g r' G) (a : TEok g W ta fa) (b : TEok g W tb fb) (c : TEok g W tc fc) :
    TEok g W (tChain r r' ta tb tc) (fun ts m => (fa ts m).bind fun x m1 => (fb ts m1).bind fun y m2 => (F x y m2).bind fun z m3 => match z with
      | .bl true => (fc ts m3).bind fun u m4 => G y u m4
      | .bl false => .ok (.bl false) m3
      | _ => .stuck) := by
  intro ts m w sg Q rep rs h
  refine a ts m w sg _ rep rs (h.bind.imp fun x m1 w1 l1 rep1 h1 v rv => ?_)
  refine b ts m1 w1 sg _ rep1 (rs.mono l1) (h1.bind.imp fun y m2 w2 l2 rep2 h2 u ru => ?_)
  refine o m2 w2 x y v u _ _ rep2 (rv.mono l2) ru (h2.bind.imp fun z m3 w3 l3 rep3 h3 z' rz => ?_)
  cases rz with
  | bl d =>
    refine ⟨d, rfl, ?_⟩
    cases d with
    | true =>
      rw [if_pos rfl]
      refine c ts m3 w3 sg _ rep3 (rs.mono ((l1.trans l2).trans l3)) (h3.bind.imp fun q m4 w4 l4 rep4 h4 q' rq => ?_)
      exact o' m4 w4 y q u q' _ Q rep4 (ru.mono (l3.trans l4)) rq h4
    | false =>
      rw [if_neg Bool.false_ne_true]
      exact h3.here rep3 (.bl _)
  | _ => exact h3.elim
/-- truth -/
theorem tru_T {w : Wd} {m : Mem} {t : TV} {v : V} {E : WEx} {Q : Bool → Hp → Prop} (rep : Rep g w m) (r : Rv g w t v) (h : PostR g E (PB Q) w (truT t m)) : ∃ k, TruV g.K v w.H k ∧ Q k w.H := by
  have seqs : ∀ {t : TV} {v : V}, Rv g w t v → PostR g E (PB Q) w (match sof m t with
      | some us => R.ok (!us.isEmpty) m
      | none => .stuck) → ∃ k, TruV g.K v w.H k ∧ Q k w.H := fun {t v} r h => by
    cases e : sof m t with
    | none => rw [e] at h; exact h.elim
    | some us =>
      rw [e] at h
      obtain ⟨a, vs, rfl, hs, r2⟩ := sof_at rep r e
      have em : us.isEmpty = vs.isEmpty := by cases r2 <;> rfl
      refine ⟨!us.isEmpty, ?_, h w (Le.refl w) rep⟩
      rw [em]
      rcases hs with hs | hs
      · exact .inl ⟨vs, hs, rfl⟩
      · exact .inr (.inl ⟨vs, hs, rfl⟩)
  cases r with
  | non => exact ⟨false, rfl, h w (Le.refl w) rep⟩
  | bl b => exact ⟨b, rfl, h w (Le.refl w) rep⟩
  | int i => exact ⟨_, rfl, h w (Le.refl w) rep⟩
  | str s hs =>
    refine ⟨!s.isEmpty, ⟨by rw [toS_length, SL_eq]; exact hs.1, ?_⟩, h w (Le.refl w) rep⟩
    rw [toS_length]
    cases s with
    | nil => rfl
    | cons a b =>
      show true = _
      symm
      rw [bne_iff_ne]
      simp only [List.length_cons]
      omega
  | tup h1 h2 => exact seqs (.tup h1 h2) h
  | lst h1 h2 => exact seqs (.lst h1 h2) h
  | ref h1 => exact seqs (.ref h1) h
  | ob h1 h2 h3 h4 => exact seqs (.ob h1 h2 h3 h4) h
  | arg h1 => exact seqs (.arg h1) h
end
end T

/-! The layer T: targets, what is walked, comprehensions. -/
namespace T
open PySem PySem.Spec PyProof.Rows L2
section
variable {g : Gt} {v : Ev} {k : Nat} {c : Ck} {X : Cx} {W : WX}
theorem Ok.nm (O : Ok g v k c X W) {i : Nat} {x : Str} (h : nm? c.N i x = true) : X.N[i]? = some x := by
  rw [O.N]
  exact of_decide_eq_true h
theorem Ok.gl (O : Ok g v k c X W) {x : Str} (h : glB c.sc x = true) : Gl X x := by
  have := glB_ok h
  rw [← O.sc] at this
  exact this
theorem Ok.vis (O : Ok g v k c X W) {x : Str} (h : visB c.sc x = true) : Vis X.env.scope x := by
  rw [O.sc]
  exact visB_ok h
theorem pn_ok {x : Str} (h : plainName x = true) : (x == ("__debug__" : Str)) = false ∧ (x == ("__classdict__" : Str)) = false := by
  unfold plainName at h
  simp only [Bool.and_eq_true, Bool.not_eq_true'] at h
  exact h
theorem locO_ok {sc : Scope} {x : Str} (h : locO sc x = true) : sc.names.lookup x = some .local := by
  unfold locO at h
  split at h
  · assumption
  · cases h
theorem locB_ok {sc : Scope} {x : Str} (h : locB sc x = true) : Loc sc x := by
  unfold locB at h
  split at h
  · exact .inl ‹_›
  · exact .inr ‹_›
  · cases h
/-- a name that may be stored -/
theorem Ok.st (O : Ok g v k c X W) {i : Nat} {e : Expr} (h : okNm c i e = true) : ∃ x p, e = .Name x p ∧ X.N[i]? = some x ∧ Loc X.env.scope x ∧ (X.fn x = true ∨ X.env.scope.names.lookup x = some .local) := by
  unfold okNm at h
  split at h
  · rename_i x p
    simp only [Bool.and_eq_true] at h
    refine ⟨x, p, rfl, O.nm h.1, ?_⟩
    rw [O.sc]
    cases hb : c.blk with
    | true =>
      rw [hb] at h
      have q := locO_ok h.2
      exact ⟨.inl q, .inr q⟩
    | false =>
      rw [hb] at h
      exact ⟨locB_ok h.2, .inl (O.fn hb x)⟩
  · cases h

/-! ### targets -/
/-- slots that others are not touched -/
structure Tch (is : List Nat) (a b : St) : Prop where
  len : b.length = a.length
  keep : ∀ j, j ∉ is → b[j]? = a[j]?
theorem Tch.refl (is : List Nat) (a : St) : Tch is a a := ⟨rfl, fun _ _ => rfl⟩
theorem Tch.set {is : List Nat} {a b : St} {i : Nat} (h : Tch is (a.set i x) b) : Tch (i :: is) a b := ⟨by rw [h.len, List.length_set], fun j hj => by
  simp only [List.mem_cons, not_or] at hj
  rw [h.keep j hj.2, List.getElem?_set_ne (Ne.symm hj.1)]⟩
theorem wipe_get : ∀ (is : List Nat) (a : St) (j : Nat), (wipe a is)[j]? = if j ∈ is then (if j < a.length then some none else none) else a[j]?
  | [], a, j => by simp [wipe]
  | i :: is, a, j => by
    show ((wipe a is).set i none)[j]? = _
    have hl := wipe_length a is
    by_cases e : j = i
    · subst e
      rw [if_pos List.mem_cons_self]
      by_cases hj : j < a.length
      · rw [if_pos hj, List.getElem?_set_self (by rw [hl]; exact hj)]
      · rw [if_neg hj]
        exact List.getElem?_eq_none (by rw [List.length_set, hl]; omega)
    · rw [List.getElem?_set_ne (Ne.symm e), wipe_get is]
      by_cases h : j ∈ is
      · rw [if_pos h, if_pos (List.mem_cons_of_mem _ h)]
      · rw [if_neg h, if_neg (by simp only [List.mem_cons, not_or]; exact ⟨e, h⟩)]
theorem Tch.wipe {is : List Nat} {a b : St} (h : Tch is (L2.wipe a is) b) : L2.wipe b is = L2.wipe a is := by
  apply List.ext_getElem?
  intro j
  rw [wipe_get, wipe_get]
  have hl : b.length = a.length := by rw [h.len, wipe_length]
  by_cases q : j ∈ is
  · rw [if_pos q, if_pos q, hl]
  · rw [if_neg q, if_neg q, h.keep j q, wipe_get, if_neg q]
def SG (X : Cx) (g : Gt) (te : Expr) (tg : Tg) : Prop := ∃ t, PG X te t ∧ ∀ (ts ts' : TSt) (w : Wd) (sg : St) (x : TV) (u : V) (Q : St → Hp → Prop), RS g w ts sg → Rv g w x u → setT tg x ts = some ts' →
  (∀ sg', RS g w ts' sg' → Tch (tgS tg) sg sg' → Q sg' w.H) → t u sg w.H Q
theorem sgs (O : Ok g v k c X W) : ∀ (is : List Nat) (es : List Expr), okNms c is es = true → ∃ t, PGs X es t ∧ (assignEach es X.env).length = es.length ∧ (assignEach es X.env).findIdx? (·.1) = none ∧ is.length = es.length ∧
    ∀ (ts : TSt) (w : Wd) (sg : St) (xs : List TV) (us : List V) (Q : St → Hp → Prop), RS g w ts sg → Rvs g w xs us → xs.length = is.length → (∀ sg', RS g w (setMany ts is xs) sg' → Tch is sg sg' → Q sg' w.H) → t us sg w.H Q
  | [], [], _ => ⟨_, pgs_nil, rfl, rfl, rfl, fun ts w sg xs us Q rs rx hl h => by
    cases rx with
    | nil => exact ⟨rfl, h sg rs (Tch.refl _ _)⟩
    | cons _ _ => simp at hl⟩
  | [], _ :: _, h => by simp [okNms] at h
  | _ :: _, [], h => by simp [okNms] at h
  | i :: is, e :: es, h => by
    simp only [okNms, Bool.and_eq_true] at h
    obtain ⟨x, p, rfl, h1, h2, h3⟩ := O.st h.1
    obtain ⟨t, pt, e1, e2, e3, ht⟩ := sgs O is es h.2
    refine ⟨_, pgs_cons (pg_name O.nd h1 h2 h3) pt, congrArg Nat.succ e1, ?_, congrArg Nat.succ e3, fun ts w sg xs us Q rs rx hl hq => ?_⟩
    · show List.findIdx? _ ((false, _) :: assignEach es X.env) = none
      rw [List.findIdx?_cons, e2]
      rfl
    · cases rx with
      | nil => simp at hl
      | cons r rr =>
        refine ⟨_, _, rfl, ht _ w _ _ _ Q (RS.set rs _ r) rr (by simpa using hl) fun sg' rs' tc => hq sg' rs' tc.set⟩
theorem sg_ok (O : Ok g v k c X W) (tg : Tg) (e : Expr) (h : okTg c tg e = true) : SG X g e tg := by
  unfold okTg at h
  split at h
  · rename_i i e
    obtain ⟨x, p, rfl, h1, h2, h3⟩ := O.st h
    refine ⟨_, pg_name O.nd h1 h2 h3, fun ts ts' w sg x u Q rs r e hq => ?_⟩
    cases e
    exact hq _ (RS.set rs _ r) ⟨by rw [List.length_set], fun j hj => List.getElem?_set_ne (fun z => hj (by simp [tgS, z]))⟩
  · rename_i is es kk pp
    simp only [Bool.and_eq_true] at h
    obtain ⟨t, pt, e1, e2, e3, ht⟩ := sgs O is es h.1
    refine ⟨_, pg_tup O.calm pt e1 e2, fun ts ts' w sg x u Q rs r e hq => ?_⟩
    unfold setT at e
    split at e
    · cases e; rename_i z; cases z
    · rename_i xs _ z
      cases z
      split at e
      · rename_i hl
        cases e
        cases r with
        | tup h1 h2 =>
          refine ⟨_, _, rfl, ?_, ?_, ht _ w _ _ _ Q rs h2 hl hq⟩
          · rw [O.K]; exact h1.sq
          · rw [← h2.length, hl, e3]
      · cases e
    · cases e
  · cases h

/-! ### what is walked -/
def Src (g : Gt) (items : List TV) (C : Mem → Prop) (J : It) (w : Wd) : Prop := ∀ (w' : Wd) (m' : Mem), Le0 w w' → Rep g w' m' → C m' →
  (∀ i, i < items.length → J.go i w'.H) ∧ J.stop items.length w'.H ∧
  ∀ i t x H', items[i]? = some t → J.yld i w'.H x H' → ∃ w2, w2.H = H' ∧ Le w' w2 ∧ Rep g w2 m' ∧ Rv g w2 t x
def SI (X : Cx) (g : Gt) (W : WX) (tg : Expr) (e : Expr) (f : FI) : Prop := ∃ wi, PI X tg e wi ∧ ∀ (ts : TSt) (m : Mem) (w : Wd) (sg : St) (R : It → Hp → Prop), Rep g w m → RS g w ts sg →
  PostR g (fun c d H => W c d sg H) (fun us _ w' => ∀ J, Src g us.1 us.2 J w' → R J w'.H) w (f ts m) → wi sg w.H R
theorem mkI_post {kk : Nat} {us : List TV} {m : Mem} {w : Wd} {E : WEx} {P : List TV × (Mem → Prop) → Mem → Wd → Prop} (h : PostR g E P w (match itT kk us m with
    | some xs => .ok (xs, itC kk us m) m
    | none => .stuck)) (rep : Rep g w m) : ∃ xs, itT kk us m = some xs ∧ P (xs, itC kk us m) m w := by
  cases e : itT kk us m with
  | none => rw [e] at h; exact h.elim
  | some xs => rw [e] at h; exact ⟨xs, rfl, h w (Le.refl w) rep⟩
theorem lst_src {K : PySem.W.Frag} (hK : K = g.K) {w : Wd} {m : Mem} {x : TV} {u : V} {ts : List TV} (rep : Rep g w m) (r : Rv g w x u) (h : lofA m x = some ts) : ∃ a, u = .ref a ∧ (∃ xs, SqL K w.H a xs) ∧
    ∀ (w' : Wd) (m' : Mem), Le0 w w' → Rep g w' m' → itC 0 [x] m m' → ∃ vs, SqL K w'.H a vs ∧ Rvs g w' ts vs := by
  subst hK
  cases r with
  | arg h1 =>
    cases h
    exact ⟨_, rfl, ⟨_, h1.sq⟩, fun w' m' l _ _ => ⟨_, (l.arg h1).sq, Rvs.of_ints _⟩⟩
  | lst h1 h2 =>
    cases h
    exact ⟨_, rfl, ⟨_, h1.sq⟩, fun w' m' l _ _ => ⟨_, (l.lst h1).sq, Rvs.mono0 l h2⟩⟩
  | ref hn =>
    rename_i n a
    have h' : lof m (.ref n) = some ts := h
    obtain ⟨a', vs, e, h1, h2⟩ := lof_at rep (.ref hn) h'
    cases e
    refine ⟨a, rfl, ⟨_, .inl (.inl h1)⟩, fun w' m' l rep' hc => ?_⟩
    have e1 : m[n]? = some (.lst ts) := by
      unfold lof at h'
      cases e : m[n]? with
      | none => simp [e] at h'
      | some c => cases c <;> simp [e] at h' <;> (subst h'; rfl)
    have hc' : m'[n]? = m[n]? := hc
    obtain ⟨_, us, q1, q2⟩ := rep'.cell n _ a (hc'.trans e1) (l.rh n a hn)
    exact ⟨us, .inl (.inl q1), q2⟩
  | _ => cases h
theorem SqL.inj {K : PySem.W.Frag} {H : Hp} {a : Addr} {xs : List V} (h : SqL K H a xs) {x : V} {i : Nat} (hy : ∀ ys, SqL K H a ys → ys[i]? = some x) : xs[i]? = some x := hy xs h
theorem src_list {K : PySem.W.Frag} (hK : K = g.K) {a : Addr} {ts : List TV} {C : Mem → Prop} {w : Wd} (h : ∀ (w' : Wd) (m' : Mem), Le0 w w' → Rep g w' m' → C m' → ∃ vs, SqL K w'.H a vs ∧ Rvs g w' ts vs) : Src g ts C (Itl K a) w := by
  intro w' m' l rep hc
  obtain ⟨vs, h1, h2⟩ := h w' m' l rep hc
  refine ⟨fun i hi => ?_, ⟨vs, h1, by rw [h2.length]; exact Nat.le_refl _⟩, fun i t x H' ht hy => ?_⟩
  · obtain ⟨u, e, _⟩ := h2.get (List.getElem?_eq_getElem hi)
    exact ⟨vs, u, h1, e⟩
  · obtain ⟨rfl, hx⟩ := hy
    obtain ⟨u, e, r⟩ := h2.get ht
    have := (hx vs h1).symm.trans e
    cases this
    exact ⟨w', rfl, Le.refl _, rep, r⟩
theorem src_rev {K : PySem.W.Frag} (hK : K = g.K) {a : Addr} {ts : List TV} {n : Nat} (hn : n = ts.length) {C : Mem → Prop} {w : Wd} (h : ∀ (w' : Wd) (m' : Mem), Le0 w w' → Rep g w' m' → C m' → ∃ vs, SqL K w'.H a vs ∧ Rvs g w' ts vs) : Src g ts.reverse C (Itv K a n) w := by
  intro w' m' l rep hc
  obtain ⟨vs, h1, h2⟩ := h w' m' l rep hc
  have hl := h2.length
  refine ⟨fun i hi => ?_, ?_, fun i t x H' ht hy => ?_⟩
  · rw [List.length_reverse] at hi
    obtain ⟨u, e, _⟩ := h2.get (List.getElem?_eq_getElem (show n - 1 - i < ts.length by omega))
    exact ⟨by omega, vs, u, h1, e⟩
  · show n ≤ ts.reverse.length
    rw [List.length_reverse]
    omega
  · obtain ⟨rfl, hx⟩ := hy
    have hi : i < ts.length := by
      have := (List.getElem?_eq_some_iff.mp ht).1
      rwa [List.length_reverse] at this
    rw [List.getElem?_reverse hi] at ht
    obtain ⟨u, e, r⟩ := h2.get ht
    have q := hx vs h1
    rw [hn] at q
    have := q.symm.trans e
    cases this
    exact ⟨w', rfl, Le.refl _, rep, r⟩
theorem src_tup {K : PySem.W.Frag} (hK : K = g.K) {a : Addr} {ts : List TV} {vs : List V} {C : Mem → Prop} {w : Wd} (h1 : TupAt g w a vs) (h2 : Rvs g w ts vs) : Src g ts C (Itt K a) w := by
  subst hK
  intro w' m' l rep hc
  have h1 := (l.tup h1).sq
  have h2 := Rvs.mono0 l h2
  refine ⟨fun i hi => ?_, ⟨vs, h1, by rw [h2.length]; exact Nat.le_refl _⟩, fun i t x H' ht hy => ?_⟩
  · obtain ⟨u, e, _⟩ := h2.get (List.getElem?_eq_getElem hi)
    exact ⟨vs, u, h1, e⟩
  · obtain ⟨rfl, hx⟩ := hy
    obtain ⟨u, e, r⟩ := h2.get ht
    have := (hx vs h1).symm.trans e
    cases this
    exact ⟨w', rfl, Le.refl _, rep, r⟩
theorem src_str {s : Cs} (hs : SOk s) {C : Mem → Prop} {w : Wd} : Src g (s.map fun c => TV.str [c]) C (Its (toS s)) w := by
  intro w' m' l rep hc
  have hz : (toS s).cps.size = s.length := by show s.toArray.size = _; simp
  refine ⟨fun i hi => ?_, ?_, fun i t x H' ht hy => ?_⟩
  · show i < (toS s).cps.size
    rw [hz]; simpa using hi
  · show (toS s).cps.size ≤ _
    rw [hz, List.length_map]
    exact Nat.le_refl _
  · obtain ⟨rfl, d, hd, rfl⟩ := hy
    have hd' : s[i]? = some d := by
      have : s.toArray[i]? = some d := hd
      simpa using this
    rw [List.getElem?_map, hd'] at ht
    cases ht
    exact ⟨w', rfl, Le.refl _, rep, .str [d] ⟨by show 1 ≤ SL; decide, fun e he => by
      have : e = d := by simpa using he
      rw [this]
      exact hs.2 d (List.mem_of_getElem? hd')⟩⟩
theorem src_rng {lo : Int} {n : Nat} {C : Mem → Prop} {w : Wd} : Src g ((List.range n).map fun (i : Nat) => TV.int (lo + i)) C (Itr lo n) w := by
  intro w' m' l rep hc
  refine ⟨fun i hi => ?_, ?_, fun i t x H' ht hy => ?_⟩
  · show i < n
    simpa using hi
  · show n ≤ _
    simp
  · obtain ⟨rfl, rfl⟩ := hy
    rw [List.getElem?_map] at ht
    cases e : (List.range n)[i]? with
    | none => rw [e] at ht; cases ht
    | some j =>
      rw [e] at ht
      have ej : j = i := by
        have := List.getElem?_eq_some_iff.mp e
        obtain ⟨h1, h2⟩ := this
        rw [List.getElem_range] at h2
        exact h2.symm
      cases ht
      subst ej
      exact ⟨w', rfl, Le.refl _, rep, .int _⟩
end
end T

/-! The layer T: comprehensions. -/
namespace T
open PySem PySem.Spec PyProof.Rows L2
section
variable {g : Gt} {X : Cx} {W : WX}
/-! ### one reading for a meaning -/
def cE (g : Gt) (W : WX) (f : FE) : TE := fun sg H Q => ∀ te, TEok g W te f → te sg H Q
theorem cE_ok {f : FE} : TEok g W (cE g W f) f := fun ts m w sg Q rep rs h te ht => ht ts m w sg Q rep rs h
theorem SE.c {e : Expr} {f : FE} (h : SE X g W e f) : PE X e (cE g W f) := by
  obtain ⟨te, p, t⟩ := h
  exact ⟨fun pins s sg H Q I hq => p.run pins s sg H Q I (hq te t)⟩
def cB (g : Gt) (W : WX) (f : FB) : TT := fun sg H Q => ∀ te, TTok g W te f → te sg H Q
theorem cB_ok {f : FB} : TTok g W (cB g W f) f := fun ts m w sg Q rep rs h te ht => ht ts m w sg Q rep rs h
def SPts (X : Cx) (g : Gt) (W : WX) (e : List Expr) (f : FB) : Prop := ∃ tt, PTs X e tt ∧ TTok g W tt f
theorem SPts.c {e : List Expr} {f : FB} (h : SPts X g W e f) : PTs X e (cB g W f) := by
  obtain ⟨te, p, t⟩ := h
  exact ⟨fun pins s sg H Q I hq => p.run pins s sg H Q I (hq te t)⟩
def TGok (g : Gt) (tg : Tg) (t : TG) : Prop := ∀ (ts ts' : TSt) (w : Wd) (sg : St) (x : TV) (u : V) (Q : St → Hp → Prop), RS g w ts sg → Rv g w x u → setT tg x ts = some ts' →
  (∀ sg', RS g w ts' sg' → Tch (tgS tg) sg sg' → Q sg' w.H) → t u sg w.H Q
def cG (g : Gt) (tg : Tg) : TG := fun u sg H Q => ∀ t, TGok g tg t → t u sg H Q
theorem cG_ok {tg : Tg} : TGok g tg (cG g tg) := fun ts ts' w sg x u Q rs r e h t ht => ht ts ts' w sg x u Q rs r e h
theorem SG.c {e : Expr} {tg : Tg} (h : SG X g e tg) : PG X e (cG g tg) := by
  obtain ⟨t, p, k⟩ := h
  exact ⟨fun pins s sg H u uu Q I r hq => p.run pins s sg H u uu Q I r (hq t k)⟩

/-! ### the list that is being made -/
theorem RS.mono0 {w w' : Wd} {ts : TSt} {sg : St} (h : RS g w ts sg) (l : Le0 w w') : RS g w' ts sg := ⟨h.len, fun i t e => by
  obtain ⟨v, e1, r⟩ := h.at_ i t e
  exact ⟨v, e1, Rv.mono0 l r⟩⟩
theorem wipeT_get : ∀ (is : List Nat) (a : TSt) (j : Nat), (wipeT a is)[j]? = if j ∈ is then (if j < a.length then some none else none) else a[j]?
  | [], a, j => by simp [wipeT]
  | i :: is, a, j => by
    show (wipeT (a.set i none) is)[j]? = _
    rw [wipeT_get is, List.length_set]
    by_cases h : j ∈ is
    · rw [if_pos h, if_pos (List.mem_cons_of_mem _ h)]
    · rw [if_neg h]
      by_cases e : j = i
      · subst e
        rw [if_pos List.mem_cons_self]
        by_cases hl : j < a.length
        · rw [if_pos hl, List.getElem?_set_self hl]
        · rw [if_neg hl]
          exact List.getElem?_eq_none (by rw [List.length_set]; omega)
      · rw [if_neg (by simp only [List.mem_cons, not_or]; exact ⟨e, h⟩), List.getElem?_set_ne (Ne.symm e)]
theorem wipeT_length : ∀ (is : List Nat) (a : TSt), (wipeT a is).length = a.length
  | [], a => rfl
  | i :: is, a => by
    show (wipeT (a.set i none) is).length = _
    rw [wipeT_length is, List.length_set]
theorem RS.wipe2 {w : Wd} {ts : TSt} {sg : St} (h : RS g w ts sg) (is : List Nat) : RS g w (T.wipeT ts is) (L2.wipe sg is) := by
  refine ⟨by rw [wipeT_length, wipe_length]; exact h.len, fun j t e => ?_⟩
  rw [wipeT_get] at e
  by_cases q : j ∈ is
  · rw [if_pos q] at e
    split at e <;> cases e
  · rw [if_neg q] at e
    obtain ⟨v, e1, r⟩ := h.at_ j t e
    exact ⟨v, by rw [wipe_get, if_neg q]; exact e1, r⟩
def Wd.pn (w : Wd) (D : Addr) (o : HO) (r : List (Addr × HO)) : Wd := ⟨w.F, upd w.H D o, w.rho, (D, o) :: r⟩
theorem Rep.pnew {w : Wd} {m : Mem} {D : Addr} {o : HO} (r : Rep g w m) (hD : w.H D = none) : Rep g (w.pn D o w.pd) m ∧ Le0 w (w.pn D o w.pd) := by
  have f := r.fresh hD
  have l : Le0 w (w.pn D o w.pd) := ⟨fun a h => ⟨h, upd_ne (fun z => f.1 (z ▸ h))⟩, fun _ _ h => h⟩
  refine ⟨⟨fun a h => ?_, r.len, r.nd, fun n a e => ?_, fun n c a hc e => ?_, fun q hq => ?_⟩, l⟩
  · obtain ⟨u, e⟩ := r.dom a h
    exact ⟨u, (l.fz a h).2.trans e⟩
  · obtain ⟨u, q⟩ := r.rd n a e
    exact ⟨u, by show upd w.H D o a = _; rw [upd_ne (f.2 n a e)]; exact q⟩
  · exact (r.cell n c a hc e).mono0 l (fun h => h) (upd_ne (f.2 n a e))
  · rcases List.mem_cons.mp hq with rfl | hq
    · exact ⟨upd_same, f.1, fun z => by
        obtain ⟨n, e⟩ := mem_rho z
        exact f.2 n _ e rfl⟩
    · obtain ⟨h1, h2, h3⟩ := r.pend q hq
      exact ⟨by show upd w.H D o q.1 = _; rw [upd_ne (r.pne hD q hq)]; exact h1, h2, h3⟩
theorem Rep.pset {w : Wd} {m : Mem} {D : Addr} {o o' : HO} {rs : List (Addr × HO)} (r : Rep g w m) (hp : w.pd = (D, o) :: rs) (hn : ∀ q ∈ rs, q.1 ≠ D) : Rep g (w.pn D o' rs) m ∧ Le0 w (w.pn D o' rs) := by
  obtain ⟨p1, p2, p3⟩ := r.pend (D, o) (by rw [hp]; exact List.mem_cons_self)
  have ne : ∀ (n : Nat) (a : Addr), w.rho[n]? = some a → a ≠ D := fun n a e z => p3 (by
    show D ∈ w.rho
    rw [← z]
    exact List.mem_of_getElem? e)
  have l : Le0 w (w.pn D o' rs) := ⟨fun a h => ⟨h, upd_ne (fun z => p2 (by show w.F D; rw [← z]; exact h))⟩, fun _ _ h => h⟩
  refine ⟨⟨fun a h => ?_, r.len, r.nd, fun n a e => ?_, fun n c a hc e => ?_, fun q hq => ?_⟩, l⟩
  · obtain ⟨u, e⟩ := r.dom a h
    exact ⟨u, (l.fz a h).2.trans e⟩
  · obtain ⟨u, q⟩ := r.rd n a e
    exact ⟨u, by show upd w.H D o' a = _; rw [upd_ne (ne n a e)]; exact q⟩
  · exact (r.cell n c a hc e).mono0 l (fun h => h) (upd_ne (ne n a e))
  · rcases List.mem_cons.mp hq with rfl | hq
    · exact ⟨upd_same, p2, p3⟩
    · obtain ⟨h1, h2, h3⟩ := r.pend q (by rw [hp]; exact List.mem_cons_of_mem _ hq)
      exact ⟨by show upd w.H D o' q.1 = _; rw [upd_ne (hn q hq)]; exact h1, h2, h3⟩
/-- it is done: frozen -/
theorem Rep.pfz {w : Wd} {m : Mem} {D : Addr} {o : HO} {rs : List (Addr × HO)} (r : Rep g w m) (hp : w.pd = (D, o) :: rs) (hn : ∀ q ∈ rs, q.1 ≠ D) :
    Rep g ⟨fun a => w.F a ∨ a = D, w.H, w.rho, rs⟩ m ∧ Le0 w ⟨fun a => w.F a ∨ a = D, w.H, w.rho, rs⟩ ∧ w.H D = some o := by
  obtain ⟨p1, p2, p3⟩ := r.pend (D, o) (by rw [hp]; exact List.mem_cons_self)
  have ne : ∀ (n : Nat) (a : Addr), w.rho[n]? = some a → a ≠ D := fun n a e z => p3 (by
    show D ∈ w.rho
    rw [← z]
    exact List.mem_of_getElem? e)
  have l : Le0 w ⟨fun a => w.F a ∨ a = D, w.H, w.rho, rs⟩ := ⟨fun a h => ⟨.inl h, rfl⟩, fun _ _ h => h⟩
  refine ⟨⟨fun a h => ?_, r.len, r.nd, r.rd, fun n c a hc e => ?_, fun q hq => ?_⟩, l, p1⟩
  · rcases h with h | rfl
    · exact r.dom a h
    · exact ⟨o, p1⟩
  · exact (r.cell n c a hc e).mono0 l (fun h z => z.elim h (ne n a e)) rfl
  · obtain ⟨h1, h2, h3⟩ := r.pend q (by rw [hp]; exact List.mem_cons_of_mem _ hq)
    exact ⟨h1, fun z => z.elim h2 (hn q hq), h3⟩
/-- .. a cell -/
theorem Rep.pcl {w : Wd} {m : Mem} {D : Addr} {ts : List TV} {vs : List V} {rs : List (Addr × HO)} (r : Rep g w m) (hp : w.pd = (D, .lst vs) :: rs) (hn : ∀ q ∈ rs, q.1 ≠ D) (rv : Rvs g w ts vs) :
    Rep g ⟨w.F, w.H, w.rho ++ [D], rs⟩ (m ++ [Cell.lst ts]) ∧ Le0 w ⟨w.F, w.H, w.rho ++ [D], rs⟩ := by
  obtain ⟨p1, p2, p3⟩ := r.pend (D, .lst vs) (by rw [hp]; exact List.mem_cons_self)
  have l : Le0 w ⟨w.F, w.H, w.rho ++ [D], rs⟩ := ⟨fun a h => ⟨h, rfl⟩, fun n a h => by
    show (w.rho ++ [D])[n]? = _
    rw [List.getElem?_append_left (List.getElem?_eq_some_iff.mp h).1]
    exact h⟩
  have at_ : ∀ {n : Nat} {a : Addr}, (w.rho ++ [D])[n]? = some a → (n < w.rho.length ∧ w.rho[n]? = some a) ∨ (n = w.rho.length ∧ a = D) := fun {n a} e => by
    by_cases h : n < w.rho.length
    · rw [List.getElem?_append_left h] at e
      exact .inl ⟨h, e⟩
    · rw [List.getElem?_append_right (by omega)] at e
      obtain ⟨hz, q⟩ := List.getElem?_eq_some_iff.mp e
      rw [List.getElem_singleton] at q
      simp only [List.length_singleton] at hz
      exact .inr ⟨by omega, q.symm⟩
  refine ⟨⟨r.dom, ?_, ?_, fun n a e => ?_, fun n c a hc e => ?_, fun q hq => ?_⟩, l⟩
  · show (w.rho ++ [D]).length = (m ++ [Cell.lst ts]).length
    simp [r.len]
  · show (w.rho ++ [D]).Nodup
    rw [List.nodup_append]
    refine ⟨r.nd, by simp, fun a ha b hb => ?_⟩
    have : b = D := by simpa using hb
    subst this
    exact fun z => p3 (by show b ∈ w.rho; rw [← z]; exact ha)
  · rcases at_ e with ⟨_, e⟩ | ⟨_, rfl⟩
    · exact r.rd n a e
    · exact ⟨_, p1⟩
  · rcases at_ e with ⟨h, e⟩ | ⟨h, rfl⟩
    · rw [List.getElem?_append_left (by rw [← r.len]; exact h)] at hc
      exact (r.cell n c a hc e).mono0 l (fun h => h) rfl
    · rw [List.getElem?_append_right (by rw [← r.len]; omega)] at hc
      obtain ⟨_, q⟩ := List.getElem?_eq_some_iff.mp hc
      rw [List.getElem_singleton] at q
      subst q
      exact ⟨p2, vs, p1, Rvs.mono0 l rv⟩
  · obtain ⟨h1, h2, h3⟩ := r.pend q (by rw [hp]; exact List.mem_cons_of_mem _ hq)
    refine ⟨h1, h2, fun z => ?_⟩
    rcases List.mem_append.mp z with z | z
    · exact h3 z
    · exact hn q hq (by simpa using z)
theorem grd_posI {α : Type} {c : Prop} {d : Decidable c} {r : R α} (h : c) : @grd α c d r = r := if_pos h
theorem noX_ok {α : Type} {r : R α} (h : noX r ≠ .stuck) : noX r = r := by
  cases r with
  | exc _ _ _ _ => exact absurd rfl h
  | _ => rfl
abbrev W0 : WX := fun _ _ _ _ => False
theorem te_lc {wi : TI} {fi : FI} {fc : FB} {fe : FE} {tg : Tg} {c : Bool} (hi : ∀ (ts : TSt) (m : Mem) (w : Wd) (sg : St) (R : It → Hp → Prop), Rep g w m → RS g w ts sg → PostR g (fun c d H => W c d sg H) (fun us _ w' => ∀ J, Src g us.1 us.2 J w' → R J w'.H) w (fi ts m) → wi sg w.H R) :
    TEok g W (tLc wi (cG g tg) (cB g W0 fc) (cE g W0 fe) (tgS tg)) (fun ts m => (fi ts m).bind fun us m1 => (noX (lcL fc fe tg us.2 us.1 [] (wipeT ts (tgS tg)) m1)).bind fun acc m2 => mkL c acc m2) := by
  intro ts m w sg Q rep rs h
  refine hi ts m w sg _ rep rs (h.bind.imp fun us m1 w1 l1 rep1 h1 J src => ?_)
  intro D hD
  obtain ⟨items, C⟩ := us
  have h1 : PostR g (fun c d H => W c d sg H) (PV g Q) w1 ((noX (lcL fc fe tg C items [] (wipeT ts (tgS tg)) m1)).bind fun acc m2 => mkL c acc m2) := h1
  have rs1 := rs.mono l1
  have hrs := rep1.pne hD
  generalize hts : wipeT ts (tgS tg) = ts0 at h1
  have ns : noX (lcL fc fe tg C items [] ts0 m1) ≠ .stuck := fun z => by rw [z] at h1; exact h1
  have ex := noX_ok ns
  rw [ex] at h1 ns
  have nx : ∀ cc nn xx mm, lcL fc fe tg C items [] ts0 m1 ≠ .exc cc nn xx mm := fun cc nn xx mm z => by
    rw [z] at ex
    cases ex
  generalize hwh : lcL fc fe tg C items [] ts0 m1 = whole at h1 ns nx
  obtain ⟨repD, leD⟩ := rep1.pnew (o := .lst []) hD
  refine ⟨fun i n H => n = items.length - i ∧ i ≤ items.length ∧ ∃ (w' : Wd) (m' : Mem) (vs : List V) (acc : List TV), w'.H = H ∧ Le0 w1 w' ∧ w'.pd = (D, .lst vs) :: w1.pd ∧ Rep g w' m' ∧ Rvs g w' acc vs ∧ lcL fc fe tg C (items.drop i) acc ts0 m' = whole,
    ⟨items.length, rfl, Nat.zero_le _, _, m1, [], [], rfl, leD, rfl, repD, .nil, hwh⟩, ?_⟩
  rintro i n H ⟨rfl, hi, w', m', vs, acc, rfl, le', hpd, rep', rv, ew⟩
  by_cases hlt : i < items.length
  · -- a turn
    rw [List.drop_eq_getElem_cons hlt] at ew
    unfold lcL at ew
    have hC : C m' := by
      refine Classical.byContradiction fun z => ?_
      unfold grd at ew
      rw [if_neg z] at ew
      exact ns ew.symm
    rw [grd_posI hC] at ew
    obtain ⟨go, _, yld⟩ := src w' m' le' rep' hC
    refine .inr ⟨go i hlt, fun H' => _, fun H' hN => ⟨items.length - (i + 1), by omega, hN⟩, fun x H' hy => ?_⟩
    obtain ⟨w2, rfl, le2, rep2, r2⟩ := yld i _ x H' (List.getElem?_eq_getElem hlt) hy
    cases es : setT tg items[i] ts0 with
    | none => rw [es] at ew; exact absurd ew.symm ns
    | some ts1 =>
      rw [es] at ew
      have ew : (fc ts1 m').bind (fun b m1 => if b = true then (fe ts1 m1).bind fun y m2 => grd (acc.length < SL) (lcL fc fe tg C (items.drop (i + 1)) (acc ++ [y]) ts0 m2) else lcL fc fe tg C (items.drop (i + 1)) acc ts0 m1) = whole := ew
      have rsw : RS g w2 ts0 (L2.wipe sg (tgS tg)) := by
        rw [← hts]
        exact ((rs1.mono0 le').mono0 le2.toLe0).wipe2 _
      refine cG_ok ts0 ts1 w2 _ _ x _ rsw r2 es fun sg2 rs2 tch => ⟨tch.wipe, ?_⟩
      refine cB_ok ts1 m' w2 sg2 _ rep2 rs2 ?_
      cases ec : fc ts1 m' with
      | stuck => rw [ec] at ew; exact absurd ew.symm ns
      | exc cc nn xx mm => rw [ec] at ew; exact absurd ew.symm (nx _ _ _ _)
      | ok b m3 =>
        rw [ec] at ew
        intro w3 le3 rep3
        have le13 : Le0 w' w3 := le2.toLe0.trans le3.toLe0
        cases b with
        | false =>
          have ew : (if false = true then (fe ts1 m3).bind fun y m2 => grd (acc.length < SL) (lcL fc fe tg C (items.drop (i + 1)) (acc ++ [y]) ts0 m2) else lcL fc fe tg C (items.drop (i + 1)) acc ts0 m3) = whole := ew
          rw [if_neg Bool.false_ne_true] at ew
          refine iteF ⟨rfl, hlt, w3, m3, vs, acc, rfl, le'.trans le13, ?_, rep3, Rvs.mono0 le13 rv, ew⟩
          rw [le3.pe, le2.pe, hpd]
        | true =>
          have ew : (if true = true then (fe ts1 m3).bind fun y m2 => grd (acc.length < SL) (lcL fc fe tg C (items.drop (i + 1)) (acc ++ [y]) ts0 m2) else lcL fc fe tg C (items.drop (i + 1)) acc ts0 m3) = whole := ew
          rw [if_pos rfl] at ew
          refine iteT ?_
          refine cE_ok ts1 m3 w3 sg2 _ rep3 (rs2.mono le3) ?_
          cases ee : fe ts1 m3 with
          | stuck => rw [ee] at ew; exact absurd ew.symm ns
          | exc cc nn xx mm => rw [ee] at ew; exact absurd ew.symm (nx _ _ _ _)
          | ok y m4 =>
            rw [ee] at ew
            have ew : grd (acc.length < SL) (lcL fc fe tg C (items.drop (i + 1)) (acc ++ [y]) ts0 m4) = whole := ew
            intro w4 le4 rep4 u ru
            have hl : acc.length < SL := by
              refine Classical.byContradiction fun z => ?_
              unfold grd at ew
              rw [if_neg z] at ew
              exact ns ew.symm
            rw [grd_pos hl] at ew
            have le14 : Le0 w' w4 := le13.trans le4.toLe0
            have hp4 : w4.pd = (D, .lst vs) :: w1.pd := by rw [le4.pe, le3.pe, le2.pe, hpd]
            obtain ⟨rep5, le5⟩ := rep4.pset (o' := .lst (vs ++ [u])) hp4 hrs
            refine ⟨vs, (rep4.pend (D, .lst vs) (by rw [hp4]; exact List.mem_cons_self)).1, by rw [← rv.length, SL_eq]; exact hl, ?_⟩
            refine ⟨rfl, hlt, _, m4, vs ++ [u], acc ++ [y], rfl, (le'.trans le14).trans le5, rfl, rep5, ?_, ew⟩
            exact (Rvs.mono0 (le14.trans le5) rv).append (.cons (Rv.mono0 le5 ru) .nil)
  · -- the end
    have ei : i = items.length := by omega
    subst ei
    rw [List.drop_length] at ew
    unfold lcL at ew
    have hC : C m' := by
      refine Classical.byContradiction fun z => ?_
      unfold grd at ew
      rw [if_neg z] at ew
      exact ns ew.symm
    rw [grd_posI hC] at ew
    subst ew
    obtain ⟨_, stop, _⟩ := src w' m' le' rep' hC
    refine .inl ⟨stop, ?_⟩
    have h2 : PostR g (fun c d H => W c d sg H) (PV g Q) w1 (mkL c acc m') := h1
    cases c with
    | false =>
      obtain ⟨rep6, le6, e6⟩ := rep'.pfz hpd hrs
      exact h2 _ ⟨le'.trans le6, rfl⟩ rep6 (.ref D) (.lst ⟨.inr rfl, e6⟩ (Rvs.mono0 le6 rv))
    | true =>
      obtain ⟨rep6, le6⟩ := rep'.pcl hpd hrs rv
      exact h2 _ ⟨le'.trans le6, rfl⟩ rep6 (.ref D) (.ref (by
        show (w'.rho ++ [D])[m'.length]? = some D
        rw [← rep'.len, List.getElem?_append_right (Nat.le_refl _), Nat.sub_self]
        rfl))
end
end T

/-! The layer T: the theorem for expressions. -/
namespace T
open PySem PySem.Spec PyProof.Rows L2
section
variable {g : Gt} {v : Ev} {k : Nat} {c : Ck} {X : Cx} {W : WX}
def tDead : TE := fun _ _ _ => False
theorem pe_dead {e : Expr} : PE X e tDead := ⟨fun _ _ _ _ _ _ h => h.elim⟩
/-- a call of a def -/
theorem te_call {s : Sem} {n : Nat} {t : TA} {fa : FA} (hst : ∀ us m, us.length ≠ n → s us m = .stuck) (a : TAok g W t fa) :
    TEok g W (tCallS (spT g n s) (L2.WE W) t) (fun ts m => (fa ts m).bind s) := by
  intro ts m w sg Q rep rs h
  refine a ts m w sg _ rep rs (h.bind.imp fun us m1 w1 l1 rep1 h1 vs rv => ⟨w1, m1, us, rfl, rep1, rv, ?_, h1⟩)
  by_cases hl : us.length = n
  · exact hl
  · rw [hst us m1 hl] at h1
    exact h1.elim
/-- a call of a built-in's method -/
theorem te_bm {T : String} {r : V → List V → Hp → VK → Prop} {F : TV → List TV → Mem → R TV} {to : TE} {t : TA} {fo : FE} {fa : FA} (o : OpM g r F) (a : TEok g W to fo) (b : TAok g W t fa) :
    TEok g W (tBM g.K T r to t) (fun ts m => (fo ts m).bind fun x m1 => grd (tyM T m1 x = true) ((fa ts m1).bind fun us m2 => F x us m2)) := by
  intro ts m w sg Q rep rs h
  refine a ts m w sg _ rep rs (h.bind.imp fun x m1 w1 l1 rep1 h1 u ru => ?_)
  obtain ⟨ht, h2⟩ := PostR.grd h1
  refine ⟨?_, b ts m1 w1 sg _ rep1 (rs.mono l1) (h2.bind.imp fun us m2 w2 l2 rep2 h3 vs rv => o m2 w2 x us u vs _ Q rep2 (ru.mono l2) rv h3)⟩
  unfold tyM at ht
  split at ht
  · cases ru
    exact beq_iff_eq.mp ht
  · rename_i hno
    simp only [Bool.and_eq_true] at ht
    obtain ⟨us, e⟩ := Option.isSome_iff_exists.mp ht.2
    obtain ⟨p, vs, rfl, hs, _⟩ := lofA_at rep1 ru e
    exact .inl ⟨beq_iff_eq.mp ht.1, vs, hs⟩
/-- a slice's part -/
def TOok (g : Gt) (W : WX) (to : TO) (f : TSt → Mem → R (Option Int)) : Prop := ∀ (ts : TSt) (m : Mem) (w : Wd) (sg : St) (Q : Option Int → Hp → Prop), Rep g w m → RS g w ts sg →
  PostR g (fun c d H => W c d sg H) (fun l _ w' => Q l w'.H) w (f ts m) → to sg w.H Q
theorem te_sl {r : V → Option Int → Option Int → Hp → VK → Prop} {F : TV → Option Int → Option Int → Mem → R TV} {ta : TE} {tl th : TO} {fa : FE} {fl fh : TSt → Mem → R (Option Int)} (o : Sl g r F) (a : TEok g W ta fa) (l : TOok g W tl fl) (h' : TOok g W th fh) :
    TEok g W (tSl r ta tl th) (fun ts m => (fa ts m).bind fun x m1 => (fl ts m1).bind fun l m2 => (fh ts m2).bind fun h m3 => F x l h m3) := by
  intro ts m w sg Q rep rs h
  refine a ts m w sg _ rep rs (h.bind.imp fun x m1 w1 l1 rep1 h1 u ru => ?_)
  refine l ts m1 w1 sg _ rep1 (rs.mono l1) (h1.bind.imp fun lo m2 w2 l2 rep2 h2 => ?_)
  refine h' ts m2 w2 sg _ rep2 (rs.mono (l1.trans l2)) (h2.bind.imp fun hi m3 w3 l3 rep3 h3 => ?_)
  exact o m3 w3 x u lo hi _ Q rep3 (ru.mono (l2.trans l3)) h3
theorem to_none : TOok g W tNoPart (fun _ m => .ok none m) := fun ts m w sg Q rep rs h => h w (Le.refl w) rep
theorem to_some {ta : TE} {fa : FE} (a : TEok g W ta fa) : TOok g W (tPart ta) (fun ts m => (fa ts m).bind fun x m1 => match x with
    | .int i => .ok (some i) m1
    | _ => .stuck) := by
  intro ts m w sg Q rep rs h
  refine a ts m w sg _ rep rs (h.bind.imp fun x m1 w1 l1 rep1 h1 u ru => ?_)
  cases ru with
  | int i => exact ⟨i, rfl, h1 w1 (Le.refl w1) rep1⟩
  | _ => exact h1.elim
def SO (X : Cx) (g : Gt) (W : WX) (e : Option Expr) (f : TSt → Mem → R (Option Int)) : Prop := ∃ to, PO X e to ∧ TOok g W to f
end
theorem pw_nilA {X : Cx} {pos : Pos} : PW X (.BoolOp .And [] pos) (fun _ H Q => Q true H) := ⟨fun _ _ _ _ H _ I h => isTrue_and_nil ⟨H, I, h⟩⟩
theorem pw_nilO {X : Cx} {pos : Pos} : PW X (.BoolOp .Or [] pos) (fun _ H Q => Q false H) := ⟨fun _ _ _ _ H _ I h => isTrue_or_nil ⟨H, I, h⟩⟩
theorem cmpO_ne : ∀ {k : Nat}, k < 6 → cmpO k ≠ .In ∧ cmpO k ≠ .NotIn
  | 0, _ => by decide
  | 1, _ => by decide
  | 2, _ => by decide
  | 3, _ => by decide
  | 4, _ => by decide
  | 5, _ => by decide
  | n + 6, h => absurd h (by omega)
theorem R.bind_assoc {α β γ : Type} (r : R α) (f : α → Mem → R β) (h : β → Mem → R γ) : (r.bind f).bind h = r.bind fun x m => (f x m).bind h := by cases r <;> rfl
theorem ev1 {β : Type} {v : Ev} {a : E} {ts : TSt} {m : Mem} {f : List TV → Mem → R β} : (evEs v [a] ts m).bind f = (evE v a ts m).bind fun x m1 => f [x] m1 := by
  show ((evE v a ts m).bind fun x m1 => _).bind f = _
  cases evE v a ts m <;> rfl
theorem Ok.blk {g : Gt} {v : Ev} {k : Nat} {c : Ck} {X : Cx} {W : WX} (O : Ok g v k c X W) (scope : Scope) (s : Shared) (H : Hp) (C : Addr) (cl : List (Str × Addr)) (fp : List Addr) :
    Ok g v k { c with sc := relS scope c.sc, blk := true, lp := false } (X.blk s H scope (compEnvC scope cl C X.env) fp) W0 :=
  ⟨O.N, by show relS scope X.env.scope = relS scope c.sc; rw [O.sc], O.nd, O.K, O.calm, O.hr, takes0, (fun z => by cases z), (fun z => by cases z), O.blt, O.gls, O.fns⟩
theorem own_eq (c : Ck) : ∀ tg, (tgOwn c tg).map (·.2) = tgS tg
  | .nm i => rfl
  | .tu is => by
    show (is.map _).map _ = is
    rw [List.map_map]
    exact List.map_id' is
theorem fold_ns {e : Expr} {env : Env} (h : noSet e = true) : ∀ x, foldedSetIterable e env x = pure x := by
  cases e <;> first | (intro _; rfl) | cases h
theorem okI_0 {c : Ck} {kk : Nat} {e : Expr} (h : okI c kk [] e = true) : False := by
  unfold okI at h
  cases h
theorem okI_1 {c : Ck} {kk : Nat} {a : E} {e : Expr} (h : okI c kk [a] e = true) : (kk < 3 ∧ noSet e = true ∧ okE c a e = true) ∨ ∃ x p y pos, e = .Call (.Name x p) [y] [] pos ∧ (kk = 3 ∧ x = "range" ∨ kk = 5 ∧ x = "reversed") ∧ glB c.sc x = true ∧ nostar y = true ∧ okE c a y = true := by
  unfold okI at h
  rcases (Bool.or_eq_true _ _).mp h with h | h
  · simp only [Bool.and_eq_true, decide_eq_true_eq] at h
    exact .inl ⟨h.1.1, h.1.2, h.2⟩
  · split at h
    · simp only [Bool.and_eq_true, Bool.or_eq_true, decide_eq_true_eq, beq_iff_eq] at h
      exact .inr ⟨_, _, _, _, rfl, h.1.1.1, h.1.1.2, h.1.2, h.2⟩
    · cases h
theorem okI_2 {c : Ck} {kk : Nat} {a b : E} {e : Expr} (h : okI c kk [a, b] e = true) : kk = 4 ∧ ∃ x p y z pos, e = .Call (.Name x p) [y, z] [] pos ∧ x = "range" ∧ glB c.sc x = true ∧ nostar y = true ∧ nostar z = true ∧ okE c a y = true ∧ okE c b z = true := by
  unfold okI at h
  split at h <;> first | contradiction | skip
  all_goals first | (rename_i q; cases q; done) | skip
  rename_i q
  simp only [Bool.and_eq_true, decide_eq_true_eq] at h
  obtain ⟨⟨⟨⟨⟨h1, h2⟩, h3⟩, h4⟩, h5⟩, h6⟩ := h
  cases q
  exact ⟨rfl, _, _, _, _, _, rfl, h1, h2, h3, h4, h5, h6⟩
theorem ev2 {β : Type} {v : Ev} {a b : E} {ts : TSt} {m : Mem} {f : List TV → Mem → R β} : (evEs v [a, b] ts m).bind f = (evE v a ts m).bind fun x m1 => (evE v b ts m1).bind fun y m2 => f [x, y] m2 := by
  show (((evE v a ts m).bind fun x m1 => ((evEs v [b] ts m1).bind fun us m2 => .ok (x :: us) m2))).bind _ = _
  rw [R.bind_assoc]
  congr 1
  funext x m1
  rw [ev1, R.bind_assoc]
  rfl
theorem okI_3 {c : Ck} {kk : Nat} {a b d : E} {r : List E} {e : Expr} (h : okI c kk (a :: b :: d :: r) e = true) : False := by
  unfold okI at h
  cases h
theorem okI_ns {c : Ck} {kk : Nat} {it : List E} {e : Expr} (h : okI c kk it e = true) : noSet e = true := by
  match it, h with
  | [], h => exact (okI_0 h).elim
  | [a], h =>
    rcases okI_1 h with h | ⟨_, _, _, _, rfl, _⟩
    · exact h.2.1
    · rfl
  | [a, b], h =>
    obtain ⟨_, _, _, _, _, _, rfl, _⟩ := okI_2 h
    rfl
  | _ :: _ :: _ :: _, h => exact (okI_3 h).elim
theorem okE_cmp {c : Ck} {kk : Nat} {a b : E} {e : Expr} (h : okE c (.cmp kk a b) e = true) : ∃ x o y p, e = .Compare x [o] [y] p ∧ kk < 8 ∧ o = cmpO kk ∧ behindInMarks o y = false ∧ okE c a x = true ∧ okE c b y = true := by
  unfold okE at h
  split at h <;> try contradiction
  rename_i q
  cases q
  simp only [Bool.and_eq_true, decide_eq_true_eq, Bool.not_eq_true'] at h
  obtain ⟨⟨⟨⟨h1, h2⟩, h5⟩, h3⟩, h4⟩ := h
  exact ⟨_, _, _, _, rfl, h1, h2, h5, h3, h4⟩
theorem okE_cmp2 {c : Ck} {k1 k2 : Nat} {a b d : E} {e : Expr} (h : okE c (.cmp2 k1 k2 a b d) e = true) : ∃ x o p y z pos, e = .Compare x [o, p] [y, z] pos ∧ k1 < 6 ∧ o = cmpO k1 ∧ k2 < 6 ∧ p = cmpO k2 ∧ okE c a x = true ∧ okE c b y = true ∧ okE c d z = true := by
  unfold okE at h
  split at h <;> try contradiction
  rename_i q
  cases q
  simp only [Bool.and_eq_true, decide_eq_true_eq] at h
  obtain ⟨⟨⟨⟨⟨⟨h1, h2⟩, h5⟩, h6⟩, h3⟩, h4⟩, h7⟩ := h
  exact ⟨_, _, _, _, _, _, rfl, h1, h2, h5, h6, h3, h4, h7⟩
theorem okE_isN {c : Ck} {n : Bool} {a : E} {e : Expr} (h : okE c (.isN n a) e = true) : ∃ x o j p p2, e = .Compare x [o] [.Constant .none j p] p2 ∧ o = (if n then CmpOp.Is else CmpOp.IsNot) ∧ okE c a x = true := by
  unfold okE at h
  split at h <;> try contradiction
  rename_i q
  cases q
  simp only [Bool.and_eq_true, decide_eq_true_eq] at h
  exact ⟨_, _, _, _, _, rfl, h.1, h.2⟩
theorem revN : ("reversed" : Str) ∈ bltAll ∧ ("range" : Str) ∈ bltAll := by decide +kernel
mutual
theorem se {g : Gt} {v : Ev} {k : Nat} : ∀ (a : E) (e : Expr) (c : Ck) (X : Cx) (W : WX), Ok g v k c X W → okE c a e = true → SE X g W e (evE v a)
  | .var i, e, c, X, W, O, h => by
    unfold okE at h
    split at h <;> try contradiction
    rename_i j x _ q
    cases q
    simp only [Bool.and_eq_true] at h
    have p := pn_ok h.2
    refine ⟨_, pe_var (O.nm h.1.1) (O.vis h.1.2) p.1 p.2, fun ts m w sg Q rep rs hq => ?_⟩
    have hq : PostR g _ (PV g Q) w (match ts[i]? with
      | some (some t) => .ok t m
      | _ => .stuck) := hq
    cases e1 : ts[i]? with
    | none => rw [e1] at hq; exact hq.elim
    | some o =>
      cases o with
      | none => rw [e1] at hq; exact hq.elim
      | some t =>
        rw [e1] at hq
        obtain ⟨u, e2, r⟩ := rs.at_ i t e1
        exact ⟨u, e2, hq.here rep r⟩
  | .non, e, c, X, W, O, h => by
    unfold okE at h
    split at h <;> try contradiction
    exact ⟨_, pe_non, fun ts m w sg Q rep rs hq => PostR.here hq rep .non⟩
  | .bl b, e, c, X, W, O, h => by
    unfold okE at h
    split at h <;> try contradiction
    rename_i q
    cases q
    cases beq_iff_eq.mp h
    exact ⟨_, pe_bl, fun ts m w sg Q rep rs hq => PostR.here hq rep (.bl _)⟩
  | .int b, e, c, X, W, O, h => by
    unfold okE at h
    split at h <;> try contradiction
    rename_i q
    cases q
    cases of_decide_eq_true h
    exact ⟨_, pe_int, fun ts m w sg Q rep rs hq => PostR.here hq rep (.int _)⟩
  | .str b, e, c, X, W, O, h => by
    unfold okE at h
    split at h <;> try contradiction
    rename_i q
    cases q
    simp only [Bool.and_eq_true, decide_eq_true_eq, List.all_eq_true] at h
    obtain ⟨⟨h1, h2⟩, h3⟩ := h
    subst h1
    exact ⟨_, pe_str, fun ts m w sg Q rep rs hq => PostR.here hq rep (.str _ ⟨h2, h3⟩)⟩
  | .gl i, e, c, X, W, O, h => by
    unfold okE at h
    split at h <;> try contradiction
    rename_i q
    cases q
    simp only [Bool.and_eq_true] at h
    have p := pn_ok h.2
    obtain ⟨u, vv, hm, r, hr⟩ := O.gls i _ (of_decide_eq_true h.1.1)
    exact ⟨_, pe_glob (O.gl h.1.2) hm r p.1, fun ts m w sg Q rep rs hq => PostR.here hq rep (hr w)⟩
  | .neg a, e, c, X, W, O, h => by
    unfold okE at h
    split at h <;> try contradiction
    rename_i q
    cases q
    obtain ⟨te, p, t⟩ := se a _ c X W O h
    exact ⟨_, pe_un un_neg p, te_un o_neg t⟩
  | .bin kk cc a b, e, c, X, W, O, h => by
    unfold okE at h
    split at h <;> try contradiction
    rename_i q
    cases q
    simp only [Bool.and_eq_true, decide_eq_true_eq] at h
    obtain ⟨⟨⟨h1, h2⟩, h3⟩, h4⟩ := h
    subst h2
    obtain ⟨r, o1, o2⟩ := bin_ok (X := X) O.K cc kk h1
    obtain ⟨ta, p, t⟩ := se a _ c X W O h3
    obtain ⟨tb, p', t'⟩ := se b _ c X W O h4
    exact ⟨_, pe_op o1 p p', te_op o2 t t'⟩
  | .cmp kk a b, e, c, X, W, O, h => by
    unfold okE at h
    split at h <;> try contradiction
    rename_i q
    cases q
    simp only [Bool.and_eq_true, decide_eq_true_eq, Bool.not_eq_true'] at h
    obtain ⟨⟨⟨⟨h1, h2⟩, h5⟩, h3⟩, h4⟩ := h
    subst h2
    obtain ⟨r, o1, o2⟩ := cmp_ok (X := X) O.K O.hr.units kk h1
    obtain ⟨ta, p, t⟩ := se a _ c X W O h3
    obtain ⟨tb, p', t'⟩ := se b _ c X W O h4
    exact ⟨_, pe_cmpR o1 p p' h5, te_op o2 t t'⟩
  | .cmp2 k1 k2 a b d, e, c, X, W, O, h => by
    unfold okE at h
    split at h <;> try contradiction
    rename_i q
    cases q
    simp only [Bool.and_eq_true, decide_eq_true_eq] at h
    obtain ⟨⟨⟨⟨⟨⟨h1, h2⟩, h5⟩, h6⟩, h3⟩, h4⟩, h7⟩ := h
    subst h2
    subst h6
    obtain ⟨r, o1, o2⟩ := cmp_ok (X := X) O.K O.hr.units k1 (by omega)
    obtain ⟨r', o1', o2'⟩ := cmp_ok (X := X) O.K O.hr.units k2 (by omega)
    obtain ⟨ta, p, t⟩ := se a _ c X W O h3
    obtain ⟨tb, p', t'⟩ := se b _ c X W O h4
    obtain ⟨tc, p2, t2⟩ := se d _ c X W O h7
    exact ⟨_, pe_chain o1 o1' p p' p2 (hm := show behindInMarks (cmpO k2) _ = false from nobehind _ (cmpO_ne h5).1 (cmpO_ne h5).2), te_chain o2 o2' t t' t2⟩
  | .isN n a, e, c, X, W, O, h => by
    unfold okE at h
    split at h <;> try contradiction
    rename_i q
    cases q
    simp only [Bool.and_eq_true, decide_eq_true_eq] at h
    obtain ⟨ta, p, t⟩ := se a _ c X W O h.2
    have h1 := h.1
    subst h1
    cases n with
    | true => exact ⟨_, pe_cmp (pc_isN p), te_isN t⟩
    | false => exact ⟨_, pe_cmp (pc_notN p), te_notN t⟩
  | .and_ xs, e, c, X, W, O, h => by
    unfold okE at h
    split at h <;> try contradiction
    rename_i q
    cases q
    exact seAnd xs _ c X W O h _
  | .or_ xs, e, c, X, W, O, h => by
    unfold okE at h
    split at h <;> try contradiction
    rename_i q
    cases q
    exact seOr xs _ c X W O h _
  | .not_ a, e, c, X, W, O, h => by
    unfold okE at h
    split at h <;> try contradiction
    rename_i q
    cases q
    obtain ⟨te, p, t⟩ := se a _ c X W O h
    exact ⟨_, pe_not p, te_not t⟩
  | .ite t a b, e, c, X, W, O, h => by
    unfold okE at h
    split at h <;> try contradiction
    rename_i q
    cases q
    simp only [Bool.and_eq_true] at h
    obtain ⟨tt, p0, t0⟩ := sb t _ c X W O h.1.1
    obtain ⟨ta, p, t⟩ := se a _ c X W O h.1.2
    obtain ⟨tb, p', t'⟩ := se b _ c X W O h.2
    exact ⟨_, pe_ifExp p0 p p', te_if t0 t t'⟩
  | .tup xs, e, c, X, W, O, h => by
    unfold okE at h
    split at h <;> try contradiction
    rename_i q
    cases q
    obtain ⟨t, p, k1⟩ := ses xs _ c X W O h
    exact ⟨_, pe_tup p, te_tup k1⟩
  | .lst b xs, e, c, X, W, O, h => by
    unfold okE at h
    split at h <;> try contradiction
    rename_i q
    cases q
    obtain ⟨t, p, k1⟩ := ses xs _ c X W O h
    exact ⟨_, pe_lst p, te_lst k1⟩
  | .idx a i, e, c, X, W, O, h => by
    unfold okE at h
    split at h <;> try contradiction
    rename_i q
    cases q
    simp only [Bool.and_eq_true, Bool.not_eq_true'] at h
    obtain ⟨ta, p, t⟩ := se a _ c X W O h.1.2
    obtain ⟨tb, p', t'⟩ := se i _ c X W O h.2
    exact ⟨_, pe_ix ix_seq p p' (ix_ns h.1.1), O.K ▸ te_op o_idx t t'⟩
  | .slc b a lo hi, e, c, X, W, O, h => by
    unfold okE at h
    split at h <;> try contradiction
    rename_i q
    cases q
    simp only [Bool.and_eq_true] at h
    obtain ⟨ta, p, t⟩ := se a _ c X W O h.1.1
    obtain ⟨tl, p1, t1⟩ := so lo _ c X W O h.1.2
    obtain ⟨th, p2, t2⟩ := so hi _ c X W O h.2
    exact ⟨_, pe_slice or_slc p p1 p2, O.K ▸ te_sl o_slc t t1 t2⟩
  | .lc cc tg kk it cnd a, e, c, X, W, O, h => by
    unfold okE at h
    split at h <;> try contradiction
    rename_i q
    cases q
    rename_i elt t iter ifs scope pos
    simp only [Bool.and_eq_true, decide_eq_true_eq] at h
    obtain ⟨⟨⟨⟨⟨h1, h2⟩, h3⟩, h4⟩, h5⟩, h6⟩ := h
    obtain ⟨wi, p, hi⟩ := si it kk t iter c X W O h1
    have bk : BlkOk X.N X.env.scope scope (tgOwn c tg) := by
      rw [O.N, O.sc]
      exact blkOk_by h2
    have pt : ∀ (s : Shared) (H : Hp) (C : Addr) (cl : List (Str × Addr)) (fp : List Addr), SPts (X.blk s H scope (compEnvC scope cl C X.env) fp) g W0 ifs (evBs v cnd) := fun s H C cl fp => by
      match cnd, ifs, h4, h5 with
      | [], [], _, _ => exact ⟨_, pts_nil, fun ts m w sg Q rep rs hq => hq w (Le.refl w) rep⟩
      | [d], [i], h4, _ =>
        simp only [okBs, Bool.and_eq_true] at h4
        obtain ⟨tt, p, t⟩ := sb d i _ _ _ (O.blk scope s H C cl fp) h4.1
        exact ⟨_, pts_one p, t⟩
      | [], _ :: _, h4, _ => simp [okBs] at h4
      | _ :: _, [], h4, _ => simp [okBs] at h4
      | [_], _ :: _ :: _, h4, _ => simp [okBs] at h4
      | _ :: _ :: _, _, _, h5 => simp at h5
    refine ⟨_, pe_lc O.calm O.nd p bk (fun s H C cl fp => (sg_ok (O.blk scope s H C cl fp) tg t h3).c) (fun s H C cl fp => (pt s H C cl fp).c) (fun s H C cl fp => (se a elt _ _ _ (O.blk scope s H C cl fp) h6).c) (fold_ns (okI_ns h1)), ?_⟩
    rw [own_eq]
    exact te_lc hi
  | .call f xs, e, c, X, W, O, h => by
    unfold okE at h
    split at h <;> try contradiction
    rename_i q
    cases q
    simp only [Bool.and_eq_true] at h
    obtain ⟨⟨⟨h1, h2⟩, h3⟩, h4⟩ := h
    obtain ⟨t, p, k1⟩ := ses xs _ c X W O h4
    have pn := pn_ok h3
    have ns := okEs_ns h4
    simp only [List.all_cons, Bool.and_eq_true] at ns
    cases hs : v.fs f with
    | none =>
      refine ⟨tDead, pe_dead, fun ts m w sg Q rep rs hq => ?_⟩
      unfold evE at hq
      rw [hs] at hq
      exact hq.elim
    | some s =>
      obtain ⟨x, fa, fd, ps, e1, e2, e3, e4, e5, F⟩ := O.fns f s hs
      have ex := (of_decide_eq_true h1).symm.trans e1
      cases ex
      have ee : evE v (.call f xs) = fun ts m => (evEs v xs ts m).bind s := by
        show (match v.fs f with
          | some s => fun ts m => (evEs v xs ts m).bind s
          | none => fun _ _ => .stuck) = _
        rw [hs]
      rw [ee]
      exact ⟨_, pe_callS F O.hr (O.gl h2) e2 e3 e4 (fun sg => passAt O.tk sg) p pn.1 (starEach_ns ns.1) (plain_ns ns.2), te_call e5 k1⟩
  | .blt i b xs, e, c, X, W, O, h => by
    unfold okE at h
    split at h <;> try contradiction
    rename_i q
    cases q
    simp only [Bool.and_eq_true, decide_eq_true_eq] at h
    obtain ⟨⟨⟨h1, h2⟩, h3⟩, h4⟩ := h
    subst h2
    obtain ⟨t, p, k1⟩ := ses xs _ c X W O h4
    have ns := okEs_ns h4
    simp only [List.all_cons, Bool.and_eq_true] at ns
    have hm := O.blt _ (bltN_all i h1)
    have hn := bltNe _ (bltN_all i h1)
    rcases blt_ok (X := X) O.K O.calm b i h1 with ⟨id, r, e1, e2, e3⟩ | ⟨T, r, e1, e2, e3⟩
    · exact ⟨_, pe_callB e2 (O.gl h3) hm e1 p hn.1 hn.2 (starEach_ns ns.1) (plain_ns ns.2), te_cb e3 k1⟩
    · exact ⟨_, pe_callTy e2 (O.gl h3) hm e1 p hn.1 hn.2 (starEach_ns ns.1) (plain_ns ns.2), te_cb e3 k1⟩
  | .isi a i, e, c, X, W, O, h => by
    unfold okE at h
    split at h <;> try contradiction
    rename_i q
    cases q
    simp only [Bool.and_eq_true, decide_eq_true_eq] at h
    obtain ⟨⟨⟨⟨⟨⟨h1, h2⟩, h3⟩, h4⟩, h5⟩, h6⟩, h7⟩ := h
    subst h1
    subst h6
    obtain ⟨te, p, t⟩ := se a _ c X W O h4
    obtain ⟨q1, q2⟩ := isi_ok i h5
    have hn := bltNe _ q1
    refine ⟨_, pe_callB (id := "isinstance") call_isi (O.gl h2) (O.blt _ (by decide +kernel)) (by decide +kernel) (pa_cons p (pa_cons (pe_bltn (v := .ty (isiT i)) (O.gl h7) (O.blt _ q1) q2 rfl hn.1 hn.2) pa_nil (starEach_ns rfl)) (starEach_ns h3)) (by decide +kernel) (by decide +kernel) (starEach_ns h3) (plain_ns rfl), ?_⟩
    intro ts m w sg Q rep rs hq
    refine t ts m w sg _ rep rs (hq.bind.imp fun x m1 w1 l1 rep1 h8 u ru => ?_)
    show rIsi X.K [u, .ty (isiT i)] w1.H Q
    rw [O.K]
    exact o_isi m1 w1 x u _ Q rep1 ru h8
  | .mth i b o xs, e, c, X, W, O, h => by
    unfold okE at h
    split at h <;> try contradiction
    rename_i q
    cases q
    simp only [Bool.and_eq_true, decide_eq_true_eq] at h
    obtain ⟨⟨⟨⟨⟨⟨h1, h2⟩, h3⟩, h4⟩, h5⟩, h6⟩, h7⟩ := h
    subst h2
    obtain ⟨to, p0, t0⟩ := se o _ c X W O h6
    obtain ⟨t, p, k1⟩ := ses xs _ c X W O h7
    have ns := okEs_ns h7
    have ns' := ns
    simp only [List.all_cons, Bool.and_eq_true] at ns
    obtain ⟨id, r, g1, g2, g3, g4, g5⟩ := mth_ok (X := X) O.K b i h1
    refine ⟨_, pe_bm g1 g2 g3 g4 p0 p (base_ns h3) ?_ h4 (starEach_ns ns.1) (plain_ns ns.2), O.K ▸ te_bm g5 t0 k1⟩
    rw [few_ns ns', Bool.true_and]
    show (true && _) = true
    rw [Bool.true_and]
    exact decide_eq_true h5
theorem si {g : Gt} {v : Ev} {k : Nat} : ∀ (it : List E) (kk : Nat) (tg e : Expr) (c : Ck) (X : Cx) (W : WX), Ok g v k c X W → okI c kk it e = true → SI X g W tg e (mkI kk (evEs v it))
  | [], kk, tg, e, c, X, W, O, h => (okI_0 h).elim
  | [a], kk, tg, e, c, X, W, O, h => by
    rcases okI_1 h with ⟨hk, _, h⟩ | ⟨x, p1, y, pos, rfl, h1, h2, h3, h4⟩
    · obtain ⟨te, p, t⟩ := se a e c X W O h
      match kk, hk with
      | 0, _ =>
        refine ⟨_, pi_list p, fun ts m w sg R rep rs hq => ?_⟩
        unfold mkI at hq
        rw [ev1] at hq
        refine t ts m w sg _ rep rs (hq.bind.imp fun x m1 w1 l1 rep1 h1 u ru => ?_)
        obtain ⟨xs, e1, h4⟩ := mkI_post h1 rep1
        obtain ⟨ad, rfl, ex, hh⟩ := lst_src O.K rep1 ru e1
        exact ⟨ad, rfl, ex, h4 _ (src_list O.K hh)⟩
      | 1, _ =>
        refine ⟨_, pi_tup p, fun ts m w sg R rep rs hq => ?_⟩
        unfold mkI at hq
        rw [ev1] at hq
        refine t ts m w sg _ rep rs (hq.bind.imp fun x m1 w1 l1 rep1 h1 u ru => ?_)
        obtain ⟨xs, e1, h4⟩ := mkI_post h1 rep1
        cases ru <;> try (cases e1; done)
        rename_i hh1 hh2
        cases e1
        exact ⟨_, rfl, ⟨_, O.K ▸ hh1.sq⟩, h4 _ (src_tup O.K hh1 hh2)⟩
      | 2, _ =>
        refine ⟨_, pi_str p, fun ts m w sg R rep rs hq => ?_⟩
        unfold mkI at hq
        rw [ev1] at hq
        refine t ts m w sg _ rep rs (hq.bind.imp fun x m1 w1 l1 rep1 h1 u ru => ?_)
        obtain ⟨xs, e1, h4⟩ := mkI_post h1 rep1
        cases ru <;> try (cases e1; done)
        rename_i s hs
        cases e1
        exact ⟨_, rfl, h4 _ (src_str hs)⟩
      | n + 3, hk => exact absurd hk (by omega)
    · obtain ⟨te, p, t⟩ := se a y c X W O h4
      have pa := pa_cons p pa_nil (starEach_ns h3)
      rcases h1 with ⟨rfl, rfl⟩ | ⟨rfl, rfl⟩
      · refine ⟨_, pi_range1 (O.gl h2) (O.blt _ revN.2) pa (starEach_ns h3), fun ts m w sg R rep rs hq => ?_⟩
        unfold mkI at hq
        rw [ev1] at hq
        refine t ts m w sg _ rep rs (hq.bind.imp fun x m1 w1 l1 rep1 h1 u ru => ?_)
        obtain ⟨xs, e1, h5⟩ := mkI_post h1 rep1
        cases ru <;> try (cases e1; done)
        rename_i n
        unfold itT oif at e1
        simp only at e1
        split at e1
        · rename_i hb
          cases e1
          refine ⟨n, rfl, hb.1, hb.2, h5 _ ?_⟩
          have := src_rng (g := g) (lo := 0) (n := n.toNat) (C := itC 3 [TV.int n] m1) (w := w1)
          simpa only [Int.zero_add] using this
        · cases e1
      · refine ⟨_, pi_reversed (O.gl h2) (O.blt _ revN.1) pa (starEach_ns h3), fun ts m w sg R rep rs hq => ?_⟩
        unfold mkI at hq
        rw [ev1] at hq
        refine t ts m w sg _ rep rs (hq.bind.imp fun x m1 w1 l1 rep1 h1 u ru => ?_)
        obtain ⟨xs, e1, h5⟩ := mkI_post h1 rep1
        obtain ⟨ys, e2, e3⟩ := Option.map_eq_some_iff.mp (show (lofA m1 x).map List.reverse = some xs from e1)
        obtain ⟨ad, rfl, ex, hh⟩ := lst_src O.K rep1 ru e2
        subst e3
        obtain ⟨p2, vs2, q2, q3, q4⟩ := lofA_at rep1 ru e2
        cases q2
        refine ⟨ad, vs2, rfl, O.K ▸ q3, h5 _ (src_rev O.K ?_ fun w' m' l r hc => hh w' m' l r ?_)⟩
        · rw [q4.length]
        · cases x <;> exact hc
  | [a, b], kk, tg, e, c, X, W, O, h => by
    obtain ⟨rfl, x, p1, y, z, pos, rfl, rfl, h2, h3, h3', h4, h4'⟩ := okI_2 h
    obtain ⟨te, p, t⟩ := se a y c X W O h4
    obtain ⟨te', p', t'⟩ := se b z c X W O h4'
    have pa := pa_cons p (pa_cons p' pa_nil (starEach_ns h3')) (starEach_ns h3)
    refine ⟨_, pi_range2 (O.gl h2) (O.blt _ revN.2) pa (by rw [starEach_ns h3, starEach_ns h3']; rfl) (starEach_ns h3'), fun ts m w sg R rep rs hq => ?_⟩
    unfold mkI at hq
    rw [ev2] at hq
    refine t ts m w sg _ rep rs (hq.bind.imp fun x m1 w1 l1 rep1 h1 u ru => ?_)
    refine t' ts m1 w1 sg _ rep1 (rs.mono l1) (h1.bind.imp fun y m2 w2 l2 rep2 h2 u' ru' => ?_)
    obtain ⟨xs, e1, h5⟩ := mkI_post h2 rep2
    have ru := ru.mono l2
    cases ru <;> try (cases e1; done)
    rename_i i
    cases ru' <;> try (cases e1; done)
    rename_i j
    unfold itT oif at e1
    simp only at e1
    split at e1
    · rename_i hb
      cases e1
      exact ⟨i, j, rfl, ⟨hb.1.1, hb.1.2, hb.2.1, hb.2.2⟩, h5 _ src_rng⟩
    · cases e1
  | _ :: _ :: _ :: _, kk, tg, e, c, X, W, O, h => (okI_3 h).elim
theorem ses {g : Gt} {v : Ev} {k : Nat} : ∀ (a : List E) (e : List Expr) (c : Ck) (X : Cx) (W : WX), Ok g v k c X W → okEs c a e = true → SA X g W e (evEs v a)
  | [], [], c, X, W, O, h => ⟨_, pa_nil, ta_nil⟩
  | [], _ :: _, c, X, W, O, h => by simp [okEs] at h
  | _ :: _, [], c, X, W, O, h => by simp [okEs] at h
  | a :: as, e :: es, c, X, W, O, h => by
    simp only [okEs, Bool.and_eq_true] at h
    obtain ⟨te, p, t⟩ := se a _ c X W O h.1.2
    obtain ⟨t2, p2, k2⟩ := ses as _ c X W O h.2
    exact ⟨_, pa_cons p p2 (starEach_ns h.1.1), ta_cons t k2⟩
theorem so {g : Gt} {v : Ev} {k : Nat} : ∀ (a : List E) (e : Option Expr) (c : Ck) (X : Cx) (W : WX), Ok g v k c X W → okO c a e = true → SO X g W e (evO v a)
  | [], none, c, X, W, O, h => ⟨_, po_none, to_none⟩
  | [], some _, c, X, W, O, h => by simp [okO] at h
  | [a], some e, c, X, W, O, h => by
    obtain ⟨te, p, t⟩ := se a e c X W O (by simpa [okO] using h)
    exact ⟨_, po_some p, to_some t⟩
  | [_], none, c, X, W, O, h => by simp [okO] at h
  | _ :: _ :: _, none, c, X, W, O, h => by simp [okO] at h
  | _ :: _ :: _, some _, c, X, W, O, h => by simp [okO] at h
theorem seAnd {g : Gt} {v : Ev} {k : Nat} : ∀ (a : List E) (e : List Expr) (c : Ck) (X : Cx) (W : WX), Ok g v k c X W → okEs c a e = true → ∀ pos, SE X g W (.BoolOp .And e pos) (evAnd v a)
  | [], e, c, X, W, O, h, pos => by
    refine ⟨tDead, pe_dead, fun ts m w sg Q rep rs hq => ?_⟩
    exact hq.elim
  | [a], [], c, X, W, O, h, pos => by simp [okEs] at h
  | [a], [e], c, X, W, O, h, pos => by
    simp only [okEs, Bool.and_eq_true] at h
    obtain ⟨te, p, t⟩ := se a _ c X W O h.1.2
    exact ⟨_, pe_one p, t⟩
  | [a], _ :: _ :: _, c, X, W, O, h, pos => by simp [okEs] at h
  | a :: b :: r, [], c, X, W, O, h, pos => by simp [okEs] at h
  | a :: b :: r, [_], c, X, W, O, h, pos => by simp [okEs] at h
  | a :: b :: r, e :: e' :: es, c, X, W, O, h, pos => by
    simp only [okEs, Bool.and_eq_true] at h
    obtain ⟨te, p, t⟩ := se a _ c X W O h.1.2
    obtain ⟨te', p', t'⟩ := seAnd (b :: r) (e' :: es) c X W O (by simp only [okEs, Bool.and_eq_true]; exact h.2) pos
    exact ⟨_, pe_and p p', te_and t t'⟩
theorem seOr {g : Gt} {v : Ev} {k : Nat} : ∀ (a : List E) (e : List Expr) (c : Ck) (X : Cx) (W : WX), Ok g v k c X W → okEs c a e = true → ∀ pos, SE X g W (.BoolOp .Or e pos) (evOr v a)
  | [], e, c, X, W, O, h, pos => by
    refine ⟨tDead, pe_dead, fun ts m w sg Q rep rs hq => ?_⟩
    exact hq.elim
  | [a], [], c, X, W, O, h, pos => by simp [okEs] at h
  | [a], [e], c, X, W, O, h, pos => by
    simp only [okEs, Bool.and_eq_true] at h
    obtain ⟨te, p, t⟩ := se a _ c X W O h.1.2
    exact ⟨_, pe_one p, t⟩
  | [a], _ :: _ :: _, c, X, W, O, h, pos => by simp [okEs] at h
  | a :: b :: r, [], c, X, W, O, h, pos => by simp [okEs] at h
  | a :: b :: r, [_], c, X, W, O, h, pos => by simp [okEs] at h
  | a :: b :: r, e :: e' :: es, c, X, W, O, h, pos => by
    simp only [okEs, Bool.and_eq_true] at h
    obtain ⟨te, p, t⟩ := se a _ c X W O h.1.2
    obtain ⟨te', p', t'⟩ := seOr (b :: r) (e' :: es) c X W O (by simp only [okEs, Bool.and_eq_true]; exact h.2) pos
    exact ⟨_, pe_or p p', te_or t t'⟩
theorem sb {g : Gt} {v : Ev} {k : Nat} : ∀ (a : B) (e : Expr) (c : Ck) (X : Cx) (W : WX), Ok g v k c X W → okB c a e = true → ST X g W e (evB v a)
  | .e a, e, c, X, W, O, h => by
    have h' : (plainT e && okE c a e) = true := by simpa [okB] using h
    simp only [Bool.and_eq_true] at h'
    obtain ⟨te, p, t⟩ := se a _ c X W O h'.2
    refine ⟨_, pt_truth p (test_ns h'.1), fun ts m w sg Q rep rs hq => ?_⟩
    refine t ts m w sg _ rep rs (hq.bind.imp fun x m1 w1 l1 rep1 h1 u ru => ?_)
    show ∃ k, TruV X.K u w1.H k ∧ Q k w1.H
    rw [O.K]
    exact tru_T rep1 ru h1
  | .c a, e, c, X, W, O, h => by
    have h' : (!plainT e && isCm e && okE c a e) = true := by simpa [okB] using h
    simp only [Bool.and_eq_true] at h'
    obtain ⟨⟨_, hc⟩, h⟩ := h'
    have fin : ∀ {te : TE}, TEok g W te (evE v a) → TTok g W (tTest te) (evB v (.c a)) := fun {te} t ts m w sg Q rep rs hq => by
      refine t ts m w sg _ rep rs (PostR.imp (PostR.bind hq) fun x m1 w1 l1 rep1 h1 u ru => ?_)
      cases ru <;> first | exact ⟨_, rfl, h1 w1 (Le.refl w1) rep1⟩ | exact h1.elim
    cases a with
    | cmp kk a b =>
      obtain ⟨x, o, y, p, rfl, h1, rfl, h5, h3, h4⟩ := okE_cmp h
      obtain ⟨r, o1, o2⟩ := cmp_ok (X := X) O.K O.hr.units kk h1
      obtain ⟨ta, p, t⟩ := se a _ c X W O h3
      obtain ⟨tb, p', t'⟩ := se b _ c X W O h4
      exact ⟨_, pt_cmpR o1 p p' h5, fin (te_op o2 t t')⟩
    | cmp2 k1 k2 a b d =>
      obtain ⟨x, o, pp, y, z, pos, rfl, h1, rfl, h5, rfl, h3, h4, h7⟩ := okE_cmp2 h
      obtain ⟨r, o1, o2⟩ := cmp_ok (X := X) O.K O.hr.units k1 (by omega)
      obtain ⟨r', o1', o2'⟩ := cmp_ok (X := X) O.K O.hr.units k2 (by omega)
      obtain ⟨ta, p, t⟩ := se a _ c X W O h3
      obtain ⟨tb, p', t'⟩ := se b _ c X W O h4
      obtain ⟨tc, p2, t2⟩ := se d _ c X W O h7
      exact ⟨_, pt_chain o1 o1' p p' p2 (hm := show behindInMarks (cmpO k2) _ = false from nobehind _ (cmpO_ne h5).1 (cmpO_ne h5).2), fin (te_chain o2 o2' t t' t2)⟩
    | isN n a =>
      obtain ⟨x, o, j, p1, p2, rfl, h1, h2⟩ := okE_isN h
      obtain ⟨ta, p, t⟩ := se a _ c X W O h2
      subst h1
      cases n with
      | true => exact ⟨_, pt_cmp (pc_isN p), fin (te_isN t)⟩
      | false => exact ⟨_, pt_cmp (pc_notN p), fin (te_notN t)⟩
    | _ =>
      unfold okE at h
      cases e <;> first | (cases hc; done) | (cases h; done)
  | .not b, e, c, X, W, O, h => by
    unfold okB at h
    split at h <;> try contradiction
    rename_i q
    cases q
    obtain ⟨tt, p, t⟩ := sb b _ c X W O h
    refine ⟨_, pt_not p, fun ts m w sg Q rep rs hq => ?_⟩
    exact t ts m w sg _ rep rs (hq.bind.imp fun x m1 w1 l1 rep1 h1 => h1 w1 (Le.refl w1) rep1)
  | .and_ bs, e, c, X, W, O, h => by
    unfold okB at h
    split at h <;> try contradiction
    rename_i q
    cases q
    obtain ⟨tt, p, t⟩ := sbAll bs _ c X W O h _
    exact ⟨tt, p.pt, t⟩
  | .or_ bs, e, c, X, W, O, h => by
    unfold okB at h
    split at h <;> try contradiction
    rename_i q
    cases q
    obtain ⟨tt, p, t⟩ := sbAny bs _ c X W O h _
    exact ⟨tt, p.pt, t⟩
theorem sbAll {g : Gt} {v : Ev} {k : Nat} : ∀ (a : List B) (e : List Expr) (c : Ck) (X : Cx) (W : WX), Ok g v k c X W → okBs c a e = true → ∀ pos, ∃ tt, PW X (.BoolOp .And e pos) tt ∧ TTok g W tt (evAll v a)
  | [], [], c, X, W, O, h, pos => ⟨_, pw_nilA, fun ts m w sg Q rep rs hq => hq w (Le.refl w) rep⟩
  | [], _ :: _, c, X, W, O, h, pos => by simp [okBs] at h
  | [a], [], c, X, W, O, h, pos => by simp [okBs] at h
  | [a], [e], c, X, W, O, h, pos => by
    simp only [okBs, Bool.and_eq_true] at h
    obtain ⟨te, p, t⟩ := sb a _ c X W O h.1
    exact ⟨_, pw_and1 p, t⟩
  | [a], _ :: _ :: _, c, X, W, O, h, pos => by simp [okBs] at h
  | a :: b :: r, [], c, X, W, O, h, pos => by simp [okBs] at h
  | a :: b :: r, [_], c, X, W, O, h, pos => by simp [okBs] at h
  | a :: b :: r, e :: e' :: es, c, X, W, O, h, pos => by
    simp only [okBs, Bool.and_eq_true] at h
    obtain ⟨te, p, t⟩ := sb a _ c X W O h.1
    obtain ⟨te', p', t'⟩ := sbAll (b :: r) (e' :: es) c X W O (by simp only [okBs, Bool.and_eq_true]; exact h.2) pos
    refine ⟨_, pw_and p p', fun ts m w sg Q rep rs hq => ?_⟩
    refine t ts m w sg _ rep rs (hq.bind.imp fun x m1 w1 l1 rep1 h1 => ?_)
    cases x with
    | true => exact iteT (t' ts m1 w1 sg Q rep1 (rs.mono l1) (by rw [if_pos rfl] at h1; exact h1))
    | false => exact iteF (by rw [if_neg Bool.false_ne_true] at h1; exact h1 w1 (Le.refl w1) rep1)
theorem sbAny {g : Gt} {v : Ev} {k : Nat} : ∀ (a : List B) (e : List Expr) (c : Ck) (X : Cx) (W : WX), Ok g v k c X W → okBs c a e = true → ∀ pos, ∃ tt, PW X (.BoolOp .Or e pos) tt ∧ TTok g W tt (evAny v a)
  | [], [], c, X, W, O, h, pos => ⟨_, pw_nilO, fun ts m w sg Q rep rs hq => hq w (Le.refl w) rep⟩
  | [], _ :: _, c, X, W, O, h, pos => by simp [okBs] at h
  | [a], [], c, X, W, O, h, pos => by simp [okBs] at h
  | [a], [e], c, X, W, O, h, pos => by
    simp only [okBs, Bool.and_eq_true] at h
    obtain ⟨te, p, t⟩ := sb a _ c X W O h.1
    exact ⟨_, pw_or1 p, t⟩
  | [a], _ :: _ :: _, c, X, W, O, h, pos => by simp [okBs] at h
  | a :: b :: r, [], c, X, W, O, h, pos => by simp [okBs] at h
  | a :: b :: r, [_], c, X, W, O, h, pos => by simp [okBs] at h
  | a :: b :: r, e :: e' :: es, c, X, W, O, h, pos => by
    simp only [okBs, Bool.and_eq_true] at h
    obtain ⟨te, p, t⟩ := sb a _ c X W O h.1
    obtain ⟨te', p', t'⟩ := sbAny (b :: r) (e' :: es) c X W O (by simp only [okBs, Bool.and_eq_true]; exact h.2) pos
    refine ⟨_, pw_or p p', fun ts m w sg Q rep rs hq => ?_⟩
    refine t ts m w sg _ rep rs (hq.bind.imp fun x m1 w1 l1 rep1 h1 => ?_)
    cases x with
    | true => exact iteT (by rw [if_pos rfl] at h1; exact h1 w1 (Le.refl w1) rep1)
    | false => exact iteF (t' ts m1 w1 sg Q rep1 (rs.mono l1) (by rw [if_neg Bool.false_ne_true] at h1; exact h1))
end
end T

/-! The layer T: the look at statements, and that what it passes means what it says. -/
namespace T
open PySem PySem.Spec PyProof.Rows L2

/-! ### what is wanted behind statements -/
def PostS (g : Gt) (W : WX) (D : Ends) (w : Wd) : Rs → Prop
  | .nx ts m => ∀ w' sg', Le w w' → Rep g w' m → RS g w' ts sg' → D.nx sg' w'.H
  | .bk ts m => ∀ w' sg', Le w w' → Rep g w' m → RS g w' ts sg' → D.bk sg' w'.H
  | .ct ts m => ∀ w' sg', Le w w' → Rep g w' m → RS g w' ts sg' → D.ct sg' w'.H
  | .rt t m => ∀ w', Le w w' → Rep g w' m → ∀ u, Rv g w' t u → D.rt u w'.H
  | .ex c ns xs ts m => ∀ w' sg' cls d, Le w w' → Rep g w' m → RS g w' ts sg' → RX g w' c ns xs cls d → W cls d sg' w'.H
  | .stuck => False
def TSok (g : Gt) (W : WX) (t : TS) (f : FS) : Prop := ∀ (ts : TSt) (m : Mem) (w : Wd) (sg : St) (D : Ends), Rep g w m → RS g w ts sg → PostS g W D w (f ts m) → t D sg w.H
def SS (X : Cx) (g : Gt) (W : WX) (st : Stmt) (f : FS) : Prop := ∃ t, PS X st t ∧ TSok g W t f
def SSs (X : Cx) (g : Gt) (W : WX) (st : List Stmt) (f : FS) : Prop := ∃ t, PSs X st t ∧ TSok g W t f
section
variable {g : Gt} {W : WX} {D : Ends} {w : Wd}
theorem PostS.mono {r : Rs} {w' : Wd} (h : PostS g W D w r) (l : Le w w') : PostS g W D w' r := by
  cases r with
  | nx ts m => exact fun w2 sg l2 => h w2 sg (l.trans l2)
  | bk ts m => exact fun w2 sg l2 => h w2 sg (l.trans l2)
  | ct ts m => exact fun w2 sg l2 => h w2 sg (l.trans l2)
  | rt t m => exact fun w2 l2 => h w2 (l.trans l2)
  | ex c ns xs ts m => exact fun w2 sg cls d l2 => h w2 sg cls d (l.trans l2)
  | stuck => exact h
theorem PostS.toS {α : Type} {r : R α} {ts : TSt} {sg : St} {f : α → Mem → Rs} (h : PostS g W D w (r.toS ts f)) (rs : RS g w ts sg) : PostR g (fun c d H => W c d sg H) (fun a m w' => PostS g W D w' (f a m)) w r := by
  cases r with
  | ok a m =>
    intro w2 l2 _
    have h1 : PostS g W D w (f a m) := h
    exact h1.mono l2
  | exc c ns xs m => exact fun w2 cls d l2 rep rx => h w2 sg cls d l2 rep (rs.mono l2) rx
  | stuck => exact h
theorem ts_seq {t u : TS} {f k : FS} (a : TSok g W t f) (b : TSok g W u k) : TSok g W (tSeq t u) (fun ts m => (f ts m).seq k) := by
  intro ts m w sg D rep rs h
  dsimp only at h
  refine a ts m w sg _ rep rs ?_
  cases e : f ts m with
  | nx ts1 m1 =>
    rw [e] at h
    intro w2 sg2 l2 rep2 rs2
    have h1 : PostS g W D w (k ts1 m1) := h
    exact b ts1 m1 w2 sg2 D rep2 rs2 (h1.mono l2)
  | _ => rw [e] at h; exact h
theorem ts_nil : TSok g W tNext .nx := fun ts m w sg D rep rs h => h w sg (Le.refl w) rep rs
theorem ts_bk : TSok g W tBreak .bk := fun ts m w sg D rep rs h => h w sg (Le.refl w) rep rs
theorem ts_ct : TSok g W tCont .ct := fun ts m w sg D rep rs h => h w sg (Le.refl w) rep rs
theorem ts_name {te : TE} {fe : FE} (i : Nat) (a : TEok g W te fe) : TSok g W (tAsg te (gName i)) (fun ts m => (fe ts m).toS ts fun t m1 => .nx (ts.set i (some t)) m1) := by
  intro ts m w sg D rep rs h
  dsimp only at h
  refine a ts m w sg _ rep rs ((h.toS rs).imp fun x m1 w1 l1 rep1 h1 u ru => ?_)
  exact h1 w1 _ (Le.refl w1) rep1 (RS.set (rs.mono l1) i ru)
theorem ts_tg {te : TE} {fe : FE} {tg : Tg} (a : TEok g W te fe) : TSok g W (tAsg te (cG g tg)) (fun ts m => (fe ts m).toS ts fun t m1 => match setT tg t ts with
    | some ts1 => .nx ts1 m1
    | none => .stuck) := by
  intro ts m w sg D rep rs h
  dsimp only at h
  refine a ts m w sg _ rep rs ((h.toS rs).imp fun x m1 w1 l1 rep1 h1 u ru => ?_)
  cases e : setT tg x ts with
  | none => rw [e] at h1; exact h1.elim
  | some ts1 =>
    rw [e] at h1
    exact cG_ok ts ts1 w1 sg x u _ (rs.mono l1) ru e fun sg' rs' _ => h1 w1 sg' (Le.refl w1) rep1 rs'
theorem ts_ex {te : TE} {fe : FE} (a : TEok g W te fe) : TSok g W (tDrop te) (fun ts m => (fe ts m).toS ts fun _ m1 => .nx ts m1) := by
  intro ts m w sg D rep rs h
  dsimp only at h
  refine a ts m w sg _ rep rs ((h.toS rs).imp fun x m1 w1 l1 rep1 h1 u ru => ?_)
  exact h1 w1 _ (Le.refl w1) rep1 (rs.mono l1)
theorem ts_ret {te : TE} {fe : FE} (a : TEok g W te fe) : TSok g W (tRet te) (fun ts m => (fe ts m).toS ts fun t m1 => .rt t m1) := by
  intro ts m w sg D rep rs h
  dsimp only at h
  refine a ts m w sg _ rep rs ((h.toS rs).imp fun x m1 w1 l1 rep1 h1 u ru => ?_)
  exact h1 w1 (Le.refl w1) rep1 u ru
theorem ts_retN : TSok g W tRetN (fun ts m => .rt .non m) := fun ts m w sg D rep rs h => h w (Le.refl w) rep _ .non
theorem ts_if {tc : TT} {fc : FB} {t u : TS} {f k : FS} (c : TTok g W tc fc) (a : TSok g W t f) (b : TSok g W u k) : TSok g W (tIfS tc t u) (fun ts m => (fc ts m).toS ts fun x m1 => if x = true then f ts m1 else k ts m1) := by
  intro ts m w sg D rep rs h
  dsimp only at h
  refine c ts m w sg _ rep rs ((h.toS rs).imp fun x m1 w1 l1 rep1 h1 => ?_)
  cases x with
  | true =>
    rw [if_pos rfl] at h1
    exact iteT (a ts m1 w1 sg D rep1 (rs.mono l1) h1)
  | false =>
    rw [if_neg Bool.false_ne_true] at h1
    exact iteF (b ts m1 w1 sg D rep1 (rs.mono l1) h1)
theorem ts_for {wi : TI} {fi : FI} {tb : TS} {fb : FS} {tg : Tg} {kl : List Nat} (hi : ∀ (ts : TSt) (m : Mem) (w : Wd) (sg : St) (R : It → Hp → Prop), Rep g w m → RS g w ts sg → PostR g (fun c d H => W c d sg H) (fun us _ w' => ∀ J, Src g us.1 us.2 J w' → R J w'.H) w (fi ts m) → wi sg w.H R)
    (b : TSok g W tb fb) : TSok g W (tFor wi (cG g tg) tb) (fun ts m => (fi ts m).toS ts fun us m1 => forL tg kl fb us.2 us.1 (wipeT ts kl) m1) := by
  intro ts m w sg D rep rs h
  dsimp only at h
  refine hi ts m w sg _ rep rs ((h.toS rs).imp fun us m1 w1 l1 rep1 h1 J src => ?_)
  obtain ⟨items, C⟩ := us
  have h1 : PostS g W D w1 (forL tg kl fb C items (wipeT ts kl) m1) := h1
  refine ⟨fun i n σ H => n = items.length - i ∧ i ≤ items.length ∧ ∃ (w' : Wd) (m' : Mem) (ts' : TSt), w'.H = H ∧ Le w1 w' ∧ Rep g w' m' ∧ RS g w' ts' σ ∧ PostS g W D w' (forL tg kl fb C (items.drop i) ts' m'),
    ⟨items.length, rfl, Nat.zero_le _, w1, m1, _, rfl, Le.refl w1, rep1, (rs.mono l1).wipeT, h1⟩, ?_⟩
  rintro i n σ H ⟨rfl, hi, w', m', ts', rfl, le', rep', rs', hp⟩
  by_cases hlt : i < items.length
  · rw [List.drop_eq_getElem_cons hlt] at hp
    unfold forL at hp
    have hC : C m' := by
      refine Classical.byContradiction fun z => ?_
      rw [if_neg z] at hp
      exact hp
    rw [if_pos hC] at hp
    obtain ⟨go, _, yld⟩ := src w' m' le'.toLe0 rep' hC
    refine .inr ⟨go i hlt, fun σ' H' => items.length - (i + 1) = items.length - (i + 1) ∧ i + 1 ≤ items.length ∧ ∃ (w' : Wd) (m' : Mem) (ts' : TSt), w'.H = H' ∧ Le w1 w' ∧ Rep g w' m' ∧ RS g w' ts' σ' ∧ PostS g W D w' (forL tg kl fb C (items.drop (i + 1)) ts' m'),
      fun σ' H' hN => ⟨items.length - (i + 1), by omega, hN⟩, fun x H' hy => ?_⟩
    obtain ⟨w2, rfl, le2, rep2, r2⟩ := yld i _ x H' (List.getElem?_eq_getElem hlt) hy
    cases es : setT tg items[i] ts' with
    | none => rw [es] at hp; exact hp.elim
    | some ts1 =>
      rw [es] at hp
      refine cG_ok ts' ts1 w2 σ _ x _ (rs'.mono le2) r2 es fun sg2 rs2 _ => ?_
      refine b ts1 m' w2 sg2 _ rep2 rs2 ?_
      simp only at hp
      cases eb : fb ts1 m' with
      | nx ts2 m2 =>
        rw [eb] at hp
        exact fun w3 sg3 l3 rep3 rs3 => ⟨rfl, hlt, w3, m2, _, rfl, (le'.trans le2).trans l3, rep3, rs3.wipeT, PostS.mono hp (le2.trans l3)⟩
      | ct ts2 m2 =>
        rw [eb] at hp
        exact fun w3 sg3 l3 rep3 rs3 => ⟨rfl, hlt, w3, m2, _, rfl, (le'.trans le2).trans l3, rep3, rs3.wipeT, PostS.mono hp (le2.trans l3)⟩
      | bk ts2 m2 =>
        rw [eb] at hp
        exact fun w3 sg3 l3 rep3 rs3 => hp w3 sg3 (le2.trans l3) rep3 rs3.wipeT
      | rt t m2 =>
        rw [eb] at hp
        exact fun w3 l3 => hp w3 (le2.trans l3)
      | ex c ns xs ts2 m2 =>
        rw [eb] at hp
        exact fun w3 sg3 cls d l3 => hp w3 sg3 cls d (le2.trans l3)
      | stuck => rw [eb] at hp; exact hp
  · have ei : i = items.length := by omega
    subst ei
    rw [List.drop_length] at hp
    unfold forL at hp
    have hC : C m' := by
      refine Classical.byContradiction fun z => ?_
      rw [if_neg z] at hp
      exact hp
    rw [if_pos hC] at hp
    obtain ⟨_, stop, _⟩ := src w' m' le'.toLe0 rep' hC
    exact .inl ⟨stop, hp w' σ (Le.refl w') rep' rs'⟩
theorem ts_whi {tc : TT} {fc : FB} {tb : TS} {fb : FS} {kl : List Nat} (n : Nat) (c : TTok g W tc fc) (b : TSok g W tb fb) : TSok g W (tWhile tc tb) (fun ts m => whiL fc kl fb n (wipeT ts kl) m) := by
  intro ts m w sg D rep rs h
  dsimp only at h
  refine ⟨fun j σ H => ∃ (w' : Wd) (m' : Mem) (ts' : TSt), w'.H = H ∧ Rep g w' m' ∧ RS g w' ts' σ ∧ PostS g W D w' (whiL fc kl fb j ts' m'), ⟨n, w, m, _, rfl, rep, rs.wipeT, h⟩, ?_⟩
  rintro j σ H ⟨w', m', ts', rfl, rep', rs', hp⟩
  cases j with
  | zero => exact hp.elim
  | succ j =>
    unfold whiL at hp
    refine c ts' m' w' σ _ rep' rs' ((hp.toS rs').imp fun x m1 w1 l1 rep1 h1 => ?_)
    have rs1 := rs'.mono l1
    cases x with
    | false =>
      rw [if_neg Bool.false_ne_true] at h1
      exact iteF (h1 w1 σ (Le.refl w1) rep1 rs1)
    | true =>
      rw [if_pos rfl] at h1
      refine iteT ⟨fun σ' H' => ∃ (w' : Wd) (m' : Mem) (ts' : TSt), w'.H = H' ∧ Rep g w' m' ∧ RS g w' ts' σ' ∧ PostS g W D w' (whiL fc kl fb j ts' m'), fun σ' H' hN => ⟨j, Nat.lt_succ_self j, hN⟩, ?_⟩
      refine b ts' m1 w1 σ _ rep1 rs1 ?_
      cases eb : fb ts' m1 with
      | nx ts2 m2 =>
        rw [eb] at h1
        exact fun w3 sg3 l3 rep3 rs3 => ⟨w3, m2, _, rfl, rep3, rs3.wipeT, PostS.mono h1 l3⟩
      | ct ts2 m2 =>
        rw [eb] at h1
        exact fun w3 sg3 l3 rep3 rs3 => ⟨w3, m2, _, rfl, rep3, rs3.wipeT, PostS.mono h1 l3⟩
      | bk ts2 m2 =>
        rw [eb] at h1
        exact fun w3 sg3 l3 rep3 rs3 => h1 w3 sg3 l3 rep3 rs3.wipeT
      | rt t m2 =>
        rw [eb] at h1
        exact h1
      | ex c ns xs ts2 m2 =>
        rw [eb] at h1
        exact h1
      | stuck => rw [eb] at h1; exact h1
/-- a cell is frozen: no Python stands for it -/
theorem ts_fre {v : Ev} {i : Nat} {u : TS} {k : FS} (b : TSok g W u k) : TSok g W u (fun ts m => (evS v (.fre i) ts m).seq k) := by
  intro ts m w sg D rep rs h
  dsimp only at h
  unfold evS at h
  cases e1 : ts[i]? with
  | none => simp only [e1] at h; exact h.elim
  | some o =>
    cases o with
    | none => simp only [e1] at h; exact h.elim
    | some t =>
      cases t with
      | ref n =>
        simp only [e1] at h
        cases e2 : m[n]? with
        | none => simp only [e2] at h; exact h.elim
        | some c =>
          cases c with
          | lst us =>
            simp only [e2] at h
            obtain ⟨vv, e3, rv⟩ := rs.at_ i _ e1
            cases rv with
            | ref hn =>
              rename_i a
              obtain ⟨f, vs, e4, r⟩ := rep.cell n _ a e2 hn
              have rep' := rep.fr hn f
              have le := Rep.leFr (w := w) (p := a) f
              have h' : PostS g W D w (k (ts.set i (some (.lst us))) (m.set n .dead)) := h
              have rs' := RS.set (rs.mono le) i (t := .lst us) (v := .ref a) (.lst ⟨.inr rfl, e4⟩ (r.mono le))
              have this : sg.set i (some (V.ref a)) = sg := by
                apply List.ext_getElem?
                intro j
                by_cases q : j = i
                · subst q
                  rw [List.getElem?_set_self (List.getElem?_eq_some_iff.mp e3).1, e3]
                · rw [List.getElem?_set_ne (Ne.symm q)]
              rw [this] at rs'
              exact b (ts.set i (some (.lst us))) (m.set n .dead) ⟨fun x => w.F x ∨ x = a, w.H, w.rho, w.pd⟩ sg D rep' rs' (h'.mono le)
          | _ => simp only [e2] at h; exact h.elim
      | _ => simp only [e1] at h; exact h.elim
end

/-! ### the look -/
def noComp : Expr → Bool
  | .ListComp _ _ _ _ => false
  | .SetComp _ _ _ _ => false
  | .DictComp _ _ _ _ _ => false
  | _ => true
def noTup : Expr → Bool
  | .Tuple _ _ _ => false
  | _ => true
def swB (sc : Scope) (x : Str) (p : Pos) (scope : Scope) (vp : Pos) : Bool :=
  locO sc x && (p.line == vp.line) && !(scope.names.any fun (n, k) => n == x && (k == .local || k == .cell))
def swOk (c : Ck) : Expr → Bool
  | .ListComp _ _ _ _ => decide (c.sc.kind = .function)
  | .SetComp _ _ _ _ => false
  | .DictComp _ _ _ _ _ => false
  | _ => true
mutual
def okS (c : Ck) : S → Stmt → Bool
  | .set i e, .Assign [.Name x _] val _ => nm? c.N i x && locB c.sc x && okE c e val && swOk c val
  | .unp is e, .Assign [.Tuple es _ _] val _ => okNms c is es && decide is.Nodup && okE c e val && noComp val && noTup val
  | .ex e, .Expr val _ => okE c e val && noComp val
  | .ret e, .Return (some val) _ => okE c e val
  | .ret .non, .Return none _ => true
  | .ife t a b, .If x sa sb _ => okB c t x && okSs c a sa && okSs c b sb
  | .for_ tg k it _ b, .For t iter body [] _ => c.lp && okI c k it iter && okTg c tg t && okSs c b body
  | .whi t _ b, .While x body [] _ => c.lp && okB c t x && okSs c b body
  | .brk, .Break _ => true
  | .cnt, .Continue _ => true
  | .pas, .Pass _ => true
  | .pas, .Expr (.Constant (.str _) _ _) _ => true
  | _, _ => false
def okSs (c : Ck) : List S → List Stmt → Bool
  | [], [] => true
  | .fre _ :: r, sts => okSs c r sts
  | s :: r, st :: sts => okS c s st && okSs c r sts
  | _, _ => false
end
theorem swap_nc {e : Expr} {t : Option Expr} {l : Nat} {env : Env} (h : noComp e = true) : swapsWith e t l env = pure false := by
  cases e <;> first | rfl | cases h
theorem store_nt {es : List Expr} {k : Nat} {p : Pos} {e : Expr} {env : Env} (h : noTup e = true) : swappedStores [.Tuple es k p] e env = pure none := by
  cases e <;> first | rfl | cases h
theorem swap_lcF {elt : Expr} {gs : List Comprehension} {scope : Scope} {pos py : Pos} {y : Str} {l : Nat} {env : Env} (h : swB env.scope y py scope pos = false) : swapsWith (.ListComp elt gs scope pos) (some (.Name y py)) l env = pure false := by
  have hl : (env.scope.names.lookup y == some NameKind.local) = locO env.scope y := by
    unfold locO
    split
    · rename_i q; rw [q]; rfl
    · rename_i q
      exact beq_eq_false_iff_ne.mpr q
  have h0 : (env.blockKind == .function && env.kindOf y == some .local && py.line == (Expr.ListComp elt gs scope pos).pos.line && !(scope.names.any fun (n, k) => n == y && (k == .local || k == .cell))) = false := by
    show (env.blockKind == .function && (env.scope.names.lookup y == some NameKind.local) && (py.line == pos.line) && !(scope.names.any fun (n, k) => n == y && (k == .local || k == .cell))) = false
    rw [hl, Bool.and_assoc, Bool.and_assoc]
    unfold swB at h
    rw [Bool.and_assoc] at h
    rw [h, Bool.and_false]
  show (pure (env.blockKind == .function && env.kindOf y == some .local && py.line == (Expr.ListComp elt gs scope pos).pos.line && !(scope.names.any fun (n, k) => n == y && (k == .local || k == .cell))) : PySem.Sem Bool) = _
  rw [h0]
section
variable {g : Gt} {v : Ev} {k : Nat} {c : Ck} {X : Cx} {W : WX}
theorem Ok.st2 (O : Ok g v k c X W) (hb : c.blk = false) {i : Nat} {x : Str} (h1 : nm? c.N i x = true) (h2 : locB c.sc x = true) : X.N[i]? = some x ∧ Loc X.env.scope x ∧ (X.fn x = true ∨ X.env.scope.names.lookup x = some .local) := by
  refine ⟨O.nm h1, ?_, .inl (O.fn hb x)⟩
  rw [O.sc]
  exact locB_ok h2
/-- name = [.. for ..] on one line -/
theorem ss_setLc (O : Ok g v k c X W) (hb : c.blk = false) {i : Nat} {e : E} {x : Str} {p vp sp : Pos} {elt : Expr} {gs : List Comprehension} {scope : Scope} (h1 : nm? c.N i x = true) (h2 : locB c.sc x = true) (h : okE c e (.ListComp elt gs scope vp) = true)
    (hk : c.sc.kind = .function) (hs : swB c.sc x p scope vp = true) : SS X g W (.Assign [.Name x p] (.ListComp elt gs scope vp) sp) (evS v (.set i e)) := by
  unfold okE at h
  split at h <;> try contradiction
  rename_i cc tg kk it cnd a elt t iter ifs scope pos q
  cases q
  simp only [Bool.and_eq_true, decide_eq_true_eq] at h
  obtain ⟨⟨⟨⟨⟨h1', h2'⟩, h3⟩, h4⟩, h5⟩, h6⟩ := h
  obtain ⟨wi, pp, hi⟩ := si it kk t iter c X W O h1'
  have bk : BlkOk X.N X.env.scope scope (tgOwn c tg) := by
    rw [O.N, O.sc]
    exact blkOk_by h2'
  have pt : ∀ (s : Shared) (H : Hp) (C : Addr) (cl : List (Str × Addr)) (fp : List Addr), SPts (X.blk s H scope (compEnvC scope cl C X.env) fp) g W0 ifs (evBs v cnd) := fun s H C cl fp => by
    match cnd, ifs, h4, h5 with
    | [], [], _, _ => exact ⟨_, pts_nil, fun ts m w sg Q rep rs hq => hq w (Le.refl w) rep⟩
    | [d], [i], h4, _ =>
      simp only [okBs, Bool.and_eq_true] at h4
      obtain ⟨tt, p, t⟩ := sb d i _ _ _ (O.blk scope s H C cl fp) h4.1
      exact ⟨_, pts_one p, t⟩
    | [], _ :: _, h4, _ => simp [okBs] at h4
    | _ :: _, [], h4, _ => simp [okBs] at h4
    | [_], _ :: _ :: _, h4, _ => simp [okBs] at h4
    | _ :: _ :: _, _, _, h5 => simp at h5
  unfold swB at hs
  simp only [Bool.and_eq_true, Bool.not_eq_true'] at hs
  obtain ⟨⟨q1, q2⟩, q3⟩ := hs
  have ql : X.env.scope.names.lookup x = some .local := by
    rw [O.sc]
    exact locO_ok q1
  refine ⟨_, ps_setLc O.calm O.nd (O.nm h1) ql (sw_true (by rw [O.sc]; exact hk) ql q2 q3) pp bk (fun s H C cl fp => (sg_ok (O.blk scope s H C cl fp) tg t h3).c) (fun s H C cl fp => (pt s H C cl fp).c) (fun s H C cl fp => (se a elt _ _ _ (O.blk scope s H C cl fp) h6).c) (fold_ns (okI_ns h1')), ?_⟩
  rw [own_eq]
  exact ts_name i (te_lc hi)
end
mutual
theorem ss {g : Gt} {v : Ev} {k : Nat} : ∀ (s : S) (st : Stmt) (c : Ck) (X : Cx) (W : WX), Ok g v k c X W → c.blk = false → okS c s st = true → SS X g W st (evS v s)
  | .set i e, st, c, X, W, O, hb, h => by
    unfold okS at h
    split at h <;> try contradiction
    rename_i i' e' x p val pos q
    cases q
    simp only [Bool.and_eq_true] at h
    obtain ⟨⟨⟨h1, h2⟩, h3⟩, h4⟩ := h
    obtain ⟨n1, n2, n3⟩ := O.st2 hb h1 h2
    have plain : (∀ l, swapsWith val (some (.Name x p)) l X.env = pure false) → SS X g W (.Assign [.Name x p] val pos) (evS v (.set i e)) := fun hs => by
      obtain ⟨te, pe, t⟩ := se e val c X W O h3
      exact ⟨_, ps_set O.nd n1 n2 pe (hs _) n3, ts_name i t⟩
    cases hc : noComp val with
    | true => exact plain fun l => swap_nc hc
    | false =>
      cases val with
      | ListComp elt gs scope vp =>
        cases hw : swB c.sc x p scope vp with
        | true => exact ss_setLc O hb h1 h2 h3 (of_decide_eq_true h4) hw
        | false => exact plain fun l => swap_lcF (by rw [O.sc]; exact hw)
      | SetComp _ _ _ _ => cases h4
      | DictComp _ _ _ _ _ => cases h4
      | _ => cases hc
  | .unp is e, st, c, X, W, O, hb, h => by
    unfold okS at h
    split at h <;> try contradiction
    rename_i is' e' es kk pp val pos q
    cases q
    simp only [Bool.and_eq_true] at h
    obtain ⟨⟨⟨⟨h1, h2⟩, h3⟩, h4⟩, h5⟩ := h
    obtain ⟨te, pe, t⟩ := se e val c X W O h3
    have sg := sg_ok O (.tu is) (.Tuple es kk pp) (by unfold okTg; simp only [Bool.and_eq_true]; exact ⟨h1, h2⟩)
    exact ⟨_, ps_asg pe sg.c (by unfold swapsWithSole; exact swap_nc h4) (store_nt h5), ts_tg t⟩
  | .ex e, st, c, X, W, O, hb, h => by
    unfold okS at h
    split at h <;> try contradiction
    rename_i e' val pos q
    cases q
    simp only [Bool.and_eq_true] at h
    obtain ⟨te, pe, t⟩ := se e val c X W O h.1
    exact ⟨_, ps_expr pe (swap_nc h.2), ts_ex t⟩
  | .ret e, st, c, X, W, O, hb, h => by
    unfold okS at h
    split at h <;> try contradiction
    · rename_i e' val pos q
      cases q
      obtain ⟨te, pe, t⟩ := se e val c X W O h
      exact ⟨_, ps_ret pe, ts_ret t⟩
    · rename_i q
      cases q
      exact ⟨_, ps_retN, ts_retN⟩
  | .ife t a b, st, c, X, W, O, hb, h => by
    unfold okS at h
    split at h <;> try contradiction
    rename_i q
    cases q
    simp only [Bool.and_eq_true] at h
    obtain ⟨tt, p, q⟩ := sb t _ c X W O h.1.1
    obtain ⟨ta, pa, qa⟩ := sss a _ c X W O hb h.1.2
    obtain ⟨tb, pb, qb⟩ := sss b _ c X W O hb h.2
    exact ⟨_, ps_if p pa pb, ts_if q qa qb⟩
  | .for_ tg kk it kl b, st, c, X, W, O, hb, h => by
    unfold okS at h
    split at h <;> try contradiction
    rename_i q
    cases q
    simp only [Bool.and_eq_true] at h
    obtain ⟨⟨⟨h1, h2⟩, h3⟩, h4⟩ := h
    obtain ⟨wi, pp, hi⟩ := si it kk _ _ c X W O h2
    obtain ⟨tb, pb, qb⟩ := sss b _ c X W O hb h4
    exact ⟨_, ps_for (O.po h1) O.calm pp (sg_ok O tg _ h3).c pb (fold_ns (okI_ns h2)), ts_for hi qb⟩
  | .whi t kl b, st, c, X, W, O, hb, h => by
    unfold okS at h
    split at h <;> try contradiction
    rename_i q
    cases q
    simp only [Bool.and_eq_true] at h
    obtain ⟨⟨h1, h2⟩, h3⟩ := h
    obtain ⟨tt, p, q⟩ := sb t _ c X W O h2
    obtain ⟨tb, pb, qb⟩ := sss b _ c X W O hb h3
    exact ⟨_, ps_while (O.po h1) p pb, ts_whi _ q qb⟩
  | .brk, st, c, X, W, O, hb, h => by
    unfold okS at h
    split at h <;> try contradiction
    exact ⟨_, ps_break, ts_bk⟩
  | .cnt, st, c, X, W, O, hb, h => by
    unfold okS at h
    split at h <;> try contradiction
    exact ⟨_, ps_continue, ts_ct⟩
  | .pas, st, c, X, W, O, hb, h => by
    unfold okS at h
    split at h <;> try contradiction
    · exact ⟨_, ps_pass, ts_nil⟩
    · exact ⟨_, ps_doc, ts_nil⟩
  | .fre i, st, c, X, W, O, hb, h => by
    unfold okS at h
    cases h
theorem sss {g : Gt} {v : Ev} {k : Nat} : ∀ (s : List S) (st : List Stmt) (c : Ck) (X : Cx) (W : WX), Ok g v k c X W → c.blk = false → okSs c s st = true → SSs X g W st (evSs v s)
  | [], st, c, X, W, O, hb, h => by
    unfold okSs at h
    split at h <;> try contradiction
    exact ⟨_, pss_nil, ts_nil⟩
  | a :: r, st, c, X, W, O, hb, h => by
    unfold okSs at h
    split at h <;> try contradiction
    · rename_i q
      cases q
      obtain ⟨tb, pb, qb⟩ := sss r _ c X W O hb h
      exact ⟨_, pb, ts_fre qb⟩
    · rename_i q
      cases q
      simp only [Bool.and_eq_true] at h
      obtain ⟨ta, pa, qa⟩ := ss a _ c X W O hb h.1
      obtain ⟨tb, pb, qb⟩ := sss r _ c X W O hb h.2
      exact ⟨_, pss_cons pa pb, ts_seq qa qb⟩
end
end T

/-! The layer T: defs. -/
namespace T
open PySem PySem.Spec PyProof.Rows L2

/-! ### what a def made for itself alone is forgotten -/
def Wd.ct (w : Wd) (k : Nat) : Wd := ⟨w.F, w.H, w.rho.take k, w.pd⟩
section
variable {g : Gt} {w : Wd}
mutual
theorem Rv.ct {k : Nat} : ∀ {t : TV} {v : V}, Rv g w t v → below k t = true → Rv g (w.ct k) t v
  | _, _, .non, _ => .non
  | _, _, .bl b, _ => .bl b
  | _, _, .int b, _ => .int b
  | _, _, .str b h, _ => .str b h
  | _, _, .tup h r, b => .tup h (Rvs.ct r (by unfold below at b; exact b))
  | _, _, .lst h r, b => .lst h (Rvs.ct r (by unfold below at b; exact b))
  | _, _, .ref (n := n) h, b => .ref (by
    unfold below at b
    show (w.rho.take k)[n]? = _
    rw [List.getElem?_take_of_lt (of_decide_eq_true b)]
    exact h)
  | _, _, .ob f e n r, b => .ob f e n (Rvs.ct r (by unfold below at b; exact b))
  | _, _, .arg h, _ => .arg h
theorem Rvs.ct {k : Nat} : ∀ {t : List TV} {v : List V}, Rvs g w t v → belows k t = true → Rvs g (w.ct k) t v
  | _, _, .nil, _ => .nil
  | _, _, .cons h r, b => by
    unfold belows at b
    simp only [Bool.and_eq_true] at b
    exact .cons (Rv.ct h b.1) (Rvs.ct r b.2)
end
mutual
theorem Rv.blw : ∀ {t : TV} {v : V}, Rv g w t v → T.below w.rho.length t = true
  | _, _, .non => rfl
  | _, _, .bl b => rfl
  | _, _, .int b => rfl
  | _, _, .str b h => rfl
  | _, _, .tup h r => by unfold T.below; exact Rvs.blw r
  | _, _, .lst h r => by unfold T.below; exact Rvs.blw r
  | _, _, .ref (n := n) h => by
    unfold T.below
    exact decide_eq_true (List.getElem?_eq_some_iff.mp h).1
  | _, _, .ob f e n r => by unfold T.below; exact Rvs.blw r
  | _, _, .arg h => rfl
theorem Rvs.blw : ∀ {t : List TV} {v : List V}, Rvs g w t v → belows w.rho.length t = true
  | _, _, .nil => rfl
  | _, _, .cons h r => by
    unfold belows
    simp only [Bool.and_eq_true]
    exact ⟨Rv.blw h, Rvs.blw r⟩
end
theorem RKs.vals : ∀ {ks : List (Ky × TV)} {hs : List (Key × V)}, RKs g w ks hs → Rvs g w (ks.map (·.2)) (hs.map (·.2))
  | _, _, .nil => .nil
  | _, _, .cons h r => .cons h (RKs.vals r)
theorem RKs.ct {k : Nat} : ∀ {ks : List (Ky × TV)} {hs : List (Key × V)}, RKs g w ks hs → belows k (ks.map (·.2)) = true → RKs g (w.ct k) ks hs
  | _, _, .nil, _ => .nil
  | _, _, .cons h r, b => by
    have b : belows k (_ :: _) = true := b
    unfold belows at b
    simp only [Bool.and_eq_true] at b
    exact .cons (Rv.ct h b.1) (RKs.ct r b.2)
theorem COk.blw {c : Cell} {a : Addr} (h : COk g w c a) : belowC w.rho.length c = true := by
  cases c with
  | lst ts => obtain ⟨_, vs, _, r⟩ := h; exact r.blw
  | dic ks => obtain ⟨_, vs, _, r⟩ := h; exact r.vals.blw
  | ins c ns xs => obtain ⟨_, dx, fs, _, _, r⟩ := h; exact r.blw
  | dead => rfl
theorem COk.ct {c : Cell} {a : Addr} {k : Nat} (h : COk g w c a) (b : belowC k c = true) : COk g (w.ct k) c a := by
  cases c with
  | lst ts => obtain ⟨f, vs, e, r⟩ := h; exact ⟨f, vs, e, r.ct b⟩
  | dic ks => obtain ⟨f, vs, e, r⟩ := h; exact ⟨f, vs, e, r.ct b⟩
  | ins c ns xs => obtain ⟨f, dx, fs, e, q, r⟩ := h; exact ⟨f, dx, fs, e, q, r.ct b⟩
  | dead => trivial
/-- THE CUT -/
theorem cut_ok {w0 : Wd} {m m' : Mem} {xs : List TV} (rep0 : Rep g w0 m) (rep : Rep g w m') (l : Le w0 w) : ∃ w', w'.H = w.H ∧ Le w0 w' ∧ Rep g w' (cut m m' xs) ∧ w'.F = w.F ∧ ∀ vs, Rvs g w xs vs → Rvs g w' xs vs := by
  unfold cut
  by_cases hc : CutOk m m' xs
  · rw [if_pos hc]
    obtain ⟨h1, h2, h3⟩ := hc
    refine ⟨w.ct m.length, rfl, ⟨⟨l.fz, fun n a e => ?_⟩, l.pe⟩, ?_, rfl, fun vs r => r.ct h1⟩
    · show (w.rho.take m.length)[n]? = _
      rw [List.getElem?_take_of_lt (by rw [← rep0.len]; exact (List.getElem?_eq_some_iff.mp e).1)]
      exact l.rh n a e
    · refine ⟨rep.dom, ?_, ?_, fun n a e => ?_, fun n c a hc e => ?_, fun p hp => ?_⟩
      · show (w.rho.take m.length).length = (m'.take m.length).length
        rw [List.length_take, List.length_take, rep.len]
      · exact rep.nd.sublist (List.take_sublist _ _)
      · have hn : n < m.length := by
          have := (List.getElem?_eq_some_iff.mp e).1
          rw [show (w.ct m.length).rho = w.rho.take m.length from rfl, List.length_take] at this
          omega
        rw [show (w.ct m.length).rho = w.rho.take m.length from rfl, List.getElem?_take_of_lt hn] at e
        exact rep.rd n a e
      · have hn : n < m.length := by
          have := (List.getElem?_eq_some_iff.mp e).1
          rw [show (w.ct m.length).rho = w.rho.take m.length from rfl, List.length_take] at this
          omega
        rw [show (w.ct m.length).rho = w.rho.take m.length from rfl, List.getElem?_take_of_lt hn] at e
        rw [List.getElem?_take_of_lt hn] at hc
        refine (rep.cell n c a hc e).ct ?_
        rcases h3 n hn with q | ⟨c', q, b⟩
        · obtain ⟨a0, e0⟩ : ∃ a0, w0.rho[n]? = some a0 := ⟨_, List.getElem?_eq_getElem (by rw [rep0.len]; exact hn)⟩
          have := (rep0.cell n c a0 (q.symm.trans hc) e0).blw
          rwa [rep0.len] at this
        · rw [hc] at q
          cases q
          exact b
      · obtain ⟨p1, p2, p3⟩ := rep.pend p hp
        exact ⟨p1, p2, fun z => p3 (List.mem_of_mem_take z)⟩
  · rw [if_neg hc]
    exact ⟨w, rfl, l, rep, rfl, fun vs r => r⟩
theorem fin_ok {E : XK} {Q : VK} {m : Mem} {r : Rs} (rep0 : Rep g w m) (h : PostR g E (PV g Q) w (fin m r)) : PostS g (fun cls d _ H => E cls d H) { nx := fun _ H' => Q .non H', rt := Q } w r := by
  cases r with
  | nx ts m' =>
    intro w1 sg l rep rs
    obtain ⟨w2, e, l2, rep2, _, _⟩ := cut_ok (xs := []) rep0 rep l
    have := h w2 l2 rep2 .non .non
    rw [e] at this
    exact this
  | rt t m' =>
    intro w1 l rep u ru
    obtain ⟨w2, e, l2, rep2, _, k⟩ := cut_ok (xs := [t]) rep0 rep l
    have k1 := k [u] (.cons ru .nil)
    cases k1 with
    | cons k1 _ =>
      have := h w2 l2 rep2 u k1
      rw [e] at this
      exact this
  | ex c ns xs ts m' =>
    intro w1 sg cls d l rep rs rx
    obtain ⟨w2, e, l2, rep2, ef, k⟩ := cut_ok (xs := xs) rep0 rep l
    have := h w2 cls d l2 rep2 (by
      obtain ⟨e1, h⟩ := rx
      refine ⟨e1, h.imp (fun h => h) fun ⟨dd, fs, e2, f, e3, e4, r⟩ => ⟨dd, fs, e2, by rw [ef]; exact f, by rw [e]; exact e3, e4, k _ r⟩⟩)
    rw [e] at this
    exact this
  | bk ts m' => exact h.elim
  | ct ts m' => exact h.elim
  | stuck => exact h.elim
theorem RS.start {N : List Str} {us : List TV} {vs : List V} (r : Rvs g w us vs) : RS g w (us.map some ++ List.replicate (N.length - us.length) none) (L2.start N vs) := by
  have hl := r.length
  unfold L2.start
  rw [← hl]
  refine ⟨by simp [hl], fun i t e => ?_⟩
  by_cases hi : i < us.length
  · rw [List.getElem?_append_left (by simpa using hi), List.getElem?_map] at e
    obtain ⟨v, e1, rv⟩ := r.get (t := t) (by
      cases q : us[i]? with
      | none => rw [q] at e; cases e
      | some z => rw [q] at e; cases e; rfl)
    refine ⟨v, ?_, rv⟩
    rw [List.getElem?_append_left (by simpa [← hl] using hi), List.getElem?_map, e1]
    rfl
  · rw [List.getElem?_append_right (by simpa using hi)] at e
    obtain ⟨h1, h2⟩ := List.getElem?_eq_some_iff.mp e
    rw [List.getElem_replicate] at h2
    cases h2
end
end T

/-! The layer T: defs by defs. -/
namespace T
open PySem PySem.Spec PyProof.Rows L2
structure MgOk (g : Gt) (mg : Str → Option Value) (gnm : List Str) (gl : Nat → TV) : Prop where
  blt : ∀ x ∈ bltAll, mg x = none
  gls : ∀ (i : Nat) (x : Str), gnm[i]? = some x → ∃ u vv, mg x = some u ∧ RelV vv u ∧ ∀ w, Rv g w (gl i) vv
structure EvOk (g : Gt) (P : Program) (w : World) (mg : Str → Option Value) (base : Heap) (k : Nat) (fnm : List Str) (sems : List Sem) : Prop where
  fns : ∀ (f : Nat) (s : Sem), sems[f]? = some s → ∃ (x : Str) (fa : Addr) (fd : FuncData) (ps : List Str), fnm[f]? = some x ∧ mg x = some (.ref fa) ∧ PySem.W.keepIn g.K (.ref fa) = true ∧ Binds g.K fd ps [] ∧
    (∀ us m, us.length ≠ ps.length → s us m = .stuck) ∧ FnOk P w g.K mg base (L2.CX P w) k fa fd ps (spT g ps.length s)
theorem EvOk.nil {g : Gt} {P : Program} {w : World} {mg : Str → Option Value} {base : Heap} {fnm : List Str} : EvOk g P w mg base 0 fnm [] := ⟨fun f s h => by cases h⟩
section
variable {g : Gt} {P : Program} {w : World} {mg : Str → Option Value} {base : Heap} {k : Nat} {fnm gnm : List Str} {sems : List Sem} {gl : Nat → TV}
theorem def_ok (E : EvOk g P w mg base k fnm sems) (M : MgOk g mg gnm gl) {x qual : Str} {ps N : List Str} {params : Arguments} {body : List Stmt} {scope : Scope} {b : List S} {fa : Addr} {fd : FuncData}
    (F : FunD g.K x qual params body scope [] [] fa fd) (S : C8.scC N ps scope = true) (h : okSs ⟨N, scope, fnm, gnm, false, true⟩ b body = true) :
    FnOk P w g.K mg base (L2.CX P w) (k + 1) fa fd ps (spT g ps.length (runD ⟨fun j => sems[j]?, gl⟩ ps.length N.length b)) := by
  have Sc := C8.fnScope_by S
  refine F.ok Sc (fun vs H Q E h => ?_) (fun cdv A outer s H vs Q E0 hr h0 => ?_)
  · obtain ⟨w1, m, us, _, _, r, hl, _⟩ := h
    rw [← r.length]
    exact hl
  · obtain ⟨w1, m, us, rfl, rep, r, hl, hp⟩ := h0
    have O : Ok g ⟨fun j => sems[j]?, gl⟩ k ⟨N, scope, fnm, gnm, false, true⟩ (cxOf (L2.CX P w) P w g.K mg base N qual scope fa cdv A outer s w1.H E0) (fun cls d _ H => E0 cls d H) :=
      { N := rfl, sc := rfl, nd := Sc.nd, K := rfl, calm := rfl, hr := hr, tk := takes_of rfl rfl rfl rfl, fn := fun _ _ => rfl, po := fun _ => passes_of rfl, blt := M.blt, gls := M.gls, fns := E.fns }
    obtain ⟨t, pt, qt⟩ := sss b body _ _ _ O rfl h
    refine ⟨t, pt, ?_⟩
    unfold runD at hp
    rw [if_pos hl] at hp
    have hp2 := fin_ok rep hp
    have hs : RS g w1 (us.map some ++ List.replicate (N.length - ps.length) none) (L2.start N vs) := by
      rw [← hl]
      exact RS.start r
    exact qt _ m w1 _ _ rep hs hp2
theorem runD_stuck {v : Ev} {np ns : Nat} {b : List S} : ∀ us m, us.length ≠ np → runD v np ns b us m = .stuck := fun us m h => by
  unfold runD
  rw [if_neg h]
theorem EvOk.add (E : EvOk g P w mg base k fnm sems) (M : MgOk g mg gnm gl) {x qual : Str} {ps N : List Str} {params : Arguments} {body : List Stmt} {scope : Scope} {b : List S} {fa : Addr} {fd : FuncData}
    (hx : fnm[sems.length]? = some x) (F : FunD g.K x qual params body scope [] [] fa fd) (hm : mg x = some (.ref fa)) (hb : Binds g.K fd ps []) (S : C8.scC N ps scope = true) (h : okSs ⟨N, scope, fnm, gnm, false, true⟩ b body = true) :
    EvOk g P w mg base (k + 1) fnm (sems ++ [runD ⟨fun j => sems[j]?, gl⟩ ps.length N.length b]) := ⟨fun f s hs => by
  by_cases hf : f < sems.length
  · rw [List.getElem?_append_left hf] at hs
    obtain ⟨x, fa, fd, ps, e1, e2, e3, e4, e5, F⟩ := E.fns f s hs
    exact ⟨x, fa, fd, ps, e1, e2, e3, e4, e5, F.mono (Nat.le_succ k)⟩
  · rw [List.getElem?_append_right (by omega)] at hs
    obtain ⟨h1, h2⟩ := List.getElem?_eq_some_iff.mp hs
    rw [List.getElem_singleton] at h2
    simp only [List.length_singleton] at h1
    have e : f = sems.length := by omega
    subst e
    subst h2
    exact ⟨x, fa, fd, ps, hx, hm, F.kp, hb, runD_stuck, def_ok E M F S h⟩⟩
theorem law_sp {H : Hp} {a : Addr} {ns : List Int} {s : Sem} {E : XK} (hO : Only H) (hS : SqL g.K H a (ns.map V.int)) (h : ∃ m, s [.arg ns] [] = .ok (.bl true) m) : spT g 1 s [.ref a] H (fun v _ => v = .bl true) E := by
  obtain ⟨m, e⟩ := h
  refine ⟨⟨fun b => H b ≠ none, H, [], []⟩, [], [.arg ns], rfl, ⟨fun b hb => ?_, rfl, List.nodup_nil, fun n a e => by simp at e, fun n c a e => by simp at e, fun p hp => by simp at hp⟩, .cons (.arg ?_) .nil, rfl, ?_⟩
  · cases q : H b with
    | none => exact absurd q hb
    | some o => exact ⟨o, q⟩
  · rcases hS with (q | ⟨o, q⟩) | q
    · rcases hO a with z | ⟨o, xs, z⟩
      · rw [z] at q; cases q
      · rw [z] at q; cases q
    · exact .inl ⟨fun z => (by rw [z] at q; cases q), o, q⟩
    · exact .inr q
  · rw [e]
    intro w' l rep v rv
    cases rv
    rfl
end
end T

/-! The layer T: the law's own def: nothing leaves it. -/
namespace T
open PySem PySem.Spec PyProof.Rows L2
section
variable {g : Gt} {P : Program} {w : World} {mg : Str → Option Value} {base : Heap} {k : Nat} {fnm gnm : List Str} {sems : List Sem} {gl : Nat → TV}
theorem law_ok (E : EvOk g P w mg base k fnm sems) (M : MgOk g mg gnm gl) {x qual : Str} {ps N : List Str} {params : Arguments} {body : List Stmt} {scope : Scope} {b : List S} {fa : Addr} {fd : FuncData}
    (F : FunD g.K x qual params body scope [] [] fa fd) (S : C8.scC N ps scope = true) (h : okSs ⟨N, scope, fnm, gnm, false, true⟩ b body = true) :
    FnOk P w g.K mg base L2.CX0 (k + 1) fa fd ps (fun vs H Q _ => spT g ps.length (runD ⟨fun j => sems[j]?, gl⟩ ps.length N.length b) vs H Q fun _ _ _ => False) := by
  have Sc := C8.fnScope_by S
  refine F.ok Sc (fun vs H Q E h => ?_) (fun cdv A outer s H vs Q E0 hr h0 => ?_)
  · obtain ⟨w1, m, us, _, _, r, hl, _⟩ := h
    rw [← r.length]
    exact hl
  · obtain ⟨w1, m, us, rfl, rep, r, hl, hp⟩ := h0
    have O : Ok g ⟨fun j => sems[j]?, gl⟩ k ⟨N, scope, fnm, gnm, false, true⟩ (cxOf L2.CX0 P w g.K mg base N qual scope fa cdv A outer s w1.H E0).nox (fun cls d _ H => False) :=
      { N := rfl, sc := rfl, nd := Sc.nd, K := rfl, calm := rfl, hr := hr, tk := takes0, fn := fun _ _ => rfl, po := fun _ => PassesOwn.never, blt := M.blt, gls := M.gls, fns := E.fns }
    obtain ⟨t, pt, qt⟩ := sss b body _ _ _ O rfl h
    refine ⟨t, pt.nox, ?_⟩
    unfold runD at hp
    rw [if_pos hl] at hp
    have hp2 := fin_ok rep hp
    have hs : RS g w1 (us.map some ++ List.replicate (N.length - ps.length) none) (L2.start N vs) := by
      rw [← hl]
      exact RS.start r
    exact qt _ m w1 _ _ rep hs hp2
end
end T

/-! The layer T, plain: how a body is read off. -/
namespace T
open PySem PySem.Spec PyProof.Rows L2
theorem bind_okI {α β : Type} {a : α} {m : Mem} {f : α → Mem → R β} : (R.ok a m).bind f = f a m := rfl
theorem toS_okI {α : Type} {ts : TSt} {a : α} {m : Mem} {f : α → Mem → Rs} : R.toS ts (.ok a m) f = f a m := rfl
theorem seq_nx {ts : TSt} {m : Mem} {f : FS} : Rs.seq (.nx ts m) f = f ts m := rfl
theorem seq_rt {t : TV} {m : Mem} {f : FS} : Rs.seq (.rt t m) f = .rt t m := rfl
theorem opt_some {α : Type} {a : α} {f : α → R TV} : opt (some a) f = f a := rfl
/-- nothing changed, nothing new -/
theorem cut_self (m : Mem) (xs : List TV) : cut m m xs = m := by
  unfold cut
  split
  · exact List.take_length
  · rfl
theorem fin_rt {t : TV} {m : Mem} : fin m (.rt t m) = .ok t m := by
  show R.ok t (cut m m [t]) = _
  rw [cut_self]
theorem fin_nx {ts : TSt} {m : Mem} : fin m (.nx ts m) = .ok .non m := by
  show R.ok TV.non (cut m m []) = _
  rw [cut_self]
theorem runD_eq {v : Ev} {np ns : Nat} {b : List S} {us : List TV} {m : Mem} (h : us.length = np) : runD v np ns b us m = fin m (evSs v b (us.map some ++ List.replicate (ns - np) none) m) := if_pos h
/-- a loop that ends as it began -/
theorem forL_id {tg : Tg} {kl : List Nat} {b : FS} {C : Mem → Prop} {m : Mem} {ts : TSt} (hC : C m) : ∀ {xs : List TV}, (∀ x ∈ xs, ∃ ts1, setT tg x ts = some ts1 ∧ ∃ ts2, (b ts1 m = .nx ts2 m ∨ b ts1 m = .ct ts2 m) ∧ wipeT ts2 kl = ts) → forL tg kl b C xs ts m = .nx ts m
  | [], _ => by unfold forL; rw [if_pos hC]
  | x :: xs, h => by
    obtain ⟨ts1, e1, ts2, e2, e3⟩ := h x List.mem_cons_self
    have ih := forL_id hC (xs := xs) (fun y hy => h y (List.mem_cons_of_mem _ hy))
    unfold forL
    rw [if_pos hC, e1]
    rcases e2 with e2 | e2
    · simp only [e2, e3]; exact ih
    · simp only [e2, e3]; exact ih
/-- .. or that ends by a return -/
theorem forL_find {tg : Tg} {kl : List Nat} {b : FS} {C : Mem → Prop} {m : Mem} {ts : TSt} {r : TV} (bad : TV → Bool) (hC : C m) : ∀ {xs : List TV}, (∀ x ∈ xs, ∃ ts1, setT tg x ts = some ts1 ∧ (bad x = true → b ts1 m = .rt r m) ∧ (bad x = false → ∃ ts2, (b ts1 m = .nx ts2 m ∨ b ts1 m = .ct ts2 m) ∧ wipeT ts2 kl = ts)) →
    forL tg kl b C xs ts m = if xs.any bad then .rt r m else .nx ts m
  | [], _ => by unfold forL; rw [if_pos hC]; rfl
  | x :: xs, h => by
    obtain ⟨ts1, e1, h1, h2⟩ := h x List.mem_cons_self
    have ih := forL_find bad hC (xs := xs) (fun y hy => h y (List.mem_cons_of_mem _ hy))
    unfold forL
    rw [if_pos hC, e1, List.any_cons]
    cases hb : bad x with
    | true =>
      simp only [h1 hb]
      rfl
    | false =>
      obtain ⟨ts2, e2, e3⟩ := h2 hb
      rw [Bool.false_or, ← ih]
      rcases e2 with e2 | e2
      · simp only [e2, e3]
      · simp only [e2, e3]
/-- the general one: I by the turn -/
theorem forL_ind {tg : Tg} {kl : List Nat} {b : FS} {C : Mem → Prop} (I : Nat → TSt → Mem → Prop) (hC : ∀ i ts m, I i ts m → C m) : ∀ {xs : List TV} {i : Nat} {ts : TSt} {m : Mem}, I i ts m →
    (∀ j x ts m, xs[j]? = some x → I (i + j) ts m → ∃ ts1, setT tg x ts = some ts1 ∧ ∃ ts2 m2, (b ts1 m = .nx ts2 m2 ∨ b ts1 m = .ct ts2 m2) ∧ I (i + j + 1) (wipeT ts2 kl) m2) →
    ∃ ts' m', forL tg kl b C xs ts m = .nx ts' m' ∧ I (i + xs.length) ts' m'
  | [], i, ts, m, h, _ => ⟨ts, m, by unfold forL; rw [if_pos (hC _ _ _ h)], h⟩
  | x :: xs, i, ts, m, h, hs => by
    obtain ⟨ts1, e1, ts2, m2, e2, h2⟩ := hs 0 x ts m rfl h
    obtain ⟨ts', m', e3, h3⟩ := forL_ind I hC (xs := xs) (i := i + 1) (ts := wipeT ts2 kl) (m := m2) h2 (fun j y ts m hy hI => by
      have := hs (j + 1) y ts m (by rw [List.getElem?_cons_succ]; exact hy) (by rw [show i + (j + 1) = i + 1 + j by omega]; exact hI)
      rw [show i + (j + 1) = i + 1 + j by omega] at this
      exact this)
    refine ⟨ts', m', ?_, by rw [List.length_cons, show i + (xs.length + 1) = i + 1 + xs.length by omega]; exact h3⟩
    unfold forL
    rw [if_pos (hC _ _ _ h), e1]
    rcases e2 with e2 | e2
    · simp only [e2]; exact e3
    · simp only [e2]; exact e3
/-! ### comprehensions -/
/-- with no condition, each item by itself, the memory untouched -/
theorem lcL_map {fe : FE} {tg : Tg} {C : Mem → Prop} {m : Mem} {ts : TSt} (hC : C m) (y : TV → TV) : ∀ {xs acc : List TV}, acc.length + xs.length ≤ SL → (∀ x ∈ xs, ∃ ts1, setT tg x ts = some ts1 ∧ fe ts1 m = .ok (y x) m) →
    lcL (fun _ m => .ok true m) fe tg C xs acc ts m = .ok (acc ++ xs.map y) m
  | [], acc, _, _ => by
    unfold lcL
    rw [grd_posI hC, List.map_nil, List.append_nil]
  | x :: xs, acc, hl, h => by
    obtain ⟨ts1, e1, e2⟩ := h x List.mem_cons_self
    have hl : acc.length + (xs.length + 1) ≤ SL := hl
    have ih := lcL_map hC y (xs := xs) (acc := acc ++ [y x]) (by rw [List.length_append, List.length_singleton]; omega) (fun z hz => h z (List.mem_cons_of_mem _ hz))
    unfold lcL
    rw [grd_posI hC, e1]
    show (R.ok true m).bind _ = _
    rw [bind_okI, if_pos rfl, e2, bind_okI, grd_pos (by omega), ih, List.append_assoc]
    rfl
end T

/-! The layer T, plain: the operators at values that are seen. -/
namespace T
open PySem PySem.Spec PyProof.Rows L2
section
variable {c : Bool} {i j : Int} {a b s : Cs} {m : Mem} {ns : List Int} {us ts : List TV} {d : Nat}
theorem r_addI : opAdd c (.int i) (.int j) m = .ok (.int (i + j)) m := rfl
theorem r_addS (h : a.length + b.length ≤ SL) : opAdd c (.str a) (.str b) m = .ok (.str (a ++ b)) m := grd_pos h
theorem r_sub : opSub (.int i) (.int j) m = .ok (.int (i - j)) m := rfl
theorem r_neg : opNeg (.int i) m = .ok (.int (-i)) m := rfl
theorem r_mulL (h1 : -18446744073709551616 < i) (h2 : i < 18446744073709551616) : opMul (.int i) (.int j) m = .ok (.int (i * j)) m := grd_pos (.inl ⟨h1, h2⟩)
theorem r_mulR (h1 : -18446744073709551616 < j) (h2 : j < 18446744073709551616) : opMul (.int i) (.int j) m = .ok (.int (i * j)) m := grd_pos (.inr ⟨h1, h2⟩)
theorem r_mod (h : 0 < j) : opMod (.int i) (.int j) m = .ok (.int (i % j)) m := grd_pos h
theorem r_fdiv (h : 0 < j) (h2 : j < 1073741824) : opFdiv (.int i) (.int j) m = .ok (.int (i / j)) m := grd_pos ⟨h, h2⟩
theorem r_pow (h : 0 ≤ j) (h1 : j ≤ 1000000) (h2 : i.natAbs < 18446744073709551616) : opPow (.int i) (.int j) m = .ok (.int (i ^ j.toNat)) m := grd_pos ⟨h, h1, h2⟩
theorem r_lt : opLt (.int i) (.int j) m = .ok (.bl (decide (i < j))) m := rfl
theorem r_ltS : opLt (.str a) (.str b) m = .ok (.bl (decide (a < b))) m := rfl
theorem r_le : opLe (.int i) (.int j) m = .ok (.bl (decide (i ≤ j))) m := rfl
theorem r_gt : opGt (.int i) (.int j) m = .ok (.bl (decide (j < i))) m := rfl
theorem r_ge : opGe (.int i) (.int j) m = .ok (.bl (decide (j ≤ i))) m := rfl
theorem r_eqI : opEq (.int i) (.int j) m = .ok (.bl (i == j)) m := grd_pos ⟨rfl, Nat.zero_le _, Nat.zero_le _⟩
theorem r_eqS : opEq (.str a) (.str b) m = .ok (.bl (a == b)) m := grd_pos ⟨rfl, Nat.zero_le _, Nat.zero_le _⟩
theorem r_eqB {p q : Bool} : opEq (.bl p) (.bl q) m = .ok (.bl (p == q)) m := grd_pos ⟨rfl, Nat.zero_le _, Nat.zero_le _⟩
theorem r_neI : opNe (.int i) (.int j) m = .ok (.bl (!(i == j))) m := grd_pos ⟨rfl, Nat.zero_le _, Nat.zero_le _⟩
theorem r_neS : opNe (.str a) (.str b) m = .ok (.bl (!(a == b))) m := grd_pos ⟨rfl, Nat.zero_le _, Nat.zero_le _⟩
theorem r_neB {p q : Bool} : opNe (.bl p) (.bl q) m = .ok (.bl (!(p == q))) m := grd_pos ⟨rfl, Nat.zero_le _, Nat.zero_le _⟩
theorem r_inS : opIn (.str [d]) (.str s) m = .ok (.bl (decide (d ∈ s))) m := rfl
theorem r_niS : opNotIn (.str [d]) (.str s) m = .ok (.bl (!decide (d ∈ s))) m := rfl
theorem r_ixS : opIdx (.str s) (.int i) m = opt (atT s i) fun c => .ok (.str [c]) m := rfl
theorem r_ixA : opIdx (.arg ns) (.int i) m = opt (atT (ns.map TV.int) i) fun t => .ok t m := rfl
theorem r_ixL : opIdx (.lst ts) (.int i) m = opt (atT ts i) fun t => .ok t m := rfl
theorem r_ixT : opIdx (.tup ts) (.int i) m = opt (atT ts i) fun t => .ok t m := rfl
theorem r_lenS : fLen [.str s] m = .ok (.int s.length) m := rfl
theorem r_lenA : fLen [.arg ns] m = .ok (.int ns.length) m := by
  show R.ok (TV.int (ns.map TV.int).length) m = _
  rw [List.length_map]
theorem r_lenL : fLen [.lst ts] m = .ok (.int ts.length) m := rfl
theorem r_lenT : fLen [.tup ts] m = .ok (.int ts.length) m := rfl
theorem r_min : fMin [.int i, .int j] m = .ok (.int (if j < i then j else i)) m := rfl
theorem r_max : fMax [.int i, .int j] m = .ok (.int (if j > i then j else i)) m := rfl
theorem r_abs : fAbs [.int i] m = .ok (.int (if i < 0 then -i else i)) m := rfl
theorem r_slS {lo hi : Option Int} : opSlc c (.str s) lo hi m = .ok (.str (cutT s lo hi)) m := rfl
theorem r_slA {lo hi : Option Int} : opSlc false (.arg ns) lo hi m = .ok (.lst (cutT (ns.map TV.int) lo hi)) m := rfl
theorem r_slL {lo hi : Option Int} : opSlc false (.lst ts) lo hi m = .ok (.lst (cutT ts lo hi)) m := rfl
theorem r_toB {p : Bool} : toB (.bl p) m = .ok p m := rfl
theorem r_truB {p : Bool} : truT (.bl p) m = .ok p m := rfl
theorem r_truI : truT (.int i) m = .ok (i != 0) m := rfl
theorem r_truS : truT (.str s) m = .ok (!s.isEmpty) m := rfl
theorem r_truL : truT (.lst us) m = .ok (!us.isEmpty) m := rfl
theorem r_truT : truT (.tup us) m = .ok (!us.isEmpty) m := rfl
theorem r_truN : truT .non m = .ok false m := rfl
theorem r_tyS {α : Type} {r : R α} : grd (tyM "str" m (.str s) = true) r = r := grd_pos (by show ("str" == "str") = true; decide)
theorem r_mk : mkL false ts m = .ok (.lst ts) m := rfl
theorem r_six {i : Nat} (h : idxT s d = some i) : fSidx (.str s) [.str [d]] m = .ok (.int (i : Nat)) m := by
  unfold fSidx
  simp only [h]
theorem nonN : isNon .non = true := rfl
theorem nonB {p : Bool} : isNon (.bl p) = false := rfl
theorem nonI : isNon (.int i) = false := rfl
theorem nonS : isNon (.str s) = false := rfl
theorem nonT : isNon (.tup ts) = false := rfl
theorem nonL : isNon (.lst ts) = false := rfl
theorem bb1 : (true == true) = true := rfl
theorem bb2 : (true == false) = false := rfl
theorem bb3 : (false == true) = false := rfl
theorem bb4 : (false == false) = true := rfl
theorem ifT {α : Type} {x y : α} : (if true = true then x else y) = x := rfl
theorem ifF {α : Type} {x y : α} : (if false = true then x else y) = y := rfl
theorem isi_ok2 {T z : String} {x : TV} (h : tyT m x = some z) (hT : T ∈ tyNames ∧ T ≠ "NoneType") : fIsi T [x] m = .ok (.bl (isaT z T)) m := by
  show opt (tyT m x) _ = _
  rw [h]
  exact grd_pos hT
theorem isN_int : fIsi "int" [.non] m = .ok (.bl false) m := (isi_ok2 rfl (by decide +kernel)).trans (by rw [show isaT "NoneType" "int" = false from by decide +kernel])
theorem isB_int {p : Bool} : fIsi "int" [(.bl p)] m = .ok (.bl true) m := (isi_ok2 rfl (by decide +kernel)).trans (by rw [show isaT "bool" "int" = true from by decide +kernel])
theorem isI_int : fIsi "int" [(.int i)] m = .ok (.bl true) m := (isi_ok2 rfl (by decide +kernel)).trans (by rw [show isaT "int" "int" = true from by decide +kernel])
theorem isS_int : fIsi "int" [(.str s)] m = .ok (.bl false) m := (isi_ok2 rfl (by decide +kernel)).trans (by rw [show isaT "str" "int" = false from by decide +kernel])
theorem isT_int : fIsi "int" [(.tup ts)] m = .ok (.bl false) m := (isi_ok2 rfl (by decide +kernel)).trans (by rw [show isaT "tuple" "int" = false from by decide +kernel])
theorem isL_int : fIsi "int" [(.lst ts)] m = .ok (.bl false) m := (isi_ok2 rfl (by decide +kernel)).trans (by rw [show isaT "list" "int" = false from by decide +kernel])
theorem isA_int : fIsi "int" [(.arg ns)] m = .ok (.bl false) m := (isi_ok2 rfl (by decide +kernel)).trans (by rw [show isaT "list" "int" = false from by decide +kernel])
theorem isN_bool : fIsi "bool" [.non] m = .ok (.bl false) m := (isi_ok2 rfl (by decide +kernel)).trans (by rw [show isaT "NoneType" "bool" = false from by decide +kernel])
theorem isB_bool {p : Bool} : fIsi "bool" [(.bl p)] m = .ok (.bl true) m := (isi_ok2 rfl (by decide +kernel)).trans (by rw [show isaT "bool" "bool" = true from by decide +kernel])
theorem isI_bool : fIsi "bool" [(.int i)] m = .ok (.bl false) m := (isi_ok2 rfl (by decide +kernel)).trans (by rw [show isaT "int" "bool" = false from by decide +kernel])
theorem isS_bool : fIsi "bool" [(.str s)] m = .ok (.bl false) m := (isi_ok2 rfl (by decide +kernel)).trans (by rw [show isaT "str" "bool" = false from by decide +kernel])
theorem isT_bool : fIsi "bool" [(.tup ts)] m = .ok (.bl false) m := (isi_ok2 rfl (by decide +kernel)).trans (by rw [show isaT "tuple" "bool" = false from by decide +kernel])
theorem isL_bool : fIsi "bool" [(.lst ts)] m = .ok (.bl false) m := (isi_ok2 rfl (by decide +kernel)).trans (by rw [show isaT "list" "bool" = false from by decide +kernel])
theorem isA_bool : fIsi "bool" [(.arg ns)] m = .ok (.bl false) m := (isi_ok2 rfl (by decide +kernel)).trans (by rw [show isaT "list" "bool" = false from by decide +kernel])
theorem isN_str : fIsi "str" [.non] m = .ok (.bl false) m := (isi_ok2 rfl (by decide +kernel)).trans (by rw [show isaT "NoneType" "str" = false from by decide +kernel])
theorem isB_str {p : Bool} : fIsi "str" [(.bl p)] m = .ok (.bl false) m := (isi_ok2 rfl (by decide +kernel)).trans (by rw [show isaT "bool" "str" = false from by decide +kernel])
theorem isI_str : fIsi "str" [(.int i)] m = .ok (.bl false) m := (isi_ok2 rfl (by decide +kernel)).trans (by rw [show isaT "int" "str" = false from by decide +kernel])
theorem isS_str : fIsi "str" [(.str s)] m = .ok (.bl true) m := (isi_ok2 rfl (by decide +kernel)).trans (by rw [show isaT "str" "str" = true from by decide +kernel])
theorem isT_str : fIsi "str" [(.tup ts)] m = .ok (.bl false) m := (isi_ok2 rfl (by decide +kernel)).trans (by rw [show isaT "tuple" "str" = false from by decide +kernel])
theorem isL_str : fIsi "str" [(.lst ts)] m = .ok (.bl false) m := (isi_ok2 rfl (by decide +kernel)).trans (by rw [show isaT "list" "str" = false from by decide +kernel])
theorem isA_str : fIsi "str" [(.arg ns)] m = .ok (.bl false) m := (isi_ok2 rfl (by decide +kernel)).trans (by rw [show isaT "list" "str" = false from by decide +kernel])
theorem isN_list : fIsi "list" [.non] m = .ok (.bl false) m := (isi_ok2 rfl (by decide +kernel)).trans (by rw [show isaT "NoneType" "list" = false from by decide +kernel])
theorem isB_list {p : Bool} : fIsi "list" [(.bl p)] m = .ok (.bl false) m := (isi_ok2 rfl (by decide +kernel)).trans (by rw [show isaT "bool" "list" = false from by decide +kernel])
theorem isI_list : fIsi "list" [(.int i)] m = .ok (.bl false) m := (isi_ok2 rfl (by decide +kernel)).trans (by rw [show isaT "int" "list" = false from by decide +kernel])
theorem isS_list : fIsi "list" [(.str s)] m = .ok (.bl false) m := (isi_ok2 rfl (by decide +kernel)).trans (by rw [show isaT "str" "list" = false from by decide +kernel])
theorem isT_list : fIsi "list" [(.tup ts)] m = .ok (.bl false) m := (isi_ok2 rfl (by decide +kernel)).trans (by rw [show isaT "tuple" "list" = false from by decide +kernel])
theorem isL_list : fIsi "list" [(.lst ts)] m = .ok (.bl true) m := (isi_ok2 rfl (by decide +kernel)).trans (by rw [show isaT "list" "list" = true from by decide +kernel])
theorem isA_list : fIsi "list" [(.arg ns)] m = .ok (.bl true) m := (isi_ok2 rfl (by decide +kernel)).trans (by rw [show isaT "list" "list" = true from by decide +kernel])
theorem isN_tuple : fIsi "tuple" [.non] m = .ok (.bl false) m := (isi_ok2 rfl (by decide +kernel)).trans (by rw [show isaT "NoneType" "tuple" = false from by decide +kernel])
theorem isB_tuple {p : Bool} : fIsi "tuple" [(.bl p)] m = .ok (.bl false) m := (isi_ok2 rfl (by decide +kernel)).trans (by rw [show isaT "bool" "tuple" = false from by decide +kernel])
theorem isI_tuple : fIsi "tuple" [(.int i)] m = .ok (.bl false) m := (isi_ok2 rfl (by decide +kernel)).trans (by rw [show isaT "int" "tuple" = false from by decide +kernel])
theorem isS_tuple : fIsi "tuple" [(.str s)] m = .ok (.bl false) m := (isi_ok2 rfl (by decide +kernel)).trans (by rw [show isaT "str" "tuple" = false from by decide +kernel])
theorem isT_tuple : fIsi "tuple" [(.tup ts)] m = .ok (.bl true) m := (isi_ok2 rfl (by decide +kernel)).trans (by rw [show isaT "tuple" "tuple" = true from by decide +kernel])
theorem isL_tuple : fIsi "tuple" [(.lst ts)] m = .ok (.bl false) m := (isi_ok2 rfl (by decide +kernel)).trans (by rw [show isaT "list" "tuple" = false from by decide +kernel])
theorem isA_tuple : fIsi "tuple" [(.arg ns)] m = .ok (.bl false) m := (isi_ok2 rfl (by decide +kernel)).trans (by rw [show isaT "list" "tuple" = false from by decide +kernel])
theorem isN_dict : fIsi "dict" [.non] m = .ok (.bl false) m := (isi_ok2 rfl (by decide +kernel)).trans (by rw [show isaT "NoneType" "dict" = false from by decide +kernel])
theorem isB_dict {p : Bool} : fIsi "dict" [(.bl p)] m = .ok (.bl false) m := (isi_ok2 rfl (by decide +kernel)).trans (by rw [show isaT "bool" "dict" = false from by decide +kernel])
theorem isI_dict : fIsi "dict" [(.int i)] m = .ok (.bl false) m := (isi_ok2 rfl (by decide +kernel)).trans (by rw [show isaT "int" "dict" = false from by decide +kernel])
theorem isS_dict : fIsi "dict" [(.str s)] m = .ok (.bl false) m := (isi_ok2 rfl (by decide +kernel)).trans (by rw [show isaT "str" "dict" = false from by decide +kernel])
theorem isT_dict : fIsi "dict" [(.tup ts)] m = .ok (.bl false) m := (isi_ok2 rfl (by decide +kernel)).trans (by rw [show isaT "tuple" "dict" = false from by decide +kernel])
theorem isL_dict : fIsi "dict" [(.lst ts)] m = .ok (.bl false) m := (isi_ok2 rfl (by decide +kernel)).trans (by rw [show isaT "list" "dict" = false from by decide +kernel])
theorem isA_dict : fIsi "dict" [(.arg ns)] m = .ok (.bl false) m := (isi_ok2 rfl (by decide +kernel)).trans (by rw [show isaT "list" "dict" = false from by decide +kernel])
end
theorem atT_lt {α : Type} {xs : List α} {i : Int} {x : α} (h0 : 0 ≤ i) (h : xs[i.toNat]? = some x) : atT xs i = some x := by
  unfold atT ixT
  have hl := (List.getElem?_eq_some_iff.mp h).1
  rw [if_pos h0, if_pos (by omega)]
  exact h
theorem atT_nat {α : Type} {xs : List α} {n : Nat} {x : α} (h : xs[n]? = some x) : atT xs (n : Int) = some x := atT_lt (by omega) (by rwa [Int.toNat_natCast])
theorem cutT_to {α : Type} (xs : List α) (n : Nat) : cutT xs none (some (n : Int)) = xs.take n := by
  unfold cutT sIxT
  simp only
  rw [if_neg (by omega), List.drop_zero, Nat.sub_zero, Int.toNat_natCast]
  by_cases h : n ≤ xs.length
  · rw [Nat.min_eq_left h]
  · rw [Nat.min_eq_right (by omega), List.take_of_length_le (Nat.le_refl _), List.take_of_length_le (by omega)]
theorem cutT_from {α : Type} (xs : List α) (n : Nat) : cutT xs (some (n : Int)) none = xs.drop n := by
  unfold cutT sIxT
  simp only
  rw [if_neg (by omega), Int.toNat_natCast]
  by_cases h : n ≤ xs.length
  · rw [Nat.min_eq_left h, List.take_of_length_le (by rw [List.length_drop]; omega)]
  · rw [Nat.min_eq_right (by omega), List.drop_of_length_le (Nat.le_refl _), List.drop_of_length_le (by omega), List.take_nil]
theorem forL_find2 {tg : Tg} {kl : List Nat} {b : FS} {C : Mem → Prop} {m : Mem} {ts : TSt} {r : TV} (bad : TV → Bool) (hC : C m) {xs : List TV} (h : ∀ x ∈ xs, ∃ ts1 ts2, setT tg x ts = some ts1 ∧ b ts1 m = (if bad x = true then .rt r m else .nx ts2 m) ∧ wipeT ts2 kl = ts) :
    forL tg kl b C xs ts m = if xs.any bad = true then .rt r m else .nx ts m := forL_find bad hC fun x hx => by
  obtain ⟨ts1, ts2, e1, e2, e3⟩ := h x hx
  refine ⟨ts1, e1, fun hb => by rw [e2, if_pos hb], fun hb => ⟨ts2, .inl (by rw [e2, hb]; rfl), e3⟩⟩
theorem forL_id2 {tg : Tg} {kl : List Nat} {b : FS} {C : Mem → Prop} {m : Mem} {ts : TSt} (hC : C m) {xs : List TV} (h : ∀ x ∈ xs, ∃ ts1 ts2, setT tg x ts = some ts1 ∧ b ts1 m = .nx ts2 m ∧ wipeT ts2 kl = ts) :
    forL tg kl b C xs ts m = .nx ts m := forL_id hC fun x hx => by
  obtain ⟨ts1, ts2, e1, e2, e3⟩ := h x hx
  exact ⟨ts1, e1, ts2, .inl e2, e3⟩
/-- .. by a return that the item tells -/
theorem forL_pick {tg : Tg} {kl : List Nat} {b : FS} {C : Mem → Prop} {m : Mem} {ts : TSt} (f : TV → Option TV) (hC : C m) : ∀ {xs : List TV}, (∀ x ∈ xs, ∃ ts1 ts2, setT tg x ts = some ts1 ∧ b ts1 m = (match f x with
      | some r => .rt r m
      | none => .nx ts2 m) ∧ wipeT ts2 kl = ts) →
    forL tg kl b C xs ts m = match xs.findSome? f with
      | some r => .rt r m
      | none => .nx ts m
  | [], _ => by unfold forL; rw [if_pos hC]; rfl
  | x :: xs, h => by
    obtain ⟨ts1, ts2, e1, e2, e3⟩ := h x List.mem_cons_self
    have ih := forL_pick f hC (xs := xs) (fun y hy => h y (List.mem_cons_of_mem _ hy))
    unfold forL
    rw [if_pos hC, e1, List.findSome?_cons]
    cases q : f x with
    | some r =>
      rw [q] at e2
      simp only [e2]
    | none =>
      rw [q] at e2
      simp only [e2, e3]
      exact ih
theorem beqC_t {a b : Cs} (h : a = b) : (a == b) = true := beq_iff_eq.mpr h
theorem beqC_f {a b : Cs} (h : a ≠ b) : (a == b) = false := beq_eq_false_iff_ne.mpr h
theorem beqI_t {a b : Int} (h : a = b) : (a == b) = true := beq_iff_eq.mpr h
theorem beqI_f {a b : Int} (h : a ≠ b) : (a == b) = false := beq_eq_false_iff_ne.mpr h
theorem strsOf1 : ∀ l : List Nat, strsOf (l.map fun c => TV.str [c]) = some (l.map fun c => [c])
  | [] => rfl
  | c :: l => by
    show (strsOf (l.map fun c => TV.str [c])).map _ = _
    rw [strsOf1 l]
    rfl
theorem join1 : ∀ l : List Nat, joinT [] (l.map fun c => [c]) = l
  | [] => rfl
  | [c] => rfl
  | c :: d :: l => by
    show [c] ++ ([] ++ joinT [] (((d :: l).map fun c => [c]))) = _
    rw [join1 (d :: l)]
    rfl
theorem sum1 : ∀ l : List Nat, ((l.map fun c => [c]).map (·.length)).sum = l.length
  | [] => rfl
  | c :: l => by
    show 1 + ((l.map fun c => [c]).map (·.length)).sum = l.length + 1
    rw [sum1 l]
    omega
theorem r_join1 {l : List Nat} {m : Mem} (h : l.length ≤ SL) : fJoin (.str []) [.lst (l.map fun c => .str [c])] m = .ok (.str l) m := by
  show opt (strsOf (l.map fun c => TV.str [c])) _ = _
  rw [strsOf1]
  show grd _ _ = _
  rw [join1]
  exact grd_pos (by rw [sum1]; simpa using h)
/-! ### and, or, chains: by a bool that is not seen -/
def andK (x : TV) (m : Mem) (k : Mem → R TV) : R TV := match x with
  | .bl true => k m
  | .bl false => .ok (.bl false) m
  | _ => .stuck
def orK (x : TV) (m : Mem) (k : Mem → R TV) : R TV := match x with
  | .bl false => k m
  | .bl true => .ok (.bl true) m
  | _ => .stuck
theorem evAnd_one {v : Ev} {a : E} : evAnd v [a] = evE v a := by unfold evAnd; rfl
theorem evAnd_cons {v : Ev} {a b : E} {r : List E} : evAnd v (a :: b :: r) = fun ts m => (evE v a ts m).bind fun x m1 => andK x m1 fun m2 => evAnd v (b :: r) ts m2 := by
  rw [evAnd]
  rfl
theorem evOr_one {v : Ev} {a : E} : evOr v [a] = evE v a := by unfold evOr; rfl
theorem evOr_cons {v : Ev} {a b : E} {r : List E} : evOr v (a :: b :: r) = fun ts m => (evE v a ts m).bind fun x m1 => orK x m1 fun m2 => evOr v (b :: r) ts m2 := by
  rw [evOr]
  rfl
theorem ev_cmp2 {v : Ev} {k l : Nat} {a b c : E} : evE v (.cmp2 k l a b c) = fun ts m => (evE v a ts m).bind fun x m1 => (evE v b ts m1).bind fun y m2 => (cmpF k x y m2).bind fun z m3 => andK z m3 fun m4 => (evE v c ts m4).bind fun u m5 => cmpF l y u m5 := by
  rw [evE]
  rfl
theorem andK_b {p : Bool} {m : Mem} {k : Mem → R TV} : andK (.bl p) m k = if p = true then k m else .ok (.bl false) m := by cases p <;> rfl
theorem orK_b {p : Bool} {m : Mem} {k : Mem → R TV} : orK (.bl p) m k = if p = true then .ok (.bl true) m else k m := by cases p <;> rfl
theorem if_andV {p q : Bool} {m : Mem} : (if p = true then R.ok (TV.bl q) m else R.ok (TV.bl false) m) = R.ok (TV.bl (p && q)) m := by cases p <;> rfl
theorem if_orV {p q : Bool} {m : Mem} : (if p = true then R.ok (TV.bl true) m else R.ok (TV.bl q) m) = R.ok (TV.bl (p || q)) m := by cases p <;> rfl
theorem if_andB {p q : Bool} {m : Mem} : (if p = true then R.ok q m else R.ok false m) = R.ok (p && q) m := by cases p <;> rfl
theorem if_orB {p q : Bool} {m : Mem} : (if p = true then R.ok true m else R.ok q m) = R.ok (p || q) m := by cases p <;> rfl
theorem it_0 {x : TV} {m : Mem} : itT 0 [x] m = lofA m x := rfl
theorem it_1 {us : List TV} {m : Mem} : itT 1 [.tup us] m = some us := rfl
theorem it_2 {s : Cs} {m : Mem} : itT 2 [.str s] m = some (s.map fun c => .str [c]) := rfl
theorem it_3i {i : Int} {m : Mem} : itT 3 [.int i] m = oif (-4611686018427387904 ≤ i ∧ i < 4611686018427387904) ((List.range i.toNat).map fun (i : Nat) => .int i) := rfl
theorem it_3 {n : Nat} {m : Mem} (h : n < 4611686018427387904) : itT 3 [.int n] m = some ((List.range n).map fun (i : Nat) => .int i) := by
  rw [it_3i]
  unfold oif
  rw [if_pos ⟨by omega, by omega⟩, Int.toNat_natCast]
theorem noX_okI {α : Type} {a : α} {m : Mem} : noX (R.ok a m) = .ok a m := rfl
theorem tgS_nm {i : Nat} : tgS (.nm i) = [i] := rfl
theorem tgS_tu {is : List Nat} : tgS (.tu is) = is := rfl
theorem lofA_l {ts : List TV} {m : Mem} : lofA m (.lst ts) = some ts := rfl
theorem lofA_a {ns : List Int} {m : Mem} : lofA m (.arg ns) = some (ns.map .int) := rfl
theorem cut_new {m ext : Mem} {xs : List TV} (h : belows m.length xs = true) : cut m (m ++ ext) xs = m := by
  unfold cut
  rw [if_pos ⟨h, by rw [List.length_append]; omega, fun k hk => .inl (List.getElem?_append_left hk)⟩]
  exact List.take_left
theorem fin_new {t : TV} {m ext : Mem} (h : below m.length t = true) : fin m (.rt t (m ++ ext)) = .ok t m := by
  show R.ok t (cut m (m ++ ext) [t]) = _
  rw [cut_new (by unfold belows belows; rw [h]; rfl)]
theorem r_ord {c : Nat} {m : Mem} : fOrd [.str [c]] m = .ok (.int (c : Nat)) m := rfl
theorem r_listS {s : Cs} {m : Mem} : fListA false [.str s] m = .ok (.lst (s.map fun d => .str [d])) m := rfl
theorem it_5 {x : TV} {m : Mem} : itT 5 [x] m = (lofA m x).map List.reverse := rfl
theorem r_mkT {ts : List TV} {m : Mem} : mkL true ts m = .ok (.ref m.length) (m ++ [.lst ts]) := rfl
theorem getE_new {m : Mem} {c : Cell} : (m ++ [c])[m.length]? = some c := by
  rw [List.getElem?_append_right (Nat.le_refl _), Nat.sub_self]
  rfl
theorem r_tyL {α : Type} {r : R α} {m : Mem} {ts : List TV} : grd (tyM "list" (m ++ [.lst ts]) (.ref m.length) = true) r = r := grd_pos (by
  unfold tyM
  have : (lofA (m ++ [Cell.lst ts]) (.ref m.length)) = some ts := by
    show (match (m ++ [Cell.lst ts])[m.length]? with
      | some (.lst ts) => some ts
      | _ => none) = _
    rw [getE_new]
  simp only [this]
  show ("list" == "list" && true) = true
  decide)
theorem r_app {m : Mem} {ts : List TV} {y : TV} (h : ts.length < SL) : fAppend (.ref m.length) [y] (m ++ [.lst ts]) = .ok .non (m ++ [.lst (ts ++ [y])]) := by
  unfold fAppend
  simp only [getE_new]
  rw [grd_pos h]
  congr 1
  rw [List.set_append_right _ _ (Nat.le_refl _), Nat.sub_self]
  rfl
theorem r_joinR {l : List Nat} {m : Mem} (h : l.length ≤ SL) : fJoin (.str []) [.ref m.length] (m ++ [.lst (l.map fun c => .str [c])]) = .ok (.str l) (m ++ [.lst (l.map fun c => .str [c])]) := by
  unfold fJoin
  have : sof (m ++ [Cell.lst (l.map fun c => TV.str [c])]) (.ref m.length) = some (l.map fun c => TV.str [c]) := by
    show (match (m ++ [Cell.lst (l.map fun c => TV.str [c])])[m.length]? with
      | some (.lst ts) => some ts
      | _ => none) = _
    rw [getE_new]
  simp only [this]
  show opt (strsOf (l.map fun c => TV.str [c])) _ = _
  rw [strsOf1]
  show grd _ _ = _
  rw [join1]
  exact grd_pos (by rw [sum1]; simpa using h)
/-- a loop whose states are known -/
theorem forL_fold {tg : Tg} {kl : List Nat} {b : FS} {C : Mem → Prop} (S : Nat → TSt) (M : Nat → Mem) {xs : List TV} {ts : TSt} {m : Mem} (h0 : ts = S 0) (h1 : m = M 0) (hC : ∀ i, C (M i))
    (h : ∀ i x, xs[i]? = some x → ∃ ts1 ts2, setT tg x (S i) = some ts1 ∧ b ts1 (M i) = .nx ts2 (M (i + 1)) ∧ wipeT ts2 kl = S (i + 1)) : forL tg kl b C xs ts m = .nx (S xs.length) (M xs.length) := by
  subst h0
  subst h1
  obtain ⟨ts', m', e, h2, h3⟩ := forL_ind (tg := tg) (kl := kl) (b := b) (C := C) (fun i ts m => ts = S i ∧ m = M i) (fun i _ _ z => by rw [z.2]; exact hC i) (xs := xs) (i := 0) (ts := S 0) (m := M 0) ⟨rfl, rfl⟩ (fun j x ts m hx hI => by
    obtain ⟨rfl, rfl⟩ := hI
    rw [Nat.zero_add]
    obtain ⟨ts1, ts2, e1, e2, e3⟩ := h j x hx
    exact ⟨ts1, e1, ts2, _, .inl e2, e3, rfl⟩)
  rw [e, h2, h3, Nat.zero_add]
theorem wipe_nil {ts : TSt} : wipeT ts [] = ts := rfl
theorem wipe_cons {ts : TSt} {i : Nat} {is : List Nat} : wipeT ts (i :: is) = wipeT (ts.set i none) is := rfl
end T

namespace K36
open PySem PySem.Spec PyProof.Rows L2 T
def gl : Nat → TV
  | 0 => .int 9973
  | 1 => .int 137
  | _ => .non
def b0 : List T.S := [.set 1 (.int 0), .set 2 (.int 1), .for_ (.nm 3) 2 [.var 0] [3] [.set 1 (.bin 4 false (.bin 0 false (.var 1) (.bin 2 false (.blt 6 false [.var 3]) (.var 2))) (.gl 0)), .set 2 (.bin 4 false (.bin 2 false (.var 2) (.gl 1)) (.gl 0))], .ret (.var 1)]
/-- check_of -/
noncomputable def f0 : Sem := runD ⟨fun j => ([] : List Sem)[j]?, gl⟩ 1 4 b0
def b1 : List T.S := [.ret (.mth 3 false (.blt 1 false [.call 0 [.var 0]]) [.int 4])]
/-- check_word -/
noncomputable def f1 : Sem := runD ⟨fun j => ([f0] : List Sem)[j]?, gl⟩ 1 1 b1
def b2 : List T.S := [.set 3 (.ite (.c (.cmp 2 (.blt 0 false [.var 0]) (.int 0))) (.idx (.var 0) (.bin 4 false (.var 1) (.blt 0 false [.var 0]))) (.int 0)), .set 4 (.bin 0 false (.bin 0 false (.bin 4 false (.var 3) (.int 1000003)) (.bin 2 false (.bin 2 false (.int 31) (.var 1)) (.var 1))) (.int 1)), .ret (.bin 4 false (.bin 4 false (.bin 2 false (.bin 4 false (.bin 2 false (.var 4) (.int 48271)) (.int 999983)) (.int 7919)) (.int 524287)) (.var 2))]
/-- l_draw -/
noncomputable def f2 : Sem := runD ⟨fun j => ([f0, f1] : List Sem)[j]?, gl⟩ 3 5 b2
def b3 : List T.S := [.ret (.and_ [.isi (.var 0) 0, .not_ (.isi (.var 0) 1), .cmp 4 (.var 0) (.var 1)])]
/-- l_is_whole -/
noncomputable def f3 : Sem := runD ⟨fun j => ([f0, f1, f2] : List Sem)[j]?, gl⟩ 2 2 b3
def b4 : List T.S := [.set 2 (.call 2 [.var 0, .var 1, .int 61]), .ife (.c (.cmp 4 (.call 2 [.var 0, .bin 0 false (.var 1) (.int 1), .int 8]) (.int 0))) [.set 2 (.call 2 [.var 0, .bin 0 false (.var 1) (.int 2), .int 4001])] [], .set 3 (.str [32, 33, 34, 35, 36, 38, 39, 40, 41, 42, 43, 44, 45, 46, 47, 48, 49, 50, 51, 52, 53, 54, 55, 56, 57, 58, 59, 60, 61, 62, 63, 64, 65, 66, 67, 68, 69, 70, 71, 72, 73, 74, 75, 76, 77, 78, 79, 80, 81, 82, 83, 84, 85, 86, 87, 88, 89, 90, 91, 92, 93, 94, 95, 96, 97, 98, 99, 100, 101, 102, 103, 104, 105, 106, 107, 108, 109, 110, 111, 112, 113, 114, 115, 116, 117, 118, 119, 120, 121, 122, 123, 124, 125, 126]), .set 4 (.idx (.var 3) (.call 2 [.var 0, .bin 0 false (.var 1) (.int 3), .int 94])), .set 5 (.idx (.lst false [.int 1, .int 9]) (.call 2 [.var 0, .bin 0 false (.var 1) (.int 4), .int 2])), .set 6 (.lst true []), .for_ (.nm 7) 3 [.var 2] [7, 8] [.set 8 (.idx (.var 3) (.call 2 [.var 0, .bin 0 false (.bin 0 false (.var 1) (.int 5)) (.var 7), .int 94])), .ife (.c (.cmp 2 (.call 2 [.var 0, .bin 0 false (.bin 0 false (.var 1) (.int 7)) (.bin 2 false (.int 3) (.var 7)), .var 5]) (.int 0))) [.set 8 (.var 4)] [], .ex (.mth 1 false (.var 6) [.var 8])], .ret (.mth 0 false (.str []) [.var 6])]
/-- l_signs -/
noncomputable def f4 : Sem := runD ⟨fun j => ([f0, f1, f2, f3] : List Sem)[j]?, gl⟩ 2 9 b4
def b5 : List T.S := [.set 1 (.int 0), .for_ (.nm 2) 5 [.blt 7 false [.var 0]] [2] [.set 1 (.bin 4 false (.bin 0 false (.bin 2 false (.var 1) (.int 137)) (.blt 6 false [.var 2])) (.int 9973))], .ret (.var 1)]
/-- l_sum -/
noncomputable def f5 : Sem := runD ⟨fun j => ([f0, f1, f2, f3, f4] : List Sem)[j]?, gl⟩ 1 3 b5
def b6 : List T.S := [.ife (.or_ [.not (.e (.isi (.var 0) 2)), .c (.cmp 5 (.blt 0 false [.var 0]) (.int 4))]) [.ret (.bl false)] [], .set 2 (.int 0), .for_ (.nm 3) 2 [.var 0] [3] [.ife (.c (.cmp 7 (.var 3) (.str [48, 49, 50, 51, 52, 53, 54, 55, 56, 57]))) [.ret (.bl false)] [], .set 2 (.bin 0 false (.bin 2 false (.var 2) (.int 10)) (.mth 2 false (.str [48, 49, 50, 51, 52, 53, 54, 55, 56, 57]) [.var 3]))], .ret (.cmp 4 (.var 2) (.var 1))]
/-- l_figures -/
noncomputable def f6 : Sem := runD ⟨fun j => ([f0, f1, f2, f3, f4, f5] : List Sem)[j]?, gl⟩ 2 4 b6
def b7 : List T.S := [.set 1 (.lst false [.call 4 [.var 0, .int 10], .call 4 [.var 0, .int 5000]]), .for_ (.nm 2) 3 [.int 4] [2, 3, 4] [.set 3 (.idx (.var 1) (.bin 4 false (.var 2) (.int 2))), .set 4 (.call 5 [.var 3]), .ife (.or_ [.not (.e (.call 3 [.call 0 [.var 3], .var 4])), .not (.e (.call 6 [.call 1 [.var 3], .var 4]))]) [.ret (.bl false)] []], .ret (.bl true)]
/-- law -/
noncomputable def f7 : Sem := runD ⟨fun j => ([f0, f1, f2, f3, f4, f5, f6] : List Sem)[j]?, gl⟩ 1 5 b7
end K36


namespace K36
open PySem PySem.Spec PyProof.Rows L2 T
def top (i : Nat) : Stmt := PySem.Challenge.pw_turnleaf_k36_checks.main.body.getD i (.Pass ⟨0, 0, 0, 0⟩)
def fnm_0 : List PySem.Str := ["check_of", "check_word", "_law_draw", "_law_is_whole", "_law_signs", "_law_sum", "_law_figures", "law"]
def fnm : List PySem.Str := fnm_0
def gnm_0 : List PySem.Str := ["PRIME", "BASE"]
def gnm : List PySem.Str := gnm_0
def n0 : List Str := ["text", "total", "power", "sign"]
def p0 : List Str := ["text"]
def n1 : List Str := ["text"]
def p1 : List Str := ["text"]
def n2 : List Str := ["_law_script", "_law_k", "_law_many", "_law_cell", "_law_seed"]
def p2 : List Str := ["_law_script", "_law_k", "_law_many"]
def n3 : List Str := ["_law_found", "_law_due"]
def p3 : List Str := ["_law_found", "_law_due"]
def n4 : List Str := ["_law_script", "_law_base", "_law_size", "_law_some", "_law_alike", "_law_rare", "_law_signs_here", "_law_k", "_law_sign"]
def p4 : List Str := ["_law_script", "_law_base"]
def n5 : List Str := ["_law_text", "_law_total", "_law_sign"]
def p5 : List Str := ["_law_text"]
def n6 : List Str := ["_law_found", "_law_due", "_law_number", "_law_sign"]
def p6 : List Str := ["_law_found", "_law_due"]
def n7 : List Str := ["_law_script", "_law_texts", "_law_k", "_law_text", "_law_due"]
def p7 : List Str := ["_law_script"]
theorem sc0 : C8.scC n0 p0 (defScope (top 3)) = true := by decide +kernel
theorem ok0 : okSs ⟨n0, defScope (top 3), fnm, gnm, false, true⟩ b0 (defBody (top 3)) = true := by decide +kernel
theorem sc1 : C8.scC n1 p1 (defScope (top 4)) = true := by decide +kernel
theorem ok1 : okSs ⟨n1, defScope (top 4), fnm, gnm, false, true⟩ b1 (defBody (top 4)) = true := by decide +kernel
theorem sc2 : C8.scC n2 p2 (defScope (top 6)) = true := by decide +kernel
theorem ok2 : okSs ⟨n2, defScope (top 6), fnm, gnm, false, true⟩ b2 (defBody (top 6)) = true := by decide +kernel
theorem sc3 : C8.scC n3 p3 (defScope (top 7)) = true := by decide +kernel
theorem ok3 : okSs ⟨n3, defScope (top 7), fnm, gnm, false, true⟩ b3 (defBody (top 7)) = true := by decide +kernel
theorem sc4 : C8.scC n4 p4 (defScope (top 8)) = true := by decide +kernel
theorem ok4 : okSs ⟨n4, defScope (top 8), fnm, gnm, false, true⟩ b4 (defBody (top 8)) = true := by decide +kernel
theorem sc5 : C8.scC n5 p5 (defScope (top 9)) = true := by decide +kernel
theorem ok5 : okSs ⟨n5, defScope (top 9), fnm, gnm, false, true⟩ b5 (defBody (top 9)) = true := by decide +kernel
theorem sc6 : C8.scC n6 p6 (defScope (top 10)) = true := by decide +kernel
theorem ok6 : okSs ⟨n6, defScope (top 10), fnm, gnm, false, true⟩ b6 (defBody (top 10)) = true := by decide +kernel
theorem sc7 : C8.scC n7 p7 (defScope (top 11)) = true := by decide +kernel
theorem ok7 : okSs ⟨n7, defScope (top 11), fnm, gnm, false, true⟩ b7 (defBody (top 11)) = true := by decide +kernel
/-! ### the head -/
def dfs : List He.DefD := [⟨("check_of", none), "check_of", "check_of", defArgs (top 3), defBody (top 3), defScope (top 3), [], []⟩, ⟨("check_word", none), "check_word", "check_word", defArgs (top 4), defBody (top 4), defScope (top 4), [], []⟩, ⟨("_law_draw", none), "_law_draw", "_law_draw", defArgs (top 6), defBody (top 6), defScope (top 6), [], []⟩, ⟨("_law_is_whole", none), "_law_is_whole", "_law_is_whole", defArgs (top 7), defBody (top 7), defScope (top 7), [], []⟩, ⟨("_law_signs", none), "_law_signs", "_law_signs", defArgs (top 8), defBody (top 8), defScope (top 8), [], []⟩, ⟨("_law_sum", none), "_law_sum", "_law_sum", defArgs (top 9), defBody (top 9), defScope (top 9), [], []⟩, ⟨("_law_figures", none), "_law_figures", "_law_figures", defArgs (top 10), defBody (top 10), defScope (top 10), [], []⟩, ⟨("law", none), "law", "law", defArgs (top 11), defBody (top 11), defScope (top 11), [], []⟩]
def glos : List Str := fnm
def frees : List Str := bltAll
def fa : List He.Fa := fnm.map .glo ++ bltAll.map .free ++ [.int "PRIME" 9973, .int "BASE" 137]
abbrev R : PySem.W.OpenRow := PySem.W.OpenLaw.row PySem.Challenge.rw_turnleaf_k36_checks
abbrev hk : PySem.W.Hook := He.hookD 4 fa dfs
def ob (s : PySem.W.SharedT) : He.AlD := He.obsDG 4 fa dfs (HandSHeadRun.getT s)
theorem ob_eq (s : PySem.W.SharedT) : ob s = hk.obs s.abs := He.obsDG_eq (HandSHeadRun.getT_eq s)
def loose_0 : List PySem.Str := ["BASE", "PRIME", "check_of", "check_word", "_law_draw", "_law_is_whole", "_law_signs", "_law_sum", "_law_figures"]
def loose : List PySem.Str := loose_0
theorem run (w : World) : HandSHeadRun.RunEq R (PySem.W.view R.prog [11]) hk ob 100000 loose w := by
  intro os
  kernel_rfl
theorem gls {K : PySem.W.Frag} {h : Heap} {mg : Str → Option Value} (X : K.In h) (G : h.Ns mainGlobals mg) (c : He.SaysD fa dfs K) {g : Gt} : ∀ (i : Nat) (x : Str), gnm[i]? = some x → ∃ u vv, mg x = some u ∧ RelV vv u ∧ ∀ w, Rv g w (gl i) vv
  | 0, x, e => by
    cases e
    obtain ⟨t, q⟩ := He.int_ok X G (c.fact 22 (f := .int "PRIME" 9973) rfl)
    exact ⟨_, .int 9973, q, ⟨t, rfl⟩, fun w => .int _⟩
  | 1, x, e => by
    cases e
    obtain ⟨t, q⟩ := He.int_ok X G (c.fact 23 (f := .int "BASE" 137) rfl)
    exact ⟨_, .int 137, q, ⟨t, rfl⟩, fun w => .int _⟩
  | i + 2, x, e => by cases e
theorem facts {P : Program} {w : World} {K : PySem.W.Frag} {h : Heap} {mg : Str → Option Value} {f : Addr} (X : K.In h) (G : h.Ns mainGlobals mg) (hfa : mg ("law" : Str) = some (.ref f)) (c : He.SaysD fa dfs K) :
    ∃ (g : Gt) (fd : FuncData), g.K = K ∧ (∀ (s : Shared) (v : Value), BindsTo s fd ⟨[v], []⟩ [("_law_script", v)]) ∧ ∀ base : Heap, K.In base → base.Ns mainGlobals mg → FnOk P w K mg base L2.CX0 8 f fd ["_law_script"] (fun vs H Q _ => spT g 1 f7 vs H Q fun _ _ _ => False) := by
  obtain ⟨fd0, F0⟩ := c.def_ 0 rfl
  obtain ⟨fd1, F1⟩ := c.def_ 1 rfl
  obtain ⟨fd2, F2⟩ := c.def_ 2 rfl
  obtain ⟨fd3, F3⟩ := c.def_ 3 rfl
  obtain ⟨fd4, F4⟩ := c.def_ 4 rfl
  obtain ⟨fd5, F5⟩ := c.def_ 5 rfl
  obtain ⟨fd6, F6⟩ := c.def_ 6 rfl
  obtain ⟨fd7, F7⟩ := c.def_ 7 rfl
  have e := hfa.symm.trans (He.glo_ok X G (c.fact 7 (f := .glo "law") rfl))
  cases e
  have b := FunD.bindsA (ps := ["_law_script"]) F7 fun _ _ _ _ _ _ us hl => match us, hl with | [_], _ => rfl
  refine ⟨⟨K, fun _ => 0, fun _ => ""⟩, fd7, rfl, fun s v => b s [v] rfl, fun base _ _ => ?_⟩
  have M : MgOk ⟨K, fun _ => 0, fun _ => ""⟩ mg gnm gl := ⟨fun x hx => ?_, gls X G c⟩
  · have E0 : EvOk ⟨K, fun _ => 0, fun _ => ""⟩ P w mg base 0 fnm [] := EvOk.nil
    have E1 : EvOk ⟨K, fun _ => 0, fun _ => ""⟩ P w mg base 1 fnm [f0] := E0.add M (ps := p0) (N := n0) (b := b0) rfl F0 (He.glo_ok X G (c.fact 0 (f := .glo "check_of") rfl)) (FunD.bindsN (ps := p0) F0 fun _ _ _ _ _ _ us hl => match us, hl with | [_], _ => rfl) sc0 ok0
    have E2 : EvOk ⟨K, fun _ => 0, fun _ => ""⟩ P w mg base 2 fnm [f0, f1] := E1.add M (ps := p1) (N := n1) (b := b1) rfl F1 (He.glo_ok X G (c.fact 1 (f := .glo "check_word") rfl)) (FunD.bindsN (ps := p1) F1 fun _ _ _ _ _ _ us hl => match us, hl with | [_], _ => rfl) sc1 ok1
    have E3 : EvOk ⟨K, fun _ => 0, fun _ => ""⟩ P w mg base 3 fnm [f0, f1, f2] := E2.add M (ps := p2) (N := n2) (b := b2) rfl F2 (He.glo_ok X G (c.fact 2 (f := .glo "_law_draw") rfl)) (FunD.bindsN (ps := p2) F2 fun _ _ _ _ _ _ us hl => match us, hl with | [_, _, _], _ => rfl) sc2 ok2
    have E4 : EvOk ⟨K, fun _ => 0, fun _ => ""⟩ P w mg base 4 fnm [f0, f1, f2, f3] := E3.add M (ps := p3) (N := n3) (b := b3) rfl F3 (He.glo_ok X G (c.fact 3 (f := .glo "_law_is_whole") rfl)) (FunD.bindsN (ps := p3) F3 fun _ _ _ _ _ _ us hl => match us, hl with | [_, _], _ => rfl) sc3 ok3
    have E5 : EvOk ⟨K, fun _ => 0, fun _ => ""⟩ P w mg base 5 fnm [f0, f1, f2, f3, f4] := E4.add M (ps := p4) (N := n4) (b := b4) rfl F4 (He.glo_ok X G (c.fact 4 (f := .glo "_law_signs") rfl)) (FunD.bindsN (ps := p4) F4 fun _ _ _ _ _ _ us hl => match us, hl with | [_, _], _ => rfl) sc4 ok4
    have E6 : EvOk ⟨K, fun _ => 0, fun _ => ""⟩ P w mg base 6 fnm [f0, f1, f2, f3, f4, f5] := E5.add M (ps := p5) (N := n5) (b := b5) rfl F5 (He.glo_ok X G (c.fact 5 (f := .glo "_law_sum") rfl)) (FunD.bindsN (ps := p5) F5 fun _ _ _ _ _ _ us hl => match us, hl with | [_], _ => rfl) sc5 ok5
    have E7 : EvOk ⟨K, fun _ => 0, fun _ => ""⟩ P w mg base 7 fnm [f0, f1, f2, f3, f4, f5, f6] := E6.add M (ps := p6) (N := n6) (b := b6) rfl F6 (He.glo_ok X G (c.fact 6 (f := .glo "_law_figures") rfl)) (FunD.bindsN (ps := p6) F6 fun _ _ _ _ _ _ us hl => match us, hl with | [_, _], _ => rfl) sc6 ok6
    exact law_ok (ps := p7) (N := n7) (b := b7) E7 M F7 sc7 ok7
  · have hx' : He.Fa.free x ∈ fa := List.mem_append_left _ (List.mem_append_right _ (List.mem_map_of_mem hx))
    obtain ⟨i, hi, e⟩ := List.mem_iff_getElem.mp hx'
    exact He.free_ok X G (c.fact i (f := .free x) (by rw [List.getElem?_eq_getElem hi, e]))
end K36


namespace K36
open T
local macro_rules
  | `(tactic| walk_at "ev") => `(tactic| simp (disch := first | assumption | omega | decide) only [mkI, ev_cmp2, gl, wipe_nil, wipe_cons, evSs, evS, evE, evEs, evB, evO, evAnd_one, evAnd_cons, evOr_one, evOr_cons, andK_b, orK_b, if_andV, if_orV, if_andB, if_orB, it_0, it_1, it_2, it_3, noX_okI, tgS_nm, tgS_tu, lofA_l, lofA_a, grd_pos, List.length_cons, List.length_nil, Nat.reduceAdd, evAll, evAny, evBs, e2, e1, eN, aCons, aNil, bind_okI, toS_okI, seq_nx, seq_rt, opt_some, binF, cmpF, bltF, mthF, mthT, isiT,
      List.map_cons, List.map_nil, List.cons_append, List.nil_append, List.replicate, List.getElem?_cons_zero, List.getElem?_cons_succ, List.set_cons_zero, List.set_cons_succ,
      r_addI, r_addS, r_sub, r_neg, r_mulL, r_mulR, r_mod, r_fdiv, r_pow, r_lt, r_ltS, r_le, r_gt, r_ge, r_eqI, r_eqS, r_eqB, r_neI, r_neS, r_neB, r_inS, r_niS, r_ixS, r_ixA, r_ixL, r_ixT, r_lenS, r_lenA, r_lenL, r_lenT, r_min, r_max, r_abs, r_slS, r_slA, r_slL,
      r_toB, r_truB, r_truI, r_truS, r_tyS, r_mk, r_six, r_ord, r_listS, it_5, r_mkT, r_tyL, Option.map_some, fin_rt, nonN, nonB, nonI, nonS, nonT, nonL, beqC_t, beqC_f, beqI_t, beqI_f, Int.reducePow, Int.reduceToNat, Int.reduceNeg, Bool.or_self, Bool.false_or, Bool.true_or, Bool.or_false, Bool.or_true, Bool.false_and, Bool.and_false, Bool.and_self, Bool.true_and, Bool.and_true, bb1, bb2, bb3, bb4, ifT, ifF, ite_true, ite_false, Bool.false_eq_true, not_true_eq_false, not_false_eq_true, Bool.not_true, Bool.not_false, decide_eq_true, decide_eq_false, fin_rt, fin_nx,
      isN_int, isB_int, isI_int, isS_int, isN_bool, isB_bool, isI_bool, isS_bool, isN_str, isB_str, isI_str, isS_str])
def cell (ns : List Int) (k d : Int) : Int := if 0 < ns.length then ns.getD (k % ns.length).toNat 0 else d
def draw (ns : List Int) (k n : Int) : Int := (cell ns k 0 % 1000003 + 31 * k * k + 1) * 48271 % 999983 * 7919 % 524287 % n
theorem cell_at {ns : List Int} {k d : Int} (h : 0 < ns.length) : atT (ns.map TV.int) (k % ns.length) = some (.int (cell ns k d)) := by
  have h1 := Int.emod_nonneg k (b := (ns.length : Int)) (by omega)
  have h2 := Int.emod_lt_of_pos k (b := (ns.length : Int)) (by omega)
  refine atT_lt h1 ?_
  unfold cell
  rw [if_pos h, List.getElem?_map, List.getD_eq_getElem?_getD]
  rw [List.getElem?_eq_getElem (show (k % (ns.length : Int)).toNat < ns.length by omega)]
  rfl
theorem d_draw (ns : List Int) (k n : Int) (m : Mem) (hk : 0 ≤ k) (hk2 : k < 100000) (hn : 0 < n) : f2 [.arg ns, .int k, .int n] m = .ok (.int (draw ns k n)) m := by
  refine Eq.trans (runD_eq ?_) ?_
  · rfl
  unfold b2 draw
  by_cases h : 0 < ns.length
  · have h' : (0 : Int) < ns.length := by omega
    walk_at "ev"
    rw [cell_at (d := 0) h]
    walk_at "ev"
  · have h' : ¬ (0 : Int) < ns.length := by omega
    have hc : cell ns k 0 = 0 := if_neg h
    rw [hc]
    walk_at "ev"
theorem draw_lo (ns : List Int) (k n : Int) (hn : 0 < n) : 0 ≤ draw ns k n := Int.emod_nonneg _ (by omega)
theorem draw_hi (ns : List Int) (k n : Int) (hn : 0 < n) : draw ns k n < n := Int.emod_lt_of_pos _ hn
/-! ### sums -/
def poly : Cs → Int
  | [] => 0
  | c :: s => c + 137 * poly s
def step (a : Int × Int) (c : Nat) : Int × Int := ((a.1 + c * a.2) % 9973, a.2 * 137 % 9973)
def val (s : Cs) : Int × Int := s.foldl step (0, 1)
theorem val_bd : ∀ (s : Cs) (a : Int × Int), 0 ≤ a.1 ∧ a.1 < 9973 ∧ 0 ≤ a.2 ∧ a.2 < 9973 → 0 ≤ (s.foldl step a).1 ∧ (s.foldl step a).1 < 9973 ∧ 0 ≤ (s.foldl step a).2 ∧ (s.foldl step a).2 < 9973
  | [], a, h => h
  | c :: s, a, h => val_bd s _ ⟨Int.emod_nonneg _ (by decide), Int.emod_lt_of_pos _ (by decide), Int.emod_nonneg _ (by decide), Int.emod_lt_of_pos _ (by decide)⟩
theorem val_poly : ∀ (s : Cs) (a : Int × Int), (s.foldl step a).1 % 9973 = (a.1 + a.2 * poly s) % 9973
  | [], a => by simp [poly]
  | c :: s, a => by
    rw [List.foldl_cons, val_poly s]
    show ((a.1 + c * a.2) % 9973 + a.2 * 137 % 9973 * poly s) % 9973 = (a.1 + a.2 * (c + 137 * poly s)) % 9973
    rw [Int.add_emod, Int.emod_emod, Int.mul_emod, Int.emod_emod, ← Int.mul_emod, ← Int.add_emod]
    congr 1
    rw [Int.mul_add, Int.mul_assoc, Int.mul_comm (c : Int) a.2, Int.add_assoc]
def hor (s : Cs) : Int := s.foldl (fun (t : Int) (c : Nat) => (t * 137 + c) % 9973) 0
theorem hor_snoc (s : Cs) (c : Nat) : hor (s ++ [c]) = (hor s * 137 + c) % 9973 := by
  unfold hor
  rw [List.foldl_append]
  rfl
theorem hor_poly : ∀ s : Cs, hor s.reverse = poly s % 9973
  | [] => rfl
  | c :: s => by
    rw [List.reverse_cons, hor_snoc, hor_poly s]
    show (poly s % 9973 * 137 + c) % 9973 = (c + 137 * poly s) % 9973
    rw [Int.add_emod, Int.mul_emod, Int.emod_emod, ← Int.mul_emod, ← Int.add_emod, Int.add_comm, Int.mul_comm]
theorem sums (s : Cs) : (val s).1 = hor s.reverse := by
  have b := val_bd s (0, 1) (by decide)
  have e := val_poly s (0, 1)
  rw [hor_poly]
  rw [Int.emod_eq_of_lt b.1 b.2.1] at e
  unfold val
  rw [e, Int.zero_add, Int.one_mul]
theorem d_sum (s : Cs) (m : Mem) : f5 [.str s] m = .ok (.int (hor s.reverse)) m := by
  refine Eq.trans (runD_eq ?_) ?_
  · rfl
  unfold b5
  walk_at "ev"
  rw [forL_fold (fun i => [some (.str s), some (.int (hor (s.reverse.take i))), none]) (fun _ => m) (by rfl) (by rfl) (fun _ => trivial) ?h]
  case h =>
    intro j x hx
    rw [← List.map_reverse, List.getElem?_map] at hx
    cases e : s.reverse[j]? with
    | none => rw [e] at hx; cases hx
    | some c =>
      rw [e] at hx
      cases hx
      refine ⟨[some (.str s), some (.int (hor (s.reverse.take j))), some (.str [c])], [some (.str s), some (.int (hor (s.reverse.take (j + 1)))), some (.str [c])], rfl, ?_, rfl⟩
      walk_at "ev"
      rw [List.take_add_one, e]
      show _ = Rs.nx [_, some (.int (hor (s.reverse.take j ++ [c]))), _] _
      rw [hor_snoc]
  walk_at "ev"
  rw [List.length_reverse, List.length_map, ← List.length_reverse, List.take_length]
theorem d_chk (s : Cs) (m : Mem) : f0 [.str s] m = .ok (.int (val s).1) m := by
  refine Eq.trans (runD_eq ?_) ?_
  · rfl
  unfold b0
  walk_at "ev"
  rw [forL_fold (fun i => [some (.str s), some (.int (val (s.take i)).1), some (.int (val (s.take i)).2), none]) (fun _ => m) (by rfl) (by rfl) (fun _ => trivial) ?h]
  case h =>
    intro j x hx
    rw [List.getElem?_map] at hx
    cases e : s[j]? with
    | none => rw [e] at hx; cases hx
    | some c =>
      rw [e] at hx
      cases hx
      have ev : val (s.take (j + 1)) = step (val (s.take j)) c := by
        rw [List.take_add_one, e]
        unfold val
        rw [List.foldl_append]
        rfl
      have bd := val_bd (s.take j) (0, 1) (by decide)
      have bd : 0 ≤ (val (s.take j)).1 ∧ (val (s.take j)).1 < 9973 ∧ 0 ≤ (val (s.take j)).2 ∧ (val (s.take j)).2 < 9973 := bd
      refine ⟨[some (.str s), some (.int (val (s.take j)).1), some (.int (val (s.take j)).2), some (.str [c])], [some (.str s), some (.int (val (s.take (j + 1))).1), some (.int (val (s.take (j + 1))).2), some (.str [c])], rfl, ?_, rfl⟩
      rw [ev]
      unfold step
      generalize val (s.take j) = q at bd ⊢
      obtain ⟨q1, q2⟩ := q
      obtain ⟨h1, h2, h3, h4⟩ := bd
      dsimp only at h1 h2 h3 h4
      walk_at "ev"
  walk_at "ev"
  rw [List.length_map, List.take_length]
theorem d_whole (a b : Int) (m : Mem) : f3 [.int a, .int b] m = .ok (.bl (a == b)) m := by
  refine Eq.trans (runD_eq ?_) ?_
  · rfl
  unfold b3
  walk_at "ev"
/-! ### the texts -/
def SM : Cs := [32, 33, 34, 35, 36, 38, 39, 40, 41, 42, 43, 44, 45, 46, 47, 48, 49, 50, 51, 52, 53, 54, 55, 56, 57, 58, 59, 60, 61, 62, 63, 64, 65, 66, 67, 68, 69, 70, 71, 72, 73, 74, 75, 76, 77, 78, 79, 80, 81, 82, 83, 84, 85, 86, 87, 88, 89, 90, 91, 92, 93, 94, 95, 96, 97, 98, 99, 100, 101, 102, 103, 104, 105, 106, 107, 108, 109, 110, 111, 112, 113, 114, 115, 116, 117, 118, 119, 120, 121, 122, 123, 124, 125, 126]
theorem SM_at (i : Int) (h0 : 0 ≤ i) (h1 : i < 94) : atT SM i = some (SM.getD i.toNat 0) := by
  refine atT_lt h0 ?_
  rw [List.getD_eq_getElem?_getD, List.getElem?_eq_getElem (show i.toNat < SM.length by show i.toNat < 94; omega)]
  rfl
def sg (ns : List Int) (b : Int) (al : Nat) (r : Int) (k : Nat) : Nat := if 0 < draw ns (b + 7 + 3 * k) r then al else SM.getD (draw ns (b + 5 + k) 94).toNat 0
theorem d_signs (ns : List Int) (b : Int) (m : Mem) (hb : 0 ≤ b) (hb2 : b ≤ 5000) : ∃ t : Cs, f4 [.arg ns, .int b] m = .ok (.str t) m := by
  have q2 := SM_at (draw ns (b + 3) 94) (draw_lo _ _ _ (by decide)) (draw_hi _ _ _ (by decide))
  obtain ⟨r, hr, hr0⟩ : ∃ r : Int, atT [TV.int 1, TV.int 9] (draw ns (b + 4) 2) = some (.int r) ∧ 0 < r := by
    have h0 := draw_lo ns (b + 4) 2 (by decide)
    have h1 := draw_hi ns (b + 4) 2 (by decide)
    generalize draw ns (b + 4) 2 = d at h0 h1 ⊢
    have : d = 0 ∨ d = 1 := by omega
    rcases this with rfl | rfl
    · exact ⟨1, rfl, by decide⟩
    · exact ⟨9, rfl, by decide⟩
  generalize SM.getD (draw ns (b + 3) 94).toNat 0 = al at q2
  obtain ⟨z, hz, hzz⟩ : ∃ z : Nat, z ≤ 4000 ∧ (if draw ns (b + 1) 8 = 0 then draw ns (b + 2) 4001 else draw ns b 61) = z := by
    have h0 := draw_lo ns (b + 2) 4001 (by decide)
    have h1 := draw_hi ns (b + 2) 4001 (by decide)
    have h2 := draw_lo ns b 61 (by decide)
    have h3 := draw_hi ns b 61 (by decide)
    split
    · exact ⟨(draw ns (b + 2) 4001).toNat, by omega, by omega⟩
    · exact ⟨(draw ns b 61).toNat, by omega, by omega⟩
  refine ⟨(List.range z).map (sg ns b al r), Eq.trans (runD_eq ?_) ?_⟩
  · rfl
  unfold b4
  walk_at "ev"
  rw [d_draw ns _ _ _ (by omega) (by omega) (by omega)]
  walk_at "ev"
  rw [d_draw ns _ _ _ (by omega) (by omega) (by omega)]
  rcases Classical.em (draw ns (b + 1) 8 = 0) with h | h
  case' inl =>
    rw [if_pos h] at hzz
    try walk_at "ev"
    rw [d_draw ns _ _ _ (by omega) (by omega) (by omega), hzz]
  case' inr =>
    rw [if_neg h] at hzz
    rw [hzz]
  all_goals
    try walk_at "ev"
    rw [d_draw ns _ _ _ (by omega) (by omega) (by omega)]
    try walk_at "ev"
    rw [show atT [32, 33, 34, 35, 36, 38, 39, 40, 41, 42, 43, 44, 45, 46, 47, 48, 49, 50, 51, 52, 53, 54, 55, 56, 57, 58, 59, 60, 61, 62, 63, 64, 65, 66, 67, 68, 69, 70, 71, 72, 73, 74, 75, 76, 77, 78, 79, 80, 81, 82, 83, 84, 85, 86, 87, 88, 89, 90, 91, 92, 93, 94, 95, 96, 97, 98, 99, 100, 101, 102, 103, 104, 105, 106, 107, 108, 109, 110, 111, 112, 113, 114, 115, 116, 117, 118, 119, 120, 121, 122, 123, 124, 125, 126] (draw ns (b + 3) 94) = some al from q2]
    try walk_at "ev"
    rw [d_draw ns _ _ _ (by omega) (by omega) (by omega)]
    try walk_at "ev"
    rw [hr]
    try walk_at "ev"
    rw [forL_fold (fun i => [some (.arg ns), some (.int b), some (.int z), some (.str SM), some (.str [al]), some (.int r), some (.ref m.length), none, none]) (fun i => m ++ [.lst (((List.range i).map (sg ns b al r)).map fun c => TV.str [c])]) (by rfl) (by rfl) (fun _ => trivial) ?h]
    case h =>
      intro j x hx
      have hj : j < z := by
        have := (List.getElem?_eq_some_iff.mp hx).1
        rw [List.length_map, List.length_range] at this
        exact this
      have e : x = .int j := by
        rw [List.getElem?_map, List.getElem?_range hj] at hx
        cases hx
        rfl
      subst e
      have q3 := SM_at (draw ns (b + 5 + j) 94) (draw_lo _ _ _ (by decide)) (draw_hi _ _ _ (by decide))
      refine ⟨[some (.arg ns), some (.int b), some (.int z), some (.str SM), some (.str [al]), some (.int r), some (.ref m.length), some (.int j), none], [some (.arg ns), some (.int b), some (.int z), some (.str SM), some (.str [al]), some (.int r), some (.ref m.length), some (.int j), some (.str [sg ns b al r j])], rfl, ?_, rfl⟩
      rw [List.range_succ, List.map_append, List.map_append, List.map_cons, List.map_nil, List.map_cons, List.map_nil]
      try walk_at "ev"
      rw [d_draw ns _ _ _ (by omega) (by omega) (by omega)]
      try walk_at "ev"
      rw [q3]
      try walk_at "ev"
      rw [d_draw ns _ _ _ (by omega) (by omega) (by omega)]
      have ll : (((List.range j).map (sg ns b al r)).map fun c => TV.str [c]).length < SL := by
        rw [List.length_map, List.length_map, List.length_range]
        show j < 16777216
        omega
      unfold sg at ll ⊢
      rcases Classical.em (0 < draw ns (b + 7 + 3 * (j : Int)) r) with h' | h'
      · try walk_at "ev"
        rw [r_app ll]
        try walk_at "ev"
        rw [if_pos h']
      · try walk_at "ev"
        rw [r_app ll]
        try walk_at "ev"
        rw [if_neg h']
    try walk_at "ev"
    rw [List.length_map, List.length_range, r_joinR (by rw [List.length_map, List.length_range]; show z ≤ 16777216; omega)]
    try walk_at "ev"
    exact fin_new rfl
/-! ### figures -/
def dec (n : Nat) : Cs := (Nat.toDigits 10 n).map Char.toNat
theorem strI_nat (n : Nat) : strI (n : Int) = dec n := by
  show ((Nat.repr n).toList).map Char.toNat = _
  unfold Nat.repr
  rw [String.toList_ofList]
  rfl
def word (n : Nat) : Cs := List.replicate (4 - (dec n).length) 48 ++ dec n
def num (z : Cs) : Int := z.foldl (fun (t : Int) (c : Nat) => t * 10 + ((c : Int) - 48)) 0
def numN (z : Cs) : Nat := z.foldl (fun (t : Nat) (c : Nat) => t * 10 + (c - 48)) 0
def figOk (n : Nat) : Bool := (word n).length == 4 && (word n).all (fun c => Nat.ble 48 c && Nat.ble c 57) && numN (word n) == n
theorem fig_all : ((List.range 9973).all figOk) = true := by decide +kernel
theorem num_eq : ∀ (z : Cs) (a : Nat), (∀ c ∈ z, 48 ≤ c) → z.foldl (fun (t : Int) (c : Nat) => t * 10 + ((c : Int) - 48)) (a : Int) = ((z.foldl (fun (t : Nat) (c : Nat) => t * 10 + (c - 48)) a : Nat) : Int)
  | [], a, _ => rfl
  | c :: z, a, h => by
    rw [List.foldl_cons, List.foldl_cons, ← num_eq z _ fun d hd => h d (List.mem_cons_of_mem _ hd)]
    congr 1
    have := h c List.mem_cons_self
    omega
theorem fig (n : Nat) (h : n < 9973) : (word n).length = 4 ∧ (∀ c ∈ word n, 48 ≤ c ∧ c ≤ 57) ∧ num (word n) = n := by
  have q := List.all_eq_true.mp fig_all n (List.mem_range.mpr h)
  unfold figOk at q
  simp only [Bool.and_eq_true, beq_iff_eq, List.all_eq_true] at q
  have q2 : ∀ c ∈ word n, 48 ≤ c ∧ c ≤ 57 := fun c hc => ⟨Nat.le_of_ble_eq_true (q.1.2 c hc).1, Nat.le_of_ble_eq_true (q.1.2 c hc).2⟩
  refine ⟨q.1.1, q2, ?_⟩
  exact (num_eq (word n) 0 fun c hc => (q2 c hc).1).trans (congrArg Nat.cast q.2)
theorem d_word (s : Cs) (m : Mem) (n : Nat) (hn : n < 9973) (h : (val s).1 = n) : f1 [.str s] m = .ok (.str (word n)) m := by
  refine Eq.trans (runD_eq ?_) ?_
  · rfl
  unfold b1
  walk_at "ev"
  rw [d_chk, h]
  walk_at "ev"
  obtain ⟨f1, f2, f3⟩ := fig n hn
  have hd : ∀ c ∈ dec n, 48 ≤ c ∧ c ≤ 57 := fun c hc => f2 c (List.mem_append_right _ hc)
  have hl : (dec n).length ≤ 4 := by
    have : (word n).length = (4 - (dec n).length) + (dec n).length := by unfold word; rw [List.length_append, List.length_replicate]
    omega
  have e1 : fStr [.int (n : Int)] m = .ok (.str (dec n)) m := by
    show grd _ _ = _
    rw [grd_pos, strI_nat]
    refine ⟨?_, ?_, ?_⟩
    · rw [Int.natAbs_natCast]
      exact Nat.lt_of_le_of_lt (Nat.log2_le_self n) (by omega) |> fun _ => by
        have := Nat.log2_le_self n
        rcases Nat.lt_or_ge (Nat.log2 n) 1920 with z | z
        · exact z
        · have h2 := Nat.log2_self_le (n := n) (by omega)
          exact absurd (Nat.lt_of_lt_of_le (Nat.lt_of_lt_of_le (Nat.lt_two_pow_self (n := 1920)) (Nat.pow_le_pow_right (by decide) z)) h2) (by
            intro hh
            have h3 : 2 ^ 14 ≤ 2 ^ (Nat.log2 n) := Nat.pow_le_pow_right (by decide) (by omega)
            omega)
    · rw [strI_nat]
      show _ ≤ 16777216
      omega
    · rw [strI_nat]
      intro c hc
      have := hd c hc
      omega
  rw [e1]
  walk_at "ev"
  have e2 : fZfill (.str (dec n)) [.int 4] m = .ok (.str (word n)) m := by
    show grd _ _ = _
    rw [grd_pos]
    · rfl
    · refine ⟨by decide, by decide, ?_, ?_⟩
      · intro z
        have := hd _ (List.mem_of_mem_head? z)
        omega
      · intro z
        have := hd _ (List.mem_of_mem_head? z)
        omega
  rw [e2]
  walk_at "ev"
def DG : Cs := [48, 49, 50, 51, 52, 53, 54, 55, 56, 57]
theorem DG_ix (c : Nat) (h : 48 ≤ c ∧ c ≤ 57) : c ∈ DG ∧ idxT DG c = some (c - 48) := by
  obtain ⟨k, hk, rfl⟩ : ∃ k, k < 10 ∧ c = k + 48 := ⟨c - 48, by omega, by omega⟩
  match k, hk with
  | 0, _ | 1, _ | 2, _ | 3, _ | 4, _ | 5, _ | 6, _ | 7, _ | 8, _ | 9, _ => exact ⟨by decide, by decide⟩
  | k + 10, h => exact absurd h (by omega)
theorem d_figures (n : Nat) (m : Mem) (hn : n < 9973) : f6 [.str (word n), .int n] m = .ok (.bl true) m := by
  obtain ⟨h1, h2, h3⟩ := fig n hn
  generalize word n = z at h1 h2 h3 ⊢
  refine Eq.trans (runD_eq ?_) ?_
  · rfl
  unfold b6
  walk_at "ev"
  rw [forL_fold (fun i => [some (.str z), some (.int n), some (.int (num (z.take i))), none]) (fun _ => m) (by rfl) (by rfl) (fun _ => trivial) ?h]
  case h =>
    intro j x hx
    rw [List.getElem?_map] at hx
    cases e : z[j]? with
    | none => rw [e] at hx; cases hx
    | some c =>
      rw [e] at hx
      cases hx
      obtain ⟨i1, i2⟩ := DG_ix c (h2 c (List.mem_of_getElem? e))
      have hc := (h2 c (List.mem_of_getElem? e)).1
      have ev : num (z.take (j + 1)) = num (z.take j) * 10 + ((c : Int) - 48) := by
        rw [List.take_add_one, e]
        unfold num
        rw [List.foldl_append]
        rfl
      refine ⟨[some (.str z), some (.int n), some (.int (num (z.take j))), some (.str [c])], [some (.str z), some (.int n), some (.int (num (z.take (j + 1)))), some (.str [c])], rfl, ?_, rfl⟩
      rw [ev]
      generalize num (z.take j) = q
      walk_at "ev"
      rw [show decide (c ∈ [48, 49, 50, 51, 52, 53, 54, 55, 56, 57]) = true from decide_eq_true i1]
      walk_at "ev"
      rw [show fSidx (.str [48, 49, 50, 51, 52, 53, 54, 55, 56, 57]) [.str [c]] m = .ok (.int ((c - 48 : Nat) : Int)) m from r_six i2]
      walk_at "ev"
      rw [show (((c - 48 : Nat)) : Int) = (c : Int) - 48 by omega]
  walk_at "ev"
  rw [List.length_map, List.take_length, h3]
  try walk_at "ev"
theorem main (ns : List Int) (hl : ns.length ≤ 63) : ∃ m, f7 [.arg ns] [] = .ok (.bl true) m := by
  obtain ⟨t1, e1⟩ := d_signs ns 10 [] (by decide) (by decide)
  obtain ⟨t2, e2⟩ := d_signs ns 5000 [] (by decide) (by decide)
  refine ⟨[], Eq.trans (runD_eq ?_) ?_⟩
  · rfl
  unfold b7
  walk_at "ev"
  rw [e1]
  walk_at "ev"
  rw [e2]
  walk_at "ev"
  rw [show itT 3 [.int 4] [] = some ((List.range 4).map fun (i : Nat) => .int i) from it_3 (n := 4) (by decide)]
  walk_at "ev"
  rw [forL_id2 trivial ?loop]
  case loop =>
    intro x hx
    obtain ⟨k, hk, rfl⟩ := List.mem_map.mp hx
    have hk := List.mem_range.mp hk
    obtain ⟨t, ht⟩ : ∃ t : Cs, atT [TV.str t1, TV.str t2] ((k : Int) % 2) = some (.str t) := by
      have : (k : Int) % 2 = 0 ∨ (k : Int) % 2 = 1 := by omega
      rcases this with h | h
      · rw [h]; exact ⟨t1, rfl⟩
      · rw [h]; exact ⟨t2, rfl⟩
    have bd := val_bd t (0, 1) (by decide)
    obtain ⟨n, hn⟩ : ∃ n : Nat, (val t).1 = n := ⟨(val t).1.toNat, by have : 0 ≤ (val t).1 := bd.1; omega⟩
    have hb : n < 9973 := by have : (val t).1 < 9973 := bd.2.1; omega
    have hs := sums t
    refine ⟨[some (.arg ns), some (.lst [.str t1, .str t2]), some (.int k), none, none], [some (.arg ns), some (.lst [.str t1, .str t2]), some (.int k), some (.str t), some (.int n)], rfl, ?_, rfl⟩
    walk_at "ev"
    rw [ht]
    walk_at "ev"
    rw [d_sum, ← hs, hn]
    walk_at "ev"
    rw [d_chk, hn]
    walk_at "ev"
    rw [d_whole, beq_self_eq_true]
    walk_at "ev"
    rw [d_word t [] n hb hn]
    walk_at "ev"
    rw [d_figures n [] hb]
    walk_at "ev"
  walk_at "ev"
end K36

open PySem PySem.W PySem.Calls PyProof.Rows
theorem PySem.Challenge.cw_turnleaf_k36_checks_holds : PySem.Challenge.rw_turnleaf_k36_checks.Holds := by
  w_on; o_law
  refine HandSHeadRun.head_any (r := OpenLaw.row PySem.Challenge.rw_turnleaf_k36_checks) (q := view (OpenLaw.row PySem.Challenge.rw_turnleaf_k36_checks).prog [11]) (H := K36.hk) (ob := K36.ob) (M := 100000) (loose := K36.loose) (d := HandSHeadRun.topDef (OpenLaw.row PySem.Challenge.rw_turnleaf_k36_checks).prog 11) (kwd := []) K36.ob_eq
    (by kernel_rfl) (fun s => by kernel_rfl) K36.run (by kernel_rfl) (by kernel_rfl) (by kernel_rfl) (by rfl) (by first | assumption | decide +kernel) (by decide +kernel) ⟨rfl, rfl, rfl, rfl, rfl, by decide +kernel⟩ ?hw ?hc
  case hw => w_witness2
  case hc =>
    refine L2.walk_ofE (l := PySem.Challenge.rw_turnleaf_k36_checks) (n := 63) (k := 8) (x := "_law_script") (CX := L2.CX0) rfl (by decide) (by kernel_rfl) ⟨rfl, by decide, by decide⟩ ?F (fun _ _ _ _ z => z)
    intro w mg fa h Y G hmg0
    obtain ⟨K, KX, c⟩ := Y
    have hmg : mg ("law" : PySem.Str) = some (.ref fa) := by
      have e : (HandSHeadRun.topDef (OpenLaw.row PySem.Challenge.rw_turnleaf_k36_checks).prog 11).name = ("law" : PySem.Str) := by kernel_rfl
      rw [← e]
      exact hmg0
    obtain ⟨g, fd, hK, hb, hF⟩ := K36.facts (P := (PySem.Challenge.rw_turnleaf_k36_checks).prog) (w := w) KX G hmg c
    subst hK
    exact ⟨g.K, fd, fun vs H Q _ => T.spT g 1 K36.f7 vs H Q fun _ _ _ => False, KX, hb, fun H a ns hl hO hS => T.law_sp hO hS (K36.main ns hl), hF⟩

